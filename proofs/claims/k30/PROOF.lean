import PyProof.Rows.All
import Wide.All
import OpenK.AllK
import Wide.FinOn
import HandS.ForMost
import HandS.Conv
import HandS.IsInst
import HandS.Wide
import HandS.TupAny
import HandS.TupLe
import HandS.TupMul
import KE.KExcSuper
import KE.KExcIs
import HandS.Exc
import HandS.ExcInit
import HandS.ExcField
import HandS.ExcIs
import HandS.WordsExc
import KE.GoesEnumKw
import HandS.Iter
import HandS.Strs
import HandS.SetFor
import HandS.List
import KE.LtData
import HandS.Style
import HandS.Codes
import HandS.More
import KE.SortData
import PyProof.Rows.StrFirst
import HandS.Steps
import HandS.Text
import KE.KIntText
import PyProof.SliceStr2
import PyProof.MinMaxWalk
import PyProof.WalkInts
import PyProof.Rows.CallKwBuiltin
import HandS.Dict
import HandS.Walk
import PyProof.StrOps2
import PyProof.FitsStr
import PyProof.StrLawsFirst
import HandS.StrMore
import PySem.Challenge.RW_ringingchamber_k30_normal_words
set_option Elab.async false
set_option linter.all false
set_option maxRecDepth 100000
namespace Kb
open PySem PySem.Spec PyProof.Rows L2
section
variable {X : Cx}
def rAddU (K : PySem.W.Frag) : R2 := fun x y H Q => rI0 (fun i j => .int (i + j)) x y H Q ∨
  ((fun x y H Q => ∃ i j, x = V.str i ∧ y = V.str j ∧ i.length + j.length ≤ sizeLine ∧ Q (V.str (i ++ j)) H) x y H Q ∨ (rCat x y H Q ∨ rCatA K x y H Q))
theorem op_addU : OpR X (binaryOp .Add) (rAddU X.K) := OpR.or op_add (OpR.or op_add_str (OpR.or op_cat op_catA))
def rMulU (K : PySem.W.Frag) : R2 := fun x y H Q => rI CMul (fun i j => .int (i * j)) x y H Q ∨ (rI CMulW (fun i j => .int (i * j)) x y H Q ∨ (rRep x y H Q ∨ rRepT K x y H Q))
theorem op_mulU : OpR X (binaryOp .Mult) (rMulU X.K) := OpR.or op_mul (OpR.or op_mulW (OpR.or op_rep op_repT))
def rFdivU : R2 := rI CDivW (fun i j => .int (i / j))
theorem op_fdivU : OpR X (binaryOp .FloorDiv) rFdivU := op_fdivW
def rModU : R2 := rI (fun _ j => 0 < j) (fun i j => .int (i % j))
theorem op_modU : OpR X (binaryOp .Mod) rModU := op_mod
def rSubU : R2 := rI0 (fun i j => .int (i - j))
theorem op_subU : OpR X (binaryOp .Sub) rSubU := op_sub
def rPowU : R2 := rI CPow (fun i j => .int (i ^ j.toNat))
theorem op_powU : OpR X (binaryOp .Pow) rPowU := op_pow
def rEqU (K : PySem.W.Frag) : R2 := fun x y H Q => rEq x y H Q ∨ rEqD K x y H Q
theorem op_eqU (hu : X.A.units + 64 < cLine) : OpR X (compareOp .Eq) (rEqU X.K) := OpR.or op_eq (op_eqD hu)
def rNeU (K : PySem.W.Frag) : R2 := fun x y H Q => rNe x y H Q ∨ rNeD K x y H Q
theorem op_neU (hu : X.A.units + 64 < cLine) : OpR X (compareOp .NotEq) (rNeU X.K) := OpR.or op_ne (op_neD hu)
def rLtU (K : PySem.W.Frag) : R2 := fun x y H Q => rI0 (fun i j => .bl (decide (i < j))) x y H Q ∨
  ((fun x y H Q => ∃ i j, x = V.str i ∧ y = V.str j ∧ Q (V.bl (decide (i.cps.toList < j.cps.toList))) H) x y H Q ∨ rLtT K x y H Q)
theorem op_ltU (hu : X.A.units + 64 < cLine) : OpR X (compareOp .Lt) (rLtU X.K) := OpR.or op_lt (OpR.or op_lt_str (op_ltT (by omega)))
def rLeU (K : PySem.W.Frag) : R2 := fun x y H Q => rI0 (fun i j => .bl (decide (i ≤ j))) x y H Q ∨
  ((fun x y H Q => ∃ i j, x = V.str i ∧ y = V.str j ∧ Q (V.bl (!decide (j.cps.toList < i.cps.toList))) H) x y H Q ∨ rLeT K x y H Q)
theorem op_leU (hu : X.A.units + 64 < cLine) : OpR X (compareOp .LtE) (rLeU X.K) := OpR.or op_le (OpR.or op_le_str (op_leT (by omega)))
def rGtU : R2 := fun x y H Q => rI0 (fun i j => .bl (decide (j < i))) x y H Q ∨
  (fun x y H Q => ∃ i j, x = V.str i ∧ y = V.str j ∧ Q (V.bl (decide (j.cps.toList < i.cps.toList))) H) x y H Q
theorem op_gtU : OpR X (compareOp .Gt) rGtU := OpR.or op_gt op_gt_str
def rGeU : R2 := fun x y H Q => rI0 (fun i j => .bl (decide (j ≤ i))) x y H Q ∨
  (fun x y H Q => ∃ i j, x = V.str i ∧ y = V.str j ∧ Q (V.bl (!decide (i.cps.toList < j.cps.toList))) H) x y H Q
theorem op_geU : OpR X (compareOp .GtE) rGeU := OpR.or op_ge op_ge_str
def rInU (K : PySem.W.Frag) : R2 := fun x y H Q => rIn K false x y H Q ∨
  (fun x y H Q => ∃ (c : Nat) (z : Str), x = V.str ⟨#[c]⟩ ∧ y = V.str z ∧ Q (V.bl (decide (c ∈ z.cps.toList))) H) x y H Q
theorem op_inU : OpR X (compareOp .In) (rInU X.K) := OpR.or op_in_seq op_in_sign
def rIsNU : R2 := fun x y H Q => y = V.non ∧ Q (V.bl (decide (x = V.non))) H
def rNotNU : R2 := fun x y H Q => y = V.non ∧ Q (V.bl (!decide (x = V.non))) H
def rSlU (K : PySem.W.Frag) : V → Option Int → Option Int → Hp → VK → Prop := fun x lo hi H Q => rSlL K x lo hi H Q ∨ (rSlA K x lo hi H Q ∨ rSlS x lo hi H Q)
theorem sl_U : SlR X (rSlU X.K) := SlR.or sl_list (SlR.or sl_tupA sl_str)
def rLenU (K : PySem.W.Frag) : List V → Hp → VK → Prop := fun xs H Q => (fun xs H Q => ∃ p ys, xs = [V.ref p] ∧ (SqL K H p ys ∨ SqT K H p ys) ∧ Q (V.int ys.length) H) xs H Q ∨
  ((fun xs H Q => ∃ z, xs = [V.str z] ∧ z.length ≤ sizeLine ∧ Q (V.int z.length) H) xs H Q ∨ (fun xs H Q => ∃ a kvs, xs = [V.ref a] ∧ H a = some (.dK kvs) ∧ Q (.int kvs.length) H) xs H Q)
theorem call_lenU : CallR X (.builtin "len") (rLenU X.K) := CallR.or call_len_seq (CallR.or call_len_str call_lenD)
def rIntU : List V → Hp → VK → Prop := fun xs H Q => ∃ i, xs = [V.int i] ∧ Q (V.int i) H
theorem call_intU : CallR X (.type "int") rIntU := fun pins s σ H xs us Q I r h => call_int1 pins s σ H xs us Q I r (.inl h)
def rAbsU : List V → Hp → VK → Prop := fun xs H Q => ∃ i, xs = [V.int i] ∧ Q (V.int (if i < 0 then -i else i)) H
theorem call_absU : CallR X (.builtin "abs") rAbsU := call_abs
def rListU (K : PySem.W.Frag) : List V → Hp → VK → Prop := fun xs H Q => ∃ p ys, xs = [V.ref p] ∧ (SqL K H p ys ∨ SqT K H p ys) ∧ ∀ l, H l = none → Q (V.ref l) (upd H l (.lst ys))
theorem PI.or {tg e : Expr} {w1 w2 : TI} (h1 : PI X tg e w1) (h2 : PI X tg e w2) : PI X tg e (fun σ H R => w1 σ H R ∨ w2 σ H R) := by
  refine ⟨fun pins s σ H R I h => ?_⟩
  rcases h with h | h
  · exact h1.run pins s σ H R I h
  · exact h2.run pins s σ H R I h
def iSeqU (K : PySem.W.Frag) (te : TE) : TI := fun σ H R => iList K te σ H R ∨ (iTup K te σ H R ∨ iStr te σ H R)
theorem pi_seqU {tg e : Expr} {te : TE} (he : PE X e te) : PI X tg e (iSeqU X.K te) := PI.or (pi_list he) (PI.or (pi_tup he) (pi_str he))
def tTru (K : PySem.W.Frag) (ta : TE) : TT := fun σ H Q => ta σ H fun x H' => ∃ k, TruV K x H' k ∧ Q k H'
theorem pt_truU {a : Expr} {ta : TE} (h : PE X a ta) (hq : ∀ whole, isTrue a X.env whole = (do let v ← whole; standAt a.pos; holding [v] (truthy v))) : PT X a (tTru X.K ta) := pt_truth h hq
/-- a tuple that tuple(..) has made: the object is told, it has no dict (a method may be asked of it) -/
def kTupD (K : PySem.W.Frag) (x : V) (H : Hp) (Q : VK) : Prop :=
  (∃ p xs, x = .ref p ∧ SqL K H p xs ∧ ∀ (q : Addr) (o : Obj), H q = none → o.dict = none → Q (.ref q) (upd H q (.frz o (.tup xs)))) ∨ (∃ p xs, x = .ref p ∧ SqT K H p xs ∧ Q (.ref p) H)
theorem rl_tupD (pins : List (Addr × Obj)) (s : Shared) (σ : L2.St) (H : Hp) (x : V) (v : Value) (Q : VK) (I : Inv X pins σ H s) (r : RelV x v) (h : kTupD X.K x H Q) :
    wpAny (model X.prog X.w) X.A (call (.type "tuple") [v]) (EP X pins σ Q) X.xe s := by
  rcases h with ⟨p, xs, rfl, hs, q⟩ | ⟨p, xs, rfl, hs, q⟩
  · obtain rfl : v = .ref p := r
    obtain ⟨its, rv, pl, hz⟩ := I.list hs
    refine call_tuple_list pl.isList (fun h' hk => ?_) (by rw [List.size_toArray, ← rv.length]; exact hz)
    have I1 : Inv X pins σ H { s with heap := h' } := I.kept (t' := s.toks) hk
    have I2 : Inv X pins σ (upd H h'.objs.size (.frz { cls := .type "tuple", data := .seq its.toArray } (.tup xs))) { s with heap := h'.push { cls := .type "tuple", data := .seq its.toArray } } :=
      I1.laid (t' := s.toks) (fun b o e => Heap.get?_push_of_some _ e) (Nat.le_refl _) (show ObjOk X.prog X.w _ _ _ (.frz _ (.tup xs)) from ⟨Heap.get?_push_size _ rfl, hz, its, rv, IsTup.new _ _⟩)
    exact ⟨.ref h'.objs.size, _, I2, rfl, q _ _ (I1.hok.fresh (Nat.le_refl _)) rfl⟩
  · obtain rfl : v = .ref p := r
    obtain ⟨its, rv, pl, hz⟩ := I.tuple hs
    exact call_tuple_tup pl ⟨.ref p, H, I, rfl, q⟩
theorem pe_tupD {a : Expr} {ta : TE} {p pos : Pos} (hg : Gl X "tuple") (hm : X.mg "tuple" = none) (ha : PE X a ta) (na : starEach [a] X.env = (false, eval a X.env) :: starEach [] X.env := by rfl) :
    PE X (.Call (.Name "tuple" p) [a] [] pos) (tThen ta (kTupD X.K)) := by
  refine ⟨fun pins s σ H Q I h => ?_⟩
  exact Call_ (ld_blt I hg hm boot_tuple (PyProof.Rows.callWith_type1 (one_arg ha I h (fun v s2 x H2 I2 r q => rl_tupD pins s2 σ H2 x v Q I2 r q) na) na))
/-- the object at p is told and has no dict -/
def NoD (H : Hp) (p : Addr) : Prop := ∃ (o : Obj) (u : HO), H p = some (.frz o u) ∧ o.dict = none
def tBMT (K : PySem.W.Frag) (r : V → List V → Hp → VK → Prop) (to : TE) (t : TA) : TE := fun σ H Q => to σ H fun x H1 => (∃ p xs, x = .ref p ∧ SqT K H1 p xs ∧ NoD H1 p) ∧ t σ H1 fun xs H2 => r x xs H2 Q
end
end Kb
set_option Elab.async false
set_option linter.all false
set_option maxRecDepth 100000
namespace Kb
open PySem PySem.Spec PyProof.Rows L2
structure Fn (P : Program) (w : World) (K : PySem.W.Frag) (mg : Str → Option Value) (base : Heap) (CX : CXT) (k : Nat) (x : Str) (ps : List Str) (sp : Sp) : Prop where
  ex : ∃ f fd, FnOk P w K mg base CX k f fd ps sp ∧ mg x = some (.ref f) ∧ PySem.W.keepIn K (.ref f) = true ∧ Binds K fd ps []
def At (K : PySem.W.Frag) (mg : Str → Option Value) (x : Str) (st : Stmt) : Prop := ∃ f fd, Fun K x x st f fd ∧ mg x = some (.ref f)
section
variable {X : Cx} {CX : CXT} {k : Nat} {ps : List Str} {sp : Sp} {E : XK} {x : Str} {p pos : Pos} {e : Expr} {es : List Expr} {t : TA}
theorem pe_callF (G : Fn X.prog X.w X.K X.mg X.base CX k x ps sp) (hr : Room k X.A) (hg : Gl X x) (hx : Passes CX X E) (ha : PA X (e :: es) t) (hdb : (x == ("__debug__" : Str)) = false := by decide)
    (he : starEach (e :: es) X.env = (false, eval e X.env) :: starEach es X.env := by rfl) (hpl : (backTo pos (starEach es X.env)).any (·.1) = false := by rfl) : PE X (.Call (.Name x p) (e :: es) [] pos) (tCall sp [] E t) := by
  obtain ⟨f, fd, F, hm, hk, hb⟩ := G.ex
  exact pe_call F hr hg hm hk hb .nil hx ha hdb he hpl
end
/-- all but l is as it was -/
def But (l : Addr) (H H' : Hp) : Prop := ∀ b o, b ≠ l → H b = some o → H' b = some o
section
variable {K : PySem.W.Frag} {H H1 H2 H' : Hp} {a l p : Addr} {o u : HO} {xs ys : List V} {ns : List Int}
theorem same_new (h : H p = none) : Same H (upd H p o) := fun b x e => by rw [upd_ne (ne_of_none e h)]; exact e
theorem but_upd : But l H (upd H l o) := fun b x n e => by rw [upd_ne n]; exact e
theorem But.trans (a : But l H H1) (b : But l H1 H2) : But l H H2 := fun c o n h => b c o n (a c o n h)
theorem But.refl : But l H H := fun _ _ _ h => h
theorem Same.but (s : Same H H') : But l H H' := fun b o _ h => s b o h
theorem rd_same (s : Same H H') (h : Rd H a u) : Rd H' a u := by
  rcases h with h | ⟨o, h⟩
  · exact .inl (s _ _ h)
  · exact .inr ⟨o, s _ _ h⟩
theorem sqT_same (s : Same H H') (h : SqT K H a xs) : SqT K H' a xs := by
  rcases h with h | h
  · exact .inl (rd_same s h)
  · exact .inr h
theorem sqL_same (s : Same H H') (h : SqL K H a xs) : SqL K H' a xs := s.seq h
theorem sqT_but (b : But l H H') (hl : H l = some (.lst ys)) (h : SqT K H a xs) : SqT K H' a xs := by
  rcases h with (h | ⟨o, h⟩) | h
  · exact .inl (.inl (b _ _ (ne_of h hl (by intro z; cases z)) h))
  · exact .inl (.inr ⟨o, b _ _ (ne_of h hl (by intro z; cases z)) h⟩)
  · exact .inr h
theorem sqL_but (b : But l H H') (hne : a ≠ l) (h : SqL K H a xs) : SqL K H' a xs := by
  rcases h with (h | ⟨o, h⟩) | h
  · exact .inl (.inl (b _ _ hne h))
  · exact .inl (.inr ⟨o, b _ _ hne h⟩)
  · exact .inr h
theorem at_same (s : Same H H') (h : H a = some o) : H' a = some o := s _ _ h
theorem at_but (b : But l H H') (hne : a ≠ l) (h : H a = some o) : H' a = some o := b _ _ hne h
theorem sqL_of (h : H a = some (.lst xs)) : SqL K H a xs := .inl (.inl h)
theorem sqT_of (h : H a = some (.tup xs)) : SqT K H a xs := .inl (.inl h)
/-- a but of an object that the first heap doesn't know is a same -/
theorem But.same (b : But l H H') (h : H l = none) : Same H H' := fun c o e => b c o (ne_of_none e h) e
theorem same_but (s : Same H H1) (b : But l H1 H2) (h : H l = none) : Same H H2 := fun c o e => b c o (ne_of_none e h) (s c o e)
end
def PB (x : V) (H : Hp) (QB : Bool → Hp → Prop) : Prop := ∃ k, x = .bl k ∧ QB k H
def PIf (x : V) (A B : Prop) : Prop := ∃ c, x = .bl c ∧ if c = true then A else B
def PTr (K : PySem.W.Frag) (x : V) (H : Hp) (QB : Bool → Hp → Prop) : Prop := ∃ k, TruV K x H k ∧ QB k H
def PNew (z : Prop) (o : HO) (H : Hp) (Q : VK) : Prop := z ∧ ∀ p, H p = none → Q (.ref p) (upd H p o)
def PI2 (x y : V) (QR : Int → Int → Prop) : Prop := ∃ i j, x = .int i ∧ y = .int j ∧ QR i j
def PI1 (x : V) (QR : Int → Prop) : Prop := ∃ i, x = .int i ∧ QR i
def PNot (x : V) (H : Hp) (Q : VK) : Prop := ∃ c, x = .bl c ∧ Q (.bl (!c)) H
section
variable {K : PySem.W.Frag} {D : Ends} {σ : L2.St} {H : Hp} {t u : TS} {te ta tb : TE} {g : TG} {c d : TT} {Q : VK} {QB : Bool → Hp → Prop} {v x y : V} {i j : Nat} {m n : Int} {b : Bool}
theorem r_seq (h : t { D with nx := u D } σ H) : tSeq t u D σ H := h
theorem r_next (h : D.nx σ H) : tNext D σ H := h
theorem r_asg (h : te σ H fun x H1 => g x σ H1 D.nx) : tAsg te g D σ H := h
theorem r_name {N : L2.St → Hp → Prop} (h : N (σ.set i (some v)) H) : gName i v σ H N := h
theorem r_drop (h : te σ H fun _ H1 => D.nx σ H1) : tDrop te D σ H := h
theorem r_ret (h : te σ H D.rt) : tRet te D σ H := h
theorem r_retN (h : D.rt .non H) : tRetN D σ H := h
theorem r_if (h : c σ H fun b H1 => if b = true then t D σ H1 else u D σ H1) : tIfS c t u D σ H := h
theorem r_brk (h : D.bk σ H) : tBreak D σ H := h
theorem r_cont (h : D.ct σ H) : tCont D σ H := h
theorem r_var (h : σ[i]? = some (some v)) (q : Q v H) : tVar i σ H Q := ⟨v, h, q⟩
theorem r_c (q : Q v H) : tC v σ H Q := q
theorem r_op {r : R2} (h : ta σ H fun x H1 => tb σ H1 fun y H2 => r x y H2 Q) : tOp r ta tb σ H Q := h
theorem r_un {r : V → Hp → VK → Prop} (h : ta σ H fun x H1 => r x H1 Q) : tUn r ta σ H Q := h
theorem r_neg (q : Q (.int (-m)) H) : rU (fun i => .int (-i)) (.int m) H Q := ⟨m, rfl, q⟩
theorem r_addI (q : Q (.int (m + n)) H) : rAddU K (.int m) (.int n) H Q := .inl ⟨m, n, rfl, rfl, q⟩
theorem r_addS {z w : Str} (hz : z.length + w.length ≤ sizeLine) (q : Q (.str (z ++ w)) H) : rAddU K (.str z) (.str w) H Q := .inr (.inl ⟨z, w, rfl, rfl, hz, q⟩)
theorem r_subI (q : Q (.int (m - n)) H) : rSubU (.int m) (.int n) H Q := ⟨m, n, rfl, rfl, q⟩
theorem r_mulI (c : CMul m n) (q : Q (.int (m * n)) H) : rMulU K (.int m) (.int n) H Q := .inl ⟨m, n, rfl, rfl, c, q⟩
theorem r_fdiv (h0 : 0 < n) (h1 : n.natAbs.log2 < 9000) (q : Q (.int (m / n)) H) : rFdivU (.int m) (.int n) H Q := ⟨m, n, rfl, rfl, ⟨h0, h1⟩, q⟩
theorem r_mod (h0 : 0 < n) (q : Q (.int (m % n)) H) : rModU (.int m) (.int n) H Q := ⟨m, n, rfl, rfl, h0, q⟩
theorem r_pow (h0 : CPow m n) (q : Q (.int (m ^ n.toNat)) H) : rPowU (.int m) (.int n) H Q := ⟨m, n, rfl, rfl, h0, q⟩
theorem r_eqI (q : Q (.bl (decide (m = n))) H) : rEqU K (.int m) (.int n) H Q := .inl ⟨rfl, by
  have e : decide (V.int m = V.int n) = decide (m = n) := by by_cases h : m = n <;> simp [h]
  rw [e]; exact q⟩
theorem r_neI (q : Q (.bl (!decide (m = n))) H) : rNeU K (.int m) (.int n) H Q := .inl ⟨rfl, by
  have e : decide (V.int m = V.int n) = decide (m = n) := by by_cases h : m = n <;> simp [h]
  rw [e]; exact q⟩
theorem r_ltI (q : Q (.bl (decide (m < n))) H) : rLtU K (.int m) (.int n) H Q := .inl ⟨m, n, rfl, rfl, q⟩
theorem r_leI (q : Q (.bl (decide (m ≤ n))) H) : rLeU K (.int m) (.int n) H Q := .inl ⟨m, n, rfl, rfl, q⟩
theorem r_gtI (q : Q (.bl (decide (n < m))) H) : rGtU (.int m) (.int n) H Q := .inl ⟨m, n, rfl, rfl, q⟩
theorem r_geI (q : Q (.bl (decide (n ≤ m))) H) : rGeU (.int m) (.int n) H Q := .inl ⟨m, n, rfl, rfl, q⟩
theorem r_isN (q : Q (.bl (decide (x = .non))) H) : rIsNU x .non H Q := ⟨rfl, q⟩
theorem r_notN (q : Q (.bl (!decide (x = .non))) H) : rNotNU x .non H Q := ⟨rfl, q⟩
theorem r_test (h : te σ H fun x H' => PB x H' QB) : tTest te σ H QB := h
theorem r_B (h : te σ H fun x H' => PB x H' QB) : tB te σ H QB := h
theorem r_k (q : QB b H) : PB (.bl b) H QB := ⟨b, rfl, q⟩
theorem r_not (h : c σ H fun b H1 => QB (!b) H1) : tNot c σ H QB := h
theorem r_and (h : c σ H fun b H1 => if b = true then d σ H1 QB else QB false H1) : tAnd c d σ H QB := h
theorem r_or (h : c σ H fun b H1 => if b = true then QB true H1 else d σ H1 QB) : tOr c d σ H QB := h
theorem r_andV (h : ta σ H fun x H1 => PIf x (tb σ H1 Q) (Q (.bl false) H1)) : tAndV ta tb σ H Q := h
theorem r_orV (h : ta σ H fun x H1 => PIf x (Q (.bl true) H1) (tb σ H1 Q)) : tOrV ta tb σ H Q := h
theorem r_pif {A B : Prop} (h : if b = true then A else B) : PIf (.bl b) A B := ⟨b, rfl, h⟩
theorem r_notV (h : ta σ H fun x H1 => PNot x H1 Q) : tNotV ta σ H Q := h
theorem r_pnot (q : Q (.bl (!b)) H) : PNot (.bl b) H Q := ⟨b, rfl, q⟩
theorem r_ifE (h : c σ H fun b H1 => if b = true then ta σ H1 Q else tb σ H1 Q) : tIf c ta tb σ H Q := h
theorem r_chain {r r' : R2} {tc : TE} (h : ta σ H fun x H1 => tb σ H1 fun y H2 => r x y H2 fun z H3 => PIf z (tc σ H3 fun w' H4 => r' y w' H4 Q) (Q (.bl false) H3)) : tChain r r' ta tb tc σ H Q := h
theorem r_tru (h : ta σ H fun x H' => PTr K x H' QB) : tTru K ta σ H QB := h
theorem r_truB (q : QB b H) : PTr K (.bl b) H QB := ⟨b, rfl, q⟩
theorem r_truI (q : QB (m != 0) H) : PTr K (.int m) H QB := ⟨_, rfl, q⟩
theorem r_truL {p : Addr} {xs : List V} (h : SqL K H p xs) (q : QB (!xs.isEmpty) H) : PTr K (.ref p) H QB := ⟨_, .inl ⟨xs, h, rfl⟩, q⟩
theorem r_truT {p : Addr} {xs : List V} (h : SqT K H p xs) (q : QB (!xs.isEmpty) H) : PTr K (.ref p) H QB := ⟨_, .inr (.inl ⟨xs, h, rfl⟩), q⟩
theorem r_nil {QA : List V → Hp → Prop} (q : QA [] H) : tNil σ H QA := q
theorem r_cons {tr : TA} {QA : List V → Hp → Prop} (h : ta σ H fun x H1 => tr σ H1 fun xs H2 => QA (x :: xs) H2) : tCons ta tr σ H QA := h
theorem r_CB {r : List V → Hp → VK → Prop} {ts : TA} (h : ts σ H fun vs H1 => r vs H1 Q) : tCB r ts σ H Q := h
theorem r_lenL {p : Addr} {xs : List V} (h : SqL K H p xs) (q : Q (.int (xs.length : Int)) H) : rLenU K [.ref p] H Q := .inl ⟨p, xs, rfl, .inl h, q⟩
theorem r_lenT {p : Addr} {xs : List V} (h : SqT K H p xs) (q : Q (.int (xs.length : Int)) H) : rLenU K [.ref p] H Q := .inl ⟨p, xs, rfl, .inr h, q⟩
theorem r_lenS {z : Str} (h : z.length ≤ sizeLine) (q : Q (.int (z.length : Int)) H) : rLenU K [.str z] H Q := .inr (.inl ⟨z, rfl, h, q⟩)
theorem r_int (q : Q (.int m) H) : rIntU [.int m] H Q := ⟨m, rfl, q⟩
theorem r_abs (q : Q (.int (if m < 0 then -m else m)) H) : rAbsU [.int m] H Q := ⟨m, rfl, q⟩
theorem r_ixL {p : Addr} {xs : List V} (h : SqL K H p xs) (ha : atI xs m = some v) (q : Q v H) : rIx K (.ref p) (.int m) H Q := .inl ⟨p, xs, m, v, rfl, rfl, h, ha, q⟩
theorem r_ixT {p : Addr} {xs : List V} (h : SqT K H p xs) (ha : atI xs m = some v) (q : Q v H) : rIx K (.ref p) (.int m) H Q := .inr (.inl ⟨p, xs, m, v, rfl, rfl, h, ha, q⟩)
theorem r_ixS {z : Str} {c : Nat} (h : z.length ≤ sizeLine) (ha : atI z.cps.toList m = some c) (q : Q (.str ⟨#[c]⟩) H) : rIx K (.str z) (.int m) H Q := .inr (.inr ⟨z, m, c, rfl, rfl, h, ha, q⟩)
theorem r_tup {ts : TA} (h : ts σ H fun xs H1 => PNew (xs.length ≤ sizeLine) (.tup xs) H1 Q) : tTup ts σ H Q := h
theorem r_lst {ts : TA} (h : ts σ H fun xs H1 => PNew (xs.length ≤ sizeLine) (.lst xs) H1 Q) : tLst ts σ H Q := h
theorem r_new {z : Prop} {o : HO} (hz : z) (k : ∀ p H', H p = none → Same H H' → H' p = some o → Q (.ref p) H') : PNew z o H Q := ⟨hz, fun p hp => k p _ hp (same_new hp) upd_same⟩
theorem r_call {sp : Sp} {E : XK} {ts : TA} (h : ts σ H fun vs H1 => sp (vs ++ []) H1 Q E) : tCall sp [] E ts σ H Q := h
theorem r_BM {T : String} {r : V → List V → Hp → VK → Prop} {ts : TA} (h : ta σ H fun x H1 => tyV K T x H1 ∧ ts σ H1 fun xs H2 => r x xs H2 Q) : tBM K T r ta ts σ H Q := h
theorem r_BM0 {T : String} {r : V → List V → Hp → VK → Prop} (h : ta σ H fun x H1 => tyV K T x H1 ∧ r x [] H1 Q) : tBM0 K T r ta σ H Q := h
theorem r_tyL {p : Addr} {xs : List V} {A : Prop} (h : SqL K H p xs) (a : A) : tyV K "list" (.ref p) H ∧ A := ⟨Or.inl ⟨rfl, _, h⟩, a⟩
theorem r_tyS {z : Str} {A : Prop} (a : A) : tyV K "str" (.str z) H ∧ A := ⟨rfl, a⟩
theorem r_append {p : Addr} {xs : List V} (h : H p = some (.lst xs)) (hz : xs.length < sizeLine) (k : ∀ H', But p H H' → H' p = some (.lst (xs ++ [y])) → Q .non H') : rAppend (.ref p) [y] H Q := ⟨p, xs, y, rfl, rfl, h, hz, k _ but_upd upd_same⟩
theorem r_pop {p : Addr} {xs : List V} (h : H p = some (.lst (xs ++ [y]))) (k : ∀ H', But p H H' → H' p = some (.lst xs) → Q y H') : rPop (.ref p) [] H Q := by
  refine ⟨p, xs ++ [y], y, rfl, rfl, h, ?_, ?_⟩
  · simp
  · rw [List.dropLast_concat]; exact k _ but_upd upd_same
theorem r_then {kk : V → Hp → VK → Prop} (h : ta σ H fun x H1 => kk x H1 Q) : tThen ta kk σ H Q := h
theorem r_kTupL {p : Addr} {xs : List V} (h : SqL K H p xs) (k : ∀ q H', H q = none → Same H H' → (∃ o : Obj, H' q = some (.frz o (.tup xs)) ∧ o.dict = none) → Q (.ref q) H') : kTupD K (.ref p) H Q := .inl ⟨p, xs, rfl, h, fun q o hq ho => k q _ hq (same_new hq) ⟨o, upd_same, ho⟩⟩
theorem r_kTupT {p : Addr} {xs : List V} (h : SqT K H p xs) (q : Q (.ref p) H) : kTupD K (.ref p) H Q := .inr ⟨p, xs, rfl, h, q⟩
theorem sqT_ofD {q : Addr} {xs : List V} (h : ∃ o : Obj, H q = some (.frz o (.tup xs)) ∧ o.dict = none) : SqT K H q xs := by
  obtain ⟨o, e, _⟩ := h
  exact .inl (.inr ⟨o, e⟩)
theorem noD_of {q : Addr} {xs : List V} (h : ∃ o : Obj, H q = some (.frz o (.tup xs)) ∧ o.dict = none) : NoD H q := by
  obtain ⟨o, e, d⟩ := h
  exact ⟨o, _, e, d⟩
theorem noD_same {H H' : Hp} {q : Addr} (s : Same H H') (h : NoD H q) : NoD H' q := by
  obtain ⟨o, u, e, d⟩ := h
  exact ⟨o, u, s _ _ e, d⟩
theorem r_listL {p : Addr} {xs : List V} (h : SqL K H p xs) (k : ∀ q H', H q = none → Same H H' → H' q = some (.lst xs) → Q (.ref q) H') : rListU K [.ref p] H Q := ⟨p, xs, rfl, .inl h, fun q hq => k q _ hq (same_new hq) upd_same⟩
theorem r_listT {p : Addr} {xs : List V} (h : SqT K H p xs) (k : ∀ q H', H q = none → Same H H' → H' q = some (.lst xs) → Q (.ref q) H') : rListU K [.ref p] H Q := ⟨p, xs, rfl, .inr h, fun q hq => k q _ hq (same_new hq) upd_same⟩
theorem r_lstRg {tr : L2.St → Hp → (Int → Int → Hp → Prop) → Prop} (h : tr σ H fun a b H1 => PNew (RgOk a b) (.lst (rgV a b)) H1 Q) : tLstRg tr σ H Q := h
theorem r_tupRg {tr : L2.St → Hp → (Int → Int → Hp → Prop) → Prop} (h : tr σ H fun a b H1 => PNew (RgOk a b) (.tup (rgV a b)) H1 Q) : tTupRg tr σ H Q := h
theorem r_rg2 {QR : Int → Int → Hp → Prop} (h : ta σ H fun x H1 => tb σ H1 fun y H2 => PI2 x y fun i j => QR i j H2) : tRg2 ta tb σ H QR := h
theorem r_rg1 {QR : Int → Int → Hp → Prop} (h : ta σ H fun x H1 => PI1 x fun n => QR 0 n H1) : tRg1 ta σ H QR := h
theorem r_ii {QR : Int → Int → Prop} (q : QR m n) : PI2 (.int m) (.int n) QR := ⟨m, n, rfl, rfl, q⟩
theorem r_i {QR : Int → Prop} (q : QR m) : PI1 (.int m) QR := ⟨m, rfl, q⟩
theorem r_gsub {ti : TE} {to : TE} {ts : TSet} {N : L2.St → Hp → Prop} (h : to σ H fun o H1 => ti σ H1 fun i H2 => ts o i v H2 fun H3 => N σ H3) : gSub to ti ts v σ H N := h
theorem r_setL {N : Hp → Prop} {p : Addr} {xs : List V} {k : Nat} (h : H p = some (.lst xs)) (hk : ixN xs.length m = some k) (q : ∀ H', But p H H' → H' p = some (.lst (xs.set k v)) → N H') : rSetL (.ref p) (.int m) v H N := ⟨p, xs, m, k, rfl, rfl, h, hk, q _ but_upd upd_same⟩
theorem r_aug {ti : TIp} (h : σ[i]? = some (some x)) (q : te σ H fun y H1 => ti x y H1 fun z H2 => D.nx (σ.set i (some z)) H2) : tAug i te ti D σ H := ⟨x, h, q⟩
theorem r_ipI {f : Int → Int → Int} (q : Q (.int (f m n)) H) : ipI f (.int m) (.int n) H Q := ⟨m, n, rfl, rfl, q⟩
theorem r_noPart {QO : Option Int → Hp → Prop} (q : QO none H) : tNoPart σ H QO := q
theorem r_part {QO : Option Int → Hp → Prop} (h : te σ H fun x H1 => PI1 x fun i => QO (some i) H1) : tPart te σ H QO := h
theorem r_sl {r : V → Option Int → Option Int → Hp → VK → Prop} {tl th : TO} (h : te σ H fun x H1 => tl σ H1 fun l H2 => th σ H2 fun u H3 => r x l u H3 Q) : tSl r te tl th σ H Q := h
theorem r_ite {c : Prop} [Decidable c] {A B : Prop} (h1 : c → A) (h2 : ¬ c → B) : if decide c = true then A else B := by
  by_cases h : c
  · rw [if_pos (decide_eq_true h)]; exact h1 h
  · rw [if_neg (by simp [h])]; exact h2 h
theorem r_iteN {c : Prop} [Decidable c] {A B : Prop} (h1 : ¬ c → A) (h2 : c → B) : if (!decide c) = true then A else B := by
  by_cases h : c
  · rw [if_neg (by simp [h])]; exact h2 h
  · rw [if_pos (by simp [h])]; exact h1 h
theorem r_iteM {c : Prop} [Decidable c] {A B : Prop} (h : ¬ c) (a : B) : if decide c = true then A else B := by rw [if_neg (by simp [h])]; exact a
theorem r_iteNP {c : Prop} [Decidable c] {A B : Prop} (h : c) (a : B) : if (!decide c) = true then A else B := by rw [if_neg (by simp [h])]; exact a
theorem r_T {A B : Prop} (a : A) : if true = true then A else B := by rw [if_pos rfl]; exact a
theorem r_F {A B : Prop} (a : B) : if false = true then A else B := by rw [if_neg (by decide)]; exact a
theorem r_nT {A B : Prop} (a : B) : if (!true) = true then A else B := r_F a
theorem r_nF {A B : Prop} (a : A) : if (!false) = true then A else B := r_T a
end
end Kb
set_option Elab.async false
set_option linter.all false
set_option maxRecDepth 100000
set_option maxHeartbeats 4000000
namespace Kb
open PySem PySem.Spec PyProof.Rows L2
local macro_rules | `(tactic| walk_at "tk") => `(tactic| first
  | assumption
  | ((with_reducible refine' sqT_of ?k); (case k => assumption))
  | ((with_reducible refine' sqT_ofD ?k); (case k => assumption))
  | ((with_reducible refine' noD_of ?k); (case k => assumption))
  | ((with_reducible refine' noD_same ?s ?k); (case s => assumption); (case k => walk_at "tk"))
  | ((with_reducible refine' sqL_of ?k); (case k => assumption))
  | ((with_reducible refine' sqT_same ?s ?k); (case s => assumption); (case k => walk_at "tk"))
  | ((with_reducible refine' sqL_same ?s ?k); (case s => assumption); (case k => walk_at "tk"))
  | ((with_reducible refine' sqT_but ?s ?t ?k); (case s => assumption); (case t => walk_at "tk"); (case k => walk_at "tk"))
  | ((with_reducible refine' sqL_but ?s ?t ?k); (case s => assumption); (case t => walk_at "ne"); (case k => walk_at "tk"))
  | ((with_reducible refine' sqL_of ?k); (case k => walk_at "tk"))
  | ((with_reducible refine' sqT_of ?k); (case k => walk_at "tk"))
  | ((with_reducible refine' at_same ?s ?k); (case s => assumption); (case k => walk_at "tk"))
  | ((with_reducible refine' at_but ?s ?t ?k); (case s => assumption); (case t => walk_at "ne"); (case k => walk_at "tk")))
local macro_rules | `(tactic| walk_at "ne") => `(tactic| first
  | assumption
  | (refine Ne.symm ?_; assumption)
  | exact ne_of_none (by assumption) (by assumption)
  | exact (ne_of_none (by assumption) (by assumption)).symm)
local macro_rules | `(tactic| walk_at "side") => `(tactic| first
  | assumption
  | omega
  | (simp only [sizeLine_eq, List.length_cons, List.length_nil, List.length_map]; omega)
  | (show _ ≤ sizeLine; decide))
local macro_rules | `(tactic| walk_at "kit") => `(tactic| first
  | (show kitB _ _ = some true; decide +kernel)
  | (show kitB _ _ = some false; decide +kernel))
local macro_rules | `(tactic| walk_at "rng") => `(tactic| first
  | (refine ⟨by omega, by omega, by omega, by omega⟩)
  | (refine ⟨by omega, by omega⟩)
  | ((simp only [List.length_map]); (refine ⟨by omega, by omega, by omega, by omega⟩))
  | ((simp only [List.length_map]); (refine ⟨by omega, by omega⟩)))
local macro_rules | `(tactic| walk_at "rd1") => `(tactic| first
  | with_reducible refine r_seq ?_
  | ((with_reducible refine' r_var ?k0 ?_); (case k0 => rfl))
  | with_reducible refine r_op ?_
  | with_reducible refine r_c ?_
  | with_reducible refine r_asg ?_
  | with_reducible refine r_name ?_
  | with_reducible refine r_cons ?_
  | with_reducible refine r_nil ?_
  | with_reducible refine r_CB ?_
  | with_reducible refine r_if ?_
  | with_reducible refine r_test ?_
  | with_reducible refine r_k ?_
  | with_reducible refine r_T ?_
  | with_reducible refine r_F ?_
  | with_reducible refine r_nT ?_
  | with_reducible refine r_nF ?_
  | with_reducible refine r_ret ?_
  | with_reducible refine r_drop ?_
  | with_reducible refine r_next ?_
  | with_reducible refine r_call ?_
  | with_reducible refine r_addI ?_
  | with_reducible refine r_subI ?_
  | with_reducible refine r_ltI ?_
  | with_reducible refine r_gtI ?_
  | with_reducible refine r_leI ?_
  | with_reducible refine r_geI ?_
  | with_reducible refine r_eqI ?_
  | with_reducible refine r_neI ?_
  | with_reducible refine r_int ?_
  | with_reducible refine r_abs ?_
  | with_reducible refine r_not ?_
  | with_reducible refine r_and ?_
  | with_reducible refine r_or ?_
  | with_reducible refine r_tru ?_
  | with_reducible refine r_truB ?_
  | with_reducible refine r_lst ?_
  | with_reducible refine r_tup ?_
  | with_reducible refine r_BM ?_
  | with_reducible refine r_BM0 ?_
  | with_reducible refine r_tyS ?_
  | with_reducible refine r_gsub ?_
  | with_reducible refine r_then ?_
  | with_reducible refine r_lstRg ?_
  | with_reducible refine r_tupRg ?_
  | with_reducible refine r_rg2 ?_
  | with_reducible refine r_rg1 ?_
  | with_reducible refine r_ii ?_
  | with_reducible refine r_i ?_
  | with_reducible refine r_ipI ?_
  | with_reducible refine r_un ?_
  | with_reducible refine r_neg ?_
  | with_reducible refine r_isN ?_
  | with_reducible refine r_notN ?_
  | with_reducible refine r_notV ?_
  | with_reducible refine r_pnot ?_
  | with_reducible refine r_pif ?_
  | with_reducible refine r_andV ?_
  | with_reducible refine r_orV ?_
  | with_reducible refine r_ifE ?_
  | with_reducible refine r_chain ?_
  | with_reducible refine r_sl ?_
  | with_reducible refine r_noPart ?_
  | with_reducible refine r_part ?_
  | with_reducible refine r_brk ?_
  | with_reducible refine r_cont ?_
  | with_reducible refine r_retN ?_
  | with_reducible refine r_truI ?_
  | with_reducible refine r_B ?_
  | ((with_reducible refine' r_mod ?k0 ?_); (case k0 => walk_at "side"))
  | ((with_reducible refine' r_mulI ?k0 ?_); (case k0 => first | exact Or.inl ⟨by omega, by omega⟩ | exact Or.inr ⟨by omega, by omega⟩))
  | ((with_reducible refine' r_lenL ?k0 ?_); (case k0 => walk_at "tk"))
  | ((with_reducible refine' r_lenT ?k0 ?_); (case k0 => walk_at "tk"))
  | ((with_reducible refine' r_truL ?k0 ?_); (case k0 => walk_at "tk"))
  | ((with_reducible refine' r_truT ?k0 ?_); (case k0 => walk_at "tk"))
  | ((with_reducible refine' r_ixL ?k0 ?k1 ?_); (case k0 => walk_at "tk"); (case k1 => first | assumption | rfl))
  | ((with_reducible refine' r_ixT ?k0 ?k1 ?_); (case k0 => walk_at "tk"); (case k1 => first | assumption | rfl))
  | ((with_reducible refine' r_new ?k0 ?_); (case k0 => walk_at "side"))
  | ((with_reducible refine' r_tyL ?k0 ?_); (case k0 => walk_at "tk"))
  | ((with_reducible refine' r_append ?k0 ?k1 ?_); (case k0 => walk_at "tk"); (case k1 => walk_at "side"))
  | ((with_reducible refine' r_setL ?k0 ?k1 ?_); (case k0 => walk_at "tk"); (case k1 => first | assumption | rfl))
  | ((with_reducible refine' r_kTupL ?k0 ?_); (case k0 => walk_at "tk"))
  | ((with_reducible refine' r_kTupT ?k0 ?_); (case k0 => walk_at "tk"))
  | ((with_reducible refine' r_listL ?k0 ?_); (case k0 => walk_at "tk"))
  | ((with_reducible refine' r_listT ?k0 ?_); (case k0 => walk_at "tk"))
  | ((with_reducible refine' r_aug ?k0 ?_); (case k0 => rfl))
  | ((with_reducible refine' r_lenS ?k0 ?_); (case k0 => walk_at "side"))
  | ((with_reducible refine' r_pop ?k0 ?_); (case k0 => walk_at "tk")))
local macro_rules | `(tactic| walk_at "rd") => `(tactic| ((repeat (walk_at "rd1")); (try dsimp only)))
def sp_law_cell (K : PySem.W.Frag) : Sp := fun vs H Q _ => ∃ (a : Addr) (ns : List Int) (k : Int), vs = [.ref a, .int k] ∧ SqL K H a (ns.map V.int) ∧ ns.length ≤ 63 ∧ 0 ≤ k ∧ ∀ n, Q (.int n) H
def Pl (H : Hp) (p : Addr) : Prop := ∃ x y z, H p = some (.lst [.int x, .int y, .int z])
def sp_law_pool (K : PySem.W.Frag) : Sp := fun vs H Q _ => ∃ (a : Addr) (ns : List Int) (k : Int), vs = [.ref a, .int k] ∧ SqL K H a (ns.map V.int) ∧ ns.length ≤ 63 ∧ 0 ≤ k ∧ ∀ p H', H p = none → Same H H' → Pl H' p → Q (.ref p) H'
def sp_law_draw (K : PySem.W.Frag) : Sp := fun vs H Q _ => ∃ (p : Addr) (m : Int), vs = [.ref p, .int m] ∧ Pl H p ∧ 0 < m ∧ m < 2 ^ 200 ∧ ∀ v H', 0 ≤ v → v < m → But p H H' → Pl H' p → Q (.int v) H'
abbrev N_law_cell : List Str := ["script", "k"]
def t_law_cell (K : PySem.W.Frag) : TS :=
  tSeq (tIfS ((tTest (tOp (rLtU K) (tVar 1) ((tCB (rLenU K) (tCons (tVar 0) tNil)))))) ((tRet ((tCB rAbsU (tCons ((tCB rIntU (tCons ((tOp (rIx K) (tVar 0) (tVar 1))) tNil))) tNil))))) (tNext))
  (tSeq (tIfS ((tTest (tOp (rEqU K) ((tCB (rLenU K) (tCons (tVar 0) tNil))) ((tC (.int 0)))))) ((tRet ((tC (.int 0))))) (tNext))
  ((tRet ((tOp rModU ((tCB rAbsU (tCons ((tCB rIntU (tCons ((tOp (rIx K) (tVar 0) ((tOp rModU ((tCB rIntU (tCons (tVar 1) tNil))) ((tCB (rLenU K) (tCons (tVar 0) tNil))))))) tNil))) tNil))) ((tC (.int 999999999999999989))))))))
abbrev N_law_pool : List Str := ["script", "k", "cell"]
def t_law_pool (K : PySem.W.Frag) : TS :=
  tSeq (tAsg ((tCall (sp_law_cell K) [] E0 (tCons (tVar 0) (tCons (tVar 1) tNil)))) (gName 2))
  (tSeq (tIfS ((tTest (tOp rGeU (tVar 2) ((tOp rPowU ((tC (.int 10))) ((tC (.int 18)))))))) ((tRet ((tLst (tCons ((tOp rSubU (tVar 2) ((tOp rPowU ((tC (.int 10))) ((tC (.int 18))))))) (tCons ((tOp rModU ((tCB rIntU (tCons (tVar 2) tNil))) ((tC (.int 1000003))))) (tCons ((tC (.int 0))) tNil))))))) (tNext))
  ((tRet ((tLst (tCons ((tC (.int 0))) (tCons ((tOp (rAddU K) (tVar 2) ((tOp (rMulU K) ((tC (.int 104729))) ((tOp (rAddU K) (tVar 1) ((tC (.int 1))))))))) (tCons ((tC (.int 0))) tNil))))))))
abbrev N_law_draw : List Str := ["pool", "many", "value", "mixed"]
def t_law_draw (K : PySem.W.Frag) : TS :=
  tSeq (tAsg ((tOp (rAddU K) ((tOp (rIx K) (tVar 0) ((tC (.int 2))))) ((tC (.int 1))))) (gSub (tVar 0) ((tC (.int 2))) rSetL))
  (tSeq (tIfS ((tTest (tOp rGtU ((tOp (rIx K) (tVar 0) ((tC (.int 0))))) ((tC (.int 1)))))) (tSeq (tAsg ((tOp rModU ((tCB rIntU (tCons ((tOp (rIx K) (tVar 0) ((tC (.int 0))))) tNil))) (tVar 1))) (gName 2))
  (tSeq (tAsg ((tOp rFdivU ((tOp (rIx K) (tVar 0) ((tC (.int 0))))) (tVar 1))) (gSub (tVar 0) ((tC (.int 0))) rSetL))
  ((tRet (tVar 2))))) (tNext))
  (tSeq (tAsg ((tOp rModU ((tCB rIntU (tCons ((tOp (rAddU K) ((tOp (rIx K) (tVar 0) ((tC (.int 1))))) ((tOp (rMulU K) ((tC (.int 7919))) ((tOp (rIx K) (tVar 0) ((tC (.int 2))))))))) tNil))) ((tC (.int 1000003))))) (gName 3))
  (tSeq (tAsg ((tOp rModU ((tCB rIntU (tCons ((tOp (rAddU K) ((tOp (rAddU K) ((tOp (rMulU K) (tVar 3) (tVar 3))) ((tOp (rMulU K) ((tC (.int 48271))) ((tOp (rIx K) (tVar 0) ((tC (.int 2))))))))) ((tOp (rIx K) (tVar 0) ((tC (.int 1))))))) tNil))) ((tC (.int 998244353))))) (gName 3))
  (tSeq (tAsg ((tOp rModU ((tCB rIntU (tCons ((tOp (rAddU K) ((tOp (rMulU K) (tVar 3) (tVar 3))) ((tC (.int 69621))))) tNil))) ((tC (.int 2147483647))))) (gName 3))
  ((tRet ((tOp rModU ((tCB rIntU (tCons ((tOp rFdivU (tVar 3) ((tC (.int 7))))) tNil))) (tVar 1)))))))))
theorem len_law_cell {K : PySem.W.Frag} {vs : List V} {H : Hp} {Q : VK} {E : XK} (h : sp_law_cell K vs H Q E) : vs.length = 2 := by
  obtain ⟨a, ns, k, rfl, _⟩ := h; rfl
theorem len_law_pool {K : PySem.W.Frag} {vs : List V} {H : Hp} {Q : VK} {E : XK} (h : sp_law_pool K vs H Q E) : vs.length = 2 := by
  obtain ⟨a, ns, k, rfl, _⟩ := h; rfl
theorem len_law_draw {K : PySem.W.Frag} {vs : List V} {H : Hp} {Q : VK} {E : XK} (h : sp_law_draw K vs H Q E) : vs.length = 2 := by
  obtain ⟨a, m, rfl, _⟩ := h; rfl
abbrev En (Q : VK) : Ends := { nx := fun _ H' => Q .non H', rt := Q }
theorem atI_ints {ns : List Int} {k : Int} (h0 : 0 ≤ k) (h1 : k < (ns.length : Int)) : ∃ n, atI (ns.map V.int) k = some (.int n) ∧ ns[k.toNat]? = some n := by
  have h2 : k.toNat < ns.length := by omega
  refine ⟨ns[k.toNat], ?_, List.getElem?_eq_getElem h2⟩
  have e : ((k.toNat : Nat) : Int) = k := by omega
  have h3 : (ns.map V.int)[k.toNat]? = some (.int ns[k.toNat]) := by rw [List.getElem?_map, List.getElem?_eq_getElem h2]; rfl
  have h4 := atI_nat h3
  rw [e] at h4
  exact h4
theorem pure_law_cell {K : PySem.W.Frag} {vs : List V} {H : Hp} {Q : VK} {E : XK} (h : sp_law_cell K vs H Q E) : t_law_cell K (En Q) (start N_law_cell vs) H := by
  obtain ⟨a, ns, k, rfl, hS, hn, hk, q⟩ := h
  unfold t_law_cell
  walk_at "rd"
  rw [List.length_map]
  refine r_ite (fun hlt => ?_) (fun hge => ?_)
  · obtain ⟨n, e1, _⟩ := atI_ints hk hlt
    walk_at "rd"
    exact q _
  · walk_at "rd"
    rw [List.length_map]
    refine r_ite (fun h0 => ?_) (fun h0 => ?_)
    · walk_at "rd"
      exact q _
    · have hp : (0 : Int) < ((ns.map V.int).length : Int) := by rw [List.length_map]; omega
      walk_at "rd"
      obtain ⟨n, e1, _⟩ := atI_ints (ns := ns) (k := k % ((ns.map V.int).length : Int)) (Int.emod_nonneg _ (by omega)) (by rw [List.length_map] at hp ⊢; exact Int.emod_lt_of_pos _ hp)
      walk_at "rd"
      exact q _
theorem c18 : CPow 10 18 := ⟨by decide, by decide, by decide⟩
theorem pure_law_pool {K : PySem.W.Frag} {vs : List V} {H : Hp} {Q : VK} {E : XK} (h : sp_law_pool K vs H Q E) : t_law_pool K (En Q) (start N_law_pool vs) H := by
  obtain ⟨a, ns, k, rfl, hS, hn, hk, q⟩ := h
  unfold t_law_pool
  walk_at "rd"
  refine ⟨a, ns, k, rfl, hS, hn, hk, fun n => ?_⟩
  walk_at "rd"
  refine r_pow c18 ?_
  walk_at "rd"
  refine r_ite (fun h1 => ?_) (fun h1 => ?_)
  · walk_at "rd"
    refine r_pow c18 ?_
    walk_at "rd"
    intro p H' hp s e
    exact q p H' hp s ⟨_, _, _, e⟩
  · walk_at "rd"
    intro p H' hp s e
    exact q p H' hp s ⟨_, _, _, e⟩
theorem log2_small {m : Int} (h0 : 0 < m) (h1 : m < 2 ^ 200) : m.natAbs.log2 < 9000 := (wide_div (i := 0) h0 (b := 200) (by omega) (by decide) (by decide)).2
theorem pure_law_draw {K : PySem.W.Frag} {vs : List V} {H : Hp} {Q : VK} {E : XK} (h : sp_law_draw K vs H Q E) : t_law_draw K (En Q) (start N_law_draw vs) H := by
  obtain ⟨p, m, rfl, ⟨x, y, z, hp⟩, h0, h1, q⟩ := h
  have hl := log2_small h0 h1
  unfold t_law_draw
  walk_at "rd"
  intro H1 b1 e1
  have e1 : H1 p = some (.lst [.int x, .int y, .int (z + 1)]) := e1
  walk_at "rd"
  refine r_ite (fun hx => ?_) (fun hx => ?_)
  · walk_at "rd"
    refine r_fdiv h0 hl ?_
    walk_at "rd"
    intro H2 b2 e2
    walk_at "rd"
    exact q _ _ (Int.emod_nonneg _ (by omega)) (Int.emod_lt_of_pos _ h0) (b1.trans b2) ⟨_, _, _, e2⟩
  · walk_at "rd"
    refine r_fdiv (by decide) (by decide) ?_
    walk_at "rd"
    exact q _ _ (Int.emod_nonneg _ (by omega)) (Int.emod_lt_of_pos _ h0) b1 ⟨_, _, _, e1⟩
end Kb
set_option Elab.async false
set_option linter.all false
set_option maxRecDepth 100000
set_option maxHeartbeats 4000000
namespace Kb
open PySem PySem.Spec PyProof.Rows L2
section
variable {K : PySem.W.Frag} {D : Ends} {σ : L2.St} {H : Hp} {tb : TS} {te ta : TE} {g : TG} {c : TT} {i j : Nat} {m n l : Int} {R : It → Hp → Prop}
/-- the body of a while, from a state that holds with the measure m -/
def PBody (W : Nat → L2.St → Hp → Prop) (m : Nat) (tb : TS) (D : Ends) (σ : L2.St) (H : Hp) : Prop := ∃ N : L2.St → Hp → Prop, (∀ σ' H', N σ' H' → ∃ m', m' < m ∧ W m' σ' H') ∧ tb { D with nx := N, ct := N, bk := D.nx } σ H
theorem r_while (W : Nat → L2.St → Hp → Prop) (m : Nat) (h0 : W m σ H)
    (hs : ∀ m σ H, W m σ H → c σ H fun b H1 => if b = true then PBody W m tb D σ H1 else D.nx σ H1) : tWhile c tb D σ H := ⟨W, ⟨m, h0⟩, hs⟩
theorem r_body {W : Nat → L2.St → Hp → Prop} {m : Nat} (h : tb { D with nx := fun σ' H' => ∃ m', m' < m ∧ W m' σ' H', ct := fun σ' H' => ∃ m', m' < m ∧ W m' σ' H', bk := D.nx } σ H) : PBody W m tb D σ H := ⟨_, fun _ _ h => h, h⟩
def PFor (J : It) (g : TG) (tb : TS) (D : Ends) (σ : L2.St) (H : Hp) : Prop := ∃ W : Nat → Nat → L2.St → Hp → Prop, (∃ m, W 0 m σ H) ∧ ∀ i m σ H, W i m σ H →
  (J.stop i H ∧ D.nx σ H) ∨ (J.go i H ∧ ∃ N : L2.St → Hp → Prop, (∀ σ' H', N σ' H' → ∃ m', m' < m ∧ W (i + 1) m' σ' H') ∧ ∀ x H', J.yld i H x H' → g x σ H' fun σ2 H2 => tb { D with nx := N, ct := N, bk := D.nx } σ2 H2)
theorem r_for {wi : TI} (h : wi σ H fun J H1 => PFor J g tb D σ H1) : tFor wi g tb D σ H := h
def PR1 (vs : List V) (R : It → Prop) : Prop := ∃ j : Int, vs = [.int j] ∧ -(2 ^ 62) ≤ j ∧ j < 2 ^ 62 ∧ R (Itr 0 j.toNat)
def PR2 (vs : List V) (R : It → Prop) : Prop := ∃ i j : Int, vs = [.int i, .int j] ∧ (-(2 ^ 62) ≤ i ∧ i < 2 ^ 62 ∧ -(2 ^ 62) ≤ j ∧ j < 2 ^ 62) ∧ R (Itr i (j - i).toNat)
def PR3 (vs : List V) (R : It → Prop) : Prop := ∃ (i j c : Int) (n : Nat), vs = [.int i, .int j, .int c] ∧ RgC i j c n ∧ R (Itc i c n)
theorem r_rng1 {ts : TA} (h : ts σ H fun vs H1 => PR1 vs fun J => R J H1) : iRng1 ts σ H R := h
theorem r_rng2 {ts : TA} (h : ts σ H fun vs H1 => PR2 vs fun J => R J H1) : iRng2 ts σ H R := h
theorem r_rng3 {ts : TA} (h : ts σ H fun vs H1 => PR3 vs fun J => R J H1) : iRng3 ts σ H R := h
theorem r_pr1 {R : It → Prop} (h : -(2 ^ 62) ≤ m ∧ m < 2 ^ 62) (q : R (Itr 0 m.toNat)) : PR1 [.int m] R := ⟨m, rfl, h.1, h.2, q⟩
theorem r_pr2 {R : It → Prop} (h : -(2 ^ 62) ≤ l ∧ l < 2 ^ 62 ∧ -(2 ^ 62) ≤ m ∧ m < 2 ^ 62) (q : R (Itr l (m - l).toNat)) : PR2 [.int l, .int m] R := ⟨l, m, rfl, h, q⟩
theorem r_pr3d {R : It → Prop} (h : -(2 ^ 62) ≤ l ∧ l < 2 ^ 62 ∧ -(2 ^ 62) ≤ m ∧ m < 2 ^ 62) (q : R (Itc l (-1) (l - m).toNat)) : PR3 [.int l, .int m, .int (-1)] R := ⟨l, m, -1, _, rfl, RgC.neg h.1 h.2.1 h.2.2.1 h.2.2.2, q⟩
theorem r_forRange {lo : Int} {n : Nat} (Pv : Nat → L2.St → Hp → Prop) (h0 : Pv 0 σ H)
    (hs : ∀ i σ' H', i < n → Pv i σ' H' → tb { D with nx := Pv (i + 1), ct := Pv (i + 1), bk := D.nx } (σ'.set j (some (.int (lo + (i : Int))))) H')
    (hd : ∀ σ' H', Pv n σ' H' → D.nx σ' H') : PFor (Itr lo n) (gName j) tb D σ H := for_range Pv h0 hs hd
theorem r_forRange0 {n : Nat} (Pv : Nat → L2.St → Hp → Prop) (h0 : Pv 0 σ H)
    (hs : ∀ i σ' H', i < n → Pv i σ' H' → tb { D with nx := Pv (i + 1), ct := Pv (i + 1), bk := D.nx } (σ'.set j (some (.int (i : Int)))) H')
    (hd : ∀ σ' H', Pv n σ' H' → D.nx σ' H') : PFor (Itr 0 n) (gName j) tb D σ H := for_range Pv h0 (fun i σ' H' hi p => by
      show tb _ (σ'.set j (some (.int ((0 : Int) + (i : Int))))) H'
      rw [Int.zero_add]
      exact hs i σ' H' hi p) hd
def PSeqT (K : PySem.W.Frag) (x : V) (H : Hp) (R : It → Hp → Prop) : Prop := ∃ a, x = .ref a ∧ (∃ xs, SqT K H a xs) ∧ R (Itt K a) H
def PSeqL (K : PySem.W.Frag) (x : V) (H : Hp) (R : It → Hp → Prop) : Prop := ∃ a, x = .ref a ∧ (∃ xs, SqL K H a xs) ∧ R (Itl K a) H
def PSeqS (x : V) (H : Hp) (R : It → Hp → Prop) : Prop := ∃ z, x = .str z ∧ R (Its z) H
theorem r_seqT (h : te σ H fun x H1 => PSeqT K x H1 R) : iSeqU K te σ H R := .inr (.inl h)
theorem r_seqL (h : te σ H fun x H1 => PSeqL K x H1 R) : iSeqU K te σ H R := .inl h
theorem r_seqS (h : te σ H fun x H1 => PSeqS x H1 R) : iSeqU K te σ H R := .inr (.inr h)
theorem r_pseqT {a : Addr} {xs : List V} (h : SqT K H a xs) (q : R (Itt K a) H) : PSeqT K (.ref a) H R := ⟨a, rfl, ⟨xs, h⟩, q⟩
theorem r_pseqL {a : Addr} {xs : List V} (h : SqL K H a xs) (q : R (Itl K a) H) : PSeqL K (.ref a) H R := ⟨a, rfl, ⟨xs, h⟩, q⟩
theorem r_pseqS {z : Str} (q : R (Its z) H) : PSeqS (.str z) H R := ⟨z, rfl, q⟩
theorem r_forTup {a : Addr} {xs : List V} (Pv : Nat → L2.St → Hp → Prop) (h0 : Pv 0 σ H) (hl : ∀ i σ' H', i ≤ xs.length → Pv i σ' H' → SqT K H' a xs)
    (hs : ∀ i x σ' H', xs[i]? = some x → Pv i σ' H' → g x σ' H' fun σ2 H2 => tb { D with nx := Pv (i + 1), ct := Pv (i + 1), bk := D.nx } σ2 H2)
    (hd : ∀ σ' H', Pv xs.length σ' H' → D.nx σ' H') : PFor (Itt K a) g tb D σ H := for_tup Pv h0 hl hs hd
def PLc (J : It) (g : TG) (tt : TT) (te : TE) (vs : List Nat) (σ : L2.St) (H1 : Hp) (Q : VK) : Prop := ∀ D, H1 D = none → ∃ W : Nat → Nat → Hp → Prop, (∃ m, W 0 m (upd H1 D (.lst []))) ∧ ∀ i m H, W i m H →
  (J.stop i H ∧ Q (.ref D) H) ∨ (J.go i H ∧ ∃ Nx : Hp → Prop, (∀ H', Nx H' → ∃ m', m' < m ∧ W (i + 1) m' H') ∧ ∀ x H', J.yld i H x H' → g x (wipe σ vs) H' fun σ2 H2 => wipe σ2 vs = wipe σ vs ∧ tt σ2 H2 fun b H3 =>
    if b = true then te σ2 H3 fun y H4 => ∃ acc, H4 D = some (.lst acc) ∧ acc.length < sizeLine ∧ Nx (upd H4 D (.lst (acc ++ [y]))) else Nx H3)
theorem r_lc {wi : TI} {tt : TT} {vs : List Nat} {Q : VK} (h : wi σ H fun J H1 => PLc J g tt te vs σ H1 Q) : tLc wi g tt te vs σ H Q := h
theorem r_yes {QB : Bool → Hp → Prop} (q : QB true H) : tYes σ H QB := q
/-- the made item goes into the list at D -/
def PAcc (D : Addr) (Nx : Hp → Prop) (y : V) (H : Hp) : Prop := ∃ acc, H D = some (.lst acc) ∧ acc.length < sizeLine ∧ Nx (upd H D (.lst (acc ++ [y])))
theorem r_acc {D : Addr} {Nx : Hp → Prop} {y : V} {acc : List V} (h : H D = some (.lst acc)) (hz : acc.length ≤ 1000000) (k : ∀ H', But D H H' → H' D = some (.lst (acc ++ [y])) → Nx H') : PAcc D Nx y H :=
  ⟨acc, h, by rw [sizeLine_eq]; omega, k _ but_upd upd_same⟩
theorem r_lcR {lo : Int} {n : Nat} {Q : VK} {tt : TT} {vs : List Nat} (Pv : Addr → Nat → Hp → Prop) (hw : ∀ x, wipe ((wipe σ vs).set j (some x)) vs = wipe σ vs)
    (h0 : ∀ D H', H D = none → Same H H' → H' D = some (.lst []) → Pv D 0 H')
    (hs : ∀ D i H', i < n → Pv D i H' → tt ((wipe σ vs).set j (some (.int (lo + (i : Int))))) H' fun b H3 => if b = true then te ((wipe σ vs).set j (some (.int (lo + (i : Int))))) H3 (fun y H4 => PAcc D (Pv D (i + 1)) y H4) else Pv D (i + 1) H3)
    (hd : ∀ D H', H D = none → Pv D n H' → Q (.ref D) H') : PLc (Itr lo n) (gName j) tt te vs σ H Q := by
  intro D hD
  exact lc_range (Pv D) (h0 D _ hD (same_new hD) upd_same) (fun i H' hi p => ⟨hw _, hs D i H' hi p⟩) (fun H' p => hd D H' hD p)
end
end Kb
set_option Elab.async false
set_option linter.all false
set_option maxRecDepth 100000
set_option maxHeartbeats 4000000
namespace Kb
open PySem PySem.Spec PyProof.Rows L2
inductive Dat where | int (i : Int) | bl (b : Bool) | str (s : Str) | non | tup (ds : List Dat)
mutual
def Dat.size : Dat → Nat
  | .tup ds => 1 + Dat.sizes ds
  | _ => 1
def Dat.sizes : List Dat → Nat
  | [] => 0
  | d :: ds => d.size + Dat.sizes ds
end
mutual
inductive Rp (K : PySem.W.Frag) (H : Hp) : V → Dat → Prop
  | int (i : Int) : Rp K H (.int i) (.int i)
  | bl (b : Bool) : Rp K H (.bl b) (.bl b)
  | str (s : Str) : Rp K H (.str s) (.str s)
  | non : Rp K H .non .non
  | tup {a : Addr} {xs : List V} {ds : List Dat} : SqT K H a xs → RpL K H xs ds → Rp K H (.ref a) (.tup ds)
inductive RpL (K : PySem.W.Frag) (H : Hp) : List V → List Dat → Prop
  | nil : RpL K H [] []
  | cons {v : V} {vs : List V} {d : Dat} {ds : List Dat} : Rp K H v d → RpL K H vs ds → RpL K H (v :: vs) (d :: ds)
end
section
variable {K : PySem.W.Frag} {H H' : Hp} {l : Addr} {ys : List V}
/-- tuples stay -/
def TK (K : PySem.W.Frag) (H H' : Hp) : Prop := ∀ a xs, SqT K H a xs → SqT K H' a xs
theorem tk_same (s : Same H H') : TK K H H' := fun _ _ h => sqT_same s h
theorem tk_but (b : But l H H') (hl : H l = some (.lst ys)) : TK K H H' := fun _ _ h => sqT_but b hl h
mutual
theorem rp_keep (k : TK K H H') : ∀ {v : V} {d : Dat}, Rp K H v d → Rp K H' v d
  | _, _, .int i => .int i
  | _, _, .bl b => .bl b
  | _, _, .str s => .str s
  | _, _, .non => .non
  | _, _, .tup h hr => .tup (k _ _ h) (rpL_keep k hr)
theorem rpL_keep (k : TK K H H') : ∀ {vs : List V} {ds : List Dat}, RpL K H vs ds → RpL K H' vs ds
  | _, _, .nil => .nil
  | _, _, .cons h hr => .cons (rp_keep k h) (rpL_keep k hr)
end
theorem rp_same {v : V} {d : Dat} (s : Same H H') (h : Rp K H v d) : Rp K H' v d := rp_keep (tk_same s) h
theorem rp_but {v : V} {d : Dat} (b : But l H H') (hl : H l = some (.lst ys)) (h : Rp K H v d) : Rp K H' v d := rp_keep (tk_but b hl) h
theorem rpL_length : ∀ {vs : List V} {ds : List Dat}, RpL K H vs ds → vs.length = ds.length
  | _, _, .nil => rfl
  | _, _, .cons _ hr => by simp [rpL_length hr]
theorem rpL_get : ∀ {vs : List V} {ds : List Dat} {i : Nat} {d : Dat}, RpL K H vs ds → ds[i]? = some d → ∃ v, vs[i]? = some v ∧ Rp K H v d
  | _, _, _, _, .nil, e => by simp at e
  | _, _, 0, _, .cons h _, e => by simp at e; subst e; exact ⟨_, rfl, h⟩
  | _, _, i + 1, _, .cons _ hr, e => by
    obtain ⟨v, h1, h2⟩ := rpL_get (i := i) hr (by simpa using e)
    exact ⟨v, by simpa using h1, h2⟩
theorem rpL_ints (ns : List Int) : RpL K H (ns.map V.int) (ns.map Dat.int) := by
  induction ns with
  | nil => exact .nil
  | cons n ns ih => exact .cons (.int n) ih
theorem rp_ints {a : Addr} {ns : List Int} (h : SqT K H a (ns.map V.int)) : Rp K H (.ref a) (.tup (ns.map Dat.int)) := .tup h (rpL_ints ns)
end
section
variable {K : PySem.W.Frag} {H : Hp} {Q : VK}
theorem r_isiT {a : Addr} {xs : List V} {b : Bool} {T : String} (h : SqT K H a xs) (hb : kitB "tuple" T = some b) (q : Q (.bl b) H) : rIsi K [.ref a, .ty T] H Q := by
  refine ⟨.ref a, .ty T, .type "tuple", .type T, b, rfl, .ty T, ?_, kit_ty hb, q⟩
  rcases h with (h | ⟨o, h⟩) | h
  · exact .base (.tup h)
  · exact .fTuple h
  · obtain ⟨o, its, n, h1, h2, _⟩ := h
    exact .kTuple h1 h2
theorem r_isiI {i : Int} {b : Bool} {T : String} (hb : kitB "int" T = some b) (q : Q (.bl b) H) : rIsi K [.int i, .ty T] H Q := ⟨_, _, _, _, b, rfl, .ty T, .base (.int i), kit_ty hb, q⟩
theorem r_isiB {i : Bool} {b : Bool} {T : String} (hb : kitB "bool" T = some b) (q : Q (.bl b) H) : rIsi K [.bl i, .ty T] H Q := ⟨_, _, _, _, b, rfl, .ty T, .base (.bl i), kit_ty hb, q⟩
theorem r_isiS {i : Str} {b : Bool} {T : String} (hb : kitB "str" T = some b) (q : Q (.bl b) H) : rIsi K [.str i, .ty T] H Q := ⟨_, _, _, _, b, rfl, .ty T, .base (.str i), kit_ty hb, q⟩
theorem r_isiN {b : Bool} {T : String} (hb : kitB "NoneType" T = some b) (q : Q (.bl b) H) : rIsi K [.non, .ty T] H Q := ⟨_, _, _, _, b, rfl, .ty T, .base .non, kit_ty hb, q⟩
end
local macro_rules | `(tactic| walk_at "tk") => `(tactic| first
  | assumption
  | ((with_reducible refine' sqT_of ?k); (case k => assumption))
  | ((with_reducible refine' sqT_ofD ?k); (case k => assumption))
  | ((with_reducible refine' noD_of ?k); (case k => assumption))
  | ((with_reducible refine' noD_same ?s ?k); (case s => assumption); (case k => walk_at "tk"))
  | ((with_reducible refine' sqL_of ?k); (case k => assumption))
  | ((with_reducible refine' sqT_same ?s ?k); (case s => assumption); (case k => walk_at "tk"))
  | ((with_reducible refine' sqL_same ?s ?k); (case s => assumption); (case k => walk_at "tk"))
  | ((with_reducible refine' sqT_but ?s ?t ?k); (case s => assumption); (case t => walk_at "tk"); (case k => walk_at "tk"))
  | ((with_reducible refine' sqL_but ?s ?t ?k); (case s => assumption); (case t => walk_at "ne"); (case k => walk_at "tk"))
  | ((with_reducible refine' sqL_of ?k); (case k => walk_at "tk"))
  | ((with_reducible refine' sqT_of ?k); (case k => walk_at "tk"))
  | ((with_reducible refine' at_same ?s ?k); (case s => assumption); (case k => walk_at "tk"))
  | ((with_reducible refine' at_but ?s ?t ?k); (case s => assumption); (case t => walk_at "ne"); (case k => walk_at "tk")))
local macro_rules | `(tactic| walk_at "ne") => `(tactic| first
  | assumption
  | (refine Ne.symm ?_; assumption)
  | exact ne_of_none (by assumption) (by assumption)
  | exact (ne_of_none (by assumption) (by assumption)).symm)
local macro_rules | `(tactic| walk_at "side") => `(tactic| first
  | assumption
  | omega
  | (simp only [sizeLine_eq, List.length_cons, List.length_nil, List.length_map]; omega)
  | (show _ ≤ sizeLine; decide))
local macro_rules | `(tactic| walk_at "kit") => `(tactic| first
  | (show kitB _ _ = some true; decide +kernel)
  | (show kitB _ _ = some false; decide +kernel))
local macro_rules | `(tactic| walk_at "rng") => `(tactic| first
  | (refine ⟨by omega, by omega, by omega, by omega⟩)
  | (refine ⟨by omega, by omega⟩)
  | ((simp only [List.length_map]); (refine ⟨by omega, by omega, by omega, by omega⟩))
  | ((simp only [List.length_map]); (refine ⟨by omega, by omega⟩)))
local macro_rules | `(tactic| walk_at "rd1") => `(tactic| first
  | with_reducible refine r_seq ?_
  | ((with_reducible refine' r_var ?k0 ?_); (case k0 => rfl))
  | with_reducible refine r_op ?_
  | with_reducible refine r_c ?_
  | with_reducible refine r_asg ?_
  | with_reducible refine r_name ?_
  | with_reducible refine r_cons ?_
  | with_reducible refine r_nil ?_
  | with_reducible refine r_CB ?_
  | with_reducible refine r_if ?_
  | with_reducible refine r_test ?_
  | with_reducible refine r_k ?_
  | with_reducible refine r_T ?_
  | with_reducible refine r_F ?_
  | with_reducible refine r_nT ?_
  | with_reducible refine r_nF ?_
  | with_reducible refine r_ret ?_
  | with_reducible refine r_drop ?_
  | with_reducible refine r_next ?_
  | with_reducible refine r_call ?_
  | with_reducible refine r_addI ?_
  | with_reducible refine r_subI ?_
  | with_reducible refine r_ltI ?_
  | with_reducible refine r_gtI ?_
  | with_reducible refine r_leI ?_
  | with_reducible refine r_geI ?_
  | with_reducible refine r_eqI ?_
  | with_reducible refine r_neI ?_
  | with_reducible refine r_int ?_
  | with_reducible refine r_abs ?_
  | with_reducible refine r_not ?_
  | with_reducible refine r_and ?_
  | with_reducible refine r_or ?_
  | with_reducible refine r_tru ?_
  | with_reducible refine r_truB ?_
  | with_reducible refine r_lst ?_
  | with_reducible refine r_tup ?_
  | with_reducible refine r_BM ?_
  | with_reducible refine r_BM0 ?_
  | with_reducible refine r_tyS ?_
  | with_reducible refine r_gsub ?_
  | with_reducible refine r_then ?_
  | with_reducible refine r_lstRg ?_
  | with_reducible refine r_tupRg ?_
  | with_reducible refine r_rg2 ?_
  | with_reducible refine r_rg1 ?_
  | with_reducible refine r_ii ?_
  | with_reducible refine r_i ?_
  | with_reducible refine r_ipI ?_
  | with_reducible refine r_un ?_
  | with_reducible refine r_neg ?_
  | with_reducible refine r_isN ?_
  | with_reducible refine r_notN ?_
  | with_reducible refine r_notV ?_
  | with_reducible refine r_pnot ?_
  | with_reducible refine r_pif ?_
  | with_reducible refine r_andV ?_
  | with_reducible refine r_orV ?_
  | with_reducible refine r_ifE ?_
  | with_reducible refine r_chain ?_
  | with_reducible refine r_sl ?_
  | with_reducible refine r_noPart ?_
  | with_reducible refine r_part ?_
  | with_reducible refine r_brk ?_
  | with_reducible refine r_cont ?_
  | with_reducible refine r_retN ?_
  | with_reducible refine r_truI ?_
  | with_reducible refine r_B ?_
  | with_reducible refine r_for ?_
  | with_reducible refine r_rng1 ?_
  | with_reducible refine r_rng2 ?_
  | with_reducible refine r_rng3 ?_
  | with_reducible refine r_body ?_
  | with_reducible refine r_lc ?_
  | with_reducible refine r_yes ?_
  | ((with_reducible refine' r_mod ?k0 ?_); (case k0 => walk_at "side"))
  | ((with_reducible refine' r_mulI ?k0 ?_); (case k0 => first | exact Or.inl ⟨by omega, by omega⟩ | exact Or.inr ⟨by omega, by omega⟩))
  | ((with_reducible refine' r_lenL ?k0 ?_); (case k0 => walk_at "tk"))
  | ((with_reducible refine' r_lenT ?k0 ?_); (case k0 => walk_at "tk"))
  | ((with_reducible refine' r_truL ?k0 ?_); (case k0 => walk_at "tk"))
  | ((with_reducible refine' r_truT ?k0 ?_); (case k0 => walk_at "tk"))
  | ((with_reducible refine' r_ixL ?k0 ?k1 ?_); (case k0 => walk_at "tk"); (case k1 => first | assumption | rfl))
  | ((with_reducible refine' r_ixT ?k0 ?k1 ?_); (case k0 => walk_at "tk"); (case k1 => first | assumption | rfl))
  | ((with_reducible refine' r_new ?k0 ?_); (case k0 => walk_at "side"))
  | ((with_reducible refine' r_tyL ?k0 ?_); (case k0 => walk_at "tk"))
  | ((with_reducible refine' r_append ?k0 ?k1 ?_); (case k0 => walk_at "tk"); (case k1 => walk_at "side"))
  | ((with_reducible refine' r_setL ?k0 ?k1 ?_); (case k0 => walk_at "tk"); (case k1 => first | assumption | rfl))
  | ((with_reducible refine' r_kTupL ?k0 ?_); (case k0 => walk_at "tk"))
  | ((with_reducible refine' r_kTupT ?k0 ?_); (case k0 => walk_at "tk"))
  | ((with_reducible refine' r_listL ?k0 ?_); (case k0 => walk_at "tk"))
  | ((with_reducible refine' r_listT ?k0 ?_); (case k0 => walk_at "tk"))
  | ((with_reducible refine' r_aug ?k0 ?_); (case k0 => rfl))
  | ((with_reducible refine' r_lenS ?k0 ?_); (case k0 => walk_at "side"))
  | ((with_reducible refine' r_pop ?k0 ?_); (case k0 => walk_at "tk"))
  | ((with_reducible refine' r_pr1 ?k0 ?_); (case k0 => walk_at "rng"))
  | ((with_reducible refine' r_pr2 ?k0 ?_); (case k0 => walk_at "rng"))
  | ((with_reducible refine' r_pr3d ?k0 ?_); (case k0 => walk_at "rng"))
  | ((with_reducible refine' r_isiI ?k0 ?_); (case k0 => walk_at "kit"))
  | ((with_reducible refine' r_isiB ?k0 ?_); (case k0 => walk_at "kit"))
  | ((with_reducible refine' r_isiS ?k0 ?_); (case k0 => walk_at "kit"))
  | ((with_reducible refine' r_isiN ?k0 ?_); (case k0 => walk_at "kit"))
  | ((with_reducible refine' r_isiT ?k0 ?k1 ?_); (case k0 => walk_at "tk"); (case k1 => walk_at "kit"))
  | ((with_reducible refine r_seqT ?_); (repeat (walk_at "rd1")); ((with_reducible refine' r_pseqT ?k0 ?_); (case k0 => walk_at "tk")))
  | ((with_reducible refine r_seqL ?_); (repeat (walk_at "rd1")); ((with_reducible refine' r_pseqL ?k0 ?_); (case k0 => walk_at "tk")))
  | ((with_reducible refine r_seqS ?_); (repeat (walk_at "rd1")); (with_reducible refine r_pseqS ?_)))
local macro_rules | `(tactic| walk_at "rd") => `(tactic| ((repeat (walk_at "rd1")); (try dsimp only)))
def sp_law_same (K : PySem.W.Frag) : Sp := fun vs H Q _ => ∃ (x y : V) (d : Dat), vs = [x, y] ∧ Rp K H x d ∧ Rp K H y d ∧ d.size ≤ 1000000 ∧ ∀ H', Same H H' → Q (.bl true) H'
theorem r_neSame {K : PySem.W.Frag} {x : V} {H : Hp} {Q : VK} (h : scal x x = true) (q : Q (.bl false) H) : rNeU K x x H Q := .inl ⟨h, by rw [decide_eq_true rfl]; exact q⟩
structure Item where
  q : Addr
  x : V
  y : V
  d : Dat
def Items (K : PySem.W.Frag) (H : Hp) (s : Addr) (its : List Item) : Prop := ∀ it ∈ its, it.q ≠ s ∧ H it.q = some (.lst [it.x, it.y]) ∧ Rp K H it.x it.d ∧ Rp K H it.y it.d
theorem Items.same {K : PySem.W.Frag} {H H' : Hp} {s : Addr} {its : List Item} (h : Items K H s its) (e : Same H H') : Items K H' s its := fun it hi =>
  let ⟨a, b, c, d⟩ := h it hi
  ⟨a, e _ _ b, rp_same e c, rp_same e d⟩
theorem Items.but {K : PySem.W.Frag} {H H' : Hp} {s : Addr} {its : List Item} {ys : List V} (h : Items K H s its) (e : But s H H') (hs : H s = some (.lst ys)) : Items K H' s its := fun it hi =>
  let ⟨a, b, c, d⟩ := h it hi
  ⟨a, e _ _ a b, rp_but e hs c, rp_but e hs d⟩
end Kb
set_option maxRecDepth 100000
set_option linter.all false
namespace Kb
def IsRow (r : List Int) (n : Nat) : Prop := r.length = n ∧ r.Nodup ∧ ∀ x ∈ r, 1 ≤ x ∧ x ≤ (n : Int)
def nx (r : List Int) (b : Int) : Int := r.getD (b - 1).toNat 0
end Kb
set_option Elab.async false
set_option linter.all false
set_option maxRecDepth 100000
set_option maxHeartbeats 4000000
namespace Kb
open PySem PySem.Spec PyProof.Rows L2
local macro_rules | `(tactic| walk_at "tk") => `(tactic| first
  | assumption
  | ((with_reducible refine' sqT_of ?k); (case k => assumption))
  | ((with_reducible refine' sqT_ofD ?k); (case k => assumption))
  | ((with_reducible refine' noD_of ?k); (case k => assumption))
  | ((with_reducible refine' noD_same ?s ?k); (case s => assumption); (case k => walk_at "tk"))
  | ((with_reducible refine' sqL_of ?k); (case k => assumption))
  | ((with_reducible refine' sqT_same ?s ?k); (case s => assumption); (case k => walk_at "tk"))
  | ((with_reducible refine' sqL_same ?s ?k); (case s => assumption); (case k => walk_at "tk"))
  | ((with_reducible refine' sqT_but ?s ?t ?k); (case s => assumption); (case t => walk_at "tk"); (case k => walk_at "tk"))
  | ((with_reducible refine' sqL_but ?s ?t ?k); (case s => assumption); (case t => walk_at "ne"); (case k => walk_at "tk"))
  | ((with_reducible refine' sqL_of ?k); (case k => walk_at "tk"))
  | ((with_reducible refine' sqT_of ?k); (case k => walk_at "tk"))
  | ((with_reducible refine' at_same ?s ?k); (case s => assumption); (case k => walk_at "tk"))
  | ((with_reducible refine' at_but ?s ?t ?k); (case s => assumption); (case t => walk_at "ne"); (case k => walk_at "tk")))
local macro_rules | `(tactic| walk_at "ne") => `(tactic| first
  | assumption
  | (refine Ne.symm ?_; assumption)
  | exact ne_of_none (by assumption) (by assumption)
  | exact (ne_of_none (by assumption) (by assumption)).symm)
local macro_rules | `(tactic| walk_at "side") => `(tactic| first
  | assumption
  | omega
  | (simp only [sizeLine_eq, List.length_cons, List.length_nil, List.length_map]; omega)
  | (show _ ≤ sizeLine; decide))
local macro_rules | `(tactic| walk_at "kit") => `(tactic| first
  | (show kitB _ _ = some true; decide +kernel)
  | (show kitB _ _ = some false; decide +kernel))
local macro_rules | `(tactic| walk_at "rng") => `(tactic| first
  | (refine ⟨by omega, by omega, by omega, by omega⟩)
  | (refine ⟨by omega, by omega⟩)
  | ((simp only [List.length_map]); (refine ⟨by omega, by omega, by omega, by omega⟩))
  | ((simp only [List.length_map]); (refine ⟨by omega, by omega⟩)))
local macro_rules | `(tactic| walk_at "rd1") => `(tactic| first
  | with_reducible refine r_seq ?_
  | ((with_reducible refine' r_var ?k0 ?_); (case k0 => rfl))
  | with_reducible refine r_op ?_
  | with_reducible refine r_c ?_
  | with_reducible refine r_asg ?_
  | with_reducible refine r_name ?_
  | with_reducible refine r_cons ?_
  | with_reducible refine r_nil ?_
  | with_reducible refine r_CB ?_
  | with_reducible refine r_if ?_
  | with_reducible refine r_test ?_
  | with_reducible refine r_k ?_
  | with_reducible refine r_T ?_
  | with_reducible refine r_F ?_
  | with_reducible refine r_nT ?_
  | with_reducible refine r_nF ?_
  | with_reducible refine r_ret ?_
  | with_reducible refine r_drop ?_
  | with_reducible refine r_next ?_
  | with_reducible refine r_call ?_
  | with_reducible refine r_addI ?_
  | with_reducible refine r_subI ?_
  | with_reducible refine r_ltI ?_
  | with_reducible refine r_gtI ?_
  | with_reducible refine r_leI ?_
  | with_reducible refine r_geI ?_
  | with_reducible refine r_eqI ?_
  | with_reducible refine r_neI ?_
  | with_reducible refine r_int ?_
  | with_reducible refine r_abs ?_
  | with_reducible refine r_not ?_
  | with_reducible refine r_and ?_
  | with_reducible refine r_or ?_
  | with_reducible refine r_tru ?_
  | with_reducible refine r_truB ?_
  | with_reducible refine r_lst ?_
  | with_reducible refine r_tup ?_
  | with_reducible refine r_BM ?_
  | with_reducible refine r_BM0 ?_
  | with_reducible refine r_tyS ?_
  | with_reducible refine r_gsub ?_
  | with_reducible refine r_then ?_
  | with_reducible refine r_lstRg ?_
  | with_reducible refine r_tupRg ?_
  | with_reducible refine r_rg2 ?_
  | with_reducible refine r_rg1 ?_
  | with_reducible refine r_ii ?_
  | with_reducible refine r_i ?_
  | with_reducible refine r_ipI ?_
  | with_reducible refine r_un ?_
  | with_reducible refine r_neg ?_
  | with_reducible refine r_isN ?_
  | with_reducible refine r_notN ?_
  | with_reducible refine r_notV ?_
  | with_reducible refine r_pnot ?_
  | with_reducible refine r_pif ?_
  | with_reducible refine r_andV ?_
  | with_reducible refine r_orV ?_
  | with_reducible refine r_ifE ?_
  | with_reducible refine r_chain ?_
  | with_reducible refine r_sl ?_
  | with_reducible refine r_noPart ?_
  | with_reducible refine r_part ?_
  | with_reducible refine r_brk ?_
  | with_reducible refine r_cont ?_
  | with_reducible refine r_retN ?_
  | with_reducible refine r_truI ?_
  | with_reducible refine r_B ?_
  | with_reducible refine r_for ?_
  | with_reducible refine r_rng1 ?_
  | with_reducible refine r_rng2 ?_
  | with_reducible refine r_rng3 ?_
  | with_reducible refine r_body ?_
  | with_reducible refine r_lc ?_
  | with_reducible refine r_yes ?_
  | ((with_reducible refine' r_mod ?k0 ?_); (case k0 => walk_at "side"))
  | ((with_reducible refine' r_mulI ?k0 ?_); (case k0 => first | exact Or.inl ⟨by omega, by omega⟩ | exact Or.inr ⟨by omega, by omega⟩))
  | ((with_reducible refine' r_lenL ?k0 ?_); (case k0 => walk_at "tk"))
  | ((with_reducible refine' r_lenT ?k0 ?_); (case k0 => walk_at "tk"))
  | ((with_reducible refine' r_truL ?k0 ?_); (case k0 => walk_at "tk"))
  | ((with_reducible refine' r_truT ?k0 ?_); (case k0 => walk_at "tk"))
  | ((with_reducible refine' r_ixL ?k0 ?k1 ?_); (case k0 => walk_at "tk"); (case k1 => first | assumption | rfl))
  | ((with_reducible refine' r_ixT ?k0 ?k1 ?_); (case k0 => walk_at "tk"); (case k1 => first | assumption | rfl))
  | ((with_reducible refine' r_new ?k0 ?_); (case k0 => walk_at "side"))
  | ((with_reducible refine' r_tyL ?k0 ?_); (case k0 => walk_at "tk"))
  | ((with_reducible refine' r_append ?k0 ?k1 ?_); (case k0 => walk_at "tk"); (case k1 => walk_at "side"))
  | ((with_reducible refine' r_setL ?k0 ?k1 ?_); (case k0 => walk_at "tk"); (case k1 => first | assumption | rfl))
  | ((with_reducible refine' r_kTupL ?k0 ?_); (case k0 => walk_at "tk"))
  | ((with_reducible refine' r_kTupT ?k0 ?_); (case k0 => walk_at "tk"))
  | ((with_reducible refine' r_listL ?k0 ?_); (case k0 => walk_at "tk"))
  | ((with_reducible refine' r_listT ?k0 ?_); (case k0 => walk_at "tk"))
  | ((with_reducible refine' r_aug ?k0 ?_); (case k0 => rfl))
  | ((with_reducible refine' r_lenS ?k0 ?_); (case k0 => walk_at "side"))
  | ((with_reducible refine' r_pop ?k0 ?_); (case k0 => walk_at "tk"))
  | ((with_reducible refine' r_pr1 ?k0 ?_); (case k0 => walk_at "rng"))
  | ((with_reducible refine' r_pr2 ?k0 ?_); (case k0 => walk_at "rng"))
  | ((with_reducible refine' r_pr3d ?k0 ?_); (case k0 => walk_at "rng"))
  | ((with_reducible refine' r_isiI ?k0 ?_); (case k0 => walk_at "kit"))
  | ((with_reducible refine' r_isiB ?k0 ?_); (case k0 => walk_at "kit"))
  | ((with_reducible refine' r_isiS ?k0 ?_); (case k0 => walk_at "kit"))
  | ((with_reducible refine' r_isiN ?k0 ?_); (case k0 => walk_at "kit"))
  | ((with_reducible refine' r_isiT ?k0 ?k1 ?_); (case k0 => walk_at "tk"); (case k1 => walk_at "kit"))
  | ((with_reducible refine r_seqT ?_); (repeat (walk_at "rd1")); ((with_reducible refine' r_pseqT ?k0 ?_); (case k0 => walk_at "tk")))
  | ((with_reducible refine r_seqL ?_); (repeat (walk_at "rd1")); ((with_reducible refine' r_pseqL ?k0 ?_); (case k0 => walk_at "tk")))
  | ((with_reducible refine r_seqS ?_); (repeat (walk_at "rd1")); (with_reducible refine r_pseqS ?_)))
local macro_rules | `(tactic| walk_at "rd") => `(tactic| ((repeat (walk_at "rd1")); (try dsimp only)))
section
variable {K : PySem.W.Frag} {vs : List V} {H : Hp} {Q : VK} {E : XK}
theorem but_via {p l : Addr} {H H1 H2 : Hp} (a : But p H H1) (b : But l H1 H2) (h : H l = none) : But p H H2 := fun c o n e => b c o (ne_of_none e h) (a c o n e)
end
end Kb
set_option Elab.async false
set_option linter.all false
set_option maxRecDepth 100000
set_option maxHeartbeats 4000000
namespace Kb
open PySem PySem.Spec PyProof.Rows L2
/-- what the frame of an __init__ that says super() must say; D: the class that its body stands in -/
structure SupK (X : Cx) (D : Addr) : Prop where
  gs : Gl X "super"
  kc : X.env.kindOf "__class__" = some .free
  ks : X.env.kindOf "self" = some .local
  fn : ∃ (f : Addr) (oc : Value) (od : Option Addr) (fd : FuncData) (osl : Array (Option Value)) (ar : Arg), X.env.func = some f ∧ X.K.lookup f = some ⟨oc, od, .func fd, osl⟩ ∧ (fd.params.posonlyargs ++ fd.params.args).head? = some ar ∧ ar.arg = "self"
  cd : ∃ (cda : Addr) (ccl : Value) (cdd : Option Addr) (vs : Array Value) (ccs : Array (Option Value)) (file : Str) (tf : Tok), X.env.code = .ref cda ∧ X.K.lookup cda = some ⟨ccl, cdd, .fields vs, ccs⟩ ∧ vs[2]? = some (.str file tf) ∧ ((X.prog.main.file : Str) == file) = true
  cl : ∃ (cc : Addr) (cl : Value) (cld : Option Addr) (csl : Array (Option Value)), X.env.cells.lookup ("__class__" : Str) = some cc ∧ X.K.lookup cc = some ⟨cl, cld, .cell (some (.ref D)), csl⟩
  su : X.mg "super" = none
  tp : (X.prog.main.scope.names.lookup ("super" : Str)).isSome = false
  dc : ∃ cdD, PySem.W.clsIn X.K D = some cdD
section
variable {X : Cx} {pins : List (Addr × Obj)} {σ : L2.St} {H : Hp} {s : Shared} {a C D : Addr}
theorem exo_ne (T : OexC X.K C) (I : Inv X pins σ H s) (ea : H a = some (exo a C none)) : a ≠ C := by
  rintro rfl
  obtain ⟨nm, q, N, bs, bm, sn, sub, ab, col, dd, k0, k1, k2, k3, k5, hC, hbm⟩ := T.cls
  obtain ⟨t1, ho⟩ := exo_at I.hok ea
  have e := I.kIn _ _ hC
  rw [ho] at e
  cases e
theorem boot_super : bootBuiltins "super" = some (.type "super") := by first | boot_by_name | rfl | kernel_rfl
/-- a new object that is pinned -/
theorem pin_new {h' : Heap} {t' : Nat} {o : Obj} (I : Inv X pins σ H s) (k : ∀ b u, s.heap.get? b = some u → h'.get? b = some u) (e : h'.get? s.heap.objs.size = some o) (hn : ∀ v, o.data ≠ .cell v) :
    Inv X ((s.heap.objs.size, o) :: pins) σ H { s with heap := h', toks := t' } := by
  have J := I.kept (t' := t') k
  refine J.pins_of fun p hp => ?_
  rcases List.mem_cons.mp hp with rfl | hp
  · exact ⟨e, I.hok.fresh (Nat.le_refl _), Nat.ne_of_gt I.lt, I.nofs (Nat.le_refl _), hn⟩
  · exact J.pin p (List.mem_append_right _ hp)
theorem sup_base {body : List Stmt} {p0 p1 : Pos} {attr : Str} {whole : Sem Value} {Q : Value → Shared → Prop} {E : Value → Shared → Prop} (S : SupK X D) (I : Inv X pins σ H s) (hN : X.N[0]? = some ("self" : Str)) (hs : σ[0]? = some (some (V.ref a)))
    (T : OexC X.K C) (ea : H a = some (exo a C none)) (sub : PySem.W.mroIn X.K C (.ref D) = some true) (hat : (attr == ("__class__" : Str)) = false)
    (h : ∀ so s', Inv X ((so, PySem.W.ks_superObj D a C) :: pins) σ H s' → Q (.ref so) s') :
    _root_.PySem.wpAt (model X.prog X.w) X.A (.func body X.env) (attributeBase (.Call (.Name "super" p0) [] [] p1) attr X.env whole) Q E s := by
  obtain ⟨f, oc, od, fd, osl, ar, hfu, hf, hp, har⟩ := S.fn
  obtain ⟨cda, ccl, cdd, vs, ccs, file, tf, hco, hcode, hvs, hfile⟩ := S.cd
  obtain ⟨cc, cl, cld, csl, hcc, hcell⟩ := S.cl
  obtain ⟨cdD, hD⟩ := S.dc
  have KX := I.kIn
  have hg : X.env.globals = mainGlobals := I.ok.glob
  obtain ⟨m, hn, hlk⟩ := id I.loc
  obtain ⟨u, ru, lu⟩ := hlk 0 "self" (.ref a) hN hs (.inl S.ks)
  obtain rfl : u = Value.ref a := ru
  have hv : m "self" = some (.ref a) := by
    rcases lu with ⟨_, e⟩ | ⟨k, _⟩
    · exact e
    · rw [S.ks] at k
      rcases k with k | k <;> cases k
  obtain ⟨t1, ho⟩ := exo_at I.hok ea
  obtain ⟨oD, hD1, hD2⟩ : ∃ oD, s.heap.get? D = some oD ∧ oD.data = .cls cdD := by
    unfold PySem.W.clsIn at hD
    split at hD
    · rename_i c d cd' sl ho
      cases hD
      exact ⟨_, KX _ _ ho, rfl⟩
    · cases hD
  obtain ⟨hh, g, d, t, os⟩ := s
  refine ks_wpAt_super_base (env := X.env) S.gs S.kc hat hfu (KX _ _ hf) rfl hp hco (KX _ _ hcode) rfl hvs hfile S.tp ?_
  obtain ⟨mb, b1, b2⟩ := I.mod.blt
  refine PySem.W.ks_loadName_global I.ok.kind S.gs (Calls.loadGlobal_builtin (by rw [I.ok.glob]; exact I.mod.glob.keeps I.bk) S.su (by rw [I.ok.blt]; exact b1.keeps I.bk) ((b2 _ (by decide)).trans boot_super) ⟨rfl, ?_⟩)
  refine wpAny_loadName_free I.ok.kind S.kc hcc ⟨_, KX _ _ hcell, rfl⟩ ?_
  rw [har]
  refine wpAny_loadName_local I.ok.kind S.ks hn hv ?_
  refine ks_wpAny_isType_cls hD1 hD2 ⟨rfl, ?_⟩
  refine ks_wpAny_call_super hD1 hD2 ho rfl (fun c e => by cases e) (PySem.W.looks_mroIn KX sub) (fun h' e k => ?_)
  exact h _ _ (pin_new (s := ⟨hh, g, d, t, os⟩) (t' := t) I k e (fun v z => by cases z))
/-- super().__init__(e, ..), the next class ValueError: nothing of it is told -/
def tSupV (K : PySem.W.Frag) (D : Addr) (ta : TA) : TS := fun R σ H => ∃ a C : Addr, σ[0]? = some (some (V.ref a)) ∧ H a = some (exo a C none) ∧ OexC K C ∧ PySem.W.mroIn K C (.ref D) = some true ∧
  PySem.W.nsIn K PySem.cStatics "thirdparty.any" = some none ∧ PySem.W.ks_superIn K C D "__init__" = some (some (.builtin "ValueError.__init__")) ∧ PySem.W.subIn K (.ref C) (.type "ValueError") = some true ∧
  ta σ H fun vs H1 => vs.length ≤ 1000 ∧ H1 a = some (exo a C none) ∧ R.nx σ H1
/-- a statement that is run in its own frame -/
def PSat (X : Cx) (body : List Stmt) (st : Stmt) (t : TS) : Prop := ∀ (pins : List (Addr × Obj)) (s : Shared) (σ : L2.St) (H : Hp) (R : Ends), Inv X pins σ H s → t R σ H →
  _root_.PySem.wpAt (model X.prog X.w) X.A (.func body X.env) (exec st X.env) (SP X pins R) X.xe s
theorem sup_method {Q : Value × List Value → Shared → Prop} {E : Value → Shared → Prop} {A : Around} {pl : Sem Bool} {B i : String} {so : Addr} (KF : PySem.W.KxsFacts B i) (I : Inv X ((so, PySem.W.ks_superObj D a C) :: pins) σ H s) (T : OexC X.K C) (ea : H a = some (exo a C none))
    (opq : PySem.W.nsIn X.K PySem.cStatics "thirdparty.any" = some none) (hm : PySem.W.ks_superIn X.K C D "__init__" = some (some (.builtin i))) (hB : PySem.W.subIn X.K (.ref C) (.type B) = some true)
    (h : ∀ u s', Inv X ((u, PySem.W.kxs_mw i a) :: pins) σ H s' → Q (.ref u, []) s') : wpAny (model X.prog X.w) A (getMethod (.ref so) "__init__" pl) Q E s := by
  have KX := I.kIn
  obtain ⟨hso, _⟩ := I.pin _ (List.mem_append_right _ List.mem_cons_self)
  obtain ⟨t1, ho⟩ := exo_at I.hok ea
  have IA : PySem.W.InstAt s.heap a _ C none := ⟨ho, rfl, rfl, trivial⟩
  have hI : PySem.W.Looks (model X.prog X.w) s.heap (isInstance (.ref a) (.type B)) true := IA.type.andThen (PySem.W.looks_subIn KX hB)
  have hne := exo_ne T I ea
  obtain ⟨hh, g, d, t, os⟩ := s
  cases hc : PySem.W.clsIn X.K C with
  | none => unfold PySem.W.ks_superIn at hm; rw [hc] at hm; cases hm
  | some cd =>
    unfold PySem.W.ks_superIn at hm
    rw [hc] at hm
    refine PySem.W.kxs_getMethod KF hso (PySem.W.looks_opaque KX opq) (l₀ := cd.mro) (fun A Q E s k q => wpAny_bind ((PySem.W.looks_clsIn KX hc) A _ E s k (wpAny_pure q))) rfl KX hm hI hne (by decide) ?_
    have J := pin_new (s := ⟨hh, g, d, t, os⟩) (t' := t + 1) (o := PySem.W.kxs_mw i a) I (fun b o e => Heap.get?_push_of_some _ e) (Heap.get?_push_at rfl rfl) (fun v z => by cases z)
    exact h _ _ (J.pins_of fun p hp => J.pin p (List.mem_append_right _ (by
      rcases List.mem_cons.mp hp with rfl | hp
      · exact List.mem_cons_self
      · exact List.mem_cons_of_mem _ (List.mem_cons_of_mem _ hp))))
theorem sup_wrapper {u : Addr} {us : List Value} {Q : Value → Shared → Prop} {E : Value → Shared → Prop} {A : Around} (I : Inv X ((u, PySem.W.kxs_mw "ValueError.__init__" a) :: pins) σ H s) (T : OexC X.K C) (ea : H a = some (exo a C none)) (hl : us.length ≤ sizeLine)
    (h : ∀ s', Inv X pins σ H s' → Q .none s') : wpAny (model X.prog X.w) A (call (.ref u) us) Q E s := by
  obtain ⟨hu, _⟩ := I.pin _ (List.mem_append_right _ List.mem_cons_self)
  obtain ⟨nm, q, N, bs, bm, sn, sub, ab, col, dd, k0, k1, k2, k3, k5, hC, hbm⟩ := T.cls
  obtain ⟨t1, ho⟩ := exo_at I.hok ea
  obtain ⟨hp, g, d, t, os⟩ := s
  refine wpAny_call (codeAny_of_tree ?_)
  show wpAny _ A.in1 (callAny (.ref u) ⟨us, []⟩) _ _ _
  simp only [callAny]
  refine wpAny_bind (wpAny_load hu ?_)
  simp only [PySem.W.kxs_mw, show (Value.type "method-wrapper" == Value.type "method" || Value.type "method-wrapper" == Value.type "builtin_function_or_method" || Value.type "method-wrapper" == Value.type "method-wrapper") = true by decide, if_true]
  refine PySem.W.KFB.if_so (by decide) ?_
  refine wpAny_bind (PySem.W.check_bound_init F.excBase_ValueError.toExcCallFacts (I.kIn _ _ hC) ho rfl ?_)
  refine wpAny_bind (wpAny_pure (wpAny_pure ?_))
  refine ⟨plainId_quiet F.excBase_ValueError.init.plain _, codeAny_builtin F.excBase_ValueError.initEntry ?_⟩
  refine PySem.W.exc_init_tree (cls := .ref C) (t0 := t1) (dv := none) (c2 := .none) (c3 := .none) (b4 := .bool false) ho hl fun h' k hx _ => ?_
  have I0 : Inv X pins σ H ⟨hp, g, d, t, os⟩ := I.pins_of fun p hp => I.pin p (List.mem_append_right _ (List.mem_cons_of_mem _ hp))
  have J := I0.write (t' := t) (x := a) (e := a) (o := exo a C none) (by rw [ea]; exact True.intro) (.inl rfl) k ⟨_, hx⟩ (exo_ok hx)
  have eu : upd H a (exo a C none) = H := by
    funext b
    by_cases hb : b = a
    · rw [hb, upd_same, ea]
    · rw [upd_ne hb]
  rw [eu] at J
  exact h _ J
end
section
variable {M : Model} {A : Around} {E : Value → Shared → Prop} {s : Shared} {u x g : Addr} {i : String} {pos : Pos} {env : Env} {e : Expr} {rest : List Expr} {Q : Value → Shared → Prop} {K : PySem.W.Frag}
theorem cw_wrap (h : wpAny M A (spliced (backTo pos (starEach (e :: rest) env))) (fun vs s₁ => PySem.W.KxsAt i u x s₁.heap ∧ wpAny M A (call (.ref u) vs) Q E s₁) E s)
    (he : starEach (e :: rest) env = (false, eval e env) :: starEach rest env) (hplain : (backTo pos (starEach rest env)).any (·.1) = false) :
    wpAny M A (callWith pos (.ref u) [] (backTo pos (starEach (e :: rest) env)) []) Q E s := by
  rw [he] at h ⊢
  refine PySem.W.kxs_callWith (i := i) (x := x) (by show (false || (backTo pos (starEach rest env)).any (·.1)) = false; rw [hplain]; rfl) ?_
  exact PySem.Calls.evalArgs_plain h
theorem cw_meth {self : Value} (hf : PySem.W.fnIn K g = true) (h : wpAny M A (spliced (backTo pos (starEach (e :: rest) env))) (fun vs s₁ => PySem.W.MethP K u g self s₁.heap ∧ wpAny M A (call (.ref u) vs) Q E s₁) E s)
    (he : starEach (e :: rest) env = (false, eval e env) :: starEach rest env) (hplain : (backTo pos (starEach rest env)).any (·.1) = false) :
    wpAny M A (callWith pos (.ref u) [] (backTo pos (starEach (e :: rest) env)) []) Q E s := by
  rw [he] at h ⊢
  exact PySem.W.callWith_of (by show ((false || (backTo pos (starEach rest env)).any (·.1)) || false) = false; rw [hplain]; rfl) (PySem.W.keeps_M hf) (PySem.Calls.evalArgs_plain h)
end
section
variable {X : Cx} {D : Addr} {body : List Stmt} {e : Expr} {es : List Expr} {ta : TA} {p0 p1 p2 p3 p4 : Pos}
abbrev supStmt (e : Expr) (es : List Expr) (p0 p1 p2 p3 p4 : Pos) : Stmt := .Expr (.Call (.Attribute (.Call (.Name "super" p0) [] [] p1) "__init__" p2) (e :: es) [] p3) p4
theorem pst_supV {pl : Sem Bool} (S : SupK X D) (hN : X.N[0]? = some ("self" : Str)) (ha : PA X (e :: es) ta)
    (hc : eval (.Call (.Attribute (.Call (.Name "super" p0) [] [] p1) "__init__" p2) (e :: es) [] p3) X.env = (do
      let ov ← attributeBase (.Call (.Name "super" p0) [] [] p1) "__init__" X.env (eval (.Call (.Name "super" p0) [] [] p1) X.env)
      standAt p2.atName
      let (f, first) ← holding [ov] (getMethod ov "__init__" pl)
      callWith p3 f first (backTo p3 (starEach (e :: es) X.env)) []) := by rfl) (hsw : swapsWith (.Call (.Attribute (.Call (.Name "super" p0) [] [] p1) "__init__" p2) (e :: es) [] p3) none p4.line X.env = pure false := by rfl)
    (he : starEach (e :: es) X.env = (false, eval e X.env) :: starEach es X.env := by rfl) (hpl : (backTo p3 (starEach es X.env)).any (·.1) = false := by rfl) :
    PSat X body (supStmt e es p0 p1 p2 p3 p4) (tSupV X.K D ta) := by
  intro pins s σ H R I h
  obtain ⟨a, C, hs, ea, T, sub, opq, hm, hB, h⟩ := h
  refine ks_wpAt_Expr_any (ks_wpAt_MethodCall (pl := pl) ?_ hc) I.quiet hsw
  · refine sup_base S I hN hs T ea sub (by decide) fun so s1 I1 => ?_
    refine sup_method PySem.W.kxs_ValueError I1 T ea opq hm hB fun u s2 I2 => ?_
    show wpAny _ _ (callWith p3 (.ref u) [] (backTo p3 (starEach (e :: es) X.env)) []) _ _ _
    refine cw_wrap (i := "ValueError.__init__") (x := a) (thn (ha.run p3 _ s2 σ H _ I2 h) fun us s3 ⟨vs, H1, I3, r1, hl, ea1, q⟩ => ⟨?_, ?_⟩) he hpl
    · exact (I3.pin _ (List.mem_append_right _ List.mem_cons_self)).1
    · refine sup_wrapper I3 T ea1 ?_ fun s4 I4 => ⟨σ, H1, I4, q⟩
      rw [← Paired.length r1, sizeLine_eq]
      omega
/-- super().__init__(e, ..), the next class's own __init__ keeping sp -/
def tSupF (K : PySem.W.Frag) (D f2 : Addr) (sp : Sp) (ta : TA) : TS := fun R σ H => ∃ a C : Addr, σ[0]? = some (some (V.ref a)) ∧ H a = some (exo a C none) ∧ OexC K C ∧ PySem.W.mroIn K C (.ref D) = some true ∧
  PySem.W.nsIn K PySem.cStatics "thirdparty.any" = some none ∧ PySem.W.ks_superIn K C D "__init__" = some (some (.ref f2)) ∧
  ta σ H fun vs H1 => sp (.ref a :: vs) H1 (fun _ H2 => R.nx σ H2) (fun _ _ _ => False)
theorem sup_methodF {pins : List (Addr × Obj)} {σ : L2.St} {H : Hp} {s : Shared} {a C f2 so : Addr} {Q : Value × List Value → Shared → Prop} {E : Value → Shared → Prop} {A : Around} {pl : Sem Bool} (I : Inv X ((so, PySem.W.ks_superObj D a C) :: pins) σ H s) (T : OexC X.K C) (ea : H a = some (exo a C none))
    (opq : PySem.W.nsIn X.K PySem.cStatics "thirdparty.any" = some none) (hm : PySem.W.ks_superIn X.K C D "__init__" = some (some (.ref f2))) (ht : PySem.W.typeIn X.K (.ref f2) = some (.type "function"))
    (h : ∀ u s', Inv X ((u, PySem.W.methodObj (.ref f2) (.ref a)) :: pins) σ H s' → Q (.ref u, []) s') : wpAny (model X.prog X.w) A (getMethod (.ref so) "__init__" pl) Q E s := by
  have KX := I.kIn
  obtain ⟨hso, _⟩ := I.pin _ (List.mem_append_right _ List.mem_cons_self)
  have hne := exo_ne T I ea
  obtain ⟨hh, g, d, t, os⟩ := s
  cases hc : PySem.W.clsIn X.K C with
  | none => unfold PySem.W.ks_superIn at hm; rw [hc] at hm; cases hm
  | some cd =>
    unfold PySem.W.ks_superIn at hm
    rw [hc] at hm
    obtain ⟨of, hof, hofc⟩ : ∃ of, hh.get? f2 = some of ∧ of.cls = .type "function" := by
      have ht' : (X.K.lookup f2).map (·.cls) = some (.type "function") := ht
      cases z : X.K.lookup f2 with
      | none => rw [z] at ht'; cases ht'
      | some of => rw [z] at ht'; exact ⟨of, KX _ _ z, Option.some.inj ht'⟩
    refine ks_wpAny_getMethod_super hso (PySem.W.looks_opaque KX opq) (l₀ := cd.mro) (fun A Q E s k q => wpAny_bind ((PySem.W.looks_clsIn KX hc) A _ E s k (wpAny_pure q))) rfl KX hm hof hofc hne (by decide) ?_
    have J := pin_new (s := ⟨hh, g, d, t, os⟩) (t' := t + 1) (o := PySem.W.methodObj (.ref f2) (.ref a)) I (fun b o e => Heap.get?_push_of_some _ e) (Heap.get?_push_at rfl rfl) (fun v z => by cases z)
    exact h _ _ (J.pins_of fun p hp => J.pin p (List.mem_append_right _ (by
      rcases List.mem_cons.mp hp with rfl | hp
      · exact List.mem_cons_self
      · exact List.mem_cons_of_mem _ (List.mem_cons_of_mem _ hp))))
theorem pst_supF {pl : Sem Bool} {CX : CXT} {k : Nat} {f2 : Addr} {fd : FuncData} {ps : List Str} {sp : Sp} (S : SupK X D) (hN : X.N[0]? = some ("self" : Str)) (F1 : FnOk X.prog X.w X.K X.mg X.base CX k f2 fd ps sp) (hr : Room k X.A) (hb : Binds X.K fd ps [])
    (hx : Passes CX X (fun _ _ _ => False)) (ht : PySem.W.typeIn X.K (.ref f2) = some (.type "function")) (hf : PySem.W.fnIn X.K f2 = true) (ha : PA X (e :: es) ta)
    (hc : eval (.Call (.Attribute (.Call (.Name "super" p0) [] [] p1) "__init__" p2) (e :: es) [] p3) X.env = (do
      let ov ← attributeBase (.Call (.Name "super" p0) [] [] p1) "__init__" X.env (eval (.Call (.Name "super" p0) [] [] p1) X.env)
      standAt p2.atName
      let (f, first) ← holding [ov] (getMethod ov "__init__" pl)
      callWith p3 f first (backTo p3 (starEach (e :: es) X.env)) []) := by rfl) (hsw : swapsWith (.Call (.Attribute (.Call (.Name "super" p0) [] [] p1) "__init__" p2) (e :: es) [] p3) none p4.line X.env = pure false := by rfl)
    (he : starEach (e :: es) X.env = (false, eval e X.env) :: starEach es X.env := by rfl) (hpl : (backTo p3 (starEach es X.env)).any (·.1) = false := by rfl) :
    PSat X body (supStmt e es p0 p1 p2 p3 p4) (tSupF X.K D f2 sp ta) := by
  intro pins s σ H R I h
  obtain ⟨a, C, hs, ea, T, sub, opq, hm, h⟩ := h
  refine ks_wpAt_Expr_any (ks_wpAt_MethodCall (pl := pl) ?_ hc) I.quiet hsw
  · refine sup_base S I hN hs T ea sub (by decide) fun so s1 I1 => ?_
    refine sup_methodF I1 T ea opq hm ht fun u s2 I2 => ?_
    show wpAny _ _ (callWith p3 (.ref u) [] (backTo p3 (starEach (e :: es) X.env)) []) _ _ _
    refine cw_meth (g := f2) (self := .ref a) hf (thn (ha.run p3 _ s2 σ H _ I2 h) fun us s3 ⟨vs, H1, I3, r1, q⟩ => ⟨⟨?_, I3.kIn⟩, ?_⟩) he hpl
    · exact (I3.pin _ (List.mem_append_right _ List.mem_cons_self)).1
    · have hu := (I3.pin _ (List.mem_append_right _ List.mem_cons_self)).1
      have I4 : Inv X pins σ H1 s3 := I3.pins_of fun p hp => I3.pin p (List.mem_append_right _ (List.mem_cons_of_mem _ hp))
      have r2 : Vals (V.ref a :: vs) (Value.ref a :: us) := .cons rfl r1
      have hl : (Value.ref a :: us).length = ps.length := by
        rw [← r2.length]
        exact F1.len _ _ _ _ q
      refine wpAny_call (ks_codeAny_call_bound hu (codeAny_mono (F1.run _ X.stack _ _ ⟨Value.ref a :: us, []⟩ (Value.ref a :: us) _ _ (fun _ _ _ => False) hr I4.env0 (by have z := hb s3 (Value.ref a :: us) I4.kIn (by simpa using hl); rw [List.append_nil] at z; exact z) r2 q) fun r s' hq' => ?_))
      cases r with
      | error er => exact hx pins σ _ _ er s' I4 hq'
      | ok fl =>
        cases fl with
        | ret u2 =>
          obtain ⟨v, H', I5, rv, q5⟩ := I4.after hq'
          exact ⟨σ, H', I5, q5⟩
        | next => exact False.elim hq'
        | brk => exact False.elim hq'
        | cont => exact False.elim hq'
end
end Kb
set_option Elab.async false
set_option linter.all false
set_option maxRecDepth 100000
set_option maxHeartbeats 4000000
namespace Kb
open PySem PySem.Spec PyProof.Rows L2
theorem lookup_nodup {y : Str} {u : Value} : ∀ {l : List (Str × Value)}, (l.map (·.1)).Nodup → (y, u) ∈ l → l.lookup y = some u
  | [], _, h => by cases h
  | (z, w) :: r, nd, h => by
    rw [List.map_cons, List.nodup_cons] at nd
    rcases List.mem_cons.mp h with h | h
    · obtain ⟨rfl, rfl⟩ := Prod.mk.inj h
      simp [List.lookup]
    · have ne : (y == z) = false := by
        refine beq_eq_false_iff_ne.mpr fun e => nd.1 ?_
        rw [← e]
        exact List.mem_map.mpr ⟨(y, u), h, rfl⟩
      rw [List.lookup, ne]
      exact lookup_nodup nd.2 h
/-- the scope of an __init__ that says super() -/
structure SupScope (N P : List Str) (sc : Scope) : Prop where
  kind : sc.kind = .function
  co : sc.isCoroutine = false
  gen : sc.isGenerator = false
  nd : N.Nodup
  pre : N.take P.length = P
  par : ∀ x ∈ P, sc.names.lookup x = some .local
  nocell : ∀ y ∈ sc.names, y.2 ≠ .cell
  free : ∀ y ∈ sc.names, y.2 = .free → y.1 = "__class__"
/-- the context of its body -/
def cxS (P : Program) (w : World) (K : PySem.W.Frag) (mg : Str → Option Value) (base : Heap) (N : List Str) (qual : Str) (scope : Scope) (f : Addr) (cd : Value) (cc : Addr) (A : Around) (outer : List Env) (s : Shared) (H : Hp) : Cx where
  prog := P
  w := w
  K := K
  mg := mg
  base := base
  A := A.deeper (PySem.W.ksEnv qual scope s.heap.objs.size f cd cc)
  N := N
  s_0 := s
  H_0 := H
  env := PySem.W.ksEnv qual scope s.heap.objs.size f cd cc
  outer := outer
  stack := PySem.W.ksEnv qual scope s.heap.objs.size f cd cc :: outer
  ex := []
  calm := true
  fn := fun _ => false
  pn := []
  xe := fun _ _ => False
theorem inv_startS {P : Program} {w : World} {K : PySem.W.Frag} {mg : Str → Option Value} {base : Heap} {N ps : List Str} {qual : Str} {scope : Scope} {f : Addr} {cd : Value} {cc : Addr} {A : Around} {outer : List Env} {s : Shared} {H : Hp} {us : List Value} {vs : List V} {h₁ : Heap} {t' : Nat} {cl : Value} {cld : Option Addr} {v0 : Option Value} {csl : Array (Option Value)}
    (S : SupScope N ps scope) (hd : A.handled = none) (e0 : Env0 P w K mg base A outer s H) (hl : vs.length = ps.length) (r : Vals vs us) (hcell : K.lookup cc = some ⟨cl, cld, .cell v0, csl⟩)
    (hn : h₁.Ns s.heap.objs.size (fun x => (ps.zip us).reverse.lookup x)) (k : ∀ b o, s.heap.get? b = some o → h₁.get? b = some o) :
    Inv (cxS P w K mg base N qual scope f cd cc A outer s H) [] (start N vs) H { s with heap := h₁, toks := t' } := by
  have hpl : ps.length ≤ N.length := by have := congrArg List.length S.pre; rw [List.length_take] at this; omega
  have noA : ∀ b : Addr, b ∉ (cxS P w K mg base N qual scope f cd cc A outer s H).ex := fun b z => absurd (show b ∈ ([] : List Addr) from z) (by simp)
  have hb := e0.bs cc _ (e0.mod.kin _ _ hcell)
  have cell1 : ∀ y c, (cxS P w K mg base N qual scope f cd cc A outer s H).env.cells.lookup y = some c → y = ("__class__" : Str) ∧ c = cc := fun y c h => by
    have h : List.lookup y [(("__class__" : Str), cc)] = some c := h
    rw [List.lookup] at h
    split at h
    · rename_i z
      exact ⟨beq_iff_eq.mp z, (Option.some.inj h).symm⟩
    · cases h
  refine ⟨⟨e0.mod, S.kind, rfl, rfl, Nat.le_refl _, fun y z c h1 h2 => (cell1 y c h1).1.trans (cell1 z c h2).1.symm, fun y hy => ?_, fun y c z h => Bool.noConfusion z, fun _ => hd, Around.frames_deeper e0.frames, .inr ⟨rfl, rfl⟩, fun b z => absurd z (noA b), e0.bs, e0.bsz, fun b _ _ => noA b, fun b z => absurd z (noA b), e0.funs, e0.frf⟩,
    rfl, e0.bare, Un.kept k, ⟨_, hn, fun i y v h1 h2 h3 => ?_⟩, fun y c h => ⟨v0, ⟨cl, cld, .cell v0, csl⟩, k _ _ (by obtain ⟨_, e⟩ := cell1 y c h; subst e; exact hb.1), rfl⟩, e0.hok.fresh (Nat.le_refl _), fun y c h => by obtain ⟨_, e⟩ := cell1 y c h; subst e; exact hb.2, fun p hp => absurd (show p ∈ ([] : List (Addr × Obj)) from hp) (by simp), e0.hok.kept k, ?_⟩
  · have hy : scope.names.lookup y = some .cell ∨ scope.names.lookup y = some .free := hy
    rcases hy with hy | hy
    · exact absurd rfl (S.nocell _ (PySem.mem_of_lookup hy))
    · have e : y = ("__class__" : Str) := S.free _ (PySem.mem_of_lookup hy) rfl
      subst e
      exact ⟨cc, by show List.lookup ("__class__" : Str) [(("__class__" : Str), cc)] = some cc; simp [List.lookup]⟩
  · have hi : i < vs.length := by
      unfold L2.start at h2
      by_cases hi : i < vs.length
      · exact hi
      · rw [List.getElem?_append_right (by simpa using hi)] at h2
        rw [List.getElem?_replicate] at h2
        split at h2 <;> cases h2
    have ha : vs[i]? = some v := by
      unfold L2.start at h2
      rw [List.getElem?_append_left (by simpa using hi), List.getElem?_map] at h2
      cases e : vs[i]? with
      | none => rw [e] at h2; cases h2
      | some a => rw [e] at h2; cases h2; rfl
    obtain ⟨u, hu, rv⟩ := r.get ha
    have hp : ps[i]? = some y := by
      rw [← S.pre, List.getElem?_take_of_lt (by omega)]; exact h1
    have ndP : ps.Nodup := by rw [← S.pre]; exact S.nd.sublist (List.take_sublist _ _)
    refine ⟨u, rv, .inl ⟨S.par y (List.mem_of_getElem? hp), ?_⟩⟩
    have hlen : us.length = ps.length := by rw [← r.length]; exact hl
    refine lookup_nodup ?_ ?_
    · rw [List.map_reverse, List.map_fst_zip (by omega)]
      exact (List.reverse_perm ps).nodup_iff.mpr ndP
    · rw [List.mem_reverse]
      exact List.mem_of_getElem? (i := i) (by rw [List.getElem?_zip_eq_some]; exact ⟨hp, hu⟩)
  · unfold L2.start
    show _ = N.length
    rw [List.length_append, List.length_map, List.length_replicate]
    omega
/-- THE RULE: an __init__ that says super() first, by its body -/
theorem fn_sup {P : Program} {w : World} {K : PySem.W.Frag} {mg : Str → Option Value} {base : Heap} {k : Nat} {f : Addr} {name qual : Str} {params : Arguments} {b0 : Stmt} {body : List Stmt} {scope : Scope} {dV kV doc pm cdv ct oc : Value} {an od : Option Addr} {cc : Addr}
    {osl : Array (Option Value)} {N ps : List Str} {sp : Sp} {cl : Value} {cld : Option Addr} {v0 : Option Value} {csl : Array (Option Value)}
    (lk : K.lookup f = some ⟨oc, od, .func (PySem.W.ksFn name qual params (b0 :: body) scope dV kV doc pm an cdv ct cc), osl⟩) (hcd : PySem.W.codeIn K cdv qual = true) (hcell : K.lookup cc = some ⟨cl, cld, .cell v0, csl⟩) (S : SupScope N ps scope)
    (len : ∀ vs H Q E, sp vs H Q E → vs.length = ps.length)
    (hbody : ∀ (A : Around) (outer : List Env) (s : Shared) (H : Hp) (vs : List V) (Q : VK) (E : XK), Room k (A.deeper (PySem.W.ksEnv qual scope s.heap.objs.size f cdv cc)) → sp vs H Q E →
      ∃ t u, PSat (cxS P w K mg base N qual scope f cdv cc A outer s H) (b0 :: body) b0 t ∧ PSs (cxS P w K mg base N qual scope f cdv cc A outer s H) body u ∧ t { nx := fun σ' H' => u { nx := fun _ H' => Q .non H', rt := Q } σ' H', rt := Q } (start N vs) H) :
    FnOk P w K mg base CX0 (k + 1) f (PySem.W.ksFn name qual params (b0 :: body) scope dV kV doc pm an cdv ct cc) ps sp := by
  refine ⟨len, fun A outer s H args us vs Q E hr e0 hb r hsp => ?_⟩
  have hl := len _ _ _ _ hsp
  have KX : K.In s.heap := e0.mod.kin.keeps fun b o e => (e0.bs b o e).1
  have lim : s.heap.NoLimit := e0.mod.nolimit.keeps fun b o e => (e0.bs b o e).1
  refine ks_codeAny_call_defAt (body := b0 :: body) (binds := ps.zip us) hr.depth (KX _ _ lk) rfl lim (PySem.W.codeRec_of KX hcd) rfl hb S.nocell (fun y hy => S.par y.1 (List.of_mem_zip (show (y.1, y.2) ∈ ps.zip us from hy)).1) (fun h₁ hns hk => ?_) S.co S.gen S.kind
  obtain ⟨t, u, ht, hu, hq⟩ := hbody A outer s H vs Q E (hr.deeper _) hsp
  have I : Inv (cxS P w K mg base N qual scope f cdv cc A outer s H) [] (start N vs) H { s with heap := h₁, toks := s.toks + (ps.zip us).length } := inv_startS S hr.hd e0 hl r hcell hns hk
  have fin : ∀ {s' : Shared} {σ' : L2.St} {H' : Hp} {v : V} {u : Value}, Inv (cxS P w K mg base N qual scope f cdv cc A outer s H) [] σ' H' s' → RelV v u → Q v H' → CE outer P w H s Q u s' :=
    fun {s' σ' H' v u} J rv q => ⟨v, H', J.os, J.bare, J.base, J.hok, rv, q⟩
  have last : ∀ (fl : Flow) (s' : Shared), SP (cxS P w K mg base N qual scope f cdv cc A outer s H) [] { nx := fun _ H' => Q .non H', rt := Q } fl s' → CR CX0 outer P w H s Q E (.ok (.ret (match fl with | .ret v => v | _ => .none))) s' := by
    intro fl s' hs
    cases fl with
    | ret u =>
      obtain ⟨v, σ', H', J, rv, q⟩ := hs
      exact fin J rv q
    | next =>
      obtain ⟨σ', H', J, q⟩ := hs
      exact fin (v := V.non) (u := Value.none) J rfl q
    | brk =>
      obtain ⟨_, _, _, q⟩ := hs
      exact False.elim q
    | cont =>
      obtain ⟨_, _, _, q⟩ := hs
      exact False.elim q
  show _root_.PySem.wpAt (model P w) (A.deeper (PySem.W.ksEnv qual scope s.heap.objs.size f cdv cc)) (.func (b0 :: body) (PySem.W.ksEnv qual scope s.heap.objs.size f cdv cc)) (execs (b0 :: body) (PySem.W.ksEnv qual scope s.heap.objs.size f cdv cc)) _ _ _
  refine ks_wpAt_execs_cons (ks_wpAt_mono (ht [] _ _ _ _ I hq) (fun fl s' hs => ?_) fun e s' hs => False.elim hs)
  cases fl with
  | next =>
    obtain ⟨σ', H', J, q⟩ := hs
    exact wpAt_of_wpAny (wpAny_mono (hu.run [] s' σ' H' _ J q) (fun fl s2 hs => last fl s2 hs) fun e s' hs => False.elim hs)
  | ret u => exact last (.ret u) s' hs
  | brk =>
    obtain ⟨_, _, _, q⟩ := hs
    exact False.elim q
  | cont =>
    obtain ⟨_, _, _, q⟩ := hs
    exact False.elim q
end Kb
set_option Elab.async false
set_option linter.all false
set_option maxRecDepth 100000
set_option maxHeartbeats 4000000
namespace Kb
open PySem PySem.Spec PyProof.Rows L2
def oexB (K : PySem.W.Frag) (C : Addr) : Bool := match K.lookup C with
  | some ⟨.type "type", _, .cls cd, sl⟩ => (match cd.mro, sl.toList with
    | .ref C' :: bm, [_, _, _, _, some (.builtin n), _] => C' == C && n == "ValueError.__new__" && !cd.hasDel && cd.hasDict && PySem.HandSPX.refsVE bm
    | _, _ => false)
  | _ => false
theorem oexB_ok {K : PySem.W.Frag} {C : Addr} (q : oexB K C = true) : ∃ nm q N bs bm sn sub ab col dd k0 k1 k2 k3 k5, K.lookup C = some (excClassObj nm q C N bs bm true sn sub ab col dd k0 k1 k2 k3 k5 "ValueError.__new__") ∧ PySem.HandSPX.refsVE bm = true := by
  unfold oexB at q
  split at q
  · rename_i dd cd sl ho
    split at q
    · rename_i C' bm k0 k1 k2 k3 n k5 hm hs
      simp only [Bool.and_eq_true, beq_iff_eq, Bool.not_eq_true'] at q
      obtain ⟨⟨⟨⟨rfl, rfl⟩, hdel⟩, hdict⟩, ht⟩ := q
      obtain ⟨nm, bs, mro, ns, qn, hd, sn, sub, ab, col, del⟩ := cd
      dsimp only at hm hdel hdict
      subst hm hdel hdict
      have hsl : sl = #[k0, k1, k2, k3, some (.builtin "ValueError.__new__"), k5] := by
        obtain ⟨l⟩ := sl
        simp only at hs
        rw [hs]
      subst hsl
      exact ⟨nm, qn, ns, bs, bm, sn, sub, ab, col, dd, k0, k1, k2, k3, k5, ho, ht⟩
    · cases q
  · cases q
/-- the fields that errors have beside their word -/
abbrev errFlds : List Str := ["column", "first", "letter", "most", "name", "number", "second", "sign"]
/-- C, an error class below D (or D itself) -/
structure Bad (K : PySem.W.Frag) (C D : Addr) : Prop where
  ox : OexC K C
  sub : PySem.W.mroIn K C (.ref D) = some true
  opq : PySem.W.nsIn K PySem.cStatics "thirdparty.any" = some none
  sV : PySem.W.subIn K (.ref C) (.type "ValueError") = some true
  smV : PySem.W.ks_superIn K C D "__init__" = some (some (.builtin "ValueError.__init__"))
  ex : ExcC K C
  nw : PySem.W.findIn K (.ref C) "word" = some none
  nf : ∀ f ∈ errFlds, PySem.W.findIn K (.ref C) f = some none
def badL (K : PySem.W.Frag) (C D : Addr) : List Bool :=
  [oexB K C, decide (PySem.W.findIn K (.ref C) "__setattr__" = some (some (.builtin "object.__setattr__"))), decide (PySem.W.subIn K (.ref C) (.type "BaseException") = some true), decide (PySem.W.typeIn K (.ref C) = some (.type "type")), PySem.W.keepIn K (.ref C),
   decide (PySem.W.mroIn K C (.ref D) = some true), decide (PySem.W.nsIn K PySem.cStatics "thirdparty.any" = some none), decide (PySem.W.subIn K (.ref C) (.type "ValueError") = some true), decide (PySem.W.ks_superIn K C D "__init__" = some (some (.builtin "ValueError.__init__"))),
   decide (PySem.W.findIn K (.ref C) "__getattribute__" = some (some (.builtin "BaseException.__getattribute__"))), decide (PySem.W.findIn K (.ref C) "__getattr__" = some none), PySem.W.hasDictIn K C, decide (PySem.W.findIn K (.ref C) "__class__" = some (some (.builtin "object.__class__"))),
   decide (PySem.W.specialIn K (.builtin "object.__class__") "__get__" = some (some (.builtin "getset_descriptor.__get__"))), decide (PySem.W.takesIn K (.builtin "object.__class__") = some true), decide (PySem.W.mroIn K C (.type "object") = some true), decide (PySem.W.findIn K (.ref C) "word" = some none),
   errFlds.all fun f => decide (PySem.W.findIn K (.ref C) f = some none)]
def badB (K : PySem.W.Frag) (C D : Addr) : Bool := (badL K C D).all id
theorem bad_of {K : PySem.W.Frag} {C D : Addr} (h : badB K C D = true) : Bad K C D := by
  unfold badB badL at h
  rw [List.all_cons, List.all_cons, List.all_cons, List.all_cons, List.all_cons, List.all_cons, List.all_cons, List.all_cons, List.all_cons, List.all_cons, List.all_cons, List.all_cons, List.all_cons, List.all_cons, List.all_cons, List.all_cons, List.all_cons, List.all_cons, List.all_nil] at h
  simp only [id_eq, Bool.and_true, Bool.and_eq_true, decide_eq_true_eq] at h
  obtain ⟨h1, h2, h3, h4, h5, h6, h7, h8, h9, h10, h11, h12, h13, h14, h15, h16, h17, h18⟩ := h
  exact ⟨⟨oexB_ok h1, h2, h3, h4, h5⟩, h6, h7, h8, h9, ⟨h10, h11, h3, h12, h13, h14, h15, h16⟩, h17, fun f hf => of_decide_eq_true (List.all_eq_true.mp h18 f hf)⟩
theorem Bad.cls {K : PySem.W.Frag} {C D : Addr} (B : Bad K C D) : ∃ cd, PySem.W.clsIn K C = some cd := by
  obtain ⟨nm, q, N, bs, bm, sn, sub, ab, col, dd, k0, k1, k2, k3, k5, hC, hbm⟩ := B.ox.cls
  exact ⟨_, by unfold PySem.W.clsIn; rw [hC] <;> rfl⟩
def fileB (K : PySem.W.Frag) (cd : Value) (file : Str) : Bool := match cd with
  | .ref c => (match K.lookup c with
    | some ⟨_, _, .fields vs, _⟩ => (match (vs[2]? : Option Value) with
      | some (Value.str f _) => file == f
      | _ => false)
    | _ => false)
  | _ => false
theorem fileB_ok {K : PySem.W.Frag} {cd : Value} {file : Str} (h : fileB K cd file = true) : ∃ (cda : Addr) (ccl : Value) (cdd : Option Addr) (vs : Array Value) (ccs : Array (Option Value)) (f : Str) (tf : Tok), cd = .ref cda ∧ K.lookup cda = some ⟨ccl, cdd, .fields vs, ccs⟩ ∧ vs[2]? = some (.str f tf) ∧ (file == f) = true := by
  unfold fileB at h
  split at h
  · split at h
    · rename_i hl
      split at h
      · rename_i hv
        exact ⟨_, _, _, _, _, _, _, rfl, hl, hv, h⟩
      · cases h
    · cases h
  · cases h
def sp_CE (K : PySem.W.Frag) (D : Addr) : Sp := fun vs H Q E => ∃ (a C : Addr) (v : V), vs = [.ref a, v] ∧ Bad K C D ∧ H a = some (exo a C none) ∧
  ∀ dx, H dx = none → dx ≠ a → Q .non (upd (upd H dx (exd dx [("word", v)])) a (exo a C (some dx)))
def sp_B0 (C : Addr) (nm : Str) : Sp := fun vs H Q E => ∃ (a : Addr), vs = [.ref a] ∧ H a = some (exo a C none) ∧
  ∀ dx, H dx = none → dx ≠ a → Q .non (upd (upd H dx (exd dx [("word", .str nm)])) a (exo a C (some dx)))
def sp_B1 (C : Addr) (nm at1 : Str) : Sp := fun vs H Q E => ∃ (a : Addr) (v : V), vs = [.ref a, v] ∧ H a = some (exo a C none) ∧
  ∀ dx, H dx = none → dx ≠ a → Q .non (upd (upd (upd H dx (exd dx [("word", .str nm)])) a (exo a C (some dx))) dx (exd dx [(at1, v), ("word", .str nm)]))
section
variable {P : Program} {w : World} {K : PySem.W.Frag} {mg : Str → Option Value} {base : Heap}
/-- an __init__ of the text that says super() -/
structure SupI (P : Program) (K : PySem.W.Frag) (mg : Str → Option Value) (qual : Str) (s : Stmt) (D : Addr) (N : List Str) (f : Addr) (fd : FuncData) : Prop where
  ex : ∃ (oc : Value) (od : Option Addr) (dV kV doc pm : Value) (an : Option Addr) (cdv ct : Value) (osl : Array (Option Value)) (cc : Addr) (cl : Value) (cld : Option Addr) (csl : Array (Option Value)),
    fd = PySem.W.ksFn "__init__" qual (defArgs s) (defBody s) (defScope s) dV kV doc pm an cdv ct cc ∧ K.lookup f = some ⟨oc, od, .func fd, osl⟩ ∧ PySem.W.codeIn K cdv qual = true ∧ K.lookup cc = some ⟨cl, cld, .cell (some (.ref D)), csl⟩ ∧ fileB K cdv P.main.file = true
  sc : SupScope N N (defScope s)
  hs : (defScope s).names.lookup ("super" : Str) = some .globalImplicit
  hc : (defScope s).names.lookup ("__class__" : Str) = some .free
  hl : (defScope s).names.lookup ("self" : Str) = some .local
  ar : ∃ ar : Arg, ((defArgs s).posonlyargs ++ (defArgs s).args).head? = some ar ∧ ar.arg = "self"
  su : mg "super" = none
  tp : (P.main.scope.names.lookup ("super" : Str)).isSome = false
  dc : ∃ cd, PySem.W.clsIn K D = some cd
theorem SupI.supK {qual : Str} {s : Stmt} {D f : Addr} {fd : FuncData} {N : List Str} (S : SupI P K mg qual s D N f fd) {oc : Value} {od : Option Addr} {dV kV doc pm : Value} {an : Option Addr} {cdv ct : Value} {osl : Array (Option Value)} {cc : Addr} {cl : Value} {cld : Option Addr} {csl : Array (Option Value)}
    (hfd : fd = PySem.W.ksFn "__init__" qual (defArgs s) (defBody s) (defScope s) dV kV doc pm an cdv ct cc) (lk : K.lookup f = some ⟨oc, od, .func fd, osl⟩) (lc : K.lookup cc = some ⟨cl, cld, .cell (some (.ref D)), csl⟩) (hf : fileB K cdv P.main.file = true)
    (A : Around) (outer : List Env) (sh : Shared) (H : Hp) : SupK (cxS P w K mg base N qual (defScope s) f cdv cc A outer sh H) D := by
  obtain ⟨ar, h1, h2⟩ := S.ar
  obtain ⟨cda, ccl, cdd, vs, ccs, fl, tf, e, l, v, b⟩ := fileB_ok hf
  exact ⟨S.hs, S.hc, S.hl, ⟨f, oc, od, fd, osl, ar, rfl, lk, by subst hfd; exact h1, h2⟩, ⟨cda, ccl, cdd, vs, ccs, fl, tf, e, l, v, b⟩, ⟨cc, cl, cld, csl, by show List.lookup ("__class__" : Str) [(("__class__" : Str), cc)] = some cc; simp [List.lookup], lc⟩, S.su, S.tp, S.dc⟩
/-- super().__init__(e, ..) is a call of a method as it stands on one line -/
def SupEv (e : Expr) (es : List Expr) (p0 p1 p2 p3 p4 : Pos) : Prop := ∃ pl : Sem Bool, ∀ env : Env, eval (.Call (.Attribute (.Call (.Name "super" p0) [] [] p1) "__init__" p2) (e :: es) [] p3) env = (do
      let ov ← attributeBase (.Call (.Name "super" p0) [] [] p1) "__init__" env (eval (.Call (.Name "super" p0) [] [] p1) env)
      standAt p2.atName
      let (f, first) ← holding [ov] (getMethod ov "__init__" pl)
      callWith p3 f first (backTo p3 (starEach (e :: es) env)) [])
theorem ok_CE {s : Stmt} {D f : Addr} {fd : FuncData} {p0 p1 p2 p3 p4 q0 q1 q2 q3 q4 : Pos} (S : SupI P K mg "ChamberError.__init__" s D ["self", "word"] f fd)
    (hb : defBody s = [supStmt (.Name "word" q0) [] p0 p1 p2 p3 p4, .Assign [.Attribute (.Name "self" q1) "word" q2] (.Name "word" q3) q4])
    (ev : SupEv (.Name "word" q0) [] p0 p1 p2 p3 p4) (hw : (defScope s).names.lookup ("word" : Str) = some .local) : FnOk P w K mg base CX0 1 f fd ["self", "word"] (sp_CE K D) := by
  obtain ⟨oc, od, dV, kV, doc, pm, an, cdv, ct, osl, cc, cl, cld, csl, hfd, lk, hcd, lc, hf⟩ := S.ex
  have hfd' := hfd
  rw [hb] at hfd
  have lk' := lk
  subst hfd
  refine fn_sup lk' hcd lc S.sc (fun vs H Q E ⟨a, C, v, e, _⟩ => by rw [e]; rfl) fun A outer sh H vs Q E hr hsp => ?_
  have SK := S.supK (w := w) (base := base) hfd' lk lc hf A outer sh H
  have nd := S.sc.nd
  refine ⟨_, _, pst_supV SK rfl (pa_cons (pe_var (i := 1) rfl (.inl hw)) pa_nil) (hc := ev.choose_spec _), pss_one (ps_ost (pe_var (i := 0) rfl (.inl S.hl)) (pe_var (i := 1) rfl (.inl hw))), ?_⟩
  obtain ⟨a, C, v, rfl, B, ea, hq⟩ := hsp
  refine ⟨a, C, rfl, ea, B.ox, B.sub, B.opq, B.smV, B.sV, ?_⟩
  refine ⟨v, rfl, by simp, ea, ?_⟩
  exact ⟨v, rfl, .ref a, rfl, a, C, rfl, B.ox, B.nw, .inl ⟨ea, fun dx n ne => hq dx n ne⟩⟩
theorem ok_B0 {s : Stmt} {C D f f2 : Addr} {qual nm : Str} {fd fd2 : FuncData} {jc : Nat} {p0 p1 p2 p3 p4 q0 : Pos} (S : SupI P K mg qual s C ["self"] f fd)
    (hb : defBody s = [supStmt (.Constant (.str nm) jc q0) [] p0 p1 p2 p3 p4]) (ev : SupEv (.Constant (.str nm) jc q0) [] p0 p1 p2 p3 p4)
    (F1 : FnOk P w K mg base CX0 1 f2 fd2 ["self", "word"] (sp_CE K D)) (hbs : Binds K fd2 ["self", "word"] []) (B : Bad K C D) (sub : PySem.W.mroIn K C (.ref C) = some true) (sm : PySem.W.ks_superIn K C C "__init__" = some (some (.ref f2)))
    (ht : PySem.W.typeIn K (.ref f2) = some (.type "function")) (hf2 : PySem.W.fnIn K f2 = true) : FnOk P w K mg base CX0 2 f fd ["self"] (sp_B0 C nm) := by
  obtain ⟨oc, od, dV, kV, doc, pm, an, cdv, ct, osl, cc, cl, cld, csl, hfd, lk, hcd, lc, hf⟩ := S.ex
  have hfd' := hfd
  rw [hb] at hfd
  have lk' := lk
  subst hfd
  refine fn_sup lk' hcd lc S.sc (fun vs H Q E ⟨a, e, _⟩ => by rw [e]; rfl) fun A outer sh H vs Q E hr hsp => ?_
  have SK := S.supK (w := w) (base := base) hfd' lk lc hf A outer sh H
  refine ⟨_, _, pst_supF SK rfl F1 hr hbs pass0 ht hf2 (pa_cons pe_str pa_nil) (hc := ev.choose_spec _), pss_nil, ?_⟩
  obtain ⟨a, rfl, ea, hq⟩ := hsp
  refine ⟨a, C, rfl, ea, B.ox, sub, B.opq, sm, ?_⟩
  exact ⟨a, C, .str nm, rfl, B, ea, fun dx n ne => hq dx n ne⟩
theorem ok_B1 {s : Stmt} {C D f f2 : Addr} {qual nm at1 : Str} {fd fd2 : FuncData} {jc : Nat} {p0 p1 p2 p3 p4 q0 q1 q2 q3 q4 : Pos} (S : SupI P K mg qual s C ["self", at1] f fd)
    (hb : defBody s = [supStmt (.Constant (.str nm) jc q0) [] p0 p1 p2 p3 p4, .Assign [.Attribute (.Name "self" q1) at1 q2] (.Name at1 q3) q4]) (ev : SupEv (.Constant (.str nm) jc q0) [] p0 p1 p2 p3 p4)
    (hw : (defScope s).names.lookup at1 = some .local) (hd1 : (at1 == ("__debug__" : Str)) = false) (hd2 : (at1 == ("__classdict__" : Str)) = false) (na : PySem.W.findIn K (.ref C) at1 = some none)
    (F1 : FnOk P w K mg base CX0 1 f2 fd2 ["self", "word"] (sp_CE K D)) (hbs : Binds K fd2 ["self", "word"] []) (B : Bad K C D) (sub : PySem.W.mroIn K C (.ref C) = some true) (sm : PySem.W.ks_superIn K C C "__init__" = some (some (.ref f2)))
    (ht : PySem.W.typeIn K (.ref f2) = some (.type "function")) (hf2 : PySem.W.fnIn K f2 = true) : FnOk P w K mg base CX0 2 f fd ["self", at1] (sp_B1 C nm at1) := by
  obtain ⟨oc, od, dV, kV, doc, pm, an, cdv, ct, osl, cc, cl, cld, csl, hfd, lk, hcd, lc, hf⟩ := S.ex
  have hfd' := hfd
  rw [hb] at hfd
  have lk' := lk
  subst hfd
  refine fn_sup lk' hcd lc S.sc (fun vs H Q E ⟨a, v, e, _⟩ => by rw [e]; rfl) fun A outer sh H vs Q E hr hsp => ?_
  have SK := S.supK (w := w) (base := base) hfd' lk lc hf A outer sh H
  refine ⟨_, _, pst_supF SK rfl F1 hr hbs pass0 ht hf2 (pa_cons pe_str pa_nil) (hc := ev.choose_spec _), pss_one (ps_ost (pe_var (i := 0) rfl (.inl S.hl)) (pe_var (i := 1) rfl (.inl hw) hd1 hd2)), ?_⟩
  obtain ⟨a, v, rfl, ea, hq⟩ := hsp
  refine ⟨a, C, rfl, ea, B.ox, sub, B.opq, sm, ?_⟩
  refine ⟨a, C, .str nm, rfl, B, ea, fun dx n ne => ?_⟩
  refine ⟨v, rfl, .ref a, rfl, a, C, rfl, B.ox, na, .inr ⟨dx, [("word", .str nm)], upd_same, ?_, by simp, hq dx n ne⟩⟩
  rw [upd_ne ne, upd_same]
end
def tBad (C : Addr) (nm : Str) : L2.St → Hp → XK → Prop := fun σ H Q => ∀ d, H d = none → Q (.ref C) (some d) (upd H d (.xd [("word", .str nm)]))
def tBad1 (C : Addr) (nm at1 : Str) (te : TE) : L2.St → Hp → XK → Prop := tMkO C (sp_B1 C nm at1) [] (tCons te tNil)
theorem heap_end {H : Hp} {a dx : Addr} {o1 o2 o3 : HO} {fs : List (Str × V)} (n : H a = none) (ne : dx ≠ a) : upd (del (upd (upd (upd H a o1) dx o2) a o3) a) dx (.xd fs) = upd H dx (.xd fs) := by
  funext b
  by_cases h1 : b = dx
  · rw [h1, upd_same, upd_same]
  · rw [upd_ne h1, upd_ne h1]
    by_cases h2 : b = a
    · rw [h2, del_same, n]
    · rw [del_ne h2, upd_ne h2, upd_ne h1, upd_ne h2]
theorem heap_end1 {H : Hp} {a dx : Addr} {o1 o2 o3 o4 : HO} {fs : List (Str × V)} (n : H a = none) (ne : dx ≠ a) : upd (del (upd (upd (upd (upd H a o1) dx o2) a o3) dx o4) a) dx (.xd fs) = upd H dx (.xd fs) := by
  funext b
  by_cases h1 : b = dx
  · rw [h1, upd_same, upd_same]
  · rw [upd_ne h1, upd_ne h1]
    by_cases h2 : b = a
    · rw [h2, del_same, n]
    · rw [del_ne h2, upd_ne h1, upd_ne h2, upd_ne h1, upd_ne h2]
section
variable {X : Cx} {x : Str} {C fI : Addr} {k : Nat} {fd : FuncData} {p pos : Pos}
theorem run_bad {ps : List Str} {sp : Sp} (T : OexC X.K C) (iC : PySem.W.findIn X.K (.ref C) "__init__" = some (some (.ref fI))) (tI : PySem.W.typeIn X.K (.ref fI) = some (.type "function"))
    (F1 : FnOk X.prog X.w X.K X.mg X.base CX0 k fI fd ps sp) (hr : Room (k + 1) X.A) (hb : Binds X.K fd ps []) {pins : List (Addr × Obj)} {σ : L2.St} {H : Hp} {s : Shared} {Q : XK} (I : Inv X pins σ H s)
    (h : ∀ a, H a = none → sp [.ref a] (upd H a (exo a C none)) (fun v H2 => v = .non ∧ ∃ (d : Addr) (fs : List (Str × V)), H2 a = some (exo a C (some d)) ∧ H2 d = some (exd d fs) ∧ H d = none ∧ Q (.ref C) (some d) (upd (del H2 a) d (.xd fs))) (fun _ _ _ => False)) :
    wpAny (model X.prog X.w) X.A (call (.ref C) []) (MkP X pins σ Q) X.xe s := by
  obtain ⟨nm, q, N, bs, bm, sn, sub, ab, col, dd, k0, k1, k2, k3, k5, hC, hbm⟩ := T.cls
  obtain ⟨hp, g, dr, tk, os⟩ := s
  have hsz : hp.objs.size ≤ hp.objs.size + 1 := Nat.le_succ _
  have hn : H (hp.objs.size + 1) = none := I.hok.fresh hsz
  have hq := h (hp.objs.size + 1) hn
  have kk : ∀ b o, hp.get? b = some o → ((hp.push (PySem.W.kdv_tup [])).push (PySem.HandSPX.excO C hp.objs.size)).get? b = some o := fun b o e => Heap.get?_push_of_some _ (Heap.get?_push_of_some _ e)
  have hget : ((hp.push (PySem.W.kdv_tup [])).push (PySem.HandSPX.excO C hp.objs.size)).get? (hp.objs.size + 1) = some (PySem.HandSPX.excO C hp.objs.size) := by heap_get
  have I2 : Inv X pins σ (upd H (hp.objs.size + 1) (exo (hp.objs.size + 1) C none)) ⟨(hp.push (PySem.W.kdv_tup [])).push (PySem.HandSPX.excO C hp.objs.size), g, dr, tk, os⟩ :=
    I.laid (t' := tk) (a := hp.objs.size + 1) (o := exo (hp.objs.size + 1) C none) (h' := (hp.push (PySem.W.kdv_tup [])).push (PySem.HandSPX.excO C hp.objs.size)) kk hsz (exo_ok hget)
  have r2 : Vals [V.ref (hp.objs.size + 1)] [Value.ref (hp.objs.size + 1)] := .cons rfl .nil
  have hl : ([Value.ref (hp.objs.size + 1)] ++ []).length = ps.length := by
    have e := r2.length
    rw [F1.len _ _ _ _ hq] at e
    exact e.symm
  refine wpAny_call (PySem.HandSPX.call_own (rest := []) F.excBase_ValueError (fun Y => PySem.HandSPX.refsVE_contains Y bm hbm) (I.kIn _ _ hC) (PySem.W.looks_findIn I.kIn iC) (fun self => PySem.W.bind_fn I.kIn self tI) (Nat.zero_le _)
    (codeAny_mono (F1.run _ X.stack _ _ ⟨[Value.ref (hp.objs.size + 1)], []⟩ ([Value.ref (hp.objs.size + 1)] ++ []) _ _ (fun _ _ _ => False) (hr.make C [] []) (I2.env0.make C [] []) (hb _ [Value.ref (hp.objs.size + 1)] I2.kIn hl) r2 hq) fun r s' hq' => ?_))
  cases r with
  | error er => exact False.elim hq'
  | ok fl =>
    cases fl with
    | ret u =>
      obtain ⟨v, H2, os2, bare2, un2, hok2, rv, ev, d, fs, ea, ed, hd1, q2⟩ := hq'
      subst ev
      obtain ⟨h2, g2, d2, t2, os'⟩ := s'
      exact ⟨rv, mk_end (raises_own T.exC T.tyC) I hsz kk un2 hok2 os2 bare2 ea ed hd1 q2⟩
    | next => exact False.elim hq'
    | brk => exact False.elim hq'
    | cont => exact False.elim hq'
theorem pmk_bad0 {nm : Str} (T : OexC X.K C) (iC : PySem.W.findIn X.K (.ref C) "__init__" = some (some (.ref fI))) (tI : PySem.W.typeIn X.K (.ref fI) = some (.type "function"))
    (F1 : FnOk X.prog X.w X.K X.mg X.base CX0 k fI fd ["self"] (sp_B0 C nm)) (hr : Room (k + 1) X.A) (hb : Binds X.K fd ["self"] []) (hg : Gl X x) (hm : X.mg x = some (.ref C)) (hdb : (x == ("__debug__" : Str)) = false := by decide) :
    PMk X (.Call (.Name x p) [] [] pos) (tBad C nm) := by
  intro pins s σ H Q I h
  refine wpAny_Call_Name_kw (ld_glob I hg hm ?_ hdb)
  refine PySem.W.callWith_K0 I.kIn T.kC ?_
  refine run_bad T iC tI F1 hr hb I fun a na => ⟨a, rfl, upd_same, fun dx nx ne => ?_⟩
  have nx0 : H dx = none := by rw [upd_ne ne] at nx; exact nx
  refine ⟨rfl, dx, _, upd_same, by rw [upd_ne ne, upd_same], nx0, ?_⟩
  rw [heap_end na ne]
  exact h dx nx0
theorem pmk_bad1 {nm at1 : Str} {e : Expr} {te : TE} (T : OexC X.K C) (iC : PySem.W.findIn X.K (.ref C) "__init__" = some (some (.ref fI))) (tI : PySem.W.typeIn X.K (.ref fI) = some (.type "function"))
    (F1 : FnOk X.prog X.w X.K X.mg X.base CX0 k fI fd ["self", at1] (sp_B1 C nm at1)) (hr : Room (k + 1) X.A) (hb : Binds X.K fd ["self", at1] []) (hg : Gl X x) (hm : X.mg x = some (.ref C)) (ha : PE X e te) (hdb : (x == ("__debug__" : Str)) = false := by decide)
    (he : starEach [e] X.env = (false, eval e X.env) :: starEach [] X.env := by rfl) (hpl : (backTo pos (starEach [] X.env)).any (·.1) = false := by rfl) :
    PMk X (.Call (.Name x p) [e] [] pos) (tBad1 C nm at1 te) :=
  pmk_oex (CX := CX0) (dvs := []) (ds := []) (ta := tCons te tNil) T iC tI F1 hr hb .nil pass0 hg hm (pa_cons ha pa_nil he) hdb he hpl
end
/-- the question that tBad1 leaves behind its argument -/
theorem mk_bad1 {C : Addr} {nm at1 : Str} {v : V} {H1 : Hp} {Q : XK} (h : ∀ d, H1 d = none → Q (.ref C) (some d) (upd H1 d (.xd [(at1, v), ("word", .str nm)]))) :
    [v].length ≤ 1000 ∧ ∀ a, H1 a = none → sp_B1 C nm at1 (.ref a :: ([v] ++ [])) (upd H1 a (exo a C none)) (fun v H2 => v = .non ∧ ∃ (d : Addr) (fs : List (Str × V)), H2 a = some (exo a C (some d)) ∧ H2 d = some (exd d fs) ∧ H1 d = none ∧ Q (.ref C) (some d) (upd (del H2 a) d (.xd fs))) (fun _ _ _ => False) := by
  refine ⟨by simp, fun a na => ⟨a, v, rfl, upd_same, fun dx nx ne => ?_⟩⟩
  have nx0 : H1 dx = none := by rw [upd_ne ne] at nx; exact nx
  refine ⟨rfl, dx, _, ?_, upd_same, nx0, ?_⟩
  · rw [upd_ne (Ne.symm ne), upd_same]
  · rw [heap_end1 na ne]
    exact h dx nx0
end Kb
set_option Elab.async false
set_option linter.all false
set_option maxRecDepth 100000
set_option maxHeartbeats 4000000
namespace Kb
open PySem PySem.Spec PyProof.Rows L2
structure Cl where
  c : Value
  slot : Option Nat
  ts : Addr → Value → Option Addr → TS
def endsOf (D : Ends) : Option Nat → Ends
  | none => D
  | some i => { nx := fun σ' H' => D.nx (σ'.set i none) H', rt := D.rt, bk := fun σ' H' => D.bk (σ'.set i none) H', ct := fun σ' H' => D.ct (σ'.set i none) H' }
def setOf (σ : L2.St) (a : Addr) : Option Nat → L2.St
  | none => σ
  | some i => σ.set i (some (.ref a))
/-- what the clauses wish of an exception of the body, one after the other -/
def wAll (K : PySem.W.Frag) (Wout : WX) (D : Ends) : List Cl → WX
  | [] => Wout
  | q :: r => fun cls d σ H => ∃ b, PySem.W.exmOne K cls q.c = some b ∧ (b = true → ∀ a, H a = none → q.ts a cls d (endsOf D q.slot) (setOf σ a q.slot) H) ∧ (b = false → wAll K Wout D r cls d σ H)
def tCallW (sp : Sp) (W : WX) (t : TA) : TE := fun σ H Q => t σ H fun vs H1 => sp vs H1 Q (fun cls d H' => W cls d σ H')
section
variable {X : Cx} {k : Nat} {ps : List Str} {sp : Sp} {x : Str} {p pos : Pos} {e : Expr} {es : List Expr} {t : TA} {W : WX}
theorem pe_callW (tk : Takes X W) (G : Fn X.prog X.w X.K X.mg X.base (L2.CX X.prog X.w) k x ps sp) (hr : Room k X.A) (hg : Gl X x) (ha : PA X (e :: es) t) (hdb : (x == ("__debug__" : Str)) = false := by decide)
    (he : starEach (e :: es) X.env = (false, eval e X.env) :: starEach es X.env := by rfl) (hpl : (backTo pos (starEach es X.env)).any (·.1) = false := by rfl) : PE X (.Call (.Name x p) (e :: es) [] pos) (tCallW sp W t) := by
  obtain ⟨f, fd, F, hm, hk, hb⟩ := G.ex
  refine ⟨fun pins s σ H Q I h => ?_⟩
  refine wpAny_Call_Name_kw (ld_glob I hg hm ?_ hdb)
  refine PySem.W.callWith_K (h₀ := X.base) I.ok.mod.kin hk (thn (ha.run pos pins s σ H _ I h) fun us s1 ⟨vs, H1, I1, r, q⟩ => ⟨I1.kIn, ?_⟩) he hpl
  show wpAny _ _ (call (.ref f) us) _ _ _
  have hl : (us ++ []).length = ps.length := by rw [List.append_nil, ← r.length]; exact F.len _ _ _ _ q
  have hbs := hb s1 us I1.kIn hl
  rw [List.append_nil] at hbs
  refine wpAny_call (codeAny_mono (F.run X.A X.stack s1 H1 ⟨us, []⟩ us vs Q (fun cls d H' => W cls d σ H') hr I1.env0 hbs r q) fun r s' hq => ?_)
  cases r with
  | error e => exact tk e s' (XE.of_call I1 (fun cls d H' h => h) hq)
  | ok fl =>
    cases fl with
    | ret u => exact I1.after hq
    | next => exact False.elim hq
    | brk => exact False.elim hq
    | cont => exact False.elim hq
end
end Kb
set_option Elab.async false
set_option linter.all false
set_option maxRecDepth 100000
set_option maxHeartbeats 4000000
namespace Kb
open PySem PySem.Spec PyProof.Rows L2
def IteT (K : PySem.W.Frag) (a : Addr) (k : Int) : It :=
  ⟨fun i H => ∃ (xs : List V) (x : V), SqT K H a xs ∧ xs[i]? = some x, fun i H v H' => ∃ T x, v = .ref T ∧ H T = none ∧ H' = upd H T (.tup [.int (k + (i : Nat)), x]) ∧ ∀ xs, SqT K H a xs → xs[i]? = some x, fun i H => ∃ xs : List V, SqT K H a xs ∧ xs.length = i⟩
/-- enumerate(t), enumerate(t, start=k): t a tuple -/
def iEnT (K : PySem.W.Frag) (k : Int) (ta : TA) : TI := fun σ H R => ta σ H fun vs H1 => ∃ a xs, vs = [.ref a] ∧ SqT K H1 a xs ∧ R (IteT K a k) H1
theorem callWith_tyKw {M : Model} {A : Around} {E : Value → Shared → Prop} {s : Shared} {pos : Pos} {T : String} {env : Env} {e : Expr} {rest : List Expr} {kws : List Keyword} {Q : Value → Shared → Prop}
    (h : wpAny M A (spliced (backTo pos (starEach (e :: rest) env))) (fun vs s₁ => wpAny M A (evalAll ((backToKw pos (keywordEach kws env)).map (·.2)))
      (fun kvs s₂ => wpAny M A (call (.type T) vs (((backToKw pos (keywordEach kws env)).filterMap (·.1)).zip kvs)) Q E s₂) E s₁) E s)
    (hall : (backToKw pos (keywordEach kws env)).all (·.1.isSome) = true) (hplain : ((backTo pos (starEach (e :: rest) env)).any (·.1) || (backToKw pos (keywordEach kws env)).any (·.1.isNone)) = false) (he : starEach (e :: rest) env = (false, eval e env) :: starEach rest env) :
    wpAny M A (callWith pos (.type T) [] (backTo pos (starEach (e :: rest) env)) (backToKw pos (keywordEach kws env))) Q E s :=
  PySem.W.callWith_of (P := fun _ => True) hplain (fun h _ => ⟨.machine, .inr (.inl rfl), PySem.W.Looks.now⟩) (PyProof.Rows.evalArgs_kw2 hall (thn h fun vs s1 h1 => thn h1 fun ks s2 h2 => ⟨trivial, h2⟩) he)
end Kb
set_option Elab.async false
set_option linter.all false
set_option maxRecDepth 100000
set_option maxHeartbeats 4000000
set_option Elab.async false
set_option linter.all false
set_option maxRecDepth 100000
set_option maxHeartbeats 4000000
namespace Kb
open PySem PySem.Spec PyProof.Rows L2
structure Exs (K : PySem.W.Frag) (ec : Str → Addr) (ns : List Str) : Prop where
  bad : ∀ x ∈ ns, Bad K (ec x) (ec "ChamberError")
  kitV : ∀ x ∈ ns, PySem.W.kitOne K (.ref (ec x)) (.type "ValueError") = some true
  kit : ∀ x ∈ ns, ∀ y ∈ ns, PySem.W.kitOne K (.ref (ec x)) (.ref (ec y)) = some (x == y || y == "ChamberError")
  exm : ∀ x ∈ ns, ∀ y ∈ ns, PySem.W.exmOne K (.ref (ec x)) (.ref (ec y)) = some (x == y || y == "ChamberError")
def exsB (K : PySem.W.Frag) (D : Addr) (l : List (Str × Addr)) : Bool :=
  l.all fun p => badB K p.2 D && (PySem.W.kitOne K (.ref p.2) (.type "ValueError") == some true && l.all fun q =>
    PySem.W.kitOne K (.ref p.2) (.ref q.2) == some (p.1 == q.1 || q.1 == "ChamberError") && PySem.W.exmOne K (.ref p.2) (.ref q.2) == some (p.1 == q.1 || q.1 == "ChamberError"))
def ecOf (mg : Str → Option Value) : Str → Addr := fun x => match mg x with
  | some (.ref a) => a
  | _ => 0
theorem ecOf_at {mg : Str → Option Value} {x : Str} {a : Addr} (h : mg x = some (.ref a)) : ecOf mg x = a := by unfold ecOf; rw [h]
theorem exs_of {K : PySem.W.Frag} {mg : Str → Option Value} {D : Addr} {l : List (Str × Addr)} (hD : mg "ChamberError" = some (.ref D)) (hl : ∀ p ∈ l, mg p.1 = some (.ref p.2)) (h : exsB K D l = true) : Exs K (ecOf mg) (l.map (·.1)) := by
  have key : ∀ x ∈ l.map (·.1), ∃ a, (x, a) ∈ l ∧ ecOf mg x = a := by
    intro x hx
    obtain ⟨p, hp, rfl⟩ := List.mem_map.mp hx
    exact ⟨p.2, hp, ecOf_at (hl p hp)⟩
  unfold exsB at h
  rw [List.all_eq_true] at h
  refine ⟨fun x hx => ?_, fun x hx => ?_, fun x hx y hy => ?_, fun x hx y hy => ?_⟩
  · obtain ⟨a, ha, e⟩ := key x hx
    have z := h _ ha
    simp only [Bool.and_eq_true] at z
    rw [e, ecOf_at hD]
    exact bad_of z.1
  · obtain ⟨a, ha, e⟩ := key x hx
    have z := h _ ha
    simp only [Bool.and_eq_true, beq_iff_eq] at z
    rw [e]
    exact z.2.1
  · obtain ⟨a, ha, e⟩ := key x hx
    obtain ⟨b, hb, e2⟩ := key y hy
    have z := h _ ha
    simp only [Bool.and_eq_true] at z
    have z2 := List.all_eq_true.mp z.2.2 _ hb
    simp only [Bool.and_eq_true] at z2
    rw [e, e2]
    exact beq_iff_eq.mp z2.1
  · obtain ⟨a, ha, e⟩ := key x hx
    obtain ⟨b, hb, e2⟩ := key y hy
    have z := h _ ha
    simp only [Bool.and_eq_true] at z
    have z2 := List.all_eq_true.mp z.2.2 _ hb
    simp only [Bool.and_eq_true] at z2
    rw [e, e2]
    exact beq_iff_eq.mp z2.2
def ExAt (mg : Str → Option Value) (ec : Str → Addr) (ns : List Str) : Prop := ∀ x ∈ ns, mg x = some (.ref (ec x))
/-- a class that is raised, its __init__ kept -/
structure Rz0 (P : Program) (w : World) (K : PySem.W.Frag) (mg : Str → Option Value) (base : Heap) (x : Str) (C : Addr) : Prop where
  ex : ∃ (fI : Addr) (fd : FuncData), PySem.W.findIn K (.ref C) "__init__" = some (some (.ref fI)) ∧ PySem.W.typeIn K (.ref fI) = some (.type "function") ∧ FnOk P w K mg base CX0 2 fI fd ["self"] (sp_B0 C x) ∧ Binds K fd ["self"] []
  ox : OexC K C
  at_ : mg x = some (.ref C)
structure Rz1 (P : Program) (w : World) (K : PySem.W.Frag) (mg : Str → Option Value) (base : Heap) (x at1 : Str) (C : Addr) : Prop where
  ex : ∃ (fI : Addr) (fd : FuncData), PySem.W.findIn K (.ref C) "__init__" = some (some (.ref fI)) ∧ PySem.W.typeIn K (.ref fI) = some (.type "function") ∧ FnOk P w K mg base CX0 2 fI fd ["self", at1] (sp_B1 C x at1) ∧ Binds K fd ["self", at1] []
  ox : OexC K C
  at_ : mg x = some (.ref C)
/-- raise .. -/
def sRaise (W : WX) (t : L2.St → Hp → XK → Prop) : TS := fun _ σ H => t σ H fun cls d H' => W cls d σ H'
def tTry (K : PySem.W.Frag) (Wout : WX) (l : List Cl) (tb : WX → TS) : TS := fun D σ H => tb (wAll K Wout D l) D σ H
section
variable {X : Cx} {x at1 : Str} {C : Addr} {p pos pos' : Pos} {W : WX} {e : Expr} {te : TE}
theorem ps_rz0 (hc : X.calm = true) (tk : Takes X W) (R : Rz0 X.prog X.w X.K X.mg X.base x C) (hr : Room 3 X.A) (hg : Gl X x) (hdb : (x == ("__debug__" : Str)) = false := by decide) :
    PS X (.Raise (some (.Call (.Name x p) [] [] pos)) none pos') (sRaise W (tBad C x)) := by
  obtain ⟨fI, fd, h1, h2, h3, h4⟩ := R.ex
  exact ps_raise hc tk (pmk_bad0 R.ox h1 h2 h3 hr h4 hg R.at_ hdb)
theorem ps_rz1 (hc : X.calm = true) (tk : Takes X W) (R : Rz1 X.prog X.w X.K X.mg X.base x at1 C) (hr : Room 3 X.A) (hg : Gl X x) (ha : PE X e te) (hdb : (x == ("__debug__" : Str)) = false := by decide)
    (he : starEach [e] X.env = (false, eval e X.env) :: starEach [] X.env := by rfl) (hpl : (backTo pos (starEach [] X.env)).any (·.1) = false := by rfl) :
    PS X (.Raise (some (.Call (.Name x p) [e] [] pos)) none pos') (sRaise W (tBad1 C x at1 te)) := by
  obtain ⟨fI, fd, h1, h2, h3, h4⟩ := R.ex
  exact ps_raise hc tk (pmk_bad1 R.ox h1 h2 h3 hr h4 hg R.at_ ha hdb he hpl)
end
section
variable {K : PySem.W.Frag} {ec : Str → Addr} {ns : List Str} {W : WX} {D : Ends} {σ : L2.St} {H : Hp} {C : Addr} {x at1 : Str}
theorem r_raise (h : ∀ d H', Same H H' → H d = none → H' d = some (.xd [("word", .str x)]) → W (.ref C) (some d) σ H') : sRaise W (tBad C x) D σ H := fun d nd => h d _ (same_new nd) nd upd_same
/-- behind the argument of C(e) in a raise -/
def PRz1 (W : WX) (σ : L2.St) (C : Addr) (x at1 : Str) (v : V) (H1 : Hp) : Prop := [v].length ≤ 1000 ∧ ∀ a, H1 a = none → sp_B1 C x at1 (.ref a :: ([v] ++ [])) (upd H1 a (exo a C none)) (fun v H2 => v = .non ∧ ∃ (d : Addr) (fs : List (Str × V)), H2 a = some (exo a C (some d)) ∧ H2 d = some (exd d fs) ∧ H1 d = none ∧ W (.ref C) (some d) σ (upd (del H2 a) d (.xd fs))) (fun _ _ _ => False)
theorem r_raise1 {te : TE} (h : te σ H fun v H1 => PRz1 W σ C x at1 v H1) : sRaise W (tBad1 C x at1 te) D σ H := h
theorem r_prz1 {v : V} (h : ∀ d H', Same H H' → H d = none → H' d = some (.xd [(at1, v), ("word", .str x)]) → W (.ref C) (some d) σ H') : PRz1 W σ C x at1 v H := mk_bad1 (Q := fun cls d H' => W cls d σ H') fun d nd => h d _ (same_new nd) nd upd_same
theorem r_try {Wout : WX} {l : List Cl} {tb : WX → TS} (h : tb (wAll K Wout D l) D σ H) : tTry K Wout l tb D σ H := h
end
theorem r_callW {sp : Sp} {W : WX} {t : TA} {σ : L2.St} {H : Hp} {Q : VK} (h : t σ H fun vs H1 => sp vs H1 Q (fun cls d H' => W cls d σ H')) : tCallW sp W t σ H Q := h
def PEn (K : PySem.W.Frag) (k : Int) (vs : List V) (H1 : Hp) (R : It → Hp → Prop) : Prop := ∃ a xs, vs = [.ref a] ∧ SqT K H1 a xs ∧ R (IteT K a k) H1
theorem r_enT {K : PySem.W.Frag} {k : Int} {ta : TA} {σ : L2.St} {H : Hp} {R : It → Hp → Prop} (h : ta σ H fun vs H1 => PEn K k vs H1 R) : iEnT K k ta σ H R := h
theorem r_pen {K : PySem.W.Frag} {k : Int} {a : Addr} {xs : List V} {H : Hp} {R : It → Hp → Prop} (h : SqT K H a xs) (q : R (IteT K a k) H) : PEn K k [.ref a] H R := ⟨a, xs, rfl, h, q⟩
theorem r_eqS {K : PySem.W.Frag} {x y : Str} {H : Hp} {Q : VK} (q : Q (.bl (decide (x = y))) H) : rEqU K (.str x) (.str y) H Q := .inl ⟨rfl, by
  have e : decide (V.str x = V.str y) = decide (x = y) := by by_cases h : x = y <;> simp [h]
  rw [e]; exact q⟩
theorem r_neS {K : PySem.W.Frag} {x y : Str} {H : Hp} {Q : VK} (q : Q (.bl (!decide (x = y))) H) : rNeU K (.str x) (.str y) H Q := .inl ⟨rfl, by
  have e : decide (V.str x = V.str y) = decide (x = y) := by by_cases h : x = y <;> simp [h]
  rw [e]; exact q⟩
def PTp (K : PySem.W.Frag) (x : V) (H1 : Hp) : Prop := ∃ p xs, x = .ref p ∧ SqT K H1 p xs ∧ NoD H1 p
theorem r_BMT {K : PySem.W.Frag} {r : V → List V → Hp → VK → Prop} {to : TE} {t : TA} {σ : L2.St} {H : Hp} {Q : VK} (h : to σ H fun x H1 => PTp K x H1 ∧ t σ H1 fun xs H2 => r x xs H2 Q) : tBMT K r to t σ H Q := h
theorem r_ptp {K : PySem.W.Frag} {p : Addr} {xs : List V} {H : Hp} {A : Prop} (h : SqT K H p xs) (d : NoD H p) (a : A) : PTp K (.ref p) H ∧ A := ⟨⟨p, xs, rfl, h, d⟩, a⟩
theorem ixN_n {n k : Nat} (h : k < n) : ixN n (k : Int) = some k := by
  unfold ixN
  rw [if_pos (by omega), if_pos (by omega)]
  rfl
theorem map_set {bs : List Int} {k : Nat} {x : Int} : (bs.map V.int).set k (.int x) = (bs.set k x).map V.int := by rw [List.map_set]
section
local macro_rules | `(tactic| walk_at "tk") => `(tactic| first
  | assumption
  | ((with_reducible refine' sqT_of ?k); (case k => assumption))
  | ((with_reducible refine' sqT_ofD ?k); (case k => assumption))
  | ((with_reducible refine' noD_of ?k); (case k => assumption))
  | ((with_reducible refine' noD_same ?s ?k); (case s => assumption); (case k => walk_at "tk"))
  | ((with_reducible refine' sqL_of ?k); (case k => assumption))
  | ((with_reducible refine' sqT_same ?s ?k); (case s => assumption); (case k => walk_at "tk"))
  | ((with_reducible refine' sqL_same ?s ?k); (case s => assumption); (case k => walk_at "tk"))
  | ((with_reducible refine' sqT_but ?s ?t ?k); (case s => assumption); (case t => walk_at "tk"); (case k => walk_at "tk"))
  | ((with_reducible refine' sqL_but ?s ?t ?k); (case s => assumption); (case t => walk_at "ne"); (case k => walk_at "tk"))
  | ((with_reducible refine' sqL_of ?k); (case k => walk_at "tk"))
  | ((with_reducible refine' sqT_of ?k); (case k => walk_at "tk"))
  | ((with_reducible refine' at_same ?s ?k); (case s => assumption); (case k => walk_at "tk"))
  | ((with_reducible refine' at_but ?s ?t ?k); (case s => assumption); (case t => walk_at "ne"); (case k => walk_at "tk")))
local macro_rules | `(tactic| walk_at "ne") => `(tactic| first
  | assumption
  | (refine Ne.symm ?_; assumption)
  | exact ne_of_none (by assumption) (by assumption)
  | exact (ne_of_none (by assumption) (by assumption)).symm)
local macro_rules | `(tactic| walk_at "side") => `(tactic| first
  | assumption
  | omega
  | (simp only [sizeLine_eq, List.length_cons, List.length_nil, List.length_map]; omega)
  | (show _ ≤ sizeLine; decide))
local macro_rules | `(tactic| walk_at "kit") => `(tactic| first
  | (show kitB _ _ = some true; decide +kernel)
  | (show kitB _ _ = some false; decide +kernel))
local macro_rules | `(tactic| walk_at "rng") => `(tactic| first
  | (refine ⟨by omega, by omega, by omega, by omega⟩)
  | (refine ⟨by omega, by omega⟩)
  | ((simp only [List.length_map]); (refine ⟨by omega, by omega, by omega, by omega⟩))
  | ((simp only [List.length_map]); (refine ⟨by omega, by omega⟩)))
local macro_rules | `(tactic| walk_at "rd1") => `(tactic| first
  | with_reducible refine r_seq ?_
  | ((with_reducible refine' r_var ?k0 ?_); (case k0 => rfl))
  | with_reducible refine r_op ?_
  | with_reducible refine r_c ?_
  | with_reducible refine r_asg ?_
  | with_reducible refine r_name ?_
  | with_reducible refine r_cons ?_
  | with_reducible refine r_nil ?_
  | with_reducible refine r_CB ?_
  | with_reducible refine r_if ?_
  | with_reducible refine r_test ?_
  | with_reducible refine r_k ?_
  | with_reducible refine r_T ?_
  | with_reducible refine r_F ?_
  | with_reducible refine r_nT ?_
  | with_reducible refine r_nF ?_
  | with_reducible refine r_ret ?_
  | with_reducible refine r_drop ?_
  | with_reducible refine r_next ?_
  | with_reducible refine r_call ?_
  | with_reducible refine r_addI ?_
  | with_reducible refine r_subI ?_
  | with_reducible refine r_ltI ?_
  | with_reducible refine r_gtI ?_
  | with_reducible refine r_leI ?_
  | with_reducible refine r_geI ?_
  | with_reducible refine r_eqI ?_
  | with_reducible refine r_neI ?_
  | with_reducible refine r_int ?_
  | with_reducible refine r_abs ?_
  | with_reducible refine r_not ?_
  | with_reducible refine r_and ?_
  | with_reducible refine r_or ?_
  | with_reducible refine r_tru ?_
  | with_reducible refine r_truB ?_
  | with_reducible refine r_lst ?_
  | with_reducible refine r_tup ?_
  | with_reducible refine r_BM ?_
  | with_reducible refine r_BM0 ?_
  | with_reducible refine r_tyS ?_
  | with_reducible refine r_gsub ?_
  | with_reducible refine r_then ?_
  | with_reducible refine r_lstRg ?_
  | with_reducible refine r_tupRg ?_
  | with_reducible refine r_rg2 ?_
  | with_reducible refine r_rg1 ?_
  | with_reducible refine r_ii ?_
  | with_reducible refine r_i ?_
  | with_reducible refine r_ipI ?_
  | with_reducible refine r_un ?_
  | with_reducible refine r_neg ?_
  | with_reducible refine r_isN ?_
  | with_reducible refine r_notN ?_
  | with_reducible refine r_notV ?_
  | with_reducible refine r_pnot ?_
  | with_reducible refine r_pif ?_
  | with_reducible refine r_andV ?_
  | with_reducible refine r_orV ?_
  | with_reducible refine r_ifE ?_
  | with_reducible refine r_chain ?_
  | with_reducible refine r_sl ?_
  | with_reducible refine r_noPart ?_
  | with_reducible refine r_part ?_
  | with_reducible refine r_brk ?_
  | with_reducible refine r_cont ?_
  | with_reducible refine r_retN ?_
  | with_reducible refine r_truI ?_
  | with_reducible refine r_B ?_
  | with_reducible refine r_for ?_
  | with_reducible refine r_rng1 ?_
  | with_reducible refine r_rng2 ?_
  | with_reducible refine r_rng3 ?_
  | with_reducible refine r_body ?_
  | with_reducible refine r_lc ?_
  | with_reducible refine r_yes ?_
  | ((with_reducible refine' r_mod ?k0 ?_); (case k0 => walk_at "side"))
  | ((with_reducible refine' r_mulI ?k0 ?_); (case k0 => first | exact Or.inl ⟨by omega, by omega⟩ | exact Or.inr ⟨by omega, by omega⟩))
  | ((with_reducible refine' r_lenL ?k0 ?_); (case k0 => walk_at "tk"))
  | ((with_reducible refine' r_lenT ?k0 ?_); (case k0 => walk_at "tk"))
  | ((with_reducible refine' r_truL ?k0 ?_); (case k0 => walk_at "tk"))
  | ((with_reducible refine' r_truT ?k0 ?_); (case k0 => walk_at "tk"))
  | ((with_reducible refine' r_ixL ?k0 ?k1 ?_); (case k0 => walk_at "tk"); (case k1 => first | assumption | rfl))
  | ((with_reducible refine' r_ixT ?k0 ?k1 ?_); (case k0 => walk_at "tk"); (case k1 => first | assumption | rfl))
  | ((with_reducible refine' r_new ?k0 ?_); (case k0 => walk_at "side"))
  | ((with_reducible refine' r_tyL ?k0 ?_); (case k0 => walk_at "tk"))
  | ((with_reducible refine' r_append ?k0 ?k1 ?_); (case k0 => walk_at "tk"); (case k1 => walk_at "side"))
  | ((with_reducible refine' r_setL ?k0 ?k1 ?_); (case k0 => walk_at "tk"); (case k1 => first | assumption | rfl))
  | ((with_reducible refine' r_kTupL ?k0 ?_); (case k0 => walk_at "tk"))
  | ((with_reducible refine' r_kTupT ?k0 ?_); (case k0 => walk_at "tk"))
  | ((with_reducible refine' r_listL ?k0 ?_); (case k0 => walk_at "tk"))
  | ((with_reducible refine' r_listT ?k0 ?_); (case k0 => walk_at "tk"))
  | ((with_reducible refine' r_aug ?k0 ?_); (case k0 => rfl))
  | ((with_reducible refine' r_lenS ?k0 ?_); (case k0 => walk_at "side"))
  | ((with_reducible refine' r_pop ?k0 ?_); (case k0 => walk_at "tk"))
  | ((with_reducible refine' r_pr1 ?k0 ?_); (case k0 => walk_at "rng"))
  | ((with_reducible refine' r_pr2 ?k0 ?_); (case k0 => walk_at "rng"))
  | ((with_reducible refine' r_pr3d ?k0 ?_); (case k0 => walk_at "rng"))
  | ((with_reducible refine' r_isiI ?k0 ?_); (case k0 => walk_at "kit"))
  | ((with_reducible refine' r_isiB ?k0 ?_); (case k0 => walk_at "kit"))
  | ((with_reducible refine' r_isiS ?k0 ?_); (case k0 => walk_at "kit"))
  | ((with_reducible refine' r_isiN ?k0 ?_); (case k0 => walk_at "kit"))
  | ((with_reducible refine' r_isiT ?k0 ?k1 ?_); (case k0 => walk_at "tk"); (case k1 => walk_at "kit"))
  | ((with_reducible refine r_seqT ?_); (repeat (walk_at "rd1")); ((with_reducible refine' r_pseqT ?k0 ?_); (case k0 => walk_at "tk")))
  | ((with_reducible refine r_seqL ?_); (repeat (walk_at "rd1")); ((with_reducible refine' r_pseqL ?k0 ?_); (case k0 => walk_at "tk")))
  | ((with_reducible refine r_seqS ?_); (repeat (walk_at "rd1")); (with_reducible refine r_pseqS ?_)))
local macro_rules | `(tactic| walk_at "rd") => `(tactic| ((repeat (walk_at "rd1")); (try dsimp only)))
end
end Kb
set_option Elab.async false
set_option linter.all false
set_option maxRecDepth 100000
set_option maxHeartbeats 4000000
namespace Kb
open PySem PySem.Spec PyProof.Rows L2
/-- what a walk asks of a class of objects: the attributes that its instances have -/
structure ClsA (K : PySem.W.Frag) (C : Addr) (as : List Str) : Prop where
  cl : Cls K C
  no : ∀ f ∈ as, NoAttr K C f
/-- a method by its class and name -/
structure MFn (P : Program) (w : World) (K : PySem.W.Frag) (mg : Str → Option Value) (base : Heap) (CX : CXT) (k : Nat) (C : Addr) (m : Str) (ps : List Str) (sp : Sp) : Prop where
  ex : ∃ f fd, FnOk P w K mg base CX k f fd ps sp ∧ Meth K C m f ∧ Binds K fd ps []
  cl : Cls K C
/-- a class that is made, by its name -/
structure KFn (P : Program) (w : World) (K : PySem.W.Frag) (mg : Str → Option Value) (base : Heap) (CX : CXT) (k : Nat) (C : Addr) (x : Str) (ps : List Str) (sp : Sp) : Prop where
  ex : ∃ f fd, FnOk P w K mg base CX k f fd ps sp ∧ Mk K C f ∧ Binds K fd ps []
  at_ : mg x = some (.ref C)
/-- a method's text -/
def MAt (K : PySem.W.Frag) (C : Addr) (m q : Str) (st : Stmt) : Prop := ∃ f fd, Fun K m q st f fd ∧ Meth K C m f
def KAt (K : PySem.W.Frag) (mg : Str → Option Value) (C : Addr) (x q : Str) (st : Stmt) : Prop := ∃ f fd, Fun K "__init__" q st f fd ∧ Mk K C f ∧ mg x = some (.ref C)
section
variable {X : Cx} {CX : CXT} {k : Nat} {ps : List Str} {sp : Sp} {E : XK} {C : Addr} {x m : Str} {p pos apos : Pos} {e o : Expr} {es : List Expr} {t : TA} {ta : TE} {W : WX}
theorem pe_methF {pl : Sem Bool} (G : MFn X.prog X.w X.K X.mg X.base CX k C m ps sp) (ho : PE X o ta) (hr : Room k X.A) (hx : Passes CX X E) (ha : PA X (e :: es) t)
    (hst : starEach (e :: es) X.env = (false, eval e X.env) :: starEach es X.env := by rfl) (hpl : (backTo pos (starEach es X.env)).any (·.1) = false := by rfl)
    (ht : eval (.Call (.Attribute o m apos) (e :: es) [] pos) X.env = (do
      let ov ← eval o X.env
      standAt apos.atName
      let (f, first) ← holding [ov] (getMethod ov m pl)
      callWith pos f first (backTo pos (starEach (e :: es) X.env)) (backToKw pos (keywordEach [] X.env))) := by rfl) :
    PE X (.Call (.Attribute o m apos) (e :: es) [] pos) (tMeth C m sp [] E ta t) := by
  obtain ⟨f, fd, F, hm, hb⟩ := G.ex
  exact pe_meth ho G.cl hm F hr hb .nil hx ha hst hpl ht
theorem pe_methF0 {pl : Sem Bool} (G : MFn X.prog X.w X.K X.mg X.base CX k C m ps sp) (ho : PE X o ta) (hr : Room k X.A) (hx : Passes CX X E)
    (ht : eval (.Call (.Attribute o m apos) [] [] pos) X.env = (do
      let ov ← eval o X.env
      standAt apos.atName
      let (f, first) ← holding [ov] (getMethod ov m pl)
      callWith pos f first (backTo pos (starEach [] X.env)) (backToKw pos (keywordEach [] X.env))) := by rfl) :
    PE X (.Call (.Attribute o m apos) [] [] pos) (tMeth C m sp [] E ta tNil) := by
  obtain ⟨f, fd, F, hm, hb⟩ := G.ex
  exact pe_meth0 ho G.cl hm F hr hb .nil hx ht
theorem pe_makeF (G : KFn X.prog X.w X.K X.mg X.base CX k C x ps sp) (hr : Room (k + 1) X.A) (hg : Gl X x) (hx : Passes CX X E)
    (ha : PA X (e :: es) t) (hdb : (x == ("__debug__" : Str)) = false := by decide) (he : starEach (e :: es) X.env = (false, eval e X.env) :: starEach es X.env := by rfl) (hpl : (backTo pos (starEach es X.env)).any (·.1) = false := by rfl) :
    PE X (.Call (.Name x p) (e :: es) [] pos) (tMake C sp [] E t) := by
  obtain ⟨f, fd, F, M, hb⟩ := G.ex
  exact pe_make M F hr hg G.at_ hb .nil hx ha hdb he hpl
end
section
variable {K : PySem.W.Frag} {D : Ends} {σ : L2.St} {H : Hp} {ta tv : TE} {Q : VK} {C a dx : Addr} {fs : List (Str × V)} {as : List Str} {f m : Str} {v x : V} {sp : Sp} {E : XK} {t : TA}
/-- behind the object of e.f -/
def PFld (K : PySem.W.Frag) (f : Str) (x : V) (H1 : Hp) (Q : VK) : Prop := ∃ a C dx fs v, x = .ref a ∧ H1 a = some (.ins C dx fs) ∧ Cls K C ∧ NoAttr K C f ∧ fs.lookup f = some v ∧ Q v H1
theorem r_fld (h : ta σ H fun x H1 => PFld K f x H1 Q) : tFld K ta f σ H Q := h
theorem r_pfld (A : ClsA K C as) (e : H a = some (.ins C dx fs)) (hf : f ∈ as) (l : fs.lookup f = some v) (q : Q v H) : PFld K f (.ref a) H Q := ⟨a, C, dx, fs, v, rfl, e, A.cl, A.no f hf, l, q⟩
/-- behind both of e.f = value -/
def PSet (K : PySem.W.Frag) (D : Ends) (σ : L2.St) (f : Str) (y x : V) (H2 : Hp) : Prop := ∃ a C dx fs, x = .ref a ∧ H2 a = some (.ins C dx fs) ∧ Cls K C ∧ NoAttr K C f ∧ fs.length < 1000 ∧ D.nx σ (upd H2 a (.ins C dx (putF f y fs)))
theorem r_sfld (h : tv σ H fun y H1 => ta σ H1 fun x H2 => PSet K D σ f y x H2) : sFld K ta tv f D σ H := h
theorem r_pset (A : ClsA K C as) (e : H a = some (.ins C dx fs)) (hf : f ∈ as) (l : fs.length < 1000) (q : ∀ H', But a H H' → H' a = some (.ins C dx (putF f v fs)) → D.nx σ H') : PSet K D σ f v (.ref a) H :=
  ⟨a, C, dx, fs, rfl, e, A.cl, A.no f hf, l, q _ but_upd upd_same⟩
/-- behind the object of o.m(..) -/
def PMeth (C : Addr) (m : Str) (sp : Sp) (E : XK) (t : TA) (σ : L2.St) (x : V) (H1 : Hp) (Q : VK) : Prop := ∃ a dx fs, x = .ref a ∧ H1 a = some (.ins C dx fs) ∧ fs.lookup m = none ∧ t σ H1 fun vs H2 => sp (x :: (vs ++ [])) H2 Q E
theorem r_meth (h : ta σ H fun x H1 => PMeth C m sp E t σ x H1 Q) : tMeth C m sp [] E ta t σ H Q := h
theorem r_pmeth (e : H a = some (.ins C dx fs)) (l : fs.lookup m = none) (q : t σ H fun vs H2 => sp (.ref a :: (vs ++ [])) H2 Q E) : PMeth C m sp E t σ (.ref a) H Q := ⟨a, dx, fs, rfl, e, l, q⟩
/-- behind the arguments of C(..) -/
def PMake (C : Addr) (sp : Sp) (E : XK) (vs : List V) (H1 : Hp) (Q : VK) : Prop := ∀ x dx, H1 x = none → H1 dx = none → dx ≠ x → sp (.ref x :: (vs ++ [])) (upd (upd H1 dx (.own x)) x (.ins C dx [])) (fun v H2 => v = .non ∧ Q (.ref x) H2) E
theorem r_make (h : t σ H fun vs H1 => PMake C sp E vs H1 Q) : tMake C sp [] E t σ H Q := h
theorem r_pmake {vs : List V} (q : ∀ p dx H', H p = none → H dx = none → Same H H' → H' p = some (.ins C dx []) → sp (.ref p :: (vs ++ [])) H' (fun v H2 => v = .non ∧ Q (.ref p) H2) E) : PMake C sp E vs H Q :=
  fun p dx hp hd ne => q p dx _ hp hd (fun b o e => by rw [upd_ne (ne_of_none e hp), upd_ne (ne_of_none e hd)]; exact e) upd_same
end
end Kb
set_option Elab.async false
set_option linter.all false
set_option maxRecDepth 100000
set_option maxHeartbeats 4000000
namespace Kb
open PySem PySem.Spec PyProof.Rows L2
section
variable {K : PySem.W.Frag} {H : Hp} {Q : VK} {E : XK}
theorem pl_same {H H' : Hp} {p : Addr} (s : Same H H') (h : Pl H p) : Pl H' p := by
  obtain ⟨x, y, z, e⟩ := h
  exact ⟨x, y, z, s _ _ e⟩
theorem size_ints : ∀ r : List Int, Dat.sizes (r.map Dat.int) = r.length
  | [] => rfl
  | x :: r => by
    rw [List.map_cons]
    show Dat.size (.int x) + Dat.sizes (r.map Dat.int) = _
    rw [size_ints r, List.length_cons, show Dat.size (.int x) = 1 from rfl, Nat.add_comm]
theorem sm {a b : Addr} {r : List Int} {n : Nat} (h1 : SqT K H a (r.map V.int)) (h2 : SqT K H b (r.map V.int)) (hR : IsRow r n) (hn : n ≤ 12) (q : ∀ H', Same H H' → Q (.bl true) H') : sp_law_same K [.ref a, .ref b] H Q E :=
  ⟨_, _, .tup (r.map .int), rfl, rp_ints h1, rp_ints h2, by show 1 + Dat.sizes (r.map Dat.int) ≤ _; rw [size_ints, hR.1]; omega, q⟩
end
end Kb
set_option Elab.async false
set_option linter.all false
set_option maxRecDepth 100000
set_option maxHeartbeats 4000000
namespace Kb
open PySem PySem.Spec PyProof.Rows L2
/-- t[::k], k being -1 -/
def PRev (K : PySem.W.Frag) (x : V) (k : Option Int) (H : Hp) (Q : VK) : Prop := k = some (-1) ∧ ∃ a xs, x = .ref a ∧ SqT K H a xs ∧ ∀ p, H p = none → Q (.ref p) (upd H p (.tup xs.reverse))
def tRevU (K : PySem.W.Frag) (te : TE) (tk : TO) : TE := fun σ H Q => te σ H fun x H1 => tk σ H1 fun k H2 => PRev K x k H2 Q
/-- x, y = a, b -/
def PPar (vs : List V) (R : V → V → Prop) : Prop := ∃ v w, vs = [v, w] ∧ R v w
theorem r_par {D : Ends} {σ : L2.St} {H : Hp} {i j : Nat} {ta : TA} (h : ta σ H fun vs H1 => PPar vs fun v w => D.nx ((σ.set i (some v)).set j (some w)) H1) : tPar i j ta D σ H := h
theorem r_parV {v w : V} {R : V → V → Prop} (q : R v w) : PPar [v, w] R := ⟨v, w, rfl, q⟩
theorem r_revU {K : PySem.W.Frag} {te : TE} {tk : TO} {σ : L2.St} {H : Hp} {Q : VK} (h : te σ H fun x H1 => tk σ H1 fun k H2 => PRev K x k H2 Q) : tRevU K te tk σ H Q := h
theorem r_prev {K : PySem.W.Frag} {a : Addr} {xs : List V} {H : Hp} {Q : VK} (h : SqT K H a xs) (q : ∀ p H', H p = none → Same H H' → H' p = some (.tup xs.reverse) → Q (.ref p) H') : PRev K (.ref a) (some (-1)) H Q :=
  ⟨rfl, a, xs, rfl, h, fun p np => q p _ np (same_new np) upd_same⟩
end Kb
set_option Elab.async false
set_option linter.all false
set_option maxRecDepth 100000
set_option Elab.async false
set_option linter.all false
set_option maxRecDepth 100000
set_option maxHeartbeats 4000000
namespace Kb
open PySem PySem.Spec PyProof.Rows L2
local macro_rules | `(tactic| walk_at "tk") => `(tactic| first
  | assumption
  | ((with_reducible refine' sqT_of ?k); (case k => assumption))
  | ((with_reducible refine' sqT_ofD ?k); (case k => assumption))
  | ((with_reducible refine' noD_of ?k); (case k => assumption))
  | ((with_reducible refine' noD_same ?s ?k); (case s => assumption); (case k => walk_at "tk"))
  | ((with_reducible refine' sqL_of ?k); (case k => assumption))
  | ((with_reducible refine' sqT_same ?s ?k); (case s => assumption); (case k => walk_at "tk"))
  | ((with_reducible refine' sqL_same ?s ?k); (case s => assumption); (case k => walk_at "tk"))
  | ((with_reducible refine' sqT_but ?s ?t ?k); (case s => assumption); (case t => walk_at "tk"); (case k => walk_at "tk"))
  | ((with_reducible refine' sqL_but ?s ?t ?k); (case s => assumption); (case t => walk_at "ne"); (case k => walk_at "tk"))
  | ((with_reducible refine' sqL_of ?k); (case k => walk_at "tk"))
  | ((with_reducible refine' sqT_of ?k); (case k => walk_at "tk"))
  | ((with_reducible refine' at_same ?s ?k); (case s => assumption); (case k => walk_at "tk"))
  | ((with_reducible refine' at_but ?s ?t ?k); (case s => assumption); (case t => walk_at "ne"); (case k => walk_at "tk")))
local macro_rules | `(tactic| walk_at "ne") => `(tactic| first
  | assumption
  | (refine Ne.symm ?_; assumption)
  | exact ne_of_none (by assumption) (by assumption)
  | exact (ne_of_none (by assumption) (by assumption)).symm)
local macro_rules | `(tactic| walk_at "side") => `(tactic| first
  | assumption
  | omega
  | (simp only [sizeLine_eq, List.length_cons, List.length_nil, List.length_map]; omega)
  | (show _ ≤ sizeLine; decide))
local macro_rules | `(tactic| walk_at "kit") => `(tactic| first
  | (show kitB _ _ = some true; decide +kernel)
  | (show kitB _ _ = some false; decide +kernel))
local macro_rules | `(tactic| walk_at "rng") => `(tactic| first
  | (refine ⟨by omega, by omega, by omega, by omega⟩)
  | (refine ⟨by omega, by omega⟩)
  | ((simp only [List.length_map]); (refine ⟨by omega, by omega, by omega, by omega⟩))
  | ((simp only [List.length_map]); (refine ⟨by omega, by omega⟩)))
local macro_rules | `(tactic| walk_at "rd1") => `(tactic| first
  | with_reducible refine r_seq ?_
  | ((with_reducible refine' r_var ?k0 ?_); (case k0 => rfl))
  | with_reducible refine r_op ?_
  | with_reducible refine r_c ?_
  | with_reducible refine r_asg ?_
  | with_reducible refine r_name ?_
  | with_reducible refine r_cons ?_
  | with_reducible refine r_nil ?_
  | with_reducible refine r_CB ?_
  | with_reducible refine r_if ?_
  | with_reducible refine r_test ?_
  | with_reducible refine r_k ?_
  | with_reducible refine r_T ?_
  | with_reducible refine r_F ?_
  | with_reducible refine r_nT ?_
  | with_reducible refine r_nF ?_
  | with_reducible refine r_ret ?_
  | with_reducible refine r_drop ?_
  | with_reducible refine r_next ?_
  | with_reducible refine r_call ?_
  | with_reducible refine r_addI ?_
  | with_reducible refine r_subI ?_
  | with_reducible refine r_ltI ?_
  | with_reducible refine r_gtI ?_
  | with_reducible refine r_leI ?_
  | with_reducible refine r_geI ?_
  | with_reducible refine r_eqI ?_
  | with_reducible refine r_neI ?_
  | with_reducible refine r_int ?_
  | with_reducible refine r_abs ?_
  | with_reducible refine r_not ?_
  | with_reducible refine r_and ?_
  | with_reducible refine r_or ?_
  | with_reducible refine r_tru ?_
  | with_reducible refine r_truB ?_
  | with_reducible refine r_lst ?_
  | with_reducible refine r_tup ?_
  | with_reducible refine r_BM ?_
  | with_reducible refine r_BM0 ?_
  | with_reducible refine r_tyS ?_
  | with_reducible refine r_gsub ?_
  | with_reducible refine r_then ?_
  | with_reducible refine r_lstRg ?_
  | with_reducible refine r_tupRg ?_
  | with_reducible refine r_rg2 ?_
  | with_reducible refine r_rg1 ?_
  | with_reducible refine r_ii ?_
  | with_reducible refine r_i ?_
  | with_reducible refine r_ipI ?_
  | with_reducible refine r_un ?_
  | with_reducible refine r_neg ?_
  | with_reducible refine r_isN ?_
  | with_reducible refine r_notN ?_
  | with_reducible refine r_notV ?_
  | with_reducible refine r_pnot ?_
  | with_reducible refine r_pif ?_
  | with_reducible refine r_andV ?_
  | with_reducible refine r_orV ?_
  | with_reducible refine r_ifE ?_
  | with_reducible refine r_chain ?_
  | with_reducible refine r_sl ?_
  | with_reducible refine r_noPart ?_
  | with_reducible refine r_part ?_
  | with_reducible refine r_brk ?_
  | with_reducible refine r_cont ?_
  | with_reducible refine r_retN ?_
  | with_reducible refine r_truI ?_
  | with_reducible refine r_B ?_
  | with_reducible refine r_for ?_
  | with_reducible refine r_rng1 ?_
  | with_reducible refine r_rng2 ?_
  | with_reducible refine r_rng3 ?_
  | with_reducible refine r_body ?_
  | with_reducible refine r_lc ?_
  | with_reducible refine r_yes ?_
  | ((with_reducible refine' r_mod ?k0 ?_); (case k0 => walk_at "side"))
  | ((with_reducible refine' r_mulI ?k0 ?_); (case k0 => first | exact Or.inl ⟨by omega, by omega⟩ | exact Or.inr ⟨by omega, by omega⟩))
  | ((with_reducible refine' r_lenL ?k0 ?_); (case k0 => walk_at "tk"))
  | ((with_reducible refine' r_lenT ?k0 ?_); (case k0 => walk_at "tk"))
  | ((with_reducible refine' r_truL ?k0 ?_); (case k0 => walk_at "tk"))
  | ((with_reducible refine' r_truT ?k0 ?_); (case k0 => walk_at "tk"))
  | ((with_reducible refine' r_ixL ?k0 ?k1 ?_); (case k0 => walk_at "tk"); (case k1 => first | assumption | rfl))
  | ((with_reducible refine' r_ixT ?k0 ?k1 ?_); (case k0 => walk_at "tk"); (case k1 => first | assumption | rfl))
  | ((with_reducible refine' r_new ?k0 ?_); (case k0 => walk_at "side"))
  | ((with_reducible refine' r_tyL ?k0 ?_); (case k0 => walk_at "tk"))
  | ((with_reducible refine' r_append ?k0 ?k1 ?_); (case k0 => walk_at "tk"); (case k1 => walk_at "side"))
  | ((with_reducible refine' r_setL ?k0 ?k1 ?_); (case k0 => walk_at "tk"); (case k1 => first | assumption | rfl))
  | ((with_reducible refine' r_kTupL ?k0 ?_); (case k0 => walk_at "tk"))
  | ((with_reducible refine' r_kTupT ?k0 ?_); (case k0 => walk_at "tk"))
  | ((with_reducible refine' r_listL ?k0 ?_); (case k0 => walk_at "tk"))
  | ((with_reducible refine' r_listT ?k0 ?_); (case k0 => walk_at "tk"))
  | ((with_reducible refine' r_aug ?k0 ?_); (case k0 => rfl))
  | ((with_reducible refine' r_lenS ?k0 ?_); (case k0 => walk_at "side"))
  | ((with_reducible refine' r_pop ?k0 ?_); (case k0 => walk_at "tk"))
  | ((with_reducible refine' r_pr1 ?k0 ?_); (case k0 => walk_at "rng"))
  | ((with_reducible refine' r_pr2 ?k0 ?_); (case k0 => walk_at "rng"))
  | ((with_reducible refine' r_pr3d ?k0 ?_); (case k0 => walk_at "rng"))
  | ((with_reducible refine' r_isiI ?k0 ?_); (case k0 => walk_at "kit"))
  | ((with_reducible refine' r_isiB ?k0 ?_); (case k0 => walk_at "kit"))
  | ((with_reducible refine' r_isiS ?k0 ?_); (case k0 => walk_at "kit"))
  | ((with_reducible refine' r_isiN ?k0 ?_); (case k0 => walk_at "kit"))
  | ((with_reducible refine' r_isiT ?k0 ?k1 ?_); (case k0 => walk_at "tk"); (case k1 => walk_at "kit"))
  | ((with_reducible refine r_seqT ?_); (repeat (walk_at "rd1")); ((with_reducible refine' r_pseqT ?k0 ?_); (case k0 => walk_at "tk")))
  | ((with_reducible refine r_seqL ?_); (repeat (walk_at "rd1")); ((with_reducible refine' r_pseqL ?k0 ?_); (case k0 => walk_at "tk")))
  | ((with_reducible refine r_seqS ?_); (repeat (walk_at "rd1")); (with_reducible refine r_pseqS ?_)))
local macro_rules | `(tactic| walk_at "rd") => `(tactic| ((repeat (walk_at "rd1")); (try dsimp only)))
local macro_rules | `(tactic| walk_at "rd1") => `(tactic| first
  | with_reducible refine r_BMT ?_
  | with_reducible refine r_par ?_
  | with_reducible refine r_parV ?_
  | ((with_reducible refine' r_ptp ?k0 ?k1 ?_); (case k0 => walk_at "tk"); (case k1 => walk_at "tk"))
  | with_reducible refine r_eqS ?_
  | with_reducible refine r_neS ?_
  | with_reducible refine r_callW ?_
  | with_reducible refine r_try ?_
  | with_reducible refine r_enT ?_
  | ((with_reducible refine' r_pen ?k0 ?_); (case k0 => walk_at "tk")))
theorem r_gTup2 {K : PySem.W.Frag} {a : Addr} {x y : V} {i j : Nat} {σ : L2.St} {H : Hp} {Q : L2.St → Hp → Prop} (h : SqT K H a [x, y]) (q : Q ((σ.set i (some x)).set j (some y)) H) : gTup K 2 (gCons (gName i) (gCons (gName j) gNil)) (.ref a) σ H Q :=
  ⟨a, [x, y], rfl, h, rfl, _, _, rfl, _, _, rfl, rfl, q⟩
end Kb
set_option Elab.async false
set_option linter.all false
set_option maxRecDepth 100000
set_option maxHeartbeats 4000000
set_option Elab.async false
set_option linter.all false
set_option maxRecDepth 100000
set_option maxHeartbeats 4000000
namespace Kb
open PySem PySem.Spec PyProof.Rows L2 PySem.SeqAt
section
variable {K : PySem.W.Frag} {σ : L2.St} {H : Hp} {te : TE} {Q : VK} {a b : Addr}
theorem r_slLL {xs : List V} {lo hi : Option Int} (h : SqL K H a xs) (k : ∀ p H', H p = none → Same H H' → H' p = some (.lst (cutV xs lo hi)) → Q (.ref p) H') : rSlU K (.ref a) lo hi H Q := .inl ⟨a, xs, rfl, h, fun p hp => k p _ hp (same_new hp) upd_same⟩
theorem r_catL {xs ys : List V} (h1 : H a = some (.lst xs)) (h2 : H b = some (.lst ys)) (hz : xs.length + ys.length ≤ sizeLine) (k : ∀ p H', H p = none → Same H H' → H' p = some (.lst (xs ++ ys)) → Q (.ref p) H') : rAddU K (.ref a) (.ref b) H Q :=
  .inr (.inr (.inl ⟨a, b, xs, ys, rfl, rfl, h1, h2, hz, fun p hp => k p _ hp (same_new hp) upd_same⟩))
theorem cut_from {xs : List V} {k : Nat} (h : k ≤ xs.length) : cutV xs (some (k : Int)) none = xs.drop k := by
  have e : HT.sIx xs.length 0 (some (k : Int)) = k := by rw [HT.sIx_nat]; omega
  have e2 : HT.sIx xs.length xs.length none = xs.length := rfl
  unfold cutV
  rw [e, e2]
  exact List.take_of_length_le (by rw [List.length_drop]; omega)
end
end Kb
set_option Elab.async false
set_option linter.all false
set_option maxRecDepth 100000
set_option maxHeartbeats 4000000
namespace Kb
open PySem PySem.Spec PyProof.Rows L2 SX PySem.Builtin.Str
def IteS (z : Str) (k : Int) : It :=
  ⟨fun i H => i < z.cps.size, fun i H v H' => ∃ T c, v = .ref T ∧ H T = none ∧ H' = upd H T (.tup [.int (k + (i : Nat)), .str ⟨#[c]⟩]) ∧ z.cps[i]? = some c, fun i H => z.cps.size = i⟩
theorem turn_enumS {P : Program} {w : World} {K : PySem.W.Frag} {elts : List Expr} {kk : Nat} {tpos : Pos} (z : Str) (tz : Tok) (e it : Addr) (k : Int) (hal : e ≠ it) :
    Turn P w K (.Tuple elts kk tpos) (IteS z k) [e, it] e (fun i h => (∃ old, IsEnum h e it (k + ((i : Nat) : Int)) old) ∧ h.IsStrIter it (strIterType z) z tz i) where
  mem := by simp
  obj := fun i h st b hb => by
    obtain ⟨⟨old, he⟩, ⟨o, ho, hc, hd⟩⟩ := st
    have e' : b = e ∨ b = it := by simpa using hb
    rcases e' with q | q
    · rw [q]; exact ⟨_, he, fun v q => nomatch q⟩
    · rw [q]; exact ⟨o, ho, fun v q => by rw [hd] at q; cases q⟩
  keep := fun i h h' st k => let ⟨⟨old, he⟩, hi⟩ := st; ⟨⟨old, k e (by simp) _ he⟩, let ⟨o, q, r⟩ := hi; ⟨o, k it (by simp) o q, r⟩⟩
  item := by
    intro X hP hw hK hc i pins s σ H E I hf st hg
    subst hP hw hK
    obtain ⟨⟨old, he⟩, hit⟩ := st
    have hel : e < s.heap.objs.size := Heap.lt_size he
    have hil : it < s.heap.objs.size := by obtain ⟨_, q, _⟩ := hit; exact Heap.lt_size q
    refine wpAny_pyNext_enum_itemC (Draws.text (A := X.A.in1) (I.ok.hd hc) it z tz) he hit hg hal (by simp [hal]) fun x' h' tk hx' ho hs' hT hsz hk => ?_
    obtain ⟨c, u, hcx, rfl⟩ := hx'
    refine ⟨_, rfl, wpAny_letOwnedTupleGo_enum (s := { s with heap := h', toks := tk + 1 }) ho fun h'' he' sb => ?_⟩
    have hT2 : h''.get? s.heap.objs.size = some { cls := .type "tuple", data := .seq #[.int (k + (i : Nat)) tk, .str ⟨#[c]⟩ u] } := (sb.2 _ (Nat.ne_of_gt hel)).trans hT
    have new : ObjOk X.prog X.w (upd H s.heap.objs.size (.tup [.int (k + (i : Nat)), .str ⟨#[c]⟩])) h'' s.heap.objs.size (.tup [.int (k + (i : Nat)), .str ⟨#[c]⟩]) :=
      ⟨by show 2 ≤ sizeLine; decide, [.int (k + (i : Nat)) tk, .str ⟨#[c]⟩ u], .cons ⟨_, rfl⟩ (.cons ⟨_, rfl⟩ .nil), ⟨_, hT2, rfl, _, rfl⟩⟩
    have I1 : Inv X pins σ (upd H s.heap.objs.size (.tup [.int (k + (i : Nat)), .str ⟨#[c]⟩])) { s with heap := h'', toks := tk + 1 } :=
      I.turnedNew (ch := [e, it]) (fun b ob hb q => (sb.2 b (fun z => hb (by simp [z]))).trans (hk b ob (fun z => hb (by simp [z])) (fun z => hb (by simp [z])) q)) hf (Nat.le_refl _) new
    refine ⟨.ref s.heap.objs.size, _, I1, rfl, ⟨_, c, rfl, I.hok.fresh (Nat.le_refl _), rfl, hcx⟩, ⟨⟨.str ⟨#[c]⟩ u, ?_⟩, let ⟨o, q, r⟩ := hs'; ⟨o, (sb.2 it (Ne.symm hal)).trans q, r⟩⟩, fun b hb => ?_⟩
    · have e1 : (k + ((i + 1 : Nat) : Int)) = k + (i : Int) + 1 := by omega
      rw [e1]; exact he'
    · have hb' : b < s.heap.objs.size := by
        have e' : b = e ∨ b = it := by simpa using hb
        rcases e' with q | q
        · rw [q]; exact hel
        · rw [q]; exact hil
      rw [upd_ne (Nat.ne_of_lt hb')]
      exact (hf b hb).1
  done := by
    intro X hP hw hK hc i pins s σ H E I hf st hg
    subst hP hw hK
    obtain ⟨⟨old, he⟩, hit⟩ := st
    have hg : z.cps.size = i := hg
    subst hg
    obtain ⟨f0, f1, f2, f3, f4, f5⟩ := hf it (by simp)
    exact wpAny_pyNext_enum_endD (Draws.text (A := X.A.in1) (I.ok.hd hc) it z tz) he hit fun h' eb => ⟨rfl, I.turned (t' := s.toks) (fun b o hb q => eb b o hb q) f0 f1 f3 f4 f5⟩
  self := fun A i s Q E st h => let ⟨⟨_, he⟩, _⟩ := st; wpAny_pyIter_enum he h
def iEnS (k : Int) (ta : TA) : TI := fun σ H R => ta σ H fun vs H1 => ∃ z, vs = [.str z] ∧ R (IteS z k) H1
section
variable {X : Cx} {e : Expr} {ta : TA} {p pos tpos kp cp : Pos} {elts : List Expr} {kk j : Nat} {k : Int}
theorem enumS_end {pins : List (Addr × Obj)} {σ : L2.St} {H1 : Hp} {s1 : Shared} {R : It → Hp → Prop} {z : Str} {tz : Tok} {h' : Heap} {t' : Nat} (I1 : Inv X pins σ H1 s1) (he : IsEnum h' (s1.heap.objs.size + 1) s1.heap.objs.size k .none)
    (hit : h'.get? s1.heap.objs.size = some { cls := .type (strIterType z), data := .fields #[.str z tz, .int 0 0] }) (hk : ∀ b o, s1.heap.get? b = some o → h'.get? b = some o) (q : R (IteS z k) H1) :
    wpAny (model X.prog X.w) X.A (pyIter (.ref (s1.heap.objs.size + 1))) (PIE X pins σ (.Tuple elts kk tpos) R) X.xe { s1 with heap := h', toks := t' } := by
  refine wpAny_pyIter_enum he ?_
  have I2 : Inv X pins σ H1 { s1 with heap := h', toks := t' } := I1.kept (t' := t') hk
  refine ⟨s1.heap.objs.size + 1, [s1.heap.objs.size + 1, s1.heap.objs.size], _, _, H1, rfl, I2, turn_enumS z tz (s1.heap.objs.size + 1) s1.heap.objs.size k (Nat.succ_ne_self _), ⟨⟨.none, by simpa using he⟩, ⟨_, hit, rfl, rfl⟩⟩, fun b hb => ?_, q⟩
  have e' : b = s1.heap.objs.size + 1 ∨ b = s1.heap.objs.size := by simpa using hb
  have hle : s1.heap.objs.size ≤ b := by
    rcases e' with z | z
    · rw [z]; exact Nat.le_add_right _ _
    · rw [z]; exact Nat.le_refl _
  exact I1.fpOk hle (I1.hok.fresh hle)
theorem pi_enumTxS (hg : Gl X "enumerate") (hm : X.mg "enumerate" = none) (ha : PA X [e] ta) (h0 : -(2 ^ 63) ≤ k) (h1 : k < 2 ^ 63) (hs : starEach [e] X.env = [(false, eval e X.env)] := by rfl)
    (hc : eval (.Call (.Name "enumerate" p) [e] [⟨some "start", .Constant (.int k) j cp, kp⟩] pos) X.env = (do
      callWith pos (← eval (.Name "enumerate" p) X.env) [] (backTo pos (starEach [e] X.env)) (backToKw pos (keywordEach [⟨some "start", .Constant (.int k) j cp, kp⟩] X.env))) := by rfl) :
    PI X (.Tuple elts kk tpos) (.Call (.Name "enumerate" p) [e] [⟨some "start", .Constant (.int k) j cp, kp⟩] pos) (iEnS k ta) := by
  refine ⟨fun pins s σ H R I h => ?_⟩
  rw [hc]
  refine wpAny_bind (ld_blt I hg hm boot_enumerate (callWith_tyKw (thn (ha.run pos pins s σ H _ I h) fun us s1 ⟨vs, H1, I1, r1, q1⟩ => ?_) rfl (by rw [hs] <;> rfl) hs))
  refine thn ((pk_cons (nm := some "start") (kpos := kp) (pe_int (j := j) (pos := cp)) pk_nil).run pos pins s1 σ H1 (fun ws H2 => ws = [.int k] ∧ H2 = H1) I1 ⟨rfl, rfl⟩) fun ks s2 ⟨ws, H2, I2, r2, ew, eH⟩ => ?_
  subst ew
  subst eH
  obtain ⟨z, ex, q⟩ := q1
  subst ex
  cases r1 with
  | cons r rr =>
    cases rr
    obtain ⟨t, rfl⟩ := r
    cases r2 with
    | cons r3 rr =>
      cases rr
      obtain ⟨t3, rfl⟩ := r3
      refine PySem.enum_begins_start (begins_text z t) trivial h0 h1 fun h' he hit hsz hk => ?_
      exact enumS_end (t' := s2.toks) I2 he hit hk q
end
def PEnS (k : Int) (vs : List V) (H : Hp) (R : It → Hp → Prop) : Prop := ∃ z, vs = [.str z] ∧ R (IteS z k) H
section
variable {K : PySem.W.Frag} {D : Ends} {σ : L2.St} {H : Hp} {ta : TA} {te : TE} {tb : TS} {R : It → Hp → Prop} {Q : VK} {z w : Str} {k : Int} {i j : Nat}
theorem r_enS (h : ta σ H fun vs H1 => PEnS k vs H1 R) : iEnS k ta σ H R := h
theorem r_penS (q : R (IteS z k) H) : PEnS k [.str z] H R := ⟨z, rfl, q⟩
/-- for i, c in enumerate(text) -/
theorem r_forEnS (Pv : Nat → L2.St → Hp → Prop) (h0 : Pv 0 σ H)
    (hs : ∀ n c σ' H' H2, z.cps.toList[n]? = some c → Pv n σ' H' → Same H' H2 → tb { D with nx := Pv (n + 1), ct := Pv (n + 1), bk := D.nx } ((σ'.set i (some (.int (k + (n : Int))))).set j (some (.str ⟨#[c]⟩))) H2)
    (hd : ∀ σ' H', Pv z.cps.toList.length σ' H' → D.nx σ' H') : PFor (IteS z k) (gTup K 2 (gCons (gName i) (gCons (gName j) gNil))) tb D σ H := by
  refine ⟨fun n m σ' H' => m = z.cps.size - n ∧ n ≤ z.cps.size ∧ Pv n σ' H', ⟨_, rfl, Nat.zero_le _, h0⟩, ?_⟩
  rintro n m σ' H' ⟨rfl, hn, p⟩
  by_cases hlt : n < z.cps.size
  · refine .inr ⟨hlt, Pv (n + 1), fun σ2 H2 p2 => ⟨_, by omega, rfl, hlt, p2⟩, ?_⟩
    rintro x H2 ⟨T, c, rfl, hT, rfl, hc⟩
    refine ⟨T, [.int (k + (n : Int)), .str ⟨#[c]⟩], rfl, sqT_of upd_same, rfl, ?_⟩
    exact ⟨_, _, rfl, _, _, rfl, rfl, hs n c σ' H' _ (by rw [Array.getElem?_toList]; exact hc) p (same_new hT)⟩
  · have e : n = z.cps.size := by omega
    subst e
    exact .inl ⟨rfl, hd σ' H' (by rw [Array.length_toList]; exact p)⟩
end
def rJoin (K : PySem.W.Frag) : V → List V → Hp → VK → Prop := fun x xs H Q => ∃ a p, ∃ ys : List Str, x = .str a ∧ xs = [.ref p] ∧ (SqL K H p (ys.map V.str) ∨ SqT K H p (ys.map V.str)) ∧ (ys.map (·.length)).sum + ys.length * a.length ≤ 16777216 ∧ Q (.str (Txt.join a ys)) H
def rStrI : List V → Hp → VK → Prop := fun xs H Q => ∃ i, xs = [.int i] ∧ i.natAbs.log2 < 1920 ∧ Q (.str (toString i)) H
section
variable {K : PySem.W.Frag} {H : Hp} {Q : VK} {a : Addr} {z w : Str} {y : V}
theorem joinL_nil : ∀ ys : List (List Nat), TL.joinL [] ys = ys.flatten
  | [] => rfl
  | [a] => by simp [TL.joinL]
  | a :: b :: r => by
    have := joinL_nil (b :: r)
    simp only [TL.joinL, List.flatten_cons] at *
    rw [this]
    simp
/-- ''.join of a list of texts -/
theorem r_join {ys : List (List Nat)} (h : SqL K H a (ys.map fun y => V.str (S y))) (hz : ys.flatten.length ≤ 16777216) (q : Q (.str (S ys.flatten)) H) : rJoin K (.str ⟨#[]⟩) [.ref a] H Q := by
  refine ⟨_, a, ys.map S, rfl, rfl, .inl (by rw [List.map_map]; exact h), ?_, ?_⟩
  · rw [lens, show (⟨#[]⟩ : Str).length = 0 from rfl, Nat.mul_zero, Nat.add_zero]
    rw [List.length_flatten] at hz
    exact hz
  · have := join_S [] ys
    rw [joinL_nil] at this
    rw [show (⟨#[]⟩ : Str) = S [] from rfl, this]
    exact q
end
end Kb
set_option Elab.async false
set_option linter.all false
set_option maxRecDepth 100000
set_option maxHeartbeats 4000000
namespace Kb
open PySem PySem.Spec PyProof.Rows L2 SX
def cutA {α : Type} (xs : List α) (lo hi : Option Int) : List α := (xs.drop (HT.sIx xs.length 0 lo)).take (HT.sIx xs.length xs.length hi - HT.sIx xs.length 0 lo)
section
variable {K : PySem.W.Frag} {H H' : Hp} {Q : VK} {E : XK} {p a b l : Addr} {m : Int} {ns ms : List Int} {xs ys : List V} {lo hi : Option Int}
theorem cut_map {α : Type} (f : α → V) (ns : List α) : cutV (ns.map f) lo hi = (cutA ns lo hi).map f := by
  unfold cutV cutA
  rw [List.length_map, List.map_take, List.map_drop]
theorem cutA_len {α : Type} (ns : List α) : (cutA ns lo hi).length ≤ ns.length := by
  unfold cutA
  rw [List.length_take, List.length_drop]; omega
theorem cutA_whole {α : Type} {ns : List α} (h : HT.sIx ns.length 0 lo = 0 ∧ HT.sIx ns.length ns.length hi = ns.length) : cutA ns lo hi = ns := by
  unfold cutA
  rw [h.1, h.2, List.drop_zero, Nat.sub_zero, List.take_length]
theorem cutA_from {α : Type} {ns : List α} {k : Nat} (h : k ≤ ns.length) : cutA ns (some (k : Int)) none = ns.drop k := by
  unfold cutA
  rw [HT.sIx_nat, HT.sIx_none, Nat.min_eq_left h, List.take_of_length_le (by rw [List.length_drop]; omega)]
/-- a slice of a tuple: the tuple itself or a new one -/
theorem r_slT (h : SqT K H a xs) (q : ∀ p H', Same H H' → SqT K H' p (cutA xs lo hi) → Q (.ref p) H') : rSlU K (.ref a) lo hi H Q := by
  refine .inr (.inl ⟨a, xs, rfl, h, fun z => q a H (Same.refl _) (by rw [cutA_whole z]; exact h), fun _ p hp => q p _ (same_new hp) (sqT_of ?_)⟩)
  rw [upd_same]
  have := cut_map (lo := lo) (hi := hi) id xs
  rw [List.map_id, List.map_id] at this
  rw [this]
theorem r_slI (h : SqT K H a (ns.map V.int)) (q : ∀ p H', Same H H' → SqT K H' p ((cutA ns lo hi).map V.int) → Q (.ref p) H') : rSlU K (.ref a) lo hi H Q :=
  r_slT h fun p H' s e => q p H' s (by rw [← cut_map]; have := cut_map (lo := lo) (hi := hi) id (ns.map V.int); rw [List.map_id, List.map_id] at this; rw [this]; exact e)
theorem r_catTT (h1 : SqT K H a xs) (h2 : SqT K H b ys) (hz : xs.length + ys.length ≤ sizeLine) (q : ∀ p H', Same H H' → SqT K H' p (xs ++ ys) → Q (.ref p) H') : rAddU K (.ref a) (.ref b) H Q := by
  refine .inr (.inr (.inr ⟨a, b, xs, ys, rfl, rfl, h1, h2, hz, fun e => ?_, fun _ e => ?_, fun _ _ p hp => ?_⟩))
  · exact q b H (Same.refl _) (by rw [e]; exact h2)
  · exact q a H (Same.refl _) (by rw [e, List.append_nil]; exact h1)
  · exact q p _ (same_new hp) (sqT_of upd_same)
theorem r_catII (h1 : SqT K H a (ns.map V.int)) (h2 : SqT K H b (ms.map V.int)) (hz : ns.length + ms.length ≤ 16000000) (q : ∀ p H', Same H H' → SqT K H' p ((ns ++ ms).map V.int) → Q (.ref p) H') : rAddU K (.ref a) (.ref b) H Q :=
  r_catTT h1 h2 (by rw [List.length_map, List.length_map, sizeLine_eq]; omega) fun p H' s e => q p H' s (by rw [List.map_append]; exact e)
theorem r_draw (hp : Pl H p) (h0 : 0 < m) (h1 : m < 2 ^ 200) (q : ∀ v H', 0 ≤ v → v < m → But p H H' → Pl H' p → Q (.int v) H') : sp_law_draw K ([.ref p, .int m] ++ []) H Q E := ⟨p, m, rfl, hp, h0, h1, q⟩
theorem sqT_pl (b : But p H H') (hp : Pl H p) (h : SqT K H a xs) : SqT K H' a xs := by
  obtain ⟨x, y, z, e⟩ := hp
  exact sqT_but b e h
theorem ne_pl (hn : H l = none) (hp : Pl H p) : l ≠ p := by
  obtain ⟨x, y, z, e⟩ := hp
  exact (ne_of_none e hn).symm
theorem pl_butL (b : But l H H') (n : p ≠ l) (h : Pl H p) : Pl H' p := by
  obtain ⟨x, y, z, e⟩ := h
  exact ⟨x, y, z, b _ _ n e⟩
theorem free_but (b : But p H H') (n : a ≠ p) (h : H' a = none) : H a = none := by
  cases e : H a with
  | none => rfl
  | some u => rw [b _ _ n e] at h; cases h
theorem rp_pl {v : V} {d : Dat} (b : But p H H') (hp : Pl H p) (h : Rp K H v d) : Rp K H' v d := by
  obtain ⟨x, y, z, e⟩ := hp
  exact rp_but b e h
theorem sqI_of (h : H a = some (.tup (ns.map V.int))) : SqT K H a (ns.map V.int) := sqT_of h
theorem sqI_0 (h : H a = some (.tup [])) : SqT K H a (([] : List Int).map V.int) := sqT_of h
theorem sqI_1 {i : Int} (h : H a = some (.tup [.int i])) : SqT K H a ([i].map V.int) := sqT_of h
theorem sqI_D (h : ∃ o : Obj, H a = some (.frz o (.tup (ns.map V.int))) ∧ o.dict = none) : SqT K H a (ns.map V.int) := sqT_ofD h
theorem S_eqD {a : List Nat} {z : Str} : decide (S a = z) = decide (a = z.cps.toList) := by
  have : S a = z ↔ a = z.cps.toList := ⟨fun h => by rw [← h], fun h => by rw [h]⟩
  exact decide_eq_decide.mpr this
theorem cutS_S (l : List Nat) : cutS (S l) lo hi = S (cutA l lo hi) := by
  unfold cutS cutA
  rw [S_len]
theorem r_slS {l : List Nat} (hz : l.length ≤ 16000000) (q : Q (.str (S (cutA l lo hi))) H) : rSlU K (.str (S l)) lo hi H Q :=
  .inr (.inr ⟨S l, rfl, by rw [S_len, sizeLine_eq]; omega, by rw [cutS_S]; exact q⟩)
theorem r_lenSS {l : List Nat} (hz : l.length ≤ 16000000) (q : Q (.int (l.length : Int)) H) : rLenU K [.str (S l)] H Q := r_lenS (by rw [S_len, sizeLine_eq]; omega) (by rw [S_len]; exact q)
theorem r_addSS {a b : List Nat} (hz : a.length + b.length ≤ 16000000) (q : Q (.str (S (a ++ b))) H) : rAddU K (.str (S a)) (.str (S b)) H Q := r_addS (by rw [S_len, S_len, sizeLine_eq]; omega) (by rw [S_cat]; exact q)
end
end Kb
set_option Elab.async false
set_option linter.all false
set_option maxRecDepth 100000
set_option maxHeartbeats 4000000
namespace Kb
open PySem PySem.Spec PyProof.Rows L2 SX
section
variable {K : PySem.W.Frag} {D : Ends} {σ : L2.St} {H H' : Hp} {ta tv te : TE} {Q : VK} {C a dx : Addr} {fs fs' r r' : List (Str × V)} {as : List Str} {f k m : Str} {v x y : V} {i : Nat}
theorem lk_here : List.lookup k ((k, v) :: r) = some v := by rw [List.lookup_cons, BEq.rfl]
theorem lk_next {o : Option V} (h : (k == f) = false) (n : List.lookup k r = o) : List.lookup k ((f, v) :: r) = o := by rw [List.lookup_cons, h]; exact n
theorem lk_nil : List.lookup k ([] : List (Str × V)) = none := rfl
theorem pf_nil : putF f y [] = [(f, y)] := rfl
theorem pf_here : putF f y ((f, v) :: r) = (f, y) :: r := by unfold putF; rw [if_pos rfl]
theorem pf_next (h : ¬ k = f) (n : putF f y r = r') : putF f y ((k, v) :: r) = (k, v) :: r' := by
  conv => lhs; unfold putF
  rw [if_neg h, n]
theorem r_pset2 (e : H a = some (.ins C dx fs)) (A : ClsA K C as) (hf : f ∈ as) (l : fs.length < 1000) (p : putF f v fs = fs') (q : ∀ H', But a H H' → H' a = some (.ins C dx fs') → D.nx σ H') : PSet K D σ f v (.ref a) H :=
  r_pset A e hf l (by rw [p]; exact q)
theorem r_pfld2 (e : H a = some (.ins C dx fs)) (A : ClsA K C as) (hf : f ∈ as) (l : fs.lookup f = some v) (q : Q v H) : PFld K f (.ref a) H Q := r_pfld A e hf l q
def rAddA : V → V → Hp → VK → Prop := fun x y H Q => (∃ i j, x = .int i ∧ y = .int j ∧ Q (.int (i + j)) H) ∨ ∃ i j, x = .str i ∧ y = .str j ∧ i.length + j.length ≤ sizeLine ∧ Q (.str (i ++ j)) H
theorem in_addA {X : Cx} : InOp X .Add rAddA := fun pins s σ H x y u v Q I rx ry h => by
  rcases h with h | h
  · exact in_add pins s σ H x y u v Q I rx ry h
  · exact in_addS pins s σ H x y u v Q I rx ry h
def ipS : TIp := fun x y H Q => ∃ i j, x = .str i ∧ y = .str j ∧ i.length + j.length ≤ sizeLine ∧ Q (.str (i ++ j)) H
theorem ip_addS {X : Cx} : PIp X .Add ipS := fun pins s σ H x y v u Q I r1 r2 h => iop_add_str pins s σ H x y v u Q I r1 r2 h
theorem r_ipS {z w : Str} (hz : z.length + w.length ≤ sizeLine) (q : Q (.str (z ++ w)) H) : ipS (.str z) (.str w) H Q := ⟨z, w, rfl, rfl, hz, q⟩
/-- behind the object of a.f += e -/
def PFAug (K : PySem.W.Frag) (D : Ends) (σ : L2.St) (tv : TE) (f : Str) (x : V) (H1 : Hp) : Prop := ∃ a C dx fs v, x = .ref a ∧ H1 a = some (.ins C dx fs) ∧ Cls K C ∧ NoAttr K C f ∧ fs.lookup f = some v ∧
  tv σ H1 fun y H2 => rAddA v y H2 fun z H3 => ∃ dx' fs', H3 a = some (.ins C dx' fs') ∧ fs'.length < 1000 ∧ D.nx σ (upd H3 a (.ins C dx' (putF f z fs')))
theorem r_fldaug (h : ta σ H fun x H1 => PFAug K D σ tv f x H1) : sFldAug K ta tv rAddA f D σ H := h
theorem r_pfaug (e : H a = some (.ins C dx fs)) (A : ClsA K C as) (hf : f ∈ as) (l : fs.lookup f = some v)
    (q : tv σ H fun y H2 => rAddA v y H2 fun z H3 => ∃ dx' fs', H3 a = some (.ins C dx' fs') ∧ fs'.length < 1000 ∧ D.nx σ (upd H3 a (.ins C dx' (putF f z fs')))) : PFAug K D σ tv f (.ref a) H :=
  ⟨a, C, dx, fs, v, rfl, e, A.cl, A.no f hf, l, q⟩
def rIntTx : List V → Hp → VK → Prop := fun xs H Q => ∃ a n, xs = [.str a] ∧ PySem.intText? a = some n ∧ a.length ≤ 640 ∧ Q (.int n) H
theorem r_intTx {z : Str} {n : Int} (h : PySem.intText? z = some n) (hl : z.length ≤ 640) (q : Q (.int n) H) : rIntTx [.str z] H Q := ⟨z, n, rfl, h, hl, q⟩
end
/-- the signs of a number's digits -/
def digL (n : Nat) : List Nat := (Nat.toDigits 10 n).map Char.toNat
theorem toS_nat (n : Nat) : (toString ((n : Nat) : Int) : Str) = S (digL n) := by
  have h := PySem.W.KIN.signs_num n
  show PySem.Str.ofString (toString ((n : Nat) : Int)) = S (digL n)
  show PySem.Str.ofString (toString ((n : Nat) : Int)) = ⟨(digL n).toArray⟩
  unfold digL
  rw [← h]
theorem digL_lt {d : Nat} (h : d < 10) : digL d = [48 + d] := by
  unfold digL
  rw [Nat.toDigits_of_lt_base h]
  have : ∀ d, d < 10 → [d.digitChar].map Char.toNat = [48 + d] := by decide
  exact this d h
theorem digL_snoc {m d : Nat} (hm : 0 < m) (h : d < 10) : digL (10 * m + d) = digL m ++ [48 + d] := by
  have t : Nat.toDigits 10 m ++ Nat.toDigits 10 d = Nat.toDigits 10 (10 * m + d) := Nat.toDigits_append_toDigits (by decide) hm h
  rw [← digL_lt h]
  unfold digL
  rw [← t, List.map_append]
theorem digL_back {n : Nat} (h : n < 10 ^ 10) : PySem.intText? (S (digL n)) = some (n : Int) := by
  have := PySem.W.KIN.num_reads (n := (n : Int)) (by omega) (by omega)
  rw [← toS_nat]
  exact this
theorem digL_ne (n : Nat) : digL n ≠ [] := by
  intro h
  have h1 : Nat.toDigits 10 n = [] := List.map_eq_nil_iff.mp h
  exact absurd h1 (by
    intro h2
    have := Nat.toDigits_ne_nil (b := 10) (n := n)
    exact this h2)
theorem digL_len1 {n : Nat} (h : n < 10) : (digL n).length = 1 := by rw [digL_lt h]; rfl
theorem digL_div {n : Nat} (h : 10 ≤ n) : digL n = digL (n / 10) ++ [48 + n % 10] := by
  rw [← digL_snoc (by omega) (Nat.mod_lt n (by decide)), Nat.div_add_mod]
theorem digL_len {n k : Nat} (h : n < 10 ^ (k + 1)) : (digL n).length ≤ k + 1 := by
  induction k generalizing n with
  | zero => rw [digL_len1 (by omega)]; omega
  | succ k ih =>
    by_cases h1 : n < 10
    · rw [digL_len1 h1]; omega
    · rw [digL_div (by omega), List.length_append]
      have := ih (n := n / 10) (by rw [Nat.pow_succ] at h; omega)
      simp only [List.length_singleton]; omega
theorem digL_len_ge {n k : Nat} (h : 10 ^ k ≤ n) : k + 1 ≤ (digL n).length := by
  induction k generalizing n with
  | zero =>
    have := List.length_pos_iff.mpr (digL_ne n)
    omega
  | succ k ih =>
    have h1 : 10 ≤ n := Nat.le_trans (by rw [Nat.pow_succ]; have := Nat.pow_pos (n := k) (show 0 < 10 by decide); omega) h
    rw [digL_div h1, List.length_append]
    have := ih (n := n / 10) (by rw [Nat.pow_succ] at h; omega)
    simp only [List.length_singleton]; omega
end Kb
set_option Elab.async false
set_option linter.all false
set_option maxRecDepth 100000
set_option maxHeartbeats 4000000
namespace Kb
open PySem PySem.Spec PyProof.Rows L2 SX
def smallL : List Nat := (List.range 26).map (· + 97)
def largeL : List Nat := (List.range 26).map (· + 65)
def bothL : List Nat := smallL ++ largeL
def isDig (c : Nat) : Bool := decide (48 ≤ c) && decide (c ≤ 57)
/-- the text of the digits read: none is 0 -/
def dgS (n : Nat) : List Nat := if n = 0 then [] else digL n
def cntN (n : Nat) : Nat := if n = 0 then 1 else n
def nodeD (k : Nat) (d : Dat) : Dat := .tup [.int (k : Int), d]
structure RS where
  al : List Nat
  dg : Nat
  fd : List Dat
  op : List (Nat × List Dat)
def RS.step (r : RS) (c : Nat) : Option RS :=
  if isDig c then (if (c = 48 ∧ r.dg = 0) ∨ 1000 ≤ r.dg then none else some { r with dg := 10 * r.dg + (c - 48) })
  else if r.dg = 1 then none
  else if c ∈ r.al then some { al := if c ∈ smallL then smallL else largeL, dg := 0, fd := r.fd ++ [nodeD (cntN r.dg) (.str (S [c]))], op := r.op }
  else if c = 40 then (if r.dg = 0 ∨ r.op.length = 6 then none else some { r with dg := 0, fd := [], op := r.op ++ [(cntN r.dg, r.fd)] })
  else if c = 41 then (if r.dg ≠ 0 ∨ r.fd = [] then none else match r.op.getLast? with
    | none => none
    | some (k, b) => some { r with fd := b ++ [nodeD k (.tup r.fd)], op := r.op.dropLast })
  else none
def RS.whole (r : RS) : Bool := decide (r.dg = 0) && (r.op.isEmpty && !r.fd.isEmpty)
def RS.start (al : List Nat) : RS := ⟨al, 0, [], []⟩
/-- reading on from the column: the first wrong column, or the state behind the text -/
def RS.go (r : RS) (col : Nat) : List Nat → Sum Nat RS
  | [] => .inr r
  | c :: l => match r.step c with
    | none => .inl col
    | some r' => r'.go (col + 1) l
def rdT (al l : List Nat) : Sum Nat RS := match (RS.start al).go 1 l with
  | .inl c => .inl c
  | .inr r => if r.whole then .inr r else .inl (l.length + 1)
mutual
def szD : Dat → Int
  | .tup ds => szL ds
  | _ => 1
def szL : List Dat → Int
  | [] => 0
  | d :: r => szI d + szL r
def szI : Dat → Int
  | .tup [.int k, d] => k * szD d
  | _ => 0
end
theorem szL_cat : ∀ a b : List Dat, szL (a ++ b) = szL a + szL b
  | [], b => by simp [szL]
  | d :: a, b => by rw [List.cons_append, szL, szL, szL_cat a b]; omega
theorem szI_node (k : Nat) (d : Dat) : szI (nodeD k d) = k * szD d := by unfold nodeD; rw [szI]
theorem szL_one (d : Dat) : szL [d] = szI d := by rw [szL, szL]; omega
def letL (c : Nat) : Prop := c ∈ bothL
/-- nodes with brackets to a depth of n - 1 -/
def WfN : Nat → List Dat → Prop
  | 0, ds => ds = []
  | n + 1, ds => ∀ d ∈ ds, ∃ k w, d = nodeD k w ∧ 1 ≤ k ∧ k ≤ 9999 ∧ ((∃ c, w = .str (S [c]) ∧ letL c) ∨ ∃ es, w = .tup es ∧ es ≠ [] ∧ WfN n es)
theorem WfN.nil : ∀ n, WfN n []
  | 0 => rfl
  | _ + 1 => fun _ h => nomatch h
theorem WfN.cat {n : Nat} {a b : List Dat} (ha : WfN (n + 1) a) (hb : WfN (n + 1) b) : WfN (n + 1) (a ++ b) := fun d hd => by
  rcases List.mem_append.mp hd with h | h
  · exact ha d h
  · exact hb d h
/-- the state is one that a reader may have -/
structure RS.Ok (r : RS) : Prop where
  dg : r.dg ≤ 9999
  op : r.op.length ≤ 6
  al : r.al = smallL ∨ r.al = largeL ∨ r.al = bothL
  fd : WfN (7 - r.op.length) r.fd
  ob : ∀ i k ds, r.op[i]? = some (k, ds) → 1 ≤ k ∧ k ≤ 9999 ∧ WfN (7 - i) ds
theorem bothL_small {c : Nat} (h : c ∈ smallL) : c ∈ bothL := List.mem_append.mpr (.inl h)
theorem bothL_large {c : Nat} (h : c ∈ largeL) : c ∈ bothL := List.mem_append.mpr (.inr h)
theorem cntN_ok {n : Nat} (h : n ≤ 9999) : 1 ≤ cntN n ∧ cntN n ≤ 9999 := by unfold cntN; split <;> omega
theorem RS.Ok.start {al : List Nat} (h : al = smallL ∨ al = largeL ∨ al = bothL) : (RS.start al).Ok := ⟨by simp [RS.start], by simp [RS.start], h, WfN.nil _, fun i k ds e => by simp [RS.start] at e⟩
theorem RS.Ok.let {r : RS} (h : r.Ok) {c : Nat} (hc : c ∈ r.al) : letL c := by
  rcases h.al with e | e | e <;> rw [e] at hc
  · exact bothL_small hc
  · exact bothL_large hc
  · exact hc
theorem RS.Ok.step {r r' : RS} (h : r.Ok) {c : Nat} (e : r.step c = some r') : r'.Ok := by
  unfold RS.step at e
  split at e
  · rename_i hd
    split at e
    · cases e
    · cases e
      rename_i hn
      unfold isDig at hd
      simp only [Bool.and_eq_true, decide_eq_true_eq] at hd
      exact ⟨by show 10 * r.dg + (c - 48) ≤ 9999; omega, h.op, h.al, h.fd, h.ob⟩
  split at e
  · cases e
  split at e
  · rename_i hc
    cases e
    have hl := h.op
    refine ⟨Nat.zero_le _, h.op, ?_, ?_, h.ob⟩
    · show (if c ∈ smallL then smallL else largeL) = _ ∨ _
      split
      · exact .inl rfl
      · exact .inr (.inl rfl)
    · show WfN (7 - r.op.length) _
      have h7 : 7 - r.op.length = (6 - r.op.length) + 1 := by omega
      have hf := h.fd
      rw [h7] at hf ⊢
      refine hf.cat fun d hd => ?_
      rw [List.mem_singleton] at hd
      exact ⟨_, _, hd, (cntN_ok h.dg).1, (cntN_ok h.dg).2, .inl ⟨c, rfl, h.let hc⟩⟩
  split at e
  · split at e
    · cases e
    · rename_i hn
      cases e
      have hl := h.op
      refine ⟨Nat.zero_le _, ?_, h.al, WfN.nil _, fun i k ds e => ?_⟩
      · show (r.op ++ [_]).length ≤ 6
        rw [List.length_append, List.length_singleton]; omega
      · by_cases hi : i < r.op.length
        · exact h.ob i k ds (by rw [← e]; exact (List.getElem?_append_left hi).symm)
        · have e : (r.op ++ [(cntN r.dg, r.fd)])[i]? = some (k, ds) := e
          rw [List.getElem?_append_right (by omega)] at e
          have h0 : i - r.op.length = 0 := by
            by_cases z : i - r.op.length = 0
            · exact z
            · rw [List.getElem?_singleton, if_neg z] at e; cases e
          rw [h0] at e
          cases e
          have : i = r.op.length := by omega
          subst this
          exact ⟨(cntN_ok h.dg).1, (cntN_ok h.dg).2, h.fd⟩
  split at e
  · split at e
    · cases e
    · rename_i hn
      split at e
      · cases e
      · rename_i k b hl
        cases e
        have hne : r.op ≠ [] := fun z => by rw [z] at hl; cases hl
        have hpos : 0 < r.op.length := List.length_pos_iff.mpr hne
        have hl2 : r.op[r.op.length - 1]? = some (k, b) := by rw [← List.getLast?_eq_getElem?]; exact hl
        obtain ⟨h1, h2, h3⟩ := h.ob _ _ _ hl2
        have hop := h.op
        refine ⟨h.dg, by show r.op.dropLast.length ≤ 6; rw [List.length_dropLast]; omega, h.al, ?_, fun i k' ds e => ?_⟩
        · show WfN (7 - r.op.dropLast.length) _
          rw [List.length_dropLast]
          have h7 : 7 - (r.op.length - 1) = (7 - r.op.length) + 1 := by omega
          rw [h7] at h3 ⊢
          refine h3.cat fun d hd => ?_
          rw [List.mem_singleton] at hd
          exact ⟨k, _, hd, h1, h2, .inr ⟨_, rfl, (by rintro z; exact hn (.inr z)), h.fd⟩⟩
        · have e : r.op.dropLast[i]? = some (k', ds) := e
          rw [List.getElem?_dropLast] at e
          split at e
          · exact h.ob i k' ds e
          · cases e
  · cases e
end Kb
set_option Elab.async false
set_option linter.all false
set_option maxRecDepth 100000
set_option maxHeartbeats 4000000
namespace Kb
open PySem PySem.Spec PyProof.Rows L2 SX
local macro_rules | `(tactic| walk_at "tk") => `(tactic| first
  | assumption
  | ((with_reducible refine' sqT_of ?k); (case k => assumption))
  | ((with_reducible refine' sqT_ofD ?k); (case k => assumption))
  | ((with_reducible refine' noD_of ?k); (case k => assumption))
  | ((with_reducible refine' noD_same ?s ?k); (case s => assumption); (case k => walk_at "tk"))
  | ((with_reducible refine' sqL_of ?k); (case k => assumption))
  | ((with_reducible refine' sqT_same ?s ?k); (case s => assumption); (case k => walk_at "tk"))
  | ((with_reducible refine' sqL_same ?s ?k); (case s => assumption); (case k => walk_at "tk"))
  | ((with_reducible refine' sqT_but ?s ?t ?k); (case s => assumption); (case t => walk_at "tk"); (case k => walk_at "tk"))
  | ((with_reducible refine' sqL_but ?s ?t ?k); (case s => assumption); (case t => walk_at "ne"); (case k => walk_at "tk"))
  | ((with_reducible refine' sqL_of ?k); (case k => walk_at "tk"))
  | ((with_reducible refine' sqT_of ?k); (case k => walk_at "tk"))
  | ((with_reducible refine' at_same ?s ?k); (case s => assumption); (case k => walk_at "tk"))
  | ((with_reducible refine' at_but ?s ?t ?k); (case s => assumption); (case t => walk_at "ne"); (case k => walk_at "tk")))
local macro_rules | `(tactic| walk_at "ne") => `(tactic| first
  | assumption
  | (refine Ne.symm ?_; assumption)
  | exact ne_of_none (by assumption) (by assumption)
  | exact (ne_of_none (by assumption) (by assumption)).symm)
local macro_rules | `(tactic| walk_at "side") => `(tactic| first
  | assumption
  | omega
  | (simp only [sizeLine_eq, List.length_cons, List.length_nil, List.length_map]; omega)
  | (show _ ≤ sizeLine; decide))
local macro_rules | `(tactic| walk_at "kit") => `(tactic| first
  | (show kitB _ _ = some true; decide +kernel)
  | (show kitB _ _ = some false; decide +kernel))
local macro_rules | `(tactic| walk_at "rng") => `(tactic| first
  | (refine ⟨by omega, by omega, by omega, by omega⟩)
  | (refine ⟨by omega, by omega⟩)
  | ((simp only [List.length_map]); (refine ⟨by omega, by omega, by omega, by omega⟩))
  | ((simp only [List.length_map]); (refine ⟨by omega, by omega⟩)))
local macro_rules | `(tactic| walk_at "rd1") => `(tactic| first
  | with_reducible refine r_seq ?_
  | ((with_reducible refine' r_var ?k0 ?_); (case k0 => rfl))
  | with_reducible refine r_op ?_
  | with_reducible refine r_c ?_
  | with_reducible refine r_asg ?_
  | with_reducible refine r_name ?_
  | with_reducible refine r_cons ?_
  | with_reducible refine r_nil ?_
  | with_reducible refine r_CB ?_
  | with_reducible refine r_if ?_
  | with_reducible refine r_test ?_
  | with_reducible refine r_k ?_
  | with_reducible refine r_T ?_
  | with_reducible refine r_F ?_
  | with_reducible refine r_nT ?_
  | with_reducible refine r_nF ?_
  | with_reducible refine r_ret ?_
  | with_reducible refine r_drop ?_
  | with_reducible refine r_next ?_
  | with_reducible refine r_call ?_
  | with_reducible refine r_addI ?_
  | with_reducible refine r_subI ?_
  | with_reducible refine r_ltI ?_
  | with_reducible refine r_gtI ?_
  | with_reducible refine r_leI ?_
  | with_reducible refine r_geI ?_
  | with_reducible refine r_eqI ?_
  | with_reducible refine r_neI ?_
  | with_reducible refine r_int ?_
  | with_reducible refine r_abs ?_
  | with_reducible refine r_not ?_
  | with_reducible refine r_and ?_
  | with_reducible refine r_or ?_
  | with_reducible refine r_tru ?_
  | with_reducible refine r_truB ?_
  | with_reducible refine r_lst ?_
  | with_reducible refine r_tup ?_
  | with_reducible refine r_BM ?_
  | with_reducible refine r_BM0 ?_
  | with_reducible refine r_tyS ?_
  | with_reducible refine r_gsub ?_
  | with_reducible refine r_then ?_
  | with_reducible refine r_lstRg ?_
  | with_reducible refine r_tupRg ?_
  | with_reducible refine r_rg2 ?_
  | with_reducible refine r_rg1 ?_
  | with_reducible refine r_ii ?_
  | with_reducible refine r_i ?_
  | with_reducible refine r_ipI ?_
  | with_reducible refine r_un ?_
  | with_reducible refine r_neg ?_
  | with_reducible refine r_isN ?_
  | with_reducible refine r_notN ?_
  | with_reducible refine r_notV ?_
  | with_reducible refine r_pnot ?_
  | with_reducible refine r_pif ?_
  | with_reducible refine r_andV ?_
  | with_reducible refine r_orV ?_
  | with_reducible refine r_ifE ?_
  | with_reducible refine r_chain ?_
  | with_reducible refine r_sl ?_
  | with_reducible refine r_noPart ?_
  | with_reducible refine r_part ?_
  | with_reducible refine r_brk ?_
  | with_reducible refine r_cont ?_
  | with_reducible refine r_retN ?_
  | with_reducible refine r_truI ?_
  | with_reducible refine r_B ?_
  | with_reducible refine r_for ?_
  | with_reducible refine r_rng1 ?_
  | with_reducible refine r_rng2 ?_
  | with_reducible refine r_rng3 ?_
  | with_reducible refine r_body ?_
  | with_reducible refine r_lc ?_
  | with_reducible refine r_yes ?_
  | ((with_reducible refine' r_mod ?k0 ?_); (case k0 => walk_at "side"))
  | ((with_reducible refine' r_mulI ?k0 ?_); (case k0 => first | exact Or.inl ⟨by omega, by omega⟩ | exact Or.inr ⟨by omega, by omega⟩))
  | ((with_reducible refine' r_lenL ?k0 ?_); (case k0 => walk_at "tk"))
  | ((with_reducible refine' r_lenT ?k0 ?_); (case k0 => walk_at "tk"))
  | ((with_reducible refine' r_truL ?k0 ?_); (case k0 => walk_at "tk"))
  | ((with_reducible refine' r_truT ?k0 ?_); (case k0 => walk_at "tk"))
  | ((with_reducible refine' r_ixL ?k0 ?k1 ?_); (case k0 => walk_at "tk"); (case k1 => first | assumption | rfl))
  | ((with_reducible refine' r_ixT ?k0 ?k1 ?_); (case k0 => walk_at "tk"); (case k1 => first | assumption | rfl))
  | ((with_reducible refine' r_new ?k0 ?_); (case k0 => walk_at "side"))
  | ((with_reducible refine' r_tyL ?k0 ?_); (case k0 => walk_at "tk"))
  | ((with_reducible refine' r_append ?k0 ?k1 ?_); (case k0 => walk_at "tk"); (case k1 => walk_at "side"))
  | ((with_reducible refine' r_setL ?k0 ?k1 ?_); (case k0 => walk_at "tk"); (case k1 => first | assumption | rfl))
  | ((with_reducible refine' r_kTupL ?k0 ?_); (case k0 => walk_at "tk"))
  | ((with_reducible refine' r_kTupT ?k0 ?_); (case k0 => walk_at "tk"))
  | ((with_reducible refine' r_listL ?k0 ?_); (case k0 => walk_at "tk"))
  | ((with_reducible refine' r_listT ?k0 ?_); (case k0 => walk_at "tk"))
  | ((with_reducible refine' r_aug ?k0 ?_); (case k0 => rfl))
  | ((with_reducible refine' r_lenS ?k0 ?_); (case k0 => walk_at "side"))
  | ((with_reducible refine' r_pop ?k0 ?_); (case k0 => walk_at "tk"))
  | ((with_reducible refine' r_pr1 ?k0 ?_); (case k0 => walk_at "rng"))
  | ((with_reducible refine' r_pr2 ?k0 ?_); (case k0 => walk_at "rng"))
  | ((with_reducible refine' r_pr3d ?k0 ?_); (case k0 => walk_at "rng"))
  | ((with_reducible refine' r_isiI ?k0 ?_); (case k0 => walk_at "kit"))
  | ((with_reducible refine' r_isiB ?k0 ?_); (case k0 => walk_at "kit"))
  | ((with_reducible refine' r_isiS ?k0 ?_); (case k0 => walk_at "kit"))
  | ((with_reducible refine' r_isiN ?k0 ?_); (case k0 => walk_at "kit"))
  | ((with_reducible refine' r_isiT ?k0 ?k1 ?_); (case k0 => walk_at "tk"); (case k1 => walk_at "kit"))
  | ((with_reducible refine r_seqT ?_); (repeat (walk_at "rd1")); ((with_reducible refine' r_pseqT ?k0 ?_); (case k0 => walk_at "tk")))
  | ((with_reducible refine r_seqL ?_); (repeat (walk_at "rd1")); ((with_reducible refine' r_pseqL ?k0 ?_); (case k0 => walk_at "tk")))
  | ((with_reducible refine r_seqS ?_); (repeat (walk_at "rd1")); (with_reducible refine r_pseqS ?_)))
local macro_rules | `(tactic| walk_at "rd") => `(tactic| ((repeat (walk_at "rd1")); (try dsimp only)))
local macro_rules | `(tactic| walk_at "rd1") => `(tactic| first
  | with_reducible refine r_BMT ?_
  | with_reducible refine r_par ?_
  | with_reducible refine r_parV ?_
  | ((with_reducible refine' r_ptp ?k0 ?k1 ?_); (case k0 => walk_at "tk"); (case k1 => walk_at "tk"))
  | with_reducible refine r_eqS ?_
  | with_reducible refine r_neS ?_
  | with_reducible refine r_callW ?_
  | with_reducible refine r_try ?_
  | with_reducible refine r_enT ?_
  | ((with_reducible refine' r_pen ?k0 ?_); (case k0 => walk_at "tk")))
local macro_rules | `(tactic| walk_at "lk") => `(tactic| first
  | exact lk_here
  | exact lk_nil
  | ((refine' lk_next ?h ?n); (case h => decide +kernel); (case n => walk_at "lk")))
local macro_rules | `(tactic| walk_at "pf") => `(tactic| first
  | exact pf_here
  | exact pf_nil
  | ((refine' pf_next ?h ?n); (case h => decide +kernel); (case n => walk_at "pf")))
local macro_rules | `(tactic| walk_at "rd1") => `(tactic| first
  | with_reducible refine r_fld ?_
  | with_reducible refine r_sfld ?_
  | with_reducible refine r_meth ?_
  | with_reducible refine r_make ?_
  | with_reducible refine r_fldaug ?_
  | ((with_reducible refine' r_pfld2 ?e ?A ?f ?l ?_); (case e => walk_at "tk"); (case A => assumption); (case f => decide +kernel); (case l => walk_at "lk"))
  | ((with_reducible refine' r_pset2 ?e ?A ?f ?l ?p ?_); (case e => walk_at "tk"); (case A => assumption); (case f => decide +kernel); (case l => exact Nat.le_of_ble_eq_true rfl); (case p => walk_at "pf"))
  | ((with_reducible refine' r_pmeth ?e ?l ?_); (case e => walk_at "tk"); (case l => walk_at "lk"))
  | with_reducible refine r_pmake ?_)
abbrev at_Tree : List Str := ["text", "nodes", "courses", "count"]
abbrev at_TreeReader : List Str := ["allowed", "digits", "found", "opened"]
theorem digits_L : ("0123456789" : Str).cps.toList = (List.range 10).map (· + 48) := by decide +kernel
theorem small_L : ("abcdefghijklmnopqrstuvwxyz" : Str) = S smallL := by decide +kernel
theorem large_L : ("ABCDEFGHIJKLMNOPQRSTUVWXYZ" : Str) = S largeL := by decide +kernel
theorem both_L : ("abcdefghijklmnopqrstuvwxyz" : Str) ++ ("ABCDEFGHIJKLMNOPQRSTUVWXYZ" : Str) = S bothL := by decide +kernel
theorem isDig_iff {c : Nat} : c ∈ ("0123456789" : Str).cps.toList ↔ isDig c = true := by
  rw [digits_L]
  unfold isDig
  simp only [List.mem_map, List.mem_range, Bool.and_eq_true, decide_eq_true_eq]
  constructor
  · rintro ⟨a, h, rfl⟩; omega
  · intro h; exact ⟨c - 48, by omega, by omega⟩
theorem dgS_0 {n : Nat} : dgS n = [] ↔ n = 0 := by
  unfold dgS
  split
  · exact ⟨fun _ => ‹_›, fun _ => rfl⟩
  · exact ⟨fun h => absurd h (digL_ne n), fun h => absurd h ‹_›⟩
theorem chS {c d : Nat} : ((⟨#[c]⟩ : Str) = ⟨#[d]⟩) ↔ c = d := ⟨fun h => by injection h with h; simpa using h, fun h => by rw [h]⟩
theorem ch0 {c : Nat} : ((⟨#[c]⟩ : Str) = "0") ↔ c = 48 := by rw [show ("0" : Str) = ⟨#[48]⟩ by decide +kernel]; exact chS
theorem chOpen {c : Nat} : ((⟨#[c]⟩ : Str) = "(") ↔ c = 40 := by rw [show ("(" : Str) = ⟨#[40]⟩ by decide +kernel]; exact chS
theorem chClose {c : Nat} : ((⟨#[c]⟩ : Str) = ")") ↔ c = 41 := by rw [show (")" : Str) = ⟨#[41]⟩ by decide +kernel]; exact chS
theorem dig0 (n : Nat) : decide (dgS n = ("" : Str).cps.toList) = decide (n = 0) := by
  have h : (dgS n = ("" : Str).cps.toList) ↔ n = 0 := dgS_0
  exact decide_eq_decide.mpr h
theorem digL_inj {m n : Nat} (hm : m < 10 ^ 10) (hn : n < 10 ^ 10) (h : digL m = digL n) : m = n := by
  have h1 := digL_back hm
  rw [h, digL_back hn] at h1
  have := Option.some.inj h1
  omega
theorem dgS_1 {n : Nat} (h : n ≤ 9999) : dgS n = [49] ↔ n = 1 := by
  unfold dgS
  split
  · subst_vars; decide
  · rw [show ([49] : List Nat) = digL 1 by decide +kernel]
    exact ⟨fun e => digL_inj (by omega) (by omega) e, fun e => by rw [e]⟩
theorem dgS_4 {n : Nat} (h : n ≤ 9999) : (dgS n).length = 4 ↔ 1000 ≤ n := by
  unfold dgS
  split
  · subst_vars; decide
  · constructor
    · intro e
      by_cases h1 : 1000 ≤ n
      · exact h1
      · have := digL_len (n := n) (k := 2) (by omega); omega
    · intro e
      have h1 := digL_len_ge (n := n) (k := 3) (by omega)
      have h2 := digL_len (n := n) (k := 3) (by omega)
      omega
theorem dgS_len {n : Nat} (h : n ≤ 9999) : (dgS n).length ≤ 4 := by
  unfold dgS
  split
  · decide
  · exact digL_len (k := 3) (by omega)
theorem dgS_snoc {n c : Nat} (hc : isDig c = true) (h : ¬ (c = 48 ∧ n = 0)) : dgS (10 * n + (c - 48)) = dgS n ++ [c] := by
  unfold isDig at hc
  simp only [Bool.and_eq_true, decide_eq_true_eq] at hc
  have e : 48 + (c - 48) = c := by omega
  unfold dgS
  rw [if_neg (by omega)]
  by_cases h0 : n = 0
  · rw [if_pos h0, h0, Nat.mul_zero, Nat.zero_add, digL_lt (by omega), e, List.nil_append]
  · rw [if_neg h0, digL_snoc (by omega) (by omega), e]
theorem dgS_back {n : Nat} (h : n ≤ 9999) (h0 : n ≠ 0) : PySem.intText? (S (dgS n)) = some (n : Int) := by
  unfold dgS
  rw [if_neg h0]
  exact digL_back (by omega)
structure OpE where
  t : Addr
  b : Addr
  vs : List V
  k : Nat
  ds : List Dat
def OpEs (K : PySem.W.Frag) (H0 H : Hp) (es : List OpE) : Prop := ∀ e ∈ es, SqT K H e.t [.int (e.k : Int), .ref e.b] ∧ H e.b = some (.lst e.vs) ∧ H0 e.b = none ∧ RpL K H e.vs e.ds
def rdFs (r : RS) (f o : Addr) : List (Str × V) := [("allowed", .str (S r.al)), ("digits", .str (S (dgS r.dg))), ("found", .ref f), ("opened", .ref o)]
structure RdM (K : PySem.W.Frag) (C : Addr) (H0 H : Hp) (p dx f o : Addr) (fvs : List V) (es : List OpE) (r : RS) : Prop where
  hp : H p = some (.ins C dx (rdFs r f o))
  np : H0 p = none
  hf : H f = some (.lst fvs)
  nf : H0 f = none
  ho : H o = some (.lst (es.map fun e => V.ref e.t))
  no : H0 o = none
  rf : RpL K H fvs r.fd
  re : OpEs K H0 H es
  op : r.op = es.map fun e => (e.k, e.ds)
  nd : (f :: o :: es.map (·.b)).Nodup
def RdAt (K : PySem.W.Frag) (C : Addr) (H0 H : Hp) (p : Addr) (r : RS) : Prop := ∃ dx f o fvs es, RdM K C H0 H p dx f o fvs es r
def RS.Sz (r : RS) (N : Nat) : Prop := r.fd.length ≤ N ∧ ∀ e ∈ r.op, e.2.length ≤ N
section
variable {K : PySem.W.Frag} {ec : Str → Addr} {ns : List Str} {vs : List V} {H H0 H' : Hp} {Q : VK} {E : XK} {p : Addr} {r : RS} {C : Addr}
theorem OpEs.same {es : List OpE} (h : OpEs K H0 H es) (s : Same H H') : OpEs K H0 H' es := fun e he =>
  let ⟨a, b, c, d⟩ := h e he
  ⟨sqT_same s a, s _ _ b, c, rpL_keep (tk_same s) d⟩
theorem OpEs.but {es : List OpE} {l : Addr} (h : OpEs K H0 H es) (s : But l H H') (k : TK K H H') (hn : ∀ e ∈ es, e.b ≠ l) : OpEs K H0 H' es := fun e he =>
  let ⟨a, b, c, d⟩ := h e he
  ⟨k _ _ a, s _ _ (hn e he) b, c, rpL_keep k d⟩
theorem tk_ins {l dx : Addr} {fs : List (Str × V)} (b : But l H H') (hl : H l = some (.ins C dx fs)) : TK K H H' := fun a xs h => by
  rcases h with (h | ⟨o, h⟩) | h
  · exact .inl (.inl (b _ _ (ne_of h hl (by intro z; cases z)) h))
  · exact .inl (.inr ⟨o, b _ _ (ne_of h hl (by intro z; cases z)) h⟩)
  · exact .inr h
/-- the reader's own fields change -/
theorem RdM.upd {dx f o : Addr} {fvs : List V} {es : List OpE} {r' : RS} (M : RdM K C H0 H p dx f o fvs es r) (b : But p H H') (e : H' p = some (.ins C dx (rdFs r' f o))) (h1 : r'.fd = r.fd) (h2 : r'.op = r.op) : RdM K C H0 H' p dx f o fvs es r' := by
  have fp : f ≠ p := ne_of M.hf M.hp (by intro z; cases z)
  have op : o ≠ p := ne_of M.ho M.hp (by intro z; cases z)
  have k := tk_ins (K := K) b M.hp
  exact ⟨e, M.np, b _ _ fp M.hf, M.nf, b _ _ op M.ho, M.no, by rw [h1]; exact rpL_keep k M.rf, M.re.but b k fun x hx => ne_of (M.re x hx).2.1 M.hp (by intro z; cases z), by rw [h2]; exact M.op, M.nd⟩
theorem rpL_cat : ∀ {xs ys : List V} {ds es : List Dat}, RpL K H xs ds → RpL K H ys es → RpL K H (xs ++ ys) (ds ++ es)
  | _, _, _, _, .nil, h => h
  | _, _, _, _, .cons a b, h => .cons a (rpL_cat b h)
theorem rpL_same {xs : List V} {ds : List Dat} (s : Same H H') (h : RpL K H xs ds) : RpL K H' xs ds := rpL_keep (tk_same s) h
theorem r_inCh {c : Nat} {z : Str} (q : Q (.bl (decide (c ∈ z.cps.toList))) H) : rInU K (.str ⟨#[c]⟩) (.str z) H Q := .inr ⟨c, z, rfl, rfl, q⟩
/-- what every reading of a sign asks -/
structure StepOf (K : PySem.W.Frag) (ec : Str → Addr) (H : Hp) (Q : VK) (H0 : Hp) (p : Addr) (r : RS) (N : Nat) (c : Nat) : Prop where
  s0 : Same H0 H
  at_ : RdAt K (ec "TreeReader") H0 H p r
  ok : r.Ok
  sz : r.Sz N
  big : N ≤ 1000000
  no : r.step c = none → ∀ H', Same H0 H' → Q (.bl false) H'
  yes : ∀ r', r.step c = some r' → ∀ H', Same H0 H' → RdAt K (ec "TreeReader") H0 H' p r' → Q (.bl true) H'
def sp_TreeReader_take (K : PySem.W.Frag) (ec : Str → Addr) : Sp := fun vs H Q _ => ∃ (H0 : Hp) (p : Addr) (r : RS) (N c : Nat), vs = [.ref p, .str ⟨#[c]⟩] ∧ StepOf K ec H Q H0 p r N c
def sp_TreeReader_take_digit (K : PySem.W.Frag) (ec : Str → Addr) : Sp := fun vs H Q _ => ∃ (H0 : Hp) (p : Addr) (r : RS) (N c : Nat), vs = [.ref p, .str ⟨#[c]⟩] ∧ StepOf K ec H Q H0 p r N c ∧ isDig c = true
def sp_TreeReader_take_letter (K : PySem.W.Frag) (ec : Str → Addr) : Sp := fun vs H Q _ => ∃ (H0 : Hp) (p : Addr) (r : RS) (N c : Nat), vs = [.ref p, .str ⟨#[c]⟩] ∧ StepOf K ec H Q H0 p r N c ∧ isDig c = false ∧ r.dg ≠ 1 ∧ c ∈ r.al
def sp_TreeReader_take_opening (K : PySem.W.Frag) (ec : Str → Addr) : Sp := fun vs H Q _ => ∃ (H0 : Hp) (p : Addr) (r : RS) (N : Nat), vs = [.ref p] ∧ StepOf K ec H Q H0 p r N 40 ∧ r.dg ≠ 1
def sp_TreeReader_take_closing (K : PySem.W.Frag) (ec : Str → Addr) : Sp := fun vs H Q _ => ∃ (H0 : Hp) (p : Addr) (r : RS) (N : Nat), vs = [.ref p] ∧ StepOf K ec H Q H0 p r N 41 ∧ r.dg ≠ 1
def sp_TreeReader_take_count (K : PySem.W.Frag) (ec : Str → Addr) : Sp := fun vs H Q _ => ∃ (p dx f o : Addr) (r : RS), vs = [.ref p] ∧ H p = some (.ins (ec "TreeReader") dx (rdFs r f o)) ∧ r.dg ≤ 9999 ∧
  ∀ H', But p H H' → H' p = some (.ins (ec "TreeReader") dx (rdFs { r with dg := 0 } f o)) → Q (.int (cntN r.dg : Nat)) H'
def sp_TreeReader_is_whole (K : PySem.W.Frag) (ec : Str → Addr) : Sp := fun vs H Q _ => ∃ (H0 : Hp) (p : Addr) (r : RS), vs = [.ref p] ∧ RdAt K (ec "TreeReader") H0 H p r ∧ r.dg ≤ 9999 ∧ Q (.bl r.whole) H
/-- a letter or nodes -/
def sp_size_of (K : PySem.W.Frag) (n : Nat) : Sp := fun vs H Q _ => ∃ v, vs = [v] ∧ ((0 < n ∧ ∃ z, v = .str z ∧ Q (.int 1) H) ∨ ∃ ds m, Rp K H v (.tup ds) ∧ WfN m ds ∧ m < n ∧ ∀ H', Same H H' → Q (.int (szL ds)) H')
structure TreeM (K : PySem.W.Frag) (C : Addr) (H : Hp) (p dx np : Addr) (l : List Nat) (ds : List Dat) (b : Bool) : Prop where
  hp : H p = some (.ins C dx [("text", .str (S l)), ("nodes", .ref np), ("courses", .bl b), ("count", .int (szL ds))])
  nodes : Rp K H (.ref np) (.tup ds)
def TreeAt (K : PySem.W.Frag) (C : Addr) (H : Hp) (p : Addr) (l : List Nat) (ds : List Dat) (b : Bool) : Prop := ∃ dx np, TreeM K C H p dx np l ds b
def sp_Tree_init (K : PySem.W.Frag) (ec : Str → Addr) : Sp := fun vs H Q _ => ∃ (H0 : Hp) (p dx np : Addr) (l : List Nat) (ds : List Dat) (b : Bool), vs = [.ref p, .str (S l), .ref np, .bl b] ∧ H p = some (.ins (ec "Tree") dx []) ∧ H0 p = none ∧ Same H0 H ∧
  Rp K H (.ref np) (.tup ds) ∧ WfN 7 ds ∧ ∀ H', Same H0 H' → TreeAt K (ec "Tree") H' p l ds b → Q .non H'
def sp_TreeReader_init (K : PySem.W.Frag) (ec : Str → Addr) : Sp := fun vs H Q _ => ∃ (H0 : Hp) (p dx : Addr) (al : List Nat), vs = [.ref p, .str (S al)] ∧ H p = some (.ins (ec "TreeReader") dx []) ∧ H0 p = none ∧ Same H0 H ∧
  ∀ H', Same H0 H' → RdAt K (ec "TreeReader") H0 H' p (RS.start al) → Q .non H'
abbrev N_size_of : List Str := ["what", "size", "count", "inner"]
def t_size_of (K : PySem.W.Frag) (n : Nat) : TS :=
  tSeq (tIfS ((tTru K ((tCB (rIsi K) (tCons (tVar 0) (tCons ((tC (.ty "str"))) tNil)))))) ((tRet ((tC (.int 1))))) (tNext))
  (tSeq (tAsg ((tC (.int 0))) (gName 1))
  (tSeq (tFor (iSeqU K (tVar 0)) (gTup K 2 (gCons (gName 2) (gCons (gName 3) gNil))) ((tAug 1 ((tOp (rMulU K) (tVar 2) ((tCall (sp_size_of K n) [] E0 (tCons (tVar 3) tNil))))) (ipI fun i j => i + j))))
  ((tRet (tVar 1)))))
abbrev N_TreeReader_init : List Str := ["self", "allowed"]
def t_TreeReader_init (K : PySem.W.Frag) : TS :=
  tSeq (sFld K (tVar 0) (tVar 1) "allowed")
  (tSeq (sFld K (tVar 0) ((tC (.str ""))) "digits")
  (tSeq (sFld K (tVar 0) ((tLst tNil)) "found")
  ((sFld K (tVar 0) ((tLst tNil)) "opened"))))
abbrev N_Tree_init : List Str := ["self", "text", "nodes", "courses"]
def t_Tree_init (K : PySem.W.Frag) : TS :=
  tSeq (sFld K (tVar 0) (tVar 1) "text")
  (tSeq (sFld K (tVar 0) (tVar 2) "nodes")
  (tSeq (sFld K (tVar 0) (tVar 3) "courses")
  ((sFld K (tVar 0) ((tCall (sp_size_of K 8) [] E0 (tCons (tVar 2) tNil))) "count"))))
abbrev N_TreeReader_is_whole : List Str := ["self"]
def t_TreeReader_is_whole (K : PySem.W.Frag) : TS :=
  (tRet ((tAndV ((tOp (rEqU K) ((tFld K (tVar 0) "digits")) ((tC (.str ""))))) ((tAndV ((tOp (rEqU K) ((tCB (rLenU K) (tCons ((tFld K (tVar 0) "opened")) tNil))) ((tC (.int 0))))) ((tOp rGtU ((tCB (rLenU K) (tCons ((tFld K (tVar 0) "found")) tNil))) ((tC (.int 0))))))))))
abbrev N_TreeReader_take_digit : List Str := ["self", "sign"]
def t_TreeReader_take_digit (K : PySem.W.Frag) : TS :=
  tSeq (tIfS ((tOr ((tAnd ((tTest (tOp (rEqU K) (tVar 1) ((tC (.str "0")))))) ((tTest (tOp (rEqU K) ((tFld K (tVar 0) "digits")) ((tC (.str "")))))))) ((tTest (tOp (rEqU K) ((tCB (rLenU K) (tCons ((tFld K (tVar 0) "digits")) tNil))) ((tC (.int 4)))))))) ((tRet ((tC (.bl false))))) (tNext))
  (tSeq (sFldAug K (tVar 0) (tVar 1) rAddA "digits")
  ((tRet ((tC (.bl true))))))
abbrev N_TreeReader_take_count : List Str := ["self", "digits"]
def t_TreeReader_take_count (K : PySem.W.Frag) : TS :=
  tSeq (tAsg ((tFld K (tVar 0) "digits")) (gName 1))
  (tSeq (sFld K (tVar 0) ((tC (.str ""))) "digits")
  (tSeq (tIfS ((tTest (tOp (rEqU K) (tVar 1) ((tC (.str "")))))) ((tRet ((tC (.int 1))))) (tNext))
  ((tRet ((tCB rIntTx (tCons (tVar 1) tNil)))))))
abbrev N_TreeReader_take_letter : List Str := ["self", "sign", "count"]
def t_TreeReader_take_letter (K : PySem.W.Frag) (ec : Str → Addr) : TS :=
  tSeq (tAsg ((tMeth (ec "TreeReader") "take_count" (sp_TreeReader_take_count K ec) [] E0 (tVar 0) tNil)) (gName 2))
  (tSeq (tDrop ((tBM K "list" rAppend ((tFld K (tVar 0) "found")) (tCons ((tTup (tCons (tVar 2) (tCons (tVar 1) tNil)))) tNil))))
  (tSeq (tIfS ((tTest (tOp (rInU K) (tVar 1) ((tC (.str "abcdefghijklmnopqrstuvwxyz")))))) ((sFld K (tVar 0) ((tC (.str "abcdefghijklmnopqrstuvwxyz"))) "allowed")) ((sFld K (tVar 0) ((tC (.str "ABCDEFGHIJKLMNOPQRSTUVWXYZ"))) "allowed")))
  ((tRet ((tC (.bl true)))))))
abbrev N_TreeReader_take_opening : List Str := ["self", "count"]
def t_TreeReader_take_opening (K : PySem.W.Frag) (ec : Str → Addr) : TS :=
  tSeq (tIfS ((tOr ((tTest (tOp (rEqU K) ((tFld K (tVar 0) "digits")) ((tC (.str "")))))) ((tTest (tOp (rEqU K) ((tCB (rLenU K) (tCons ((tFld K (tVar 0) "opened")) tNil))) ((tC (.int 6)))))))) ((tRet ((tC (.bl false))))) (tNext))
  (tSeq (tAsg ((tMeth (ec "TreeReader") "take_count" (sp_TreeReader_take_count K ec) [] E0 (tVar 0) tNil)) (gName 1))
  (tSeq (tDrop ((tBM K "list" rAppend ((tFld K (tVar 0) "opened")) (tCons ((tTup (tCons (tVar 1) (tCons ((tFld K (tVar 0) "found")) tNil)))) tNil))))
  (tSeq (sFld K (tVar 0) ((tLst tNil)) "found")
  ((tRet ((tC (.bl true))))))))
abbrev N_TreeReader_take_closing : List Str := ["self", "count", "before"]
def t_TreeReader_take_closing (K : PySem.W.Frag) : TS :=
  tSeq (tIfS ((tOr ((tTest (tOp (rNeU K) ((tFld K (tVar 0) "digits")) ((tC (.str "")))))) ((tOr ((tTest (tOp (rEqU K) ((tCB (rLenU K) (tCons ((tFld K (tVar 0) "opened")) tNil))) ((tC (.int 0)))))) ((tTest (tOp (rEqU K) ((tCB (rLenU K) (tCons ((tFld K (tVar 0) "found")) tNil))) ((tC (.int 0)))))))))) ((tRet ((tC (.bl false))))) (tNext))
  (tSeq (tAsg ((tBM0 K "list" rPop ((tFld K (tVar 0) "opened")))) (gTup K 2 (gCons (gName 1) (gCons (gName 2) gNil))))
  (tSeq (tDrop ((tBM K "list" rAppend (tVar 2) (tCons ((tTup (tCons (tVar 1) (tCons ((tThen ((tFld K (tVar 0) "found")) (kTupD K))) tNil)))) tNil))))
  (tSeq (sFld K (tVar 0) (tVar 2) "found")
  ((tRet ((tC (.bl true))))))))
abbrev N_TreeReader_take : List Str := ["self", "sign"]
def t_TreeReader_take (K : PySem.W.Frag) (ec : Str → Addr) : TS :=
  tSeq (tIfS ((tTest (tOp (rInU K) (tVar 1) ((tC (.str "0123456789")))))) ((tRet ((tMeth (ec "TreeReader") "take_digit" (sp_TreeReader_take_digit K ec) [] E0 (tVar 0) (tCons (tVar 1) tNil))))) (tNext))
  (tSeq (tIfS ((tTest (tOp (rEqU K) ((tFld K (tVar 0) "digits")) ((tC (.str "1")))))) ((tRet ((tC (.bl false))))) (tNext))
  (tSeq (tIfS ((tTest (tOp (rInU K) (tVar 1) ((tFld K (tVar 0) "allowed"))))) ((tRet ((tMeth (ec "TreeReader") "take_letter" (sp_TreeReader_take_letter K ec) [] E0 (tVar 0) (tCons (tVar 1) tNil))))) (tNext))
  (tSeq (tIfS ((tTest (tOp (rEqU K) (tVar 1) ((tC (.str "(")))))) ((tRet ((tMeth (ec "TreeReader") "take_opening" (sp_TreeReader_take_opening K ec) [] E0 (tVar 0) tNil)))) (tNext))
  (tSeq (tIfS ((tTest (tOp (rEqU K) (tVar 1) ((tC (.str ")")))))) ((tRet ((tMeth (ec "TreeReader") "take_closing" (sp_TreeReader_take_closing K ec) [] E0 (tVar 0) tNil)))) (tNext))
  ((tRet ((tC (.bl false)))))))))
theorem len_TreeReader_take (h : sp_TreeReader_take K ec vs H Q E) : vs.length = 2 := by obtain ⟨_, _, _, _, _, rfl, _⟩ := h; rfl
theorem len_TreeReader_take_digit (h : sp_TreeReader_take_digit K ec vs H Q E) : vs.length = 2 := by obtain ⟨_, _, _, _, _, rfl, _⟩ := h; rfl
theorem len_TreeReader_take_letter (h : sp_TreeReader_take_letter K ec vs H Q E) : vs.length = 2 := by obtain ⟨_, _, _, _, _, rfl, _⟩ := h; rfl
theorem len_TreeReader_take_opening (h : sp_TreeReader_take_opening K ec vs H Q E) : vs.length = 1 := by obtain ⟨_, _, _, _, rfl, _⟩ := h; rfl
theorem len_TreeReader_take_closing (h : sp_TreeReader_take_closing K ec vs H Q E) : vs.length = 1 := by obtain ⟨_, _, _, _, rfl, _⟩ := h; rfl
theorem len_TreeReader_take_count (h : sp_TreeReader_take_count K ec vs H Q E) : vs.length = 1 := by obtain ⟨_, _, _, _, _, rfl, _⟩ := h; rfl
theorem len_TreeReader_is_whole (h : sp_TreeReader_is_whole K ec vs H Q E) : vs.length = 1 := by obtain ⟨_, _, _, rfl, _⟩ := h; rfl
theorem len_TreeReader_init (h : sp_TreeReader_init K ec vs H Q E) : vs.length = 2 := by obtain ⟨_, _, _, _, rfl, _⟩ := h; rfl
theorem pure_TreeReader_init (CA : ClsA K (ec "TreeReader") at_TreeReader) (h : sp_TreeReader_init K ec vs H Q E) : t_TreeReader_init K (En Q) (start N_TreeReader_init vs) H := by
  obtain ⟨H0, p, dx, al, rfl, hp, np, s0, q⟩ := h
  unfold t_TreeReader_init
  walk_at "rd"
  intro H1 b1 e1
  walk_at "rd"
  intro H2 b2 e2
  walk_at "rd"
  intro f H3 nf s3 e3
  have e23 := s3 _ _ e2
  walk_at "rd"
  intro H4 b4 e4
  walk_at "rd"
  intro o H5 no s5 e5
  have e45 := s5 _ _ e4
  walk_at "rd"
  intro H6 b6 e6
  walk_at "rd"
  have s2 : Same H0 H2 := same_but (same_but s0 b1 np) b2 np
  have s4 : Same H0 H4 := same_but (s2.trans s3) b4 np
  have fp : f ≠ p := ne_of e3 e23 (by intro z; cases z)
  have op : o ≠ p := ne_of e5 e45 (by intro z; cases z)
  have f4 : H4 f = some (.lst []) := b4 _ _ fp e3
  have fo : f ≠ o := ne_of_none f4 no
  refine q H6 (same_but (s4.trans s5) b6 np) ⟨dx, f, o, [], [], e6, np, b6 _ _ fp (s5 _ _ f4), s2.free nf, b6 _ _ op e5, s4.free no, .nil, (fun _ h => nomatch h), rfl, ?_⟩
  simp [fo]
theorem pure_TreeReader_take_count (CA : ClsA K (ec "TreeReader") at_TreeReader) (h : sp_TreeReader_take_count K ec vs H Q E) : t_TreeReader_take_count K (En Q) (start N_TreeReader_take_count vs) H := by
  obtain ⟨p, dx, f, o, r, rfl, hp, hd, q⟩ := h
  have hp' := hp
  unfold rdFs at hp'
  unfold t_TreeReader_take_count
  walk_at "rd"
  intro H1 b1 e1
  have e1' : H1 p = some (.ins (ec "TreeReader") dx (rdFs { r with dg := 0 } f o)) := e1
  walk_at "rd"
  rw [S_eqD]
  refine r_ite (fun h0 => ?_) (fun h0 => ?_)
  · walk_at "rd"
    have h0 : r.dg = 0 := dgS_0.mp h0
    have := q H1 b1 e1'
    rw [show cntN r.dg = 1 by unfold cntN; rw [if_pos h0]] at this
    exact this
  · have h0 : r.dg ≠ 0 := fun z => h0 (dgS_0.mpr z)
    walk_at "rd"
    refine r_intTx (dgS_back hd h0) (by have := dgS_len hd; show (dgS r.dg).toArray.size ≤ 640; rw [List.size_toArray]; omega) ?_
    have := q H1 b1 e1'
    rw [show cntN r.dg = r.dg by unfold cntN; rw [if_neg h0]] at this
    exact this
theorem no_size_of (h : sp_size_of K 0 vs H Q E) : False := by
  obtain ⟨v, _, ⟨h, _⟩ | ⟨ds, m, _, _, h, _⟩⟩ := h <;> omega
theorem len_size_of {n : Nat} (h : sp_size_of K n vs H Q E) : vs.length = 1 := by obtain ⟨_, rfl, _⟩ := h; rfl
theorem pure_size_of {n : Nat} (h : sp_size_of K (n + 1) vs H Q E) : t_size_of K n (En Q) (start N_size_of vs) H := by
  obtain ⟨v, rfl, ⟨_, z, rfl, q⟩ | ⟨ds, m, hr, wf, hm, q⟩⟩ := h
  · unfold t_size_of
    walk_at "rd"
    exact q
  · cases hr with
    | @tup a xs _ ht hds =>
    have hlen := rpL_length hds
    unfold t_size_of
    walk_at "rd"
    refine r_forTup (xs := xs) (fun i σ' H' => ∃ (z2 z3 : Option V), σ' = [some (.ref a), some (.int (szL (ds.take i))), z2, z3] ∧ Same H H')
      ⟨none, none, by rw [List.take_zero]; rfl, Same.refl _⟩ (fun i σ' H' _ ⟨_, _, _, s⟩ => sqT_same s ht) (fun i x σ' H' hx ⟨z2, z3, e, s⟩ => ?_) (fun σ' H' ⟨z2, z3, e, s⟩ => ?_)
    · subst e
      have hi : i < ds.length := by rw [← hlen]; exact (List.getElem?_eq_some_iff.mp hx).1
      have hd : ds[i]? = some ds[i] := List.getElem?_eq_getElem hi
      obtain ⟨v, hv, rv⟩ := rpL_get hds hd
      rw [hx] at hv
      cases hv
      obtain ⟨m, rfl⟩ : ∃ m', m = m' + 1 := by
        cases m with
        | zero => rw [show ds = [] from wf] at hi; cases hi
        | succ m => exact ⟨m, rfl⟩
      obtain ⟨k, w, e, h1, h2, h3⟩ := wf _ (List.getElem_mem hi)
      have esz : szL (ds.take (i + 1)) = szL (ds.take i) + k * szD w := by
        rw [List.take_succ_eq_append_getElem hi, szL_cat, szL_one, e, szI_node]
      rw [e] at rv
      unfold nodeD at rv
      cases rv with
      | @tup b ys _ hb hy =>
      cases hy with
      | @cons v1 _ _ _ hk hy =>
      cases hy with
      | @cons v2 _ _ _ hw hy =>
      cases hy
      cases hk
      refine r_gTup2 (sqT_same s hb) ?_
      walk_at "rd"
      have fin : ∀ H2, Same H' H2 → ∃ (z2 z3 : Option V), [some (.ref a), some (.int (szL (ds.take i) + (k : Int) * szD w)), some (.int (k : Int)), some v2] = [some (.ref a), some (.int (szL (ds.take (i + 1)))), z2, z3] ∧ Same H H2 := fun H2 s2 => ⟨_, _, by rw [esz], s.trans s2⟩
      rcases h3 with ⟨c, rfl, hc⟩ | ⟨es, rfl, ne, wf2⟩
      · cases hw
        refine ⟨_, rfl, .inl ⟨by omega, _, rfl, ?_⟩⟩
        walk_at "rd"
        exact fin _ (Same.refl _)
      · refine ⟨_, rfl, .inr ⟨es, m, rp_same s hw, wf2, by omega, fun H2 s2 => ?_⟩⟩
        walk_at "rd"
        exact fin _ s2
    · subst e
      walk_at "rd"
      have := q H' s
      rw [hlen, List.take_length]
      exact this
theorem len_Tree_init (h : sp_Tree_init K ec vs H Q E) : vs.length = 4 := by obtain ⟨_, _, _, _, _, _, _, rfl, _⟩ := h; rfl
theorem pure_Tree_init (CA : ClsA K (ec "Tree") at_Tree) (h : sp_Tree_init K ec vs H Q E) : t_Tree_init K (En Q) (start N_Tree_init vs) H := by
  obtain ⟨H0, p, dx, np, l, ds, b, rfl, hp, n0, s0, hn, wf, q⟩ := h
  unfold t_Tree_init
  walk_at "rd"
  intro H1 b1 e1
  walk_at "rd"
  intro H2 b2 e2
  walk_at "rd"
  intro H3 b3 e3
  walk_at "rd"
  have r1 := rp_keep (tk_ins b1 hp) hn
  have r2 := rp_keep (tk_ins b2 e1) r1
  have r3 := rp_keep (tk_ins b3 e2) r2
  refine ⟨_, rfl, .inr ⟨ds, 7, r3, wf, by omega, fun H4 s4 => ?_⟩⟩
  have e4 := s4 _ _ e3
  walk_at "rd"
  intro H5 b5 e5
  walk_at "rd"
  have s3 : Same H0 H3 := same_but (same_but (same_but s0 b1 n0) b2 n0) b3 n0
  exact q H5 (same_but (s3.trans s4) b5 n0) ⟨dx, np, e5, rp_keep (tk_ins b5 e4) (rp_same s4 r3)⟩
theorem pure_TreeReader_is_whole (CA : ClsA K (ec "TreeReader") at_TreeReader) (h : sp_TreeReader_is_whole K ec vs H Q E) : t_TreeReader_is_whole K (En Q) (start N_TreeReader_is_whole vs) H := by
  obtain ⟨H0, p, r, rfl, ⟨dx, f, o, fvs, es, M⟩, hd, q⟩ := h
  have hp := M.hp
  unfold rdFs at hp
  have hf := M.hf
  have ho := M.ho
  have lf := rpL_length M.rf
  have lo : r.op.length = es.length := by rw [M.op, List.length_map]
  unfold t_TreeReader_is_whole
  walk_at "rd"
  rw [S_eqD]
  unfold RS.whole at q
  rw [dig0]
  refine r_ite (fun h0 => ?_) (fun h0 => ?_)
  · rw [decide_eq_true h0, Bool.true_and] at q
    walk_at "rd"
    refine r_ite (fun h1 => ?_) (fun h1 => ?_)
    · walk_at "rd"
      have : r.op.isEmpty = true := by
        rw [List.length_map] at h1
        rw [List.isEmpty_iff_length_eq_zero]; omega
      rw [this, Bool.true_and] at q
      rw [lf]
      have e2 : decide ((0 : Int) < (r.fd.length : Int)) = !r.fd.isEmpty := by
        cases r.fd <;> simp
      rw [e2]; exact q
    · have : r.op.isEmpty = false := by
        rw [List.length_map] at h1
        cases h : r.op with
        | nil => rw [h] at lo; exact absurd (by rw [← lo]; rfl) h1
        | cons => rfl
      rw [this, Bool.false_and] at q
      exact q
  · rw [decide_eq_false h0, Bool.false_and] at q
    exact q
theorem pure_TreeReader_take_digit (CA : ClsA K (ec "TreeReader") at_TreeReader) (h : sp_TreeReader_take_digit K ec vs H Q E) : t_TreeReader_take_digit K (En Q) (start N_TreeReader_take_digit vs) H := by
  obtain ⟨H0, p, r, N, c, rfl, ⟨s0, ⟨dx, f, o, fvs, es, M⟩, ok, sz, big, no, yes⟩, hc⟩ := h
  have hp := M.hp
  unfold rdFs at hp
  unfold t_TreeReader_take_digit
  have hd := ok.dg
  have hstep : r.step c = if (c = 48 ∧ r.dg = 0) ∨ 1000 ≤ r.dg then none else some { r with dg := 10 * r.dg + (c - 48) } := by
    unfold RS.step; rw [if_pos hc]
  have l0 : (S (dgS r.dg)).length = (dgS r.dg).length := List.size_toArray ..
  have l1 : (dgS r.dg).length ≤ 4 := dgS_len hd
  have l4 := dgS_4 hd
  have fin : tTest (tOp (rEqU K) (tCB (rLenU K) (tCons (tFld K (tVar 0) "digits") tNil)) (tC (.int 4))) [some (.ref p), some (.str ⟨#[c]⟩)] H (fun b H1 => if b = true then tRet (tC (.bl false)) { nx := tSeq (sFldAug K (tVar 0) (tVar 1) rAddA "digits") (tRet (tC (.bl true))) (En Q), rt := Q } [some (.ref p), some (.str ⟨#[c]⟩)] H1
      else tNext { nx := tSeq (sFldAug K (tVar 0) (tVar 1) rAddA "digits") (tRet (tC (.bl true))) (En Q), rt := Q } [some (.ref p), some (.str ⟨#[c]⟩)] H1) ∨ (c = 48 ∧ r.dg = 0) := by
    by_cases hz : c = 48 ∧ r.dg = 0
    · exact .inr hz
    refine .inl ?_
    walk_at "rd"
    rw [l0]
    refine r_ite (fun h3 => ?_) (fun h3 => ?_)
    · walk_at "rd"
      exact no (by rw [hstep, if_pos (.inr (l4.mp (by omega)))]) H s0
    · walk_at "rd"
      have hn : ¬ ((c = 48 ∧ r.dg = 0) ∨ 1000 ≤ r.dg) := fun z => z.elim hz fun z => h3 (by have := l4.mpr z; omega)
      rw [if_neg hn] at hstep
      refine r_pfaug hp CA (by decide +kernel) (by walk_at "lk") ?_
      walk_at "rd"
      refine .inr ⟨_, _, rfl, rfl, by rw [l0, sizeLine_eq]; show (dgS r.dg).length + 1 ≤ _; omega, dx, _, hp, Nat.le_of_ble_eq_true rfl, ?_⟩
      walk_at "rd"
      have hb : But p H (upd H p (.ins (ec "TreeReader") dx (putF "digits" (.str (S (dgS r.dg) ++ ⟨#[c]⟩)) [("allowed", .str (S r.al)), ("digits", .str (S (dgS r.dg))), ("found", .ref f), ("opened", .ref o)]))) := but_upd
      have e1 : putF "digits" (.str (S (dgS r.dg) ++ ⟨#[c]⟩)) [("allowed", .str (S r.al)), ("digits", .str (S (dgS r.dg))), ("found", .ref f), ("opened", .ref o)] = rdFs { r with dg := 10 * r.dg + (c - 48) } f o := by
        have : S (dgS r.dg) ++ ⟨#[c]⟩ = S (dgS (10 * r.dg + (c - 48))) := by rw [dgS_snoc hc (fun z => hn (.inl z))]; exact S_cat _ _
        rw [this]
        walk_at "pf"
      exact yes _ hstep _ (same_but s0 hb M.np) ⟨dx, f, o, fvs, es, M.upd hb (by rw [upd_same, e1]) rfl rfl⟩
  walk_at "rd"
  refine r_ite (fun h1 => ?_) (fun h1 => ?_)
  · walk_at "rd"
    rw [S_eqD, dig0]
    refine r_ite (fun h2 => ?_) (fun h2 => ?_)
    · walk_at "rd"
      exact no (by rw [hstep, if_pos (.inl ⟨ch0.mp h1, h2⟩)]) H s0
    · rcases fin with fin | fin
      · exact fin
      · exact absurd fin.2 h2
  · refine r_F ?_
    rcases fin with fin | fin
    · exact fin
    · exact absurd (ch0.mpr fin.1) h1
theorem pure_TreeReader_take_letter (CA : ClsA K (ec "TreeReader") at_TreeReader) (h : sp_TreeReader_take_letter K ec vs H Q E) : t_TreeReader_take_letter K ec (En Q) (start N_TreeReader_take_letter vs) H := by
  obtain ⟨H0, p, r, N, c, rfl, ⟨s0, ⟨dx, f, o, fvs, es, M⟩, ok, sz, big, no, yes⟩, hc, h1, hal⟩ := h
  have hd := ok.dg
  have hstep : r.step c = some { al := if c ∈ smallL then smallL else largeL, dg := 0, fd := r.fd ++ [nodeD (cntN r.dg) (.str (S [c]))], op := r.op } := by
    unfold RS.step; rw [if_neg (by rw [hc]; decide), if_neg h1, if_pos hal]
  unfold t_TreeReader_take_letter
  walk_at "rd"
  refine r_pmeth M.hp (by unfold rdFs; walk_at "lk") ?_
  walk_at "rd"
  refine ⟨p, dx, f, o, r, rfl, M.hp, hd, fun H1 b1 e1 => ?_⟩
  have M1 : RdM K (ec "TreeReader") H0 H1 p dx f o fvs es { r with dg := 0 } := M.upd b1 e1 rfl rfl
  have s1 : Same H0 H1 := same_but s0 b1 M.np
  have hp1 := M1.hp
  unfold rdFs at hp1
  walk_at "rd"
  refine r_tyL (sqL_of M1.hf) ?_
  walk_at "rd"
  intro t H2 nt s2 e2
  walk_at "rd"
  have hf2 := s2 _ _ M1.hf
  have lf := rpL_length M1.rf
  have lz := sz.1
  have lf : fvs.length = r.fd.length := lf
  refine r_append hf2 (by rw [sizeLine_eq]; omega) fun H3 b3 e3 => ?_
  have fp : f ≠ p := ne_of M.hf M.hp (by intro z; cases z)
  have of : o ≠ f := by
    have := M.nd
    rw [List.nodup_cons] at this
    exact fun z => this.1 (by rw [z]; exact List.mem_cons_self ..)
  have k3 : TK K H2 H3 := tk_but b3 hf2
  have s3 : Same H0 H3 := same_but (s1.trans s2) b3 M.nf
  have M3 : RdM K (ec "TreeReader") H0 H3 p dx f o (fvs ++ [.ref t]) es { r with dg := 0, fd := r.fd ++ [nodeD (cntN r.dg) (.str (S [c]))] } := by
    refine ⟨b3 _ _ (Ne.symm fp) (s2 _ _ M1.hp), M.np, e3, M.nf, b3 _ _ of (s2 _ _ M1.ho), M.no, ?_, (M1.re.same s2).but b3 k3 fun x hx => ?_, M1.op, M1.nd⟩
    · exact rpL_cat (rpL_keep k3 (rpL_same s2 M1.rf)) (.cons (.tup (k3 _ _ (sqT_of e2)) (.cons (.int _) (.cons (.str _) .nil))) .nil)
    · have := M.nd
      rw [List.nodup_cons] at this
      exact fun z => this.1 (List.mem_cons_of_mem _ (List.mem_map.mpr ⟨x, hx, z⟩))
  have hp3 := M3.hp
  unfold rdFs at hp3
  walk_at "rd"
  refine r_inCh ?_
  refine r_k ?_
  rw [small_L]
  have em : decide (c ∈ (S smallL).cps.toList) = decide (c ∈ smallL) := rfl
  rw [em]
  refine r_ite (fun hs => ?_) (fun hs => ?_)
  · walk_at "rd"
    intro H4 b4 e4
    walk_at "rd"
    rw [if_pos hs] at hstep
    exact yes _ hstep H4 (same_but s3 b4 M.np) ⟨dx, f, o, _, es, M3.upd b4 e4 rfl rfl⟩
  · walk_at "rd"
    intro H4 b4 e4
    walk_at "rd"
    rw [if_neg hs] at hstep
    rw [large_L] at e4
    exact yes _ hstep H4 (same_but s3 b4 M.np) ⟨dx, f, o, _, es, M3.upd b4 e4 rfl rfl⟩
theorem pure_TreeReader_take_opening (CA : ClsA K (ec "TreeReader") at_TreeReader) (h : sp_TreeReader_take_opening K ec vs H Q E) : t_TreeReader_take_opening K ec (En Q) (start N_TreeReader_take_opening vs) H := by
  obtain ⟨H0, p, r, N, rfl, ⟨s0, ⟨dx, f, o, fvs, es, M⟩, ok, sz, big, no, yes⟩, h1⟩ := h
  have hd := ok.dg
  have hstep : r.step 40 = if r.dg = 0 ∨ r.op.length = 6 then none else some { r with dg := 0, fd := [], op := r.op ++ [(cntN r.dg, r.fd)] } := by
    unfold RS.step; rw [if_neg (by decide), if_neg h1, if_neg, if_pos rfl]
    rcases ok.al with e | e | e <;> rw [e] <;> decide
  have hp := M.hp
  unfold rdFs at hp
  have ho := M.ho
  have lo : r.op.length = es.length := by rw [M.op, List.length_map]
  unfold t_TreeReader_take_opening
  walk_at "rd"
  rw [S_eqD, dig0]
  refine r_ite (fun h0 => ?_) (fun h0 => ?_)
  · walk_at "rd"
    exact no (by rw [hstep, if_pos (.inl h0)]) H s0
  walk_at "rd"
  rw [List.length_map]
  refine r_ite (fun h6 => ?_) (fun h6 => ?_)
  · walk_at "rd"
    exact no (by rw [hstep, if_pos (.inr (by omega))]) H s0
  have hn : ¬ (r.dg = 0 ∨ r.op.length = 6) := fun z => z.elim h0 fun z => h6 (by omega)
  rw [if_neg hn] at hstep
  walk_at "rd"
  refine ⟨p, dx, f, o, r, rfl, M.hp, hd, fun H1 b1 e1 => ?_⟩
  have M1 : RdM K (ec "TreeReader") H0 H1 p dx f o fvs es { r with dg := 0 } := M.upd b1 e1 rfl rfl
  have s1 : Same H0 H1 := same_but s0 b1 M.np
  have hp1 := M1.hp
  unfold rdFs at hp1
  walk_at "rd"
  refine r_tyL (sqL_of M1.ho) ?_
  walk_at "rd"
  intro t H2 nt s2 e2
  walk_at "rd"
  have ho2 := s2 _ _ M1.ho
  have hop := ok.op
  refine r_append ho2 (by rw [sizeLine_eq, List.length_map]; omega) fun H3 b3 e3 => ?_
  have op : o ≠ p := ne_of M.ho M.hp (by intro z; cases z)
  have nd := M.nd
  simp only [List.nodup_cons, List.mem_cons, not_or] at nd
  obtain ⟨⟨fo, fb⟩, ob, bb⟩ := nd
  have k3 : TK K H2 H3 := tk_but b3 ho2
  have s3 : Same H0 H3 := same_but (s1.trans s2) b3 M.no
  have hp3 := b3 _ _ (Ne.symm op) (s2 _ _ M1.hp)
  unfold rdFs at hp3
  have hf3 := b3 _ _ fo (s2 _ _ M1.hf)
  have re3 := (M1.re.same s2).but b3 k3 fun x hx z => ob (List.mem_map.mpr ⟨x, hx, z⟩)
  have rf3 := rpL_keep k3 (rpL_same s2 M1.rf)
  have t3 := k3 _ _ (sqT_of e2)
  walk_at "rd"
  intro g H4 ng s4 e4
  have hp4 := s4 _ _ hp3
  walk_at "rd"
  intro H5 b5 e5
  walk_at "rd"
  have k4 : TK K H3 H4 := tk_same s4
  have k5 := tk_ins (K := K) b5 hp4
  have np5 : ∀ {x vs}, H4 x = some (.lst vs) → x ≠ p := fun h => ne_of h hp4 (by intro z; cases z)
  have ho4 := s4 _ _ e3
  have hf4 := s4 _ _ hf3
  have s5 : Same H0 H5 := same_but (s3.trans s4) b5 M.np
  have gf : g ≠ f := (ne_of_none hf3 ng).symm
  have go : g ≠ o := (ne_of_none e3 ng).symm
  refine yes _ hstep H5 s5 ⟨dx, g, o, [], es ++ [⟨t, f, fvs, cntN r.dg, r.fd⟩], ⟨e5, M.np, b5 _ _ (np5 e4) e4, s3.free ng, ?_, M.no, .nil, ?_, ?_, ?_⟩⟩
  · have := b5 _ _ (np5 ho4) ho4
    rw [this, List.map_append]; rfl
  · intro x hx
    rcases List.mem_append.mp hx with hx | hx
    · exact ((re3.same s4).but b5 k5 fun y hy => np5 ((re3.same s4) y hy).2.1) x hx
    · rw [List.mem_singleton] at hx
      subst hx
      exact ⟨k5 _ _ (k4 _ _ t3), b5 _ _ (np5 hf4) hf4, M.nf, rpL_keep k5 (rpL_keep k4 rf3)⟩
  · rw [List.map_append, ← M.op]; rfl
  · rw [List.map_append]
    simp only [List.nodup_cons, List.mem_cons, not_or, List.mem_append, List.map_cons, List.map_nil, List.not_mem_nil, or_false]
    refine ⟨⟨go, ?_, gf⟩, ⟨ob, Ne.symm fo⟩, ?_⟩
    · intro z
      obtain ⟨x, hx, e⟩ := List.mem_map.mp z
      have := (re3 x hx).2.1
      rw [e, ng] at this; cases this
    · rw [List.nodup_append]
      refine ⟨bb, by simp, ?_⟩
      intro a ha b hb
      rw [List.mem_singleton] at hb
      subst hb
      exact fun z => fb (by rw [← z]; exact ha)
theorem pure_TreeReader_take_closing (CA : ClsA K (ec "TreeReader") at_TreeReader) (h : sp_TreeReader_take_closing K ec vs H Q E) : t_TreeReader_take_closing K (En Q) (start N_TreeReader_take_closing vs) H := by
  obtain ⟨H0, p, r, N, rfl, ⟨s0, ⟨dx, f, o, fvs, es, M⟩, ok, sz, big, no, yes⟩, h1⟩ := h
  have hd := ok.dg
  have hstep : r.step 41 = (if r.dg ≠ 0 ∨ r.fd = [] then none else match r.op.getLast? with
    | none => none
    | some (k, b) => some { r with fd := b ++ [nodeD k (.tup r.fd)], op := r.op.dropLast }) := by
    have hal : ¬ 41 ∈ r.al := by rcases ok.al with e | e | e <;> rw [e] <;> decide
    unfold RS.step; rw [if_neg (by decide), if_neg h1, if_neg hal, if_neg (show ¬ (41 : Nat) = 40 by decide), if_pos rfl]
    try rfl
  have hp := M.hp
  unfold rdFs at hp
  have ho := M.ho
  have hf := M.hf
  have lf := rpL_length M.rf
  have lo : r.op.length = es.length := by rw [M.op, List.length_map]
  unfold t_TreeReader_take_closing
  walk_at "rd"
  rw [S_eqD, dig0]
  refine r_iteN (fun h0 => ?_) (fun h0 => ?_)
  · walk_at "rd"
    exact no (by rw [hstep, if_pos (.inl h0)]) H s0
  walk_at "rd"
  rw [List.length_map]
  refine r_ite (fun h6 => ?_) (fun h6 => ?_)
  · walk_at "rd"
    refine no ?_ H s0
    rw [hstep]
    split
    · rfl
    · have : r.op = [] := List.eq_nil_of_length_eq_zero (by omega)
      rw [this]; rfl
  walk_at "rd"
  rw [lf]
  refine r_ite (fun h7 => ?_) (fun h7 => ?_)
  · walk_at "rd"
    exact no (by rw [hstep, if_pos (.inr (List.eq_nil_of_length_eq_zero (by omega)))]) H s0
  have hn : ¬ (r.dg ≠ 0 ∨ r.fd = []) := fun z => z.elim (fun z => z h0) fun z => h7 (by rw [z]; rfl)
  rw [if_neg hn] at hstep
  rcases List.eq_nil_or_concat es with e | ⟨es', x, e⟩
  · rw [e] at lo; exact absurd (by rw [e]; rfl) h6
  rw [List.concat_eq_append] at e
  subst e
  have hlast : r.op.getLast? = some (x.k, x.ds) := by rw [M.op, List.map_append]; exact List.getLast?_concat ..
  rw [hlast] at hstep
  have hdl : r.op.dropLast = es'.map fun e => (e.k, e.ds) := by rw [M.op, List.map_append]; exact List.dropLast_concat
  obtain ⟨xt, xb, x0, xr⟩ := M.re x (by simp)
  rw [List.map_append] at ho
  have op : o ≠ p := ne_of M.ho M.hp (by intro z; cases z)
  have nd := M.nd
  rw [List.map_append] at nd
  simp only [List.nodup_cons, List.mem_cons, not_or, List.mem_append, List.map_cons, List.map_nil, List.not_mem_nil, or_false] at nd
  obtain ⟨⟨fo, fb, fx⟩, ⟨ob, ox⟩, bb⟩ := nd
  rw [List.nodup_append] at bb
  obtain ⟨bn, _, bx⟩ := bb
  have re0 : OpEs K H0 H es' := fun y hy => M.re y (by simp [hy])
  walk_at "rd"
  intro H1 b1 e1
  have k1 : TK K H H1 := tk_but b1 ho
  have s1 : Same H0 H1 := same_but s0 b1 M.no
  have hp1 := b1 _ _ (Ne.symm op) hp
  have hf1 := b1 _ _ fo hf
  have xb1 := b1 _ _ (Ne.symm ox) xb
  have re1 := re0.but b1 k1 fun y hy z => ob (List.mem_map.mpr ⟨y, hy, z⟩)
  have rf1 := rpL_keep k1 M.rf
  have xr1 := rpL_keep k1 xr
  refine r_gTup2 (k1 _ _ xt) ?_
  walk_at "rd"
  intro t H2 nt s2 e2
  have t2 := sqT_ofD (K := K) e2
  have hp2 := s2 _ _ hp1
  walk_at "rd"
  intro u H3 nu s3 e3
  have t3 := sqT_same s3 t2
  have xb3 := s3 _ _ (s2 _ _ xb1)
  have szx : x.ds.length ≤ N := sz.2 (x.k, x.ds) (by rw [M.op]; simp)
  have lx := rpL_length xr
  walk_at "rd"
  intro H4 b4 e4
  have k3 : TK K H1 H3 := fun a xs h => sqT_same s3 (sqT_same s2 h)
  have k4 : TK K H3 H4 := tk_but b4 xb3
  have xp : x.b ≠ p := ne_of xb M.hp (by intro z; cases z)
  have hp4 := b4 _ _ (Ne.symm xp) (s3 _ _ hp2)
  have ho4 := b4 _ _ ox (s3 _ _ (s2 _ _ e1))
  have s4 : Same H0 H4 := same_but ((s1.trans s2).trans s3) b4 x0
  walk_at "rd"
  intro H5 b5 e5
  walk_at "rd"
  have k5 := tk_ins (K := K) b5 hp4
  have re4 := ((re1.same s2).same s3).but b4 k4 fun y hy z => bx y.b (List.mem_map.mpr ⟨y, hy, rfl⟩) x.b (by simp) z
  have re5 := re4.but b5 k5 fun y hy => ne_of (re4 y hy).2.1 hp4 (by intro z; cases z)
  refine yes _ hstep H5 (same_but s4 b5 M.np) ⟨dx, x.b, o, x.vs ++ [.ref u], es', ⟨e5, M.np, b5 _ _ xp e4, x0, b5 _ _ op ho4, M.no, ?_, re5, hdl, ?_⟩⟩
  · refine rpL_cat (rpL_keep k5 (rpL_keep k4 (rpL_keep k3 xr1))) (.cons (.tup (k5 _ _ (k4 _ _ (sqT_of e3))) (.cons (.int _) (.cons (.tup (k5 _ _ (k4 _ _ t3)) (rpL_keep k5 (rpL_keep k4 (rpL_keep k3 rf1)))) .nil))) .nil)
  · simp only [List.nodup_cons, List.mem_cons, not_or]
    exact ⟨⟨Ne.symm ox, fun z => bx x.b z x.b (by simp) rfl⟩, ob, bn⟩
theorem one_chars : ("1" : Str).cps.toList = [49] := by decide +kernel
theorem pure_TreeReader_take (CA : ClsA K (ec "TreeReader") at_TreeReader) (h : sp_TreeReader_take K ec vs H Q E) : t_TreeReader_take K ec (En Q) (start N_TreeReader_take vs) H := by
  obtain ⟨H0, p, r, N, c, rfl, st⟩ := h
  obtain ⟨s0, ⟨dx, f, o, fvs, es, M⟩, ok, sz, big, no, yes⟩ := id st
  have hd := ok.dg
  have hp := M.hp
  unfold rdFs at hp
  unfold t_TreeReader_take
  walk_at "rd"
  refine r_inCh ?_
  rw [show decide (c ∈ ("0123456789" : Str).cps.toList) = decide (isDig c = true) from decide_eq_decide.mpr isDig_iff]
  refine r_k ?_
  refine r_ite (fun h1 => ?_) (fun h1 => ?_)
  · walk_at "rd"
    exact ⟨H0, p, r, N, c, rfl, st, h1⟩
  have h1 : isDig c = false := by simpa using h1
  walk_at "rd"
  rw [S_eqD, one_chars, decide_eq_decide.mpr (dgS_1 hd)]
  refine r_ite (fun h2 => ?_) (fun h2 => ?_)
  · walk_at "rd"
    exact no (by unfold RS.step; rw [if_neg (by rw [h1]; decide), if_pos h2]) H s0
  walk_at "rd"
  refine r_inCh ?_
  refine r_k ?_
  rw [show decide (c ∈ (S r.al).cps.toList) = decide (c ∈ r.al) from rfl]
  refine r_ite (fun h3 => ?_) (fun h3 => ?_)
  · walk_at "rd"
    exact ⟨H0, p, r, N, c, rfl, st, h1, h2, h3⟩
  walk_at "rd"
  refine r_ite (fun h4 => ?_) (fun h4 => ?_)
  · have h4 := chOpen.mp h4
    subst h4
    walk_at "rd"
    exact ⟨H0, p, r, N, rfl, st, h2⟩
  walk_at "rd"
  refine r_ite (fun h5 => ?_) (fun h5 => ?_)
  · have h5 := chClose.mp h5
    subst h5
    walk_at "rd"
    exact ⟨H0, p, r, N, rfl, st, h2⟩
  walk_at "rd"
  exact no (by unfold RS.step; rw [if_neg (by rw [h1]; decide), if_neg h2, if_neg h3, if_neg (fun z => h4 (chOpen.mpr z)), if_neg (fun z => h5 (chClose.mpr z))]) H s0
end
end Kb
set_option Elab.async false
set_option linter.all false
set_option maxRecDepth 100000
set_option maxHeartbeats 4000000
namespace Kb
open PySem PySem.Spec PyProof.Rows L2 SX
local macro_rules | `(tactic| walk_at "tk") => `(tactic| first
  | assumption
  | ((with_reducible refine' sqT_of ?k); (case k => assumption))
  | ((with_reducible refine' sqT_ofD ?k); (case k => assumption))
  | ((with_reducible refine' noD_of ?k); (case k => assumption))
  | ((with_reducible refine' noD_same ?s ?k); (case s => assumption); (case k => walk_at "tk"))
  | ((with_reducible refine' sqL_of ?k); (case k => assumption))
  | ((with_reducible refine' sqT_same ?s ?k); (case s => assumption); (case k => walk_at "tk"))
  | ((with_reducible refine' sqL_same ?s ?k); (case s => assumption); (case k => walk_at "tk"))
  | ((with_reducible refine' sqT_but ?s ?t ?k); (case s => assumption); (case t => walk_at "tk"); (case k => walk_at "tk"))
  | ((with_reducible refine' sqL_but ?s ?t ?k); (case s => assumption); (case t => walk_at "ne"); (case k => walk_at "tk"))
  | ((with_reducible refine' sqL_of ?k); (case k => walk_at "tk"))
  | ((with_reducible refine' sqT_of ?k); (case k => walk_at "tk"))
  | ((with_reducible refine' at_same ?s ?k); (case s => assumption); (case k => walk_at "tk"))
  | ((with_reducible refine' at_but ?s ?t ?k); (case s => assumption); (case t => walk_at "ne"); (case k => walk_at "tk")))
local macro_rules | `(tactic| walk_at "ne") => `(tactic| first
  | assumption
  | (refine Ne.symm ?_; assumption)
  | exact ne_of_none (by assumption) (by assumption)
  | exact (ne_of_none (by assumption) (by assumption)).symm)
local macro_rules | `(tactic| walk_at "side") => `(tactic| first
  | assumption
  | omega
  | (simp only [sizeLine_eq, List.length_cons, List.length_nil, List.length_map]; omega)
  | (show _ ≤ sizeLine; decide))
local macro_rules | `(tactic| walk_at "kit") => `(tactic| first
  | (show kitB _ _ = some true; decide +kernel)
  | (show kitB _ _ = some false; decide +kernel))
local macro_rules | `(tactic| walk_at "rng") => `(tactic| first
  | (refine ⟨by omega, by omega, by omega, by omega⟩)
  | (refine ⟨by omega, by omega⟩)
  | ((simp only [List.length_map]); (refine ⟨by omega, by omega, by omega, by omega⟩))
  | ((simp only [List.length_map]); (refine ⟨by omega, by omega⟩)))
local macro_rules | `(tactic| walk_at "rd1") => `(tactic| first
  | with_reducible refine r_seq ?_
  | ((with_reducible refine' r_var ?k0 ?_); (case k0 => rfl))
  | with_reducible refine r_op ?_
  | with_reducible refine r_c ?_
  | with_reducible refine r_asg ?_
  | with_reducible refine r_name ?_
  | with_reducible refine r_cons ?_
  | with_reducible refine r_nil ?_
  | with_reducible refine r_CB ?_
  | with_reducible refine r_if ?_
  | with_reducible refine r_test ?_
  | with_reducible refine r_k ?_
  | with_reducible refine r_T ?_
  | with_reducible refine r_F ?_
  | with_reducible refine r_nT ?_
  | with_reducible refine r_nF ?_
  | with_reducible refine r_ret ?_
  | with_reducible refine r_drop ?_
  | with_reducible refine r_next ?_
  | with_reducible refine r_call ?_
  | with_reducible refine r_addI ?_
  | with_reducible refine r_subI ?_
  | with_reducible refine r_ltI ?_
  | with_reducible refine r_gtI ?_
  | with_reducible refine r_leI ?_
  | with_reducible refine r_geI ?_
  | with_reducible refine r_eqI ?_
  | with_reducible refine r_neI ?_
  | with_reducible refine r_int ?_
  | with_reducible refine r_abs ?_
  | with_reducible refine r_not ?_
  | with_reducible refine r_and ?_
  | with_reducible refine r_or ?_
  | with_reducible refine r_tru ?_
  | with_reducible refine r_truB ?_
  | with_reducible refine r_lst ?_
  | with_reducible refine r_tup ?_
  | with_reducible refine r_BM ?_
  | with_reducible refine r_BM0 ?_
  | with_reducible refine r_tyS ?_
  | with_reducible refine r_gsub ?_
  | with_reducible refine r_then ?_
  | with_reducible refine r_lstRg ?_
  | with_reducible refine r_tupRg ?_
  | with_reducible refine r_rg2 ?_
  | with_reducible refine r_rg1 ?_
  | with_reducible refine r_ii ?_
  | with_reducible refine r_i ?_
  | with_reducible refine r_ipI ?_
  | with_reducible refine r_un ?_
  | with_reducible refine r_neg ?_
  | with_reducible refine r_isN ?_
  | with_reducible refine r_notN ?_
  | with_reducible refine r_notV ?_
  | with_reducible refine r_pnot ?_
  | with_reducible refine r_pif ?_
  | with_reducible refine r_andV ?_
  | with_reducible refine r_orV ?_
  | with_reducible refine r_ifE ?_
  | with_reducible refine r_chain ?_
  | with_reducible refine r_sl ?_
  | with_reducible refine r_noPart ?_
  | with_reducible refine r_part ?_
  | with_reducible refine r_brk ?_
  | with_reducible refine r_cont ?_
  | with_reducible refine r_retN ?_
  | with_reducible refine r_truI ?_
  | with_reducible refine r_B ?_
  | with_reducible refine r_for ?_
  | with_reducible refine r_rng1 ?_
  | with_reducible refine r_rng2 ?_
  | with_reducible refine r_rng3 ?_
  | with_reducible refine r_body ?_
  | with_reducible refine r_lc ?_
  | with_reducible refine r_yes ?_
  | ((with_reducible refine' r_mod ?k0 ?_); (case k0 => walk_at "side"))
  | ((with_reducible refine' r_mulI ?k0 ?_); (case k0 => first | exact Or.inl ⟨by omega, by omega⟩ | exact Or.inr ⟨by omega, by omega⟩))
  | ((with_reducible refine' r_lenL ?k0 ?_); (case k0 => walk_at "tk"))
  | ((with_reducible refine' r_lenT ?k0 ?_); (case k0 => walk_at "tk"))
  | ((with_reducible refine' r_truL ?k0 ?_); (case k0 => walk_at "tk"))
  | ((with_reducible refine' r_truT ?k0 ?_); (case k0 => walk_at "tk"))
  | ((with_reducible refine' r_ixL ?k0 ?k1 ?_); (case k0 => walk_at "tk"); (case k1 => first | assumption | rfl))
  | ((with_reducible refine' r_ixT ?k0 ?k1 ?_); (case k0 => walk_at "tk"); (case k1 => first | assumption | rfl))
  | ((with_reducible refine' r_new ?k0 ?_); (case k0 => walk_at "side"))
  | ((with_reducible refine' r_tyL ?k0 ?_); (case k0 => walk_at "tk"))
  | ((with_reducible refine' r_append ?k0 ?k1 ?_); (case k0 => walk_at "tk"); (case k1 => walk_at "side"))
  | ((with_reducible refine' r_setL ?k0 ?k1 ?_); (case k0 => walk_at "tk"); (case k1 => first | assumption | rfl))
  | ((with_reducible refine' r_kTupL ?k0 ?_); (case k0 => walk_at "tk"))
  | ((with_reducible refine' r_kTupT ?k0 ?_); (case k0 => walk_at "tk"))
  | ((with_reducible refine' r_listL ?k0 ?_); (case k0 => walk_at "tk"))
  | ((with_reducible refine' r_listT ?k0 ?_); (case k0 => walk_at "tk"))
  | ((with_reducible refine' r_aug ?k0 ?_); (case k0 => rfl))
  | ((with_reducible refine' r_lenS ?k0 ?_); (case k0 => walk_at "side"))
  | ((with_reducible refine' r_pop ?k0 ?_); (case k0 => walk_at "tk"))
  | ((with_reducible refine' r_pr1 ?k0 ?_); (case k0 => walk_at "rng"))
  | ((with_reducible refine' r_pr2 ?k0 ?_); (case k0 => walk_at "rng"))
  | ((with_reducible refine' r_pr3d ?k0 ?_); (case k0 => walk_at "rng"))
  | ((with_reducible refine' r_isiI ?k0 ?_); (case k0 => walk_at "kit"))
  | ((with_reducible refine' r_isiB ?k0 ?_); (case k0 => walk_at "kit"))
  | ((with_reducible refine' r_isiS ?k0 ?_); (case k0 => walk_at "kit"))
  | ((with_reducible refine' r_isiN ?k0 ?_); (case k0 => walk_at "kit"))
  | ((with_reducible refine' r_isiT ?k0 ?k1 ?_); (case k0 => walk_at "tk"); (case k1 => walk_at "kit"))
  | ((with_reducible refine r_seqT ?_); (repeat (walk_at "rd1")); ((with_reducible refine' r_pseqT ?k0 ?_); (case k0 => walk_at "tk")))
  | ((with_reducible refine r_seqL ?_); (repeat (walk_at "rd1")); ((with_reducible refine' r_pseqL ?k0 ?_); (case k0 => walk_at "tk")))
  | ((with_reducible refine r_seqS ?_); (repeat (walk_at "rd1")); (with_reducible refine r_pseqS ?_)))
local macro_rules | `(tactic| walk_at "rd") => `(tactic| ((repeat (walk_at "rd1")); (try dsimp only)))
local macro_rules | `(tactic| walk_at "rd1") => `(tactic| first
  | with_reducible refine r_BMT ?_
  | with_reducible refine r_par ?_
  | with_reducible refine r_parV ?_
  | ((with_reducible refine' r_ptp ?k0 ?k1 ?_); (case k0 => walk_at "tk"); (case k1 => walk_at "tk"))
  | with_reducible refine r_eqS ?_
  | with_reducible refine r_neS ?_
  | with_reducible refine r_callW ?_
  | with_reducible refine r_try ?_
  | with_reducible refine r_enT ?_
  | ((with_reducible refine' r_pen ?k0 ?_); (case k0 => walk_at "tk")))
local macro_rules | `(tactic| walk_at "lk") => `(tactic| first
  | exact lk_here
  | exact lk_nil
  | ((refine' lk_next ?h ?n); (case h => decide +kernel); (case n => walk_at "lk")))
local macro_rules | `(tactic| walk_at "pf") => `(tactic| first
  | exact pf_here
  | exact pf_nil
  | ((refine' pf_next ?h ?n); (case h => decide +kernel); (case n => walk_at "pf")))
local macro_rules | `(tactic| walk_at "rd1") => `(tactic| first
  | with_reducible refine r_fld ?_
  | with_reducible refine r_sfld ?_
  | with_reducible refine r_meth ?_
  | with_reducible refine r_make ?_
  | with_reducible refine r_fldaug ?_
  | ((with_reducible refine' r_pfld2 ?e ?A ?f ?l ?_); (case e => walk_at "tk"); (case A => assumption); (case f => decide +kernel); (case l => walk_at "lk"))
  | ((with_reducible refine' r_pset2 ?e ?A ?f ?l ?p ?_); (case e => walk_at "tk"); (case A => assumption); (case f => decide +kernel); (case l => exact Nat.le_of_ble_eq_true rfl); (case p => walk_at "pf"))
  | ((with_reducible refine' r_pmeth ?e ?l ?_); (case e => walk_at "tk"); (case l => walk_at "lk"))
  | with_reducible refine r_pmake ?_)
theorem RS.Sz.step {r r' : RS} {N : Nat} (h : r.Sz N) {c : Nat} (e : r.step c = some r') : r'.Sz (N + 1) := by
  obtain ⟨h1, h2⟩ := h
  unfold RS.step at e
  split at e
  · split at e
    · cases e
    · cases e; exact ⟨by show r.fd.length ≤ _; omega, fun x hx => by have := h2 x hx; omega⟩
  split at e
  · cases e
  split at e
  · cases e
    exact ⟨by show (r.fd ++ [_]).length ≤ _; rw [List.length_append]; simp; omega, fun x hx => by have := h2 x hx; omega⟩
  split at e
  · split at e
    · cases e
    · cases e
      refine ⟨Nat.zero_le _, fun x hx => ?_⟩
      rcases List.mem_append.mp hx with hx | hx
      · have := h2 x hx; omega
      · rw [List.mem_singleton] at hx; subst hx; show r.fd.length ≤ _; omega
  split at e
  · split at e
    · cases e
    · split at e
      · cases e
      · rename_i k b hl
        cases e
        have hb := h2 (k, b) (List.mem_of_getLast? hl)
        have hb : b.length ≤ N := hb
        exact ⟨by show (b ++ [_]).length ≤ _; rw [List.length_append]; simp; omega, fun x hx => by have := h2 x (List.dropLast_subset _ hx); omega⟩
  · cases e
theorem go_cons {r : RS} {col c : Nat} {l : List Nat} : r.go col (c :: l) = match r.step c with
    | none => .inl col
    | some r' => r'.go (col + 1) l := rfl
section
variable {K : PySem.W.Frag} {ec : Str → Addr} {ns : List Str} {vs : List V} {H H0 H' : Hp} {Q : VK} {E : XK} {p : Addr} {C : Addr}
theorem RdM.same {dx f o : Addr} {fvs : List V} {es : List OpE} {r : RS} (M : RdM K C H0 H p dx f o fvs es r) (s : Same H H') : RdM K C H0 H' p dx f o fvs es r :=
  ⟨s _ _ M.hp, M.np, s _ _ M.hf, M.nf, s _ _ M.ho, M.no, rpL_same s M.rf, M.re.same s, M.op, M.nd⟩
theorem RdAt.same {r : RS} (h : RdAt K C H0 H p r) (s : Same H H') : RdAt K C H0 H' p r := by
  obtain ⟨dx, f, o, fvs, es, M⟩ := h
  exact ⟨dx, f, o, fvs, es, M.same s⟩
def noComp (ec : Str → Addr) (c : Int) (H : Hp) (E : XK) : Prop := ∀ d H', Same H H' → H d = none → H' d = some (.xd [("column", .int c), ("word", .str "BadComposition")]) → E (.ref (ec "BadComposition")) (some d) H'
def ReadOf (K : PySem.W.Frag) (ec : Str → Addr) (al l : List Nat) (H : Hp) (Q : VK) (E : XK) : Prop := l.length ≤ 100000 ∧
  (∀ c, rdT al l = .inl c → noComp ec c H E) ∧ (∀ r, rdT al l = .inr r → ∀ p H', H p = none → Same H H' → TreeAt K (ec "Tree") H' p l r.fd (decide (r.al = largeL)) → Q (.ref p) H')
def sp_read_letters (K : PySem.W.Frag) (ec : Str → Addr) : Sp := fun vs H Q E => ∃ al l, vs = [.str (S l), .str (S al)] ∧ (al = smallL ∨ al = largeL ∨ al = bothL) ∧ ReadOf K ec al l H Q E
def sp_read_tree (K : PySem.W.Frag) (ec : Str → Addr) : Sp := fun vs H Q E => ∃ l, vs = [.str (S l)] ∧ ReadOf K ec bothL l H Q E
abbrev N_read_letters : List Str := ["text", "allowed", "reader", "column", "sign"]
def t_read_letters (K : PySem.W.Frag) (ec : Str → Addr) (E : XK) : TS :=
  tSeq (tAsg ((tMake (ec "TreeReader") (sp_TreeReader_init K ec) [] E0 (tCons (tVar 1) tNil))) (gName 2))
  (tSeq (tFor (iEnS 1 (tCons (tVar 0) tNil)) (gTup K 2 (gCons (gName 3) (gCons (gName 4) gNil))) ((tIfS ((tNot ((tTru K ((tMeth (ec "TreeReader") "take" (sp_TreeReader_take K ec) [] E0 (tVar 2) (tCons (tVar 4) tNil))))))) ((sRaise (fun cls d _ H => E cls d H) (tBad1 (ec "BadComposition") "BadComposition" "column" (tVar 3)))) (tNext))))
  (tSeq (tIfS ((tNot ((tTru K ((tMeth (ec "TreeReader") "is_whole" (sp_TreeReader_is_whole K ec) [] E0 (tVar 2) tNil)))))) ((sRaise (fun cls d _ H => E cls d H) (tBad1 (ec "BadComposition") "BadComposition" "column" ((tOp (rAddU K) ((tCB (rLenU K) (tCons (tVar 0) tNil))) ((tC (.int 1)))))))) (tNext))
  ((tRet ((tMake (ec "Tree") (sp_Tree_init K ec) [] E0 (tCons (tVar 0) (tCons ((tThen ((tFld K (tVar 2) "found")) (kTupD K))) (tCons ((tOp (rEqU K) ((tFld K (tVar 2) "allowed")) ((tC (.str "ABCDEFGHIJKLMNOPQRSTUVWXYZ"))))) tNil)))))))))
abbrev N_read_tree : List Str := ["text"]
def t_read_tree (K : PySem.W.Frag) (ec : Str → Addr) (E : XK) : TS :=
  (tRet ((tCallW (sp_read_letters K ec) (fun cls d _ H => E cls d H) (tCons (tVar 0) (tCons ((tOp (rAddU K) ((tC (.str "abcdefghijklmnopqrstuvwxyz"))) ((tC (.str "ABCDEFGHIJKLMNOPQRSTUVWXYZ"))))) tNil)))))
theorem len_read_letters (h : sp_read_letters K ec vs H Q E) : vs.length = 2 := by obtain ⟨_, _, rfl, _⟩ := h; rfl
theorem len_read_tree (h : sp_read_tree K ec vs H Q E) : vs.length = 1 := by obtain ⟨_, rfl, _⟩ := h; rfl
theorem pure_read_tree (XS : Exs K ec ns) (h : sp_read_tree K ec vs H Q E) : t_read_tree K ec E (En Q) (start N_read_tree vs) H := by
  obtain ⟨l, rfl, h⟩ := h
  unfold t_read_tree
  walk_at "rd"
  refine r_addS (by decide +kernel) ?_
  rw [both_L]
  exact ⟨bothL, l, rfl, .inr (.inr rfl), h⟩
theorem pure_read_letters (XS : Exs K ec ns) (CR : ClsA K (ec "TreeReader") at_TreeReader) (h : sp_read_letters K ec vs H Q E) : t_read_letters K ec E (En Q) (start N_read_letters vs) H := by
  obtain ⟨al, l, rfl, hal, hl, qE, q⟩ := h
  unfold t_read_letters
  walk_at "rd"
  intro p dx H1 np nd s1 e1
  refine ⟨H, p, dx, al, rfl, e1, np, s1, fun H2 s2 R2 => ⟨rfl, ?_⟩⟩
  walk_at "rd"
  refine r_enS ?_
  walk_at "rd"
  refine r_penS ?_
  refine r_forEnS (fun i σ' H' => ∃ (r : RS) (z3 z4 : Option V), σ' = [some (.str (S l)), some (.str (S al)), some (.ref p), z3, z4] ∧ Same H H' ∧ RdAt K (ec "TreeReader") H H' p r ∧ r.Ok ∧ r.Sz i ∧ (RS.start al).go 1 l = r.go (i + 1) (l.drop i) ∧ i ≤ l.length)
    ⟨RS.start al, none, none, rfl, s2, R2, RS.Ok.start hal, ⟨Nat.le_refl _, fun x hx => nomatch hx⟩, rfl, Nat.zero_le _⟩
    (fun i c σ' H' H4 hc hW s4 => ?_) (fun σ' H' hW => ?_)
  · obtain ⟨r, z3, z4, rfl, sH, R, ok, sz, hg, hi⟩ := hW
    have hc : l[i]? = some c := hc
    have hi : i < l.length := (List.getElem?_eq_some_iff.mp hc).1
    have hdr : l.drop i = c :: l.drop (i + 1) := by rw [List.drop_eq_getElem_cons hi]; rw [List.getElem?_eq_getElem hi] at hc; rw [Option.some.inj hc]
    rw [hdr, go_cons] at hg
    obtain ⟨dx, f, o, fvs, es, M⟩ := R.same s4
    have hp := M.hp
    unfold rdFs at hp
    have sH4 := sH.trans s4
    walk_at "rd"
    refine ⟨H, p, r, i, c, rfl, sH4, R.same s4, ok, sz, by omega, fun hno H5 s5 => ?_, fun r' hr' H5 s5 R5 => ?_⟩
    · walk_at "rd"
      refine r_raise1 ?_
      walk_at "rd"
      refine r_prz1 fun d H6 s6 nd e6 => ?_
      rw [hno] at hg
      refine qE (i + 1) (by unfold rdT; rw [hg]) d H6 (s5.trans s6) (s5.free nd) ?_
      rw [e6, show (1 + (i : Int)) = ((i + 1 : Nat) : Int) by omega]
    · walk_at "rd"
      rw [hr'] at hg
      exact ⟨r', _, _, rfl, s5, R5, ok.step hr', sz.step hr', hg, hi⟩
  · obtain ⟨r, z3, z4, rfl, sH, R, ok, sz, hg, hi⟩ := hW
    have hdr : l.drop ((S l).cps.toList.length) = [] := List.drop_eq_nil_of_le (Nat.le_refl _)
    rw [hdr] at hg
    have hg : (RS.start al).go 1 l = .inr r := hg
    obtain ⟨dx, f, o, fvs, es, M⟩ := id R
    have hp := M.hp
    have hf := M.hf
    unfold rdFs at hp
    walk_at "rd"
    refine ⟨H, p, r, rfl, R, ok.dg, ?_⟩
    walk_at "rd"
    cases hw : r.whole with
    | false =>
      walk_at "rd"
      refine r_raise1 ?_
      walk_at "rd"
      have hl2 : (S l).length = l.length := List.size_toArray ..
      refine r_lenS (by rw [hl2, sizeLine_eq]; omega) ?_
      walk_at "rd"
      refine r_prz1 fun d H6 s6 nd e6 => ?_
      refine qE (l.length + 1) (by unfold rdT; rw [hg]; simp [hw]) d H6 (sH.trans s6) (sH.free nd) ?_
      rw [e6, hl2, show ((l.length : Int) + 1) = ((l.length + 1 : Nat) : Int) by omega]
    | true =>
      have hrd : rdT al l = .inr r := by unfold rdT; rw [hg]; simp [hw]
      have hop : r.op = [] := by
        unfold RS.whole at hw
        simp only [Bool.and_eq_true, decide_eq_true_eq] at hw
        exact List.isEmpty_iff.mp hw.2.1
      have wf := ok.fd
      rw [hop] at wf
      walk_at "rd"
      intro np H5 nnp s5 e5
      walk_at "rd"
      have hp5 := s5 _ _ hp
      walk_at "rd"
      rw [large_L]
      intro t dx2 H6 nt ndx s6 e6
      have sH6 := (sH.trans s5).trans s6
      have hb : decide (S r.al = S largeL) = decide (r.al = largeL) := by rw [S_eqD]
      rw [hb]
      refine ⟨H, t, dx2, np, l, r.fd, decide (r.al = largeL), rfl, e6, (sH.trans s5).free nt, sH6, ?_, wf, fun H7 s7 T => ⟨rfl, ?_⟩⟩
      · exact .tup (sqT_same s6 (sqT_ofD e5)) (rpL_same s6 (rpL_same s5 M.rf))
      · exact q r hrd t H7 ((sH.trans s5).free nt) s7 T
end
end Kb
set_option Elab.async false
set_option linter.all false
set_option maxRecDepth 100000
set_option maxHeartbeats 4000000
namespace Kb
open PySem PySem.Spec PyProof.Rows L2 SX
def ctL (k : Nat) : List Nat := if k = 1 then [] else digL k
mutual
def txW : Dat → List Nat
  | .tup ds => 40 :: (txL ds ++ [41])
  | .str z => z.cps.toList
  | _ => []
def txL : List Dat → List Nat
  | [] => []
  | d :: r => txI d ++ txL r
def txI : Dat → List Nat
  | .tup [.int k, w] => ctL k.toNat ++ txW w
  | _ => []
end
theorem txI_node (k : Nat) (w : Dat) : txI (nodeD k w) = ctL k ++ txW w := by unfold nodeD; rw [txI]; rfl
theorem txL_one (d : Dat) : txL [d] = txI d := by rw [txL, txL, List.append_nil]
theorem txW_tup (ds : List Dat) : txW (.tup ds) = 40 :: (txL ds ++ [41]) := by rw [txW]
theorem txW_str (z : Str) : txW (.str z) = z.cps.toList := by rw [txW]
/-- items over the letters ls, brackets to a depth of n - 1 -/
def WfK (ls : List Nat) : Nat → List Dat → Prop
  | 0, ds => ds = []
  | n + 1, ds => ∀ d ∈ ds, ∃ k w, d = nodeD k w ∧ 1 ≤ k ∧ k ≤ 9999 ∧ ((∃ c, w = .str (S [c]) ∧ c ∈ ls) ∨ ∃ es, w = .tup es ∧ es ≠ [] ∧ 2 ≤ k ∧ WfK ls n es)
theorem WfK.nil {ls : List Nat} : ∀ n, WfK ls n []
  | 0 => rfl
  | _ + 1 => fun _ h => nomatch h
theorem WfK.cat {ls : List Nat} {n : Nat} {a b : List Dat} (ha : WfK ls (n + 1) a) (hb : WfK ls (n + 1) b) : WfK ls (n + 1) (a ++ b) := fun d hd => by
  rcases List.mem_append.mp hd with h | h
  · exact ha d h
  · exact hb d h
theorem WfK.one {ls : List Nat} {n k : Nat} {w : Dat} (h1 : 1 ≤ k) (h2 : k ≤ 9999) (h3 : (∃ c, w = .str (S [c]) ∧ c ∈ ls) ∨ ∃ es, w = .tup es ∧ es ≠ [] ∧ 2 ≤ k ∧ WfK ls n es) : WfK ls (n + 1) [nodeD k w] := fun d hd => by
  rw [List.mem_singleton] at hd
  exact ⟨k, w, hd, h1, h2, h3⟩
theorem WfK.head {ls : List Nat} {n : Nat} {d : Dat} {ds : List Dat} (h : WfK ls (n + 1) (d :: ds)) : WfK ls (n + 1) ds := fun x hx => h x (List.mem_cons_of_mem _ hx)
theorem WfK.tail {ls : List Nat} {n : Nat} {d : Dat} {ds : List Dat} (h : WfK ls (n + 1) (d :: ds)) : ∃ k w, d = nodeD k w ∧ 1 ≤ k ∧ k ≤ 9999 ∧ ((∃ c, w = .str (S [c]) ∧ c ∈ ls) ∨ ∃ es, w = .tup es ∧ es ≠ [] ∧ 2 ≤ k ∧ WfK ls n es) := h d (List.mem_cons_self ..)
theorem ctL_len {k : Nat} (h : k ≤ 9999) : (ctL k).length ≤ 4 := by
  unfold ctL
  split
  · decide
  · exact digL_len (k := 3) (by omega)
theorem step_dig {r : RS} {c : Nat} (h : isDig c = true) (h1 : ¬ (c = 48 ∧ r.dg = 0)) (h2 : r.dg < 1000) : r.step c = some { r with dg := 10 * r.dg + (c - 48) } := by
  unfold RS.step
  rw [if_pos h, if_neg (fun z => z.elim h1 fun z => by omega)]
theorem isDig_of {c : Nat} (h : 48 ≤ c ∧ c ≤ 57) : isDig c = true := by
  unfold isDig
  simp only [Bool.and_eq_true, decide_eq_true_eq]; exact h
theorem go_dig : ∀ (k : Nat) {r : RS} {col : Nat} {rest : List Nat}, r.dg = 0 → 1 ≤ k → k ≤ 9999 → r.go col (digL k ++ rest) = ({ r with dg := k } : RS).go (col + (digL k).length) rest := by
  intro k
  induction k using Nat.strongRecOn with
  | _ k ih =>
  intro r col rest h0 h1 h2
  by_cases hk : k < 10
  · rw [digL_lt hk]
    show r.go col ((48 + k) :: rest) = _
    rw [go_cons, step_dig (isDig_of (by omega)) (by omega) (by omega), h0]
    simp only []
    rw [show 10 * 0 + (48 + k - 48) = k by omega]
    rfl
  · rw [digL_div (by omega), List.append_assoc, ih (k / 10) (by omega) h0 (by omega) (by omega)]
    show RS.go _ _ ((48 + k % 10) :: rest) = _
    rw [go_cons, step_dig (isDig_of (by omega)) (by show ¬ (_ ∧ k / 10 = 0); omega) (by show k / 10 < 1000; omega)]
    simp only []
    rw [show 10 * (k / 10) + (48 + k % 10 - 48) = k by omega, List.length_append, List.length_singleton, Nat.add_assoc]
theorem go_ct {k : Nat} {r : RS} {col : Nat} {rest : List Nat} (h0 : r.dg = 0) (h1 : 1 ≤ k) (h2 : k ≤ 9999) : ∃ m, r.go col (ctL k ++ rest) = ({ r with dg := m } : RS).go (col + (ctL k).length) rest ∧ cntN m = k ∧ m ≠ 1 ∧ (2 ≤ k → m ≠ 0) := by
  unfold ctL
  split
  · rename_i e
    refine ⟨0, ?_, by rw [e]; rfl, by decide, fun z => by omega⟩
    rw [← h0]; rfl
  · refine ⟨k, go_dig k h0 h1 h2, ?_, by omega, fun _ => by omega⟩
    unfold cntN; rw [if_neg (by omega)]
theorem let_dig {c : Nat} (h : c ∈ bothL) : isDig c = false := by
  have : ∀ c ∈ bothL, isDig c = false := by decide +kernel
  exact this c h
theorem step_let {r : RS} {c : Nat} (hb : c ∈ bothL) (h1 : r.dg ≠ 1) (hc : c ∈ r.al) : r.step c = some { al := if c ∈ smallL then smallL else largeL, dg := 0, fd := r.fd ++ [nodeD (cntN r.dg) (.str (S [c]))], op := r.op } := by
  unfold RS.step
  rw [if_neg (by rw [let_dig hb]; decide), if_neg h1, if_pos hc]
def isKind (kd : List Nat) : Prop := kd = smallL ∨ kd = largeL
theorem kind_both {kd : List Nat} (h : isKind kd) {c : Nat} (hc : c ∈ kd) : c ∈ bothL := by
  rcases h with e | e <;> rw [e] at hc
  · exact bothL_small hc
  · exact bothL_large hc
theorem kind_of {kd : List Nat} (h : isKind kd) {c : Nat} (hc : c ∈ kd) : (if c ∈ smallL then smallL else largeL) = kd := by
  rcases h with e | e <;> rw [e] at hc ⊢
  · rw [if_pos hc]
  · have : ∀ c ∈ largeL, ¬ c ∈ smallL := by decide +kernel
    rw [if_neg (this c hc)]
theorem al_open {r : RS} (ok : r.al = smallL ∨ r.al = largeL ∨ r.al = bothL) : ¬ 40 ∈ r.al ∧ ¬ 41 ∈ r.al := by
  rcases ok with e | e | e <;> rw [e] <;> decide
theorem go_tx {kd : List Nat} (hk : isKind kd) : ∀ {n : Nat} {ds : List Dat}, WfK kd n ds → ∀ {r : RS} {col : Nat} {rest : List Nat}, r.dg = 0 → r.op.length + n ≤ 7 → (r.al = smallL ∨ r.al = largeL ∨ r.al = bothL) → (∀ c ∈ kd, c ∈ r.al) →
    ∃ col', r.go col (txL ds ++ rest) = ({ r with al := if ds = [] then r.al else kd, fd := r.fd ++ ds } : RS).go col' rest
  | 0, ds, h, r, col, rest, h0, hn, hal, hsub => by
    rw [show ds = [] from h, txL]
    exact ⟨col, by rw [if_pos rfl, List.append_nil]; rfl⟩
  | n + 1, [], h, r, col, rest, h0, hn, hal, hsub => by
    rw [txL]
    exact ⟨col, by rw [if_pos rfl, List.append_nil]; rfl⟩
  | n + 1, d :: ds, h, r, col, rest, h0, hn, hal, hsub => by
    obtain ⟨k, w, e, h1, h2, h3⟩ := h.tail
    have fin : ∀ {r' : RS} {col' : Nat}, r'.dg = 0 → r'.op = r.op → r'.al = kd → r'.fd = r.fd ++ [d] → ∃ col2, r'.go col' (txL ds ++ rest) = ({ r with al := if d :: ds = [] then r.al else kd, fd := r.fd ++ d :: ds } : RS).go col2 rest := by
      intro r' col' e1 e2 e3 e4
      obtain ⟨col2, e5⟩ := go_tx hk h.head (r := r') (col := col') (rest := rest) e1 (by rw [e2]; exact hn) (by rw [e3]; rcases hk with z | z; exact .inl z; exact .inr (.inl z)) (by rw [e3]; exact fun _ h => h)
      refine ⟨col2, e5.trans ?_⟩
      rw [if_neg (show ¬ (d :: ds = []) by simp)]
      have : (if ds = [] then r'.al else kd) = kd := by split <;> simp [e3]
      rw [this, e4, List.append_assoc, e1, e2, h0]
      rfl
    rw [txL, e, txI_node, List.append_assoc, List.append_assoc]
    obtain ⟨m, g1, c1, c2, c3⟩ := go_ct (r := r) (col := col) (rest := txW w ++ (txL ds ++ rest)) h0 h1 h2
    rw [g1]
    rcases h3 with ⟨c, rfl, hc⟩ | ⟨es, rfl, ne, k2, h4⟩
    · rw [txW_str]
      show ∃ col', RS.go _ _ (c :: (txL ds ++ rest)) = _
      rw [go_cons, step_let (r := { r with dg := m }) (kind_both hk hc) c2 (hsub c hc)]
      simp only []
      rw [← e]
      refine fin rfl rfl (kind_of hk hc) ?_
      show r.fd ++ [nodeD (cntN m) (.str (S [c]))] = _
      rw [c1, e]
    · obtain ⟨a1, a2⟩ := al_open hal
      rw [txW_tup]
      show ∃ col', RS.go _ _ (40 :: ((txL es ++ [41]) ++ (txL ds ++ rest))) = _
      have hlen : r.op.length + 1 + n ≤ 7 := by omega
      have so : ({ r with dg := m } : RS).step 40 = some { r with dg := 0, fd := [], op := r.op ++ [(k, r.fd)] } := by
        unfold RS.step
        have nn : n ≠ 0 := fun z => by rw [z] at h4; exact ne h4
        rw [if_neg (by decide), if_neg c2, if_neg a1, if_pos rfl, if_neg, ← c1]
        exact fun z => z.elim (c3 k2) fun z => by
          have z : r.op.length = 6 := z
          omega
      rw [go_cons, so]
      simp only []
      rw [List.append_assoc]
      obtain ⟨col2, g2⟩ := go_tx hk h4 (r := { r with dg := 0, fd := [], op := r.op ++ [(k, r.fd)] }) (col := col + (ctL k).length + 1) (rest := [41] ++ (txL ds ++ rest)) rfl (by show (r.op ++ [_]).length + n ≤ 7; rw [List.length_append, List.length_singleton]; exact hlen) hal hsub
      rw [g2, if_neg ne]
      show ∃ col', RS.go _ _ (41 :: (txL ds ++ rest)) = _
      have b2 : ¬ 41 ∈ kd := fun z => a2 (hsub _ z)
      have sc : ({ al := kd, dg := 0, fd := [] ++ es, op := r.op ++ [(k, r.fd)] } : RS).step 41 = some { al := kd, dg := 0, fd := r.fd ++ [nodeD k (.tup es)], op := r.op } := by
        unfold RS.step
        rw [if_neg (by decide), if_neg (by show ¬ 0 = 1; decide), if_neg b2, if_neg (show ¬ (41 : Nat) = 40 by decide), if_pos rfl, if_neg]
        · show (match (r.op ++ [(k, r.fd)]).getLast? with | none => none | some (k, b) => _) = _
          rw [List.getLast?_concat]
          show some _ = some _
          rw [List.dropLast_concat]
          rfl
        · exact fun z => z.elim (fun z => z rfl) fun z => ne z
      rw [go_cons, sc]
      simp only []
      rw [← e]
      exact fin rfl rfl rfl rfl
theorem rdT_tx {kd al : List Nat} (hk : isKind kd) (ha : al = kd ∨ al = bothL) {ds : List Dat} (h : WfK kd 7 ds) (ne : ds ≠ []) : rdT al (txL ds) = .inr ⟨kd, 0, ds, []⟩ := by
  have hsub : ∀ c ∈ kd, c ∈ al := by
    rcases ha with e | e <;> rw [e]
    · exact fun _ h => h
    · exact fun c hc => kind_both hk hc
  have hal : al = smallL ∨ al = largeL ∨ al = bothL := by
    rcases ha with e | e
    · rw [e]; rcases hk with z | z
      · exact .inl z
      · exact .inr (.inl z)
    · exact .inr (.inr e)
  obtain ⟨col, g⟩ := go_tx hk h (r := RS.start al) (col := 1) (rest := []) rfl (Nat.le_refl _) hal hsub
  rw [List.append_nil] at g
  unfold rdT
  rw [g, if_neg ne]
  have w : (⟨kd, 0, ds, []⟩ : RS).whole = true := by
    unfold RS.whole
    cases ds with
    | nil => exact absurd rfl ne
    | cons => rfl
  show (if (⟨kd, 0, ds, []⟩ : RS).whole = true then (Sum.inr (⟨kd, 0, ds, []⟩ : RS) : Sum Nat RS) else _) = _
  rw [if_pos w]
end Kb
set_option Elab.async false
set_option linter.all false
set_option maxRecDepth 100000
set_option maxHeartbeats 4000000
namespace Kb
open PySem PySem.Spec PyProof.Rows L2 SX
section
variable {K : PySem.W.Frag} {H H' : Hp} {Q : VK} {E : XK} {p a b l : Addr} {m : Int} {xs ys : List V} {lo hi : Option Int}
variable {ns ms : List Int} {j k : Nat}
theorem r_slN (h : SqT K H a (ns.map V.int)) (q : ∀ p H' (ms : List Int), Same H H' → SqT K H' p (ms.map V.int) → ms.length ≤ ns.length → Q (.ref p) H') : rSlU K (.ref a) lo hi H Q :=
  r_slI h fun p H' s e => q p H' _ s e (cutA_len ns)
theorem r_catN (h1 : SqT K H a (ns.map V.int)) (h2 : SqT K H b (ms.map V.int)) (hz : ns.length + ms.length ≤ 16000000) (q : ∀ p H' (us : List Int), Same H H' → SqT K H' p (us.map V.int) → us.length = ns.length + ms.length → Q (.ref p) H') : rAddU K (.ref a) (.ref b) H Q :=
  r_catII h1 h2 hz fun p H' s e => q p H' _ s e (List.length_append ..)
theorem r_prevN (h : SqT K H a (ns.map V.int)) (q : ∀ p H' (ms : List Int), Same H H' → SqT K H' p (ms.map V.int) → ms.length = ns.length → Q (.ref p) H') : PRev K (.ref a) (some (-1)) H Q :=
  r_prev h fun p H' np s e => q p H' ns.reverse s (by rw [List.map_reverse]; exact sqT_of e) (List.length_reverse ..)
/-- t[m] of a tuple of ints, somewhere in it -/
theorem r_ixI (h : SqT K H a (ns.map V.int)) (h0 : 0 ≤ m) (h1 : m < (ns.length : Int)) (q : ∀ i, ns[m.toNat]? = some i → Q (.int i) H) : rIx K (.ref a) (.int m) H Q := by
  obtain ⟨n, e1, e2⟩ := atI_ints h0 h1
  exact r_ixT h e1 (q n e2)
theorem r_setI {N : Hp → Prop} {i : Int} (h : H p = some (.lst (ns.map V.int))) (h0 : 0 ≤ m) (h1 : m < (ns.length : Int)) (q : ∀ H' ns', But p H H' → H' p = some (.lst ((ns' : List Int).map V.int)) → ns'.length = ns.length → N H') : rSetL (.ref p) (.int m) (.int i) H N := by
  refine r_setL (k := m.toNat) h ?_ fun H' b e => q H' (ns.set m.toNat i) b (by rw [e, List.map_set]) (List.length_set ..)
  rw [List.length_map]
  have := ixN_n (n := ns.length) (k := m.toNat) (by omega)
  rw [show ((m.toNat : Nat) : Int) = m by omega] at this
  exact this
theorem r_kTupI (h : H p = some (.lst (ns.map V.int))) (q : ∀ a H', H a = none → Same H H' → SqT K H' a (ns.map V.int) → Q (.ref a) H') : kTupD K (.ref p) H Q := r_kTupL (sqL_of h) fun a H' na s e => q a H' na s (sqT_ofD e)
theorem r_listI (h : SqT K H p (ns.map V.int)) (q : ∀ a H', H a = none → Same H H' → H' a = some (.lst (ns.map V.int)) → Q (.ref a) H') : rListU K [.ref p] H Q := r_listT h q
end
end Kb
set_option Elab.async false
set_option linter.all false
set_option maxRecDepth 100000
set_option maxHeartbeats 4000000
namespace Kb
open PySem PySem.Spec PyProof.Rows L2 SX PySem.Builtin.Str
def PRevS (x : V) (k : Option Int) (H : Hp) (Q : VK) : Prop := k = some (-1) ∧ ∃ z : Str, x = .str z ∧ z.length ≤ sizeLine ∧ Q (.str ⟨z.cps.toList.reverse.toArray⟩) H
def tRevS (te : TE) (tk : TO) : TE := fun σ H Q => te σ H fun x H1 => tk σ H1 fun k H2 => PRevS x k H2 Q
theorem idx_rev (n : Nat) : strSliceIndices none none (-1) n = (List.range n).reverse := by
  have e : strSliceIndices none none (-1) n = (List.range n).map fun (k : Nat) => ((n : Int) - 1 + (-1) * (k : Int)).toNat := by
    have h : (sliceRange ((n : Int) - 1) (-1) (-1)) = (List.range n).map fun (k : Nat) => ((n : Int) - 1 + (-1) * (k : Int)).toNat := by
      unfold sliceRange
      have : (if (-1 : Int) > 0 then (if (n : Int) - 1 < -1 then (-1 - ((n : Int) - 1) + -1 - 1) / -1 else 0) else (if (n : Int) - 1 > -1 then ((n : Int) - 1 - -1 - -1 - 1) / (- -1) else 0)) = (n : Int) := by
        rw [if_neg (by decide)]
        split
        · rw [show (- -1 : Int) = 1 by decide, Int.ediv_one]; omega
        · omega
      dsimp only
      rw [this, Int.toNat_natCast]
    exact h
  rw [e]
  apply List.ext_getElem?
  intro i
  rw [List.getElem?_map]
  by_cases hi : i < n
  · rw [List.getElem?_range hi, List.getElem?_reverse (by simpa using hi), List.length_range, List.getElem?_range (by omega)]
    show some ((n : Int) - 1 + (-1) * (i : Int)).toNat = some _
    congr 1
    omega
  · rw [List.getElem?_eq_none (by simp; omega), List.getElem?_eq_none (by simp; omega)]; rfl
theorem pick_up : ∀ l : List Nat, (List.range l.length).filterMap (fun i => l[i]?) = l
  | [] => rfl
  | a :: l => by
    rw [List.length_cons, List.range_succ_eq_map, List.filterMap_cons]
    simp only [List.getElem?_cons_zero, List.filterMap_map]
    congr 1
    exact pick_up l
theorem pick_all (l : List Nat) : (List.range l.length).reverse.filterMap (fun i => l[i]?) = l.reverse := by
  rw [List.filterMap_reverse, pick_up]
section
variable {X : Cx} {e : Expr} {te : TE} {st : Expr} {tk : TO} {pos p2 : Pos}
theorem pe_revS (he : PE X e te) (hk : PO X (some st) tk) : PE X (.Subscript e (.Slice none none (some st) p2) pos) (tRevS te tk) := by
  refine ⟨fun pins s σ H Q I h => ?_⟩
  refine Subscript_ (thn (he.run pins s σ H _ I h) fun v s1 ⟨x, H1, I1, r1, q1⟩ => ?_)
  refine wpAny_Slice ?_
  rw [evalPart_none]
  refine wpAny_pure (wpAny_pure ?_)
  refine thn (hk.run pins s1 σ H1 _ I1 q1) fun vk s2 ⟨k, H2, I2, pk, q2⟩ => ?_
  obtain ⟨rfl, z, rfl, hz, q⟩ := q2
  obtain ⟨t, rfl⟩ := r1
  have I4 : Inv X pins σ H2 { s2 with heap := s2.heap.push { cls := .type "slice", data := .fields #[.none, .none, vk] } } := I2.kept (t' := s2.toks) fun b ob q => Heap.get?_push_of_some _ q
  show wpAny (model X.prog X.w) X.A (subscriptTail e (.Slice none none (some st) p2) (.str z t) (.ref s2.heap.objs.size)) (EP X pins σ Q) X.xe { s2 with heap := s2.heap.push { cls := .type "slice", data := .fields #[.none, .none, vk] } }
  refine tail_any (typeIs_str _ _ _) F.slot_str_getitem.lookup ?_ (by with_unfolding_all rfl)
  obtain ⟨u, rfl, eu⟩ := IsPart.raw pk
  have hu : (u.map (·.1)) = some (-1) := eu
  refine wpAny_getItem_str_slice (l := none) (u := none) (st := u) ⟨_, Heap.get?_push_size _ rfl, rfl, rfl⟩ (by rw [hu]; rfl) ?_
  have em : sliceMade z t none none u = .str ⟨z.cps.toList.reverse.toArray⟩ := by
    unfold sliceMade slicePicked
    rw [hu]
    show (if ((-1 : Int) == 1 && _) = true then _ else Made.str ⟨((strSliceIndices none none (-1) z.length).filterMap (z.cps[·]?)).toArray⟩) = _
    rw [if_neg (by rw [show ((-1 : Int) == 1) = false by decide, Bool.false_and]; decide), idx_rev]
    have : (List.range z.length).reverse.filterMap (z.cps[·]?) = z.cps.toList.reverse := by
      have := pick_all z.cps.toList
      rw [Array.length_toList] at this
      rw [← this]
      congr 1
      funext i
      rw [Array.getElem?_toList]
    rw [this]
  rw [em]
  have hl : (⟨z.cps.toList.reverse.toArray⟩ : Str).length ≤ sizeLine := by
    show z.cps.toList.reverse.toArray.size ≤ sizeLine
    rw [List.size_toArray, List.length_reverse, Array.length_toList]
    exact hz
  exact ⟨hl, .str _, H2, I4.tok _, ⟨_, rfl⟩, q⟩
end
section
variable {K : PySem.W.Frag} {H H' : Hp} {Q : VK} {E : XK} {p a b l : Addr} {m : Int} {lo hi : Option Int} {as bs : List Nat} {te : TE} {tk : TO} {σ : L2.St}
theorem r_revS (h : te σ H fun x H1 => tk σ H1 fun k H2 => PRevS x k H2 Q) : tRevS te tk σ H Q := h
theorem r_prevS (hz : as.length ≤ 16000000) (q : Q (.str (S as.reverse)) H) : PRevS (.str (S as)) (some (-1)) H Q := ⟨rfl, S as, rfl, by rw [S_len, sizeLine_eq]; omega, q⟩
theorem r_slSN (hz : as.length ≤ 16000000) (q : ∀ bs : List Nat, bs.length ≤ as.length → Q (.str (S bs)) H) : rSlU K (.str (S as)) lo hi H Q := r_slS hz (q _ (cutA_len as))
theorem r_catSN (hz : as.length + bs.length ≤ 16000000) (q : ∀ cs : List Nat, cs.length = as.length + bs.length → Q (.str (S cs)) H) : rAddU K (.str (S as)) (.str (S bs)) H Q := r_addSS hz (q _ (List.length_append ..))
theorem r_prevSN (hz : as.length ≤ 16000000) (q : ∀ bs : List Nat, bs.length = as.length → Q (.str (S bs)) H) : PRevS (.str (S as)) (some (-1)) H Q := r_prevS hz (q _ (List.length_reverse ..))
theorem flat_oneN : ∀ cs : List Nat, (cs.map fun x => [x]).flatten = cs
  | [] => rfl
  | c :: r => by rw [List.map_cons, List.flatten_cons, flat_oneN r]; rfl
theorem join_ones {cs : List Nat} (h : H a = some (.lst (cs.map fun c => V.str (S [c])))) (hl : cs.length ≤ 1000000) (q : Q (.str (S cs)) H) : rJoin K (.str "") [.ref a] H Q := by
  have e : ((cs.map fun x => [x]).map fun y => V.str (S y)) = cs.map fun x => V.str (S [x]) := by rw [List.map_map]; rfl
  refine r_join (ys := cs.map fun x => [x]) (sqL_of (by rw [e]; exact h)) ?_ ?_
  · rw [flat_oneN]; omega
  · rw [flat_oneN]; exact q
end
end Kb
set_option Elab.async false
set_option linter.all false
namespace Kb
open PySem PySem.Spec PyProof.Rows L2
section
variable {D : Ends} {σ : L2.St} {H : Hp}
theorem r_key {ta tb : TS} (R : L2.St → Hp → Prop) (k : ∀ tb' : TS, (∀ σ' H', R σ' H' → tb' D σ' H') → tSeq ta tb' D σ H) (key : ∀ σ' H', R σ' H' → tb D σ' H') : tSeq ta tb D σ H := k tb key
end
end Kb
set_option Elab.async false
set_option linter.all false
set_option maxRecDepth 100000
set_option maxHeartbeats 4000000
namespace Kb
open PySem PySem.Spec PyProof.Rows L2
def rMin2 : List V → Hp → VK → Prop := fun xs H Q => ∃ i j, xs = [.int i, .int j] ∧ Q (.int (if j < i then j else i)) H
section
variable {K : PySem.W.Frag} {D : Ends} {σ : L2.St} {H : Hp} {te : TE} {g : TG} {tb : TS} {Q : VK} {a d : Addr} {i : Nat}
theorem r_min2 {m n : Int} (q : Q (.int (min m n)) H) : rMin2 [.int m, .int n] H Q := ⟨m, n, rfl, by
  rw [show (if n < m then n else m) = min m n by split <;> omega]; exact q⟩
end
end Kb
set_option Elab.async false
set_option linter.all false
set_option maxRecDepth 100000
set_option maxHeartbeats 4000000
namespace Kb
open PySem PySem.Spec PyProof.Rows L2 SX
def repL (n : Nat) (l : List Nat) : List Nat := (List.replicate n l).flatten
theorem foldl_reps (c : Array Nat) : ∀ (k : Nat) (acc : Array Nat), ((List.replicate k c).foldl (· ++ ·) acc).toList = acc.toList ++ (List.replicate k c.toList).flatten
  | 0, acc => by simp
  | k + 1, acc => by
    rw [List.replicate_succ, List.foldl_cons, foldl_reps c k, List.replicate_succ, List.flatten_cons, Array.toList_append, List.append_assoc]
theorem reps_S (l : List Nat) (k : Nat) : (⟨(List.replicate k (S l).cps).foldl (· ++ ·) #[]⟩ : Str) = S (repL k l) := by
  have h := foldl_reps (S l).cps k #[]
  show (⟨_⟩ : Str) = ⟨(repL k l).toArray⟩
  congr 1
  apply Array.ext'
  rw [h]
  simp [repL, S]
def rRepS : R2 := fun x y H Q => ∃ (l : List Nat) (n : Int), x = .str (S l) ∧ y = .int n ∧ n < 2 ^ 62 ∧ -(2 ^ 62) < n ∧ l.length * n.toNat ≤ 16000000 ∧ Q (.str (S (repL n.toNat l))) H
theorem repL_zero (n : Nat) : repL n [] = [] := by unfold repL; induction n with
  | zero => rfl
  | succ n ih => rw [List.replicate_succ, List.flatten_cons, ih]; rfl
theorem repL_one (l : List Nat) : repL 1 l = l := by unfold repL; simp
theorem repL_succ (n : Nat) (l : List Nat) : repL (n + 1) l = l ++ repL n l := by unfold repL; rw [List.replicate_succ, List.flatten_cons]
theorem repL_len (n : Nat) (l : List Nat) : (repL n l).length = n * l.length := by
  induction n with
  | zero => simp [repL]
  | succ n ih => rw [repL_succ, List.length_append, ih, Nat.succ_mul]; omega
theorem op_mulS {X : Cx} : OpR X (binaryOp .Mult) rRepS := by
  intro pins s σ H x y v u Q I rx ry h
  obtain ⟨l, n, rfl, rfl, h1, h0, hz, q⟩ := h
  obtain ⟨t, rfl⟩ := rx
  obtain ⟨t', rfl⟩ := ry
  refine P.mul_str ?_ (fun hn hl => ?_) (fun hn hl => ?_) ?_
  · rw [decide_eq_false (show ¬ n < -(2 ^ 63) by omega), decide_eq_false (show ¬ n ≥ 2 ^ 63 by omega)]; rfl
  · have e : (S l).length = l.length := S_len l
    rw [e]
    have h2 : (l.length : Int) * n ≤ 16000000 := by
      have : ((l.length * n.toNat : Nat) : Int) ≤ 16000000 := by omega
      rw [Int.natCast_mul, Int.toNat_of_nonneg (by omega)] at this
      exact this
    have h3 : (l.length : Int) ≤ (2 ^ 63 - 1) / n := (Int.le_ediv_iff_mul_le (by omega)).mpr (by omega)
    omega
  · have e : (S l).length = l.length := S_len l
    rw [e]
    have := sizeLine_eq
    show decide (_ > sizeLine) = false
    exact decide_eq_false (by omega)
  · split
    · rename_i hn
      have : n.toNat = 0 := by omega
      rw [this] at q
      refine ⟨by decide, ⟨.str Str.empty, H, I.tok _, ⟨_, rfl⟩, q⟩⟩
    · split
      · rename_i hn hh
        simp only [Bool.or_eq_true, beq_iff_eq] at hh
        have e : repL n.toNat l = l := by
          rcases hh with hh | hh
          · rw [show n.toNat = 1 by omega, repL_one]
          · have : l = [] := List.eq_nil_of_length_eq_zero (by rw [← S_len l]; exact hh)
            rw [this, repL_zero]
        rw [e] at q
        exact ⟨.str (S l), H, I, ⟨_, rfl⟩, q⟩
      · rw [reps_S]
        have hsz : (S (repL n.toNat l)).length ≤ sizeLine := by rw [S_len, repL_len, sizeLine_eq, Nat.mul_comm]; omega
        refine ⟨hsz, ⟨.str (S (repL n.toNat l)), H, I.tok _, ⟨_, rfl⟩, q⟩⟩
theorem r_mulS {l : List Nat} {n : Int} {H : Hp} {Q : VK} (h0 : -(2 ^ 62) < n) (h1 : n < 2 ^ 62) (hz : l.length * n.toNat ≤ 16000000) (q : Q (.str (S (repL n.toNat l))) H) : rRepS (.str (S l)) (.int n) H Q := ⟨l, n, rfl, rfl, h1, h0, hz, q⟩
end Kb
set_option Elab.async false
set_option linter.all false
set_option maxRecDepth 100000
set_option maxHeartbeats 4000000
namespace Kb
open PySem PySem.Spec PyProof.Rows L2 SX
mutual
def exW : Dat → List Nat
  | .tup ds => exL ds
  | .str z => z.cps.toList
  | _ => []
def exL : List Dat → List Nat
  | [] => []
  | d :: r => exI d ++ exL r
def exI : Dat → List Nat
  | .tup [.int k, w] => repL k.toNat (exW w)
  | _ => []
end
theorem exL_cat : ∀ a b : List Dat, exL (a ++ b) = exL a ++ exL b
  | [], b => by rw [exL]; rfl
  | d :: a, b => by rw [List.cons_append, exL, exL, exL_cat a b, List.append_assoc]
theorem exI_node (k : Nat) (w : Dat) : exI (nodeD k w) = repL k (exW w) := by unfold nodeD; rw [exI]; rfl
theorem exL_one (d : Dat) : exL [d] = exI d := by rw [exL, exL, List.append_nil]
theorem exW_tup (ds : List Dat) : exW (.tup ds) = exL ds := by rw [exW]
theorem exW_str (z : Str) : exW (.str z) = z.cps.toList := by rw [exW]
theorem ex_len : ∀ {n : Nat} {ds : List Dat}, WfN n ds → ((exL ds).length : Int) = szL ds
  | 0, ds, h => by rw [show ds = [] from h, exL, szL]; rfl
  | n + 1, [], h => by rw [exL, szL]; rfl
  | n + 1, d :: ds, h => by
    have ih := ex_len (n := n + 1) (ds := ds) (fun x hx => h x (List.mem_cons_of_mem _ hx))
    obtain ⟨k, w, e, h1, h2, h3⟩ := h d (List.mem_cons_self ..)
    rw [exL, szL, List.length_append, e, exI_node, szI_node, repL_len, Int.natCast_add, ih, Int.natCast_mul]
    rcases h3 with ⟨c, rfl, _⟩ | ⟨es, rfl, _, h4⟩
    · rw [exW_str]
      have : szD (.str (S [c])) = 1 := by rw [szD]; intro ds h; cases h
      rw [this]; rfl
    · rw [exW_tup, ex_len h4]
      have : szD (.tup es) = szL es := by rw [szD]
      rw [this]
theorem exW_ne : ∀ {n : Nat} {ds : List Dat}, WfN n ds → ds ≠ [] → exL ds ≠ []
  | 0, ds, h, ne => absurd h ne
  | n + 1, [], h, ne => absurd rfl ne
  | n + 1, d :: ds, h, ne => by
    obtain ⟨k, w, e, h1, h2, h3⟩ := h d (List.mem_cons_self ..)
    have hw : exW w ≠ [] := by
      rcases h3 with ⟨c, rfl, _⟩ | ⟨es, rfl, ne2, h4⟩
      · rw [exW_str]; simp [S]
      · rw [exW_tup]; exact exW_ne h4 ne2
    rw [exL, e, exI_node]
    obtain ⟨j, rfl⟩ : ∃ j, k = j + 1 := ⟨k - 1, by omega⟩
    rw [repL_succ]
    simp [hw]
theorem repL_add (a b : Nat) (l : List Nat) : repL (a + b) l = repL a l ++ repL b l := by
  induction a with
  | zero => rw [Nat.zero_add]; simp [repL]
  | succ a ih => rw [show a + 1 + b = (a + b) + 1 by omega, repL_succ, ih, repL_succ, List.append_assoc]
/-- a bounded part, repeated often enough, begins as the whole repeated -/
theorem rep_take {W : List Nat} {k left : Nat} (hW : W ≠ []) (hk : 1 ≤ k) (hl : 1 ≤ left) :
    (repL (min k ((left + (W.take left).length - 1) / (W.take left).length)) (W.take left)).take left = (repL k W).take left := by
  have hp := List.length_pos_iff.mpr hW
  rw [List.length_take]
  by_cases h : W.length ≤ left
  · rw [show min left W.length = W.length by omega, List.take_of_length_le h]
    by_cases h2 : k ≤ (left + W.length - 1) / W.length
    · rw [Nat.min_eq_left h2]
    · rw [Nat.min_eq_right (by omega)]
      obtain ⟨j, hj⟩ : ∃ j, k = (left + W.length - 1) / W.length + j := ⟨k - (left + W.length - 1) / W.length, by omega⟩
      have hlen : left ≤ (repL ((left + W.length - 1) / W.length) W).length := by
        rw [repL_len]
        have := Nat.div_add_mod (left + W.length - 1) W.length
        have := Nat.mod_lt (left + W.length - 1) hp
        rw [Nat.mul_comm]
        omega
      conv => rhs; rw [hj, repL_add, List.take_append_of_le_length hlen]
  · have h : left < W.length := by omega
    rw [show min left W.length = left by omega]
    have e : (left + left - 1) / left = 1 := by
      apply Nat.div_eq_of_lt_le <;> omega
    rw [e, Nat.min_eq_right hk, repL_one, List.take_take, Nat.min_self]
    obtain ⟨j, rfl⟩ : ∃ j, k = j + 1 := ⟨k - 1, by omega⟩
    rw [repL_succ, List.take_append_of_le_length (by omega)]
theorem beg_step {X W : List Nat} {k many : Nat} (hW : W ≠ []) (hk : 1 ≤ k) (hl : (X.take many).length < many) :
    X.take many ++ (repL (min k ((many - (X.take many).length + (W.take (many - (X.take many).length)).length - 1) / (W.take (many - (X.take many).length)).length)) (W.take (many - (X.take many).length))).take (many - (X.take many).length) = (X ++ repL k W).take many := by
  have hX : X.length < many := by rw [List.length_take] at hl; omega
  rw [List.take_of_length_le (by omega : X.length ≤ many)]
  rw [rep_take hW hk (by omega), List.take_append, List.take_of_length_le (by omega : X.length ≤ many)]
theorem beg_full {X Y : List Nat} {many : Nat} (hl : ¬ (X.take many).length < many) : X.take many = (X ++ Y).take many := by
  rw [List.length_take] at hl
  rw [List.take_append_of_le_length (by omega)]
end Kb
set_option Elab.async false
set_option linter.all false
set_option maxRecDepth 100000
set_option maxHeartbeats 4000000
namespace Kb
open PySem PySem.Spec PyProof.Rows L2 SX
mutual
inductive Lw (K : PySem.W.Frag) (H0 H : Hp) : V → Dat → Prop
  | str (z : Str) : Lw K H0 H (.str z) (.str z)
  | tup {p : Addr} {xs : List V} {ds : List Dat} : H p = some (.lst xs) → H0 p = none → Ls K H0 H xs ds → Lw K H0 H (.ref p) (.tup ds)
inductive Li (K : PySem.W.Frag) (H0 H : Hp) : V → Dat → Prop
  | mk {p : Addr} {k : Nat} {w : V} {d : Dat} : H p = some (.lst [.int (k : Int), w]) → H0 p = none → Lw K H0 H w d → Li K H0 H (.ref p) (nodeD k d)
inductive Ls (K : PySem.W.Frag) (H0 H : Hp) : List V → List Dat → Prop
  | nil : Ls K H0 H [] []
  | cons {v : V} {vs : List V} {d : Dat} {ds : List Dat} : Li K H0 H v d → Ls K H0 H vs ds → Ls K H0 H (v :: vs) (d :: ds)
end
section
variable {K : PySem.W.Frag} {H H' H0 H1 : Hp}
/-- all but a and b is as it was -/
def But2 (a b : Addr) (H H' : Hp) : Prop := ∀ x o, x ≠ a → x ≠ b → H x = some o → H' x = some o
theorem But2.refl {a b : Addr} : But2 a b H H := fun _ _ _ _ h => h
theorem But2.trans {a b : Addr} (h : But2 a b H H1) (h2 : But2 a b H1 H') : But2 a b H H' := fun x o n1 n2 e => h2 x o n1 n2 (h x o n1 n2 e)
theorem But2.same {a b : Addr} (h : But2 a b H H1) (s : Same H1 H') : But2 a b H H' := fun x o n1 n2 e => s _ _ (h x o n1 n2 e)
theorem But2.left {a b : Addr} (h : But2 a b H H1) (s : But a H1 H') : But2 a b H H' := fun x o n1 n2 e => s _ _ n1 (h x o n1 n2 e)
theorem But2.new {a b c : Addr} (h : But2 a b H H1) (s : But c H1 H') (n : H c = none) : But2 a b H H' := fun x o n1 n2 e => s _ _ (ne_of_none e n) (h x o n1 n2 e)
theorem But2.free {a b c : Addr} (h : But2 a b H H') (n1 : c ≠ a) (n2 : c ≠ b) (e : H' c = none) : H c = none := by
  cases z : H c with
  | none => rfl
  | some o => rw [h c o n1 n2 z] at e; cases e
/-- all but a, b and c is as it was -/
def But3 (a b c : Addr) (H H' : Hp) : Prop := ∀ x o, x ≠ a → x ≠ b → x ≠ c → H x = some o → H' x = some o
section
variable {a b c : Addr}
theorem But3.refl : But3 a b c H H := fun _ _ _ _ _ h => h
theorem But3.same (h : But3 a b c H H1) (s : Same H1 H') : But3 a b c H H' := fun x o n1 n2 n3 e => s _ _ (h x o n1 n2 n3 e)
theorem But3.fst (h : But3 a b c H H1) (s : But a H1 H') : But3 a b c H H' := fun x o n1 n2 n3 e => s _ _ n1 (h x o n1 n2 n3 e)
theorem But3.free {x : Addr} (h : But3 a b c H H') (n1 : H' a ≠ none) (n2 : H' b ≠ none) (n3 : H' c ≠ none) (e : H' x = none) : H x = none := by
  cases z : H x with
  | none => rfl
  | some o => rw [h x o (fun y => n1 (y ▸ e)) (fun y => n2 (y ▸ e)) (fun y => n3 (y ▸ e)) z] at e; cases e
end
theorem r_orK {c d : TT} {σ : L2.St} {b1 b2 : Bool} {QB : Bool → Hp → Prop} (hc : ∀ QB : Bool → Hp → Prop, QB b1 H → c σ H QB) (hd : ∀ QB : Bool → Hp → Prop, QB b2 H → d σ H QB) (q : QB (b1 || b2) H) : tOr c d σ H QB := by
  refine r_or (hc _ ?_)
  cases b1 with
  | true => exact q
  | false => exact hd _ q
theorem r_andK {c d : TT} {σ : L2.St} {b1 b2 : Bool} {QB : Bool → Hp → Prop} (hc : ∀ QB : Bool → Hp → Prop, QB b1 H → c σ H QB) (hd : ∀ QB : Bool → Hp → Prop, QB b2 H → d σ H QB) (q : QB (b1 && b2) H) : tAnd c d σ H QB := by
  refine r_and (hc _ ?_)
  cases b1 with
  | true => exact hd _ q
  | false => exact q
theorem r_ixLS {l : List Nat} {m : Int} {Q : VK} (hz : l.length ≤ 16000000) (h0 : 0 ≤ m) (h1 : m < (l.length : Int)) (q : ∀ c ∈ l, Q (.str ⟨#[c]⟩) H) : rIx K (.str (S l)) (.int m) H Q := by
  have h2 : m.toNat < l.length := by omega
  have e : ((m.toNat : Nat) : Int) = m := by omega
  have h4 := atI_nat (show l[m.toNat]? = some l[m.toNat] from List.getElem?_eq_getElem h2)
  rw [e] at h4
  exact r_ixS (by rw [S_len, sizeLine_eq]; omega) h4 (q _ (List.getElem_mem h2))
theorem r_ixP {L : List Int} {p : Addr} {m : Int} {Q : VK} (h : SqL K H p (L.map V.int)) (h0 : 0 ≤ m) (h1 : m < (L.length : Int)) (q : ∀ n ∈ L, Q (.int n) H) : rIx K (.ref p) (.int m) H Q := by
  obtain ⟨n, e1, e2⟩ := atI_ints h0 h1
  exact r_ixL h e1 (q n (List.mem_of_getElem? e2))
end
namespace K24
local macro_rules | `(tactic| walk_at "tk") => `(tactic| first
  | assumption
  | ((with_reducible refine' sqT_of ?k); (case k => assumption))
  | ((with_reducible refine' sqT_ofD ?k); (case k => assumption))
  | ((with_reducible refine' noD_of ?k); (case k => assumption))
  | ((with_reducible refine' noD_same ?s ?k); (case s => assumption); (case k => walk_at "tk"))
  | ((with_reducible refine' sqL_of ?k); (case k => assumption))
  | ((with_reducible refine' sqT_same ?s ?k); (case s => assumption); (case k => walk_at "tk"))
  | ((with_reducible refine' sqL_same ?s ?k); (case s => assumption); (case k => walk_at "tk"))
  | ((with_reducible refine' sqT_but ?s ?t ?k); (case s => assumption); (case t => walk_at "tk"); (case k => walk_at "tk"))
  | ((with_reducible refine' sqL_but ?s ?t ?k); (case s => assumption); (case t => walk_at "ne"); (case k => walk_at "tk"))
  | ((with_reducible refine' sqL_of ?k); (case k => walk_at "tk"))
  | ((with_reducible refine' sqT_of ?k); (case k => walk_at "tk"))
  | ((with_reducible refine' at_same ?s ?k); (case s => assumption); (case k => walk_at "tk"))
  | ((with_reducible refine' at_but ?s ?t ?k); (case s => assumption); (case t => walk_at "ne"); (case k => walk_at "tk")))
local macro_rules | `(tactic| walk_at "ne") => `(tactic| first
  | assumption
  | (refine Ne.symm ?_; assumption)
  | exact ne_of_none (by assumption) (by assumption)
  | exact (ne_of_none (by assumption) (by assumption)).symm)
local macro_rules | `(tactic| walk_at "side") => `(tactic| first
  | assumption
  | omega
  | (simp only [sizeLine_eq, List.length_cons, List.length_nil, List.length_map]; omega)
  | (show _ ≤ sizeLine; decide))
local macro_rules | `(tactic| walk_at "kit") => `(tactic| first
  | (show kitB _ _ = some true; decide +kernel)
  | (show kitB _ _ = some false; decide +kernel))
local macro_rules | `(tactic| walk_at "rng") => `(tactic| first
  | (refine ⟨by omega, by omega, by omega, by omega⟩)
  | (refine ⟨by omega, by omega⟩)
  | ((simp only [List.length_map]); (refine ⟨by omega, by omega, by omega, by omega⟩))
  | ((simp only [List.length_map]); (refine ⟨by omega, by omega⟩)))
local macro_rules | `(tactic| walk_at "rd1") => `(tactic| first
  | with_reducible refine r_seq ?_
  | ((with_reducible refine' r_var ?k0 ?_); (case k0 => rfl))
  | with_reducible refine r_op ?_
  | with_reducible refine r_c ?_
  | with_reducible refine r_asg ?_
  | with_reducible refine r_name ?_
  | with_reducible refine r_cons ?_
  | with_reducible refine r_nil ?_
  | with_reducible refine r_CB ?_
  | with_reducible refine r_if ?_
  | with_reducible refine r_test ?_
  | with_reducible refine r_k ?_
  | with_reducible refine r_T ?_
  | with_reducible refine r_F ?_
  | with_reducible refine r_nT ?_
  | with_reducible refine r_nF ?_
  | with_reducible refine r_ret ?_
  | with_reducible refine r_drop ?_
  | with_reducible refine r_next ?_
  | with_reducible refine r_call ?_
  | with_reducible refine r_addI ?_
  | with_reducible refine r_subI ?_
  | with_reducible refine r_ltI ?_
  | with_reducible refine r_gtI ?_
  | with_reducible refine r_leI ?_
  | with_reducible refine r_geI ?_
  | with_reducible refine r_eqI ?_
  | with_reducible refine r_neI ?_
  | with_reducible refine r_int ?_
  | with_reducible refine r_abs ?_
  | with_reducible refine r_not ?_
  | with_reducible refine r_and ?_
  | with_reducible refine r_or ?_
  | with_reducible refine r_tru ?_
  | with_reducible refine r_truB ?_
  | with_reducible refine r_lst ?_
  | with_reducible refine r_tup ?_
  | with_reducible refine r_BM ?_
  | with_reducible refine r_BM0 ?_
  | with_reducible refine r_tyS ?_
  | with_reducible refine r_gsub ?_
  | with_reducible refine r_then ?_
  | with_reducible refine r_lstRg ?_
  | with_reducible refine r_tupRg ?_
  | with_reducible refine r_rg2 ?_
  | with_reducible refine r_rg1 ?_
  | with_reducible refine r_ii ?_
  | with_reducible refine r_i ?_
  | with_reducible refine r_ipI ?_
  | with_reducible refine r_un ?_
  | with_reducible refine r_neg ?_
  | with_reducible refine r_isN ?_
  | with_reducible refine r_notN ?_
  | with_reducible refine r_notV ?_
  | with_reducible refine r_pnot ?_
  | with_reducible refine r_pif ?_
  | with_reducible refine r_andV ?_
  | with_reducible refine r_orV ?_
  | with_reducible refine r_ifE ?_
  | with_reducible refine r_chain ?_
  | with_reducible refine r_sl ?_
  | with_reducible refine r_noPart ?_
  | with_reducible refine r_part ?_
  | with_reducible refine r_brk ?_
  | with_reducible refine r_cont ?_
  | with_reducible refine r_retN ?_
  | with_reducible refine r_truI ?_
  | with_reducible refine r_B ?_
  | with_reducible refine r_for ?_
  | with_reducible refine r_rng1 ?_
  | with_reducible refine r_rng2 ?_
  | with_reducible refine r_rng3 ?_
  | with_reducible refine r_body ?_
  | with_reducible refine r_lc ?_
  | with_reducible refine r_yes ?_
  | ((with_reducible refine' r_mod ?k0 ?_); (case k0 => walk_at "side"))
  | ((with_reducible refine' r_mulI ?k0 ?_); (case k0 => first | exact Or.inl ⟨by omega, by omega⟩ | exact Or.inr ⟨by omega, by omega⟩))
  | ((with_reducible refine' r_lenL ?k0 ?_); (case k0 => walk_at "tk"))
  | ((with_reducible refine' r_lenT ?k0 ?_); (case k0 => walk_at "tk"))
  | ((with_reducible refine' r_truL ?k0 ?_); (case k0 => walk_at "tk"))
  | ((with_reducible refine' r_truT ?k0 ?_); (case k0 => walk_at "tk"))
  | ((with_reducible refine' r_ixL ?k0 ?k1 ?_); (case k0 => walk_at "tk"); (case k1 => first | assumption | rfl))
  | ((with_reducible refine' r_ixT ?k0 ?k1 ?_); (case k0 => walk_at "tk"); (case k1 => first | assumption | rfl))
  | ((with_reducible refine' r_new ?k0 ?_); (case k0 => walk_at "side"))
  | ((with_reducible refine' r_tyL ?k0 ?_); (case k0 => walk_at "tk"))
  | ((with_reducible refine' r_append ?k0 ?k1 ?_); (case k0 => walk_at "tk"); (case k1 => walk_at "side"))
  | ((with_reducible refine' r_setL ?k0 ?k1 ?_); (case k0 => walk_at "tk"); (case k1 => first | assumption | rfl))
  | ((with_reducible refine' r_kTupL ?k0 ?_); (case k0 => walk_at "tk"))
  | ((with_reducible refine' r_kTupT ?k0 ?_); (case k0 => walk_at "tk"))
  | ((with_reducible refine' r_listL ?k0 ?_); (case k0 => walk_at "tk"))
  | ((with_reducible refine' r_listT ?k0 ?_); (case k0 => walk_at "tk"))
  | ((with_reducible refine' r_aug ?k0 ?_); (case k0 => rfl))
  | ((with_reducible refine' r_lenS ?k0 ?_); (case k0 => walk_at "side"))
  | ((with_reducible refine' r_pop ?k0 ?_); (case k0 => walk_at "tk"))
  | ((with_reducible refine' r_pr1 ?k0 ?_); (case k0 => walk_at "rng"))
  | ((with_reducible refine' r_pr2 ?k0 ?_); (case k0 => walk_at "rng"))
  | ((with_reducible refine' r_pr3d ?k0 ?_); (case k0 => walk_at "rng"))
  | ((with_reducible refine' r_isiI ?k0 ?_); (case k0 => walk_at "kit"))
  | ((with_reducible refine' r_isiB ?k0 ?_); (case k0 => walk_at "kit"))
  | ((with_reducible refine' r_isiS ?k0 ?_); (case k0 => walk_at "kit"))
  | ((with_reducible refine' r_isiN ?k0 ?_); (case k0 => walk_at "kit"))
  | ((with_reducible refine' r_isiT ?k0 ?k1 ?_); (case k0 => walk_at "tk"); (case k1 => walk_at "kit"))
  | ((with_reducible refine r_seqT ?_); (repeat (walk_at "rd1")); ((with_reducible refine' r_pseqT ?k0 ?_); (case k0 => walk_at "tk")))
  | ((with_reducible refine r_seqL ?_); (repeat (walk_at "rd1")); ((with_reducible refine' r_pseqL ?k0 ?_); (case k0 => walk_at "tk")))
  | ((with_reducible refine r_seqS ?_); (repeat (walk_at "rd1")); (with_reducible refine r_pseqS ?_)))
local macro_rules | `(tactic| walk_at "rd") => `(tactic| ((repeat (walk_at "rd1")); (try dsimp only)))
local macro_rules | `(tactic| walk_at "rd1") => `(tactic| first
  | with_reducible refine r_BMT ?_
  | with_reducible refine r_par ?_
  | with_reducible refine r_parV ?_
  | ((with_reducible refine' r_ptp ?k0 ?k1 ?_); (case k0 => walk_at "tk"); (case k1 => walk_at "tk"))
  | with_reducible refine r_eqS ?_
  | with_reducible refine r_neS ?_
  | with_reducible refine r_callW ?_
  | with_reducible refine r_try ?_
  | with_reducible refine r_enT ?_
  | ((with_reducible refine' r_pen ?k0 ?_); (case k0 => walk_at "tk")))
local macro_rules | `(tactic| walk_at "pl0") => `(tactic| first
  | assumption
  | exact pl_same (by assumption) (by assumption)
  | exact pl_same (by assumption) (pl_same (by assumption) (by assumption))
  | exact pl_same (by assumption) (pl_same (by assumption) (pl_same (by assumption) (by assumption))))
local macro_rules | `(tactic| walk_at "pl") => `(tactic| first
  | walk_at "pl0"
  | ((with_reducible refine' pl_butL ?s ?n ?k); (case s => assumption); (case n => walk_at "ne"); (case k => walk_at "pl"))
  | ((with_reducible refine' pl_same ?s ?k); (case s => assumption); (case k => walk_at "pl")))
local macro_rules | `(tactic| walk_at "ne") => `(tactic| first
  | exact ne_pl (by assumption) (by walk_at "pl0")
  | exact (ne_pl (by assumption) (by walk_at "pl0")).symm)
local macro_rules | `(tactic| walk_at "fr") => `(tactic| first
  | assumption
  | ((with_reducible refine' free_but ?b ?n ?h); (case h => assumption); (case n => walk_at "ne"); (case b => walk_at "but"))
  | ((with_reducible refine' Same.free ?b ?h); (case h => assumption); (case b => walk_at "same")))
local macro_rules | `(tactic| walk_at "but") => `(tactic| first
  | assumption
  | exact But.refl
  | ((with_reducible refine' But.trans ?a ?b); (case b => assumption); (case a => walk_at "but"))
  | ((with_reducible refine' But.trans ?a (Same.but ?b)); (case b => assumption); (case a => walk_at "but"))
  | ((with_reducible refine' but_via ?a ?b ?c); (case b => assumption); (case c => walk_at "fr"); (case a => walk_at "but")))
local macro_rules | `(tactic| walk_at "same") => `(tactic| first
  | assumption
  | exact Same.refl _
  | ((with_reducible refine' Same.trans ?a ?b); (case b => assumption); (case a => walk_at "same"))
  | ((with_reducible refine' same_but ?a ?b ?c); (case b => assumption); (case c => walk_at "fr"); (case a => walk_at "same")))
local macro_rules | `(tactic| walk_at "tk") => `(tactic| first
  | ((with_reducible refine' sqT_pl ?s ?t ?k); (case s => assumption); (case t => walk_at "pl0"); (case k => walk_at "tk"))
  | ((with_reducible refine' rp_same ?s ?k); (case s => assumption); (case k => walk_at "tk"))
  | ((with_reducible refine' rp_pl ?s ?t ?k); (case s => assumption); (case t => walk_at "pl0"); (case k => walk_at "tk")))
local macro_rules | `(tactic| walk_at "it") => `(tactic| first
  | assumption
  | ((with_reducible refine' sqI_1 ?k); (case k => assumption))
  | ((with_reducible refine' sqI_0 ?k); (case k => assumption))
  | ((with_reducible refine' sqI_of ?k); (case k => assumption))
  | ((with_reducible refine' sqI_D ?k); (case k => assumption))
  | ((with_reducible refine' sqT_same ?s ?k); (case s => assumption); (case k => walk_at "it"))
  | ((with_reducible refine' sqT_but ?s ?t ?k); (case s => assumption); (case t => assumption); (case k => walk_at "it"))
  | ((with_reducible refine' sqT_pl ?s ?t ?k); (case s => assumption); (case t => walk_at "pl0"); (case k => walk_at "it")))
local macro_rules | `(tactic| walk_at "sz") => `(tactic| first | omega | ((try simp only [List.length_cons, List.length_nil] at *); omega))
local macro_rules | `(tactic| walk_at "au1") => `(tactic| first
  | walk_at "rd1"
  | ((with_reducible refine' r_draw ?k0 ?k1 ?k2 ?_); (case k0 => walk_at "pl"); (case k1 => omega); (case k2 => omega); (intro _ _ _ _ _ _))
  | ((with_reducible refine' r_slN ?k0 ?_); (case k0 => walk_at "it"); (intro _ _ _ _ _ _))
  | ((with_reducible refine' r_catN ?k0 ?k1 ?k2 ?_); (case k0 => walk_at "it"); (case k1 => walk_at "it"); (case k2 => walk_at "sz"); (intro _ _ _ _ _ _))
  | ((with_reducible refine' r_pow ?k0 ?_); (case k0 => exact ⟨by decide, by decide, by decide⟩))
  | ((with_reducible refine' r_ixI ?k0 ?k1 ?k2 ?_); (case k0 => walk_at "it"); (case k1 => omega); (case k2 => omega); (intro _ _))
  | ((with_reducible refine' r_setI ?k0 ?k1 ?k2 ?_); (case k0 => walk_at "tk"); (case k1 => omega); (case k2 => omega); (intro _ _ _ _ _))
  | ((with_reducible refine' r_kTupI ?k0 ?_); (case k0 => walk_at "tk"); (intro _ _ _ _ _))
  | ((with_reducible refine' r_listI ?k0 ?_); (case k0 => walk_at "it"); (intro _ _ _ _ _))
  | (with_reducible refine r_revU ?_)
  | ((with_reducible refine' r_prevN ?k0 ?_); (case k0 => walk_at "it"); (intro _ _ _ _ _ _))
  | (intro _ _ _ _ _))
local macro_rules | `(tactic| walk_at "go") => `(tactic| ((repeat (walk_at "au1")); (first
  | ((with_reducible refine r_ite (fun _ => ?_) (fun _ => ?_)) <;> (walk_at "go"))
  | ((with_reducible refine r_iteN (fun _ => ?_) (fun _ => ?_)) <;> (walk_at "go"))
  | dsimp only
  | skip)))
local macro_rules | `(tactic| walk_at "lk") => `(tactic| first
  | exact lk_here
  | exact lk_nil
  | ((refine' lk_next ?h ?n); (case h => decide +kernel); (case n => walk_at "lk")))
local macro_rules | `(tactic| walk_at "pf") => `(tactic| first
  | exact pf_here
  | exact pf_nil
  | ((refine' pf_next ?h ?n); (case h => decide +kernel); (case n => walk_at "pf")))
local macro_rules | `(tactic| walk_at "rd1") => `(tactic| first
  | with_reducible refine r_fld ?_
  | with_reducible refine r_sfld ?_
  | with_reducible refine r_meth ?_
  | with_reducible refine r_make ?_
  | with_reducible refine r_fldaug ?_
  | ((with_reducible refine' r_pfld2 ?e ?A ?f ?l ?_); (case e => walk_at "tk"); (case A => assumption); (case f => decide +kernel); (case l => walk_at "lk"))
  | ((with_reducible refine' r_pset2 ?e ?A ?f ?l ?p ?_); (case e => walk_at "tk"); (case A => assumption); (case f => decide +kernel); (case l => exact Nat.le_of_ble_eq_true rfl); (case p => walk_at "pf"))
  | ((with_reducible refine' r_pmeth ?e ?l ?_); (case e => walk_at "tk"); (case l => walk_at "lk"))
  | with_reducible refine r_pmake ?_)
end K24
end Kb
set_option Elab.async false
set_option linter.all false
set_option maxRecDepth 100000
set_option maxHeartbeats 4000000
namespace Kb
namespace K24
open PySem PySem.Spec PyProof.Rows L2 SX
local macro_rules | `(tactic| walk_at "tk") => `(tactic| first
  | assumption
  | ((with_reducible refine' sqT_of ?k); (case k => assumption))
  | ((with_reducible refine' sqT_ofD ?k); (case k => assumption))
  | ((with_reducible refine' noD_of ?k); (case k => assumption))
  | ((with_reducible refine' noD_same ?s ?k); (case s => assumption); (case k => walk_at "tk"))
  | ((with_reducible refine' sqL_of ?k); (case k => assumption))
  | ((with_reducible refine' sqT_same ?s ?k); (case s => assumption); (case k => walk_at "tk"))
  | ((with_reducible refine' sqL_same ?s ?k); (case s => assumption); (case k => walk_at "tk"))
  | ((with_reducible refine' sqT_but ?s ?t ?k); (case s => assumption); (case t => walk_at "tk"); (case k => walk_at "tk"))
  | ((with_reducible refine' sqL_but ?s ?t ?k); (case s => assumption); (case t => walk_at "ne"); (case k => walk_at "tk"))
  | ((with_reducible refine' sqL_of ?k); (case k => walk_at "tk"))
  | ((with_reducible refine' sqT_of ?k); (case k => walk_at "tk"))
  | ((with_reducible refine' at_same ?s ?k); (case s => assumption); (case k => walk_at "tk"))
  | ((with_reducible refine' at_but ?s ?t ?k); (case s => assumption); (case t => walk_at "ne"); (case k => walk_at "tk")))
local macro_rules | `(tactic| walk_at "ne") => `(tactic| first
  | assumption
  | (refine Ne.symm ?_; assumption)
  | exact ne_of_none (by assumption) (by assumption)
  | exact (ne_of_none (by assumption) (by assumption)).symm)
local macro_rules | `(tactic| walk_at "side") => `(tactic| first
  | assumption
  | omega
  | (simp only [sizeLine_eq, List.length_cons, List.length_nil, List.length_map]; omega)
  | (show _ ≤ sizeLine; decide))
local macro_rules | `(tactic| walk_at "kit") => `(tactic| first
  | (show kitB _ _ = some true; decide +kernel)
  | (show kitB _ _ = some false; decide +kernel))
local macro_rules | `(tactic| walk_at "rng") => `(tactic| first
  | (refine ⟨by omega, by omega, by omega, by omega⟩)
  | (refine ⟨by omega, by omega⟩)
  | ((simp only [List.length_map]); (refine ⟨by omega, by omega, by omega, by omega⟩))
  | ((simp only [List.length_map]); (refine ⟨by omega, by omega⟩)))
local macro_rules | `(tactic| walk_at "rd1") => `(tactic| first
  | with_reducible refine r_seq ?_
  | ((with_reducible refine' r_var ?k0 ?_); (case k0 => rfl))
  | with_reducible refine r_op ?_
  | with_reducible refine r_c ?_
  | with_reducible refine r_asg ?_
  | with_reducible refine r_name ?_
  | with_reducible refine r_cons ?_
  | with_reducible refine r_nil ?_
  | with_reducible refine r_CB ?_
  | with_reducible refine r_if ?_
  | with_reducible refine r_test ?_
  | with_reducible refine r_k ?_
  | with_reducible refine r_T ?_
  | with_reducible refine r_F ?_
  | with_reducible refine r_nT ?_
  | with_reducible refine r_nF ?_
  | with_reducible refine r_ret ?_
  | with_reducible refine r_drop ?_
  | with_reducible refine r_next ?_
  | with_reducible refine r_call ?_
  | with_reducible refine r_addI ?_
  | with_reducible refine r_subI ?_
  | with_reducible refine r_ltI ?_
  | with_reducible refine r_gtI ?_
  | with_reducible refine r_leI ?_
  | with_reducible refine r_geI ?_
  | with_reducible refine r_eqI ?_
  | with_reducible refine r_neI ?_
  | with_reducible refine r_int ?_
  | with_reducible refine r_abs ?_
  | with_reducible refine r_not ?_
  | with_reducible refine r_and ?_
  | with_reducible refine r_or ?_
  | with_reducible refine r_tru ?_
  | with_reducible refine r_truB ?_
  | with_reducible refine r_lst ?_
  | with_reducible refine r_tup ?_
  | with_reducible refine r_BM ?_
  | with_reducible refine r_BM0 ?_
  | with_reducible refine r_tyS ?_
  | with_reducible refine r_gsub ?_
  | with_reducible refine r_then ?_
  | with_reducible refine r_lstRg ?_
  | with_reducible refine r_tupRg ?_
  | with_reducible refine r_rg2 ?_
  | with_reducible refine r_rg1 ?_
  | with_reducible refine r_ii ?_
  | with_reducible refine r_i ?_
  | with_reducible refine r_ipI ?_
  | with_reducible refine r_un ?_
  | with_reducible refine r_neg ?_
  | with_reducible refine r_isN ?_
  | with_reducible refine r_notN ?_
  | with_reducible refine r_notV ?_
  | with_reducible refine r_pnot ?_
  | with_reducible refine r_pif ?_
  | with_reducible refine r_andV ?_
  | with_reducible refine r_orV ?_
  | with_reducible refine r_ifE ?_
  | with_reducible refine r_chain ?_
  | with_reducible refine r_sl ?_
  | with_reducible refine r_noPart ?_
  | with_reducible refine r_part ?_
  | with_reducible refine r_brk ?_
  | with_reducible refine r_cont ?_
  | with_reducible refine r_retN ?_
  | with_reducible refine r_truI ?_
  | with_reducible refine r_B ?_
  | with_reducible refine r_for ?_
  | with_reducible refine r_rng1 ?_
  | with_reducible refine r_rng2 ?_
  | with_reducible refine r_rng3 ?_
  | with_reducible refine r_body ?_
  | with_reducible refine r_lc ?_
  | with_reducible refine r_yes ?_
  | ((with_reducible refine' r_mod ?k0 ?_); (case k0 => walk_at "side"))
  | ((with_reducible refine' r_mulI ?k0 ?_); (case k0 => first | exact Or.inl ⟨by omega, by omega⟩ | exact Or.inr ⟨by omega, by omega⟩))
  | ((with_reducible refine' r_lenL ?k0 ?_); (case k0 => walk_at "tk"))
  | ((with_reducible refine' r_lenT ?k0 ?_); (case k0 => walk_at "tk"))
  | ((with_reducible refine' r_truL ?k0 ?_); (case k0 => walk_at "tk"))
  | ((with_reducible refine' r_truT ?k0 ?_); (case k0 => walk_at "tk"))
  | ((with_reducible refine' r_ixL ?k0 ?k1 ?_); (case k0 => walk_at "tk"); (case k1 => first | assumption | rfl))
  | ((with_reducible refine' r_ixT ?k0 ?k1 ?_); (case k0 => walk_at "tk"); (case k1 => first | assumption | rfl))
  | ((with_reducible refine' r_new ?k0 ?_); (case k0 => walk_at "side"))
  | ((with_reducible refine' r_tyL ?k0 ?_); (case k0 => walk_at "tk"))
  | ((with_reducible refine' r_append ?k0 ?k1 ?_); (case k0 => walk_at "tk"); (case k1 => walk_at "side"))
  | ((with_reducible refine' r_setL ?k0 ?k1 ?_); (case k0 => walk_at "tk"); (case k1 => first | assumption | rfl))
  | ((with_reducible refine' r_kTupL ?k0 ?_); (case k0 => walk_at "tk"))
  | ((with_reducible refine' r_kTupT ?k0 ?_); (case k0 => walk_at "tk"))
  | ((with_reducible refine' r_listL ?k0 ?_); (case k0 => walk_at "tk"))
  | ((with_reducible refine' r_listT ?k0 ?_); (case k0 => walk_at "tk"))
  | ((with_reducible refine' r_aug ?k0 ?_); (case k0 => rfl))
  | ((with_reducible refine' r_lenS ?k0 ?_); (case k0 => walk_at "side"))
  | ((with_reducible refine' r_pop ?k0 ?_); (case k0 => walk_at "tk"))
  | ((with_reducible refine' r_pr1 ?k0 ?_); (case k0 => walk_at "rng"))
  | ((with_reducible refine' r_pr2 ?k0 ?_); (case k0 => walk_at "rng"))
  | ((with_reducible refine' r_pr3d ?k0 ?_); (case k0 => walk_at "rng"))
  | ((with_reducible refine' r_isiI ?k0 ?_); (case k0 => walk_at "kit"))
  | ((with_reducible refine' r_isiB ?k0 ?_); (case k0 => walk_at "kit"))
  | ((with_reducible refine' r_isiS ?k0 ?_); (case k0 => walk_at "kit"))
  | ((with_reducible refine' r_isiN ?k0 ?_); (case k0 => walk_at "kit"))
  | ((with_reducible refine' r_isiT ?k0 ?k1 ?_); (case k0 => walk_at "tk"); (case k1 => walk_at "kit"))
  | ((with_reducible refine r_seqT ?_); (repeat (walk_at "rd1")); ((with_reducible refine' r_pseqT ?k0 ?_); (case k0 => walk_at "tk")))
  | ((with_reducible refine r_seqL ?_); (repeat (walk_at "rd1")); ((with_reducible refine' r_pseqL ?k0 ?_); (case k0 => walk_at "tk")))
  | ((with_reducible refine r_seqS ?_); (repeat (walk_at "rd1")); (with_reducible refine r_pseqS ?_)))
local macro_rules | `(tactic| walk_at "rd") => `(tactic| ((repeat (walk_at "rd1")); (try dsimp only)))
local macro_rules | `(tactic| walk_at "rd1") => `(tactic| first
  | with_reducible refine r_BMT ?_
  | with_reducible refine r_par ?_
  | with_reducible refine r_parV ?_
  | ((with_reducible refine' r_ptp ?k0 ?k1 ?_); (case k0 => walk_at "tk"); (case k1 => walk_at "tk"))
  | with_reducible refine r_eqS ?_
  | with_reducible refine r_neS ?_
  | with_reducible refine r_callW ?_
  | with_reducible refine r_try ?_
  | with_reducible refine r_enT ?_
  | ((with_reducible refine' r_pen ?k0 ?_); (case k0 => walk_at "tk")))
local macro_rules | `(tactic| walk_at "lk") => `(tactic| first
  | exact lk_here
  | exact lk_nil
  | ((refine' lk_next ?h ?n); (case h => decide +kernel); (case n => walk_at "lk")))
local macro_rules | `(tactic| walk_at "pf") => `(tactic| first
  | exact pf_here
  | exact pf_nil
  | ((refine' pf_next ?h ?n); (case h => decide +kernel); (case n => walk_at "pf")))
local macro_rules | `(tactic| walk_at "rd1") => `(tactic| first
  | with_reducible refine r_fld ?_
  | with_reducible refine r_sfld ?_
  | with_reducible refine r_meth ?_
  | with_reducible refine r_make ?_
  | with_reducible refine r_fldaug ?_
  | ((with_reducible refine' r_pfld2 ?e ?A ?f ?l ?_); (case e => walk_at "tk"); (case A => assumption); (case f => decide +kernel); (case l => walk_at "lk"))
  | ((with_reducible refine' r_pset2 ?e ?A ?f ?l ?p ?_); (case e => walk_at "tk"); (case A => assumption); (case f => decide +kernel); (case l => exact Nat.le_of_ble_eq_true rfl); (case p => walk_at "pf"))
  | ((with_reducible refine' r_pmeth ?e ?l ?_); (case e => walk_at "tk"); (case l => walk_at "lk"))
  | with_reducible refine r_pmake ?_)
section
variable {K : PySem.W.Frag} {ec : Str → Addr} {ns : List Str} {vs : List V} {H H' : Hp} {Q : VK} {E : XK}
theorem r_rStrI {m : Nat} (h : m < 10 ^ 10) (q : Q (.str (S (digL m))) H) : rStrI [.int (m : Int)] H Q := by
  refine ⟨_, rfl, ?_, by rw [toS_nat]; exact q⟩
  rw [Int.natAbs_natCast]
  by_cases h0 : m = 0
  · rw [h0]; decide
  · have := (Nat.log2_lt h0 (k := 34)).mpr (by omega)
    omega
theorem WfK.take {ls : List Nat} : ∀ {n : Nat} {ds : List Dat} (i : Nat), WfK ls n ds → WfK ls n (ds.take i)
  | 0, ds, i, h => by rw [show ds = [] from h]; simp; rfl
  | n + 1, ds, i, h => fun d hd => h d (List.take_subset _ _ hd)
structure SgE where
  q : Addr
  x : Addr
  ds : List Dat
  m : Int
def SgEs (K : PySem.W.Frag) (H0 HH H : Hp) (l : Addr) (ls : List Nat) (es : List SgE) : Prop := ∀ e ∈ es, e.q ≠ l ∧ H e.q = some (.lst [.ref e.x, .int e.m]) ∧ Lw K H0 HH (.ref e.x) (.tup e.ds) ∧ WfK ls 7 e.ds
theorem SgEs.same {H0 HH : Hp} {l : Addr} {ls : List Nat} {es : List SgE} (h : SgEs K H0 HH H l ls es) (s : Same H H') : SgEs K H0 HH H' l ls es := fun e he =>
  let ⟨a, b, c, d⟩ := h e he
  ⟨a, s _ _ b, c, d⟩
theorem SgEs.but {H0 HH : Hp} {l : Addr} {ls : List Nat} {es : List SgE} (h : SgEs K H0 HH H l ls es) (s : But l H H') : SgEs K H0 HH H' l ls es := fun e he =>
  let ⟨a, b, c, d⟩ := h e he
  ⟨a, s _ _ a b, c, d⟩
end
end K24
end Kb
set_option Elab.async false
set_option linter.all false
set_option maxRecDepth 100000
set_option maxHeartbeats 4000000
namespace Kb
open PySem PySem.Spec PyProof.Rows L2 SX
local macro_rules | `(tactic| walk_at "tk") => `(tactic| first
  | assumption
  | ((with_reducible refine' sqT_of ?k); (case k => assumption))
  | ((with_reducible refine' sqT_ofD ?k); (case k => assumption))
  | ((with_reducible refine' noD_of ?k); (case k => assumption))
  | ((with_reducible refine' noD_same ?s ?k); (case s => assumption); (case k => walk_at "tk"))
  | ((with_reducible refine' sqL_of ?k); (case k => assumption))
  | ((with_reducible refine' sqT_same ?s ?k); (case s => assumption); (case k => walk_at "tk"))
  | ((with_reducible refine' sqL_same ?s ?k); (case s => assumption); (case k => walk_at "tk"))
  | ((with_reducible refine' sqT_but ?s ?t ?k); (case s => assumption); (case t => walk_at "tk"); (case k => walk_at "tk"))
  | ((with_reducible refine' sqL_but ?s ?t ?k); (case s => assumption); (case t => walk_at "ne"); (case k => walk_at "tk"))
  | ((with_reducible refine' sqL_of ?k); (case k => walk_at "tk"))
  | ((with_reducible refine' sqT_of ?k); (case k => walk_at "tk"))
  | ((with_reducible refine' at_same ?s ?k); (case s => assumption); (case k => walk_at "tk"))
  | ((with_reducible refine' at_but ?s ?t ?k); (case s => assumption); (case t => walk_at "ne"); (case k => walk_at "tk")))
local macro_rules | `(tactic| walk_at "ne") => `(tactic| first
  | assumption
  | (refine Ne.symm ?_; assumption)
  | exact ne_of_none (by assumption) (by assumption)
  | exact (ne_of_none (by assumption) (by assumption)).symm)
local macro_rules | `(tactic| walk_at "side") => `(tactic| first
  | assumption
  | omega
  | (simp only [sizeLine_eq, List.length_cons, List.length_nil, List.length_map]; omega)
  | (show _ ≤ sizeLine; decide))
local macro_rules | `(tactic| walk_at "kit") => `(tactic| first
  | (show kitB _ _ = some true; decide +kernel)
  | (show kitB _ _ = some false; decide +kernel))
local macro_rules | `(tactic| walk_at "rng") => `(tactic| first
  | (refine ⟨by omega, by omega, by omega, by omega⟩)
  | (refine ⟨by omega, by omega⟩)
  | ((simp only [List.length_map]); (refine ⟨by omega, by omega, by omega, by omega⟩))
  | ((simp only [List.length_map]); (refine ⟨by omega, by omega⟩)))
local macro_rules | `(tactic| walk_at "rd1") => `(tactic| first
  | with_reducible refine r_seq ?_
  | ((with_reducible refine' r_var ?k0 ?_); (case k0 => rfl))
  | with_reducible refine r_op ?_
  | with_reducible refine r_c ?_
  | with_reducible refine r_asg ?_
  | with_reducible refine r_name ?_
  | with_reducible refine r_cons ?_
  | with_reducible refine r_nil ?_
  | with_reducible refine r_CB ?_
  | with_reducible refine r_if ?_
  | with_reducible refine r_test ?_
  | with_reducible refine r_k ?_
  | with_reducible refine r_T ?_
  | with_reducible refine r_F ?_
  | with_reducible refine r_nT ?_
  | with_reducible refine r_nF ?_
  | with_reducible refine r_ret ?_
  | with_reducible refine r_drop ?_
  | with_reducible refine r_next ?_
  | with_reducible refine r_call ?_
  | with_reducible refine r_addI ?_
  | with_reducible refine r_subI ?_
  | with_reducible refine r_ltI ?_
  | with_reducible refine r_gtI ?_
  | with_reducible refine r_leI ?_
  | with_reducible refine r_geI ?_
  | with_reducible refine r_eqI ?_
  | with_reducible refine r_neI ?_
  | with_reducible refine r_int ?_
  | with_reducible refine r_abs ?_
  | with_reducible refine r_not ?_
  | with_reducible refine r_and ?_
  | with_reducible refine r_or ?_
  | with_reducible refine r_tru ?_
  | with_reducible refine r_truB ?_
  | with_reducible refine r_lst ?_
  | with_reducible refine r_tup ?_
  | with_reducible refine r_BM ?_
  | with_reducible refine r_BM0 ?_
  | with_reducible refine r_tyS ?_
  | with_reducible refine r_gsub ?_
  | with_reducible refine r_then ?_
  | with_reducible refine r_lstRg ?_
  | with_reducible refine r_tupRg ?_
  | with_reducible refine r_rg2 ?_
  | with_reducible refine r_rg1 ?_
  | with_reducible refine r_ii ?_
  | with_reducible refine r_i ?_
  | with_reducible refine r_ipI ?_
  | with_reducible refine r_un ?_
  | with_reducible refine r_neg ?_
  | with_reducible refine r_isN ?_
  | with_reducible refine r_notN ?_
  | with_reducible refine r_notV ?_
  | with_reducible refine r_pnot ?_
  | with_reducible refine r_pif ?_
  | with_reducible refine r_andV ?_
  | with_reducible refine r_orV ?_
  | with_reducible refine r_ifE ?_
  | with_reducible refine r_chain ?_
  | with_reducible refine r_sl ?_
  | with_reducible refine r_noPart ?_
  | with_reducible refine r_part ?_
  | with_reducible refine r_brk ?_
  | with_reducible refine r_cont ?_
  | with_reducible refine r_retN ?_
  | with_reducible refine r_truI ?_
  | with_reducible refine r_B ?_
  | with_reducible refine r_for ?_
  | with_reducible refine r_rng1 ?_
  | with_reducible refine r_rng2 ?_
  | with_reducible refine r_rng3 ?_
  | with_reducible refine r_body ?_
  | with_reducible refine r_lc ?_
  | with_reducible refine r_yes ?_
  | ((with_reducible refine' r_mod ?k0 ?_); (case k0 => walk_at "side"))
  | ((with_reducible refine' r_mulI ?k0 ?_); (case k0 => first | exact Or.inl ⟨by omega, by omega⟩ | exact Or.inr ⟨by omega, by omega⟩))
  | ((with_reducible refine' r_lenL ?k0 ?_); (case k0 => walk_at "tk"))
  | ((with_reducible refine' r_lenT ?k0 ?_); (case k0 => walk_at "tk"))
  | ((with_reducible refine' r_truL ?k0 ?_); (case k0 => walk_at "tk"))
  | ((with_reducible refine' r_truT ?k0 ?_); (case k0 => walk_at "tk"))
  | ((with_reducible refine' r_ixL ?k0 ?k1 ?_); (case k0 => walk_at "tk"); (case k1 => first | assumption | rfl))
  | ((with_reducible refine' r_ixT ?k0 ?k1 ?_); (case k0 => walk_at "tk"); (case k1 => first | assumption | rfl))
  | ((with_reducible refine' r_new ?k0 ?_); (case k0 => walk_at "side"))
  | ((with_reducible refine' r_tyL ?k0 ?_); (case k0 => walk_at "tk"))
  | ((with_reducible refine' r_append ?k0 ?k1 ?_); (case k0 => walk_at "tk"); (case k1 => walk_at "side"))
  | ((with_reducible refine' r_setL ?k0 ?k1 ?_); (case k0 => walk_at "tk"); (case k1 => first | assumption | rfl))
  | ((with_reducible refine' r_kTupL ?k0 ?_); (case k0 => walk_at "tk"))
  | ((with_reducible refine' r_kTupT ?k0 ?_); (case k0 => walk_at "tk"))
  | ((with_reducible refine' r_listL ?k0 ?_); (case k0 => walk_at "tk"))
  | ((with_reducible refine' r_listT ?k0 ?_); (case k0 => walk_at "tk"))
  | ((with_reducible refine' r_aug ?k0 ?_); (case k0 => rfl))
  | ((with_reducible refine' r_lenS ?k0 ?_); (case k0 => walk_at "side"))
  | ((with_reducible refine' r_pop ?k0 ?_); (case k0 => walk_at "tk"))
  | ((with_reducible refine' r_pr1 ?k0 ?_); (case k0 => walk_at "rng"))
  | ((with_reducible refine' r_pr2 ?k0 ?_); (case k0 => walk_at "rng"))
  | ((with_reducible refine' r_pr3d ?k0 ?_); (case k0 => walk_at "rng"))
  | ((with_reducible refine' r_isiI ?k0 ?_); (case k0 => walk_at "kit"))
  | ((with_reducible refine' r_isiB ?k0 ?_); (case k0 => walk_at "kit"))
  | ((with_reducible refine' r_isiS ?k0 ?_); (case k0 => walk_at "kit"))
  | ((with_reducible refine' r_isiN ?k0 ?_); (case k0 => walk_at "kit"))
  | ((with_reducible refine' r_isiT ?k0 ?k1 ?_); (case k0 => walk_at "tk"); (case k1 => walk_at "kit"))
  | ((with_reducible refine r_seqT ?_); (repeat (walk_at "rd1")); ((with_reducible refine' r_pseqT ?k0 ?_); (case k0 => walk_at "tk")))
  | ((with_reducible refine r_seqL ?_); (repeat (walk_at "rd1")); ((with_reducible refine' r_pseqL ?k0 ?_); (case k0 => walk_at "tk")))
  | ((with_reducible refine r_seqS ?_); (repeat (walk_at "rd1")); (with_reducible refine r_pseqS ?_)))
local macro_rules | `(tactic| walk_at "rd") => `(tactic| ((repeat (walk_at "rd1")); (try dsimp only)))
local macro_rules | `(tactic| walk_at "rd1") => `(tactic| first
  | with_reducible refine r_BMT ?_
  | with_reducible refine r_par ?_
  | with_reducible refine r_parV ?_
  | ((with_reducible refine' r_ptp ?k0 ?k1 ?_); (case k0 => walk_at "tk"); (case k1 => walk_at "tk"))
  | with_reducible refine r_eqS ?_
  | with_reducible refine r_neS ?_
  | with_reducible refine r_callW ?_
  | with_reducible refine r_try ?_
  | with_reducible refine r_enT ?_
  | ((with_reducible refine' r_pen ?k0 ?_); (case k0 => walk_at "tk")))
local macro_rules | `(tactic| walk_at "lk") => `(tactic| first
  | exact lk_here
  | exact lk_nil
  | ((refine' lk_next ?h ?n); (case h => decide +kernel); (case n => walk_at "lk")))
local macro_rules | `(tactic| walk_at "pf") => `(tactic| first
  | exact pf_here
  | exact pf_nil
  | ((refine' pf_next ?h ?n); (case h => decide +kernel); (case n => walk_at "pf")))
local macro_rules | `(tactic| walk_at "rd1") => `(tactic| first
  | with_reducible refine r_fld ?_
  | with_reducible refine r_sfld ?_
  | with_reducible refine r_meth ?_
  | with_reducible refine r_make ?_
  | with_reducible refine r_fldaug ?_
  | ((with_reducible refine' r_pfld2 ?e ?A ?f ?l ?_); (case e => walk_at "tk"); (case A => assumption); (case f => decide +kernel); (case l => walk_at "lk"))
  | ((with_reducible refine' r_pset2 ?e ?A ?f ?l ?p ?_); (case e => walk_at "tk"); (case A => assumption); (case f => decide +kernel); (case l => exact Nat.le_of_ble_eq_true rfl); (case p => walk_at "pf"))
  | ((with_reducible refine' r_pmeth ?e ?l ?_); (case e => walk_at "tk"); (case l => walk_at "lk"))
  | with_reducible refine r_pmake ?_)
/-- nodes with no empty bracket in it -/
def sp_beginning_of (K : PySem.W.Frag) (n : Nat) : Sp := fun vs H Q _ => ∃ (v : V) (many : Nat), vs = [v, .int (many : Int)] ∧ many ≤ 5000 ∧
  ((0 < n ∧ ∃ c, v = .str (S [c]) ∧ Q (.str (S (([c] : List Nat).take many))) H) ∨ ∃ ds m, Rp K H v (.tup ds) ∧ WfN m ds ∧ m < n ∧ ∀ H', Same H H' → Q (.str (S ((exL ds).take many))) H')
def noLong (ec : Str → Addr) (H : Hp) (E : XK) : Prop := ∀ d H', Same H H' → H d = none → H' d = some (.xd [("word", .str "TooLong")]) → E (.ref (ec "TooLong")) (some d) H'
def sp_first_signs (K : PySem.W.Frag) (ec : Str → Addr) : Sp := fun vs H Q E => ∃ (t : Addr) (many : Int) (l : List Nat) (ds : List Dat) (b : Bool), vs = [.ref t, .int many] ∧ TreeAt K (ec "Tree") H t l ds b ∧ WfN 7 ds ∧ 0 ≤ many ∧
  (many ≤ 5000 → ∀ H', Same H H' → Q (.str (S ((exL ds).take many.toNat))) H') ∧ (5000 < many → noLong ec H E)
abbrev N_beginning_of : List Str := ["what", "many", "found", "count", "inner", "left", "part", "copies"]
def t_beginning_of (K : PySem.W.Frag) (n : Nat) : TS :=
  tSeq (tIfS ((tTru K ((tCB (rIsi K) (tCons (tVar 0) (tCons ((tC (.ty "str"))) tNil)))))) ((tRet ((tSl (rSlU K) (tVar 0) tNoPart (tPart (tVar 1)))))) (tNext))
  (tSeq (tAsg ((tC (.str ""))) (gName 2))
  (tSeq (tFor (iSeqU K (tVar 0)) (gTup K 2 (gCons (gName 3) (gCons (gName 4) gNil))) (tSeq (tAsg ((tOp rSubU (tVar 1) ((tCB (rLenU K) (tCons (tVar 2) tNil))))) (gName 5))
  ((tIfS ((tTest (tOp rGtU (tVar 5) ((tC (.int 0)))))) (tSeq (tAsg ((tCall (sp_beginning_of K n) [] E0 (tCons (tVar 4) (tCons (tVar 5) tNil)))) (gName 6))
  (tSeq (tAsg ((tCB rMin2 (tCons (tVar 3) (tCons ((tOp rFdivU ((tOp rSubU ((tOp (rAddU K) (tVar 5) ((tCB (rLenU K) (tCons (tVar 6) tNil))))) ((tC (.int 1))))) ((tCB (rLenU K) (tCons (tVar 6) tNil))))) tNil)))) (gName 7))
  ((tAug 2 ((tSl (rSlU K) ((tOp rRepS (tVar 6) (tVar 7))) tNoPart (tPart (tVar 5)))) ipS)))) (tNext)))))
  ((tRet (tVar 2)))))
abbrev N_first_signs : List Str := ["tree", "many"]
def t_first_signs (K : PySem.W.Frag) (ec : Str → Addr) (E : XK) : TS :=
  tSeq (tIfS ((tTest (tOp rGtU (tVar 1) ((tC (.int 5000)))))) ((sRaise (fun cls d _ H => E cls d H) (tBad (ec "TooLong") "TooLong"))) (tNext))
  ((tRet ((tCall (sp_beginning_of K 8) [] E0 (tCons ((tFld K (tVar 0) "nodes")) (tCons (tVar 1) tNil))))))
section
variable {K : PySem.W.Frag} {ec : Str → Addr} {ns : List Str} {vs : List V} {H H' : Hp} {Q : VK} {E : XK}
theorem len_beginning_of {n : Nat} (h : sp_beginning_of K n vs H Q E) : vs.length = 2 := by obtain ⟨_, _, rfl, _⟩ := h; rfl
theorem no_beginning_of (h : sp_beginning_of K 0 vs H Q E) : False := by
  obtain ⟨v, m, _, _, ⟨h, _⟩ | ⟨ds, m, _, _, h, _⟩⟩ := h <;> omega
theorem len_first_signs (h : sp_first_signs K ec vs H Q E) : vs.length = 2 := by obtain ⟨_, _, _, _, _, rfl, _⟩ := h; rfl
theorem cut_to_any {m : Nat} (l : List Nat) : cutA l none (some (m : Int)) = l.take m := by
  unfold cutA
  rw [HT.sIx_nat, HT.sIx_none, List.drop_zero, Nat.sub_zero]
  by_cases h : m ≤ l.length
  · rw [Nat.min_eq_left h]
  · rw [Nat.min_eq_right (by omega), List.take_length, List.take_of_length_le (by omega)]
theorem pure_first_signs (XS : Exs K ec ns) (CA : ClsA K (ec "Tree") at_Tree) (h : sp_first_signs K ec vs H Q E) : t_first_signs K ec E (En Q) (start N_first_signs vs) H := by
  obtain ⟨t, many, l, ds, b, rfl, ⟨dx, np, hp, hn⟩, wf, h0, q, qE⟩ := h
  unfold t_first_signs
  walk_at "rd"
  refine r_ite (fun g => ?_) (fun g => ?_)
  · walk_at "rd"
    exact r_raise fun d H' s nd e => qE g d H' s nd e
  · walk_at "rd"
    exact ⟨_, many.toNat, by rw [Int.toNat_of_nonneg h0]; rfl, by omega, .inr ⟨ds, 7, hn, wf, by omega, fun H' s => q (by omega) H' s⟩⟩
theorem pure_beginning_of {n : Nat} (h : sp_beginning_of K (n + 1) vs H Q E) : t_beginning_of K n (En Q) (start N_beginning_of vs) H := by
  obtain ⟨v, many, rfl, hm, ⟨_, c, rfl, q⟩ | ⟨ds, m, hr, wf, hmn, q⟩⟩ := h
  · unfold t_beginning_of
    walk_at "rd"
    refine r_slS (l := [c]) (by simp) ?_
    rw [cut_to_any]
    exact q
  · cases hr with
    | @tup a xs _ ht hds =>
    have hlen := rpL_length hds
    unfold t_beginning_of
    walk_at "rd"
    refine r_forTup (xs := xs) (fun i σ' H' => ∃ (z3 z4 z5 z6 z7 : Option V), σ' = [some (.ref a), some (.int (many : Int)), some (.str (S ((exL (ds.take i)).take many))), z3, z4, z5, z6, z7] ∧ Same H H')
      ⟨none, none, none, none, none, by rw [List.take_zero, exL, List.take_nil]; rfl, Same.refl _⟩ (fun i σ' H' _ ⟨_, _, _, _, _, _, s⟩ => sqT_same s ht) (fun i x σ' H' hx ⟨z3, z4, z5, z6, z7, e, s⟩ => ?_) (fun σ' H' ⟨z3, z4, z5, z6, z7, e, s⟩ => ?_)
    · subst e
      have hi : i < ds.length := by rw [← hlen]; exact (List.getElem?_eq_some_iff.mp hx).1
      obtain ⟨v, hv, rv⟩ := rpL_get hds (List.getElem?_eq_getElem hi)
      rw [hx] at hv
      cases hv
      obtain ⟨m, rfl⟩ : ∃ m', m = m' + 1 := by
        cases m with
        | zero => rw [show ds = [] from wf] at hi; cases hi
        | succ m => exact ⟨m, rfl⟩
      obtain ⟨k, w, e, h1, h2, h3⟩ := wf _ (List.getElem_mem hi)
      have eex : exL (ds.take (i + 1)) = exL (ds.take i) ++ repL k (exW w) := by
        rw [List.take_succ_eq_append_getElem hi, exL_cat, exL_one, e, exI_node]
      rw [e] at rv
      unfold nodeD at rv
      cases rv with
      | @tup b ys _ hb hy =>
      cases hy with
      | @cons v1 _ _ _ hk hy =>
      cases hy with
      | @cons v2 _ _ _ hw hy =>
      cases hy
      cases hk
      have hX : ((exL (ds.take i)).take many).length ≤ many := by rw [List.length_take]; omega
      generalize hXe : exL (ds.take i) = X at *
      have hWne : exW w ≠ [] := by
        rcases h3 with ⟨c, rfl, hc⟩ | ⟨es, rfl, ne, wf2⟩
        · rw [exW_str]; simp [S]
        · rw [exW_tup]; exact exW_ne wf2 ne
      refine r_gTup2 (sqT_same s hb) ?_
      walk_at "rd"
      refine r_lenSS (by omega) ?_
      walk_at "rd"
      refine r_ite (fun g => ?_) (fun g => ?_)
      · have gl : (X.take many).length < many := by omega
        obtain ⟨left, hleft⟩ : ∃ left, left = many - (X.take many).length := ⟨_, rfl⟩
        have el : ((many : Int) - ((X.take many).length : Int)) = (left : Int) := by omega
        rw [el]
        have hWl : 1 ≤ ((exW w).take left).length := by
          rw [List.length_take]
          have := List.length_pos_iff.mpr hWne
          omega
        have hWu : ((exW w).take left).length ≤ left := by rw [List.length_take]; omega
        walk_at "rd"
        have fin : ∀ H2, Same H' H2 → tSeq (tAsg (tCB rMin2 (tCons (tVar 3) (tCons (tOp rFdivU (tOp rSubU (tOp (rAddU K) (tVar 5) (tCB (rLenU K) (tCons (tVar 6) tNil))) (tC (.int 1))) (tCB (rLenU K) (tCons (tVar 6) tNil))) tNil))) (gName 7))
            (tAug 2 (tSl (rSlU K) (tOp rRepS (tVar 6) (tVar 7)) tNoPart (tPart (tVar 5))) ipS)
            { nx := fun σ' H' => ∃ z3 z4 z5 z6 z7, σ' = [some (.ref a), some (.int (many : Int)), some (.str (S ((exL (ds.take (i + 1))).take many))), z3, z4, z5, z6, z7] ∧ Same H H', rt := Q, bk := tRet (tVar 2) (En Q), ct := fun σ' H' => ∃ z3 z4 z5 z6 z7, σ' = [some (.ref a), some (.int (many : Int)), some (.str (S ((exL (ds.take (i + 1))).take many))), z3, z4, z5, z6, z7] ∧ Same H H' }
            [some (.ref a), some (.int (many : Int)), some (.str (S (X.take many))), some (.int (k : Int)), some v2, some (.int (left : Int)), some (.str (S ((exW w).take left))), z7] H2 := by
          intro H2 s2
          walk_at "rd"
          refine r_lenSS (by omega) ?_
          walk_at "rd"
          refine r_lenSS (by omega) ?_
          walk_at "rd"
          refine r_fdiv (by omega) (log2_small (by omega) (by omega)) ?_
          walk_at "rd"
          refine r_min2 ?_
          walk_at "rd"
          obtain ⟨pl, hpl⟩ : ∃ pl, pl = ((exW w).take left).length := ⟨_, rfl⟩
          rw [← hpl] at hWl hWu ⊢
          obtain ⟨cp, hcp⟩ : ∃ cp, cp = min k ((left + pl - 1) / pl) := ⟨_, rfl⟩
          have em : min (k : Int) (((left : Int) + (pl : Int) - 1) / (pl : Int)) = ((cp : Nat) : Int) := by
            have : ((left : Int) + (pl : Int) - 1) = ((left + pl - 1 : Nat) : Int) := by omega
            rw [this, ← Int.natCast_ediv]
            omega
          rw [em]
          have hprod : pl * cp ≤ 10000 := by
            have h1 := Nat.div_mul_le_self (left + pl - 1) pl
            have h2 : cp ≤ (left + pl - 1) / pl := by rw [hcp]; exact Nat.min_le_right _ _
            have h3 := Nat.mul_le_mul_left pl h2
            rw [Nat.mul_comm pl ((left + pl - 1) / pl)] at h3
            omega
          have hcpl : cp ≤ 9999 := by omega
          walk_at "rd"
          refine r_mulS (l := (exW w).take left) (n := (cp : Int)) (by omega) (by omega) (by rw [← hpl, Int.toNat_natCast]; omega) ?_
          walk_at "rd"
          rw [Int.toNat_natCast]
          refine r_slS (l := repL cp ((exW w).take left)) (by rw [repL_len, ← hpl, Nat.mul_comm]; omega) ?_
          rw [cut_to_any]
          have hl2 : ((repL cp ((exW w).take left)).take left).length ≤ left := by rw [List.length_take]; omega
          refine r_ipS (by rw [S_len, S_len, sizeLine_eq]; omega) ?_
          walk_at "rd"
          have hfin : S (X.take many) ++ S ((repL cp ((exW w).take left)).take left) = S ((exL (ds.take (i + 1))).take many) := by
            rw [eex, ← beg_step hWne h1 gl, ← hleft, ← hpl, ← hcp, S_cat]
          rw [hfin]
          exact ⟨_, _, _, _, _, rfl, s.trans s2⟩
        rcases h3 with ⟨c, rfl, hc⟩ | ⟨es, rfl, ne, wf2⟩
        · cases hw
          refine ⟨_, left, rfl, by omega, .inl ⟨by omega, c, rfl, ?_⟩⟩
          refine r_name ?_
          exact fin H' (Same.refl _)
        · refine ⟨_, left, rfl, by omega, .inr ⟨es, m, rp_same s hw, wf2, by omega, fun H2 s2 => ?_⟩⟩
          refine r_name ?_
          rw [exW_tup] at fin
          exact fin H2 s2
      · refine r_next ?_
        exact ⟨_, _, _, _, _, by rw [eex, ← beg_full (by omega)]; rfl, s⟩
    · subst e
      walk_at "rd"
      have := q H' s
      rw [hlen, List.take_length]
      exact this
end
end Kb
set_option Elab.async false
set_option linter.all false
set_option maxRecDepth 100000
set_option maxHeartbeats 4000000
namespace Kb
namespace K26
open PySem PySem.Spec PyProof.Rows L2 SX
local macro_rules | `(tactic| walk_at "tk") => `(tactic| first
  | assumption
  | ((with_reducible refine' sqT_of ?k); (case k => assumption))
  | ((with_reducible refine' sqT_ofD ?k); (case k => assumption))
  | ((with_reducible refine' noD_of ?k); (case k => assumption))
  | ((with_reducible refine' noD_same ?s ?k); (case s => assumption); (case k => walk_at "tk"))
  | ((with_reducible refine' sqL_of ?k); (case k => assumption))
  | ((with_reducible refine' sqT_same ?s ?k); (case s => assumption); (case k => walk_at "tk"))
  | ((with_reducible refine' sqL_same ?s ?k); (case s => assumption); (case k => walk_at "tk"))
  | ((with_reducible refine' sqT_but ?s ?t ?k); (case s => assumption); (case t => walk_at "tk"); (case k => walk_at "tk"))
  | ((with_reducible refine' sqL_but ?s ?t ?k); (case s => assumption); (case t => walk_at "ne"); (case k => walk_at "tk"))
  | ((with_reducible refine' sqL_of ?k); (case k => walk_at "tk"))
  | ((with_reducible refine' sqT_of ?k); (case k => walk_at "tk"))
  | ((with_reducible refine' at_same ?s ?k); (case s => assumption); (case k => walk_at "tk"))
  | ((with_reducible refine' at_but ?s ?t ?k); (case s => assumption); (case t => walk_at "ne"); (case k => walk_at "tk")))
local macro_rules | `(tactic| walk_at "ne") => `(tactic| first
  | assumption
  | (refine Ne.symm ?_; assumption)
  | exact ne_of_none (by assumption) (by assumption)
  | exact (ne_of_none (by assumption) (by assumption)).symm)
local macro_rules | `(tactic| walk_at "side") => `(tactic| first
  | assumption
  | omega
  | (simp only [sizeLine_eq, List.length_cons, List.length_nil, List.length_map]; omega)
  | (show _ ≤ sizeLine; decide))
local macro_rules | `(tactic| walk_at "kit") => `(tactic| first
  | (show kitB _ _ = some true; decide +kernel)
  | (show kitB _ _ = some false; decide +kernel))
local macro_rules | `(tactic| walk_at "rng") => `(tactic| first
  | (refine ⟨by omega, by omega, by omega, by omega⟩)
  | (refine ⟨by omega, by omega⟩)
  | ((simp only [List.length_map]); (refine ⟨by omega, by omega, by omega, by omega⟩))
  | ((simp only [List.length_map]); (refine ⟨by omega, by omega⟩)))
local macro_rules | `(tactic| walk_at "rd1") => `(tactic| first
  | with_reducible refine r_seq ?_
  | ((with_reducible refine' r_var ?k0 ?_); (case k0 => rfl))
  | with_reducible refine r_op ?_
  | with_reducible refine r_c ?_
  | with_reducible refine r_asg ?_
  | with_reducible refine r_name ?_
  | with_reducible refine r_cons ?_
  | with_reducible refine r_nil ?_
  | with_reducible refine r_CB ?_
  | with_reducible refine r_if ?_
  | with_reducible refine r_test ?_
  | with_reducible refine r_k ?_
  | with_reducible refine r_T ?_
  | with_reducible refine r_F ?_
  | with_reducible refine r_nT ?_
  | with_reducible refine r_nF ?_
  | with_reducible refine r_ret ?_
  | with_reducible refine r_drop ?_
  | with_reducible refine r_next ?_
  | with_reducible refine r_call ?_
  | with_reducible refine r_addI ?_
  | with_reducible refine r_subI ?_
  | with_reducible refine r_ltI ?_
  | with_reducible refine r_gtI ?_
  | with_reducible refine r_leI ?_
  | with_reducible refine r_geI ?_
  | with_reducible refine r_eqI ?_
  | with_reducible refine r_neI ?_
  | with_reducible refine r_int ?_
  | with_reducible refine r_abs ?_
  | with_reducible refine r_not ?_
  | with_reducible refine r_and ?_
  | with_reducible refine r_or ?_
  | with_reducible refine r_tru ?_
  | with_reducible refine r_truB ?_
  | with_reducible refine r_lst ?_
  | with_reducible refine r_tup ?_
  | with_reducible refine r_BM ?_
  | with_reducible refine r_BM0 ?_
  | with_reducible refine r_tyS ?_
  | with_reducible refine r_gsub ?_
  | with_reducible refine r_then ?_
  | with_reducible refine r_lstRg ?_
  | with_reducible refine r_tupRg ?_
  | with_reducible refine r_rg2 ?_
  | with_reducible refine r_rg1 ?_
  | with_reducible refine r_ii ?_
  | with_reducible refine r_i ?_
  | with_reducible refine r_ipI ?_
  | with_reducible refine r_un ?_
  | with_reducible refine r_neg ?_
  | with_reducible refine r_isN ?_
  | with_reducible refine r_notN ?_
  | with_reducible refine r_notV ?_
  | with_reducible refine r_pnot ?_
  | with_reducible refine r_pif ?_
  | with_reducible refine r_andV ?_
  | with_reducible refine r_orV ?_
  | with_reducible refine r_ifE ?_
  | with_reducible refine r_chain ?_
  | with_reducible refine r_sl ?_
  | with_reducible refine r_noPart ?_
  | with_reducible refine r_part ?_
  | with_reducible refine r_brk ?_
  | with_reducible refine r_cont ?_
  | with_reducible refine r_retN ?_
  | with_reducible refine r_truI ?_
  | with_reducible refine r_B ?_
  | with_reducible refine r_for ?_
  | with_reducible refine r_rng1 ?_
  | with_reducible refine r_rng2 ?_
  | with_reducible refine r_rng3 ?_
  | with_reducible refine r_body ?_
  | with_reducible refine r_lc ?_
  | with_reducible refine r_yes ?_
  | ((with_reducible refine' r_mod ?k0 ?_); (case k0 => walk_at "side"))
  | ((with_reducible refine' r_mulI ?k0 ?_); (case k0 => first | exact Or.inl ⟨by omega, by omega⟩ | exact Or.inr ⟨by omega, by omega⟩))
  | ((with_reducible refine' r_lenL ?k0 ?_); (case k0 => walk_at "tk"))
  | ((with_reducible refine' r_lenT ?k0 ?_); (case k0 => walk_at "tk"))
  | ((with_reducible refine' r_truL ?k0 ?_); (case k0 => walk_at "tk"))
  | ((with_reducible refine' r_truT ?k0 ?_); (case k0 => walk_at "tk"))
  | ((with_reducible refine' r_ixL ?k0 ?k1 ?_); (case k0 => walk_at "tk"); (case k1 => first | assumption | rfl))
  | ((with_reducible refine' r_ixT ?k0 ?k1 ?_); (case k0 => walk_at "tk"); (case k1 => first | assumption | rfl))
  | ((with_reducible refine' r_new ?k0 ?_); (case k0 => walk_at "side"))
  | ((with_reducible refine' r_tyL ?k0 ?_); (case k0 => walk_at "tk"))
  | ((with_reducible refine' r_append ?k0 ?k1 ?_); (case k0 => walk_at "tk"); (case k1 => walk_at "side"))
  | ((with_reducible refine' r_setL ?k0 ?k1 ?_); (case k0 => walk_at "tk"); (case k1 => first | assumption | rfl))
  | ((with_reducible refine' r_kTupL ?k0 ?_); (case k0 => walk_at "tk"))
  | ((with_reducible refine' r_kTupT ?k0 ?_); (case k0 => walk_at "tk"))
  | ((with_reducible refine' r_listL ?k0 ?_); (case k0 => walk_at "tk"))
  | ((with_reducible refine' r_listT ?k0 ?_); (case k0 => walk_at "tk"))
  | ((with_reducible refine' r_aug ?k0 ?_); (case k0 => rfl))
  | ((with_reducible refine' r_lenS ?k0 ?_); (case k0 => walk_at "side"))
  | ((with_reducible refine' r_pop ?k0 ?_); (case k0 => walk_at "tk"))
  | ((with_reducible refine' r_pr1 ?k0 ?_); (case k0 => walk_at "rng"))
  | ((with_reducible refine' r_pr2 ?k0 ?_); (case k0 => walk_at "rng"))
  | ((with_reducible refine' r_pr3d ?k0 ?_); (case k0 => walk_at "rng"))
  | ((with_reducible refine' r_isiI ?k0 ?_); (case k0 => walk_at "kit"))
  | ((with_reducible refine' r_isiB ?k0 ?_); (case k0 => walk_at "kit"))
  | ((with_reducible refine' r_isiS ?k0 ?_); (case k0 => walk_at "kit"))
  | ((with_reducible refine' r_isiN ?k0 ?_); (case k0 => walk_at "kit"))
  | ((with_reducible refine' r_isiT ?k0 ?k1 ?_); (case k0 => walk_at "tk"); (case k1 => walk_at "kit"))
  | ((with_reducible refine r_seqT ?_); (repeat (walk_at "rd1")); ((with_reducible refine' r_pseqT ?k0 ?_); (case k0 => walk_at "tk")))
  | ((with_reducible refine r_seqL ?_); (repeat (walk_at "rd1")); ((with_reducible refine' r_pseqL ?k0 ?_); (case k0 => walk_at "tk")))
  | ((with_reducible refine r_seqS ?_); (repeat (walk_at "rd1")); (with_reducible refine r_pseqS ?_)))
local macro_rules | `(tactic| walk_at "rd") => `(tactic| ((repeat (walk_at "rd1")); (try dsimp only)))
local macro_rules | `(tactic| walk_at "rd1") => `(tactic| first
  | with_reducible refine r_BMT ?_
  | with_reducible refine r_par ?_
  | with_reducible refine r_parV ?_
  | ((with_reducible refine' r_ptp ?k0 ?k1 ?_); (case k0 => walk_at "tk"); (case k1 => walk_at "tk"))
  | with_reducible refine r_eqS ?_
  | with_reducible refine r_neS ?_
  | with_reducible refine r_callW ?_
  | with_reducible refine r_try ?_
  | with_reducible refine r_enT ?_
  | ((with_reducible refine' r_pen ?k0 ?_); (case k0 => walk_at "tk")))
local macro_rules | `(tactic| walk_at "pl0") => `(tactic| first
  | assumption
  | exact pl_same (by assumption) (by assumption)
  | exact pl_same (by assumption) (pl_same (by assumption) (by assumption))
  | exact pl_same (by assumption) (pl_same (by assumption) (pl_same (by assumption) (by assumption))))
local macro_rules | `(tactic| walk_at "pl") => `(tactic| first
  | walk_at "pl0"
  | ((with_reducible refine' pl_butL ?s ?n ?k); (case s => assumption); (case n => walk_at "ne"); (case k => walk_at "pl"))
  | ((with_reducible refine' pl_same ?s ?k); (case s => assumption); (case k => walk_at "pl")))
local macro_rules | `(tactic| walk_at "ne") => `(tactic| first
  | exact ne_pl (by assumption) (by walk_at "pl0")
  | exact (ne_pl (by assumption) (by walk_at "pl0")).symm)
local macro_rules | `(tactic| walk_at "fr") => `(tactic| first
  | assumption
  | ((with_reducible refine' free_but ?b ?n ?h); (case h => assumption); (case n => walk_at "ne"); (case b => walk_at "but"))
  | ((with_reducible refine' Same.free ?b ?h); (case h => assumption); (case b => walk_at "same")))
local macro_rules | `(tactic| walk_at "but") => `(tactic| first
  | assumption
  | exact But.refl
  | ((with_reducible refine' But.trans ?a ?b); (case b => assumption); (case a => walk_at "but"))
  | ((with_reducible refine' But.trans ?a (Same.but ?b)); (case b => assumption); (case a => walk_at "but"))
  | ((with_reducible refine' but_via ?a ?b ?c); (case b => assumption); (case c => walk_at "fr"); (case a => walk_at "but")))
local macro_rules | `(tactic| walk_at "same") => `(tactic| first
  | assumption
  | exact Same.refl _
  | ((with_reducible refine' Same.trans ?a ?b); (case b => assumption); (case a => walk_at "same"))
  | ((with_reducible refine' same_but ?a ?b ?c); (case b => assumption); (case c => walk_at "fr"); (case a => walk_at "same")))
local macro_rules | `(tactic| walk_at "tk") => `(tactic| first
  | ((with_reducible refine' sqT_pl ?s ?t ?k); (case s => assumption); (case t => walk_at "pl0"); (case k => walk_at "tk"))
  | ((with_reducible refine' rp_same ?s ?k); (case s => assumption); (case k => walk_at "tk"))
  | ((with_reducible refine' rp_pl ?s ?t ?k); (case s => assumption); (case t => walk_at "pl0"); (case k => walk_at "tk")))
local macro_rules | `(tactic| walk_at "it") => `(tactic| first
  | assumption
  | ((with_reducible refine' sqI_1 ?k); (case k => assumption))
  | ((with_reducible refine' sqI_0 ?k); (case k => assumption))
  | ((with_reducible refine' sqI_of ?k); (case k => assumption))
  | ((with_reducible refine' sqI_D ?k); (case k => assumption))
  | ((with_reducible refine' sqT_same ?s ?k); (case s => assumption); (case k => walk_at "it"))
  | ((with_reducible refine' sqT_but ?s ?t ?k); (case s => assumption); (case t => assumption); (case k => walk_at "it"))
  | ((with_reducible refine' sqT_pl ?s ?t ?k); (case s => assumption); (case t => walk_at "pl0"); (case k => walk_at "it")))
local macro_rules | `(tactic| walk_at "sz") => `(tactic| first | omega | ((try simp only [List.length_cons, List.length_nil] at *); omega))
local macro_rules | `(tactic| walk_at "au1") => `(tactic| first
  | walk_at "rd1"
  | ((with_reducible refine' r_draw ?k0 ?k1 ?k2 ?_); (case k0 => walk_at "pl"); (case k1 => omega); (case k2 => omega); (intro _ _ _ _ _ _))
  | ((with_reducible refine' r_slN ?k0 ?_); (case k0 => walk_at "it"); (intro _ _ _ _ _ _))
  | ((with_reducible refine' r_catN ?k0 ?k1 ?k2 ?_); (case k0 => walk_at "it"); (case k1 => walk_at "it"); (case k2 => walk_at "sz"); (intro _ _ _ _ _ _))
  | ((with_reducible refine' r_pow ?k0 ?_); (case k0 => exact ⟨by decide, by decide, by decide⟩))
  | ((with_reducible refine' r_ixI ?k0 ?k1 ?k2 ?_); (case k0 => walk_at "it"); (case k1 => omega); (case k2 => omega); (intro _ _))
  | ((with_reducible refine' r_setI ?k0 ?k1 ?k2 ?_); (case k0 => walk_at "tk"); (case k1 => omega); (case k2 => omega); (intro _ _ _ _ _))
  | ((with_reducible refine' r_kTupI ?k0 ?_); (case k0 => walk_at "tk"); (intro _ _ _ _ _))
  | ((with_reducible refine' r_listI ?k0 ?_); (case k0 => walk_at "it"); (intro _ _ _ _ _))
  | (with_reducible refine r_revU ?_)
  | ((with_reducible refine' r_prevN ?k0 ?_); (case k0 => walk_at "it"); (intro _ _ _ _ _ _))
  | (intro _ _ _ _ _))
local macro_rules | `(tactic| walk_at "go") => `(tactic| ((repeat (walk_at "au1")); (first
  | ((with_reducible refine r_ite (fun _ => ?_) (fun _ => ?_)) <;> (walk_at "go"))
  | ((with_reducible refine r_iteN (fun _ => ?_) (fun _ => ?_)) <;> (walk_at "go"))
  | dsimp only
  | skip)))
local macro_rules | `(tactic| walk_at "lk") => `(tactic| first
  | exact lk_here
  | exact lk_nil
  | ((refine' lk_next ?h ?n); (case h => decide +kernel); (case n => walk_at "lk")))
local macro_rules | `(tactic| walk_at "pf") => `(tactic| first
  | exact pf_here
  | exact pf_nil
  | ((refine' pf_next ?h ?n); (case h => decide +kernel); (case n => walk_at "pf")))
local macro_rules | `(tactic| walk_at "rd1") => `(tactic| first
  | with_reducible refine r_fld ?_
  | with_reducible refine r_sfld ?_
  | with_reducible refine r_meth ?_
  | with_reducible refine r_make ?_
  | with_reducible refine r_fldaug ?_
  | ((with_reducible refine' r_pfld2 ?e ?A ?f ?l ?_); (case e => walk_at "tk"); (case A => assumption); (case f => decide +kernel); (case l => walk_at "lk"))
  | ((with_reducible refine' r_pset2 ?e ?A ?f ?l ?p ?_); (case e => walk_at "tk"); (case A => assumption); (case f => decide +kernel); (case l => exact Nat.le_of_ble_eq_true rfl); (case p => walk_at "pf"))
  | ((with_reducible refine' r_pmeth ?e ?l ?_); (case e => walk_at "tk"); (case l => walk_at "lk"))
  | with_reducible refine r_pmake ?_)
end K26
end Kb
set_option Elab.async false
set_option linter.all false
set_option maxRecDepth 100000
set_option maxHeartbeats 4000000
namespace Kb
namespace K26
open PySem PySem.Spec PyProof.Rows L2 SX
structure Ent where
  q : Addr
  x : Addr
  ds : List Dat
  pos : Nat
  left : Nat
def restE (e : Ent) : List Nat := exL (e.ds.drop e.pos) ++ repL (e.left - 1) (exL e.ds)
/-- what is still to come, the top first -/
def rest : List Ent → List Nat
  | [] => []
  | e :: r => restE e ++ rest r
/-- how many steps at most to the next sign -/
def stU : List Ent → Nat
  | [] => 0
  | e :: r => if e.pos < e.ds.length then 8 - (r.length + 1) else 8 + (r.length + 1)
theorem stU_cons (e : Ent) (r : List Ent) : stU (e :: r) = if e.pos < e.ds.length then 8 - (r.length + 1) else 8 + (r.length + 1) := rfl
/-- the stack is sound: the entry at height h has brackets to a depth of 7 - h -/
def StOk (ls : List Nat) : List Ent → Prop
  | [] => True
  | e :: r => e.ds ≠ [] ∧ WfK ls (7 - r.length) e.ds ∧ e.pos ≤ e.ds.length ∧ 1 ≤ e.left ∧ r.length ≤ 6 ∧ StOk ls r
structure RunI (ls X : List Nat) (many : Nat) (i : Nat) (out : List Nat) (st : List Ent) : Prop where
  ok : StOk ls st
  len : out.length ≤ many
  eq : (out ++ rest st).take many = X.take many
  fuel : i + stU st ≤ 16 * out.length + 7
theorem rest_next {e : Ent} {r : List Ent} {k : Nat} {w : Dat} (hp : e.pos < e.ds.length) (hd : e.ds[e.pos] = nodeD k w) : rest (e :: r) = repL k (exW w) ++ rest ({ e with pos := e.pos + 1 } :: r) := by
  show restE e ++ rest r = repL k (exW w) ++ (restE { e with pos := e.pos + 1 } ++ rest r)
  unfold restE
  simp only []
  rw [List.drop_eq_getElem_cons hp, hd, exL, exI_node]
  simp [List.append_assoc]
theorem RunI.push {ls X : List Nat} {many i : Nat} {out : List Nat} {e : Ent} {r : List Ent} (h : RunI ls X many i out (e :: r)) (hp : e.pos < e.ds.length) {k : Nat} {es : List Dat} (hk : 1 ≤ k) (hd : e.ds[e.pos] = nodeD k (.tup es)) (ne : es ≠ []) (wf : WfK ls (7 - r.length - 1) es) (q x : Addr) :
    RunI ls X many (i + 1) out (⟨q, x, es, 0, k⟩ :: { e with pos := e.pos + 1 } :: r) := by
  have hf := h.fuel
  obtain ⟨⟨h1, h2, h3, h4, h5, h6⟩, hl2, heq, _⟩ := h
  have hpos := List.length_pos_iff.mpr ne
  have hr : r.length + 1 ≤ 6 := by
    by_cases z : r.length = 6
    · rw [z] at wf; exact absurd wf ne
    · omega
  refine ⟨⟨ne, ?_, Nat.zero_le _, hk, by rw [List.length_cons]; exact hr, h1, h2, hp, h4, h5, h6⟩, hl2, ?_, ?_⟩
  · rw [List.length_cons, show 7 - (r.length + 1) = 7 - r.length - 1 by omega]; exact wf
  · rw [← heq, rest_next hp hd, exW_tup]
    congr 2
    show restE ⟨q, x, es, 0, k⟩ ++ _ = _
    congr 1
    unfold restE
    simp only [List.drop_zero]
    obtain ⟨j, rfl⟩ : ∃ j, k = j + 1 := ⟨k - 1, by omega⟩
    rw [repL_succ]
    rfl
  · rw [stU_cons] at hf ⊢
    simp only [hp, if_true] at hf
    simp only [hpos, if_true, List.length_cons]
    omega
theorem RunI.init {ls : List Nat} {many : Nat} {q x : Addr} {ds : List Dat} (ne : ds ≠ []) (wf : WfK ls 7 ds) : RunI ls (exL ds) many 0 [] [⟨q, x, ds, 0, 1⟩] := by
  have hpos := List.length_pos_iff.mpr ne
  refine ⟨⟨ne, wf, Nat.zero_le _, Nat.le_refl _, by simp, trivial⟩, Nat.zero_le _, ?_, ?_⟩
  · simp [rest, restE, repL]
  · simp [stU, hpos]
end K26
end Kb
set_option Elab.async false
set_option linter.all false
set_option maxRecDepth 100000
set_option maxHeartbeats 4000000
namespace Kb
namespace K26
open PySem PySem.Spec PyProof.Rows L2 SX
local macro_rules | `(tactic| walk_at "tk") => `(tactic| first
  | assumption
  | ((with_reducible refine' sqT_of ?k); (case k => assumption))
  | ((with_reducible refine' sqT_ofD ?k); (case k => assumption))
  | ((with_reducible refine' noD_of ?k); (case k => assumption))
  | ((with_reducible refine' noD_same ?s ?k); (case s => assumption); (case k => walk_at "tk"))
  | ((with_reducible refine' sqL_of ?k); (case k => assumption))
  | ((with_reducible refine' sqT_same ?s ?k); (case s => assumption); (case k => walk_at "tk"))
  | ((with_reducible refine' sqL_same ?s ?k); (case s => assumption); (case k => walk_at "tk"))
  | ((with_reducible refine' sqT_but ?s ?t ?k); (case s => assumption); (case t => walk_at "tk"); (case k => walk_at "tk"))
  | ((with_reducible refine' sqL_but ?s ?t ?k); (case s => assumption); (case t => walk_at "ne"); (case k => walk_at "tk"))
  | ((with_reducible refine' sqL_of ?k); (case k => walk_at "tk"))
  | ((with_reducible refine' sqT_of ?k); (case k => walk_at "tk"))
  | ((with_reducible refine' at_same ?s ?k); (case s => assumption); (case k => walk_at "tk"))
  | ((with_reducible refine' at_but ?s ?t ?k); (case s => assumption); (case t => walk_at "ne"); (case k => walk_at "tk")))
local macro_rules | `(tactic| walk_at "ne") => `(tactic| first
  | assumption
  | (refine Ne.symm ?_; assumption)
  | exact ne_of_none (by assumption) (by assumption)
  | exact (ne_of_none (by assumption) (by assumption)).symm)
local macro_rules | `(tactic| walk_at "side") => `(tactic| first
  | assumption
  | omega
  | (simp only [sizeLine_eq, List.length_cons, List.length_nil, List.length_map]; omega)
  | (show _ ≤ sizeLine; decide))
local macro_rules | `(tactic| walk_at "kit") => `(tactic| first
  | (show kitB _ _ = some true; decide +kernel)
  | (show kitB _ _ = some false; decide +kernel))
local macro_rules | `(tactic| walk_at "rng") => `(tactic| first
  | (refine ⟨by omega, by omega, by omega, by omega⟩)
  | (refine ⟨by omega, by omega⟩)
  | ((simp only [List.length_map]); (refine ⟨by omega, by omega, by omega, by omega⟩))
  | ((simp only [List.length_map]); (refine ⟨by omega, by omega⟩)))
local macro_rules | `(tactic| walk_at "rd1") => `(tactic| first
  | with_reducible refine r_seq ?_
  | ((with_reducible refine' r_var ?k0 ?_); (case k0 => rfl))
  | with_reducible refine r_op ?_
  | with_reducible refine r_c ?_
  | with_reducible refine r_asg ?_
  | with_reducible refine r_name ?_
  | with_reducible refine r_cons ?_
  | with_reducible refine r_nil ?_
  | with_reducible refine r_CB ?_
  | with_reducible refine r_if ?_
  | with_reducible refine r_test ?_
  | with_reducible refine r_k ?_
  | with_reducible refine r_T ?_
  | with_reducible refine r_F ?_
  | with_reducible refine r_nT ?_
  | with_reducible refine r_nF ?_
  | with_reducible refine r_ret ?_
  | with_reducible refine r_drop ?_
  | with_reducible refine r_next ?_
  | with_reducible refine r_call ?_
  | with_reducible refine r_addI ?_
  | with_reducible refine r_subI ?_
  | with_reducible refine r_ltI ?_
  | with_reducible refine r_gtI ?_
  | with_reducible refine r_leI ?_
  | with_reducible refine r_geI ?_
  | with_reducible refine r_eqI ?_
  | with_reducible refine r_neI ?_
  | with_reducible refine r_int ?_
  | with_reducible refine r_abs ?_
  | with_reducible refine r_not ?_
  | with_reducible refine r_and ?_
  | with_reducible refine r_or ?_
  | with_reducible refine r_tru ?_
  | with_reducible refine r_truB ?_
  | with_reducible refine r_lst ?_
  | with_reducible refine r_tup ?_
  | with_reducible refine r_BM ?_
  | with_reducible refine r_BM0 ?_
  | with_reducible refine r_tyS ?_
  | with_reducible refine r_gsub ?_
  | with_reducible refine r_then ?_
  | with_reducible refine r_lstRg ?_
  | with_reducible refine r_tupRg ?_
  | with_reducible refine r_rg2 ?_
  | with_reducible refine r_rg1 ?_
  | with_reducible refine r_ii ?_
  | with_reducible refine r_i ?_
  | with_reducible refine r_ipI ?_
  | with_reducible refine r_un ?_
  | with_reducible refine r_neg ?_
  | with_reducible refine r_isN ?_
  | with_reducible refine r_notN ?_
  | with_reducible refine r_notV ?_
  | with_reducible refine r_pnot ?_
  | with_reducible refine r_pif ?_
  | with_reducible refine r_andV ?_
  | with_reducible refine r_orV ?_
  | with_reducible refine r_ifE ?_
  | with_reducible refine r_chain ?_
  | with_reducible refine r_sl ?_
  | with_reducible refine r_noPart ?_
  | with_reducible refine r_part ?_
  | with_reducible refine r_brk ?_
  | with_reducible refine r_cont ?_
  | with_reducible refine r_retN ?_
  | with_reducible refine r_truI ?_
  | with_reducible refine r_B ?_
  | with_reducible refine r_for ?_
  | with_reducible refine r_rng1 ?_
  | with_reducible refine r_rng2 ?_
  | with_reducible refine r_rng3 ?_
  | with_reducible refine r_body ?_
  | with_reducible refine r_lc ?_
  | with_reducible refine r_yes ?_
  | ((with_reducible refine' r_mod ?k0 ?_); (case k0 => walk_at "side"))
  | ((with_reducible refine' r_mulI ?k0 ?_); (case k0 => first | exact Or.inl ⟨by omega, by omega⟩ | exact Or.inr ⟨by omega, by omega⟩))
  | ((with_reducible refine' r_lenL ?k0 ?_); (case k0 => walk_at "tk"))
  | ((with_reducible refine' r_lenT ?k0 ?_); (case k0 => walk_at "tk"))
  | ((with_reducible refine' r_truL ?k0 ?_); (case k0 => walk_at "tk"))
  | ((with_reducible refine' r_truT ?k0 ?_); (case k0 => walk_at "tk"))
  | ((with_reducible refine' r_ixL ?k0 ?k1 ?_); (case k0 => walk_at "tk"); (case k1 => first | assumption | rfl))
  | ((with_reducible refine' r_ixT ?k0 ?k1 ?_); (case k0 => walk_at "tk"); (case k1 => first | assumption | rfl))
  | ((with_reducible refine' r_new ?k0 ?_); (case k0 => walk_at "side"))
  | ((with_reducible refine' r_tyL ?k0 ?_); (case k0 => walk_at "tk"))
  | ((with_reducible refine' r_append ?k0 ?k1 ?_); (case k0 => walk_at "tk"); (case k1 => walk_at "side"))
  | ((with_reducible refine' r_setL ?k0 ?k1 ?_); (case k0 => walk_at "tk"); (case k1 => first | assumption | rfl))
  | ((with_reducible refine' r_kTupL ?k0 ?_); (case k0 => walk_at "tk"))
  | ((with_reducible refine' r_kTupT ?k0 ?_); (case k0 => walk_at "tk"))
  | ((with_reducible refine' r_listL ?k0 ?_); (case k0 => walk_at "tk"))
  | ((with_reducible refine' r_listT ?k0 ?_); (case k0 => walk_at "tk"))
  | ((with_reducible refine' r_aug ?k0 ?_); (case k0 => rfl))
  | ((with_reducible refine' r_lenS ?k0 ?_); (case k0 => walk_at "side"))
  | ((with_reducible refine' r_pop ?k0 ?_); (case k0 => walk_at "tk"))
  | ((with_reducible refine' r_pr1 ?k0 ?_); (case k0 => walk_at "rng"))
  | ((with_reducible refine' r_pr2 ?k0 ?_); (case k0 => walk_at "rng"))
  | ((with_reducible refine' r_pr3d ?k0 ?_); (case k0 => walk_at "rng"))
  | ((with_reducible refine' r_isiI ?k0 ?_); (case k0 => walk_at "kit"))
  | ((with_reducible refine' r_isiB ?k0 ?_); (case k0 => walk_at "kit"))
  | ((with_reducible refine' r_isiS ?k0 ?_); (case k0 => walk_at "kit"))
  | ((with_reducible refine' r_isiN ?k0 ?_); (case k0 => walk_at "kit"))
  | ((with_reducible refine' r_isiT ?k0 ?k1 ?_); (case k0 => walk_at "tk"); (case k1 => walk_at "kit"))
  | ((with_reducible refine r_seqT ?_); (repeat (walk_at "rd1")); ((with_reducible refine' r_pseqT ?k0 ?_); (case k0 => walk_at "tk")))
  | ((with_reducible refine r_seqL ?_); (repeat (walk_at "rd1")); ((with_reducible refine' r_pseqL ?k0 ?_); (case k0 => walk_at "tk")))
  | ((with_reducible refine r_seqS ?_); (repeat (walk_at "rd1")); (with_reducible refine r_pseqS ?_)))
local macro_rules | `(tactic| walk_at "rd") => `(tactic| ((repeat (walk_at "rd1")); (try dsimp only)))
local macro_rules | `(tactic| walk_at "rd1") => `(tactic| first
  | with_reducible refine r_BMT ?_
  | with_reducible refine r_par ?_
  | with_reducible refine r_parV ?_
  | ((with_reducible refine' r_ptp ?k0 ?k1 ?_); (case k0 => walk_at "tk"); (case k1 => walk_at "tk"))
  | with_reducible refine r_eqS ?_
  | with_reducible refine r_neS ?_
  | with_reducible refine r_callW ?_
  | with_reducible refine r_try ?_
  | with_reducible refine r_enT ?_
  | ((with_reducible refine' r_pen ?k0 ?_); (case k0 => walk_at "tk")))
local macro_rules | `(tactic| walk_at "lk") => `(tactic| first
  | exact lk_here
  | exact lk_nil
  | ((refine' lk_next ?h ?n); (case h => decide +kernel); (case n => walk_at "lk")))
local macro_rules | `(tactic| walk_at "pf") => `(tactic| first
  | exact pf_here
  | exact pf_nil
  | ((refine' pf_next ?h ?n); (case h => decide +kernel); (case n => walk_at "pf")))
local macro_rules | `(tactic| walk_at "rd1") => `(tactic| first
  | with_reducible refine r_fld ?_
  | with_reducible refine r_sfld ?_
  | with_reducible refine r_meth ?_
  | with_reducible refine r_make ?_
  | with_reducible refine r_fldaug ?_
  | ((with_reducible refine' r_pfld2 ?e ?A ?f ?l ?_); (case e => walk_at "tk"); (case A => assumption); (case f => decide +kernel); (case l => walk_at "lk"))
  | ((with_reducible refine' r_pset2 ?e ?A ?f ?l ?p ?_); (case e => walk_at "tk"); (case A => assumption); (case f => decide +kernel); (case l => exact Nat.le_of_ble_eq_true rfl); (case p => walk_at "pf"))
  | ((with_reducible refine' r_pmeth ?e ?l ?_); (case e => walk_at "tk"); (case l => walk_at "lk"))
  | with_reducible refine r_pmake ?_)
end K26
end Kb
set_option Elab.async false
set_option linter.all false
set_option maxRecDepth 100000
set_option maxHeartbeats 4000000
namespace Kb
namespace K26
open PySem PySem.Spec PyProof.Rows L2 SX
local macro_rules | `(tactic| walk_at "tk") => `(tactic| first
  | assumption
  | ((with_reducible refine' sqT_of ?k); (case k => assumption))
  | ((with_reducible refine' sqT_ofD ?k); (case k => assumption))
  | ((with_reducible refine' noD_of ?k); (case k => assumption))
  | ((with_reducible refine' noD_same ?s ?k); (case s => assumption); (case k => walk_at "tk"))
  | ((with_reducible refine' sqL_of ?k); (case k => assumption))
  | ((with_reducible refine' sqT_same ?s ?k); (case s => assumption); (case k => walk_at "tk"))
  | ((with_reducible refine' sqL_same ?s ?k); (case s => assumption); (case k => walk_at "tk"))
  | ((with_reducible refine' sqT_but ?s ?t ?k); (case s => assumption); (case t => walk_at "tk"); (case k => walk_at "tk"))
  | ((with_reducible refine' sqL_but ?s ?t ?k); (case s => assumption); (case t => walk_at "ne"); (case k => walk_at "tk"))
  | ((with_reducible refine' sqL_of ?k); (case k => walk_at "tk"))
  | ((with_reducible refine' sqT_of ?k); (case k => walk_at "tk"))
  | ((with_reducible refine' at_same ?s ?k); (case s => assumption); (case k => walk_at "tk"))
  | ((with_reducible refine' at_but ?s ?t ?k); (case s => assumption); (case t => walk_at "ne"); (case k => walk_at "tk")))
local macro_rules | `(tactic| walk_at "ne") => `(tactic| first
  | assumption
  | (refine Ne.symm ?_; assumption)
  | exact ne_of_none (by assumption) (by assumption)
  | exact (ne_of_none (by assumption) (by assumption)).symm)
local macro_rules | `(tactic| walk_at "side") => `(tactic| first
  | assumption
  | omega
  | (simp only [sizeLine_eq, List.length_cons, List.length_nil, List.length_map]; omega)
  | (show _ ≤ sizeLine; decide))
local macro_rules | `(tactic| walk_at "kit") => `(tactic| first
  | (show kitB _ _ = some true; decide +kernel)
  | (show kitB _ _ = some false; decide +kernel))
local macro_rules | `(tactic| walk_at "rng") => `(tactic| first
  | (refine ⟨by omega, by omega, by omega, by omega⟩)
  | (refine ⟨by omega, by omega⟩)
  | ((simp only [List.length_map]); (refine ⟨by omega, by omega, by omega, by omega⟩))
  | ((simp only [List.length_map]); (refine ⟨by omega, by omega⟩)))
local macro_rules | `(tactic| walk_at "rd1") => `(tactic| first
  | with_reducible refine r_seq ?_
  | ((with_reducible refine' r_var ?k0 ?_); (case k0 => rfl))
  | with_reducible refine r_op ?_
  | with_reducible refine r_c ?_
  | with_reducible refine r_asg ?_
  | with_reducible refine r_name ?_
  | with_reducible refine r_cons ?_
  | with_reducible refine r_nil ?_
  | with_reducible refine r_CB ?_
  | with_reducible refine r_if ?_
  | with_reducible refine r_test ?_
  | with_reducible refine r_k ?_
  | with_reducible refine r_T ?_
  | with_reducible refine r_F ?_
  | with_reducible refine r_nT ?_
  | with_reducible refine r_nF ?_
  | with_reducible refine r_ret ?_
  | with_reducible refine r_drop ?_
  | with_reducible refine r_next ?_
  | with_reducible refine r_call ?_
  | with_reducible refine r_addI ?_
  | with_reducible refine r_subI ?_
  | with_reducible refine r_ltI ?_
  | with_reducible refine r_gtI ?_
  | with_reducible refine r_leI ?_
  | with_reducible refine r_geI ?_
  | with_reducible refine r_eqI ?_
  | with_reducible refine r_neI ?_
  | with_reducible refine r_int ?_
  | with_reducible refine r_abs ?_
  | with_reducible refine r_not ?_
  | with_reducible refine r_and ?_
  | with_reducible refine r_or ?_
  | with_reducible refine r_tru ?_
  | with_reducible refine r_truB ?_
  | with_reducible refine r_lst ?_
  | with_reducible refine r_tup ?_
  | with_reducible refine r_BM ?_
  | with_reducible refine r_BM0 ?_
  | with_reducible refine r_tyS ?_
  | with_reducible refine r_gsub ?_
  | with_reducible refine r_then ?_
  | with_reducible refine r_lstRg ?_
  | with_reducible refine r_tupRg ?_
  | with_reducible refine r_rg2 ?_
  | with_reducible refine r_rg1 ?_
  | with_reducible refine r_ii ?_
  | with_reducible refine r_i ?_
  | with_reducible refine r_ipI ?_
  | with_reducible refine r_un ?_
  | with_reducible refine r_neg ?_
  | with_reducible refine r_isN ?_
  | with_reducible refine r_notN ?_
  | with_reducible refine r_notV ?_
  | with_reducible refine r_pnot ?_
  | with_reducible refine r_pif ?_
  | with_reducible refine r_andV ?_
  | with_reducible refine r_orV ?_
  | with_reducible refine r_ifE ?_
  | with_reducible refine r_chain ?_
  | with_reducible refine r_sl ?_
  | with_reducible refine r_noPart ?_
  | with_reducible refine r_part ?_
  | with_reducible refine r_brk ?_
  | with_reducible refine r_cont ?_
  | with_reducible refine r_retN ?_
  | with_reducible refine r_truI ?_
  | with_reducible refine r_B ?_
  | with_reducible refine r_for ?_
  | with_reducible refine r_rng1 ?_
  | with_reducible refine r_rng2 ?_
  | with_reducible refine r_rng3 ?_
  | with_reducible refine r_body ?_
  | with_reducible refine r_lc ?_
  | with_reducible refine r_yes ?_
  | ((with_reducible refine' r_mod ?k0 ?_); (case k0 => walk_at "side"))
  | ((with_reducible refine' r_mulI ?k0 ?_); (case k0 => first | exact Or.inl ⟨by omega, by omega⟩ | exact Or.inr ⟨by omega, by omega⟩))
  | ((with_reducible refine' r_lenL ?k0 ?_); (case k0 => walk_at "tk"))
  | ((with_reducible refine' r_lenT ?k0 ?_); (case k0 => walk_at "tk"))
  | ((with_reducible refine' r_truL ?k0 ?_); (case k0 => walk_at "tk"))
  | ((with_reducible refine' r_truT ?k0 ?_); (case k0 => walk_at "tk"))
  | ((with_reducible refine' r_ixL ?k0 ?k1 ?_); (case k0 => walk_at "tk"); (case k1 => first | assumption | rfl))
  | ((with_reducible refine' r_ixT ?k0 ?k1 ?_); (case k0 => walk_at "tk"); (case k1 => first | assumption | rfl))
  | ((with_reducible refine' r_new ?k0 ?_); (case k0 => walk_at "side"))
  | ((with_reducible refine' r_tyL ?k0 ?_); (case k0 => walk_at "tk"))
  | ((with_reducible refine' r_append ?k0 ?k1 ?_); (case k0 => walk_at "tk"); (case k1 => walk_at "side"))
  | ((with_reducible refine' r_setL ?k0 ?k1 ?_); (case k0 => walk_at "tk"); (case k1 => first | assumption | rfl))
  | ((with_reducible refine' r_kTupL ?k0 ?_); (case k0 => walk_at "tk"))
  | ((with_reducible refine' r_kTupT ?k0 ?_); (case k0 => walk_at "tk"))
  | ((with_reducible refine' r_listL ?k0 ?_); (case k0 => walk_at "tk"))
  | ((with_reducible refine' r_listT ?k0 ?_); (case k0 => walk_at "tk"))
  | ((with_reducible refine' r_aug ?k0 ?_); (case k0 => rfl))
  | ((with_reducible refine' r_lenS ?k0 ?_); (case k0 => walk_at "side"))
  | ((with_reducible refine' r_pop ?k0 ?_); (case k0 => walk_at "tk"))
  | ((with_reducible refine' r_pr1 ?k0 ?_); (case k0 => walk_at "rng"))
  | ((with_reducible refine' r_pr2 ?k0 ?_); (case k0 => walk_at "rng"))
  | ((with_reducible refine' r_pr3d ?k0 ?_); (case k0 => walk_at "rng"))
  | ((with_reducible refine' r_isiI ?k0 ?_); (case k0 => walk_at "kit"))
  | ((with_reducible refine' r_isiB ?k0 ?_); (case k0 => walk_at "kit"))
  | ((with_reducible refine' r_isiS ?k0 ?_); (case k0 => walk_at "kit"))
  | ((with_reducible refine' r_isiN ?k0 ?_); (case k0 => walk_at "kit"))
  | ((with_reducible refine' r_isiT ?k0 ?k1 ?_); (case k0 => walk_at "tk"); (case k1 => walk_at "kit"))
  | ((with_reducible refine r_seqT ?_); (repeat (walk_at "rd1")); ((with_reducible refine' r_pseqT ?k0 ?_); (case k0 => walk_at "tk")))
  | ((with_reducible refine r_seqL ?_); (repeat (walk_at "rd1")); ((with_reducible refine' r_pseqL ?k0 ?_); (case k0 => walk_at "tk")))
  | ((with_reducible refine r_seqS ?_); (repeat (walk_at "rd1")); (with_reducible refine r_pseqS ?_)))
local macro_rules | `(tactic| walk_at "rd") => `(tactic| ((repeat (walk_at "rd1")); (try dsimp only)))
local macro_rules | `(tactic| walk_at "rd1") => `(tactic| first
  | with_reducible refine r_BMT ?_
  | with_reducible refine r_par ?_
  | with_reducible refine r_parV ?_
  | ((with_reducible refine' r_ptp ?k0 ?k1 ?_); (case k0 => walk_at "tk"); (case k1 => walk_at "tk"))
  | with_reducible refine r_eqS ?_
  | with_reducible refine r_neS ?_
  | with_reducible refine r_callW ?_
  | with_reducible refine r_try ?_
  | with_reducible refine r_enT ?_
  | ((with_reducible refine' r_pen ?k0 ?_); (case k0 => walk_at "tk")))
local macro_rules | `(tactic| walk_at "lk") => `(tactic| first
  | exact lk_here
  | exact lk_nil
  | ((refine' lk_next ?h ?n); (case h => decide +kernel); (case n => walk_at "lk")))
local macro_rules | `(tactic| walk_at "pf") => `(tactic| first
  | exact pf_here
  | exact pf_nil
  | ((refine' pf_next ?h ?n); (case h => decide +kernel); (case n => walk_at "pf")))
local macro_rules | `(tactic| walk_at "rd1") => `(tactic| first
  | with_reducible refine r_fld ?_
  | with_reducible refine r_sfld ?_
  | with_reducible refine r_meth ?_
  | with_reducible refine r_make ?_
  | with_reducible refine r_fldaug ?_
  | ((with_reducible refine' r_pfld2 ?e ?A ?f ?l ?_); (case e => walk_at "tk"); (case A => assumption); (case f => decide +kernel); (case l => walk_at "lk"))
  | ((with_reducible refine' r_pset2 ?e ?A ?f ?l ?p ?_); (case e => walk_at "tk"); (case A => assumption); (case f => decide +kernel); (case l => exact Nat.le_of_ble_eq_true rfl); (case p => walk_at "pf"))
  | ((with_reducible refine' r_pmeth ?e ?l ?_); (case e => walk_at "tk"); (case l => walk_at "lk"))
  | with_reducible refine r_pmake ?_)
section
variable {K : PySem.W.Frag} {ec : Str → Addr} {ns : List Str} {vs : List V} {H H' : Hp} {Q : VK} {E : XK}
theorem wfK_N {ls : List Nat} (hl : ∀ c ∈ ls, letL c) : ∀ {n : Nat} {ds : List Dat}, WfK ls n ds → WfN n ds
  | 0, ds, h => h
  | n + 1, ds, h => fun d hd => by
    obtain ⟨k, w, e, h1, h2, h3⟩ := h d hd
    refine ⟨k, w, e, h1, h2, ?_⟩
    rcases h3 with ⟨c, e2, hc⟩ | ⟨es, e2, ne, k2, h4⟩
    · exact .inl ⟨c, e2, hl c hc⟩
    · exact .inr ⟨es, e2, ne, wfK_N hl h4⟩
theorem mem_repL {k : Nat} {l : List Nat} {c : Nat} (h : c ∈ repL k l) : c ∈ l := by
  unfold repL at h
  obtain ⟨x, hx, hc⟩ := List.mem_flatten.mp h
  rw [(List.mem_replicate.mp hx).2] at hc
  exact hc
end
end K26
end Kb
set_option Elab.async false
set_option linter.all false
set_option maxRecDepth 100000
set_option maxHeartbeats 4000000
namespace Kb
open PySem PySem.Spec PyProof.Rows L2 SX
/-- the length of the first run of c :: l, less one -/
def runN (c : Nat) : List Nat → Nat
  | [] => 0
  | d :: l => if d = c then runN c l + 1 else 0
theorem runN_le (c : Nat) : ∀ l : List Nat, runN c l ≤ l.length
  | [] => Nat.le_refl _
  | d :: l => by
    unfold runN
    split
    · have := runN_le c l; simp; omega
    · exact Nat.zero_le _
def rleF : Nat → List Nat → List Dat
  | 0, _ => []
  | _ + 1, [] => []
  | n + 1, c :: l => nodeD (runN c l + 1) (.str (S [c])) :: rleF n (l.drop (runN c l))
/-- a word as nodes, a node a run -/
def rleD (l : List Nat) : List Dat := rleF l.length l
theorem rleF_more : ∀ (n m : Nat) (l : List Nat), l.length ≤ n → l.length ≤ m → rleF n l = rleF m l
  | 0, m, l, h1, h2 => by
    have : l = [] := List.eq_nil_of_length_eq_zero (by omega)
    subst this
    cases m <;> rfl
  | n + 1, 0, l, h1, h2 => by
    have : l = [] := List.eq_nil_of_length_eq_zero (by omega)
    subst this; rfl
  | n + 1, m + 1, [], h1, h2 => rfl
  | n + 1, m + 1, c :: l, h1, h2 => by
    rw [List.length_cons] at h1 h2
    unfold rleF
    rw [rleF_more n m (l.drop (runN c l)) (by rw [List.length_drop]; omega) (by rw [List.length_drop]; omega)]
theorem rleD_nil : rleD [] = [] := rfl
theorem rleD_cons (c : Nat) (l : List Nat) : rleD (c :: l) = nodeD (runN c l + 1) (.str (S [c])) :: rleD (l.drop (runN c l)) := by
  unfold rleD
  rw [List.length_cons]
  show nodeD _ _ :: rleF l.length (l.drop (runN c l)) = _
  rw [rleF_more l.length (l.drop (runN c l)).length _ (by rw [List.length_drop]; omega) (Nat.le_refl _)]
theorem runN_take (c : Nat) : ∀ l : List Nat, l.take (runN c l) = repL (runN c l) [c]
  | [] => by simp [runN, repL]
  | d :: l => by
    unfold runN
    split
    · rename_i h
      rw [List.take_succ_cons, runN_take c l, repL_succ, h]; rfl
    · simp [repL]
theorem run_at {c : Nat} {l : List Nat} : ∀ {k : Nat}, k ≤ l.length → (∀ j, j < k → l[j]? = some c) → (l[k]? ≠ some c) → runN c l = k := by
  induction l with
  | nil => intro k h _ _; simp at h; rw [h]; rfl
  | cons d l ih =>
    intro k h h1 h2
    cases k with
    | zero =>
      unfold runN
      rw [if_neg]
      intro z
      exact h2 (by rw [z]; rfl)
    | succ k =>
      have hd := h1 0 (by omega)
      simp only [List.getElem?_cons_zero, Option.some.injEq] at hd
      unfold runN
      rw [if_pos hd, ih (k := k) (by simpa using h) (fun j hj => by have := h1 (j + 1) (by omega); simpa using this) (by simpa using h2)]
/-- the runs from a boundary on -/
theorem rle_step {w : List Nat} {b e c : Nat} (hb : b < e) (he : e ≤ w.length) (hc : w[b]? = some c) (h1 : ∀ j, b < j → j < e → w[j]? = some c) (h2 : w[e]? ≠ some c) : rleD (w.drop b) = nodeD (e - b) (.str (S [c])) :: rleD (w.drop e) := by
  have hbl : b < w.length := by omega
  have e1 : w.drop b = c :: w.drop (b + 1) := by
    rw [List.drop_eq_getElem_cons hbl]
    rw [List.getElem?_eq_getElem hbl] at hc
    rw [Option.some.inj hc]
  have hr : runN c (w.drop (b + 1)) = e - b - 1 := run_at (by rw [List.length_drop]; omega) (fun j hj => by rw [List.getElem?_drop]; exact h1 _ (by omega) (by omega)) (by rw [List.getElem?_drop, show b + 1 + (e - b - 1) = e by omega]; exact h2)
  rw [e1, rleD_cons, hr, List.drop_drop, show b + 1 + (e - b - 1) = e by omega, show e - b - 1 + 1 = e - b by omega]
theorem rle_ex : ∀ (n : Nat) (w : List Nat), w.length ≤ n → exL (rleD w) = w
  | _, [], _ => by rw [rleD_nil, exL]
  | 0, c :: l, h => by simp at h
  | n + 1, c :: l, h => by
    rw [List.length_cons] at h
    rw [rleD_cons, exL, exI_node, exW_str, rle_ex n _ (by rw [List.length_drop]; omega)]
    show repL (runN c l + 1) [c] ++ _ = _
    rw [repL_succ, ← runN_take, List.append_assoc, List.take_append_drop]
    rfl
theorem rle_wf {kd : List Nat} {m : Nat} : ∀ (n : Nat) (w : List Nat), w.length ≤ n → w.length ≤ 9999 → (∀ c ∈ w, c ∈ kd) → WfK kd (m + 1) (rleD w)
  | _, [], _, _, _ => by rw [rleD_nil]; exact WfK.nil _
  | 0, c :: l, h, _, _ => by simp at h
  | n + 1, c :: l, h, h9, hs => by
    rw [List.length_cons] at h h9
    have hr := runN_le c l
    rw [rleD_cons]
    refine WfK.cat (a := [_]) (WfK.one (by omega) (by omega) (.inl ⟨c, rfl, hs c (by simp)⟩)) (rle_wf n _ (by rw [List.length_drop]; omega) (by rw [List.length_drop]; omega) fun x hx => hs x (List.mem_cons_of_mem _ (List.drop_subset _ _ hx)))
theorem rle_ne {w : List Nat} (h : w ≠ []) : rleD w ≠ [] := by
  cases w with
  | nil => exact absurd rfl h
  | cons c l => rw [rleD_cons]; simp
theorem digL_le {k : Nat} (h2 : 2 ≤ k) (h9 : k ≤ 9999) : (digL k).length + 1 ≤ k := by
  by_cases h : k < 10
  · rw [digL_len1 h]; omega
  · have := digL_len (n := k) (k := 3) (by omega)
    omega
theorem ctL_le {k : Nat} (h1 : 1 ≤ k) (h9 : k ≤ 9999) : (ctL k).length + 1 ≤ k := by
  unfold ctL
  split
  · simp; omega
  · exact digL_le (by omega) h9
theorem rle_tx : ∀ (n : Nat) (w : List Nat), w.length ≤ n → w.length ≤ 9999 → (txL (rleD w)).length ≤ w.length
  | _, [], _, _ => by rw [rleD_nil, txL]; exact Nat.le_refl _
  | 0, c :: l, h, _ => by simp at h
  | n + 1, c :: l, h, h9 => by
    rw [List.length_cons] at h h9 ⊢
    have hr := runN_le c l
    have ih := rle_tx n (l.drop (runN c l)) (by rw [List.length_drop]; omega) (by rw [List.length_drop]; omega)
    have hc := ctL_le (k := runN c l + 1) (by omega) (by omega)
    rw [List.length_drop] at ih
    rw [rleD_cons, txL, txI_node, txW_str, List.length_append, List.length_append]
    show _ + 1 + _ ≤ _
    omega
/-- w is its first s signs, over and over -/
def RootP (w : List Nat) (s : Nat) : Prop := w.length % s = 0 ∧ repL (w.length / s) (w.take s) = w
instance (w : List Nat) (s : Nat) : Decidable (RootP w s) := by unfold RootP; infer_instance
/-- turning by t gives w -/
def RotP (w : List Nat) (t : Nat) : Prop := ∀ i, i < w.length → w[(i + t) % w.length]? = w[i]?
theorem rot_add {w : List Nat} {a b : Nat} (ha : RotP w a) (hb : RotP w b) : RotP w (a + b) := fun i hi => by
  have h1 := hb ((i + a) % w.length) (Nat.mod_lt _ (by omega))
  rw [Nat.mod_add_mod, Nat.add_assoc] at h1
  rw [h1]
  exact ha i hi
theorem rot_sub {w : List Nat} {a b : Nat} (ha : RotP w a) (hab : RotP w (a + b)) : RotP w b := fun i hi => by
  have h1 := ha ((i + b) % w.length) (Nat.mod_lt _ (by omega))
  rw [Nat.mod_add_mod] at h1
  have h2 := hab i hi
  rw [show i + (a + b) = i + b + a by omega] at h2
  rw [← h1, h2]
theorem rot_n (w : List Nat) : RotP w w.length := fun i hi => by rw [Nat.add_mod_right, Nat.mod_eq_of_lt hi]
theorem rot_mul {w : List Nat} {t : Nat} (h : RotP w t) : ∀ q, RotP w (q * t)
  | 0 => fun i hi => by rw [Nat.zero_mul, Nat.add_zero, Nat.mod_eq_of_lt hi]
  | q + 1 => by rw [Nat.succ_mul]; exact rot_add (rot_mul h q) h
theorem rot_mod {w : List Nat} {t : Nat} (h : RotP w t) : RotP w (w.length % t) := by
  refine rot_sub (rot_mul h (w.length / t)) ?_
  rw [Nat.mul_comm, Nat.div_add_mod]
  exact rot_n w
theorem getElem_repL {l : List Nat} (hl : 0 < l.length) : ∀ {k i : Nat}, i < k * l.length → (repL k l)[i]? = l[i % l.length]?
  | 0, i, h => by rw [Nat.zero_mul] at h; omega
  | k + 1, i, h => by
    rw [repL_succ]
    by_cases hi : i < l.length
    · rw [List.getElem?_append_left hi, Nat.mod_eq_of_lt hi]
    · rw [List.getElem?_append_right (by omega), getElem_repL hl (by rw [Nat.succ_mul] at h; omega)]
      congr 1
      conv => rhs; rw [show i = i - l.length + l.length by omega, Nat.add_mod_right]
theorem root_rot {w : List Nat} {s : Nat} (hs : 0 < s) (hn : s ≤ w.length) : RootP w s ↔ w.length % s = 0 ∧ RotP w s := by
  have htl : (w.take s).length = s := by rw [List.length_take]; omega
  constructor
  · rintro ⟨h0, h⟩
    refine ⟨h0, fun i hi => ?_⟩
    have hd : s ∣ w.length := Nat.dvd_of_mod_eq_zero h0
    have hlen : w.length / s * (w.take s).length = w.length := by rw [htl]; exact Nat.div_mul_cancel hd
    have key : ∀ j, j < w.length → w[j]? = (w.take s)[j % s]? := fun j hj => by
      have z := getElem_repL (l := w.take s) (by omega) (k := w.length / s) (i := j) (by rw [hlen]; exact hj)
      rw [h, htl] at z
      exact z
    rw [key _ (Nat.mod_lt _ (by omega)), key i hi, Nat.mod_mod_of_dvd _ hd, Nat.add_mod_right]
  · rintro ⟨h0, h⟩
    refine ⟨h0, ?_⟩
    have hd : s ∣ w.length := Nat.dvd_of_mod_eq_zero h0
    have hlen : w.length / s * (w.take s).length = w.length := by rw [htl]; exact Nat.div_mul_cancel hd
    apply List.ext_getElem?
    intro i
    by_cases hi : i < w.length
    · rw [getElem_repL (by omega) (by rw [hlen]; exact hi), htl, List.getElem?_take_of_lt (Nat.mod_lt _ hs)]
      have h2 := rot_mul h (i / s) (i % s) (by have := Nat.mod_lt i hs; omega)
      rw [show i % s + i / s * s = i by rw [Nat.add_comm, Nat.mul_comm]; exact Nat.div_add_mod i s, Nat.mod_eq_of_lt hi] at h2
      exact h2.symm
    · rw [List.getElem?_eq_none (by rw [repL_len]; omega), List.getElem?_eq_none (by omega)]
/-- the least turn that gives w again, and the least root, are one -/
theorem turn_root {w : List Nat} {t : Nat} (ht : 0 < t) (hn : t ≤ w.length) (h : RotP w t) (hmin : ∀ s, 0 < s → s < t → ¬ RotP w s) : RootP w t ∧ ∀ s, 0 < s → s < t → ¬ RootP w s := by
  have h0 : w.length % t = 0 := by
    by_cases z : w.length % t = 0
    · exact z
    · exact absurd (rot_mod h) (hmin _ (by omega) (Nat.mod_lt _ ht))
  refine ⟨(root_rot ht hn).mpr ⟨h0, h⟩, fun s s0 s1 hr => ?_⟩
  exact hmin s s0 s1 ((root_rot s0 (by omega)).mp hr).2
/-- where w stands in w w -/
theorem rot_at {w : List Nat} {t : Nat} (hn : t ≤ w.length) : ((w ++ w).drop t).take w.length = w ↔ RotP w t := by
  constructor
  · intro h i hi
    have e : (((w ++ w).drop t).take w.length)[i]? = w[i]? := by rw [h]
    rw [List.getElem?_take_of_lt hi, List.getElem?_drop] at e
    rw [← e]
    by_cases hit : t + i < w.length
    · rw [List.getElem?_append_left hit, Nat.add_comm, Nat.mod_eq_of_lt hit]
    · rw [List.getElem?_append_right (by omega), show (i + t) % w.length = t + i - w.length from ?_]
      rw [Nat.mod_eq_sub_mod (by omega), Nat.mod_eq_of_lt (by omega)]
      omega
  · intro h
    apply List.ext_getElem?
    intro i
    by_cases hi : i < w.length
    · rw [List.getElem?_take_of_lt hi, List.getElem?_drop, ← h i hi]
      by_cases hit : t + i < w.length
      · rw [List.getElem?_append_left hit, Nat.add_comm, Nat.mod_eq_of_lt (by omega)]
      · rw [List.getElem?_append_right (by omega)]
        congr 1
        rw [Nat.mod_eq_sub_mod (by omega), Nat.mod_eq_of_lt (by omega)]
        omega
    · rw [List.getElem?_eq_none (by rw [List.length_take]; omega), List.getElem?_eq_none (by omega)]
end Kb
set_option Elab.async false
set_option linter.all false
set_option maxRecDepth 100000
set_option maxHeartbeats 4000000
namespace Kb
open PySem PySem.Spec PyProof.Rows L2 SX
local macro_rules | `(tactic| walk_at "tk") => `(tactic| first
  | assumption
  | ((with_reducible refine' sqT_of ?k); (case k => assumption))
  | ((with_reducible refine' sqT_ofD ?k); (case k => assumption))
  | ((with_reducible refine' noD_of ?k); (case k => assumption))
  | ((with_reducible refine' noD_same ?s ?k); (case s => assumption); (case k => walk_at "tk"))
  | ((with_reducible refine' sqL_of ?k); (case k => assumption))
  | ((with_reducible refine' sqT_same ?s ?k); (case s => assumption); (case k => walk_at "tk"))
  | ((with_reducible refine' sqL_same ?s ?k); (case s => assumption); (case k => walk_at "tk"))
  | ((with_reducible refine' sqT_but ?s ?t ?k); (case s => assumption); (case t => walk_at "tk"); (case k => walk_at "tk"))
  | ((with_reducible refine' sqL_but ?s ?t ?k); (case s => assumption); (case t => walk_at "ne"); (case k => walk_at "tk"))
  | ((with_reducible refine' sqL_of ?k); (case k => walk_at "tk"))
  | ((with_reducible refine' sqT_of ?k); (case k => walk_at "tk"))
  | ((with_reducible refine' at_same ?s ?k); (case s => assumption); (case k => walk_at "tk"))
  | ((with_reducible refine' at_but ?s ?t ?k); (case s => assumption); (case t => walk_at "ne"); (case k => walk_at "tk")))
local macro_rules | `(tactic| walk_at "ne") => `(tactic| first
  | assumption
  | (refine Ne.symm ?_; assumption)
  | exact ne_of_none (by assumption) (by assumption)
  | exact (ne_of_none (by assumption) (by assumption)).symm)
local macro_rules | `(tactic| walk_at "side") => `(tactic| first
  | assumption
  | omega
  | (simp only [sizeLine_eq, List.length_cons, List.length_nil, List.length_map]; omega)
  | (show _ ≤ sizeLine; decide))
local macro_rules | `(tactic| walk_at "kit") => `(tactic| first
  | (show kitB _ _ = some true; decide +kernel)
  | (show kitB _ _ = some false; decide +kernel))
local macro_rules | `(tactic| walk_at "rng") => `(tactic| first
  | (refine ⟨by omega, by omega, by omega, by omega⟩)
  | (refine ⟨by omega, by omega⟩)
  | ((simp only [List.length_map]); (refine ⟨by omega, by omega, by omega, by omega⟩))
  | ((simp only [List.length_map]); (refine ⟨by omega, by omega⟩)))
local macro_rules | `(tactic| walk_at "rd1") => `(tactic| first
  | with_reducible refine r_seq ?_
  | ((with_reducible refine' r_var ?k0 ?_); (case k0 => rfl))
  | with_reducible refine r_op ?_
  | with_reducible refine r_c ?_
  | with_reducible refine r_asg ?_
  | with_reducible refine r_name ?_
  | with_reducible refine r_cons ?_
  | with_reducible refine r_nil ?_
  | with_reducible refine r_CB ?_
  | with_reducible refine r_if ?_
  | with_reducible refine r_test ?_
  | with_reducible refine r_k ?_
  | with_reducible refine r_T ?_
  | with_reducible refine r_F ?_
  | with_reducible refine r_nT ?_
  | with_reducible refine r_nF ?_
  | with_reducible refine r_ret ?_
  | with_reducible refine r_drop ?_
  | with_reducible refine r_next ?_
  | with_reducible refine r_call ?_
  | with_reducible refine r_addI ?_
  | with_reducible refine r_subI ?_
  | with_reducible refine r_ltI ?_
  | with_reducible refine r_gtI ?_
  | with_reducible refine r_leI ?_
  | with_reducible refine r_geI ?_
  | with_reducible refine r_eqI ?_
  | with_reducible refine r_neI ?_
  | with_reducible refine r_int ?_
  | with_reducible refine r_abs ?_
  | with_reducible refine r_not ?_
  | with_reducible refine r_and ?_
  | with_reducible refine r_or ?_
  | with_reducible refine r_tru ?_
  | with_reducible refine r_truB ?_
  | with_reducible refine r_lst ?_
  | with_reducible refine r_tup ?_
  | with_reducible refine r_BM ?_
  | with_reducible refine r_BM0 ?_
  | with_reducible refine r_tyS ?_
  | with_reducible refine r_gsub ?_
  | with_reducible refine r_then ?_
  | with_reducible refine r_lstRg ?_
  | with_reducible refine r_tupRg ?_
  | with_reducible refine r_rg2 ?_
  | with_reducible refine r_rg1 ?_
  | with_reducible refine r_ii ?_
  | with_reducible refine r_i ?_
  | with_reducible refine r_ipI ?_
  | with_reducible refine r_un ?_
  | with_reducible refine r_neg ?_
  | with_reducible refine r_isN ?_
  | with_reducible refine r_notN ?_
  | with_reducible refine r_notV ?_
  | with_reducible refine r_pnot ?_
  | with_reducible refine r_pif ?_
  | with_reducible refine r_andV ?_
  | with_reducible refine r_orV ?_
  | with_reducible refine r_ifE ?_
  | with_reducible refine r_chain ?_
  | with_reducible refine r_sl ?_
  | with_reducible refine r_noPart ?_
  | with_reducible refine r_part ?_
  | with_reducible refine r_brk ?_
  | with_reducible refine r_cont ?_
  | with_reducible refine r_retN ?_
  | with_reducible refine r_truI ?_
  | with_reducible refine r_B ?_
  | with_reducible refine r_for ?_
  | with_reducible refine r_rng1 ?_
  | with_reducible refine r_rng2 ?_
  | with_reducible refine r_rng3 ?_
  | with_reducible refine r_body ?_
  | with_reducible refine r_lc ?_
  | with_reducible refine r_yes ?_
  | ((with_reducible refine' r_mod ?k0 ?_); (case k0 => walk_at "side"))
  | ((with_reducible refine' r_mulI ?k0 ?_); (case k0 => first | exact Or.inl ⟨by omega, by omega⟩ | exact Or.inr ⟨by omega, by omega⟩))
  | ((with_reducible refine' r_lenL ?k0 ?_); (case k0 => walk_at "tk"))
  | ((with_reducible refine' r_lenT ?k0 ?_); (case k0 => walk_at "tk"))
  | ((with_reducible refine' r_truL ?k0 ?_); (case k0 => walk_at "tk"))
  | ((with_reducible refine' r_truT ?k0 ?_); (case k0 => walk_at "tk"))
  | ((with_reducible refine' r_ixL ?k0 ?k1 ?_); (case k0 => walk_at "tk"); (case k1 => first | assumption | rfl))
  | ((with_reducible refine' r_ixT ?k0 ?k1 ?_); (case k0 => walk_at "tk"); (case k1 => first | assumption | rfl))
  | ((with_reducible refine' r_new ?k0 ?_); (case k0 => walk_at "side"))
  | ((with_reducible refine' r_tyL ?k0 ?_); (case k0 => walk_at "tk"))
  | ((with_reducible refine' r_append ?k0 ?k1 ?_); (case k0 => walk_at "tk"); (case k1 => walk_at "side"))
  | ((with_reducible refine' r_setL ?k0 ?k1 ?_); (case k0 => walk_at "tk"); (case k1 => first | assumption | rfl))
  | ((with_reducible refine' r_kTupL ?k0 ?_); (case k0 => walk_at "tk"))
  | ((with_reducible refine' r_kTupT ?k0 ?_); (case k0 => walk_at "tk"))
  | ((with_reducible refine' r_listL ?k0 ?_); (case k0 => walk_at "tk"))
  | ((with_reducible refine' r_listT ?k0 ?_); (case k0 => walk_at "tk"))
  | ((with_reducible refine' r_aug ?k0 ?_); (case k0 => rfl))
  | ((with_reducible refine' r_lenS ?k0 ?_); (case k0 => walk_at "side"))
  | ((with_reducible refine' r_pop ?k0 ?_); (case k0 => walk_at "tk"))
  | ((with_reducible refine' r_pr1 ?k0 ?_); (case k0 => walk_at "rng"))
  | ((with_reducible refine' r_pr2 ?k0 ?_); (case k0 => walk_at "rng"))
  | ((with_reducible refine' r_pr3d ?k0 ?_); (case k0 => walk_at "rng"))
  | ((with_reducible refine' r_isiI ?k0 ?_); (case k0 => walk_at "kit"))
  | ((with_reducible refine' r_isiB ?k0 ?_); (case k0 => walk_at "kit"))
  | ((with_reducible refine' r_isiS ?k0 ?_); (case k0 => walk_at "kit"))
  | ((with_reducible refine' r_isiN ?k0 ?_); (case k0 => walk_at "kit"))
  | ((with_reducible refine' r_isiT ?k0 ?k1 ?_); (case k0 => walk_at "tk"); (case k1 => walk_at "kit"))
  | ((with_reducible refine r_seqT ?_); (repeat (walk_at "rd1")); ((with_reducible refine' r_pseqT ?k0 ?_); (case k0 => walk_at "tk")))
  | ((with_reducible refine r_seqL ?_); (repeat (walk_at "rd1")); ((with_reducible refine' r_pseqL ?k0 ?_); (case k0 => walk_at "tk")))
  | ((with_reducible refine r_seqS ?_); (repeat (walk_at "rd1")); (with_reducible refine r_pseqS ?_)))
local macro_rules | `(tactic| walk_at "rd") => `(tactic| ((repeat (walk_at "rd1")); (try dsimp only)))
local macro_rules | `(tactic| walk_at "rd1") => `(tactic| first
  | with_reducible refine r_BMT ?_
  | with_reducible refine r_par ?_
  | with_reducible refine r_parV ?_
  | ((with_reducible refine' r_ptp ?k0 ?k1 ?_); (case k0 => walk_at "tk"); (case k1 => walk_at "tk"))
  | with_reducible refine r_eqS ?_
  | with_reducible refine r_neS ?_
  | with_reducible refine r_callW ?_
  | with_reducible refine r_try ?_
  | with_reducible refine r_enT ?_
  | ((with_reducible refine' r_pen ?k0 ?_); (case k0 => walk_at "tk")))
local macro_rules | `(tactic| walk_at "lk") => `(tactic| first
  | exact lk_here
  | exact lk_nil
  | ((refine' lk_next ?h ?n); (case h => decide +kernel); (case n => walk_at "lk")))
local macro_rules | `(tactic| walk_at "pf") => `(tactic| first
  | exact pf_here
  | exact pf_nil
  | ((refine' pf_next ?h ?n); (case h => decide +kernel); (case n => walk_at "pf")))
local macro_rules | `(tactic| walk_at "rd1") => `(tactic| first
  | with_reducible refine r_fld ?_
  | with_reducible refine r_sfld ?_
  | with_reducible refine r_meth ?_
  | with_reducible refine r_make ?_
  | with_reducible refine r_fldaug ?_
  | ((with_reducible refine' r_pfld2 ?e ?A ?f ?l ?_); (case e => walk_at "tk"); (case A => assumption); (case f => decide +kernel); (case l => walk_at "lk"))
  | ((with_reducible refine' r_pset2 ?e ?A ?f ?l ?p ?_); (case e => walk_at "tk"); (case A => assumption); (case f => decide +kernel); (case l => exact Nat.le_of_ble_eq_true rfl); (case p => walk_at "pf"))
  | ((with_reducible refine' r_pmeth ?e ?l ?_); (case e => walk_at "tk"); (case l => walk_at "lk"))
  | with_reducible refine r_pmake ?_)
def rootN (w : List Nat) : Nat := ((List.range w.length).find? fun s => decide (0 < s ∧ RootP w s)).getD w.length
theorem rootP_self {w : List Nat} (h : w ≠ []) : RootP w w.length := by
  have := List.length_pos_iff.mpr h
  exact ⟨Nat.mod_self _, by rw [Nat.div_self this, List.take_length, repL_one]⟩
theorem rootN_spec {w : List Nat} (h : w ≠ []) : 0 < rootN w ∧ rootN w ≤ w.length ∧ RootP w (rootN w) ∧ ∀ s, 0 < s → s < rootN w → ¬ RootP w s := by
  have hp := List.length_pos_iff.mpr h
  unfold rootN
  cases e : (List.range w.length).find? fun s => decide (0 < s ∧ RootP w s) with
  | none =>
    refine ⟨hp, Nat.le_refl _, rootP_self h, fun s s0 s1 hr => ?_⟩
    have := List.find?_eq_none.mp e s (List.mem_range.mpr s1)
    exact this (decide_eq_true ⟨s0, hr⟩)
  | some t =>
    have h1 : decide (0 < t ∧ RootP w t) = true := List.find?_some (p := fun s => decide (0 < s ∧ RootP w s)) e
    have h1 := of_decide_eq_true h1
    have h2 := List.mem_range.mp (List.mem_of_find?_eq_some e)
    refine ⟨h1.1, Nat.le_of_lt h2, h1.2, fun s s0 s1 hr => ?_⟩
    obtain ⟨_, as, bs, he, hno⟩ := List.find?_eq_some_iff_append.mp e
    have s1 : s < t := s1
    have hs : s ∈ as := by
      have hlt : as.length = t := by
        have z : (List.range w.length)[as.length]? = some t := by rw [he]; simp
        rw [List.getElem?_range (by have := congrArg List.length he; rw [List.length_append, List.length_cons, List.length_range] at this; omega)] at z
        exact Option.some.inj z
      have z : (List.range w.length)[s]? = as[s]? := by rw [he, List.getElem?_append_left (by omega)]
      rw [List.getElem?_range (by omega)] at z
      exact List.mem_of_getElem? z.symm
    have := hno s hs
    rw [decide_eq_true ⟨s0, hr⟩] at this
    cases this
theorem rootN_uniq {w : List Nat} {t : Nat} (h0 : 0 < t) (h1 : t ≤ w.length) (h2 : RootP w t) (h3 : ∀ s, 0 < s → s < t → ¬ RootP w s) : rootN w = t := by
  have hw : w ≠ [] := fun z => by rw [z] at h1; simp at h1; omega
  obtain ⟨a, b, c, d⟩ := rootN_spec hw
  by_cases h : rootN w < t
  · exact absurd c (h3 _ a h)
  · by_cases h' : t < rootN w
    · exact absurd h2 (d _ h0 h')
    · omega
def wrD (w : List Nat) : List Dat := if rootN w = 1 ∨ rootN w = w.length then rleD w else [nodeD (w.length / rootN w) (.tup (rleD (w.take (rootN w))))]
def sp_by_runs (K : PySem.W.Frag) : Sp := fun vs H Q _ => ∃ w : List Nat, vs = [.str (S w)] ∧ w.length ≤ 9999 ∧ Q (.str (S (txL (rleD w)))) H
def sp_root_of (K : PySem.W.Frag) : Sp := fun vs H Q _ => ∃ w : List Nat, vs = [.str (S w)] ∧ w ≠ [] ∧ w.length ≤ 9999 ∧ Q (.str (S (w.take (rootN w)))) H
def sp_write_word (K : PySem.W.Frag) : Sp := fun vs H Q _ => ∃ w : List Nat, vs = [.str (S w)] ∧ w ≠ [] ∧ w.length ≤ 9999 ∧ Q (.str (S (txL (wrD w)))) H
abbrev N_by_runs : List Str := ["word", "text", "at", "behind"]
def t_by_runs (K : PySem.W.Frag) : TS :=
  tSeq (tAsg ((tC (.str ""))) (gName 1))
  (tSeq (tAsg ((tC (.int 0))) (gName 2))
  (tSeq (tWhile ((tTest (tOp (rLtU K) (tVar 2) ((tCB (rLenU K) (tCons (tVar 0) tNil)))))) (tSeq (tAsg (tVar 2) (gName 3))
  (tSeq (tWhile ((tAnd ((tTest (tOp (rLtU K) (tVar 3) ((tCB (rLenU K) (tCons (tVar 0) tNil)))))) ((tTest (tOp (rEqU K) ((tOp (rIx K) (tVar 0) (tVar 3))) ((tOp (rIx K) (tVar 0) (tVar 2)))))))) ((tAug 3 ((tC (.int 1))) (ipI fun i j => i + j))))
  (tSeq (tIfS ((tTest (tOp rGtU ((tOp rSubU (tVar 3) (tVar 2))) ((tC (.int 1)))))) ((tAug 1 ((tCB rStrI (tCons ((tOp rSubU (tVar 3) (tVar 2))) tNil))) ipS)) (tNext))
  (tSeq (tAug 1 ((tOp (rIx K) (tVar 0) (tVar 2))) ipS)
  ((tAsg (tVar 3) (gName 2))))))))
  ((tRet (tVar 1)))))
abbrev N_root_of : List Str := ["word", "size"]
def t_root_of (K : PySem.W.Frag) : TS :=
  tSeq (tFor (iRng2 (tCons ((tC (.int 1))) (tCons ((tCB (rLenU K) (tCons (tVar 0) tNil))) tNil))) (gName 1) ((tIfS ((tAnd ((tTest (tOp (rEqU K) ((tOp rModU ((tCB (rLenU K) (tCons (tVar 0) tNil))) (tVar 1))) ((tC (.int 0)))))) ((tTest (tOp (rEqU K) ((tOp rRepS ((tSl (rSlU K) (tVar 0) tNoPart (tPart (tVar 1)))) ((tOp rFdivU ((tCB (rLenU K) (tCons (tVar 0) tNil))) (tVar 1))))) (tVar 0)))))) ((tRet ((tSl (rSlU K) (tVar 0) tNoPart (tPart (tVar 1)))))) (tNext))))
  ((tRet (tVar 0)))
abbrev N_write_word : List Str := ["word", "root"]
def t_write_word (K : PySem.W.Frag) : TS :=
  tSeq (tAsg ((tCall (sp_root_of K) [] E0 (tCons (tVar 0) tNil))) (gName 1))
  (tSeq (tIfS ((tOr ((tTest (tOp (rEqU K) ((tCB (rLenU K) (tCons (tVar 1) tNil))) ((tC (.int 1)))))) ((tTest (tOp (rEqU K) ((tCB (rLenU K) (tCons (tVar 1) tNil))) ((tCB (rLenU K) (tCons (tVar 0) tNil)))))))) ((tRet ((tCall (sp_by_runs K) [] E0 (tCons (tVar 0) tNil))))) (tNext))
  ((tRet ((tOp (rAddU K) ((tOp (rAddU K) ((tOp (rAddU K) ((tCB rStrI (tCons ((tOp rFdivU ((tCB (rLenU K) (tCons (tVar 0) tNil))) ((tCB (rLenU K) (tCons (tVar 1) tNil))))) tNil))) ((tC (.str "("))))) ((tCall (sp_by_runs K) [] E0 (tCons (tVar 1) tNil))))) ((tC (.str ")"))))))))
section
variable {K : PySem.W.Frag} {ec : Str → Addr} {ns : List Str} {vs : List V} {H H' : Hp} {Q : VK} {E : XK}
theorem len_by_runs (h : sp_by_runs K vs H Q E) : vs.length = 1 := by obtain ⟨_, rfl, _⟩ := h; rfl
theorem len_root_of (h : sp_root_of K vs H Q E) : vs.length = 1 := by obtain ⟨_, rfl, _⟩ := h; rfl
theorem len_write_word (h : sp_write_word K vs H Q E) : vs.length = 1 := by obtain ⟨_, rfl, _⟩ := h; rfl
theorem r_ixSg {l : List Nat} {m c : Nat} (hz : l.length ≤ 16000000) (e : l[m]? = some c) (q : Q (.str ⟨#[c]⟩) H) : rIx K (.str (S l)) (.int (m : Int)) H Q :=
  r_ixS (by rw [S_len, sizeLine_eq]; omega) (atI_nat e) q
theorem pure_root_of (h : sp_root_of K vs H Q E) : t_root_of K (En Q) (start N_root_of vs) H := by
  obtain ⟨w, rfl, hw, hl, q⟩ := h
  have hp := List.length_pos_iff.mpr hw
  obtain ⟨r1, r2, r3, r4⟩ := rootN_spec hw
  unfold t_root_of
  walk_at "rd"
  refine r_lenSS (by omega) ?_
  walk_at "rd"
  refine r_forRange (fun i σ' H' => ∃ z : Option V, σ' = [some (.str (S w)), z] ∧ H = H' ∧ ∀ s, 0 < s → s < i + 1 → ¬ RootP w s) ⟨none, rfl, rfl, fun s s0 s1 => by omega⟩ (fun i σ' H' hi ⟨z, e, eH, hno⟩ => ?_) (fun σ' H' ⟨z, e, eH, hno⟩ => ?_)
  · subst e eH
    have hi : i + 1 < w.length := by omega
    have e1 : (1 : Int) + (i : Int) = ((i + 1 : Nat) : Int) := by omega
    rw [e1]
    refine r_if (r_andK (b1 := decide (w.length % (i + 1) = 0)) (b2 := decide (repL (w.length / (i + 1)) (w.take (i + 1)) = w)) (fun QB q => ?_) (fun QB q => ?_) ?_)
    · walk_at "rd"
      refine r_lenSS (by omega) ?_
      walk_at "rd"
      rw [show decide ((w.length : Int) % ((i + 1 : Nat) : Int) = 0) = decide (w.length % (i + 1) = 0) from decide_eq_decide.mpr (by omega)]
      exact q
    · walk_at "rd"
      refine r_slS (by omega) ?_
      rw [cut_to_any]
      walk_at "rd"
      refine r_lenSS (by omega) ?_
      walk_at "rd"
      refine r_fdiv (by omega) (log2_small (by omega) (by omega)) ?_
      rw [← Int.natCast_ediv]
      have hq0 : w.length / (i + 1) ≤ 9999 := Nat.le_trans (Nat.div_le_self _ _) hl
      have hprod : (w.take (i + 1)).length * (w.length / (i + 1)) ≤ 9999 := by
        rw [List.length_take, Nat.min_eq_left (by omega)]
        have := Nat.div_mul_le_self w.length (i + 1)
        rw [Nat.mul_comm]; omega
      generalize w.length / (i + 1) = qt at *
      refine r_mulS (l := w.take (i + 1)) (n := (qt : Int)) (by omega) (by omega) (by rw [Int.toNat_natCast]; omega) ?_
      rw [Int.toNat_natCast]
      walk_at "rd"
      rw [S_eqD]
      exact q
    rw [← Bool.decide_and]
    refine r_ite (fun g => ?_) (fun g => ?_)
    · have ht : rootN w = i + 1 := rootN_uniq (by omega) (by omega) g hno
      walk_at "rd"
      refine r_slS (by omega) ?_
      rw [cut_to_any, ← ht]
      exact q
    · refine r_next ?_
      exact ⟨_, rfl, rfl, fun s s0 s1 hr => by
        by_cases z : s < i + 1
        · exact hno s s0 z hr
        · rw [show s = i + 1 by omega] at hr; exact g hr⟩
  · subst e eH
    walk_at "rd"
    have ht : rootN w = w.length := by
      refine rootN_uniq hp (Nat.le_refl _) (rootP_self hw) fun s s0 s1 => hno s s0 ?_
      have : ((w.length : Int) - 1).toNat = w.length - 1 := by omega
      omega
    rw [ht, List.take_length] at q
    exact q
theorem pure_by_runs (h : sp_by_runs K vs H Q E) : t_by_runs K (En Q) (start N_by_runs vs) H := by
  obtain ⟨w, rfl, hl, q⟩ := h
  unfold t_by_runs
  walk_at "rd"
  refine r_while (fun m σ' H' => ∃ (at_ : Nat) (t : List Nat) (z : Option V), σ' = [some (.str (S w)), some (.str (S t)), some (.int (at_ : Int)), z] ∧ H = H' ∧ at_ ≤ w.length ∧ m = w.length - at_ ∧ t ++ txL (rleD (w.drop at_)) = txL (rleD w)) w.length
    ⟨0, [], none, rfl, rfl, Nat.zero_le _, rfl, by rw [List.drop_zero]; rfl⟩ (fun m σ' H' hW => ?_)
  obtain ⟨at_, t, z, rfl, rfl, hat, rfl, ht⟩ := hW
  have htl := rle_tx _ w (Nat.le_refl _) hl
  have ht2 := congrArg List.length ht
  rw [List.length_append] at ht2
  walk_at "rd"
  refine r_lenSS (by omega) ?_
  walk_at "rd"
  refine r_ite (fun g => ?_) (fun g => ?_)
  · have g : at_ < w.length := by omega
    obtain ⟨c, hc⟩ : ∃ c, w[at_]? = some c := ⟨_, List.getElem?_eq_getElem g⟩
    refine r_body ?_
    refine r_seq (r_asg (r_var rfl (r_name ?_)))
    refine r_seq ?_
    refine r_while (fun m σ' H' => ∃ b : Nat, σ' = [some (.str (S w)), some (.str (S t)), some (.int (at_ : Int)), some (.int (b : Int))] ∧ H = H' ∧ at_ ≤ b ∧ b ≤ w.length ∧ m = w.length - b ∧ ∀ j, at_ ≤ j → j < b → w[j]? = some c) (w.length - at_)
      ⟨at_, rfl, rfl, Nat.le_refl _, hat, rfl, fun j h1 h2 => by omega⟩ (fun m σ' H' hW => ?_)
    obtain ⟨b, rfl, rfl, hab, hb, rfl, hj⟩ := hW
    refine r_and ?_
    walk_at "rd"
    refine r_lenSS (by omega) ?_
    walk_at "rd"
    have rest : ¬ (w[b]? = some c) → tSeq (tIfS (tTest (tOp rGtU (tOp rSubU (tVar 3) (tVar 2)) (tC (.int 1)))) (tAug 1 (tCB rStrI (tCons (tOp rSubU (tVar 3) (tVar 2)) tNil)) ipS) tNext) (tSeq (tAug 1 (tOp (rIx K) (tVar 0) (tVar 2)) ipS) (tAsg (tVar 3) (gName 2)))
        { nx := fun σ' H' => ∃ m', m' < w.length - at_ ∧ ∃ (at_ : Nat) (t : List Nat) (z : Option V), σ' = [some (.str (S w)), some (.str (S t)), some (.int (at_ : Int)), z] ∧ H = H' ∧ at_ ≤ w.length ∧ m' = w.length - at_ ∧ t ++ txL (rleD (w.drop at_)) = txL (rleD w), rt := Q, bk := tRet (tVar 1) (En Q),
          ct := fun σ' H' => ∃ m', m' < w.length - at_ ∧ ∃ (at_ : Nat) (t : List Nat) (z : Option V), σ' = [some (.str (S w)), some (.str (S t)), some (.int (at_ : Int)), z] ∧ H = H' ∧ at_ ≤ w.length ∧ m' = w.length - at_ ∧ t ++ txL (rleD (w.drop at_)) = txL (rleD w) }
        [some (.str (S w)), some (.str (S t)), some (.int (at_ : Int)), some (.int (b : Int))] H := fun hne => by
      have hlt : at_ < b := by
        by_cases z : at_ = b
        · rw [← z] at hne; exact absurd hc hne
        · omega
      have hs := rle_step hlt hb hc (fun j h1 h2 => hj j (by omega) h2) hne
      have hfin : t ++ (ctL (b - at_) ++ [c]) ++ txL (rleD (w.drop b)) = txL (rleD w) := by
        rw [← ht, hs, txL, txI_node, txW_str, List.append_assoc]
        try rfl
      have hcl := ctL_len (k := b - at_) (by omega)
      have step : ∀ l : List Nat, l = t ++ ctL (b - at_) → tSeq (tAug 1 (tOp (rIx K) (tVar 0) (tVar 2)) ipS) (tAsg (tVar 3) (gName 2))
        { nx := fun σ' H' => ∃ m', m' < w.length - at_ ∧ ∃ (at_ : Nat) (t : List Nat) (z : Option V), σ' = [some (.str (S w)), some (.str (S t)), some (.int (at_ : Int)), z] ∧ H = H' ∧ at_ ≤ w.length ∧ m' = w.length - at_ ∧ t ++ txL (rleD (w.drop at_)) = txL (rleD w), rt := Q, bk := tRet (tVar 1) (En Q),
          ct := fun σ' H' => ∃ m', m' < w.length - at_ ∧ ∃ (at_ : Nat) (t : List Nat) (z : Option V), σ' = [some (.str (S w)), some (.str (S t)), some (.int (at_ : Int)), z] ∧ H = H' ∧ at_ ≤ w.length ∧ m' = w.length - at_ ∧ t ++ txL (rleD (w.drop at_)) = txL (rleD w) }
        [some (.str (S w)), some (.str (S l)), some (.int (at_ : Int)), some (.int (b : Int))] H := fun l hl2 => by
        have hll : l.length ≤ 20000 := by rw [hl2, List.length_append]; omega
        walk_at "rd"
        refine r_ixSg (by omega) hc ?_
        refine r_ipS (by rw [S_len, sizeLine_eq]; show _ + 1 ≤ _; omega) ?_
        have : S l ++ ⟨#[c]⟩ = S (t ++ (ctL (b - at_) ++ [c])) := by rw [hl2, ← List.append_assoc]; exact S_cat _ [c]
        rw [this]
        walk_at "rd"
        exact ⟨w.length - b, by omega, b, t ++ (ctL (b - at_) ++ [c]), _, rfl, rfl, hb, rfl, hfin⟩
      walk_at "rd"
      refine r_ite (fun g2 => ?_) (fun g2 => ?_)
      · have eb : (b : Int) - (at_ : Int) = ((b - at_ : Nat) : Int) := by omega
        walk_at "rd"
        rw [eb]
        refine K24.r_rStrI (by omega) ?_
        refine r_ipS (by rw [S_len, S_len, sizeLine_eq]; have := digL_len (n := b - at_) (k := 3) (by omega); omega) ?_
        rw [S_cat]
        refine r_name ?_
        exact step _ (by unfold ctL; rw [if_neg (by omega)])
      · refine r_next (step _ ?_)
        unfold ctL
        rw [if_pos (by omega), List.append_nil]
    refine r_ite (fun g2 => ?_) (fun g2 => ?_)
    · have g2 : b < w.length := by omega
      obtain ⟨d, hd⟩ : ∃ d, w[b]? = some d := ⟨_, List.getElem?_eq_getElem g2⟩
      walk_at "rd"
      refine r_ixSg (by omega) hd ?_
      walk_at "rd"
      refine r_ixSg (by omega) hc ?_
      walk_at "rd"
      refine r_ite (fun g3 => ?_) (fun g3 => ?_)
      · have g3 := chS.mp g3
        subst g3
        refine r_body ?_
        walk_at "rd"
        exact ⟨w.length - (b + 1), by omega, b + 1, rfl, rfl, by omega, by omega, rfl, fun j h1 h2 => by
          by_cases z : j = b
          · rw [z]; exact hd
          · exact hj j h1 (by omega)⟩
      · refine rest fun z => g3 ?_
        rw [hd] at z
        exact chS.mpr (Option.some.inj z)
    · refine r_F ?_
      exact rest fun z => by
        rw [List.getElem?_eq_none (by omega)] at z; cases z
  · have he : at_ = w.length := by omega
    subst he
    refine r_ret (r_var rfl ?_)
    rw [List.drop_length, rleD_nil, txL, List.append_nil] at ht
    rw [ht]
    exact q
theorem pure_write_word (h : sp_write_word K vs H Q E) : t_write_word K (En Q) (start N_write_word vs) H := by
  obtain ⟨w, rfl, hw, hl, q⟩ := h
  obtain ⟨r1, r2, r3, r4⟩ := rootN_spec hw
  have hp := List.length_pos_iff.mpr hw
  have hrl : (w.take (rootN w)).length = rootN w := by rw [List.length_take]; omega
  unfold wrD at q
  unfold t_write_word
  walk_at "rd"
  refine ⟨w, rfl, hw, hl, ?_⟩
  refine r_name ?_
  refine r_seq (r_if (r_orK (b1 := decide (rootN w = 1)) (b2 := decide (rootN w = w.length)) (fun QB q => ?_) (fun QB q => ?_) ?_))
  · walk_at "rd"
    refine r_lenSS (by omega) ?_
    walk_at "rd"
    rw [hrl, show decide ((rootN w : Int) = 1) = decide (rootN w = 1) from decide_eq_decide.mpr (by omega)]
    exact q
  · walk_at "rd"
    refine r_lenSS (by omega) ?_
    walk_at "rd"
    refine r_lenSS (by omega) ?_
    walk_at "rd"
    rw [hrl, show decide ((rootN w : Int) = (w.length : Int)) = decide (rootN w = w.length) from decide_eq_decide.mpr (by omega)]
    exact q
  rw [← Bool.decide_or]
  refine r_ite (fun g => ?_) (fun g => ?_)
  · rw [if_pos g] at q
    walk_at "rd"
    exact ⟨w, rfl, hl, q⟩
  · rw [if_neg g, txL_one, txI_node, txW_tup] at q
    have h2 : 2 ≤ w.length / rootN w := by
      rw [Nat.le_div_iff_mul_le r1]
      have hd : rootN w ∣ w.length := Nat.dvd_of_mod_eq_zero r3.1
      obtain ⟨j, hj⟩ := hd
      have : j ≠ 1 := fun z => g (.inr (by rw [hj, z, Nat.mul_one]))
      have : j ≠ 0 := fun z => by rw [z] at hj; omega
      rw [Nat.mul_comm, hj]
      exact Nat.mul_le_mul_left _ (by omega)
    have h9 : w.length / rootN w ≤ 9999 := Nat.le_trans (Nat.div_le_self _ _) hl
    have htx := rle_tx _ (w.take (rootN w)) (Nat.le_refl _) (by omega)
    walk_at "rd"
    refine r_lenSS (by omega) ?_
    walk_at "rd"
    refine r_lenSS (by omega) ?_
    walk_at "rd"
    rw [hrl]
    refine r_fdiv (by omega) (log2_small (by omega) (by omega)) ?_
    walk_at "rd"
    rw [← Int.natCast_ediv]
    refine K24.r_rStrI (by omega) ?_
    walk_at "rd"
    have hdl := digL_len (n := w.length / rootN w) (k := 3) (by omega)
    refine r_addSS (a := digL (w.length / rootN w)) (b := [40]) (by show _ + 1 ≤ _; omega) ?_
    walk_at "rd"
    refine ⟨_, rfl, by omega, ?_⟩
    refine r_addSS (a := digL (w.length / rootN w) ++ [40]) (b := txL (rleD (w.take (rootN w)))) (by rw [List.length_append]; show _ + 1 + _ ≤ _; omega) ?_
    walk_at "rd"
    refine r_addSS (a := (digL (w.length / rootN w) ++ [40]) ++ txL (rleD (w.take (rootN w)))) (b := [41]) (by rw [List.length_append, List.length_append]; show _ + 1 + _ + 1 ≤ _; omega) ?_
    have : digL (w.length / rootN w) ++ [40] ++ txL (rleD (w.take (rootN w))) ++ [41] = ctL (w.length / rootN w) ++ 40 :: (txL (rleD (w.take (rootN w))) ++ [41]) := by
      unfold ctL
      rw [if_neg (by omega)]
      simp [List.append_assoc]
    rw [this]
    exact q
end
end Kb
set_option Elab.async false
set_option linter.all false
set_option maxRecDepth 100000
set_option maxHeartbeats 4000000
namespace Kb
open PySem PySem.Spec PyProof.Rows L2 SX
def rFind3 : V → List V → Hp → VK → Prop := fun x xs H Q => ∃ (a b : Str) (i : Int), x = .str a ∧ xs = [.str b, .int i] ∧ Q (.int (Txt.find3 a b i)) H
theorem range'_from {lo n a : Nat} {pre post : List Nat} (h : List.range' lo n = pre ++ a :: post) : ∀ k, lo ≤ k → k < a → k ∈ pre := by
  intro k h0 hk
  have hL : n = pre.length + (post.length + 1) := by
    have := congrArg List.length h
    simpa using this
  have hlen : lo + pre.length = a := by
    have h1 : (List.range' lo n)[pre.length]? = some a := by rw [h]; simp
    rw [List.getElem?_range' (by omega)] at h1
    have := Option.some.inj h1
    omega
  have h2 : (List.range' lo n)[k - lo]? = pre[k - lo]? := by rw [h, List.getElem?_append_left (by omega)]
  rw [List.getElem?_range' (by omega)] at h2
  have h3 : pre[k - lo]? = some k := by rw [← h2]; congr 1; omega
  exact List.mem_of_getElem? h3
theorem occ_from (x y : Str) (lo limit : Nat) (hl : 1 ≤ limit) :
    (Builtin.Str.occurrences x y lo x.length limit = [] ∧ ∀ i, lo ≤ i → ¬ StrLaws.At x y x.length i) ∨ ∃ i r, Builtin.Str.occurrences x y lo x.length limit = i :: r ∧ lo ≤ i ∧ StrLaws.At x y x.length i ∧ ∀ k, lo ≤ k → k < i → ¬ StrLaws.At x y x.length k := by
  rw [StrLaws.occ_eq]
  rcases StrLaws.occ_first x y x.length limit hl (List.range' lo (x.length + 1 - lo)) lo (fun i h => by have := List.mem_range'.mp h; omega) with ⟨h0, hn⟩ | ⟨pre, a, post, e, h0, ha, hn⟩
  · refine .inl ⟨by rw [h0], fun i h1 hi => ?_⟩
    exact hn i (by have := hi.1; simp [List.mem_range']; exact ⟨i - lo, by omega, by omega⟩) hi
  · have hlo : lo ≤ a := by
      have : a ∈ List.range' lo (x.length + 1 - lo) := by rw [e]; simp
      have := List.mem_range'.mp this; omega
    refine .inr ⟨a, ((forIn (List.range' lo (x.length + 1 - lo)) ((#[] : Array Nat), lo) (StrLaws.occBody x y x.length limit)).run.fst.toList).tail, ?_, hlo, ha, fun k h1 hk => hn k (range'_from e k h1 hk)⟩
    generalize (forIn (List.range' lo (x.length + 1 - lo)) ((#[] : Array Nat), lo) (StrLaws.occBody x y x.length limit)).run.fst = arr at h0
    have h1 : arr.toList[0]? = some a := by simpa using h0
    cases hL : arr.toList with
    | nil => rw [hL] at h1; cases h1
    | cons b t => rw [hL] at h1; simp at h1; rw [h1]; rfl
theorem at_ww {w : List Nat} {t : Nat} : StrLaws.At (S (w ++ w)) (S w) (S (w ++ w)).length t ↔ t ≤ w.length ∧ RotP w t := by
  unfold StrLaws.At
  rw [StrLaws.subAt_eq, S_len, S_len, List.length_append]
  show (t + w.length ≤ w.length + w.length ∧ (((w ++ w).drop t).take w.length == w) = true) ↔ _
  rw [beq_iff_eq]
  constructor
  · rintro ⟨h1, h2⟩
    exact ⟨by omega, (rot_at (by omega)).mp h2⟩
  · rintro ⟨h1, h2⟩
    exact ⟨by omega, (rot_at h1).mpr h2⟩
theorem find_ww {w : List Nat} (hw : w ≠ []) : Txt.find3 (S (w ++ w)) (S w) 1 = (rootN w : Int) := by
  have hp := List.length_pos_iff.mpr hw
  unfold Txt.find3
  have hfi : PySem.fromIndex (S (w ++ w)).length 1 = 1 := by
    unfold PySem.fromIndex
    simp
    try omega
  rw [hfi]
  rcases occ_from (S (w ++ w)) (S w) 1 1 (Nat.le_refl 1) with ⟨_, hn⟩ | ⟨i, r, e, h1, ha, hn⟩
  · exact absurd (at_ww.mpr ⟨Nat.le_refl _, rot_n w⟩) (hn w.length hp)
  · rw [e]
    obtain ⟨h2, h3⟩ := at_ww.mp ha
    obtain ⟨r1, r2⟩ := turn_root h1 h2 h3 fun s s0 s1 hr => hn s s0 s1 (at_ww.mpr ⟨by omega, hr⟩)
    show (i : Int) = _
    rw [rootN_uniq h1 h2 r1 r2]
theorem filt_gap {q : Nat → Bool} {m k b e : Nat} (hb : ((List.range m).filter q)[k]? = some b) (he : ((List.range m).filter q)[k + 1]? = some e) : b < e ∧ e < m ∧ q e = true ∧ ∀ j, b < j → j < e → q j = false := by
  have hpw : ((List.range m).filter q).Pairwise (· < ·) := List.Pairwise.filter _ List.pairwise_lt_range
  rw [List.pairwise_iff_getElem] at hpw
  obtain ⟨hk, eb⟩ := List.getElem?_eq_some_iff.mp hb
  obtain ⟨hk1, ee⟩ := List.getElem?_eq_some_iff.mp he
  have hlt := hpw k (k + 1) hk hk1 (by omega)
  rw [eb, ee] at hlt
  have hem := List.mem_filter.mp (List.mem_of_getElem? he)
  refine ⟨hlt, List.mem_range.mp hem.1, hem.2, fun j h1 h2 => ?_⟩
  cases hq : q j with
  | false => rfl
  | true =>
    have hj : j ∈ (List.range m).filter q := List.mem_filter.mpr ⟨List.mem_range.mpr (by have := List.mem_range.mp hem.1; omega), hq⟩
    obtain ⟨i, hi, ei⟩ := List.mem_iff_getElem.mp hj
    by_cases z : i ≤ k
    · by_cases z2 : i = k
      · subst z2; rw [ei] at eb; omega
      · have := hpw i k hi hk (by omega); rw [ei, eb] at this; omega
    · by_cases z2 : i = k + 1
      · subst z2; rw [ei] at ee; omega
      · have := hpw (k + 1) i hk1 hi (by omega); rw [ei, ee] at this; omega
def bgP (w : List Nat) (k : Nat) : Bool := decide (k = 0) || decide (w[k]? ≠ w[k - 1]?)
def begL (w : List Nat) : List Nat := (List.range w.length).filter (bgP w)
theorem begL_all (w : List Nat) : begL w ++ [w.length] = (List.range (w.length + 1)).filter fun k => bgP w k || decide (k = w.length) := by
  unfold begL
  rw [List.range_succ, List.filter_append]
  congr 1
  · apply List.filter_congr
    intro x hx
    have := List.mem_range.mp hx
    rw [decide_eq_false (by omega), Bool.or_false]
  · simp
theorem beg_0 (w : List Nat) : (begL w ++ [w.length])[0]? = some 0 := by
  rw [begL_all, List.range_succ_eq_map]
  rw [List.filter_cons_of_pos (by simp [bgP])]
  rfl
theorem begs_step {w : List Nat} {k b e : Nat} (hb : (begL w ++ [w.length])[k]? = some b) (he : (begL w ++ [w.length])[k + 1]? = some e) : b < e ∧ e ≤ w.length ∧ ∃ c, w[b]? = some c ∧ rleD (w.drop b) = nodeD (e - b) (.str (S [c])) :: rleD (w.drop e) := by
  rw [begL_all] at hb he
  obtain ⟨h1, h2, h3, h4⟩ := filt_gap hb he
  have hbl : b < w.length := by omega
  refine ⟨h1, by omega, w[b], List.getElem?_eq_getElem hbl, ?_⟩
  have hrun : ∀ j, b ≤ j → j < e → w[j]? = some w[b] := by
    intro j
    induction j with
    | zero => intro h5 _; have : b = 0 := by omega
              subst this; exact List.getElem?_eq_getElem hbl
    | succ j ih =>
      intro h5 h6
      by_cases z : b = j + 1
      · subst z; exact List.getElem?_eq_getElem hbl
      · have h7 := h4 (j + 1) (by omega) h6
        simp only [bgP, Bool.or_eq_false_iff, decide_eq_false_iff_not, Nat.add_sub_cancel] at h7
        have h8 : w[j + 1]? = w[j]? := by
          by_cases y : w[j + 1]? = w[j]?
          · exact y
          · exact absurd y h7.1.2
        rw [h8]; exact ih (by omega) (by omega)
  refine rle_step h1 (by omega) (List.getElem?_eq_getElem hbl) (fun j h5 h6 => hrun j (by omega) h6) fun h5 => ?_
  simp only [bgP, Bool.or_eq_true, decide_eq_true_eq] at h3
  rcases h3 with (h3 | h3) | h3
  · omega
  · exact h3 (by rw [h5, hrun (e - 1) (by omega) (by omega)])
  · rw [h3, List.getElem?_eq_none (Nat.le_refl _)] at h5; cases h5
namespace K30
local macro_rules | `(tactic| walk_at "tk") => `(tactic| first
  | assumption
  | ((with_reducible refine' sqT_of ?k); (case k => assumption))
  | ((with_reducible refine' sqT_ofD ?k); (case k => assumption))
  | ((with_reducible refine' noD_of ?k); (case k => assumption))
  | ((with_reducible refine' noD_same ?s ?k); (case s => assumption); (case k => walk_at "tk"))
  | ((with_reducible refine' sqL_of ?k); (case k => assumption))
  | ((with_reducible refine' sqT_same ?s ?k); (case s => assumption); (case k => walk_at "tk"))
  | ((with_reducible refine' sqL_same ?s ?k); (case s => assumption); (case k => walk_at "tk"))
  | ((with_reducible refine' sqT_but ?s ?t ?k); (case s => assumption); (case t => walk_at "tk"); (case k => walk_at "tk"))
  | ((with_reducible refine' sqL_but ?s ?t ?k); (case s => assumption); (case t => walk_at "ne"); (case k => walk_at "tk"))
  | ((with_reducible refine' sqL_of ?k); (case k => walk_at "tk"))
  | ((with_reducible refine' sqT_of ?k); (case k => walk_at "tk"))
  | ((with_reducible refine' at_same ?s ?k); (case s => assumption); (case k => walk_at "tk"))
  | ((with_reducible refine' at_but ?s ?t ?k); (case s => assumption); (case t => walk_at "ne"); (case k => walk_at "tk")))
local macro_rules | `(tactic| walk_at "ne") => `(tactic| first
  | assumption
  | (refine Ne.symm ?_; assumption)
  | exact ne_of_none (by assumption) (by assumption)
  | exact (ne_of_none (by assumption) (by assumption)).symm)
local macro_rules | `(tactic| walk_at "side") => `(tactic| first
  | assumption
  | omega
  | (simp only [sizeLine_eq, List.length_cons, List.length_nil, List.length_map]; omega)
  | (show _ ≤ sizeLine; decide))
local macro_rules | `(tactic| walk_at "kit") => `(tactic| first
  | (show kitB _ _ = some true; decide +kernel)
  | (show kitB _ _ = some false; decide +kernel))
local macro_rules | `(tactic| walk_at "rng") => `(tactic| first
  | (refine ⟨by omega, by omega, by omega, by omega⟩)
  | (refine ⟨by omega, by omega⟩)
  | ((simp only [List.length_map]); (refine ⟨by omega, by omega, by omega, by omega⟩))
  | ((simp only [List.length_map]); (refine ⟨by omega, by omega⟩)))
local macro_rules | `(tactic| walk_at "rd1") => `(tactic| first
  | with_reducible refine r_seq ?_
  | ((with_reducible refine' r_var ?k0 ?_); (case k0 => rfl))
  | with_reducible refine r_op ?_
  | with_reducible refine r_c ?_
  | with_reducible refine r_asg ?_
  | with_reducible refine r_name ?_
  | with_reducible refine r_cons ?_
  | with_reducible refine r_nil ?_
  | with_reducible refine r_CB ?_
  | with_reducible refine r_if ?_
  | with_reducible refine r_test ?_
  | with_reducible refine r_k ?_
  | with_reducible refine r_T ?_
  | with_reducible refine r_F ?_
  | with_reducible refine r_nT ?_
  | with_reducible refine r_nF ?_
  | with_reducible refine r_ret ?_
  | with_reducible refine r_drop ?_
  | with_reducible refine r_next ?_
  | with_reducible refine r_call ?_
  | with_reducible refine r_addI ?_
  | with_reducible refine r_subI ?_
  | with_reducible refine r_ltI ?_
  | with_reducible refine r_gtI ?_
  | with_reducible refine r_leI ?_
  | with_reducible refine r_geI ?_
  | with_reducible refine r_eqI ?_
  | with_reducible refine r_neI ?_
  | with_reducible refine r_int ?_
  | with_reducible refine r_abs ?_
  | with_reducible refine r_not ?_
  | with_reducible refine r_and ?_
  | with_reducible refine r_or ?_
  | with_reducible refine r_tru ?_
  | with_reducible refine r_truB ?_
  | with_reducible refine r_lst ?_
  | with_reducible refine r_tup ?_
  | with_reducible refine r_BM ?_
  | with_reducible refine r_BM0 ?_
  | with_reducible refine r_tyS ?_
  | with_reducible refine r_gsub ?_
  | with_reducible refine r_then ?_
  | with_reducible refine r_lstRg ?_
  | with_reducible refine r_tupRg ?_
  | with_reducible refine r_rg2 ?_
  | with_reducible refine r_rg1 ?_
  | with_reducible refine r_ii ?_
  | with_reducible refine r_i ?_
  | with_reducible refine r_ipI ?_
  | with_reducible refine r_un ?_
  | with_reducible refine r_neg ?_
  | with_reducible refine r_isN ?_
  | with_reducible refine r_notN ?_
  | with_reducible refine r_notV ?_
  | with_reducible refine r_pnot ?_
  | with_reducible refine r_pif ?_
  | with_reducible refine r_andV ?_
  | with_reducible refine r_orV ?_
  | with_reducible refine r_ifE ?_
  | with_reducible refine r_chain ?_
  | with_reducible refine r_sl ?_
  | with_reducible refine r_noPart ?_
  | with_reducible refine r_part ?_
  | with_reducible refine r_brk ?_
  | with_reducible refine r_cont ?_
  | with_reducible refine r_retN ?_
  | with_reducible refine r_truI ?_
  | with_reducible refine r_B ?_
  | with_reducible refine r_for ?_
  | with_reducible refine r_rng1 ?_
  | with_reducible refine r_rng2 ?_
  | with_reducible refine r_rng3 ?_
  | with_reducible refine r_body ?_
  | with_reducible refine r_lc ?_
  | with_reducible refine r_yes ?_
  | ((with_reducible refine' r_mod ?k0 ?_); (case k0 => walk_at "side"))
  | ((with_reducible refine' r_mulI ?k0 ?_); (case k0 => first | exact Or.inl ⟨by omega, by omega⟩ | exact Or.inr ⟨by omega, by omega⟩))
  | ((with_reducible refine' r_lenL ?k0 ?_); (case k0 => walk_at "tk"))
  | ((with_reducible refine' r_lenT ?k0 ?_); (case k0 => walk_at "tk"))
  | ((with_reducible refine' r_truL ?k0 ?_); (case k0 => walk_at "tk"))
  | ((with_reducible refine' r_truT ?k0 ?_); (case k0 => walk_at "tk"))
  | ((with_reducible refine' r_ixL ?k0 ?k1 ?_); (case k0 => walk_at "tk"); (case k1 => first | assumption | rfl))
  | ((with_reducible refine' r_ixT ?k0 ?k1 ?_); (case k0 => walk_at "tk"); (case k1 => first | assumption | rfl))
  | ((with_reducible refine' r_new ?k0 ?_); (case k0 => walk_at "side"))
  | ((with_reducible refine' r_tyL ?k0 ?_); (case k0 => walk_at "tk"))
  | ((with_reducible refine' r_append ?k0 ?k1 ?_); (case k0 => walk_at "tk"); (case k1 => walk_at "side"))
  | ((with_reducible refine' r_setL ?k0 ?k1 ?_); (case k0 => walk_at "tk"); (case k1 => first | assumption | rfl))
  | ((with_reducible refine' r_kTupL ?k0 ?_); (case k0 => walk_at "tk"))
  | ((with_reducible refine' r_kTupT ?k0 ?_); (case k0 => walk_at "tk"))
  | ((with_reducible refine' r_listL ?k0 ?_); (case k0 => walk_at "tk"))
  | ((with_reducible refine' r_listT ?k0 ?_); (case k0 => walk_at "tk"))
  | ((with_reducible refine' r_aug ?k0 ?_); (case k0 => rfl))
  | ((with_reducible refine' r_lenS ?k0 ?_); (case k0 => walk_at "side"))
  | ((with_reducible refine' r_pop ?k0 ?_); (case k0 => walk_at "tk"))
  | ((with_reducible refine' r_pr1 ?k0 ?_); (case k0 => walk_at "rng"))
  | ((with_reducible refine' r_pr2 ?k0 ?_); (case k0 => walk_at "rng"))
  | ((with_reducible refine' r_pr3d ?k0 ?_); (case k0 => walk_at "rng"))
  | ((with_reducible refine' r_isiI ?k0 ?_); (case k0 => walk_at "kit"))
  | ((with_reducible refine' r_isiB ?k0 ?_); (case k0 => walk_at "kit"))
  | ((with_reducible refine' r_isiS ?k0 ?_); (case k0 => walk_at "kit"))
  | ((with_reducible refine' r_isiN ?k0 ?_); (case k0 => walk_at "kit"))
  | ((with_reducible refine' r_isiT ?k0 ?k1 ?_); (case k0 => walk_at "tk"); (case k1 => walk_at "kit"))
  | ((with_reducible refine r_seqT ?_); (repeat (walk_at "rd1")); ((with_reducible refine' r_pseqT ?k0 ?_); (case k0 => walk_at "tk")))
  | ((with_reducible refine r_seqL ?_); (repeat (walk_at "rd1")); ((with_reducible refine' r_pseqL ?k0 ?_); (case k0 => walk_at "tk")))
  | ((with_reducible refine r_seqS ?_); (repeat (walk_at "rd1")); (with_reducible refine r_pseqS ?_)))
local macro_rules | `(tactic| walk_at "rd") => `(tactic| ((repeat (walk_at "rd1")); (try dsimp only)))
local macro_rules | `(tactic| walk_at "rd1") => `(tactic| first
  | with_reducible refine r_BMT ?_
  | with_reducible refine r_par ?_
  | with_reducible refine r_parV ?_
  | ((with_reducible refine' r_ptp ?k0 ?k1 ?_); (case k0 => walk_at "tk"); (case k1 => walk_at "tk"))
  | with_reducible refine r_eqS ?_
  | with_reducible refine r_neS ?_
  | with_reducible refine r_callW ?_
  | with_reducible refine r_try ?_
  | with_reducible refine r_enT ?_
  | ((with_reducible refine' r_pen ?k0 ?_); (case k0 => walk_at "tk")))
local macro_rules | `(tactic| walk_at "lk") => `(tactic| first
  | exact lk_here
  | exact lk_nil
  | ((refine' lk_next ?h ?n); (case h => decide +kernel); (case n => walk_at "lk")))
local macro_rules | `(tactic| walk_at "pf") => `(tactic| first
  | exact pf_here
  | exact pf_nil
  | ((refine' pf_next ?h ?n); (case h => decide +kernel); (case n => walk_at "pf")))
local macro_rules | `(tactic| walk_at "rd1") => `(tactic| first
  | with_reducible refine r_fld ?_
  | with_reducible refine r_sfld ?_
  | with_reducible refine r_meth ?_
  | with_reducible refine r_make ?_
  | with_reducible refine r_fldaug ?_
  | ((with_reducible refine' r_pfld2 ?e ?A ?f ?l ?_); (case e => walk_at "tk"); (case A => assumption); (case f => decide +kernel); (case l => walk_at "lk"))
  | ((with_reducible refine' r_pset2 ?e ?A ?f ?l ?p ?_); (case e => walk_at "tk"); (case A => assumption); (case f => decide +kernel); (case l => exact Nat.le_of_ble_eq_true rfl); (case p => walk_at "pf"))
  | ((with_reducible refine' r_pmeth ?e ?l ?_); (case e => walk_at "tk"); (case l => walk_at "lk"))
  | with_reducible refine r_pmake ?_)
def sp_law_runs (K : PySem.W.Frag) : Sp := fun vs H Q _ => ∃ w : List Nat, vs = [.str (S w)] ∧ w.length ≤ 9999 ∧ ∀ H', Same H H' → Q (.str (S (txL (rleD w)))) H'
def sp_law_due (K : PySem.W.Frag) : Sp := fun vs H Q _ => ∃ w : List Nat, vs = [.str (S w)] ∧ w ≠ [] ∧ w.length ≤ 9999 ∧ ∀ H', Same H H' → Q (.str (S (txL (wrD w)))) H'
abbrev N_law_runs : List Str := ["text", "begins", "behind", "out", "k", "size"]
def t_law_runs (K : PySem.W.Frag) : TS :=
  tSeq (tAsg (tLc ((iRng1 (tCons ((tCB (rLenU K) (tCons (tVar 0) tNil))) tNil))) ((gName 4)) ((tOr ((tTest (tOp (rEqU K) (tVar 4) ((tC (.int 0)))))) ((tTest (tOp (rNeU K) ((tOp (rIx K) (tVar 0) (tVar 4))) ((tOp (rIx K) (tVar 0) ((tOp rSubU (tVar 4) ((tC (.int 1)))))))))))) (tVar 4) [4]) (gName 1))
  (tSeq (tAsg ((tOp (rAddU K) ((tSl (rSlU K) (tVar 1) (tPart ((tC (.int 1)))) tNoPart)) ((tLst (tCons ((tCB (rLenU K) (tCons (tVar 0) tNil))) tNil))))) (gName 2))
  (tSeq (tAsg ((tC (.str ""))) (gName 3))
  (tSeq (tFor (iRng1 (tCons ((tCB (rLenU K) (tCons (tVar 1) tNil))) tNil)) (gName 4) (tSeq (tAsg ((tOp rSubU ((tOp (rIx K) (tVar 2) (tVar 4))) ((tOp (rIx K) (tVar 1) (tVar 4))))) (gName 5))
  (tSeq (tIfS ((tTest (tOp rGtU (tVar 5) ((tC (.int 1)))))) ((tAsg ((tOp (rAddU K) (tVar 3) ((tCB rStrI (tCons (tVar 5) tNil))))) (gName 3))) (tNext))
  ((tAsg ((tOp (rAddU K) (tVar 3) ((tOp (rIx K) (tVar 0) ((tOp (rIx K) (tVar 1) (tVar 4))))))) (gName 3))))))
  ((tRet (tVar 3))))))
abbrev N_law_due : List Str := ["word", "turn"]
def t_law_due (K : PySem.W.Frag) : TS :=
  tSeq (tAsg ((tBM K "str" rFind3 ((tOp (rAddU K) (tVar 0) (tVar 0))) (tCons (tVar 0) (tCons ((tC (.int 1))) tNil)))) (gName 1))
  (tSeq (tIfS ((tOr ((tTest (tOp (rEqU K) (tVar 1) ((tC (.int 1)))))) ((tTest (tOp (rEqU K) (tVar 1) ((tCB (rLenU K) (tCons (tVar 0) tNil)))))))) ((tRet ((tCall (sp_law_runs K) [] E0 (tCons (tVar 0) tNil))))) (tNext))
  ((tRet ((tOp (rAddU K) ((tOp (rAddU K) ((tOp (rAddU K) ((tCB rStrI (tCons ((tOp rFdivU ((tCB (rLenU K) (tCons (tVar 0) tNil))) (tVar 1))) tNil))) ((tC (.str "("))))) ((tCall (sp_law_runs K) [] E0 (tCons ((tSl (rSlU K) (tVar 0) tNoPart (tPart (tVar 1)))) tNil))))) ((tC (.str ")"))))))))
section
variable {K : PySem.W.Frag} {ec : Str → Addr} {ns : List Str} {vs : List V} {H H' : Hp} {Q : VK} {E : XK}
theorem len_law_runs (h : sp_law_runs K vs H Q E) : vs.length = 1 := by obtain ⟨_, rfl, _⟩ := h; rfl
theorem len_law_due (h : sp_law_due K vs H Q E) : vs.length = 1 := by obtain ⟨_, rfl, _⟩ := h; rfl
theorem pure_law_due (h : sp_law_due K vs H Q E) : t_law_due K (En Q) (start N_law_due vs) H := by
  obtain ⟨w, rfl, hw, hl, q⟩ := h
  obtain ⟨r1, r2, r3, r4⟩ := rootN_spec hw
  have hp := List.length_pos_iff.mpr hw
  have hrl : (w.take (rootN w)).length = rootN w := by rw [List.length_take]; omega
  unfold wrD at q
  unfold t_law_due
  refine r_seq (r_asg (r_BM (r_op (r_var rfl (r_var rfl ?_)))))
  refine r_addSS (by omega) ?_
  walk_at "rd"
  refine ⟨S (w ++ w), S w, 1, rfl, rfl, ?_⟩
  rw [find_ww hw]
  refine r_name ?_
  refine r_seq (r_if (r_orK (b1 := decide (rootN w = 1)) (b2 := decide (rootN w = w.length)) (fun QB q => ?_) (fun QB q => ?_) ?_))
  · walk_at "rd"
    rw [show decide ((rootN w : Int) = 1) = decide (rootN w = 1) from decide_eq_decide.mpr (by omega)]
    exact q
  · walk_at "rd"
    refine r_lenSS (by omega) ?_
    walk_at "rd"
    rw [show decide ((rootN w : Int) = (w.length : Int)) = decide (rootN w = w.length) from decide_eq_decide.mpr (by omega)]
    exact q
  rw [← Bool.decide_or]
  refine r_ite (fun g => ?_) (fun g => ?_)
  · rw [if_pos g] at q
    walk_at "rd"
    exact ⟨w, rfl, hl, q⟩
  · rw [if_neg g, txL_one, txI_node, txW_tup] at q
    have h2 : 2 ≤ w.length / rootN w := by
      rw [Nat.le_div_iff_mul_le r1]
      have hd : rootN w ∣ w.length := Nat.dvd_of_mod_eq_zero r3.1
      obtain ⟨j, hj⟩ := hd
      have : j ≠ 1 := fun z => g (.inr (by rw [hj, z, Nat.mul_one]))
      have : j ≠ 0 := fun z => by rw [z] at hj; omega
      rw [Nat.mul_comm, hj]
      exact Nat.mul_le_mul_left _ (by omega)
    have h9 : w.length / rootN w ≤ 9999 := Nat.le_trans (Nat.div_le_self _ _) hl
    have htx := rle_tx _ (w.take (rootN w)) (Nat.le_refl _) (by omega)
    walk_at "rd"
    refine r_lenSS (by omega) ?_
    walk_at "rd"
    refine r_fdiv (by omega) (log2_small (by omega) (by omega)) ?_
    walk_at "rd"
    rw [← Int.natCast_ediv]
    refine K24.r_rStrI (by omega) ?_
    walk_at "rd"
    have hdl := digL_len (n := w.length / rootN w) (k := 3) (by omega)
    refine r_addSS (a := digL (w.length / rootN w)) (b := [40]) (by show _ + 1 ≤ _; omega) ?_
    walk_at "rd"
    refine r_slS (by omega) ?_
    rw [cut_to_any]
    walk_at "rd"
    refine ⟨_, rfl, by omega, fun H1 s1 => ?_⟩
    refine r_addSS (a := digL (w.length / rootN w) ++ [40]) (b := txL (rleD (w.take (rootN w)))) (by rw [List.length_append]; show _ + 1 + _ ≤ _; omega) ?_
    walk_at "rd"
    refine r_addSS (a := (digL (w.length / rootN w) ++ [40]) ++ txL (rleD (w.take (rootN w)))) (b := [41]) (by rw [List.length_append, List.length_append]; show _ + 1 + _ + 1 ≤ _; omega) ?_
    have : digL (w.length / rootN w) ++ [40] ++ txL (rleD (w.take (rootN w))) ++ [41] = ctL (w.length / rootN w) ++ 40 :: (txL (rleD (w.take (rootN w))) ++ [41]) := by
      unfold ctL
      rw [if_neg (by omega)]
      simp [List.append_assoc]
    rw [this]
    exact q H1 s1
theorem pure_law_runs (h : sp_law_runs K vs H Q E) : t_law_runs K (En Q) (start N_law_runs vs) H := by
  obtain ⟨w, rfl, hl, q⟩ := h
  have htl := rle_tx _ w (Nat.le_refl _) hl
  unfold t_law_runs
  walk_at "rd"
  refine r_lenSS (by omega) ?_
  walk_at "rd"
  have filt : ∀ i, i < w.length → (List.range (i + 1)).filter (bgP w) = (List.range i).filter (bgP w) ++ (if bgP w i = true then [i] else []) := fun i hi => by
    rw [List.range_succ, List.filter_append]
    congr 1
    cases h : bgP w i <;> simp [h]
  refine r_lcR (fun D i H' => H D = none ∧ Same H H' ∧ H' D = some (.lst (((List.range i).filter (bgP w)).map fun k : Nat => V.int (k : Int)))) (fun x => rfl) (fun D H' hD s e => ⟨hD, s, e⟩) (fun D i H' hi ⟨hD, s, e⟩ => ?_) (fun D H' hD ⟨_, s, e⟩ => ?_)
  · have hi : i < w.length := by omega
    rw [show (0 : Int) + (i : Int) = (i : Int) by omega]
    have tk : bgP w i = true → tVar 4 ((wipe [some (V.str (S w)), none, none, none, none, none] [4]).set 4 (some (.int (i : Int)))) H' (fun y H4 => PAcc D (fun H' => H D = none ∧ Same H H' ∧ H' D = some (.lst (((List.range (i + 1)).filter (bgP w)).map fun k : Nat => V.int (k : Int)))) y H4) := fun hb => by
      refine r_var rfl ?_
      refine r_acc e (by rw [List.length_map]; have := List.length_filter_le (bgP w) (List.range i); rw [List.length_range] at this; omega) fun H5 b5 e5 => ⟨hD, same_but s b5 hD, ?_⟩
      rw [e5, filt i hi, if_pos hb, List.map_append]; rfl
    have no : bgP w i = false → H D = none ∧ Same H H' ∧ H' D = some (.lst (((List.range (i + 1)).filter (bgP w)).map fun k : Nat => V.int (k : Int))) := fun hb => ⟨hD, s, by rw [e, filt i hi, if_neg (by rw [hb]; decide), List.append_nil]⟩
    refine r_or ?_
    walk_at "rd"
    refine r_ite (fun g => ?_) (fun g => ?_)
    · have : i = 0 := by omega
      subst this
      exact r_T (tk rfl)
    · have hi0 : i ≠ 0 := by omega
      obtain ⟨c, hc⟩ : ∃ c, w[i]? = some c := ⟨_, List.getElem?_eq_getElem hi⟩
      obtain ⟨d, hd⟩ : ∃ d, w[i - 1]? = some d := ⟨_, List.getElem?_eq_getElem (by omega)⟩
      have hb : bgP w i = decide (c ≠ d) := by unfold bgP; rw [decide_eq_false hi0, Bool.false_or, hc, hd]; exact decide_eq_decide.mpr (by simp)
      walk_at "rd"
      refine r_ixSg (by omega) hc ?_
      walk_at "rd"
      rw [show (i : Int) - 1 = ((i - 1 : Nat) : Int) by omega]
      refine r_ixSg (by omega) hd ?_
      walk_at "rd"
      refine r_iteN (fun g => ?_) (fun g => ?_)
      · exact tk (by rw [hb]; exact decide_eq_true fun z => g (chS.mpr z))
      · exact no (by rw [hb]; exact decide_eq_false fun z => z (chS.mp g))
  · have e : H' D = some (.lst ((begL w).map fun k : Nat => V.int (k : Int))) := by
      have : ((w.length : Int)).toNat = w.length := by omega
      rw [e, this]; rfl
    have hbl : (begL w).length ≤ 9999 := by have := List.length_filter_le (bgP w) (List.range w.length); rw [List.length_range] at this; unfold begL; omega
    walk_at "rd"
    refine r_slLL (sqL_of e) fun t2 H2 nt2 s2 e2 => ?_
    rw [show (some (1 : Int)) = some ((1 : Nat) : Int) from rfl] at e2
    walk_at "rd"
    refine r_lenSS (by omega) ?_
    walk_at "rd"
    intro t3 H3 nt3 s3 e3
    walk_at "rd"
    have e23 := s3 _ _ e2
    have hcut : cutV ((begL w).map fun k : Nat => V.int (k : Int)) (some ((1 : Nat) : Int)) none = ((begL w).drop 1).map fun k : Nat => V.int (k : Int) := by
      rw [List.map_drop]
      cases h : begL w with
      | nil => rfl
      | cons x y => exact cut_from (by rw [List.length_map, List.length_cons]; omega)
    rw [hcut] at e23
    refine r_catL e23 e3 (by rw [sizeLine_eq, List.length_map, List.length_drop, List.length_singleton]; omega) fun t4 H4 nt4 s4 e4 => ?_
    have eD4 := s4 _ _ (s3 _ _ (s2 _ _ e))
    walk_at "rd"
    rw [List.length_map]
    refine r_forRange0 (fun k σ' H' => ∃ (o : List Nat) (b : Nat) (z4 z5 : Option V), σ' = [some (.str (S w)), some (.ref D), some (.ref t4), some (.str (S o)), z4, z5] ∧ H4 = H' ∧ (begL w ++ [w.length])[k]? = some b ∧ o ++ txL (rleD (w.drop b)) = txL (rleD w))
      ⟨[], 0, none, none, rfl, rfl, beg_0 w, by rw [List.drop_zero]; rfl⟩ (fun k σ' H' hk ⟨o, b, z4, z5, eσ, eH, hb, ho⟩ => ?_) (fun σ' H' ⟨o, b, z4, z5, eσ, eH, hb, ho⟩ => ?_)
    · subst eσ eH
      have hk : k < (begL w).length := by omega
      obtain ⟨e', he⟩ : ∃ e', (begL w ++ [w.length])[k + 1]? = some e' := ⟨_, List.getElem?_eq_getElem (by rw [List.length_append, List.length_singleton]; omega)⟩
      obtain ⟨h1, h2, c, hc, hs⟩ := begs_step hb he
      have hol := congrArg List.length ho
      rw [List.length_append] at hol
      have g1 : atI ((begL w).map fun k : Nat => V.int (k : Int)) (k : Int) = some (.int (b : Int)) := by
        refine atI_nat ?_
        rw [List.getElem?_map, ← List.getElem?_append_left (l₂ := [w.length]) hk, hb]; rfl
      have g2 : atI ((((begL w).drop 1).map fun k : Nat => V.int (k : Int)) ++ [V.int (w.length : Int)]) (k : Int) = some (.int (e' : Int)) := by
        refine atI_nat ?_
        have z : ((begL w ++ [w.length]).drop 1).map (fun k : Nat => V.int (k : Int)) = (((begL w).drop 1).map fun k : Nat => V.int (k : Int)) ++ [V.int (w.length : Int)] := by
          rw [List.drop_append_of_le_length (by omega), List.map_append]; rfl
        rw [← z, List.getElem?_map, List.getElem?_drop, Nat.add_comm 1 k, he]; rfl
      have hcl := ctL_len (k := e' - b) (by omega)
      have hfin : o ++ (ctL (e' - b) ++ [c]) ++ txL (rleD (w.drop e')) = txL (rleD w) := by
        rw [← ho, hs, txL, txI_node, txW_str, List.append_assoc]
        try rfl
      have eb : (e' : Int) - (b : Int) = ((e' - b : Nat) : Int) := by omega
      have step : ∀ l : List Nat, l = o ++ ctL (e' - b) → tAsg (tOp (rAddU K) (tVar 3) (tOp (rIx K) (tVar 0) (tOp (rIx K) (tVar 1) (tVar 4)))) (gName 3)
          { nx := fun σ' H' => ∃ (o : List Nat) (b : Nat) (z4 z5 : Option V), σ' = [some (.str (S w)), some (.ref D), some (.ref t4), some (.str (S o)), z4, z5] ∧ H4 = H' ∧ (begL w ++ [w.length])[k + 1]? = some b ∧ o ++ txL (rleD (w.drop b)) = txL (rleD w), rt := Q, bk := tRet (tVar 3) (En Q),
            ct := fun σ' H' => ∃ (o : List Nat) (b : Nat) (z4 z5 : Option V), σ' = [some (.str (S w)), some (.ref D), some (.ref t4), some (.str (S o)), z4, z5] ∧ H4 = H' ∧ (begL w ++ [w.length])[k + 1]? = some b ∧ o ++ txL (rleD (w.drop b)) = txL (rleD w) }
          [some (.str (S w)), some (.ref D), some (.ref t4), some (.str (S l)), some (.int (k : Int)), some (.int ((e' - b : Nat) : Int))] H4 := fun l hl2 => by
        have hll : l.length ≤ 20000 := by rw [hl2, List.length_append]; omega
        walk_at "rd"
        refine r_ixSg (by omega) hc ?_
        refine r_addSS (a := l) (b := [c]) (by show _ + 1 ≤ _; omega) ?_
        rw [hl2, List.append_assoc]
        walk_at "rd"
        exact ⟨_, e', _, _, rfl, rfl, he, hfin⟩
      walk_at "rd"
      rw [eb]
      refine r_ite (fun g => ?_) (fun g => ?_)
      · walk_at "rd"
        refine K24.r_rStrI (by omega) ?_
        refine r_addSS (by have := digL_len (n := e' - b) (k := 3) (by omega); omega) ?_
        refine r_name ?_
        exact step _ (by unfold ctL; rw [if_neg (by omega)])
      · refine r_next (step _ ?_)
        unfold ctL
        rw [if_pos (by omega), List.append_nil]
    · subst eσ eH
      have hkn : (((begL w).length : Int)).toNat = (begL w).length := by omega
      rw [hkn, List.getElem?_append_right (Nat.le_refl _), Nat.sub_self] at hb
      cases hb
      walk_at "rd"
      rw [List.drop_length, rleD_nil, txL, List.append_nil] at ho
      rw [ho]
      exact q H4 (((s.trans s2).trans s3).trans s4)
end
end K30
end Kb
set_option Elab.async false
set_option linter.all false
set_option maxRecDepth 100000
set_option maxHeartbeats 4000000
namespace Kb
namespace K30
open PySem PySem.Spec PyProof.Rows L2 SX
local macro_rules | `(tactic| walk_at "tk") => `(tactic| first
  | assumption
  | ((with_reducible refine' sqT_of ?k); (case k => assumption))
  | ((with_reducible refine' sqT_ofD ?k); (case k => assumption))
  | ((with_reducible refine' noD_of ?k); (case k => assumption))
  | ((with_reducible refine' noD_same ?s ?k); (case s => assumption); (case k => walk_at "tk"))
  | ((with_reducible refine' sqL_of ?k); (case k => assumption))
  | ((with_reducible refine' sqT_same ?s ?k); (case s => assumption); (case k => walk_at "tk"))
  | ((with_reducible refine' sqL_same ?s ?k); (case s => assumption); (case k => walk_at "tk"))
  | ((with_reducible refine' sqT_but ?s ?t ?k); (case s => assumption); (case t => walk_at "tk"); (case k => walk_at "tk"))
  | ((with_reducible refine' sqL_but ?s ?t ?k); (case s => assumption); (case t => walk_at "ne"); (case k => walk_at "tk"))
  | ((with_reducible refine' sqL_of ?k); (case k => walk_at "tk"))
  | ((with_reducible refine' sqT_of ?k); (case k => walk_at "tk"))
  | ((with_reducible refine' at_same ?s ?k); (case s => assumption); (case k => walk_at "tk"))
  | ((with_reducible refine' at_but ?s ?t ?k); (case s => assumption); (case t => walk_at "ne"); (case k => walk_at "tk")))
local macro_rules | `(tactic| walk_at "ne") => `(tactic| first
  | assumption
  | (refine Ne.symm ?_; assumption)
  | exact ne_of_none (by assumption) (by assumption)
  | exact (ne_of_none (by assumption) (by assumption)).symm)
local macro_rules | `(tactic| walk_at "side") => `(tactic| first
  | assumption
  | omega
  | (simp only [sizeLine_eq, List.length_cons, List.length_nil, List.length_map]; omega)
  | (show _ ≤ sizeLine; decide))
local macro_rules | `(tactic| walk_at "kit") => `(tactic| first
  | (show kitB _ _ = some true; decide +kernel)
  | (show kitB _ _ = some false; decide +kernel))
local macro_rules | `(tactic| walk_at "rng") => `(tactic| first
  | (refine ⟨by omega, by omega, by omega, by omega⟩)
  | (refine ⟨by omega, by omega⟩)
  | ((simp only [List.length_map]); (refine ⟨by omega, by omega, by omega, by omega⟩))
  | ((simp only [List.length_map]); (refine ⟨by omega, by omega⟩)))
local macro_rules | `(tactic| walk_at "rd1") => `(tactic| first
  | with_reducible refine r_seq ?_
  | ((with_reducible refine' r_var ?k0 ?_); (case k0 => rfl))
  | with_reducible refine r_op ?_
  | with_reducible refine r_c ?_
  | with_reducible refine r_asg ?_
  | with_reducible refine r_name ?_
  | with_reducible refine r_cons ?_
  | with_reducible refine r_nil ?_
  | with_reducible refine r_CB ?_
  | with_reducible refine r_if ?_
  | with_reducible refine r_test ?_
  | with_reducible refine r_k ?_
  | with_reducible refine r_T ?_
  | with_reducible refine r_F ?_
  | with_reducible refine r_nT ?_
  | with_reducible refine r_nF ?_
  | with_reducible refine r_ret ?_
  | with_reducible refine r_drop ?_
  | with_reducible refine r_next ?_
  | with_reducible refine r_call ?_
  | with_reducible refine r_addI ?_
  | with_reducible refine r_subI ?_
  | with_reducible refine r_ltI ?_
  | with_reducible refine r_gtI ?_
  | with_reducible refine r_leI ?_
  | with_reducible refine r_geI ?_
  | with_reducible refine r_eqI ?_
  | with_reducible refine r_neI ?_
  | with_reducible refine r_int ?_
  | with_reducible refine r_abs ?_
  | with_reducible refine r_not ?_
  | with_reducible refine r_and ?_
  | with_reducible refine r_or ?_
  | with_reducible refine r_tru ?_
  | with_reducible refine r_truB ?_
  | with_reducible refine r_lst ?_
  | with_reducible refine r_tup ?_
  | with_reducible refine r_BM ?_
  | with_reducible refine r_BM0 ?_
  | with_reducible refine r_tyS ?_
  | with_reducible refine r_gsub ?_
  | with_reducible refine r_then ?_
  | with_reducible refine r_lstRg ?_
  | with_reducible refine r_tupRg ?_
  | with_reducible refine r_rg2 ?_
  | with_reducible refine r_rg1 ?_
  | with_reducible refine r_ii ?_
  | with_reducible refine r_i ?_
  | with_reducible refine r_ipI ?_
  | with_reducible refine r_un ?_
  | with_reducible refine r_neg ?_
  | with_reducible refine r_isN ?_
  | with_reducible refine r_notN ?_
  | with_reducible refine r_notV ?_
  | with_reducible refine r_pnot ?_
  | with_reducible refine r_pif ?_
  | with_reducible refine r_andV ?_
  | with_reducible refine r_orV ?_
  | with_reducible refine r_ifE ?_
  | with_reducible refine r_chain ?_
  | with_reducible refine r_sl ?_
  | with_reducible refine r_noPart ?_
  | with_reducible refine r_part ?_
  | with_reducible refine r_brk ?_
  | with_reducible refine r_cont ?_
  | with_reducible refine r_retN ?_
  | with_reducible refine r_truI ?_
  | with_reducible refine r_B ?_
  | with_reducible refine r_for ?_
  | with_reducible refine r_rng1 ?_
  | with_reducible refine r_rng2 ?_
  | with_reducible refine r_rng3 ?_
  | with_reducible refine r_body ?_
  | with_reducible refine r_lc ?_
  | with_reducible refine r_yes ?_
  | ((with_reducible refine' r_mod ?k0 ?_); (case k0 => walk_at "side"))
  | ((with_reducible refine' r_mulI ?k0 ?_); (case k0 => first | exact Or.inl ⟨by omega, by omega⟩ | exact Or.inr ⟨by omega, by omega⟩))
  | ((with_reducible refine' r_lenL ?k0 ?_); (case k0 => walk_at "tk"))
  | ((with_reducible refine' r_lenT ?k0 ?_); (case k0 => walk_at "tk"))
  | ((with_reducible refine' r_truL ?k0 ?_); (case k0 => walk_at "tk"))
  | ((with_reducible refine' r_truT ?k0 ?_); (case k0 => walk_at "tk"))
  | ((with_reducible refine' r_ixL ?k0 ?k1 ?_); (case k0 => walk_at "tk"); (case k1 => first | assumption | rfl))
  | ((with_reducible refine' r_ixT ?k0 ?k1 ?_); (case k0 => walk_at "tk"); (case k1 => first | assumption | rfl))
  | ((with_reducible refine' r_new ?k0 ?_); (case k0 => walk_at "side"))
  | ((with_reducible refine' r_tyL ?k0 ?_); (case k0 => walk_at "tk"))
  | ((with_reducible refine' r_append ?k0 ?k1 ?_); (case k0 => walk_at "tk"); (case k1 => walk_at "side"))
  | ((with_reducible refine' r_setL ?k0 ?k1 ?_); (case k0 => walk_at "tk"); (case k1 => first | assumption | rfl))
  | ((with_reducible refine' r_kTupL ?k0 ?_); (case k0 => walk_at "tk"))
  | ((with_reducible refine' r_kTupT ?k0 ?_); (case k0 => walk_at "tk"))
  | ((with_reducible refine' r_listL ?k0 ?_); (case k0 => walk_at "tk"))
  | ((with_reducible refine' r_listT ?k0 ?_); (case k0 => walk_at "tk"))
  | ((with_reducible refine' r_aug ?k0 ?_); (case k0 => rfl))
  | ((with_reducible refine' r_lenS ?k0 ?_); (case k0 => walk_at "side"))
  | ((with_reducible refine' r_pop ?k0 ?_); (case k0 => walk_at "tk"))
  | ((with_reducible refine' r_pr1 ?k0 ?_); (case k0 => walk_at "rng"))
  | ((with_reducible refine' r_pr2 ?k0 ?_); (case k0 => walk_at "rng"))
  | ((with_reducible refine' r_pr3d ?k0 ?_); (case k0 => walk_at "rng"))
  | ((with_reducible refine' r_isiI ?k0 ?_); (case k0 => walk_at "kit"))
  | ((with_reducible refine' r_isiB ?k0 ?_); (case k0 => walk_at "kit"))
  | ((with_reducible refine' r_isiS ?k0 ?_); (case k0 => walk_at "kit"))
  | ((with_reducible refine' r_isiN ?k0 ?_); (case k0 => walk_at "kit"))
  | ((with_reducible refine' r_isiT ?k0 ?k1 ?_); (case k0 => walk_at "tk"); (case k1 => walk_at "kit"))
  | ((with_reducible refine r_seqT ?_); (repeat (walk_at "rd1")); ((with_reducible refine' r_pseqT ?k0 ?_); (case k0 => walk_at "tk")))
  | ((with_reducible refine r_seqL ?_); (repeat (walk_at "rd1")); ((with_reducible refine' r_pseqL ?k0 ?_); (case k0 => walk_at "tk")))
  | ((with_reducible refine r_seqS ?_); (repeat (walk_at "rd1")); (with_reducible refine r_pseqS ?_)))
local macro_rules | `(tactic| walk_at "rd") => `(tactic| ((repeat (walk_at "rd1")); (try dsimp only)))
local macro_rules | `(tactic| walk_at "rd1") => `(tactic| first
  | with_reducible refine r_BMT ?_
  | with_reducible refine r_par ?_
  | with_reducible refine r_parV ?_
  | ((with_reducible refine' r_ptp ?k0 ?k1 ?_); (case k0 => walk_at "tk"); (case k1 => walk_at "tk"))
  | with_reducible refine r_eqS ?_
  | with_reducible refine r_neS ?_
  | with_reducible refine r_callW ?_
  | with_reducible refine r_try ?_
  | with_reducible refine r_enT ?_
  | ((with_reducible refine' r_pen ?k0 ?_); (case k0 => walk_at "tk")))
local macro_rules | `(tactic| walk_at "au1") => `(tactic| first
  | with_reducible refine r_revS ?_
  | ((with_reducible refine' r_prevSN ?k0 ?_); (case k0 => walk_at "sz"); (intro _ _))
  | ((with_reducible refine' r_slSN ?k0 ?_); (case k0 => walk_at "sz"); (intro _ _))
  | ((with_reducible refine' r_catSN ?k0 ?_); (case k0 => walk_at "sz"); (intro _ _))
  | ((with_reducible refine' r_lenSS ?k0 ?_); (case k0 => walk_at "sz")))
local macro_rules | `(tactic| walk_at "lk") => `(tactic| first
  | exact lk_here
  | exact lk_nil
  | ((refine' lk_next ?h ?n); (case h => decide +kernel); (case n => walk_at "lk")))
local macro_rules | `(tactic| walk_at "pf") => `(tactic| first
  | exact pf_here
  | exact pf_nil
  | ((refine' pf_next ?h ?n); (case h => decide +kernel); (case n => walk_at "pf")))
local macro_rules | `(tactic| walk_at "rd1") => `(tactic| first
  | with_reducible refine r_fld ?_
  | with_reducible refine r_sfld ?_
  | with_reducible refine r_meth ?_
  | with_reducible refine r_make ?_
  | with_reducible refine r_fldaug ?_
  | ((with_reducible refine' r_pfld2 ?e ?A ?f ?l ?_); (case e => walk_at "tk"); (case A => assumption); (case f => decide +kernel); (case l => walk_at "lk"))
  | ((with_reducible refine' r_pset2 ?e ?A ?f ?l ?p ?_); (case e => walk_at "tk"); (case A => assumption); (case f => decide +kernel); (case l => exact Nat.le_of_ble_eq_true rfl); (case p => walk_at "pf"))
  | ((with_reducible refine' r_pmeth ?e ?l ?_); (case e => walk_at "tk"); (case l => walk_at "lk"))
  | with_reducible refine r_pmake ?_)
abbrev XN : List Str := ["ChamberError", "TooLong", "BadComposition"]
def sp_law_word (K : PySem.W.Frag) : Sp := fun vs H Q _ => ∃ (p : Addr) (kd : List Nat), vs = [.ref p, .str (S kd)] ∧ Pl H p ∧ kd.length = 26 ∧ ∀ w H', But p H H' → Pl H' p → w ≠ [] → w.length ≤ 5000 → (∀ c ∈ w, c ∈ kd) → Q (.str (S w)) H'
def sp_law_right (K : PySem.W.Frag) (ec : Str → Addr) : Sp := fun vs H Q _ => ∃ (w : List Nat) (cap : Bool), vs = [.str (S w), .bl cap] ∧ w ≠ [] ∧ w.length ≤ 5000 ∧ (∀ c ∈ w, c ∈ (if cap = true then largeL else smallL)) ∧ ∀ H', Same H H' → Q (.bl true) H'
def sp_law (K : PySem.W.Frag) : Sp := fun vs H Q _ => ∃ (a : Addr) (ns : List Int), vs = [.ref a] ∧ SqL K H a (ns.map V.int) ∧ ns.length ≤ 63 ∧ ∀ H', Q (.bl true) H'
abbrev N_law_word : List Str := ["pool", "alphabet", "size", "at", "root", "k", "run", "over", "word", "way"]
def t_law_word (K : PySem.W.Frag) : TS :=
  tSeq (tIfS ((tTest (tOp (rEqU K) ((tCall (sp_law_draw K) [] E0 (tCons (tVar 0) (tCons ((tC (.int 4))) tNil)))) ((tC (.int 0)))))) ((tRet ((tBM K "str" (rJoin K) ((tC (.str ""))) (tCons ((tLc ((iRng1 (tCons ((tOp (rAddU K) ((tC (.int 1))) ((tCall (sp_law_draw K) [] E0 (tCons (tVar 0) (tCons ((tC (.int 40))) tNil)))))) tNil))) ((gName 5)) (tYes) ((tOp (rIx K) (tVar 1) ((tCall (sp_law_draw K) [] E0 (tCons (tVar 0) (tCons ((tC (.int 26))) tNil)))))) [5])) tNil))))) (tNext))
  (tSeq (tAsg ((tOp (rIx K) ((tLst (tCons ((tC (.int 1))) (tCons ((tC (.int 2))) (tCons ((tC (.int 2))) (tCons ((tC (.int 3))) (tCons ((tC (.int 26))) tNil))))))) ((tCall (sp_law_draw K) [] E0 (tCons (tVar 0) (tCons ((tC (.int 5))) tNil)))))) (gName 2))
  (tSeq (tAsg ((tCall (sp_law_draw K) [] E0 (tCons (tVar 0) (tCons ((tOp rSubU ((tC (.int 27))) (tVar 2))) tNil)))) (gName 3))
  (tSeq (tAsg ((tC (.str ""))) (gName 4))
  (tSeq (tFor (iRng1 (tCons ((tOp (rAddU K) ((tC (.int 1))) ((tCall (sp_law_draw K) [] E0 (tCons (tVar 0) (tCons ((tC (.int 8))) tNil)))))) tNil)) (gName 5) (tSeq (tAsg ((tOp (rIx K) ((tLst (tCons ((tC (.int 1))) (tCons ((tC (.int 1))) (tCons ((tC (.int 2))) (tCons ((tC (.int 3))) (tCons ((tOp (rAddU K) ((tC (.int 1))) ((tCall (sp_law_draw K) [] E0 (tCons (tVar 0) (tCons ((tC (.int 30))) tNil)))))) tNil))))))) ((tCall (sp_law_draw K) [] E0 (tCons (tVar 0) (tCons ((tC (.int 5))) tNil)))))) (gName 6))
  ((tAsg ((tOp (rAddU K) (tVar 4) ((tOp rRepS ((tOp (rIx K) (tVar 1) ((tOp (rAddU K) (tVar 3) ((tCall (sp_law_draw K) [] E0 (tCons (tVar 0) (tCons (tVar 2) tNil)))))))) (tVar 6))))) (gName 4)))))
  (tSeq (tAsg ((tOp (rIx K) ((tLst (tCons ((tC (.int 1))) (tCons ((tC (.int 2))) (tCons ((tC (.int 3))) (tCons ((tOp (rAddU K) ((tC (.int 1))) ((tCall (sp_law_draw K) [] E0 (tCons (tVar 0) (tCons ((tC (.int 12))) tNil)))))) tNil)))))) ((tCall (sp_law_draw K) [] E0 (tCons (tVar 0) (tCons ((tC (.int 4))) tNil)))))) (gName 7))
  (tSeq (tIfS ((tTest (tOp (rEqU K) ((tCall (sp_law_draw K) [] E0 (tCons (tVar 0) (tCons ((tC (.int 12))) tNil)))) ((tC (.int 0)))))) ((tAsg ((tOp rFdivU ((tC (.int 5000))) ((tCB (rLenU K) (tCons (tVar 4) tNil))))) (gName 7))) (tNext))
  (tSeq (tAsg ((tOp rRepS (tVar 4) (tVar 7))) (gName 8))
  (tSeq (tIfS ((tTest (tOp (rEqU K) ((tCall (sp_law_draw K) [] E0 (tCons (tVar 0) (tCons ((tC (.int 3))) tNil)))) ((tC (.int 0)))))) (tSeq (tAsg ((tCall (sp_law_draw K) [] E0 (tCons (tVar 0) (tCons ((tCB (rLenU K) (tCons (tVar 8) tNil))) tNil)))) (gName 3))
  (tSeq (tAsg ((tCall (sp_law_draw K) [] E0 (tCons (tVar 0) (tCons ((tC (.int 3))) tNil)))) (gName 9))
  (tSeq (tIfS ((tTest (tOp (rEqU K) (tVar 9) ((tC (.int 0)))))) ((tAsg ((tOp (rAddU K) ((tOp (rAddU K) ((tSl (rSlU K) (tVar 8) tNoPart (tPart (tVar 3)))) ((tOp (rIx K) (tVar 1) ((tCall (sp_law_draw K) [] E0 (tCons (tVar 0) (tCons ((tC (.int 26))) tNil)))))))) ((tSl (rSlU K) (tVar 8) (tPart ((tOp (rAddU K) (tVar 3) ((tC (.int 1)))))) tNoPart)))) (gName 8))) (tNext))
  (tSeq (tIfS ((tAnd ((tTest (tOp (rEqU K) (tVar 9) ((tC (.int 1)))))) ((tTest (tOp rGtU ((tCB (rLenU K) (tCons (tVar 8) tNil))) ((tC (.int 1)))))))) ((tAsg ((tOp (rAddU K) ((tSl (rSlU K) (tVar 8) tNoPart (tPart (tVar 3)))) ((tSl (rSlU K) (tVar 8) (tPart ((tOp (rAddU K) (tVar 3) ((tC (.int 1)))))) tNoPart)))) (gName 8))) (tNext))
  ((tIfS ((tAnd ((tTest (tOp (rEqU K) (tVar 9) ((tC (.int 2)))))) ((tTest (tOp (rLtU K) ((tCB (rLenU K) (tCons (tVar 8) tNil))) ((tC (.int 5000)))))))) ((tAsg ((tOp (rAddU K) ((tSl (rSlU K) (tVar 8) tNoPart (tPart ((tOp (rAddU K) (tVar 3) ((tC (.int 1)))))))) ((tSl (rSlU K) (tVar 8) (tPart (tVar 3)) tNoPart)))) (gName 8))) (tNext))))))) (tNext))
  ((tRet (tVar 8)))))))))))
abbrev N_law_right : List Str := ["word", "capital", "told", "tree", "back"]
def t_law_right (K : PySem.W.Frag) (ec : Str → Addr) : TS :=
  tSeq (tAsg ((tCall (sp_write_word K) [] E0 (tCons (tVar 0) tNil))) (gName 2))
  (tSeq (tIfS ((tOr ((tNot ((tTru K ((tCB (rIsi K) (tCons (tVar 2) (tCons ((tC (.ty "str"))) tNil)))))))) ((tOr ((tTest (tOp (rNeU K) (tVar 2) ((tCall (sp_law_due K) [] E0 (tCons (tVar 0) tNil)))))) ((tTest (tOp rGtU ((tCB (rLenU K) (tCons (tVar 2) tNil))) ((tC (.int 5000)))))))))) ((tRet ((tC (.bl false))))) (tNext))
  (tSeq (tAsg ((tCall (sp_read_tree K ec) [] E0 (tCons (tVar 2) tNil))) (gName 3))
  (tSeq (tIfS ((tOr ((tNot ((tTru K ((tCB (rIsi K) (tCons ((tFld K (tVar 3) "count")) (tCons ((tC (.ty "int"))) tNil)))))))) ((tOr ((tTru K ((tCB (rIsi K) (tCons ((tFld K (tVar 3) "count")) (tCons ((tC (.ty "bool"))) tNil)))))) ((tTest (tOp (rNeU K) ((tFld K (tVar 3) "count")) ((tCB (rLenU K) (tCons (tVar 0) tNil)))))))))) ((tRet ((tC (.bl false))))) (tNext))
  (tSeq (tIfS ((tOr ((tNot ((tTru K ((tCB (rIsi K) (tCons ((tFld K (tVar 3) "courses")) (tCons ((tC (.ty "bool"))) tNil)))))))) ((tTest (tOp (rNeU K) ((tFld K (tVar 3) "courses")) (tVar 1)))))) ((tRet ((tC (.bl false))))) (tNext))
  (tSeq (tAsg ((tCall (sp_first_signs K ec) [] E0 (tCons (tVar 3) (tCons ((tCB (rLenU K) (tCons (tVar 0) tNil))) tNil)))) (gName 4))
  ((tRet ((tAndV ((tCB (rIsi K) (tCons (tVar 4) (tCons ((tC (.ty "str"))) tNil)))) ((tOp (rEqU K) (tVar 4) (tVar 0))))))))))))
abbrev N_law : List Str := ["script", "pool", "capital", "alphabet", "word"]
def t_law (K : PySem.W.Frag) (ec : Str → Addr) : TS :=
  tSeq (tAsg ((tCall (sp_law_pool K) [] E0 (tCons (tVar 0) (tCons ((tC (.int 0))) tNil)))) (gName 1))
  (tSeq (tAsg ((tOp (rEqU K) ((tCall (sp_law_draw K) [] E0 (tCons (tVar 1) (tCons ((tC (.int 2))) tNil)))) ((tC (.int 0))))) (gName 2))
  (tSeq (tAsg ((tC (.str "abcdefghijklmnopqrstuvwxyz"))) (gName 3))
  (tSeq (tIfS ((tTru K (tVar 2))) ((tAsg ((tC (.str "ABCDEFGHIJKLMNOPQRSTUVWXYZ"))) (gName 3))) (tNext))
  (tSeq (tAsg ((tCall (sp_law_word K) [] E0 (tCons (tVar 1) (tCons (tVar 3) tNil)))) (gName 4))
  (tSeq (tIfS ((tNot ((tTru K ((tCall (sp_law_right K ec) [] E0 (tCons (tVar 4) (tCons (tVar 2) tNil)))))))) ((tRet ((tC (.bl false))))) (tNext))
  (tSeq (tIfS ((tAnd ((tTest (tOp (rLeU K) ((tCB (rLenU K) (tCons (tVar 4) tNil))) ((tC (.int 2500)))))) ((tNot ((tTru K ((tCall (sp_law_right K ec) [] E0 (tCons ((tOp (rAddU K) (tVar 4) (tVar 4))) (tCons (tVar 2) tNil)))))))))) ((tRet ((tC (.bl false))))) (tNext))
  ((tRet ((tAndV ((tCall (sp_law_right K ec) [] E0 (tCons ((tRevS (tVar 4) (tPart ((tUn (rU fun i => .int (-i)) ((tC (.int 1)))))))) (tCons (tVar 2) tNil)))) ((tCall (sp_law_right K ec) [] E0 (tCons (tVar 4) (tCons (tVar 2) tNil))))))))))))))
section
variable {K : PySem.W.Frag} {ec : Str → Addr} {ns : List Str} {vs : List V} {H H' : Hp} {Q : VK} {E : XK}
theorem len_law_word (h : sp_law_word K vs H Q E) : vs.length = 2 := by obtain ⟨_, _, rfl, _⟩ := h; rfl
theorem len_law_right (h : sp_law_right K ec vs H Q E) : vs.length = 2 := by obtain ⟨_, _, rfl, _⟩ := h; rfl
theorem len_law (h : sp_law K vs H Q E) : vs.length = 1 := by obtain ⟨a, ns, rfl, _⟩ := h; rfl
/-- a list of drawn signs -/
theorem r_lcDrC {σ : L2.St} {te : TE} {j n : Nat} {lo : Int} {p : Addr} (kd : List Nat) (hp : Pl H p) (hz : n ≤ 1000000) (he : ∀ (x : Int) H1 (Q' : VK), But p H H1 → Pl H1 p → (∀ c H2, But p H1 H2 → Pl H2 p → c ∈ kd → Q' (.str ⟨#[c]⟩) H2) → te ((σ.set j none).set j (some (.int x))) H1 Q')
    (hd : ∀ q H' (ms : List Nat), H q = none → But p H H' → Pl H' p → H' q = some (.lst (ms.map fun c => V.str (S [c]))) → (∀ m ∈ ms, m ∈ kd) → ms.length = n → Q (.ref q) H') : PLc (Itr lo n) (gName j) tYes te [j] σ H Q := by
  refine r_lcR (fun D i H' => H D = none ∧ D ≠ p ∧ But p H H' ∧ Pl H' p ∧ ∃ ms : List Nat, H' D = some (.lst (ms.map fun c => V.str (S [c]))) ∧ ms.length = i ∧ ∀ m ∈ ms, m ∈ kd)
    (fun x => by show ((σ.set j none).set j (some x)).set j none = σ.set j none; rw [List.set_set, List.set_set]) (fun D H' hD s e => ⟨hD, ne_pl hD hp, Same.but s, pl_same s hp, [], e, rfl, fun _ h => nomatch h⟩) (fun D i H' hi q => ?_) (fun D H' hD q => ?_)
  · obtain ⟨hD, hne, b, hp', ms, e, hl, hm⟩ := q
    refine r_yes (r_T (he _ H' _ b hp' fun v H2 b2 hp2 v0 => ?_))
    refine r_acc (b2 _ _ hne e) (by rw [List.length_map]; omega) fun H5 b5 e5 => ⟨hD, hne, but_via (b.trans b2) b5 hD, pl_butL b5 hne.symm hp2, ms ++ [v], by rw [e5, List.map_append]; rfl, by rw [List.length_append, hl]; rfl, fun m h => ?_⟩
    rcases List.mem_append.mp h with h | h
    · exact hm m h
    · rw [List.mem_singleton] at h; subst h; exact v0
  · obtain ⟨hD, hne, b, hp', ms, e, hl, hm⟩ := q
    exact hd D H' ms hD b hp' e hm hl
theorem pure_law_word (h : sp_law_word K vs H Q E) : t_law_word K (En Q) (start N_law_word vs) H := by
  obtain ⟨p, kd, rfl, hp, hk, q⟩ := h
  unfold t_law_word
  walk_at "rd"
  refine r_draw hp (by omega) (by omega) fun v H1 v0 v1 b1 p1 => ?_
  walk_at "rd"
  refine r_ite (fun g => ?_) (fun g => ?_)
  · walk_at "rd"
    refine r_draw p1 (by omega) (by omega) fun u H2 u0 u1 b2 p2 => ?_
    walk_at "rd"
    refine r_lcDrC kd p2 (by omega) (fun x H3 Q' b3 p3 k => ?_) fun t H3 ms nt b3 p3 e3 hms hml => ?_
    · walk_at "rd"
      refine r_draw p3 (by omega) (by omega) fun y H4 y0 y1 b4 p4 => ?_
      exact r_ixLS (l := kd) (by omega) y0 (by omega) fun c hc => k c H4 b4 p4 hc
    · walk_at "rd"
      refine join_ones e3 (by omega) ?_
      exact q ms H3 ((b1.trans b2).trans b3) p3 (fun z => by rw [z] at hml; simp at hml; omega) (by omega) hms
  · walk_at "rd"
    intro l2 H2 n2 s2 e2
    walk_at "rd"
    refine r_draw (pl_same s2 p1) (by omega) (by omega) fun u H3 u0 u1 b3 p3 => ?_
    refine r_ixP (L := [1, 2, 2, 3, 26]) (sqL_of (b3 _ _ (ne_pl n2 p1) e2)) u0 u1 fun sz hsz => ?_
    have hsz : 1 ≤ sz ∧ sz ≤ 26 := by
      have : ∀ n ∈ ([1, 2, 2, 3, 26] : List Int), 1 ≤ n ∧ n ≤ 26 := by decide
      exact this sz hsz
    walk_at "rd"
    refine r_draw p3 (by omega) (by omega) fun at_ H4 a0 a1 b4 p4 => ?_
    walk_at "rd"
    refine r_draw p4 (by omega) (by omega) fun w H5 w0 w1 b5 p5 => ?_
    walk_at "rd"
    have t5 : But p H H5 := (((b1.trans (Same.but s2)).trans b3).trans b4).trans b5
    refine r_forRange0 (fun i σ' H' => ∃ (r : List Nat) (z5 z6 : Option V), σ' = [some (.ref p), some (.str (S kd)), some (.int sz), some (.int at_), some (.str (S r)), z5, z6, none, none, none] ∧ But p H H' ∧ Pl H' p ∧ (0 < i → r ≠ []) ∧ r.length ≤ 30 * i ∧ ∀ c ∈ r, c ∈ kd)
      ⟨[], none, none, rfl, t5, p5, (fun z => by omega), Nat.le_refl _, fun _ h => nomatch h⟩ (fun i σ' H' hi ⟨r, z5, z6, eσ, bt, pl, hne, hrl, hrc⟩ => ?_) (fun σ' H' ⟨r, z5, z6, eσ, bt, pl, hne, hrl, hrc⟩ => ?_)
    · subst eσ
      walk_at "rd"
      refine r_draw pl (by omega) (by omega) fun y H6 y0 y1 b6 p6 => ?_
      walk_at "rd"
      intro l7 H7 n7 s7 e7
      walk_at "rd"
      refine r_draw (pl_same s7 p6) (by omega) (by omega) fun x H8 x0 x1 b8 p8 => ?_
      refine r_ixP (L := [1, 1, 2, 3, 1 + y]) (sqL_of (b8 _ _ (ne_pl n7 p6) e7)) x0 x1 fun ru hru => ?_
      have hru : 1 ≤ ru ∧ ru ≤ 30 := by
        simp only [List.mem_cons, List.not_mem_nil, or_false] at hru
        omega
      walk_at "rd"
      refine r_draw p8 (by omega) (by omega) fun x2 H9 x20 x21 b9 p9 => ?_
      walk_at "rd"
      refine r_ixLS (l := kd) (by omega) (by omega) (by omega) fun c hc => ?_
      walk_at "rd"
      refine r_mulS (l := [c]) (by omega) (by omega) (by show 1 * _ ≤ _; omega) ?_
      refine r_addSS (by rw [repL_len]; show _ + _ * 1 ≤ _; omega) ?_
      walk_at "rd"
      refine ⟨_, _, _, rfl, ((bt.trans b6).trans ((Same.but s7).trans b8)).trans b9, p9, fun _ => ?_, by rw [List.length_append, repL_len]; show _ + _ * 1 ≤ _; omega, fun d hd => ?_⟩
      · intro z
        have := congrArg List.length z
        rw [List.length_append, repL_len] at this
        simp at this
        omega
      · rcases List.mem_append.mp hd with hd | hd
        · exact hrc d hd
        · have := K26.mem_repL hd
          rw [List.mem_singleton] at this
          rw [this]; exact hc
    · subst eσ
      have hne := hne (by omega)
      have hrp := List.length_pos_iff.mpr hne
      have hrl : r.length ≤ 240 := by omega
      walk_at "rd"
      refine r_draw pl (by omega) (by omega) fun y H6 y0 y1 b6 p6 => ?_
      walk_at "rd"
      intro l7 H7 n7 s7 e7
      walk_at "rd"
      refine r_draw (pl_same s7 p6) (by omega) (by omega) fun x H8 x0 x1 b8 p8 => ?_
      refine r_ixP (L := [1, 2, 3, 1 + y]) (sqL_of (b8 _ _ (ne_pl n7 p6) e7)) x0 x1 fun ov hov => ?_
      have hov : 1 ≤ ov ∧ ov ≤ 12 := by
        simp only [List.mem_cons, List.not_mem_nil, or_false] at hov
        omega
      have t8 : But p H H8 := (bt.trans b6).trans ((Same.but s7).trans b8)
      refine r_name ?_
      refine r_key (R := fun σ' H' => ∃ ov : Nat, 1 ≤ ov ∧ r.length * ov ≤ 5000 ∧ σ' = [some (.ref p), some (.str (S kd)), some (.int sz), some (.int at_), some (.str (S r)), z5, z6, some (.int (ov : Int)), none, none] ∧ But p H H' ∧ Pl H' p) (fun tb key => ?_) (fun σ' H9 hW => ?_)
      · walk_at "rd"
        refine r_draw p8 (by omega) (by omega) fun x2 H9 x20 x21 b9 p9 => ?_
        walk_at "rd"
        refine r_ite (fun g => ?_) (fun g => ?_)
        · walk_at "rd"
          refine r_lenSS (by omega) ?_
          walk_at "rd"
          refine r_fdiv (by omega) (log2_small (by omega) (by omega)) ?_
          walk_at "rd"
          rw [show (5000 : Int) / (r.length : Int) = ((5000 / r.length : Nat) : Int) by rw [Int.natCast_ediv]; rfl]
          refine key _ _ ⟨5000 / r.length, ?_, ?_, rfl, t8.trans b9, p9⟩
          · rw [Nat.le_div_iff_mul_le hrp]; omega
          · exact Nat.mul_div_le 5000 r.length
        · walk_at "rd"
          refine key _ _ ⟨ov.toNat, by omega, ?_, by rw [Int.toNat_of_nonneg (by omega)]; rfl, t8.trans b9, p9⟩
          have : r.length * ov.toNat ≤ 240 * 12 := Nat.mul_le_mul hrl (by omega)
          omega
      · obtain ⟨ov, o1, o2, rfl, t9, p9⟩ := hW
        have ho5 : ov ≤ 5000 := by
          have := Nat.mul_le_mul_right ov hrp
          omega
        walk_at "rd"
        refine r_mulS (l := r) (n := (ov : Int)) (by omega) (by omega) (by rw [Int.toNat_natCast]; omega) ?_
        rw [Int.toNat_natCast]
        walk_at "rd"
        obtain ⟨wd, hwd⟩ : ∃ wd, wd = repL ov r := ⟨_, rfl⟩
        have hwl : wd.length = ov * r.length := by rw [hwd, repL_len]
        have hwp : 0 < wd.length := by rw [hwl]; exact Nat.mul_pos (by omega) hrp
        have hw5 : wd.length ≤ 5000 := by rw [hwl, Nat.mul_comm]; exact o2
        have hwc : ∀ c ∈ wd, c ∈ kd := fun c hc => hrc c (K26.mem_repL (by rw [hwd] at hc; exact hc))
        rw [← hwd]
        have out : ∀ (w2 : List Nat) (H' : Hp) (σ : L2.St), But p H H' → Pl H' p → w2 ≠ [] → w2.length ≤ 5000 → (∀ c ∈ w2, c ∈ kd) → σ[8]? = some (some (.str (S w2))) → tRet (tVar 8) (En Q) σ H' := fun w2 H' σ b pl n1 n2 n3 hσ => r_ret (r_var hσ (q w2 H' b pl n1 n2 n3))
        refine r_draw p9 (by omega) (by omega) fun x2 H10 x20 x21 b10 p10 => ?_
        walk_at "rd"
        refine r_ite (fun g => ?_) (fun g => ?_)
        · walk_at "rd"
          refine r_lenSS (by omega) ?_
          walk_at "rd"
          refine r_draw p10 (by omega) (by omega) fun ap H11 ap0 ap1 b11 p11 => ?_
          walk_at "rd"
          refine r_draw p11 (by omega) (by omega) fun wy H12 wy0 wy1 b12 p12 => ?_
          have t12 := ((t9.trans b10).trans b11).trans b12
          have eap : ap = ((ap.toNat : Nat) : Int) := by omega
          have eap1 : ap + 1 = ((ap.toNat + 1 : Nat) : Int) := by omega
          walk_at "rd"
          obtain ⟨n, rfl⟩ : ∃ n : Nat, ap = (n : Int) := ⟨ap.toNat, by omega⟩
          have hn : n < wd.length := by omega
          have e1 : (n : Int) + 1 = ((n + 1 : Nat) : Int) := by omega
          have tkd : ∀ m, ∀ c ∈ wd.take m, c ∈ kd := fun m c hc => hwc c (List.take_subset _ _ hc)
          have dkd : ∀ m, ∀ c ∈ wd.drop m, c ∈ kd := fun m c hc => hwc c (List.drop_subset _ _ hc)
          have ckd : ∀ {a b : List Nat}, (∀ c ∈ a, c ∈ kd) → (∀ c ∈ b, c ∈ kd) → ∀ c ∈ a ++ b, c ∈ kd := fun h1 h2 c hc => by
            rcases List.mem_append.mp hc with hc | hc
            · exact h1 c hc
            · exact h2 c hc
          have nel : ∀ {l : List Nat}, 0 < l.length → l ≠ [] := fun h z => by rw [z] at h; simp at h
          have lt : (wd.take n).length = n := by rw [List.length_take]; omega
          refine r_ite (fun g0 => ?_) (fun g0 => ?_)
          · subst g0
            walk_at "rd"
            refine r_slS (by omega) ?_
            rw [cut_to_any]
            walk_at "rd"
            refine r_draw p12 (by omega) (by omega) fun x3 H13 x30 x31 b13 p13 => ?_
            refine r_ixLS (l := kd) (by omega) (by omega) (by omega) fun c hc => ?_
            refine r_addSS (a := wd.take n) (b := [c]) (by rw [lt]; show _ + 1 ≤ _; omega) ?_
            walk_at "rd"
            refine r_slS (by omega) ?_
            rw [e1, cutA_from (by omega)]
            refine r_addSS (a := wd.take n ++ [c]) (b := wd.drop (n + 1)) (by rw [List.length_append, List.length_drop, lt]; show _ + 1 + _ ≤ _; omega) ?_
            have hl3 : (wd.take n ++ [c] ++ wd.drop (n + 1)).length = wd.length := by rw [List.length_append, List.length_append, List.length_drop, lt, List.length_singleton]; omega
            walk_at "rd"
            refine r_iteM (by decide) ?_
            walk_at "rd"
            refine r_iteM (by decide) ?_
            walk_at "rd"
            exact q (wd.take n ++ [c] ++ wd.drop (n + 1)) H13 (t12.trans b13) p13 (nel (by omega)) (by omega) (ckd (ckd (tkd n) (fun x hx => by rw [List.mem_singleton] at hx; rw [hx]; exact hc)) (dkd _))
          · walk_at "rd"
            refine r_ite (fun g1 => ?_) (fun g1 => ?_)
            · subst g1
              walk_at "rd"
              refine r_lenSS (by omega) ?_
              walk_at "rd"
              refine r_ite (fun g2 => ?_) (fun g2 => ?_)
              · walk_at "rd"
                refine r_slS (by omega) ?_
                rw [cut_to_any]
                walk_at "rd"
                refine r_slS (by omega) ?_
                rw [e1, cutA_from (by omega)]
                refine r_addSS (a := wd.take n) (b := wd.drop (n + 1)) (by rw [List.length_drop, lt]; omega) ?_
                have hl3 : (wd.take n ++ wd.drop (n + 1)).length = wd.length - 1 := by rw [List.length_append, List.length_drop, lt]; omega
                walk_at "rd"
                refine r_iteM (by decide) ?_
                walk_at "rd"
                exact q (wd.take n ++ wd.drop (n + 1)) H12 t12 p12 (nel (by omega)) (by omega) (ckd (tkd n) (dkd _))
              · walk_at "rd"
                refine r_iteM (by decide) ?_
                walk_at "rd"
                exact q _ H12 t12 p12 (nel hwp) hw5 hwc
            · walk_at "rd"
              refine r_ite (fun g2 => ?_) (fun g2 => ?_)
              · walk_at "rd"
                refine r_lenSS (by omega) ?_
                walk_at "rd"
                refine r_ite (fun g3 => ?_) (fun g3 => ?_)
                · walk_at "rd"
                  rw [e1]
                  refine r_slS (by omega) ?_
                  rw [cut_to_any]
                  walk_at "rd"
                  refine r_slS (by omega) ?_
                  rw [cutA_from (by omega)]
                  have lt1 : (wd.take (n + 1)).length = n + 1 := by rw [List.length_take]; omega
                  refine r_addSS (a := wd.take (n + 1)) (b := wd.drop n) (by rw [List.length_drop, lt1]; omega) ?_
                  have hl3 : (wd.take (n + 1) ++ wd.drop n).length = wd.length + 1 := by rw [List.length_append, List.length_drop, lt1]; omega
                  walk_at "rd"
                  exact q (wd.take (n + 1) ++ wd.drop n) H12 t12 p12 (nel (by omega)) (by omega) (ckd (tkd _) (dkd _))
                · walk_at "rd"
                  exact q _ H12 t12 p12 (nel hwp) hw5 hwc
              · walk_at "rd"
                exact q _ H12 t12 p12 (nel hwp) hw5 hwc
        · refine r_next ?_
          exact out wd H10 _ (t9.trans b10) p10 (fun z => by rw [z] at hwp; simp at hwp) hw5 hwc rfl
theorem wrD_ok {kd : List Nat} {w : List Nat} (hw : w ≠ []) (hl : w.length ≤ 5000) (hc : ∀ c ∈ w, c ∈ kd) : WfK kd 7 (wrD w) ∧ wrD w ≠ [] ∧ exL (wrD w) = w ∧ (txL (wrD w)).length ≤ 5000 := by
  obtain ⟨r1, r2, r3, r4⟩ := rootN_spec hw
  have hp := List.length_pos_iff.mpr hw
  unfold wrD
  split
  · exact ⟨rle_wf _ w (Nat.le_refl _) (by omega) hc, rle_ne hw, rle_ex _ w (Nat.le_refl _), Nat.le_trans (rle_tx _ w (Nat.le_refl _) (by omega)) hl⟩
  · rename_i g
    have hd : rootN w ∣ w.length := Nat.dvd_of_mod_eq_zero r3.1
    obtain ⟨j, hj⟩ := id hd
    have j1 : j ≠ 1 := fun z => g (.inr (by rw [hj, z, Nat.mul_one]))
    have j0 : j ≠ 0 := fun z => by rw [z] at hj; omega
    have ej : w.length / rootN w = j := by rw [hj]; exact Nat.mul_div_cancel_left _ r1
    have hj5 : 2 * rootN w ≤ w.length := by
      rw [hj, Nat.mul_comm]
      exact Nat.mul_le_mul_left _ (by omega)
    have hjl : j ≤ 5000 := by rw [← ej]; exact Nat.le_trans (Nat.div_le_self _ _) hl
    have hrl : (w.take (rootN w)).length = rootN w := by rw [List.length_take]; omega
    have hrne : w.take (rootN w) ≠ [] := fun z => by rw [z] at hrl; simp at hrl; omega
    have hrc : ∀ c ∈ w.take (rootN w), c ∈ kd := fun c h => hc c (List.take_subset _ _ h)
    refine ⟨WfK.one (n := 6) (by omega) (by omega) (.inr ⟨_, rfl, rle_ne hrne, by omega, (rle_wf (m := 5) _ _ (Nat.le_refl _) (by omega) hrc)⟩), by simp, ?_, ?_⟩
    · rw [exL_one, exI_node, exW_tup, rle_ex _ _ (Nat.le_refl _)]
      exact r3.2
    · have htx := rle_tx _ (w.take (rootN w)) (Nat.le_refl _) (by omega)
      have hct := ctL_len (k := w.length / rootN w) (by omega)
      rw [txL_one, txI_node, txW_tup, List.length_append, List.length_cons, List.length_append, List.length_singleton]
      omega
theorem pure_law_right (XS : Exs K ec XN) (CA : ClsA K (ec "Tree") at_Tree) (h : sp_law_right K ec vs H Q E) : t_law_right K ec (En Q) (start N_law_right vs) H := by
  obtain ⟨w, cap, rfl, hw, hl, hc, q⟩ := h
  have hk : isKind (if cap = true then largeL else smallL) := by cases cap; exact .inl rfl; exact .inr rfl
  obtain ⟨wf, wne, wex, wtl⟩ := wrD_ok hw hl hc
  have hr : rdT bothL (txL (wrD w)) = .inr ⟨_, 0, wrD w, []⟩ := rdT_tx hk (.inr rfl) wf wne
  have d1 : decide ((if cap = true then largeL else smallL) = largeL) = cap := by cases cap <;> decide
  have wfN : WfN 7 (wrD w) := K26.wfK_N (fun c hc => kind_both hk hc) wf
  have hsz := ex_len wfN
  rw [wex] at hsz
  unfold t_law_right
  walk_at "rd"
  refine ⟨w, rfl, hw, by omega, ?_⟩
  walk_at "rd"
  refine ⟨w, rfl, hw, by omega, fun H1 s1 => ?_⟩
  walk_at "rd"
  refine r_iteNP rfl ?_
  walk_at "rd"
  refine r_lenSS (by omega) ?_
  walk_at "rd"
  refine r_iteM (by omega) ?_
  walk_at "rd"
  refine ⟨txL (wrD w), rfl, by omega, fun c hc => ?_, fun r hr2 t H2 nt s2 T => ?_⟩
  · rw [hr] at hc; cases hc
  rw [hr] at hr2; cases hr2
  rw [d1] at T
  obtain ⟨dx, np, hp, hn⟩ := id T
  have hp : H2 t = some (.ins (ec "Tree") dx [("text", .str (S (txL (wrD w)))), ("nodes", .ref np), ("courses", .bl cap), ("count", .int (szL (wrD w)))]) := hp
  walk_at "rd"
  refine r_lenSS (by omega) ?_
  walk_at "rd"
  refine r_iteNP hsz.symm ?_
  walk_at "rd"
  refine r_neSame rfl ?_
  walk_at "rd"
  refine r_lenSS (by omega) ?_
  walk_at "rd"
  refine ⟨t, (w.length : Int), txL (wrD w), wrD w, cap, rfl, T, wfN, by omega, fun h5 H3 s3 => ?_, fun h5 => by omega⟩
  rw [wex, Int.toNat_natCast, List.take_length]
  walk_at "rd"
  rw [show decide (S w = S w) = true from decide_eq_true rfl]
  exact q H3 ((s1.trans s2).trans s3)
theorem pure_law (h : sp_law K vs H Q E) : t_law K ec (En Q) (start N_law vs) H := by
  obtain ⟨a, ns, rfl, hA, hns, q⟩ := h
  unfold t_law
  walk_at "rd"
  refine ⟨a, ns, 0, rfl, hA, hns, by omega, fun p0 H1 n1 s1 p1 => ?_⟩
  walk_at "rd"
  refine r_draw p1 (by omega) (by omega) fun v H2 v0 v1 b2 p2 => ?_
  walk_at "rd"
  generalize decide (v = 0) = cap
  have rest : tSeq (tAsg (tCall (sp_law_word K) [] E0 (tCons (tVar 1) (tCons (tVar 3) tNil))) (gName 4))
      (tSeq (tIfS (tNot (tTru K (tCall (sp_law_right K ec) [] E0 (tCons (tVar 4) (tCons (tVar 2) tNil))))) (tRet (tC (.bl false))) tNext)
      (tSeq (tIfS (tAnd (tTest (tOp (rLeU K) (tCB (rLenU K) (tCons (tVar 4) tNil)) (tC (.int 2500)))) (tNot (tTru K (tCall (sp_law_right K ec) [] E0 (tCons (tOp (rAddU K) (tVar 4) (tVar 4)) (tCons (tVar 2) tNil)))))) (tRet (tC (.bl false))) tNext)
      (tRet (tAndV (tCall (sp_law_right K ec) [] E0 (tCons (tRevS (tVar 4) (tPart (tUn (rU fun i => .int (-i)) (tC (.int 1))))) (tCons (tVar 2) tNil))) (tCall (sp_law_right K ec) [] E0 (tCons (tVar 4) (tCons (tVar 2) tNil)))))))
      (En Q) [some (.ref a), some (.ref p0), some (.bl cap), some (.str (S (if cap = true then largeL else smallL))), none] H2 := by
    walk_at "rd"
    refine ⟨p0, _, rfl, p2, by cases cap <;> decide, fun w H4 b4 p4 hw hl hc => ?_⟩
    walk_at "rd"
    refine ⟨w, cap, rfl, hw, hl, hc, fun H5 s5 => ?_⟩
    walk_at "rd"
    refine r_lenSS (by omega) ?_
    walk_at "rd"
    have fin : ∀ H', tRet (tAndV (tCall (sp_law_right K ec) [] E0 (tCons (tRevS (tVar 4) (tPart (tUn (rU fun i => .int (-i)) (tC (.int 1))))) (tCons (tVar 2) tNil))) (tCall (sp_law_right K ec) [] E0 (tCons (tVar 4) (tCons (tVar 2) tNil)))) (En Q)
        [some (.ref a), some (.ref p0), some (.bl cap), some (.str (S (if cap = true then largeL else smallL))), some (.str (S w))] H' := fun H' => by
      walk_at "rd"
      refine r_revS ?_
      walk_at "rd"
      refine r_prevS (by omega) ?_
      walk_at "rd"
      refine ⟨w.reverse, cap, rfl, fun z => hw (List.reverse_eq_nil_iff.mp z), by rw [List.length_reverse]; exact hl, fun c h => hc c (List.mem_reverse.mp h), fun H6 s6 => ?_⟩
      walk_at "rd"
      exact ⟨w, cap, rfl, hw, hl, hc, fun H7 s7 => q H7⟩
    refine r_ite (fun g => ?_) (fun g => ?_)
    · walk_at "rd"
      refine r_addSS (by omega) ?_
      walk_at "rd"
      refine ⟨w ++ w, cap, rfl, by simp [hw], by rw [List.length_append]; omega, fun c h => by rcases List.mem_append.mp h with h | h <;> exact hc c h, fun H6 s6 => ?_⟩
      refine r_truB (r_nT (r_next ?_))
      exact fin H6
    · refine r_F (r_next ?_)
      exact fin H5
  cases cap with
  | true =>
    refine r_T (r_asg (r_c (r_name ?_)))
    rw [large_L]
    exact rest
  | false =>
    refine r_F (r_next ?_)
    rw [small_L]
    exact rest
end
end K30
end Kb
set_option Elab.async false
set_option linter.all false
set_option maxRecDepth 100000
set_option maxHeartbeats 4000000
namespace Kb
namespace K30
open PySem PySem.Spec PyProof.Rows L2 SX
def top (i : Nat) : Stmt := PySem.Challenge.pw_ringingchamber_k30_normal_words.main.body.getD i (.Pass ⟨0, 0, 0, 0⟩)
abbrev s_beginning_of : Stmt := top 6
abbrev s_first_signs : Stmt := top 7
abbrev s_by_runs : Stmt := top 8
abbrev s_root_of : Stmt := top 9
abbrev s_write_word : Stmt := top 10
abbrev s_size_of : Stmt := top 17
abbrev s_TreeReader_init : Stmt := inClass (top 19) 0
abbrev s_Tree_init : Stmt := inClass (top 18) 0
abbrev s_TreeReader_is_whole : Stmt := inClass (top 19) 7
abbrev s_TreeReader_take_digit : Stmt := inClass (top 19) 2
abbrev s_TreeReader_take_count : Stmt := inClass (top 19) 6
abbrev s_TreeReader_take_letter : Stmt := inClass (top 19) 3
abbrev s_TreeReader_take_opening : Stmt := inClass (top 19) 4
abbrev s_TreeReader_take_closing : Stmt := inClass (top 19) 5
abbrev s_TreeReader_take : Stmt := inClass (top 19) 1
abbrev s_read_letters : Stmt := top 20
abbrev s_read_tree : Stmt := top 21
abbrev s_law_cell : Stmt := top 23
abbrev s_law_pool : Stmt := top 24
abbrev s_law_draw : Stmt := top 25
abbrev s_law_word : Stmt := top 26
abbrev s_law_runs : Stmt := top 27
abbrev s_law_due : Stmt := top 28
abbrev s_law_right : Stmt := top 29
abbrev s_law : Stmt := top 30
structure Bn (mg : Str → Option Value) : Prop where
  n_abs : mg "abs" = none
  n_bool : mg "bool" = none
  n_enumerate : mg "enumerate" = none
  n_int : mg "int" = none
  n_isinstance : mg "isinstance" = none
  n_len : mg "len" = none
  n_min : mg "min" = none
  n_range : mg "range" = none
  n_str : mg "str" = none
  n_tuple : mg "tuple" = none
  c_DIGITS : ∃ t, mg "DIGITS" = some (.str "0123456789" t)
  c_LARGE : ∃ t, mg "LARGE" = some (.str "ABCDEFGHIJKLMNOPQRSTUVWXYZ" t)
  c_MOST_DEPTH : ∃ t, mg "MOST_DEPTH" = some (.int (6) t)
  c_MOST_DIGITS : ∃ t, mg "MOST_DIGITS" = some (.int (4) t)
  c_MOST_SIGNS : ∃ t, mg "MOST_SIGNS" = some (.int (5000) t)
  c_SMALL : ∃ t, mg "SMALL" = some (.str "abcdefghijklmnopqrstuvwxyz" t)
abbrev i_ChamberError : Stmt := inClass (top 1) 0
abbrev i_TooLong : Stmt := inClass (top 2) 0
abbrev i_BadComposition : Stmt := inClass (top 3) 0
section
variable {P : Program} {w : World} {K : PySem.W.Frag} {mg : Str → Option Value} {base : Heap}
theorem sc_beginning_of : FnScope N_beginning_of ["what", "many"] (defScope s_beginning_of) := ⟨rfl, rfl, rfl, by decide +kernel, rfl, by decide +kernel, by decide +kernel⟩
theorem ok_beginning_of (D : At K mg "beginning_of" s_beginning_of) (B : Bn mg) {n : Nat} (G_beginning_of : Fn P w K mg base CX0 (1 + n) "beginning_of" ["what", "many"] (sp_beginning_of K n)) : Fn P w K mg base CX0 (1 + n + 1) "beginning_of" ["what", "many"] (sp_beginning_of K (n + 1)) := by
  obtain ⟨f, fd, F, hm⟩ := D
  refine ⟨f, fd, F.ok sc_beginning_of (fun vs H Q E h => len_beginning_of h) (fun cdv A outer s H vs Q E hr h => ⟨t_beginning_of K n, ?_, pure_beginning_of h⟩), hm, F.kp, F.binds fun _ _ _ _ _ _ us hl => match us, hl with | [_, _], _ => rfl⟩
  have nd := sc_beginning_of.nd
  exact pss_cons (ps_if ((pt_truU ((pe_callB call_isi (by rfl) B.n_isinstance (by decide +kernel) (pa_cons (pv 0) (pa_cons ((pe_bltn (by rfl) B.n_str (by decide +kernel) rfl)) pa_nil)))) (by intro _; rfl))) (pss_one (ps_ret ((pe_slice sl_U (pv 0) po_none (po_some (pv 1)))))) (pss_nil))
      (pss_cons (ps_set (i := 2) nd rfl (Or.inl rfl) (pe_str))
      (pss_cons (ps_for PassesOwn.never rfl (pi_seqU (pv 0)) (pg_tup rfl (pgs_cons (pg_name (i := 3) nd rfl (Or.inl rfl)) (pgs_cons (pg_name (i := 4) nd rfl (Or.inl rfl)) pgs_nil))) (pss_cons (ps_set (i := 5) nd rfl (Or.inl rfl) ((pe_op op_subU (pv 1) ((pe_callB call_lenU (by rfl) B.n_len (by decide +kernel) (pa_cons (pv 2) pa_nil))))))
      (pss_one (ps_if ((pt_cmpR op_gtU (pv 5) (pe_int) (nomark _))) (pss_cons (ps_set (i := 6) nd rfl (Or.inl rfl) ((pe_callF G_beginning_of hr (by rfl) pass0 (pa_cons (pv 4) (pa_cons (pv 5) pa_nil)))))
      (pss_cons (ps_set (i := 7) nd rfl (Or.inl rfl) ((pe_callB (call_min2 rfl) (by rfl) B.n_min (by decide +kernel) (pa_cons (pv 3) (pa_cons ((pe_op op_fdivU ((pe_op op_subU ((pe_op op_addU (pv 5) ((pe_callB call_lenU (by rfl) B.n_len (by decide +kernel) (pa_cons (pv 6) pa_nil))))) (pe_int))) ((pe_callB call_lenU (by rfl) B.n_len (by decide +kernel) (pa_cons (pv 6) pa_nil))))) pa_nil)))))
      (pss_one (ps_aug (i := 2) nd rfl (Or.inl rfl) ((pe_slice sl_U ((pe_op op_mulS (pv 6) (pv 7))) po_none (po_some (pv 5)))) ip_addS)))) (pss_nil)))))
      (pss_one (ps_ret (pv 2)))))
theorem okr_beginning_of (D : At K mg "beginning_of" s_beginning_of) (B : Bn mg) : ∀ n, Fn P w K mg base CX0 (1 + n) "beginning_of" ["what", "many"] (sp_beginning_of K n)
  | 0 => by
    obtain ⟨f, fd, F, hm⟩ := D
    exact ⟨f, fd, F.ok sc_beginning_of (fun vs H Q E h => (no_beginning_of h).elim) (fun cdv A outer s H vs Q E hr h => (no_beginning_of h).elim), hm, F.kp, F.binds fun _ _ _ _ _ _ us hl => match us, hl with | [_, _], _ => rfl⟩
  | n + 1 => ok_beginning_of D B (okr_beginning_of D B n)
theorem sc_first_signs : FnScope N_first_signs ["tree", "many"] (defScope s_first_signs) := ⟨rfl, rfl, rfl, by decide +kernel, rfl, by decide +kernel, by decide +kernel⟩
theorem ok_first_signs {ec : Str → Addr} (D : At K mg "first_signs" s_first_signs) (B : Bn mg) (XS : Exs K ec XN) (EX : ExAt mg ec XN) (CA_Tree : ClsA K (ec "Tree") at_Tree) (G_beginning_of : Fn P w K mg base CX0 9 "beginning_of" ["what", "many"] (sp_beginning_of K 8)) (Z_TooLong : Rz0 P w K mg base "TooLong" (ec "TooLong")) : Fn P w K mg base (L2.CX P w) 10 "first_signs" ["tree", "many"] (sp_first_signs K ec) := by
  obtain ⟨f, fd, F, hm⟩ := D
  refine ⟨f, fd, F.okX sc_first_signs (fun vs H Q E h => len_first_signs h) (fun cdv A outer s H vs Q E hr h => ⟨t_first_signs K ec E, ?_, pure_first_signs XS CA_Tree h⟩), hm, F.kp, F.binds fun _ _ _ _ _ _ us hl => match us, hl with | [_, _], _ => rfl⟩
  have nd := sc_first_signs.nd
  exact pss_cons (ps_if ((pt_cmpR op_gtU (pv 1) ((pe_glob rfl B.c_MOST_SIGNS.choose_spec ⟨_, rfl⟩)) (nomark _))) (pss_one (ps_rz0 rfl (takes_of rfl rfl rfl rfl) Z_TooLong (hr.mono (by decide)) (by rfl))) (pss_nil))
      (pss_one (ps_ret ((pe_callF G_beginning_of (hr.mono (by decide)) (by rfl) pass0 (pa_cons ((pe_fld (pv 0) rfl)) (pa_cons (pv 1) pa_nil))))))
theorem sc_by_runs : FnScope N_by_runs ["word"] (defScope s_by_runs) := ⟨rfl, rfl, rfl, by decide +kernel, rfl, by decide +kernel, by decide +kernel⟩
theorem ok_by_runs (D : At K mg "by_runs" s_by_runs) (B : Bn mg) : Fn P w K mg base CX0 1 "by_runs" ["word"] (sp_by_runs K) := by
  obtain ⟨f, fd, F, hm⟩ := D
  refine ⟨f, fd, F.ok sc_by_runs (fun vs H Q E h => len_by_runs h) (fun cdv A outer s H vs Q E hr h => ⟨t_by_runs K, ?_, pure_by_runs h⟩), hm, F.kp, F.binds fun _ _ _ _ _ _ us hl => match us, hl with | [_], _ => rfl⟩
  have nd := sc_by_runs.nd
  exact pss_cons (ps_set (i := 1) nd rfl (Or.inl rfl) (pe_str))
      (pss_cons (ps_set (i := 2) nd rfl (Or.inl rfl) (pe_int))
      (pss_cons (ps_while PassesOwn.never ((pt_cmpR (op_ltU hr.units) (pv 2) ((pe_callB call_lenU (by rfl) B.n_len (by decide +kernel) (pa_cons (pv 0) pa_nil))) (nomark _))) (pss_cons (ps_set (i := 3) nd rfl (Or.inl rfl) (pv 2))
      (pss_cons (ps_while PassesOwn.never ((PW.pt (pw_and ((pt_cmpR (op_ltU hr.units) (pv 3) ((pe_callB call_lenU (by rfl) B.n_len (by decide +kernel) (pa_cons (pv 0) pa_nil))) (nomark _))) (pw_and1 ((pt_cmpR (op_eqU hr.units) ((pe_ix ix_seq (pv 0) (pv 3) (fun _ _ => rfl))) ((pe_ix ix_seq (pv 0) (pv 2) (fun _ _ => rfl))) (nomark _))))))) (pss_one (ps_aug (i := 3) nd rfl (Or.inl rfl) (pe_int) ip_add)))
      (pss_cons (ps_if ((pt_cmpR op_gtU ((pe_op op_subU (pv 3) (pv 2))) (pe_int) (nomark _))) (pss_one (ps_aug (i := 1) nd rfl (Or.inl rfl) ((pe_callTy call_str_int (by rfl) B.n_str (by decide +kernel) (pa_cons ((pe_op op_subU (pv 3) (pv 2))) pa_nil))) ip_addS)) (pss_nil))
      (pss_cons (ps_aug (i := 1) nd rfl (Or.inl rfl) ((pe_ix ix_seq (pv 0) (pv 2) (fun _ _ => rfl))) ip_addS)
      (pss_one (ps_set (i := 2) nd rfl (Or.inl rfl) (pv 3))))))))
      (pss_one (ps_ret (pv 1)))))
theorem sc_root_of : FnScope N_root_of ["word"] (defScope s_root_of) := ⟨rfl, rfl, rfl, by decide +kernel, rfl, by decide +kernel, by decide +kernel⟩
theorem ok_root_of (D : At K mg "root_of" s_root_of) (B : Bn mg) : Fn P w K mg base CX0 1 "root_of" ["word"] (sp_root_of K) := by
  obtain ⟨f, fd, F, hm⟩ := D
  refine ⟨f, fd, F.ok sc_root_of (fun vs H Q E h => len_root_of h) (fun cdv A outer s H vs Q E hr h => ⟨t_root_of K, ?_, pure_root_of h⟩), hm, F.kp, F.binds fun _ _ _ _ _ _ us hl => match us, hl with | [_], _ => rfl⟩
  have nd := sc_root_of.nd
  exact pss_cons (ps_for PassesOwn.never rfl (pi_range2 (by rfl) B.n_range (pa_cons (pe_int) (pa_cons ((pe_callB call_lenU (by rfl) B.n_len (by decide +kernel) (pa_cons (pv 0) pa_nil))) pa_nil))) (pg_name (i := 1) nd rfl (Or.inl rfl)) (pss_one (ps_if ((PW.pt (pw_and ((pt_cmpR (op_eqU hr.units) ((pe_op op_modU ((pe_callB call_lenU (by rfl) B.n_len (by decide +kernel) (pa_cons (pv 0) pa_nil))) (pv 1))) (pe_int) (nomark _))) (pw_and1 ((pt_cmpR (op_eqU hr.units) ((pe_op op_mulS ((pe_slice sl_U (pv 0) po_none (po_some (pv 1)))) ((pe_op op_fdivU ((pe_callB call_lenU (by rfl) B.n_len (by decide +kernel) (pa_cons (pv 0) pa_nil))) (pv 1))))) (pv 0) (nomark _))))))) (pss_one (ps_ret ((pe_slice sl_U (pv 0) po_none (po_some (pv 1)))))) (pss_nil))))
      (pss_one (ps_ret (pv 0)))
theorem sc_write_word : FnScope N_write_word ["word"] (defScope s_write_word) := ⟨rfl, rfl, rfl, by decide +kernel, rfl, by decide +kernel, by decide +kernel⟩
theorem ok_write_word (D : At K mg "write_word" s_write_word) (B : Bn mg) (G_root_of : Fn P w K mg base CX0 1 "root_of" ["word"] (sp_root_of K)) (G_by_runs : Fn P w K mg base CX0 1 "by_runs" ["word"] (sp_by_runs K)) : Fn P w K mg base CX0 2 "write_word" ["word"] (sp_write_word K) := by
  obtain ⟨f, fd, F, hm⟩ := D
  refine ⟨f, fd, F.ok sc_write_word (fun vs H Q E h => len_write_word h) (fun cdv A outer s H vs Q E hr h => ⟨t_write_word K, ?_, pure_write_word h⟩), hm, F.kp, F.binds fun _ _ _ _ _ _ us hl => match us, hl with | [_], _ => rfl⟩
  have nd := sc_write_word.nd
  exact pss_cons (ps_set (i := 1) nd rfl (Or.inl rfl) ((pe_callF G_root_of (hr.mono (by decide)) (by rfl) pass0 (pa_cons (pv 0) pa_nil))))
      (pss_cons (ps_if ((PW.pt (pw_or ((pt_cmpR (op_eqU hr.units) ((pe_callB call_lenU (by rfl) B.n_len (by decide +kernel) (pa_cons (pv 1) pa_nil))) (pe_int) (nomark _))) (pw_or1 ((pt_cmpR (op_eqU hr.units) ((pe_callB call_lenU (by rfl) B.n_len (by decide +kernel) (pa_cons (pv 1) pa_nil))) ((pe_callB call_lenU (by rfl) B.n_len (by decide +kernel) (pa_cons (pv 0) pa_nil))) (nomark _))))))) (pss_one (ps_ret ((pe_callF G_by_runs (hr.mono (by decide)) (by rfl) pass0 (pa_cons (pv 0) pa_nil))))) (pss_nil))
      (pss_one (ps_ret ((pe_op op_addU ((pe_op op_addU ((pe_op op_addU ((pe_callTy call_str_int (by rfl) B.n_str (by decide +kernel) (pa_cons ((pe_op op_fdivU ((pe_callB call_lenU (by rfl) B.n_len (by decide +kernel) (pa_cons (pv 0) pa_nil))) ((pe_callB call_lenU (by rfl) B.n_len (by decide +kernel) (pa_cons (pv 1) pa_nil))))) pa_nil))) (pe_str))) ((pe_callF G_by_runs (hr.mono (by decide)) (by rfl) pass0 (pa_cons (pv 1) pa_nil))))) (pe_str))))))
theorem sc_size_of : FnScope N_size_of ["what"] (defScope s_size_of) := ⟨rfl, rfl, rfl, by decide +kernel, rfl, by decide +kernel, by decide +kernel⟩
theorem ok_size_of (D : At K mg "size_of" s_size_of) (B : Bn mg) {n : Nat} (G_size_of : Fn P w K mg base CX0 (1 + n) "size_of" ["what"] (sp_size_of K n)) : Fn P w K mg base CX0 (1 + n + 1) "size_of" ["what"] (sp_size_of K (n + 1)) := by
  obtain ⟨f, fd, F, hm⟩ := D
  refine ⟨f, fd, F.ok sc_size_of (fun vs H Q E h => len_size_of h) (fun cdv A outer s H vs Q E hr h => ⟨t_size_of K n, ?_, pure_size_of h⟩), hm, F.kp, F.binds fun _ _ _ _ _ _ us hl => match us, hl with | [_], _ => rfl⟩
  have nd := sc_size_of.nd
  exact pss_cons (ps_if ((pt_truU ((pe_callB call_isi (by rfl) B.n_isinstance (by decide +kernel) (pa_cons (pv 0) (pa_cons ((pe_bltn (by rfl) B.n_str (by decide +kernel) rfl)) pa_nil)))) (by intro _; rfl))) (pss_one (ps_ret (pe_int))) (pss_nil))
      (pss_cons (ps_set (i := 1) nd rfl (Or.inl rfl) (pe_int))
      (pss_cons (ps_for PassesOwn.never rfl (pi_seqU (pv 0)) (pg_tup rfl (pgs_cons (pg_name (i := 2) nd rfl (Or.inl rfl)) (pgs_cons (pg_name (i := 3) nd rfl (Or.inl rfl)) pgs_nil))) (pss_one (ps_aug (i := 1) nd rfl (Or.inl rfl) ((pe_op op_mulU (pv 2) ((pe_callF G_size_of hr (by rfl) pass0 (pa_cons (pv 3) pa_nil))))) ip_add)))
      (pss_one (ps_ret (pv 1)))))
theorem okr_size_of (D : At K mg "size_of" s_size_of) (B : Bn mg) : ∀ n, Fn P w K mg base CX0 (1 + n) "size_of" ["what"] (sp_size_of K n)
  | 0 => by
    obtain ⟨f, fd, F, hm⟩ := D
    exact ⟨f, fd, F.ok sc_size_of (fun vs H Q E h => (no_size_of h).elim) (fun cdv A outer s H vs Q E hr h => (no_size_of h).elim), hm, F.kp, F.binds fun _ _ _ _ _ _ us hl => match us, hl with | [_], _ => rfl⟩
  | n + 1 => ok_size_of D B (okr_size_of D B n)
theorem sc_TreeReader_init : FnScope N_TreeReader_init ["self", "allowed"] (defScope s_TreeReader_init) := ⟨rfl, rfl, rfl, by decide +kernel, rfl, by decide +kernel, by decide +kernel⟩
theorem ok_TreeReader_init {ec : Str → Addr} (D : KAt K mg (ec "TreeReader") "TreeReader" "TreeReader.__init__" s_TreeReader_init) (B : Bn mg) (CA_TreeReader : ClsA K (ec "TreeReader") at_TreeReader) : KFn P w K mg base CX0 1 (ec "TreeReader") "TreeReader" ["self", "allowed"] (sp_TreeReader_init K ec) := by
  obtain ⟨f, fd, F, mk, hm⟩ := D
  refine ⟨⟨f, fd, F.ok sc_TreeReader_init (fun vs H Q E h => len_TreeReader_init h) (fun cdv A outer s H vs Q E hr h => ⟨t_TreeReader_init K, ?_, pure_TreeReader_init CA_TreeReader h⟩), mk, F.binds fun _ _ _ _ _ _ us hl => match us, hl with | [_, _], _ => rfl⟩, hm⟩
  have nd := sc_TreeReader_init.nd
  exact pss_cons (ps_fld (pv 0) (pv 1) rfl)
      (pss_cons (ps_fld (pv 0) (pe_str) rfl)
      (pss_cons (ps_fld (pv 0) ((pe_lst pa_nil)) rfl)
      (pss_one (ps_fld (pv 0) ((pe_lst pa_nil)) rfl))))
theorem sc_Tree_init : FnScope N_Tree_init ["self", "text", "nodes", "courses"] (defScope s_Tree_init) := ⟨rfl, rfl, rfl, by decide +kernel, rfl, by decide +kernel, by decide +kernel⟩
theorem ok_Tree_init {ec : Str → Addr} (D : KAt K mg (ec "Tree") "Tree" "Tree.__init__" s_Tree_init) (B : Bn mg) (CA_Tree : ClsA K (ec "Tree") at_Tree) (G_size_of : Fn P w K mg base CX0 9 "size_of" ["what"] (sp_size_of K 8)) : KFn P w K mg base CX0 10 (ec "Tree") "Tree" ["self", "text", "nodes", "courses"] (sp_Tree_init K ec) := by
  obtain ⟨f, fd, F, mk, hm⟩ := D
  refine ⟨⟨f, fd, F.ok sc_Tree_init (fun vs H Q E h => len_Tree_init h) (fun cdv A outer s H vs Q E hr h => ⟨t_Tree_init K, ?_, pure_Tree_init CA_Tree h⟩), mk, F.binds fun _ _ _ _ _ _ us hl => match us, hl with | [_, _, _, _], _ => rfl⟩, hm⟩
  have nd := sc_Tree_init.nd
  exact pss_cons (ps_fld (pv 0) (pv 1) rfl)
      (pss_cons (ps_fld (pv 0) (pv 2) rfl)
      (pss_cons (ps_fld (pv 0) (pv 3) rfl)
      (pss_one (ps_fld (pv 0) ((pe_callF G_size_of (hr.mono (by decide)) (by rfl) pass0 (pa_cons (pv 2) pa_nil))) rfl))))
theorem sc_TreeReader_is_whole : FnScope N_TreeReader_is_whole ["self"] (defScope s_TreeReader_is_whole) := ⟨rfl, rfl, rfl, by decide +kernel, rfl, by decide +kernel, by decide +kernel⟩
theorem ok_TreeReader_is_whole {ec : Str → Addr} (D : MAt K (ec "TreeReader") "is_whole" "TreeReader.is_whole" s_TreeReader_is_whole) (B : Bn mg) (CA_TreeReader : ClsA K (ec "TreeReader") at_TreeReader) : MFn P w K mg base CX0 1 (ec "TreeReader") "is_whole" ["self"] (sp_TreeReader_is_whole K ec) := by
  obtain ⟨f, fd, F, hm⟩ := D
  refine ⟨⟨f, fd, F.ok sc_TreeReader_is_whole (fun vs H Q E h => len_TreeReader_is_whole h) (fun cdv A outer s H vs Q E hr h => ⟨t_TreeReader_is_whole K, ?_, pure_TreeReader_is_whole CA_TreeReader h⟩), hm, F.binds fun _ _ _ _ _ _ us hl => match us, hl with | [_], _ => rfl⟩, CA_TreeReader.cl⟩
  have nd := sc_TreeReader_is_whole.nd
  exact pss_one (ps_ret ((pe_and ((pe_cmpR (op_eqU hr.units) ((pe_fld (pv 0) rfl)) (pe_str) (nomark _))) (pe_and ((pe_cmpR (op_eqU hr.units) ((pe_callB call_lenU (by rfl) B.n_len (by decide +kernel) (pa_cons ((pe_fld (pv 0) rfl)) pa_nil))) (pe_int) (nomark _))) (pe_one ((pe_cmpR op_gtU ((pe_callB call_lenU (by rfl) B.n_len (by decide +kernel) (pa_cons ((pe_fld (pv 0) rfl)) pa_nil))) (pe_int) (nomark _))))))))
theorem sc_TreeReader_take_digit : FnScope N_TreeReader_take_digit ["self", "sign"] (defScope s_TreeReader_take_digit) := ⟨rfl, rfl, rfl, by decide +kernel, rfl, by decide +kernel, by decide +kernel⟩
theorem ok_TreeReader_take_digit {ec : Str → Addr} (D : MAt K (ec "TreeReader") "take_digit" "TreeReader.take_digit" s_TreeReader_take_digit) (B : Bn mg) (CA_TreeReader : ClsA K (ec "TreeReader") at_TreeReader) : MFn P w K mg base CX0 1 (ec "TreeReader") "take_digit" ["self", "sign"] (sp_TreeReader_take_digit K ec) := by
  obtain ⟨f, fd, F, hm⟩ := D
  refine ⟨⟨f, fd, F.ok sc_TreeReader_take_digit (fun vs H Q E h => len_TreeReader_take_digit h) (fun cdv A outer s H vs Q E hr h => ⟨t_TreeReader_take_digit K, ?_, pure_TreeReader_take_digit CA_TreeReader h⟩), hm, F.binds fun _ _ _ _ _ _ us hl => match us, hl with | [_, _], _ => rfl⟩, CA_TreeReader.cl⟩
  have nd := sc_TreeReader_take_digit.nd
  exact pss_cons (ps_if ((PW.pt (pw_or ((PW.pt (pw_and ((pt_cmpR (op_eqU hr.units) (pv 1) (pe_str) (nomark _))) (pw_and1 ((pt_cmpR (op_eqU hr.units) ((pe_fld (pv 0) rfl)) (pe_str) (nomark _))))))) (pw_or1 ((pt_cmpR (op_eqU hr.units) ((pe_callB call_lenU (by rfl) B.n_len (by decide +kernel) (pa_cons ((pe_fld (pv 0) rfl)) pa_nil))) ((pe_glob rfl B.c_MOST_DIGITS.choose_spec ⟨_, rfl⟩)) (nomark _))))))) (pss_one (ps_ret (pe_bl))) (pss_nil))
      (pss_cons (ps_fldaug (pv 0) (pv 1) in_addA)
      (pss_one (ps_ret (pe_bl))))
theorem sc_TreeReader_take_count : FnScope N_TreeReader_take_count ["self"] (defScope s_TreeReader_take_count) := ⟨rfl, rfl, rfl, by decide +kernel, rfl, by decide +kernel, by decide +kernel⟩
theorem ok_TreeReader_take_count {ec : Str → Addr} (D : MAt K (ec "TreeReader") "take_count" "TreeReader.take_count" s_TreeReader_take_count) (B : Bn mg) (CA_TreeReader : ClsA K (ec "TreeReader") at_TreeReader) : MFn P w K mg base CX0 1 (ec "TreeReader") "take_count" ["self"] (sp_TreeReader_take_count K ec) := by
  obtain ⟨f, fd, F, hm⟩ := D
  refine ⟨⟨f, fd, F.ok sc_TreeReader_take_count (fun vs H Q E h => len_TreeReader_take_count h) (fun cdv A outer s H vs Q E hr h => ⟨t_TreeReader_take_count K, ?_, pure_TreeReader_take_count CA_TreeReader h⟩), hm, F.binds fun _ _ _ _ _ _ us hl => match us, hl with | [_], _ => rfl⟩, CA_TreeReader.cl⟩
  have nd := sc_TreeReader_take_count.nd
  exact pss_cons (ps_set (i := 1) nd rfl (Or.inl rfl) ((pe_fld (pv 0) rfl)))
      (pss_cons (ps_fld (pv 0) (pe_str) rfl)
      (pss_cons (ps_if ((pt_cmpR (op_eqU hr.units) (pv 1) (pe_str) (nomark _))) (pss_one (ps_ret (pe_int))) (pss_nil))
      (pss_one (ps_ret ((pe_callTy call_int_str (by rfl) B.n_int (by decide +kernel) (pa_cons (pv 1) pa_nil)))))))
theorem sc_TreeReader_take_letter : FnScope N_TreeReader_take_letter ["self", "sign"] (defScope s_TreeReader_take_letter) := ⟨rfl, rfl, rfl, by decide +kernel, rfl, by decide +kernel, by decide +kernel⟩
theorem ok_TreeReader_take_letter {ec : Str → Addr} (D : MAt K (ec "TreeReader") "take_letter" "TreeReader.take_letter" s_TreeReader_take_letter) (B : Bn mg) (CA_TreeReader : ClsA K (ec "TreeReader") at_TreeReader) (G_TreeReader_take_count : MFn P w K mg base CX0 1 (ec "TreeReader") "take_count" ["self"] (sp_TreeReader_take_count K ec)) : MFn P w K mg base CX0 2 (ec "TreeReader") "take_letter" ["self", "sign"] (sp_TreeReader_take_letter K ec) := by
  obtain ⟨f, fd, F, hm⟩ := D
  refine ⟨⟨f, fd, F.ok sc_TreeReader_take_letter (fun vs H Q E h => len_TreeReader_take_letter h) (fun cdv A outer s H vs Q E hr h => ⟨t_TreeReader_take_letter K ec, ?_, pure_TreeReader_take_letter CA_TreeReader h⟩), hm, F.binds fun _ _ _ _ _ _ us hl => match us, hl with | [_, _], _ => rfl⟩, CA_TreeReader.cl⟩
  have nd := sc_TreeReader_take_letter.nd
  exact pss_cons (ps_set (i := 2) nd rfl (Or.inl rfl) ((pe_methF0 G_TreeReader_take_count (pv 0) (hr.mono (by decide)) pass0)))
      (pss_cons (ps_expr ((pe_bm PySem.F.plainAttrs_list PySem.F.slot_list_append PySem.F.type_list_append mt_append ((pe_fld (pv 0) rfl)) (pa_cons ((pe_tup (pa_cons (pv 2) (pa_cons (pv 1) pa_nil)))) pa_nil))))
      (pss_cons (ps_if ((pt_cmpR op_inU (pv 1) ((pe_glob rfl B.c_SMALL.choose_spec ⟨_, rfl⟩)) (by with_unfolding_all rfl))) (pss_one (ps_fld (pv 0) ((pe_glob rfl B.c_SMALL.choose_spec ⟨_, rfl⟩)) rfl)) (pss_one (ps_fld (pv 0) ((pe_glob rfl B.c_LARGE.choose_spec ⟨_, rfl⟩)) rfl)))
      (pss_one (ps_ret (pe_bl)))))
theorem sc_TreeReader_take_opening : FnScope N_TreeReader_take_opening ["self"] (defScope s_TreeReader_take_opening) := ⟨rfl, rfl, rfl, by decide +kernel, rfl, by decide +kernel, by decide +kernel⟩
theorem ok_TreeReader_take_opening {ec : Str → Addr} (D : MAt K (ec "TreeReader") "take_opening" "TreeReader.take_opening" s_TreeReader_take_opening) (B : Bn mg) (CA_TreeReader : ClsA K (ec "TreeReader") at_TreeReader) (G_TreeReader_take_count : MFn P w K mg base CX0 1 (ec "TreeReader") "take_count" ["self"] (sp_TreeReader_take_count K ec)) : MFn P w K mg base CX0 2 (ec "TreeReader") "take_opening" ["self"] (sp_TreeReader_take_opening K ec) := by
  obtain ⟨f, fd, F, hm⟩ := D
  refine ⟨⟨f, fd, F.ok sc_TreeReader_take_opening (fun vs H Q E h => len_TreeReader_take_opening h) (fun cdv A outer s H vs Q E hr h => ⟨t_TreeReader_take_opening K ec, ?_, pure_TreeReader_take_opening CA_TreeReader h⟩), hm, F.binds fun _ _ _ _ _ _ us hl => match us, hl with | [_], _ => rfl⟩, CA_TreeReader.cl⟩
  have nd := sc_TreeReader_take_opening.nd
  exact pss_cons (ps_if ((PW.pt (pw_or ((pt_cmpR (op_eqU hr.units) ((pe_fld (pv 0) rfl)) (pe_str) (nomark _))) (pw_or1 ((pt_cmpR (op_eqU hr.units) ((pe_callB call_lenU (by rfl) B.n_len (by decide +kernel) (pa_cons ((pe_fld (pv 0) rfl)) pa_nil))) ((pe_glob rfl B.c_MOST_DEPTH.choose_spec ⟨_, rfl⟩)) (nomark _))))))) (pss_one (ps_ret (pe_bl))) (pss_nil))
      (pss_cons (ps_set (i := 1) nd rfl (Or.inl rfl) ((pe_methF0 G_TreeReader_take_count (pv 0) (hr.mono (by decide)) pass0)))
      (pss_cons (ps_expr ((pe_bm PySem.F.plainAttrs_list PySem.F.slot_list_append PySem.F.type_list_append mt_append ((pe_fld (pv 0) rfl)) (pa_cons ((pe_tup (pa_cons (pv 1) (pa_cons ((pe_fld (pv 0) rfl)) pa_nil)))) pa_nil))))
      (pss_cons (ps_fld (pv 0) ((pe_lst pa_nil)) rfl)
      (pss_one (ps_ret (pe_bl))))))
theorem sc_TreeReader_take_closing : FnScope N_TreeReader_take_closing ["self"] (defScope s_TreeReader_take_closing) := ⟨rfl, rfl, rfl, by decide +kernel, rfl, by decide +kernel, by decide +kernel⟩
theorem ok_TreeReader_take_closing {ec : Str → Addr} (D : MAt K (ec "TreeReader") "take_closing" "TreeReader.take_closing" s_TreeReader_take_closing) (B : Bn mg) (CA_TreeReader : ClsA K (ec "TreeReader") at_TreeReader) : MFn P w K mg base CX0 1 (ec "TreeReader") "take_closing" ["self"] (sp_TreeReader_take_closing K ec) := by
  obtain ⟨f, fd, F, hm⟩ := D
  refine ⟨⟨f, fd, F.ok sc_TreeReader_take_closing (fun vs H Q E h => len_TreeReader_take_closing h) (fun cdv A outer s H vs Q E hr h => ⟨t_TreeReader_take_closing K, ?_, pure_TreeReader_take_closing CA_TreeReader h⟩), hm, F.binds fun _ _ _ _ _ _ us hl => match us, hl with | [_], _ => rfl⟩, CA_TreeReader.cl⟩
  have nd := sc_TreeReader_take_closing.nd
  exact pss_cons (ps_if ((PW.pt (pw_or ((pt_cmpR (op_neU hr.units) ((pe_fld (pv 0) rfl)) (pe_str) (nomark _))) (pw_or ((pt_cmpR (op_eqU hr.units) ((pe_callB call_lenU (by rfl) B.n_len (by decide +kernel) (pa_cons ((pe_fld (pv 0) rfl)) pa_nil))) (pe_int) (nomark _))) (pw_or1 ((pt_cmpR (op_eqU hr.units) ((pe_callB call_lenU (by rfl) B.n_len (by decide +kernel) (pa_cons ((pe_fld (pv 0) rfl)) pa_nil))) (pe_int) (nomark _)))))))) (pss_one (ps_ret (pe_bl))) (pss_nil))
      (pss_cons (ps_asg ((pe_bm0 PySem.F.plainAttrs_list PySem.F.slot_list_pop PySem.F.type_list_pop mt_pop ((pe_fld (pv 0) rfl)))) (pg_tup rfl (pgs_cons (pg_name (i := 1) nd rfl (Or.inl rfl)) (pgs_cons (pg_name (i := 2) nd rfl (Or.inl rfl)) pgs_nil))))
      (pss_cons (ps_expr ((pe_bm PySem.F.plainAttrs_list PySem.F.slot_list_append PySem.F.type_list_append mt_append (pv 2) (pa_cons ((pe_tup (pa_cons (pv 1) (pa_cons ((pe_tupD (by rfl) B.n_tuple ((pe_fld (pv 0) rfl)))) pa_nil)))) pa_nil))))
      (pss_cons (ps_fld (pv 0) (pv 2) rfl)
      (pss_one (ps_ret (pe_bl))))))
theorem sc_TreeReader_take : FnScope N_TreeReader_take ["self", "sign"] (defScope s_TreeReader_take) := ⟨rfl, rfl, rfl, by decide +kernel, rfl, by decide +kernel, by decide +kernel⟩
theorem ok_TreeReader_take {ec : Str → Addr} (D : MAt K (ec "TreeReader") "take" "TreeReader.take" s_TreeReader_take) (B : Bn mg) (CA_TreeReader : ClsA K (ec "TreeReader") at_TreeReader) (G_TreeReader_take_digit : MFn P w K mg base CX0 1 (ec "TreeReader") "take_digit" ["self", "sign"] (sp_TreeReader_take_digit K ec)) (G_TreeReader_take_letter : MFn P w K mg base CX0 2 (ec "TreeReader") "take_letter" ["self", "sign"] (sp_TreeReader_take_letter K ec)) (G_TreeReader_take_opening : MFn P w K mg base CX0 2 (ec "TreeReader") "take_opening" ["self"] (sp_TreeReader_take_opening K ec)) (G_TreeReader_take_closing : MFn P w K mg base CX0 1 (ec "TreeReader") "take_closing" ["self"] (sp_TreeReader_take_closing K ec)) : MFn P w K mg base CX0 3 (ec "TreeReader") "take" ["self", "sign"] (sp_TreeReader_take K ec) := by
  obtain ⟨f, fd, F, hm⟩ := D
  refine ⟨⟨f, fd, F.ok sc_TreeReader_take (fun vs H Q E h => len_TreeReader_take h) (fun cdv A outer s H vs Q E hr h => ⟨t_TreeReader_take K ec, ?_, pure_TreeReader_take CA_TreeReader h⟩), hm, F.binds fun _ _ _ _ _ _ us hl => match us, hl with | [_, _], _ => rfl⟩, CA_TreeReader.cl⟩
  have nd := sc_TreeReader_take.nd
  exact pss_cons (ps_if ((pt_cmpR op_inU (pv 1) ((pe_glob rfl B.c_DIGITS.choose_spec ⟨_, rfl⟩)) (by with_unfolding_all rfl))) (pss_one (ps_ret ((pe_methF G_TreeReader_take_digit (pv 0) (hr.mono (by decide)) pass0 (pa_cons (pv 1) pa_nil))))) (pss_nil))
      (pss_cons (ps_if ((pt_cmpR (op_eqU hr.units) ((pe_fld (pv 0) rfl)) (pe_str) (nomark _))) (pss_one (ps_ret (pe_bl))) (pss_nil))
      (pss_cons (ps_if ((pt_cmpR op_inU (pv 1) ((pe_fld (pv 0) rfl)) (by with_unfolding_all rfl))) (pss_one (ps_ret ((pe_methF G_TreeReader_take_letter (pv 0) (hr.mono (by decide)) pass0 (pa_cons (pv 1) pa_nil))))) (pss_nil))
      (pss_cons (ps_if ((pt_cmpR (op_eqU hr.units) (pv 1) (pe_str) (nomark _))) (pss_one (ps_ret ((pe_methF0 G_TreeReader_take_opening (pv 0) (hr.mono (by decide)) pass0)))) (pss_nil))
      (pss_cons (ps_if ((pt_cmpR (op_eqU hr.units) (pv 1) (pe_str) (nomark _))) (pss_one (ps_ret ((pe_methF0 G_TreeReader_take_closing (pv 0) (hr.mono (by decide)) pass0)))) (pss_nil))
      (pss_one (ps_ret (pe_bl)))))))
theorem sc_read_letters : FnScope N_read_letters ["text", "allowed"] (defScope s_read_letters) := ⟨rfl, rfl, rfl, by decide +kernel, rfl, by decide +kernel, by decide +kernel⟩
theorem ok_read_letters {ec : Str → Addr} (D : At K mg "read_letters" s_read_letters) (B : Bn mg) (XS : Exs K ec XN) (EX : ExAt mg ec XN) (CA_TreeReader : ClsA K (ec "TreeReader") at_TreeReader) (G_TreeReader_init : KFn P w K mg base CX0 1 (ec "TreeReader") "TreeReader" ["self", "allowed"] (sp_TreeReader_init K ec)) (G_TreeReader_take : MFn P w K mg base CX0 3 (ec "TreeReader") "take" ["self", "sign"] (sp_TreeReader_take K ec)) (G_TreeReader_is_whole : MFn P w K mg base CX0 1 (ec "TreeReader") "is_whole" ["self"] (sp_TreeReader_is_whole K ec)) (G_Tree_init : KFn P w K mg base CX0 10 (ec "Tree") "Tree" ["self", "text", "nodes", "courses"] (sp_Tree_init K ec)) (Z_BadComposition : Rz1 P w K mg base "BadComposition" "column" (ec "BadComposition")) : Fn P w K mg base (L2.CX P w) 12 "read_letters" ["text", "allowed"] (sp_read_letters K ec) := by
  obtain ⟨f, fd, F, hm⟩ := D
  refine ⟨f, fd, F.okX sc_read_letters (fun vs H Q E h => len_read_letters h) (fun cdv A outer s H vs Q E hr h => ⟨t_read_letters K ec E, ?_, pure_read_letters XS CA_TreeReader h⟩), hm, F.kp, F.binds fun _ _ _ _ _ _ us hl => match us, hl with | [_, _], _ => rfl⟩
  have nd := sc_read_letters.nd
  exact pss_cons (ps_set (i := 2) nd rfl (Or.inl rfl) ((pe_makeF G_TreeReader_init (hr.mono (by decide)) (by rfl) pass0 (pa_cons (pv 1) pa_nil))))
      (pss_cons (ps_for (passes_of rfl) rfl (pi_enumTxS (by rfl) B.n_enumerate (pa_cons (pv 0) pa_nil) (by decide) (by decide)) (pg_tup rfl (pgs_cons (pg_name (i := 3) nd rfl (Or.inl rfl)) (pgs_cons (pg_name (i := 4) nd rfl (Or.inl rfl)) pgs_nil))) (pss_one (ps_if ((pt_not ((pt_truU ((pe_methF G_TreeReader_take (pv 2) (hr.mono (by decide)) pass0 (pa_cons (pv 4) pa_nil))) (by intro _; rfl))))) (pss_one (ps_rz1 rfl (takes_of rfl rfl rfl rfl) Z_BadComposition (hr.mono (by decide)) (by rfl) (pv 3))) (pss_nil))))
      (pss_cons (ps_if ((pt_not ((pt_truU ((pe_methF0 G_TreeReader_is_whole (pv 2) (hr.mono (by decide)) pass0)) (by intro _; rfl))))) (pss_one (ps_rz1 rfl (takes_of rfl rfl rfl rfl) Z_BadComposition (hr.mono (by decide)) (by rfl) ((pe_op op_addU ((pe_callB call_lenU (by rfl) B.n_len (by decide +kernel) (pa_cons (pv 0) pa_nil))) (pe_int))))) (pss_nil))
      (pss_one (ps_ret ((pe_makeF G_Tree_init (hr.mono (by decide)) (by rfl) pass0 (pa_cons (pv 0) (pa_cons ((pe_tupD (by rfl) B.n_tuple ((pe_fld (pv 2) rfl)))) (pa_cons ((pe_cmpR (op_eqU hr.units) ((pe_fld (pv 2) rfl)) ((pe_glob rfl B.c_LARGE.choose_spec ⟨_, rfl⟩)) (nomark _))) pa_nil)))))))))
theorem sc_read_tree : FnScope N_read_tree ["text"] (defScope s_read_tree) := ⟨rfl, rfl, rfl, by decide +kernel, rfl, by decide +kernel, by decide +kernel⟩
theorem ok_read_tree {ec : Str → Addr} (D : At K mg "read_tree" s_read_tree) (B : Bn mg) (XS : Exs K ec XN) (EX : ExAt mg ec XN) (G_read_letters : Fn P w K mg base (L2.CX P w) 12 "read_letters" ["text", "allowed"] (sp_read_letters K ec)) : Fn P w K mg base (L2.CX P w) 13 "read_tree" ["text"] (sp_read_tree K ec) := by
  obtain ⟨f, fd, F, hm⟩ := D
  refine ⟨f, fd, F.okX sc_read_tree (fun vs H Q E h => len_read_tree h) (fun cdv A outer s H vs Q E hr h => ⟨t_read_tree K ec E, ?_, pure_read_tree XS h⟩), hm, F.kp, F.binds fun _ _ _ _ _ _ us hl => match us, hl with | [_], _ => rfl⟩
  have nd := sc_read_tree.nd
  exact pss_one (ps_ret ((pe_callW (takes_of rfl rfl rfl rfl) G_read_letters (hr.mono (by decide)) (by rfl) (pa_cons (pv 0) (pa_cons ((pe_op op_addU ((pe_glob rfl B.c_SMALL.choose_spec ⟨_, rfl⟩)) ((pe_glob rfl B.c_LARGE.choose_spec ⟨_, rfl⟩)))) pa_nil)))))
theorem sc_law_cell : FnScope N_law_cell ["script", "k"] (defScope s_law_cell) := ⟨rfl, rfl, rfl, by decide +kernel, rfl, by decide +kernel, by decide +kernel⟩
theorem ok_law_cell (D : At K mg "_law_cell" s_law_cell) (B : Bn mg) : Fn P w K mg base CX0 1 "_law_cell" ["script", "k"] (sp_law_cell K) := by
  obtain ⟨f, fd, F, hm⟩ := D
  refine ⟨f, fd, F.ok sc_law_cell (fun vs H Q E h => len_law_cell h) (fun cdv A outer s H vs Q E hr h => ⟨t_law_cell K, ?_, pure_law_cell h⟩), hm, F.kp, F.binds fun _ _ _ _ _ _ us hl => match us, hl with | [_, _], _ => rfl⟩
  have nd := sc_law_cell.nd
  exact pss_cons (ps_if ((pt_cmpR (op_ltU hr.units) (pv 1) ((pe_callB call_lenU (by rfl) B.n_len (by decide +kernel) (pa_cons (pv 0) pa_nil))) (nomark _))) (pss_one (ps_ret ((pe_callB call_absU (by rfl) B.n_abs (by decide +kernel) (pa_cons ((pe_callTy call_intU (by rfl) B.n_int (by decide +kernel) (pa_cons ((pe_ix ix_seq (pv 0) (pv 1) (fun _ _ => rfl))) pa_nil))) pa_nil))))) (pss_nil))
      (pss_cons (ps_if ((pt_cmpR (op_eqU hr.units) ((pe_callB call_lenU (by rfl) B.n_len (by decide +kernel) (pa_cons (pv 0) pa_nil))) (pe_int) (nomark _))) (pss_one (ps_ret (pe_int))) (pss_nil))
      (pss_one (ps_ret ((pe_op op_modU ((pe_callB call_absU (by rfl) B.n_abs (by decide +kernel) (pa_cons ((pe_callTy call_intU (by rfl) B.n_int (by decide +kernel) (pa_cons ((pe_ix ix_seq (pv 0) ((pe_op op_modU ((pe_callTy call_intU (by rfl) B.n_int (by decide +kernel) (pa_cons (pv 1) pa_nil))) ((pe_callB call_lenU (by rfl) B.n_len (by decide +kernel) (pa_cons (pv 0) pa_nil))))) (fun _ _ => rfl))) pa_nil))) pa_nil))) (pe_int))))))
theorem sc_law_pool : FnScope N_law_pool ["script", "k"] (defScope s_law_pool) := ⟨rfl, rfl, rfl, by decide +kernel, rfl, by decide +kernel, by decide +kernel⟩
theorem ok_law_pool (D : At K mg "_law_pool" s_law_pool) (B : Bn mg) (G_law_cell : Fn P w K mg base CX0 1 "_law_cell" ["script", "k"] (sp_law_cell K)) : Fn P w K mg base CX0 2 "_law_pool" ["script", "k"] (sp_law_pool K) := by
  obtain ⟨f, fd, F, hm⟩ := D
  refine ⟨f, fd, F.ok sc_law_pool (fun vs H Q E h => len_law_pool h) (fun cdv A outer s H vs Q E hr h => ⟨t_law_pool K, ?_, pure_law_pool h⟩), hm, F.kp, F.binds fun _ _ _ _ _ _ us hl => match us, hl with | [_, _], _ => rfl⟩
  have nd := sc_law_pool.nd
  exact pss_cons (ps_set (i := 2) nd rfl (Or.inl rfl) ((pe_callF G_law_cell (hr.mono (by decide)) (by rfl) pass0 (pa_cons (pv 0) (pa_cons (pv 1) pa_nil)))))
      (pss_cons (ps_if ((pt_cmpR op_geU (pv 2) ((pe_op op_powU (pe_int) (pe_int))) (nomark _))) (pss_one (ps_ret ((pe_lst (pa_cons ((pe_op op_subU (pv 2) ((pe_op op_powU (pe_int) (pe_int))))) (pa_cons ((pe_op op_modU ((pe_callTy call_intU (by rfl) B.n_int (by decide +kernel) (pa_cons (pv 2) pa_nil))) (pe_int))) (pa_cons (pe_int) pa_nil))))))) (pss_nil))
      (pss_one (ps_ret ((pe_lst (pa_cons (pe_int) (pa_cons ((pe_op op_addU (pv 2) ((pe_op op_mulU (pe_int) ((pe_op op_addU (pv 1) (pe_int))))))) (pa_cons (pe_int) pa_nil))))))))
theorem sc_law_draw : FnScope N_law_draw ["pool", "many"] (defScope s_law_draw) := ⟨rfl, rfl, rfl, by decide +kernel, rfl, by decide +kernel, by decide +kernel⟩
theorem ok_law_draw (D : At K mg "_law_draw" s_law_draw) (B : Bn mg) : Fn P w K mg base CX0 1 "_law_draw" ["pool", "many"] (sp_law_draw K) := by
  obtain ⟨f, fd, F, hm⟩ := D
  refine ⟨f, fd, F.ok sc_law_draw (fun vs H Q E h => len_law_draw h) (fun cdv A outer s H vs Q E hr h => ⟨t_law_draw K, ?_, pure_law_draw h⟩), hm, F.kp, F.binds fun _ _ _ _ _ _ us hl => match us, hl with | [_, _], _ => rfl⟩
  have nd := sc_law_draw.nd
  exact pss_cons (ps_asg ((pe_op op_addU ((pe_ix ix_seq (pv 0) (pe_int) (fun _ _ => rfl))) (pe_int))) (pg_sub (pv 0) (pe_int) set_list))
      (pss_cons (ps_if ((pt_cmpR op_gtU ((pe_ix ix_seq (pv 0) (pe_int) (fun _ _ => rfl))) (pe_int) (nomark _))) (pss_cons (ps_set (i := 2) nd rfl (Or.inl rfl) ((pe_op op_modU ((pe_callTy call_intU (by rfl) B.n_int (by decide +kernel) (pa_cons ((pe_ix ix_seq (pv 0) (pe_int) (fun _ _ => rfl))) pa_nil))) (pv 1))))
      (pss_cons (ps_asg ((pe_op op_fdivU ((pe_ix ix_seq (pv 0) (pe_int) (fun _ _ => rfl))) (pv 1))) (pg_sub (pv 0) (pe_int) set_list))
      (pss_one (ps_ret (pv 2))))) (pss_nil))
      (pss_cons (ps_set (i := 3) nd rfl (Or.inl rfl) ((pe_op op_modU ((pe_callTy call_intU (by rfl) B.n_int (by decide +kernel) (pa_cons ((pe_op op_addU ((pe_ix ix_seq (pv 0) (pe_int) (fun _ _ => rfl))) ((pe_op op_mulU (pe_int) ((pe_ix ix_seq (pv 0) (pe_int) (fun _ _ => rfl))))))) pa_nil))) (pe_int))))
      (pss_cons (ps_set (i := 3) nd rfl (Or.inl rfl) ((pe_op op_modU ((pe_callTy call_intU (by rfl) B.n_int (by decide +kernel) (pa_cons ((pe_op op_addU ((pe_op op_addU ((pe_op op_mulU (pv 3) (pv 3))) ((pe_op op_mulU (pe_int) ((pe_ix ix_seq (pv 0) (pe_int) (fun _ _ => rfl))))))) ((pe_ix ix_seq (pv 0) (pe_int) (fun _ _ => rfl))))) pa_nil))) (pe_int))))
      (pss_cons (ps_set (i := 3) nd rfl (Or.inl rfl) ((pe_op op_modU ((pe_callTy call_intU (by rfl) B.n_int (by decide +kernel) (pa_cons ((pe_op op_addU ((pe_op op_mulU (pv 3) (pv 3))) (pe_int))) pa_nil))) (pe_int))))
      (pss_one (ps_ret ((pe_op op_modU ((pe_callTy call_intU (by rfl) B.n_int (by decide +kernel) (pa_cons ((pe_op op_fdivU (pv 3) (pe_int))) pa_nil))) (pv 1)))))))))
theorem sc_law_word : FnScope N_law_word ["pool", "alphabet"] (defScope s_law_word) := ⟨rfl, rfl, rfl, by decide +kernel, rfl, by decide +kernel, by decide +kernel⟩
theorem ok_law_word (D : At K mg "_law_word" s_law_word) (B : Bn mg) (G_law_draw : Fn P w K mg base CX0 1 "_law_draw" ["pool", "many"] (sp_law_draw K)) : Fn P w K mg base CX0 2 "_law_word" ["pool", "alphabet"] (sp_law_word K) := by
  obtain ⟨f, fd, F, hm⟩ := D
  refine ⟨f, fd, F.ok sc_law_word (fun vs H Q E h => len_law_word h) (fun cdv A outer s H vs Q E hr h => ⟨t_law_word K, ?_, pure_law_word h⟩), hm, F.kp, F.binds fun _ _ _ _ _ _ us hl => match us, hl with | [_, _], _ => rfl⟩
  have nd := sc_law_word.nd
  exact pss_cons (ps_if ((pt_cmpR (op_eqU hr.units) ((pe_callF G_law_draw (hr.mono (by decide)) (by rfl) pass0 (pa_cons (pv 0) (pa_cons (pe_int) pa_nil)))) (pe_int) (nomark _))) (pss_one (ps_ret ((pe_bm PySem.F.plainAttrs_str PySem.F.slot_str_join PySem.F.type_str_join mt_join (pe_str) (pa_cons ((pe_lc (own := [("k", 5)]) (g := (gName 5)) (tt := tYes) rfl nd ((pi_range1 (by rfl) B.n_range (pa_cons ((pe_op op_addU (pe_int) ((pe_callF G_law_draw (hr.mono (by decide)) (by rfl) pass0 (pa_cons (pv 0) (pa_cons (pe_int) pa_nil)))))) pa_nil))) (blkOk_by (N := (N_law_word : List Str)) (sc := defScope s_law_word) (by decide +kernel)) (fun _ _ _ _ _ => (pg_name (i := 5) nd rfl (Or.inl rfl))) (fun _ _ _ _ _ => pts_nil) (fun _ _ _ _ _ => (pe_ix ix_seq (pv 1) ((pe_callF G_law_draw (hr.mono (by decide)) (by rfl) pass0 (pa_cons (pv 0) (pa_cons (pe_int) pa_nil)))) (fun _ _ => rfl))))) pa_nil))))) (pss_nil))
      (pss_cons (ps_set (i := 2) nd rfl (Or.inl rfl) ((pe_ix ix_seq ((pe_lst (pa_cons (pe_int) (pa_cons (pe_int) (pa_cons (pe_int) (pa_cons (pe_int) (pa_cons (pe_int) pa_nil))))))) ((pe_callF G_law_draw (hr.mono (by decide)) (by rfl) pass0 (pa_cons (pv 0) (pa_cons (pe_int) pa_nil)))) (fun _ _ => rfl))))
      (pss_cons (ps_set (i := 3) nd rfl (Or.inl rfl) ((pe_callF G_law_draw (hr.mono (by decide)) (by rfl) pass0 (pa_cons (pv 0) (pa_cons ((pe_op op_subU (pe_int) (pv 2))) pa_nil)))))
      (pss_cons (ps_set (i := 4) nd rfl (Or.inl rfl) (pe_str))
      (pss_cons (ps_for PassesOwn.never rfl (pi_range1 (by rfl) B.n_range (pa_cons ((pe_op op_addU (pe_int) ((pe_callF G_law_draw (hr.mono (by decide)) (by rfl) pass0 (pa_cons (pv 0) (pa_cons (pe_int) pa_nil)))))) pa_nil)) (pg_name (i := 5) nd rfl (Or.inl rfl)) (pss_cons (ps_set (i := 6) nd rfl (Or.inl rfl) ((pe_ix ix_seq ((pe_lst (pa_cons (pe_int) (pa_cons (pe_int) (pa_cons (pe_int) (pa_cons (pe_int) (pa_cons ((pe_op op_addU (pe_int) ((pe_callF G_law_draw (hr.mono (by decide)) (by rfl) pass0 (pa_cons (pv 0) (pa_cons (pe_int) pa_nil)))))) pa_nil))))))) ((pe_callF G_law_draw (hr.mono (by decide)) (by rfl) pass0 (pa_cons (pv 0) (pa_cons (pe_int) pa_nil)))) (fun _ _ => rfl))))
      (pss_one (ps_set (i := 4) nd rfl (Or.inl rfl) ((pe_op op_addU (pv 4) ((pe_op op_mulS ((pe_ix ix_seq (pv 1) ((pe_op op_addU (pv 3) ((pe_callF G_law_draw (hr.mono (by decide)) (by rfl) pass0 (pa_cons (pv 0) (pa_cons (pv 2) pa_nil)))))) (fun _ _ => rfl))) (pv 6)))))))))
      (pss_cons (ps_set (i := 7) nd rfl (Or.inl rfl) ((pe_ix ix_seq ((pe_lst (pa_cons (pe_int) (pa_cons (pe_int) (pa_cons (pe_int) (pa_cons ((pe_op op_addU (pe_int) ((pe_callF G_law_draw (hr.mono (by decide)) (by rfl) pass0 (pa_cons (pv 0) (pa_cons (pe_int) pa_nil)))))) pa_nil)))))) ((pe_callF G_law_draw (hr.mono (by decide)) (by rfl) pass0 (pa_cons (pv 0) (pa_cons (pe_int) pa_nil)))) (fun _ _ => rfl))))
      (pss_cons (ps_if ((pt_cmpR (op_eqU hr.units) ((pe_callF G_law_draw (hr.mono (by decide)) (by rfl) pass0 (pa_cons (pv 0) (pa_cons (pe_int) pa_nil)))) (pe_int) (nomark _))) (pss_one (ps_set (i := 7) nd rfl (Or.inl rfl) ((pe_op op_fdivU (pe_int) ((pe_callB call_lenU (by rfl) B.n_len (by decide +kernel) (pa_cons (pv 4) pa_nil))))))) (pss_nil))
      (pss_cons (ps_set (i := 8) nd rfl (Or.inl rfl) ((pe_op op_mulS (pv 4) (pv 7))))
      (pss_cons (ps_if ((pt_cmpR (op_eqU hr.units) ((pe_callF G_law_draw (hr.mono (by decide)) (by rfl) pass0 (pa_cons (pv 0) (pa_cons (pe_int) pa_nil)))) (pe_int) (nomark _))) (pss_cons (ps_set (i := 3) nd rfl (Or.inl rfl) ((pe_callF G_law_draw (hr.mono (by decide)) (by rfl) pass0 (pa_cons (pv 0) (pa_cons ((pe_callB call_lenU (by rfl) B.n_len (by decide +kernel) (pa_cons (pv 8) pa_nil))) pa_nil)))))
      (pss_cons (ps_set (i := 9) nd rfl (Or.inl rfl) ((pe_callF G_law_draw (hr.mono (by decide)) (by rfl) pass0 (pa_cons (pv 0) (pa_cons (pe_int) pa_nil)))))
      (pss_cons (ps_if ((pt_cmpR (op_eqU hr.units) (pv 9) (pe_int) (nomark _))) (pss_one (ps_set (i := 8) nd rfl (Or.inl rfl) ((pe_op op_addU ((pe_op op_addU ((pe_slice sl_U (pv 8) po_none (po_some (pv 3)))) ((pe_ix ix_seq (pv 1) ((pe_callF G_law_draw (hr.mono (by decide)) (by rfl) pass0 (pa_cons (pv 0) (pa_cons (pe_int) pa_nil)))) (fun _ _ => rfl))))) ((pe_slice sl_U (pv 8) (po_some ((pe_op op_addU (pv 3) (pe_int)))) po_none)))))) (pss_nil))
      (pss_cons (ps_if ((PW.pt (pw_and ((pt_cmpR (op_eqU hr.units) (pv 9) (pe_int) (nomark _))) (pw_and1 ((pt_cmpR op_gtU ((pe_callB call_lenU (by rfl) B.n_len (by decide +kernel) (pa_cons (pv 8) pa_nil))) (pe_int) (nomark _))))))) (pss_one (ps_set (i := 8) nd rfl (Or.inl rfl) ((pe_op op_addU ((pe_slice sl_U (pv 8) po_none (po_some (pv 3)))) ((pe_slice sl_U (pv 8) (po_some ((pe_op op_addU (pv 3) (pe_int)))) po_none)))))) (pss_nil))
      (pss_one (ps_if ((PW.pt (pw_and ((pt_cmpR (op_eqU hr.units) (pv 9) (pe_int) (nomark _))) (pw_and1 ((pt_cmpR (op_ltU hr.units) ((pe_callB call_lenU (by rfl) B.n_len (by decide +kernel) (pa_cons (pv 8) pa_nil))) (pe_int) (nomark _))))))) (pss_one (ps_set (i := 8) nd rfl (Or.inl rfl) ((pe_op op_addU ((pe_slice sl_U (pv 8) po_none (po_some ((pe_op op_addU (pv 3) (pe_int)))))) ((pe_slice sl_U (pv 8) (po_some (pv 3)) po_none)))))) (pss_nil))))))) (pss_nil))
      (pss_one (ps_ret (pv 8)))))))))))
theorem sc_law_runs : FnScope N_law_runs ["text"] (defScope s_law_runs) := ⟨rfl, rfl, rfl, by decide +kernel, rfl, by decide +kernel, by decide +kernel⟩
theorem ok_law_runs (D : At K mg "_law_runs" s_law_runs) (B : Bn mg) : Fn P w K mg base CX0 1 "_law_runs" ["text"] (sp_law_runs K) := by
  obtain ⟨f, fd, F, hm⟩ := D
  refine ⟨f, fd, F.ok sc_law_runs (fun vs H Q E h => len_law_runs h) (fun cdv A outer s H vs Q E hr h => ⟨t_law_runs K, ?_, pure_law_runs h⟩), hm, F.kp, F.binds fun _ _ _ _ _ _ us hl => match us, hl with | [_], _ => rfl⟩
  have nd := sc_law_runs.nd
  exact pss_cons (ps_setLc (i := 1) (own := [("k", 4)]) (g := (gName 4)) (tt := (tOr ((tTest (tOp (rEqU K) (tVar 4) ((tC (.int 0)))))) ((tTest (tOp (rNeU K) ((tOp (rIx K) (tVar 0) (tVar 4))) ((tOp (rIx K) (tVar 0) ((tOp rSubU (tVar 4) ((tC (.int 1)))))))))))) rfl nd rfl rfl (sw_true rfl rfl rfl (by decide +kernel)) ((pi_range1 (by rfl) B.n_range (pa_cons ((pe_callB call_lenU (by rfl) B.n_len (by decide +kernel) (pa_cons (pv 0) pa_nil))) pa_nil))) (blkOk_by (N := (N_law_runs : List Str)) (sc := defScope s_law_runs) (by decide +kernel)) (fun _ _ _ _ _ => (pg_name (i := 4) nd rfl (Or.inl rfl))) (fun _ _ _ _ _ => (pts_one ((PW.pt (pw_or ((pt_cmpR (op_eqU hr.units) (pv 4) (pe_int) (nomark _))) (pw_or1 ((pt_cmpR (op_neU hr.units) ((pe_ix ix_seq (pv 0) (pv 4) (fun _ _ => rfl))) ((pe_ix ix_seq (pv 0) ((pe_op op_subU (pv 4) (pe_int))) (fun _ _ => rfl))) (nomark _))))))))) (fun _ _ _ _ _ => pv 4))
      (pss_cons (ps_set (i := 2) nd rfl (Or.inl rfl) ((pe_op op_addU ((pe_slice sl_U (pv 1) (po_some (pe_int)) po_none)) ((pe_lst (pa_cons ((pe_callB call_lenU (by rfl) B.n_len (by decide +kernel) (pa_cons (pv 0) pa_nil))) pa_nil))))))
      (pss_cons (ps_set (i := 3) nd rfl (Or.inl rfl) (pe_str))
      (pss_cons (ps_for PassesOwn.never rfl (pi_range1 (by rfl) B.n_range (pa_cons ((pe_callB call_lenU (by rfl) B.n_len (by decide +kernel) (pa_cons (pv 1) pa_nil))) pa_nil)) (pg_name (i := 4) nd rfl (Or.inl rfl)) (pss_cons (ps_set (i := 5) nd rfl (Or.inl rfl) ((pe_op op_subU ((pe_ix ix_seq (pv 2) (pv 4) (fun _ _ => rfl))) ((pe_ix ix_seq (pv 1) (pv 4) (fun _ _ => rfl))))))
      (pss_cons (ps_if ((pt_cmpR op_gtU (pv 5) (pe_int) (nomark _))) (pss_one (ps_set (i := 3) nd rfl (Or.inl rfl) ((pe_op op_addU (pv 3) ((pe_callTy call_str_int (by rfl) B.n_str (by decide +kernel) (pa_cons (pv 5) pa_nil))))))) (pss_nil))
      (pss_one (ps_set (i := 3) nd rfl (Or.inl rfl) ((pe_op op_addU (pv 3) ((pe_ix ix_seq (pv 0) ((pe_ix ix_seq (pv 1) (pv 4) (fun _ _ => rfl))) (fun _ _ => rfl))))))))))
      (pss_one (ps_ret (pv 3))))))
theorem sc_law_due : FnScope N_law_due ["word"] (defScope s_law_due) := ⟨rfl, rfl, rfl, by decide +kernel, rfl, by decide +kernel, by decide +kernel⟩
theorem ok_law_due (D : At K mg "_law_due" s_law_due) (B : Bn mg) (G_law_runs : Fn P w K mg base CX0 1 "_law_runs" ["text"] (sp_law_runs K)) : Fn P w K mg base CX0 2 "_law_due" ["word"] (sp_law_due K) := by
  obtain ⟨f, fd, F, hm⟩ := D
  refine ⟨f, fd, F.ok sc_law_due (fun vs H Q E h => len_law_due h) (fun cdv A outer s H vs Q E hr h => ⟨t_law_due K, ?_, pure_law_due h⟩), hm, F.kp, F.binds fun _ _ _ _ _ _ us hl => match us, hl with | [_], _ => rfl⟩
  have nd := sc_law_due.nd
  exact pss_cons (ps_set (i := 1) nd rfl (Or.inl rfl) ((pe_bm PySem.F.plainAttrs_str PySem.F.slot_str_find PySem.F.type_str_find mt_find3 ((pe_op op_addU (pv 0) (pv 0))) (pa_cons (pv 0) (pa_cons (pe_int) pa_nil)))))
      (pss_cons (ps_if ((PW.pt (pw_or ((pt_cmpR (op_eqU hr.units) (pv 1) (pe_int) (nomark _))) (pw_or1 ((pt_cmpR (op_eqU hr.units) (pv 1) ((pe_callB call_lenU (by rfl) B.n_len (by decide +kernel) (pa_cons (pv 0) pa_nil))) (nomark _))))))) (pss_one (ps_ret ((pe_callF G_law_runs (hr.mono (by decide)) (by rfl) pass0 (pa_cons (pv 0) pa_nil))))) (pss_nil))
      (pss_one (ps_ret ((pe_op op_addU ((pe_op op_addU ((pe_op op_addU ((pe_callTy call_str_int (by rfl) B.n_str (by decide +kernel) (pa_cons ((pe_op op_fdivU ((pe_callB call_lenU (by rfl) B.n_len (by decide +kernel) (pa_cons (pv 0) pa_nil))) (pv 1))) pa_nil))) (pe_str))) ((pe_callF G_law_runs (hr.mono (by decide)) (by rfl) pass0 (pa_cons ((pe_slice sl_U (pv 0) po_none (po_some (pv 1)))) pa_nil))))) (pe_str))))))
theorem sc_law_right : FnScope N_law_right ["word", "capital"] (defScope s_law_right) := ⟨rfl, rfl, rfl, by decide +kernel, rfl, by decide +kernel, by decide +kernel⟩
theorem ok_law_right {ec : Str → Addr} (D : At K mg "_law_right" s_law_right) (B : Bn mg) (XS : Exs K ec XN) (EX : ExAt mg ec XN) (CA_Tree : ClsA K (ec "Tree") at_Tree) (G_write_word : Fn P w K mg base CX0 2 "write_word" ["word"] (sp_write_word K)) (G_law_due : Fn P w K mg base CX0 2 "_law_due" ["word"] (sp_law_due K)) (G_read_tree : Fn P w K mg base (L2.CX P w) 13 "read_tree" ["text"] (sp_read_tree K ec)) (G_first_signs : Fn P w K mg base (L2.CX P w) 10 "first_signs" ["tree", "many"] (sp_first_signs K ec)) : Fn P w K mg base CX0 14 "_law_right" ["word", "capital"] (sp_law_right K ec) := by
  obtain ⟨f, fd, F, hm⟩ := D
  refine ⟨f, fd, F.ok sc_law_right (fun vs H Q E h => len_law_right h) (fun cdv A outer s H vs Q E hr h => ⟨t_law_right K ec, ?_, pure_law_right XS CA_Tree h⟩), hm, F.kp, F.binds fun _ _ _ _ _ _ us hl => match us, hl with | [_, _], _ => rfl⟩
  have nd := sc_law_right.nd
  exact pss_cons (ps_set (i := 2) nd rfl (Or.inl rfl) ((pe_callF G_write_word (hr.mono (by decide)) (by rfl) pass0 (pa_cons (pv 0) pa_nil))))
      (pss_cons (ps_if ((PW.pt (pw_or ((pt_not ((pt_truU ((pe_callB call_isi (by rfl) B.n_isinstance (by decide +kernel) (pa_cons (pv 2) (pa_cons ((pe_bltn (by rfl) B.n_str (by decide +kernel) rfl)) pa_nil)))) (by intro _; rfl))))) (pw_or ((pt_cmpR (op_neU hr.units) (pv 2) ((pe_callF G_law_due (hr.mono (by decide)) (by rfl) pass0 (pa_cons (pv 0) pa_nil))) (nomark _))) (pw_or1 ((pt_cmpR op_gtU ((pe_callB call_lenU (by rfl) B.n_len (by decide +kernel) (pa_cons (pv 2) pa_nil))) (pe_int) (nomark _)))))))) (pss_one (ps_ret (pe_bl))) (pss_nil))
      (pss_cons (ps_set (i := 3) nd rfl (Or.inl rfl) ((pe_callF G_read_tree (hr.mono (by decide)) (by rfl) passL (pa_cons (pv 2) pa_nil))))
      (pss_cons (ps_if ((PW.pt (pw_or ((pt_not ((pt_truU ((pe_callB call_isi (by rfl) B.n_isinstance (by decide +kernel) (pa_cons ((pe_fld (pv 3) rfl)) (pa_cons ((pe_bltn (by rfl) B.n_int (by decide +kernel) rfl)) pa_nil)))) (by intro _; rfl))))) (pw_or ((pt_truU ((pe_callB call_isi (by rfl) B.n_isinstance (by decide +kernel) (pa_cons ((pe_fld (pv 3) rfl)) (pa_cons ((pe_bltn (by rfl) B.n_bool (by decide +kernel) rfl)) pa_nil)))) (by intro _; rfl))) (pw_or1 ((pt_cmpR (op_neU hr.units) ((pe_fld (pv 3) rfl)) ((pe_callB call_lenU (by rfl) B.n_len (by decide +kernel) (pa_cons (pv 0) pa_nil))) (nomark _)))))))) (pss_one (ps_ret (pe_bl))) (pss_nil))
      (pss_cons (ps_if ((PW.pt (pw_or ((pt_not ((pt_truU ((pe_callB call_isi (by rfl) B.n_isinstance (by decide +kernel) (pa_cons ((pe_fld (pv 3) rfl)) (pa_cons ((pe_bltn (by rfl) B.n_bool (by decide +kernel) rfl)) pa_nil)))) (by intro _; rfl))))) (pw_or1 ((pt_cmpR (op_neU hr.units) ((pe_fld (pv 3) rfl)) (pv 1) (nomark _))))))) (pss_one (ps_ret (pe_bl))) (pss_nil))
      (pss_cons (ps_set (i := 4) nd rfl (Or.inl rfl) ((pe_callF G_first_signs (hr.mono (by decide)) (by rfl) passL (pa_cons (pv 3) (pa_cons ((pe_callB call_lenU (by rfl) B.n_len (by decide +kernel) (pa_cons (pv 0) pa_nil))) pa_nil)))))
      (pss_one (ps_ret ((pe_and ((pe_callB call_isi (by rfl) B.n_isinstance (by decide +kernel) (pa_cons (pv 4) (pa_cons ((pe_bltn (by rfl) B.n_str (by decide +kernel) rfl)) pa_nil)))) (pe_one ((pe_cmpR (op_eqU hr.units) (pv 4) (pv 0) (nomark _)))))))))))))
theorem sc_law : FnScope N_law ["script"] (defScope s_law) := ⟨rfl, rfl, rfl, by decide +kernel, rfl, by decide +kernel, by decide +kernel⟩
theorem ok_lawF {f : Addr} {fd : FuncData} (F : Fun K "law" "law" s_law f fd) (B : Bn mg) {ec : Str → Addr} (G_law_pool : Fn P w K mg base CX0 2 "_law_pool" ["script", "k"] (sp_law_pool K)) (G_law_draw : Fn P w K mg base CX0 1 "_law_draw" ["pool", "many"] (sp_law_draw K)) (G_law_word : Fn P w K mg base CX0 2 "_law_word" ["pool", "alphabet"] (sp_law_word K)) (G_law_right : Fn P w K mg base CX0 14 "_law_right" ["word", "capital"] (sp_law_right K ec)) : FnOk P w K mg base CX0 15 f fd ["script"] (sp_law K) := by
  refine F.ok sc_law (fun vs H Q E h => len_law h) (fun cdv A outer s H vs Q E hr h => ⟨t_law K ec, ?_, pure_law h⟩)
  have nd := sc_law.nd
  exact pss_cons (ps_set (i := 1) nd rfl (Or.inl rfl) ((pe_callF G_law_pool (hr.mono (by decide)) (by rfl) pass0 (pa_cons (pv 0) (pa_cons (pe_int) pa_nil)))))
      (pss_cons (ps_set (i := 2) nd rfl (Or.inl rfl) ((pe_cmpR (op_eqU hr.units) ((pe_callF G_law_draw (hr.mono (by decide)) (by rfl) pass0 (pa_cons (pv 1) (pa_cons (pe_int) pa_nil)))) (pe_int) (nomark _))))
      (pss_cons (ps_set (i := 3) nd rfl (Or.inl rfl) (pe_str))
      (pss_cons (ps_if ((pt_truU (pv 2) (by intro _; rfl))) (pss_one (ps_set (i := 3) nd rfl (Or.inl rfl) (pe_str))) (pss_nil))
      (pss_cons (ps_set (i := 4) nd rfl (Or.inl rfl) ((pe_callF G_law_word (hr.mono (by decide)) (by rfl) pass0 (pa_cons (pv 1) (pa_cons (pv 3) pa_nil)))))
      (pss_cons (ps_if ((pt_not ((pt_truU ((pe_callF G_law_right (hr.mono (by decide)) (by rfl) pass0 (pa_cons (pv 4) (pa_cons (pv 2) pa_nil)))) (by intro _; rfl))))) (pss_one (ps_ret (pe_bl))) (pss_nil))
      (pss_cons (ps_if ((PW.pt (pw_and ((pt_cmpR (op_leU hr.units) ((pe_callB call_lenU (by rfl) B.n_len (by decide +kernel) (pa_cons (pv 4) pa_nil))) (pe_int) (nomark _))) (pw_and1 ((pt_not ((pt_truU ((pe_callF G_law_right (hr.mono (by decide)) (by rfl) pass0 (pa_cons ((pe_op op_addU (pv 4) (pv 4))) (pa_cons (pv 2) pa_nil)))) (by intro _; rfl))))))))) (pss_one (ps_ret (pe_bl))) (pss_nil))
      (pss_one (ps_ret ((pe_and ((pe_callF G_law_right (hr.mono (by decide)) (by rfl) pass0 (pa_cons ((pe_revS (pv 4) (po_some ((pe_un un_neg (pe_int)))))) (pa_cons (pv 2) pa_nil)))) (pe_one ((pe_callF G_law_right (hr.mono (by decide)) (by rfl) pass0 (pa_cons (pv 4) (pa_cons (pv 2) pa_nil)))))))))))))))
end
theorem all_mk {l : PySem.W.OpenLaw} {w : World} {K : PySem.W.Frag} {h : Heap} {mg : Str → Option Value} {fa : Addr} (X : K.In h) (G : h.Ns mainGlobals mg) (hfa : mg "law" = some (.ref fa))
    {f1 : Addr} {od1 an1 : Option Addr} {sl1 : Array (Option Value)} {oc1 kV1 dc1 pm1 cd1 ct1 : Value}
    {f2 : Addr} {od2 an2 : Option Addr} {sl2 : Array (Option Value)} {oc2 kV2 dc2 pm2 cd2 ct2 : Value}
    {f3 : Addr} {od3 an3 : Option Addr} {sl3 : Array (Option Value)} {oc3 kV3 dc3 pm3 cd3 ct3 : Value}
    {f4 : Addr} {od4 an4 : Option Addr} {sl4 : Array (Option Value)} {oc4 kV4 dc4 pm4 cd4 ct4 : Value}
    {f5 : Addr} {od5 an5 : Option Addr} {sl5 : Array (Option Value)} {oc5 kV5 dc5 pm5 cd5 ct5 : Value}
    {f6 : Addr} {od6 an6 : Option Addr} {sl6 : Array (Option Value)} {oc6 kV6 dc6 pm6 cd6 ct6 : Value}
    {f7 : Addr} {od7 an7 : Option Addr} {sl7 : Array (Option Value)} {oc7 kV7 dc7 pm7 cd7 ct7 : Value}
    {f8 : Addr} {od8 an8 : Option Addr} {sl8 : Array (Option Value)} {oc8 kV8 dc8 pm8 cd8 ct8 : Value}
    {f9 : Addr} {od9 an9 : Option Addr} {sl9 : Array (Option Value)} {oc9 kV9 dc9 pm9 cd9 ct9 : Value}
    {f10 : Addr} {od10 an10 : Option Addr} {sl10 : Array (Option Value)} {oc10 kV10 dc10 pm10 cd10 ct10 : Value}
    {f11 : Addr} {od11 an11 : Option Addr} {sl11 : Array (Option Value)} {oc11 kV11 dc11 pm11 cd11 ct11 : Value}
    {f12 : Addr} {od12 an12 : Option Addr} {sl12 : Array (Option Value)} {oc12 kV12 dc12 pm12 cd12 ct12 : Value}
    {f13 : Addr} {od13 an13 : Option Addr} {sl13 : Array (Option Value)} {oc13 kV13 dc13 pm13 cd13 ct13 : Value}
    {f14 : Addr} {od14 an14 : Option Addr} {sl14 : Array (Option Value)} {oc14 kV14 dc14 pm14 cd14 ct14 : Value}
    {f15 : Addr} {od15 an15 : Option Addr} {sl15 : Array (Option Value)} {oc15 kV15 dc15 pm15 cd15 ct15 : Value}
    {f16 : Addr} {od16 an16 : Option Addr} {sl16 : Array (Option Value)} {oc16 kV16 dc16 pm16 cd16 ct16 : Value}
    {f17 : Addr} {od17 an17 : Option Addr} {sl17 : Array (Option Value)} {oc17 kV17 dc17 pm17 cd17 ct17 : Value}
    {f18 : Addr} {od18 an18 : Option Addr} {sl18 : Array (Option Value)} {oc18 kV18 dc18 pm18 cd18 ct18 : Value}
    {f19 : Addr} {od19 an19 : Option Addr} {sl19 : Array (Option Value)} {oc19 kV19 dc19 pm19 cd19 ct19 : Value}
    {f20 : Addr} {od20 an20 : Option Addr} {sl20 : Array (Option Value)} {oc20 kV20 dc20 pm20 cd20 ct20 : Value}
    {f21 : Addr} {od21 an21 : Option Addr} {sl21 : Array (Option Value)} {oc21 kV21 dc21 pm21 cd21 ct21 : Value}
    {f22 : Addr} {od22 an22 : Option Addr} {sl22 : Array (Option Value)} {oc22 kV22 dc22 pm22 cd22 ct22 : Value}
    {f23 : Addr} {od23 an23 : Option Addr} {sl23 : Array (Option Value)} {oc23 kV23 dc23 pm23 cd23 ct23 : Value}
    {f24 : Addr} {od24 an24 : Option Addr} {sl24 : Array (Option Value)} {oc24 kV24 dc24 pm24 cd24 ct24 : Value}
    {f25 : Addr} {od25 an25 : Option Addr} {sl25 : Array (Option Value)} {oc25 kV25 dc25 pm25 cd25 ct25 : Value}
    {C_ChamberError : Addr}
    {C_TooLong : Addr}
    {C_BadComposition : Addr}
    {C_Tree : Addr}
    {C_TreeReader : Addr}
    {fI_ChamberError cc_ChamberError : Addr} {od_ChamberError an_ChamberError cld_ChamberError : Option Addr} {sl_ChamberError csl_ChamberError : Array (Option Value)} {oc_ChamberError kV_ChamberError dc_ChamberError pm_ChamberError cd_ChamberError ct_ChamberError cl_ChamberError : Value}
    {fI_TooLong cc_TooLong : Addr} {od_TooLong an_TooLong cld_TooLong : Option Addr} {sl_TooLong csl_TooLong : Array (Option Value)} {oc_TooLong kV_TooLong dc_TooLong pm_TooLong cd_TooLong ct_TooLong cl_TooLong : Value}
    {fI_BadComposition cc_BadComposition : Addr} {od_BadComposition an_BadComposition cld_BadComposition : Option Addr} {sl_BadComposition csl_BadComposition : Array (Option Value)} {oc_BadComposition kV_BadComposition dc_BadComposition pm_BadComposition cd_BadComposition ct_BadComposition cl_BadComposition : Value}
    {t_DIGITS : Tok}
    {t_LARGE : Tok}
    {t_MOST_DEPTH : Tok}
    {t_MOST_DIGITS : Tok}
    {t_MOST_SIGNS : Tok}
    {t_SMALL : Tok}
    (a1 : PySem.W.nsIn K mainGlobals "beginning_of" = some (some (.ref f1)))
    (l1 : K.lookup f1 = some ⟨oc1, od1, .func (PySem.W.fnOf "beginning_of" "beginning_of" (defArgs s_beginning_of) (defBody s_beginning_of) (defScope s_beginning_of) .none kV1 dc1 pm1 an1 cd1 ct1), sl1⟩) (c1 : PySem.W.codeIn K cd1 "beginning_of" = true) (k1 : PySem.W.keepIn K (.ref f1) = true)
    (a2 : PySem.W.nsIn K mainGlobals "first_signs" = some (some (.ref f2)))
    (l2 : K.lookup f2 = some ⟨oc2, od2, .func (PySem.W.fnOf "first_signs" "first_signs" (defArgs s_first_signs) (defBody s_first_signs) (defScope s_first_signs) .none kV2 dc2 pm2 an2 cd2 ct2), sl2⟩) (c2 : PySem.W.codeIn K cd2 "first_signs" = true) (k2 : PySem.W.keepIn K (.ref f2) = true)
    (a3 : PySem.W.nsIn K mainGlobals "by_runs" = some (some (.ref f3)))
    (l3 : K.lookup f3 = some ⟨oc3, od3, .func (PySem.W.fnOf "by_runs" "by_runs" (defArgs s_by_runs) (defBody s_by_runs) (defScope s_by_runs) .none kV3 dc3 pm3 an3 cd3 ct3), sl3⟩) (c3 : PySem.W.codeIn K cd3 "by_runs" = true) (k3 : PySem.W.keepIn K (.ref f3) = true)
    (a4 : PySem.W.nsIn K mainGlobals "root_of" = some (some (.ref f4)))
    (l4 : K.lookup f4 = some ⟨oc4, od4, .func (PySem.W.fnOf "root_of" "root_of" (defArgs s_root_of) (defBody s_root_of) (defScope s_root_of) .none kV4 dc4 pm4 an4 cd4 ct4), sl4⟩) (c4 : PySem.W.codeIn K cd4 "root_of" = true) (k4 : PySem.W.keepIn K (.ref f4) = true)
    (a5 : PySem.W.nsIn K mainGlobals "write_word" = some (some (.ref f5)))
    (l5 : K.lookup f5 = some ⟨oc5, od5, .func (PySem.W.fnOf "write_word" "write_word" (defArgs s_write_word) (defBody s_write_word) (defScope s_write_word) .none kV5 dc5 pm5 an5 cd5 ct5), sl5⟩) (c5 : PySem.W.codeIn K cd5 "write_word" = true) (k5 : PySem.W.keepIn K (.ref f5) = true)
    (a6 : PySem.W.nsIn K mainGlobals "size_of" = some (some (.ref f6)))
    (l6 : K.lookup f6 = some ⟨oc6, od6, .func (PySem.W.fnOf "size_of" "size_of" (defArgs s_size_of) (defBody s_size_of) (defScope s_size_of) .none kV6 dc6 pm6 an6 cd6 ct6), sl6⟩) (c6 : PySem.W.codeIn K cd6 "size_of" = true) (k6 : PySem.W.keepIn K (.ref f6) = true)
    (a7 : PySem.W.findIn K (.ref C_TreeReader) "__init__" = some (some (.ref f7))) (i7 : PySem.W.isFn K (.ref f7) = true)
    (l7 : K.lookup f7 = some ⟨oc7, od7, .func (PySem.W.fnOf "__init__" "TreeReader.__init__" (defArgs s_TreeReader_init) (defBody s_TreeReader_init) (defScope s_TreeReader_init) .none kV7 dc7 pm7 an7 cd7 ct7), sl7⟩) (c7 : PySem.W.codeIn K cd7 "TreeReader.__init__" = true) (k7 : PySem.W.keepIn K (.ref f7) = true)
    (a8 : PySem.W.findIn K (.ref C_Tree) "__init__" = some (some (.ref f8))) (i8 : PySem.W.isFn K (.ref f8) = true)
    (l8 : K.lookup f8 = some ⟨oc8, od8, .func (PySem.W.fnOf "__init__" "Tree.__init__" (defArgs s_Tree_init) (defBody s_Tree_init) (defScope s_Tree_init) .none kV8 dc8 pm8 an8 cd8 ct8), sl8⟩) (c8 : PySem.W.codeIn K cd8 "Tree.__init__" = true) (k8 : PySem.W.keepIn K (.ref f8) = true)
    (a9 : PySem.W.findIn K (.ref C_TreeReader) "is_whole" = some (some (.ref f9))) (i9 : PySem.W.isFn K (.ref f9) = true)
    (l9 : K.lookup f9 = some ⟨oc9, od9, .func (PySem.W.fnOf "is_whole" "TreeReader.is_whole" (defArgs s_TreeReader_is_whole) (defBody s_TreeReader_is_whole) (defScope s_TreeReader_is_whole) .none kV9 dc9 pm9 an9 cd9 ct9), sl9⟩) (c9 : PySem.W.codeIn K cd9 "TreeReader.is_whole" = true) (k9 : PySem.W.keepIn K (.ref f9) = true)
    (a10 : PySem.W.findIn K (.ref C_TreeReader) "take_digit" = some (some (.ref f10))) (i10 : PySem.W.isFn K (.ref f10) = true)
    (l10 : K.lookup f10 = some ⟨oc10, od10, .func (PySem.W.fnOf "take_digit" "TreeReader.take_digit" (defArgs s_TreeReader_take_digit) (defBody s_TreeReader_take_digit) (defScope s_TreeReader_take_digit) .none kV10 dc10 pm10 an10 cd10 ct10), sl10⟩) (c10 : PySem.W.codeIn K cd10 "TreeReader.take_digit" = true) (k10 : PySem.W.keepIn K (.ref f10) = true)
    (a11 : PySem.W.findIn K (.ref C_TreeReader) "take_count" = some (some (.ref f11))) (i11 : PySem.W.isFn K (.ref f11) = true)
    (l11 : K.lookup f11 = some ⟨oc11, od11, .func (PySem.W.fnOf "take_count" "TreeReader.take_count" (defArgs s_TreeReader_take_count) (defBody s_TreeReader_take_count) (defScope s_TreeReader_take_count) .none kV11 dc11 pm11 an11 cd11 ct11), sl11⟩) (c11 : PySem.W.codeIn K cd11 "TreeReader.take_count" = true) (k11 : PySem.W.keepIn K (.ref f11) = true)
    (a12 : PySem.W.findIn K (.ref C_TreeReader) "take_letter" = some (some (.ref f12))) (i12 : PySem.W.isFn K (.ref f12) = true)
    (l12 : K.lookup f12 = some ⟨oc12, od12, .func (PySem.W.fnOf "take_letter" "TreeReader.take_letter" (defArgs s_TreeReader_take_letter) (defBody s_TreeReader_take_letter) (defScope s_TreeReader_take_letter) .none kV12 dc12 pm12 an12 cd12 ct12), sl12⟩) (c12 : PySem.W.codeIn K cd12 "TreeReader.take_letter" = true) (k12 : PySem.W.keepIn K (.ref f12) = true)
    (a13 : PySem.W.findIn K (.ref C_TreeReader) "take_opening" = some (some (.ref f13))) (i13 : PySem.W.isFn K (.ref f13) = true)
    (l13 : K.lookup f13 = some ⟨oc13, od13, .func (PySem.W.fnOf "take_opening" "TreeReader.take_opening" (defArgs s_TreeReader_take_opening) (defBody s_TreeReader_take_opening) (defScope s_TreeReader_take_opening) .none kV13 dc13 pm13 an13 cd13 ct13), sl13⟩) (c13 : PySem.W.codeIn K cd13 "TreeReader.take_opening" = true) (k13 : PySem.W.keepIn K (.ref f13) = true)
    (a14 : PySem.W.findIn K (.ref C_TreeReader) "take_closing" = some (some (.ref f14))) (i14 : PySem.W.isFn K (.ref f14) = true)
    (l14 : K.lookup f14 = some ⟨oc14, od14, .func (PySem.W.fnOf "take_closing" "TreeReader.take_closing" (defArgs s_TreeReader_take_closing) (defBody s_TreeReader_take_closing) (defScope s_TreeReader_take_closing) .none kV14 dc14 pm14 an14 cd14 ct14), sl14⟩) (c14 : PySem.W.codeIn K cd14 "TreeReader.take_closing" = true) (k14 : PySem.W.keepIn K (.ref f14) = true)
    (a15 : PySem.W.findIn K (.ref C_TreeReader) "take" = some (some (.ref f15))) (i15 : PySem.W.isFn K (.ref f15) = true)
    (l15 : K.lookup f15 = some ⟨oc15, od15, .func (PySem.W.fnOf "take" "TreeReader.take" (defArgs s_TreeReader_take) (defBody s_TreeReader_take) (defScope s_TreeReader_take) .none kV15 dc15 pm15 an15 cd15 ct15), sl15⟩) (c15 : PySem.W.codeIn K cd15 "TreeReader.take" = true) (k15 : PySem.W.keepIn K (.ref f15) = true)
    (a16 : PySem.W.nsIn K mainGlobals "read_letters" = some (some (.ref f16)))
    (l16 : K.lookup f16 = some ⟨oc16, od16, .func (PySem.W.fnOf "read_letters" "read_letters" (defArgs s_read_letters) (defBody s_read_letters) (defScope s_read_letters) .none kV16 dc16 pm16 an16 cd16 ct16), sl16⟩) (c16 : PySem.W.codeIn K cd16 "read_letters" = true) (k16 : PySem.W.keepIn K (.ref f16) = true)
    (a17 : PySem.W.nsIn K mainGlobals "read_tree" = some (some (.ref f17)))
    (l17 : K.lookup f17 = some ⟨oc17, od17, .func (PySem.W.fnOf "read_tree" "read_tree" (defArgs s_read_tree) (defBody s_read_tree) (defScope s_read_tree) .none kV17 dc17 pm17 an17 cd17 ct17), sl17⟩) (c17 : PySem.W.codeIn K cd17 "read_tree" = true) (k17 : PySem.W.keepIn K (.ref f17) = true)
    (a18 : PySem.W.nsIn K mainGlobals "_law_cell" = some (some (.ref f18)))
    (l18 : K.lookup f18 = some ⟨oc18, od18, .func (PySem.W.fnOf "_law_cell" "_law_cell" (defArgs s_law_cell) (defBody s_law_cell) (defScope s_law_cell) .none kV18 dc18 pm18 an18 cd18 ct18), sl18⟩) (c18 : PySem.W.codeIn K cd18 "_law_cell" = true) (k18 : PySem.W.keepIn K (.ref f18) = true)
    (a19 : PySem.W.nsIn K mainGlobals "_law_pool" = some (some (.ref f19)))
    (l19 : K.lookup f19 = some ⟨oc19, od19, .func (PySem.W.fnOf "_law_pool" "_law_pool" (defArgs s_law_pool) (defBody s_law_pool) (defScope s_law_pool) .none kV19 dc19 pm19 an19 cd19 ct19), sl19⟩) (c19 : PySem.W.codeIn K cd19 "_law_pool" = true) (k19 : PySem.W.keepIn K (.ref f19) = true)
    (a20 : PySem.W.nsIn K mainGlobals "_law_draw" = some (some (.ref f20)))
    (l20 : K.lookup f20 = some ⟨oc20, od20, .func (PySem.W.fnOf "_law_draw" "_law_draw" (defArgs s_law_draw) (defBody s_law_draw) (defScope s_law_draw) .none kV20 dc20 pm20 an20 cd20 ct20), sl20⟩) (c20 : PySem.W.codeIn K cd20 "_law_draw" = true) (k20 : PySem.W.keepIn K (.ref f20) = true)
    (a21 : PySem.W.nsIn K mainGlobals "_law_word" = some (some (.ref f21)))
    (l21 : K.lookup f21 = some ⟨oc21, od21, .func (PySem.W.fnOf "_law_word" "_law_word" (defArgs s_law_word) (defBody s_law_word) (defScope s_law_word) .none kV21 dc21 pm21 an21 cd21 ct21), sl21⟩) (c21 : PySem.W.codeIn K cd21 "_law_word" = true) (k21 : PySem.W.keepIn K (.ref f21) = true)
    (a22 : PySem.W.nsIn K mainGlobals "_law_runs" = some (some (.ref f22)))
    (l22 : K.lookup f22 = some ⟨oc22, od22, .func (PySem.W.fnOf "_law_runs" "_law_runs" (defArgs s_law_runs) (defBody s_law_runs) (defScope s_law_runs) .none kV22 dc22 pm22 an22 cd22 ct22), sl22⟩) (c22 : PySem.W.codeIn K cd22 "_law_runs" = true) (k22 : PySem.W.keepIn K (.ref f22) = true)
    (a23 : PySem.W.nsIn K mainGlobals "_law_due" = some (some (.ref f23)))
    (l23 : K.lookup f23 = some ⟨oc23, od23, .func (PySem.W.fnOf "_law_due" "_law_due" (defArgs s_law_due) (defBody s_law_due) (defScope s_law_due) .none kV23 dc23 pm23 an23 cd23 ct23), sl23⟩) (c23 : PySem.W.codeIn K cd23 "_law_due" = true) (k23 : PySem.W.keepIn K (.ref f23) = true)
    (a24 : PySem.W.nsIn K mainGlobals "_law_right" = some (some (.ref f24)))
    (l24 : K.lookup f24 = some ⟨oc24, od24, .func (PySem.W.fnOf "_law_right" "_law_right" (defArgs s_law_right) (defBody s_law_right) (defScope s_law_right) .none kV24 dc24 pm24 an24 cd24 ct24), sl24⟩) (c24 : PySem.W.codeIn K cd24 "_law_right" = true) (k24 : PySem.W.keepIn K (.ref f24) = true)
    (a25 : PySem.W.nsIn K mainGlobals "law" = some (some (.ref f25)))
    (l25 : K.lookup f25 = some ⟨oc25, od25, .func (PySem.W.fnOf "law" "law" (defArgs s_law) (defBody s_law) (defScope s_law) .none kV25 dc25 pm25 an25 cd25 ct25), sl25⟩) (c25 : PySem.W.codeIn K cd25 "law" = true) (k25 : PySem.W.keepIn K (.ref f25) = true)
    (e_Tree : PySem.W.nsIn K mainGlobals "Tree" = some (some (.ref C_Tree)))
    (pg_Tree : PySem.W.plainGet K C_Tree Str.empty = true) (hd_Tree : PySem.W.hasDictIn K C_Tree = true) (po_Tree : PySem.W.plainOver K C_Tree = true) (sa_Tree : PySem.W.findIn K (.ref C_Tree) "__setattr__" = some (some (.builtin "object.__setattr__"))) (mk_Tree : PySem.W.makesIn K C_Tree = true) (kc_Tree : PySem.W.keepIn K (.ref C_Tree) = true)
    (no_Tree_text : PySem.W.findIn K (.ref C_Tree) "text" = some none)
    (no_Tree_nodes : PySem.W.findIn K (.ref C_Tree) "nodes" = some none)
    (no_Tree_courses : PySem.W.findIn K (.ref C_Tree) "courses" = some none)
    (no_Tree_count : PySem.W.findIn K (.ref C_Tree) "count" = some none)
    (e_TreeReader : PySem.W.nsIn K mainGlobals "TreeReader" = some (some (.ref C_TreeReader)))
    (pg_TreeReader : PySem.W.plainGet K C_TreeReader Str.empty = true) (hd_TreeReader : PySem.W.hasDictIn K C_TreeReader = true) (po_TreeReader : PySem.W.plainOver K C_TreeReader = true) (sa_TreeReader : PySem.W.findIn K (.ref C_TreeReader) "__setattr__" = some (some (.builtin "object.__setattr__"))) (mk_TreeReader : PySem.W.makesIn K C_TreeReader = true) (kc_TreeReader : PySem.W.keepIn K (.ref C_TreeReader) = true)
    (no_TreeReader_allowed : PySem.W.findIn K (.ref C_TreeReader) "allowed" = some none)
    (no_TreeReader_digits : PySem.W.findIn K (.ref C_TreeReader) "digits" = some none)
    (no_TreeReader_found : PySem.W.findIn K (.ref C_TreeReader) "found" = some none)
    (no_TreeReader_opened : PySem.W.findIn K (.ref C_TreeReader) "opened" = some none)
    (z_abs : PySem.W.nsIn K mainGlobals "abs" = some none)
    (z_bool : PySem.W.nsIn K mainGlobals "bool" = some none)
    (z_enumerate : PySem.W.nsIn K mainGlobals "enumerate" = some none)
    (z_int : PySem.W.nsIn K mainGlobals "int" = some none)
    (z_isinstance : PySem.W.nsIn K mainGlobals "isinstance" = some none)
    (z_len : PySem.W.nsIn K mainGlobals "len" = some none)
    (z_min : PySem.W.nsIn K mainGlobals "min" = some none)
    (z_range : PySem.W.nsIn K mainGlobals "range" = some none)
    (z_str : PySem.W.nsIn K mainGlobals "str" = some none)
    (z_tuple : PySem.W.nsIn K mainGlobals "tuple" = some none)
    (q_DIGITS : PySem.W.nsIn K mainGlobals "DIGITS" = some (some (.str "0123456789" t_DIGITS)))
    (q_LARGE : PySem.W.nsIn K mainGlobals "LARGE" = some (some (.str "ABCDEFGHIJKLMNOPQRSTUVWXYZ" t_LARGE)))
    (q_MOST_DEPTH : PySem.W.nsIn K mainGlobals "MOST_DEPTH" = some (some (.int (6) t_MOST_DEPTH)))
    (q_MOST_DIGITS : PySem.W.nsIn K mainGlobals "MOST_DIGITS" = some (some (.int (4) t_MOST_DIGITS)))
    (q_MOST_SIGNS : PySem.W.nsIn K mainGlobals "MOST_SIGNS" = some (some (.int (5000) t_MOST_SIGNS)))
    (q_SMALL : PySem.W.nsIn K mainGlobals "SMALL" = some (some (.str "abcdefghijklmnopqrstuvwxyz" t_SMALL)))
    (e_ChamberError : PySem.W.nsIn K mainGlobals "ChamberError" = some (some (.ref C_ChamberError)))
    (e_TooLong : PySem.W.nsIn K mainGlobals "TooLong" = some (some (.ref C_TooLong)))
    (e_BadComposition : PySem.W.nsIn K mainGlobals "BadComposition" = some (some (.ref C_BadComposition)))
    (xs : exsB K C_ChamberError [("ChamberError", C_ChamberError), ("TooLong", C_TooLong), ("BadComposition", C_BadComposition)] = true)
    (zsu : PySem.W.nsIn K mainGlobals "super" = some none) (tp : (l.prog.main.scope.names.lookup ("super" : Str)).isSome = false)
    (i1_ChamberError : PySem.W.findIn K (.ref C_ChamberError) "__init__" = some (some (.ref fI_ChamberError))) (i2_ChamberError : PySem.W.typeIn K (.ref fI_ChamberError) = some (.type "function"))
    (i3_ChamberError : K.lookup fI_ChamberError = some ⟨oc_ChamberError, od_ChamberError, .func (PySem.W.ksFn "__init__" "ChamberError.__init__" (defArgs i_ChamberError) (defBody i_ChamberError) (defScope i_ChamberError) .none kV_ChamberError dc_ChamberError pm_ChamberError an_ChamberError cd_ChamberError ct_ChamberError cc_ChamberError), sl_ChamberError⟩)
    (i4_ChamberError : PySem.W.codeIn K cd_ChamberError "ChamberError.__init__" = true) (i5_ChamberError : K.lookup cc_ChamberError = some ⟨cl_ChamberError, cld_ChamberError, .cell (some (.ref C_ChamberError)), csl_ChamberError⟩) (i6_ChamberError : fileB K cd_ChamberError l.prog.main.file = true)
    (i1_TooLong : PySem.W.findIn K (.ref C_TooLong) "__init__" = some (some (.ref fI_TooLong))) (i2_TooLong : PySem.W.typeIn K (.ref fI_TooLong) = some (.type "function"))
    (i3_TooLong : K.lookup fI_TooLong = some ⟨oc_TooLong, od_TooLong, .func (PySem.W.ksFn "__init__" "TooLong.__init__" (defArgs i_TooLong) (defBody i_TooLong) (defScope i_TooLong) .none kV_TooLong dc_TooLong pm_TooLong an_TooLong cd_TooLong ct_TooLong cc_TooLong), sl_TooLong⟩)
    (i4_TooLong : PySem.W.codeIn K cd_TooLong "TooLong.__init__" = true) (i5_TooLong : K.lookup cc_TooLong = some ⟨cl_TooLong, cld_TooLong, .cell (some (.ref C_TooLong)), csl_TooLong⟩) (i6_TooLong : fileB K cd_TooLong l.prog.main.file = true)
    (i7_TooLong : PySem.W.ks_superIn K C_TooLong C_TooLong "__init__" = some (some (.ref fI_ChamberError))) (i8_TooLong : PySem.W.mroIn K C_TooLong (.ref C_TooLong) = some true)
    (i1_BadComposition : PySem.W.findIn K (.ref C_BadComposition) "__init__" = some (some (.ref fI_BadComposition))) (i2_BadComposition : PySem.W.typeIn K (.ref fI_BadComposition) = some (.type "function"))
    (i3_BadComposition : K.lookup fI_BadComposition = some ⟨oc_BadComposition, od_BadComposition, .func (PySem.W.ksFn "__init__" "BadComposition.__init__" (defArgs i_BadComposition) (defBody i_BadComposition) (defScope i_BadComposition) .none kV_BadComposition dc_BadComposition pm_BadComposition an_BadComposition cd_BadComposition ct_BadComposition cc_BadComposition), sl_BadComposition⟩)
    (i4_BadComposition : PySem.W.codeIn K cd_BadComposition "BadComposition.__init__" = true) (i5_BadComposition : K.lookup cc_BadComposition = some ⟨cl_BadComposition, cld_BadComposition, .cell (some (.ref C_BadComposition)), csl_BadComposition⟩) (i6_BadComposition : fileB K cd_BadComposition l.prog.main.file = true)
    (i7_BadComposition : PySem.W.ks_superIn K C_BadComposition C_BadComposition "__init__" = some (some (.ref fI_ChamberError))) (i8_BadComposition : PySem.W.mroIn K C_BadComposition (.ref C_BadComposition) = some true)
    (i9_BadComposition : PySem.W.findIn K (.ref C_BadComposition) "column" = some none)
    (kf : PySem.W.fnIn K fI_ChamberError = true)
    : ∃ fd : FuncData, (∀ (s : Shared) (v : Value), BindsTo s fd ⟨[v], []⟩ [("script", v)]) ∧ ∀ base : Heap, K.In base → base.Ns mainGlobals mg → FnOk l.prog w K mg base CX0 15 fa fd ["script"] (sp_law K) := by
  have e := hfa.symm.trans (PySem.W.mg_of X G a25)
  cases e
  have B : Bn mg := ⟨PySem.W.mg_none_of X G z_abs, PySem.W.mg_none_of X G z_bool, PySem.W.mg_none_of X G z_enumerate, PySem.W.mg_none_of X G z_int, PySem.W.mg_none_of X G z_isinstance, PySem.W.mg_none_of X G z_len, PySem.W.mg_none_of X G z_min, PySem.W.mg_none_of X G z_range, PySem.W.mg_none_of X G z_str, PySem.W.mg_none_of X G z_tuple, ⟨_, PySem.W.mg_of X G q_DIGITS⟩, ⟨_, PySem.W.mg_of X G q_LARGE⟩, ⟨_, PySem.W.mg_of X G q_MOST_DEPTH⟩, ⟨_, PySem.W.mg_of X G q_MOST_DIGITS⟩, ⟨_, PySem.W.mg_of X G q_MOST_SIGNS⟩, ⟨_, PySem.W.mg_of X G q_SMALL⟩⟩
  have M_Tree : mg "Tree" = some (.ref (ecOf mg "Tree")) := by
    have z : mg "Tree" = some (.ref C_Tree) := PySem.W.mg_of X G e_Tree
    rw [ecOf_at z]; exact z
  have EE_Tree : ecOf mg "Tree" = C_Tree := ecOf_at (PySem.W.mg_of X G e_Tree)
  have CA_Tree : ClsA K (ecOf mg "Tree") at_Tree := by
    rw [EE_Tree]
    refine ⟨⟨pg_Tree, hd_Tree, po_Tree, sa_Tree⟩, ?_⟩
    simp only [at_Tree, List.forall_mem_cons]
    exact ⟨no_Tree_text, no_Tree_nodes, no_Tree_courses, no_Tree_count, fun _ h => nomatch h⟩
  have M_TreeReader : mg "TreeReader" = some (.ref (ecOf mg "TreeReader")) := by
    have z : mg "TreeReader" = some (.ref C_TreeReader) := PySem.W.mg_of X G e_TreeReader
    rw [ecOf_at z]; exact z
  have EE_TreeReader : ecOf mg "TreeReader" = C_TreeReader := ecOf_at (PySem.W.mg_of X G e_TreeReader)
  have CA_TreeReader : ClsA K (ecOf mg "TreeReader") at_TreeReader := by
    rw [EE_TreeReader]
    refine ⟨⟨pg_TreeReader, hd_TreeReader, po_TreeReader, sa_TreeReader⟩, ?_⟩
    simp only [at_TreeReader, List.forall_mem_cons]
    exact ⟨no_TreeReader_allowed, no_TreeReader_digits, no_TreeReader_found, no_TreeReader_opened, fun _ h => nomatch h⟩
  have D1 : At K mg "beginning_of" s_beginning_of := ⟨_, _, fun_mk (st := s_beginning_of) l1 c1 k1, PySem.W.mg_of X G a1⟩
  have D2 : At K mg "first_signs" s_first_signs := ⟨_, _, fun_mk (st := s_first_signs) l2 c2 k2, PySem.W.mg_of X G a2⟩
  have D3 : At K mg "by_runs" s_by_runs := ⟨_, _, fun_mk (st := s_by_runs) l3 c3 k3, PySem.W.mg_of X G a3⟩
  have D4 : At K mg "root_of" s_root_of := ⟨_, _, fun_mk (st := s_root_of) l4 c4 k4, PySem.W.mg_of X G a4⟩
  have D5 : At K mg "write_word" s_write_word := ⟨_, _, fun_mk (st := s_write_word) l5 c5 k5, PySem.W.mg_of X G a5⟩
  have D6 : At K mg "size_of" s_size_of := ⟨_, _, fun_mk (st := s_size_of) l6 c6 k6, PySem.W.mg_of X G a6⟩
  have D7 : KAt K mg (ecOf mg "TreeReader") "TreeReader" "TreeReader.__init__" s_TreeReader_init := by
    rw [EE_TreeReader]
    refine ⟨_, _, fun_mk (st := s_TreeReader_init) l7 c7 k7, ⟨mk_TreeReader, a7, i7, kc_TreeReader⟩, ?_⟩
    rw [← EE_TreeReader]; exact M_TreeReader
  have D8 : KAt K mg (ecOf mg "Tree") "Tree" "Tree.__init__" s_Tree_init := by
    rw [EE_Tree]
    refine ⟨_, _, fun_mk (st := s_Tree_init) l8 c8 k8, ⟨mk_Tree, a8, i8, kc_Tree⟩, ?_⟩
    rw [← EE_Tree]; exact M_Tree
  have D9 : MAt K (ecOf mg "TreeReader") "is_whole" "TreeReader.is_whole" s_TreeReader_is_whole := by
    rw [EE_TreeReader]
    exact ⟨_, _, fun_mk (st := s_TreeReader_is_whole) l9 c9 k9, ⟨a9, i9, k9⟩⟩
  have D10 : MAt K (ecOf mg "TreeReader") "take_digit" "TreeReader.take_digit" s_TreeReader_take_digit := by
    rw [EE_TreeReader]
    exact ⟨_, _, fun_mk (st := s_TreeReader_take_digit) l10 c10 k10, ⟨a10, i10, k10⟩⟩
  have D11 : MAt K (ecOf mg "TreeReader") "take_count" "TreeReader.take_count" s_TreeReader_take_count := by
    rw [EE_TreeReader]
    exact ⟨_, _, fun_mk (st := s_TreeReader_take_count) l11 c11 k11, ⟨a11, i11, k11⟩⟩
  have D12 : MAt K (ecOf mg "TreeReader") "take_letter" "TreeReader.take_letter" s_TreeReader_take_letter := by
    rw [EE_TreeReader]
    exact ⟨_, _, fun_mk (st := s_TreeReader_take_letter) l12 c12 k12, ⟨a12, i12, k12⟩⟩
  have D13 : MAt K (ecOf mg "TreeReader") "take_opening" "TreeReader.take_opening" s_TreeReader_take_opening := by
    rw [EE_TreeReader]
    exact ⟨_, _, fun_mk (st := s_TreeReader_take_opening) l13 c13 k13, ⟨a13, i13, k13⟩⟩
  have D14 : MAt K (ecOf mg "TreeReader") "take_closing" "TreeReader.take_closing" s_TreeReader_take_closing := by
    rw [EE_TreeReader]
    exact ⟨_, _, fun_mk (st := s_TreeReader_take_closing) l14 c14 k14, ⟨a14, i14, k14⟩⟩
  have D15 : MAt K (ecOf mg "TreeReader") "take" "TreeReader.take" s_TreeReader_take := by
    rw [EE_TreeReader]
    exact ⟨_, _, fun_mk (st := s_TreeReader_take) l15 c15 k15, ⟨a15, i15, k15⟩⟩
  have D16 : At K mg "read_letters" s_read_letters := ⟨_, _, fun_mk (st := s_read_letters) l16 c16 k16, PySem.W.mg_of X G a16⟩
  have D17 : At K mg "read_tree" s_read_tree := ⟨_, _, fun_mk (st := s_read_tree) l17 c17 k17, PySem.W.mg_of X G a17⟩
  have D18 : At K mg "_law_cell" s_law_cell := ⟨_, _, fun_mk (st := s_law_cell) l18 c18 k18, PySem.W.mg_of X G a18⟩
  have D19 : At K mg "_law_pool" s_law_pool := ⟨_, _, fun_mk (st := s_law_pool) l19 c19 k19, PySem.W.mg_of X G a19⟩
  have D20 : At K mg "_law_draw" s_law_draw := ⟨_, _, fun_mk (st := s_law_draw) l20 c20 k20, PySem.W.mg_of X G a20⟩
  have D21 : At K mg "_law_word" s_law_word := ⟨_, _, fun_mk (st := s_law_word) l21 c21 k21, PySem.W.mg_of X G a21⟩
  have D22 : At K mg "_law_runs" s_law_runs := ⟨_, _, fun_mk (st := s_law_runs) l22 c22 k22, PySem.W.mg_of X G a22⟩
  have D23 : At K mg "_law_due" s_law_due := ⟨_, _, fun_mk (st := s_law_due) l23 c23 k23, PySem.W.mg_of X G a23⟩
  have D24 : At K mg "_law_right" s_law_right := ⟨_, _, fun_mk (st := s_law_right) l24 c24 k24, PySem.W.mg_of X G a24⟩
  have D25 : At K mg "law" s_law := ⟨_, _, fun_mk (st := s_law) l25 c25 k25, PySem.W.mg_of X G a25⟩
  have FL := fun_mk (st := s_law) l25 c25 k25
  have M_ChamberError : mg "ChamberError" = some (.ref C_ChamberError) := PySem.W.mg_of X G e_ChamberError
  have M_TooLong : mg "TooLong" = some (.ref C_TooLong) := PySem.W.mg_of X G e_TooLong
  have M_BadComposition : mg "BadComposition" = some (.ref C_BadComposition) := PySem.W.mg_of X G e_BadComposition
  have XS : Exs K (ecOf mg) XN := exs_of (l := [("ChamberError", C_ChamberError), ("TooLong", C_TooLong), ("BadComposition", C_BadComposition)]) M_ChamberError (by simp only [List.forall_mem_cons]; exact ⟨M_ChamberError, M_TooLong, M_BadComposition, fun _ h => nomatch h⟩) xs
  have EX : ExAt mg (ecOf mg) XN := by
    unfold ExAt
    simp only [XN, List.forall_mem_cons]
    exact ⟨by rw [ecOf_at M_ChamberError]; exact M_ChamberError, by rw [ecOf_at M_TooLong]; exact M_TooLong, by rw [ecOf_at M_BadComposition]; exact M_BadComposition, fun _ h => nomatch h⟩
  have BC_ChamberError : Bad K C_ChamberError C_ChamberError := by have z := XS.bad "ChamberError" (by decide); simp only [ecOf_at M_ChamberError, ecOf_at M_ChamberError] at z; exact z
  have BC_TooLong : Bad K C_TooLong C_ChamberError := by have z := XS.bad "TooLong" (by decide); simp only [ecOf_at M_TooLong, ecOf_at M_ChamberError] at z; exact z
  have BC_BadComposition : Bad K C_BadComposition C_ChamberError := by have z := XS.bad "BadComposition" (by decide); simp only [ecOf_at M_BadComposition, ecOf_at M_ChamberError] at z; exact z
  refine ⟨PySem.W.fnOf "law" "law" (defArgs s_law) (defBody s_law) (defScope s_law) .none kV25 dc25 pm25 an25 cd25 ct25, fun s v => .of_eq rfl, fun base _ _ => ?_⟩
  have FC := ok_CE (w := w) (base := base) (D := C_ChamberError) (S := (⟨⟨_, _, _, _, _, _, _, _, _, _, _, _, _, _, rfl, i3_ChamberError, i4_ChamberError, i5_ChamberError, i6_ChamberError⟩, ⟨rfl, rfl, rfl, by decide +kernel, rfl, by decide +kernel, by decide +kernel, by decide +kernel⟩, rfl, rfl, rfl, ⟨_, rfl, rfl⟩, PySem.W.mg_none_of X G zsu, tp, BC_ChamberError.cls⟩ : SupI l.prog K mg "ChamberError.__init__" i_ChamberError C_ChamberError ["self", "word"] fI_ChamberError _)) rfl ⟨_, fun _ => rfl⟩ rfl
  have BCE : Binds K _ ["self", "word"] [] := Binds.all (fd := PySem.W.ksFn "__init__" "ChamberError.__init__" (defArgs i_ChamberError) (defBody i_ChamberError) (defScope i_ChamberError) .none kV_ChamberError dc_ChamberError pm_ChamberError an_ChamberError cd_ChamberError ct_ChamberError cc_ChamberError) fun us hl => match us, hl with | [_, _], _ => rfl
  have Z_BadComposition : Rz1 l.prog w K mg base "BadComposition" "column" (ecOf mg "BadComposition") := by
    rw [ecOf_at M_BadComposition]
    exact ⟨⟨_, _, i1_BadComposition, i2_BadComposition, ok_B1 (w := w) (base := base) (nm := "BadComposition") (at1 := "column") (S := (⟨⟨_, _, _, _, _, _, _, _, _, _, _, _, _, _, rfl, i3_BadComposition, i4_BadComposition, i5_BadComposition, i6_BadComposition⟩, ⟨rfl, rfl, rfl, by decide +kernel, rfl, by decide +kernel, by decide +kernel, by decide +kernel⟩, rfl, rfl, rfl, ⟨_, rfl, rfl⟩, PySem.W.mg_none_of X G zsu, tp, BC_BadComposition.cls⟩ : SupI l.prog K mg "BadComposition.__init__" i_BadComposition C_BadComposition ["self", "column"] fI_BadComposition _)) rfl ⟨_, fun _ => rfl⟩ rfl (by decide) (by decide) i9_BadComposition FC BCE BC_BadComposition i8_BadComposition i7_BadComposition i2_ChamberError kf, Binds.all fun us hl => match us, hl with | [_, _], _ => rfl⟩, BC_BadComposition.ox, M_BadComposition⟩
  have Z_TooLong : Rz0 l.prog w K mg base "TooLong" (ecOf mg "TooLong") := by
    rw [ecOf_at M_TooLong]
    exact ⟨⟨_, _, i1_TooLong, i2_TooLong, ok_B0 (w := w) (base := base) (nm := "TooLong") (S := (⟨⟨_, _, _, _, _, _, _, _, _, _, _, _, _, _, rfl, i3_TooLong, i4_TooLong, i5_TooLong, i6_TooLong⟩, ⟨rfl, rfl, rfl, by decide +kernel, rfl, by decide +kernel, by decide +kernel, by decide +kernel⟩, rfl, rfl, rfl, ⟨_, rfl, rfl⟩, PySem.W.mg_none_of X G zsu, tp, BC_TooLong.cls⟩ : SupI l.prog K mg "TooLong.__init__" i_TooLong C_TooLong ["self"] fI_TooLong _)) rfl ⟨_, fun _ => rfl⟩ FC BCE BC_TooLong i8_TooLong i7_TooLong i2_ChamberError kf, Binds.all fun us hl => match us, hl with | [_], _ => rfl⟩, BC_TooLong.ox, M_TooLong⟩
  have G1 : Fn l.prog w K mg base CX0 9 "beginning_of" ["what", "many"] (sp_beginning_of K 8) := okr_beginning_of (P := l.prog) (w := w) (base := base) D1 B 8
  have G2 := ok_first_signs (P := l.prog) (w := w) (base := base) (ec := ecOf mg) D2 B XS EX CA_Tree G1 Z_TooLong
  have G3 := ok_by_runs (P := l.prog) (w := w) (base := base) D3 B
  have G4 := ok_root_of (P := l.prog) (w := w) (base := base) D4 B
  have G5 := ok_write_word (P := l.prog) (w := w) (base := base) D5 B G4 G3
  have G6 : Fn l.prog w K mg base CX0 9 "size_of" ["what"] (sp_size_of K 8) := okr_size_of (P := l.prog) (w := w) (base := base) D6 B 8
  have G7 := ok_TreeReader_init (P := l.prog) (w := w) (base := base) (ec := ecOf mg) D7 B CA_TreeReader
  have G8 := ok_Tree_init (P := l.prog) (w := w) (base := base) (ec := ecOf mg) D8 B CA_Tree G6
  have G9 := ok_TreeReader_is_whole (P := l.prog) (w := w) (base := base) (ec := ecOf mg) D9 B CA_TreeReader
  have G10 := ok_TreeReader_take_digit (P := l.prog) (w := w) (base := base) (ec := ecOf mg) D10 B CA_TreeReader
  have G11 := ok_TreeReader_take_count (P := l.prog) (w := w) (base := base) (ec := ecOf mg) D11 B CA_TreeReader
  have G12 := ok_TreeReader_take_letter (P := l.prog) (w := w) (base := base) (ec := ecOf mg) D12 B CA_TreeReader G11
  have G13 := ok_TreeReader_take_opening (P := l.prog) (w := w) (base := base) (ec := ecOf mg) D13 B CA_TreeReader G11
  have G14 := ok_TreeReader_take_closing (P := l.prog) (w := w) (base := base) (ec := ecOf mg) D14 B CA_TreeReader
  have G15 := ok_TreeReader_take (P := l.prog) (w := w) (base := base) (ec := ecOf mg) D15 B CA_TreeReader G10 G12 G13 G14
  have G16 := ok_read_letters (P := l.prog) (w := w) (base := base) (ec := ecOf mg) D16 B XS EX CA_TreeReader G7 G15 G9 G8 Z_BadComposition
  have G17 := ok_read_tree (P := l.prog) (w := w) (base := base) (ec := ecOf mg) D17 B XS EX G16
  have G18 := ok_law_cell (P := l.prog) (w := w) (base := base) D18 B
  have G19 := ok_law_pool (P := l.prog) (w := w) (base := base) D19 B G18
  have G20 := ok_law_draw (P := l.prog) (w := w) (base := base) D20 B
  have G21 := ok_law_word (P := l.prog) (w := w) (base := base) D21 B G20
  have G22 := ok_law_runs (P := l.prog) (w := w) (base := base) D22 B
  have G23 := ok_law_due (P := l.prog) (w := w) (base := base) D23 B G22
  have G24 := ok_law_right (P := l.prog) (w := w) (base := base) (ec := ecOf mg) D24 B XS EX CA_Tree G5 G23 G17 G2
  exact ok_lawF (ec := ecOf mg) FL B G19 G20 G21 G24
end K30
end Kb
open PySem PySem.W PyProof.Rows
set_option maxRecDepth 100000 in
set_option maxHeartbeats 0 in
theorem PySem.Challenge.cw_ringingchamber_k30_normal_words_holds : PySem.Challenge.rw_ringingchamber_k30_normal_words.Holds := by
  w_on; o_law; k_head; (case hw => w_witness2)
  k_fill
  refine L2.walk_of (l := PySem.Challenge.rw_ringingchamber_k30_normal_words) (n := 63) (k := 15) (x := "script") (CX := fun _ => L2.CX0) (sp := fun w => Kb.K30.sp_law _) rfl (by decide) rfl ⟨rfl, by decide, by decide⟩ (fun w h Y => PySem.W.kIn_of Y) ?F (fun _ _ a ns hl _ hS => ⟨a, ns, rfl, hS, hl, fun _ => rfl⟩) (fun _ _ _ _ _ h => h)
  case F =>
    intro w mg fa h KX G hmg
    refine' Kb.K30.all_mk KX G hmg ?a1 ?l1 ?c1 ?k1 ?a2 ?l2 ?c2 ?k2 ?a3 ?l3 ?c3 ?k3 ?a4 ?l4 ?c4 ?k4 ?a5 ?l5 ?c5 ?k5 ?a6 ?l6 ?c6 ?k6 ?a7 ?l7 ?c7 ?k7 ?i7 ?a8 ?l8 ?c8 ?k8 ?i8 ?a9 ?l9 ?c9 ?k9 ?i9 ?a10 ?l10 ?c10 ?k10 ?i10 ?a11 ?l11 ?c11 ?k11 ?i11 ?a12 ?l12 ?c12 ?k12 ?i12 ?a13 ?l13 ?c13 ?k13 ?i13 ?a14 ?l14 ?c14 ?k14 ?i14 ?a15 ?l15 ?c15 ?k15 ?i15 ?a16 ?l16 ?c16 ?k16 ?a17 ?l17 ?c17 ?k17 ?a18 ?l18 ?c18 ?k18 ?a19 ?l19 ?c19 ?k19 ?a20 ?l20 ?c20 ?k20 ?a21 ?l21 ?c21 ?k21 ?a22 ?l22 ?c22 ?k22 ?a23 ?l23 ?c23 ?k23 ?a24 ?l24 ?c24 ?k24 ?a25 ?l25 ?c25 ?k25 ?e_Tree ?pg_Tree ?hd_Tree ?po_Tree ?sa_Tree ?mk_Tree ?kc_Tree ?no_Tree_text ?no_Tree_nodes ?no_Tree_courses ?no_Tree_count ?e_TreeReader ?pg_TreeReader ?hd_TreeReader ?po_TreeReader ?sa_TreeReader ?mk_TreeReader ?kc_TreeReader ?no_TreeReader_allowed ?no_TreeReader_digits ?no_TreeReader_found ?no_TreeReader_opened ?z_abs ?z_bool ?z_enumerate ?z_int ?z_isinstance ?z_len ?z_min ?z_range ?z_str ?z_tuple ?q_DIGITS ?q_LARGE ?q_MOST_DEPTH ?q_MOST_DIGITS ?q_MOST_SIGNS ?q_SMALL ?e_ChamberError ?e_TooLong ?e_BadComposition ?xs ?zsu ?tp ?i1_ChamberError ?i2_ChamberError ?i3_ChamberError ?i4_ChamberError ?i5_ChamberError ?i6_ChamberError ?i1_TooLong ?i2_TooLong ?i3_TooLong ?i4_TooLong ?i5_TooLong ?i6_TooLong ?i7_TooLong ?i8_TooLong ?i1_BadComposition ?i2_BadComposition ?i3_BadComposition ?i4_BadComposition ?i5_BadComposition ?i6_BadComposition ?i7_BadComposition ?i8_BadComposition ?i9_BadComposition ?kf
    (case e_Tree => k_is); (case e_TreeReader => k_is); (case a1 => k_is); (case l1 => k_is); (case c1 => k_is); (case k1 => k_is); (case a2 => k_is); (case l2 => k_is); (case c2 => k_is); (case k2 => k_is); (case a3 => k_is); (case l3 => k_is); (case c3 => k_is); (case k3 => k_is); (case a4 => k_is); (case l4 => k_is); (case c4 => k_is); (case k4 => k_is); (case a5 => k_is); (case l5 => k_is); (case c5 => k_is); (case k5 => k_is); (case a6 => k_is); (case l6 => k_is); (case c6 => k_is); (case k6 => k_is); (case a7 => k_is); (case l7 => k_is); (case c7 => k_is); (case k7 => k_is); (case i7 => k_is); (case a8 => k_is); (case l8 => k_is); (case c8 => k_is); (case k8 => k_is); (case i8 => k_is); (case a9 => k_is); (case l9 => k_is); (case c9 => k_is); (case k9 => k_is); (case i9 => k_is); (case a10 => k_is); (case l10 => k_is); (case c10 => k_is); (case k10 => k_is); (case i10 => k_is); (case a11 => k_is); (case l11 => k_is); (case c11 => k_is); (case k11 => k_is); (case i11 => k_is); (case a12 => k_is); (case l12 => k_is); (case c12 => k_is); (case k12 => k_is); (case i12 => k_is); (case a13 => k_is); (case l13 => k_is); (case c13 => k_is); (case k13 => k_is); (case i13 => k_is); (case a14 => k_is); (case l14 => k_is); (case c14 => k_is); (case k14 => k_is); (case i14 => k_is); (case a15 => k_is); (case l15 => k_is); (case c15 => k_is); (case k15 => k_is); (case i15 => k_is); (case a16 => k_is); (case l16 => k_is); (case c16 => k_is); (case k16 => k_is); (case a17 => k_is); (case l17 => k_is); (case c17 => k_is); (case k17 => k_is); (case a18 => k_is); (case l18 => k_is); (case c18 => k_is); (case k18 => k_is); (case a19 => k_is); (case l19 => k_is); (case c19 => k_is); (case k19 => k_is); (case a20 => k_is); (case l20 => k_is); (case c20 => k_is); (case k20 => k_is); (case a21 => k_is); (case l21 => k_is); (case c21 => k_is); (case k21 => k_is); (case a22 => k_is); (case l22 => k_is); (case c22 => k_is); (case k22 => k_is); (case a23 => k_is); (case l23 => k_is); (case c23 => k_is); (case k23 => k_is); (case a24 => k_is); (case l24 => k_is); (case c24 => k_is); (case k24 => k_is); (case a25 => k_is); (case l25 => k_is); (case c25 => k_is); (case k25 => k_is); (case pg_Tree => k_is); (case hd_Tree => k_is); (case po_Tree => k_is); (case sa_Tree => k_is); (case mk_Tree => k_is); (case kc_Tree => k_is); (case no_Tree_text => k_is); (case no_Tree_nodes => k_is); (case no_Tree_courses => k_is); (case no_Tree_count => k_is); (case pg_TreeReader => k_is); (case hd_TreeReader => k_is); (case po_TreeReader => k_is); (case sa_TreeReader => k_is); (case mk_TreeReader => k_is); (case kc_TreeReader => k_is); (case no_TreeReader_allowed => k_is); (case no_TreeReader_digits => k_is); (case no_TreeReader_found => k_is); (case no_TreeReader_opened => k_is); (case z_abs => k_is); (case z_bool => k_is); (case z_enumerate => k_is); (case z_int => k_is); (case z_isinstance => k_is); (case z_len => k_is); (case z_min => k_is); (case z_range => k_is); (case z_str => k_is); (case z_tuple => k_is); (case q_DIGITS => k_is); (case q_LARGE => k_is); (case q_MOST_DEPTH => k_is); (case q_MOST_DIGITS => k_is); (case q_MOST_SIGNS => k_is); (case q_SMALL => k_is); (case e_ChamberError => k_is); (case e_TooLong => k_is); (case e_BadComposition => k_is); (case xs => kernel_rfl); (case zsu => k_is); (case tp => decide +kernel); (case i1_ChamberError => k_is); (case i2_ChamberError => k_is); (case i3_ChamberError => k_is); (case i4_ChamberError => k_is); (case i5_ChamberError => k_is); (case i6_ChamberError => kernel_rfl); (case i1_TooLong => k_is); (case i2_TooLong => k_is); (case i3_TooLong => k_is); (case i4_TooLong => k_is); (case i5_TooLong => k_is); (case i6_TooLong => kernel_rfl); (case i7_TooLong => kernel_rfl); (case i8_TooLong => k_is); (case i1_BadComposition => k_is); (case i2_BadComposition => k_is); (case i3_BadComposition => k_is); (case i4_BadComposition => k_is); (case i5_BadComposition => k_is); (case i6_BadComposition => kernel_rfl); (case i7_BadComposition => kernel_rfl); (case i8_BadComposition => k_is); (case i9_BadComposition => k_is); (case kf => k_is)
