import PyProof.Rows.All
import Wide.All
import OpenK.AllK
import Wide.FinOn
import HandS.ForMost
import HandS.Conv
import HandS.IsInst
import HandS.Wide
import HandS.TupAny
import HandS.TupLe
import HandS.TupMul
import KE.KExcSuper
import KE.KExcIs
import HandS.Exc
import HandS.ExcInit
import HandS.ExcField
import HandS.ExcIs
import HandS.WordsExc
import KE.GoesEnumKw
import HandS.Iter
import HandS.Strs
import HandS.SetFor
import HandS.List
import KE.LtData
import HandS.Style
import HandS.Codes
import HandS.More
import KE.SortData
import PyProof.Rows.StrFirst
import PyProof.SliceStr2
import PyProof.StrLawsFirst
import PyProof.ListStr
import PyProof.TupleOfStr
import PyProof.MinMaxWalk
import PyProof.WalkInts
import PyProof.Rows.CallKwBuiltin
import HandS.Dict
import HandS.Walk
import HandS.SortInts
import HandS.Zip
import HandS.ReplaceLit
import HandS.ReplaceList
import PyProof.Rows.StrFit
import PySem.Challenge.RW_ringingchamber_k45_complete_lists
set_option Elab.async false
set_option linter.all false
set_option maxRecDepth 100000
namespace Kb
open PySem PySem.Spec PyProof.Rows L2
section
variable {X : Cx}
def rAddU (K : PySem.W.Frag) : R2 := fun x y H Q => rI0 (fun i j => .int (i + j)) x y H Q ∨
  ((fun x y H Q => ∃ i j, x = V.str i ∧ y = V.str j ∧ i.length + j.length ≤ sizeLine ∧ Q (V.str (i ++ j)) H) x y H Q ∨ (rCat x y H Q ∨ rCatA K x y H Q))
theorem op_addU : OpR X (binaryOp .Add) (rAddU X.K) := OpR.or op_add (OpR.or op_add_str (OpR.or op_cat op_catA))
def rMulU (K : PySem.W.Frag) : R2 := fun x y H Q => rI CMul (fun i j => .int (i * j)) x y H Q ∨ (rI CMulW (fun i j => .int (i * j)) x y H Q ∨ (rRep x y H Q ∨ rRepT K x y H Q))
theorem op_mulU : OpR X (binaryOp .Mult) (rMulU X.K) := OpR.or op_mul (OpR.or op_mulW (OpR.or op_rep op_repT))
def rFdivU : R2 := rI CDivW (fun i j => .int (i / j))
theorem op_fdivU : OpR X (binaryOp .FloorDiv) rFdivU := op_fdivW
def rModU : R2 := rI (fun _ j => 0 < j) (fun i j => .int (i % j))
theorem op_modU : OpR X (binaryOp .Mod) rModU := op_mod
def rSubU : R2 := rI0 (fun i j => .int (i - j))
theorem op_subU : OpR X (binaryOp .Sub) rSubU := op_sub
def rPowU : R2 := rI CPow (fun i j => .int (i ^ j.toNat))
theorem op_powU : OpR X (binaryOp .Pow) rPowU := op_pow
def rEqU (K : PySem.W.Frag) : R2 := fun x y H Q => rEq x y H Q ∨ rEqD K x y H Q
theorem op_eqU (hu : X.A.units + 64 < cLine) : OpR X (compareOp .Eq) (rEqU X.K) := OpR.or op_eq (op_eqD hu)
def rNeU (K : PySem.W.Frag) : R2 := fun x y H Q => rNe x y H Q ∨ rNeD K x y H Q
theorem op_neU (hu : X.A.units + 64 < cLine) : OpR X (compareOp .NotEq) (rNeU X.K) := OpR.or op_ne (op_neD hu)
def rLtU (K : PySem.W.Frag) : R2 := fun x y H Q => rI0 (fun i j => .bl (decide (i < j))) x y H Q ∨
  ((fun x y H Q => ∃ i j, x = V.str i ∧ y = V.str j ∧ Q (V.bl (decide (i.cps.toList < j.cps.toList))) H) x y H Q ∨ rLtT K x y H Q)
theorem op_ltU (hu : X.A.units + 64 < cLine) : OpR X (compareOp .Lt) (rLtU X.K) := OpR.or op_lt (OpR.or op_lt_str (op_ltT (by omega)))
def rLeU (K : PySem.W.Frag) : R2 := fun x y H Q => rI0 (fun i j => .bl (decide (i ≤ j))) x y H Q ∨
  ((fun x y H Q => ∃ i j, x = V.str i ∧ y = V.str j ∧ Q (V.bl (!decide (j.cps.toList < i.cps.toList))) H) x y H Q ∨ rLeT K x y H Q)
theorem op_leU (hu : X.A.units + 64 < cLine) : OpR X (compareOp .LtE) (rLeU X.K) := OpR.or op_le (OpR.or op_le_str (op_leT (by omega)))
def rGtU : R2 := fun x y H Q => rI0 (fun i j => .bl (decide (j < i))) x y H Q ∨
  (fun x y H Q => ∃ i j, x = V.str i ∧ y = V.str j ∧ Q (V.bl (decide (j.cps.toList < i.cps.toList))) H) x y H Q
theorem op_gtU : OpR X (compareOp .Gt) rGtU := OpR.or op_gt op_gt_str
def rGeU : R2 := fun x y H Q => rI0 (fun i j => .bl (decide (j ≤ i))) x y H Q ∨
  (fun x y H Q => ∃ i j, x = V.str i ∧ y = V.str j ∧ Q (V.bl (!decide (i.cps.toList < j.cps.toList))) H) x y H Q
theorem op_geU : OpR X (compareOp .GtE) rGeU := OpR.or op_ge op_ge_str
def rInU (K : PySem.W.Frag) : R2 := fun x y H Q => rIn K false x y H Q ∨
  (fun x y H Q => ∃ (c : Nat) (z : Str), x = V.str ⟨#[c]⟩ ∧ y = V.str z ∧ Q (V.bl (decide (c ∈ z.cps.toList))) H) x y H Q
theorem op_inU : OpR X (compareOp .In) (rInU X.K) := OpR.or op_in_seq op_in_sign
def rIsNU : R2 := fun x y H Q => y = V.non ∧ Q (V.bl (decide (x = V.non))) H
def rNotNU : R2 := fun x y H Q => y = V.non ∧ Q (V.bl (!decide (x = V.non))) H
def rSlU (K : PySem.W.Frag) : V → Option Int → Option Int → Hp → VK → Prop := fun x lo hi H Q => rSlL K x lo hi H Q ∨ (rSlA K x lo hi H Q ∨ rSlS x lo hi H Q)
theorem sl_U : SlR X (rSlU X.K) := SlR.or sl_list (SlR.or sl_tupA sl_str)
def rLenU (K : PySem.W.Frag) : List V → Hp → VK → Prop := fun xs H Q => (fun xs H Q => ∃ p ys, xs = [V.ref p] ∧ (SqL K H p ys ∨ SqT K H p ys) ∧ Q (V.int ys.length) H) xs H Q ∨
  ((fun xs H Q => ∃ z, xs = [V.str z] ∧ z.length ≤ sizeLine ∧ Q (V.int z.length) H) xs H Q ∨ (fun xs H Q => ∃ a kvs, xs = [V.ref a] ∧ H a = some (.dK kvs) ∧ Q (.int kvs.length) H) xs H Q)
theorem call_lenU : CallR X (.builtin "len") (rLenU X.K) := CallR.or call_len_seq (CallR.or call_len_str call_lenD)
def rIntU : List V → Hp → VK → Prop := fun xs H Q => ∃ i, xs = [V.int i] ∧ Q (V.int i) H
theorem call_intU : CallR X (.type "int") rIntU := fun pins s σ H xs us Q I r h => call_int1 pins s σ H xs us Q I r (.inl h)
def rAbsU : List V → Hp → VK → Prop := fun xs H Q => ∃ i, xs = [V.int i] ∧ Q (V.int (if i < 0 then -i else i)) H
theorem call_absU : CallR X (.builtin "abs") rAbsU := call_abs
def rListU (K : PySem.W.Frag) : List V → Hp → VK → Prop := fun xs H Q => ∃ p ys, xs = [V.ref p] ∧ (SqL K H p ys ∨ SqT K H p ys) ∧ ∀ l, H l = none → Q (V.ref l) (upd H l (.lst ys))
theorem call_listU : CallR X (.type "list") (rListU X.K) := call_list_of
theorem PI.or {tg e : Expr} {w1 w2 : TI} (h1 : PI X tg e w1) (h2 : PI X tg e w2) : PI X tg e (fun σ H R => w1 σ H R ∨ w2 σ H R) := by
  refine ⟨fun pins s σ H R I h => ?_⟩
  rcases h with h | h
  · exact h1.run pins s σ H R I h
  · exact h2.run pins s σ H R I h
def iSeqU (K : PySem.W.Frag) (te : TE) : TI := fun σ H R => iList K te σ H R ∨ (iTup K te σ H R ∨ iStr te σ H R)
theorem pi_seqU {tg e : Expr} {te : TE} (he : PE X e te) : PI X tg e (iSeqU X.K te) := PI.or (pi_list he) (PI.or (pi_tup he) (pi_str he))
def tTru (K : PySem.W.Frag) (ta : TE) : TT := fun σ H Q => ta σ H fun x H' => ∃ k, TruV K x H' k ∧ Q k H'
theorem pt_truU {a : Expr} {ta : TE} (h : PE X a ta) (hq : ∀ whole, isTrue a X.env whole = (do let v ← whole; standAt a.pos; holding [v] (truthy v))) : PT X a (tTru X.K ta) := pt_truth h hq
/-- a tuple that tuple(..) has made: the object is told, it has no dict (a method may be asked of it) -/
def kTupD (K : PySem.W.Frag) (x : V) (H : Hp) (Q : VK) : Prop :=
  (∃ p xs, x = .ref p ∧ SqL K H p xs ∧ ∀ (q : Addr) (o : Obj), H q = none → o.dict = none → Q (.ref q) (upd H q (.frz o (.tup xs)))) ∨ (∃ p xs, x = .ref p ∧ SqT K H p xs ∧ Q (.ref p) H)
theorem rl_tupD (pins : List (Addr × Obj)) (s : Shared) (σ : L2.St) (H : Hp) (x : V) (v : Value) (Q : VK) (I : Inv X pins σ H s) (r : RelV x v) (h : kTupD X.K x H Q) :
    wpAny (model X.prog X.w) X.A (call (.type "tuple") [v]) (EP X pins σ Q) X.xe s := by
  rcases h with ⟨p, xs, rfl, hs, q⟩ | ⟨p, xs, rfl, hs, q⟩
  · obtain rfl : v = .ref p := r
    obtain ⟨its, rv, pl, hz⟩ := I.list hs
    refine call_tuple_list pl.isList (fun h' hk => ?_) (by rw [List.size_toArray, ← rv.length]; exact hz)
    have I1 : Inv X pins σ H { s with heap := h' } := I.kept (t' := s.toks) hk
    have I2 : Inv X pins σ (upd H h'.objs.size (.frz { cls := .type "tuple", data := .seq its.toArray } (.tup xs))) { s with heap := h'.push { cls := .type "tuple", data := .seq its.toArray } } :=
      I1.laid (t' := s.toks) (fun b o e => Heap.get?_push_of_some _ e) (Nat.le_refl _) (show ObjOk X.prog X.w _ _ _ (.frz _ (.tup xs)) from ⟨Heap.get?_push_size _ rfl, hz, its, rv, IsTup.new _ _⟩)
    exact ⟨.ref h'.objs.size, _, I2, rfl, q _ _ (I1.hok.fresh (Nat.le_refl _)) rfl⟩
  · obtain rfl : v = .ref p := r
    obtain ⟨its, rv, pl, hz⟩ := I.tuple hs
    exact call_tuple_tup pl ⟨.ref p, H, I, rfl, q⟩
theorem pe_tupD {a : Expr} {ta : TE} {p pos : Pos} (hg : Gl X "tuple") (hm : X.mg "tuple" = none) (ha : PE X a ta) (na : starEach [a] X.env = (false, eval a X.env) :: starEach [] X.env := by rfl) :
    PE X (.Call (.Name "tuple" p) [a] [] pos) (tThen ta (kTupD X.K)) := by
  refine ⟨fun pins s σ H Q I h => ?_⟩
  exact Call_ (ld_blt I hg hm boot_tuple (PyProof.Rows.callWith_type1 (one_arg ha I h (fun v s2 x H2 I2 r q => rl_tupD pins s2 σ H2 x v Q I2 r q) na) na))
/-- the object at p is told and has no dict -/
def NoD (H : Hp) (p : Addr) : Prop := ∃ (o : Obj) (u : HO), H p = some (.frz o u) ∧ o.dict = none
def tBMT (K : PySem.W.Frag) (r : V → List V → Hp → VK → Prop) (to : TE) (t : TA) : TE := fun σ H Q => to σ H fun x H1 => (∃ p xs, x = .ref p ∧ SqT K H1 p xs ∧ NoD H1 p) ∧ t σ H1 fun xs H2 => r x xs H2 Q
end
end Kb
set_option Elab.async false
set_option linter.all false
set_option maxRecDepth 100000
namespace Kb
open PySem PySem.Spec PyProof.Rows L2
structure Fn (P : Program) (w : World) (K : PySem.W.Frag) (mg : Str → Option Value) (base : Heap) (CX : CXT) (k : Nat) (x : Str) (ps : List Str) (sp : Sp) : Prop where
  ex : ∃ f fd, FnOk P w K mg base CX k f fd ps sp ∧ mg x = some (.ref f) ∧ PySem.W.keepIn K (.ref f) = true ∧ Binds K fd ps []
def At (K : PySem.W.Frag) (mg : Str → Option Value) (x : Str) (st : Stmt) : Prop := ∃ f fd, Fun K x x st f fd ∧ mg x = some (.ref f)
section
variable {X : Cx} {CX : CXT} {k : Nat} {ps : List Str} {sp : Sp} {E : XK} {x : Str} {p pos : Pos} {e : Expr} {es : List Expr} {t : TA}
theorem pe_callF (G : Fn X.prog X.w X.K X.mg X.base CX k x ps sp) (hr : Room k X.A) (hg : Gl X x) (hx : Passes CX X E) (ha : PA X (e :: es) t) (hdb : (x == ("__debug__" : Str)) = false := by decide)
    (he : starEach (e :: es) X.env = (false, eval e X.env) :: starEach es X.env := by rfl) (hpl : (backTo pos (starEach es X.env)).any (·.1) = false := by rfl) : PE X (.Call (.Name x p) (e :: es) [] pos) (tCall sp [] E t) := by
  obtain ⟨f, fd, F, hm, hk, hb⟩ := G.ex
  exact pe_call F hr hg hm hk hb .nil hx ha hdb he hpl
end
/-- all but l is as it was -/
def But (l : Addr) (H H' : Hp) : Prop := ∀ b o, b ≠ l → H b = some o → H' b = some o
section
variable {K : PySem.W.Frag} {H H1 H2 H' : Hp} {a l p : Addr} {o u : HO} {xs ys : List V} {ns : List Int}
theorem same_new (h : H p = none) : Same H (upd H p o) := fun b x e => by rw [upd_ne (ne_of_none e h)]; exact e
theorem but_upd : But l H (upd H l o) := fun b x n e => by rw [upd_ne n]; exact e
theorem But.trans (a : But l H H1) (b : But l H1 H2) : But l H H2 := fun c o n h => b c o n (a c o n h)
theorem But.refl : But l H H := fun _ _ _ h => h
theorem Same.but (s : Same H H') : But l H H' := fun b o _ h => s b o h
theorem rd_same (s : Same H H') (h : Rd H a u) : Rd H' a u := by
  rcases h with h | ⟨o, h⟩
  · exact .inl (s _ _ h)
  · exact .inr ⟨o, s _ _ h⟩
theorem sqT_same (s : Same H H') (h : SqT K H a xs) : SqT K H' a xs := by
  rcases h with h | h
  · exact .inl (rd_same s h)
  · exact .inr h
theorem sqL_same (s : Same H H') (h : SqL K H a xs) : SqL K H' a xs := s.seq h
theorem sqT_but (b : But l H H') (hl : H l = some (.lst ys)) (h : SqT K H a xs) : SqT K H' a xs := by
  rcases h with (h | ⟨o, h⟩) | h
  · exact .inl (.inl (b _ _ (ne_of h hl (by intro z; cases z)) h))
  · exact .inl (.inr ⟨o, b _ _ (ne_of h hl (by intro z; cases z)) h⟩)
  · exact .inr h
theorem sqL_but (b : But l H H') (hne : a ≠ l) (h : SqL K H a xs) : SqL K H' a xs := by
  rcases h with (h | ⟨o, h⟩) | h
  · exact .inl (.inl (b _ _ hne h))
  · exact .inl (.inr ⟨o, b _ _ hne h⟩)
  · exact .inr h
theorem at_same (s : Same H H') (h : H a = some o) : H' a = some o := s _ _ h
theorem at_but (b : But l H H') (hne : a ≠ l) (h : H a = some o) : H' a = some o := b _ _ hne h
theorem sqL_of (h : H a = some (.lst xs)) : SqL K H a xs := .inl (.inl h)
theorem sqT_of (h : H a = some (.tup xs)) : SqT K H a xs := .inl (.inl h)
/-- a but of an object that the first heap doesn't know is a same -/
theorem But.same (b : But l H H') (h : H l = none) : Same H H' := fun c o e => b c o (ne_of_none e h) e
theorem same_but (s : Same H H1) (b : But l H1 H2) (h : H l = none) : Same H H2 := fun c o e => b c o (ne_of_none e h) (s c o e)
end
def PB (x : V) (H : Hp) (QB : Bool → Hp → Prop) : Prop := ∃ k, x = .bl k ∧ QB k H
def PIf (x : V) (A B : Prop) : Prop := ∃ c, x = .bl c ∧ if c = true then A else B
def PTr (K : PySem.W.Frag) (x : V) (H : Hp) (QB : Bool → Hp → Prop) : Prop := ∃ k, TruV K x H k ∧ QB k H
def PNew (z : Prop) (o : HO) (H : Hp) (Q : VK) : Prop := z ∧ ∀ p, H p = none → Q (.ref p) (upd H p o)
def PI2 (x y : V) (QR : Int → Int → Prop) : Prop := ∃ i j, x = .int i ∧ y = .int j ∧ QR i j
def PI1 (x : V) (QR : Int → Prop) : Prop := ∃ i, x = .int i ∧ QR i
def PNot (x : V) (H : Hp) (Q : VK) : Prop := ∃ c, x = .bl c ∧ Q (.bl (!c)) H
section
variable {K : PySem.W.Frag} {D : Ends} {σ : L2.St} {H : Hp} {t u : TS} {te ta tb : TE} {g : TG} {c d : TT} {Q : VK} {QB : Bool → Hp → Prop} {v x y : V} {i j : Nat} {m n : Int} {b : Bool}
theorem r_seq (h : t { D with nx := u D } σ H) : tSeq t u D σ H := h
theorem r_next (h : D.nx σ H) : tNext D σ H := h
theorem r_asg (h : te σ H fun x H1 => g x σ H1 D.nx) : tAsg te g D σ H := h
theorem r_name {N : L2.St → Hp → Prop} (h : N (σ.set i (some v)) H) : gName i v σ H N := h
theorem r_drop (h : te σ H fun _ H1 => D.nx σ H1) : tDrop te D σ H := h
theorem r_ret (h : te σ H D.rt) : tRet te D σ H := h
theorem r_retN (h : D.rt .non H) : tRetN D σ H := h
theorem r_if (h : c σ H fun b H1 => if b = true then t D σ H1 else u D σ H1) : tIfS c t u D σ H := h
theorem r_brk (h : D.bk σ H) : tBreak D σ H := h
theorem r_cont (h : D.ct σ H) : tCont D σ H := h
theorem r_var (h : σ[i]? = some (some v)) (q : Q v H) : tVar i σ H Q := ⟨v, h, q⟩
theorem r_c (q : Q v H) : tC v σ H Q := q
theorem r_op {r : R2} (h : ta σ H fun x H1 => tb σ H1 fun y H2 => r x y H2 Q) : tOp r ta tb σ H Q := h
theorem r_un {r : V → Hp → VK → Prop} (h : ta σ H fun x H1 => r x H1 Q) : tUn r ta σ H Q := h
theorem r_neg (q : Q (.int (-m)) H) : rU (fun i => .int (-i)) (.int m) H Q := ⟨m, rfl, q⟩
theorem r_addI (q : Q (.int (m + n)) H) : rAddU K (.int m) (.int n) H Q := .inl ⟨m, n, rfl, rfl, q⟩
theorem r_addS {z w : Str} (hz : z.length + w.length ≤ sizeLine) (q : Q (.str (z ++ w)) H) : rAddU K (.str z) (.str w) H Q := .inr (.inl ⟨z, w, rfl, rfl, hz, q⟩)
theorem r_subI (q : Q (.int (m - n)) H) : rSubU (.int m) (.int n) H Q := ⟨m, n, rfl, rfl, q⟩
theorem r_mulI (c : CMul m n) (q : Q (.int (m * n)) H) : rMulU K (.int m) (.int n) H Q := .inl ⟨m, n, rfl, rfl, c, q⟩
theorem r_fdiv (h0 : 0 < n) (h1 : n.natAbs.log2 < 9000) (q : Q (.int (m / n)) H) : rFdivU (.int m) (.int n) H Q := ⟨m, n, rfl, rfl, ⟨h0, h1⟩, q⟩
theorem r_mod (h0 : 0 < n) (q : Q (.int (m % n)) H) : rModU (.int m) (.int n) H Q := ⟨m, n, rfl, rfl, h0, q⟩
theorem r_pow (h0 : CPow m n) (q : Q (.int (m ^ n.toNat)) H) : rPowU (.int m) (.int n) H Q := ⟨m, n, rfl, rfl, h0, q⟩
theorem r_eqI (q : Q (.bl (decide (m = n))) H) : rEqU K (.int m) (.int n) H Q := .inl ⟨rfl, by
  have e : decide (V.int m = V.int n) = decide (m = n) := by by_cases h : m = n <;> simp [h]
  rw [e]; exact q⟩
theorem r_neI (q : Q (.bl (!decide (m = n))) H) : rNeU K (.int m) (.int n) H Q := .inl ⟨rfl, by
  have e : decide (V.int m = V.int n) = decide (m = n) := by by_cases h : m = n <;> simp [h]
  rw [e]; exact q⟩
theorem r_ltI (q : Q (.bl (decide (m < n))) H) : rLtU K (.int m) (.int n) H Q := .inl ⟨m, n, rfl, rfl, q⟩
theorem r_leI (q : Q (.bl (decide (m ≤ n))) H) : rLeU K (.int m) (.int n) H Q := .inl ⟨m, n, rfl, rfl, q⟩
theorem r_gtI (q : Q (.bl (decide (n < m))) H) : rGtU (.int m) (.int n) H Q := .inl ⟨m, n, rfl, rfl, q⟩
theorem r_geI (q : Q (.bl (decide (n ≤ m))) H) : rGeU (.int m) (.int n) H Q := .inl ⟨m, n, rfl, rfl, q⟩
theorem r_isN (q : Q (.bl (decide (x = .non))) H) : rIsNU x .non H Q := ⟨rfl, q⟩
theorem r_notN (q : Q (.bl (!decide (x = .non))) H) : rNotNU x .non H Q := ⟨rfl, q⟩
theorem r_test (h : te σ H fun x H' => PB x H' QB) : tTest te σ H QB := h
theorem r_B (h : te σ H fun x H' => PB x H' QB) : tB te σ H QB := h
theorem r_k (q : QB b H) : PB (.bl b) H QB := ⟨b, rfl, q⟩
theorem r_not (h : c σ H fun b H1 => QB (!b) H1) : tNot c σ H QB := h
theorem r_and (h : c σ H fun b H1 => if b = true then d σ H1 QB else QB false H1) : tAnd c d σ H QB := h
theorem r_or (h : c σ H fun b H1 => if b = true then QB true H1 else d σ H1 QB) : tOr c d σ H QB := h
theorem r_andV (h : ta σ H fun x H1 => PIf x (tb σ H1 Q) (Q (.bl false) H1)) : tAndV ta tb σ H Q := h
theorem r_orV (h : ta σ H fun x H1 => PIf x (Q (.bl true) H1) (tb σ H1 Q)) : tOrV ta tb σ H Q := h
theorem r_pif {A B : Prop} (h : if b = true then A else B) : PIf (.bl b) A B := ⟨b, rfl, h⟩
theorem r_notV (h : ta σ H fun x H1 => PNot x H1 Q) : tNotV ta σ H Q := h
theorem r_pnot (q : Q (.bl (!b)) H) : PNot (.bl b) H Q := ⟨b, rfl, q⟩
theorem r_ifE (h : c σ H fun b H1 => if b = true then ta σ H1 Q else tb σ H1 Q) : tIf c ta tb σ H Q := h
theorem r_chain {r r' : R2} {tc : TE} (h : ta σ H fun x H1 => tb σ H1 fun y H2 => r x y H2 fun z H3 => PIf z (tc σ H3 fun w' H4 => r' y w' H4 Q) (Q (.bl false) H3)) : tChain r r' ta tb tc σ H Q := h
theorem r_tru (h : ta σ H fun x H' => PTr K x H' QB) : tTru K ta σ H QB := h
theorem r_truB (q : QB b H) : PTr K (.bl b) H QB := ⟨b, rfl, q⟩
theorem r_truI (q : QB (m != 0) H) : PTr K (.int m) H QB := ⟨_, rfl, q⟩
theorem r_truL {p : Addr} {xs : List V} (h : SqL K H p xs) (q : QB (!xs.isEmpty) H) : PTr K (.ref p) H QB := ⟨_, .inl ⟨xs, h, rfl⟩, q⟩
theorem r_truT {p : Addr} {xs : List V} (h : SqT K H p xs) (q : QB (!xs.isEmpty) H) : PTr K (.ref p) H QB := ⟨_, .inr (.inl ⟨xs, h, rfl⟩), q⟩
theorem r_nil {QA : List V → Hp → Prop} (q : QA [] H) : tNil σ H QA := q
theorem r_cons {tr : TA} {QA : List V → Hp → Prop} (h : ta σ H fun x H1 => tr σ H1 fun xs H2 => QA (x :: xs) H2) : tCons ta tr σ H QA := h
theorem r_CB {r : List V → Hp → VK → Prop} {ts : TA} (h : ts σ H fun vs H1 => r vs H1 Q) : tCB r ts σ H Q := h
theorem r_lenL {p : Addr} {xs : List V} (h : SqL K H p xs) (q : Q (.int (xs.length : Int)) H) : rLenU K [.ref p] H Q := .inl ⟨p, xs, rfl, .inl h, q⟩
theorem r_lenT {p : Addr} {xs : List V} (h : SqT K H p xs) (q : Q (.int (xs.length : Int)) H) : rLenU K [.ref p] H Q := .inl ⟨p, xs, rfl, .inr h, q⟩
theorem r_lenS {z : Str} (h : z.length ≤ sizeLine) (q : Q (.int (z.length : Int)) H) : rLenU K [.str z] H Q := .inr (.inl ⟨z, rfl, h, q⟩)
theorem r_int (q : Q (.int m) H) : rIntU [.int m] H Q := ⟨m, rfl, q⟩
theorem r_abs (q : Q (.int (if m < 0 then -m else m)) H) : rAbsU [.int m] H Q := ⟨m, rfl, q⟩
theorem r_ixL {p : Addr} {xs : List V} (h : SqL K H p xs) (ha : atI xs m = some v) (q : Q v H) : rIx K (.ref p) (.int m) H Q := .inl ⟨p, xs, m, v, rfl, rfl, h, ha, q⟩
theorem r_ixT {p : Addr} {xs : List V} (h : SqT K H p xs) (ha : atI xs m = some v) (q : Q v H) : rIx K (.ref p) (.int m) H Q := .inr (.inl ⟨p, xs, m, v, rfl, rfl, h, ha, q⟩)
theorem r_ixS {z : Str} {c : Nat} (h : z.length ≤ sizeLine) (ha : atI z.cps.toList m = some c) (q : Q (.str ⟨#[c]⟩) H) : rIx K (.str z) (.int m) H Q := .inr (.inr ⟨z, m, c, rfl, rfl, h, ha, q⟩)
theorem r_tup {ts : TA} (h : ts σ H fun xs H1 => PNew (xs.length ≤ sizeLine) (.tup xs) H1 Q) : tTup ts σ H Q := h
theorem r_lst {ts : TA} (h : ts σ H fun xs H1 => PNew (xs.length ≤ sizeLine) (.lst xs) H1 Q) : tLst ts σ H Q := h
theorem r_new {z : Prop} {o : HO} (hz : z) (k : ∀ p H', H p = none → Same H H' → H' p = some o → Q (.ref p) H') : PNew z o H Q := ⟨hz, fun p hp => k p _ hp (same_new hp) upd_same⟩
theorem r_call {sp : Sp} {E : XK} {ts : TA} (h : ts σ H fun vs H1 => sp (vs ++ []) H1 Q E) : tCall sp [] E ts σ H Q := h
theorem r_BM {T : String} {r : V → List V → Hp → VK → Prop} {ts : TA} (h : ta σ H fun x H1 => tyV K T x H1 ∧ ts σ H1 fun xs H2 => r x xs H2 Q) : tBM K T r ta ts σ H Q := h
theorem r_BM0 {T : String} {r : V → List V → Hp → VK → Prop} (h : ta σ H fun x H1 => tyV K T x H1 ∧ r x [] H1 Q) : tBM0 K T r ta σ H Q := h
theorem r_tyL {p : Addr} {xs : List V} {A : Prop} (h : SqL K H p xs) (a : A) : tyV K "list" (.ref p) H ∧ A := ⟨Or.inl ⟨rfl, _, h⟩, a⟩
theorem r_tyS {z : Str} {A : Prop} (a : A) : tyV K "str" (.str z) H ∧ A := ⟨rfl, a⟩
theorem r_append {p : Addr} {xs : List V} (h : H p = some (.lst xs)) (hz : xs.length < sizeLine) (k : ∀ H', But p H H' → H' p = some (.lst (xs ++ [y])) → Q .non H') : rAppend (.ref p) [y] H Q := ⟨p, xs, y, rfl, rfl, h, hz, k _ but_upd upd_same⟩
theorem r_pop {p : Addr} {xs : List V} (h : H p = some (.lst (xs ++ [y]))) (k : ∀ H', But p H H' → H' p = some (.lst xs) → Q y H') : rPop (.ref p) [] H Q := by
  refine ⟨p, xs ++ [y], y, rfl, rfl, h, ?_, ?_⟩
  · simp
  · rw [List.dropLast_concat]; exact k _ but_upd upd_same
theorem r_popAt {p : Addr} {xs : List V} {k : Nat} (h : H p = some (.lst xs)) (e : m = (k : Int)) (hk : xs[k]? = some y) (hz : xs.length < 2 ^ 62) (q : ∀ H', But p H H' → H' p = some (.lst (xs.eraseIdx k)) → Q y H') : rPopAt (.ref p) [.int m] H Q := by
  have hl : k < xs.length := (List.getElem?_eq_some_iff.mp hk).1
  refine ⟨p, xs, m, k, y, rfl, rfl, h, by omega, by omega, ?_, hk, q _ but_upd upd_same⟩
  subst e
  obtain ⟨j, hj, hx, _⟩ := atI_get (atI_nat hk)
  have e2 : j = k := by
    unfold seqIndex? at hj
    simp at hj
    omega
  rw [hj, e2]
theorem r_then {kk : V → Hp → VK → Prop} (h : ta σ H fun x H1 => kk x H1 Q) : tThen ta kk σ H Q := h
theorem r_kTupL {p : Addr} {xs : List V} (h : SqL K H p xs) (k : ∀ q H', H q = none → Same H H' → (∃ o : Obj, H' q = some (.frz o (.tup xs)) ∧ o.dict = none) → Q (.ref q) H') : kTupD K (.ref p) H Q := .inl ⟨p, xs, rfl, h, fun q o hq ho => k q _ hq (same_new hq) ⟨o, upd_same, ho⟩⟩
theorem r_kTupT {p : Addr} {xs : List V} (h : SqT K H p xs) (q : Q (.ref p) H) : kTupD K (.ref p) H Q := .inr ⟨p, xs, rfl, h, q⟩
theorem sqT_ofD {q : Addr} {xs : List V} (h : ∃ o : Obj, H q = some (.frz o (.tup xs)) ∧ o.dict = none) : SqT K H q xs := by
  obtain ⟨o, e, _⟩ := h
  exact .inl (.inr ⟨o, e⟩)
theorem noD_of {q : Addr} {xs : List V} (h : ∃ o : Obj, H q = some (.frz o (.tup xs)) ∧ o.dict = none) : NoD H q := by
  obtain ⟨o, e, d⟩ := h
  exact ⟨o, _, e, d⟩
theorem noD_same {H H' : Hp} {q : Addr} (s : Same H H') (h : NoD H q) : NoD H' q := by
  obtain ⟨o, u, e, d⟩ := h
  exact ⟨o, u, s _ _ e, d⟩
theorem r_listL {p : Addr} {xs : List V} (h : SqL K H p xs) (k : ∀ q H', H q = none → Same H H' → H' q = some (.lst xs) → Q (.ref q) H') : rListU K [.ref p] H Q := ⟨p, xs, rfl, .inl h, fun q hq => k q _ hq (same_new hq) upd_same⟩
theorem r_listT {p : Addr} {xs : List V} (h : SqT K H p xs) (k : ∀ q H', H q = none → Same H H' → H' q = some (.lst xs) → Q (.ref q) H') : rListU K [.ref p] H Q := ⟨p, xs, rfl, .inr h, fun q hq => k q _ hq (same_new hq) upd_same⟩
theorem r_lstRg {tr : L2.St → Hp → (Int → Int → Hp → Prop) → Prop} (h : tr σ H fun a b H1 => PNew (RgOk a b) (.lst (rgV a b)) H1 Q) : tLstRg tr σ H Q := h
theorem r_tupRg {tr : L2.St → Hp → (Int → Int → Hp → Prop) → Prop} (h : tr σ H fun a b H1 => PNew (RgOk a b) (.tup (rgV a b)) H1 Q) : tTupRg tr σ H Q := h
theorem r_rg2 {QR : Int → Int → Hp → Prop} (h : ta σ H fun x H1 => tb σ H1 fun y H2 => PI2 x y fun i j => QR i j H2) : tRg2 ta tb σ H QR := h
theorem r_rg1 {QR : Int → Int → Hp → Prop} (h : ta σ H fun x H1 => PI1 x fun n => QR 0 n H1) : tRg1 ta σ H QR := h
theorem r_ii {QR : Int → Int → Prop} (q : QR m n) : PI2 (.int m) (.int n) QR := ⟨m, n, rfl, rfl, q⟩
theorem r_i {QR : Int → Prop} (q : QR m) : PI1 (.int m) QR := ⟨m, rfl, q⟩
theorem r_gsub {ti : TE} {to : TE} {ts : TSet} {N : L2.St → Hp → Prop} (h : to σ H fun o H1 => ti σ H1 fun i H2 => ts o i v H2 fun H3 => N σ H3) : gSub to ti ts v σ H N := h
theorem r_setL {N : Hp → Prop} {p : Addr} {xs : List V} {k : Nat} (h : H p = some (.lst xs)) (hk : ixN xs.length m = some k) (q : ∀ H', But p H H' → H' p = some (.lst (xs.set k v)) → N H') : rSetL (.ref p) (.int m) v H N := ⟨p, xs, m, k, rfl, rfl, h, hk, q _ but_upd upd_same⟩
theorem r_aug {ti : TIp} (h : σ[i]? = some (some x)) (q : te σ H fun y H1 => ti x y H1 fun z H2 => D.nx (σ.set i (some z)) H2) : tAug i te ti D σ H := ⟨x, h, q⟩
theorem r_ipI {f : Int → Int → Int} (q : Q (.int (f m n)) H) : ipI f (.int m) (.int n) H Q := ⟨m, n, rfl, rfl, q⟩
theorem r_noPart {QO : Option Int → Hp → Prop} (q : QO none H) : tNoPart σ H QO := q
theorem r_part {QO : Option Int → Hp → Prop} (h : te σ H fun x H1 => PI1 x fun i => QO (some i) H1) : tPart te σ H QO := h
theorem r_sl {r : V → Option Int → Option Int → Hp → VK → Prop} {tl th : TO} (h : te σ H fun x H1 => tl σ H1 fun l H2 => th σ H2 fun u H3 => r x l u H3 Q) : tSl r te tl th σ H Q := h
theorem r_ite {c : Prop} [Decidable c] {A B : Prop} (h1 : c → A) (h2 : ¬ c → B) : if decide c = true then A else B := by
  by_cases h : c
  · rw [if_pos (decide_eq_true h)]; exact h1 h
  · rw [if_neg (by simp [h])]; exact h2 h
theorem r_iteN {c : Prop} [Decidable c] {A B : Prop} (h1 : ¬ c → A) (h2 : c → B) : if (!decide c) = true then A else B := by
  by_cases h : c
  · rw [if_neg (by simp [h])]; exact h2 h
  · rw [if_pos (by simp [h])]; exact h1 h
theorem r_iteM {c : Prop} [Decidable c] {A B : Prop} (h : ¬ c) (a : B) : if decide c = true then A else B := by rw [if_neg (by simp [h])]; exact a
theorem r_T {A B : Prop} (a : A) : if true = true then A else B := by rw [if_pos rfl]; exact a
theorem r_F {A B : Prop} (a : B) : if false = true then A else B := by rw [if_neg (by decide)]; exact a
theorem r_nT {A B : Prop} (a : B) : if (!true) = true then A else B := r_F a
theorem r_nF {A B : Prop} (a : A) : if (!false) = true then A else B := r_T a
end
end Kb
set_option Elab.async false
set_option linter.all false
set_option maxRecDepth 100000
set_option maxHeartbeats 4000000
namespace Kb
open PySem PySem.Spec PyProof.Rows L2
local macro_rules | `(tactic| walk_at "tk") => `(tactic| first
  | assumption
  | ((with_reducible refine' sqT_of ?k); (case k => assumption))
  | ((with_reducible refine' sqT_ofD ?k); (case k => assumption))
  | ((with_reducible refine' noD_of ?k); (case k => assumption))
  | ((with_reducible refine' noD_same ?s ?k); (case s => assumption); (case k => walk_at "tk"))
  | ((with_reducible refine' sqL_of ?k); (case k => assumption))
  | ((with_reducible refine' sqT_same ?s ?k); (case s => assumption); (case k => walk_at "tk"))
  | ((with_reducible refine' sqL_same ?s ?k); (case s => assumption); (case k => walk_at "tk"))
  | ((with_reducible refine' sqT_but ?s ?t ?k); (case s => assumption); (case t => walk_at "tk"); (case k => walk_at "tk"))
  | ((with_reducible refine' sqL_but ?s ?t ?k); (case s => assumption); (case t => walk_at "ne"); (case k => walk_at "tk"))
  | ((with_reducible refine' sqL_of ?k); (case k => walk_at "tk"))
  | ((with_reducible refine' sqT_of ?k); (case k => walk_at "tk"))
  | ((with_reducible refine' at_same ?s ?k); (case s => assumption); (case k => walk_at "tk"))
  | ((with_reducible refine' at_but ?s ?t ?k); (case s => assumption); (case t => walk_at "ne"); (case k => walk_at "tk")))
local macro_rules | `(tactic| walk_at "ne") => `(tactic| first
  | assumption
  | (refine Ne.symm ?_; assumption)
  | exact ne_of_none (by assumption) (by assumption)
  | exact (ne_of_none (by assumption) (by assumption)).symm)
local macro_rules | `(tactic| walk_at "side") => `(tactic| first
  | assumption
  | omega
  | (simp only [sizeLine_eq, List.length_cons, List.length_nil, List.length_map]; omega)
  | (show _ ≤ sizeLine; decide))
local macro_rules | `(tactic| walk_at "kit") => `(tactic| first
  | (show kitB _ _ = some true; decide +kernel)
  | (show kitB _ _ = some false; decide +kernel))
local macro_rules | `(tactic| walk_at "rng") => `(tactic| first
  | (refine ⟨by omega, by omega, by omega, by omega⟩)
  | (refine ⟨by omega, by omega⟩)
  | ((simp only [List.length_map]); (refine ⟨by omega, by omega, by omega, by omega⟩))
  | ((simp only [List.length_map]); (refine ⟨by omega, by omega⟩)))
local macro_rules | `(tactic| walk_at "rd1") => `(tactic| first
  | with_reducible refine r_seq ?_
  | ((with_reducible refine' r_var ?k0 ?_); (case k0 => rfl))
  | with_reducible refine r_op ?_
  | with_reducible refine r_c ?_
  | with_reducible refine r_asg ?_
  | with_reducible refine r_name ?_
  | with_reducible refine r_cons ?_
  | with_reducible refine r_nil ?_
  | with_reducible refine r_CB ?_
  | with_reducible refine r_if ?_
  | with_reducible refine r_test ?_
  | with_reducible refine r_k ?_
  | with_reducible refine r_T ?_
  | with_reducible refine r_F ?_
  | with_reducible refine r_nT ?_
  | with_reducible refine r_nF ?_
  | with_reducible refine r_ret ?_
  | with_reducible refine r_drop ?_
  | with_reducible refine r_next ?_
  | with_reducible refine r_call ?_
  | with_reducible refine r_addI ?_
  | with_reducible refine r_subI ?_
  | with_reducible refine r_ltI ?_
  | with_reducible refine r_gtI ?_
  | with_reducible refine r_leI ?_
  | with_reducible refine r_geI ?_
  | with_reducible refine r_eqI ?_
  | with_reducible refine r_neI ?_
  | with_reducible refine r_int ?_
  | with_reducible refine r_abs ?_
  | with_reducible refine r_not ?_
  | with_reducible refine r_and ?_
  | with_reducible refine r_or ?_
  | with_reducible refine r_tru ?_
  | with_reducible refine r_truB ?_
  | with_reducible refine r_lst ?_
  | with_reducible refine r_tup ?_
  | with_reducible refine r_BM ?_
  | with_reducible refine r_BM0 ?_
  | with_reducible refine r_tyS ?_
  | with_reducible refine r_gsub ?_
  | with_reducible refine r_then ?_
  | with_reducible refine r_lstRg ?_
  | with_reducible refine r_tupRg ?_
  | with_reducible refine r_rg2 ?_
  | with_reducible refine r_rg1 ?_
  | with_reducible refine r_ii ?_
  | with_reducible refine r_i ?_
  | with_reducible refine r_ipI ?_
  | with_reducible refine r_un ?_
  | with_reducible refine r_neg ?_
  | with_reducible refine r_isN ?_
  | with_reducible refine r_notN ?_
  | with_reducible refine r_notV ?_
  | with_reducible refine r_pnot ?_
  | with_reducible refine r_pif ?_
  | with_reducible refine r_andV ?_
  | with_reducible refine r_orV ?_
  | with_reducible refine r_ifE ?_
  | with_reducible refine r_chain ?_
  | with_reducible refine r_sl ?_
  | with_reducible refine r_noPart ?_
  | with_reducible refine r_part ?_
  | with_reducible refine r_brk ?_
  | with_reducible refine r_cont ?_
  | with_reducible refine r_retN ?_
  | with_reducible refine r_truI ?_
  | with_reducible refine r_B ?_
  | ((with_reducible refine' r_mod ?k0 ?_); (case k0 => walk_at "side"))
  | ((with_reducible refine' r_mulI ?k0 ?_); (case k0 => first | exact Or.inl ⟨by omega, by omega⟩ | exact Or.inr ⟨by omega, by omega⟩))
  | ((with_reducible refine' r_lenL ?k0 ?_); (case k0 => walk_at "tk"))
  | ((with_reducible refine' r_lenT ?k0 ?_); (case k0 => walk_at "tk"))
  | ((with_reducible refine' r_truL ?k0 ?_); (case k0 => walk_at "tk"))
  | ((with_reducible refine' r_truT ?k0 ?_); (case k0 => walk_at "tk"))
  | ((with_reducible refine' r_ixL ?k0 ?k1 ?_); (case k0 => walk_at "tk"); (case k1 => first | assumption | rfl))
  | ((with_reducible refine' r_ixT ?k0 ?k1 ?_); (case k0 => walk_at "tk"); (case k1 => first | assumption | rfl))
  | ((with_reducible refine' r_new ?k0 ?_); (case k0 => walk_at "side"))
  | ((with_reducible refine' r_tyL ?k0 ?_); (case k0 => walk_at "tk"))
  | ((with_reducible refine' r_append ?k0 ?k1 ?_); (case k0 => walk_at "tk"); (case k1 => walk_at "side"))
  | ((with_reducible refine' r_setL ?k0 ?k1 ?_); (case k0 => walk_at "tk"); (case k1 => first | assumption | rfl))
  | ((with_reducible refine' r_kTupL ?k0 ?_); (case k0 => walk_at "tk"))
  | ((with_reducible refine' r_kTupT ?k0 ?_); (case k0 => walk_at "tk"))
  | ((with_reducible refine' r_listL ?k0 ?_); (case k0 => walk_at "tk"))
  | ((with_reducible refine' r_listT ?k0 ?_); (case k0 => walk_at "tk"))
  | ((with_reducible refine' r_aug ?k0 ?_); (case k0 => rfl))
  | ((with_reducible refine' r_lenS ?k0 ?_); (case k0 => walk_at "side"))
  | ((with_reducible refine' r_pop ?k0 ?_); (case k0 => walk_at "tk")))
local macro_rules | `(tactic| walk_at "rd") => `(tactic| ((repeat (walk_at "rd1")); (try dsimp only)))
def sp_law_cell (K : PySem.W.Frag) : Sp := fun vs H Q _ => ∃ (a : Addr) (ns : List Int) (k : Int), vs = [.ref a, .int k] ∧ SqL K H a (ns.map V.int) ∧ ns.length ≤ 63 ∧ 0 ≤ k ∧ ∀ n, Q (.int n) H
def Pl (H : Hp) (p : Addr) : Prop := ∃ x y z, H p = some (.lst [.int x, .int y, .int z])
def sp_law_pool (K : PySem.W.Frag) : Sp := fun vs H Q _ => ∃ (a : Addr) (ns : List Int) (k : Int), vs = [.ref a, .int k] ∧ SqL K H a (ns.map V.int) ∧ ns.length ≤ 63 ∧ 0 ≤ k ∧ ∀ p H', H p = none → Same H H' → Pl H' p → Q (.ref p) H'
def sp_law_draw (K : PySem.W.Frag) : Sp := fun vs H Q _ => ∃ (p : Addr) (m : Int), vs = [.ref p, .int m] ∧ Pl H p ∧ 0 < m ∧ m < 2 ^ 200 ∧ ∀ v H', 0 ≤ v → v < m → But p H H' → Pl H' p → Q (.int v) H'
abbrev N_law_cell : List Str := ["script", "k"]
def t_law_cell (K : PySem.W.Frag) : TS :=
  tSeq (tIfS ((tTest (tOp (rLtU K) (tVar 1) ((tCB (rLenU K) (tCons (tVar 0) tNil)))))) ((tRet ((tCB rAbsU (tCons ((tCB rIntU (tCons ((tOp (rIx K) (tVar 0) (tVar 1))) tNil))) tNil))))) (tNext))
  (tSeq (tIfS ((tTest (tOp (rEqU K) ((tCB (rLenU K) (tCons (tVar 0) tNil))) ((tC (.int 0)))))) ((tRet ((tC (.int 0))))) (tNext))
  ((tRet ((tOp rModU ((tCB rAbsU (tCons ((tCB rIntU (tCons ((tOp (rIx K) (tVar 0) ((tOp rModU ((tCB rIntU (tCons (tVar 1) tNil))) ((tCB (rLenU K) (tCons (tVar 0) tNil))))))) tNil))) tNil))) ((tC (.int 999999999999999989))))))))
abbrev N_law_pool : List Str := ["script", "k", "cell"]
def t_law_pool (K : PySem.W.Frag) : TS :=
  tSeq (tAsg ((tCall (sp_law_cell K) [] E0 (tCons (tVar 0) (tCons (tVar 1) tNil)))) (gName 2))
  (tSeq (tIfS ((tTest (tOp rGeU (tVar 2) ((tOp rPowU ((tC (.int 10))) ((tC (.int 18)))))))) ((tRet ((tLst (tCons ((tOp rSubU (tVar 2) ((tOp rPowU ((tC (.int 10))) ((tC (.int 18))))))) (tCons ((tOp rModU ((tCB rIntU (tCons (tVar 2) tNil))) ((tC (.int 1000003))))) (tCons ((tC (.int 0))) tNil))))))) (tNext))
  ((tRet ((tLst (tCons ((tC (.int 0))) (tCons ((tOp (rAddU K) (tVar 2) ((tOp (rMulU K) ((tC (.int 104729))) ((tOp (rAddU K) (tVar 1) ((tC (.int 1))))))))) (tCons ((tC (.int 0))) tNil))))))))
abbrev N_law_draw : List Str := ["pool", "many", "value", "mixed"]
def t_law_draw (K : PySem.W.Frag) : TS :=
  tSeq (tAsg ((tOp (rAddU K) ((tOp (rIx K) (tVar 0) ((tC (.int 2))))) ((tC (.int 1))))) (gSub (tVar 0) ((tC (.int 2))) rSetL))
  (tSeq (tIfS ((tTest (tOp rGtU ((tOp (rIx K) (tVar 0) ((tC (.int 0))))) ((tC (.int 1)))))) (tSeq (tAsg ((tOp rModU ((tCB rIntU (tCons ((tOp (rIx K) (tVar 0) ((tC (.int 0))))) tNil))) (tVar 1))) (gName 2))
  (tSeq (tAsg ((tOp rFdivU ((tOp (rIx K) (tVar 0) ((tC (.int 0))))) (tVar 1))) (gSub (tVar 0) ((tC (.int 0))) rSetL))
  ((tRet (tVar 2))))) (tNext))
  (tSeq (tAsg ((tOp rModU ((tCB rIntU (tCons ((tOp (rAddU K) ((tOp (rIx K) (tVar 0) ((tC (.int 1))))) ((tOp (rMulU K) ((tC (.int 7919))) ((tOp (rIx K) (tVar 0) ((tC (.int 2))))))))) tNil))) ((tC (.int 1000003))))) (gName 3))
  (tSeq (tAsg ((tOp rModU ((tCB rIntU (tCons ((tOp (rAddU K) ((tOp (rAddU K) ((tOp (rMulU K) (tVar 3) (tVar 3))) ((tOp (rMulU K) ((tC (.int 48271))) ((tOp (rIx K) (tVar 0) ((tC (.int 2))))))))) ((tOp (rIx K) (tVar 0) ((tC (.int 1))))))) tNil))) ((tC (.int 998244353))))) (gName 3))
  (tSeq (tAsg ((tOp rModU ((tCB rIntU (tCons ((tOp (rAddU K) ((tOp (rMulU K) (tVar 3) (tVar 3))) ((tC (.int 69621))))) tNil))) ((tC (.int 2147483647))))) (gName 3))
  ((tRet ((tOp rModU ((tCB rIntU (tCons ((tOp rFdivU (tVar 3) ((tC (.int 7))))) tNil))) (tVar 1)))))))))
theorem len_law_cell {K : PySem.W.Frag} {vs : List V} {H : Hp} {Q : VK} {E : XK} (h : sp_law_cell K vs H Q E) : vs.length = 2 := by
  obtain ⟨a, ns, k, rfl, _⟩ := h; rfl
theorem len_law_pool {K : PySem.W.Frag} {vs : List V} {H : Hp} {Q : VK} {E : XK} (h : sp_law_pool K vs H Q E) : vs.length = 2 := by
  obtain ⟨a, ns, k, rfl, _⟩ := h; rfl
theorem len_law_draw {K : PySem.W.Frag} {vs : List V} {H : Hp} {Q : VK} {E : XK} (h : sp_law_draw K vs H Q E) : vs.length = 2 := by
  obtain ⟨a, m, rfl, _⟩ := h; rfl
abbrev En (Q : VK) : Ends := { nx := fun _ H' => Q .non H', rt := Q }
theorem atI_ints {ns : List Int} {k : Int} (h0 : 0 ≤ k) (h1 : k < (ns.length : Int)) : ∃ n, atI (ns.map V.int) k = some (.int n) ∧ ns[k.toNat]? = some n := by
  have h2 : k.toNat < ns.length := by omega
  refine ⟨ns[k.toNat], ?_, List.getElem?_eq_getElem h2⟩
  have e : ((k.toNat : Nat) : Int) = k := by omega
  have h3 : (ns.map V.int)[k.toNat]? = some (.int ns[k.toNat]) := by rw [List.getElem?_map, List.getElem?_eq_getElem h2]; rfl
  have h4 := atI_nat h3
  rw [e] at h4
  exact h4
theorem pure_law_cell {K : PySem.W.Frag} {vs : List V} {H : Hp} {Q : VK} {E : XK} (h : sp_law_cell K vs H Q E) : t_law_cell K (En Q) (start N_law_cell vs) H := by
  obtain ⟨a, ns, k, rfl, hS, hn, hk, q⟩ := h
  unfold t_law_cell
  walk_at "rd"
  rw [List.length_map]
  refine r_ite (fun hlt => ?_) (fun hge => ?_)
  · obtain ⟨n, e1, _⟩ := atI_ints hk hlt
    walk_at "rd"
    exact q _
  · walk_at "rd"
    rw [List.length_map]
    refine r_ite (fun h0 => ?_) (fun h0 => ?_)
    · walk_at "rd"
      exact q _
    · have hp : (0 : Int) < ((ns.map V.int).length : Int) := by rw [List.length_map]; omega
      walk_at "rd"
      obtain ⟨n, e1, _⟩ := atI_ints (ns := ns) (k := k % ((ns.map V.int).length : Int)) (Int.emod_nonneg _ (by omega)) (by rw [List.length_map] at hp ⊢; exact Int.emod_lt_of_pos _ hp)
      walk_at "rd"
      exact q _
theorem c18 : CPow 10 18 := ⟨by decide, by decide, by decide⟩
theorem pure_law_pool {K : PySem.W.Frag} {vs : List V} {H : Hp} {Q : VK} {E : XK} (h : sp_law_pool K vs H Q E) : t_law_pool K (En Q) (start N_law_pool vs) H := by
  obtain ⟨a, ns, k, rfl, hS, hn, hk, q⟩ := h
  unfold t_law_pool
  walk_at "rd"
  refine ⟨a, ns, k, rfl, hS, hn, hk, fun n => ?_⟩
  walk_at "rd"
  refine r_pow c18 ?_
  walk_at "rd"
  refine r_ite (fun h1 => ?_) (fun h1 => ?_)
  · walk_at "rd"
    refine r_pow c18 ?_
    walk_at "rd"
    intro p H' hp s e
    exact q p H' hp s ⟨_, _, _, e⟩
  · walk_at "rd"
    intro p H' hp s e
    exact q p H' hp s ⟨_, _, _, e⟩
theorem log2_small {m : Int} (h0 : 0 < m) (h1 : m < 2 ^ 200) : m.natAbs.log2 < 9000 := (wide_div (i := 0) h0 (b := 200) (by omega) (by decide) (by decide)).2
theorem pure_law_draw {K : PySem.W.Frag} {vs : List V} {H : Hp} {Q : VK} {E : XK} (h : sp_law_draw K vs H Q E) : t_law_draw K (En Q) (start N_law_draw vs) H := by
  obtain ⟨p, m, rfl, ⟨x, y, z, hp⟩, h0, h1, q⟩ := h
  have hl := log2_small h0 h1
  unfold t_law_draw
  walk_at "rd"
  intro H1 b1 e1
  have e1 : H1 p = some (.lst [.int x, .int y, .int (z + 1)]) := e1
  walk_at "rd"
  refine r_ite (fun hx => ?_) (fun hx => ?_)
  · walk_at "rd"
    refine r_fdiv h0 hl ?_
    walk_at "rd"
    intro H2 b2 e2
    walk_at "rd"
    exact q _ _ (Int.emod_nonneg _ (by omega)) (Int.emod_lt_of_pos _ h0) (b1.trans b2) ⟨_, _, _, e2⟩
  · walk_at "rd"
    refine r_fdiv (by decide) (by decide) ?_
    walk_at "rd"
    exact q _ _ (Int.emod_nonneg _ (by omega)) (Int.emod_lt_of_pos _ h0) b1 ⟨_, _, _, e1⟩
end Kb
set_option Elab.async false
set_option linter.all false
set_option maxRecDepth 100000
set_option maxHeartbeats 4000000
namespace Kb
open PySem PySem.Spec PyProof.Rows L2
section
variable {K : PySem.W.Frag} {D : Ends} {σ : L2.St} {H : Hp} {tb : TS} {te ta : TE} {g : TG} {c : TT} {i j : Nat} {m n l : Int} {R : It → Hp → Prop}
/-- the body of a while, from a state that holds with the measure m -/
def PBody (W : Nat → L2.St → Hp → Prop) (m : Nat) (tb : TS) (D : Ends) (σ : L2.St) (H : Hp) : Prop := ∃ N : L2.St → Hp → Prop, (∀ σ' H', N σ' H' → ∃ m', m' < m ∧ W m' σ' H') ∧ tb { D with nx := N, ct := N, bk := D.nx } σ H
theorem r_while (W : Nat → L2.St → Hp → Prop) (m : Nat) (h0 : W m σ H)
    (hs : ∀ m σ H, W m σ H → c σ H fun b H1 => if b = true then PBody W m tb D σ H1 else D.nx σ H1) : tWhile c tb D σ H := ⟨W, ⟨m, h0⟩, hs⟩
theorem r_body {W : Nat → L2.St → Hp → Prop} {m : Nat} (h : tb { D with nx := fun σ' H' => ∃ m', m' < m ∧ W m' σ' H', ct := fun σ' H' => ∃ m', m' < m ∧ W m' σ' H', bk := D.nx } σ H) : PBody W m tb D σ H := ⟨_, fun _ _ h => h, h⟩
def PFor (J : It) (g : TG) (tb : TS) (D : Ends) (σ : L2.St) (H : Hp) : Prop := ∃ W : Nat → Nat → L2.St → Hp → Prop, (∃ m, W 0 m σ H) ∧ ∀ i m σ H, W i m σ H →
  (J.stop i H ∧ D.nx σ H) ∨ (J.go i H ∧ ∃ N : L2.St → Hp → Prop, (∀ σ' H', N σ' H' → ∃ m', m' < m ∧ W (i + 1) m' σ' H') ∧ ∀ x H', J.yld i H x H' → g x σ H' fun σ2 H2 => tb { D with nx := N, ct := N, bk := D.nx } σ2 H2)
theorem r_for {wi : TI} (h : wi σ H fun J H1 => PFor J g tb D σ H1) : tFor wi g tb D σ H := h
def PR1 (vs : List V) (R : It → Prop) : Prop := ∃ j : Int, vs = [.int j] ∧ -(2 ^ 62) ≤ j ∧ j < 2 ^ 62 ∧ R (Itr 0 j.toNat)
def PR2 (vs : List V) (R : It → Prop) : Prop := ∃ i j : Int, vs = [.int i, .int j] ∧ (-(2 ^ 62) ≤ i ∧ i < 2 ^ 62 ∧ -(2 ^ 62) ≤ j ∧ j < 2 ^ 62) ∧ R (Itr i (j - i).toNat)
def PR3 (vs : List V) (R : It → Prop) : Prop := ∃ (i j c : Int) (n : Nat), vs = [.int i, .int j, .int c] ∧ RgC i j c n ∧ R (Itc i c n)
theorem r_rng1 {ts : TA} (h : ts σ H fun vs H1 => PR1 vs fun J => R J H1) : iRng1 ts σ H R := h
theorem r_rng2 {ts : TA} (h : ts σ H fun vs H1 => PR2 vs fun J => R J H1) : iRng2 ts σ H R := h
theorem r_rng3 {ts : TA} (h : ts σ H fun vs H1 => PR3 vs fun J => R J H1) : iRng3 ts σ H R := h
theorem r_pr1 {R : It → Prop} (h : -(2 ^ 62) ≤ m ∧ m < 2 ^ 62) (q : R (Itr 0 m.toNat)) : PR1 [.int m] R := ⟨m, rfl, h.1, h.2, q⟩
theorem r_pr2 {R : It → Prop} (h : -(2 ^ 62) ≤ l ∧ l < 2 ^ 62 ∧ -(2 ^ 62) ≤ m ∧ m < 2 ^ 62) (q : R (Itr l (m - l).toNat)) : PR2 [.int l, .int m] R := ⟨l, m, rfl, h, q⟩
theorem r_pr3d {R : It → Prop} (h : -(2 ^ 62) ≤ l ∧ l < 2 ^ 62 ∧ -(2 ^ 62) ≤ m ∧ m < 2 ^ 62) (q : R (Itc l (-1) (l - m).toNat)) : PR3 [.int l, .int m, .int (-1)] R := ⟨l, m, -1, _, rfl, RgC.neg h.1 h.2.1 h.2.2.1 h.2.2.2, q⟩
theorem r_forRange {lo : Int} {n : Nat} (Pv : Nat → L2.St → Hp → Prop) (h0 : Pv 0 σ H)
    (hs : ∀ i σ' H', i < n → Pv i σ' H' → tb { D with nx := Pv (i + 1), ct := Pv (i + 1), bk := D.nx } (σ'.set j (some (.int (lo + (i : Int))))) H')
    (hd : ∀ σ' H', Pv n σ' H' → D.nx σ' H') : PFor (Itr lo n) (gName j) tb D σ H := for_range Pv h0 hs hd
theorem r_forRange0 {n : Nat} (Pv : Nat → L2.St → Hp → Prop) (h0 : Pv 0 σ H)
    (hs : ∀ i σ' H', i < n → Pv i σ' H' → tb { D with nx := Pv (i + 1), ct := Pv (i + 1), bk := D.nx } (σ'.set j (some (.int (i : Int)))) H')
    (hd : ∀ σ' H', Pv n σ' H' → D.nx σ' H') : PFor (Itr 0 n) (gName j) tb D σ H := for_range Pv h0 (fun i σ' H' hi p => by
      show tb _ (σ'.set j (some (.int ((0 : Int) + (i : Int))))) H'
      rw [Int.zero_add]
      exact hs i σ' H' hi p) hd
def PSeqT (K : PySem.W.Frag) (x : V) (H : Hp) (R : It → Hp → Prop) : Prop := ∃ a, x = .ref a ∧ (∃ xs, SqT K H a xs) ∧ R (Itt K a) H
def PSeqL (K : PySem.W.Frag) (x : V) (H : Hp) (R : It → Hp → Prop) : Prop := ∃ a, x = .ref a ∧ (∃ xs, SqL K H a xs) ∧ R (Itl K a) H
def PSeqS (x : V) (H : Hp) (R : It → Hp → Prop) : Prop := ∃ z, x = .str z ∧ R (Its z) H
theorem r_seqT (h : te σ H fun x H1 => PSeqT K x H1 R) : iSeqU K te σ H R := .inr (.inl h)
theorem r_seqL (h : te σ H fun x H1 => PSeqL K x H1 R) : iSeqU K te σ H R := .inl h
theorem r_seqS (h : te σ H fun x H1 => PSeqS x H1 R) : iSeqU K te σ H R := .inr (.inr h)
theorem r_pseqT {a : Addr} {xs : List V} (h : SqT K H a xs) (q : R (Itt K a) H) : PSeqT K (.ref a) H R := ⟨a, rfl, ⟨xs, h⟩, q⟩
theorem r_pseqL {a : Addr} {xs : List V} (h : SqL K H a xs) (q : R (Itl K a) H) : PSeqL K (.ref a) H R := ⟨a, rfl, ⟨xs, h⟩, q⟩
theorem r_pseqS {z : Str} (q : R (Its z) H) : PSeqS (.str z) H R := ⟨z, rfl, q⟩
theorem r_forTup {a : Addr} {xs : List V} (Pv : Nat → L2.St → Hp → Prop) (h0 : Pv 0 σ H) (hl : ∀ i σ' H', i ≤ xs.length → Pv i σ' H' → SqT K H' a xs)
    (hs : ∀ i x σ' H', xs[i]? = some x → Pv i σ' H' → g x σ' H' fun σ2 H2 => tb { D with nx := Pv (i + 1), ct := Pv (i + 1), bk := D.nx } σ2 H2)
    (hd : ∀ σ' H', Pv xs.length σ' H' → D.nx σ' H') : PFor (Itt K a) g tb D σ H := for_tup Pv h0 hl hs hd
theorem r_forLst {a : Addr} {xs : List V} (Pv : Nat → L2.St → Hp → Prop) (h0 : Pv 0 σ H) (hl : ∀ i σ' H', i ≤ xs.length → Pv i σ' H' → SqL K H' a xs)
    (hs : ∀ i x σ' H', xs[i]? = some x → Pv i σ' H' → g x σ' H' fun σ2 H2 => tb { D with nx := Pv (i + 1), ct := Pv (i + 1), bk := D.nx } σ2 H2)
    (hd : ∀ σ' H', Pv xs.length σ' H' → D.nx σ' H') : PFor (Itl K a) g tb D σ H := for_list Pv h0 hl hs hd
def PLc (J : It) (g : TG) (tt : TT) (te : TE) (vs : List Nat) (σ : L2.St) (H1 : Hp) (Q : VK) : Prop := ∀ D, H1 D = none → ∃ W : Nat → Nat → Hp → Prop, (∃ m, W 0 m (upd H1 D (.lst []))) ∧ ∀ i m H, W i m H →
  (J.stop i H ∧ Q (.ref D) H) ∨ (J.go i H ∧ ∃ Nx : Hp → Prop, (∀ H', Nx H' → ∃ m', m' < m ∧ W (i + 1) m' H') ∧ ∀ x H', J.yld i H x H' → g x (wipe σ vs) H' fun σ2 H2 => wipe σ2 vs = wipe σ vs ∧ tt σ2 H2 fun b H3 =>
    if b = true then te σ2 H3 fun y H4 => ∃ acc, H4 D = some (.lst acc) ∧ acc.length < sizeLine ∧ Nx (upd H4 D (.lst (acc ++ [y]))) else Nx H3)
theorem r_lc {wi : TI} {tt : TT} {vs : List Nat} {Q : VK} (h : wi σ H fun J H1 => PLc J g tt te vs σ H1 Q) : tLc wi g tt te vs σ H Q := h
theorem r_yes {QB : Bool → Hp → Prop} (q : QB true H) : tYes σ H QB := q
/-- the made item goes into the list at D -/
def PAcc (D : Addr) (Nx : Hp → Prop) (y : V) (H : Hp) : Prop := ∃ acc, H D = some (.lst acc) ∧ acc.length < sizeLine ∧ Nx (upd H D (.lst (acc ++ [y])))
theorem r_acc {D : Addr} {Nx : Hp → Prop} {y : V} {acc : List V} (h : H D = some (.lst acc)) (hz : acc.length ≤ 1000000) (k : ∀ H', But D H H' → H' D = some (.lst (acc ++ [y])) → Nx H') : PAcc D Nx y H :=
  ⟨acc, h, by rw [sizeLine_eq]; omega, k _ but_upd upd_same⟩
/-- over a tuple: Pv tells the new list's place, the turn, the heap -/
theorem r_lcT {a : Addr} {xs : List V} {Q : VK} {tt : TT} {vs : List Nat} (Pv : Addr → Nat → Hp → Prop) (hw : ∀ x, wipe ((wipe σ vs).set j (some x)) vs = wipe σ vs)
    (h0 : ∀ D H', H D = none → Same H H' → H' D = some (.lst []) → Pv D 0 H') (hl : ∀ D i H', Pv D i H' → SqT K H' a xs)
    (hs : ∀ D i x H', xs[i]? = some x → Pv D i H' → tt ((wipe σ vs).set j (some x)) H' fun b H3 => if b = true then te ((wipe σ vs).set j (some x)) H3 (fun y H4 => PAcc D (Pv D (i + 1)) y H4) else Pv D (i + 1) H3)
    (hd : ∀ D H', H D = none → Pv D xs.length H' → Q (.ref D) H') : PLc (Itt K a) (gName j) tt te vs σ H Q := by
  intro D hD
  exact lc_tup (xs := xs) (Pv D) (h0 D _ hD (same_new hD) upd_same) (fun i H' _ p => hl D i H' p) (fun i x H' hi p => ⟨hw x, hs D i x H' hi p⟩) (fun H' p => hd D H' hD p)
theorem r_lcR {lo : Int} {n : Nat} {Q : VK} {tt : TT} {vs : List Nat} (Pv : Addr → Nat → Hp → Prop) (hw : ∀ x, wipe ((wipe σ vs).set j (some x)) vs = wipe σ vs)
    (h0 : ∀ D H', H D = none → Same H H' → H' D = some (.lst []) → Pv D 0 H')
    (hs : ∀ D i H', i < n → Pv D i H' → tt ((wipe σ vs).set j (some (.int (lo + (i : Int))))) H' fun b H3 => if b = true then te ((wipe σ vs).set j (some (.int (lo + (i : Int))))) H3 (fun y H4 => PAcc D (Pv D (i + 1)) y H4) else Pv D (i + 1) H3)
    (hd : ∀ D H', H D = none → Pv D n H' → Q (.ref D) H') : PLc (Itr lo n) (gName j) tt te vs σ H Q := by
  intro D hD
  exact lc_range (Pv D) (h0 D _ hD (same_new hD) upd_same) (fun i H' hi p => ⟨hw _, hs D i H' hi p⟩) (fun H' p => hd D H' hD p)
end
end Kb
set_option Elab.async false
set_option linter.all false
set_option maxRecDepth 100000
set_option maxHeartbeats 4000000
namespace Kb
open PySem PySem.Spec PyProof.Rows L2
inductive Dat where | int (i : Int) | bl (b : Bool) | str (s : Str) | non | tup (ds : List Dat)
mutual
def Dat.size : Dat → Nat
  | .tup ds => 1 + Dat.sizes ds
  | _ => 1
def Dat.sizes : List Dat → Nat
  | [] => 0
  | d :: ds => d.size + Dat.sizes ds
end
mutual
inductive Rp (K : PySem.W.Frag) (H : Hp) : V → Dat → Prop
  | int (i : Int) : Rp K H (.int i) (.int i)
  | bl (b : Bool) : Rp K H (.bl b) (.bl b)
  | str (s : Str) : Rp K H (.str s) (.str s)
  | non : Rp K H .non .non
  | tup {a : Addr} {xs : List V} {ds : List Dat} : SqT K H a xs → RpL K H xs ds → Rp K H (.ref a) (.tup ds)
inductive RpL (K : PySem.W.Frag) (H : Hp) : List V → List Dat → Prop
  | nil : RpL K H [] []
  | cons {v : V} {vs : List V} {d : Dat} {ds : List Dat} : Rp K H v d → RpL K H vs ds → RpL K H (v :: vs) (d :: ds)
end
section
variable {K : PySem.W.Frag} {H H' : Hp} {l : Addr} {ys : List V}
/-- tuples stay -/
def TK (K : PySem.W.Frag) (H H' : Hp) : Prop := ∀ a xs, SqT K H a xs → SqT K H' a xs
theorem tk_same (s : Same H H') : TK K H H' := fun _ _ h => sqT_same s h
theorem tk_but (b : But l H H') (hl : H l = some (.lst ys)) : TK K H H' := fun _ _ h => sqT_but b hl h
mutual
theorem rp_keep (k : TK K H H') : ∀ {v : V} {d : Dat}, Rp K H v d → Rp K H' v d
  | _, _, .int i => .int i
  | _, _, .bl b => .bl b
  | _, _, .str s => .str s
  | _, _, .non => .non
  | _, _, .tup h hr => .tup (k _ _ h) (rpL_keep k hr)
theorem rpL_keep (k : TK K H H') : ∀ {vs : List V} {ds : List Dat}, RpL K H vs ds → RpL K H' vs ds
  | _, _, .nil => .nil
  | _, _, .cons h hr => .cons (rp_keep k h) (rpL_keep k hr)
end
theorem rp_same {v : V} {d : Dat} (s : Same H H') (h : Rp K H v d) : Rp K H' v d := rp_keep (tk_same s) h
theorem rp_but {v : V} {d : Dat} (b : But l H H') (hl : H l = some (.lst ys)) (h : Rp K H v d) : Rp K H' v d := rp_keep (tk_but b hl) h
theorem rpL_length : ∀ {vs : List V} {ds : List Dat}, RpL K H vs ds → vs.length = ds.length
  | _, _, .nil => rfl
  | _, _, .cons _ hr => by simp [rpL_length hr]
theorem rpL_get : ∀ {vs : List V} {ds : List Dat} {i : Nat} {d : Dat}, RpL K H vs ds → ds[i]? = some d → ∃ v, vs[i]? = some v ∧ Rp K H v d
  | _, _, _, _, .nil, e => by simp at e
  | _, _, 0, _, .cons h _, e => by simp at e; subst e; exact ⟨_, rfl, h⟩
  | _, _, i + 1, _, .cons _ hr, e => by
    obtain ⟨v, h1, h2⟩ := rpL_get (i := i) hr (by simpa using e)
    exact ⟨v, by simpa using h1, h2⟩
end
section
variable {K : PySem.W.Frag} {H : Hp} {Q : VK}
theorem r_isiT {a : Addr} {xs : List V} {b : Bool} {T : String} (h : SqT K H a xs) (hb : kitB "tuple" T = some b) (q : Q (.bl b) H) : rIsi K [.ref a, .ty T] H Q := by
  refine ⟨.ref a, .ty T, .type "tuple", .type T, b, rfl, .ty T, ?_, kit_ty hb, q⟩
  rcases h with (h | ⟨o, h⟩) | h
  · exact .base (.tup h)
  · exact .fTuple h
  · obtain ⟨o, its, n, h1, h2, _⟩ := h
    exact .kTuple h1 h2
theorem r_isiI {i : Int} {b : Bool} {T : String} (hb : kitB "int" T = some b) (q : Q (.bl b) H) : rIsi K [.int i, .ty T] H Q := ⟨_, _, _, _, b, rfl, .ty T, .base (.int i), kit_ty hb, q⟩
theorem r_isiB {i : Bool} {b : Bool} {T : String} (hb : kitB "bool" T = some b) (q : Q (.bl b) H) : rIsi K [.bl i, .ty T] H Q := ⟨_, _, _, _, b, rfl, .ty T, .base (.bl i), kit_ty hb, q⟩
theorem r_isiS {i : Str} {b : Bool} {T : String} (hb : kitB "str" T = some b) (q : Q (.bl b) H) : rIsi K [.str i, .ty T] H Q := ⟨_, _, _, _, b, rfl, .ty T, .base (.str i), kit_ty hb, q⟩
theorem r_isiN {b : Bool} {T : String} (hb : kitB "NoneType" T = some b) (q : Q (.bl b) H) : rIsi K [.non, .ty T] H Q := ⟨_, _, _, _, b, rfl, .ty T, .base .non, kit_ty hb, q⟩
end
local macro_rules | `(tactic| walk_at "tk") => `(tactic| first
  | assumption
  | ((with_reducible refine' sqT_of ?k); (case k => assumption))
  | ((with_reducible refine' sqT_ofD ?k); (case k => assumption))
  | ((with_reducible refine' noD_of ?k); (case k => assumption))
  | ((with_reducible refine' noD_same ?s ?k); (case s => assumption); (case k => walk_at "tk"))
  | ((with_reducible refine' sqL_of ?k); (case k => assumption))
  | ((with_reducible refine' sqT_same ?s ?k); (case s => assumption); (case k => walk_at "tk"))
  | ((with_reducible refine' sqL_same ?s ?k); (case s => assumption); (case k => walk_at "tk"))
  | ((with_reducible refine' sqT_but ?s ?t ?k); (case s => assumption); (case t => walk_at "tk"); (case k => walk_at "tk"))
  | ((with_reducible refine' sqL_but ?s ?t ?k); (case s => assumption); (case t => walk_at "ne"); (case k => walk_at "tk"))
  | ((with_reducible refine' sqL_of ?k); (case k => walk_at "tk"))
  | ((with_reducible refine' sqT_of ?k); (case k => walk_at "tk"))
  | ((with_reducible refine' at_same ?s ?k); (case s => assumption); (case k => walk_at "tk"))
  | ((with_reducible refine' at_but ?s ?t ?k); (case s => assumption); (case t => walk_at "ne"); (case k => walk_at "tk")))
local macro_rules | `(tactic| walk_at "ne") => `(tactic| first
  | assumption
  | (refine Ne.symm ?_; assumption)
  | exact ne_of_none (by assumption) (by assumption)
  | exact (ne_of_none (by assumption) (by assumption)).symm)
local macro_rules | `(tactic| walk_at "side") => `(tactic| first
  | assumption
  | omega
  | (simp only [sizeLine_eq, List.length_cons, List.length_nil, List.length_map]; omega)
  | (show _ ≤ sizeLine; decide))
local macro_rules | `(tactic| walk_at "kit") => `(tactic| first
  | (show kitB _ _ = some true; decide +kernel)
  | (show kitB _ _ = some false; decide +kernel))
local macro_rules | `(tactic| walk_at "rng") => `(tactic| first
  | (refine ⟨by omega, by omega, by omega, by omega⟩)
  | (refine ⟨by omega, by omega⟩)
  | ((simp only [List.length_map]); (refine ⟨by omega, by omega, by omega, by omega⟩))
  | ((simp only [List.length_map]); (refine ⟨by omega, by omega⟩)))
local macro_rules | `(tactic| walk_at "rd1") => `(tactic| first
  | with_reducible refine r_seq ?_
  | ((with_reducible refine' r_var ?k0 ?_); (case k0 => rfl))
  | with_reducible refine r_op ?_
  | with_reducible refine r_c ?_
  | with_reducible refine r_asg ?_
  | with_reducible refine r_name ?_
  | with_reducible refine r_cons ?_
  | with_reducible refine r_nil ?_
  | with_reducible refine r_CB ?_
  | with_reducible refine r_if ?_
  | with_reducible refine r_test ?_
  | with_reducible refine r_k ?_
  | with_reducible refine r_T ?_
  | with_reducible refine r_F ?_
  | with_reducible refine r_nT ?_
  | with_reducible refine r_nF ?_
  | with_reducible refine r_ret ?_
  | with_reducible refine r_drop ?_
  | with_reducible refine r_next ?_
  | with_reducible refine r_call ?_
  | with_reducible refine r_addI ?_
  | with_reducible refine r_subI ?_
  | with_reducible refine r_ltI ?_
  | with_reducible refine r_gtI ?_
  | with_reducible refine r_leI ?_
  | with_reducible refine r_geI ?_
  | with_reducible refine r_eqI ?_
  | with_reducible refine r_neI ?_
  | with_reducible refine r_int ?_
  | with_reducible refine r_abs ?_
  | with_reducible refine r_not ?_
  | with_reducible refine r_and ?_
  | with_reducible refine r_or ?_
  | with_reducible refine r_tru ?_
  | with_reducible refine r_truB ?_
  | with_reducible refine r_lst ?_
  | with_reducible refine r_tup ?_
  | with_reducible refine r_BM ?_
  | with_reducible refine r_BM0 ?_
  | with_reducible refine r_tyS ?_
  | with_reducible refine r_gsub ?_
  | with_reducible refine r_then ?_
  | with_reducible refine r_lstRg ?_
  | with_reducible refine r_tupRg ?_
  | with_reducible refine r_rg2 ?_
  | with_reducible refine r_rg1 ?_
  | with_reducible refine r_ii ?_
  | with_reducible refine r_i ?_
  | with_reducible refine r_ipI ?_
  | with_reducible refine r_un ?_
  | with_reducible refine r_neg ?_
  | with_reducible refine r_isN ?_
  | with_reducible refine r_notN ?_
  | with_reducible refine r_notV ?_
  | with_reducible refine r_pnot ?_
  | with_reducible refine r_pif ?_
  | with_reducible refine r_andV ?_
  | with_reducible refine r_orV ?_
  | with_reducible refine r_ifE ?_
  | with_reducible refine r_chain ?_
  | with_reducible refine r_sl ?_
  | with_reducible refine r_noPart ?_
  | with_reducible refine r_part ?_
  | with_reducible refine r_brk ?_
  | with_reducible refine r_cont ?_
  | with_reducible refine r_retN ?_
  | with_reducible refine r_truI ?_
  | with_reducible refine r_B ?_
  | with_reducible refine r_for ?_
  | with_reducible refine r_rng1 ?_
  | with_reducible refine r_rng2 ?_
  | with_reducible refine r_rng3 ?_
  | with_reducible refine r_body ?_
  | with_reducible refine r_lc ?_
  | with_reducible refine r_yes ?_
  | ((with_reducible refine' r_mod ?k0 ?_); (case k0 => walk_at "side"))
  | ((with_reducible refine' r_mulI ?k0 ?_); (case k0 => first | exact Or.inl ⟨by omega, by omega⟩ | exact Or.inr ⟨by omega, by omega⟩))
  | ((with_reducible refine' r_lenL ?k0 ?_); (case k0 => walk_at "tk"))
  | ((with_reducible refine' r_lenT ?k0 ?_); (case k0 => walk_at "tk"))
  | ((with_reducible refine' r_truL ?k0 ?_); (case k0 => walk_at "tk"))
  | ((with_reducible refine' r_truT ?k0 ?_); (case k0 => walk_at "tk"))
  | ((with_reducible refine' r_ixL ?k0 ?k1 ?_); (case k0 => walk_at "tk"); (case k1 => first | assumption | rfl))
  | ((with_reducible refine' r_ixT ?k0 ?k1 ?_); (case k0 => walk_at "tk"); (case k1 => first | assumption | rfl))
  | ((with_reducible refine' r_new ?k0 ?_); (case k0 => walk_at "side"))
  | ((with_reducible refine' r_tyL ?k0 ?_); (case k0 => walk_at "tk"))
  | ((with_reducible refine' r_append ?k0 ?k1 ?_); (case k0 => walk_at "tk"); (case k1 => walk_at "side"))
  | ((with_reducible refine' r_setL ?k0 ?k1 ?_); (case k0 => walk_at "tk"); (case k1 => first | assumption | rfl))
  | ((with_reducible refine' r_kTupL ?k0 ?_); (case k0 => walk_at "tk"))
  | ((with_reducible refine' r_kTupT ?k0 ?_); (case k0 => walk_at "tk"))
  | ((with_reducible refine' r_listL ?k0 ?_); (case k0 => walk_at "tk"))
  | ((with_reducible refine' r_listT ?k0 ?_); (case k0 => walk_at "tk"))
  | ((with_reducible refine' r_aug ?k0 ?_); (case k0 => rfl))
  | ((with_reducible refine' r_lenS ?k0 ?_); (case k0 => walk_at "side"))
  | ((with_reducible refine' r_pop ?k0 ?_); (case k0 => walk_at "tk"))
  | ((with_reducible refine' r_pr1 ?k0 ?_); (case k0 => walk_at "rng"))
  | ((with_reducible refine' r_pr2 ?k0 ?_); (case k0 => walk_at "rng"))
  | ((with_reducible refine' r_pr3d ?k0 ?_); (case k0 => walk_at "rng"))
  | ((with_reducible refine' r_isiI ?k0 ?_); (case k0 => walk_at "kit"))
  | ((with_reducible refine' r_isiB ?k0 ?_); (case k0 => walk_at "kit"))
  | ((with_reducible refine' r_isiS ?k0 ?_); (case k0 => walk_at "kit"))
  | ((with_reducible refine' r_isiN ?k0 ?_); (case k0 => walk_at "kit"))
  | ((with_reducible refine' r_isiT ?k0 ?k1 ?_); (case k0 => walk_at "tk"); (case k1 => walk_at "kit"))
  | ((with_reducible refine r_seqT ?_); (repeat (walk_at "rd1")); ((with_reducible refine' r_pseqT ?k0 ?_); (case k0 => walk_at "tk")))
  | ((with_reducible refine r_seqL ?_); (repeat (walk_at "rd1")); ((with_reducible refine' r_pseqL ?k0 ?_); (case k0 => walk_at "tk")))
  | ((with_reducible refine r_seqS ?_); (repeat (walk_at "rd1")); (with_reducible refine r_pseqS ?_)))
local macro_rules | `(tactic| walk_at "rd") => `(tactic| ((repeat (walk_at "rd1")); (try dsimp only)))
structure Item where
  q : Addr
  x : V
  y : V
  d : Dat
def Items (K : PySem.W.Frag) (H : Hp) (s : Addr) (its : List Item) : Prop := ∀ it ∈ its, it.q ≠ s ∧ H it.q = some (.lst [it.x, it.y]) ∧ Rp K H it.x it.d ∧ Rp K H it.y it.d
theorem Items.same {K : PySem.W.Frag} {H H' : Hp} {s : Addr} {its : List Item} (h : Items K H s its) (e : Same H H') : Items K H' s its := fun it hi =>
  let ⟨a, b, c, d⟩ := h it hi
  ⟨a, e _ _ b, rp_same e c, rp_same e d⟩
end Kb
set_option maxRecDepth 100000
set_option linter.all false
namespace Kb
def nx (r : List Int) (b : Int) : Int := r.getD (b - 1).toNat 0
end Kb
set_option Elab.async false
set_option linter.all false
set_option maxRecDepth 100000
set_option maxHeartbeats 4000000
namespace Kb
open PySem PySem.Spec PyProof.Rows L2
local macro_rules | `(tactic| walk_at "tk") => `(tactic| first
  | assumption
  | ((with_reducible refine' sqT_of ?k); (case k => assumption))
  | ((with_reducible refine' sqT_ofD ?k); (case k => assumption))
  | ((with_reducible refine' noD_of ?k); (case k => assumption))
  | ((with_reducible refine' noD_same ?s ?k); (case s => assumption); (case k => walk_at "tk"))
  | ((with_reducible refine' sqL_of ?k); (case k => assumption))
  | ((with_reducible refine' sqT_same ?s ?k); (case s => assumption); (case k => walk_at "tk"))
  | ((with_reducible refine' sqL_same ?s ?k); (case s => assumption); (case k => walk_at "tk"))
  | ((with_reducible refine' sqT_but ?s ?t ?k); (case s => assumption); (case t => walk_at "tk"); (case k => walk_at "tk"))
  | ((with_reducible refine' sqL_but ?s ?t ?k); (case s => assumption); (case t => walk_at "ne"); (case k => walk_at "tk"))
  | ((with_reducible refine' sqL_of ?k); (case k => walk_at "tk"))
  | ((with_reducible refine' sqT_of ?k); (case k => walk_at "tk"))
  | ((with_reducible refine' at_same ?s ?k); (case s => assumption); (case k => walk_at "tk"))
  | ((with_reducible refine' at_but ?s ?t ?k); (case s => assumption); (case t => walk_at "ne"); (case k => walk_at "tk")))
local macro_rules | `(tactic| walk_at "ne") => `(tactic| first
  | assumption
  | (refine Ne.symm ?_; assumption)
  | exact ne_of_none (by assumption) (by assumption)
  | exact (ne_of_none (by assumption) (by assumption)).symm)
local macro_rules | `(tactic| walk_at "side") => `(tactic| first
  | assumption
  | omega
  | (simp only [sizeLine_eq, List.length_cons, List.length_nil, List.length_map]; omega)
  | (show _ ≤ sizeLine; decide))
local macro_rules | `(tactic| walk_at "kit") => `(tactic| first
  | (show kitB _ _ = some true; decide +kernel)
  | (show kitB _ _ = some false; decide +kernel))
local macro_rules | `(tactic| walk_at "rng") => `(tactic| first
  | (refine ⟨by omega, by omega, by omega, by omega⟩)
  | (refine ⟨by omega, by omega⟩)
  | ((simp only [List.length_map]); (refine ⟨by omega, by omega, by omega, by omega⟩))
  | ((simp only [List.length_map]); (refine ⟨by omega, by omega⟩)))
local macro_rules | `(tactic| walk_at "rd1") => `(tactic| first
  | with_reducible refine r_seq ?_
  | ((with_reducible refine' r_var ?k0 ?_); (case k0 => rfl))
  | with_reducible refine r_op ?_
  | with_reducible refine r_c ?_
  | with_reducible refine r_asg ?_
  | with_reducible refine r_name ?_
  | with_reducible refine r_cons ?_
  | with_reducible refine r_nil ?_
  | with_reducible refine r_CB ?_
  | with_reducible refine r_if ?_
  | with_reducible refine r_test ?_
  | with_reducible refine r_k ?_
  | with_reducible refine r_T ?_
  | with_reducible refine r_F ?_
  | with_reducible refine r_nT ?_
  | with_reducible refine r_nF ?_
  | with_reducible refine r_ret ?_
  | with_reducible refine r_drop ?_
  | with_reducible refine r_next ?_
  | with_reducible refine r_call ?_
  | with_reducible refine r_addI ?_
  | with_reducible refine r_subI ?_
  | with_reducible refine r_ltI ?_
  | with_reducible refine r_gtI ?_
  | with_reducible refine r_leI ?_
  | with_reducible refine r_geI ?_
  | with_reducible refine r_eqI ?_
  | with_reducible refine r_neI ?_
  | with_reducible refine r_int ?_
  | with_reducible refine r_abs ?_
  | with_reducible refine r_not ?_
  | with_reducible refine r_and ?_
  | with_reducible refine r_or ?_
  | with_reducible refine r_tru ?_
  | with_reducible refine r_truB ?_
  | with_reducible refine r_lst ?_
  | with_reducible refine r_tup ?_
  | with_reducible refine r_BM ?_
  | with_reducible refine r_BM0 ?_
  | with_reducible refine r_tyS ?_
  | with_reducible refine r_gsub ?_
  | with_reducible refine r_then ?_
  | with_reducible refine r_lstRg ?_
  | with_reducible refine r_tupRg ?_
  | with_reducible refine r_rg2 ?_
  | with_reducible refine r_rg1 ?_
  | with_reducible refine r_ii ?_
  | with_reducible refine r_i ?_
  | with_reducible refine r_ipI ?_
  | with_reducible refine r_un ?_
  | with_reducible refine r_neg ?_
  | with_reducible refine r_isN ?_
  | with_reducible refine r_notN ?_
  | with_reducible refine r_notV ?_
  | with_reducible refine r_pnot ?_
  | with_reducible refine r_pif ?_
  | with_reducible refine r_andV ?_
  | with_reducible refine r_orV ?_
  | with_reducible refine r_ifE ?_
  | with_reducible refine r_chain ?_
  | with_reducible refine r_sl ?_
  | with_reducible refine r_noPart ?_
  | with_reducible refine r_part ?_
  | with_reducible refine r_brk ?_
  | with_reducible refine r_cont ?_
  | with_reducible refine r_retN ?_
  | with_reducible refine r_truI ?_
  | with_reducible refine r_B ?_
  | with_reducible refine r_for ?_
  | with_reducible refine r_rng1 ?_
  | with_reducible refine r_rng2 ?_
  | with_reducible refine r_rng3 ?_
  | with_reducible refine r_body ?_
  | with_reducible refine r_lc ?_
  | with_reducible refine r_yes ?_
  | ((with_reducible refine' r_mod ?k0 ?_); (case k0 => walk_at "side"))
  | ((with_reducible refine' r_mulI ?k0 ?_); (case k0 => first | exact Or.inl ⟨by omega, by omega⟩ | exact Or.inr ⟨by omega, by omega⟩))
  | ((with_reducible refine' r_lenL ?k0 ?_); (case k0 => walk_at "tk"))
  | ((with_reducible refine' r_lenT ?k0 ?_); (case k0 => walk_at "tk"))
  | ((with_reducible refine' r_truL ?k0 ?_); (case k0 => walk_at "tk"))
  | ((with_reducible refine' r_truT ?k0 ?_); (case k0 => walk_at "tk"))
  | ((with_reducible refine' r_ixL ?k0 ?k1 ?_); (case k0 => walk_at "tk"); (case k1 => first | assumption | rfl))
  | ((with_reducible refine' r_ixT ?k0 ?k1 ?_); (case k0 => walk_at "tk"); (case k1 => first | assumption | rfl))
  | ((with_reducible refine' r_new ?k0 ?_); (case k0 => walk_at "side"))
  | ((with_reducible refine' r_tyL ?k0 ?_); (case k0 => walk_at "tk"))
  | ((with_reducible refine' r_append ?k0 ?k1 ?_); (case k0 => walk_at "tk"); (case k1 => walk_at "side"))
  | ((with_reducible refine' r_setL ?k0 ?k1 ?_); (case k0 => walk_at "tk"); (case k1 => first | assumption | rfl))
  | ((with_reducible refine' r_kTupL ?k0 ?_); (case k0 => walk_at "tk"))
  | ((with_reducible refine' r_kTupT ?k0 ?_); (case k0 => walk_at "tk"))
  | ((with_reducible refine' r_listL ?k0 ?_); (case k0 => walk_at "tk"))
  | ((with_reducible refine' r_listT ?k0 ?_); (case k0 => walk_at "tk"))
  | ((with_reducible refine' r_aug ?k0 ?_); (case k0 => rfl))
  | ((with_reducible refine' r_lenS ?k0 ?_); (case k0 => walk_at "side"))
  | ((with_reducible refine' r_pop ?k0 ?_); (case k0 => walk_at "tk"))
  | ((with_reducible refine' r_pr1 ?k0 ?_); (case k0 => walk_at "rng"))
  | ((with_reducible refine' r_pr2 ?k0 ?_); (case k0 => walk_at "rng"))
  | ((with_reducible refine' r_pr3d ?k0 ?_); (case k0 => walk_at "rng"))
  | ((with_reducible refine' r_isiI ?k0 ?_); (case k0 => walk_at "kit"))
  | ((with_reducible refine' r_isiB ?k0 ?_); (case k0 => walk_at "kit"))
  | ((with_reducible refine' r_isiS ?k0 ?_); (case k0 => walk_at "kit"))
  | ((with_reducible refine' r_isiN ?k0 ?_); (case k0 => walk_at "kit"))
  | ((with_reducible refine' r_isiT ?k0 ?k1 ?_); (case k0 => walk_at "tk"); (case k1 => walk_at "kit"))
  | ((with_reducible refine r_seqT ?_); (repeat (walk_at "rd1")); ((with_reducible refine' r_pseqT ?k0 ?_); (case k0 => walk_at "tk")))
  | ((with_reducible refine r_seqL ?_); (repeat (walk_at "rd1")); ((with_reducible refine' r_pseqL ?k0 ?_); (case k0 => walk_at "tk")))
  | ((with_reducible refine r_seqS ?_); (repeat (walk_at "rd1")); (with_reducible refine r_pseqS ?_)))
local macro_rules | `(tactic| walk_at "rd") => `(tactic| ((repeat (walk_at "rd1")); (try dsimp only)))
section
variable {K : PySem.W.Frag} {vs : List V} {H : Hp} {Q : VK} {E : XK}
theorem but_via {p l : Addr} {H H1 H2 : Hp} (a : But p H H1) (b : But l H1 H2) (h : H l = none) : But p H H2 := fun c o n e => b c o (ne_of_none e h) (a c o n e)
end
end Kb
set_option Elab.async false
set_option linter.all false
set_option maxRecDepth 100000
set_option maxHeartbeats 4000000
set_option Elab.async false
set_option linter.all false
set_option maxRecDepth 100000
set_option maxHeartbeats 4000000
set_option Elab.async false
set_option linter.all false
set_option maxRecDepth 100000
set_option maxHeartbeats 4000000
set_option Elab.async false
set_option linter.all false
set_option maxRecDepth 100000
set_option maxHeartbeats 4000000
namespace Kb
open PySem PySem.Spec PyProof.Rows L2
structure Cl where
  c : Value
  slot : Option Nat
  ts : Addr → Value → Option Addr → TS
def endsOf (D : Ends) : Option Nat → Ends
  | none => D
  | some i => { nx := fun σ' H' => D.nx (σ'.set i none) H', rt := D.rt, bk := fun σ' H' => D.bk (σ'.set i none) H', ct := fun σ' H' => D.ct (σ'.set i none) H' }
def setOf (σ : L2.St) (a : Addr) : Option Nat → L2.St
  | none => σ
  | some i => σ.set i (some (.ref a))
/-- what the clauses wish of an exception of the body, one after the other -/
def wAll (K : PySem.W.Frag) (Wout : WX) (D : Ends) : List Cl → WX
  | [] => Wout
  | q :: r => fun cls d σ H => ∃ b, PySem.W.exmOne K cls q.c = some b ∧ (b = true → ∀ a, H a = none → q.ts a cls d (endsOf D q.slot) (setOf σ a q.slot) H) ∧ (b = false → wAll K Wout D r cls d σ H)
def tCallW (sp : Sp) (W : WX) (t : TA) : TE := fun σ H Q => t σ H fun vs H1 => sp vs H1 Q (fun cls d H' => W cls d σ H')
end Kb
set_option Elab.async false
set_option linter.all false
set_option maxRecDepth 100000
set_option maxHeartbeats 4000000
namespace Kb
open PySem PySem.Spec PyProof.Rows L2
def IteT (K : PySem.W.Frag) (a : Addr) (k : Int) : It :=
  ⟨fun i H => ∃ (xs : List V) (x : V), SqT K H a xs ∧ xs[i]? = some x, fun i H v H' => ∃ T x, v = .ref T ∧ H T = none ∧ H' = upd H T (.tup [.int (k + (i : Nat)), x]) ∧ ∀ xs, SqT K H a xs → xs[i]? = some x, fun i H => ∃ xs : List V, SqT K H a xs ∧ xs.length = i⟩
/-- enumerate(t), enumerate(t, start=k): t a tuple -/
def iEnT (K : PySem.W.Frag) (k : Int) (ta : TA) : TI := fun σ H R => ta σ H fun vs H1 => ∃ a xs, vs = [.ref a] ∧ SqT K H1 a xs ∧ R (IteT K a k) H1
end Kb
set_option Elab.async false
set_option linter.all false
set_option maxRecDepth 100000
set_option maxHeartbeats 4000000
set_option Elab.async false
set_option linter.all false
set_option maxRecDepth 100000
set_option maxHeartbeats 4000000
namespace Kb
open PySem PySem.Spec PyProof.Rows L2
def tTry (K : PySem.W.Frag) (Wout : WX) (l : List Cl) (tb : WX → TS) : TS := fun D σ H => tb (wAll K Wout D l) D σ H
section
variable {K : PySem.W.Frag} {ec : Str → Addr} {ns : List Str} {W : WX} {D : Ends} {σ : L2.St} {H : Hp} {C : Addr} {x at1 : Str}
theorem r_try {Wout : WX} {l : List Cl} {tb : WX → TS} (h : tb (wAll K Wout D l) D σ H) : tTry K Wout l tb D σ H := h
end
theorem r_callW {sp : Sp} {W : WX} {t : TA} {σ : L2.St} {H : Hp} {Q : VK} (h : t σ H fun vs H1 => sp vs H1 Q (fun cls d H' => W cls d σ H')) : tCallW sp W t σ H Q := h
def PEn (K : PySem.W.Frag) (k : Int) (vs : List V) (H1 : Hp) (R : It → Hp → Prop) : Prop := ∃ a xs, vs = [.ref a] ∧ SqT K H1 a xs ∧ R (IteT K a k) H1
theorem r_enT {K : PySem.W.Frag} {k : Int} {ta : TA} {σ : L2.St} {H : Hp} {R : It → Hp → Prop} (h : ta σ H fun vs H1 => PEn K k vs H1 R) : iEnT K k ta σ H R := h
theorem r_pen {K : PySem.W.Frag} {k : Int} {a : Addr} {xs : List V} {H : Hp} {R : It → Hp → Prop} (h : SqT K H a xs) (q : R (IteT K a k) H) : PEn K k [.ref a] H R := ⟨a, xs, rfl, h, q⟩
theorem r_eqS {K : PySem.W.Frag} {x y : Str} {H : Hp} {Q : VK} (q : Q (.bl (decide (x = y))) H) : rEqU K (.str x) (.str y) H Q := .inl ⟨rfl, by
  have e : decide (V.str x = V.str y) = decide (x = y) := by by_cases h : x = y <;> simp [h]
  rw [e]; exact q⟩
theorem r_neS {K : PySem.W.Frag} {x y : Str} {H : Hp} {Q : VK} (q : Q (.bl (!decide (x = y))) H) : rNeU K (.str x) (.str y) H Q := .inl ⟨rfl, by
  have e : decide (V.str x = V.str y) = decide (x = y) := by by_cases h : x = y <;> simp [h]
  rw [e]; exact q⟩
def PTp (K : PySem.W.Frag) (x : V) (H1 : Hp) : Prop := ∃ p xs, x = .ref p ∧ SqT K H1 p xs ∧ NoD H1 p
theorem r_BMT {K : PySem.W.Frag} {r : V → List V → Hp → VK → Prop} {to : TE} {t : TA} {σ : L2.St} {H : Hp} {Q : VK} (h : to σ H fun x H1 => PTp K x H1 ∧ t σ H1 fun xs H2 => r x xs H2 Q) : tBMT K r to t σ H Q := h
theorem r_ptp {K : PySem.W.Frag} {p : Addr} {xs : List V} {H : Hp} {A : Prop} (h : SqT K H p xs) (d : NoD H p) (a : A) : PTp K (.ref p) H ∧ A := ⟨⟨p, xs, rfl, h, d⟩, a⟩
theorem ixN_n {n k : Nat} (h : k < n) : ixN n (k : Int) = some k := by
  unfold ixN
  rw [if_pos (by omega), if_pos (by omega)]
  rfl
theorem map_set {bs : List Int} {k : Nat} {x : Int} : (bs.map V.int).set k (.int x) = (bs.set k x).map V.int := by rw [List.map_set]
section
local macro_rules | `(tactic| walk_at "tk") => `(tactic| first
  | assumption
  | ((with_reducible refine' sqT_of ?k); (case k => assumption))
  | ((with_reducible refine' sqT_ofD ?k); (case k => assumption))
  | ((with_reducible refine' noD_of ?k); (case k => assumption))
  | ((with_reducible refine' noD_same ?s ?k); (case s => assumption); (case k => walk_at "tk"))
  | ((with_reducible refine' sqL_of ?k); (case k => assumption))
  | ((with_reducible refine' sqT_same ?s ?k); (case s => assumption); (case k => walk_at "tk"))
  | ((with_reducible refine' sqL_same ?s ?k); (case s => assumption); (case k => walk_at "tk"))
  | ((with_reducible refine' sqT_but ?s ?t ?k); (case s => assumption); (case t => walk_at "tk"); (case k => walk_at "tk"))
  | ((with_reducible refine' sqL_but ?s ?t ?k); (case s => assumption); (case t => walk_at "ne"); (case k => walk_at "tk"))
  | ((with_reducible refine' sqL_of ?k); (case k => walk_at "tk"))
  | ((with_reducible refine' sqT_of ?k); (case k => walk_at "tk"))
  | ((with_reducible refine' at_same ?s ?k); (case s => assumption); (case k => walk_at "tk"))
  | ((with_reducible refine' at_but ?s ?t ?k); (case s => assumption); (case t => walk_at "ne"); (case k => walk_at "tk")))
local macro_rules | `(tactic| walk_at "ne") => `(tactic| first
  | assumption
  | (refine Ne.symm ?_; assumption)
  | exact ne_of_none (by assumption) (by assumption)
  | exact (ne_of_none (by assumption) (by assumption)).symm)
local macro_rules | `(tactic| walk_at "side") => `(tactic| first
  | assumption
  | omega
  | (simp only [sizeLine_eq, List.length_cons, List.length_nil, List.length_map]; omega)
  | (show _ ≤ sizeLine; decide))
local macro_rules | `(tactic| walk_at "kit") => `(tactic| first
  | (show kitB _ _ = some true; decide +kernel)
  | (show kitB _ _ = some false; decide +kernel))
local macro_rules | `(tactic| walk_at "rng") => `(tactic| first
  | (refine ⟨by omega, by omega, by omega, by omega⟩)
  | (refine ⟨by omega, by omega⟩)
  | ((simp only [List.length_map]); (refine ⟨by omega, by omega, by omega, by omega⟩))
  | ((simp only [List.length_map]); (refine ⟨by omega, by omega⟩)))
local macro_rules | `(tactic| walk_at "rd1") => `(tactic| first
  | with_reducible refine r_seq ?_
  | ((with_reducible refine' r_var ?k0 ?_); (case k0 => rfl))
  | with_reducible refine r_op ?_
  | with_reducible refine r_c ?_
  | with_reducible refine r_asg ?_
  | with_reducible refine r_name ?_
  | with_reducible refine r_cons ?_
  | with_reducible refine r_nil ?_
  | with_reducible refine r_CB ?_
  | with_reducible refine r_if ?_
  | with_reducible refine r_test ?_
  | with_reducible refine r_k ?_
  | with_reducible refine r_T ?_
  | with_reducible refine r_F ?_
  | with_reducible refine r_nT ?_
  | with_reducible refine r_nF ?_
  | with_reducible refine r_ret ?_
  | with_reducible refine r_drop ?_
  | with_reducible refine r_next ?_
  | with_reducible refine r_call ?_
  | with_reducible refine r_addI ?_
  | with_reducible refine r_subI ?_
  | with_reducible refine r_ltI ?_
  | with_reducible refine r_gtI ?_
  | with_reducible refine r_leI ?_
  | with_reducible refine r_geI ?_
  | with_reducible refine r_eqI ?_
  | with_reducible refine r_neI ?_
  | with_reducible refine r_int ?_
  | with_reducible refine r_abs ?_
  | with_reducible refine r_not ?_
  | with_reducible refine r_and ?_
  | with_reducible refine r_or ?_
  | with_reducible refine r_tru ?_
  | with_reducible refine r_truB ?_
  | with_reducible refine r_lst ?_
  | with_reducible refine r_tup ?_
  | with_reducible refine r_BM ?_
  | with_reducible refine r_BM0 ?_
  | with_reducible refine r_tyS ?_
  | with_reducible refine r_gsub ?_
  | with_reducible refine r_then ?_
  | with_reducible refine r_lstRg ?_
  | with_reducible refine r_tupRg ?_
  | with_reducible refine r_rg2 ?_
  | with_reducible refine r_rg1 ?_
  | with_reducible refine r_ii ?_
  | with_reducible refine r_i ?_
  | with_reducible refine r_ipI ?_
  | with_reducible refine r_un ?_
  | with_reducible refine r_neg ?_
  | with_reducible refine r_isN ?_
  | with_reducible refine r_notN ?_
  | with_reducible refine r_notV ?_
  | with_reducible refine r_pnot ?_
  | with_reducible refine r_pif ?_
  | with_reducible refine r_andV ?_
  | with_reducible refine r_orV ?_
  | with_reducible refine r_ifE ?_
  | with_reducible refine r_chain ?_
  | with_reducible refine r_sl ?_
  | with_reducible refine r_noPart ?_
  | with_reducible refine r_part ?_
  | with_reducible refine r_brk ?_
  | with_reducible refine r_cont ?_
  | with_reducible refine r_retN ?_
  | with_reducible refine r_truI ?_
  | with_reducible refine r_B ?_
  | with_reducible refine r_for ?_
  | with_reducible refine r_rng1 ?_
  | with_reducible refine r_rng2 ?_
  | with_reducible refine r_rng3 ?_
  | with_reducible refine r_body ?_
  | with_reducible refine r_lc ?_
  | with_reducible refine r_yes ?_
  | ((with_reducible refine' r_mod ?k0 ?_); (case k0 => walk_at "side"))
  | ((with_reducible refine' r_mulI ?k0 ?_); (case k0 => first | exact Or.inl ⟨by omega, by omega⟩ | exact Or.inr ⟨by omega, by omega⟩))
  | ((with_reducible refine' r_lenL ?k0 ?_); (case k0 => walk_at "tk"))
  | ((with_reducible refine' r_lenT ?k0 ?_); (case k0 => walk_at "tk"))
  | ((with_reducible refine' r_truL ?k0 ?_); (case k0 => walk_at "tk"))
  | ((with_reducible refine' r_truT ?k0 ?_); (case k0 => walk_at "tk"))
  | ((with_reducible refine' r_ixL ?k0 ?k1 ?_); (case k0 => walk_at "tk"); (case k1 => first | assumption | rfl))
  | ((with_reducible refine' r_ixT ?k0 ?k1 ?_); (case k0 => walk_at "tk"); (case k1 => first | assumption | rfl))
  | ((with_reducible refine' r_new ?k0 ?_); (case k0 => walk_at "side"))
  | ((with_reducible refine' r_tyL ?k0 ?_); (case k0 => walk_at "tk"))
  | ((with_reducible refine' r_append ?k0 ?k1 ?_); (case k0 => walk_at "tk"); (case k1 => walk_at "side"))
  | ((with_reducible refine' r_setL ?k0 ?k1 ?_); (case k0 => walk_at "tk"); (case k1 => first | assumption | rfl))
  | ((with_reducible refine' r_kTupL ?k0 ?_); (case k0 => walk_at "tk"))
  | ((with_reducible refine' r_kTupT ?k0 ?_); (case k0 => walk_at "tk"))
  | ((with_reducible refine' r_listL ?k0 ?_); (case k0 => walk_at "tk"))
  | ((with_reducible refine' r_listT ?k0 ?_); (case k0 => walk_at "tk"))
  | ((with_reducible refine' r_aug ?k0 ?_); (case k0 => rfl))
  | ((with_reducible refine' r_lenS ?k0 ?_); (case k0 => walk_at "side"))
  | ((with_reducible refine' r_pop ?k0 ?_); (case k0 => walk_at "tk"))
  | ((with_reducible refine' r_pr1 ?k0 ?_); (case k0 => walk_at "rng"))
  | ((with_reducible refine' r_pr2 ?k0 ?_); (case k0 => walk_at "rng"))
  | ((with_reducible refine' r_pr3d ?k0 ?_); (case k0 => walk_at "rng"))
  | ((with_reducible refine' r_isiI ?k0 ?_); (case k0 => walk_at "kit"))
  | ((with_reducible refine' r_isiB ?k0 ?_); (case k0 => walk_at "kit"))
  | ((with_reducible refine' r_isiS ?k0 ?_); (case k0 => walk_at "kit"))
  | ((with_reducible refine' r_isiN ?k0 ?_); (case k0 => walk_at "kit"))
  | ((with_reducible refine' r_isiT ?k0 ?k1 ?_); (case k0 => walk_at "tk"); (case k1 => walk_at "kit"))
  | ((with_reducible refine r_seqT ?_); (repeat (walk_at "rd1")); ((with_reducible refine' r_pseqT ?k0 ?_); (case k0 => walk_at "tk")))
  | ((with_reducible refine r_seqL ?_); (repeat (walk_at "rd1")); ((with_reducible refine' r_pseqL ?k0 ?_); (case k0 => walk_at "tk")))
  | ((with_reducible refine r_seqS ?_); (repeat (walk_at "rd1")); (with_reducible refine r_pseqS ?_)))
local macro_rules | `(tactic| walk_at "rd") => `(tactic| ((repeat (walk_at "rd1")); (try dsimp only)))
end
end Kb
set_option Elab.async false
set_option linter.all false
set_option maxRecDepth 100000
set_option maxHeartbeats 4000000
namespace Kb
open PySem PySem.Spec PyProof.Rows L2
section
variable {K : PySem.W.Frag} {H : Hp} {Q : VK} {E : XK}
theorem pl_same {H H' : Hp} {p : Addr} (s : Same H H') (h : Pl H p) : Pl H' p := by
  obtain ⟨x, y, z, e⟩ := h
  exact ⟨x, y, z, s _ _ e⟩
end
end Kb
set_option Elab.async false
set_option linter.all false
set_option maxRecDepth 100000
set_option maxHeartbeats 4000000
namespace Kb
open PySem PySem.Spec PyProof.Rows L2
/-- t[::k], k being -1 -/
def PRev (K : PySem.W.Frag) (x : V) (k : Option Int) (H : Hp) (Q : VK) : Prop := k = some (-1) ∧ ∃ a xs, x = .ref a ∧ SqT K H a xs ∧ ∀ p, H p = none → Q (.ref p) (upd H p (.tup xs.reverse))
def tRevU (K : PySem.W.Frag) (te : TE) (tk : TO) : TE := fun σ H Q => te σ H fun x H1 => tk σ H1 fun k H2 => PRev K x k H2 Q
/-- x, y = a, b -/
def PPar (vs : List V) (R : V → V → Prop) : Prop := ∃ v w, vs = [v, w] ∧ R v w
theorem r_par {D : Ends} {σ : L2.St} {H : Hp} {i j : Nat} {ta : TA} (h : ta σ H fun vs H1 => PPar vs fun v w => D.nx ((σ.set i (some v)).set j (some w)) H1) : tPar i j ta D σ H := h
theorem r_parV {v w : V} {R : V → V → Prop} (q : R v w) : PPar [v, w] R := ⟨v, w, rfl, q⟩
theorem r_revU {K : PySem.W.Frag} {te : TE} {tk : TO} {σ : L2.St} {H : Hp} {Q : VK} (h : te σ H fun x H1 => tk σ H1 fun k H2 => PRev K x k H2 Q) : tRevU K te tk σ H Q := h
theorem r_prev {K : PySem.W.Frag} {a : Addr} {xs : List V} {H : Hp} {Q : VK} (h : SqT K H a xs) (q : ∀ p H', H p = none → Same H H' → H' p = some (.tup xs.reverse) → Q (.ref p) H') : PRev K (.ref a) (some (-1)) H Q :=
  ⟨rfl, a, xs, rfl, h, fun p np => q p _ np (same_new np) upd_same⟩
end Kb
set_option Elab.async false
set_option linter.all false
set_option maxRecDepth 100000
set_option Elab.async false
set_option linter.all false
set_option maxRecDepth 100000
set_option maxHeartbeats 4000000
namespace Kb
open PySem PySem.Spec PyProof.Rows L2
local macro_rules | `(tactic| walk_at "tk") => `(tactic| first
  | assumption
  | ((with_reducible refine' sqT_of ?k); (case k => assumption))
  | ((with_reducible refine' sqT_ofD ?k); (case k => assumption))
  | ((with_reducible refine' noD_of ?k); (case k => assumption))
  | ((with_reducible refine' noD_same ?s ?k); (case s => assumption); (case k => walk_at "tk"))
  | ((with_reducible refine' sqL_of ?k); (case k => assumption))
  | ((with_reducible refine' sqT_same ?s ?k); (case s => assumption); (case k => walk_at "tk"))
  | ((with_reducible refine' sqL_same ?s ?k); (case s => assumption); (case k => walk_at "tk"))
  | ((with_reducible refine' sqT_but ?s ?t ?k); (case s => assumption); (case t => walk_at "tk"); (case k => walk_at "tk"))
  | ((with_reducible refine' sqL_but ?s ?t ?k); (case s => assumption); (case t => walk_at "ne"); (case k => walk_at "tk"))
  | ((with_reducible refine' sqL_of ?k); (case k => walk_at "tk"))
  | ((with_reducible refine' sqT_of ?k); (case k => walk_at "tk"))
  | ((with_reducible refine' at_same ?s ?k); (case s => assumption); (case k => walk_at "tk"))
  | ((with_reducible refine' at_but ?s ?t ?k); (case s => assumption); (case t => walk_at "ne"); (case k => walk_at "tk")))
local macro_rules | `(tactic| walk_at "ne") => `(tactic| first
  | assumption
  | (refine Ne.symm ?_; assumption)
  | exact ne_of_none (by assumption) (by assumption)
  | exact (ne_of_none (by assumption) (by assumption)).symm)
local macro_rules | `(tactic| walk_at "side") => `(tactic| first
  | assumption
  | omega
  | (simp only [sizeLine_eq, List.length_cons, List.length_nil, List.length_map]; omega)
  | (show _ ≤ sizeLine; decide))
local macro_rules | `(tactic| walk_at "kit") => `(tactic| first
  | (show kitB _ _ = some true; decide +kernel)
  | (show kitB _ _ = some false; decide +kernel))
local macro_rules | `(tactic| walk_at "rng") => `(tactic| first
  | (refine ⟨by omega, by omega, by omega, by omega⟩)
  | (refine ⟨by omega, by omega⟩)
  | ((simp only [List.length_map]); (refine ⟨by omega, by omega, by omega, by omega⟩))
  | ((simp only [List.length_map]); (refine ⟨by omega, by omega⟩)))
local macro_rules | `(tactic| walk_at "rd1") => `(tactic| first
  | with_reducible refine r_seq ?_
  | ((with_reducible refine' r_var ?k0 ?_); (case k0 => rfl))
  | with_reducible refine r_op ?_
  | with_reducible refine r_c ?_
  | with_reducible refine r_asg ?_
  | with_reducible refine r_name ?_
  | with_reducible refine r_cons ?_
  | with_reducible refine r_nil ?_
  | with_reducible refine r_CB ?_
  | with_reducible refine r_if ?_
  | with_reducible refine r_test ?_
  | with_reducible refine r_k ?_
  | with_reducible refine r_T ?_
  | with_reducible refine r_F ?_
  | with_reducible refine r_nT ?_
  | with_reducible refine r_nF ?_
  | with_reducible refine r_ret ?_
  | with_reducible refine r_drop ?_
  | with_reducible refine r_next ?_
  | with_reducible refine r_call ?_
  | with_reducible refine r_addI ?_
  | with_reducible refine r_subI ?_
  | with_reducible refine r_ltI ?_
  | with_reducible refine r_gtI ?_
  | with_reducible refine r_leI ?_
  | with_reducible refine r_geI ?_
  | with_reducible refine r_eqI ?_
  | with_reducible refine r_neI ?_
  | with_reducible refine r_int ?_
  | with_reducible refine r_abs ?_
  | with_reducible refine r_not ?_
  | with_reducible refine r_and ?_
  | with_reducible refine r_or ?_
  | with_reducible refine r_tru ?_
  | with_reducible refine r_truB ?_
  | with_reducible refine r_lst ?_
  | with_reducible refine r_tup ?_
  | with_reducible refine r_BM ?_
  | with_reducible refine r_BM0 ?_
  | with_reducible refine r_tyS ?_
  | with_reducible refine r_gsub ?_
  | with_reducible refine r_then ?_
  | with_reducible refine r_lstRg ?_
  | with_reducible refine r_tupRg ?_
  | with_reducible refine r_rg2 ?_
  | with_reducible refine r_rg1 ?_
  | with_reducible refine r_ii ?_
  | with_reducible refine r_i ?_
  | with_reducible refine r_ipI ?_
  | with_reducible refine r_un ?_
  | with_reducible refine r_neg ?_
  | with_reducible refine r_isN ?_
  | with_reducible refine r_notN ?_
  | with_reducible refine r_notV ?_
  | with_reducible refine r_pnot ?_
  | with_reducible refine r_pif ?_
  | with_reducible refine r_andV ?_
  | with_reducible refine r_orV ?_
  | with_reducible refine r_ifE ?_
  | with_reducible refine r_chain ?_
  | with_reducible refine r_sl ?_
  | with_reducible refine r_noPart ?_
  | with_reducible refine r_part ?_
  | with_reducible refine r_brk ?_
  | with_reducible refine r_cont ?_
  | with_reducible refine r_retN ?_
  | with_reducible refine r_truI ?_
  | with_reducible refine r_B ?_
  | with_reducible refine r_for ?_
  | with_reducible refine r_rng1 ?_
  | with_reducible refine r_rng2 ?_
  | with_reducible refine r_rng3 ?_
  | with_reducible refine r_body ?_
  | with_reducible refine r_lc ?_
  | with_reducible refine r_yes ?_
  | ((with_reducible refine' r_mod ?k0 ?_); (case k0 => walk_at "side"))
  | ((with_reducible refine' r_mulI ?k0 ?_); (case k0 => first | exact Or.inl ⟨by omega, by omega⟩ | exact Or.inr ⟨by omega, by omega⟩))
  | ((with_reducible refine' r_lenL ?k0 ?_); (case k0 => walk_at "tk"))
  | ((with_reducible refine' r_lenT ?k0 ?_); (case k0 => walk_at "tk"))
  | ((with_reducible refine' r_truL ?k0 ?_); (case k0 => walk_at "tk"))
  | ((with_reducible refine' r_truT ?k0 ?_); (case k0 => walk_at "tk"))
  | ((with_reducible refine' r_ixL ?k0 ?k1 ?_); (case k0 => walk_at "tk"); (case k1 => first | assumption | rfl))
  | ((with_reducible refine' r_ixT ?k0 ?k1 ?_); (case k0 => walk_at "tk"); (case k1 => first | assumption | rfl))
  | ((with_reducible refine' r_new ?k0 ?_); (case k0 => walk_at "side"))
  | ((with_reducible refine' r_tyL ?k0 ?_); (case k0 => walk_at "tk"))
  | ((with_reducible refine' r_append ?k0 ?k1 ?_); (case k0 => walk_at "tk"); (case k1 => walk_at "side"))
  | ((with_reducible refine' r_setL ?k0 ?k1 ?_); (case k0 => walk_at "tk"); (case k1 => first | assumption | rfl))
  | ((with_reducible refine' r_kTupL ?k0 ?_); (case k0 => walk_at "tk"))
  | ((with_reducible refine' r_kTupT ?k0 ?_); (case k0 => walk_at "tk"))
  | ((with_reducible refine' r_listL ?k0 ?_); (case k0 => walk_at "tk"))
  | ((with_reducible refine' r_listT ?k0 ?_); (case k0 => walk_at "tk"))
  | ((with_reducible refine' r_aug ?k0 ?_); (case k0 => rfl))
  | ((with_reducible refine' r_lenS ?k0 ?_); (case k0 => walk_at "side"))
  | ((with_reducible refine' r_pop ?k0 ?_); (case k0 => walk_at "tk"))
  | ((with_reducible refine' r_pr1 ?k0 ?_); (case k0 => walk_at "rng"))
  | ((with_reducible refine' r_pr2 ?k0 ?_); (case k0 => walk_at "rng"))
  | ((with_reducible refine' r_pr3d ?k0 ?_); (case k0 => walk_at "rng"))
  | ((with_reducible refine' r_isiI ?k0 ?_); (case k0 => walk_at "kit"))
  | ((with_reducible refine' r_isiB ?k0 ?_); (case k0 => walk_at "kit"))
  | ((with_reducible refine' r_isiS ?k0 ?_); (case k0 => walk_at "kit"))
  | ((with_reducible refine' r_isiN ?k0 ?_); (case k0 => walk_at "kit"))
  | ((with_reducible refine' r_isiT ?k0 ?k1 ?_); (case k0 => walk_at "tk"); (case k1 => walk_at "kit"))
  | ((with_reducible refine r_seqT ?_); (repeat (walk_at "rd1")); ((with_reducible refine' r_pseqT ?k0 ?_); (case k0 => walk_at "tk")))
  | ((with_reducible refine r_seqL ?_); (repeat (walk_at "rd1")); ((with_reducible refine' r_pseqL ?k0 ?_); (case k0 => walk_at "tk")))
  | ((with_reducible refine r_seqS ?_); (repeat (walk_at "rd1")); (with_reducible refine r_pseqS ?_)))
local macro_rules | `(tactic| walk_at "rd") => `(tactic| ((repeat (walk_at "rd1")); (try dsimp only)))
local macro_rules | `(tactic| walk_at "rd1") => `(tactic| first
  | with_reducible refine r_BMT ?_
  | with_reducible refine r_par ?_
  | with_reducible refine r_parV ?_
  | ((with_reducible refine' r_ptp ?k0 ?k1 ?_); (case k0 => walk_at "tk"); (case k1 => walk_at "tk"))
  | with_reducible refine r_eqS ?_
  | with_reducible refine r_neS ?_
  | with_reducible refine r_callW ?_
  | with_reducible refine r_try ?_
  | with_reducible refine r_enT ?_
  | ((with_reducible refine' r_pen ?k0 ?_); (case k0 => walk_at "tk")))
end Kb
set_option Elab.async false
set_option linter.all false
set_option maxRecDepth 100000
set_option maxHeartbeats 4000000
set_option Elab.async false
set_option linter.all false
set_option maxRecDepth 100000
set_option maxHeartbeats 4000000
namespace Kb
open PySem PySem.Spec PyProof.Rows L2 PySem.SeqAt
section
variable {K : PySem.W.Frag} {σ : L2.St} {H : Hp} {te : TE} {Q : VK} {a b : Addr}
theorem r_slLL {xs : List V} {lo hi : Option Int} (h : SqL K H a xs) (k : ∀ p H', H p = none → Same H H' → H' p = some (.lst (cutV xs lo hi)) → Q (.ref p) H') : rSlU K (.ref a) lo hi H Q := .inl ⟨a, xs, rfl, h, fun p hp => k p _ hp (same_new hp) upd_same⟩
theorem r_catL {xs ys : List V} (h1 : H a = some (.lst xs)) (h2 : H b = some (.lst ys)) (hz : xs.length + ys.length ≤ sizeLine) (k : ∀ p H', H p = none → Same H H' → H' p = some (.lst (xs ++ ys)) → Q (.ref p) H') : rAddU K (.ref a) (.ref b) H Q :=
  .inr (.inr (.inl ⟨a, b, xs, ys, rfl, rfl, h1, h2, hz, fun p hp => k p _ hp (same_new hp) upd_same⟩))
end
end Kb
set_option Elab.async false
set_option linter.all false
set_option maxRecDepth 100000
set_option maxHeartbeats 4000000
namespace Kb
open PySem PySem.Spec PyProof.Rows L2 SX PySem.Builtin.Str
section
variable {K : PySem.W.Frag} {D : Ends} {σ : L2.St} {H : Hp} {ta : TA} {te : TE} {tb : TS} {R : It → Hp → Prop} {Q : VK} {z w : Str} {k : Int} {i j : Nat}
/-- for c in text -/
theorem r_forStr (Pv : Nat → L2.St → Hp → Prop) (h0 : Pv 0 σ H)
    (hs : ∀ n c σ' H', z.cps.toList[n]? = some c → Pv n σ' H' → tb { D with nx := Pv (n + 1), ct := Pv (n + 1), bk := D.nx } (σ'.set j (some (.str ⟨#[c]⟩))) H')
    (hd : ∀ σ' H', Pv z.cps.toList.length σ' H' → D.nx σ' H') : PFor (Its z) (gName j) tb D σ H := by
  refine ⟨fun n m σ' H' => m = z.cps.size - n ∧ n ≤ z.cps.size ∧ Pv n σ' H', ⟨_, rfl, Nat.zero_le _, h0⟩, ?_⟩
  rintro n m σ' H' ⟨rfl, hn, p⟩
  by_cases hlt : n < z.cps.size
  · refine .inr ⟨hlt, Pv (n + 1), fun σ2 H2 p2 => ⟨_, by omega, rfl, hlt, p2⟩, ?_⟩
    rintro x H2 ⟨rfl, c, hc, rfl⟩
    exact hs n c σ' _ (by rw [Array.getElem?_toList]; exact hc) p
  · have e : n = z.cps.size := by omega
    subst e
    exact .inl ⟨Nat.le_refl _, hd σ' H' (by rw [Array.length_toList]; exact p)⟩
end
def rJoin (K : PySem.W.Frag) : V → List V → Hp → VK → Prop := fun x xs H Q => ∃ a p, ∃ ys : List Str, x = .str a ∧ xs = [.ref p] ∧ (SqL K H p (ys.map V.str) ∨ SqT K H p (ys.map V.str)) ∧ (ys.map (·.length)).sum + ys.length * a.length ≤ 16777216 ∧ Q (.str (Txt.join a ys)) H
def rStartsw : V → List V → Hp → VK → Prop := fun x xs H Q => ∃ a b, x = .str a ∧ xs = [.str b] ∧ Q (.bl (Txt.startswith a b)) H
def rLower : V → List V → Hp → VK → Prop := fun x xs H Q => ∃ a, x = .str a ∧ xs = [] ∧ a.length ≤ 5592405 ∧ Q (.str (Txt.lower a)) H
def rUpper : V → List V → Hp → VK → Prop := fun x xs H Q => ∃ a, x = .str a ∧ xs = [] ∧ a.length ≤ 5592405 ∧ Q (.str (Txt.upper a)) H
section
variable {K : PySem.W.Frag} {H : Hp} {Q : VK} {a : Addr} {z w : Str} {y : V}
/-- where the sign c stands in l, or -1 -/
def fnd (l : List Nat) (c : Nat) : Int := match l.findIdx? (· == c) with | some i => (i : Int) | none => -1
theorem sub_sign {l : List Nat} {c i : Nat} (h : i < l.length) : subAt (S l) (S [c]) i = true ↔ l[i]? = some c := by
  rw [List.getElem?_eq_getElem h]
  simp [subAt, S, Str.length]
  rw [List.drop_eq_getElem_cons h, List.take_succ_cons, List.take_zero]
  simp
theorem find_S (l : List Nat) (c : Nat) : Txt.find (S l) ⟨#[c]⟩ = fnd l c := by
  have L1 : (S [c]).length = 1 := rfl
  have L2 : (S l).length = l.length := S_len l
  rcases find_whole (S l) (S [c]) with ⟨e, hn⟩ | ⟨i, e, hi, hn⟩
  · rw [show Txt.find (S l) ⟨#[c]⟩ = -1 from e]
    unfold fnd
    have : l.findIdx? (· == c) = none := by
      rw [List.findIdx?_eq_none_iff]
      intro x hx
      by_cases z : x = c
      · subst z
        obtain ⟨j, hj, rfl⟩ := List.mem_iff_getElem.mp hx
        exact absurd ⟨by rw [L1, L2]; omega, (sub_sign hj).mpr (List.getElem?_eq_getElem hj)⟩ (hn j)
      · simpa using z
    rw [this]
  · rw [show Txt.find (S l) ⟨#[c]⟩ = (i : Int) from e]
    unfold fnd
    have hil : i < l.length := by have := hi.1; rw [L1, L2] at this; omega
    have : l.findIdx? (· == c) = some i := by
      rw [List.findIdx?_eq_some_iff_getElem]
      have e2 := (sub_sign hil).mp hi.2
      rw [List.getElem?_eq_getElem hil] at e2
      refine ⟨hil, by simpa using e2, fun j hj => ?_⟩
      have hjl : j < l.length := by omega
      by_cases z : l[j] = c
      · exact absurd ⟨by rw [L1, L2]; omega, (sub_sign hjl).mpr (by rw [List.getElem?_eq_getElem hjl, z])⟩ (hn j hj)
      · simpa using z
    rw [this]
theorem joinL_nil : ∀ ys : List (List Nat), TL.joinL [] ys = ys.flatten
  | [] => rfl
  | [a] => by simp [TL.joinL]
  | a :: b :: r => by
    have := joinL_nil (b :: r)
    simp only [TL.joinL, List.flatten_cons] at *
    rw [this]
    simp
/-- ''.join of a list of texts -/
theorem r_join {ys : List (List Nat)} (h : SqL K H a (ys.map fun y => V.str (S y))) (hz : ys.flatten.length ≤ 16777216) (q : Q (.str (S ys.flatten)) H) : rJoin K (.str ⟨#[]⟩) [.ref a] H Q := by
  refine ⟨_, a, ys.map S, rfl, rfl, .inl (by rw [List.map_map]; exact h), ?_, ?_⟩
  · rw [lens, show (⟨#[]⟩ : Str).length = 0 from rfl, Nat.mul_zero, Nat.add_zero]
    rw [List.length_flatten] at hz
    exact hz
  · have := join_S [] ys
    rw [joinL_nil] at this
    rw [show (⟨#[]⟩ : Str) = S [] from rfl, this]
    exact q
end
end Kb
set_option Elab.async false
set_option linter.all false
set_option maxRecDepth 100000
set_option maxHeartbeats 4000000
namespace Kb
open PySem PySem.Spec PyProof.Rows L2 SX
def cutA {α : Type} (xs : List α) (lo hi : Option Int) : List α := (xs.drop (HT.sIx xs.length 0 lo)).take (HT.sIx xs.length xs.length hi - HT.sIx xs.length 0 lo)
section
variable {K : PySem.W.Frag} {H H' : Hp} {Q : VK} {E : XK} {p a b l : Addr} {m : Int} {ns ms : List Int} {xs ys : List V} {lo hi : Option Int}
theorem cut_map {α : Type} (f : α → V) (ns : List α) : cutV (ns.map f) lo hi = (cutA ns lo hi).map f := by
  unfold cutV cutA
  rw [List.length_map, List.map_take, List.map_drop]
theorem cutA_len {α : Type} (ns : List α) : (cutA ns lo hi).length ≤ ns.length := by
  unfold cutA
  rw [List.length_take, List.length_drop]; omega
theorem cutA_whole {α : Type} {ns : List α} (h : HT.sIx ns.length 0 lo = 0 ∧ HT.sIx ns.length ns.length hi = ns.length) : cutA ns lo hi = ns := by
  unfold cutA
  rw [h.1, h.2, List.drop_zero, Nat.sub_zero, List.take_length]
/-- a slice of a tuple: the tuple itself or a new one -/
theorem r_slT (h : SqT K H a xs) (q : ∀ p H', Same H H' → SqT K H' p (cutA xs lo hi) → Q (.ref p) H') : rSlU K (.ref a) lo hi H Q := by
  refine .inr (.inl ⟨a, xs, rfl, h, fun z => q a H (Same.refl _) (by rw [cutA_whole z]; exact h), fun _ p hp => q p _ (same_new hp) (sqT_of ?_)⟩)
  rw [upd_same]
  have := cut_map (lo := lo) (hi := hi) id xs
  rw [List.map_id, List.map_id] at this
  rw [this]
theorem r_slI (h : SqT K H a (ns.map V.int)) (q : ∀ p H', Same H H' → SqT K H' p ((cutA ns lo hi).map V.int) → Q (.ref p) H') : rSlU K (.ref a) lo hi H Q :=
  r_slT h fun p H' s e => q p H' s (by rw [← cut_map]; have := cut_map (lo := lo) (hi := hi) id (ns.map V.int); rw [List.map_id, List.map_id] at this; rw [this]; exact e)
theorem r_catTT (h1 : SqT K H a xs) (h2 : SqT K H b ys) (hz : xs.length + ys.length ≤ sizeLine) (q : ∀ p H', Same H H' → SqT K H' p (xs ++ ys) → Q (.ref p) H') : rAddU K (.ref a) (.ref b) H Q := by
  refine .inr (.inr (.inr ⟨a, b, xs, ys, rfl, rfl, h1, h2, hz, fun e => ?_, fun _ e => ?_, fun _ _ p hp => ?_⟩))
  · exact q b H (Same.refl _) (by rw [e]; exact h2)
  · exact q a H (Same.refl _) (by rw [e, List.append_nil]; exact h1)
  · exact q p _ (same_new hp) (sqT_of upd_same)
theorem r_catII (h1 : SqT K H a (ns.map V.int)) (h2 : SqT K H b (ms.map V.int)) (hz : ns.length + ms.length ≤ 16000000) (q : ∀ p H', Same H H' → SqT K H' p ((ns ++ ms).map V.int) → Q (.ref p) H') : rAddU K (.ref a) (.ref b) H Q :=
  r_catTT h1 h2 (by rw [List.length_map, List.length_map, sizeLine_eq]; omega) fun p H' s e => q p H' s (by rw [List.map_append]; exact e)
theorem r_draw (hp : Pl H p) (h0 : 0 < m) (h1 : m < 2 ^ 200) (q : ∀ v H', 0 ≤ v → v < m → But p H H' → Pl H' p → Q (.int v) H') : sp_law_draw K ([.ref p, .int m] ++ []) H Q E := ⟨p, m, rfl, hp, h0, h1, q⟩
theorem sqT_pl (b : But p H H') (hp : Pl H p) (h : SqT K H a xs) : SqT K H' a xs := by
  obtain ⟨x, y, z, e⟩ := hp
  exact sqT_but b e h
theorem ne_pl (hn : H l = none) (hp : Pl H p) : l ≠ p := by
  obtain ⟨x, y, z, e⟩ := hp
  exact (ne_of_none e hn).symm
theorem pl_butL (b : But l H H') (n : p ≠ l) (h : Pl H p) : Pl H' p := by
  obtain ⟨x, y, z, e⟩ := h
  exact ⟨x, y, z, b _ _ n e⟩
theorem free_but (b : But p H H') (n : a ≠ p) (h : H' a = none) : H a = none := by
  cases e : H a with
  | none => rfl
  | some u => rw [b _ _ n e] at h; cases h
theorem rp_pl {v : V} {d : Dat} (b : But p H H') (hp : Pl H p) (h : Rp K H v d) : Rp K H' v d := by
  obtain ⟨x, y, z, e⟩ := hp
  exact rp_but b e h
theorem sqI_of (h : H a = some (.tup (ns.map V.int))) : SqT K H a (ns.map V.int) := sqT_of h
theorem sqI_0 (h : H a = some (.tup [])) : SqT K H a (([] : List Int).map V.int) := sqT_of h
theorem sqI_1 {i : Int} (h : H a = some (.tup [.int i])) : SqT K H a ([i].map V.int) := sqT_of h
theorem sqI_D (h : ∃ o : Obj, H a = some (.frz o (.tup (ns.map V.int))) ∧ o.dict = none) : SqT K H a (ns.map V.int) := sqT_ofD h
theorem S_eqD {a : List Nat} {z : Str} : decide (S a = z) = decide (a = z.cps.toList) := by
  have : S a = z ↔ a = z.cps.toList := ⟨fun h => by rw [← h], fun h => by rw [h]⟩
  exact decide_eq_decide.mpr this
theorem cutS_S (l : List Nat) : cutS (S l) lo hi = S (cutA l lo hi) := by
  unfold cutS cutA
  rw [S_len]
theorem r_slS {l : List Nat} (hz : l.length ≤ 16000000) (q : Q (.str (S (cutA l lo hi))) H) : rSlU K (.str (S l)) lo hi H Q :=
  .inr (.inr ⟨S l, rfl, by rw [S_len, sizeLine_eq]; omega, by rw [cutS_S]; exact q⟩)
theorem cutA_take {α : Type} {ns : List α} {k : Nat} : cutA ns none (some (k : Int)) = ns.take k := by
  unfold cutA
  rw [HT.sIx_nat, HT.sIx_none, List.drop_zero, Nat.sub_zero]
  by_cases h : k ≤ ns.length
  · rw [Nat.min_eq_left h]
  · rw [Nat.min_eq_right (by omega), List.take_of_length_le (Nat.le_refl _), List.take_of_length_le (by omega)]
theorem cutA_drop {α : Type} {ns : List α} {k : Nat} : cutA ns (some (k : Int)) none = ns.drop k := by
  unfold cutA
  rw [HT.sIx_nat, HT.sIx_none]
  by_cases h : k ≤ ns.length
  · rw [Nat.min_eq_left h, List.take_of_length_le (by rw [List.length_drop]; omega)]
  · rw [Nat.min_eq_right (by omega), List.drop_eq_nil_of_le (by omega : ns.length ≤ k), List.drop_length]; simp
theorem r_eqSS {a : List Nat} {z : Str} (q : Q (.bl (decide (a = z.cps.toList))) H) : rEqU K (.str (S a)) (.str z) H Q := r_eqS (by rw [S_eqD]; exact q)
theorem r_neSS {a : List Nat} {z : Str} (q : Q (.bl (!decide (a = z.cps.toList))) H) : rNeU K (.str (S a)) (.str z) H Q := r_neS (by rw [S_eqD]; exact q)
theorem r_lenSS {l : List Nat} (hz : l.length ≤ 16000000) (q : Q (.int (l.length : Int)) H) : rLenU K [.str (S l)] H Q := r_lenS (by rw [S_len, sizeLine_eq]; omega) (by rw [S_len]; exact q)
theorem r_addSS {a b : List Nat} (hz : a.length + b.length ≤ 16000000) (q : Q (.str (S (a ++ b))) H) : rAddU K (.str (S a)) (.str (S b)) H Q := r_addS (by rw [S_len, S_len, sizeLine_eq]; omega) (by rw [S_cat]; exact q)
theorem r_ixSS {l : List Nat} {c : Nat} (hz : l.length ≤ 16000000) (ha : atI l m = some c) (q : Q (.str (S [c])) H) : rIx K (.str (S l)) (.int m) H Q := r_ixS (by rw [S_len, sizeLine_eq]; omega) ha q
end
end Kb
set_option Elab.async false
set_option linter.all false
set_option maxRecDepth 100000
set_option maxHeartbeats 4000000
namespace Kb
open PySem PySem.Spec PyProof.Rows L2 SX
section
variable {K : PySem.W.Frag} {H H' : Hp} {Q : VK} {E : XK} {p a b l : Addr} {m : Int} {xs ys : List V} {lo hi : Option Int}
variable {ns ms : List Int} {j k : Nat}
theorem r_slN (h : SqT K H a (ns.map V.int)) (q : ∀ p H' (ms : List Int), Same H H' → SqT K H' p (ms.map V.int) → ms.length ≤ ns.length → Q (.ref p) H') : rSlU K (.ref a) lo hi H Q :=
  r_slI h fun p H' s e => q p H' _ s e (cutA_len ns)
theorem r_catN (h1 : SqT K H a (ns.map V.int)) (h2 : SqT K H b (ms.map V.int)) (hz : ns.length + ms.length ≤ 16000000) (q : ∀ p H' (us : List Int), Same H H' → SqT K H' p (us.map V.int) → us.length = ns.length + ms.length → Q (.ref p) H') : rAddU K (.ref a) (.ref b) H Q :=
  r_catII h1 h2 hz fun p H' s e => q p H' _ s e (List.length_append ..)
theorem r_prevN (h : SqT K H a (ns.map V.int)) (q : ∀ p H' (ms : List Int), Same H H' → SqT K H' p (ms.map V.int) → ms.length = ns.length → Q (.ref p) H') : PRev K (.ref a) (some (-1)) H Q :=
  r_prev h fun p H' np s e => q p H' ns.reverse s (by rw [List.map_reverse]; exact sqT_of e) (List.length_reverse ..)
/-- t[m] of a tuple of ints, somewhere in it -/
theorem r_ixI (h : SqT K H a (ns.map V.int)) (h0 : 0 ≤ m) (h1 : m < (ns.length : Int)) (q : ∀ i, ns[m.toNat]? = some i → Q (.int i) H) : rIx K (.ref a) (.int m) H Q := by
  obtain ⟨n, e1, e2⟩ := atI_ints h0 h1
  exact r_ixT h e1 (q n e2)
theorem r_setI {N : Hp → Prop} {i : Int} (h : H p = some (.lst (ns.map V.int))) (h0 : 0 ≤ m) (h1 : m < (ns.length : Int)) (q : ∀ H' ns', But p H H' → H' p = some (.lst ((ns' : List Int).map V.int)) → ns'.length = ns.length → N H') : rSetL (.ref p) (.int m) (.int i) H N := by
  refine r_setL (k := m.toNat) h ?_ fun H' b e => q H' (ns.set m.toNat i) b (by rw [e, List.map_set]) (List.length_set ..)
  rw [List.length_map]
  have := ixN_n (n := ns.length) (k := m.toNat) (by omega)
  rw [show ((m.toNat : Nat) : Int) = m by omega] at this
  exact this
theorem r_kTupI (h : H p = some (.lst (ns.map V.int))) (q : ∀ a H', H a = none → Same H H' → SqT K H' a (ns.map V.int) → Q (.ref a) H') : kTupD K (.ref p) H Q := r_kTupL (sqL_of h) fun a H' na s e => q a H' na s (sqT_ofD e)
theorem r_listI (h : SqT K H p (ns.map V.int)) (q : ∀ a H', H a = none → Same H H' → H' a = some (.lst (ns.map V.int)) → Q (.ref a) H') : rListU K [.ref p] H Q := r_listT h q
/-- a list that stood before p was made -/
theorem sqL_via (np : H p = none) (b : But p H H') (h : SqL K H a xs) : SqL K H' a xs := by
  rcases h with (h | ⟨o, h⟩) | h
  · exact .inl (.inl (b _ _ (ne_of_none h np) h))
  · exact .inl (.inr ⟨o, b _ _ (ne_of_none h np) h⟩)
  · exact .inr h
end
end Kb
set_option Elab.async false
set_option linter.all false
set_option maxRecDepth 100000
set_option maxHeartbeats 4000000
namespace Kb
open PySem PySem.Spec PyProof.Rows L2 SX PySem.Builtin.Str
section
variable {K : PySem.W.Frag} {H H' : Hp} {Q : VK} {E : XK} {p a b l : Addr} {m : Int} {lo hi : Option Int} {as bs : List Nat} {te : TE} {tk : TO} {σ : L2.St}
theorem r_slSN (hz : as.length ≤ 16000000) (q : ∀ bs : List Nat, bs.length ≤ as.length → Q (.str (S bs)) H) : rSlU K (.str (S as)) lo hi H Q := r_slS hz (q _ (cutA_len as))
theorem r_ixSN (hz : as.length ≤ 16000000) (h0 : 0 ≤ m) (h1 : m < (as.length : Int)) (q : ∀ c, as[m.toNat]? = some c → Q (.str (S [c])) H) : rIx K (.str (S as)) (.int m) H Q := by
  have hk : m.toNat < as.length := by omega
  have := atI_nat (xs := as) (j := m.toNat) (v := as[m.toNat]) (List.getElem?_eq_getElem hk)
  rw [show ((m.toNat : Nat) : Int) = m by omega] at this
  exact r_ixSS hz this (q _ (List.getElem?_eq_getElem hk))
/-- a sign of a written text -/
theorem r_ixC {z : Str} {k : Nat} (hk : z.cps.toList.length = k) (hz : k ≤ 1000) (h0 : 0 ≤ m) (h1 : m < (k : Int)) (q : ∀ c, Q (.str (S [c])) H) : rIx K (.str z) (.int m) H Q := by
  have e : z = S z.cps.toList := (S_tl z).symm
  rw [e]
  exact r_ixSN (by omega) h0 (by omega) fun c _ => q c
end
end Kb
set_option Elab.async false
set_option linter.all false
set_option maxRecDepth 100000
set_option maxHeartbeats 4000000
namespace Kb
open PySem PySem.Spec PyProof.Rows L2 PySem.W
section
variable {X : Cx}
theorem each_imp {α β : Type} {R S : α → β → Prop} : ∀ {as : List α} {bs : List β}, EachIs R as bs → (∀ a b, b ∈ bs → R a b → S a b) → EachIs S as bs
  | _, _, .nil, _ => .nil
  | _, _, .cons r t, h => .cons (h _ _ (by simp) r) (each_imp t fun a b hb => h a b (by simp [hb]))
end
end Kb
set_option Elab.async false
set_option linter.all false
set_option maxRecDepth 100000
namespace Kb
open PySem PySem.Spec PyProof.Rows L2 SX PySem.Builtin PySem.Builtin.Str PySem.StrLaws
theorem vals_signs {x : Str} : ∀ {us : List Value} {k : Nat} {l : List Nat}, l = x.cps.toList.drop k → us.length = l.length → (∀ j v, us[j]? = some v → SignAt x (k + j) v) → Vals (l.map fun c => V.str ⟨#[c]⟩) us
  | [], _, [], _, _, _ => .nil
  | [], _, _ :: _, _, h, _ => by simp at h
  | _ :: _, _, [], _, h, _ => by simp at h
  | u :: us, k, c :: l, e, h, at' => by
    have hc : x.cps.toList[k]? = some c := by
      have := congrArg (fun q => q[0]?) e
      simp only [List.getElem?_cons_zero, List.getElem?_drop, Nat.add_zero] at this
      exact this.symm
    have e' : l = x.cps.toList.drop (k + 1) := by
      have := congrArg List.tail e
      rw [List.tail_drop] at this
      exact this
    obtain ⟨c', t, h1, h2⟩ := at' 0 u rfl
    rw [Nat.add_zero, ← Array.getElem?_toList, hc] at h1
    cases h1
    exact .cons ⟨t, h2⟩ (vals_signs e' (by simpa using h) fun j v hj => by have := at' (j + 1) v hj; rw [show k + 1 + j = k + (j + 1) by omega]; exact this)
/-- list(text) -/
def rListTx : List V → Hp → VK → Prop := fun xs H Q => ∃ z : Str, xs = [V.str z] ∧ z.cps.size ≤ sizeLine ∧ ∀ p, H p = none → Q (.ref p) (upd H p (.lst (z.cps.toList.map fun c => V.str ⟨#[c]⟩)))
theorem call_listTx {X : Cx} (hc : X.calm = true) : CallR X (.type "list") rListTx := by
  intro pins s σ H xs us Q I r h
  obtain ⟨z, rfl, hz, q⟩ := h
  obtain ⟨u, rfl, t, rfl⟩ := vals1 r
  refine call_list_str (I.ok.hd hc) z t (fun h' tk acc c' hk hS ha => ?_) hz
  have hv : Vals (z.cps.toList.map fun c => V.str ⟨#[c]⟩) acc.toList := vals_signs (k := 0) rfl (by rw [Array.length_toList, Array.length_toList]; exact ha.1) fun j v e => by
    rw [Nat.zero_add]
    exact ha.2 j v (by rw [← Array.getElem?_toList]; exact e)
  have hlen : (z.cps.toList.map fun c => V.str ⟨#[c]⟩).length ≤ sizeLine := by rw [List.length_map, Array.length_toList]; exact hz
  exact ⟨.ref s.heap.objs.size, upd H s.heap.objs.size (.lst _), I.laid (t' := tk) hk (Nat.le_refl _) (show ObjOk X.prog X.w _ _ _ (.lst _) from ⟨hlen, acc.toList, c', hv, by rw [Array.toArray_toList]; exact hS⟩), rfl, q _ (I.hok.fresh (Nat.le_refl _))⟩
section
variable {K : PySem.W.Frag} {H : Hp} {Q : VK}
theorem r_listTx {l : List Nat} (hz : l.length ≤ 1000000) (k : ∀ p H', H p = none → Same H H' → H' p = some (.lst (l.map fun c => V.str (S [c]))) → Q (.ref p) H') : rListTx [.str (S l)] H Q :=
  ⟨S l, rfl, by rw [show (S l).cps.size = l.length from S_len l, sizeLine_eq]; omega, fun p hp => k p _ hp (same_new hp) upd_same⟩
end
end Kb
set_option Elab.async false
set_option linter.all false
set_option maxRecDepth 100000
set_option maxHeartbeats 4000000
namespace Kb
open PySem PySem.Spec PyProof.Rows L2 SX PySem.W
def encT (b : List Nat) : PyData := .str (S b)
def rSortTx (K : PySem.W.Frag) : List V → Hp → VK → Prop := fun vs H Q => ∃ (a : Addr) (zs : List (List Nat)), vs = [V.ref a] ∧ SqL K H a (zs.map fun z => V.str (S z)) ∧
  ∀ (ys : List (List Nat)) p, ys.Perm zs → ys.Pairwise (fun x y => ¬ y < x) → H p = none → Q (.ref p) (upd H p (.lst (ys.map fun z => V.str (S z))))
section
variable {X : Cx}
theorem txLe_data : dataLe false encT = fun b c : List Nat => !decide (c < b) := by
  funext p q
  show (!dataLt (.str (S q)) (.str (S p))) = _
  rw [dataLt_str]
theorem vals_eachT : ∀ {bs : List (List Nat)} {us : List Value}, Vals (bs.map fun z => V.str (S z)) us → EachIs (fun v b => RelV (V.str (S b)) v) us bs
  | [], _, h => by rw [List.map_nil] at h; cases h; exact .nil
  | b :: bs, _, h => by
    rw [List.map_cons] at h
    cases h with
    | cons r t => exact .cons r (vals_eachT t)
theorem each_valsT : ∀ {bs : List (List Nat)} {us : List Value}, EachIs (fun v b => RelV (V.str (S b)) v) us bs → Vals (bs.map fun z => V.str (S z)) us
  | _, _, .nil => .nil
  | _, _, .cons r t => .cons r (each_valsT t)
theorem cr_sortTx (hu : X.A.units + 64 < cLine) : CallR X (.builtin "sorted") (rSortTx X.K) := by
  intro pins s σ H vs us Q I r h
  obtain ⟨a, bs, rfl, hs, q⟩ := h
  obtain ⟨its, rv, hl, hz⟩ := I.list hs
  rw [Vals.ref1 r]
  have e := vals_eachT rv
  have hz' : bs.length ≤ sizeLine := by rw [List.length_map] at hz; exact hz
  have er : EachIs (fun v b => ∃ as, Reads s.heap v (encT b) as) its bs := each_imp e fun v b hb rb => by
    obtain ⟨t, rfl⟩ := rb
    exact ⟨_, .str _ t⟩
  have dep : ∀ b : List Nat, (encT b).depth ≤ 1 := fun b => by
    show (PyData.str (S b)).depth ≤ 1
    rw [PyData.depth]; omega
  refine sorted_data (enc := encT) (R := fun v b => RelV (V.str (S b)) v) hl.isList e er ?_ ?_ hz' (fun b _ => by have := dep b; omega) fun out h1 h2 => ?_
  · refine AllAlike.of fun b b' => ?_
    show alike (.str (S b)) (.str (S b')) = true
    rw [alike]
  · refine .inr fun d hd => ?_
    obtain ⟨b, hb, rfl⟩ := List.mem_map.mp hd
    exact ⟨by unfold encT; simp, fun xs => by unfold encT; simp⟩
  · rw [txLe_data] at h2
    obtain ⟨ep, he'⟩ := PyProof.Rows.sortedAll_at s.heap its out.toArray
    have hlen : ((bs.mergeSort fun b c : List Nat => !decide (c < b)).map fun z => V.str (S z)).length ≤ sizeLine := by rw [List.length_map, List.length_mergeSort]; exact hz'
    refine ⟨.ref _, upd H (s.heap.objs.size + 1) (.lst ((bs.mergeSort fun b c : List Nat => !decide (c < b)).map fun z => V.str (S z))), I.laid (t' := s.toks) (fun _ _ => PyProof.Rows.sortedAll_old) (Nat.le_succ _) ⟨hlen, out, ep, each_valsT h2, he'⟩, rfl, q _ _ (List.mergeSort_perm ..) ?_ (I.hok.fresh (Nat.le_succ _))⟩
    have := List.pairwise_mergeSort (le := fun b c : List Nat => !decide (c < b)) (fun x y z h1 h2 => by
      simp only [Bool.not_eq_true', decide_eq_false_iff_not, List.not_lt] at h1 h2 ⊢
      exact List.le_trans h1 h2) (fun x y => by
      simp only [Bool.or_eq_true, Bool.not_eq_true', decide_eq_false_iff_not, List.not_lt]
      exact List.le_total x y) bs
    exact this.imp fun h => by simpa using h
/-- tuple(text) -/
def kTupTx (x : V) (H : Hp) (Q : VK) : Prop := ∃ z : Str, x = .str z ∧ z.cps.size ≤ sizeLine ∧ ∀ (q : Addr) (o : Obj), H q = none → o.dict = none → Q (.ref q) (upd H q (.frz o (.tup (z.cps.toList.map fun c => V.str ⟨#[c]⟩))))
theorem rl_tupTx (hc : X.calm = true) (pins : List (Addr × Obj)) (s : Shared) (σ : L2.St) (H : Hp) (x : V) (v : Value) (Q : VK) (I : Inv X pins σ H s) (r : RelV x v) (h : kTupTx x H Q) :
    wpAny (model X.prog X.w) X.A (call (.type "tuple") [v]) (EP X pins σ Q) X.xe s := by
  obtain ⟨z, rfl, hz, q⟩ := h
  obtain ⟨t, rfl⟩ := r
  refine call_tuple_str (hsz := hz) (I.ok.hd hc) z t fun h' tk acc hk ha => ?_
  have hv : Vals (z.cps.toList.map fun c => V.str ⟨#[c]⟩) acc.toList := vals_signs (k := 0) rfl (by rw [Array.length_toList, Array.length_toList]; exact ha.1) fun j v e => by
    rw [Nat.zero_add]
    exact ha.2 j v (by rw [← Array.getElem?_toList]; exact e)
  have hlen : (z.cps.toList.map fun c => V.str ⟨#[c]⟩).length ≤ sizeLine := by rw [List.length_map, Array.length_toList]; exact hz
  have I1 : Inv X pins σ H { s with heap := h', toks := tk } := I.kept (t' := tk) hk
  have I2 : Inv X pins σ (upd H h'.objs.size (.frz { cls := .type "tuple", data := .seq acc } (.tup (z.cps.toList.map fun c => V.str ⟨#[c]⟩)))) { s with heap := h'.push { cls := .type "tuple", data := .seq acc }, toks := tk } :=
    I1.laid (t' := tk) (fun b o e => Heap.get?_push_of_some _ e) (Nat.le_refl _) (show ObjOk X.prog X.w _ _ _ (.frz _ (.tup _)) from ⟨Heap.get?_push_size _ rfl, hlen, acc.toList, hv, by rw [show acc = acc.toList.toArray by rw [Array.toArray_toList]]; exact IsTup.new _ _⟩)
  exact ⟨.ref h'.objs.size, _, I2, rfl, q _ _ (I1.hok.fresh (Nat.le_refl _)) rfl⟩
theorem pe_tupTx {a : Expr} {ta : TE} {p pos : Pos} (hc : X.calm = true) (hg : Gl X "tuple") (hm : X.mg "tuple" = none) (ha : PE X a ta) (na : starEach [a] X.env = (false, eval a X.env) :: starEach [] X.env := by rfl) :
    PE X (.Call (.Name "tuple" p) [a] [] pos) (tThen ta kTupTx) := by
  refine ⟨fun pins s σ H Q I h => ?_⟩
  exact Call_ (ld_blt I hg hm boot_tuple (PyProof.Rows.callWith_type1 (one_arg ha I h (fun v s2 x H2 I2 r q => rl_tupTx hc pins s2 σ H2 x v Q I2 r q) na) na))
/-- text.index(sign), the sign in the text -/
def rIndexS : V → List V → Hp → VK → Prop := fun x xs H Q => ∃ (l : List Nat) (c : Nat), x = .str (S l) ∧ xs = [.str (S [c])] ∧ c ∈ l ∧ Q (.int (l.idxOf c : Nat)) H
theorem fnd_mem {l : List Nat} {c : Nat} (h : c ∈ l) : fnd l c = (l.idxOf c : Nat) := by
  unfold fnd
  have : l.findIdx? (· == c) = some (l.idxOf c) := by
    rw [List.findIdx?_eq_some_iff_getElem]
    refine ⟨List.idxOf_lt_length_of_mem h, by simp, fun j hj => ?_⟩
    have := List.not_of_lt_findIdx (p := (· == c)) (xs := l) (by unfold List.idxOf at hj; exact hj)
    simpa using this
  rw [this]
theorem mt_indexS : MtR X "str.index" rIndexS := by
  intro pins s σ H x xs v us Q I rx rs h
  obtain ⟨l, c, rfl, rfl, hc, q⟩ := h
  obtain ⟨t, rfl⟩ := rx
  cases rs with
  | cons r1 rs =>
    cases rs
    obtain ⟨u, rfl⟩ := r1
    have hf := find_S l c
    rw [fnd_mem hc] at hf
    unfold Txt.find at hf
    cases e : Builtin.Str.occurrences (S l) ⟨#[c]⟩ 0 (S l).length 1 with
    | nil => rw [e] at hf; exact absurd hf (by show ¬ (-1 : Int) = _; omega)
    | cons k rest =>
      rw [e] at hf
      have hk : ((k : Nat) : Int) = (l.idxOf c : Nat) := hf
      exact PySem.SC.index e ⟨.int (k : Nat), H, I.tok _, ⟨_, rfl⟩, by rw [hk]; exact q⟩
end
theorem at_lastG {α : Type} (f : α → V) (r : List α) (q : α) : atI ((r ++ [q]).map f) (-1) = some (f q) := by
  have e : ixN ((r ++ [q]).map f).length (-1) = some r.length := by
    unfold ixN
    rw [List.length_map, List.length_append, List.length_singleton, if_neg (by omega), if_pos (by omega)]
    congr 1
    omega
  unfold atI
  rw [e]
  show ((r ++ [q]).map f)[r.length]? = _
  rw [List.getElem?_map, List.getElem?_append_right (Nat.le_refl _), Nat.sub_self]
  rfl
theorem startsw_S (a b : List Nat) : Txt.startswith (S a) (S b) = decide (b <+: a) := by
  unfold Txt.startswith
  rw [StrLaws.subAt_eq, S_len, S_len, Nat.zero_add]
  show (decide (b.length ≤ a.length) && ((a.drop 0).take b.length == b)) = _
  rw [List.drop_zero]
  by_cases h : b <+: a
  · rw [decide_eq_true h, decide_eq_true h.length_le, List.prefix_iff_eq_take.mp h]
    simp
  · rw [decide_eq_false h]
    by_cases h2 : a.take b.length = b
    · exact absurd (List.prefix_iff_eq_take.mpr h2.symm) h
    · simp [h2]
section
variable {K : PySem.W.Frag} {H : Hp} {Q : VK}
theorem r_indexS {l : List Nat} {c : Nat} (hc : c ∈ l) (q : Q (.int (l.idxOf c : Nat)) H) : rIndexS (.str (S l)) [.str (S [c])] H Q := ⟨l, c, rfl, rfl, hc, q⟩
theorem r_startsS {a b : List Nat} (q : Q (.bl (decide (b <+: a))) H) : rStartsw (.str (S a)) [.str (S b)] H Q := ⟨S a, S b, rfl, rfl, by rw [startsw_S]; exact q⟩
theorem r_tupTx {l : List Nat} (hz : l.length ≤ 1000000) (k : ∀ q H', H q = none → Same H H' → SqT K H' q (l.map fun c => V.str (S [c])) → Q (.ref q) H') : kTupTx (.str (S l)) H Q :=
  ⟨S l, rfl, by rw [show (S l).cps.size = l.length from S_len l, sizeLine_eq]; omega, fun q o hq ho => k q _ hq (same_new hq) (sqT_ofD ⟨o, upd_same, ho⟩)⟩
theorem r_sortTx {a : Addr} {zs : List (List Nat)} (h : SqL K H a (zs.map fun z => V.str (S z))) (k : ∀ (ys : List (List Nat)) p H', ys.Perm zs → ys.Pairwise (fun x y => ¬ y < x) → H p = none → Same H H' → H' p = some (.lst (ys.map fun z => V.str (S z))) → Q (.ref p) H') : rSortTx K [.ref a] H Q :=
  ⟨a, zs, rfl, h, fun ys p hp hw hn => k ys p _ hp hw hn (same_new hn) upd_same⟩
/-- [f(x) for x in a tuple of g(x)] -/
theorem r_lcTg {α : Type} {te : TE} {σ : L2.St} {j : Nat} {vs : List Nat} {a : Addr} (g f : α → V) {as : List α} (hx : SqT K H a (as.map g)) (hz : as.length ≤ 1000000) (hw : ∀ x, wipe ((wipe σ vs).set j (some x)) vs = wipe σ vs)
    (hs : ∀ b H1 (Q' : VK), b ∈ as → Same H H1 → (∀ H2, Same H1 H2 → Q' (f b) H2) → te ((wipe σ vs).set j (some (g b))) H1 Q')
    (hd : ∀ p H', H p = none → Same H H' → H' p = some (.lst (as.map f)) → Q (.ref p) H') : PLc (Itt K a) (gName j) tYes te vs σ H Q := by
  refine r_lcT (xs := as.map g) (fun D i H' => H D = none ∧ Same H H' ∧ H' D = some (.lst ((as.take i).map f))) hw (fun D H' hD s e => ⟨hD, s, by rw [e]; rfl⟩) (fun D i H' p => sqT_same p.2.1 hx) (fun D i x H' hi p => ?_) (fun D H' hD p => ?_)
  · refine r_yes ?_
    refine r_T ?_
    rw [List.getElem?_map] at hi
    cases hb : as[i]? with
    | none => rw [hb] at hi; cases hi
    | some b =>
      rw [hb] at hi
      cases hi
      refine hs b H' _ (List.mem_of_getElem? hb) p.2.1 (fun H2 s2 => r_acc (s2 _ _ p.2.2) ?_ fun H5 b5 e5 => ⟨p.1, same_but (p.2.1.trans s2) b5 p.1, ?_⟩)
      · rw [List.length_map, List.length_take]; omega
      · rw [e5, List.take_add_one, hb, List.map_append]; rfl
  · have e := p.2.2
    rw [List.length_map, List.take_length] at e
    exact hd D H' hD p.2.1 e
end
end Kb
set_option Elab.async false
set_option linter.all false
set_option maxRecDepth 100000
set_option maxHeartbeats 4000000
set_option Elab.async false
set_option linter.all false
set_option maxRecDepth 100000
set_option maxHeartbeats 4000000
set_option Elab.async false
set_option linter.all false
set_option maxRecDepth 100000
set_option maxHeartbeats 4000000
namespace Kb
open PySem PySem.Spec PyProof.Rows L2 SX
def rIntB : List V → Hp → VK → Prop := fun xs H Q => ∃ k, xs = [V.bl k] ∧ Q (V.int (if k then 1 else 0)) H
section
variable {X : Cx}
theorem call_intB : CallR X (.type "int") rIntB := fun pins s σ H xs us Q I r h => call_int1 pins s σ H xs us Q I r (.inr h)
end
section
variable {K : PySem.W.Frag} {σ : L2.St} {H : Hp} {Q : VK} {a b : Addr} {xs ys : List V}
theorem r_intB {k : Bool} (q : Q (.int (if k then 1 else 0)) H) : rIntB [.bl k] H Q := ⟨k, rfl, q⟩
theorem r_extend (h1 : H a = some (.lst xs)) (h2 : H b = some (.lst ys)) (hz : xs.length + ys.length ≤ sizeLine) (k : ∀ H', But a H H' → H' a = some (.lst (xs ++ ys)) → Q .non H') : rExtend (.ref a) [.ref b] H Q :=
  ⟨a, b, xs, ys, rfl, rfl, h1, h2, hz, k _ but_upd upd_same⟩
end
end Kb
set_option Elab.async false
set_option linter.all false
set_option maxRecDepth 100000
set_option maxHeartbeats 4000000
namespace Kb
namespace K45
open PySem PySem.Spec PyProof.Rows L2 SX
section
variable {L : List Nat}
abbrev ix (L : List Nat) (c : Nat) : Nat := L.idxOf c
/-- where the piece of w begins, of a line of d ^ M points -/
def lo (L : List Nat) : Nat → List Nat → Nat
  | _, [] => 0
  | 0, _ :: _ => 0
  | M + 1, c :: w => ix L c * L.length ^ M + lo L M w
def wd (L : List Nat) (M : Nat) (w : List Nat) : Nat := L.length ^ (M - w.length)
def hi (L : List Nat) (M : Nat) (w : List Nat) : Nat := lo L M w + wd L M w
def Ov (L : List Nat) (w : List Nat) : Prop := ∀ c ∈ w, c ∈ L
theorem lo_nil (M : Nat) : lo L M [] = 0 := by cases M <;> rfl
theorem hi_le : ∀ {M : Nat} {w : List Nat}, w.length ≤ M → Ov L w → hi L M w ≤ L.length ^ M
  | M, [], _, _ => by unfold hi wd; rw [lo_nil]; simp
  | 0, c :: w, h, _ => by simp at h
  | M + 1, c :: w, h, ho => by
    have ih := hi_le (M := M) (w := w) (by simpa using h) (fun x hx => ho x (List.mem_cons_of_mem _ hx))
    have hc := List.idxOf_lt_length_of_mem (ho c (List.mem_cons_self ..))
    unfold hi wd at ih ⊢
    rw [List.length_cons, show M + 1 - (w.length + 1) = M - w.length by omega]
    show ix L c * L.length ^ M + lo L M w + _ ≤ _
    have h2 : (ix L c + 1) * L.length ^ M ≤ L.length * L.length ^ M := Nat.mul_le_mul_right _ hc
    rw [Nat.pow_succ, Nat.mul_comm (L.length ^ M)]
    rw [Nat.succ_mul] at h2
    omega
theorem wd_pos {M : Nat} {w : List Nat} (hd : 0 < L.length) : 0 < wd L M w := Nat.pow_pos hd
theorem lo_lt_hi {M : Nat} {w : List Nat} (hd : 0 < L.length) : lo L M w < hi L M w := by
  have := wd_pos (L := L) (M := M) (w := w) hd
  unfold hi; omega
/-- one behind the other: at some place the first has the lesser letter -/
def Bef (L : List Nat) (u v : List Nat) : Prop := ∃ p a b u' v', u = p ++ a :: u' ∧ v = p ++ b :: v' ∧ ix L a < ix L b
theorem bef_hi_aux {a b : Nat} {u' v' : List Nat} (hab : ix L a < ix L b) : ∀ (p : List Nat) {M : Nat}, (p ++ a :: u').length ≤ M → (p ++ b :: v').length ≤ M → Ov L (p ++ a :: u') → hi L M (p ++ a :: u') ≤ lo L M (p ++ b :: v')
  | [], 0, hu, _, _ => by simp at hu
  | [], M + 1, hu, hv, ou => by
    simp only [List.nil_append, List.length_cons] at hu hv ⊢
    have h1 := hi_le (L := L) (M := M) (w := u') (by omega) (fun x hx => ou x (by simp [hx]))
    unfold hi wd at h1 ⊢
    rw [List.length_cons, show M + 1 - (u'.length + 1) = M - u'.length by omega]
    show ix L a * L.length ^ M + lo L M u' + _ ≤ ix L b * L.length ^ M + lo L M v'
    have h2 : (ix L a + 1) * L.length ^ M ≤ ix L b * L.length ^ M := Nat.mul_le_mul_right _ hab
    rw [Nat.succ_mul] at h2
    omega
  | c :: p, 0, hu, _, _ => by simp at hu
  | c :: p, M + 1, hu, hv, ou => by
    simp only [List.cons_append, List.length_cons] at hu hv ⊢
    have := bef_hi_aux (u' := u') (v' := v') hab p (M := M) (by omega) (by omega) (fun x hx => ou x (List.mem_cons_of_mem _ hx))
    unfold hi wd at this ⊢
    rw [List.length_cons, show M + 1 - ((p ++ a :: u').length + 1) = M - (p ++ a :: u').length by omega]
    show ix L c * L.length ^ M + lo L M _ + _ ≤ ix L c * L.length ^ M + lo L M _
    omega
theorem bef_hi {u v : List Nat} {M : Nat} (hu : u.length ≤ M) (hv : v.length ≤ M) (ou : Ov L u) (h : Bef L u v) : hi L M u ≤ lo L M v := by
  obtain ⟨p, a, b, u', v', rfl, rfl, hab⟩ := h
  exact bef_hi_aux hab p hu hv ou
/-- three ways for two words -/
theorem tri : ∀ u v : List Nat, Ov L u → Ov L v → u <+: v ∨ v <+: u ∨ Bef L u v ∨ Bef L v u
  | [], v, _, _ => .inl (List.nil_prefix)
  | _ :: _, [], _, _ => .inr (.inl List.nil_prefix)
  | a :: u, b :: v, hu, hv => by
    by_cases h : a = b
    · subst h
      rcases tri u v (fun x hx => hu x (by simp [hx])) (fun x hx => hv x (by simp [hx])) with h | h | ⟨p, c, d, u', v', e1, e2, e3⟩ | ⟨p, c, d, u', v', e1, e2, e3⟩
      · exact .inl (List.cons_prefix_cons.mpr ⟨rfl, h⟩)
      · exact .inr (.inl (List.cons_prefix_cons.mpr ⟨rfl, h⟩))
      · exact .inr (.inr (.inl ⟨a :: p, c, d, u', v', by rw [e1]; rfl, by rw [e2]; rfl, e3⟩))
      · exact .inr (.inr (.inr ⟨a :: p, c, d, u', v', by rw [e1]; rfl, by rw [e2]; rfl, e3⟩))
    · have hne : ix L a ≠ ix L b := fun z => h (by
        have ea : L[L.idxOf a]'(List.idxOf_lt_length_of_mem (hu a (by simp))) = a := List.getElem_idxOf _
        have eb : L[L.idxOf b]'(List.idxOf_lt_length_of_mem (hv b (by simp))) = b := List.getElem_idxOf _
        unfold ix at z
        rw [← ea, ← eb]
        simp only [z])
      by_cases hlt : ix L a < ix L b
      · exact .inr (.inr (.inl ⟨[], a, b, u, v, rfl, rfl, hlt⟩))
      · exact .inr (.inr (.inr ⟨[], b, a, v, u, rfl, rfl, by omega⟩))
/-- a longer word begins in the piece of its beginning -/
theorem lo_cat : ∀ {M : Nat} {u v : List Nat}, (u ++ v).length ≤ M → lo L M (u ++ v) = lo L M u + lo L (M - u.length) v
  | M, [], v, _ => by rw [lo_nil]; simp
  | 0, c :: u, v, h => by simp at h
  | M + 1, c :: u, v, h => by
    have ih := lo_cat (M := M) (u := u) (v := v) (by simpa using h)
    rw [List.length_cons, show M + 1 - (u.length + 1) = M - u.length by omega]
    show ix L c * L.length ^ M + lo L M (u ++ v) = ix L c * L.length ^ M + lo L M u + _
    omega
theorem pre_in {M : Nat} {u v : List Nat} (hd : 0 < L.length) (hv : v.length ≤ M) (ov : Ov L v) (h : u <+: v) : lo L M u ≤ lo L M v ∧ hi L M v ≤ hi L M u := by
  obtain ⟨t, rfl⟩ := h
  have e := lo_cat (L := L) (M := M) (u := u) (v := t) hv
  have hl : t.length ≤ M - u.length := by rw [List.length_append] at hv; omega
  have h2 := hi_le (L := L) (M := M - u.length) (w := t) hl (fun x hx => ov x (by simp [hx]))
  unfold hi wd at h2 ⊢
  rw [List.length_append, show M - (u.length + t.length) = M - u.length - t.length by omega]
  omega
/-- the letters ascend -/
def Asc (L : List Nat) : Prop := L.Pairwise (· < ·)
theorem ix_lt {a b : Nat} (hA : Asc L) (ha : a ∈ L) (hb : b ∈ L) : a < b ↔ ix L a < ix L b := by
  unfold Asc at hA
  rw [List.pairwise_iff_getElem] at hA
  have la := List.idxOf_lt_length_of_mem ha
  have lb := List.idxOf_lt_length_of_mem hb
  have ea : L[L.idxOf a] = a := List.getElem_idxOf la
  have eb : L[L.idxOf b] = b := List.getElem_idxOf lb
  unfold ix
  constructor
  · intro h
    by_cases z : L.idxOf a < L.idxOf b
    · exact z
    · by_cases z2 : L.idxOf a = L.idxOf b
      · have : a = b := by rw [← ea, ← eb]; simp only [z2]
        omega
      · have := hA _ _ lb la (by omega)
        rw [ea, eb] at this; omega
  · intro h
    have := hA _ _ la lb h
    rw [ea, eb] at this; exact this
theorem bef_lt {u v : List Nat} (hA : Asc L) (ou : Ov L u) (ov : Ov L v) (h : Bef L u v) : u < v := by
  obtain ⟨p, a, b, u', v', rfl, rfl, hab⟩ := h
  have : a < b := (ix_lt hA (ou a (by simp)) (ov b (by simp))).mpr hab
  induction p with
  | nil => exact List.cons_lt_cons_iff.mpr (.inl this)
  | cons c p ih => exact List.cons_lt_cons_iff.mpr (.inr ⟨rfl, ih (fun x hx => ou x (by simp at hx ⊢; exact .inr hx)) (fun x hx => ov x (by simp at hx ⊢; exact .inr hx))⟩)
theorem pre_not_lt {u v : List Nat} (h : v <+: u) : ¬ u < v := by
  obtain ⟨t, rfl⟩ := h
  induction v with
  | nil => exact List.not_lt_nil _
  | cons c v ih =>
    intro h
    rcases List.cons_lt_cons_iff.mp h with h | ⟨_, h⟩
    · omega
    · exact ih h
/-- u comes ahead of v and is no beginning of it: just if its piece lies ahead -/
theorem ahead {M : Nat} {u v : List Nat} (hA : Asc L) (hd : 0 < L.length) (hu : u.length ≤ M) (hv : v.length ≤ M) (ou : Ov L u) (ov : Ov L v) : (u < v ∧ ¬ u <+: v) ↔ hi L M u ≤ lo L M v := by
  constructor
  · rintro ⟨h1, h2⟩
    rcases tri u v ou ov with h | h | h | h
    · exact absurd h h2
    · exact absurd h1 (pre_not_lt h)
    · exact bef_hi hu hv ou h
    · exact absurd (bef_lt hA ov ou h) (fun z => by
        have := List.lt_asymm h1 z
        exact this)
  · intro h
    have l1 := lo_lt_hi (L := L) (M := M) (w := u) hd
    have l2 := lo_lt_hi (L := L) (M := M) (w := v) hd
    rcases tri u v ou ov with z | z | z | z
    · have := pre_in hd hv ov z; omega
    · have := pre_in hd hu ou z; omega
    · refine ⟨bef_lt hA ou ov z, fun y => ?_⟩
      have := pre_in hd hv ov y; omega
    · have := bef_hi hv hu ov z; omega
end
end K45
end Kb
set_option Elab.async false
set_option linter.all false
set_option maxRecDepth 100000
set_option maxHeartbeats 4000000
namespace Kb
namespace K45
open PySem PySem.Spec PyProof.Rows L2 SX
section
variable {L : List Nat}
/-- the pieces of the words lie one behind the other from x on, with or without gaps -/
def Ch (L : List Nat) (x : Nat) : List (List Nat) → Prop
  | [] => True
  | w :: ws => x ≤ lo L 60 w ∧ Ch L (hi L 60 w) ws
def Til (L : List Nat) (x : Nat) : List (List Nat) → Prop
  | [] => x = L.length ^ 60
  | w :: ws => lo L 60 w = x ∧ Til L (hi L 60 w) ws
def Val (L : List Nat) (ws : List (List Nat)) : Prop := ∀ w ∈ ws, Ov L w ∧ w.length ≤ 60
def sumW (L : List Nat) (ws : List (List Nat)) : Nat := (ws.map fun w => wd L 60 w).sum
theorem til_ch : ∀ {ws : List (List Nat)} {x : Nat}, Til L x ws → Ch L x ws
  | [], _, _ => trivial
  | w :: ws, x, h => ⟨Nat.le_of_eq h.1.symm, til_ch h.2⟩
theorem ch_sum (hd : 0 < L.length) : ∀ {ws : List (List Nat)} {x : Nat}, Val L ws → x ≤ L.length ^ 60 → Ch L x ws → x + sumW L ws ≤ L.length ^ 60 ∧ (x + sumW L ws = L.length ^ 60 ↔ Til L x ws)
  | [], x, _, hx, _ => by simp [sumW, Til, hx]
  | w :: ws, x, hv, hx, hc => by
    obtain ⟨ow, lw⟩ := hv w (by simp)
    have hhi := hi_le (L := L) lw ow
    obtain ⟨h1, h2⟩ := ch_sum hd (ws := ws) (fun y hy => hv y (by simp [hy])) hhi hc.2
    have e : sumW L (w :: ws) = wd L 60 w + sumW L ws := by simp [sumW]
    have eh : hi L 60 w = lo L 60 w + wd L 60 w := rfl
    have hx1 := hc.1
    refine ⟨by omega, ?_⟩
    constructor
    · intro h
      exact ⟨by omega, h2.mp (by omega)⟩
    · rintro ⟨z1, z2⟩
      have := h2.mpr z2
      omega
/-- the words, one behind the other -/
def Con (ws : List (List Nat)) : Prop := ∀ i u v, ws[i]? = some u → ws[i + 1]? = some v → u < v ∧ ¬ u <+: v
theorem con_ch (hA : Asc L) (hd : 0 < L.length) : ∀ {ws : List (List Nat)} {x : Nat}, Val L ws → (∀ w, ws[0]? = some w → x ≤ lo L 60 w) → (Con ws ↔ Ch L x ws)
  | [], _, _, _ => ⟨fun _ => trivial, fun _ i u v h => by simp at h⟩
  | [w], x, hv, h0 => ⟨fun _ => ⟨h0 w rfl, trivial⟩, fun _ i u v h1 h2 => by simp at h2⟩
  | w :: v :: ws, x, hv, h0 => by
    obtain ⟨ow, lw⟩ := hv w (by simp)
    obtain ⟨ov, lv⟩ := hv v (by simp)
    have ha := ahead (M := 60) hA hd lw lv ow ov
    constructor
    · intro h
      have h1 := ha.mp (h 0 w v rfl rfl)
      exact ⟨h0 w rfl, (con_ch hA hd (ws := v :: ws) (x := hi L 60 w) (fun y hy => hv y (List.mem_cons_of_mem _ hy)) (fun y hy => by cases hy; exact h1)).mp fun i u v' e1 e2 => h (i + 1) u v' e1 e2⟩
    · intro h
      have h1 := h.2.1
      have h2 := (con_ch hA hd (ws := v :: ws) (x := hi L 60 w) (fun y hy => hv y (List.mem_cons_of_mem _ hy)) (fun y hy => by cases hy; exact h1)).mpr h.2
      intro i u v' e1 e2
      cases i with
      | zero =>
        simp only [List.getElem?_cons_zero, Option.some.injEq, List.getElem?_cons_succ] at e1 e2
        subst e1 e2
        exact ha.mpr h1
      | succ i => exact h2 i u v' (by simpa using e1) (by simpa using e2)
/-- complete, as the program looks at it: just if the pieces tile the line -/
theorem complete_til (hA : Asc L) (hd : 0 < L.length) {ws : List (List Nat)} (hv : Val L ws) : (Con ws ∧ sumW L ws = L.length ^ 60) ↔ Til L 0 ws := by
  have hc := con_ch hA hd (x := 0) hv (fun _ _ => Nat.zero_le _)
  constructor
  · rintro ⟨h1, h2⟩
    exact ((ch_sum hd hv (Nat.zero_le _) (hc.mp h1)).2).mp (by omega)
  · intro h
    have h1 := til_ch h
    have h2 := ((ch_sum hd hv (Nat.zero_le _) h1).2).mpr h
    exact ⟨hc.mpr h1, by omega⟩
/-- the sum as the program takes it, by the longest word -/
theorem sum_long (hd : 0 < L.length) {ws : List (List Nat)} {lg : Nat} (h60 : lg ≤ 60) (hl : ∀ w ∈ ws, w.length ≤ lg) : ((ws.map fun w => L.length ^ (lg - w.length)).sum = L.length ^ lg) ↔ sumW L ws = L.length ^ 60 := by
  have e : sumW L ws = (ws.map fun w => L.length ^ (lg - w.length)).sum * L.length ^ (60 - lg) := by
    unfold sumW
    induction ws with
    | nil => simp
    | cons w ws ih =>
      have := hl w (by simp)
      rw [List.map_cons, List.sum_cons, List.map_cons, List.sum_cons, Nat.add_mul, ih (fun y hy => hl y (by simp [hy]))]
      congr 1
      unfold wd
      rw [← Nat.pow_add]
      congr 1
      omega
  have e2 : L.length ^ 60 = L.length ^ lg * L.length ^ (60 - lg) := by rw [← Nat.pow_add]; congr 1; omega
  rw [e, e2]
  exact ⟨fun h => by rw [h], fun h => Nat.eq_of_mul_eq_mul_right (Nat.pow_pos hd) h⟩
/-- b is [] or does not end in the first letter -/
def Mini (L : List Nat) (b : List Nat) : Prop := ∀ c, b.getLast? = some c → 0 < ix L c
theorem lo_zero : ∀ {M : Nat} {t : List Nat}, t.length ≤ M → 0 < L.length → (lo L M t = 0 ↔ ∀ c ∈ t, ix L c = 0)
  | M, [], _, _ => by rw [lo_nil]; simp
  | 0, c :: t, h, _ => by simp at h
  | M + 1, c :: t, h, hd => by
    have ih := lo_zero (M := M) (t := t) (by simpa using h) hd
    show ix L c * L.length ^ M + lo L M t = 0 ↔ _
    have hp := Nat.pow_pos (n := M) hd
    constructor
    · intro z
      have z1 : ix L c * L.length ^ M = 0 := by omega
      have z2 : lo L M t = 0 := by omega
      have z3 : ix L c = 0 := by
        rcases Nat.mul_eq_zero.mp z1 with z | z
        · exact z
        · omega
      intro x hx
      rcases List.mem_cons.mp hx with rfl | hx
      · exact z3
      · exact ih.mp z2 x hx
    · intro z
      rw [z c (by simp), ih.mpr fun x hx => z x (by simp [hx])]
      omega
theorem ix_zero {c : Nat} (hc : c ∈ L) : ix L c = 0 ↔ L.take 1 = [c] := by
  cases L with
  | nil => cases hc
  | cons a l =>
    unfold ix
    rw [List.idxOf_cons]
    by_cases h : a = c
    · subst h; simp
    · have : (a == c) = false := by simpa using h
      rw [this]; simp [h]
/-- the test of the walk: w goes on from b with first letters alone, just if it begins where b begins -/
theorem goes_iff (hd : 0 < L.length) {b w : List Nat} (ob : Ov L b) (lb : b.length ≤ 60) (mb : Mini L b) (lw : w.length ≤ 60) : (w.take b.length = b ∧ ∀ c ∈ w.drop b.length, L.take 1 = [c]) ↔ (Ov L w ∧ lo L 60 w = lo L 60 b) := by
  constructor
  · rintro ⟨h1, h2⟩
    have hw : w = b ++ w.drop b.length := by conv => lhs; rw [← List.take_append_drop b.length w, h1]
    have o2 : Ov L (w.drop b.length) := fun c hc => by
      have := h2 c hc
      exact List.take_subset 1 L (by rw [this]; simp)
    have ow : Ov L w := fun c hc => by
      rw [hw] at hc
      rcases List.mem_append.mp hc with hc | hc
      · exact ob c hc
      · exact o2 c hc
    refine ⟨ow, ?_⟩
    have hl : (b ++ w.drop b.length).length ≤ 60 := by rw [← hw]; exact lw
    conv => lhs; rw [hw]
    rw [lo_cat hl, (lo_zero (by rw [List.length_append] at hl; omega) hd).mpr fun c hc => (ix_zero (o2 c hc)).mpr (h2 c hc)]
    omega
  · rintro ⟨ow, h⟩
    rcases tri b w ob ow with z | z | z | z
    · obtain ⟨t, rfl⟩ := z
      rw [lo_cat lw] at h
      have ht : lo L (60 - b.length) t = 0 := by omega
      have h3 := (lo_zero (by rw [List.length_append] at lw; omega) hd).mp ht
      refine ⟨by rw [List.take_append_of_le_length (Nat.le_refl _), List.take_length], fun c hc => ?_⟩
      rw [List.drop_append_of_le_length (Nat.le_refl _), List.drop_length, List.nil_append] at hc
      exact (ix_zero (ow c (by simp [hc]))).mp (h3 c hc)
    · obtain ⟨t, rfl⟩ := z
      rw [lo_cat lb] at h
      have ht : lo L (60 - w.length) t = 0 := by omega
      have h3 := (lo_zero (by rw [List.length_append] at lb; omega) hd).mp ht
      have : t = [] := by
        rcases List.eq_nil_or_concat t with e | ⟨t', c, e⟩
        · exact e
        · rw [List.concat_eq_append] at e
          subst e
          have := mb c (by rw [← List.append_assoc]; exact List.getLast?_concat)
          have := h3 c (by simp)
          omega
      subst this
      rw [List.append_nil]
      exact ⟨List.take_length, fun c hc => by rw [List.drop_length] at hc; cases hc⟩
    · have := bef_hi (M := 60) lb lw ob z
      have := lo_lt_hi (L := L) (M := 60) (w := b) hd
      omega
    · have := bef_hi (M := 60) lw lb ow z
      have := lo_lt_hi (L := L) (M := 60) (w := w) hd
      omega
theorem lo_snoc {M : Nat} {u : List Nat} {c : Nat} (h : u.length < M) : lo L M (u ++ [c]) = lo L M u + ix L c * L.length ^ (M - u.length - 1) := by
  rw [lo_cat (by rw [List.length_append, List.length_singleton]; omega)]
  congr 1
  obtain ⟨k, hk⟩ : ∃ k, M - u.length = k + 1 := ⟨M - u.length - 1, by omega⟩
  rw [hk]
  show ix L c * L.length ^ k + lo L k [] = _
  rw [lo_nil]; simp
theorem hi_snoc {M : Nat} {u : List Nat} {c : Nat} (h : u.length < M) : hi L M (u ++ [c]) = lo L M u + (ix L c + 1) * L.length ^ (M - u.length - 1) := by
  unfold hi wd
  rw [lo_snoc h, List.length_append, List.length_singleton, show M - (u.length + 1) = M - u.length - 1 by omega, Nat.succ_mul]
  omega
/-- behind the last letters at the end -/
theorem hi_last {M k : Nat} {s : List Nat} {z : Nat} (hz : ix L z + 1 = L.length) (h : (s ++ List.replicate k z).length ≤ M) : hi L M (s ++ List.replicate k z) = hi L M s := by
  induction k with
  | zero => simp
  | succ k ih =>
    rw [List.length_append, List.length_replicate] at h ih
    rw [List.replicate_succ', ← List.append_assoc, hi_snoc (by rw [List.length_append, List.length_replicate]; omega), hz, ← ih (by omega)]
    unfold hi wd
    rw [List.length_append, List.length_replicate]
    obtain ⟨j, hj⟩ : ∃ j, M - (s.length + k) = j + 1 := ⟨M - (s.length + k) - 1, by omega⟩
    rw [hj, show j + 1 - 1 = j by omega, Nat.pow_succ, Nat.mul_comm L.length]
theorem hi_next {M : Nat} {t : List Nat} {c c' : Nat} (h : t.length < M) (hc : ix L c' = ix L c + 1) : lo L M (t ++ [c']) = hi L M (t ++ [c]) := by
  rw [lo_snoc h, hi_snoc h, hc]
/-- one step of taking the last letters off -/
def offS (L : List Nat) (b : List Nat) : List Nat := if b.getLast?.toList = L.getLast?.toList then b.dropLast else b
theorem off_inv {z : Nat} (hL : L.getLast? = some z) (w : List Nat) : ∀ i, ∃ s k, (Nat.repeat (offS L) i w) = s ∧ w = s ++ List.replicate k z ∧ (k = i ∨ s = [] ∨ s.getLast? ≠ some z)
  | 0 => ⟨w, 0, rfl, by simp, .inl rfl⟩
  | i + 1 => by
    obtain ⟨s, k, e1, e2, e3⟩ := off_inv hL w i
    have es : Nat.repeat (offS L) (i + 1) w = offS L s := by show offS L (Nat.repeat (offS L) i w) = _; rw [e1]
    rw [es]
    unfold offS
    rw [hL]
    rcases List.eq_nil_or_concat s with rfl | ⟨t, c, rfl⟩
    · exact ⟨[], k, by simp, e2, .inr (.inl rfl)⟩
    · rw [List.concat_eq_append] at *
      rw [List.getLast?_concat, List.dropLast_concat]
      by_cases hc : c = z
      · subst hc
        rcases e3 with e3 | e3 | e3
        · exact ⟨t, k + 1, by simp, by rw [e2, List.append_assoc]; congr 1, .inl (by omega)⟩
        · simp at e3
        · exact absurd List.getLast?_concat e3
      · refine ⟨t ++ [c], k, ?_, e2, .inr (.inr (by rw [List.getLast?_concat]; simpa using hc))⟩
        rw [if_neg]
        simp [hc]
theorem off_end {z : Nat} (hL : L.getLast? = some z) (w : List Nat) : ∃ k, w = Nat.repeat (offS L) w.length w ++ List.replicate k z ∧ (Nat.repeat (offS L) w.length w = [] ∨ (Nat.repeat (offS L) w.length w).getLast? ≠ some z) := by
  obtain ⟨s, k, e1, e2, e3⟩ := off_inv hL w w.length
  rw [e1]
  refine ⟨k, e2, ?_⟩
  rcases e3 with e3 | e3 | e3
  · left
    have := congrArg List.length e2
    rw [List.length_append, List.length_replicate, e3] at this
    exact List.eq_nil_of_length_eq_zero (by omega)
  · exact .inl e3
  · exact .inr e3
/-- the next branch behind w, if there is one -/
def nxt (L : List Nat) (s : List Nat) : List Nat :=
  match s.getLast? with
  | none => []
  | some c => s.dropLast ++ [L.getD (ix L c + 1) 0]
def nextB (L : List Nat) (w : List Nat) : List Nat := nxt L (Nat.repeat (offS L) w.length w)
theorem nxt_snoc (L t : List Nat) (c : Nat) : nxt L (t ++ [c]) = t ++ [L.getD (ix L c + 1) 0] := by
  unfold nxt; rw [List.getLast?_concat, List.dropLast_concat]
theorem next_ok (hA : Asc L) (hd : 0 < L.length) {w : List Nat} (ow : Ov L w) (lw : w.length ≤ 60) :
    (Nat.repeat (offS L) w.length w = [] → nextB L w = [] ∧ hi L 60 w = L.length ^ 60) ∧
    (Nat.repeat (offS L) w.length w ≠ [] → ∃ t c, Nat.repeat (offS L) w.length w = t ++ [c] ∧ c ∈ L ∧ ix L c + 1 < L.length ∧ nextB L w = t ++ [L.getD (ix L c + 1) 0] ∧ Ov L (nextB L w) ∧ (nextB L w).length ≤ 60 ∧ Mini L (nextB L w) ∧ lo L 60 (nextB L w) = hi L 60 w ∧ lo L 60 (nextB L w) < L.length ^ 60) := by
  obtain ⟨z, hz⟩ : ∃ z, L.getLast? = some z := by
    cases h : L.getLast? with
    | none => rw [List.getLast?_eq_none_iff] at h; rw [h] at hd; simp at hd
    | some z => exact ⟨z, rfl⟩
  have nd : L.Nodup := hA.imp (fun h => Nat.ne_of_lt h)
  have hzl : L[L.length - 1]? = some z := by rw [← List.getLast?_eq_getElem?]; exact hz
  have izz : ix L z + 1 = L.length := by
    obtain ⟨h1, h2⟩ := List.getElem?_eq_some_iff.mp hzl
    unfold ix
    rw [← h2, nd.idxOf_getElem]
    omega
  obtain ⟨k, e1, e2⟩ := off_end hz w
  unfold nextB
  generalize hs : Nat.repeat (offS L) w.length w = s at *
  refine ⟨fun h => ?_, fun h => ?_⟩
  · subst h
    refine ⟨rfl, ?_⟩
    rw [e1, hi_last izz (by rw [← e1]; exact lw)]
    unfold hi wd
    rw [lo_nil]; simp
  · rcases List.eq_nil_or_concat s with rfl | ⟨t, c, rfl⟩
    · exact absurd rfl h
    · rw [List.concat_eq_append] at *
      rcases e2 with e2 | e2
      · simp at e2
      rw [List.getLast?_concat] at e2
      have hcL : c ∈ L := ow c (by rw [e1]; simp)
      have hci := List.idxOf_lt_length_of_mem hcL
      have hcz : ix L c + 1 < L.length := by
        by_cases y : ix L c + 1 < L.length
        · exact y
        · exfalso
          have y2 : ix L c = L.length - 1 := by unfold ix at *; omega
          have ec : L[L.idxOf c] = c := List.getElem_idxOf hci
          have : L[L.length - 1]? = some c := by
            rw [← y2]; unfold ix; rw [List.getElem?_eq_getElem hci, ec]
          rw [hzl] at this
          exact e2 (by rw [Option.some.inj this])
      have htl : t.length < 60 := by
        have := congrArg List.length e1
        rw [List.length_append, List.length_append, List.length_singleton] at this
        omega
      have hcd : L[ix L c + 1]? = some (L.getD (ix L c + 1) 0) := by
        rw [List.getD_eq_getElem?_getD, List.getElem?_eq_getElem hcz]; rfl
      have hic : ix L (L.getD (ix L c + 1) 0) = ix L c + 1 := by
        obtain ⟨h1, h2⟩ := List.getElem?_eq_some_iff.mp hcd
        unfold ix at *
        rw [← h2, nd.idxOf_getElem]
      rw [nxt_snoc]
      have hl2 : lo L 60 (t ++ [L.getD (ix L c + 1) 0]) = hi L 60 w := by
        rw [hi_next htl hic]
        conv => rhs; rw [e1]
        rw [hi_last izz (by rw [← e1]; exact lw)]
      have ob : Ov L (t ++ [L.getD (ix L c + 1) 0]) := fun x hx => by
        rcases List.mem_append.mp hx with hx | hx
        · exact ow x (by rw [e1]; simp [hx])
        · rw [List.mem_singleton] at hx; subst hx; exact List.mem_of_getElem? hcd
      have lb : (t ++ [L.getD (ix L c + 1) 0]).length ≤ 60 := by rw [List.length_append, List.length_singleton]; omega
      refine ⟨t, c, rfl, hcL, hcz, rfl, ob, lb, fun x hx => ?_, hl2, ?_⟩
      · rw [List.getLast?_concat] at hx
        cases hx
        rw [hic]; omega
      · have h1 := hi_le (L := L) lb ob
        have h2 := lo_lt_hi (L := L) (M := 60) (w := t ++ [L.getD (ix L c + 1) 0]) hd
        omega
/-- the walk over the leaves: the branch, whether one is left -/
def wk (L : List Nat) : List Nat → Bool → List (List Nat) → Bool
  | _, left, [] => !left
  | b, left, w :: ws => left && (decide (w.length ≤ 60) && (decide (w.take b.length = b) && (decide (∀ c ∈ w.drop b.length, L.take 1 = [c]) && wk L (nextB L w) (decide (nextB L w ≠ [])) ws)))
theorem wk_false {b : List Nat} {ws : List (List Nat)} : wk L b false ws = ws.isEmpty := by cases ws <;> simp [wk]
theorem til_end {ws : List (List Nat)} (hd : 0 < L.length) (hv : Val L ws) (h : Til L (L.length ^ 60) ws) : ws = [] := by
  cases ws with
  | nil => rfl
  | cons w ws =>
    obtain ⟨ow, lw⟩ := hv w (by simp)
    have h1 := hi_le (L := L) lw ow
    have h2 := lo_lt_hi (L := L) (M := 60) (w := w) hd
    have := h.1
    omega
theorem wk_til (hA : Asc L) (hd : 0 < L.length) : ∀ {ws : List (List Nat)} {b : List Nat}, Ov L b → b.length ≤ 60 → Mini L b → lo L 60 b < L.length ^ 60 → (wk L b true ws = true ↔ Val L ws ∧ Til L (lo L 60 b) ws)
  | [], b, ob, lb, mb, hb => by
    show (!true) = true ↔ _
    constructor
    · intro h; cases h
    · rintro ⟨_, h⟩
      have h : lo L 60 b = L.length ^ 60 := h
      omega
  | w :: ws, b, ob, lb, mb, hb => by
    unfold wk
    simp only [Bool.true_and, Bool.and_eq_true, decide_eq_true_eq]
    constructor
    · rintro ⟨h1, h2, h3, h4⟩
      obtain ⟨ow, hlo⟩ := (goes_iff hd ob lb mb h1).mp ⟨h2, h3⟩
      obtain ⟨n1, n2⟩ := next_ok hA hd ow h1
      by_cases hs : Nat.repeat (offS L) w.length w = []
      · obtain ⟨e, ehi⟩ := n1 hs
        rw [e] at h4
        have h4 : wk L [] false ws = true := h4
        rw [wk_false, List.isEmpty_iff] at h4
        subst h4
        exact ⟨fun y hy => by rw [List.mem_singleton] at hy; subst hy; exact ⟨ow, h1⟩, hlo, ehi⟩
      · obtain ⟨t, c, e1, _, _, e2, o2, l2, m2, lo2, lt2⟩ := n2 hs
        have hne : nextB L w ≠ [] := by rw [e2]; simp
        rw [decide_eq_true hne] at h4
        obtain ⟨hv, ht⟩ := (wk_til hA hd o2 l2 m2 lt2).mp h4
        refine ⟨fun y hy => ?_, hlo, by rw [← lo2]; exact ht⟩
        rcases List.mem_cons.mp hy with rfl | hy
        · exact ⟨ow, h1⟩
        · exact hv y hy
    · rintro ⟨hv, hlo, ht⟩
      obtain ⟨ow, h1⟩ := hv w (by simp)
      have hv2 : Val L ws := fun y hy => hv y (by simp [hy])
      obtain ⟨h2, h3⟩ := (goes_iff hd ob lb mb h1).mpr ⟨ow, hlo⟩
      obtain ⟨n1, n2⟩ := next_ok hA hd ow h1
      refine ⟨h1, h2, h3, ?_⟩
      by_cases hs : Nat.repeat (offS L) w.length w = []
      · obtain ⟨e, ehi⟩ := n1 hs
        rw [ehi] at ht
        rw [e, til_end hd hv2 ht]
        rfl
      · obtain ⟨t, c, e1, _, _, e2, o2, l2, m2, lo2, lt2⟩ := n2 hs
        have hne : nextB L w ≠ [] := by rw [e2]; simp
        rw [decide_eq_true hne]
        exact (wk_til hA hd o2 l2 m2 lt2).mpr ⟨hv2, by rw [lo2]; exact ht⟩
end
end K45
end Kb
set_option Elab.async false
set_option linter.all false
set_option maxRecDepth 100000
set_option maxHeartbeats 4000000
namespace Kb
namespace K45
open PySem PySem.Spec PyProof.Rows L2 SX
local macro_rules | `(tactic| walk_at "tk") => `(tactic| first
  | assumption
  | ((with_reducible refine' sqT_of ?k); (case k => assumption))
  | ((with_reducible refine' sqT_ofD ?k); (case k => assumption))
  | ((with_reducible refine' noD_of ?k); (case k => assumption))
  | ((with_reducible refine' noD_same ?s ?k); (case s => assumption); (case k => walk_at "tk"))
  | ((with_reducible refine' sqL_of ?k); (case k => assumption))
  | ((with_reducible refine' sqT_same ?s ?k); (case s => assumption); (case k => walk_at "tk"))
  | ((with_reducible refine' sqL_same ?s ?k); (case s => assumption); (case k => walk_at "tk"))
  | ((with_reducible refine' sqT_but ?s ?t ?k); (case s => assumption); (case t => walk_at "tk"); (case k => walk_at "tk"))
  | ((with_reducible refine' sqL_but ?s ?t ?k); (case s => assumption); (case t => walk_at "ne"); (case k => walk_at "tk"))
  | ((with_reducible refine' sqL_of ?k); (case k => walk_at "tk"))
  | ((with_reducible refine' sqT_of ?k); (case k => walk_at "tk"))
  | ((with_reducible refine' at_same ?s ?k); (case s => assumption); (case k => walk_at "tk"))
  | ((with_reducible refine' at_but ?s ?t ?k); (case s => assumption); (case t => walk_at "ne"); (case k => walk_at "tk")))
local macro_rules | `(tactic| walk_at "ne") => `(tactic| first
  | assumption
  | (refine Ne.symm ?_; assumption)
  | exact ne_of_none (by assumption) (by assumption)
  | exact (ne_of_none (by assumption) (by assumption)).symm)
local macro_rules | `(tactic| walk_at "side") => `(tactic| first
  | assumption
  | omega
  | (simp only [sizeLine_eq, List.length_cons, List.length_nil, List.length_map]; omega)
  | (show _ ≤ sizeLine; decide))
local macro_rules | `(tactic| walk_at "kit") => `(tactic| first
  | (show kitB _ _ = some true; decide +kernel)
  | (show kitB _ _ = some false; decide +kernel))
local macro_rules | `(tactic| walk_at "rng") => `(tactic| first
  | (refine ⟨by omega, by omega, by omega, by omega⟩)
  | (refine ⟨by omega, by omega⟩)
  | ((simp only [List.length_map]); (refine ⟨by omega, by omega, by omega, by omega⟩))
  | ((simp only [List.length_map]); (refine ⟨by omega, by omega⟩)))
local macro_rules | `(tactic| walk_at "rd1") => `(tactic| first
  | with_reducible refine r_seq ?_
  | ((with_reducible refine' r_var ?k0 ?_); (case k0 => rfl))
  | with_reducible refine r_op ?_
  | with_reducible refine r_c ?_
  | with_reducible refine r_asg ?_
  | with_reducible refine r_name ?_
  | with_reducible refine r_cons ?_
  | with_reducible refine r_nil ?_
  | with_reducible refine r_CB ?_
  | with_reducible refine r_if ?_
  | with_reducible refine r_test ?_
  | with_reducible refine r_k ?_
  | with_reducible refine r_T ?_
  | with_reducible refine r_F ?_
  | with_reducible refine r_nT ?_
  | with_reducible refine r_nF ?_
  | with_reducible refine r_ret ?_
  | with_reducible refine r_drop ?_
  | with_reducible refine r_next ?_
  | with_reducible refine r_call ?_
  | with_reducible refine r_addI ?_
  | with_reducible refine r_subI ?_
  | with_reducible refine r_ltI ?_
  | with_reducible refine r_gtI ?_
  | with_reducible refine r_leI ?_
  | with_reducible refine r_geI ?_
  | with_reducible refine r_eqI ?_
  | with_reducible refine r_neI ?_
  | with_reducible refine r_int ?_
  | with_reducible refine r_abs ?_
  | with_reducible refine r_not ?_
  | with_reducible refine r_and ?_
  | with_reducible refine r_or ?_
  | with_reducible refine r_tru ?_
  | with_reducible refine r_truB ?_
  | with_reducible refine r_lst ?_
  | with_reducible refine r_tup ?_
  | with_reducible refine r_BM ?_
  | with_reducible refine r_BM0 ?_
  | with_reducible refine r_tyS ?_
  | with_reducible refine r_gsub ?_
  | with_reducible refine r_then ?_
  | with_reducible refine r_lstRg ?_
  | with_reducible refine r_tupRg ?_
  | with_reducible refine r_rg2 ?_
  | with_reducible refine r_rg1 ?_
  | with_reducible refine r_ii ?_
  | with_reducible refine r_i ?_
  | with_reducible refine r_ipI ?_
  | with_reducible refine r_un ?_
  | with_reducible refine r_neg ?_
  | with_reducible refine r_isN ?_
  | with_reducible refine r_notN ?_
  | with_reducible refine r_notV ?_
  | with_reducible refine r_pnot ?_
  | with_reducible refine r_pif ?_
  | with_reducible refine r_andV ?_
  | with_reducible refine r_orV ?_
  | with_reducible refine r_ifE ?_
  | with_reducible refine r_chain ?_
  | with_reducible refine r_sl ?_
  | with_reducible refine r_noPart ?_
  | with_reducible refine r_part ?_
  | with_reducible refine r_brk ?_
  | with_reducible refine r_cont ?_
  | with_reducible refine r_retN ?_
  | with_reducible refine r_truI ?_
  | with_reducible refine r_B ?_
  | with_reducible refine r_for ?_
  | with_reducible refine r_rng1 ?_
  | with_reducible refine r_rng2 ?_
  | with_reducible refine r_rng3 ?_
  | with_reducible refine r_body ?_
  | with_reducible refine r_lc ?_
  | with_reducible refine r_yes ?_
  | ((with_reducible refine' r_mod ?k0 ?_); (case k0 => walk_at "side"))
  | ((with_reducible refine' r_mulI ?k0 ?_); (case k0 => first | exact Or.inl ⟨by omega, by omega⟩ | exact Or.inr ⟨by omega, by omega⟩))
  | ((with_reducible refine' r_lenL ?k0 ?_); (case k0 => walk_at "tk"))
  | ((with_reducible refine' r_lenT ?k0 ?_); (case k0 => walk_at "tk"))
  | ((with_reducible refine' r_truL ?k0 ?_); (case k0 => walk_at "tk"))
  | ((with_reducible refine' r_truT ?k0 ?_); (case k0 => walk_at "tk"))
  | ((with_reducible refine' r_ixL ?k0 ?k1 ?_); (case k0 => walk_at "tk"); (case k1 => first | assumption | rfl))
  | ((with_reducible refine' r_ixT ?k0 ?k1 ?_); (case k0 => walk_at "tk"); (case k1 => first | assumption | rfl))
  | ((with_reducible refine' r_new ?k0 ?_); (case k0 => walk_at "side"))
  | ((with_reducible refine' r_tyL ?k0 ?_); (case k0 => walk_at "tk"))
  | ((with_reducible refine' r_append ?k0 ?k1 ?_); (case k0 => walk_at "tk"); (case k1 => walk_at "side"))
  | ((with_reducible refine' r_setL ?k0 ?k1 ?_); (case k0 => walk_at "tk"); (case k1 => first | assumption | rfl))
  | ((with_reducible refine' r_kTupL ?k0 ?_); (case k0 => walk_at "tk"))
  | ((with_reducible refine' r_kTupT ?k0 ?_); (case k0 => walk_at "tk"))
  | ((with_reducible refine' r_listL ?k0 ?_); (case k0 => walk_at "tk"))
  | ((with_reducible refine' r_listT ?k0 ?_); (case k0 => walk_at "tk"))
  | ((with_reducible refine' r_aug ?k0 ?_); (case k0 => rfl))
  | ((with_reducible refine' r_lenS ?k0 ?_); (case k0 => walk_at "side"))
  | ((with_reducible refine' r_pop ?k0 ?_); (case k0 => walk_at "tk"))
  | ((with_reducible refine' r_pr1 ?k0 ?_); (case k0 => walk_at "rng"))
  | ((with_reducible refine' r_pr2 ?k0 ?_); (case k0 => walk_at "rng"))
  | ((with_reducible refine' r_pr3d ?k0 ?_); (case k0 => walk_at "rng"))
  | ((with_reducible refine' r_isiI ?k0 ?_); (case k0 => walk_at "kit"))
  | ((with_reducible refine' r_isiB ?k0 ?_); (case k0 => walk_at "kit"))
  | ((with_reducible refine' r_isiS ?k0 ?_); (case k0 => walk_at "kit"))
  | ((with_reducible refine' r_isiN ?k0 ?_); (case k0 => walk_at "kit"))
  | ((with_reducible refine' r_isiT ?k0 ?k1 ?_); (case k0 => walk_at "tk"); (case k1 => walk_at "kit"))
  | ((with_reducible refine r_seqT ?_); (repeat (walk_at "rd1")); ((with_reducible refine' r_pseqT ?k0 ?_); (case k0 => walk_at "tk")))
  | ((with_reducible refine r_seqL ?_); (repeat (walk_at "rd1")); ((with_reducible refine' r_pseqL ?k0 ?_); (case k0 => walk_at "tk")))
  | ((with_reducible refine r_seqS ?_); (repeat (walk_at "rd1")); (with_reducible refine r_pseqS ?_)))
local macro_rules | `(tactic| walk_at "rd") => `(tactic| ((repeat (walk_at "rd1")); (try dsimp only)))
local macro_rules | `(tactic| walk_at "rd1") => `(tactic| first
  | with_reducible refine r_BMT ?_
  | with_reducible refine r_par ?_
  | with_reducible refine r_parV ?_
  | ((with_reducible refine' r_ptp ?k0 ?k1 ?_); (case k0 => walk_at "tk"); (case k1 => walk_at "tk"))
  | with_reducible refine r_eqS ?_
  | with_reducible refine r_neS ?_
  | with_reducible refine r_callW ?_
  | with_reducible refine r_try ?_
  | with_reducible refine r_enT ?_
  | ((with_reducible refine' r_pen ?k0 ?_); (case k0 => walk_at "tk")))
local macro_rules | `(tactic| walk_at "pl0") => `(tactic| first
  | assumption
  | exact pl_same (by assumption) (by assumption)
  | exact pl_same (by assumption) (pl_same (by assumption) (by assumption))
  | exact pl_same (by assumption) (pl_same (by assumption) (pl_same (by assumption) (by assumption))))
local macro_rules | `(tactic| walk_at "pl") => `(tactic| first
  | walk_at "pl0"
  | ((with_reducible refine' pl_butL ?s ?n ?k); (case s => assumption); (case n => walk_at "ne"); (case k => walk_at "pl"))
  | ((with_reducible refine' pl_same ?s ?k); (case s => assumption); (case k => walk_at "pl")))
local macro_rules | `(tactic| walk_at "ne") => `(tactic| first
  | exact ne_pl (by assumption) (by walk_at "pl0")
  | exact (ne_pl (by assumption) (by walk_at "pl0")).symm)
local macro_rules | `(tactic| walk_at "fr") => `(tactic| first
  | assumption
  | ((with_reducible refine' free_but ?b ?n ?h); (case h => assumption); (case n => walk_at "ne"); (case b => walk_at "but"))
  | ((with_reducible refine' Same.free ?b ?h); (case h => assumption); (case b => walk_at "same")))
local macro_rules | `(tactic| walk_at "but") => `(tactic| first
  | assumption
  | exact But.refl
  | ((with_reducible refine' But.trans ?a ?b); (case b => assumption); (case a => walk_at "but"))
  | ((with_reducible refine' But.trans ?a (Same.but ?b)); (case b => assumption); (case a => walk_at "but"))
  | ((with_reducible refine' but_via ?a ?b ?c); (case b => assumption); (case c => walk_at "fr"); (case a => walk_at "but")))
local macro_rules | `(tactic| walk_at "same") => `(tactic| first
  | assumption
  | exact Same.refl _
  | ((with_reducible refine' Same.trans ?a ?b); (case b => assumption); (case a => walk_at "same"))
  | ((with_reducible refine' same_but ?a ?b ?c); (case b => assumption); (case c => walk_at "fr"); (case a => walk_at "same")))
local macro_rules | `(tactic| walk_at "tk") => `(tactic| first
  | ((with_reducible refine' sqT_pl ?s ?t ?k); (case s => assumption); (case t => walk_at "pl0"); (case k => walk_at "tk"))
  | ((with_reducible refine' rp_same ?s ?k); (case s => assumption); (case k => walk_at "tk"))
  | ((with_reducible refine' rp_pl ?s ?t ?k); (case s => assumption); (case t => walk_at "pl0"); (case k => walk_at "tk")))
local macro_rules | `(tactic| walk_at "it") => `(tactic| first
  | assumption
  | ((with_reducible refine' sqI_1 ?k); (case k => assumption))
  | ((with_reducible refine' sqI_0 ?k); (case k => assumption))
  | ((with_reducible refine' sqI_of ?k); (case k => assumption))
  | ((with_reducible refine' sqI_D ?k); (case k => assumption))
  | ((with_reducible refine' sqT_same ?s ?k); (case s => assumption); (case k => walk_at "it"))
  | ((with_reducible refine' sqT_but ?s ?t ?k); (case s => assumption); (case t => assumption); (case k => walk_at "it"))
  | ((with_reducible refine' sqT_pl ?s ?t ?k); (case s => assumption); (case t => walk_at "pl0"); (case k => walk_at "it")))
local macro_rules | `(tactic| walk_at "sz") => `(tactic| first | omega | ((try simp only [List.length_cons, List.length_nil] at *); omega))
local macro_rules | `(tactic| walk_at "au1") => `(tactic| first
  | walk_at "rd1"
  | ((with_reducible refine' r_draw ?k0 ?k1 ?k2 ?_); (case k0 => walk_at "pl"); (case k1 => omega); (case k2 => omega); (intro _ _ _ _ _ _))
  | ((with_reducible refine' r_slN ?k0 ?_); (case k0 => walk_at "it"); (intro _ _ _ _ _ _))
  | ((with_reducible refine' r_catN ?k0 ?k1 ?k2 ?_); (case k0 => walk_at "it"); (case k1 => walk_at "it"); (case k2 => walk_at "sz"); (intro _ _ _ _ _ _))
  | ((with_reducible refine' r_pow ?k0 ?_); (case k0 => exact ⟨by decide, by decide, by decide⟩))
  | ((with_reducible refine' r_ixI ?k0 ?k1 ?k2 ?_); (case k0 => walk_at "it"); (case k1 => omega); (case k2 => omega); (intro _ _))
  | ((with_reducible refine' r_setI ?k0 ?k1 ?k2 ?_); (case k0 => walk_at "tk"); (case k1 => omega); (case k2 => omega); (intro _ _ _ _ _))
  | ((with_reducible refine' r_kTupI ?k0 ?_); (case k0 => walk_at "tk"); (intro _ _ _ _ _))
  | ((with_reducible refine' r_listI ?k0 ?_); (case k0 => walk_at "it"); (intro _ _ _ _ _))
  | (with_reducible refine r_revU ?_)
  | ((with_reducible refine' r_prevN ?k0 ?_); (case k0 => walk_at "it"); (intro _ _ _ _ _ _))
  | (intro _ _ _ _ _))
local macro_rules | `(tactic| walk_at "go") => `(tactic| ((repeat (walk_at "au1")); (first
  | ((with_reducible refine r_ite (fun _ => ?_) (fun _ => ?_)) <;> (walk_at "go"))
  | ((with_reducible refine r_iteN (fun _ => ?_) (fun _ => ?_)) <;> (walk_at "go"))
  | dsimp only
  | skip)))
abbrev tx (z : List Nat) : V := .str (S z)
/-- a text is short -/
def Sm1 (d : Dat) : Prop := ∀ s : Str, d = .str s → s.cps.toList.length ≤ 1000000
def isWd (L : List Nat) : Dat → Bool
  | .str s => decide (s.cps.toList.length ≤ 60) && decide (∀ c ∈ s.cps.toList, c ∈ L)
  | _ => false
def sp_is_word (K : PySem.W.Frag) : Sp := fun vs H Q _ => ∃ (v : V) (d : Dat) (L : List Nat), vs = [v, .str (S L)] ∧ Rp K H v d ∧ Sm1 d ∧ ∀ H', Same H H' → Q (.bl (isWd L d)) H'
def sp_is_prefix_free (K : PySem.W.Frag) : Sp := fun vs H Q _ => ∃ (a : Addr) (ws : List (List Nat)), vs = [.ref a] ∧ SqT K H a (ws.map tx) ∧ ws.length ≤ 100000 ∧ ∀ b : Bool, (b = true ↔ Con ws) → Q (.bl b) H
def powL (m : Nat) (k : Nat) : List V := (List.range k).map fun j => V.int ((m ^ j : Nat) : Int)
def sp_powers_of (K : PySem.W.Frag) : Sp := fun vs H Q _ => ∃ (m : Nat), vs = [.int (m : Int)] ∧ m ≤ 26 ∧ ∀ p H', H p = none → Same H H' → H' p = some (.lst (powL m 61)) → Q (.ref p) H'
def Sml : Dat → Prop
  | .tup ds => ∀ d ∈ ds, Sm1 d
  | _ => True
def wordsOf : List Dat → Option (List (List Nat))
  | [] => some []
  | .str s :: ds => (wordsOf ds).map (s.cps.toList :: ·)
  | _ :: _ => none
/-- a complete list, as the program looks at it -/
def Cmp (L : List Nat) : Dat → Prop
  | .tup ds => 1 ≤ ds.length ∧ ds.length ≤ 5000 ∧ ∃ ws, wordsOf ds = some ws ∧ Val L ws ∧ Con ws ∧ ∃ lg, lg ≤ 60 ∧ (∀ w ∈ ws, w.length ≤ lg) ∧ (∃ w ∈ ws, w.length = lg) ∧ (ws.map fun w => L.length ^ (lg - w.length)).sum = L.length ^ lg
  | _ => False
def sp_is_complete (K : PySem.W.Frag) : Sp := fun vs H Q _ => ∃ (v : V) (d : Dat) (L : List Nat), vs = [v, .str (S L)] ∧ Rp K H v d ∧ Sml d ∧ L.length ≤ 26 ∧ ∀ (b : Bool) H', (b = true ↔ Cmp L d) → Same H H' → Q (.bl b) H'
abbrev N_is_word : List Str := ["told", "letters", "letter"]
def t_is_word (K : PySem.W.Frag) : TS :=
  tSeq (tIfS ((tOr ((tNot ((tTru K ((tCB (rIsi K) (tCons (tVar 0) (tCons ((tC (.ty "str"))) tNil)))))))) ((tTest (tOp rGtU ((tCB (rLenU K) (tCons (tVar 0) tNil))) ((tC (.int 60)))))))) ((tRet ((tC (.bl false))))) (tNext))
  ((tRet ((tCB (rAll K) (tCons ((tLc ((iSeqU K (tVar 0))) ((gName 2)) (tYes) ((tOp (rInU K) (tVar 2) (tVar 1))) [2])) tNil)))))
abbrev N_is_prefix_free : List Str := ["words", "number", "before"]
def t_is_prefix_free (K : PySem.W.Frag) : TS :=
  tSeq (tFor (iRng2 (tCons ((tC (.int 1))) (tCons ((tCB (rLenU K) (tCons (tVar 0) tNil))) tNil))) (gName 1) (tSeq (tAsg ((tOp (rIx K) (tVar 0) ((tOp rSubU (tVar 1) ((tC (.int 1))))))) (gName 2))
  ((tIfS ((tOr ((tTest (tOp (rLeU K) ((tOp (rIx K) (tVar 0) (tVar 1))) (tVar 2)))) ((tTru K ((tBM K "str" rStartsw ((tOp (rIx K) (tVar 0) (tVar 1))) (tCons (tVar 2) tNil))))))) ((tRet ((tC (.bl false))))) (tNext)))))
  ((tRet ((tC (.bl true)))))
abbrev N_powers_of : List Str := ["base", "powers"]
def t_powers_of (K : PySem.W.Frag) : TS :=
  tSeq (tAsg ((tLst (tCons ((tC (.int 1))) tNil))) (gName 1))
  (tSeq (tWhile ((tTest (tOp (rLeU K) ((tCB (rLenU K) (tCons (tVar 1) tNil))) ((tC (.int 60)))))) ((tDrop ((tBM K "list" rAppend (tVar 1) (tCons ((tOp (rMulU K) ((tOp (rIx K) (tVar 1) ((tUn (rU fun i => .int (-i)) ((tC (.int 1))))))) (tVar 0))) tNil))))))
  ((tRet (tVar 1))))
abbrev N_is_complete : List Str := ["words", "letters", "word", "powers", "longest"]
def t_is_complete (K : PySem.W.Frag) : TS :=
  tSeq (tIfS ((tOr ((tNot ((tTru K ((tCB (rIsi K) (tCons (tVar 0) (tCons ((tC (.ty "tuple"))) tNil)))))))) ((tNot ((tTest (tChain (rLeU K) (rLeU K) ((tC (.int 1))) ((tCB (rLenU K) (tCons (tVar 0) tNil))) ((tC (.int 5000)))))))))) ((tRet ((tC (.bl false))))) (tNext))
  (tSeq (tFor (iSeqU K (tVar 0)) (gName 2) ((tIfS ((tNot ((tTru K ((tCall (sp_is_word K) [] E0 (tCons (tVar 2) (tCons (tVar 1) tNil)))))))) ((tRet ((tC (.bl false))))) (tNext))))
  (tSeq (tIfS ((tNot ((tTru K ((tCall (sp_is_prefix_free K) [] E0 (tCons (tVar 0) tNil))))))) ((tRet ((tC (.bl false))))) (tNext))
  (tSeq (tAsg ((tCall (sp_powers_of K) [] E0 (tCons ((tCB (rLenU K) (tCons (tVar 1) tNil))) tNil))) (gName 3))
  (tSeq (tAsg ((tCB (rMax K) (tCons ((tLc ((iSeqU K (tVar 0))) ((gName 2)) (tYes) ((tCB (rLenU K) (tCons (tVar 2) tNil))) [2])) tNil))) (gName 4))
  ((tRet ((tOp (rEqU K) ((tCB (rSum K) (tCons ((tLc ((iSeqU K (tVar 0))) ((gName 2)) (tYes) ((tOp (rIx K) (tVar 3) ((tOp rSubU (tVar 4) ((tCB (rLenU K) (tCons (tVar 2) tNil))))))) [2])) tNil))) ((tOp (rIx K) (tVar 3) (tVar 4)))))))))))
section
variable {K : PySem.W.Frag} {ec : Str → Addr} {ns : List Str} {vs : List V} {H : Hp} {Q : VK} {E : XK}
theorem len_is_word (h : sp_is_word K vs H Q E) : vs.length = 2 := by obtain ⟨_, _, _, rfl, _⟩ := h; rfl
theorem len_is_prefix_free (h : sp_is_prefix_free K vs H Q E) : vs.length = 1 := by obtain ⟨_, _, rfl, _⟩ := h; rfl
theorem len_powers_of (h : sp_powers_of K vs H Q E) : vs.length = 1 := by obtain ⟨_, rfl, _⟩ := h; rfl
theorem len_is_complete (h : sp_is_complete K vs H Q E) : vs.length = 2 := by obtain ⟨_, _, _, rfl, _⟩ := h; rfl
/-- [f(c) for c in text], any values -/
theorem r_lcStrV {σ : L2.St} {te : TE} {j : Nat} {l : List Nat} (f : Nat → V) (hz : l.length ≤ 1000000) (he : ∀ c H1 (Q' : VK), Same H H1 → Q' (f c) H1 → te ((σ.set j none).set j (some (.str (S [c])))) H1 Q')
    (hd : ∀ q H', H q = none → Same H H' → H' q = some (.lst (l.map f)) → Q (.ref q) H') : PLc (Its (S l)) (gName j) tYes te [j] σ H Q := by
  intro D hD
  refine lc_it (n := l.length) (Y := fun i H x H' => H' = H ∧ ∃ c, l[i]? = some c ∧ x = .str (S [c])) (G := fun _ => True) (J := Its (S l))
    ⟨fun i H hi _ => by show i < (S l).cps.size; simpa using hi, fun H _ => by show (S l).cps.size ≤ l.length; simp, fun i H x H' hi _ y => by
      obtain ⟨rfl, c, hc, rfl⟩ := y
      exact ⟨rfl, c, by simpa using hc, rfl⟩⟩
    (fun i H' => Same H H' ∧ H' D = some (.lst ((l.take i).map f))) ⟨same_new hD, upd_same⟩ (fun _ _ _ _ => trivial) (fun i x H1 H2 hi P y => ?_) (fun H' P => ?_)
  · obtain ⟨rfl, c, hc, rfl⟩ := y
    obtain ⟨s, e⟩ := P
    refine ⟨by show ((σ.set j none).set j _).set j none = σ.set j none; rw [List.set_set, List.set_set], ?_⟩
    refine r_yes (r_T (he c H2 _ s ?_))
    refine ⟨_, e, by rw [List.length_map, List.length_take, sizeLine_eq]; omega, same_but s but_upd hD, ?_⟩
    rw [upd_same, List.take_add_one, hc, List.map_append]
    rfl
  · have e := P.2
    rw [List.take_length] at e
    exact hd D H' hD P.1 e
theorem r_all {a : Addr} {bs : List Bool} (h : SqL K H a (bs.map V.bl)) (q : Q (.bl (bs.all id)) H) : rAll K [.ref a] H Q := ⟨a, bs, rfl, h, q⟩
theorem r_inSS {c : Nat} {L : List Nat} (q : Q (.bl (decide (c ∈ L))) H) : rInU K (.str (S [c])) (.str (S L)) H Q := .inr ⟨c, S L, rfl, rfl, q⟩
theorem all_dec {L z : List Nat} : (z.map fun c => decide (c ∈ L)).all id = decide (∀ c ∈ z, c ∈ L) := by
  rw [List.all_map]
  by_cases h : ∀ c ∈ z, c ∈ L
  · rw [decide_eq_true h, List.all_eq_true]
    intro c hc; simpa using h c hc
  · rw [decide_eq_false h]
    rw [List.all_eq_false]
    simp only [Classical.not_forall] at h
    obtain ⟨c, hc, hn⟩ := h
    exact ⟨c, hc, by simpa using hn⟩
theorem pure_is_word (h : sp_is_word K vs H Q E) : t_is_word K (En Q) (start N_is_word vs) H := by
  obtain ⟨v, d, L, rfl, hr, hs, q⟩ := h
  unfold t_is_word
  cases hr with
  | int i => walk_at "rd"; exact q _ (Same.refl _)
  | bl b => walk_at "rd"; exact q _ (Same.refl _)
  | non => walk_at "rd"; exact q _ (Same.refl _)
  | tup ht hd => walk_at "rd"; exact q _ (Same.refl _)
  | str s =>
    have hl := hs s rfl
    obtain ⟨z, rfl⟩ : ∃ z, s = S z := ⟨s.cps.toList, (S_tl s).symm⟩
    have hl : z.length ≤ 1000000 := hl
    have q : ∀ H', Same H H' → Q (.bl (decide (z.length ≤ 60) && decide (∀ c ∈ z, c ∈ L))) H' := q
    walk_at "rd"
    refine r_lenSS (by omega) ?_
    walk_at "rd"
    refine r_ite (fun c => ?_) (fun c => ?_)
    · walk_at "rd"
      have := q _ (Same.refl _)
      rw [decide_eq_false (by omega)] at this
      exact this
    · rw [decide_eq_true (by omega)] at q
      walk_at "rd"
      refine r_lcStrV (fun c => .bl (decide (c ∈ L))) hl (fun c H1 Q' s1 k => ?_) fun p H1 np s1 e1 => ?_
      · walk_at "rd"
        refine r_inSS k
      · walk_at "rd"
        refine r_all (bs := z.map fun c => decide (c ∈ L)) (sqL_of (by rw [e1, List.map_map]; rfl)) ?_
        rw [all_dec]
        exact q _ s1
theorem pure_is_prefix_free (h : sp_is_prefix_free K vs H Q E) : t_is_prefix_free K (En Q) (start N_is_prefix_free vs) H := by
  obtain ⟨a, ws, rfl, ha, hz, q⟩ := h
  unfold t_is_prefix_free
  walk_at "rd"
  refine r_forRange (fun i σ' H' => H' = H ∧ (∃ z1 z2, σ' = [some (.ref a), z1, z2]) ∧ ∀ j u v, j < i → ws[j]? = some u → ws[j + 1]? = some v → u < v ∧ ¬ u <+: v) ⟨rfl, ⟨_, _, rfl⟩, fun j u v hj => by omega⟩ (fun i σ' H' hi hW => ?_) (fun σ' H' hW => ?_)
  · obtain ⟨rfl, ⟨z1, z2, rfl⟩, hc⟩ := hW
    rw [List.length_map] at hi
    have hi1 : i + 1 < ws.length := by omega
    have e0 : atI (ws.map tx) (1 + (i : Int) - 1) = some (tx ws[i]) := by
      rw [show (1 + (i : Int) - 1) = ((i : Nat) : Int) by omega]
      exact atI_nat (by rw [List.getElem?_map, List.getElem?_eq_getElem (by omega)]; rfl)
    have e1 : atI (ws.map tx) (1 + (i : Int)) = some (tx ws[i + 1]) := by
      rw [show (1 + (i : Int)) = ((i + 1 : Nat) : Int) by omega]
      exact atI_nat (by rw [List.getElem?_map, List.getElem?_eq_getElem hi1]; rfl)
    walk_at "rd"
    refine .inr (.inl ⟨_, _, rfl, rfl, ?_⟩)
    have q1 : ∀ b : Bool, (b = true → ws[i] < ws[i + 1] ∧ ¬ ws[i] <+: ws[i + 1]) → (b = false → ¬ (ws[i] < ws[i + 1] ∧ ¬ ws[i] <+: ws[i + 1])) → b = false → Q (.bl false) H' := fun b _ h2 hb => q false ⟨(fun z => by cases z), fun z => absurd (z i _ _ (List.getElem?_eq_getElem (by omega)) (List.getElem?_eq_getElem hi1)) (h2 hb)⟩
    show PB (.bl (!decide (ws[i] < ws[i + 1]))) H' _
    walk_at "rd"
    refine r_iteN (fun c => ?_) (fun c => ?_)
    · walk_at "rd"
      exact q1 false (fun z => by cases z) (fun _ z => c z.1) rfl
    · walk_at "rd"
      refine r_startsS ?_
      walk_at "rd"
      refine r_ite (fun c2 => ?_) (fun c2 => ?_)
      · walk_at "rd"
        exact q1 false (fun z => by cases z) (fun _ z => z.2 c2) rfl
      · walk_at "rd"
        refine ⟨rfl, ⟨_, _, rfl⟩, fun j u v hj h1 h2 => ?_⟩
        by_cases hji : j = i
        · subst hji
          rw [List.getElem?_eq_getElem (by omega)] at h1
          rw [List.getElem?_eq_getElem hi1] at h2
          cases h1; cases h2
          exact ⟨c, c2⟩
        · exact hc j u v (by omega) h1 h2
  · obtain ⟨rfl, ⟨z1, z2, rfl⟩, hc⟩ := hW
    walk_at "rd"
    rw [List.length_map] at hc
    refine q true ⟨fun _ i u v h1 h2 => ?_, fun _ => rfl⟩
    have := (List.getElem?_eq_some_iff.mp h2).1
    exact hc i u v (by omega) h1 h2
theorem powL_len {m k : Nat} : (powL m k).length = k := by unfold powL; simp
theorem powL_at {m k j : Nat} (h : j < k) : (powL m k)[j]? = some (.int ((m ^ j : Nat) : Int)) := by
  unfold powL
  rw [List.getElem?_map, List.getElem?_range h]; rfl
theorem pure_powers_of (h : sp_powers_of K vs H Q E) : t_powers_of K (En Q) (start N_powers_of vs) H := by
  obtain ⟨m, rfl, hm, q⟩ := h
  unfold t_powers_of
  walk_at "rd"
  intro l H1 nl s1 e1
  walk_at "rd"
  refine r_while (fun n σ' H' => ∃ k, n = 61 - k ∧ 1 ≤ k ∧ k ≤ 61 ∧ σ' = [some (.int (m : Int)), some (.ref l)] ∧ Same H H' ∧ H' l = some (.lst (powL m k))) 60 ⟨1, rfl, by omega, by omega, rfl, s1, by rw [e1]; rfl⟩ (fun n σ' H' hW => ?_)
  obtain ⟨k, rfl, h1, h2, rfl, s2, e2⟩ := hW
  walk_at "rd"
  rw [powL_len]
  refine r_ite (fun c => ?_) (fun c => ?_)
  · have ea : atI (powL m k) (-1) = some (.int ((m ^ (k - 1) : Nat) : Int)) := by
      have : powL m k = powL m (k - 1) ++ [.int ((m ^ (k - 1) : Nat) : Int)] := by
        obtain ⟨j, rfl⟩ : ∃ j, k = j + 1 := ⟨k - 1, by omega⟩
        unfold powL
        rw [List.range_succ, List.map_append]; rfl
      rw [this]
      have := at_lastG (fun v : V => v) (powL m (k - 1)) (.int ((m ^ (k - 1) : Nat) : Int))
      rw [List.map_id'] at this
      exact this
    walk_at "rd"
    refine r_append e2 (by rw [powL_len, sizeLine_eq]; omega) fun H3 b3 e3 => ?_
    walk_at "rd"
    refine ⟨61 - (k + 1), by omega, k + 1, rfl, by omega, by omega, rfl, same_but s2 b3 nl, ?_⟩
    rw [e3]
    congr 2
    obtain ⟨j, rfl⟩ : ∃ j, k = j + 1 := ⟨k - 1, by omega⟩
    conv => rhs; unfold powL; rw [List.range_succ, List.map_append]
    congr 1
    all_goals (simp only [List.map_cons, List.map_nil, Nat.add_sub_cancel]; rw [Nat.pow_succ, Int.natCast_mul])
  · have : k = 61 := by omega
    subst this
    walk_at "rd"
    exact q l H' nl s2 e2
theorem all_words {L : List Nat} : ∀ {xs : List V} {ds : List Dat}, RpL K H xs ds → (∀ d ∈ ds, isWd L d = true) → ∃ ws, wordsOf ds = some ws ∧ xs = ws.map tx ∧ Val L ws
  | _, _, .nil, _ => ⟨[], rfl, rfl, fun w h => by cases h⟩
  | _, _, .cons (d := d) h hr, hw => by
    obtain ⟨ws, e1, e2, e3⟩ := all_words hr fun d hd => hw d (by simp [hd])
    have h0 := hw d (by simp)
    cases h with
    | str s =>
      simp only [isWd, Bool.and_eq_true, decide_eq_true_eq] at h0
      refine ⟨s.cps.toList :: ws, by simp [wordsOf, e1], by rw [e2, List.map_cons] <;> try rfl, fun w hm => ?_⟩
      rcases List.mem_cons.mp hm with rfl | hm
      · exact ⟨h0.2, h0.1⟩
      · exact e3 w hm
    | int i => cases h0
    | bl i => cases h0
    | non => cases h0
    | tup i j => cases h0
theorem words_wd {L : List Nat} : ∀ {ds : List Dat} {ws : List (List Nat)}, wordsOf ds = some ws → Val L ws → ∀ d ∈ ds, isWd L d = true
  | [], _, _, _, d, h => by cases h
  | .str s :: ds, ws, e, hv, d, h => by
    simp only [wordsOf, Option.map_eq_some_iff] at e
    obtain ⟨us, e1, rfl⟩ := e
    rcases List.mem_cons.mp h with rfl | h
    · have := hv s.cps.toList (by simp)
      simp only [isWd, Bool.and_eq_true, decide_eq_true_eq]
      exact ⟨this.2, this.1⟩
    · exact words_wd e1 (fun w hw => hv w (by simp [hw])) d h
  | .int _ :: _, _, e, _, _, _ => by cases e
  | .bl _ :: _, _, e, _, _, _ => by cases e
  | .non :: _, _, e, _, _, _ => by cases e
  | .tup _ :: _, _, e, _, _, _ => by cases e
theorem words_len : ∀ {ds : List Dat} {ws : List (List Nat)}, wordsOf ds = some ws → ws.length = ds.length
  | [], _, e => by cases e; rfl
  | .str s :: ds, ws, e => by
    simp only [wordsOf, Option.map_eq_some_iff] at e
    obtain ⟨us, e1, rfl⟩ := e
    rw [List.length_cons, List.length_cons, words_len e1]
  | .int _ :: _, _, e => by cases e
  | .bl _ :: _, _, e => by cases e
  | .non :: _, _, e => by cases e
  | .tup _ :: _, _, e => by cases e
theorem r_max {a : Addr} {ns : List Int} (h : SqL K H a (ns.map V.int)) (h0 : 0 < ns.length) (q : ∀ m, m ∈ ns → (∀ y, y ∈ ns → y ≤ m) → Q (.int m) H) : rMax K [.ref a] H Q := ⟨a, ns, rfl, h, h0, q⟩
theorem r_sum {a : Addr} {ns : List Int} (h : SqL K H a (ns.map V.int)) (q : Q (.int ns.sum) H) : rSum K [.ref a] H Q := ⟨a, ns, rfl, h, q⟩
theorem sum_cast : ∀ l : List Nat, (List.map (fun n : Nat => (n : Int)) l).sum = ((l.sum : Nat) : Int)
  | [] => rfl
  | n :: l => by rw [List.map_cons, List.sum_cons, List.sum_cons, sum_cast l]; omega
theorem pure_is_complete (h : sp_is_complete K vs H Q E) : t_is_complete K (En Q) (start N_is_complete vs) H := by
  obtain ⟨v, d, L, rfl, hr, hs, hL, q⟩ := h
  unfold t_is_complete
  cases hr with
  | int i => walk_at "rd"; exact q false _ ⟨(fun z => by cases z), fun z => z.elim⟩ (Same.refl _)
  | bl b => walk_at "rd"; exact q false _ ⟨(fun z => by cases z), fun z => z.elim⟩ (Same.refl _)
  | non => walk_at "rd"; exact q false _ ⟨(fun z => by cases z), fun z => z.elim⟩ (Same.refl _)
  | str s => walk_at "rd"; exact q false _ ⟨(fun z => by cases z), fun z => z.elim⟩ (Same.refl _)
  | @tup a xs ds ht hd =>
    have hlen := rpL_length hd
    walk_at "rd"
    refine r_ite (fun c1 => ?g1) (fun c1 => ?g2)
    case g2 =>
      walk_at "rd"
      exact q false _ ⟨(fun z => by cases z), fun z => by have := z.1; omega⟩ (Same.refl _)
    walk_at "rd"
    refine r_iteN (fun c2 => ?_) (fun c2 => ?_)
    · walk_at "rd"
      exact q false _ ⟨(fun z => by cases z), fun z => by have := z.2.1; omega⟩ (Same.refl _)
    walk_at "rd"
    refine r_forTup (xs := xs) (fun i σ' H' => Same H H' ∧ (∃ z, σ' = [some (.ref a), some (.str (S L)), z, none, none]) ∧ ∀ j d, j < i → ds[j]? = some d → isWd L d = true) ⟨Same.refl _, ⟨_, rfl⟩, fun j d hj => by omega⟩ (fun i σ' H' hi p => sqT_same p.1 ht) (fun i x σ' H' hx hW => ?_) (fun σ' H' hW => ?_)
    · obtain ⟨s1, ⟨z, rfl⟩, hc⟩ := hW
      have hil := (List.getElem?_eq_some_iff.mp hx).1
      have hdi : ds[i]? = some ds[i] := List.getElem?_eq_getElem (by omega)
      obtain ⟨w, ew, rw'⟩ := rpL_get hd hdi
      rw [hx] at ew
      cases ew
      walk_at "rd"
      refine ⟨x, ds[i], L, rfl, rp_same s1 rw', hs _ (List.getElem_mem _), fun H2 s2 => ?_⟩
      cases hb : isWd L ds[i] with
      | false =>
        walk_at "rd"
        refine q false _ ⟨(fun z => by cases z), fun z => ?_⟩ (s1.trans s2)
        obtain ⟨_, _, ws, e1, e2, _⟩ := z
        have := words_wd e1 e2 _ (List.getElem_mem (show i < ds.length by omega))
        rw [hb] at this; cases this
      | true =>
        walk_at "rd"
        refine ⟨s1.trans s2, ⟨_, rfl⟩, fun j d hj e => ?_⟩
        by_cases hji : j = i
        · subst hji; rw [hdi] at e; cases e; exact hb
        · exact hc j d (by omega) e
    · obtain ⟨s1, ⟨z, rfl⟩, hc⟩ := hW
      obtain ⟨ws, e1, rfl, hv⟩ := all_words (L := L) hd fun d hdm => by
        obtain ⟨j, hj, rfl⟩ := List.mem_iff_getElem.mp hdm
        exact hc j _ (by omega) (List.getElem?_eq_getElem hj)
      have wl := words_len e1
      rw [List.length_map] at c1 c2
      have h1 := sqT_same s1 ht
      walk_at "rd"
      refine ⟨a, ws, rfl, h1, by omega, fun b hb => ?_⟩
      cases b with
      | false =>
        walk_at "rd"
        refine q false _ ⟨(fun z => by cases z), fun z => ?_⟩ s1
        obtain ⟨_, _, us, e2, _, e3, _⟩ := z
        rw [e1] at e2; cases e2
        have := hb.mpr e3
        cases this
      | true =>
        have hcon := hb.mp rfl
        walk_at "rd"
        refine r_lenSS (by omega) ?_
        walk_at "rd"
        refine ⟨L.length, rfl, hL, fun p H2 np s2 e2 => ?_⟩
        have h2 := sqT_same s2 h1
        walk_at "rd"
        refine r_lcTg tx (fun w => .int ((w.length : Nat) : Int)) h2 (by omega) (fun _ => rfl) (fun w H3 Q' hw s3 k => ?_) fun p3 H3 np3 s3 e3 => ?_
        · have := (hv w hw).2
          walk_at "rd"
          refine r_lenSS (by omega) ?_
          exact k _ (Same.refl _)
        walk_at "rd"
        refine r_max (ns := ws.map fun w => ((w.length : Nat) : Int)) (sqL_of (by rw [e3, List.map_map]; rfl)) (by rw [List.length_map]; omega) fun m hm hmax => ?_
        obtain ⟨w0, hw0, rfl⟩ := List.mem_map.mp hm
        have l0 := (hv w0 hw0).2
        have hlg : ∀ w ∈ ws, w.length ≤ w0.length := fun w hw => by
          have := hmax _ (List.mem_map.mpr ⟨w, hw, rfl⟩)
          omega
        have h3 := sqT_same s3 h2
        walk_at "rd"
        refine r_lcTg tx (fun w => .int ((L.length ^ (w0.length - w.length) : Nat) : Int)) h3 (by omega) (fun _ => rfl) (fun w H4 Q' hw s4 k => ?_) fun p4 H4 np4 s4 e4 => ?_
        · have lw := (hv w hw).2
          have lw2 := hlg w hw
          walk_at "rd"
          refine r_lenSS (by omega) ?_
          walk_at "rd"
          have ea : atI (powL L.length 61) ((w0.length : Int) - (w.length : Int)) = some (.int ((L.length ^ (w0.length - w.length) : Nat) : Int)) := by
            rw [show ((w0.length : Int) - (w.length : Int)) = ((w0.length - w.length : Nat) : Int) by omega]
            exact atI_nat (powL_at (by omega))
          have hp := sqL_of (K := K) (s4 _ _ (s3 _ _ e2))
          refine r_ixL hp ea ?_
          exact k _ (Same.refl _)
        walk_at "rd"
        refine r_sum (ns := ws.map fun w => ((L.length ^ (w0.length - w.length) : Nat) : Int)) (sqL_of (by rw [e4, List.map_map]; rfl)) ?_
        have ea : atI (powL L.length 61) (w0.length : Int) = some (.int ((L.length ^ w0.length : Nat) : Int)) := atI_nat (powL_at (by omega))
        have hp := sqL_of (K := K) (s4 _ _ (s3 _ _ e2))
        walk_at "rd"
        refine q _ _ ?_ (((s1.trans s2).trans s3).trans s4)
        have es : (ws.map fun w => ((L.length ^ (w0.length - w.length) : Nat) : Int)).sum = (((ws.map fun w => L.length ^ (w0.length - w.length)).sum : Nat) : Int) := by
          rw [← sum_cast, List.map_map]; rfl
        rw [decide_eq_true_eq, es]
        constructor
        · intro z
          exact ⟨by omega, by omega, ws, e1, hv, hcon, w0.length, l0, hlg, ⟨w0, hw0, rfl⟩, by omega⟩
        · rintro ⟨_, _, us, e5, _, _, lg, _, g1, ⟨w5, hw5, g2⟩, g3⟩
          rw [e1] at e5; cases e5
          have : lg = w0.length := by
            have := hlg w5 hw5
            have := g1 w0 hw0
            omega
          subst this
          rw [g3]
end
end K45
end Kb
set_option Elab.async false
set_option linter.all false
set_option maxRecDepth 100000
set_option maxHeartbeats 4000000
namespace Kb
namespace K45
open PySem PySem.Spec PyProof.Rows L2 SX
local macro_rules | `(tactic| walk_at "tk") => `(tactic| first
  | assumption
  | ((with_reducible refine' sqT_of ?k); (case k => assumption))
  | ((with_reducible refine' sqT_ofD ?k); (case k => assumption))
  | ((with_reducible refine' noD_of ?k); (case k => assumption))
  | ((with_reducible refine' noD_same ?s ?k); (case s => assumption); (case k => walk_at "tk"))
  | ((with_reducible refine' sqL_of ?k); (case k => assumption))
  | ((with_reducible refine' sqT_same ?s ?k); (case s => assumption); (case k => walk_at "tk"))
  | ((with_reducible refine' sqL_same ?s ?k); (case s => assumption); (case k => walk_at "tk"))
  | ((with_reducible refine' sqT_but ?s ?t ?k); (case s => assumption); (case t => walk_at "tk"); (case k => walk_at "tk"))
  | ((with_reducible refine' sqL_but ?s ?t ?k); (case s => assumption); (case t => walk_at "ne"); (case k => walk_at "tk"))
  | ((with_reducible refine' sqL_of ?k); (case k => walk_at "tk"))
  | ((with_reducible refine' sqT_of ?k); (case k => walk_at "tk"))
  | ((with_reducible refine' at_same ?s ?k); (case s => assumption); (case k => walk_at "tk"))
  | ((with_reducible refine' at_but ?s ?t ?k); (case s => assumption); (case t => walk_at "ne"); (case k => walk_at "tk")))
local macro_rules | `(tactic| walk_at "ne") => `(tactic| first
  | assumption
  | (refine Ne.symm ?_; assumption)
  | exact ne_of_none (by assumption) (by assumption)
  | exact (ne_of_none (by assumption) (by assumption)).symm)
local macro_rules | `(tactic| walk_at "side") => `(tactic| first
  | assumption
  | omega
  | (simp only [sizeLine_eq, List.length_cons, List.length_nil, List.length_map]; omega)
  | (show _ ≤ sizeLine; decide))
local macro_rules | `(tactic| walk_at "kit") => `(tactic| first
  | (show kitB _ _ = some true; decide +kernel)
  | (show kitB _ _ = some false; decide +kernel))
local macro_rules | `(tactic| walk_at "rng") => `(tactic| first
  | (refine ⟨by omega, by omega, by omega, by omega⟩)
  | (refine ⟨by omega, by omega⟩)
  | ((simp only [List.length_map]); (refine ⟨by omega, by omega, by omega, by omega⟩))
  | ((simp only [List.length_map]); (refine ⟨by omega, by omega⟩)))
local macro_rules | `(tactic| walk_at "rd1") => `(tactic| first
  | with_reducible refine r_seq ?_
  | ((with_reducible refine' r_var ?k0 ?_); (case k0 => rfl))
  | with_reducible refine r_op ?_
  | with_reducible refine r_c ?_
  | with_reducible refine r_asg ?_
  | with_reducible refine r_name ?_
  | with_reducible refine r_cons ?_
  | with_reducible refine r_nil ?_
  | with_reducible refine r_CB ?_
  | with_reducible refine r_if ?_
  | with_reducible refine r_test ?_
  | with_reducible refine r_k ?_
  | with_reducible refine r_T ?_
  | with_reducible refine r_F ?_
  | with_reducible refine r_nT ?_
  | with_reducible refine r_nF ?_
  | with_reducible refine r_ret ?_
  | with_reducible refine r_drop ?_
  | with_reducible refine r_next ?_
  | with_reducible refine r_call ?_
  | with_reducible refine r_addI ?_
  | with_reducible refine r_subI ?_
  | with_reducible refine r_ltI ?_
  | with_reducible refine r_gtI ?_
  | with_reducible refine r_leI ?_
  | with_reducible refine r_geI ?_
  | with_reducible refine r_eqI ?_
  | with_reducible refine r_neI ?_
  | with_reducible refine r_int ?_
  | with_reducible refine r_abs ?_
  | with_reducible refine r_not ?_
  | with_reducible refine r_and ?_
  | with_reducible refine r_or ?_
  | with_reducible refine r_tru ?_
  | with_reducible refine r_truB ?_
  | with_reducible refine r_lst ?_
  | with_reducible refine r_tup ?_
  | with_reducible refine r_BM ?_
  | with_reducible refine r_BM0 ?_
  | with_reducible refine r_tyS ?_
  | with_reducible refine r_gsub ?_
  | with_reducible refine r_then ?_
  | with_reducible refine r_lstRg ?_
  | with_reducible refine r_tupRg ?_
  | with_reducible refine r_rg2 ?_
  | with_reducible refine r_rg1 ?_
  | with_reducible refine r_ii ?_
  | with_reducible refine r_i ?_
  | with_reducible refine r_ipI ?_
  | with_reducible refine r_un ?_
  | with_reducible refine r_neg ?_
  | with_reducible refine r_isN ?_
  | with_reducible refine r_notN ?_
  | with_reducible refine r_notV ?_
  | with_reducible refine r_pnot ?_
  | with_reducible refine r_pif ?_
  | with_reducible refine r_andV ?_
  | with_reducible refine r_orV ?_
  | with_reducible refine r_ifE ?_
  | with_reducible refine r_chain ?_
  | with_reducible refine r_sl ?_
  | with_reducible refine r_noPart ?_
  | with_reducible refine r_part ?_
  | with_reducible refine r_brk ?_
  | with_reducible refine r_cont ?_
  | with_reducible refine r_retN ?_
  | with_reducible refine r_truI ?_
  | with_reducible refine r_B ?_
  | with_reducible refine r_for ?_
  | with_reducible refine r_rng1 ?_
  | with_reducible refine r_rng2 ?_
  | with_reducible refine r_rng3 ?_
  | with_reducible refine r_body ?_
  | with_reducible refine r_lc ?_
  | with_reducible refine r_yes ?_
  | ((with_reducible refine' r_mod ?k0 ?_); (case k0 => walk_at "side"))
  | ((with_reducible refine' r_mulI ?k0 ?_); (case k0 => first | exact Or.inl ⟨by omega, by omega⟩ | exact Or.inr ⟨by omega, by omega⟩))
  | ((with_reducible refine' r_lenL ?k0 ?_); (case k0 => walk_at "tk"))
  | ((with_reducible refine' r_lenT ?k0 ?_); (case k0 => walk_at "tk"))
  | ((with_reducible refine' r_truL ?k0 ?_); (case k0 => walk_at "tk"))
  | ((with_reducible refine' r_truT ?k0 ?_); (case k0 => walk_at "tk"))
  | ((with_reducible refine' r_ixL ?k0 ?k1 ?_); (case k0 => walk_at "tk"); (case k1 => first | assumption | rfl))
  | ((with_reducible refine' r_ixT ?k0 ?k1 ?_); (case k0 => walk_at "tk"); (case k1 => first | assumption | rfl))
  | ((with_reducible refine' r_new ?k0 ?_); (case k0 => walk_at "side"))
  | ((with_reducible refine' r_tyL ?k0 ?_); (case k0 => walk_at "tk"))
  | ((with_reducible refine' r_append ?k0 ?k1 ?_); (case k0 => walk_at "tk"); (case k1 => walk_at "side"))
  | ((with_reducible refine' r_setL ?k0 ?k1 ?_); (case k0 => walk_at "tk"); (case k1 => first | assumption | rfl))
  | ((with_reducible refine' r_kTupL ?k0 ?_); (case k0 => walk_at "tk"))
  | ((with_reducible refine' r_kTupT ?k0 ?_); (case k0 => walk_at "tk"))
  | ((with_reducible refine' r_listL ?k0 ?_); (case k0 => walk_at "tk"))
  | ((with_reducible refine' r_listT ?k0 ?_); (case k0 => walk_at "tk"))
  | ((with_reducible refine' r_aug ?k0 ?_); (case k0 => rfl))
  | ((with_reducible refine' r_lenS ?k0 ?_); (case k0 => walk_at "side"))
  | ((with_reducible refine' r_pop ?k0 ?_); (case k0 => walk_at "tk"))
  | ((with_reducible refine' r_pr1 ?k0 ?_); (case k0 => walk_at "rng"))
  | ((with_reducible refine' r_pr2 ?k0 ?_); (case k0 => walk_at "rng"))
  | ((with_reducible refine' r_pr3d ?k0 ?_); (case k0 => walk_at "rng"))
  | ((with_reducible refine' r_isiI ?k0 ?_); (case k0 => walk_at "kit"))
  | ((with_reducible refine' r_isiB ?k0 ?_); (case k0 => walk_at "kit"))
  | ((with_reducible refine' r_isiS ?k0 ?_); (case k0 => walk_at "kit"))
  | ((with_reducible refine' r_isiN ?k0 ?_); (case k0 => walk_at "kit"))
  | ((with_reducible refine' r_isiT ?k0 ?k1 ?_); (case k0 => walk_at "tk"); (case k1 => walk_at "kit"))
  | ((with_reducible refine r_seqT ?_); (repeat (walk_at "rd1")); ((with_reducible refine' r_pseqT ?k0 ?_); (case k0 => walk_at "tk")))
  | ((with_reducible refine r_seqL ?_); (repeat (walk_at "rd1")); ((with_reducible refine' r_pseqL ?k0 ?_); (case k0 => walk_at "tk")))
  | ((with_reducible refine r_seqS ?_); (repeat (walk_at "rd1")); (with_reducible refine r_pseqS ?_)))
local macro_rules | `(tactic| walk_at "rd") => `(tactic| ((repeat (walk_at "rd1")); (try dsimp only)))
local macro_rules | `(tactic| walk_at "rd1") => `(tactic| first
  | with_reducible refine r_BMT ?_
  | with_reducible refine r_par ?_
  | with_reducible refine r_parV ?_
  | ((with_reducible refine' r_ptp ?k0 ?k1 ?_); (case k0 => walk_at "tk"); (case k1 => walk_at "tk"))
  | with_reducible refine r_eqS ?_
  | with_reducible refine r_neS ?_
  | with_reducible refine r_callW ?_
  | with_reducible refine r_try ?_
  | with_reducible refine r_enT ?_
  | ((with_reducible refine' r_pen ?k0 ?_); (case k0 => walk_at "tk")))
local macro_rules | `(tactic| walk_at "pl0") => `(tactic| first
  | assumption
  | exact pl_same (by assumption) (by assumption)
  | exact pl_same (by assumption) (pl_same (by assumption) (by assumption))
  | exact pl_same (by assumption) (pl_same (by assumption) (pl_same (by assumption) (by assumption))))
local macro_rules | `(tactic| walk_at "pl") => `(tactic| first
  | walk_at "pl0"
  | ((with_reducible refine' pl_butL ?s ?n ?k); (case s => assumption); (case n => walk_at "ne"); (case k => walk_at "pl"))
  | ((with_reducible refine' pl_same ?s ?k); (case s => assumption); (case k => walk_at "pl")))
local macro_rules | `(tactic| walk_at "ne") => `(tactic| first
  | exact ne_pl (by assumption) (by walk_at "pl0")
  | exact (ne_pl (by assumption) (by walk_at "pl0")).symm)
local macro_rules | `(tactic| walk_at "fr") => `(tactic| first
  | assumption
  | ((with_reducible refine' free_but ?b ?n ?h); (case h => assumption); (case n => walk_at "ne"); (case b => walk_at "but"))
  | ((with_reducible refine' Same.free ?b ?h); (case h => assumption); (case b => walk_at "same")))
local macro_rules | `(tactic| walk_at "but") => `(tactic| first
  | assumption
  | exact But.refl
  | ((with_reducible refine' But.trans ?a ?b); (case b => assumption); (case a => walk_at "but"))
  | ((with_reducible refine' But.trans ?a (Same.but ?b)); (case b => assumption); (case a => walk_at "but"))
  | ((with_reducible refine' but_via ?a ?b ?c); (case b => assumption); (case c => walk_at "fr"); (case a => walk_at "but")))
local macro_rules | `(tactic| walk_at "same") => `(tactic| first
  | assumption
  | exact Same.refl _
  | ((with_reducible refine' Same.trans ?a ?b); (case b => assumption); (case a => walk_at "same"))
  | ((with_reducible refine' same_but ?a ?b ?c); (case b => assumption); (case c => walk_at "fr"); (case a => walk_at "same")))
local macro_rules | `(tactic| walk_at "tk") => `(tactic| first
  | ((with_reducible refine' sqT_pl ?s ?t ?k); (case s => assumption); (case t => walk_at "pl0"); (case k => walk_at "tk"))
  | ((with_reducible refine' rp_same ?s ?k); (case s => assumption); (case k => walk_at "tk"))
  | ((with_reducible refine' rp_pl ?s ?t ?k); (case s => assumption); (case t => walk_at "pl0"); (case k => walk_at "tk")))
local macro_rules | `(tactic| walk_at "it") => `(tactic| first
  | assumption
  | ((with_reducible refine' sqI_1 ?k); (case k => assumption))
  | ((with_reducible refine' sqI_0 ?k); (case k => assumption))
  | ((with_reducible refine' sqI_of ?k); (case k => assumption))
  | ((with_reducible refine' sqI_D ?k); (case k => assumption))
  | ((with_reducible refine' sqT_same ?s ?k); (case s => assumption); (case k => walk_at "it"))
  | ((with_reducible refine' sqT_but ?s ?t ?k); (case s => assumption); (case t => assumption); (case k => walk_at "it"))
  | ((with_reducible refine' sqT_pl ?s ?t ?k); (case s => assumption); (case t => walk_at "pl0"); (case k => walk_at "it")))
local macro_rules | `(tactic| walk_at "sz") => `(tactic| first | omega | ((try simp only [List.length_cons, List.length_nil] at *); omega))
local macro_rules | `(tactic| walk_at "au1") => `(tactic| first
  | walk_at "rd1"
  | ((with_reducible refine' r_draw ?k0 ?k1 ?k2 ?_); (case k0 => walk_at "pl"); (case k1 => omega); (case k2 => omega); (intro _ _ _ _ _ _))
  | ((with_reducible refine' r_slN ?k0 ?_); (case k0 => walk_at "it"); (intro _ _ _ _ _ _))
  | ((with_reducible refine' r_catN ?k0 ?k1 ?k2 ?_); (case k0 => walk_at "it"); (case k1 => walk_at "it"); (case k2 => walk_at "sz"); (intro _ _ _ _ _ _))
  | ((with_reducible refine' r_pow ?k0 ?_); (case k0 => exact ⟨by decide, by decide, by decide⟩))
  | ((with_reducible refine' r_ixI ?k0 ?k1 ?k2 ?_); (case k0 => walk_at "it"); (case k1 => omega); (case k2 => omega); (intro _ _))
  | ((with_reducible refine' r_setI ?k0 ?k1 ?k2 ?_); (case k0 => walk_at "tk"); (case k1 => omega); (case k2 => omega); (intro _ _ _ _ _))
  | ((with_reducible refine' r_kTupI ?k0 ?_); (case k0 => walk_at "tk"); (intro _ _ _ _ _))
  | ((with_reducible refine' r_listI ?k0 ?_); (case k0 => walk_at "it"); (intro _ _ _ _ _))
  | (with_reducible refine r_revU ?_)
  | ((with_reducible refine' r_prevN ?k0 ?_); (case k0 => walk_at "it"); (intro _ _ _ _ _ _))
  | (intro _ _ _ _ _))
local macro_rules | `(tactic| walk_at "go") => `(tactic| ((repeat (walk_at "au1")); (first
  | ((with_reducible refine r_ite (fun _ => ?_) (fun _ => ?_)) <;> (walk_at "go"))
  | ((with_reducible refine r_iteN (fun _ => ?_) (fun _ => ?_)) <;> (walk_at "go"))
  | dsimp only
  | skip)))
def lvD (L : List Nat) : List Nat → Bool → List Dat → Bool
  | _, left, [] => !left
  | b, left, .str s :: ds => left && (decide (s.cps.toList.length ≤ 60) && (decide (s.cps.toList.take b.length = b) && (decide (∀ c ∈ s.cps.toList.drop b.length, L.take 1 = [c]) && lvD L (nextB L s.cps.toList) (decide (nextB L s.cps.toList ≠ [])) ds)))
  | _, _, _ :: _ => false
def Lv (L : List Nat) : Dat → Bool
  | .tup ds => decide (1 ≤ ds.length) && (decide (ds.length ≤ 5000) && lvD L [] true ds)
  | _ => false
theorem lv_words {L : List Nat} : ∀ {ds : List Dat} {b : List Nat} {left : Bool}, lvD L b left ds = true ↔ ∃ ws, wordsOf ds = some ws ∧ wk L b left ws = true
  | [], b, left => ⟨fun h => ⟨[], rfl, h⟩, fun ⟨ws, e, h⟩ => by cases e; exact h⟩
  | .str s :: ds, b, left => by
    simp only [lvD, wordsOf, Option.map_eq_some_iff, Bool.and_eq_true, decide_eq_true_eq]
    rw [lv_words]
    constructor
    · rintro ⟨h1, h2, h3, h4, ws, e, h5⟩
      refine ⟨_, ⟨ws, e, rfl⟩, ?_⟩
      simp only [wk, Bool.and_eq_true, decide_eq_true_eq]
      exact ⟨h1, h2, h3, h4, h5⟩
    · rintro ⟨_, ⟨ws, e, rfl⟩, h⟩
      simp only [wk, Bool.and_eq_true, decide_eq_true_eq] at h
      obtain ⟨h1, h2, h3, h4, h5⟩ := h
      exact ⟨h1, h2, h3, h4, ws, e, h5⟩
  | .int _ :: _, _, _ => ⟨(fun h => by cases h), fun ⟨_, e, _⟩ => by cases e⟩
  | .bl _ :: _, _, _ => ⟨(fun h => by cases h), fun ⟨_, e, _⟩ => by cases e⟩
  | .non :: _, _, _ => ⟨(fun h => by cases h), fun ⟨_, e, _⟩ => by cases e⟩
  | .tup _ :: _, _, _ => ⟨(fun h => by cases h), fun ⟨_, e, _⟩ => by cases e⟩
/-- no letters: just the list of the empty text -/
theorem wk_zero {ws : List (List Nat)} : wk [] [] true ws = true ↔ ws = [[]] := by
  cases ws with
  | nil => exact ⟨(fun h => by cases h), fun h => by cases h⟩
  | cons w ws =>
    simp only [wk, Bool.true_and, Bool.and_eq_true, decide_eq_true_eq, List.length_nil, List.take_zero, List.drop_zero, List.take_nil]
    constructor
    · rintro ⟨_, _, h, h2⟩
      have : w = [] := by
        cases w with
        | nil => rfl
        | cons c w => have := h c (by simp); cases this
      subst this
      have e : nextB [] [] = [] := rfl
      rw [e] at h2
      have h2 : wk [] [] false ws = true := h2
      rw [wk_false, List.isEmpty_iff] at h2
      rw [h2]
    · intro h
      cases h
      refine ⟨by decide, trivial, (fun c h => by cases h), rfl⟩
theorem cmp_zero {ws : List (List Nat)} (h1 : 1 ≤ ws.length) : (Val [] ws ∧ Con ws ∧ ∃ lg, lg ≤ 60 ∧ (∀ w ∈ ws, w.length ≤ lg) ∧ (∃ w ∈ ws, w.length = lg) ∧ (ws.map fun w => ([] : List Nat).length ^ (lg - w.length)).sum = ([] : List Nat).length ^ lg) ↔ ws = [[]] := by
  constructor
  · rintro ⟨hv, hc, _⟩
    have hn : ∀ w ∈ ws, w = [] := fun w hw => by
      have := (hv w hw).1
      cases w with
      | nil => rfl
      | cons c w => have := this c (by simp); cases this
    cases ws with
    | nil => simp at h1
    | cons w ws =>
      have hw := hn w (by simp)
      subst hw
      cases ws with
      | nil => rfl
      | cons v ws =>
        have hv2 := hn v (by simp)
        subst hv2
        exact absurd (List.nil_prefix) (hc 0 [] [] rfl rfl).2
  · rintro rfl
    refine ⟨fun w hw => ?_, fun i u v e1 e2 => ?_, 0, by omega, fun w hw => ?_, ⟨[], by simp, rfl⟩, rfl⟩
    · rw [List.mem_singleton] at hw; subst hw
      exact ⟨(fun c h => by cases h), by simp⟩
    · simp at e2
    · rw [List.mem_singleton] at hw; subst hw; simp
theorem lv_cmp {L : List Nat} {d : Dat} (hA : Asc L) : Lv L d = true ↔ Cmp L d := by
  cases d with
  | int i => exact ⟨(fun h => by cases h), fun h => h.elim⟩
  | bl i => exact ⟨(fun h => by cases h), fun h => h.elim⟩
  | str i => exact ⟨(fun h => by cases h), fun h => h.elim⟩
  | non => exact ⟨(fun h => by cases h), fun h => h.elim⟩
  | tup ds =>
    simp only [Lv, Cmp, Bool.and_eq_true, decide_eq_true_eq]
    rw [lv_words]
    by_cases h1 : 1 ≤ ds.length
    · constructor
      · rintro ⟨_, h2, ws, e, h3⟩
        refine ⟨h1, h2, ws, e, ?_⟩
        have hl := words_len e
        by_cases hL : L = []
        · subst hL
          exact (cmp_zero (by omega)).mpr (wk_zero.mp h3)
        · have hd := List.length_pos_iff.mpr hL
          obtain ⟨hv, ht⟩ := (wk_til hA hd (b := []) (fun c h => by cases h) (by simp) (fun c h => by cases h) (by rw [lo_nil]; exact Nat.pow_pos hd)).mp h3
          rw [lo_nil] at ht
          obtain ⟨hc, hs⟩ := (complete_til hA hd hv).mpr ht
          obtain ⟨w0, hw0, hmx⟩ : ∃ w0 ∈ ws, ∀ w ∈ ws, w.length ≤ w0.length := by
            have hne : ws ≠ [] := by rintro rfl; simp at hl; omega
            clear hl h3 e h2 hv ht hc hs
            induction ws with
            | nil => exact absurd rfl hne
            | cons w ws ih =>
              by_cases hw : ws = []
              · subst hw; exact ⟨w, by simp, by simp⟩
              · obtain ⟨w0, a1, a2⟩ := ih hw
                by_cases z : w0.length ≤ w.length
                · refine ⟨w, by simp, fun y hy => ?_⟩
                  rcases List.mem_cons.mp hy with rfl | hy
                  · exact Nat.le_refl _
                  · exact Nat.le_trans (a2 y hy) z
                · refine ⟨w0, by simp [a1], fun y hy => ?_⟩
                  rcases List.mem_cons.mp hy with rfl | hy
                  · omega
                  · exact a2 y hy
          exact ⟨hv, hc, w0.length, (hv w0 hw0).2, hmx, ⟨w0, hw0, rfl⟩, (sum_long hd (hv w0 hw0).2 hmx).mpr hs⟩
      · rintro ⟨_, h2, ws, e, h3⟩
        refine ⟨h1, h2, ws, e, ?_⟩
        have hl := words_len e
        by_cases hL : L = []
        · subst hL
          exact wk_zero.mpr ((cmp_zero (by omega)).mp h3)
        · have hd := List.length_pos_iff.mpr hL
          obtain ⟨hv, hc, lg, g1, g2, _, g3⟩ := h3
          have ht := (complete_til hA hd hv).mp ⟨hc, (sum_long hd g1 g2).mp g3⟩
          refine (wk_til hA hd (b := []) (fun c h => by cases h) (by simp) (fun c h => by cases h) (by rw [lo_nil]; exact Nat.pow_pos hd)).mpr ⟨hv, ?_⟩
          rw [lo_nil]; exact ht
    · exact ⟨fun h => absurd h.1 h1, fun h => absurd h.1 h1⟩
def sp_law_leaves (K : PySem.W.Frag) : Sp := fun vs H Q _ => ∃ (v : V) (d : Dat) (L : List Nat), vs = [v, .str (S L)] ∧ Rp K H v d ∧ Sml d ∧ L.length ≤ 26 ∧ Asc L ∧ Q (.bl (Lv L d)) H
def sp_law_right (K : PySem.W.Frag) : Sp := fun vs H Q _ => ∃ (v : V) (d : Dat) (L : List Nat), vs = [v, .str (S L)] ∧ Rp K H v d ∧ Sml d ∧ L.length ≤ 26 ∧ Asc L ∧ ∀ H', Same H H' → Q (.bl true) H'
abbrev N_law_leaves : List Str := ["told", "letters", "branch", "left", "word", "sign", "k"]
def t_law_leaves (K : PySem.W.Frag) : TS :=
  tSeq (tIfS ((tOr ((tNot ((tTru K ((tCB (rIsi K) (tCons (tVar 0) (tCons ((tC (.ty "tuple"))) tNil)))))))) ((tOr ((tTest (tOp (rLtU K) ((tCB (rLenU K) (tCons (tVar 0) tNil))) ((tC (.int 1)))))) ((tTest (tOp rGtU ((tCB (rLenU K) (tCons (tVar 0) tNil))) ((tC (.int 5000)))))))))) ((tRet ((tC (.bl false))))) (tNext))
  (tSeq (tAsg ((tC (.str ""))) (gName 2))
  (tSeq (tAsg ((tC (.bl true))) (gName 3))
  (tSeq (tFor (iSeqU K (tVar 0)) (gName 4) (tSeq (tIfS ((tOr ((tNot ((tTru K (tVar 3))))) ((tOr ((tNot ((tTru K ((tCB (rIsi K) (tCons (tVar 4) (tCons ((tC (.ty "str"))) tNil)))))))) ((tTest (tOp rGtU ((tCB (rLenU K) (tCons (tVar 4) tNil))) ((tC (.int 60)))))))))) ((tRet ((tC (.bl false))))) (tNext))
  (tSeq (tIfS ((tTest (tOp (rNeU K) ((tSl (rSlU K) (tVar 4) tNoPart (tPart ((tCB (rLenU K) (tCons (tVar 2) tNil)))))) (tVar 2)))) ((tRet ((tC (.bl false))))) (tNext))
  (tSeq (tFor (iSeqU K ((tSl (rSlU K) (tVar 4) (tPart ((tCB (rLenU K) (tCons (tVar 2) tNil)))) tNoPart))) (gName 5) ((tIfS ((tTest (tOp (rNeU K) (tVar 5) ((tSl (rSlU K) (tVar 1) tNoPart (tPart ((tC (.int 1))))))))) ((tRet ((tC (.bl false))))) (tNext))))
  (tSeq (tAsg (tVar 4) (gName 2))
  (tSeq (tFor (iRng1 (tCons ((tCB (rLenU K) (tCons (tVar 4) tNil))) tNil)) (gName 6) ((tIfS ((tTest (tOp (rEqU K) ((tSl (rSlU K) (tVar 2) (tPart ((tUn (rU fun i => .int (-i)) ((tC (.int 1)))))) tNoPart)) ((tSl (rSlU K) (tVar 1) (tPart ((tUn (rU fun i => .int (-i)) ((tC (.int 1)))))) tNoPart))))) ((tAsg ((tSl (rSlU K) (tVar 2) tNoPart (tPart ((tUn (rU fun i => .int (-i)) ((tC (.int 1)))))))) (gName 2))) (tNext))))
  ((tIfS ((tTest (tOp (rEqU K) (tVar 2) ((tC (.str "")))))) ((tAsg ((tC (.bl false))) (gName 3))) ((tAsg ((tOp (rAddU K) ((tSl (rSlU K) (tVar 2) tNoPart (tPart ((tUn (rU fun i => .int (-i)) ((tC (.int 1)))))))) ((tOp (rIx K) (tVar 1) ((tOp (rAddU K) ((tBM K "str" rIndexS (tVar 1) (tCons ((tOp (rIx K) (tVar 2) ((tUn (rU fun i => .int (-i)) ((tC (.int 1))))))) tNil))) ((tC (.int 1))))))))) (gName 2)))))))))))
  ((tRet ((tNotV (tVar 3))))))))
abbrev N_law_right : List Str := ["told", "letters", "answer"]
def t_law_right (K : PySem.W.Frag) : TS :=
  tSeq (tAsg ((tCall (sp_is_complete K) [] E0 (tCons (tVar 0) (tCons (tVar 1) tNil)))) (gName 2))
  ((tRet ((tAndV ((tCB (rIsi K) (tCons (tVar 2) (tCons ((tC (.ty "bool"))) tNil)))) ((tOp (rEqU K) (tVar 2) ((tCall (sp_law_leaves K) [] E0 (tCons (tVar 0) (tCons (tVar 1) tNil))))))))))
section
variable {K : PySem.W.Frag} {ec : Str → Addr} {ns : List Str} {vs : List V} {H : Hp} {Q : VK} {E : XK}
theorem len_law_leaves (h : sp_law_leaves K vs H Q E) : vs.length = 2 := by obtain ⟨_, _, _, rfl, _⟩ := h; rfl
theorem len_law_right (h : sp_law_right K vs H Q E) : vs.length = 2 := by obtain ⟨_, _, _, rfl, _⟩ := h; rfl
theorem pure_law_right (h : sp_law_right K vs H Q E) : t_law_right K (En Q) (start N_law_right vs) H := by
  obtain ⟨v, d, L, rfl, hr, hs, hL, hA, q⟩ := h
  unfold t_law_right
  walk_at "rd"
  refine ⟨v, d, L, rfl, hr, hs, hL, fun b H1 hb s1 => ?_⟩
  walk_at "rd"
  refine ⟨v, d, L, rfl, rp_same s1 hr, hs, hL, hA, ?_⟩
  have e : b = Lv L d := by
    have h2 := lv_cmp (d := d) hA
    cases hb1 : b <;> cases hb2 : Lv L d
    · rfl
    · rw [hb1] at hb; have := hb.mpr (h2.mp hb2); cases this
    · rw [hb1] at hb; have := h2.mpr (hb.mp rfl); rw [hb2] at this; cases this
    · rfl
  subst e
  refine .inl ⟨by rfl, ?_⟩
  rw [decide_eq_true rfl]
  exact q _ s1
theorem at_lastN {α : Type} (r : List α) (q : α) : atI (r ++ [q]) (-1) = some q := by
  have e : ixN (r ++ [q]).length (-1) = some r.length := by
    unfold ixN
    rw [List.length_append, List.length_singleton, if_neg (by omega), if_pos (by omega)]
    congr 1
    omega
  unfold atI
  rw [e]
  show (r ++ [q])[r.length]? = _
  rw [List.getElem?_append_right (Nat.le_refl _), Nat.sub_self]
  rfl
theorem cutA_last (b : List Nat) : cutA b (some (-1)) none = b.getLast?.toList := by
  rcases List.eq_nil_or_concat b with rfl | ⟨t, c, rfl⟩
  · rfl
  · rw [List.concat_eq_append, List.getLast?_concat]
    unfold cutA HT.sIx
    simp only [List.length_append, List.length_singleton]
    rw [if_pos (by omega), show ((-1 : Int) + ((t.length + 1 : Nat) : Int)).toNat = t.length by omega, List.drop_left]
    simp
theorem cutA_init (xs : List Nat) : cutA xs none (some (-1)) = xs.dropLast := by
  unfold cutA
  rw [HT.sIx_none]
  show (xs.drop 0).take ((if (-1 : Int) < 0 then ((-1 : Int) + (xs.length : Int)).toNat else min (-1 : Int).toNat xs.length) - 0) = _
  rw [if_pos (by decide), List.drop_zero, Nat.sub_zero, List.dropLast_eq_take]
  congr 1
  omega
theorem off_len (L w : List Nat) : ∀ i, (Nat.repeat (offS L) i w).length ≤ w.length
  | 0 => Nat.le_refl _
  | i + 1 => by
    show (offS L (Nat.repeat (offS L) i w)).length ≤ _
    have := off_len L w i
    generalize Nat.repeat (offS L) i w = s at *
    unfold offS
    split
    · rw [List.length_dropLast]; omega
    · exact this
theorem goes_iff' {L b w : List Nat} (c4 : w.take b.length = b) (c5 : ∀ c ∈ w.drop b.length, L.take 1 = [c]) (ob : Ov L b) : Ov L w := by
  intro c hc
  rw [← List.take_append_drop b.length w, c4] at hc
  rcases List.mem_append.mp hc with hc | hc
  · exact ob c hc
  · exact List.take_subset 1 L (by rw [c5 c hc]; simp)
local macro_rules | `(tactic| walk_at "rd1") => `(tactic| first
  | ((with_reducible refine' r_lenSS ?k0 ?_); (case k0 => omega))
  | ((with_reducible refine' r_slS ?k0 ?_); (case k0 => omega))
  | (with_reducible refine r_eqSS ?_)
  | (with_reducible refine r_neSS ?_)
  | ((with_reducible refine' r_addSS ?k0 ?_); (case k0 => omega)))
theorem pure_law_leaves (h : sp_law_leaves K vs H Q E) : t_law_leaves K (En Q) (start N_law_leaves vs) H := by
  obtain ⟨v, d, L, rfl, hr, hs, hL, hA, q⟩ := h
  unfold t_law_leaves
  cases hr with
  | int i => walk_at "rd"; exact q
  | bl b => walk_at "rd"; exact q
  | non => walk_at "rd"; exact q
  | str s => walk_at "rd"; exact q
  | @tup a xs ds ht hd =>
    have hlen := rpL_length hd
    have q : Q (.bl (decide (1 ≤ ds.length) && (decide (ds.length ≤ 5000) && lvD L [] true ds))) H := q
    walk_at "rd"
    refine r_ite (fun c1 => ?_) (fun c1 => ?_)
    · walk_at "rd"
      rw [decide_eq_false (by omega)] at q
      exact q
    rw [decide_eq_true (by omega)] at q
    walk_at "rd"
    refine r_ite (fun c2 => ?_) (fun c2 => ?_)
    · walk_at "rd"
      rw [decide_eq_false (by omega)] at q
      exact q
    rw [decide_eq_true (by omega)] at q
    walk_at "rd"
    refine r_forTup (xs := xs) (fun i σ' H' => H' = H ∧ ∃ (b : List Nat) (left : Bool) (z4 z5 z6 : Option V), σ' = [some (.ref a), some (.str (S L)), some (.str (S b)), some (.bl left), z4, z5, z6] ∧ Ov L b ∧ b.length ≤ 60 ∧ lvD L b left (ds.drop i) = lvD L [] true ds) ⟨rfl, [], true, _, _, _, rfl, (fun c h => by cases h), by simp, rfl⟩ (fun i σ' H' hi p => p.1 ▸ ht) (fun i x σ' H' hx hW => ?_) (fun σ' H' hW => ?_)
    · obtain ⟨rfl, b, left, z4, z5, z6, rfl, ob, lb, hv⟩ := hW
      have hil := (List.getElem?_eq_some_iff.mp hx).1
      have hdi : ds[i]? = some ds[i] := List.getElem?_eq_getElem (by omega)
      obtain ⟨w, ew, hw⟩ := rpL_get hd hdi
      rw [hx] at ew
      cases ew
      rw [List.drop_eq_getElem_cons (show i < ds.length by omega)] at hv
      have hsm := hs _ (List.getElem_mem (show i < ds.length by omega))
      have no : lvD L b left (ds[i] :: ds.drop (i + 1)) = false → Q (.bl false) H' := fun z => by rw [hv] at z; rw [z] at q; exact q
      walk_at "rd"
      cases left with
      | false =>
        walk_at "rd"
        refine no ?_
        cases ds[i] <;> rfl
      | true =>
      generalize ds[i] = d at hw hv no hsm
      cases hw with
      | int i => walk_at "rd"; exact no rfl
      | bl b => walk_at "rd"; exact no rfl
      | non => walk_at "rd"; exact no rfl
      | tup ht hd => walk_at "rd"; exact no rfl
      | str s =>
        have hl := hsm s rfl
        obtain ⟨w, rfl⟩ : ∃ z, s = S z := ⟨s.cps.toList, (S_tl s).symm⟩
        have hl : w.length ≤ 1000000 := hl
        have no : (decide (w.length ≤ 60) && (decide (w.take b.length = b) && (decide (∀ c ∈ w.drop b.length, L.take 1 = [c]) && lvD L (nextB L w) (decide (nextB L w ≠ [])) (ds.drop (i + 1))))) = false → Q (.bl false) H' := no
        have hv : (decide (w.length ≤ 60) && (decide (w.take b.length = b) && (decide (∀ c ∈ w.drop b.length, L.take 1 = [c]) && lvD L (nextB L w) (decide (nextB L w ≠ [])) (ds.drop (i + 1))))) = lvD L [] true ds := hv
        walk_at "rd"
        refine r_ite (fun c3 => ?_) (fun c3 => ?_)
        · walk_at "rd"
          exact no (by rw [decide_eq_false (by omega)]; rfl)
        rw [decide_eq_true (by omega)] at no hv
        walk_at "rd"
        rw [cutA_take]
        refine r_iteN (fun c4 => ?_) (fun c4 => ?_)
        · walk_at "rd"
          exact no (by rw [decide_eq_false c4]; rfl)
        have c4 : w.take b.length = b := c4
        rw [decide_eq_true c4] at no hv
        walk_at "rd"
        rw [cutA_drop]
        walk_at "rd"
        refine r_forStr (fun n σ' H2 => H2 = H' ∧ (∃ z5, σ' = [some (.ref a), some (.str (S L)), some (.str (S b)), some (.bl true), some (.str (S w)), z5, z6]) ∧ ∀ j c, j < n → (w.drop b.length)[j]? = some c → L.take 1 = [c]) ⟨rfl, ⟨_, rfl⟩, fun j c hj => by omega⟩ (fun n c σ' H2 hc hW => ?_) (fun σ' H2 hW => ?_)
        · obtain ⟨rfl, ⟨z5, rfl⟩, hall⟩ := hW
          have hc : (w.drop b.length)[n]? = some c := hc
          walk_at "rd"
          have e1 : cutA L none (some 1) = L.take 1 := cutA_take (k := 1)
          rw [e1]
          refine r_iteN (fun c6 => ?_) (fun c6 => ?_)
          · walk_at "rd"
            refine no ?_
            rw [decide_eq_false (fun z => c6 (z c (List.mem_of_getElem? hc)).symm)]
            rfl
          · walk_at "rd"
            refine ⟨rfl, ⟨_, rfl⟩, fun j c' hj e => ?_⟩
            by_cases hji : j = n
            · subst hji; rw [hc] at e; cases e; exact c6.symm
            · exact hall j c' (by omega) e
        · obtain ⟨rfl, ⟨z5, rfl⟩, hall⟩ := hW
          have c5 : ∀ c ∈ w.drop b.length, L.take 1 = [c] := fun c hc => by
            obtain ⟨j, hj, rfl⟩ := List.mem_iff_getElem.mp hc
            exact hall j _ hj (List.getElem?_eq_getElem hj)
          rw [decide_eq_true c5] at no hv
          have ow : Ov L w := ((goes_iff' c4 c5 ob))
          walk_at "rd"
          rw [Int.toNat_natCast]
          refine r_forRange0 (fun n σ' H3 => H3 = H2 ∧ ∃ z6, σ' = [some (.ref a), some (.str (S L)), some (.str (S (Nat.repeat (offS L) n w))), some (.bl true), some (.str (S w)), z5, z6]) ⟨rfl, _, rfl⟩ (fun n σ' H3 hn hW => ?_) (fun σ' H3 hW => ?_)
          · obtain ⟨rfl, z6, rfl⟩ := hW
            have hol := off_len L w n
            have en : Nat.repeat (offS L) (n + 1) w = offS L (Nat.repeat (offS L) n w) := rfl
            rw [en]
            generalize Nat.repeat (offS L) n w = s at *
            walk_at "rd"
            refine r_ite (fun c6 => ?_) (fun c6 => ?_)
            · have c6 : s.getLast?.toList = L.getLast?.toList := by rw [← cutA_last, ← cutA_last]; exact c6
              unfold offS
              walk_at "rd"
              rw [cutA_init, if_pos c6]
              exact ⟨rfl, _, rfl⟩
            · have c6 : ¬ s.getLast?.toList = L.getLast?.toList := by rw [← cutA_last, ← cutA_last]; exact c6
              unfold offS
              walk_at "rd"
              rw [if_neg c6]
              exact ⟨rfl, _, rfl⟩
          · obtain ⟨rfl, z6, rfl⟩ := hW
            have hol := off_len L w w.length
            walk_at "rd"
            have hsame : ∀ {b' : List Nat} {left' : Bool}, b' = nextB L w → left' = decide (nextB L w ≠ []) → lvD L b' left' (ds.drop (i + 1)) = lvD L [] true ds := fun e1 e2 => by
              rw [e1, e2]
              simpa using hv
            refine r_ite (fun c6 => ?_) (fun c6 => ?_)
            · have c6 : Nat.repeat (offS L) w.length w = [] := c6
              have e2 : nextB L w = [] := by unfold nextB; rw [c6]; rfl
              walk_at "rd"
              rw [c6]
              exact ⟨rfl, [], false, _, _, _, rfl, (fun c h => by cases h), by simp, hsame e2.symm (by rw [e2]; rfl)⟩
            · have c6 : Nat.repeat (offS L) w.length w ≠ [] := c6
              have hd0 : 0 < L.length := by
                cases w with
                | nil => exact absurd rfl c6
                | cons c w => exact List.length_pos_of_mem (ow c (by simp))
              obtain ⟨t, c, e1, hcL, hci, e2, o2, l2, _⟩ := (next_ok hA hd0 ow (by omega)).2 c6
              rw [e1]
              have htl : t.length ≤ 60 := by have := congrArg List.length e1; rw [List.length_append, List.length_singleton] at this; omega
              have htl2 : (t ++ [c]).length ≤ 61 := by rw [List.length_append, List.length_singleton]; omega
              walk_at "rd"
              rw [cutA_init, List.dropLast_concat]
              refine r_ixSS (by omega) (at_lastN t c) ?_
              walk_at "rd"
              refine r_indexS hcL ?_
              walk_at "rd"
              refine r_ixSS (by omega) (c := L.getD (ix L c + 1) 0) ?_ ?_
              · rw [show ((L.idxOf c : Nat) : Int) + 1 = ((L.idxOf c + 1 : Nat) : Int) by omega]
                refine atI_nat ?_
                rw [List.getD_eq_getElem?_getD]
                have : L.idxOf c + 1 < L.length := hci
                rw [List.getElem?_eq_getElem this]; rfl
              walk_at "rd"
              refine r_addSS (by rw [List.length_singleton]; omega) ?_
              walk_at "rd"
              refine ⟨rfl, _, true, _, _, _, rfl, ?_⟩
              rw [← e2]
              exact ⟨o2, l2, hsame rfl (by rw [e2]; simp)⟩
    · obtain ⟨rfl, b, left, z4, z5, z6, rfl, ob, lb, hv⟩ := hW
      rw [List.drop_of_length_le (by omega)] at hv
      walk_at "rd"
      have hv : (!left) = lvD L [] true ds := hv
      rw [← hv] at q
      exact q
end
end K45
end Kb
set_option Elab.async false
set_option linter.all false
set_option maxRecDepth 100000
set_option maxHeartbeats 4000000
namespace Kb
namespace K45
open PySem PySem.Spec PyProof.Rows L2 SX
local macro_rules | `(tactic| walk_at "tk") => `(tactic| first
  | assumption
  | ((with_reducible refine' sqT_of ?k); (case k => assumption))
  | ((with_reducible refine' sqT_ofD ?k); (case k => assumption))
  | ((with_reducible refine' noD_of ?k); (case k => assumption))
  | ((with_reducible refine' noD_same ?s ?k); (case s => assumption); (case k => walk_at "tk"))
  | ((with_reducible refine' sqL_of ?k); (case k => assumption))
  | ((with_reducible refine' sqT_same ?s ?k); (case s => assumption); (case k => walk_at "tk"))
  | ((with_reducible refine' sqL_same ?s ?k); (case s => assumption); (case k => walk_at "tk"))
  | ((with_reducible refine' sqT_but ?s ?t ?k); (case s => assumption); (case t => walk_at "tk"); (case k => walk_at "tk"))
  | ((with_reducible refine' sqL_but ?s ?t ?k); (case s => assumption); (case t => walk_at "ne"); (case k => walk_at "tk"))
  | ((with_reducible refine' sqL_of ?k); (case k => walk_at "tk"))
  | ((with_reducible refine' sqT_of ?k); (case k => walk_at "tk"))
  | ((with_reducible refine' at_same ?s ?k); (case s => assumption); (case k => walk_at "tk"))
  | ((with_reducible refine' at_but ?s ?t ?k); (case s => assumption); (case t => walk_at "ne"); (case k => walk_at "tk")))
local macro_rules | `(tactic| walk_at "ne") => `(tactic| first
  | assumption
  | (refine Ne.symm ?_; assumption)
  | exact ne_of_none (by assumption) (by assumption)
  | exact (ne_of_none (by assumption) (by assumption)).symm)
local macro_rules | `(tactic| walk_at "side") => `(tactic| first
  | assumption
  | omega
  | (simp only [sizeLine_eq, List.length_cons, List.length_nil, List.length_map]; omega)
  | (show _ ≤ sizeLine; decide))
local macro_rules | `(tactic| walk_at "kit") => `(tactic| first
  | (show kitB _ _ = some true; decide +kernel)
  | (show kitB _ _ = some false; decide +kernel))
local macro_rules | `(tactic| walk_at "rng") => `(tactic| first
  | (refine ⟨by omega, by omega, by omega, by omega⟩)
  | (refine ⟨by omega, by omega⟩)
  | ((simp only [List.length_map]); (refine ⟨by omega, by omega, by omega, by omega⟩))
  | ((simp only [List.length_map]); (refine ⟨by omega, by omega⟩)))
local macro_rules | `(tactic| walk_at "rd1") => `(tactic| first
  | with_reducible refine r_seq ?_
  | ((with_reducible refine' r_var ?k0 ?_); (case k0 => rfl))
  | with_reducible refine r_op ?_
  | with_reducible refine r_c ?_
  | with_reducible refine r_asg ?_
  | with_reducible refine r_name ?_
  | with_reducible refine r_cons ?_
  | with_reducible refine r_nil ?_
  | with_reducible refine r_CB ?_
  | with_reducible refine r_if ?_
  | with_reducible refine r_test ?_
  | with_reducible refine r_k ?_
  | with_reducible refine r_T ?_
  | with_reducible refine r_F ?_
  | with_reducible refine r_nT ?_
  | with_reducible refine r_nF ?_
  | with_reducible refine r_ret ?_
  | with_reducible refine r_drop ?_
  | with_reducible refine r_next ?_
  | with_reducible refine r_call ?_
  | with_reducible refine r_addI ?_
  | with_reducible refine r_subI ?_
  | with_reducible refine r_ltI ?_
  | with_reducible refine r_gtI ?_
  | with_reducible refine r_leI ?_
  | with_reducible refine r_geI ?_
  | with_reducible refine r_eqI ?_
  | with_reducible refine r_neI ?_
  | with_reducible refine r_int ?_
  | with_reducible refine r_abs ?_
  | with_reducible refine r_not ?_
  | with_reducible refine r_and ?_
  | with_reducible refine r_or ?_
  | with_reducible refine r_tru ?_
  | with_reducible refine r_truB ?_
  | with_reducible refine r_lst ?_
  | with_reducible refine r_tup ?_
  | with_reducible refine r_BM ?_
  | with_reducible refine r_BM0 ?_
  | with_reducible refine r_tyS ?_
  | with_reducible refine r_gsub ?_
  | with_reducible refine r_then ?_
  | with_reducible refine r_lstRg ?_
  | with_reducible refine r_tupRg ?_
  | with_reducible refine r_rg2 ?_
  | with_reducible refine r_rg1 ?_
  | with_reducible refine r_ii ?_
  | with_reducible refine r_i ?_
  | with_reducible refine r_ipI ?_
  | with_reducible refine r_un ?_
  | with_reducible refine r_neg ?_
  | with_reducible refine r_isN ?_
  | with_reducible refine r_notN ?_
  | with_reducible refine r_notV ?_
  | with_reducible refine r_pnot ?_
  | with_reducible refine r_pif ?_
  | with_reducible refine r_andV ?_
  | with_reducible refine r_orV ?_
  | with_reducible refine r_ifE ?_
  | with_reducible refine r_chain ?_
  | with_reducible refine r_sl ?_
  | with_reducible refine r_noPart ?_
  | with_reducible refine r_part ?_
  | with_reducible refine r_brk ?_
  | with_reducible refine r_cont ?_
  | with_reducible refine r_retN ?_
  | with_reducible refine r_truI ?_
  | with_reducible refine r_B ?_
  | with_reducible refine r_for ?_
  | with_reducible refine r_rng1 ?_
  | with_reducible refine r_rng2 ?_
  | with_reducible refine r_rng3 ?_
  | with_reducible refine r_body ?_
  | with_reducible refine r_lc ?_
  | with_reducible refine r_yes ?_
  | ((with_reducible refine' r_mod ?k0 ?_); (case k0 => walk_at "side"))
  | ((with_reducible refine' r_mulI ?k0 ?_); (case k0 => first | exact Or.inl ⟨by omega, by omega⟩ | exact Or.inr ⟨by omega, by omega⟩))
  | ((with_reducible refine' r_lenL ?k0 ?_); (case k0 => walk_at "tk"))
  | ((with_reducible refine' r_lenT ?k0 ?_); (case k0 => walk_at "tk"))
  | ((with_reducible refine' r_truL ?k0 ?_); (case k0 => walk_at "tk"))
  | ((with_reducible refine' r_truT ?k0 ?_); (case k0 => walk_at "tk"))
  | ((with_reducible refine' r_ixL ?k0 ?k1 ?_); (case k0 => walk_at "tk"); (case k1 => first | assumption | rfl))
  | ((with_reducible refine' r_ixT ?k0 ?k1 ?_); (case k0 => walk_at "tk"); (case k1 => first | assumption | rfl))
  | ((with_reducible refine' r_new ?k0 ?_); (case k0 => walk_at "side"))
  | ((with_reducible refine' r_tyL ?k0 ?_); (case k0 => walk_at "tk"))
  | ((with_reducible refine' r_append ?k0 ?k1 ?_); (case k0 => walk_at "tk"); (case k1 => walk_at "side"))
  | ((with_reducible refine' r_setL ?k0 ?k1 ?_); (case k0 => walk_at "tk"); (case k1 => first | assumption | rfl))
  | ((with_reducible refine' r_kTupL ?k0 ?_); (case k0 => walk_at "tk"))
  | ((with_reducible refine' r_kTupT ?k0 ?_); (case k0 => walk_at "tk"))
  | ((with_reducible refine' r_listL ?k0 ?_); (case k0 => walk_at "tk"))
  | ((with_reducible refine' r_listT ?k0 ?_); (case k0 => walk_at "tk"))
  | ((with_reducible refine' r_aug ?k0 ?_); (case k0 => rfl))
  | ((with_reducible refine' r_lenS ?k0 ?_); (case k0 => walk_at "side"))
  | ((with_reducible refine' r_pop ?k0 ?_); (case k0 => walk_at "tk"))
  | ((with_reducible refine' r_pr1 ?k0 ?_); (case k0 => walk_at "rng"))
  | ((with_reducible refine' r_pr2 ?k0 ?_); (case k0 => walk_at "rng"))
  | ((with_reducible refine' r_pr3d ?k0 ?_); (case k0 => walk_at "rng"))
  | ((with_reducible refine' r_isiI ?k0 ?_); (case k0 => walk_at "kit"))
  | ((with_reducible refine' r_isiB ?k0 ?_); (case k0 => walk_at "kit"))
  | ((with_reducible refine' r_isiS ?k0 ?_); (case k0 => walk_at "kit"))
  | ((with_reducible refine' r_isiN ?k0 ?_); (case k0 => walk_at "kit"))
  | ((with_reducible refine' r_isiT ?k0 ?k1 ?_); (case k0 => walk_at "tk"); (case k1 => walk_at "kit"))
  | ((with_reducible refine r_seqT ?_); (repeat (walk_at "rd1")); ((with_reducible refine' r_pseqT ?k0 ?_); (case k0 => walk_at "tk")))
  | ((with_reducible refine r_seqL ?_); (repeat (walk_at "rd1")); ((with_reducible refine' r_pseqL ?k0 ?_); (case k0 => walk_at "tk")))
  | ((with_reducible refine r_seqS ?_); (repeat (walk_at "rd1")); (with_reducible refine r_pseqS ?_)))
local macro_rules | `(tactic| walk_at "rd") => `(tactic| ((repeat (walk_at "rd1")); (try dsimp only)))
local macro_rules | `(tactic| walk_at "rd1") => `(tactic| first
  | with_reducible refine r_BMT ?_
  | with_reducible refine r_par ?_
  | with_reducible refine r_parV ?_
  | ((with_reducible refine' r_ptp ?k0 ?k1 ?_); (case k0 => walk_at "tk"); (case k1 => walk_at "tk"))
  | with_reducible refine r_eqS ?_
  | with_reducible refine r_neS ?_
  | with_reducible refine r_callW ?_
  | with_reducible refine r_try ?_
  | with_reducible refine r_enT ?_
  | ((with_reducible refine' r_pen ?k0 ?_); (case k0 => walk_at "tk")))
local macro_rules | `(tactic| walk_at "pl0") => `(tactic| first
  | assumption
  | exact pl_same (by assumption) (by assumption)
  | exact pl_same (by assumption) (pl_same (by assumption) (by assumption))
  | exact pl_same (by assumption) (pl_same (by assumption) (pl_same (by assumption) (by assumption))))
local macro_rules | `(tactic| walk_at "pl") => `(tactic| first
  | walk_at "pl0"
  | ((with_reducible refine' pl_butL ?s ?n ?k); (case s => assumption); (case n => walk_at "ne"); (case k => walk_at "pl"))
  | ((with_reducible refine' pl_same ?s ?k); (case s => assumption); (case k => walk_at "pl")))
local macro_rules | `(tactic| walk_at "ne") => `(tactic| first
  | exact ne_pl (by assumption) (by walk_at "pl0")
  | exact (ne_pl (by assumption) (by walk_at "pl0")).symm)
local macro_rules | `(tactic| walk_at "fr") => `(tactic| first
  | assumption
  | ((with_reducible refine' free_but ?b ?n ?h); (case h => assumption); (case n => walk_at "ne"); (case b => walk_at "but"))
  | ((with_reducible refine' Same.free ?b ?h); (case h => assumption); (case b => walk_at "same")))
local macro_rules | `(tactic| walk_at "but") => `(tactic| first
  | assumption
  | exact But.refl
  | ((with_reducible refine' But.trans ?a ?b); (case b => assumption); (case a => walk_at "but"))
  | ((with_reducible refine' But.trans ?a (Same.but ?b)); (case b => assumption); (case a => walk_at "but"))
  | ((with_reducible refine' but_via ?a ?b ?c); (case b => assumption); (case c => walk_at "fr"); (case a => walk_at "but")))
local macro_rules | `(tactic| walk_at "same") => `(tactic| first
  | assumption
  | exact Same.refl _
  | ((with_reducible refine' Same.trans ?a ?b); (case b => assumption); (case a => walk_at "same"))
  | ((with_reducible refine' same_but ?a ?b ?c); (case b => assumption); (case c => walk_at "fr"); (case a => walk_at "same")))
local macro_rules | `(tactic| walk_at "tk") => `(tactic| first
  | ((with_reducible refine' sqT_pl ?s ?t ?k); (case s => assumption); (case t => walk_at "pl0"); (case k => walk_at "tk"))
  | ((with_reducible refine' rp_same ?s ?k); (case s => assumption); (case k => walk_at "tk"))
  | ((with_reducible refine' rp_pl ?s ?t ?k); (case s => assumption); (case t => walk_at "pl0"); (case k => walk_at "tk")))
local macro_rules | `(tactic| walk_at "it") => `(tactic| first
  | assumption
  | ((with_reducible refine' sqI_1 ?k); (case k => assumption))
  | ((with_reducible refine' sqI_0 ?k); (case k => assumption))
  | ((with_reducible refine' sqI_of ?k); (case k => assumption))
  | ((with_reducible refine' sqI_D ?k); (case k => assumption))
  | ((with_reducible refine' sqT_same ?s ?k); (case s => assumption); (case k => walk_at "it"))
  | ((with_reducible refine' sqT_but ?s ?t ?k); (case s => assumption); (case t => assumption); (case k => walk_at "it"))
  | ((with_reducible refine' sqT_pl ?s ?t ?k); (case s => assumption); (case t => walk_at "pl0"); (case k => walk_at "it")))
local macro_rules | `(tactic| walk_at "sz") => `(tactic| first | omega | ((try simp only [List.length_cons, List.length_nil] at *); omega))
local macro_rules | `(tactic| walk_at "au1") => `(tactic| first
  | walk_at "rd1"
  | ((with_reducible refine' r_draw ?k0 ?k1 ?k2 ?_); (case k0 => walk_at "pl"); (case k1 => omega); (case k2 => omega); (intro _ _ _ _ _ _))
  | ((with_reducible refine' r_slN ?k0 ?_); (case k0 => walk_at "it"); (intro _ _ _ _ _ _))
  | ((with_reducible refine' r_catN ?k0 ?k1 ?k2 ?_); (case k0 => walk_at "it"); (case k1 => walk_at "it"); (case k2 => walk_at "sz"); (intro _ _ _ _ _ _))
  | ((with_reducible refine' r_pow ?k0 ?_); (case k0 => exact ⟨by decide, by decide, by decide⟩))
  | ((with_reducible refine' r_ixI ?k0 ?k1 ?k2 ?_); (case k0 => walk_at "it"); (case k1 => omega); (case k2 => omega); (intro _ _))
  | ((with_reducible refine' r_setI ?k0 ?k1 ?k2 ?_); (case k0 => walk_at "tk"); (case k1 => omega); (case k2 => omega); (intro _ _ _ _ _))
  | ((with_reducible refine' r_kTupI ?k0 ?_); (case k0 => walk_at "tk"); (intro _ _ _ _ _))
  | ((with_reducible refine' r_listI ?k0 ?_); (case k0 => walk_at "it"); (intro _ _ _ _ _))
  | (with_reducible refine r_revU ?_)
  | ((with_reducible refine' r_prevN ?k0 ?_); (case k0 => walk_at "it"); (intro _ _ _ _ _ _))
  | (intro _ _ _ _ _))
local macro_rules | `(tactic| walk_at "go") => `(tactic| ((repeat (walk_at "au1")); (first
  | ((with_reducible refine r_ite (fun _ => ?_) (fun _ => ?_)) <;> (walk_at "go"))
  | ((with_reducible refine r_iteN (fun _ => ?_) (fun _ => ?_)) <;> (walk_at "go"))
  | dsimp only
  | skip)))
local macro_rules | `(tactic| walk_at "rd1") => `(tactic| first
  | ((with_reducible refine' r_lenSS ?k0 ?_); (case k0 => omega))
  | ((with_reducible refine' r_slS ?k0 ?_); (case k0 => omega))
  | (with_reducible refine r_eqSS ?_)
  | (with_reducible refine r_neSS ?_)
  | ((with_reducible refine' r_addSS ?k0 ?_); (case k0 => first | omega | ((try simp only [List.length_singleton]); omega))))
def sp_law_some (K : PySem.W.Frag) : Sp := fun vs H Q _ => ∃ (p : Addr) (m : Nat) (al : List Nat), vs = [.ref p, .int (m : Int), .str (S al)] ∧ Pl H p ∧ al.Nodup ∧ m ≤ al.length ∧ al.length ≤ 26 ∧ ∀ ls H', But p H H' → Pl H' p → ls.Nodup → ls.length = m → Q (.str (S ls)) H'
def sp_law_split (K : PySem.W.Frag) : Sp := fun vs H Q _ => ∃ (w : Addr) (zs : List (List Nat)) (i n : Nat) (L : List Nat), vs = [.ref w, .int (i : Int), .str (S L)] ∧ H w = some (.lst (zs.map tx)) ∧ i < zs.length ∧ zs.length ≤ 10000 ∧ (∀ z ∈ zs, z.length ≤ n) ∧ n ≤ 10000 ∧ L.length ≤ 26 ∧
  ∀ q H' (us : List (List Nat)), H q = none → Same H H' → H' q = some (.lst (us.map tx)) → us.length + 1 = zs.length + L.length → (∀ z ∈ us, z.length ≤ n + 1) → Q (.ref q) H'
abbrev N_law_some : List Str := ["pool", "many", "signs", "left", "out", "k"]
def t_law_some (K : PySem.W.Frag) : TS :=
  tSeq (tAsg ((tCB rListTx (tCons (tVar 2) tNil))) (gName 3))
  (tSeq (tAsg ((tC (.str ""))) (gName 4))
  (tSeq (tFor (iRng1 (tCons (tVar 1) tNil)) (gName 5) ((tAsg ((tOp (rAddU K) (tVar 4) ((tBM K "list" rPopAt (tVar 3) (tCons ((tCall (sp_law_draw K) [] E0 (tCons (tVar 0) (tCons ((tCB (rLenU K) (tCons (tVar 3) tNil))) tNil)))) tNil))))) (gName 4))))
  ((tRet (tVar 4)))))
abbrev N_law_split : List Str := ["words", "at", "letters", "sign"]
def t_law_split (K : PySem.W.Frag) : TS :=
  (tRet ((tOp (rAddU K) ((tOp (rAddU K) ((tSl (rSlU K) (tVar 0) tNoPart (tPart (tVar 1)))) ((tLc ((iSeqU K (tVar 2))) ((gName 3)) (tYes) ((tOp (rAddU K) ((tOp (rIx K) (tVar 0) (tVar 1))) (tVar 3))) [3])))) ((tSl (rSlU K) (tVar 0) (tPart ((tOp (rAddU K) (tVar 1) ((tC (.int 1)))))) tNoPart)))))
section
variable {K : PySem.W.Frag} {ec : Str → Addr} {ns : List Str} {vs : List V} {H : Hp} {Q : VK} {E : XK}
theorem len_law_some (h : sp_law_some K vs H Q E) : vs.length = 3 := by obtain ⟨_, _, _, rfl, _⟩ := h; rfl
theorem len_law_split (h : sp_law_split K vs H Q E) : vs.length = 3 := by obtain ⟨_, _, _, _, _, rfl, _⟩ := h; rfl
theorem pure_law_some (h : sp_law_some K vs H Q E) : t_law_some K (En Q) (start N_law_some vs) H := by
  obtain ⟨p, m, al, rfl, hp, nd, hm, hal, q⟩ := h
  unfold t_law_some
  walk_at "rd"
  refine r_listTx (by omega) fun l H1 nl s1 e1 => ?_
  have lp := ne_pl nl hp
  walk_at "rd"
  rw [Int.toNat_natCast]
  refine r_forRange0 (fun i σ' H' => ∃ (bs ls : List Nat) (z5 : Option V), σ' = [some (.ref p), some (.int (m : Int)), some (.str (S al)), some (.ref l), some (.str (S ls)), z5] ∧ But p H H' ∧ Pl H' p ∧ H' l = some (.lst (bs.map fun c => V.str (S [c]))) ∧ (ls ++ bs).Nodup ∧ ls.length = i ∧ bs.length + i = al.length) ⟨al, [], _, rfl, Same.but s1, pl_same s1 hp, e1, nd, rfl, by omega⟩ (fun i σ' H' hi hW => ?_) (fun σ' H' hW => ?_)
  · obtain ⟨bs, ls, z5, rfl, b1, p1, e2, n2, h1, h2⟩ := hW
    walk_at "rd"
    rw [List.length_map]
    refine r_draw p1 (by omega) (by omega) fun v H2 v0 v1 b2 p2 => ?_
    obtain ⟨k, rfl⟩ : ∃ k : Nat, v = (k : Int) := ⟨v.toNat, by omega⟩
    have hk : k < bs.length := by omega
    walk_at "rd"
    refine r_popAt (b2 _ _ lp e2) rfl (by rw [List.getElem?_map, List.getElem?_eq_getElem hk]; rfl) (by rw [List.length_map]; omega) fun H3 b3 e3 => ?_
    refine r_addSS (by rw [List.length_singleton]; omega) ?_
    walk_at "rd"
    rw [List.nodup_append] at n2
    obtain ⟨n3, n4, n5⟩ := n2
    refine ⟨bs.eraseIdx k, ls ++ [bs[k]], _, rfl, but_via (b1.trans b2) b3 nl, pl_butL b3 lp.symm p2, ?_, ?_, ?_, ?_⟩
    · rw [e3, List.eraseIdx_eq_take_drop_succ, List.eraseIdx_eq_take_drop_succ, List.map_append, List.map_take, List.map_drop]
    · rw [List.append_assoc, List.nodup_append]
      refine ⟨n3, ?_, fun a ha b hb => ?_⟩
      · rw [List.singleton_append, List.nodup_cons]
        refine ⟨fun z => ?_, n4.eraseIdx k⟩
        rw [List.mem_eraseIdx_iff_getElem] at z
        obtain ⟨j, hj, hne, e⟩ := z
        have n6 := List.pairwise_iff_getElem.mp n4
        by_cases hjk : j < k
        · exact n6 j k hj hk hjk e
        · exact n6 k j hk hj (by omega) e.symm
      · rw [List.singleton_append, List.mem_cons] at hb
        rcases hb with rfl | hb
        · exact n5 a ha _ (List.getElem_mem hk)
        · exact n5 a ha b (List.mem_of_mem_eraseIdx hb)
    · rw [List.length_append, List.length_singleton, h1]
    · rw [List.length_eraseIdx_of_lt hk]; omega
  · obtain ⟨bs, ls, z5, rfl, b1, p1, e2, n2, h1, h2⟩ := hW
    walk_at "rd"
    rw [List.nodup_append] at n2
    exact q ls H' b1 p1 n2.1 h1
theorem cutV_map {α : Type} (f : α → V) (zs : List α) (lo hi : Option Int) : cutV (zs.map f) lo hi = (cutA zs lo hi).map f := by
  unfold cutV cutA
  rw [List.length_map, List.map_take, List.map_drop]
theorem cutA_mem {α : Type} {zs : List α} {lo hi : Option Int} {z : α} (h : z ∈ cutA zs lo hi) : z ∈ zs := List.drop_subset _ _ (List.take_subset _ _ h)
theorem pure_law_split (h : sp_law_split K vs H Q E) : t_law_split K (En Q) (start N_law_split vs) H := by
  obtain ⟨w, zs, i, n, L, rfl, hw, hi, hz, hn, hn1, hL, q⟩ := h
  unfold t_law_split
  walk_at "rd"
  refine r_slLL (sqL_of hw) fun a H1 na s1 e1 => ?_
  rw [cutV_map, cutA_take] at e1
  walk_at "rd"
  refine r_lcStrV (fun c => tx (zs[i] ++ [c])) (by omega) (fun c H2 Q' s2 k => ?_) fun b H2 nb s2 e2 => ?_
  · have hx := sqL_of (K := K) (s2 _ _ (s1 _ _ hw))
    walk_at "rd"
    refine r_ixL hx (atI_nat (by rw [List.getElem?_map, List.getElem?_eq_getElem hi]; rfl)) ?_
    walk_at "rd"
    have := hn _ (List.getElem_mem hi)
    refine r_addSS (by rw [List.length_singleton]; omega) k
  have e2 : H2 b = some (.lst ((L.map fun c => zs[i] ++ [c]).map tx)) := by rw [e2, List.map_map]; rfl
  refine r_catL (s2 _ _ e1) e2 (by rw [List.length_map, List.length_map, List.length_map, List.length_take, sizeLine_eq]; omega) fun c H3 nc s3 e3 => ?_
  walk_at "rd"
  refine r_slLL (sqL_of (s3 _ _ (s2 _ _ (s1 _ _ hw)))) fun d H4 nd s4 e4 => ?_
  rw [cutV_map, show ((i : Int) + 1) = ((i + 1 : Nat) : Int) by omega, cutA_drop] at e4
  rw [← List.map_append] at e3
  refine r_catL (s4 _ _ e3) e4 (by simp only [List.length_map, List.length_append, List.length_take, List.length_drop, sizeLine_eq]; omega) fun r H5 nr s5 e5 => ?_
  rw [← List.map_append] at e5
  have sa := ((s1.trans s2).trans s3).trans s4
  refine q r H5 _ (sa.free nr) (sa.trans s5) e5 ?_ fun z hz2 => ?_
  · simp only [List.length_map, List.length_append, List.length_take, List.length_drop]; omega
  · rcases List.mem_append.mp hz2 with hz2 | hz2
    · rcases List.mem_append.mp hz2 with hz2 | hz2
      · have := hn z (List.take_subset _ _ hz2); omega
      · obtain ⟨c, _, rfl⟩ := List.mem_map.mp hz2
        have := hn _ (List.getElem_mem hi)
        rw [List.length_append, List.length_singleton]; omega
    · have := hn z (List.drop_subset _ _ hz2); omega
end
end K45
end Kb
set_option Elab.async false
set_option linter.all false
set_option maxRecDepth 100000
set_option maxHeartbeats 4000000
namespace Kb
namespace K45
open PySem PySem.Spec PyProof.Rows L2 SX
local macro_rules | `(tactic| walk_at "tk") => `(tactic| first
  | assumption
  | ((with_reducible refine' sqT_of ?k); (case k => assumption))
  | ((with_reducible refine' sqT_ofD ?k); (case k => assumption))
  | ((with_reducible refine' noD_of ?k); (case k => assumption))
  | ((with_reducible refine' noD_same ?s ?k); (case s => assumption); (case k => walk_at "tk"))
  | ((with_reducible refine' sqL_of ?k); (case k => assumption))
  | ((with_reducible refine' sqT_same ?s ?k); (case s => assumption); (case k => walk_at "tk"))
  | ((with_reducible refine' sqL_same ?s ?k); (case s => assumption); (case k => walk_at "tk"))
  | ((with_reducible refine' sqT_but ?s ?t ?k); (case s => assumption); (case t => walk_at "tk"); (case k => walk_at "tk"))
  | ((with_reducible refine' sqL_but ?s ?t ?k); (case s => assumption); (case t => walk_at "ne"); (case k => walk_at "tk"))
  | ((with_reducible refine' sqL_of ?k); (case k => walk_at "tk"))
  | ((with_reducible refine' sqT_of ?k); (case k => walk_at "tk"))
  | ((with_reducible refine' at_same ?s ?k); (case s => assumption); (case k => walk_at "tk"))
  | ((with_reducible refine' at_but ?s ?t ?k); (case s => assumption); (case t => walk_at "ne"); (case k => walk_at "tk")))
local macro_rules | `(tactic| walk_at "ne") => `(tactic| first
  | assumption
  | (refine Ne.symm ?_; assumption)
  | exact ne_of_none (by assumption) (by assumption)
  | exact (ne_of_none (by assumption) (by assumption)).symm)
local macro_rules | `(tactic| walk_at "side") => `(tactic| first
  | assumption
  | omega
  | (simp only [sizeLine_eq, List.length_cons, List.length_nil, List.length_map]; omega)
  | (show _ ≤ sizeLine; decide))
local macro_rules | `(tactic| walk_at "kit") => `(tactic| first
  | (show kitB _ _ = some true; decide +kernel)
  | (show kitB _ _ = some false; decide +kernel))
local macro_rules | `(tactic| walk_at "rng") => `(tactic| first
  | (refine ⟨by omega, by omega, by omega, by omega⟩)
  | (refine ⟨by omega, by omega⟩)
  | ((simp only [List.length_map]); (refine ⟨by omega, by omega, by omega, by omega⟩))
  | ((simp only [List.length_map]); (refine ⟨by omega, by omega⟩)))
local macro_rules | `(tactic| walk_at "rd1") => `(tactic| first
  | with_reducible refine r_seq ?_
  | ((with_reducible refine' r_var ?k0 ?_); (case k0 => rfl))
  | with_reducible refine r_op ?_
  | with_reducible refine r_c ?_
  | with_reducible refine r_asg ?_
  | with_reducible refine r_name ?_
  | with_reducible refine r_cons ?_
  | with_reducible refine r_nil ?_
  | with_reducible refine r_CB ?_
  | with_reducible refine r_if ?_
  | with_reducible refine r_test ?_
  | with_reducible refine r_k ?_
  | with_reducible refine r_T ?_
  | with_reducible refine r_F ?_
  | with_reducible refine r_nT ?_
  | with_reducible refine r_nF ?_
  | with_reducible refine r_ret ?_
  | with_reducible refine r_drop ?_
  | with_reducible refine r_next ?_
  | with_reducible refine r_call ?_
  | with_reducible refine r_addI ?_
  | with_reducible refine r_subI ?_
  | with_reducible refine r_ltI ?_
  | with_reducible refine r_gtI ?_
  | with_reducible refine r_leI ?_
  | with_reducible refine r_geI ?_
  | with_reducible refine r_eqI ?_
  | with_reducible refine r_neI ?_
  | with_reducible refine r_int ?_
  | with_reducible refine r_abs ?_
  | with_reducible refine r_not ?_
  | with_reducible refine r_and ?_
  | with_reducible refine r_or ?_
  | with_reducible refine r_tru ?_
  | with_reducible refine r_truB ?_
  | with_reducible refine r_lst ?_
  | with_reducible refine r_tup ?_
  | with_reducible refine r_BM ?_
  | with_reducible refine r_BM0 ?_
  | with_reducible refine r_tyS ?_
  | with_reducible refine r_gsub ?_
  | with_reducible refine r_then ?_
  | with_reducible refine r_lstRg ?_
  | with_reducible refine r_tupRg ?_
  | with_reducible refine r_rg2 ?_
  | with_reducible refine r_rg1 ?_
  | with_reducible refine r_ii ?_
  | with_reducible refine r_i ?_
  | with_reducible refine r_ipI ?_
  | with_reducible refine r_un ?_
  | with_reducible refine r_neg ?_
  | with_reducible refine r_isN ?_
  | with_reducible refine r_notN ?_
  | with_reducible refine r_notV ?_
  | with_reducible refine r_pnot ?_
  | with_reducible refine r_pif ?_
  | with_reducible refine r_andV ?_
  | with_reducible refine r_orV ?_
  | with_reducible refine r_ifE ?_
  | with_reducible refine r_chain ?_
  | with_reducible refine r_sl ?_
  | with_reducible refine r_noPart ?_
  | with_reducible refine r_part ?_
  | with_reducible refine r_brk ?_
  | with_reducible refine r_cont ?_
  | with_reducible refine r_retN ?_
  | with_reducible refine r_truI ?_
  | with_reducible refine r_B ?_
  | with_reducible refine r_for ?_
  | with_reducible refine r_rng1 ?_
  | with_reducible refine r_rng2 ?_
  | with_reducible refine r_rng3 ?_
  | with_reducible refine r_body ?_
  | with_reducible refine r_lc ?_
  | with_reducible refine r_yes ?_
  | ((with_reducible refine' r_mod ?k0 ?_); (case k0 => walk_at "side"))
  | ((with_reducible refine' r_mulI ?k0 ?_); (case k0 => first | exact Or.inl ⟨by omega, by omega⟩ | exact Or.inr ⟨by omega, by omega⟩))
  | ((with_reducible refine' r_lenL ?k0 ?_); (case k0 => walk_at "tk"))
  | ((with_reducible refine' r_lenT ?k0 ?_); (case k0 => walk_at "tk"))
  | ((with_reducible refine' r_truL ?k0 ?_); (case k0 => walk_at "tk"))
  | ((with_reducible refine' r_truT ?k0 ?_); (case k0 => walk_at "tk"))
  | ((with_reducible refine' r_ixL ?k0 ?k1 ?_); (case k0 => walk_at "tk"); (case k1 => first | assumption | rfl))
  | ((with_reducible refine' r_ixT ?k0 ?k1 ?_); (case k0 => walk_at "tk"); (case k1 => first | assumption | rfl))
  | ((with_reducible refine' r_new ?k0 ?_); (case k0 => walk_at "side"))
  | ((with_reducible refine' r_tyL ?k0 ?_); (case k0 => walk_at "tk"))
  | ((with_reducible refine' r_append ?k0 ?k1 ?_); (case k0 => walk_at "tk"); (case k1 => walk_at "side"))
  | ((with_reducible refine' r_setL ?k0 ?k1 ?_); (case k0 => walk_at "tk"); (case k1 => first | assumption | rfl))
  | ((with_reducible refine' r_kTupL ?k0 ?_); (case k0 => walk_at "tk"))
  | ((with_reducible refine' r_kTupT ?k0 ?_); (case k0 => walk_at "tk"))
  | ((with_reducible refine' r_listL ?k0 ?_); (case k0 => walk_at "tk"))
  | ((with_reducible refine' r_listT ?k0 ?_); (case k0 => walk_at "tk"))
  | ((with_reducible refine' r_aug ?k0 ?_); (case k0 => rfl))
  | ((with_reducible refine' r_lenS ?k0 ?_); (case k0 => walk_at "side"))
  | ((with_reducible refine' r_pop ?k0 ?_); (case k0 => walk_at "tk"))
  | ((with_reducible refine' r_pr1 ?k0 ?_); (case k0 => walk_at "rng"))
  | ((with_reducible refine' r_pr2 ?k0 ?_); (case k0 => walk_at "rng"))
  | ((with_reducible refine' r_pr3d ?k0 ?_); (case k0 => walk_at "rng"))
  | ((with_reducible refine' r_isiI ?k0 ?_); (case k0 => walk_at "kit"))
  | ((with_reducible refine' r_isiB ?k0 ?_); (case k0 => walk_at "kit"))
  | ((with_reducible refine' r_isiS ?k0 ?_); (case k0 => walk_at "kit"))
  | ((with_reducible refine' r_isiN ?k0 ?_); (case k0 => walk_at "kit"))
  | ((with_reducible refine' r_isiT ?k0 ?k1 ?_); (case k0 => walk_at "tk"); (case k1 => walk_at "kit"))
  | ((with_reducible refine r_seqT ?_); (repeat (walk_at "rd1")); ((with_reducible refine' r_pseqT ?k0 ?_); (case k0 => walk_at "tk")))
  | ((with_reducible refine r_seqL ?_); (repeat (walk_at "rd1")); ((with_reducible refine' r_pseqL ?k0 ?_); (case k0 => walk_at "tk")))
  | ((with_reducible refine r_seqS ?_); (repeat (walk_at "rd1")); (with_reducible refine r_pseqS ?_)))
local macro_rules | `(tactic| walk_at "rd") => `(tactic| ((repeat (walk_at "rd1")); (try dsimp only)))
local macro_rules | `(tactic| walk_at "rd1") => `(tactic| first
  | with_reducible refine r_BMT ?_
  | with_reducible refine r_par ?_
  | with_reducible refine r_parV ?_
  | ((with_reducible refine' r_ptp ?k0 ?k1 ?_); (case k0 => walk_at "tk"); (case k1 => walk_at "tk"))
  | with_reducible refine r_eqS ?_
  | with_reducible refine r_neS ?_
  | with_reducible refine r_callW ?_
  | with_reducible refine r_try ?_
  | with_reducible refine r_enT ?_
  | ((with_reducible refine' r_pen ?k0 ?_); (case k0 => walk_at "tk")))
local macro_rules | `(tactic| walk_at "pl0") => `(tactic| first
  | assumption
  | exact pl_same (by assumption) (by assumption)
  | exact pl_same (by assumption) (pl_same (by assumption) (by assumption))
  | exact pl_same (by assumption) (pl_same (by assumption) (pl_same (by assumption) (by assumption))))
local macro_rules | `(tactic| walk_at "pl") => `(tactic| first
  | walk_at "pl0"
  | ((with_reducible refine' pl_butL ?s ?n ?k); (case s => assumption); (case n => walk_at "ne"); (case k => walk_at "pl"))
  | ((with_reducible refine' pl_same ?s ?k); (case s => assumption); (case k => walk_at "pl")))
local macro_rules | `(tactic| walk_at "ne") => `(tactic| first
  | exact ne_pl (by assumption) (by walk_at "pl0")
  | exact (ne_pl (by assumption) (by walk_at "pl0")).symm)
local macro_rules | `(tactic| walk_at "fr") => `(tactic| first
  | assumption
  | ((with_reducible refine' free_but ?b ?n ?h); (case h => assumption); (case n => walk_at "ne"); (case b => walk_at "but"))
  | ((with_reducible refine' Same.free ?b ?h); (case h => assumption); (case b => walk_at "same")))
local macro_rules | `(tactic| walk_at "but") => `(tactic| first
  | assumption
  | exact But.refl
  | ((with_reducible refine' But.trans ?a ?b); (case b => assumption); (case a => walk_at "but"))
  | ((with_reducible refine' But.trans ?a (Same.but ?b)); (case b => assumption); (case a => walk_at "but"))
  | ((with_reducible refine' but_via ?a ?b ?c); (case b => assumption); (case c => walk_at "fr"); (case a => walk_at "but")))
local macro_rules | `(tactic| walk_at "same") => `(tactic| first
  | assumption
  | exact Same.refl _
  | ((with_reducible refine' Same.trans ?a ?b); (case b => assumption); (case a => walk_at "same"))
  | ((with_reducible refine' same_but ?a ?b ?c); (case b => assumption); (case c => walk_at "fr"); (case a => walk_at "same")))
local macro_rules | `(tactic| walk_at "tk") => `(tactic| first
  | ((with_reducible refine' sqT_pl ?s ?t ?k); (case s => assumption); (case t => walk_at "pl0"); (case k => walk_at "tk"))
  | ((with_reducible refine' rp_same ?s ?k); (case s => assumption); (case k => walk_at "tk"))
  | ((with_reducible refine' rp_pl ?s ?t ?k); (case s => assumption); (case t => walk_at "pl0"); (case k => walk_at "tk")))
local macro_rules | `(tactic| walk_at "it") => `(tactic| first
  | assumption
  | ((with_reducible refine' sqI_1 ?k); (case k => assumption))
  | ((with_reducible refine' sqI_0 ?k); (case k => assumption))
  | ((with_reducible refine' sqI_of ?k); (case k => assumption))
  | ((with_reducible refine' sqI_D ?k); (case k => assumption))
  | ((with_reducible refine' sqT_same ?s ?k); (case s => assumption); (case k => walk_at "it"))
  | ((with_reducible refine' sqT_but ?s ?t ?k); (case s => assumption); (case t => assumption); (case k => walk_at "it"))
  | ((with_reducible refine' sqT_pl ?s ?t ?k); (case s => assumption); (case t => walk_at "pl0"); (case k => walk_at "it")))
local macro_rules | `(tactic| walk_at "sz") => `(tactic| first | omega | ((try simp only [List.length_cons, List.length_nil] at *); omega))
local macro_rules | `(tactic| walk_at "au1") => `(tactic| first
  | walk_at "rd1"
  | ((with_reducible refine' r_draw ?k0 ?k1 ?k2 ?_); (case k0 => walk_at "pl"); (case k1 => omega); (case k2 => omega); (intro _ _ _ _ _ _))
  | ((with_reducible refine' r_slN ?k0 ?_); (case k0 => walk_at "it"); (intro _ _ _ _ _ _))
  | ((with_reducible refine' r_catN ?k0 ?k1 ?k2 ?_); (case k0 => walk_at "it"); (case k1 => walk_at "it"); (case k2 => walk_at "sz"); (intro _ _ _ _ _ _))
  | ((with_reducible refine' r_pow ?k0 ?_); (case k0 => exact ⟨by decide, by decide, by decide⟩))
  | ((with_reducible refine' r_ixI ?k0 ?k1 ?k2 ?_); (case k0 => walk_at "it"); (case k1 => omega); (case k2 => omega); (intro _ _))
  | ((with_reducible refine' r_setI ?k0 ?k1 ?k2 ?_); (case k0 => walk_at "tk"); (case k1 => omega); (case k2 => omega); (intro _ _ _ _ _))
  | ((with_reducible refine' r_kTupI ?k0 ?_); (case k0 => walk_at "tk"); (intro _ _ _ _ _))
  | ((with_reducible refine' r_listI ?k0 ?_); (case k0 => walk_at "it"); (intro _ _ _ _ _))
  | (with_reducible refine r_revU ?_)
  | ((with_reducible refine' r_prevN ?k0 ?_); (case k0 => walk_at "it"); (intro _ _ _ _ _ _))
  | (intro _ _ _ _ _))
local macro_rules | `(tactic| walk_at "go") => `(tactic| ((repeat (walk_at "au1")); (first
  | ((with_reducible refine r_ite (fun _ => ?_) (fun _ => ?_)) <;> (walk_at "go"))
  | ((with_reducible refine r_iteN (fun _ => ?_) (fun _ => ?_)) <;> (walk_at "go"))
  | dsimp only
  | skip)))
local macro_rules | `(tactic| walk_at "rd1") => `(tactic| first
  | ((with_reducible refine' r_lenSS ?k0 ?_); (case k0 => omega))
  | ((with_reducible refine' r_slS ?k0 ?_); (case k0 => omega))
  | (with_reducible refine r_eqSS ?_)
  | (with_reducible refine r_neSS ?_)
  | ((with_reducible refine' r_addSS ?k0 ?_); (case k0 => first | omega | ((try simp only [List.length_singleton]); omega))))
/-- the list of texts at w, made since H, after i splits -/
structure LI (L : List Nat) (p : Addr) (H : Hp) (i : Nat) (H' : Hp) (w : Addr) (zs : List (List Nat)) : Prop where
  fr : H w = none
  bt : But p H H'
  pl : Pl H' p
  at' : H' w = some (.lst (zs.map tx))
  ne : 0 < zs.length
  sz : zs.length ≤ 1 + 6 * i
  ln : ∀ z ∈ zs, z.length ≤ i
def sp_law_list (K : PySem.W.Frag) : Sp := fun vs H Q _ => ∃ (p : Addr) (L : List Nat), vs = [.ref p, .str (S L)] ∧ Pl H p ∧ L.length ≤ 6 ∧ ∀ q H' (zs : List (List Nat)), H q = none → But p H H' → Pl H' p → H' q = some (.lst (zs.map tx)) → 0 < zs.length → zs.length ≤ 50000 → (∀ z ∈ zs, z.length ≤ 9000) → Q (.ref q) H'
abbrev N_law_list : List Str := ["pool", "letters", "words", "way", "k", "at", "many", "sign"]
def t_law_list (K : PySem.W.Frag) : TS :=
  tSeq (tAsg ((tLst (tCons ((tC (.str ""))) tNil))) (gName 2))
  (tSeq (tAsg ((tCall (sp_law_draw K) [] E0 (tCons (tVar 0) (tCons ((tC (.int 24))) tNil)))) (gName 3))
  (tSeq (tIfS ((tTest (tOp (rEqU K) (tVar 1) ((tC (.str "")))))) ((tRet (tVar 2))) (tNext))
  (tSeq (tIfS ((tTest (tOp (rLtU K) (tVar 3) ((tC (.int 14)))))) ((tFor (iRng1 (tCons ((tOp (rIx K) ((tLst (tCons ((tC (.int 0))) (tCons ((tC (.int 1))) (tCons ((tC (.int 2))) (tCons ((tC (.int 3))) (tCons ((tC (.int 5))) (tCons ((tC (.int 8))) (tCons ((tC (.int 12))) tNil))))))))) ((tCall (sp_law_draw K) [] E0 (tCons (tVar 0) (tCons ((tC (.int 7))) tNil)))))) tNil)) (gName 4) ((tAsg ((tCall (sp_law_split K) [] E0 (tCons (tVar 2) (tCons ((tCall (sp_law_draw K) [] E0 (tCons (tVar 0) (tCons ((tCB (rLenU K) (tCons (tVar 2) tNil))) tNil)))) (tCons (tVar 1) tNil))))) (gName 2))))) ((tIfS ((tTest (tOp (rLtU K) (tVar 3) ((tC (.int 18)))))) ((tFor (iRng1 (tCons ((tCall (sp_law_draw K) [] E0 (tCons (tVar 0) (tCons ((tC (.int 41))) tNil)))) tNil)) (gName 4) ((tAsg ((tCall (sp_law_split K) [] E0 (tCons (tVar 2) (tCons ((tCall (sp_law_draw K) [] E0 (tCons (tVar 0) (tCons ((tCB (rLenU K) (tCons (tVar 2) tNil))) tNil)))) (tCons (tVar 1) tNil))))) (gName 2))))) ((tIfS ((tOr ((tTest (tOp (rLtU K) (tVar 3) ((tC (.int 23)))))) ((tTest (tOp (rEqU K) ((tCB (rLenU K) (tCons (tVar 1) tNil))) ((tC (.int 1)))))))) (tSeq (tAsg ((tC (.int 0))) (gName 5))
  ((tFor (iRng1 (tCons ((tOp (rAddU K) ((tC (.int 57))) ((tCall (sp_law_draw K) [] E0 (tCons (tVar 0) (tCons ((tC (.int 5))) tNil)))))) tNil)) (gName 4) (tSeq (tAsg ((tCall (sp_law_split K) [] E0 (tCons (tVar 2) (tCons (tVar 5) (tCons (tVar 1) tNil))))) (gName 2))
  ((tAsg ((tOp (rAddU K) (tVar 5) ((tCall (sp_law_draw K) [] E0 (tCons (tVar 0) (tCons ((tCB (rLenU K) (tCons (tVar 1) tNil))) tNil)))))) (gName 5))))))) (tSeq (tAsg ((tOp (rAddU K) ((tOp rFdivU ((tC (.int 4999))) ((tOp rSubU ((tCB (rLenU K) (tCons (tVar 1) tNil))) ((tC (.int 1))))))) ((tCall (sp_law_draw K) [] E0 (tCons (tVar 0) (tCons ((tC (.int 2))) tNil)))))) (gName 6))
  (tSeq (tFor (iRng1 (tCons (tVar 6) tNil)) (gName 4) ((tDrop ((tBM K "list" rExtend (tVar 2) (tCons ((tLc ((iSeqU K (tVar 1))) ((gName 7)) (tYes) ((tOp (rAddU K) ((tOp (rIx K) (tVar 2) (tVar 4))) (tVar 7))) [7])) tNil))))))
  ((tAsg ((tCB (rSortTx K) (tCons ((tSl (rSlU K) (tVar 2) (tPart (tVar 6)) tNoPart)) tNil))) (gName 2))))))))))
  ((tRet (tVar 2))))))
section
variable {K : PySem.W.Frag} {ec : Str → Addr} {ns : List Str} {vs : List V} {H : Hp} {Q : VK} {E : XK}
theorem len_law_list (h : sp_law_list K vs H Q E) : vs.length = 2 := by obtain ⟨_, _, rfl, _⟩ := h; rfl
theorem r_ixP {L : List Int} {p : Addr} {m : Int} {Q : VK} (h : SqL K H p (L.map V.int)) (h0 : 0 ≤ m) (h1 : m < (L.length : Int)) (q : ∀ n ∈ L, Q (.int n) H) : rIx K (.ref p) (.int m) H Q := by
  obtain ⟨n, e1, e2⟩ := atI_ints h0 h1
  exact r_ixL h e1 (q n (List.mem_of_getElem? e2))
theorem LI.draw {L : List Nat} {p w : Addr} {i : Nat} {H1 H2 : Hp} {zs : List (List Nat)} (h : LI L p H i H1 w zs) (hp : Pl H p) (b : But p H1 H2) (hp2 : Pl H2 p) : LI L p H i H2 w zs :=
  ⟨h.fr, h.bt.trans b, hp2, b _ _ (ne_pl h.fr hp) h.at', h.ne, h.sz, h.ln⟩
theorem LI.split {L : List Nat} {p w q : Addr} {i : Nat} {H1 H2 : Hp} {zs us : List (List Nat)} (h : LI L p H i H1 w zs) (hL : L.length ≤ 6) (hL0 : 0 < L.length) (hp : Pl H p) (nq : H1 q = none) (s : Same H1 H2) (e : H2 q = some (.lst (us.map tx))) (hl : us.length + 1 = zs.length + L.length) (hn : ∀ z ∈ us, z.length ≤ i + 1) : LI L p H (i + 1) H2 q us := by
  have := h.ne
  have := h.sz
  exact ⟨free_but h.bt (ne_pl nq h.pl) nq, h.bt.trans (Same.but s), pl_same s h.pl, e, by omega, by omega, hn⟩
theorem pure_law_list (h : sp_law_list K vs H Q E) : t_law_list K (En Q) (start N_law_list vs) H := by
  obtain ⟨p, L, rfl, hp, hL, q⟩ := h
  unfold t_law_list
  walk_at "rd"
  intro w H1 nw s1 e1
  have e1 : H1 w = some (.lst (([[]] : List (List Nat)).map tx)) := e1
  have p1 := pl_same s1 hp
  walk_at "rd"
  refine r_draw p1 (by omega) (by omega) fun way H2 v0 v1 b2 p2 => ?_
  have l2 : LI L p H 0 H2 w [[]] := (⟨nw, Same.but s1, p1, e1, by simp, by simp, fun z hz => by rw [List.mem_singleton] at hz; subst hz; simp⟩ : LI L p H 0 H1 w [[]]).draw hp b2 p2
  walk_at "rd"
  have fin : ∀ {i : Nat} {H' : Hp} {w : Addr} {zs : List (List Nat)}, i ≤ 5000 → LI L p H i H' w zs → Q (.ref w) H' := fun hi l => q _ _ _ l.fr l.bt l.pl l.at' l.ne (by have := l.sz; omega) fun z hz => by have := l.ln z hz; omega
  refine r_ite (fun c1 => ?_) (fun c1 => ?_)
  · walk_at "rd"
    exact fin (by omega) l2
  have hL0 : 0 < L.length := List.length_pos_iff.mpr c1
  walk_at "rd"
  refine r_ite (fun c2 => ?_) (fun c2 => ?_)
  · walk_at "rd"
    intro a H3 na s3 e3
    walk_at "rd"
    have p3 := pl_same s3 p2
    refine r_draw p3 (by omega) (by omega) fun v H4 v0 v1 b4 p4 => ?_
    have l4 := ((⟨l2.fr, l2.bt.trans (Same.but s3), p3, s3 _ _ l2.at', l2.ne, l2.sz, l2.ln⟩ : LI L p H 0 H3 w [[]])).draw hp b4 p4
    refine r_ixP (L := [0, 1, 2, 3, 5, 8, 12]) (sqL_of (b4 _ _ (ne_pl na p2) e3)) v0 v1 fun n hn => ?_
    have hn : 0 ≤ n ∧ n ≤ 12 := by
      have : ∀ n ∈ ([0, 1, 2, 3, 5, 8, 12] : List Int), 0 ≤ n ∧ n ≤ 12 := by decide
      exact this n hn
    walk_at "rd"
    refine r_forRange0 (fun i σ' H' => ∃ (w : Addr) (zs : List (List Nat)) (z4 : Option V), σ' = [some (.ref p), some (.str (S L)), some (.ref w), some (.int way), z4, none, none, none] ∧ LI L p H i H' w zs) ⟨w, [[]], _, rfl, l4⟩ (fun i σ' H' hi hW => ?_) (fun σ' H' hW => ?_)
    · obtain ⟨w, zs, z4, rfl, l⟩ := hW
      have lw := sqL_of (K := K) l.at'
      have hne := l.ne
      have hsz := l.sz
      walk_at "rd"
      rw [List.length_map]
      refine r_draw l.pl (by omega) (by omega) fun v H5 v0 v1 b5 p5 => ?_
      have l5 := l.draw hp b5 p5
      obtain ⟨k, rfl⟩ : ∃ k : Nat, v = (k : Int) := ⟨v.toNat, by omega⟩
      walk_at "rd"
      refine ⟨w, zs, k, i, L, rfl, l5.at', by omega, by omega, l5.ln, by omega, by omega, fun u H6 us nu s6 e6 h1 h2 => ?_⟩
      walk_at "rd"
      exact ⟨u, us, _, rfl, l5.split hL hL0 hp nu s6 e6 h1 h2⟩
    · obtain ⟨w, zs, z4, rfl, l⟩ := hW
      walk_at "rd"
      exact fin (by omega) l
  walk_at "rd"
  refine r_ite (fun c3 => ?_) (fun c3 => ?_)
  · walk_at "rd"
    refine r_draw p2 (by omega) (by omega) fun v H4 v0 v1 b4 p4 => ?_
    have l4 := l2.draw hp b4 p4
    walk_at "rd"
    refine r_forRange0 (fun i σ' H' => ∃ (w : Addr) (zs : List (List Nat)) (z4 : Option V), σ' = [some (.ref p), some (.str (S L)), some (.ref w), some (.int way), z4, none, none, none] ∧ LI L p H i H' w zs) ⟨w, [[]], _, rfl, l4⟩ (fun i σ' H' hi hW => ?_) (fun σ' H' hW => ?_)
    · obtain ⟨w, zs, z4, rfl, l⟩ := hW
      have lw := sqL_of (K := K) l.at'
      have hne := l.ne
      have hsz := l.sz
      walk_at "rd"
      rw [List.length_map]
      refine r_draw l.pl (by omega) (by omega) fun v H5 v0 v1 b5 p5 => ?_
      have l5 := l.draw hp b5 p5
      obtain ⟨k, rfl⟩ : ∃ k : Nat, v = (k : Int) := ⟨v.toNat, by omega⟩
      walk_at "rd"
      refine ⟨w, zs, k, i, L, rfl, l5.at', by omega, by omega, l5.ln, by omega, by omega, fun u H6 us nu s6 e6 h1 h2 => ?_⟩
      walk_at "rd"
      exact ⟨u, us, _, rfl, l5.split hL hL0 hp nu s6 e6 h1 h2⟩
    · obtain ⟨w, zs, z4, rfl, l⟩ := hW
      walk_at "rd"
      exact fin (by omega) l
  have path : (tSeq (tAsg ((tC (.int 0))) (gName 5))
  ((tFor (iRng1 (tCons ((tOp (rAddU K) ((tC (.int 57))) ((tCall (sp_law_draw K) [] E0 (tCons (tVar 0) (tCons ((tC (.int 5))) tNil)))))) tNil)) (gName 4) (tSeq (tAsg ((tCall (sp_law_split K) [] E0 (tCons (tVar 2) (tCons (tVar 5) (tCons (tVar 1) tNil))))) (gName 2))
  ((tAsg ((tOp (rAddU K) (tVar 5) ((tCall (sp_law_draw K) [] E0 (tCons (tVar 0) (tCons ((tCB (rLenU K) (tCons (tVar 1) tNil))) tNil)))))) (gName 5)))))))
      { En Q with nx := tRet (tVar 2) (En Q) } [some (.ref p), some (.str (S L)), some (.ref w), some (.int way), none, none, none, none] H2 := by
    walk_at "rd"
    refine r_draw p2 (by omega) (by omega) fun v H4 v0 v1 b4 p4 => ?_
    have l4 := l2.draw hp b4 p4
    walk_at "rd"
    refine r_forRange0 (fun i σ' H' => ∃ (w : Addr) (zs : List (List Nat)) (z4 : Option V) (k : Nat), σ' = [some (.ref p), some (.str (S L)), some (.ref w), some (.int way), z4, some (.int (k : Int)), none, none] ∧ LI L p H i H' w zs ∧ k < zs.length) ⟨w, [[]], _, 0, rfl, l4, by simp⟩ (fun i σ' H' hi hW => ?_) (fun σ' H' hW => ?_)
    · obtain ⟨w, zs, z4, k, rfl, l, hk⟩ := hW
      have hne := l.ne
      have hsz := l.sz
      walk_at "rd"
      refine ⟨w, zs, k, i, L, rfl, l.at', by omega, by omega, l.ln, by omega, by omega, fun u H6 us nu s6 e6 h1 h2 => ?_⟩
      have l6 := l.split hL hL0 hp nu s6 e6 h1 h2
      walk_at "rd"
      refine r_draw l6.pl (by omega) (by omega) fun v H7 v0 v1 b7 p7 => ?_
      walk_at "rd"
      refine ⟨u, us, some (.int (i : Int)), k + v.toNat, ?_, l6.draw hp b7 p7, by omega⟩
      rw [show (k : Int) + v = ((k + v.toNat : Nat) : Int) by omega]; rfl
    · obtain ⟨w, zs, z4, k, rfl, l, hk⟩ := hW
      walk_at "rd"
      exact fin (by omega) l
  walk_at "rd"
  refine r_ite (fun c4 => ?_) (fun c4 => ?_)
  · exact r_T path
  walk_at "rd"
  refine r_ite (fun c5 => ?_) (fun c5 => ?_)
  · exact path
  clear path
  have hL2 : 2 ≤ L.length := by omega
  walk_at "rd"
  refine r_fdiv (by omega) (Nat.lt_of_le_of_lt (Nat.log2_le_self _) (by omega)) ?_
  have g0 : (0 : Int) ≤ 4999 / ((L.length : Int) - 1) := Int.ediv_nonneg (by omega) (by omega)
  have g1 : (4999 : Int) / ((L.length : Int) - 1) ≤ 4999 := Int.ediv_le_self _ (by omega)
  generalize (4999 : Int) / ((L.length : Int) - 1) = m0 at g0 g1 ⊢
  walk_at "rd"
  refine r_draw p2 (by omega) (by omega) fun v H4 v0 v1 b4 p4 => ?_
  have l4 := l2.draw hp b4 p4
  walk_at "rd"
  obtain ⟨m, hm⟩ : ∃ m : Nat, m0 + v = (m : Int) := ⟨(m0 + v).toNat, by omega⟩
  rw [hm, Int.toNat_natCast]
  refine r_forRange0 (fun i σ' H' => ∃ (zs : List (List Nat)) (z4 z7 : Option V), σ' = [some (.ref p), some (.str (S L)), some (.ref w), some (.int way), z4, none, some (.int (m : Int)), z7] ∧ LI L p H i H' w zs ∧ i < zs.length) ⟨[[]], _, _, rfl, l4, by simp⟩ (fun i σ' H' hi hW => ?_) (fun σ' H' hW => ?_)
  · obtain ⟨zs, z4, z7, rfl, l, hk⟩ := hW
    have hsz := l.sz
    have lw := sqL_of (K := K) l.at'
    have lp := ne_pl l.fr hp
    walk_at "rd"
    refine r_lcStrV (fun c => tx (zs[i] ++ [c])) (by omega) (fun c H5 Q' s5 k => ?_) fun b H5 nb s5 e5 => ?_
    · have lw := sqL_of (K := K) (s5 _ _ l.at')
      walk_at "rd"
      refine r_ixL lw (atI_nat (by rw [List.getElem?_map, List.getElem?_eq_getElem hk]; rfl)) ?_
      walk_at "rd"
      have := l.ln _ (List.getElem_mem hk)
      refine r_addSS (by rw [List.length_singleton]; omega) k
    have e5 : H5 b = some (.lst ((L.map fun c => zs[i] ++ [c]).map tx)) := by rw [e5, List.map_map]; rfl
    walk_at "rd"
    refine r_extend (s5 _ _ l.at') e5 (by rw [List.length_map, List.length_map, List.length_map, sizeLine_eq]; omega) fun H6 b6 e6 => ?_
    rw [← List.map_append] at e6
    walk_at "rd"
    refine ⟨_, _, _, rfl, ⟨l.fr, but_via (l.bt.trans (Same.but s5)) b6 l.fr, pl_butL b6 lp.symm (pl_same s5 l.pl), e6, ?_, ?_, fun z hz => ?_⟩, ?_⟩
    · rw [List.length_append, List.length_map]; omega
    · rw [List.length_append, List.length_map]; omega
    · rcases List.mem_append.mp hz with hz | hz
      · have := l.ln z hz; omega
      · obtain ⟨c, _, rfl⟩ := List.mem_map.mp hz
        have := l.ln _ (List.getElem_mem hk)
        rw [List.length_append, List.length_singleton]; omega
    · rw [List.length_append, List.length_map]; omega
  · obtain ⟨zs, z4, z7, rfl, l, hk⟩ := hW
    have hsz := l.sz
    walk_at "rd"
    refine r_slLL (sqL_of l.at') fun a H5 na s5 e5 => ?_
    rw [cutV_map, cutA_drop] at e5
    walk_at "rd"
    refine r_sortTx (sqL_of e5) fun ys b H6 hp6 _ nb s6 e6 => ?_
    walk_at "rd"
    have ly : ys.length = zs.length - m := by rw [hp6.length_eq, List.length_drop]
    have b56 := l.bt.trans (Same.but (s5.trans s6))
    refine q b H6 ys (free_but (l.bt.trans (Same.but s5)) (ne_pl nb (pl_same s5 l.pl)) nb) b56 (pl_same s6 (pl_same s5 l.pl)) e6 (by omega) (by omega) fun z hz => ?_
    have := l.ln z (List.drop_subset _ _ (hp6.subset hz))
    omega
end
end K45
end Kb
set_option Elab.async false
set_option linter.all false
set_option maxRecDepth 100000
set_option maxHeartbeats 4000000
namespace Kb
namespace K45
open PySem PySem.Spec PyProof.Rows L2 SX
local macro_rules | `(tactic| walk_at "tk") => `(tactic| first
  | assumption
  | ((with_reducible refine' sqT_of ?k); (case k => assumption))
  | ((with_reducible refine' sqT_ofD ?k); (case k => assumption))
  | ((with_reducible refine' noD_of ?k); (case k => assumption))
  | ((with_reducible refine' noD_same ?s ?k); (case s => assumption); (case k => walk_at "tk"))
  | ((with_reducible refine' sqL_of ?k); (case k => assumption))
  | ((with_reducible refine' sqT_same ?s ?k); (case s => assumption); (case k => walk_at "tk"))
  | ((with_reducible refine' sqL_same ?s ?k); (case s => assumption); (case k => walk_at "tk"))
  | ((with_reducible refine' sqT_but ?s ?t ?k); (case s => assumption); (case t => walk_at "tk"); (case k => walk_at "tk"))
  | ((with_reducible refine' sqL_but ?s ?t ?k); (case s => assumption); (case t => walk_at "ne"); (case k => walk_at "tk"))
  | ((with_reducible refine' sqL_of ?k); (case k => walk_at "tk"))
  | ((with_reducible refine' sqT_of ?k); (case k => walk_at "tk"))
  | ((with_reducible refine' at_same ?s ?k); (case s => assumption); (case k => walk_at "tk"))
  | ((with_reducible refine' at_but ?s ?t ?k); (case s => assumption); (case t => walk_at "ne"); (case k => walk_at "tk")))
local macro_rules | `(tactic| walk_at "ne") => `(tactic| first
  | assumption
  | (refine Ne.symm ?_; assumption)
  | exact ne_of_none (by assumption) (by assumption)
  | exact (ne_of_none (by assumption) (by assumption)).symm)
local macro_rules | `(tactic| walk_at "side") => `(tactic| first
  | assumption
  | omega
  | (simp only [sizeLine_eq, List.length_cons, List.length_nil, List.length_map]; omega)
  | (show _ ≤ sizeLine; decide))
local macro_rules | `(tactic| walk_at "kit") => `(tactic| first
  | (show kitB _ _ = some true; decide +kernel)
  | (show kitB _ _ = some false; decide +kernel))
local macro_rules | `(tactic| walk_at "rng") => `(tactic| first
  | (refine ⟨by omega, by omega, by omega, by omega⟩)
  | (refine ⟨by omega, by omega⟩)
  | ((simp only [List.length_map]); (refine ⟨by omega, by omega, by omega, by omega⟩))
  | ((simp only [List.length_map]); (refine ⟨by omega, by omega⟩)))
local macro_rules | `(tactic| walk_at "rd1") => `(tactic| first
  | with_reducible refine r_seq ?_
  | ((with_reducible refine' r_var ?k0 ?_); (case k0 => rfl))
  | with_reducible refine r_op ?_
  | with_reducible refine r_c ?_
  | with_reducible refine r_asg ?_
  | with_reducible refine r_name ?_
  | with_reducible refine r_cons ?_
  | with_reducible refine r_nil ?_
  | with_reducible refine r_CB ?_
  | with_reducible refine r_if ?_
  | with_reducible refine r_test ?_
  | with_reducible refine r_k ?_
  | with_reducible refine r_T ?_
  | with_reducible refine r_F ?_
  | with_reducible refine r_nT ?_
  | with_reducible refine r_nF ?_
  | with_reducible refine r_ret ?_
  | with_reducible refine r_drop ?_
  | with_reducible refine r_next ?_
  | with_reducible refine r_call ?_
  | with_reducible refine r_addI ?_
  | with_reducible refine r_subI ?_
  | with_reducible refine r_ltI ?_
  | with_reducible refine r_gtI ?_
  | with_reducible refine r_leI ?_
  | with_reducible refine r_geI ?_
  | with_reducible refine r_eqI ?_
  | with_reducible refine r_neI ?_
  | with_reducible refine r_int ?_
  | with_reducible refine r_abs ?_
  | with_reducible refine r_not ?_
  | with_reducible refine r_and ?_
  | with_reducible refine r_or ?_
  | with_reducible refine r_tru ?_
  | with_reducible refine r_truB ?_
  | with_reducible refine r_lst ?_
  | with_reducible refine r_tup ?_
  | with_reducible refine r_BM ?_
  | with_reducible refine r_BM0 ?_
  | with_reducible refine r_tyS ?_
  | with_reducible refine r_gsub ?_
  | with_reducible refine r_then ?_
  | with_reducible refine r_lstRg ?_
  | with_reducible refine r_tupRg ?_
  | with_reducible refine r_rg2 ?_
  | with_reducible refine r_rg1 ?_
  | with_reducible refine r_ii ?_
  | with_reducible refine r_i ?_
  | with_reducible refine r_ipI ?_
  | with_reducible refine r_un ?_
  | with_reducible refine r_neg ?_
  | with_reducible refine r_isN ?_
  | with_reducible refine r_notN ?_
  | with_reducible refine r_notV ?_
  | with_reducible refine r_pnot ?_
  | with_reducible refine r_pif ?_
  | with_reducible refine r_andV ?_
  | with_reducible refine r_orV ?_
  | with_reducible refine r_ifE ?_
  | with_reducible refine r_chain ?_
  | with_reducible refine r_sl ?_
  | with_reducible refine r_noPart ?_
  | with_reducible refine r_part ?_
  | with_reducible refine r_brk ?_
  | with_reducible refine r_cont ?_
  | with_reducible refine r_retN ?_
  | with_reducible refine r_truI ?_
  | with_reducible refine r_B ?_
  | with_reducible refine r_for ?_
  | with_reducible refine r_rng1 ?_
  | with_reducible refine r_rng2 ?_
  | with_reducible refine r_rng3 ?_
  | with_reducible refine r_body ?_
  | with_reducible refine r_lc ?_
  | with_reducible refine r_yes ?_
  | ((with_reducible refine' r_mod ?k0 ?_); (case k0 => walk_at "side"))
  | ((with_reducible refine' r_mulI ?k0 ?_); (case k0 => first | exact Or.inl ⟨by omega, by omega⟩ | exact Or.inr ⟨by omega, by omega⟩))
  | ((with_reducible refine' r_lenL ?k0 ?_); (case k0 => walk_at "tk"))
  | ((with_reducible refine' r_lenT ?k0 ?_); (case k0 => walk_at "tk"))
  | ((with_reducible refine' r_truL ?k0 ?_); (case k0 => walk_at "tk"))
  | ((with_reducible refine' r_truT ?k0 ?_); (case k0 => walk_at "tk"))
  | ((with_reducible refine' r_ixL ?k0 ?k1 ?_); (case k0 => walk_at "tk"); (case k1 => first | assumption | rfl))
  | ((with_reducible refine' r_ixT ?k0 ?k1 ?_); (case k0 => walk_at "tk"); (case k1 => first | assumption | rfl))
  | ((with_reducible refine' r_new ?k0 ?_); (case k0 => walk_at "side"))
  | ((with_reducible refine' r_tyL ?k0 ?_); (case k0 => walk_at "tk"))
  | ((with_reducible refine' r_append ?k0 ?k1 ?_); (case k0 => walk_at "tk"); (case k1 => walk_at "side"))
  | ((with_reducible refine' r_setL ?k0 ?k1 ?_); (case k0 => walk_at "tk"); (case k1 => first | assumption | rfl))
  | ((with_reducible refine' r_kTupL ?k0 ?_); (case k0 => walk_at "tk"))
  | ((with_reducible refine' r_kTupT ?k0 ?_); (case k0 => walk_at "tk"))
  | ((with_reducible refine' r_listL ?k0 ?_); (case k0 => walk_at "tk"))
  | ((with_reducible refine' r_listT ?k0 ?_); (case k0 => walk_at "tk"))
  | ((with_reducible refine' r_aug ?k0 ?_); (case k0 => rfl))
  | ((with_reducible refine' r_lenS ?k0 ?_); (case k0 => walk_at "side"))
  | ((with_reducible refine' r_pop ?k0 ?_); (case k0 => walk_at "tk"))
  | ((with_reducible refine' r_pr1 ?k0 ?_); (case k0 => walk_at "rng"))
  | ((with_reducible refine' r_pr2 ?k0 ?_); (case k0 => walk_at "rng"))
  | ((with_reducible refine' r_pr3d ?k0 ?_); (case k0 => walk_at "rng"))
  | ((with_reducible refine' r_isiI ?k0 ?_); (case k0 => walk_at "kit"))
  | ((with_reducible refine' r_isiB ?k0 ?_); (case k0 => walk_at "kit"))
  | ((with_reducible refine' r_isiS ?k0 ?_); (case k0 => walk_at "kit"))
  | ((with_reducible refine' r_isiN ?k0 ?_); (case k0 => walk_at "kit"))
  | ((with_reducible refine' r_isiT ?k0 ?k1 ?_); (case k0 => walk_at "tk"); (case k1 => walk_at "kit"))
  | ((with_reducible refine r_seqT ?_); (repeat (walk_at "rd1")); ((with_reducible refine' r_pseqT ?k0 ?_); (case k0 => walk_at "tk")))
  | ((with_reducible refine r_seqL ?_); (repeat (walk_at "rd1")); ((with_reducible refine' r_pseqL ?k0 ?_); (case k0 => walk_at "tk")))
  | ((with_reducible refine r_seqS ?_); (repeat (walk_at "rd1")); (with_reducible refine r_pseqS ?_)))
local macro_rules | `(tactic| walk_at "rd") => `(tactic| ((repeat (walk_at "rd1")); (try dsimp only)))
local macro_rules | `(tactic| walk_at "rd1") => `(tactic| first
  | with_reducible refine r_BMT ?_
  | with_reducible refine r_par ?_
  | with_reducible refine r_parV ?_
  | ((with_reducible refine' r_ptp ?k0 ?k1 ?_); (case k0 => walk_at "tk"); (case k1 => walk_at "tk"))
  | with_reducible refine r_eqS ?_
  | with_reducible refine r_neS ?_
  | with_reducible refine r_callW ?_
  | with_reducible refine r_try ?_
  | with_reducible refine r_enT ?_
  | ((with_reducible refine' r_pen ?k0 ?_); (case k0 => walk_at "tk")))
local macro_rules | `(tactic| walk_at "pl0") => `(tactic| first
  | assumption
  | exact pl_same (by assumption) (by assumption)
  | exact pl_same (by assumption) (pl_same (by assumption) (by assumption))
  | exact pl_same (by assumption) (pl_same (by assumption) (pl_same (by assumption) (by assumption))))
local macro_rules | `(tactic| walk_at "pl") => `(tactic| first
  | walk_at "pl0"
  | ((with_reducible refine' pl_butL ?s ?n ?k); (case s => assumption); (case n => walk_at "ne"); (case k => walk_at "pl"))
  | ((with_reducible refine' pl_same ?s ?k); (case s => assumption); (case k => walk_at "pl")))
local macro_rules | `(tactic| walk_at "ne") => `(tactic| first
  | exact ne_pl (by assumption) (by walk_at "pl0")
  | exact (ne_pl (by assumption) (by walk_at "pl0")).symm)
local macro_rules | `(tactic| walk_at "fr") => `(tactic| first
  | assumption
  | ((with_reducible refine' free_but ?b ?n ?h); (case h => assumption); (case n => walk_at "ne"); (case b => walk_at "but"))
  | ((with_reducible refine' Same.free ?b ?h); (case h => assumption); (case b => walk_at "same")))
local macro_rules | `(tactic| walk_at "but") => `(tactic| first
  | assumption
  | exact But.refl
  | ((with_reducible refine' But.trans ?a ?b); (case b => assumption); (case a => walk_at "but"))
  | ((with_reducible refine' But.trans ?a (Same.but ?b)); (case b => assumption); (case a => walk_at "but"))
  | ((with_reducible refine' but_via ?a ?b ?c); (case b => assumption); (case c => walk_at "fr"); (case a => walk_at "but")))
local macro_rules | `(tactic| walk_at "same") => `(tactic| first
  | assumption
  | exact Same.refl _
  | ((with_reducible refine' Same.trans ?a ?b); (case b => assumption); (case a => walk_at "same"))
  | ((with_reducible refine' same_but ?a ?b ?c); (case b => assumption); (case c => walk_at "fr"); (case a => walk_at "same")))
local macro_rules | `(tactic| walk_at "tk") => `(tactic| first
  | ((with_reducible refine' sqT_pl ?s ?t ?k); (case s => assumption); (case t => walk_at "pl0"); (case k => walk_at "tk"))
  | ((with_reducible refine' rp_same ?s ?k); (case s => assumption); (case k => walk_at "tk"))
  | ((with_reducible refine' rp_pl ?s ?t ?k); (case s => assumption); (case t => walk_at "pl0"); (case k => walk_at "tk")))
local macro_rules | `(tactic| walk_at "it") => `(tactic| first
  | assumption
  | ((with_reducible refine' sqI_1 ?k); (case k => assumption))
  | ((with_reducible refine' sqI_0 ?k); (case k => assumption))
  | ((with_reducible refine' sqI_of ?k); (case k => assumption))
  | ((with_reducible refine' sqI_D ?k); (case k => assumption))
  | ((with_reducible refine' sqT_same ?s ?k); (case s => assumption); (case k => walk_at "it"))
  | ((with_reducible refine' sqT_but ?s ?t ?k); (case s => assumption); (case t => assumption); (case k => walk_at "it"))
  | ((with_reducible refine' sqT_pl ?s ?t ?k); (case s => assumption); (case t => walk_at "pl0"); (case k => walk_at "it")))
local macro_rules | `(tactic| walk_at "sz") => `(tactic| first | omega | ((try simp only [List.length_cons, List.length_nil] at *); omega))
local macro_rules | `(tactic| walk_at "au1") => `(tactic| first
  | walk_at "rd1"
  | ((with_reducible refine' r_draw ?k0 ?k1 ?k2 ?_); (case k0 => walk_at "pl"); (case k1 => omega); (case k2 => omega); (intro _ _ _ _ _ _))
  | ((with_reducible refine' r_slN ?k0 ?_); (case k0 => walk_at "it"); (intro _ _ _ _ _ _))
  | ((with_reducible refine' r_catN ?k0 ?k1 ?k2 ?_); (case k0 => walk_at "it"); (case k1 => walk_at "it"); (case k2 => walk_at "sz"); (intro _ _ _ _ _ _))
  | ((with_reducible refine' r_pow ?k0 ?_); (case k0 => exact ⟨by decide, by decide, by decide⟩))
  | ((with_reducible refine' r_ixI ?k0 ?k1 ?k2 ?_); (case k0 => walk_at "it"); (case k1 => omega); (case k2 => omega); (intro _ _))
  | ((with_reducible refine' r_setI ?k0 ?k1 ?k2 ?_); (case k0 => walk_at "tk"); (case k1 => omega); (case k2 => omega); (intro _ _ _ _ _))
  | ((with_reducible refine' r_kTupI ?k0 ?_); (case k0 => walk_at "tk"); (intro _ _ _ _ _))
  | ((with_reducible refine' r_listI ?k0 ?_); (case k0 => walk_at "it"); (intro _ _ _ _ _))
  | (with_reducible refine r_revU ?_)
  | ((with_reducible refine' r_prevN ?k0 ?_); (case k0 => walk_at "it"); (intro _ _ _ _ _ _))
  | (intro _ _ _ _ _))
local macro_rules | `(tactic| walk_at "go") => `(tactic| ((repeat (walk_at "au1")); (first
  | ((with_reducible refine r_ite (fun _ => ?_) (fun _ => ?_)) <;> (walk_at "go"))
  | ((with_reducible refine r_iteN (fun _ => ?_) (fun _ => ?_)) <;> (walk_at "go"))
  | dsimp only
  | skip)))
local macro_rules | `(tactic| walk_at "rd1") => `(tactic| first
  | ((with_reducible refine' r_lenSS ?k0 ?_); (case k0 => omega))
  | (with_reducible refine r_eqSS ?_)
  | (with_reducible refine r_neSS ?_)
  | ((with_reducible refine' r_addSS ?k0 ?_); (case k0 => first | omega | ((try simp only [List.length_singleton]); omega))))
/-- a short text or a whole number -/
def It (n : Nat) (x : V) : Prop := (∃ z, x = tx z ∧ z.length ≤ n) ∨ ∃ i, x = .int i
def Its' (n : Nat) (xs : List V) : Prop := ∀ x ∈ xs, It n x
def sp_law_bent (K : PySem.W.Frag) : Sp := fun vs H Q _ => ∃ (p : Addr) (v : V), vs = [.ref p, v] ∧ Pl H p ∧
  ((∃ a xs, v = .ref a ∧ SqT K H a xs ∧ xs.length ≤ 100000 ∧ Its' 20000 xs ∧ ∀ a' H' xs', But p H H' → Pl H' p → SqT K H' a' xs' → Its' 20000 xs' → Q (.ref a') H') ∨
   (∃ z, v = tx z ∧ z.length ≤ 9900 ∧ ∀ (z' : List Nat) H', But p H H' → Pl H' p → z'.length ≤ 20000 → Q (tx z') H'))
def sp_law_spoil (K : PySem.W.Frag) : Sp := fun vs H Q _ => ∃ (p a : Addr) (zs : List (List Nat)), vs = [.ref p, .ref a] ∧ Pl H p ∧ SqT K H a (zs.map tx) ∧ zs.length ≤ 100000 ∧ (∀ z ∈ zs, z.length ≤ 9900) ∧ ∀ a' H' xs', But p H H' → Pl H' p → SqT K H' a' xs' → Its' 20000 xs' → Q (.ref a') H'
abbrev N_law_bent : List Str := ["pool", "part", "at", "other", "way", "turned", "sign"]
def t_law_bent (K : PySem.W.Frag) : TS :=
  tSeq (tIfS ((tTru K ((tCB (rIsi K) (tCons (tVar 1) (tCons ((tC (.ty "tuple"))) tNil)))))) (tSeq (tIfS ((tTest (tOp (rEqU K) ((tCB (rLenU K) (tCons (tVar 1) tNil))) ((tC (.int 0)))))) ((tRet ((tTup (tCons ((tC (.int 0))) tNil))))) (tNext))
  (tSeq (tAsg ((tCall (sp_law_draw K) [] E0 (tCons (tVar 0) (tCons ((tCB (rLenU K) (tCons (tVar 1) tNil))) tNil)))) (gName 2))
  (tSeq (tAsg ((tCall (sp_law_draw K) [] E0 (tCons (tVar 0) (tCons ((tCB (rLenU K) (tCons (tVar 1) tNil))) tNil)))) (gName 3))
  (tSeq (tAsg ((tCall (sp_law_draw K) [] E0 (tCons (tVar 0) (tCons ((tC (.int 4))) tNil)))) (gName 4))
  (tSeq (tIfS ((tTest (tOp (rEqU K) (tVar 4) ((tC (.int 0)))))) ((tRet ((tOp (rAddU K) ((tSl (rSlU K) (tVar 1) tNoPart (tPart (tVar 2)))) ((tSl (rSlU K) (tVar 1) (tPart ((tOp (rAddU K) (tVar 2) ((tC (.int 1)))))) tNoPart)))))) (tNext))
  (tSeq (tIfS ((tTest (tOp (rEqU K) (tVar 4) ((tC (.int 1)))))) ((tRet ((tOp (rAddU K) ((tSl (rSlU K) (tVar 1) tNoPart (tPart ((tOp (rAddU K) (tVar 2) ((tC (.int 1)))))))) ((tSl (rSlU K) (tVar 1) (tPart (tVar 2)) tNoPart)))))) (tNext))
  (tSeq (tIfS ((tTest (tOp (rEqU K) (tVar 4) ((tC (.int 2)))))) (tSeq (tAsg ((tCB (rListU K) (tCons (tVar 1) tNil))) (gName 5))
  (tSeq (tAsg ((tOp (rIx K) (tVar 1) (tVar 3))) (gSub (tVar 5) (tVar 2) rSetL))
  (tSeq (tAsg ((tOp (rIx K) (tVar 1) (tVar 2))) (gSub (tVar 5) (tVar 3) rSetL))
  ((tRet ((tThen (tVar 5) (kTupD K)))))))) (tNext))
  ((tRet ((tOp (rAddU K) (tVar 1) ((tTup (tCons ((tCall (sp_law_draw K) [] E0 (tCons (tVar 0) (tCons ((tC (.int 3))) tNil)))) tNil)))))))))))))) (tNext))
  (tSeq (tIfS ((tTru K ((tCB (rIsi K) (tCons (tVar 1) (tCons ((tC (.ty "str"))) tNil)))))) (tSeq (tAsg ((tCall (sp_law_draw K) [] E0 (tCons (tVar 0) (tCons ((tOp (rAddU K) ((tCB (rLenU K) (tCons (tVar 1) tNil))) ((tC (.int 1))))) tNil)))) (gName 2))
  (tSeq (tAsg ((tCall (sp_law_draw K) [] E0 (tCons (tVar 0) (tCons ((tC (.int 3))) tNil)))) (gName 4))
  (tSeq (tIfS ((tTest (tOp (rEqU K) (tVar 4) ((tC (.int 0)))))) ((tRet ((tOp (rAddU K) ((tSl (rSlU K) (tVar 1) tNoPart (tPart (tVar 2)))) ((tSl (rSlU K) (tVar 1) (tPart ((tOp (rAddU K) (tVar 2) ((tC (.int 1)))))) tNoPart)))))) (tNext))
  (tSeq (tAsg ((tOp (rIx K) ((tC (.str "ABCDabcd01249.+x"))) ((tCall (sp_law_draw K) [] E0 (tCons (tVar 0) (tCons ((tC (.int 16))) tNil)))))) (gName 6))
  (tSeq (tIfS ((tTest (tOp (rEqU K) (tVar 4) ((tC (.int 1)))))) ((tRet ((tOp (rAddU K) ((tOp (rAddU K) ((tSl (rSlU K) (tVar 1) tNoPart (tPart (tVar 2)))) (tVar 6))) ((tSl (rSlU K) (tVar 1) (tPart ((tOp (rAddU K) (tVar 2) ((tC (.int 1)))))) tNoPart)))))) (tNext))
  ((tRet ((tOp (rAddU K) ((tOp (rAddU K) ((tSl (rSlU K) (tVar 1) tNoPart (tPart (tVar 2)))) (tVar 6))) ((tSl (rSlU K) (tVar 1) (tPart (tVar 2)) tNoPart))))))))))) (tNext))
  ((tRet ((tOp (rIx K) ((tLst (tCons ((tOp (rAddU K) (tVar 1) ((tC (.int 1))))) (tCons ((tOp rSubU (tVar 1) ((tC (.int 1))))) (tCons ((tOp (rAddU K) (tVar 1) ((tC (.int 2))))) (tCons ((tC (.int 0))) tNil)))))) ((tCall (sp_law_draw K) [] E0 (tCons (tVar 0) (tCons ((tC (.int 4))) tNil)))))))))
abbrev N_law_spoil : List Str := ["pool", "value", "path", "part", "going", "depth", "new", "k", "above", "step", "at"]
def t_law_spoil (K : PySem.W.Frag) : TS :=
  tSeq (tAsg ((tLst tNil)) (gName 2))
  (tSeq (tAsg (tVar 1) (gName 3))
  (tSeq (tAsg ((tC (.bl true))) (gName 4))
  (tSeq (tFor (iRng1 (tCons ((tC (.int 7))) tNil)) (gName 5) ((tIfS ((tAnd ((tTru K (tVar 4))) ((tAnd ((tTru K ((tCB (rIsi K) (tCons (tVar 3) (tCons ((tC (.ty "tuple"))) tNil)))))) ((tAnd ((tTest (tOp rGtU ((tCB (rLenU K) (tCons (tVar 3) tNil))) ((tC (.int 0)))))) ((tTest (tOp rGtU ((tCall (sp_law_draw K) [] E0 (tCons (tVar 0) (tCons ((tC (.int 4))) tNil)))) ((tC (.int 0)))))))))))) (tSeq (tDrop ((tBM K "list" rAppend (tVar 2) (tCons ((tCall (sp_law_draw K) [] E0 (tCons (tVar 0) (tCons ((tCB (rLenU K) (tCons (tVar 3) tNil))) tNil)))) tNil))))
  ((tAsg ((tOp (rIx K) (tVar 3) ((tOp (rIx K) (tVar 2) ((tUn (rU fun i => .int (-i)) ((tC (.int 1))))))))) (gName 3)))) ((tAsg ((tC (.bl false))) (gName 4))))))
  (tSeq (tAsg ((tCall (sp_law_bent K) [] E0 (tCons (tVar 0) (tCons (tVar 3) tNil)))) (gName 6))
  (tSeq (tFor (iRng1 (tCons ((tCB (rLenU K) (tCons (tVar 2) tNil))) tNil)) (gName 7) (tSeq (tAsg (tVar 1) (gName 8))
  (tSeq (tFor (iSeqU K ((tSl (rSlU K) (tVar 2) tNoPart (tPart ((tOp rSubU ((tOp rSubU ((tCB (rLenU K) (tCons (tVar 2) tNil))) ((tC (.int 1))))) (tVar 7))))))) (gName 9) ((tAsg ((tOp (rIx K) (tVar 8) (tVar 9))) (gName 8))))
  (tSeq (tAsg ((tOp (rIx K) (tVar 2) ((tOp rSubU ((tOp rSubU ((tCB (rLenU K) (tCons (tVar 2) tNil))) ((tC (.int 1))))) (tVar 7))))) (gName 10))
  ((tAsg ((tOp (rAddU K) ((tOp (rAddU K) ((tSl (rSlU K) (tVar 8) tNoPart (tPart (tVar 10)))) ((tTup (tCons (tVar 6) tNil))))) ((tSl (rSlU K) (tVar 8) (tPart ((tOp (rAddU K) (tVar 10) ((tC (.int 1)))))) tNoPart)))) (gName 6)))))))
  ((tRet (tVar 6))))))))
section
variable {K : PySem.W.Frag} {ec : Str → Addr} {ns : List Str} {vs : List V} {H : Hp} {Q : VK} {E : XK}
theorem len_law_bent (h : sp_law_bent K vs H Q E) : vs.length = 2 := by obtain ⟨_, _, rfl, _⟩ := h; rfl
theorem len_law_spoil (h : sp_law_spoil K vs H Q E) : vs.length = 2 := by obtain ⟨_, _, _, rfl, _⟩ := h; rfl
theorem Its'.cut {n : Nat} {xs : List V} {lo hi : Option Int} (h : Its' n xs) : Its' n (cutA xs lo hi) := fun x hx => h x (cutA_mem hx)
theorem Its'.cat {n : Nat} {xs ys : List V} (h : Its' n xs) (h' : Its' n ys) : Its' n (xs ++ ys) := fun x hx => by
  rcases List.mem_append.mp hx with hx | hx
  · exact h x hx
  · exact h' x hx
theorem Its'.set {n k : Nat} {xs : List V} {v : V} (h : Its' n xs) (hv : It n v) : Its' n (xs.set k v) := fun x hx => by
  rcases List.mem_or_eq_of_mem_set hx with hx | rfl
  · exact h x hx
  · exact hv
theorem its_one {n : Nat} {v : V} (h : It n v) : Its' n [v] := fun x hx => by rw [List.mem_singleton] at hx; subst hx; exact h
theorem pure_law_bent (h : sp_law_bent K vs H Q E) : t_law_bent K (En Q) (start N_law_bent vs) H := by
  obtain ⟨p, v, rfl, hp, h⟩ := h
  unfold t_law_bent
  rcases h with ⟨a, xs, rfl, ha, hz, hi, q⟩ | ⟨z, rfl, hz, q⟩
  · walk_at "rd"
    refine r_ite (fun c1 => ?_) (fun c1 => ?_)
    · walk_at "rd"
      intro b H1 nb s1 e1
      exact q b H1 _ (Same.but s1) (pl_same s1 hp) (sqT_of e1) (its_one (.inr ⟨_, rfl⟩))
    walk_at "rd"
    refine r_draw hp (by omega) (by omega) fun at' H1 u0 u1 b1 p1 => ?_
    have a1 := sqT_pl b1 hp ha
    walk_at "rd"
    refine r_draw p1 (by omega) (by omega) fun ot H2 w0 w1 b2 p2 => ?_
    have a2 := sqT_pl b2 p1 a1
    walk_at "rd"
    refine r_draw p2 (by omega) (by omega) fun way H3 y0 y1 b3 p3 => ?_
    have a3 := sqT_pl b3 p2 a2
    have b13 := (b1.trans b2).trans b3
    obtain ⟨k, rfl⟩ : ∃ k : Nat, at' = (k : Int) := ⟨at'.toNat, by omega⟩
    obtain ⟨j, rfl⟩ : ∃ k : Nat, ot = (k : Int) := ⟨ot.toNat, by omega⟩
    have hk : k < xs.length := by omega
    have hj : j < xs.length := by omega
    have fin : ∀ {a' : Addr} {H' : Hp} {xs' : List V}, Same H3 H' → SqT K H' a' xs' → Its' 20000 xs' → Q (.ref a') H' := fun s e i => q _ _ _ (b13.trans (Same.but s)) (pl_same s p3) e i
    walk_at "rd"
    refine r_ite (fun c2 => ?_) (fun c2 => ?_)
    · walk_at "rd"
      refine r_slT a3 fun b H4 s4 e4 => ?_
      have a4 := sqT_same s4 a3
      walk_at "rd"
      refine r_slT a4 fun c H5 s5 e5 => ?_
      refine r_catTT (sqT_same s5 e4) e5 (Nat.le_trans (Nat.add_le_add (cutA_len xs) (cutA_len xs)) (by rw [sizeLine_eq]; omega)) fun d H6 s6 e6 => ?_
      exact fin ((s4.trans s5).trans s6) e6 (hi.cut.cat hi.cut)
    walk_at "rd"
    refine r_ite (fun c3 => ?_) (fun c3 => ?_)
    · walk_at "rd"
      refine r_slT a3 fun b H4 s4 e4 => ?_
      have a4 := sqT_same s4 a3
      walk_at "rd"
      refine r_slT a4 fun c H5 s5 e5 => ?_
      refine r_catTT (sqT_same s5 e4) e5 (Nat.le_trans (Nat.add_le_add (cutA_len xs) (cutA_len xs)) (by rw [sizeLine_eq]; omega)) fun d H6 s6 e6 => ?_
      exact fin ((s4.trans s5).trans s6) e6 (hi.cut.cat hi.cut)
    walk_at "rd"
    refine r_ite (fun c4 => ?_) (fun c4 => ?_)
    · walk_at "rd"
      intro l H4 nl s4 e4
      have a4 := sqT_same s4 a3
      have ek : atI xs (k : Int) = some xs[k] := atI_nat (List.getElem?_eq_getElem hk)
      have ej : atI xs (j : Int) = some xs[j] := atI_nat (List.getElem?_eq_getElem hj)
      walk_at "rd"
      refine r_setL e4 (ixN_n hk) fun H5 b5 e5 => ?_
      have a5 := sqT_but b5 e4 a4
      walk_at "rd"
      refine r_setL e5 (ixN_n (by rw [List.length_set]; exact hj)) fun H6 b6 e6 => ?_
      walk_at "rd"
      intro t H7 nt s7 e7
      have s6 := same_but (same_but s4 b5 nl) b6 nl
      exact fin (s6.trans s7) (sqT_ofD e7) ((hi.set (hi _ (List.getElem_mem hj))).set (hi _ (List.getElem_mem hk)))
    walk_at "rd"
    refine r_draw p3 (by omega) (by omega) fun u H4 u0 u1 b4 p4 => ?_
    walk_at "rd"
    intro t H5 nt s5 e5
    refine r_catTT (sqT_same s5 (sqT_pl b4 p3 a3)) (sqT_of e5) (by rw [List.length_singleton, sizeLine_eq]; omega) fun d H6 s6 e6 => ?_
    exact q d H6 _ ((b13.trans b4).trans (Same.but (s5.trans s6))) (pl_same (s5.trans s6) p4) e6 (hi.cat (its_one (.inr ⟨_, rfl⟩)))
  · walk_at "rd"
    refine r_draw hp (by omega) (by omega) fun at' H1 u0 u1 b1 p1 => ?_
    walk_at "rd"
    refine r_draw p1 (by omega) (by omega) fun way H2 w0 w1 b2 p2 => ?_
    have b12 := b1.trans b2
    walk_at "rd"
    refine r_ite (fun c1 => ?_) (fun c1 => ?_)
    · walk_at "rd"
      refine r_slSN (by omega) fun x1 l1 => ?_
      walk_at "rd"
      refine r_slSN (by omega) fun x2 l2 => ?_
      refine r_addSS (by omega) ?_
      exact q _ H2 b12 p2 (by rw [List.length_append]; omega)
    walk_at "rd"
    refine r_draw p2 (by omega) (by omega) fun u H3 u0 u1 b3 p3 => ?_
    refine r_ixC (k := 16) (by decide) (by omega) u0 u1 fun c => ?_
    walk_at "rd"
    refine r_ite (fun c2 => ?_) (fun c2 => ?_)
    · walk_at "rd"
      refine r_slSN (by omega) fun x1 l1 => ?_
      walk_at "rd"
      refine r_slSN (by omega) fun x2 l2 => ?_
      refine r_addSS (by rw [List.length_append, List.length_singleton]; omega) ?_
      exact q _ H3 (b12.trans b3) p3 (by rw [List.length_append, List.length_append, List.length_singleton]; omega)
    · walk_at "rd"
      refine r_slSN (by omega) fun x1 l1 => ?_
      walk_at "rd"
      refine r_slSN (by omega) fun x2 l2 => ?_
      refine r_addSS (by rw [List.length_append, List.length_singleton]; omega) ?_
      exact q _ H3 (b12.trans b3) p3 (by rw [List.length_append, List.length_append, List.length_singleton]; omega)
theorem its_tx {zs : List (List Nat)} {n : Nat} (h : ∀ z ∈ zs, z.length ≤ n) : Its' n (zs.map tx) := fun x hx => by
  obtain ⟨z, hz, rfl⟩ := List.mem_map.mp hx
  exact .inl ⟨z, rfl, h z hz⟩
theorem pure_law_spoil (h : sp_law_spoil K vs H Q E) : t_law_spoil K (En Q) (start N_law_spoil vs) H := by
  obtain ⟨p, a, zs, rfl, hp, ha, hz, hl, q⟩ := h
  unfold t_law_spoil
  walk_at "rd"
  intro t H1 nt s1 e1
  have tp := ne_pl nt hp
  walk_at "rd"
  refine r_forRange0 (fun i σ' H' => ∃ (g : Bool) (z5 : Option V), But p H H' ∧ Pl H' p ∧
    ((σ' = [some (.ref p), some (.ref a), some (.ref t), some (.ref a), some (.bl g), z5, none, none, none, none, none] ∧ H' t = some (.lst [])) ∨
     (∃ (k : Nat) (z : List Nat), zs[k]? = some z ∧ σ' = [some (.ref p), some (.ref a), some (.ref t), some (tx z), some (.bl g), z5, none, none, none, none, none] ∧ H' t = some (.lst [.int (k : Int)])))) ⟨true, _, Same.but s1, pl_same s1 hp, .inl ⟨rfl, e1⟩⟩ (fun i σ' H' hi hW => ?_) (fun σ' H' hW => ?_)
  · obtain ⟨g, z5, b1, p1, h⟩ := hW
    rcases h with ⟨rfl, et⟩ | ⟨k, z, hk, rfl, et⟩
    · have a1 : SqT K H' a (zs.map tx) := sqT_pl b1 hp ha
      walk_at "rd"
      cases g with
      | false =>
        walk_at "rd"
        exact ⟨false, _, b1, p1, .inl ⟨rfl, et⟩⟩
      | true =>
      walk_at "rd"
      rw [List.length_map]
      refine r_ite (fun c1 => ?_) (fun c1 => ?_)
      · walk_at "rd"
        refine r_draw p1 (by omega) (by omega) fun v H2 v0 v1 b2 p2 => ?_
        walk_at "rd"
        refine r_ite (fun c2 => ?_) (fun c2 => ?_)
        · have a2 := sqT_pl b2 p1 a1
          have et2 := b2 _ _ tp et
          have lt2 := sqL_of (K := K) et2
          walk_at "rd"
          rw [List.length_map]
          refine r_draw p2 (by omega) (by omega) fun u H3 u0 u1 b3 p3 => ?_
          obtain ⟨k, rfl⟩ : ∃ k : Nat, u = (k : Int) := ⟨u.toNat, by omega⟩
          have hk : k < zs.length := by omega
          walk_at "rd"
          intro H4 b4 e4
          have a4 := sqT_but b4 (b3 _ _ tp et2) (sqT_pl b3 p2 a2)
          have lt4 := sqL_of (K := K) e4
          have e0 : atI ([] ++ [V.int (k : Int)]) (-1) = some (.int (k : Int)) := rfl
          have e5 : atI (zs.map tx) (k : Int) = some (tx zs[k]) := atI_nat (by rw [List.getElem?_map, List.getElem?_eq_getElem hk]; rfl)
          walk_at "rd"
          exact ⟨true, _, but_via ((b1.trans b2).trans b3) b4 nt, pl_butL b4 tp.symm p3, .inr ⟨k, zs[k], List.getElem?_eq_getElem hk, rfl, e4⟩⟩
        · walk_at "rd"
          exact ⟨false, _, b1.trans b2, p2, .inl ⟨rfl, b2 _ _ tp et⟩⟩
      · walk_at "rd"
        exact ⟨false, _, b1, p1, .inl ⟨rfl, et⟩⟩
    · walk_at "rd"
      cases g with
      | false =>
        walk_at "rd"
        exact ⟨false, _, b1, p1, .inr ⟨k, z, hk, rfl, et⟩⟩
      | true =>
        walk_at "rd"
        exact ⟨false, _, b1, p1, .inr ⟨k, z, hk, rfl, et⟩⟩
  · obtain ⟨g, z5, b1, p1, h⟩ := hW
    rcases h with ⟨rfl, et⟩ | ⟨k, z, hk, rfl, et⟩
    · have a1 : SqT K H' a (zs.map tx) := sqT_pl b1 hp ha
      walk_at "rd"
      refine ⟨p, _, rfl, p1, .inl ⟨a, _, rfl, a1, by rw [List.length_map]; exact hz, its_tx fun z hz => by have := hl z hz; omega, fun b H2 xs b2 p2 e2 i2 => ?_⟩⟩
      have lt2 := sqL_of (K := K) (b2 _ _ tp et)
      walk_at "rd"
      show PR1 [V.int 0] _
      walk_at "rd"
      refine r_forRange0 (n := 0) (fun i σ' H3 => i = 0 ∧ H3 = H2 ∧ ∃ z7 z8 z9 z10, σ' = [some (.ref p), some (.ref a), some (.ref t), some (.ref a), some (.bl g), z5, some (.ref b), z7, z8, z9, z10]) ⟨rfl, rfl, _, _, _, _, rfl⟩ (fun i σ' H3 hi hW => ?_) (fun σ' H3 hW => ?_)
      · simp at hi
      · obtain ⟨_, rfl, z7, z8, z9, z10, rfl⟩ := hW
        walk_at "rd"
        exact q b H3 xs (b1.trans b2) p2 e2 i2
    · obtain ⟨hkl, ez⟩ := List.getElem?_eq_some_iff.mp hk
      have hzl := hl z (by rw [← ez]; exact List.getElem_mem hkl)
      walk_at "rd"
      refine ⟨p, _, rfl, p1, .inr ⟨z, rfl, hzl, fun z' H2 b2 p2 l2 => ?_⟩⟩
      have b12 := b1.trans b2
      have et2 := b2 _ _ tp et
      have a2 : SqT K H2 a (zs.map tx) := sqT_pl b12 hp ha
      have lt2 := sqL_of (K := K) et2
      walk_at "rd"
      show PR1 [V.int 1] _
      walk_at "rd"
      refine r_forRange0 (n := 1) (fun i σ' H3 => (i = 0 ∧ H3 = H2 ∧ ∃ z7 z8 z9 z10, σ' = [some (.ref p), some (.ref a), some (.ref t), some (tx z), some (.bl g), z5, some (tx z'), z7, z8, z9, z10]) ∨ (i = 1 ∧ Same H2 H3 ∧ ∃ b xs z7 z8 z9 z10, SqT K H3 b xs ∧ Its' 20000 xs ∧ σ' = [some (.ref p), some (.ref a), some (.ref t), some (tx z), some (.bl g), z5, some (.ref b), z7, z8, z9, z10])) (.inl ⟨rfl, rfl, _, _, _, _, rfl⟩) (fun i σ' H3 hi hW => ?_) (fun σ' H3 hW => ?_)
      · rcases hW with ⟨rfl, rfl, z7, z8, z9, z10, rfl⟩ | ⟨rfl, _⟩
        · walk_at "rd"
          refine r_seqL ?_
          walk_at "rd"
          refine r_slLL lt2 fun c H4 nc s4 e4 => ?_
          have e4 : H4 c = some (.lst []) := e4
          have lc := sqL_of (K := K) e4
          refine r_pseqL lc ?_
          refine r_forLst (xs := []) (fun i σ' H5 => H5 = H4 ∧ i = 0 ∧ ∃ z9, σ' = [some (.ref p), some (.ref a), some (.ref t), some (tx z), some (.bl g), z5, some (tx z'), some (.int 0), some (.ref a), z9, z10]) ⟨rfl, rfl, _, rfl⟩ (fun i σ' H5 _ h => h.1 ▸ lc) (fun i x σ' H5 hx => by simp at hx) (fun σ' H5 hW => ?_)
          obtain ⟨rfl, _, z9, rfl⟩ := hW
          have lt4 := sqL_same s4 lt2
          have e0 : atI [V.int (k : Int)] (([V.int (k : Int)].length : Int) - 1 - 0) = some (.int (k : Int)) := rfl
          have a4 := sqT_same s4 a2
          walk_at "rd"
          refine r_slT a4 fun b1' H6 s6 e6 => ?_
          walk_at "rd"
          intro b2' H7 n7 s7 e7
          refine r_catTT (sqT_same s7 e6) (sqT_of e7) (Nat.le_trans (Nat.add_le_add (cutA_len _) (Nat.le_refl _)) (by rw [List.length_map, List.length_singleton, sizeLine_eq]; omega)) fun b3' H8 s8 e8 => ?_
          have a8 := sqT_same s8 (sqT_same s7 (sqT_same s6 a4))
          walk_at "rd"
          refine r_slT a8 fun b4' H9 s9 e9 => ?_
          refine r_catTT (sqT_same s9 e8) e9 (by
            rw [List.length_append, List.length_singleton, sizeLine_eq]
            have h1 := cutA_len (zs.map tx) (lo := none) (hi := some (k : Int))
            have h2 := cutA_len (zs.map tx) (lo := some ((k : Int) + 1)) (hi := none)
            rw [List.length_map] at h1 h2
            omega) fun b5' H10 s10 e10 => ?_
          walk_at "rd"
          have hi0 := its_tx (n := 20000) fun z hz => Nat.le_trans (hl z hz) (by omega)
          exact .inr ⟨rfl, (((s4.trans s6).trans s7).trans s8).trans (s9.trans s10), b5', _, _, _, _, _, e10, (hi0.cut.cat (its_one (.inl ⟨z', rfl, l2⟩))).cat hi0.cut, rfl⟩
        · simp at hi
      · rcases hW with ⟨h0, _⟩ | ⟨_, s3, b, xs, z7, z8, z9, z10, e3, i3, rfl⟩
        · simp at h0
        · walk_at "rd"
          exact q b H3 xs (b12.trans (Same.but s3)) (pl_same s3 p2) e3 i3
end
end K45
end Kb
set_option Elab.async false
set_option linter.all false
set_option maxRecDepth 100000
set_option maxHeartbeats 4000000
namespace Kb
namespace K45
open PySem PySem.Spec PyProof.Rows L2 SX
local macro_rules | `(tactic| walk_at "tk") => `(tactic| first
  | assumption
  | ((with_reducible refine' sqT_of ?k); (case k => assumption))
  | ((with_reducible refine' sqT_ofD ?k); (case k => assumption))
  | ((with_reducible refine' noD_of ?k); (case k => assumption))
  | ((with_reducible refine' noD_same ?s ?k); (case s => assumption); (case k => walk_at "tk"))
  | ((with_reducible refine' sqL_of ?k); (case k => assumption))
  | ((with_reducible refine' sqT_same ?s ?k); (case s => assumption); (case k => walk_at "tk"))
  | ((with_reducible refine' sqL_same ?s ?k); (case s => assumption); (case k => walk_at "tk"))
  | ((with_reducible refine' sqT_but ?s ?t ?k); (case s => assumption); (case t => walk_at "tk"); (case k => walk_at "tk"))
  | ((with_reducible refine' sqL_but ?s ?t ?k); (case s => assumption); (case t => walk_at "ne"); (case k => walk_at "tk"))
  | ((with_reducible refine' sqL_of ?k); (case k => walk_at "tk"))
  | ((with_reducible refine' sqT_of ?k); (case k => walk_at "tk"))
  | ((with_reducible refine' at_same ?s ?k); (case s => assumption); (case k => walk_at "tk"))
  | ((with_reducible refine' at_but ?s ?t ?k); (case s => assumption); (case t => walk_at "ne"); (case k => walk_at "tk")))
local macro_rules | `(tactic| walk_at "ne") => `(tactic| first
  | assumption
  | (refine Ne.symm ?_; assumption)
  | exact ne_of_none (by assumption) (by assumption)
  | exact (ne_of_none (by assumption) (by assumption)).symm)
local macro_rules | `(tactic| walk_at "side") => `(tactic| first
  | assumption
  | omega
  | (simp only [sizeLine_eq, List.length_cons, List.length_nil, List.length_map]; omega)
  | (show _ ≤ sizeLine; decide))
local macro_rules | `(tactic| walk_at "kit") => `(tactic| first
  | (show kitB _ _ = some true; decide +kernel)
  | (show kitB _ _ = some false; decide +kernel))
local macro_rules | `(tactic| walk_at "rng") => `(tactic| first
  | (refine ⟨by omega, by omega, by omega, by omega⟩)
  | (refine ⟨by omega, by omega⟩)
  | ((simp only [List.length_map]); (refine ⟨by omega, by omega, by omega, by omega⟩))
  | ((simp only [List.length_map]); (refine ⟨by omega, by omega⟩)))
local macro_rules | `(tactic| walk_at "rd1") => `(tactic| first
  | with_reducible refine r_seq ?_
  | ((with_reducible refine' r_var ?k0 ?_); (case k0 => rfl))
  | with_reducible refine r_op ?_
  | with_reducible refine r_c ?_
  | with_reducible refine r_asg ?_
  | with_reducible refine r_name ?_
  | with_reducible refine r_cons ?_
  | with_reducible refine r_nil ?_
  | with_reducible refine r_CB ?_
  | with_reducible refine r_if ?_
  | with_reducible refine r_test ?_
  | with_reducible refine r_k ?_
  | with_reducible refine r_T ?_
  | with_reducible refine r_F ?_
  | with_reducible refine r_nT ?_
  | with_reducible refine r_nF ?_
  | with_reducible refine r_ret ?_
  | with_reducible refine r_drop ?_
  | with_reducible refine r_next ?_
  | with_reducible refine r_call ?_
  | with_reducible refine r_addI ?_
  | with_reducible refine r_subI ?_
  | with_reducible refine r_ltI ?_
  | with_reducible refine r_gtI ?_
  | with_reducible refine r_leI ?_
  | with_reducible refine r_geI ?_
  | with_reducible refine r_eqI ?_
  | with_reducible refine r_neI ?_
  | with_reducible refine r_int ?_
  | with_reducible refine r_abs ?_
  | with_reducible refine r_not ?_
  | with_reducible refine r_and ?_
  | with_reducible refine r_or ?_
  | with_reducible refine r_tru ?_
  | with_reducible refine r_truB ?_
  | with_reducible refine r_lst ?_
  | with_reducible refine r_tup ?_
  | with_reducible refine r_BM ?_
  | with_reducible refine r_BM0 ?_
  | with_reducible refine r_tyS ?_
  | with_reducible refine r_gsub ?_
  | with_reducible refine r_then ?_
  | with_reducible refine r_lstRg ?_
  | with_reducible refine r_tupRg ?_
  | with_reducible refine r_rg2 ?_
  | with_reducible refine r_rg1 ?_
  | with_reducible refine r_ii ?_
  | with_reducible refine r_i ?_
  | with_reducible refine r_ipI ?_
  | with_reducible refine r_un ?_
  | with_reducible refine r_neg ?_
  | with_reducible refine r_isN ?_
  | with_reducible refine r_notN ?_
  | with_reducible refine r_notV ?_
  | with_reducible refine r_pnot ?_
  | with_reducible refine r_pif ?_
  | with_reducible refine r_andV ?_
  | with_reducible refine r_orV ?_
  | with_reducible refine r_ifE ?_
  | with_reducible refine r_chain ?_
  | with_reducible refine r_sl ?_
  | with_reducible refine r_noPart ?_
  | with_reducible refine r_part ?_
  | with_reducible refine r_brk ?_
  | with_reducible refine r_cont ?_
  | with_reducible refine r_retN ?_
  | with_reducible refine r_truI ?_
  | with_reducible refine r_B ?_
  | with_reducible refine r_for ?_
  | with_reducible refine r_rng1 ?_
  | with_reducible refine r_rng2 ?_
  | with_reducible refine r_rng3 ?_
  | with_reducible refine r_body ?_
  | with_reducible refine r_lc ?_
  | with_reducible refine r_yes ?_
  | ((with_reducible refine' r_mod ?k0 ?_); (case k0 => walk_at "side"))
  | ((with_reducible refine' r_mulI ?k0 ?_); (case k0 => first | exact Or.inl ⟨by omega, by omega⟩ | exact Or.inr ⟨by omega, by omega⟩))
  | ((with_reducible refine' r_lenL ?k0 ?_); (case k0 => walk_at "tk"))
  | ((with_reducible refine' r_lenT ?k0 ?_); (case k0 => walk_at "tk"))
  | ((with_reducible refine' r_truL ?k0 ?_); (case k0 => walk_at "tk"))
  | ((with_reducible refine' r_truT ?k0 ?_); (case k0 => walk_at "tk"))
  | ((with_reducible refine' r_ixL ?k0 ?k1 ?_); (case k0 => walk_at "tk"); (case k1 => first | assumption | rfl))
  | ((with_reducible refine' r_ixT ?k0 ?k1 ?_); (case k0 => walk_at "tk"); (case k1 => first | assumption | rfl))
  | ((with_reducible refine' r_new ?k0 ?_); (case k0 => walk_at "side"))
  | ((with_reducible refine' r_tyL ?k0 ?_); (case k0 => walk_at "tk"))
  | ((with_reducible refine' r_append ?k0 ?k1 ?_); (case k0 => walk_at "tk"); (case k1 => walk_at "side"))
  | ((with_reducible refine' r_setL ?k0 ?k1 ?_); (case k0 => walk_at "tk"); (case k1 => first | assumption | rfl))
  | ((with_reducible refine' r_kTupL ?k0 ?_); (case k0 => walk_at "tk"))
  | ((with_reducible refine' r_kTupT ?k0 ?_); (case k0 => walk_at "tk"))
  | ((with_reducible refine' r_listL ?k0 ?_); (case k0 => walk_at "tk"))
  | ((with_reducible refine' r_listT ?k0 ?_); (case k0 => walk_at "tk"))
  | ((with_reducible refine' r_aug ?k0 ?_); (case k0 => rfl))
  | ((with_reducible refine' r_lenS ?k0 ?_); (case k0 => walk_at "side"))
  | ((with_reducible refine' r_pop ?k0 ?_); (case k0 => walk_at "tk"))
  | ((with_reducible refine' r_pr1 ?k0 ?_); (case k0 => walk_at "rng"))
  | ((with_reducible refine' r_pr2 ?k0 ?_); (case k0 => walk_at "rng"))
  | ((with_reducible refine' r_pr3d ?k0 ?_); (case k0 => walk_at "rng"))
  | ((with_reducible refine' r_isiI ?k0 ?_); (case k0 => walk_at "kit"))
  | ((with_reducible refine' r_isiB ?k0 ?_); (case k0 => walk_at "kit"))
  | ((with_reducible refine' r_isiS ?k0 ?_); (case k0 => walk_at "kit"))
  | ((with_reducible refine' r_isiN ?k0 ?_); (case k0 => walk_at "kit"))
  | ((with_reducible refine' r_isiT ?k0 ?k1 ?_); (case k0 => walk_at "tk"); (case k1 => walk_at "kit"))
  | ((with_reducible refine r_seqT ?_); (repeat (walk_at "rd1")); ((with_reducible refine' r_pseqT ?k0 ?_); (case k0 => walk_at "tk")))
  | ((with_reducible refine r_seqL ?_); (repeat (walk_at "rd1")); ((with_reducible refine' r_pseqL ?k0 ?_); (case k0 => walk_at "tk")))
  | ((with_reducible refine r_seqS ?_); (repeat (walk_at "rd1")); (with_reducible refine r_pseqS ?_)))
local macro_rules | `(tactic| walk_at "rd") => `(tactic| ((repeat (walk_at "rd1")); (try dsimp only)))
local macro_rules | `(tactic| walk_at "rd1") => `(tactic| first
  | with_reducible refine r_BMT ?_
  | with_reducible refine r_par ?_
  | with_reducible refine r_parV ?_
  | ((with_reducible refine' r_ptp ?k0 ?k1 ?_); (case k0 => walk_at "tk"); (case k1 => walk_at "tk"))
  | with_reducible refine r_eqS ?_
  | with_reducible refine r_neS ?_
  | with_reducible refine r_callW ?_
  | with_reducible refine r_try ?_
  | with_reducible refine r_enT ?_
  | ((with_reducible refine' r_pen ?k0 ?_); (case k0 => walk_at "tk")))
local macro_rules | `(tactic| walk_at "pl0") => `(tactic| first
  | assumption
  | exact pl_same (by assumption) (by assumption)
  | exact pl_same (by assumption) (pl_same (by assumption) (by assumption))
  | exact pl_same (by assumption) (pl_same (by assumption) (pl_same (by assumption) (by assumption))))
local macro_rules | `(tactic| walk_at "pl") => `(tactic| first
  | walk_at "pl0"
  | ((with_reducible refine' pl_butL ?s ?n ?k); (case s => assumption); (case n => walk_at "ne"); (case k => walk_at "pl"))
  | ((with_reducible refine' pl_same ?s ?k); (case s => assumption); (case k => walk_at "pl")))
local macro_rules | `(tactic| walk_at "ne") => `(tactic| first
  | exact ne_pl (by assumption) (by walk_at "pl0")
  | exact (ne_pl (by assumption) (by walk_at "pl0")).symm)
local macro_rules | `(tactic| walk_at "fr") => `(tactic| first
  | assumption
  | ((with_reducible refine' free_but ?b ?n ?h); (case h => assumption); (case n => walk_at "ne"); (case b => walk_at "but"))
  | ((with_reducible refine' Same.free ?b ?h); (case h => assumption); (case b => walk_at "same")))
local macro_rules | `(tactic| walk_at "but") => `(tactic| first
  | assumption
  | exact But.refl
  | ((with_reducible refine' But.trans ?a ?b); (case b => assumption); (case a => walk_at "but"))
  | ((with_reducible refine' But.trans ?a (Same.but ?b)); (case b => assumption); (case a => walk_at "but"))
  | ((with_reducible refine' but_via ?a ?b ?c); (case b => assumption); (case c => walk_at "fr"); (case a => walk_at "but")))
local macro_rules | `(tactic| walk_at "same") => `(tactic| first
  | assumption
  | exact Same.refl _
  | ((with_reducible refine' Same.trans ?a ?b); (case b => assumption); (case a => walk_at "same"))
  | ((with_reducible refine' same_but ?a ?b ?c); (case b => assumption); (case c => walk_at "fr"); (case a => walk_at "same")))
local macro_rules | `(tactic| walk_at "tk") => `(tactic| first
  | ((with_reducible refine' sqT_pl ?s ?t ?k); (case s => assumption); (case t => walk_at "pl0"); (case k => walk_at "tk"))
  | ((with_reducible refine' rp_same ?s ?k); (case s => assumption); (case k => walk_at "tk"))
  | ((with_reducible refine' rp_pl ?s ?t ?k); (case s => assumption); (case t => walk_at "pl0"); (case k => walk_at "tk")))
local macro_rules | `(tactic| walk_at "it") => `(tactic| first
  | assumption
  | ((with_reducible refine' sqI_1 ?k); (case k => assumption))
  | ((with_reducible refine' sqI_0 ?k); (case k => assumption))
  | ((with_reducible refine' sqI_of ?k); (case k => assumption))
  | ((with_reducible refine' sqI_D ?k); (case k => assumption))
  | ((with_reducible refine' sqT_same ?s ?k); (case s => assumption); (case k => walk_at "it"))
  | ((with_reducible refine' sqT_but ?s ?t ?k); (case s => assumption); (case t => assumption); (case k => walk_at "it"))
  | ((with_reducible refine' sqT_pl ?s ?t ?k); (case s => assumption); (case t => walk_at "pl0"); (case k => walk_at "it")))
local macro_rules | `(tactic| walk_at "sz") => `(tactic| first | omega | ((try simp only [List.length_cons, List.length_nil] at *); omega))
local macro_rules | `(tactic| walk_at "au1") => `(tactic| first
  | walk_at "rd1"
  | ((with_reducible refine' r_draw ?k0 ?k1 ?k2 ?_); (case k0 => walk_at "pl"); (case k1 => omega); (case k2 => omega); (intro _ _ _ _ _ _))
  | ((with_reducible refine' r_slN ?k0 ?_); (case k0 => walk_at "it"); (intro _ _ _ _ _ _))
  | ((with_reducible refine' r_catN ?k0 ?k1 ?k2 ?_); (case k0 => walk_at "it"); (case k1 => walk_at "it"); (case k2 => walk_at "sz"); (intro _ _ _ _ _ _))
  | ((with_reducible refine' r_pow ?k0 ?_); (case k0 => exact ⟨by decide, by decide, by decide⟩))
  | ((with_reducible refine' r_ixI ?k0 ?k1 ?k2 ?_); (case k0 => walk_at "it"); (case k1 => omega); (case k2 => omega); (intro _ _))
  | ((with_reducible refine' r_setI ?k0 ?k1 ?k2 ?_); (case k0 => walk_at "tk"); (case k1 => omega); (case k2 => omega); (intro _ _ _ _ _))
  | ((with_reducible refine' r_kTupI ?k0 ?_); (case k0 => walk_at "tk"); (intro _ _ _ _ _))
  | ((with_reducible refine' r_listI ?k0 ?_); (case k0 => walk_at "it"); (intro _ _ _ _ _))
  | (with_reducible refine r_revU ?_)
  | ((with_reducible refine' r_prevN ?k0 ?_); (case k0 => walk_at "it"); (intro _ _ _ _ _ _))
  | (intro _ _ _ _ _))
local macro_rules | `(tactic| walk_at "go") => `(tactic| ((repeat (walk_at "au1")); (first
  | ((with_reducible refine r_ite (fun _ => ?_) (fun _ => ?_)) <;> (walk_at "go"))
  | ((with_reducible refine r_iteN (fun _ => ?_) (fun _ => ?_)) <;> (walk_at "go"))
  | dsimp only
  | skip)))
local macro_rules | `(tactic| walk_at "rd1") => `(tactic| first
  | ((with_reducible refine' r_lenSS ?k0 ?_); (case k0 => omega))
  | (with_reducible refine r_eqSS ?_)
  | (with_reducible refine r_neSS ?_)
  | ((with_reducible refine' r_addSS ?k0 ?_); (case k0 => first | omega | ((try simp only [List.length_singleton]); omega))))
def sp_law_bend (K : PySem.W.Frag) : Sp := fun vs H Q _ => ∃ (p w : Addr) (zs : List (List Nat)) (L : List Nat), vs = [.ref p, .ref w, .str (S L)] ∧ Pl H p ∧ H w = some (.lst (zs.map tx)) ∧ w ≠ p ∧ 0 < zs.length ∧ zs.length ≤ 50000 ∧ (∀ z ∈ zs, z.length ≤ 9000) ∧ L.length ≤ 6 ∧
  ∀ v H' d, But p H H' → Pl H' p → Rp K H' v d → Sml d → Q v H'
abbrev N_law_bend : List Str := ["pool", "words", "letters", "out", "way", "at", "word", "spot", "gone", "signs", "k"]
def t_law_bend (K : PySem.W.Frag) : TS :=
  tSeq (tAsg ((tCB (rListU K) (tCons (tVar 1) tNil))) (gName 3))
  (tSeq (tAsg ((tCall (sp_law_draw K) [] E0 (tCons (tVar 0) (tCons ((tC (.int 9))) tNil)))) (gName 4))
  (tSeq (tAsg ((tCall (sp_law_draw K) [] E0 (tCons (tVar 0) (tCons ((tCB (rLenU K) (tCons (tVar 3) tNil))) tNil)))) (gName 5))
  (tSeq (tAsg ((tOp (rIx K) (tVar 3) (tVar 5))) (gName 6))
  (tSeq (tAsg ((tCall (sp_law_draw K) [] E0 (tCons (tVar 0) (tCons ((tOp (rAddU K) ((tCB (rLenU K) (tCons (tVar 6) tNil))) ((tC (.int 1))))) tNil)))) (gName 7))
  (tSeq (tIfS ((tTest (tOp (rEqU K) (tVar 4) ((tC (.int 0)))))) ((tRet ((tThen ((tOp (rAddU K) ((tSl (rSlU K) (tVar 3) tNoPart (tPart (tVar 5)))) ((tSl (rSlU K) (tVar 3) (tPart ((tOp (rAddU K) (tVar 5) ((tC (.int 1)))))) tNoPart)))) (kTupD K))))) (tNext))
  (tSeq (tIfS ((tTest (tOp (rEqU K) (tVar 4) ((tC (.int 1)))))) ((tRet ((tThen ((tOp (rAddU K) ((tSl (rSlU K) (tVar 3) tNoPart (tPart ((tOp (rAddU K) (tVar 5) ((tC (.int 1)))))))) ((tSl (rSlU K) (tVar 3) (tPart (tVar 5)) tNoPart)))) (kTupD K))))) (tNext))
  (tSeq (tIfS ((tTest (tOp (rEqU K) (tVar 4) ((tC (.int 2)))))) ((tRet ((tThen ((tOp (rAddU K) ((tOp (rAddU K) ((tSl (rSlU K) (tVar 3) tNoPart (tPart (tVar 5)))) ((tSl (rSlU K) (tVar 3) (tPart ((tOp (rAddU K) (tVar 5) ((tC (.int 1)))))) tNoPart)))) ((tLst (tCons (tVar 6) tNil))))) (kTupD K))))) (tNext))
  (tSeq (tIfS ((tAnd ((tTest (tOp (rEqU K) (tVar 4) ((tC (.int 3)))))) ((tTest (tOp (rNeU K) (tVar 2) ((tC (.str "")))))))) (tSeq (tAsg ((tOp (rAddU K) ((tOp (rAddU K) ((tSl (rSlU K) (tVar 6) tNoPart (tPart (tVar 7)))) ((tOp (rIx K) (tVar 2) ((tCall (sp_law_draw K) [] E0 (tCons (tVar 0) (tCons ((tCB (rLenU K) (tCons (tVar 2) tNil))) tNil)))))))) ((tSl (rSlU K) (tVar 6) (tPart ((tOp (rAddU K) (tVar 7) ((tC (.int 1)))))) tNoPart)))) (gSub (tVar 3) (tVar 5) rSetL))
  ((tRet ((tThen ((tCB (rSortTx K) (tCons (tVar 3) tNil))) (kTupD K)))))) (tNext))
  (tSeq (tIfS ((tAnd ((tTest (tOp (rEqU K) (tVar 4) ((tC (.int 4)))))) ((tTest (tOp (rNeU K) (tVar 2) ((tC (.str "")))))))) (tSeq (tAsg ((tCall (sp_law_draw K) [] E0 (tCons (tVar 0) (tCons ((tCB (rLenU K) (tCons (tVar 2) tNil))) tNil)))) (gName 8))
  ((tRet ((tThen ((tOp (rAddU K) ((tOp (rAddU K) ((tSl (rSlU K) (tVar 3) tNoPart (tPart (tVar 5)))) ((tLc ((iRng1 (tCons ((tCB (rLenU K) (tCons (tVar 2) tNil))) tNil))) ((gName 10)) ((tTest (tOp (rNeU K) (tVar 10) (tVar 8)))) ((tOp (rAddU K) (tVar 6) ((tOp (rIx K) (tVar 2) (tVar 10))))) [10])))) ((tSl (rSlU K) (tVar 3) (tPart ((tOp (rAddU K) (tVar 5) ((tC (.int 1)))))) tNoPart)))) (kTupD K)))))) (tNext))
  (tSeq (tIfS ((tTest (tOp (rEqU K) (tVar 4) ((tC (.int 5)))))) (tSeq (tAsg ((tSl (rSlU K) (tVar 6) tNoPart (tPart ((tUn (rU fun i => .int (-i)) ((tC (.int 1)))))))) (gSub (tVar 3) (tVar 5) rSetL))
  ((tRet ((tThen ((tCB (rSortTx K) (tCons (tVar 3) tNil))) (kTupD K)))))) (tNext))
  (tSeq (tIfS ((tTest (tOp (rEqU K) (tVar 4) ((tC (.int 6)))))) (tSeq (tAsg ((tOp (rAddU K) ((tOp (rAddU K) ((tBM0 K "str" rUpper (tVar 2))) ((tBM0 K "str" rLower (tVar 2))))) ((tC (.str "AZaz09 .~"))))) (gName 9))
  (tSeq (tAsg ((tOp (rAddU K) ((tOp (rAddU K) ((tSl (rSlU K) (tVar 6) tNoPart (tPart (tVar 7)))) ((tOp (rIx K) (tVar 9) ((tCall (sp_law_draw K) [] E0 (tCons (tVar 0) (tCons ((tCB (rLenU K) (tCons (tVar 9) tNil))) tNil)))))))) ((tSl (rSlU K) (tVar 6) (tPart ((tOp (rAddU K) (tVar 7) ((tC (.int 1)))))) tNoPart)))) (gSub (tVar 3) (tVar 5) rSetL))
  ((tRet ((tThen (tVar 3) (kTupD K))))))) (tNext))
  (tSeq (tIfS ((tTest (tOp (rEqU K) (tVar 4) ((tC (.int 7)))))) ((tRet ((tThen ((tOp (rAddU K) ((tOp (rAddU K) ((tSl (rSlU K) (tVar 3) tNoPart (tPart (tVar 5)))) ((tLst (tCons ((tOp (rIx K) ((tLst (tCons ((tC (.int 0))) (tCons ((tUn (rU fun i => .int (-i)) ((tC (.int 1))))) (tCons ((tTup (tCons (tVar 6) tNil))) (tCons ((tTup tNil)) (tCons ((tOp rPowU ((tC (.int 10))) ((tC (.int 30))))) tNil))))))) ((tCall (sp_law_draw K) [] E0 (tCons (tVar 0) (tCons ((tC (.int 5))) tNil)))))) tNil))))) ((tSl (rSlU K) (tVar 3) (tPart ((tOp (rAddU K) (tVar 5) ((tC (.int 1)))))) tNoPart)))) (kTupD K))))) (tNext))
  ((tRet ((tCall (sp_law_spoil K) [] E0 (tCons (tVar 0) (tCons ((tThen (tVar 3) (kTupD K))) tNil))))))))))))))))))
section
variable {K : PySem.W.Frag} {ec : Str → Addr} {ns : List Str} {vs : List V} {H : Hp} {Q : VK} {E : XK}
theorem len_law_bend (h : sp_law_bend K vs H Q E) : vs.length = 3 := by obtain ⟨_, _, _, _, rfl, _⟩ := h; rfl
/-- an item that the law knows -/
def PI (K : PySem.W.Frag) (H : Hp) (x : V) : Prop := ∃ d, Rp K H x d ∧ Sm1 d
theorem PI.same {H' : Hp} {x : V} (h : PI K H x) (s : Same H H') : PI K H' x := by
  obtain ⟨d, h1, h2⟩ := h
  exact ⟨d, rp_same s h1, h2⟩
theorem pi_tx {z : List Nat} (h : z.length ≤ 1000000) : PI K H (tx z) := ⟨.str (S z), .str _, fun s e => by cases e; exact h⟩
theorem pi_int {i : Int} : PI K H (.int i) := ⟨.int i, .int _, fun s e => by cases e⟩
theorem pi_it {n : Nat} {x : V} (h : It n x) (hn : n ≤ 1000000) : PI K H x := by
  rcases h with ⟨z, rfl, h⟩ | ⟨i, rfl⟩
  · exact pi_tx (by omega)
  · exact pi_int
theorem pi_all : ∀ {xs : List V}, (∀ x ∈ xs, PI K H x) → ∃ ds, RpL K H xs ds ∧ ∀ d ∈ ds, Sm1 d
  | [], _ => ⟨[], .nil, fun d h => by cases h⟩
  | x :: xs, h => by
    obtain ⟨d, h1, h2⟩ := h x (by simp)
    obtain ⟨ds, h3, h4⟩ := pi_all (xs := xs) fun y hy => h y (by simp [hy])
    exact ⟨d :: ds, .cons h1 h3, fun e he => by
      rcases List.mem_cons.mp he with rfl | he
      · exact h2
      · exact h4 e he⟩
theorem rp_tup {a : Addr} {xs : List V} (h : SqT K H a xs) (hx : ∀ x ∈ xs, PI K H x) : ∃ d, Rp K H (.ref a) d ∧ Sml d := by
  obtain ⟨ds, h1, h2⟩ := pi_all hx
  exact ⟨.tup ds, .tup h h1, h2⟩
theorem cutV_A (xs : List V) (lo hi : Option Int) : cutV xs lo hi = cutA xs lo hi := by
  have := cutV_map (fun v : V => v) xs lo hi
  rw [List.map_id', List.map_id'] at this
  exact this
theorem pure_law_bend (h : sp_law_bend K vs H Q E) : t_law_bend K (En Q) (start N_law_bend vs) H := by
  obtain ⟨p, w, zs, L, rfl, hp, hw, wp, hn, hz, hl, hL, q⟩ := h
  unfold t_law_bend
  walk_at "rd"
  intro o H1 no s1 e1
  have op := ne_pl no hp
  have p1 := pl_same s1 hp
  walk_at "rd"
  refine r_draw p1 (by omega) (by omega) fun way H2 y0 y1 b2 p2 => ?_
  have e2 := b2 _ _ op e1
  have l2 := sqL_of (K := K) e2
  walk_at "rd"
  rw [List.length_map]
  refine r_draw p2 (by omega) (by omega) fun v H3 v0 v1 b3 p3 => ?_
  have e3 := b3 _ _ op e2
  have l3 := sqL_of (K := K) e3
  obtain ⟨k, rfl⟩ : ∃ k : Nat, v = (k : Int) := ⟨v.toNat, by omega⟩
  have hk : k < zs.length := by omega
  have lk := hl _ (List.getElem_mem hk)
  have ek : atI (zs.map tx) (k : Int) = some (tx zs[k]) := atI_nat (by rw [List.getElem?_map, List.getElem?_eq_getElem hk]; rfl)
  generalize zs[k] = word at lk ek
  walk_at "rd"
  refine r_draw p3 (by omega) (by omega) fun sp H4 u0 u1 b4 p4 => ?_
  have e4 := b4 _ _ op e3
  have l4 := sqL_of (K := K) e4
  have b14 := (((Same.but s1).trans b2).trans b3).trans b4
  clear l2 l3 e2 e3 e1 u0 u1 hw
  have hi0 : Its' 30000 (zs.map tx) := its_tx fun z hz => Nat.le_trans (hl z hz) (by omega)
  have iw : It 30000 (tx word) := .inl ⟨word, rfl, by omega⟩
  have tup : ∀ {H' : Hp} {xs : List V}, But p H H' → Pl H' p → Its' 30000 xs → ∀ q' H6, H' q' = none → Same H' H6 → (∃ o : Obj, H6 q' = some (.frz o (.tup xs)) ∧ o.dict = none) → Q (.ref q') H6 := fun b pl i q' H6 nq s6 e6 => by
    obtain ⟨d, h1, h2⟩ := rp_tup (K := K) (sqT_ofD e6) fun x hx => pi_it (i x hx) (by omega)
    exact q _ H6 d (b.trans (Same.but s6)) (pl_same s6 pl) h1 h2
  have szz : ∀ {lo hi lo' hi' : Option Int}, (cutV (zs.map tx) lo hi).length + (cutV (zs.map tx) lo' hi').length ≤ 100000 := fun {lo hi lo' hi'} => by
    have h1 := cutV_length (zs.map tx) lo hi
    have h2 := cutV_length (zs.map tx) lo' hi'
    rw [List.length_map] at h1 h2
    omega
  have ic : ∀ {lo hi : Option Int}, Its' 30000 (cutV (zs.map tx) lo hi) := fun {lo hi} => by rw [cutV_A]; exact hi0.cut
  have spoil : ∀ z8 z9 z10 : Option V, tRet ((tCall (sp_law_spoil K) [] E0 (tCons (tVar 0) (tCons ((tThen (tVar 3) (kTupD K))) tNil)))) (En Q) [some (.ref p), some (.ref w), some (.str (S L)), some (.ref o), some (.int way), some (.int (k : Int)), some (tx word), some (.int sp), z8, z9, z10] H4 := fun z8 z9 z10 => by
    walk_at "rd"
    intro a H5 na s5 e5
    walk_at "rd"
    refine ⟨p, a, zs, rfl, pl_same s5 p4, sqT_ofD e5, by omega, fun z hz => Nat.le_trans (hl z hz) (by omega), fun a' H6 xs b6 p6 e6 i6 => ?_⟩
    obtain ⟨d, h1, h2⟩ := rp_tup (K := K) e6 fun x hx => pi_it (i6 x hx) (by omega)
    exact q _ H6 d ((b14.trans (Same.but s5)).trans b6) p6 h1 h2
  walk_at "rd"
  refine r_ite (fun c0 => ?_) (fun c0 => ?_)
  · walk_at "rd"
    refine r_slLL l4 fun a H5 na s5 e5 => ?_
    have l5 := sqL_same s5 l4
    walk_at "rd"
    refine r_slLL l5 fun b H6 nb s6 e6 => ?_
    refine r_catL (s6 _ _ e5) e6 (Nat.le_trans szz (by rw [sizeLine_eq]; omega)) fun r H7 nr s7 e7 => ?_
    exact r_kTupL (sqL_of e7) (tup (b14.trans (Same.but ((s5.trans s6).trans s7))) (pl_same ((s5.trans s6).trans s7) p4) (ic.cat ic))
  walk_at "rd"
  refine r_ite (fun c1 => ?_) (fun c1 => ?_)
  · walk_at "rd"
    refine r_slLL l4 fun a H5 na s5 e5 => ?_
    have l5 := sqL_same s5 l4
    walk_at "rd"
    refine r_slLL l5 fun b H6 nb s6 e6 => ?_
    refine r_catL (s6 _ _ e5) e6 (Nat.le_trans szz (by rw [sizeLine_eq]; omega)) fun r H7 nr s7 e7 => ?_
    exact r_kTupL (sqL_of e7) (tup (b14.trans (Same.but ((s5.trans s6).trans s7))) (pl_same ((s5.trans s6).trans s7) p4) (ic.cat ic))
  walk_at "rd"
  refine r_ite (fun c2 => ?_) (fun c2 => ?_)
  · walk_at "rd"
    refine r_slLL l4 fun a H5 na s5 e5 => ?_
    have l5 := sqL_same s5 l4
    walk_at "rd"
    refine r_slLL l5 fun b H6 nb s6 e6 => ?_
    refine r_catL (s6 _ _ e5) e6 (Nat.le_trans szz (by rw [sizeLine_eq]; omega)) fun r H7 nr s7 e7 => ?_
    walk_at "rd"
    intro c H8 nc s8 e8
    refine r_catL (s8 _ _ e7) e8 (by rw [List.length_append, List.length_singleton, sizeLine_eq]; exact Nat.le_trans (Nat.add_le_add_right szz 1) (by omega)) fun r2 H9 nr2 s9 e9 => ?_
    have sa := (((s5.trans s6).trans s7).trans s8).trans s9
    exact r_kTupL (sqL_of e9) (tup (b14.trans (Same.but sa)) (pl_same sa p4) ((ic.cat ic).cat (its_one iw)))
  walk_at "rd"
  refine r_ite (fun c3 => ?_) (fun c3 => ?_)
  · walk_at "rd"
    refine r_iteN (fun hL0 => ?_) (fun hL0 => ?_)
    · have hLp : 0 < L.length := List.length_pos_iff.mpr hL0
      walk_at "rd"
      refine r_slSN (by omega) fun x1 m1 => ?_
      walk_at "rd"
      refine r_draw p4 (by omega) (by omega) fun u H5 u0 u1 b5 p5 => ?_
      refine r_ixSN (by omega) u0 u1 fun c _ => ?_
      walk_at "rd"
      refine r_slSN (by omega) fun x2 m2 => ?_
      refine r_addSS (by rw [List.length_append, List.length_singleton]; omega) ?_
      have e5 := b5 _ _ op e4
      walk_at "rd"
      refine r_setL e5 (ixN_n (by rw [List.length_map]; exact hk)) fun H6 b6 e6 => ?_
      have e6 : H6 o = some (.lst ((zs.set k (x1 ++ [c] ++ x2)).map tx)) := by rw [e6, List.map_set]
      walk_at "rd"
      refine r_sortTx (sqL_of e6) fun ys r H7 hp7 _ nr s7 e7 => ?_
      refine r_kTupL (sqL_of e7) (tup ((but_via (b14.trans b5) b6 no).trans (Same.but s7)) (pl_same s7 (pl_butL b6 op.symm p5)) (its_tx fun z hz => ?_))
      rcases List.mem_or_eq_of_mem_set (hp7.subset hz) with hz | rfl
      · have := hl z hz; omega
      · rw [List.length_append, List.length_append, List.length_singleton]; omega
    · walk_at "rd"
      refine r_iteM (by omega) ?_
      walk_at "rd"
      refine r_iteM (by omega) ?_
      walk_at "rd"
      refine r_iteM (by omega) ?_
      walk_at "rd"
      refine r_iteM (by omega) ?_
      exact spoil _ _ _
  walk_at "rd"
  refine r_ite (fun c4 => ?_) (fun c4 => ?_)
  · walk_at "rd"
    refine r_iteN (fun hL0 => ?_) (fun hL0 => ?_)
    · have hLp : 0 < L.length := List.length_pos_iff.mpr hL0
      walk_at "rd"
      refine r_draw p4 (by omega) (by omega) fun g H5 g0 g1 b5 p5 => ?_
      have e5 := b5 _ _ op e4
      have l5 := sqL_of (K := K) e5
      walk_at "rd"
      refine r_slLL l5 fun a H6 na s6 e6 => ?_
      walk_at "rd"
      rw [Int.toNat_natCast]
      refine r_lcR (fun D i H' => H6 D = none ∧ Same H6 H' ∧ ∃ us, H' D = some (.lst us) ∧ Its' 30000 us ∧ us.length ≤ i) (fun _ => rfl) (fun D H' hD s e => ⟨hD, s, [], e, (fun x h => by cases h), Nat.le_refl _⟩) (fun D i H' hi pv => ?_) (fun D H' hD pv => ?_)
      · obtain ⟨hD, s, us, e, iu, lu⟩ := pv
        walk_at "rd"
        refine r_iteN (fun hg => ?_) (fun hg => ?_)
        · walk_at "rd"
          refine r_ixSN (by omega) (by omega) (by omega) fun c _ => ?_
          refine r_addSS (by rw [List.length_singleton]; omega) ?_
          refine r_acc e (by omega) fun H8 b8 e8 => ⟨hD, same_but s b8 hD, _, e8, iu.cat (its_one (.inl ⟨_, rfl, by rw [List.length_append, List.length_singleton]; omega⟩)), by rw [List.length_append, List.length_singleton]; omega⟩
        · exact ⟨hD, s, us, e, iu, by omega⟩
      · obtain ⟨_, s, us, e, iu, lu⟩ := pv
        have q1 := cutV_length (zs.map tx) none (some (k : Int))
        have q2 := cutV_length (zs.map tx) (some ((k : Int) + 1)) none
        rw [List.length_map] at q1 q2
        refine r_catL (s _ _ e6) e (by rw [sizeLine_eq]; omega) fun r H7 nr s7 e7 => ?_
        have l7 := sqL_same s7 (sqL_same s (sqL_same s6 l5))
        walk_at "rd"
        refine r_slLL l7 fun b H8 nb s8 e8 => ?_
        refine r_catL (s8 _ _ e7) e8 (by rw [List.length_append, sizeLine_eq]; omega) fun r2 H9 nr2 s9 e9 => ?_
        have sa := (((s6.trans s).trans s7).trans s8).trans s9
        exact r_kTupL (sqL_of e9) (tup ((b14.trans b5).trans (Same.but sa)) (pl_same sa p5) ((ic.cat iu).cat ic))
    · walk_at "rd"
      refine r_iteM (by omega) ?_
      walk_at "rd"
      refine r_iteM (by omega) ?_
      walk_at "rd"
      refine r_iteM (by omega) ?_
      exact spoil _ _ _
  walk_at "rd"
  refine r_ite (fun c5 => ?_) (fun c5 => ?_)
  · walk_at "rd"
    refine r_slSN (by omega) fun x1 m1 => ?_
    walk_at "rd"
    refine r_setL e4 (ixN_n (by rw [List.length_map]; exact hk)) fun H6 b6 e6 => ?_
    have e6 : H6 o = some (.lst ((zs.set k x1).map tx)) := by rw [e6, List.map_set]
    walk_at "rd"
    refine r_sortTx (sqL_of e6) fun ys r H7 hp7 _ nr s7 e7 => ?_
    refine r_kTupL (sqL_of e7) (tup ((but_via b14 b6 no).trans (Same.but s7)) (pl_same s7 (pl_butL b6 op.symm p4)) (its_tx fun z hz => ?_))
    rcases List.mem_or_eq_of_mem_set (hp7.subset hz) with hz | rfl
    · have := hl z hz; omega
    · omega
  walk_at "rd"
  refine r_ite (fun c6 => ?_) (fun c6 => ?_)
  · obtain ⟨u1, hu1, lu1⟩ : ∃ u, Txt.upper (S L) = S u ∧ u.length ≤ 18 := ⟨_, (S_tl _).symm, by rw [Array.length_toList]; have h : (Txt.upper (S L)).length ≤ 3 * (S L).length := len_upper (S L); have h2 := S_len L; exact Nat.le_trans h (by omega)⟩
    obtain ⟨u2, hu2, lu2⟩ : ∃ u, Txt.lower (S L) = S u ∧ u.length ≤ 18 := ⟨_, (S_tl _).symm, by rw [Array.length_toList]; have h : (Txt.lower (S L)).length ≤ 3 * (S L).length := len_lower (S L); have h2 := S_len L; exact Nat.le_trans h (by omega)⟩
    obtain ⟨u3, hu3, lu3⟩ : ∃ u, ("AZaz09 .~" : Str) = S u ∧ u.length = 9 := ⟨_, (S_tl _).symm, by decide⟩
    walk_at "rd"
    refine ⟨S L, rfl, rfl, by rw [S_len]; omega, ?_⟩
    rw [hu1]
    walk_at "rd"
    refine ⟨S L, rfl, rfl, by rw [S_len]; omega, ?_⟩
    rw [hu2]
    walk_at "rd"
    rw [hu3]
    refine r_addSS (by rw [List.length_append]; omega) ?_
    have lu : (u1 ++ u2 ++ u3).length = u1.length + u2.length + 9 := by rw [List.length_append, List.length_append, lu3]
    generalize u1 ++ u2 ++ u3 = uu at lu ⊢
    walk_at "rd"
    refine r_slSN (by omega) fun x1 m1 => ?_
    walk_at "rd"
    refine r_draw p4 (by omega) (by omega) fun u H5 g0 g1 b5 p5 => ?_
    refine r_ixSN (by omega) g0 g1 fun c _ => ?_
    walk_at "rd"
    refine r_slSN (by omega) fun x2 m2 => ?_
    refine r_addSS (by rw [List.length_append, List.length_singleton]; omega) ?_
    have e5 := b5 _ _ op e4
    walk_at "rd"
    refine r_setL e5 (ixN_n (by rw [List.length_map]; exact hk)) fun H6 b6 e6 => ?_
    walk_at "rd"
    exact tup (but_via (b14.trans b5) b6 no) (pl_butL b6 op.symm p5) (hi0.set (.inl ⟨_, rfl, by rw [List.length_append, List.length_append, List.length_singleton]; omega⟩))
  walk_at "rd"
  refine r_ite (fun c7 => ?_) (fun c7 => ?_)
  · walk_at "rd"
    refine r_slLL l4 fun a H5 na s5 e5 => ?_
    have l5 := sqL_same s5 l4
    walk_at "rd"
    intro t1 H6 n6 s6 e6
    walk_at "rd"
    intro t2 H7 n7 s7 e7
    walk_at "rd"
    refine r_pow ⟨by decide, by decide, by decide⟩ ?_
    walk_at "rd"
    intro t3 H8 n8 s8 e8
    walk_at "rd"
    have s48 := ((s5.trans s6).trans s7).trans s8
    have p8 := pl_same s48 p4
    refine r_draw p8 (by omega) (by omega) fun u H9 g0 g1 b9 p9 => ?_
    have q1' : SqT K H9 t1 [tx word] := sqT_pl b9 p8 (sqT_same s8 (sqT_same s7 (sqT_of e6)))
    have q2' : SqT K H9 t2 [] := sqT_pl b9 p8 (sqT_same s8 (sqT_of e7))
    obtain ⟨x, ex, px⟩ : ∃ x, atI [V.int 0, V.int (-1), V.ref t1, V.ref t2, V.int (10 ^ Int.toNat 30)] u = some x ∧ PI K H9 x := by
      rcases (show u = 0 ∨ u = 1 ∨ u = 2 ∨ u = 3 ∨ u = 4 by omega) with rfl | rfl | rfl | rfl | rfl
      · exact ⟨_, rfl, pi_int⟩
      · exact ⟨_, rfl, pi_int⟩
      · exact ⟨_, rfl, .tup [.str (S word)], .tup q1' (.cons (.str _) .nil), fun s e => by cases e⟩
      · exact ⟨_, rfl, .tup [], .tup q2' .nil, fun s e => by cases e⟩
      · exact ⟨_, rfl, pi_int⟩
    refine r_ixL (sqL_of (b9 _ _ (ne_pl n8 (pl_same ((s5.trans s6).trans s7) p4)) e8)) ex ?_
    walk_at "rd"
    intro y H10 ny s10 e10
    have e10a : H10 a = some (.lst (cutV (zs.map tx) none (some (k : Int)))) := s10 _ _ (b9 _ _ (ne_pl na p4) (s8 _ _ (s7 _ _ (s6 _ _ e5))))
    have l10 : SqL K H10 o (zs.map tx) := sqL_of (s10 _ _ (b9 _ _ op (s48 _ _ e4)))
    refine r_catL e10a e10 (by
      rw [List.length_singleton, sizeLine_eq]
      have h1 := cutV_length (zs.map tx) none (some (k : Int))
      rw [List.length_map] at h1
      omega) fun r H11 nr s11 e11 => ?_
    have l11 := sqL_same s11 l10
    walk_at "rd"
    refine r_slLL l11 fun b H12 nb s12 e12 => ?_
    refine r_catL (s12 _ _ e11) e12 (by
      rw [List.length_append, List.length_singleton, sizeLine_eq]
      have h1 := cutV_length (zs.map tx) none (some (k : Int))
      have h2 := cutV_length (zs.map tx) (some ((k : Int) + 1)) none
      rw [List.length_map] at h1 h2
      omega) fun r2 H13 nr2 s13 e13 => ?_
    refine r_kTupL (sqL_of e13) fun q' H14 nq s14 e14 => ?_
    have sa := ((s10.trans s11).trans s12).trans (s13.trans s14)
    obtain ⟨d, h1, h2⟩ := rp_tup (K := K) (sqT_ofD e14) fun z hz => by
      rcases List.mem_append.mp hz with hz | hz
      · rcases List.mem_append.mp hz with hz | hz
        · exact pi_it (ic z hz) (by omega)
        · rw [List.mem_singleton] at hz; subst hz
          exact px.same sa
      · exact pi_it (ic z hz) (by omega)
    exact q _ H14 d (((b14.trans (Same.but s48)).trans b9).trans (Same.but sa)) (pl_same sa p9) h1 h2
  exact spoil _ _ _
end
end K45
end Kb
set_option Elab.async false
set_option linter.all false
set_option maxRecDepth 100000
set_option maxHeartbeats 4000000
namespace Kb
namespace K45
open PySem PySem.Spec PyProof.Rows L2 SX
local macro_rules | `(tactic| walk_at "tk") => `(tactic| first
  | assumption
  | ((with_reducible refine' sqT_of ?k); (case k => assumption))
  | ((with_reducible refine' sqT_ofD ?k); (case k => assumption))
  | ((with_reducible refine' noD_of ?k); (case k => assumption))
  | ((with_reducible refine' noD_same ?s ?k); (case s => assumption); (case k => walk_at "tk"))
  | ((with_reducible refine' sqL_of ?k); (case k => assumption))
  | ((with_reducible refine' sqT_same ?s ?k); (case s => assumption); (case k => walk_at "tk"))
  | ((with_reducible refine' sqL_same ?s ?k); (case s => assumption); (case k => walk_at "tk"))
  | ((with_reducible refine' sqT_but ?s ?t ?k); (case s => assumption); (case t => walk_at "tk"); (case k => walk_at "tk"))
  | ((with_reducible refine' sqL_but ?s ?t ?k); (case s => assumption); (case t => walk_at "ne"); (case k => walk_at "tk"))
  | ((with_reducible refine' sqL_of ?k); (case k => walk_at "tk"))
  | ((with_reducible refine' sqT_of ?k); (case k => walk_at "tk"))
  | ((with_reducible refine' at_same ?s ?k); (case s => assumption); (case k => walk_at "tk"))
  | ((with_reducible refine' at_but ?s ?t ?k); (case s => assumption); (case t => walk_at "ne"); (case k => walk_at "tk")))
local macro_rules | `(tactic| walk_at "ne") => `(tactic| first
  | assumption
  | (refine Ne.symm ?_; assumption)
  | exact ne_of_none (by assumption) (by assumption)
  | exact (ne_of_none (by assumption) (by assumption)).symm)
local macro_rules | `(tactic| walk_at "side") => `(tactic| first
  | assumption
  | omega
  | (simp only [sizeLine_eq, List.length_cons, List.length_nil, List.length_map]; omega)
  | (show _ ≤ sizeLine; decide))
local macro_rules | `(tactic| walk_at "kit") => `(tactic| first
  | (show kitB _ _ = some true; decide +kernel)
  | (show kitB _ _ = some false; decide +kernel))
local macro_rules | `(tactic| walk_at "rng") => `(tactic| first
  | (refine ⟨by omega, by omega, by omega, by omega⟩)
  | (refine ⟨by omega, by omega⟩)
  | ((simp only [List.length_map]); (refine ⟨by omega, by omega, by omega, by omega⟩))
  | ((simp only [List.length_map]); (refine ⟨by omega, by omega⟩)))
local macro_rules | `(tactic| walk_at "rd1") => `(tactic| first
  | with_reducible refine r_seq ?_
  | ((with_reducible refine' r_var ?k0 ?_); (case k0 => rfl))
  | with_reducible refine r_op ?_
  | with_reducible refine r_c ?_
  | with_reducible refine r_asg ?_
  | with_reducible refine r_name ?_
  | with_reducible refine r_cons ?_
  | with_reducible refine r_nil ?_
  | with_reducible refine r_CB ?_
  | with_reducible refine r_if ?_
  | with_reducible refine r_test ?_
  | with_reducible refine r_k ?_
  | with_reducible refine r_T ?_
  | with_reducible refine r_F ?_
  | with_reducible refine r_nT ?_
  | with_reducible refine r_nF ?_
  | with_reducible refine r_ret ?_
  | with_reducible refine r_drop ?_
  | with_reducible refine r_next ?_
  | with_reducible refine r_call ?_
  | with_reducible refine r_addI ?_
  | with_reducible refine r_subI ?_
  | with_reducible refine r_ltI ?_
  | with_reducible refine r_gtI ?_
  | with_reducible refine r_leI ?_
  | with_reducible refine r_geI ?_
  | with_reducible refine r_eqI ?_
  | with_reducible refine r_neI ?_
  | with_reducible refine r_int ?_
  | with_reducible refine r_abs ?_
  | with_reducible refine r_not ?_
  | with_reducible refine r_and ?_
  | with_reducible refine r_or ?_
  | with_reducible refine r_tru ?_
  | with_reducible refine r_truB ?_
  | with_reducible refine r_lst ?_
  | with_reducible refine r_tup ?_
  | with_reducible refine r_BM ?_
  | with_reducible refine r_BM0 ?_
  | with_reducible refine r_tyS ?_
  | with_reducible refine r_gsub ?_
  | with_reducible refine r_then ?_
  | with_reducible refine r_lstRg ?_
  | with_reducible refine r_tupRg ?_
  | with_reducible refine r_rg2 ?_
  | with_reducible refine r_rg1 ?_
  | with_reducible refine r_ii ?_
  | with_reducible refine r_i ?_
  | with_reducible refine r_ipI ?_
  | with_reducible refine r_un ?_
  | with_reducible refine r_neg ?_
  | with_reducible refine r_isN ?_
  | with_reducible refine r_notN ?_
  | with_reducible refine r_notV ?_
  | with_reducible refine r_pnot ?_
  | with_reducible refine r_pif ?_
  | with_reducible refine r_andV ?_
  | with_reducible refine r_orV ?_
  | with_reducible refine r_ifE ?_
  | with_reducible refine r_chain ?_
  | with_reducible refine r_sl ?_
  | with_reducible refine r_noPart ?_
  | with_reducible refine r_part ?_
  | with_reducible refine r_brk ?_
  | with_reducible refine r_cont ?_
  | with_reducible refine r_retN ?_
  | with_reducible refine r_truI ?_
  | with_reducible refine r_B ?_
  | with_reducible refine r_for ?_
  | with_reducible refine r_rng1 ?_
  | with_reducible refine r_rng2 ?_
  | with_reducible refine r_rng3 ?_
  | with_reducible refine r_body ?_
  | with_reducible refine r_lc ?_
  | with_reducible refine r_yes ?_
  | ((with_reducible refine' r_mod ?k0 ?_); (case k0 => walk_at "side"))
  | ((with_reducible refine' r_mulI ?k0 ?_); (case k0 => first | exact Or.inl ⟨by omega, by omega⟩ | exact Or.inr ⟨by omega, by omega⟩))
  | ((with_reducible refine' r_lenL ?k0 ?_); (case k0 => walk_at "tk"))
  | ((with_reducible refine' r_lenT ?k0 ?_); (case k0 => walk_at "tk"))
  | ((with_reducible refine' r_truL ?k0 ?_); (case k0 => walk_at "tk"))
  | ((with_reducible refine' r_truT ?k0 ?_); (case k0 => walk_at "tk"))
  | ((with_reducible refine' r_ixL ?k0 ?k1 ?_); (case k0 => walk_at "tk"); (case k1 => first | assumption | rfl))
  | ((with_reducible refine' r_ixT ?k0 ?k1 ?_); (case k0 => walk_at "tk"); (case k1 => first | assumption | rfl))
  | ((with_reducible refine' r_new ?k0 ?_); (case k0 => walk_at "side"))
  | ((with_reducible refine' r_tyL ?k0 ?_); (case k0 => walk_at "tk"))
  | ((with_reducible refine' r_append ?k0 ?k1 ?_); (case k0 => walk_at "tk"); (case k1 => walk_at "side"))
  | ((with_reducible refine' r_setL ?k0 ?k1 ?_); (case k0 => walk_at "tk"); (case k1 => first | assumption | rfl))
  | ((with_reducible refine' r_kTupL ?k0 ?_); (case k0 => walk_at "tk"))
  | ((with_reducible refine' r_kTupT ?k0 ?_); (case k0 => walk_at "tk"))
  | ((with_reducible refine' r_listL ?k0 ?_); (case k0 => walk_at "tk"))
  | ((with_reducible refine' r_listT ?k0 ?_); (case k0 => walk_at "tk"))
  | ((with_reducible refine' r_aug ?k0 ?_); (case k0 => rfl))
  | ((with_reducible refine' r_lenS ?k0 ?_); (case k0 => walk_at "side"))
  | ((with_reducible refine' r_pop ?k0 ?_); (case k0 => walk_at "tk"))
  | ((with_reducible refine' r_pr1 ?k0 ?_); (case k0 => walk_at "rng"))
  | ((with_reducible refine' r_pr2 ?k0 ?_); (case k0 => walk_at "rng"))
  | ((with_reducible refine' r_pr3d ?k0 ?_); (case k0 => walk_at "rng"))
  | ((with_reducible refine' r_isiI ?k0 ?_); (case k0 => walk_at "kit"))
  | ((with_reducible refine' r_isiB ?k0 ?_); (case k0 => walk_at "kit"))
  | ((with_reducible refine' r_isiS ?k0 ?_); (case k0 => walk_at "kit"))
  | ((with_reducible refine' r_isiN ?k0 ?_); (case k0 => walk_at "kit"))
  | ((with_reducible refine' r_isiT ?k0 ?k1 ?_); (case k0 => walk_at "tk"); (case k1 => walk_at "kit"))
  | ((with_reducible refine r_seqT ?_); (repeat (walk_at "rd1")); ((with_reducible refine' r_pseqT ?k0 ?_); (case k0 => walk_at "tk")))
  | ((with_reducible refine r_seqL ?_); (repeat (walk_at "rd1")); ((with_reducible refine' r_pseqL ?k0 ?_); (case k0 => walk_at "tk")))
  | ((with_reducible refine r_seqS ?_); (repeat (walk_at "rd1")); (with_reducible refine r_pseqS ?_)))
local macro_rules | `(tactic| walk_at "rd") => `(tactic| ((repeat (walk_at "rd1")); (try dsimp only)))
local macro_rules | `(tactic| walk_at "rd1") => `(tactic| first
  | with_reducible refine r_BMT ?_
  | with_reducible refine r_par ?_
  | with_reducible refine r_parV ?_
  | ((with_reducible refine' r_ptp ?k0 ?k1 ?_); (case k0 => walk_at "tk"); (case k1 => walk_at "tk"))
  | with_reducible refine r_eqS ?_
  | with_reducible refine r_neS ?_
  | with_reducible refine r_callW ?_
  | with_reducible refine r_try ?_
  | with_reducible refine r_enT ?_
  | ((with_reducible refine' r_pen ?k0 ?_); (case k0 => walk_at "tk")))
local macro_rules | `(tactic| walk_at "pl0") => `(tactic| first
  | assumption
  | exact pl_same (by assumption) (by assumption)
  | exact pl_same (by assumption) (pl_same (by assumption) (by assumption))
  | exact pl_same (by assumption) (pl_same (by assumption) (pl_same (by assumption) (by assumption))))
local macro_rules | `(tactic| walk_at "pl") => `(tactic| first
  | walk_at "pl0"
  | ((with_reducible refine' pl_butL ?s ?n ?k); (case s => assumption); (case n => walk_at "ne"); (case k => walk_at "pl"))
  | ((with_reducible refine' pl_same ?s ?k); (case s => assumption); (case k => walk_at "pl")))
local macro_rules | `(tactic| walk_at "ne") => `(tactic| first
  | exact ne_pl (by assumption) (by walk_at "pl0")
  | exact (ne_pl (by assumption) (by walk_at "pl0")).symm)
local macro_rules | `(tactic| walk_at "fr") => `(tactic| first
  | assumption
  | ((with_reducible refine' free_but ?b ?n ?h); (case h => assumption); (case n => walk_at "ne"); (case b => walk_at "but"))
  | ((with_reducible refine' Same.free ?b ?h); (case h => assumption); (case b => walk_at "same")))
local macro_rules | `(tactic| walk_at "but") => `(tactic| first
  | assumption
  | exact But.refl
  | ((with_reducible refine' But.trans ?a ?b); (case b => assumption); (case a => walk_at "but"))
  | ((with_reducible refine' But.trans ?a (Same.but ?b)); (case b => assumption); (case a => walk_at "but"))
  | ((with_reducible refine' but_via ?a ?b ?c); (case b => assumption); (case c => walk_at "fr"); (case a => walk_at "but")))
local macro_rules | `(tactic| walk_at "same") => `(tactic| first
  | assumption
  | exact Same.refl _
  | ((with_reducible refine' Same.trans ?a ?b); (case b => assumption); (case a => walk_at "same"))
  | ((with_reducible refine' same_but ?a ?b ?c); (case b => assumption); (case c => walk_at "fr"); (case a => walk_at "same")))
local macro_rules | `(tactic| walk_at "tk") => `(tactic| first
  | ((with_reducible refine' sqT_pl ?s ?t ?k); (case s => assumption); (case t => walk_at "pl0"); (case k => walk_at "tk"))
  | ((with_reducible refine' rp_same ?s ?k); (case s => assumption); (case k => walk_at "tk"))
  | ((with_reducible refine' rp_pl ?s ?t ?k); (case s => assumption); (case t => walk_at "pl0"); (case k => walk_at "tk")))
local macro_rules | `(tactic| walk_at "it") => `(tactic| first
  | assumption
  | ((with_reducible refine' sqI_1 ?k); (case k => assumption))
  | ((with_reducible refine' sqI_0 ?k); (case k => assumption))
  | ((with_reducible refine' sqI_of ?k); (case k => assumption))
  | ((with_reducible refine' sqI_D ?k); (case k => assumption))
  | ((with_reducible refine' sqT_same ?s ?k); (case s => assumption); (case k => walk_at "it"))
  | ((with_reducible refine' sqT_but ?s ?t ?k); (case s => assumption); (case t => assumption); (case k => walk_at "it"))
  | ((with_reducible refine' sqT_pl ?s ?t ?k); (case s => assumption); (case t => walk_at "pl0"); (case k => walk_at "it")))
local macro_rules | `(tactic| walk_at "sz") => `(tactic| first | omega | ((try simp only [List.length_cons, List.length_nil] at *); omega))
local macro_rules | `(tactic| walk_at "au1") => `(tactic| first
  | walk_at "rd1"
  | ((with_reducible refine' r_draw ?k0 ?k1 ?k2 ?_); (case k0 => walk_at "pl"); (case k1 => omega); (case k2 => omega); (intro _ _ _ _ _ _))
  | ((with_reducible refine' r_slN ?k0 ?_); (case k0 => walk_at "it"); (intro _ _ _ _ _ _))
  | ((with_reducible refine' r_catN ?k0 ?k1 ?k2 ?_); (case k0 => walk_at "it"); (case k1 => walk_at "it"); (case k2 => walk_at "sz"); (intro _ _ _ _ _ _))
  | ((with_reducible refine' r_pow ?k0 ?_); (case k0 => exact ⟨by decide, by decide, by decide⟩))
  | ((with_reducible refine' r_ixI ?k0 ?k1 ?k2 ?_); (case k0 => walk_at "it"); (case k1 => omega); (case k2 => omega); (intro _ _))
  | ((with_reducible refine' r_setI ?k0 ?k1 ?k2 ?_); (case k0 => walk_at "tk"); (case k1 => omega); (case k2 => omega); (intro _ _ _ _ _))
  | ((with_reducible refine' r_kTupI ?k0 ?_); (case k0 => walk_at "tk"); (intro _ _ _ _ _))
  | ((with_reducible refine' r_listI ?k0 ?_); (case k0 => walk_at "it"); (intro _ _ _ _ _))
  | (with_reducible refine r_revU ?_)
  | ((with_reducible refine' r_prevN ?k0 ?_); (case k0 => walk_at "it"); (intro _ _ _ _ _ _))
  | (intro _ _ _ _ _))
local macro_rules | `(tactic| walk_at "go") => `(tactic| ((repeat (walk_at "au1")); (first
  | ((with_reducible refine r_ite (fun _ => ?_) (fun _ => ?_)) <;> (walk_at "go"))
  | ((with_reducible refine r_iteN (fun _ => ?_) (fun _ => ?_)) <;> (walk_at "go"))
  | dsimp only
  | skip)))
def sp_law (K : PySem.W.Frag) : Sp := fun vs H Q _ => ∃ (a : Addr) (ns : List Int), vs = [.ref a] ∧ SqL K H a (ns.map V.int) ∧ ns.length ≤ 63 ∧ ∀ H', Q (.bl true) H'
abbrev N_law : List Str := ["script", "pool", "signs", "letters", "words", "k", "told"]
def t_law (K : PySem.W.Frag) : TS :=
  tSeq (tAsg ((tCall (sp_law_pool K) [] E0 (tCons (tVar 0) (tCons ((tC (.int 0))) tNil)))) (gName 1))
  (tSeq (tAsg ((tC (.str "abcdefghijklmnopqrstuvwxyz"))) (gName 2))
  (tSeq (tIfS ((tTest (tOp (rEqU K) ((tCall (sp_law_draw K) [] E0 (tCons (tVar 1) (tCons ((tC (.int 2))) tNil)))) ((tC (.int 0)))))) ((tAsg ((tC (.str "ABCDEFGHIJKLMNOPQRSTUVWXYZ"))) (gName 2))) (tNext))
  (tSeq (tAsg ((tBM K "str" (rJoin K) ((tC (.str ""))) (tCons ((tCB (rSortTx K) (tCons ((tCB rListTx (tCons ((tCall (sp_law_some K) [] E0 (tCons (tVar 1) (tCons ((tOp (rIx K) ((tLst (tCons ((tC (.int 2))) (tCons ((tC (.int 2))) (tCons ((tC (.int 3))) (tCons ((tC (.int 1))) (tCons ((tC (.int 4))) (tCons ((tC (.int 5))) (tCons ((tC (.int 6))) (tCons ((tC (.int 0))) tNil)))))))))) ((tCall (sp_law_draw K) [] E0 (tCons (tVar 1) (tCons ((tC (.int 8))) tNil)))))) (tCons (tVar 2) tNil))))) tNil))) tNil))) tNil))) (gName 3))
  (tSeq (tAsg ((tCall (sp_law_list K) [] E0 (tCons (tVar 1) (tCons (tVar 3) tNil)))) (gName 4))
  (tSeq (tIfS ((tNot ((tTru K ((tCall (sp_law_right K) [] E0 (tCons ((tThen (tVar 4) (kTupD K))) (tCons (tVar 3) tNil)))))))) ((tRet ((tC (.bl false))))) (tNext))
  (tSeq (tAsg ((tCall (sp_law_pool K) [] E0 (tCons (tVar 0) (tCons ((tC (.int 1))) tNil)))) (gName 1))
  (tSeq (tFor (iRng1 (tCons ((tOp (rIx K) ((tLst (tCons ((tC (.int 1))) (tCons ((tC (.int 4))) tNil)))) ((tCB rIntB (tCons ((tOp (rLeU K) ((tCB (rLenU K) (tCons (tVar 4) tNil))) ((tC (.int 400))))) tNil))))) tNil)) (gName 5) ((tIfS ((tNot ((tTru K ((tCall (sp_law_right K) [] E0 (tCons ((tCall (sp_law_bend K) [] E0 (tCons (tVar 1) (tCons (tVar 4) (tCons (tVar 3) tNil))))) (tCons (tVar 3) tNil)))))))) ((tRet ((tC (.bl false))))) (tNext))))
  (tSeq (tFor (iSeqU K ((tLst (tCons ((tTup (tCons ((tC (.str ""))) tNil))) (tCons ((tTup tNil)) (tCons ((tC (.str ""))) (tCons (tVar 3) (tCons ((tC (.int 0))) (tCons ((tOp (rIx K) (tVar 4) ((tC (.int 0))))) (tCons ((tTup (tCons ((tTup tNil)) tNil))) (tCons ((tTup (tCons ((tTup (tCons ((tC (.str ""))) tNil))) tNil))) (tCons ((tTup (tCons ((tC (.str ""))) (tCons ((tC (.str ""))) tNil)))) (tCons ((tThen (tVar 3) kTupTx)) (tCons ((tOp (rAddU K) ((tTup (tCons ((tC (.str ""))) tNil))) ((tThen (tVar 4) (kTupD K))))) tNil)))))))))))))) (gName 6) ((tIfS ((tNot ((tTru K ((tCall (sp_law_right K) [] E0 (tCons (tVar 6) (tCons (tVar 3) tNil)))))))) ((tRet ((tC (.bl false))))) (tNext))))
  ((tRet ((tC (.bl true)))))))))))))
section
variable {K : PySem.W.Frag} {ec : Str → Addr} {ns : List Str} {vs : List V} {H : Hp} {Q : VK} {E : XK}
theorem len_law (h : sp_law K vs H Q E) : vs.length = 1 := by obtain ⟨a, ns, rfl, _⟩ := h; rfl
theorem singles : ∀ {ys : List (List Nat)}, (∀ y ∈ ys, ∃ c, y = [c]) → ys = ys.flatten.map fun c => [c]
  | [], _ => rfl
  | y :: ys, h => by
    obtain ⟨c, rfl⟩ := h y (by simp)
    have := singles (ys := ys) fun z hz => h z (by simp [hz])
    rw [List.flatten_cons, List.singleton_append, List.map_cons, ← this]
theorem asc_of {ls : List Nat} {ys : List (List Nat)} (nd : ls.Nodup) (hp : ys.Perm (ls.map fun c => [c])) (hw : ys.Pairwise fun x y => ¬ y < x) : Asc ys.flatten ∧ ys.flatten.length = ls.length := by
  have e := singles (ys := ys) fun y hy => by
    obtain ⟨c, _, rfl⟩ := List.mem_map.mp (hp.subset hy)
    exact ⟨c, rfl⟩
  have n1 : (ls.map fun c => [c]).Nodup := by
    unfold List.Nodup
    rw [List.pairwise_map]
    exact nd.imp fun h z => h (by cases z; rfl)
  have n2 : ys.Nodup := hp.nodup_iff.mpr n1
  generalize ys.flatten = L at e
  subst e
  unfold List.Nodup at n2
  rw [List.pairwise_map] at n2 hw
  refine ⟨?_, by have := hp.length_eq; rw [List.length_map, List.length_map] at this; exact this⟩
  refine (n2.and hw).imp fun {a b} h => ?_
  obtain ⟨h1, h2⟩ := h
  by_cases z : a < b
  · exact z
  · by_cases z2 : b < a
    · exact absurd (List.cons_lt_cons_iff.mpr (.inl z2)) h2
    · exact absurd (by rw [show a = b by omega]) h1
def PL (K : PySem.W.Frag) (H : Hp) (x : V) : Prop := ∃ d, Rp K H x d ∧ Sml d
theorem PL.same {H' : Hp} {x : V} (h : PL K H x) (s : Same H H') : PL K H' x := by
  obtain ⟨d, h1, h2⟩ := h
  exact ⟨d, rp_same s h1, h2⟩
theorem pl_tup {a : Addr} {xs : List V} (h : SqT K H a xs) (hx : ∀ x ∈ xs, PI K H x) : PL K H (.ref a) := rp_tup h hx
theorem pi_ref {a : Addr} {xs : List V} (h : SqT K H a xs) (hx : ∀ x ∈ xs, PI K H x) : PI K H (.ref a) := by
  obtain ⟨ds, h1, h2⟩ := pi_all hx
  exact ⟨.tup ds, .tup h h1, fun s e => by cases e⟩
theorem pl_str {s : Str} : PL K H (.str s) := ⟨.str s, .str s, trivial⟩
theorem pl_int {i : Int} : PL K H (.int i) := ⟨.int i, .int i, trivial⟩
def smL : List Nat := [97,98,99,100,101,102,103,104,105,106,107,108,109,110,111,112,113,114,115,116,117,118,119,120,121,122]
def lgL : List Nat := [65,66,67,68,69,70,71,72,73,74,75,76,77,78,79,80,81,82,83,84,85,86,87,88,89,90]
theorem pure_law (h : sp_law K vs H Q E) : t_law K (En Q) (start N_law vs) H := by
  obtain ⟨a, ns, rfl, hA, hns, q⟩ := h
  unfold t_law
  walk_at "rd"
  refine ⟨a, ns, 0, rfl, hA, hns, by omega, fun p0 H1 n1 s1 p1 => ?_⟩
  have hA1 := sqL_same s1 hA
  walk_at "rd"
  refine r_draw p1 (by omega) (by omega) fun v H2 v0 v1 b2 p2 => ?_
  have b02 := (Same.but (l := p0) s1).trans b2
  have key : ∀ (al : List Nat), al.Nodup → al.length = 26 → (tSeq (tAsg ((tBM K "str" (rJoin K) ((tC (.str ""))) (tCons ((tCB (rSortTx K) (tCons ((tCB rListTx (tCons ((tCall (sp_law_some K) [] E0 (tCons (tVar 1) (tCons ((tOp (rIx K) ((tLst (tCons ((tC (.int 2))) (tCons ((tC (.int 2))) (tCons ((tC (.int 3))) (tCons ((tC (.int 1))) (tCons ((tC (.int 4))) (tCons ((tC (.int 5))) (tCons ((tC (.int 6))) (tCons ((tC (.int 0))) tNil)))))))))) ((tCall (sp_law_draw K) [] E0 (tCons (tVar 1) (tCons ((tC (.int 8))) tNil)))))) (tCons (tVar 2) tNil))))) tNil))) tNil))) tNil))) (gName 3))
  (tSeq (tAsg ((tCall (sp_law_list K) [] E0 (tCons (tVar 1) (tCons (tVar 3) tNil)))) (gName 4))
  (tSeq (tIfS ((tNot ((tTru K ((tCall (sp_law_right K) [] E0 (tCons ((tThen (tVar 4) (kTupD K))) (tCons (tVar 3) tNil)))))))) ((tRet ((tC (.bl false))))) (tNext))
  (tSeq (tAsg ((tCall (sp_law_pool K) [] E0 (tCons (tVar 0) (tCons ((tC (.int 1))) tNil)))) (gName 1))
  (tSeq (tFor (iRng1 (tCons ((tOp (rIx K) ((tLst (tCons ((tC (.int 1))) (tCons ((tC (.int 4))) tNil)))) ((tCB rIntB (tCons ((tOp (rLeU K) ((tCB (rLenU K) (tCons (tVar 4) tNil))) ((tC (.int 400))))) tNil))))) tNil)) (gName 5) ((tIfS ((tNot ((tTru K ((tCall (sp_law_right K) [] E0 (tCons ((tCall (sp_law_bend K) [] E0 (tCons (tVar 1) (tCons (tVar 4) (tCons (tVar 3) tNil))))) (tCons (tVar 3) tNil)))))))) ((tRet ((tC (.bl false))))) (tNext))))
  (tSeq (tFor (iSeqU K ((tLst (tCons ((tTup (tCons ((tC (.str ""))) tNil))) (tCons ((tTup tNil)) (tCons ((tC (.str ""))) (tCons (tVar 3) (tCons ((tC (.int 0))) (tCons ((tOp (rIx K) (tVar 4) ((tC (.int 0))))) (tCons ((tTup (tCons ((tTup tNil)) tNil))) (tCons ((tTup (tCons ((tTup (tCons ((tC (.str ""))) tNil))) tNil))) (tCons ((tTup (tCons ((tC (.str ""))) (tCons ((tC (.str ""))) tNil)))) (tCons ((tThen (tVar 3) kTupTx)) (tCons ((tOp (rAddU K) ((tTup (tCons ((tC (.str ""))) tNil))) ((tThen (tVar 4) (kTupD K))))) tNil)))))))))))))) (gName 6) ((tIfS ((tNot ((tTru K ((tCall (sp_law_right K) [] E0 (tCons (tVar 6) (tCons (tVar 3) tNil)))))))) ((tRet ((tC (.bl false))))) (tNext))))
  ((tRet ((tC (.bl true)))))))))))
      (En Q) [some (.ref a), some (.ref p0), some (.str (S al)), none, none, none, none] H2 := by
    intro al nd hal
    walk_at "rd"
    intro l1 H3 nl1 s3 e3
    walk_at "rd"
    have p3 := pl_same s3 p2
    refine r_draw p3 (by omega) (by omega) fun u H4 u0 u1 b4 p4 => ?_
    refine r_ixP (L := [2, 2, 3, 1, 4, 5, 6, 0]) (sqL_of (b4 _ _ (ne_pl nl1 p2) e3)) u0 u1 fun m hm => ?_
    have hm : 0 ≤ m ∧ m ≤ 6 := by
      have : ∀ n ∈ ([2, 2, 3, 1, 4, 5, 6, 0] : List Int), 0 ≤ n ∧ n ≤ 6 := by decide
      exact this m hm
    obtain ⟨m, rfl⟩ : ∃ k : Nat, m = (k : Int) := ⟨m.toNat, by omega⟩
    walk_at "rd"
    refine ⟨p0, m, al, rfl, p4, nd, by omega, by omega, fun ls H5 b5 p5 nd2 hls => ?_⟩
    walk_at "rd"
    refine r_listTx (by omega) fun l2 H6 nl2 s6 e6 => ?_
    have e6 : H6 l2 = some (.lst ((ls.map fun c => [c]).map tx)) := by rw [e6, List.map_map]; rfl
    walk_at "rd"
    refine r_sortTx (sqL_of e6) fun ys l3 H7 hp7 hw7 nl3 s7 e7 => ?_
    have hA0 := hA
    obtain ⟨hA, hLl⟩ := asc_of nd2 hp7 hw7
    walk_at "rd"
    refine r_join (ys := ys) (sqL_of e7) (by omega) ?_
    have hL : ys.flatten.length ≤ 6 := by omega
    generalize ys.flatten = L at hA hL ⊢
    have s57 := s6.trans s7
    have p7 := pl_same s57 p5
    have b07 : But p0 H H7 := (((b02.trans (Same.but s3)).trans b4).trans b5).trans (Same.but s57)
    clear e7 e6 hp7 hw7 e3
    walk_at "rd"
    refine ⟨p0, L, rfl, p7, hL, fun w H8 zs nw b8 p8 e8 hn hz hl => ?_⟩
    have hA8 : SqL K H8 a (ns.map V.int) := sqL_via n1 (b07.trans b8) hA0
    walk_at "rd"
    intro t H9 nt s9 e9
    walk_at "rd"
    have hi0 : Its' 9000 (zs.map tx) := its_tx hl
    obtain ⟨d, h1, h2⟩ := pl_tup (K := K) (sqT_ofD e9) fun x hx => pi_it (hi0 x hx) (by omega)
    refine ⟨_, d, L, rfl, h1, h2, by omega, hA, fun H10 s10 => ?_⟩
    walk_at "rd"
    have s810 := s9.trans s10
    refine ⟨a, ns, 1, rfl, sqL_same s810 hA8, hns, by omega, fun p' H11 np s11 p11 => ?_⟩
    have e11 := (s810.trans s11) _ _ e8
    have wp : w ≠ p' := ne_of_none (s810 _ _ e8) np
    walk_at "rd"
    intro l5 H12 n12 s12 e12
    have p12 := pl_same s12 p11
    have e12w := s12 _ _ e11
    have lw := sqL_of (K := K) e12w
    walk_at "rd"
    refine r_intB ?_
    refine r_ixP (L := [1, 4]) (sqL_of e12) (by split <;> omega) (by split <;> simp) fun n hn2 => ?_
    have hn2 : 0 ≤ n ∧ n ≤ 4 := by
      have : ∀ n ∈ ([1, 4] : List Int), 0 ≤ n ∧ n ≤ 4 := by decide
      exact this n hn2
    walk_at "rd"
    refine r_forRange0 (fun i σ' H' => (∃ z5, σ' = [some (.ref a), some (.ref p'), some (.str (S al)), some (.str (S L)), some (.ref w), z5, none]) ∧ Pl H' p' ∧ H' w = some (.lst (zs.map tx))) ⟨⟨_, rfl⟩, p12, e12w⟩ (fun i σ' H' hi hW => ?_) (fun σ' H' hW => ?_)
    · obtain ⟨⟨z5, rfl⟩, p1, e1⟩ := hW
      walk_at "rd"
      refine ⟨p', w, zs, L, rfl, p1, e1, wp, hn, hz, hl, hL, fun v H2 d b2 p2 h1 h2 => ?_⟩
      walk_at "rd"
      refine ⟨v, d, L, rfl, h1, h2, by omega, hA, fun H3 s3 => ?_⟩
      walk_at "rd"
      exact ⟨⟨_, rfl⟩, pl_same s3 p2, s3 _ _ (b2 _ _ wp e1)⟩
    · obtain ⟨⟨z5, rfl⟩, p1, e1⟩ := hW
      have lw := sqL_of (K := K) e1
      have e0 : atI (zs.map tx) 0 = some (tx zs[0]) := atI_nat (j := 0) (by rw [List.getElem?_map, List.getElem?_eq_getElem hn]; rfl)
      have l0 := hl _ (List.getElem_mem hn)
      walk_at "rd"
      refine r_seqL ?_
      walk_at "rd"
      intro t1 G1 m1 r1 f1
      walk_at "rd"
      intro t2 G2 m2 r2 f2
      walk_at "rd"
      intro t3 G3 m3 r3 f3
      walk_at "rd"
      intro t4 G4 m4 r4 f4
      walk_at "rd"
      intro t5 G5 m5 r5 f5
      walk_at "rd"
      intro t6 G6 m6 r6 f6
      walk_at "rd"
      intro t7 G7 m7 r7 f7
      walk_at "rd"
      refine r_tupTx (K := K) (by omega) fun t8 G8 m8 r8 f8 => ?_
      walk_at "rd"
      intro t9 G9 m9 r9 f9
      have r19 := ((((((r1.trans r2).trans r3).trans r4).trans r5).trans r6).trans r7).trans (r8.trans r9)
      have lw9 := sqL_same r19 lw
      walk_at "rd"
      intro t10 G10 m10 r10 f10
      refine r_catTT (sqT_same r10 (sqT_of f9)) (sqT_ofD f10) (by rw [List.length_singleton, List.length_map, sizeLine_eq]; omega) fun t11 G11 r11 f11 => ?_
      walk_at "rd"
      intro ll G12 m12 r12 f12
      have x12 := r12
      have x11 := r11.trans x12
      have x10 := r10.trans x11
      have x9 := r9.trans x10
      have x8 := r8.trans x9
      have x7 := r7.trans x8
      have x6 := r6.trans x7
      have x5 := r5.trans x6
      have x4 := r4.trans x5
      have x3 := r3.trans x4
      have x2 := r2.trans x3
      have one : PI K G12 (.str (Str.ofString "")) := ⟨.str _, .str _, fun s e => by cases e; decide⟩
      have y1 : SqT K G12 t1 [.str (Str.ofString "")] := sqT_same x2 (sqT_of f1)
      have y2 : SqT K G12 t2 [] := sqT_same x3 (sqT_of f2)
      have y3 : SqT K G12 t3 [] := sqT_same x4 (sqT_of f3)
      have y4 : SqT K G12 t4 [.ref t3] := sqT_same x5 (sqT_of f4)
      have y5 : SqT K G12 t5 [.str (Str.ofString "")] := sqT_same x6 (sqT_of f5)
      have y6 : SqT K G12 t6 [.ref t5] := sqT_same x7 (sqT_of f6)
      have y7 : SqT K G12 t7 [.str (Str.ofString ""), .str (Str.ofString "")] := sqT_same x8 (sqT_of f7)
      have y8 : SqT K G12 t8 (L.map fun c => V.str (S [c])) := sqT_same x9 f8
      have y11 : SqT K G12 t11 ([.str (Str.ofString "")] ++ zs.map tx) := sqT_same x12 f11
      have nil : ∀ x ∈ ([] : List V), PI K G12 x := fun x h => by cases h
      have sing : ∀ {v : V}, PI K G12 v → ∀ x ∈ [v], PI K G12 x := fun h x hx => by rw [List.mem_singleton] at hx; subst hx; exact h
      have all : ∀ x ∈ [V.ref t1, V.ref t2, V.str (Str.ofString ""), V.str (S L), V.int 0, tx zs[0], V.ref t4, V.ref t6, V.ref t7, V.ref t8, V.ref t11], PL K G12 x := fun x hx => by
        simp only [List.mem_cons, List.not_mem_nil, or_false] at hx
        rcases hx with rfl | rfl | rfl | rfl | rfl | rfl | rfl | rfl | rfl | rfl | rfl
        · exact pl_tup y1 (sing one)
        · exact pl_tup y2 nil
        · exact pl_str
        · exact pl_str
        · exact pl_int
        · exact pl_str
        · exact pl_tup y4 (sing (pi_ref y3 nil))
        · exact pl_tup y6 (sing (pi_ref y5 (sing one)))
        · refine pl_tup y7 fun x hx => ?_
          simp only [List.mem_cons, List.not_mem_nil, or_false] at hx
          rcases hx with rfl | rfl <;> exact one
        · refine pl_tup y8 fun x hx => ?_
          obtain ⟨c, _, rfl⟩ := List.mem_map.mp hx
          exact pi_tx (by simp)
        · refine pl_tup y11 fun x hx => ?_
          rcases List.mem_append.mp hx with hx | hx
          · exact sing one x hx
          · exact pi_it (hi0 x hx) (by omega)
      refine r_pseqL (sqL_of f12) ?_
      refine r_forLst (xs := [V.ref t1, V.ref t2, V.str (Str.ofString ""), V.str (S L), V.int 0, tx zs[0], V.ref t4, V.ref t6, V.ref t7, V.ref t8, V.ref t11]) (fun i σ' H5 => Same G12 H5 ∧ ∃ z6, σ' = [some (.ref a), some (.ref p'), some (.str (S al)), some (.str (S L)), some (.ref w), z5, z6]) ⟨Same.refl _, _, rfl⟩ (fun i σ' H5 _ h => sqL_same h.1 (sqL_of f12)) (fun i x σ' H5 hx hW => ?_) (fun σ' H5 hW => ?_)
      · obtain ⟨s5, z6, rfl⟩ := hW
        obtain ⟨d, h1, h2⟩ := (all x (List.mem_of_getElem? hx)).same s5
        walk_at "rd"
        refine ⟨x, d, L, rfl, h1, h2, by omega, hA, fun H6 s6 => ?_⟩
        walk_at "rd"
        exact ⟨s5.trans s6, _, rfl⟩
      · obtain ⟨s5, z6, rfl⟩ := hW
        walk_at "rd"
        exact q H5
  walk_at "rd"
  refine r_ite (fun c => ?_) (fun c => ?_)
  · refine r_asg (r_c (r_name ?_))
    exact key lgL (by decide) rfl
  · refine r_next ?_
    exact key smL (by decide) rfl
end
end K45
end Kb
set_option Elab.async false
set_option linter.all false
set_option maxRecDepth 100000
set_option maxHeartbeats 4000000
namespace Kb
namespace K45
open PySem PySem.Spec PyProof.Rows L2 SX
def top (i : Nat) : Stmt := PySem.Challenge.pw_ringingchamber_k45_complete_lists.main.body.getD i (.Pass ⟨0, 0, 0, 0⟩)
abbrev s_is_word : Stmt := top 3
abbrev s_is_prefix_free : Stmt := top 4
abbrev s_powers_of : Stmt := top 5
abbrev s_is_complete : Stmt := top 6
abbrev s_law_cell : Stmt := top 8
abbrev s_law_pool : Stmt := top 9
abbrev s_law_draw : Stmt := top 10
abbrev s_law_some : Stmt := top 11
abbrev s_law_bent : Stmt := top 12
abbrev s_law_spoil : Stmt := top 13
abbrev s_law_leaves : Stmt := top 14
abbrev s_law_split : Stmt := top 15
abbrev s_law_list : Stmt := top 16
abbrev s_law_bend : Stmt := top 17
abbrev s_law_right : Stmt := top 18
abbrev s_law : Stmt := top 19
structure Bn (mg : Str → Option Value) : Prop where
  n_abs : mg "abs" = none
  n_all : mg "all" = none
  n_bool : mg "bool" = none
  n_int : mg "int" = none
  n_isinstance : mg "isinstance" = none
  n_len : mg "len" = none
  n_list : mg "list" = none
  n_max : mg "max" = none
  n_range : mg "range" = none
  n_sorted : mg "sorted" = none
  n_str : mg "str" = none
  n_sum : mg "sum" = none
  n_tuple : mg "tuple" = none
  c_MOST_LETTERS : ∃ t, mg "MOST_LETTERS" = some (.int (60) t)
  c_MOST_WORDS : ∃ t, mg "MOST_WORDS" = some (.int (5000) t)
section
variable {P : Program} {w : World} {K : PySem.W.Frag} {mg : Str → Option Value} {base : Heap}
theorem sc_is_word : FnScope N_is_word ["told", "letters"] (defScope s_is_word) := ⟨rfl, rfl, rfl, by decide +kernel, rfl, by decide +kernel, by decide +kernel⟩
theorem ok_is_word (D : At K mg "is_word" s_is_word) (B : Bn mg) : Fn P w K mg base CX0 1 "is_word" ["told", "letters"] (sp_is_word K) := by
  obtain ⟨f, fd, F, hm⟩ := D
  refine ⟨f, fd, F.ok sc_is_word (fun vs H Q E h => len_is_word h) (fun cdv A outer s H vs Q E hr h => ⟨t_is_word K, ?_, pure_is_word h⟩), hm, F.kp, F.binds fun _ _ _ _ _ _ us hl => match us, hl with | [_, _], _ => rfl⟩
  have nd := sc_is_word.nd
  exact pss_cons (ps_if ((PW.pt (pw_or ((pt_not ((pt_truU ((pe_callB call_isi (by rfl) B.n_isinstance (by decide +kernel) (pa_cons (pv 0) (pa_cons ((pe_bltn (by rfl) B.n_str (by decide +kernel) rfl)) pa_nil)))) (by intro _; rfl))))) (pw_or1 ((pt_cmpR op_gtU ((pe_callB call_lenU (by rfl) B.n_len (by decide +kernel) (pa_cons (pv 0) pa_nil))) ((pe_glob rfl B.c_MOST_LETTERS.choose_spec ⟨_, rfl⟩)) (nomark _))))))) (pss_one (ps_ret (pe_bl))) (pss_nil))
      (pss_one (ps_ret ((pe_callB (cr_all rfl) (by rfl) B.n_all (by decide +kernel) (pa_cons ((pe_lc (own := [("letter", 2)]) (g := (gName 2)) (tt := tYes) rfl nd ((pi_seqU (pv 0))) (blkOk_by (N := (N_is_word : List Str)) (sc := defScope s_is_word) (by decide +kernel)) (fun _ _ _ _ _ => (pg_name (i := 2) nd rfl (Or.inl rfl))) (fun _ _ _ _ _ => pts_nil) (fun _ _ _ _ _ => (pe_cmpR op_inU (pv 2) (pv 1) (by with_unfolding_all rfl))))) pa_nil)))))
theorem sc_is_prefix_free : FnScope N_is_prefix_free ["words"] (defScope s_is_prefix_free) := ⟨rfl, rfl, rfl, by decide +kernel, rfl, by decide +kernel, by decide +kernel⟩
theorem ok_is_prefix_free (D : At K mg "is_prefix_free" s_is_prefix_free) (B : Bn mg) : Fn P w K mg base CX0 1 "is_prefix_free" ["words"] (sp_is_prefix_free K) := by
  obtain ⟨f, fd, F, hm⟩ := D
  refine ⟨f, fd, F.ok sc_is_prefix_free (fun vs H Q E h => len_is_prefix_free h) (fun cdv A outer s H vs Q E hr h => ⟨t_is_prefix_free K, ?_, pure_is_prefix_free h⟩), hm, F.kp, F.binds fun _ _ _ _ _ _ us hl => match us, hl with | [_], _ => rfl⟩
  have nd := sc_is_prefix_free.nd
  exact pss_cons (ps_for PassesOwn.never rfl (pi_range2 (by rfl) B.n_range (pa_cons (pe_int) (pa_cons ((pe_callB call_lenU (by rfl) B.n_len (by decide +kernel) (pa_cons (pv 0) pa_nil))) pa_nil))) (pg_name (i := 1) nd rfl (Or.inl rfl)) (pss_cons (ps_set (i := 2) nd rfl (Or.inl rfl) ((pe_ix ix_seq (pv 0) ((pe_op op_subU (pv 1) (pe_int))) (fun _ _ => rfl))))
      (pss_one (ps_if ((PW.pt (pw_or ((pt_cmpR (op_leU hr.units) ((pe_ix ix_seq (pv 0) (pv 1) (fun _ _ => rfl))) (pv 2) (nomark _))) (pw_or1 ((pt_truU ((pe_bm PySem.F.plainAttrs_str PySem.F.slot_str_startswith PySem.F.type_str_startswith mt_startswith ((pe_ix ix_seq (pv 0) (pv 1) (fun _ _ => rfl))) (pa_cons (pv 2) pa_nil))) (by intro _; rfl))))))) (pss_one (ps_ret (pe_bl))) (pss_nil)))))
      (pss_one (ps_ret (pe_bl)))
theorem sc_powers_of : FnScope N_powers_of ["base"] (defScope s_powers_of) := ⟨rfl, rfl, rfl, by decide +kernel, rfl, by decide +kernel, by decide +kernel⟩
theorem ok_powers_of (D : At K mg "powers_of" s_powers_of) (B : Bn mg) : Fn P w K mg base CX0 1 "powers_of" ["base"] (sp_powers_of K) := by
  obtain ⟨f, fd, F, hm⟩ := D
  refine ⟨f, fd, F.ok sc_powers_of (fun vs H Q E h => len_powers_of h) (fun cdv A outer s H vs Q E hr h => ⟨t_powers_of K, ?_, pure_powers_of h⟩), hm, F.kp, F.binds fun _ _ _ _ _ _ us hl => match us, hl with | [_], _ => rfl⟩
  have nd := sc_powers_of.nd
  exact pss_cons (ps_set (i := 1) nd rfl (Or.inl rfl) ((pe_lst (pa_cons (pe_int) pa_nil))))
      (pss_cons (ps_while PassesOwn.never ((pt_cmpR (op_leU hr.units) ((pe_callB call_lenU (by rfl) B.n_len (by decide +kernel) (pa_cons (pv 1) pa_nil))) ((pe_glob rfl B.c_MOST_LETTERS.choose_spec ⟨_, rfl⟩)) (nomark _))) (pss_one (ps_expr ((pe_bm PySem.F.plainAttrs_list PySem.F.slot_list_append PySem.F.type_list_append mt_append (pv 1) (pa_cons ((pe_op op_mulU ((pe_ix ix_seq (pv 1) ((pe_un un_neg (pe_int))) (fun _ _ => rfl))) (pv 0))) pa_nil))))))
      (pss_one (ps_ret (pv 1))))
theorem sc_is_complete : FnScope N_is_complete ["words", "letters"] (defScope s_is_complete) := ⟨rfl, rfl, rfl, by decide +kernel, rfl, by decide +kernel, by decide +kernel⟩
theorem ok_is_complete (D : At K mg "is_complete" s_is_complete) (B : Bn mg) (G_is_word : Fn P w K mg base CX0 1 "is_word" ["told", "letters"] (sp_is_word K)) (G_is_prefix_free : Fn P w K mg base CX0 1 "is_prefix_free" ["words"] (sp_is_prefix_free K)) (G_powers_of : Fn P w K mg base CX0 1 "powers_of" ["base"] (sp_powers_of K)) : Fn P w K mg base CX0 2 "is_complete" ["words", "letters"] (sp_is_complete K) := by
  obtain ⟨f, fd, F, hm⟩ := D
  refine ⟨f, fd, F.ok sc_is_complete (fun vs H Q E h => len_is_complete h) (fun cdv A outer s H vs Q E hr h => ⟨t_is_complete K, ?_, pure_is_complete h⟩), hm, F.kp, F.binds fun _ _ _ _ _ _ us hl => match us, hl with | [_, _], _ => rfl⟩
  have nd := sc_is_complete.nd
  exact pss_cons (ps_if ((PW.pt (pw_or ((pt_not ((pt_truU ((pe_callB call_isi (by rfl) B.n_isinstance (by decide +kernel) (pa_cons (pv 0) (pa_cons ((pe_bltn (by rfl) B.n_tuple (by decide +kernel) rfl)) pa_nil)))) (by intro _; rfl))))) (pw_or1 ((pt_not ((pt_chain (op_leU hr.units) (op_leU hr.units) (pe_int) ((pe_callB call_lenU (by rfl) B.n_len (by decide +kernel) (pa_cons (pv 0) pa_nil))) ((pe_glob rfl B.c_MOST_WORDS.choose_spec ⟨_, rfl⟩)))))))))) (pss_one (ps_ret (pe_bl))) (pss_nil))
      (pss_cons (ps_for PassesOwn.never rfl (pi_seqU (pv 0)) (pg_name (i := 2) nd rfl (Or.inl rfl)) (pss_one (ps_if ((pt_not ((pt_truU ((pe_callF G_is_word (hr.mono (by decide)) (by rfl) pass0 (pa_cons (pv 2) (pa_cons (pv 1) pa_nil)))) (by intro _; rfl))))) (pss_one (ps_ret (pe_bl))) (pss_nil))))
      (pss_cons (ps_if ((pt_not ((pt_truU ((pe_callF G_is_prefix_free (hr.mono (by decide)) (by rfl) pass0 (pa_cons (pv 0) pa_nil))) (by intro _; rfl))))) (pss_one (ps_ret (pe_bl))) (pss_nil))
      (pss_cons (ps_set (i := 3) nd rfl (Or.inr rfl) ((pe_callF G_powers_of (hr.mono (by decide)) (by rfl) pass0 (pa_cons ((pe_callB call_lenU (by rfl) B.n_len (by decide +kernel) (pa_cons (pv 1) pa_nil))) pa_nil))))
      (pss_cons (ps_set (i := 4) nd rfl (Or.inr rfl) ((pe_callB (cr_max rfl) (by rfl) B.n_max (by decide +kernel) (pa_cons ((pe_lc (own := [("word", 2)]) (g := (gName 2)) (tt := tYes) rfl nd ((pi_seqU (pv 0))) (blkOk_by (N := (N_is_complete : List Str)) (sc := defScope s_is_complete) (by decide +kernel)) (fun _ _ _ _ _ => (pg_name (i := 2) nd rfl (Or.inl rfl))) (fun _ _ _ _ _ => pts_nil) (fun _ _ _ _ _ => (pe_callB call_lenU (by rfl) B.n_len (by decide +kernel) (pa_cons (pv 2) pa_nil))))) pa_nil))))
      (pss_one (ps_ret ((pe_cmpR (op_eqU hr.units) ((pe_callB (cr_sum rfl) (by rfl) B.n_sum (by decide +kernel) (pa_cons ((pe_lc (own := [("word", 2)]) (g := (gName 2)) (tt := tYes) rfl nd ((pi_seqU (pv 0))) (blkOk_by (N := (N_is_complete : List Str)) (sc := defScope s_is_complete) (by decide +kernel)) (fun _ _ _ _ _ => (pg_name (i := 2) nd rfl (Or.inl rfl))) (fun _ _ _ _ _ => pts_nil) (fun _ _ _ _ _ => (pe_ix ix_seq (pv 3) ((pe_op op_subU (pv 4) ((pe_callB call_lenU (by rfl) B.n_len (by decide +kernel) (pa_cons (pv 2) pa_nil))))) (fun _ _ => rfl))))) pa_nil))) ((pe_ix ix_seq (pv 3) (pv 4) (fun _ _ => rfl))) (nomark _)))))))))
theorem sc_law_cell : FnScope N_law_cell ["script", "k"] (defScope s_law_cell) := ⟨rfl, rfl, rfl, by decide +kernel, rfl, by decide +kernel, by decide +kernel⟩
theorem ok_law_cell (D : At K mg "_law_cell" s_law_cell) (B : Bn mg) : Fn P w K mg base CX0 1 "_law_cell" ["script", "k"] (sp_law_cell K) := by
  obtain ⟨f, fd, F, hm⟩ := D
  refine ⟨f, fd, F.ok sc_law_cell (fun vs H Q E h => len_law_cell h) (fun cdv A outer s H vs Q E hr h => ⟨t_law_cell K, ?_, pure_law_cell h⟩), hm, F.kp, F.binds fun _ _ _ _ _ _ us hl => match us, hl with | [_, _], _ => rfl⟩
  have nd := sc_law_cell.nd
  exact pss_cons (ps_if ((pt_cmpR (op_ltU hr.units) (pv 1) ((pe_callB call_lenU (by rfl) B.n_len (by decide +kernel) (pa_cons (pv 0) pa_nil))) (nomark _))) (pss_one (ps_ret ((pe_callB call_absU (by rfl) B.n_abs (by decide +kernel) (pa_cons ((pe_callTy call_intU (by rfl) B.n_int (by decide +kernel) (pa_cons ((pe_ix ix_seq (pv 0) (pv 1) (fun _ _ => rfl))) pa_nil))) pa_nil))))) (pss_nil))
      (pss_cons (ps_if ((pt_cmpR (op_eqU hr.units) ((pe_callB call_lenU (by rfl) B.n_len (by decide +kernel) (pa_cons (pv 0) pa_nil))) (pe_int) (nomark _))) (pss_one (ps_ret (pe_int))) (pss_nil))
      (pss_one (ps_ret ((pe_op op_modU ((pe_callB call_absU (by rfl) B.n_abs (by decide +kernel) (pa_cons ((pe_callTy call_intU (by rfl) B.n_int (by decide +kernel) (pa_cons ((pe_ix ix_seq (pv 0) ((pe_op op_modU ((pe_callTy call_intU (by rfl) B.n_int (by decide +kernel) (pa_cons (pv 1) pa_nil))) ((pe_callB call_lenU (by rfl) B.n_len (by decide +kernel) (pa_cons (pv 0) pa_nil))))) (fun _ _ => rfl))) pa_nil))) pa_nil))) (pe_int))))))
theorem sc_law_pool : FnScope N_law_pool ["script", "k"] (defScope s_law_pool) := ⟨rfl, rfl, rfl, by decide +kernel, rfl, by decide +kernel, by decide +kernel⟩
theorem ok_law_pool (D : At K mg "_law_pool" s_law_pool) (B : Bn mg) (G_law_cell : Fn P w K mg base CX0 1 "_law_cell" ["script", "k"] (sp_law_cell K)) : Fn P w K mg base CX0 2 "_law_pool" ["script", "k"] (sp_law_pool K) := by
  obtain ⟨f, fd, F, hm⟩ := D
  refine ⟨f, fd, F.ok sc_law_pool (fun vs H Q E h => len_law_pool h) (fun cdv A outer s H vs Q E hr h => ⟨t_law_pool K, ?_, pure_law_pool h⟩), hm, F.kp, F.binds fun _ _ _ _ _ _ us hl => match us, hl with | [_, _], _ => rfl⟩
  have nd := sc_law_pool.nd
  exact pss_cons (ps_set (i := 2) nd rfl (Or.inl rfl) ((pe_callF G_law_cell (hr.mono (by decide)) (by rfl) pass0 (pa_cons (pv 0) (pa_cons (pv 1) pa_nil)))))
      (pss_cons (ps_if ((pt_cmpR op_geU (pv 2) ((pe_op op_powU (pe_int) (pe_int))) (nomark _))) (pss_one (ps_ret ((pe_lst (pa_cons ((pe_op op_subU (pv 2) ((pe_op op_powU (pe_int) (pe_int))))) (pa_cons ((pe_op op_modU ((pe_callTy call_intU (by rfl) B.n_int (by decide +kernel) (pa_cons (pv 2) pa_nil))) (pe_int))) (pa_cons (pe_int) pa_nil))))))) (pss_nil))
      (pss_one (ps_ret ((pe_lst (pa_cons (pe_int) (pa_cons ((pe_op op_addU (pv 2) ((pe_op op_mulU (pe_int) ((pe_op op_addU (pv 1) (pe_int))))))) (pa_cons (pe_int) pa_nil))))))))
theorem sc_law_draw : FnScope N_law_draw ["pool", "many"] (defScope s_law_draw) := ⟨rfl, rfl, rfl, by decide +kernel, rfl, by decide +kernel, by decide +kernel⟩
theorem ok_law_draw (D : At K mg "_law_draw" s_law_draw) (B : Bn mg) : Fn P w K mg base CX0 1 "_law_draw" ["pool", "many"] (sp_law_draw K) := by
  obtain ⟨f, fd, F, hm⟩ := D
  refine ⟨f, fd, F.ok sc_law_draw (fun vs H Q E h => len_law_draw h) (fun cdv A outer s H vs Q E hr h => ⟨t_law_draw K, ?_, pure_law_draw h⟩), hm, F.kp, F.binds fun _ _ _ _ _ _ us hl => match us, hl with | [_, _], _ => rfl⟩
  have nd := sc_law_draw.nd
  exact pss_cons (ps_asg ((pe_op op_addU ((pe_ix ix_seq (pv 0) (pe_int) (fun _ _ => rfl))) (pe_int))) (pg_sub (pv 0) (pe_int) set_list))
      (pss_cons (ps_if ((pt_cmpR op_gtU ((pe_ix ix_seq (pv 0) (pe_int) (fun _ _ => rfl))) (pe_int) (nomark _))) (pss_cons (ps_set (i := 2) nd rfl (Or.inl rfl) ((pe_op op_modU ((pe_callTy call_intU (by rfl) B.n_int (by decide +kernel) (pa_cons ((pe_ix ix_seq (pv 0) (pe_int) (fun _ _ => rfl))) pa_nil))) (pv 1))))
      (pss_cons (ps_asg ((pe_op op_fdivU ((pe_ix ix_seq (pv 0) (pe_int) (fun _ _ => rfl))) (pv 1))) (pg_sub (pv 0) (pe_int) set_list))
      (pss_one (ps_ret (pv 2))))) (pss_nil))
      (pss_cons (ps_set (i := 3) nd rfl (Or.inl rfl) ((pe_op op_modU ((pe_callTy call_intU (by rfl) B.n_int (by decide +kernel) (pa_cons ((pe_op op_addU ((pe_ix ix_seq (pv 0) (pe_int) (fun _ _ => rfl))) ((pe_op op_mulU (pe_int) ((pe_ix ix_seq (pv 0) (pe_int) (fun _ _ => rfl))))))) pa_nil))) (pe_int))))
      (pss_cons (ps_set (i := 3) nd rfl (Or.inl rfl) ((pe_op op_modU ((pe_callTy call_intU (by rfl) B.n_int (by decide +kernel) (pa_cons ((pe_op op_addU ((pe_op op_addU ((pe_op op_mulU (pv 3) (pv 3))) ((pe_op op_mulU (pe_int) ((pe_ix ix_seq (pv 0) (pe_int) (fun _ _ => rfl))))))) ((pe_ix ix_seq (pv 0) (pe_int) (fun _ _ => rfl))))) pa_nil))) (pe_int))))
      (pss_cons (ps_set (i := 3) nd rfl (Or.inl rfl) ((pe_op op_modU ((pe_callTy call_intU (by rfl) B.n_int (by decide +kernel) (pa_cons ((pe_op op_addU ((pe_op op_mulU (pv 3) (pv 3))) (pe_int))) pa_nil))) (pe_int))))
      (pss_one (ps_ret ((pe_op op_modU ((pe_callTy call_intU (by rfl) B.n_int (by decide +kernel) (pa_cons ((pe_op op_fdivU (pv 3) (pe_int))) pa_nil))) (pv 1)))))))))
theorem sc_law_some : FnScope N_law_some ["pool", "many", "signs"] (defScope s_law_some) := ⟨rfl, rfl, rfl, by decide +kernel, rfl, by decide +kernel, by decide +kernel⟩
theorem ok_law_some (D : At K mg "_law_some" s_law_some) (B : Bn mg) (G_law_draw : Fn P w K mg base CX0 1 "_law_draw" ["pool", "many"] (sp_law_draw K)) : Fn P w K mg base CX0 2 "_law_some" ["pool", "many", "signs"] (sp_law_some K) := by
  obtain ⟨f, fd, F, hm⟩ := D
  refine ⟨f, fd, F.ok sc_law_some (fun vs H Q E h => len_law_some h) (fun cdv A outer s H vs Q E hr h => ⟨t_law_some K, ?_, pure_law_some h⟩), hm, F.kp, F.binds fun _ _ _ _ _ _ us hl => match us, hl with | [_, _, _], _ => rfl⟩
  have nd := sc_law_some.nd
  exact pss_cons (ps_set (i := 3) nd rfl (Or.inl rfl) ((pe_callTy (call_listTx rfl) (by rfl) B.n_list (by decide +kernel) (pa_cons (pv 2) pa_nil))))
      (pss_cons (ps_set (i := 4) nd rfl (Or.inl rfl) (pe_str))
      (pss_cons (ps_for PassesOwn.never rfl (pi_range1 (by rfl) B.n_range (pa_cons (pv 1) pa_nil)) (pg_name (i := 5) nd rfl (Or.inl rfl)) (pss_one (ps_set (i := 4) nd rfl (Or.inl rfl) ((pe_op op_addU (pv 4) ((pe_bm PySem.F.plainAttrs_list PySem.F.slot_list_pop PySem.F.type_list_pop mt_popAt (pv 3) (pa_cons ((pe_callF G_law_draw (hr.mono (by decide)) (by rfl) pass0 (pa_cons (pv 0) (pa_cons ((pe_callB call_lenU (by rfl) B.n_len (by decide +kernel) (pa_cons (pv 3) pa_nil))) pa_nil)))) pa_nil))))))))
      (pss_one (ps_ret (pv 4)))))
theorem sc_law_bent : FnScope N_law_bent ["pool", "part"] (defScope s_law_bent) := ⟨rfl, rfl, rfl, by decide +kernel, rfl, by decide +kernel, by decide +kernel⟩
theorem ok_law_bent (D : At K mg "_law_bent" s_law_bent) (B : Bn mg) (G_law_draw : Fn P w K mg base CX0 1 "_law_draw" ["pool", "many"] (sp_law_draw K)) : Fn P w K mg base CX0 2 "_law_bent" ["pool", "part"] (sp_law_bent K) := by
  obtain ⟨f, fd, F, hm⟩ := D
  refine ⟨f, fd, F.ok sc_law_bent (fun vs H Q E h => len_law_bent h) (fun cdv A outer s H vs Q E hr h => ⟨t_law_bent K, ?_, pure_law_bent h⟩), hm, F.kp, F.binds fun _ _ _ _ _ _ us hl => match us, hl with | [_, _], _ => rfl⟩
  have nd := sc_law_bent.nd
  exact pss_cons (ps_if ((pt_truU ((pe_callB call_isi (by rfl) B.n_isinstance (by decide +kernel) (pa_cons (pv 1) (pa_cons ((pe_bltn (by rfl) B.n_tuple (by decide +kernel) rfl)) pa_nil)))) (by intro _; rfl))) (pss_cons (ps_if ((pt_cmpR (op_eqU hr.units) ((pe_callB call_lenU (by rfl) B.n_len (by decide +kernel) (pa_cons (pv 1) pa_nil))) (pe_int) (nomark _))) (pss_one (ps_ret ((pe_tup (pa_cons (pe_int) pa_nil))))) (pss_nil))
      (pss_cons (ps_set (i := 2) nd rfl (Or.inl rfl) ((pe_callF G_law_draw (hr.mono (by decide)) (by rfl) pass0 (pa_cons (pv 0) (pa_cons ((pe_callB call_lenU (by rfl) B.n_len (by decide +kernel) (pa_cons (pv 1) pa_nil))) pa_nil)))))
      (pss_cons (ps_set (i := 3) nd rfl (Or.inl rfl) ((pe_callF G_law_draw (hr.mono (by decide)) (by rfl) pass0 (pa_cons (pv 0) (pa_cons ((pe_callB call_lenU (by rfl) B.n_len (by decide +kernel) (pa_cons (pv 1) pa_nil))) pa_nil)))))
      (pss_cons (ps_set (i := 4) nd rfl (Or.inl rfl) ((pe_callF G_law_draw (hr.mono (by decide)) (by rfl) pass0 (pa_cons (pv 0) (pa_cons (pe_int) pa_nil)))))
      (pss_cons (ps_if ((pt_cmpR (op_eqU hr.units) (pv 4) (pe_int) (nomark _))) (pss_one (ps_ret ((pe_op op_addU ((pe_slice sl_U (pv 1) po_none (po_some (pv 2)))) ((pe_slice sl_U (pv 1) (po_some ((pe_op op_addU (pv 2) (pe_int)))) po_none)))))) (pss_nil))
      (pss_cons (ps_if ((pt_cmpR (op_eqU hr.units) (pv 4) (pe_int) (nomark _))) (pss_one (ps_ret ((pe_op op_addU ((pe_slice sl_U (pv 1) po_none (po_some ((pe_op op_addU (pv 2) (pe_int)))))) ((pe_slice sl_U (pv 1) (po_some (pv 2)) po_none)))))) (pss_nil))
      (pss_cons (ps_if ((pt_cmpR (op_eqU hr.units) (pv 4) (pe_int) (nomark _))) (pss_cons (ps_set (i := 5) nd rfl (Or.inl rfl) ((pe_callTy call_listU (by rfl) B.n_list (by decide +kernel) (pa_cons (pv 1) pa_nil))))
      (pss_cons (ps_asg ((pe_ix ix_seq (pv 1) (pv 3) (fun _ _ => rfl))) (pg_sub (pv 5) (pv 2) set_list))
      (pss_cons (ps_asg ((pe_ix ix_seq (pv 1) (pv 2) (fun _ _ => rfl))) (pg_sub (pv 5) (pv 3) set_list))
      (pss_one (ps_ret ((pe_tupD (by rfl) B.n_tuple (pv 5)))))))) (pss_nil))
      (pss_one (ps_ret ((pe_op op_addU (pv 1) ((pe_tup (pa_cons ((pe_callF G_law_draw (hr.mono (by decide)) (by rfl) pass0 (pa_cons (pv 0) (pa_cons (pe_int) pa_nil)))) pa_nil)))))))))))))) (pss_nil))
      (pss_cons (ps_if ((pt_truU ((pe_callB call_isi (by rfl) B.n_isinstance (by decide +kernel) (pa_cons (pv 1) (pa_cons ((pe_bltn (by rfl) B.n_str (by decide +kernel) rfl)) pa_nil)))) (by intro _; rfl))) (pss_cons (ps_set (i := 2) nd rfl (Or.inl rfl) ((pe_callF G_law_draw (hr.mono (by decide)) (by rfl) pass0 (pa_cons (pv 0) (pa_cons ((pe_op op_addU ((pe_callB call_lenU (by rfl) B.n_len (by decide +kernel) (pa_cons (pv 1) pa_nil))) (pe_int))) pa_nil)))))
      (pss_cons (ps_set (i := 4) nd rfl (Or.inl rfl) ((pe_callF G_law_draw (hr.mono (by decide)) (by rfl) pass0 (pa_cons (pv 0) (pa_cons (pe_int) pa_nil)))))
      (pss_cons (ps_if ((pt_cmpR (op_eqU hr.units) (pv 4) (pe_int) (nomark _))) (pss_one (ps_ret ((pe_op op_addU ((pe_slice sl_U (pv 1) po_none (po_some (pv 2)))) ((pe_slice sl_U (pv 1) (po_some ((pe_op op_addU (pv 2) (pe_int)))) po_none)))))) (pss_nil))
      (pss_cons (ps_set (i := 6) nd rfl (Or.inl rfl) ((pe_ix ix_seq (pe_str) ((pe_callF G_law_draw (hr.mono (by decide)) (by rfl) pass0 (pa_cons (pv 0) (pa_cons (pe_int) pa_nil)))) (fun _ _ => rfl))))
      (pss_cons (ps_if ((pt_cmpR (op_eqU hr.units) (pv 4) (pe_int) (nomark _))) (pss_one (ps_ret ((pe_op op_addU ((pe_op op_addU ((pe_slice sl_U (pv 1) po_none (po_some (pv 2)))) (pv 6))) ((pe_slice sl_U (pv 1) (po_some ((pe_op op_addU (pv 2) (pe_int)))) po_none)))))) (pss_nil))
      (pss_one (ps_ret ((pe_op op_addU ((pe_op op_addU ((pe_slice sl_U (pv 1) po_none (po_some (pv 2)))) (pv 6))) ((pe_slice sl_U (pv 1) (po_some (pv 2)) po_none))))))))))) (pss_nil))
      (pss_one (ps_ret ((pe_ix ix_seq ((pe_lst (pa_cons ((pe_op op_addU (pv 1) (pe_int))) (pa_cons ((pe_op op_subU (pv 1) (pe_int))) (pa_cons ((pe_op op_addU (pv 1) (pe_int))) (pa_cons (pe_int) pa_nil)))))) ((pe_callF G_law_draw (hr.mono (by decide)) (by rfl) pass0 (pa_cons (pv 0) (pa_cons (pe_int) pa_nil)))) (fun _ _ => rfl))))))
theorem sc_law_spoil : FnScope N_law_spoil ["pool", "value"] (defScope s_law_spoil) := ⟨rfl, rfl, rfl, by decide +kernel, rfl, by decide +kernel, by decide +kernel⟩
theorem ok_law_spoil (D : At K mg "_law_spoil" s_law_spoil) (B : Bn mg) (G_law_draw : Fn P w K mg base CX0 1 "_law_draw" ["pool", "many"] (sp_law_draw K)) (G_law_bent : Fn P w K mg base CX0 2 "_law_bent" ["pool", "part"] (sp_law_bent K)) : Fn P w K mg base CX0 3 "_law_spoil" ["pool", "value"] (sp_law_spoil K) := by
  obtain ⟨f, fd, F, hm⟩ := D
  refine ⟨f, fd, F.ok sc_law_spoil (fun vs H Q E h => len_law_spoil h) (fun cdv A outer s H vs Q E hr h => ⟨t_law_spoil K, ?_, pure_law_spoil h⟩), hm, F.kp, F.binds fun _ _ _ _ _ _ us hl => match us, hl with | [_, _], _ => rfl⟩
  have nd := sc_law_spoil.nd
  exact pss_cons (ps_set (i := 2) nd rfl (Or.inl rfl) ((pe_lst pa_nil)))
      (pss_cons (ps_set (i := 3) nd rfl (Or.inl rfl) (pv 1))
      (pss_cons (ps_set (i := 4) nd rfl (Or.inl rfl) (pe_bl))
      (pss_cons (ps_for PassesOwn.never rfl (pi_range1 (by rfl) B.n_range (pa_cons (pe_int) pa_nil)) (pg_name (i := 5) nd rfl (Or.inl rfl)) (pss_one (ps_if ((PW.pt (pw_and ((pt_truU (pv 4) (by intro _; rfl))) (pw_and ((pt_truU ((pe_callB call_isi (by rfl) B.n_isinstance (by decide +kernel) (pa_cons (pv 3) (pa_cons ((pe_bltn (by rfl) B.n_tuple (by decide +kernel) rfl)) pa_nil)))) (by intro _; rfl))) (pw_and ((pt_cmpR op_gtU ((pe_callB call_lenU (by rfl) B.n_len (by decide +kernel) (pa_cons (pv 3) pa_nil))) (pe_int) (nomark _))) (pw_and1 ((pt_cmpR op_gtU ((pe_callF G_law_draw (hr.mono (by decide)) (by rfl) pass0 (pa_cons (pv 0) (pa_cons (pe_int) pa_nil)))) (pe_int) (nomark _))))))))) (pss_cons (ps_expr ((pe_bm PySem.F.plainAttrs_list PySem.F.slot_list_append PySem.F.type_list_append mt_append (pv 2) (pa_cons ((pe_callF G_law_draw (hr.mono (by decide)) (by rfl) pass0 (pa_cons (pv 0) (pa_cons ((pe_callB call_lenU (by rfl) B.n_len (by decide +kernel) (pa_cons (pv 3) pa_nil))) pa_nil)))) pa_nil))))
      (pss_one (ps_set (i := 3) nd rfl (Or.inl rfl) ((pe_ix ix_seq (pv 3) ((pe_ix ix_seq (pv 2) ((pe_un un_neg (pe_int))) (fun _ _ => rfl))) (fun _ _ => rfl)))))) (pss_one (ps_set (i := 4) nd rfl (Or.inl rfl) (pe_bl))))))
      (pss_cons (ps_set (i := 6) nd rfl (Or.inl rfl) ((pe_callF G_law_bent (hr.mono (by decide)) (by rfl) pass0 (pa_cons (pv 0) (pa_cons (pv 3) pa_nil)))))
      (pss_cons (ps_for PassesOwn.never rfl (pi_range1 (by rfl) B.n_range (pa_cons ((pe_callB call_lenU (by rfl) B.n_len (by decide +kernel) (pa_cons (pv 2) pa_nil))) pa_nil)) (pg_name (i := 7) nd rfl (Or.inl rfl)) (pss_cons (ps_set (i := 8) nd rfl (Or.inl rfl) (pv 1))
      (pss_cons (ps_for PassesOwn.never rfl (pi_seqU ((pe_slice sl_U (pv 2) po_none (po_some ((pe_op op_subU ((pe_op op_subU ((pe_callB call_lenU (by rfl) B.n_len (by decide +kernel) (pa_cons (pv 2) pa_nil))) (pe_int))) (pv 7))))))) (pg_name (i := 9) nd rfl (Or.inl rfl)) (pss_one (ps_set (i := 8) nd rfl (Or.inl rfl) ((pe_ix ix_seq (pv 8) (pv 9) (fun _ _ => rfl))))))
      (pss_cons (ps_set (i := 10) nd rfl (Or.inl rfl) ((pe_ix ix_seq (pv 2) ((pe_op op_subU ((pe_op op_subU ((pe_callB call_lenU (by rfl) B.n_len (by decide +kernel) (pa_cons (pv 2) pa_nil))) (pe_int))) (pv 7))) (fun _ _ => rfl))))
      (pss_one (ps_set (i := 6) nd rfl (Or.inl rfl) ((pe_op op_addU ((pe_op op_addU ((pe_slice sl_U (pv 8) po_none (po_some (pv 10)))) ((pe_tup (pa_cons (pv 6) pa_nil))))) ((pe_slice sl_U (pv 8) (po_some ((pe_op op_addU (pv 10) (pe_int)))) po_none))))))))))
      (pss_one (ps_ret (pv 6))))))))
theorem sc_law_leaves : FnScope N_law_leaves ["told", "letters"] (defScope s_law_leaves) := ⟨rfl, rfl, rfl, by decide +kernel, rfl, by decide +kernel, by decide +kernel⟩
theorem ok_law_leaves (D : At K mg "_law_leaves" s_law_leaves) (B : Bn mg) : Fn P w K mg base CX0 1 "_law_leaves" ["told", "letters"] (sp_law_leaves K) := by
  obtain ⟨f, fd, F, hm⟩ := D
  refine ⟨f, fd, F.ok sc_law_leaves (fun vs H Q E h => len_law_leaves h) (fun cdv A outer s H vs Q E hr h => ⟨t_law_leaves K, ?_, pure_law_leaves h⟩), hm, F.kp, F.binds fun _ _ _ _ _ _ us hl => match us, hl with | [_, _], _ => rfl⟩
  have nd := sc_law_leaves.nd
  exact pss_cons (ps_if ((PW.pt (pw_or ((pt_not ((pt_truU ((pe_callB call_isi (by rfl) B.n_isinstance (by decide +kernel) (pa_cons (pv 0) (pa_cons ((pe_bltn (by rfl) B.n_tuple (by decide +kernel) rfl)) pa_nil)))) (by intro _; rfl))))) (pw_or ((pt_cmpR (op_ltU hr.units) ((pe_callB call_lenU (by rfl) B.n_len (by decide +kernel) (pa_cons (pv 0) pa_nil))) (pe_int) (nomark _))) (pw_or1 ((pt_cmpR op_gtU ((pe_callB call_lenU (by rfl) B.n_len (by decide +kernel) (pa_cons (pv 0) pa_nil))) (pe_int) (nomark _)))))))) (pss_one (ps_ret (pe_bl))) (pss_nil))
      (pss_cons (ps_set (i := 2) nd rfl (Or.inl rfl) (pe_str))
      (pss_cons (ps_set (i := 3) nd rfl (Or.inl rfl) (pe_bl))
      (pss_cons (ps_for PassesOwn.never rfl (pi_seqU (pv 0)) (pg_name (i := 4) nd rfl (Or.inl rfl)) (pss_cons (ps_if ((PW.pt (pw_or ((pt_not ((pt_truU (pv 3) (by intro _; rfl))))) (pw_or ((pt_not ((pt_truU ((pe_callB call_isi (by rfl) B.n_isinstance (by decide +kernel) (pa_cons (pv 4) (pa_cons ((pe_bltn (by rfl) B.n_str (by decide +kernel) rfl)) pa_nil)))) (by intro _; rfl))))) (pw_or1 ((pt_cmpR op_gtU ((pe_callB call_lenU (by rfl) B.n_len (by decide +kernel) (pa_cons (pv 4) pa_nil))) (pe_int) (nomark _)))))))) (pss_one (ps_ret (pe_bl))) (pss_nil))
      (pss_cons (ps_if ((pt_cmpR (op_neU hr.units) ((pe_slice sl_U (pv 4) po_none (po_some ((pe_callB call_lenU (by rfl) B.n_len (by decide +kernel) (pa_cons (pv 2) pa_nil)))))) (pv 2) (nomark _))) (pss_one (ps_ret (pe_bl))) (pss_nil))
      (pss_cons (ps_for PassesOwn.never rfl (pi_seqU ((pe_slice sl_U (pv 4) (po_some ((pe_callB call_lenU (by rfl) B.n_len (by decide +kernel) (pa_cons (pv 2) pa_nil)))) po_none))) (pg_name (i := 5) nd rfl (Or.inl rfl)) (pss_one (ps_if ((pt_cmpR (op_neU hr.units) (pv 5) ((pe_slice sl_U (pv 1) po_none (po_some (pe_int)))) (nomark _))) (pss_one (ps_ret (pe_bl))) (pss_nil))))
      (pss_cons (ps_set (i := 2) nd rfl (Or.inl rfl) (pv 4))
      (pss_cons (ps_for PassesOwn.never rfl (pi_range1 (by rfl) B.n_range (pa_cons ((pe_callB call_lenU (by rfl) B.n_len (by decide +kernel) (pa_cons (pv 4) pa_nil))) pa_nil)) (pg_name (i := 6) nd rfl (Or.inl rfl)) (pss_one (ps_if ((pt_cmpR (op_eqU hr.units) ((pe_slice sl_U (pv 2) (po_some ((pe_un un_neg (pe_int)))) po_none)) ((pe_slice sl_U (pv 1) (po_some ((pe_un un_neg (pe_int)))) po_none)) (nomark _))) (pss_one (ps_set (i := 2) nd rfl (Or.inl rfl) ((pe_slice sl_U (pv 2) po_none (po_some ((pe_un un_neg (pe_int)))))))) (pss_nil))))
      (pss_one (ps_if ((pt_cmpR (op_eqU hr.units) (pv 2) (pe_str) (nomark _))) (pss_one (ps_set (i := 3) nd rfl (Or.inl rfl) (pe_bl))) (pss_one (ps_set (i := 2) nd rfl (Or.inl rfl) ((pe_op op_addU ((pe_slice sl_U (pv 2) po_none (po_some ((pe_un un_neg (pe_int)))))) ((pe_ix ix_seq (pv 1) ((pe_op op_addU ((pe_bm PySem.F.plainAttrs_str PySem.F.slot_str_index PySem.F.type_str_index mt_indexS (pv 1) (pa_cons ((pe_ix ix_seq (pv 2) ((pe_un un_neg (pe_int))) (fun _ _ => rfl))) pa_nil))) (pe_int))) (fun _ _ => rfl)))))))))))))))
      (pss_one (ps_ret ((pe_not (pv 3))))))))
theorem sc_law_split : FnScope N_law_split ["words", "at", "letters"] (defScope s_law_split) := ⟨rfl, rfl, rfl, by decide +kernel, rfl, by decide +kernel, by decide +kernel⟩
theorem ok_law_split (D : At K mg "_law_split" s_law_split) (B : Bn mg) : Fn P w K mg base CX0 1 "_law_split" ["words", "at", "letters"] (sp_law_split K) := by
  obtain ⟨f, fd, F, hm⟩ := D
  refine ⟨f, fd, F.ok sc_law_split (fun vs H Q E h => len_law_split h) (fun cdv A outer s H vs Q E hr h => ⟨t_law_split K, ?_, pure_law_split h⟩), hm, F.kp, F.binds fun _ _ _ _ _ _ us hl => match us, hl with | [_, _, _], _ => rfl⟩
  have nd := sc_law_split.nd
  exact pss_one (ps_ret ((pe_op op_addU ((pe_op op_addU ((pe_slice sl_U (pv 0) po_none (po_some (pv 1)))) ((pe_lc (own := [("sign", 3)]) (g := (gName 3)) (tt := tYes) rfl nd ((pi_seqU (pv 2))) (blkOk_by (N := (N_law_split : List Str)) (sc := defScope s_law_split) (by decide +kernel)) (fun _ _ _ _ _ => (pg_name (i := 3) nd rfl (Or.inl rfl))) (fun _ _ _ _ _ => pts_nil) (fun _ _ _ _ _ => (pe_op op_addU ((pe_ix ix_seq (pv 0) (pv 1) (fun _ _ => rfl))) (pv 3))))))) ((pe_slice sl_U (pv 0) (po_some ((pe_op op_addU (pv 1) (pe_int)))) po_none)))))
theorem sc_law_list : FnScope N_law_list ["pool", "letters"] (defScope s_law_list) := ⟨rfl, rfl, rfl, by decide +kernel, rfl, by decide +kernel, by decide +kernel⟩
theorem ok_law_list (D : At K mg "_law_list" s_law_list) (B : Bn mg) (G_law_draw : Fn P w K mg base CX0 1 "_law_draw" ["pool", "many"] (sp_law_draw K)) (G_law_split : Fn P w K mg base CX0 1 "_law_split" ["words", "at", "letters"] (sp_law_split K)) : Fn P w K mg base CX0 2 "_law_list" ["pool", "letters"] (sp_law_list K) := by
  obtain ⟨f, fd, F, hm⟩ := D
  refine ⟨f, fd, F.ok sc_law_list (fun vs H Q E h => len_law_list h) (fun cdv A outer s H vs Q E hr h => ⟨t_law_list K, ?_, pure_law_list h⟩), hm, F.kp, F.binds fun _ _ _ _ _ _ us hl => match us, hl with | [_, _], _ => rfl⟩
  have nd := sc_law_list.nd
  exact pss_cons (ps_set (i := 2) nd rfl (Or.inr rfl) ((pe_lst (pa_cons (pe_str) pa_nil))))
      (pss_cons (ps_set (i := 3) nd rfl (Or.inl rfl) ((pe_callF G_law_draw (hr.mono (by decide)) (by rfl) pass0 (pa_cons (pv 0) (pa_cons (pe_int) pa_nil)))))
      (pss_cons (ps_if ((pt_cmpR (op_eqU hr.units) (pv 1) (pe_str) (nomark _))) (pss_one (ps_ret (pv 2))) (pss_nil))
      (pss_cons (ps_if ((pt_cmpR (op_ltU hr.units) (pv 3) (pe_int) (nomark _))) (pss_one (ps_for PassesOwn.never rfl (pi_range1 (by rfl) B.n_range (pa_cons ((pe_ix ix_seq ((pe_lst (pa_cons (pe_int) (pa_cons (pe_int) (pa_cons (pe_int) (pa_cons (pe_int) (pa_cons (pe_int) (pa_cons (pe_int) (pa_cons (pe_int) pa_nil))))))))) ((pe_callF G_law_draw (hr.mono (by decide)) (by rfl) pass0 (pa_cons (pv 0) (pa_cons (pe_int) pa_nil)))) (fun _ _ => rfl))) pa_nil)) (pg_name (i := 4) nd rfl (Or.inr rfl)) (pss_one (ps_set (i := 2) nd rfl (Or.inr rfl) ((pe_callF G_law_split (hr.mono (by decide)) (by rfl) pass0 (pa_cons (pv 2) (pa_cons ((pe_callF G_law_draw (hr.mono (by decide)) (by rfl) pass0 (pa_cons (pv 0) (pa_cons ((pe_callB call_lenU (by rfl) B.n_len (by decide +kernel) (pa_cons (pv 2) pa_nil))) pa_nil)))) (pa_cons (pv 1) pa_nil))))))))) (pss_one (ps_if ((pt_cmpR (op_ltU hr.units) (pv 3) (pe_int) (nomark _))) (pss_one (ps_for PassesOwn.never rfl (pi_range1 (by rfl) B.n_range (pa_cons ((pe_callF G_law_draw (hr.mono (by decide)) (by rfl) pass0 (pa_cons (pv 0) (pa_cons (pe_int) pa_nil)))) pa_nil)) (pg_name (i := 4) nd rfl (Or.inr rfl)) (pss_one (ps_set (i := 2) nd rfl (Or.inr rfl) ((pe_callF G_law_split (hr.mono (by decide)) (by rfl) pass0 (pa_cons (pv 2) (pa_cons ((pe_callF G_law_draw (hr.mono (by decide)) (by rfl) pass0 (pa_cons (pv 0) (pa_cons ((pe_callB call_lenU (by rfl) B.n_len (by decide +kernel) (pa_cons (pv 2) pa_nil))) pa_nil)))) (pa_cons (pv 1) pa_nil))))))))) (pss_one (ps_if ((PW.pt (pw_or ((pt_cmpR (op_ltU hr.units) (pv 3) (pe_int) (nomark _))) (pw_or1 ((pt_cmpR (op_eqU hr.units) ((pe_callB call_lenU (by rfl) B.n_len (by decide +kernel) (pa_cons (pv 1) pa_nil))) (pe_int) (nomark _))))))) (pss_cons (ps_set (i := 5) nd rfl (Or.inl rfl) (pe_int))
      (pss_one (ps_for PassesOwn.never rfl (pi_range1 (by rfl) B.n_range (pa_cons ((pe_op op_addU (pe_int) ((pe_callF G_law_draw (hr.mono (by decide)) (by rfl) pass0 (pa_cons (pv 0) (pa_cons (pe_int) pa_nil)))))) pa_nil)) (pg_name (i := 4) nd rfl (Or.inr rfl)) (pss_cons (ps_set (i := 2) nd rfl (Or.inr rfl) ((pe_callF G_law_split (hr.mono (by decide)) (by rfl) pass0 (pa_cons (pv 2) (pa_cons (pv 5) (pa_cons (pv 1) pa_nil))))))
      (pss_one (ps_set (i := 5) nd rfl (Or.inl rfl) ((pe_op op_addU (pv 5) ((pe_callF G_law_draw (hr.mono (by decide)) (by rfl) pass0 (pa_cons (pv 0) (pa_cons ((pe_callB call_lenU (by rfl) B.n_len (by decide +kernel) (pa_cons (pv 1) pa_nil))) pa_nil)))))))))))) (pss_cons (ps_set (i := 6) nd rfl (Or.inl rfl) ((pe_op op_addU ((pe_op op_fdivU (pe_int) ((pe_op op_subU ((pe_callB call_lenU (by rfl) B.n_len (by decide +kernel) (pa_cons (pv 1) pa_nil))) (pe_int))))) ((pe_callF G_law_draw (hr.mono (by decide)) (by rfl) pass0 (pa_cons (pv 0) (pa_cons (pe_int) pa_nil)))))))
      (pss_cons (ps_for PassesOwn.never rfl (pi_range1 (by rfl) B.n_range (pa_cons (pv 6) pa_nil)) (pg_name (i := 4) nd rfl (Or.inr rfl)) (pss_one (ps_expr ((pe_bm PySem.F.plainAttrs_list PySem.F.slot_list_extend PySem.F.type_list_extend mt_extend (pv 2) (pa_cons ((pe_lc (own := [("sign", 7)]) (g := (gName 7)) (tt := tYes) rfl nd ((pi_seqU (pv 1))) (blkOk_by (N := (N_law_list : List Str)) (sc := defScope s_law_list) (by decide +kernel)) (fun _ _ _ _ _ => (pg_name (i := 7) nd rfl (Or.inl rfl))) (fun _ _ _ _ _ => pts_nil) (fun _ _ _ _ _ => (pe_op op_addU ((pe_ix ix_seq (pv 2) (pv 4) (fun _ _ => rfl))) (pv 7))))) pa_nil))))))
      (pss_one (ps_set (i := 2) nd rfl (Or.inr rfl) ((pe_callB (cr_sortTx hr.units) (by rfl) B.n_sorted (by decide +kernel) (pa_cons ((pe_slice sl_U (pv 2) (po_some (pv 6)) po_none)) pa_nil))))))))))))
      (pss_one (ps_ret (pv 2))))))
theorem sc_law_bend : FnScope N_law_bend ["pool", "words", "letters"] (defScope s_law_bend) := ⟨rfl, rfl, rfl, by decide +kernel, rfl, by decide +kernel, by decide +kernel⟩
theorem ok_law_bend (D : At K mg "_law_bend" s_law_bend) (B : Bn mg) (G_law_draw : Fn P w K mg base CX0 1 "_law_draw" ["pool", "many"] (sp_law_draw K)) (G_law_spoil : Fn P w K mg base CX0 3 "_law_spoil" ["pool", "value"] (sp_law_spoil K)) : Fn P w K mg base CX0 4 "_law_bend" ["pool", "words", "letters"] (sp_law_bend K) := by
  obtain ⟨f, fd, F, hm⟩ := D
  refine ⟨f, fd, F.ok sc_law_bend (fun vs H Q E h => len_law_bend h) (fun cdv A outer s H vs Q E hr h => ⟨t_law_bend K, ?_, pure_law_bend h⟩), hm, F.kp, F.binds fun _ _ _ _ _ _ us hl => match us, hl with | [_, _, _], _ => rfl⟩
  have nd := sc_law_bend.nd
  exact pss_cons (ps_set (i := 3) nd rfl (Or.inl rfl) ((pe_callTy call_listU (by rfl) B.n_list (by decide +kernel) (pa_cons (pv 1) pa_nil))))
      (pss_cons (ps_set (i := 4) nd rfl (Or.inl rfl) ((pe_callF G_law_draw (hr.mono (by decide)) (by rfl) pass0 (pa_cons (pv 0) (pa_cons (pe_int) pa_nil)))))
      (pss_cons (ps_set (i := 5) nd rfl (Or.inl rfl) ((pe_callF G_law_draw (hr.mono (by decide)) (by rfl) pass0 (pa_cons (pv 0) (pa_cons ((pe_callB call_lenU (by rfl) B.n_len (by decide +kernel) (pa_cons (pv 3) pa_nil))) pa_nil)))))
      (pss_cons (ps_set (i := 6) nd rfl (Or.inr rfl) ((pe_ix ix_seq (pv 3) (pv 5) (fun _ _ => rfl))))
      (pss_cons (ps_set (i := 7) nd rfl (Or.inl rfl) ((pe_callF G_law_draw (hr.mono (by decide)) (by rfl) pass0 (pa_cons (pv 0) (pa_cons ((pe_op op_addU ((pe_callB call_lenU (by rfl) B.n_len (by decide +kernel) (pa_cons (pv 6) pa_nil))) (pe_int))) pa_nil)))))
      (pss_cons (ps_if ((pt_cmpR (op_eqU hr.units) (pv 4) (pe_int) (nomark _))) (pss_one (ps_ret ((pe_tupD (by rfl) B.n_tuple ((pe_op op_addU ((pe_slice sl_U (pv 3) po_none (po_some (pv 5)))) ((pe_slice sl_U (pv 3) (po_some ((pe_op op_addU (pv 5) (pe_int)))) po_none)))))))) (pss_nil))
      (pss_cons (ps_if ((pt_cmpR (op_eqU hr.units) (pv 4) (pe_int) (nomark _))) (pss_one (ps_ret ((pe_tupD (by rfl) B.n_tuple ((pe_op op_addU ((pe_slice sl_U (pv 3) po_none (po_some ((pe_op op_addU (pv 5) (pe_int)))))) ((pe_slice sl_U (pv 3) (po_some (pv 5)) po_none)))))))) (pss_nil))
      (pss_cons (ps_if ((pt_cmpR (op_eqU hr.units) (pv 4) (pe_int) (nomark _))) (pss_one (ps_ret ((pe_tupD (by rfl) B.n_tuple ((pe_op op_addU ((pe_op op_addU ((pe_slice sl_U (pv 3) po_none (po_some (pv 5)))) ((pe_slice sl_U (pv 3) (po_some ((pe_op op_addU (pv 5) (pe_int)))) po_none)))) ((pe_lst (pa_cons (pv 6) pa_nil))))))))) (pss_nil))
      (pss_cons (ps_if ((PW.pt (pw_and ((pt_cmpR (op_eqU hr.units) (pv 4) (pe_int) (nomark _))) (pw_and1 ((pt_cmpR (op_neU hr.units) (pv 2) (pe_str) (nomark _))))))) (pss_cons (ps_asg ((pe_op op_addU ((pe_op op_addU ((pe_slice sl_U (pv 6) po_none (po_some (pv 7)))) ((pe_ix ix_seq (pv 2) ((pe_callF G_law_draw (hr.mono (by decide)) (by rfl) pass0 (pa_cons (pv 0) (pa_cons ((pe_callB call_lenU (by rfl) B.n_len (by decide +kernel) (pa_cons (pv 2) pa_nil))) pa_nil)))) (fun _ _ => rfl))))) ((pe_slice sl_U (pv 6) (po_some ((pe_op op_addU (pv 7) (pe_int)))) po_none)))) (pg_sub (pv 3) (pv 5) set_list))
      (pss_one (ps_ret ((pe_tupD (by rfl) B.n_tuple ((pe_callB (cr_sortTx hr.units) (by rfl) B.n_sorted (by decide +kernel) (pa_cons (pv 3) pa_nil)))))))) (pss_nil))
      (pss_cons (ps_if ((PW.pt (pw_and ((pt_cmpR (op_eqU hr.units) (pv 4) (pe_int) (nomark _))) (pw_and1 ((pt_cmpR (op_neU hr.units) (pv 2) (pe_str) (nomark _))))))) (pss_cons (ps_set (i := 8) nd rfl (Or.inr rfl) ((pe_callF G_law_draw (hr.mono (by decide)) (by rfl) pass0 (pa_cons (pv 0) (pa_cons ((pe_callB call_lenU (by rfl) B.n_len (by decide +kernel) (pa_cons (pv 2) pa_nil))) pa_nil)))))
      (pss_one (ps_ret ((pe_tupD (by rfl) B.n_tuple ((pe_op op_addU ((pe_op op_addU ((pe_slice sl_U (pv 3) po_none (po_some (pv 5)))) ((pe_lc (own := [("k", 10)]) (g := (gName 10)) (tt := (tTest (tOp (rNeU K) (tVar 10) (tVar 8)))) rfl nd ((pi_range1 (by rfl) B.n_range (pa_cons ((pe_callB call_lenU (by rfl) B.n_len (by decide +kernel) (pa_cons (pv 2) pa_nil))) pa_nil))) (blkOk_by (N := (N_law_bend : List Str)) (sc := defScope s_law_bend) (by decide +kernel)) (fun _ _ _ _ _ => (pg_name (i := 10) nd rfl (Or.inl rfl))) (fun _ _ _ _ _ => (pts_one ((pt_cmpR (op_neU hr.units) (pv 10) (pv 8) (nomark _))))) (fun _ _ _ _ _ => (pe_op op_addU (pv 6) ((pe_ix ix_seq (pv 2) (pv 10) (fun _ _ => rfl))))))))) ((pe_slice sl_U (pv 3) (po_some ((pe_op op_addU (pv 5) (pe_int)))) po_none))))))))) (pss_nil))
      (pss_cons (ps_if ((pt_cmpR (op_eqU hr.units) (pv 4) (pe_int) (nomark _))) (pss_cons (ps_asg ((pe_slice sl_U (pv 6) po_none (po_some ((pe_un un_neg (pe_int)))))) (pg_sub (pv 3) (pv 5) set_list))
      (pss_one (ps_ret ((pe_tupD (by rfl) B.n_tuple ((pe_callB (cr_sortTx hr.units) (by rfl) B.n_sorted (by decide +kernel) (pa_cons (pv 3) pa_nil)))))))) (pss_nil))
      (pss_cons (ps_if ((pt_cmpR (op_eqU hr.units) (pv 4) (pe_int) (nomark _))) (pss_cons (ps_set (i := 9) nd rfl (Or.inl rfl) ((pe_op op_addU ((pe_op op_addU ((pe_bm0 PySem.F.plainAttrs_str PySem.F.slot_str_upper PySem.F.type_str_upper mt_upper (pv 2))) ((pe_bm0 PySem.F.plainAttrs_str PySem.F.slot_str_lower PySem.F.type_str_lower mt_lower (pv 2))))) (pe_str))))
      (pss_cons (ps_asg ((pe_op op_addU ((pe_op op_addU ((pe_slice sl_U (pv 6) po_none (po_some (pv 7)))) ((pe_ix ix_seq (pv 9) ((pe_callF G_law_draw (hr.mono (by decide)) (by rfl) pass0 (pa_cons (pv 0) (pa_cons ((pe_callB call_lenU (by rfl) B.n_len (by decide +kernel) (pa_cons (pv 9) pa_nil))) pa_nil)))) (fun _ _ => rfl))))) ((pe_slice sl_U (pv 6) (po_some ((pe_op op_addU (pv 7) (pe_int)))) po_none)))) (pg_sub (pv 3) (pv 5) set_list))
      (pss_one (ps_ret ((pe_tupD (by rfl) B.n_tuple (pv 3))))))) (pss_nil))
      (pss_cons (ps_if ((pt_cmpR (op_eqU hr.units) (pv 4) (pe_int) (nomark _))) (pss_one (ps_ret ((pe_tupD (by rfl) B.n_tuple ((pe_op op_addU ((pe_op op_addU ((pe_slice sl_U (pv 3) po_none (po_some (pv 5)))) ((pe_lst (pa_cons ((pe_ix ix_seq ((pe_lst (pa_cons (pe_int) (pa_cons ((pe_un un_neg (pe_int))) (pa_cons ((pe_tup (pa_cons (pv 6) pa_nil))) (pa_cons ((pe_tup pa_nil)) (pa_cons ((pe_op op_powU (pe_int) (pe_int))) pa_nil))))))) ((pe_callF G_law_draw (hr.mono (by decide)) (by rfl) pass0 (pa_cons (pv 0) (pa_cons (pe_int) pa_nil)))) (fun _ _ => rfl))) pa_nil))))) ((pe_slice sl_U (pv 3) (po_some ((pe_op op_addU (pv 5) (pe_int)))) po_none)))))))) (pss_nil))
      (pss_one (ps_ret ((pe_callF G_law_spoil (hr.mono (by decide)) (by rfl) pass0 (pa_cons (pv 0) (pa_cons ((pe_tupD (by rfl) B.n_tuple (pv 3))) pa_nil))))))))))))))))))
theorem sc_law_right : FnScope N_law_right ["told", "letters"] (defScope s_law_right) := ⟨rfl, rfl, rfl, by decide +kernel, rfl, by decide +kernel, by decide +kernel⟩
theorem ok_law_right (D : At K mg "_law_right" s_law_right) (B : Bn mg) (G_is_complete : Fn P w K mg base CX0 2 "is_complete" ["words", "letters"] (sp_is_complete K)) (G_law_leaves : Fn P w K mg base CX0 1 "_law_leaves" ["told", "letters"] (sp_law_leaves K)) : Fn P w K mg base CX0 3 "_law_right" ["told", "letters"] (sp_law_right K) := by
  obtain ⟨f, fd, F, hm⟩ := D
  refine ⟨f, fd, F.ok sc_law_right (fun vs H Q E h => len_law_right h) (fun cdv A outer s H vs Q E hr h => ⟨t_law_right K, ?_, pure_law_right h⟩), hm, F.kp, F.binds fun _ _ _ _ _ _ us hl => match us, hl with | [_, _], _ => rfl⟩
  have nd := sc_law_right.nd
  exact pss_cons (ps_set (i := 2) nd rfl (Or.inl rfl) ((pe_callF G_is_complete (hr.mono (by decide)) (by rfl) pass0 (pa_cons (pv 0) (pa_cons (pv 1) pa_nil)))))
      (pss_one (ps_ret ((pe_and ((pe_callB call_isi (by rfl) B.n_isinstance (by decide +kernel) (pa_cons (pv 2) (pa_cons ((pe_bltn (by rfl) B.n_bool (by decide +kernel) rfl)) pa_nil)))) (pe_one ((pe_cmpR (op_eqU hr.units) (pv 2) ((pe_callF G_law_leaves (hr.mono (by decide)) (by rfl) pass0 (pa_cons (pv 0) (pa_cons (pv 1) pa_nil)))) (nomark _))))))))
theorem sc_law : FnScope N_law ["script"] (defScope s_law) := ⟨rfl, rfl, rfl, by decide +kernel, rfl, by decide +kernel, by decide +kernel⟩
theorem ok_lawF {f : Addr} {fd : FuncData} (F : Fun K "law" "law" s_law f fd) (B : Bn mg) (G_law_pool : Fn P w K mg base CX0 2 "_law_pool" ["script", "k"] (sp_law_pool K)) (G_law_draw : Fn P w K mg base CX0 1 "_law_draw" ["pool", "many"] (sp_law_draw K)) (G_law_some : Fn P w K mg base CX0 2 "_law_some" ["pool", "many", "signs"] (sp_law_some K)) (G_law_list : Fn P w K mg base CX0 2 "_law_list" ["pool", "letters"] (sp_law_list K)) (G_law_right : Fn P w K mg base CX0 3 "_law_right" ["told", "letters"] (sp_law_right K)) (G_law_bend : Fn P w K mg base CX0 4 "_law_bend" ["pool", "words", "letters"] (sp_law_bend K)) : FnOk P w K mg base CX0 5 f fd ["script"] (sp_law K) := by
  refine F.ok sc_law (fun vs H Q E h => len_law h) (fun cdv A outer s H vs Q E hr h => ⟨t_law K, ?_, pure_law h⟩)
  have nd := sc_law.nd
  exact pss_cons (ps_set (i := 1) nd rfl (Or.inl rfl) ((pe_callF G_law_pool (hr.mono (by decide)) (by rfl) pass0 (pa_cons (pv 0) (pa_cons (pe_int) pa_nil)))))
      (pss_cons (ps_set (i := 2) nd rfl (Or.inl rfl) (pe_str))
      (pss_cons (ps_if ((pt_cmpR (op_eqU hr.units) ((pe_callF G_law_draw (hr.mono (by decide)) (by rfl) pass0 (pa_cons (pv 1) (pa_cons (pe_int) pa_nil)))) (pe_int) (nomark _))) (pss_one (ps_set (i := 2) nd rfl (Or.inl rfl) (pe_str))) (pss_nil))
      (pss_cons (ps_set (i := 3) nd rfl (Or.inl rfl) ((pe_bm PySem.F.plainAttrs_str PySem.F.slot_str_join PySem.F.type_str_join mt_join (pe_str) (pa_cons ((pe_callB (cr_sortTx hr.units) (by rfl) B.n_sorted (by decide +kernel) (pa_cons ((pe_callTy (call_listTx rfl) (by rfl) B.n_list (by decide +kernel) (pa_cons ((pe_callF G_law_some (hr.mono (by decide)) (by rfl) pass0 (pa_cons (pv 1) (pa_cons ((pe_ix ix_seq ((pe_lst (pa_cons (pe_int) (pa_cons (pe_int) (pa_cons (pe_int) (pa_cons (pe_int) (pa_cons (pe_int) (pa_cons (pe_int) (pa_cons (pe_int) (pa_cons (pe_int) pa_nil)))))))))) ((pe_callF G_law_draw (hr.mono (by decide)) (by rfl) pass0 (pa_cons (pv 1) (pa_cons (pe_int) pa_nil)))) (fun _ _ => rfl))) (pa_cons (pv 2) pa_nil))))) pa_nil))) pa_nil))) pa_nil))))
      (pss_cons (ps_set (i := 4) nd rfl (Or.inl rfl) ((pe_callF G_law_list (hr.mono (by decide)) (by rfl) pass0 (pa_cons (pv 1) (pa_cons (pv 3) pa_nil)))))
      (pss_cons (ps_if ((pt_not ((pt_truU ((pe_callF G_law_right (hr.mono (by decide)) (by rfl) pass0 (pa_cons ((pe_tupD (by rfl) B.n_tuple (pv 4))) (pa_cons (pv 3) pa_nil)))) (by intro _; rfl))))) (pss_one (ps_ret (pe_bl))) (pss_nil))
      (pss_cons (ps_set (i := 1) nd rfl (Or.inl rfl) ((pe_callF G_law_pool (hr.mono (by decide)) (by rfl) pass0 (pa_cons (pv 0) (pa_cons (pe_int) pa_nil)))))
      (pss_cons (ps_for PassesOwn.never rfl (pi_range1 (by rfl) B.n_range (pa_cons ((pe_ix ix_seq ((pe_lst (pa_cons (pe_int) (pa_cons (pe_int) pa_nil)))) ((pe_callTy call_intB (by rfl) B.n_int (by decide +kernel) (pa_cons ((pe_cmpR (op_leU hr.units) ((pe_callB call_lenU (by rfl) B.n_len (by decide +kernel) (pa_cons (pv 4) pa_nil))) (pe_int) (nomark _))) pa_nil))) (fun _ _ => rfl))) pa_nil)) (pg_name (i := 5) nd rfl (Or.inl rfl)) (pss_one (ps_if ((pt_not ((pt_truU ((pe_callF G_law_right (hr.mono (by decide)) (by rfl) pass0 (pa_cons ((pe_callF G_law_bend (hr.mono (by decide)) (by rfl) pass0 (pa_cons (pv 1) (pa_cons (pv 4) (pa_cons (pv 3) pa_nil))))) (pa_cons (pv 3) pa_nil)))) (by intro _; rfl))))) (pss_one (ps_ret (pe_bl))) (pss_nil))))
      (pss_cons (ps_for PassesOwn.never rfl (pi_seqU ((pe_lst (pa_cons ((pe_tup (pa_cons (pe_str) pa_nil))) (pa_cons ((pe_tup pa_nil)) (pa_cons (pe_str) (pa_cons (pv 3) (pa_cons (pe_int) (pa_cons ((pe_ix ix_seq (pv 4) (pe_int) (fun _ _ => rfl))) (pa_cons ((pe_tup (pa_cons ((pe_tup pa_nil)) pa_nil))) (pa_cons ((pe_tup (pa_cons ((pe_tup (pa_cons (pe_str) pa_nil))) pa_nil))) (pa_cons ((pe_tup (pa_cons (pe_str) (pa_cons (pe_str) pa_nil)))) (pa_cons ((pe_tupTx rfl (by rfl) B.n_tuple (pv 3))) (pa_cons ((pe_op op_addU ((pe_tup (pa_cons (pe_str) pa_nil))) ((pe_tupD (by rfl) B.n_tuple (pv 4))))) pa_nil)))))))))))))) (pg_name (i := 6) nd rfl (Or.inl rfl)) (pss_one (ps_if ((pt_not ((pt_truU ((pe_callF G_law_right (hr.mono (by decide)) (by rfl) pass0 (pa_cons (pv 6) (pa_cons (pv 3) pa_nil)))) (by intro _; rfl))))) (pss_one (ps_ret (pe_bl))) (pss_nil))))
      (pss_one (ps_ret (pe_bl)))))))))))
end
theorem all_mk {l : PySem.W.OpenLaw} {w : World} {K : PySem.W.Frag} {h : Heap} {mg : Str → Option Value} {fa : Addr} (X : K.In h) (G : h.Ns mainGlobals mg) (hfa : mg "law" = some (.ref fa))
    {f1 : Addr} {od1 an1 : Option Addr} {sl1 : Array (Option Value)} {oc1 kV1 dc1 pm1 cd1 ct1 : Value}
    {f2 : Addr} {od2 an2 : Option Addr} {sl2 : Array (Option Value)} {oc2 kV2 dc2 pm2 cd2 ct2 : Value}
    {f3 : Addr} {od3 an3 : Option Addr} {sl3 : Array (Option Value)} {oc3 kV3 dc3 pm3 cd3 ct3 : Value}
    {f4 : Addr} {od4 an4 : Option Addr} {sl4 : Array (Option Value)} {oc4 kV4 dc4 pm4 cd4 ct4 : Value}
    {f5 : Addr} {od5 an5 : Option Addr} {sl5 : Array (Option Value)} {oc5 kV5 dc5 pm5 cd5 ct5 : Value}
    {f6 : Addr} {od6 an6 : Option Addr} {sl6 : Array (Option Value)} {oc6 kV6 dc6 pm6 cd6 ct6 : Value}
    {f7 : Addr} {od7 an7 : Option Addr} {sl7 : Array (Option Value)} {oc7 kV7 dc7 pm7 cd7 ct7 : Value}
    {f8 : Addr} {od8 an8 : Option Addr} {sl8 : Array (Option Value)} {oc8 kV8 dc8 pm8 cd8 ct8 : Value}
    {f9 : Addr} {od9 an9 : Option Addr} {sl9 : Array (Option Value)} {oc9 kV9 dc9 pm9 cd9 ct9 : Value}
    {f10 : Addr} {od10 an10 : Option Addr} {sl10 : Array (Option Value)} {oc10 kV10 dc10 pm10 cd10 ct10 : Value}
    {f11 : Addr} {od11 an11 : Option Addr} {sl11 : Array (Option Value)} {oc11 kV11 dc11 pm11 cd11 ct11 : Value}
    {f12 : Addr} {od12 an12 : Option Addr} {sl12 : Array (Option Value)} {oc12 kV12 dc12 pm12 cd12 ct12 : Value}
    {f13 : Addr} {od13 an13 : Option Addr} {sl13 : Array (Option Value)} {oc13 kV13 dc13 pm13 cd13 ct13 : Value}
    {f14 : Addr} {od14 an14 : Option Addr} {sl14 : Array (Option Value)} {oc14 kV14 dc14 pm14 cd14 ct14 : Value}
    {f15 : Addr} {od15 an15 : Option Addr} {sl15 : Array (Option Value)} {oc15 kV15 dc15 pm15 cd15 ct15 : Value}
    {f16 : Addr} {od16 an16 : Option Addr} {sl16 : Array (Option Value)} {oc16 kV16 dc16 pm16 cd16 ct16 : Value}
    {t_MOST_LETTERS : Tok}
    {t_MOST_WORDS : Tok}
    (a1 : PySem.W.nsIn K mainGlobals "is_word" = some (some (.ref f1)))
    (l1 : K.lookup f1 = some ⟨oc1, od1, .func (PySem.W.fnOf "is_word" "is_word" (defArgs s_is_word) (defBody s_is_word) (defScope s_is_word) .none kV1 dc1 pm1 an1 cd1 ct1), sl1⟩) (c1 : PySem.W.codeIn K cd1 "is_word" = true) (k1 : PySem.W.keepIn K (.ref f1) = true)
    (a2 : PySem.W.nsIn K mainGlobals "is_prefix_free" = some (some (.ref f2)))
    (l2 : K.lookup f2 = some ⟨oc2, od2, .func (PySem.W.fnOf "is_prefix_free" "is_prefix_free" (defArgs s_is_prefix_free) (defBody s_is_prefix_free) (defScope s_is_prefix_free) .none kV2 dc2 pm2 an2 cd2 ct2), sl2⟩) (c2 : PySem.W.codeIn K cd2 "is_prefix_free" = true) (k2 : PySem.W.keepIn K (.ref f2) = true)
    (a3 : PySem.W.nsIn K mainGlobals "powers_of" = some (some (.ref f3)))
    (l3 : K.lookup f3 = some ⟨oc3, od3, .func (PySem.W.fnOf "powers_of" "powers_of" (defArgs s_powers_of) (defBody s_powers_of) (defScope s_powers_of) .none kV3 dc3 pm3 an3 cd3 ct3), sl3⟩) (c3 : PySem.W.codeIn K cd3 "powers_of" = true) (k3 : PySem.W.keepIn K (.ref f3) = true)
    (a4 : PySem.W.nsIn K mainGlobals "is_complete" = some (some (.ref f4)))
    (l4 : K.lookup f4 = some ⟨oc4, od4, .func (PySem.W.fnOf "is_complete" "is_complete" (defArgs s_is_complete) (defBody s_is_complete) (defScope s_is_complete) .none kV4 dc4 pm4 an4 cd4 ct4), sl4⟩) (c4 : PySem.W.codeIn K cd4 "is_complete" = true) (k4 : PySem.W.keepIn K (.ref f4) = true)
    (a5 : PySem.W.nsIn K mainGlobals "_law_cell" = some (some (.ref f5)))
    (l5 : K.lookup f5 = some ⟨oc5, od5, .func (PySem.W.fnOf "_law_cell" "_law_cell" (defArgs s_law_cell) (defBody s_law_cell) (defScope s_law_cell) .none kV5 dc5 pm5 an5 cd5 ct5), sl5⟩) (c5 : PySem.W.codeIn K cd5 "_law_cell" = true) (k5 : PySem.W.keepIn K (.ref f5) = true)
    (a6 : PySem.W.nsIn K mainGlobals "_law_pool" = some (some (.ref f6)))
    (l6 : K.lookup f6 = some ⟨oc6, od6, .func (PySem.W.fnOf "_law_pool" "_law_pool" (defArgs s_law_pool) (defBody s_law_pool) (defScope s_law_pool) .none kV6 dc6 pm6 an6 cd6 ct6), sl6⟩) (c6 : PySem.W.codeIn K cd6 "_law_pool" = true) (k6 : PySem.W.keepIn K (.ref f6) = true)
    (a7 : PySem.W.nsIn K mainGlobals "_law_draw" = some (some (.ref f7)))
    (l7 : K.lookup f7 = some ⟨oc7, od7, .func (PySem.W.fnOf "_law_draw" "_law_draw" (defArgs s_law_draw) (defBody s_law_draw) (defScope s_law_draw) .none kV7 dc7 pm7 an7 cd7 ct7), sl7⟩) (c7 : PySem.W.codeIn K cd7 "_law_draw" = true) (k7 : PySem.W.keepIn K (.ref f7) = true)
    (a8 : PySem.W.nsIn K mainGlobals "_law_some" = some (some (.ref f8)))
    (l8 : K.lookup f8 = some ⟨oc8, od8, .func (PySem.W.fnOf "_law_some" "_law_some" (defArgs s_law_some) (defBody s_law_some) (defScope s_law_some) .none kV8 dc8 pm8 an8 cd8 ct8), sl8⟩) (c8 : PySem.W.codeIn K cd8 "_law_some" = true) (k8 : PySem.W.keepIn K (.ref f8) = true)
    (a9 : PySem.W.nsIn K mainGlobals "_law_bent" = some (some (.ref f9)))
    (l9 : K.lookup f9 = some ⟨oc9, od9, .func (PySem.W.fnOf "_law_bent" "_law_bent" (defArgs s_law_bent) (defBody s_law_bent) (defScope s_law_bent) .none kV9 dc9 pm9 an9 cd9 ct9), sl9⟩) (c9 : PySem.W.codeIn K cd9 "_law_bent" = true) (k9 : PySem.W.keepIn K (.ref f9) = true)
    (a10 : PySem.W.nsIn K mainGlobals "_law_spoil" = some (some (.ref f10)))
    (l10 : K.lookup f10 = some ⟨oc10, od10, .func (PySem.W.fnOf "_law_spoil" "_law_spoil" (defArgs s_law_spoil) (defBody s_law_spoil) (defScope s_law_spoil) .none kV10 dc10 pm10 an10 cd10 ct10), sl10⟩) (c10 : PySem.W.codeIn K cd10 "_law_spoil" = true) (k10 : PySem.W.keepIn K (.ref f10) = true)
    (a11 : PySem.W.nsIn K mainGlobals "_law_leaves" = some (some (.ref f11)))
    (l11 : K.lookup f11 = some ⟨oc11, od11, .func (PySem.W.fnOf "_law_leaves" "_law_leaves" (defArgs s_law_leaves) (defBody s_law_leaves) (defScope s_law_leaves) .none kV11 dc11 pm11 an11 cd11 ct11), sl11⟩) (c11 : PySem.W.codeIn K cd11 "_law_leaves" = true) (k11 : PySem.W.keepIn K (.ref f11) = true)
    (a12 : PySem.W.nsIn K mainGlobals "_law_split" = some (some (.ref f12)))
    (l12 : K.lookup f12 = some ⟨oc12, od12, .func (PySem.W.fnOf "_law_split" "_law_split" (defArgs s_law_split) (defBody s_law_split) (defScope s_law_split) .none kV12 dc12 pm12 an12 cd12 ct12), sl12⟩) (c12 : PySem.W.codeIn K cd12 "_law_split" = true) (k12 : PySem.W.keepIn K (.ref f12) = true)
    (a13 : PySem.W.nsIn K mainGlobals "_law_list" = some (some (.ref f13)))
    (l13 : K.lookup f13 = some ⟨oc13, od13, .func (PySem.W.fnOf "_law_list" "_law_list" (defArgs s_law_list) (defBody s_law_list) (defScope s_law_list) .none kV13 dc13 pm13 an13 cd13 ct13), sl13⟩) (c13 : PySem.W.codeIn K cd13 "_law_list" = true) (k13 : PySem.W.keepIn K (.ref f13) = true)
    (a14 : PySem.W.nsIn K mainGlobals "_law_bend" = some (some (.ref f14)))
    (l14 : K.lookup f14 = some ⟨oc14, od14, .func (PySem.W.fnOf "_law_bend" "_law_bend" (defArgs s_law_bend) (defBody s_law_bend) (defScope s_law_bend) .none kV14 dc14 pm14 an14 cd14 ct14), sl14⟩) (c14 : PySem.W.codeIn K cd14 "_law_bend" = true) (k14 : PySem.W.keepIn K (.ref f14) = true)
    (a15 : PySem.W.nsIn K mainGlobals "_law_right" = some (some (.ref f15)))
    (l15 : K.lookup f15 = some ⟨oc15, od15, .func (PySem.W.fnOf "_law_right" "_law_right" (defArgs s_law_right) (defBody s_law_right) (defScope s_law_right) .none kV15 dc15 pm15 an15 cd15 ct15), sl15⟩) (c15 : PySem.W.codeIn K cd15 "_law_right" = true) (k15 : PySem.W.keepIn K (.ref f15) = true)
    (a16 : PySem.W.nsIn K mainGlobals "law" = some (some (.ref f16)))
    (l16 : K.lookup f16 = some ⟨oc16, od16, .func (PySem.W.fnOf "law" "law" (defArgs s_law) (defBody s_law) (defScope s_law) .none kV16 dc16 pm16 an16 cd16 ct16), sl16⟩) (c16 : PySem.W.codeIn K cd16 "law" = true) (k16 : PySem.W.keepIn K (.ref f16) = true)
    (z_abs : PySem.W.nsIn K mainGlobals "abs" = some none)
    (z_all : PySem.W.nsIn K mainGlobals "all" = some none)
    (z_bool : PySem.W.nsIn K mainGlobals "bool" = some none)
    (z_int : PySem.W.nsIn K mainGlobals "int" = some none)
    (z_isinstance : PySem.W.nsIn K mainGlobals "isinstance" = some none)
    (z_len : PySem.W.nsIn K mainGlobals "len" = some none)
    (z_list : PySem.W.nsIn K mainGlobals "list" = some none)
    (z_max : PySem.W.nsIn K mainGlobals "max" = some none)
    (z_range : PySem.W.nsIn K mainGlobals "range" = some none)
    (z_sorted : PySem.W.nsIn K mainGlobals "sorted" = some none)
    (z_str : PySem.W.nsIn K mainGlobals "str" = some none)
    (z_sum : PySem.W.nsIn K mainGlobals "sum" = some none)
    (z_tuple : PySem.W.nsIn K mainGlobals "tuple" = some none)
    (q_MOST_LETTERS : PySem.W.nsIn K mainGlobals "MOST_LETTERS" = some (some (.int (60) t_MOST_LETTERS)))
    (q_MOST_WORDS : PySem.W.nsIn K mainGlobals "MOST_WORDS" = some (some (.int (5000) t_MOST_WORDS)))
    : ∃ fd : FuncData, (∀ (s : Shared) (v : Value), BindsTo s fd ⟨[v], []⟩ [("script", v)]) ∧ ∀ base : Heap, K.In base → base.Ns mainGlobals mg → FnOk l.prog w K mg base CX0 5 fa fd ["script"] (sp_law K) := by
  have e := hfa.symm.trans (PySem.W.mg_of X G a16)
  cases e
  have B : Bn mg := ⟨PySem.W.mg_none_of X G z_abs, PySem.W.mg_none_of X G z_all, PySem.W.mg_none_of X G z_bool, PySem.W.mg_none_of X G z_int, PySem.W.mg_none_of X G z_isinstance, PySem.W.mg_none_of X G z_len, PySem.W.mg_none_of X G z_list, PySem.W.mg_none_of X G z_max, PySem.W.mg_none_of X G z_range, PySem.W.mg_none_of X G z_sorted, PySem.W.mg_none_of X G z_str, PySem.W.mg_none_of X G z_sum, PySem.W.mg_none_of X G z_tuple, ⟨_, PySem.W.mg_of X G q_MOST_LETTERS⟩, ⟨_, PySem.W.mg_of X G q_MOST_WORDS⟩⟩
  have D1 : At K mg "is_word" s_is_word := ⟨_, _, fun_mk (st := s_is_word) l1 c1 k1, PySem.W.mg_of X G a1⟩
  have D2 : At K mg "is_prefix_free" s_is_prefix_free := ⟨_, _, fun_mk (st := s_is_prefix_free) l2 c2 k2, PySem.W.mg_of X G a2⟩
  have D3 : At K mg "powers_of" s_powers_of := ⟨_, _, fun_mk (st := s_powers_of) l3 c3 k3, PySem.W.mg_of X G a3⟩
  have D4 : At K mg "is_complete" s_is_complete := ⟨_, _, fun_mk (st := s_is_complete) l4 c4 k4, PySem.W.mg_of X G a4⟩
  have D5 : At K mg "_law_cell" s_law_cell := ⟨_, _, fun_mk (st := s_law_cell) l5 c5 k5, PySem.W.mg_of X G a5⟩
  have D6 : At K mg "_law_pool" s_law_pool := ⟨_, _, fun_mk (st := s_law_pool) l6 c6 k6, PySem.W.mg_of X G a6⟩
  have D7 : At K mg "_law_draw" s_law_draw := ⟨_, _, fun_mk (st := s_law_draw) l7 c7 k7, PySem.W.mg_of X G a7⟩
  have D8 : At K mg "_law_some" s_law_some := ⟨_, _, fun_mk (st := s_law_some) l8 c8 k8, PySem.W.mg_of X G a8⟩
  have D9 : At K mg "_law_bent" s_law_bent := ⟨_, _, fun_mk (st := s_law_bent) l9 c9 k9, PySem.W.mg_of X G a9⟩
  have D10 : At K mg "_law_spoil" s_law_spoil := ⟨_, _, fun_mk (st := s_law_spoil) l10 c10 k10, PySem.W.mg_of X G a10⟩
  have D11 : At K mg "_law_leaves" s_law_leaves := ⟨_, _, fun_mk (st := s_law_leaves) l11 c11 k11, PySem.W.mg_of X G a11⟩
  have D12 : At K mg "_law_split" s_law_split := ⟨_, _, fun_mk (st := s_law_split) l12 c12 k12, PySem.W.mg_of X G a12⟩
  have D13 : At K mg "_law_list" s_law_list := ⟨_, _, fun_mk (st := s_law_list) l13 c13 k13, PySem.W.mg_of X G a13⟩
  have D14 : At K mg "_law_bend" s_law_bend := ⟨_, _, fun_mk (st := s_law_bend) l14 c14 k14, PySem.W.mg_of X G a14⟩
  have D15 : At K mg "_law_right" s_law_right := ⟨_, _, fun_mk (st := s_law_right) l15 c15 k15, PySem.W.mg_of X G a15⟩
  have D16 : At K mg "law" s_law := ⟨_, _, fun_mk (st := s_law) l16 c16 k16, PySem.W.mg_of X G a16⟩
  have FL := fun_mk (st := s_law) l16 c16 k16
  refine ⟨PySem.W.fnOf "law" "law" (defArgs s_law) (defBody s_law) (defScope s_law) .none kV16 dc16 pm16 an16 cd16 ct16, fun s v => .of_eq rfl, fun base _ _ => ?_⟩
  have G1 := ok_is_word (P := l.prog) (w := w) (base := base) D1 B
  have G2 := ok_is_prefix_free (P := l.prog) (w := w) (base := base) D2 B
  have G3 := ok_powers_of (P := l.prog) (w := w) (base := base) D3 B
  have G4 := ok_is_complete (P := l.prog) (w := w) (base := base) D4 B G1 G2 G3
  have G5 := ok_law_cell (P := l.prog) (w := w) (base := base) D5 B
  have G6 := ok_law_pool (P := l.prog) (w := w) (base := base) D6 B G5
  have G7 := ok_law_draw (P := l.prog) (w := w) (base := base) D7 B
  have G8 := ok_law_some (P := l.prog) (w := w) (base := base) D8 B G7
  have G9 := ok_law_bent (P := l.prog) (w := w) (base := base) D9 B G7
  have G10 := ok_law_spoil (P := l.prog) (w := w) (base := base) D10 B G7 G9
  have G11 := ok_law_leaves (P := l.prog) (w := w) (base := base) D11 B
  have G12 := ok_law_split (P := l.prog) (w := w) (base := base) D12 B
  have G13 := ok_law_list (P := l.prog) (w := w) (base := base) D13 B G7 G12
  have G14 := ok_law_bend (P := l.prog) (w := w) (base := base) D14 B G7 G10
  have G15 := ok_law_right (P := l.prog) (w := w) (base := base) D15 B G4 G11
  exact ok_lawF FL B G6 G7 G8 G13 G15 G14
end K45
end Kb
open PySem PySem.W PyProof.Rows
set_option maxRecDepth 100000 in
set_option maxHeartbeats 0 in
theorem PySem.Challenge.cw_ringingchamber_k45_complete_lists_holds : PySem.Challenge.rw_ringingchamber_k45_complete_lists.Holds := by
  w_on; o_law; k_head; (case hw => w_witness2)
  k_fill
  refine L2.walk_of (l := PySem.Challenge.rw_ringingchamber_k45_complete_lists) (n := 63) (k := 5) (x := "script") (CX := fun _ => L2.CX0) (sp := fun w => Kb.K45.sp_law _) rfl (by decide) rfl ⟨rfl, by decide, by decide⟩ (fun w h Y => PySem.W.kIn_of Y) ?F (fun _ _ a ns hl _ hS => ⟨a, ns, rfl, hS, hl, fun _ => rfl⟩) (fun _ _ _ _ _ h => h)
  case F =>
    intro w mg fa h KX G hmg
    refine' Kb.K45.all_mk KX G hmg ?a1 ?l1 ?c1 ?k1 ?a2 ?l2 ?c2 ?k2 ?a3 ?l3 ?c3 ?k3 ?a4 ?l4 ?c4 ?k4 ?a5 ?l5 ?c5 ?k5 ?a6 ?l6 ?c6 ?k6 ?a7 ?l7 ?c7 ?k7 ?a8 ?l8 ?c8 ?k8 ?a9 ?l9 ?c9 ?k9 ?a10 ?l10 ?c10 ?k10 ?a11 ?l11 ?c11 ?k11 ?a12 ?l12 ?c12 ?k12 ?a13 ?l13 ?c13 ?k13 ?a14 ?l14 ?c14 ?k14 ?a15 ?l15 ?c15 ?k15 ?a16 ?l16 ?c16 ?k16 ?z_abs ?z_all ?z_bool ?z_int ?z_isinstance ?z_len ?z_list ?z_max ?z_range ?z_sorted ?z_str ?z_sum ?z_tuple ?q_MOST_LETTERS ?q_MOST_WORDS
    (case a1 => k_is); (case l1 => k_is); (case c1 => k_is); (case k1 => k_is); (case a2 => k_is); (case l2 => k_is); (case c2 => k_is); (case k2 => k_is); (case a3 => k_is); (case l3 => k_is); (case c3 => k_is); (case k3 => k_is); (case a4 => k_is); (case l4 => k_is); (case c4 => k_is); (case k4 => k_is); (case a5 => k_is); (case l5 => k_is); (case c5 => k_is); (case k5 => k_is); (case a6 => k_is); (case l6 => k_is); (case c6 => k_is); (case k6 => k_is); (case a7 => k_is); (case l7 => k_is); (case c7 => k_is); (case k7 => k_is); (case a8 => k_is); (case l8 => k_is); (case c8 => k_is); (case k8 => k_is); (case a9 => k_is); (case l9 => k_is); (case c9 => k_is); (case k9 => k_is); (case a10 => k_is); (case l10 => k_is); (case c10 => k_is); (case k10 => k_is); (case a11 => k_is); (case l11 => k_is); (case c11 => k_is); (case k11 => k_is); (case a12 => k_is); (case l12 => k_is); (case c12 => k_is); (case k12 => k_is); (case a13 => k_is); (case l13 => k_is); (case c13 => k_is); (case k13 => k_is); (case a14 => k_is); (case l14 => k_is); (case c14 => k_is); (case k14 => k_is); (case a15 => k_is); (case l15 => k_is); (case c15 => k_is); (case k15 => k_is); (case a16 => k_is); (case l16 => k_is); (case c16 => k_is); (case k16 => k_is); (case z_abs => k_is); (case z_all => k_is); (case z_bool => k_is); (case z_int => k_is); (case z_isinstance => k_is); (case z_len => k_is); (case z_list => k_is); (case z_max => k_is); (case z_range => k_is); (case z_sorted => k_is); (case z_str => k_is); (case z_sum => k_is); (case z_tuple => k_is); (case q_MOST_LETTERS => k_is); (case q_MOST_WORDS => k_is)
