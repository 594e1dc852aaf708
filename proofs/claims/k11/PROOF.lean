import PyProof.Rows.All
import Wide.All
import OpenK.AllK
import Wide.FinOn
import HandS.ForMost
import HandS.Conv
import HandS.IsInst
import HandS.Wide
import HandS.TupAny
import HandS.TupLe
import HandS.TupMul
import KE.KExcSuper
import KE.KExcIs
import HandS.Exc
import HandS.ExcInit
import HandS.ExcField
import HandS.ExcIs
import HandS.WordsExc
import KE.GoesEnumKw
import HandS.Iter
import HandS.Strs
import HandS.SetFor
import HandS.List
import KE.LtData
import HandS.Style
import HandS.Codes
import HandS.More
import KE.SortData
import PyProof.Rows.StrFirst
import PyProof.SliceStr2
import HandS.SortInts
import PyProof.StrLawsFirst
import PyProof.ListStr
import HandS.Zip
import HandS.ReplaceLit
import HandS.ReplaceList
import HandS.Walk
import PyProof.MinMaxWalk
import PyProof.WalkInts
import PyProof.Rows.CallKwBuiltin
import HandS.Dict
import PySem.Challenge.RW_ringingchamber_k11_texts_of_notation
set_option Elab.async false
set_option linter.all false
set_option maxRecDepth 100000
namespace Kb
open PySem PySem.Spec PyProof.Rows L2
section
variable {X : Cx}
def rAddU (K : PySem.W.Frag) : R2 := fun x y H Q => rI0 (fun i j => .int (i + j)) x y H Q ∨
  ((fun x y H Q => ∃ i j, x = V.str i ∧ y = V.str j ∧ i.length + j.length ≤ sizeLine ∧ Q (V.str (i ++ j)) H) x y H Q ∨ (rCat x y H Q ∨ rCatA K x y H Q))
theorem op_addU : OpR X (binaryOp .Add) (rAddU X.K) := OpR.or op_add (OpR.or op_add_str (OpR.or op_cat op_catA))
def rMulU (K : PySem.W.Frag) : R2 := fun x y H Q => rI CMul (fun i j => .int (i * j)) x y H Q ∨ (rI CMulW (fun i j => .int (i * j)) x y H Q ∨ (rRep x y H Q ∨ rRepT K x y H Q))
theorem op_mulU : OpR X (binaryOp .Mult) (rMulU X.K) := OpR.or op_mul (OpR.or op_mulW (OpR.or op_rep op_repT))
def rFdivU : R2 := rI CDivW (fun i j => .int (i / j))
theorem op_fdivU : OpR X (binaryOp .FloorDiv) rFdivU := op_fdivW
def rModU : R2 := rI (fun _ j => 0 < j) (fun i j => .int (i % j))
theorem op_modU : OpR X (binaryOp .Mod) rModU := op_mod
def rSubU : R2 := rI0 (fun i j => .int (i - j))
theorem op_subU : OpR X (binaryOp .Sub) rSubU := op_sub
def rPowU : R2 := rI CPow (fun i j => .int (i ^ j.toNat))
theorem op_powU : OpR X (binaryOp .Pow) rPowU := op_pow
def rEqU (K : PySem.W.Frag) : R2 := fun x y H Q => rEq x y H Q ∨ rEqD K x y H Q
theorem op_eqU (hu : X.A.units + 64 < cLine) : OpR X (compareOp .Eq) (rEqU X.K) := OpR.or op_eq (op_eqD hu)
def rNeU (K : PySem.W.Frag) : R2 := fun x y H Q => rNe x y H Q ∨ rNeD K x y H Q
theorem op_neU (hu : X.A.units + 64 < cLine) : OpR X (compareOp .NotEq) (rNeU X.K) := OpR.or op_ne (op_neD hu)
def rLtU (K : PySem.W.Frag) : R2 := fun x y H Q => rI0 (fun i j => .bl (decide (i < j))) x y H Q ∨
  ((fun x y H Q => ∃ i j, x = V.str i ∧ y = V.str j ∧ Q (V.bl (decide (i.cps.toList < j.cps.toList))) H) x y H Q ∨ rLtT K x y H Q)
theorem op_ltU (hu : X.A.units + 64 < cLine) : OpR X (compareOp .Lt) (rLtU X.K) := OpR.or op_lt (OpR.or op_lt_str (op_ltT (by omega)))
def rLeU (K : PySem.W.Frag) : R2 := fun x y H Q => rI0 (fun i j => .bl (decide (i ≤ j))) x y H Q ∨
  ((fun x y H Q => ∃ i j, x = V.str i ∧ y = V.str j ∧ Q (V.bl (!decide (j.cps.toList < i.cps.toList))) H) x y H Q ∨ rLeT K x y H Q)
theorem op_leU (hu : X.A.units + 64 < cLine) : OpR X (compareOp .LtE) (rLeU X.K) := OpR.or op_le (OpR.or op_le_str (op_leT (by omega)))
def rGtU : R2 := fun x y H Q => rI0 (fun i j => .bl (decide (j < i))) x y H Q ∨
  (fun x y H Q => ∃ i j, x = V.str i ∧ y = V.str j ∧ Q (V.bl (decide (j.cps.toList < i.cps.toList))) H) x y H Q
theorem op_gtU : OpR X (compareOp .Gt) rGtU := OpR.or op_gt op_gt_str
def rGeU : R2 := fun x y H Q => rI0 (fun i j => .bl (decide (j ≤ i))) x y H Q ∨
  (fun x y H Q => ∃ i j, x = V.str i ∧ y = V.str j ∧ Q (V.bl (!decide (i.cps.toList < j.cps.toList))) H) x y H Q
theorem op_geU : OpR X (compareOp .GtE) rGeU := OpR.or op_ge op_ge_str
def rInU (K : PySem.W.Frag) : R2 := fun x y H Q => rIn K false x y H Q ∨
  (fun x y H Q => ∃ (c : Nat) (z : Str), x = V.str ⟨#[c]⟩ ∧ y = V.str z ∧ Q (V.bl (decide (c ∈ z.cps.toList))) H) x y H Q
theorem op_inU : OpR X (compareOp .In) (rInU X.K) := OpR.or op_in_seq op_in_sign
def rIsNU : R2 := fun x y H Q => y = V.non ∧ Q (V.bl (decide (x = V.non))) H
def rNotNU : R2 := fun x y H Q => y = V.non ∧ Q (V.bl (!decide (x = V.non))) H
theorem op_notNU : OpR X (compareOp .IsNot) rNotNU := op_notN
def rSlU (K : PySem.W.Frag) : V → Option Int → Option Int → Hp → VK → Prop := fun x lo hi H Q => rSlL K x lo hi H Q ∨ (rSlA K x lo hi H Q ∨ rSlS x lo hi H Q)
theorem sl_U : SlR X (rSlU X.K) := SlR.or sl_list (SlR.or sl_tupA sl_str)
def rLenU (K : PySem.W.Frag) : List V → Hp → VK → Prop := fun xs H Q => (fun xs H Q => ∃ p ys, xs = [V.ref p] ∧ (SqL K H p ys ∨ SqT K H p ys) ∧ Q (V.int ys.length) H) xs H Q ∨
  ((fun xs H Q => ∃ z, xs = [V.str z] ∧ z.length ≤ sizeLine ∧ Q (V.int z.length) H) xs H Q ∨ (fun xs H Q => ∃ a kvs, xs = [V.ref a] ∧ H a = some (.dK kvs) ∧ Q (.int kvs.length) H) xs H Q)
theorem call_lenU : CallR X (.builtin "len") (rLenU X.K) := CallR.or call_len_seq (CallR.or call_len_str call_lenD)
def rIntU : List V → Hp → VK → Prop := fun xs H Q => ∃ i, xs = [V.int i] ∧ Q (V.int i) H
theorem call_intU : CallR X (.type "int") rIntU := fun pins s σ H xs us Q I r h => call_int1 pins s σ H xs us Q I r (.inl h)
def rAbsU : List V → Hp → VK → Prop := fun xs H Q => ∃ i, xs = [V.int i] ∧ Q (V.int (if i < 0 then -i else i)) H
theorem call_absU : CallR X (.builtin "abs") rAbsU := call_abs
def rListU (K : PySem.W.Frag) : List V → Hp → VK → Prop := fun xs H Q => ∃ p ys, xs = [V.ref p] ∧ (SqL K H p ys ∨ SqT K H p ys) ∧ ∀ l, H l = none → Q (V.ref l) (upd H l (.lst ys))
theorem call_listU : CallR X (.type "list") (rListU X.K) := call_list_of
theorem PI.or {tg e : Expr} {w1 w2 : TI} (h1 : PI X tg e w1) (h2 : PI X tg e w2) : PI X tg e (fun σ H R => w1 σ H R ∨ w2 σ H R) := by
  refine ⟨fun pins s σ H R I h => ?_⟩
  rcases h with h | h
  · exact h1.run pins s σ H R I h
  · exact h2.run pins s σ H R I h
def iSeqU (K : PySem.W.Frag) (te : TE) : TI := fun σ H R => iList K te σ H R ∨ (iTup K te σ H R ∨ iStr te σ H R)
theorem pi_seqU {tg e : Expr} {te : TE} (he : PE X e te) : PI X tg e (iSeqU X.K te) := PI.or (pi_list he) (PI.or (pi_tup he) (pi_str he))
def tTru (K : PySem.W.Frag) (ta : TE) : TT := fun σ H Q => ta σ H fun x H' => ∃ k, TruV K x H' k ∧ Q k H'
theorem pt_truU {a : Expr} {ta : TE} (h : PE X a ta) (hq : ∀ whole, isTrue a X.env whole = (do let v ← whole; standAt a.pos; holding [v] (truthy v))) : PT X a (tTru X.K ta) := pt_truth h hq
/-- a tuple that tuple(..) has made: the object is told, it has no dict (a method may be asked of it) -/
def kTupD (K : PySem.W.Frag) (x : V) (H : Hp) (Q : VK) : Prop :=
  (∃ p xs, x = .ref p ∧ SqL K H p xs ∧ ∀ (q : Addr) (o : Obj), H q = none → o.dict = none → Q (.ref q) (upd H q (.frz o (.tup xs)))) ∨ (∃ p xs, x = .ref p ∧ SqT K H p xs ∧ Q (.ref p) H)
theorem rl_tupD (pins : List (Addr × Obj)) (s : Shared) (σ : L2.St) (H : Hp) (x : V) (v : Value) (Q : VK) (I : Inv X pins σ H s) (r : RelV x v) (h : kTupD X.K x H Q) :
    wpAny (model X.prog X.w) X.A (call (.type "tuple") [v]) (EP X pins σ Q) X.xe s := by
  rcases h with ⟨p, xs, rfl, hs, q⟩ | ⟨p, xs, rfl, hs, q⟩
  · obtain rfl : v = .ref p := r
    obtain ⟨its, rv, pl, hz⟩ := I.list hs
    refine call_tuple_list pl.isList (fun h' hk => ?_) (by rw [List.size_toArray, ← rv.length]; exact hz)
    have I1 : Inv X pins σ H { s with heap := h' } := I.kept (t' := s.toks) hk
    have I2 : Inv X pins σ (upd H h'.objs.size (.frz { cls := .type "tuple", data := .seq its.toArray } (.tup xs))) { s with heap := h'.push { cls := .type "tuple", data := .seq its.toArray } } :=
      I1.laid (t' := s.toks) (fun b o e => Heap.get?_push_of_some _ e) (Nat.le_refl _) (show ObjOk X.prog X.w _ _ _ (.frz _ (.tup xs)) from ⟨Heap.get?_push_size _ rfl, hz, its, rv, IsTup.new _ _⟩)
    exact ⟨.ref h'.objs.size, _, I2, rfl, q _ _ (I1.hok.fresh (Nat.le_refl _)) rfl⟩
  · obtain rfl : v = .ref p := r
    obtain ⟨its, rv, pl, hz⟩ := I.tuple hs
    exact call_tuple_tup pl ⟨.ref p, H, I, rfl, q⟩
theorem pe_tupD {a : Expr} {ta : TE} {p pos : Pos} (hg : Gl X "tuple") (hm : X.mg "tuple" = none) (ha : PE X a ta) (na : starEach [a] X.env = (false, eval a X.env) :: starEach [] X.env := by rfl) :
    PE X (.Call (.Name "tuple" p) [a] [] pos) (tThen ta (kTupD X.K)) := by
  refine ⟨fun pins s σ H Q I h => ?_⟩
  exact Call_ (ld_blt I hg hm boot_tuple (PyProof.Rows.callWith_type1 (one_arg ha I h (fun v s2 x H2 I2 r q => rl_tupD pins s2 σ H2 x v Q I2 r q) na) na))
/-- the object at p is told and has no dict -/
def NoD (H : Hp) (p : Addr) : Prop := ∃ (o : Obj) (u : HO), H p = some (.frz o u) ∧ o.dict = none
def tBMT (K : PySem.W.Frag) (r : V → List V → Hp → VK → Prop) (to : TE) (t : TA) : TE := fun σ H Q => to σ H fun x H1 => (∃ p xs, x = .ref p ∧ SqT K H1 p xs ∧ NoD H1 p) ∧ t σ H1 fun xs H2 => r x xs H2 Q
end
end Kb
set_option Elab.async false
set_option linter.all false
set_option maxRecDepth 100000
namespace Kb
open PySem PySem.Spec PyProof.Rows L2
structure Fn (P : Program) (w : World) (K : PySem.W.Frag) (mg : Str → Option Value) (base : Heap) (CX : CXT) (k : Nat) (x : Str) (ps : List Str) (sp : Sp) : Prop where
  ex : ∃ f fd, FnOk P w K mg base CX k f fd ps sp ∧ mg x = some (.ref f) ∧ PySem.W.keepIn K (.ref f) = true ∧ Binds K fd ps []
def At (K : PySem.W.Frag) (mg : Str → Option Value) (x : Str) (st : Stmt) : Prop := ∃ f fd, Fun K x x st f fd ∧ mg x = some (.ref f)
section
variable {X : Cx} {CX : CXT} {k : Nat} {ps : List Str} {sp : Sp} {E : XK} {x : Str} {p pos : Pos} {e : Expr} {es : List Expr} {t : TA}
theorem pe_callF (G : Fn X.prog X.w X.K X.mg X.base CX k x ps sp) (hr : Room k X.A) (hg : Gl X x) (hx : Passes CX X E) (ha : PA X (e :: es) t) (hdb : (x == ("__debug__" : Str)) = false := by decide)
    (he : starEach (e :: es) X.env = (false, eval e X.env) :: starEach es X.env := by rfl) (hpl : (backTo pos (starEach es X.env)).any (·.1) = false := by rfl) : PE X (.Call (.Name x p) (e :: es) [] pos) (tCall sp [] E t) := by
  obtain ⟨f, fd, F, hm, hk, hb⟩ := G.ex
  exact pe_call F hr hg hm hk hb .nil hx ha hdb he hpl
end
/-- all but l is as it was -/
def But (l : Addr) (H H' : Hp) : Prop := ∀ b o, b ≠ l → H b = some o → H' b = some o
section
variable {K : PySem.W.Frag} {H H1 H2 H' : Hp} {a l p : Addr} {o u : HO} {xs ys : List V} {ns : List Int}
theorem same_new (h : H p = none) : Same H (upd H p o) := fun b x e => by rw [upd_ne (ne_of_none e h)]; exact e
theorem but_upd : But l H (upd H l o) := fun b x n e => by rw [upd_ne n]; exact e
theorem But.trans (a : But l H H1) (b : But l H1 H2) : But l H H2 := fun c o n h => b c o n (a c o n h)
theorem But.refl : But l H H := fun _ _ _ h => h
theorem Same.but (s : Same H H') : But l H H' := fun b o _ h => s b o h
theorem rd_same (s : Same H H') (h : Rd H a u) : Rd H' a u := by
  rcases h with h | ⟨o, h⟩
  · exact .inl (s _ _ h)
  · exact .inr ⟨o, s _ _ h⟩
theorem sqT_same (s : Same H H') (h : SqT K H a xs) : SqT K H' a xs := by
  rcases h with h | h
  · exact .inl (rd_same s h)
  · exact .inr h
theorem sqL_same (s : Same H H') (h : SqL K H a xs) : SqL K H' a xs := s.seq h
theorem sqT_but (b : But l H H') (hl : H l = some (.lst ys)) (h : SqT K H a xs) : SqT K H' a xs := by
  rcases h with (h | ⟨o, h⟩) | h
  · exact .inl (.inl (b _ _ (ne_of h hl (by intro z; cases z)) h))
  · exact .inl (.inr ⟨o, b _ _ (ne_of h hl (by intro z; cases z)) h⟩)
  · exact .inr h
theorem sqL_but (b : But l H H') (hne : a ≠ l) (h : SqL K H a xs) : SqL K H' a xs := by
  rcases h with (h | ⟨o, h⟩) | h
  · exact .inl (.inl (b _ _ hne h))
  · exact .inl (.inr ⟨o, b _ _ hne h⟩)
  · exact .inr h
theorem at_same (s : Same H H') (h : H a = some o) : H' a = some o := s _ _ h
theorem at_but (b : But l H H') (hne : a ≠ l) (h : H a = some o) : H' a = some o := b _ _ hne h
theorem sqL_of (h : H a = some (.lst xs)) : SqL K H a xs := .inl (.inl h)
theorem sqT_of (h : H a = some (.tup xs)) : SqT K H a xs := .inl (.inl h)
/-- a but of an object that the first heap doesn't know is a same -/
theorem But.same (b : But l H H') (h : H l = none) : Same H H' := fun c o e => b c o (ne_of_none e h) e
theorem same_but (s : Same H H1) (b : But l H1 H2) (h : H l = none) : Same H H2 := fun c o e => b c o (ne_of_none e h) (s c o e)
end
def PB (x : V) (H : Hp) (QB : Bool → Hp → Prop) : Prop := ∃ k, x = .bl k ∧ QB k H
def PIf (x : V) (A B : Prop) : Prop := ∃ c, x = .bl c ∧ if c = true then A else B
def PTr (K : PySem.W.Frag) (x : V) (H : Hp) (QB : Bool → Hp → Prop) : Prop := ∃ k, TruV K x H k ∧ QB k H
def PNew (z : Prop) (o : HO) (H : Hp) (Q : VK) : Prop := z ∧ ∀ p, H p = none → Q (.ref p) (upd H p o)
def PI2 (x y : V) (QR : Int → Int → Prop) : Prop := ∃ i j, x = .int i ∧ y = .int j ∧ QR i j
def PI1 (x : V) (QR : Int → Prop) : Prop := ∃ i, x = .int i ∧ QR i
def PNot (x : V) (H : Hp) (Q : VK) : Prop := ∃ c, x = .bl c ∧ Q (.bl (!c)) H
section
variable {K : PySem.W.Frag} {D : Ends} {σ : L2.St} {H : Hp} {t u : TS} {te ta tb : TE} {g : TG} {c d : TT} {Q : VK} {QB : Bool → Hp → Prop} {v x y : V} {i j : Nat} {m n : Int} {b : Bool}
theorem r_seq (h : t { D with nx := u D } σ H) : tSeq t u D σ H := h
theorem r_next (h : D.nx σ H) : tNext D σ H := h
theorem r_asg (h : te σ H fun x H1 => g x σ H1 D.nx) : tAsg te g D σ H := h
theorem r_name {N : L2.St → Hp → Prop} (h : N (σ.set i (some v)) H) : gName i v σ H N := h
theorem r_drop (h : te σ H fun _ H1 => D.nx σ H1) : tDrop te D σ H := h
theorem r_ret (h : te σ H D.rt) : tRet te D σ H := h
theorem r_retN (h : D.rt .non H) : tRetN D σ H := h
theorem r_if (h : c σ H fun b H1 => if b = true then t D σ H1 else u D σ H1) : tIfS c t u D σ H := h
theorem r_brk (h : D.bk σ H) : tBreak D σ H := h
theorem r_cont (h : D.ct σ H) : tCont D σ H := h
theorem r_var (h : σ[i]? = some (some v)) (q : Q v H) : tVar i σ H Q := ⟨v, h, q⟩
theorem r_c (q : Q v H) : tC v σ H Q := q
theorem r_op {r : R2} (h : ta σ H fun x H1 => tb σ H1 fun y H2 => r x y H2 Q) : tOp r ta tb σ H Q := h
theorem r_un {r : V → Hp → VK → Prop} (h : ta σ H fun x H1 => r x H1 Q) : tUn r ta σ H Q := h
theorem r_neg (q : Q (.int (-m)) H) : rU (fun i => .int (-i)) (.int m) H Q := ⟨m, rfl, q⟩
theorem r_addI (q : Q (.int (m + n)) H) : rAddU K (.int m) (.int n) H Q := .inl ⟨m, n, rfl, rfl, q⟩
theorem r_addS {z w : Str} (hz : z.length + w.length ≤ sizeLine) (q : Q (.str (z ++ w)) H) : rAddU K (.str z) (.str w) H Q := .inr (.inl ⟨z, w, rfl, rfl, hz, q⟩)
theorem r_subI (q : Q (.int (m - n)) H) : rSubU (.int m) (.int n) H Q := ⟨m, n, rfl, rfl, q⟩
theorem r_mulI (c : CMul m n) (q : Q (.int (m * n)) H) : rMulU K (.int m) (.int n) H Q := .inl ⟨m, n, rfl, rfl, c, q⟩
theorem r_fdiv (h0 : 0 < n) (h1 : n.natAbs.log2 < 9000) (q : Q (.int (m / n)) H) : rFdivU (.int m) (.int n) H Q := ⟨m, n, rfl, rfl, ⟨h0, h1⟩, q⟩
theorem r_mod (h0 : 0 < n) (q : Q (.int (m % n)) H) : rModU (.int m) (.int n) H Q := ⟨m, n, rfl, rfl, h0, q⟩
theorem r_pow (h0 : CPow m n) (q : Q (.int (m ^ n.toNat)) H) : rPowU (.int m) (.int n) H Q := ⟨m, n, rfl, rfl, h0, q⟩
theorem r_eqI (q : Q (.bl (decide (m = n))) H) : rEqU K (.int m) (.int n) H Q := .inl ⟨rfl, by
  have e : decide (V.int m = V.int n) = decide (m = n) := by by_cases h : m = n <;> simp [h]
  rw [e]; exact q⟩
theorem r_neI (q : Q (.bl (!decide (m = n))) H) : rNeU K (.int m) (.int n) H Q := .inl ⟨rfl, by
  have e : decide (V.int m = V.int n) = decide (m = n) := by by_cases h : m = n <;> simp [h]
  rw [e]; exact q⟩
theorem r_ltI (q : Q (.bl (decide (m < n))) H) : rLtU K (.int m) (.int n) H Q := .inl ⟨m, n, rfl, rfl, q⟩
theorem r_leI (q : Q (.bl (decide (m ≤ n))) H) : rLeU K (.int m) (.int n) H Q := .inl ⟨m, n, rfl, rfl, q⟩
theorem r_gtI (q : Q (.bl (decide (n < m))) H) : rGtU (.int m) (.int n) H Q := .inl ⟨m, n, rfl, rfl, q⟩
theorem r_geI (q : Q (.bl (decide (n ≤ m))) H) : rGeU (.int m) (.int n) H Q := .inl ⟨m, n, rfl, rfl, q⟩
theorem r_isN (q : Q (.bl (decide (x = .non))) H) : rIsNU x .non H Q := ⟨rfl, q⟩
theorem r_notN (q : Q (.bl (!decide (x = .non))) H) : rNotNU x .non H Q := ⟨rfl, q⟩
theorem r_test (h : te σ H fun x H' => PB x H' QB) : tTest te σ H QB := h
theorem r_B (h : te σ H fun x H' => PB x H' QB) : tB te σ H QB := h
theorem r_k (q : QB b H) : PB (.bl b) H QB := ⟨b, rfl, q⟩
theorem r_not (h : c σ H fun b H1 => QB (!b) H1) : tNot c σ H QB := h
theorem r_and (h : c σ H fun b H1 => if b = true then d σ H1 QB else QB false H1) : tAnd c d σ H QB := h
theorem r_or (h : c σ H fun b H1 => if b = true then QB true H1 else d σ H1 QB) : tOr c d σ H QB := h
theorem r_andV (h : ta σ H fun x H1 => PIf x (tb σ H1 Q) (Q (.bl false) H1)) : tAndV ta tb σ H Q := h
theorem r_orV (h : ta σ H fun x H1 => PIf x (Q (.bl true) H1) (tb σ H1 Q)) : tOrV ta tb σ H Q := h
theorem r_pif {A B : Prop} (h : if b = true then A else B) : PIf (.bl b) A B := ⟨b, rfl, h⟩
theorem r_notV (h : ta σ H fun x H1 => PNot x H1 Q) : tNotV ta σ H Q := h
theorem r_pnot (q : Q (.bl (!b)) H) : PNot (.bl b) H Q := ⟨b, rfl, q⟩
theorem r_ifE (h : c σ H fun b H1 => if b = true then ta σ H1 Q else tb σ H1 Q) : tIf c ta tb σ H Q := h
theorem r_chain {r r' : R2} {tc : TE} (h : ta σ H fun x H1 => tb σ H1 fun y H2 => r x y H2 fun z H3 => PIf z (tc σ H3 fun w' H4 => r' y w' H4 Q) (Q (.bl false) H3)) : tChain r r' ta tb tc σ H Q := h
theorem r_tru (h : ta σ H fun x H' => PTr K x H' QB) : tTru K ta σ H QB := h
theorem r_truB (q : QB b H) : PTr K (.bl b) H QB := ⟨b, rfl, q⟩
theorem r_truI (q : QB (m != 0) H) : PTr K (.int m) H QB := ⟨_, rfl, q⟩
theorem r_truL {p : Addr} {xs : List V} (h : SqL K H p xs) (q : QB (!xs.isEmpty) H) : PTr K (.ref p) H QB := ⟨_, .inl ⟨xs, h, rfl⟩, q⟩
theorem r_truT {p : Addr} {xs : List V} (h : SqT K H p xs) (q : QB (!xs.isEmpty) H) : PTr K (.ref p) H QB := ⟨_, .inr (.inl ⟨xs, h, rfl⟩), q⟩
theorem r_nil {QA : List V → Hp → Prop} (q : QA [] H) : tNil σ H QA := q
theorem r_cons {tr : TA} {QA : List V → Hp → Prop} (h : ta σ H fun x H1 => tr σ H1 fun xs H2 => QA (x :: xs) H2) : tCons ta tr σ H QA := h
theorem r_CB {r : List V → Hp → VK → Prop} {ts : TA} (h : ts σ H fun vs H1 => r vs H1 Q) : tCB r ts σ H Q := h
theorem r_lenL {p : Addr} {xs : List V} (h : SqL K H p xs) (q : Q (.int (xs.length : Int)) H) : rLenU K [.ref p] H Q := .inl ⟨p, xs, rfl, .inl h, q⟩
theorem r_lenT {p : Addr} {xs : List V} (h : SqT K H p xs) (q : Q (.int (xs.length : Int)) H) : rLenU K [.ref p] H Q := .inl ⟨p, xs, rfl, .inr h, q⟩
theorem r_lenS {z : Str} (h : z.length ≤ sizeLine) (q : Q (.int (z.length : Int)) H) : rLenU K [.str z] H Q := .inr (.inl ⟨z, rfl, h, q⟩)
theorem r_int (q : Q (.int m) H) : rIntU [.int m] H Q := ⟨m, rfl, q⟩
theorem r_abs (q : Q (.int (if m < 0 then -m else m)) H) : rAbsU [.int m] H Q := ⟨m, rfl, q⟩
theorem r_ixL {p : Addr} {xs : List V} (h : SqL K H p xs) (ha : atI xs m = some v) (q : Q v H) : rIx K (.ref p) (.int m) H Q := .inl ⟨p, xs, m, v, rfl, rfl, h, ha, q⟩
theorem r_ixT {p : Addr} {xs : List V} (h : SqT K H p xs) (ha : atI xs m = some v) (q : Q v H) : rIx K (.ref p) (.int m) H Q := .inr (.inl ⟨p, xs, m, v, rfl, rfl, h, ha, q⟩)
theorem r_ixS {z : Str} {c : Nat} (h : z.length ≤ sizeLine) (ha : atI z.cps.toList m = some c) (q : Q (.str ⟨#[c]⟩) H) : rIx K (.str z) (.int m) H Q := .inr (.inr ⟨z, m, c, rfl, rfl, h, ha, q⟩)
theorem r_tup {ts : TA} (h : ts σ H fun xs H1 => PNew (xs.length ≤ sizeLine) (.tup xs) H1 Q) : tTup ts σ H Q := h
theorem r_lst {ts : TA} (h : ts σ H fun xs H1 => PNew (xs.length ≤ sizeLine) (.lst xs) H1 Q) : tLst ts σ H Q := h
theorem r_new {z : Prop} {o : HO} (hz : z) (k : ∀ p H', H p = none → Same H H' → H' p = some o → Q (.ref p) H') : PNew z o H Q := ⟨hz, fun p hp => k p _ hp (same_new hp) upd_same⟩
theorem r_call {sp : Sp} {E : XK} {ts : TA} (h : ts σ H fun vs H1 => sp (vs ++ []) H1 Q E) : tCall sp [] E ts σ H Q := h
theorem r_BM {T : String} {r : V → List V → Hp → VK → Prop} {ts : TA} (h : ta σ H fun x H1 => tyV K T x H1 ∧ ts σ H1 fun xs H2 => r x xs H2 Q) : tBM K T r ta ts σ H Q := h
theorem r_BM0 {T : String} {r : V → List V → Hp → VK → Prop} (h : ta σ H fun x H1 => tyV K T x H1 ∧ r x [] H1 Q) : tBM0 K T r ta σ H Q := h
theorem r_tyL {p : Addr} {xs : List V} {A : Prop} (h : SqL K H p xs) (a : A) : tyV K "list" (.ref p) H ∧ A := ⟨Or.inl ⟨rfl, _, h⟩, a⟩
theorem r_tyS {z : Str} {A : Prop} (a : A) : tyV K "str" (.str z) H ∧ A := ⟨rfl, a⟩
theorem r_append {p : Addr} {xs : List V} (h : H p = some (.lst xs)) (hz : xs.length < sizeLine) (k : ∀ H', But p H H' → H' p = some (.lst (xs ++ [y])) → Q .non H') : rAppend (.ref p) [y] H Q := ⟨p, xs, y, rfl, rfl, h, hz, k _ but_upd upd_same⟩
theorem r_pop {p : Addr} {xs : List V} (h : H p = some (.lst (xs ++ [y]))) (k : ∀ H', But p H H' → H' p = some (.lst xs) → Q y H') : rPop (.ref p) [] H Q := by
  refine ⟨p, xs ++ [y], y, rfl, rfl, h, ?_, ?_⟩
  · simp
  · rw [List.dropLast_concat]; exact k _ but_upd upd_same
theorem r_then {kk : V → Hp → VK → Prop} (h : ta σ H fun x H1 => kk x H1 Q) : tThen ta kk σ H Q := h
theorem r_kTupL {p : Addr} {xs : List V} (h : SqL K H p xs) (k : ∀ q H', H q = none → Same H H' → (∃ o : Obj, H' q = some (.frz o (.tup xs)) ∧ o.dict = none) → Q (.ref q) H') : kTupD K (.ref p) H Q := .inl ⟨p, xs, rfl, h, fun q o hq ho => k q _ hq (same_new hq) ⟨o, upd_same, ho⟩⟩
theorem r_kTupT {p : Addr} {xs : List V} (h : SqT K H p xs) (q : Q (.ref p) H) : kTupD K (.ref p) H Q := .inr ⟨p, xs, rfl, h, q⟩
theorem sqT_ofD {q : Addr} {xs : List V} (h : ∃ o : Obj, H q = some (.frz o (.tup xs)) ∧ o.dict = none) : SqT K H q xs := by
  obtain ⟨o, e, _⟩ := h
  exact .inl (.inr ⟨o, e⟩)
theorem noD_of {q : Addr} {xs : List V} (h : ∃ o : Obj, H q = some (.frz o (.tup xs)) ∧ o.dict = none) : NoD H q := by
  obtain ⟨o, e, d⟩ := h
  exact ⟨o, _, e, d⟩
theorem noD_same {H H' : Hp} {q : Addr} (s : Same H H') (h : NoD H q) : NoD H' q := by
  obtain ⟨o, u, e, d⟩ := h
  exact ⟨o, u, s _ _ e, d⟩
theorem r_listL {p : Addr} {xs : List V} (h : SqL K H p xs) (k : ∀ q H', H q = none → Same H H' → H' q = some (.lst xs) → Q (.ref q) H') : rListU K [.ref p] H Q := ⟨p, xs, rfl, .inl h, fun q hq => k q _ hq (same_new hq) upd_same⟩
theorem r_listT {p : Addr} {xs : List V} (h : SqT K H p xs) (k : ∀ q H', H q = none → Same H H' → H' q = some (.lst xs) → Q (.ref q) H') : rListU K [.ref p] H Q := ⟨p, xs, rfl, .inr h, fun q hq => k q _ hq (same_new hq) upd_same⟩
theorem r_lstRg {tr : L2.St → Hp → (Int → Int → Hp → Prop) → Prop} (h : tr σ H fun a b H1 => PNew (RgOk a b) (.lst (rgV a b)) H1 Q) : tLstRg tr σ H Q := h
theorem r_tupRg {tr : L2.St → Hp → (Int → Int → Hp → Prop) → Prop} (h : tr σ H fun a b H1 => PNew (RgOk a b) (.tup (rgV a b)) H1 Q) : tTupRg tr σ H Q := h
theorem r_rg2 {QR : Int → Int → Hp → Prop} (h : ta σ H fun x H1 => tb σ H1 fun y H2 => PI2 x y fun i j => QR i j H2) : tRg2 ta tb σ H QR := h
theorem r_rg1 {QR : Int → Int → Hp → Prop} (h : ta σ H fun x H1 => PI1 x fun n => QR 0 n H1) : tRg1 ta σ H QR := h
theorem r_ii {QR : Int → Int → Prop} (q : QR m n) : PI2 (.int m) (.int n) QR := ⟨m, n, rfl, rfl, q⟩
theorem r_i {QR : Int → Prop} (q : QR m) : PI1 (.int m) QR := ⟨m, rfl, q⟩
theorem r_gsub {ti : TE} {to : TE} {ts : TSet} {N : L2.St → Hp → Prop} (h : to σ H fun o H1 => ti σ H1 fun i H2 => ts o i v H2 fun H3 => N σ H3) : gSub to ti ts v σ H N := h
theorem r_setL {N : Hp → Prop} {p : Addr} {xs : List V} {k : Nat} (h : H p = some (.lst xs)) (hk : ixN xs.length m = some k) (q : ∀ H', But p H H' → H' p = some (.lst (xs.set k v)) → N H') : rSetL (.ref p) (.int m) v H N := ⟨p, xs, m, k, rfl, rfl, h, hk, q _ but_upd upd_same⟩
theorem r_aug {ti : TIp} (h : σ[i]? = some (some x)) (q : te σ H fun y H1 => ti x y H1 fun z H2 => D.nx (σ.set i (some z)) H2) : tAug i te ti D σ H := ⟨x, h, q⟩
theorem r_ipI {f : Int → Int → Int} (q : Q (.int (f m n)) H) : ipI f (.int m) (.int n) H Q := ⟨m, n, rfl, rfl, q⟩
theorem r_noPart {QO : Option Int → Hp → Prop} (q : QO none H) : tNoPart σ H QO := q
theorem r_part {QO : Option Int → Hp → Prop} (h : te σ H fun x H1 => PI1 x fun i => QO (some i) H1) : tPart te σ H QO := h
theorem r_sl {r : V → Option Int → Option Int → Hp → VK → Prop} {tl th : TO} (h : te σ H fun x H1 => tl σ H1 fun l H2 => th σ H2 fun u H3 => r x l u H3 Q) : tSl r te tl th σ H Q := h
theorem r_ite {c : Prop} [Decidable c] {A B : Prop} (h1 : c → A) (h2 : ¬ c → B) : if decide c = true then A else B := by
  by_cases h : c
  · rw [if_pos (decide_eq_true h)]; exact h1 h
  · rw [if_neg (by simp [h])]; exact h2 h
theorem r_iteN {c : Prop} [Decidable c] {A B : Prop} (h1 : ¬ c → A) (h2 : c → B) : if (!decide c) = true then A else B := by
  by_cases h : c
  · rw [if_neg (by simp [h])]; exact h2 h
  · rw [if_pos (by simp [h])]; exact h1 h
theorem r_iteP {c : Prop} [Decidable c] {A B : Prop} (h : c) (a : A) : if decide c = true then A else B := by rw [if_pos (decide_eq_true h)]; exact a
theorem r_iteM {c : Prop} [Decidable c] {A B : Prop} (h : ¬ c) (a : B) : if decide c = true then A else B := by rw [if_neg (by simp [h])]; exact a
theorem r_iteNP {c : Prop} [Decidable c] {A B : Prop} (h : c) (a : B) : if (!decide c) = true then A else B := by rw [if_neg (by simp [h])]; exact a
theorem r_iteNM {c : Prop} [Decidable c] {A B : Prop} (h : ¬ c) (a : A) : if (!decide c) = true then A else B := by rw [if_pos (by simp [h])]; exact a
theorem r_T {A B : Prop} (a : A) : if true = true then A else B := by rw [if_pos rfl]; exact a
theorem r_F {A B : Prop} (a : B) : if false = true then A else B := by rw [if_neg (by decide)]; exact a
theorem r_nT {A B : Prop} (a : B) : if (!true) = true then A else B := r_F a
theorem r_nF {A B : Prop} (a : A) : if (!false) = true then A else B := r_T a
end
end Kb
set_option Elab.async false
set_option linter.all false
set_option maxRecDepth 100000
set_option maxHeartbeats 4000000
namespace Kb
open PySem PySem.Spec PyProof.Rows L2
local macro_rules | `(tactic| walk_at "tk") => `(tactic| first
  | assumption
  | ((with_reducible refine' sqT_of ?k); (case k => assumption))
  | ((with_reducible refine' sqT_ofD ?k); (case k => assumption))
  | ((with_reducible refine' noD_of ?k); (case k => assumption))
  | ((with_reducible refine' noD_same ?s ?k); (case s => assumption); (case k => walk_at "tk"))
  | ((with_reducible refine' sqL_of ?k); (case k => assumption))
  | ((with_reducible refine' sqT_same ?s ?k); (case s => assumption); (case k => walk_at "tk"))
  | ((with_reducible refine' sqL_same ?s ?k); (case s => assumption); (case k => walk_at "tk"))
  | ((with_reducible refine' sqT_but ?s ?t ?k); (case s => assumption); (case t => walk_at "tk"); (case k => walk_at "tk"))
  | ((with_reducible refine' sqL_but ?s ?t ?k); (case s => assumption); (case t => walk_at "ne"); (case k => walk_at "tk"))
  | ((with_reducible refine' sqL_of ?k); (case k => walk_at "tk"))
  | ((with_reducible refine' sqT_of ?k); (case k => walk_at "tk"))
  | ((with_reducible refine' at_same ?s ?k); (case s => assumption); (case k => walk_at "tk"))
  | ((with_reducible refine' at_but ?s ?t ?k); (case s => assumption); (case t => walk_at "ne"); (case k => walk_at "tk")))
local macro_rules | `(tactic| walk_at "ne") => `(tactic| first
  | assumption
  | (refine Ne.symm ?_; assumption)
  | exact ne_of_none (by assumption) (by assumption)
  | exact (ne_of_none (by assumption) (by assumption)).symm)
local macro_rules | `(tactic| walk_at "side") => `(tactic| first
  | assumption
  | omega
  | (simp only [sizeLine_eq, List.length_cons, List.length_nil, List.length_map]; omega)
  | (show _ ≤ sizeLine; decide))
local macro_rules | `(tactic| walk_at "kit") => `(tactic| first
  | (show kitB _ _ = some true; decide +kernel)
  | (show kitB _ _ = some false; decide +kernel))
local macro_rules | `(tactic| walk_at "rng") => `(tactic| first
  | (refine ⟨by omega, by omega, by omega, by omega⟩)
  | (refine ⟨by omega, by omega⟩)
  | ((simp only [List.length_map]); (refine ⟨by omega, by omega, by omega, by omega⟩))
  | ((simp only [List.length_map]); (refine ⟨by omega, by omega⟩)))
local macro_rules | `(tactic| walk_at "rd1") => `(tactic| first
  | with_reducible refine r_seq ?_
  | ((with_reducible refine' r_var ?k0 ?_); (case k0 => rfl))
  | with_reducible refine r_op ?_
  | with_reducible refine r_c ?_
  | with_reducible refine r_asg ?_
  | with_reducible refine r_name ?_
  | with_reducible refine r_cons ?_
  | with_reducible refine r_nil ?_
  | with_reducible refine r_CB ?_
  | with_reducible refine r_if ?_
  | with_reducible refine r_test ?_
  | with_reducible refine r_k ?_
  | with_reducible refine r_T ?_
  | with_reducible refine r_F ?_
  | with_reducible refine r_nT ?_
  | with_reducible refine r_nF ?_
  | with_reducible refine r_ret ?_
  | with_reducible refine r_drop ?_
  | with_reducible refine r_next ?_
  | with_reducible refine r_call ?_
  | with_reducible refine r_addI ?_
  | with_reducible refine r_subI ?_
  | with_reducible refine r_ltI ?_
  | with_reducible refine r_gtI ?_
  | with_reducible refine r_leI ?_
  | with_reducible refine r_geI ?_
  | with_reducible refine r_eqI ?_
  | with_reducible refine r_neI ?_
  | with_reducible refine r_int ?_
  | with_reducible refine r_abs ?_
  | with_reducible refine r_not ?_
  | with_reducible refine r_and ?_
  | with_reducible refine r_or ?_
  | with_reducible refine r_tru ?_
  | with_reducible refine r_truB ?_
  | with_reducible refine r_lst ?_
  | with_reducible refine r_tup ?_
  | with_reducible refine r_BM ?_
  | with_reducible refine r_BM0 ?_
  | with_reducible refine r_tyS ?_
  | with_reducible refine r_gsub ?_
  | with_reducible refine r_then ?_
  | with_reducible refine r_lstRg ?_
  | with_reducible refine r_tupRg ?_
  | with_reducible refine r_rg2 ?_
  | with_reducible refine r_rg1 ?_
  | with_reducible refine r_ii ?_
  | with_reducible refine r_i ?_
  | with_reducible refine r_ipI ?_
  | with_reducible refine r_un ?_
  | with_reducible refine r_neg ?_
  | with_reducible refine r_isN ?_
  | with_reducible refine r_notN ?_
  | with_reducible refine r_notV ?_
  | with_reducible refine r_pnot ?_
  | with_reducible refine r_pif ?_
  | with_reducible refine r_andV ?_
  | with_reducible refine r_orV ?_
  | with_reducible refine r_ifE ?_
  | with_reducible refine r_chain ?_
  | with_reducible refine r_sl ?_
  | with_reducible refine r_noPart ?_
  | with_reducible refine r_part ?_
  | with_reducible refine r_brk ?_
  | with_reducible refine r_cont ?_
  | with_reducible refine r_retN ?_
  | with_reducible refine r_truI ?_
  | with_reducible refine r_B ?_
  | ((with_reducible refine' r_mod ?k0 ?_); (case k0 => walk_at "side"))
  | ((with_reducible refine' r_mulI ?k0 ?_); (case k0 => first | exact Or.inl ⟨by omega, by omega⟩ | exact Or.inr ⟨by omega, by omega⟩))
  | ((with_reducible refine' r_lenL ?k0 ?_); (case k0 => walk_at "tk"))
  | ((with_reducible refine' r_lenT ?k0 ?_); (case k0 => walk_at "tk"))
  | ((with_reducible refine' r_truL ?k0 ?_); (case k0 => walk_at "tk"))
  | ((with_reducible refine' r_truT ?k0 ?_); (case k0 => walk_at "tk"))
  | ((with_reducible refine' r_ixL ?k0 ?k1 ?_); (case k0 => walk_at "tk"); (case k1 => first | assumption | rfl))
  | ((with_reducible refine' r_ixT ?k0 ?k1 ?_); (case k0 => walk_at "tk"); (case k1 => first | assumption | rfl))
  | ((with_reducible refine' r_new ?k0 ?_); (case k0 => walk_at "side"))
  | ((with_reducible refine' r_tyL ?k0 ?_); (case k0 => walk_at "tk"))
  | ((with_reducible refine' r_append ?k0 ?k1 ?_); (case k0 => walk_at "tk"); (case k1 => walk_at "side"))
  | ((with_reducible refine' r_setL ?k0 ?k1 ?_); (case k0 => walk_at "tk"); (case k1 => first | assumption | rfl))
  | ((with_reducible refine' r_kTupL ?k0 ?_); (case k0 => walk_at "tk"))
  | ((with_reducible refine' r_kTupT ?k0 ?_); (case k0 => walk_at "tk"))
  | ((with_reducible refine' r_listL ?k0 ?_); (case k0 => walk_at "tk"))
  | ((with_reducible refine' r_listT ?k0 ?_); (case k0 => walk_at "tk"))
  | ((with_reducible refine' r_aug ?k0 ?_); (case k0 => rfl))
  | ((with_reducible refine' r_lenS ?k0 ?_); (case k0 => walk_at "side"))
  | ((with_reducible refine' r_pop ?k0 ?_); (case k0 => walk_at "tk")))
local macro_rules | `(tactic| walk_at "rd") => `(tactic| ((repeat (walk_at "rd1")); (try dsimp only)))
def sp_law_cell (K : PySem.W.Frag) : Sp := fun vs H Q _ => ∃ (a : Addr) (ns : List Int) (k : Int), vs = [.ref a, .int k] ∧ SqL K H a (ns.map V.int) ∧ ns.length ≤ 63 ∧ 0 ≤ k ∧ ∀ n, Q (.int n) H
def Pl (H : Hp) (p : Addr) : Prop := ∃ x y z, H p = some (.lst [.int x, .int y, .int z])
def sp_law_pool (K : PySem.W.Frag) : Sp := fun vs H Q _ => ∃ (a : Addr) (ns : List Int) (k : Int), vs = [.ref a, .int k] ∧ SqL K H a (ns.map V.int) ∧ ns.length ≤ 63 ∧ 0 ≤ k ∧ ∀ p H', H p = none → Same H H' → Pl H' p → Q (.ref p) H'
def sp_law_draw (K : PySem.W.Frag) : Sp := fun vs H Q _ => ∃ (p : Addr) (m : Int), vs = [.ref p, .int m] ∧ Pl H p ∧ 0 < m ∧ m < 2 ^ 200 ∧ ∀ v H', 0 ≤ v → v < m → But p H H' → Pl H' p → Q (.int v) H'
abbrev N_law_cell : List Str := ["script", "k"]
def t_law_cell (K : PySem.W.Frag) : TS :=
  tSeq (tIfS ((tTest (tOp (rLtU K) (tVar 1) ((tCB (rLenU K) (tCons (tVar 0) tNil)))))) ((tRet ((tCB rAbsU (tCons ((tCB rIntU (tCons ((tOp (rIx K) (tVar 0) (tVar 1))) tNil))) tNil))))) (tNext))
  (tSeq (tIfS ((tTest (tOp (rEqU K) ((tCB (rLenU K) (tCons (tVar 0) tNil))) ((tC (.int 0)))))) ((tRet ((tC (.int 0))))) (tNext))
  ((tRet ((tOp rModU ((tCB rAbsU (tCons ((tCB rIntU (tCons ((tOp (rIx K) (tVar 0) ((tOp rModU ((tCB rIntU (tCons (tVar 1) tNil))) ((tCB (rLenU K) (tCons (tVar 0) tNil))))))) tNil))) tNil))) ((tC (.int 999999999999999989))))))))
abbrev N_law_pool : List Str := ["script", "k", "cell"]
def t_law_pool (K : PySem.W.Frag) : TS :=
  tSeq (tAsg ((tCall (sp_law_cell K) [] E0 (tCons (tVar 0) (tCons (tVar 1) tNil)))) (gName 2))
  (tSeq (tIfS ((tTest (tOp rGeU (tVar 2) ((tOp rPowU ((tC (.int 10))) ((tC (.int 18)))))))) ((tRet ((tLst (tCons ((tOp rSubU (tVar 2) ((tOp rPowU ((tC (.int 10))) ((tC (.int 18))))))) (tCons ((tOp rModU ((tCB rIntU (tCons (tVar 2) tNil))) ((tC (.int 1000003))))) (tCons ((tC (.int 0))) tNil))))))) (tNext))
  ((tRet ((tLst (tCons ((tC (.int 0))) (tCons ((tOp (rAddU K) (tVar 2) ((tOp (rMulU K) ((tC (.int 104729))) ((tOp (rAddU K) (tVar 1) ((tC (.int 1))))))))) (tCons ((tC (.int 0))) tNil))))))))
abbrev N_law_draw : List Str := ["pool", "many", "value", "mixed"]
def t_law_draw (K : PySem.W.Frag) : TS :=
  tSeq (tAsg ((tOp (rAddU K) ((tOp (rIx K) (tVar 0) ((tC (.int 2))))) ((tC (.int 1))))) (gSub (tVar 0) ((tC (.int 2))) rSetL))
  (tSeq (tIfS ((tTest (tOp rGtU ((tOp (rIx K) (tVar 0) ((tC (.int 0))))) ((tC (.int 1)))))) (tSeq (tAsg ((tOp rModU ((tCB rIntU (tCons ((tOp (rIx K) (tVar 0) ((tC (.int 0))))) tNil))) (tVar 1))) (gName 2))
  (tSeq (tAsg ((tOp rFdivU ((tOp (rIx K) (tVar 0) ((tC (.int 0))))) (tVar 1))) (gSub (tVar 0) ((tC (.int 0))) rSetL))
  ((tRet (tVar 2))))) (tNext))
  (tSeq (tAsg ((tOp rModU ((tCB rIntU (tCons ((tOp (rAddU K) ((tOp (rIx K) (tVar 0) ((tC (.int 1))))) ((tOp (rMulU K) ((tC (.int 7919))) ((tOp (rIx K) (tVar 0) ((tC (.int 2))))))))) tNil))) ((tC (.int 1000003))))) (gName 3))
  (tSeq (tAsg ((tOp rModU ((tCB rIntU (tCons ((tOp (rAddU K) ((tOp (rAddU K) ((tOp (rMulU K) (tVar 3) (tVar 3))) ((tOp (rMulU K) ((tC (.int 48271))) ((tOp (rIx K) (tVar 0) ((tC (.int 2))))))))) ((tOp (rIx K) (tVar 0) ((tC (.int 1))))))) tNil))) ((tC (.int 998244353))))) (gName 3))
  (tSeq (tAsg ((tOp rModU ((tCB rIntU (tCons ((tOp (rAddU K) ((tOp (rMulU K) (tVar 3) (tVar 3))) ((tC (.int 69621))))) tNil))) ((tC (.int 2147483647))))) (gName 3))
  ((tRet ((tOp rModU ((tCB rIntU (tCons ((tOp rFdivU (tVar 3) ((tC (.int 7))))) tNil))) (tVar 1)))))))))
theorem len_law_cell {K : PySem.W.Frag} {vs : List V} {H : Hp} {Q : VK} {E : XK} (h : sp_law_cell K vs H Q E) : vs.length = 2 := by
  obtain ⟨a, ns, k, rfl, _⟩ := h; rfl
theorem len_law_pool {K : PySem.W.Frag} {vs : List V} {H : Hp} {Q : VK} {E : XK} (h : sp_law_pool K vs H Q E) : vs.length = 2 := by
  obtain ⟨a, ns, k, rfl, _⟩ := h; rfl
theorem len_law_draw {K : PySem.W.Frag} {vs : List V} {H : Hp} {Q : VK} {E : XK} (h : sp_law_draw K vs H Q E) : vs.length = 2 := by
  obtain ⟨a, m, rfl, _⟩ := h; rfl
abbrev En (Q : VK) : Ends := { nx := fun _ H' => Q .non H', rt := Q }
theorem atI_ints {ns : List Int} {k : Int} (h0 : 0 ≤ k) (h1 : k < (ns.length : Int)) : ∃ n, atI (ns.map V.int) k = some (.int n) ∧ ns[k.toNat]? = some n := by
  have h2 : k.toNat < ns.length := by omega
  refine ⟨ns[k.toNat], ?_, List.getElem?_eq_getElem h2⟩
  have e : ((k.toNat : Nat) : Int) = k := by omega
  have h3 : (ns.map V.int)[k.toNat]? = some (.int ns[k.toNat]) := by rw [List.getElem?_map, List.getElem?_eq_getElem h2]; rfl
  have h4 := atI_nat h3
  rw [e] at h4
  exact h4
theorem pure_law_cell {K : PySem.W.Frag} {vs : List V} {H : Hp} {Q : VK} {E : XK} (h : sp_law_cell K vs H Q E) : t_law_cell K (En Q) (start N_law_cell vs) H := by
  obtain ⟨a, ns, k, rfl, hS, hn, hk, q⟩ := h
  unfold t_law_cell
  walk_at "rd"
  rw [List.length_map]
  refine r_ite (fun hlt => ?_) (fun hge => ?_)
  · obtain ⟨n, e1, _⟩ := atI_ints hk hlt
    walk_at "rd"
    exact q _
  · walk_at "rd"
    rw [List.length_map]
    refine r_ite (fun h0 => ?_) (fun h0 => ?_)
    · walk_at "rd"
      exact q _
    · have hp : (0 : Int) < ((ns.map V.int).length : Int) := by rw [List.length_map]; omega
      walk_at "rd"
      obtain ⟨n, e1, _⟩ := atI_ints (ns := ns) (k := k % ((ns.map V.int).length : Int)) (Int.emod_nonneg _ (by omega)) (by rw [List.length_map] at hp ⊢; exact Int.emod_lt_of_pos _ hp)
      walk_at "rd"
      exact q _
theorem c18 : CPow 10 18 := ⟨by decide, by decide, by decide⟩
theorem pure_law_pool {K : PySem.W.Frag} {vs : List V} {H : Hp} {Q : VK} {E : XK} (h : sp_law_pool K vs H Q E) : t_law_pool K (En Q) (start N_law_pool vs) H := by
  obtain ⟨a, ns, k, rfl, hS, hn, hk, q⟩ := h
  unfold t_law_pool
  walk_at "rd"
  refine ⟨a, ns, k, rfl, hS, hn, hk, fun n => ?_⟩
  walk_at "rd"
  refine r_pow c18 ?_
  walk_at "rd"
  refine r_ite (fun h1 => ?_) (fun h1 => ?_)
  · walk_at "rd"
    refine r_pow c18 ?_
    walk_at "rd"
    intro p H' hp s e
    exact q p H' hp s ⟨_, _, _, e⟩
  · walk_at "rd"
    intro p H' hp s e
    exact q p H' hp s ⟨_, _, _, e⟩
theorem log2_small {m : Int} (h0 : 0 < m) (h1 : m < 2 ^ 200) : m.natAbs.log2 < 9000 := (wide_div (i := 0) h0 (b := 200) (by omega) (by decide) (by decide)).2
theorem pure_law_draw {K : PySem.W.Frag} {vs : List V} {H : Hp} {Q : VK} {E : XK} (h : sp_law_draw K vs H Q E) : t_law_draw K (En Q) (start N_law_draw vs) H := by
  obtain ⟨p, m, rfl, ⟨x, y, z, hp⟩, h0, h1, q⟩ := h
  have hl := log2_small h0 h1
  unfold t_law_draw
  walk_at "rd"
  intro H1 b1 e1
  have e1 : H1 p = some (.lst [.int x, .int y, .int (z + 1)]) := e1
  walk_at "rd"
  refine r_ite (fun hx => ?_) (fun hx => ?_)
  · walk_at "rd"
    refine r_fdiv h0 hl ?_
    walk_at "rd"
    intro H2 b2 e2
    walk_at "rd"
    exact q _ _ (Int.emod_nonneg _ (by omega)) (Int.emod_lt_of_pos _ h0) (b1.trans b2) ⟨_, _, _, e2⟩
  · walk_at "rd"
    refine r_fdiv (by decide) (by decide) ?_
    walk_at "rd"
    exact q _ _ (Int.emod_nonneg _ (by omega)) (Int.emod_lt_of_pos _ h0) b1 ⟨_, _, _, e1⟩
end Kb
set_option Elab.async false
set_option linter.all false
set_option maxRecDepth 100000
set_option maxHeartbeats 4000000
namespace Kb
open PySem PySem.Spec PyProof.Rows L2
section
variable {K : PySem.W.Frag} {D : Ends} {σ : L2.St} {H : Hp} {tb : TS} {te ta : TE} {g : TG} {c : TT} {i j : Nat} {m n l : Int} {R : It → Hp → Prop}
/-- the body of a while, from a state that holds with the measure m -/
def PBody (W : Nat → L2.St → Hp → Prop) (m : Nat) (tb : TS) (D : Ends) (σ : L2.St) (H : Hp) : Prop := ∃ N : L2.St → Hp → Prop, (∀ σ' H', N σ' H' → ∃ m', m' < m ∧ W m' σ' H') ∧ tb { D with nx := N, ct := N, bk := D.nx } σ H
theorem r_while (W : Nat → L2.St → Hp → Prop) (m : Nat) (h0 : W m σ H)
    (hs : ∀ m σ H, W m σ H → c σ H fun b H1 => if b = true then PBody W m tb D σ H1 else D.nx σ H1) : tWhile c tb D σ H := ⟨W, ⟨m, h0⟩, hs⟩
theorem r_body {W : Nat → L2.St → Hp → Prop} {m : Nat} (h : tb { D with nx := fun σ' H' => ∃ m', m' < m ∧ W m' σ' H', ct := fun σ' H' => ∃ m', m' < m ∧ W m' σ' H', bk := D.nx } σ H) : PBody W m tb D σ H := ⟨_, fun _ _ h => h, h⟩
def PFor (J : It) (g : TG) (tb : TS) (D : Ends) (σ : L2.St) (H : Hp) : Prop := ∃ W : Nat → Nat → L2.St → Hp → Prop, (∃ m, W 0 m σ H) ∧ ∀ i m σ H, W i m σ H →
  (J.stop i H ∧ D.nx σ H) ∨ (J.go i H ∧ ∃ N : L2.St → Hp → Prop, (∀ σ' H', N σ' H' → ∃ m', m' < m ∧ W (i + 1) m' σ' H') ∧ ∀ x H', J.yld i H x H' → g x σ H' fun σ2 H2 => tb { D with nx := N, ct := N, bk := D.nx } σ2 H2)
theorem r_for {wi : TI} (h : wi σ H fun J H1 => PFor J g tb D σ H1) : tFor wi g tb D σ H := h
def PR1 (vs : List V) (R : It → Prop) : Prop := ∃ j : Int, vs = [.int j] ∧ -(2 ^ 62) ≤ j ∧ j < 2 ^ 62 ∧ R (Itr 0 j.toNat)
def PR2 (vs : List V) (R : It → Prop) : Prop := ∃ i j : Int, vs = [.int i, .int j] ∧ (-(2 ^ 62) ≤ i ∧ i < 2 ^ 62 ∧ -(2 ^ 62) ≤ j ∧ j < 2 ^ 62) ∧ R (Itr i (j - i).toNat)
def PR3 (vs : List V) (R : It → Prop) : Prop := ∃ (i j c : Int) (n : Nat), vs = [.int i, .int j, .int c] ∧ RgC i j c n ∧ R (Itc i c n)
theorem r_rng1 {ts : TA} (h : ts σ H fun vs H1 => PR1 vs fun J => R J H1) : iRng1 ts σ H R := h
theorem r_rng2 {ts : TA} (h : ts σ H fun vs H1 => PR2 vs fun J => R J H1) : iRng2 ts σ H R := h
theorem r_rng3 {ts : TA} (h : ts σ H fun vs H1 => PR3 vs fun J => R J H1) : iRng3 ts σ H R := h
theorem r_pr1 {R : It → Prop} (h : -(2 ^ 62) ≤ m ∧ m < 2 ^ 62) (q : R (Itr 0 m.toNat)) : PR1 [.int m] R := ⟨m, rfl, h.1, h.2, q⟩
theorem r_pr2 {R : It → Prop} (h : -(2 ^ 62) ≤ l ∧ l < 2 ^ 62 ∧ -(2 ^ 62) ≤ m ∧ m < 2 ^ 62) (q : R (Itr l (m - l).toNat)) : PR2 [.int l, .int m] R := ⟨l, m, rfl, h, q⟩
theorem r_pr3d {R : It → Prop} (h : -(2 ^ 62) ≤ l ∧ l < 2 ^ 62 ∧ -(2 ^ 62) ≤ m ∧ m < 2 ^ 62) (q : R (Itc l (-1) (l - m).toNat)) : PR3 [.int l, .int m, .int (-1)] R := ⟨l, m, -1, _, rfl, RgC.neg h.1 h.2.1 h.2.2.1 h.2.2.2, q⟩
theorem r_forRange0 {n : Nat} (Pv : Nat → L2.St → Hp → Prop) (h0 : Pv 0 σ H)
    (hs : ∀ i σ' H', i < n → Pv i σ' H' → tb { D with nx := Pv (i + 1), ct := Pv (i + 1), bk := D.nx } (σ'.set j (some (.int (i : Int)))) H')
    (hd : ∀ σ' H', Pv n σ' H' → D.nx σ' H') : PFor (Itr 0 n) (gName j) tb D σ H := for_range Pv h0 (fun i σ' H' hi p => by
      show tb _ (σ'.set j (some (.int ((0 : Int) + (i : Int))))) H'
      rw [Int.zero_add]
      exact hs i σ' H' hi p) hd
def PSeqT (K : PySem.W.Frag) (x : V) (H : Hp) (R : It → Hp → Prop) : Prop := ∃ a, x = .ref a ∧ (∃ xs, SqT K H a xs) ∧ R (Itt K a) H
def PSeqL (K : PySem.W.Frag) (x : V) (H : Hp) (R : It → Hp → Prop) : Prop := ∃ a, x = .ref a ∧ (∃ xs, SqL K H a xs) ∧ R (Itl K a) H
def PSeqS (x : V) (H : Hp) (R : It → Hp → Prop) : Prop := ∃ z, x = .str z ∧ R (Its z) H
theorem r_seqT (h : te σ H fun x H1 => PSeqT K x H1 R) : iSeqU K te σ H R := .inr (.inl h)
theorem r_seqL (h : te σ H fun x H1 => PSeqL K x H1 R) : iSeqU K te σ H R := .inl h
theorem r_seqS (h : te σ H fun x H1 => PSeqS x H1 R) : iSeqU K te σ H R := .inr (.inr h)
theorem r_pseqT {a : Addr} {xs : List V} (h : SqT K H a xs) (q : R (Itt K a) H) : PSeqT K (.ref a) H R := ⟨a, rfl, ⟨xs, h⟩, q⟩
theorem r_pseqL {a : Addr} {xs : List V} (h : SqL K H a xs) (q : R (Itl K a) H) : PSeqL K (.ref a) H R := ⟨a, rfl, ⟨xs, h⟩, q⟩
theorem r_pseqS {z : Str} (q : R (Its z) H) : PSeqS (.str z) H R := ⟨z, rfl, q⟩
theorem r_forLst {a : Addr} {xs : List V} (Pv : Nat → L2.St → Hp → Prop) (h0 : Pv 0 σ H) (hl : ∀ i σ' H', i ≤ xs.length → Pv i σ' H' → SqL K H' a xs)
    (hs : ∀ i x σ' H', xs[i]? = some x → Pv i σ' H' → g x σ' H' fun σ2 H2 => tb { D with nx := Pv (i + 1), ct := Pv (i + 1), bk := D.nx } σ2 H2)
    (hd : ∀ σ' H', Pv xs.length σ' H' → D.nx σ' H') : PFor (Itl K a) g tb D σ H := for_list Pv h0 hl hs hd
def PLc (J : It) (g : TG) (tt : TT) (te : TE) (vs : List Nat) (σ : L2.St) (H1 : Hp) (Q : VK) : Prop := ∀ D, H1 D = none → ∃ W : Nat → Nat → Hp → Prop, (∃ m, W 0 m (upd H1 D (.lst []))) ∧ ∀ i m H, W i m H →
  (J.stop i H ∧ Q (.ref D) H) ∨ (J.go i H ∧ ∃ Nx : Hp → Prop, (∀ H', Nx H' → ∃ m', m' < m ∧ W (i + 1) m' H') ∧ ∀ x H', J.yld i H x H' → g x (wipe σ vs) H' fun σ2 H2 => wipe σ2 vs = wipe σ vs ∧ tt σ2 H2 fun b H3 =>
    if b = true then te σ2 H3 fun y H4 => ∃ acc, H4 D = some (.lst acc) ∧ acc.length < sizeLine ∧ Nx (upd H4 D (.lst (acc ++ [y]))) else Nx H3)
theorem r_lc {wi : TI} {tt : TT} {vs : List Nat} {Q : VK} (h : wi σ H fun J H1 => PLc J g tt te vs σ H1 Q) : tLc wi g tt te vs σ H Q := h
theorem r_yes {QB : Bool → Hp → Prop} (q : QB true H) : tYes σ H QB := q
/-- the made item goes into the list at D -/
def PAcc (D : Addr) (Nx : Hp → Prop) (y : V) (H : Hp) : Prop := ∃ acc, H D = some (.lst acc) ∧ acc.length < sizeLine ∧ Nx (upd H D (.lst (acc ++ [y])))
theorem r_acc {D : Addr} {Nx : Hp → Prop} {y : V} {acc : List V} (h : H D = some (.lst acc)) (hz : acc.length ≤ 1000000) (k : ∀ H', But D H H' → H' D = some (.lst (acc ++ [y])) → Nx H') : PAcc D Nx y H :=
  ⟨acc, h, by rw [sizeLine_eq]; omega, k _ but_upd upd_same⟩
/-- over a tuple: Pv tells the new list's place, the turn, the heap -/
theorem r_lcT {a : Addr} {xs : List V} {Q : VK} {tt : TT} {vs : List Nat} (Pv : Addr → Nat → Hp → Prop) (hw : ∀ x, wipe ((wipe σ vs).set j (some x)) vs = wipe σ vs)
    (h0 : ∀ D H', H D = none → Same H H' → H' D = some (.lst []) → Pv D 0 H') (hl : ∀ D i H', Pv D i H' → SqT K H' a xs)
    (hs : ∀ D i x H', xs[i]? = some x → Pv D i H' → tt ((wipe σ vs).set j (some x)) H' fun b H3 => if b = true then te ((wipe σ vs).set j (some x)) H3 (fun y H4 => PAcc D (Pv D (i + 1)) y H4) else Pv D (i + 1) H3)
    (hd : ∀ D H', H D = none → Pv D xs.length H' → Q (.ref D) H') : PLc (Itt K a) (gName j) tt te vs σ H Q := by
  intro D hD
  exact lc_tup (xs := xs) (Pv D) (h0 D _ hD (same_new hD) upd_same) (fun i H' _ p => hl D i H' p) (fun i x H' hi p => ⟨hw x, hs D i x H' hi p⟩) (fun H' p => hd D H' hD p)
theorem r_lcL {a : Addr} {xs : List V} {Q : VK} {tt : TT} {vs : List Nat} (Pv : Addr → Nat → Hp → Prop) (hw : ∀ x, wipe ((wipe σ vs).set j (some x)) vs = wipe σ vs)
    (h0 : ∀ D H', H D = none → Same H H' → H' D = some (.lst []) → Pv D 0 H') (hl : ∀ D i H', Pv D i H' → SqL K H' a xs)
    (hs : ∀ D i x H', xs[i]? = some x → Pv D i H' → tt ((wipe σ vs).set j (some x)) H' fun b H3 => if b = true then te ((wipe σ vs).set j (some x)) H3 (fun y H4 => PAcc D (Pv D (i + 1)) y H4) else Pv D (i + 1) H3)
    (hd : ∀ D H', H D = none → Pv D xs.length H' → Q (.ref D) H') : PLc (Itl K a) (gName j) tt te vs σ H Q := by
  intro D hD
  exact lc_list (xs := xs) (Pv D) (h0 D _ hD (same_new hD) upd_same) (fun i H' _ p => hl D i H' p) (fun i x H' hi p => ⟨hw x, hs D i x H' hi p⟩) (fun H' p => hd D H' hD p)
theorem r_lcR {lo : Int} {n : Nat} {Q : VK} {tt : TT} {vs : List Nat} (Pv : Addr → Nat → Hp → Prop) (hw : ∀ x, wipe ((wipe σ vs).set j (some x)) vs = wipe σ vs)
    (h0 : ∀ D H', H D = none → Same H H' → H' D = some (.lst []) → Pv D 0 H')
    (hs : ∀ D i H', i < n → Pv D i H' → tt ((wipe σ vs).set j (some (.int (lo + (i : Int))))) H' fun b H3 => if b = true then te ((wipe σ vs).set j (some (.int (lo + (i : Int))))) H3 (fun y H4 => PAcc D (Pv D (i + 1)) y H4) else Pv D (i + 1) H3)
    (hd : ∀ D H', H D = none → Pv D n H' → Q (.ref D) H') : PLc (Itr lo n) (gName j) tt te vs σ H Q := by
  intro D hD
  exact lc_range (Pv D) (h0 D _ hD (same_new hD) upd_same) (fun i H' hi p => ⟨hw _, hs D i H' hi p⟩) (fun H' p => hd D H' hD p)
end
end Kb
set_option Elab.async false
set_option linter.all false
set_option maxRecDepth 100000
set_option maxHeartbeats 4000000
namespace Kb
open PySem PySem.Spec PyProof.Rows L2
inductive Dat where | int (i : Int) | bl (b : Bool) | str (s : Str) | non | tup (ds : List Dat)
mutual
def Dat.size : Dat → Nat
  | .tup ds => 1 + Dat.sizes ds
  | _ => 1
def Dat.sizes : List Dat → Nat
  | [] => 0
  | d :: ds => d.size + Dat.sizes ds
end
theorem Dat.size_pos : ∀ d : Dat, 0 < d.size
  | .int _ => by simp [Dat.size]
  | .bl _ => by simp [Dat.size]
  | .str _ => by simp [Dat.size]
  | .non => by simp [Dat.size]
  | .tup _ => by simp [Dat.size]; omega
mutual
inductive Rp (K : PySem.W.Frag) (H : Hp) : V → Dat → Prop
  | int (i : Int) : Rp K H (.int i) (.int i)
  | bl (b : Bool) : Rp K H (.bl b) (.bl b)
  | str (s : Str) : Rp K H (.str s) (.str s)
  | non : Rp K H .non .non
  | tup {a : Addr} {xs : List V} {ds : List Dat} : SqT K H a xs → RpL K H xs ds → Rp K H (.ref a) (.tup ds)
inductive RpL (K : PySem.W.Frag) (H : Hp) : List V → List Dat → Prop
  | nil : RpL K H [] []
  | cons {v : V} {vs : List V} {d : Dat} {ds : List Dat} : Rp K H v d → RpL K H vs ds → RpL K H (v :: vs) (d :: ds)
end
section
variable {K : PySem.W.Frag} {H H' : Hp} {l : Addr} {ys : List V}
/-- tuples stay -/
def TK (K : PySem.W.Frag) (H H' : Hp) : Prop := ∀ a xs, SqT K H a xs → SqT K H' a xs
theorem tk_same (s : Same H H') : TK K H H' := fun _ _ h => sqT_same s h
theorem tk_but (b : But l H H') (hl : H l = some (.lst ys)) : TK K H H' := fun _ _ h => sqT_but b hl h
mutual
theorem rp_keep (k : TK K H H') : ∀ {v : V} {d : Dat}, Rp K H v d → Rp K H' v d
  | _, _, .int i => .int i
  | _, _, .bl b => .bl b
  | _, _, .str s => .str s
  | _, _, .non => .non
  | _, _, .tup h hr => .tup (k _ _ h) (rpL_keep k hr)
theorem rpL_keep (k : TK K H H') : ∀ {vs : List V} {ds : List Dat}, RpL K H vs ds → RpL K H' vs ds
  | _, _, .nil => .nil
  | _, _, .cons h hr => .cons (rp_keep k h) (rpL_keep k hr)
end
theorem rp_same {v : V} {d : Dat} (s : Same H H') (h : Rp K H v d) : Rp K H' v d := rp_keep (tk_same s) h
theorem rp_but {v : V} {d : Dat} (b : But l H H') (hl : H l = some (.lst ys)) (h : Rp K H v d) : Rp K H' v d := rp_keep (tk_but b hl) h
theorem rpL_length : ∀ {vs : List V} {ds : List Dat}, RpL K H vs ds → vs.length = ds.length
  | _, _, .nil => rfl
  | _, _, .cons _ hr => by simp [rpL_length hr]
theorem rpL_get : ∀ {vs : List V} {ds : List Dat} {i : Nat} {d : Dat}, RpL K H vs ds → ds[i]? = some d → ∃ v, vs[i]? = some v ∧ Rp K H v d
  | _, _, _, _, .nil, e => by simp at e
  | _, _, 0, _, .cons h _, e => by simp at e; subst e; exact ⟨_, rfl, h⟩
  | _, _, i + 1, _, .cons _ hr, e => by
    obtain ⟨v, h1, h2⟩ := rpL_get (i := i) hr (by simpa using e)
    exact ⟨v, by simpa using h1, h2⟩
theorem rpL_ints (ns : List Int) : RpL K H (ns.map V.int) (ns.map Dat.int) := by
  induction ns with
  | nil => exact .nil
  | cons n ns ih => exact .cons (.int n) ih
theorem rp_ints {a : Addr} {ns : List Int} (h : SqT K H a (ns.map V.int)) : Rp K H (.ref a) (.tup (ns.map Dat.int)) := .tup h (rpL_ints ns)
end
section
variable {K : PySem.W.Frag} {H : Hp} {Q : VK}
theorem r_isiT {a : Addr} {xs : List V} {b : Bool} {T : String} (h : SqT K H a xs) (hb : kitB "tuple" T = some b) (q : Q (.bl b) H) : rIsi K [.ref a, .ty T] H Q := by
  refine ⟨.ref a, .ty T, .type "tuple", .type T, b, rfl, .ty T, ?_, kit_ty hb, q⟩
  rcases h with (h | ⟨o, h⟩) | h
  · exact .base (.tup h)
  · exact .fTuple h
  · obtain ⟨o, its, n, h1, h2, _⟩ := h
    exact .kTuple h1 h2
theorem r_isiI {i : Int} {b : Bool} {T : String} (hb : kitB "int" T = some b) (q : Q (.bl b) H) : rIsi K [.int i, .ty T] H Q := ⟨_, _, _, _, b, rfl, .ty T, .base (.int i), kit_ty hb, q⟩
theorem r_isiB {i : Bool} {b : Bool} {T : String} (hb : kitB "bool" T = some b) (q : Q (.bl b) H) : rIsi K [.bl i, .ty T] H Q := ⟨_, _, _, _, b, rfl, .ty T, .base (.bl i), kit_ty hb, q⟩
theorem r_isiS {i : Str} {b : Bool} {T : String} (hb : kitB "str" T = some b) (q : Q (.bl b) H) : rIsi K [.str i, .ty T] H Q := ⟨_, _, _, _, b, rfl, .ty T, .base (.str i), kit_ty hb, q⟩
theorem r_isiN {b : Bool} {T : String} (hb : kitB "NoneType" T = some b) (q : Q (.bl b) H) : rIsi K [.non, .ty T] H Q := ⟨_, _, _, _, b, rfl, .ty T, .base .non, kit_ty hb, q⟩
end
local macro_rules | `(tactic| walk_at "tk") => `(tactic| first
  | assumption
  | ((with_reducible refine' sqT_of ?k); (case k => assumption))
  | ((with_reducible refine' sqT_ofD ?k); (case k => assumption))
  | ((with_reducible refine' noD_of ?k); (case k => assumption))
  | ((with_reducible refine' noD_same ?s ?k); (case s => assumption); (case k => walk_at "tk"))
  | ((with_reducible refine' sqL_of ?k); (case k => assumption))
  | ((with_reducible refine' sqT_same ?s ?k); (case s => assumption); (case k => walk_at "tk"))
  | ((with_reducible refine' sqL_same ?s ?k); (case s => assumption); (case k => walk_at "tk"))
  | ((with_reducible refine' sqT_but ?s ?t ?k); (case s => assumption); (case t => walk_at "tk"); (case k => walk_at "tk"))
  | ((with_reducible refine' sqL_but ?s ?t ?k); (case s => assumption); (case t => walk_at "ne"); (case k => walk_at "tk"))
  | ((with_reducible refine' sqL_of ?k); (case k => walk_at "tk"))
  | ((with_reducible refine' sqT_of ?k); (case k => walk_at "tk"))
  | ((with_reducible refine' at_same ?s ?k); (case s => assumption); (case k => walk_at "tk"))
  | ((with_reducible refine' at_but ?s ?t ?k); (case s => assumption); (case t => walk_at "ne"); (case k => walk_at "tk")))
local macro_rules | `(tactic| walk_at "ne") => `(tactic| first
  | assumption
  | (refine Ne.symm ?_; assumption)
  | exact ne_of_none (by assumption) (by assumption)
  | exact (ne_of_none (by assumption) (by assumption)).symm)
local macro_rules | `(tactic| walk_at "side") => `(tactic| first
  | assumption
  | omega
  | (simp only [sizeLine_eq, List.length_cons, List.length_nil, List.length_map]; omega)
  | (show _ ≤ sizeLine; decide))
local macro_rules | `(tactic| walk_at "kit") => `(tactic| first
  | (show kitB _ _ = some true; decide +kernel)
  | (show kitB _ _ = some false; decide +kernel))
local macro_rules | `(tactic| walk_at "rng") => `(tactic| first
  | (refine ⟨by omega, by omega, by omega, by omega⟩)
  | (refine ⟨by omega, by omega⟩)
  | ((simp only [List.length_map]); (refine ⟨by omega, by omega, by omega, by omega⟩))
  | ((simp only [List.length_map]); (refine ⟨by omega, by omega⟩)))
local macro_rules | `(tactic| walk_at "rd1") => `(tactic| first
  | with_reducible refine r_seq ?_
  | ((with_reducible refine' r_var ?k0 ?_); (case k0 => rfl))
  | with_reducible refine r_op ?_
  | with_reducible refine r_c ?_
  | with_reducible refine r_asg ?_
  | with_reducible refine r_name ?_
  | with_reducible refine r_cons ?_
  | with_reducible refine r_nil ?_
  | with_reducible refine r_CB ?_
  | with_reducible refine r_if ?_
  | with_reducible refine r_test ?_
  | with_reducible refine r_k ?_
  | with_reducible refine r_T ?_
  | with_reducible refine r_F ?_
  | with_reducible refine r_nT ?_
  | with_reducible refine r_nF ?_
  | with_reducible refine r_ret ?_
  | with_reducible refine r_drop ?_
  | with_reducible refine r_next ?_
  | with_reducible refine r_call ?_
  | with_reducible refine r_addI ?_
  | with_reducible refine r_subI ?_
  | with_reducible refine r_ltI ?_
  | with_reducible refine r_gtI ?_
  | with_reducible refine r_leI ?_
  | with_reducible refine r_geI ?_
  | with_reducible refine r_eqI ?_
  | with_reducible refine r_neI ?_
  | with_reducible refine r_int ?_
  | with_reducible refine r_abs ?_
  | with_reducible refine r_not ?_
  | with_reducible refine r_and ?_
  | with_reducible refine r_or ?_
  | with_reducible refine r_tru ?_
  | with_reducible refine r_truB ?_
  | with_reducible refine r_lst ?_
  | with_reducible refine r_tup ?_
  | with_reducible refine r_BM ?_
  | with_reducible refine r_BM0 ?_
  | with_reducible refine r_tyS ?_
  | with_reducible refine r_gsub ?_
  | with_reducible refine r_then ?_
  | with_reducible refine r_lstRg ?_
  | with_reducible refine r_tupRg ?_
  | with_reducible refine r_rg2 ?_
  | with_reducible refine r_rg1 ?_
  | with_reducible refine r_ii ?_
  | with_reducible refine r_i ?_
  | with_reducible refine r_ipI ?_
  | with_reducible refine r_un ?_
  | with_reducible refine r_neg ?_
  | with_reducible refine r_isN ?_
  | with_reducible refine r_notN ?_
  | with_reducible refine r_notV ?_
  | with_reducible refine r_pnot ?_
  | with_reducible refine r_pif ?_
  | with_reducible refine r_andV ?_
  | with_reducible refine r_orV ?_
  | with_reducible refine r_ifE ?_
  | with_reducible refine r_chain ?_
  | with_reducible refine r_sl ?_
  | with_reducible refine r_noPart ?_
  | with_reducible refine r_part ?_
  | with_reducible refine r_brk ?_
  | with_reducible refine r_cont ?_
  | with_reducible refine r_retN ?_
  | with_reducible refine r_truI ?_
  | with_reducible refine r_B ?_
  | with_reducible refine r_for ?_
  | with_reducible refine r_rng1 ?_
  | with_reducible refine r_rng2 ?_
  | with_reducible refine r_rng3 ?_
  | with_reducible refine r_body ?_
  | with_reducible refine r_lc ?_
  | with_reducible refine r_yes ?_
  | ((with_reducible refine' r_mod ?k0 ?_); (case k0 => walk_at "side"))
  | ((with_reducible refine' r_mulI ?k0 ?_); (case k0 => first | exact Or.inl ⟨by omega, by omega⟩ | exact Or.inr ⟨by omega, by omega⟩))
  | ((with_reducible refine' r_lenL ?k0 ?_); (case k0 => walk_at "tk"))
  | ((with_reducible refine' r_lenT ?k0 ?_); (case k0 => walk_at "tk"))
  | ((with_reducible refine' r_truL ?k0 ?_); (case k0 => walk_at "tk"))
  | ((with_reducible refine' r_truT ?k0 ?_); (case k0 => walk_at "tk"))
  | ((with_reducible refine' r_ixL ?k0 ?k1 ?_); (case k0 => walk_at "tk"); (case k1 => first | assumption | rfl))
  | ((with_reducible refine' r_ixT ?k0 ?k1 ?_); (case k0 => walk_at "tk"); (case k1 => first | assumption | rfl))
  | ((with_reducible refine' r_new ?k0 ?_); (case k0 => walk_at "side"))
  | ((with_reducible refine' r_tyL ?k0 ?_); (case k0 => walk_at "tk"))
  | ((with_reducible refine' r_append ?k0 ?k1 ?_); (case k0 => walk_at "tk"); (case k1 => walk_at "side"))
  | ((with_reducible refine' r_setL ?k0 ?k1 ?_); (case k0 => walk_at "tk"); (case k1 => first | assumption | rfl))
  | ((with_reducible refine' r_kTupL ?k0 ?_); (case k0 => walk_at "tk"))
  | ((with_reducible refine' r_kTupT ?k0 ?_); (case k0 => walk_at "tk"))
  | ((with_reducible refine' r_listL ?k0 ?_); (case k0 => walk_at "tk"))
  | ((with_reducible refine' r_listT ?k0 ?_); (case k0 => walk_at "tk"))
  | ((with_reducible refine' r_aug ?k0 ?_); (case k0 => rfl))
  | ((with_reducible refine' r_lenS ?k0 ?_); (case k0 => walk_at "side"))
  | ((with_reducible refine' r_pop ?k0 ?_); (case k0 => walk_at "tk"))
  | ((with_reducible refine' r_pr1 ?k0 ?_); (case k0 => walk_at "rng"))
  | ((with_reducible refine' r_pr2 ?k0 ?_); (case k0 => walk_at "rng"))
  | ((with_reducible refine' r_pr3d ?k0 ?_); (case k0 => walk_at "rng"))
  | ((with_reducible refine' r_isiI ?k0 ?_); (case k0 => walk_at "kit"))
  | ((with_reducible refine' r_isiB ?k0 ?_); (case k0 => walk_at "kit"))
  | ((with_reducible refine' r_isiS ?k0 ?_); (case k0 => walk_at "kit"))
  | ((with_reducible refine' r_isiN ?k0 ?_); (case k0 => walk_at "kit"))
  | ((with_reducible refine' r_isiT ?k0 ?k1 ?_); (case k0 => walk_at "tk"); (case k1 => walk_at "kit"))
  | ((with_reducible refine r_seqT ?_); (repeat (walk_at "rd1")); ((with_reducible refine' r_pseqT ?k0 ?_); (case k0 => walk_at "tk")))
  | ((with_reducible refine r_seqL ?_); (repeat (walk_at "rd1")); ((with_reducible refine' r_pseqL ?k0 ?_); (case k0 => walk_at "tk")))
  | ((with_reducible refine r_seqS ?_); (repeat (walk_at "rd1")); (with_reducible refine r_pseqS ?_)))
local macro_rules | `(tactic| walk_at "rd") => `(tactic| ((repeat (walk_at "rd1")); (try dsimp only)))
def sp_law_same (K : PySem.W.Frag) : Sp := fun vs H Q _ => ∃ (x y : V) (d : Dat), vs = [x, y] ∧ Rp K H x d ∧ Rp K H y d ∧ d.size ≤ 1000000 ∧ ∀ H', Same H H' → Q (.bl true) H'
abbrev N_law_same : List Str := ["got", "due", "stack", "pair", "k"]
def t_law_same (K : PySem.W.Frag) : TS :=
  tSeq (tAsg ((tLst (tCons ((tLst (tCons (tVar 0) (tCons (tVar 1) tNil)))) tNil))) (gName 2))
  (tSeq (tWhile ((tTru K (tVar 2))) (tSeq (tAsg ((tBM0 K "list" rPop (tVar 2))) (gName 3))
  ((tIfS ((tTru K ((tCB (rIsi K) (tCons ((tOp (rIx K) (tVar 3) ((tC (.int 1))))) (tCons ((tC (.ty "tuple"))) tNil)))))) (tSeq (tIfS ((tOr ((tNot ((tTru K ((tCB (rIsi K) (tCons ((tOp (rIx K) (tVar 3) ((tC (.int 0))))) (tCons ((tC (.ty "tuple"))) tNil)))))))) ((tTest (tOp (rNeU K) ((tCB (rLenU K) (tCons ((tOp (rIx K) (tVar 3) ((tC (.int 0))))) tNil))) ((tCB (rLenU K) (tCons ((tOp (rIx K) (tVar 3) ((tC (.int 1))))) tNil)))))))) ((tRet ((tC (.bl false))))) (tNext))
  ((tFor (iRng1 (tCons ((tCB (rLenU K) (tCons ((tOp (rIx K) (tVar 3) ((tC (.int 1))))) tNil))) tNil)) (gName 4) ((tDrop ((tBM K "list" rAppend (tVar 2) (tCons ((tLst (tCons ((tOp (rIx K) ((tOp (rIx K) (tVar 3) ((tC (.int 0))))) (tVar 4))) (tCons ((tOp (rIx K) ((tOp (rIx K) (tVar 3) ((tC (.int 1))))) (tVar 4))) tNil)))) tNil)))))))) ((tIfS ((tTru K ((tCB (rIsi K) (tCons ((tOp (rIx K) (tVar 3) ((tC (.int 1))))) (tCons ((tC (.ty "bool"))) tNil)))))) ((tIfS ((tOr ((tNot ((tTru K ((tCB (rIsi K) (tCons ((tOp (rIx K) (tVar 3) ((tC (.int 0))))) (tCons ((tC (.ty "bool"))) tNil)))))))) ((tTest (tOp (rNeU K) ((tOp (rIx K) (tVar 3) ((tC (.int 0))))) ((tOp (rIx K) (tVar 3) ((tC (.int 1)))))))))) ((tRet ((tC (.bl false))))) (tNext))) ((tIfS ((tTru K ((tCB (rIsi K) (tCons ((tOp (rIx K) (tVar 3) ((tC (.int 1))))) (tCons ((tC (.ty "int"))) tNil)))))) ((tIfS ((tOr ((tNot ((tTru K ((tCB (rIsi K) (tCons ((tOp (rIx K) (tVar 3) ((tC (.int 0))))) (tCons ((tC (.ty "int"))) tNil)))))))) ((tOr ((tTru K ((tCB (rIsi K) (tCons ((tOp (rIx K) (tVar 3) ((tC (.int 0))))) (tCons ((tC (.ty "bool"))) tNil)))))) ((tTest (tOp (rNeU K) ((tOp (rIx K) (tVar 3) ((tC (.int 0))))) ((tOp (rIx K) (tVar 3) ((tC (.int 1)))))))))))) ((tRet ((tC (.bl false))))) (tNext))) ((tIfS ((tTru K ((tCB (rIsi K) (tCons ((tOp (rIx K) (tVar 3) ((tC (.int 1))))) (tCons ((tC (.ty "str"))) tNil)))))) ((tIfS ((tOr ((tNot ((tTru K ((tCB (rIsi K) (tCons ((tOp (rIx K) (tVar 3) ((tC (.int 0))))) (tCons ((tC (.ty "str"))) tNil)))))))) ((tTest (tOp (rNeU K) ((tOp (rIx K) (tVar 3) ((tC (.int 0))))) ((tOp (rIx K) (tVar 3) ((tC (.int 1)))))))))) ((tRet ((tC (.bl false))))) (tNext))) ((tIfS ((tTest (tOp rNotNU ((tOp (rIx K) (tVar 3) ((tC (.int 0))))) ((tC .non))))) ((tRet ((tC (.bl false))))) (tNext)))))))))))))
  ((tRet ((tC (.bl true))))))
theorem len_law_same {K : PySem.W.Frag} {vs : List V} {H : Hp} {Q : VK} {E : XK} (h : sp_law_same K vs H Q E) : vs.length = 2 := by
  obtain ⟨x, y, d, rfl, _⟩ := h; rfl
theorem r_neSame {K : PySem.W.Frag} {x : V} {H : Hp} {Q : VK} (h : scal x x = true) (q : Q (.bl false) H) : rNeU K x x H Q := .inl ⟨h, by rw [decide_eq_true rfl]; exact q⟩
structure Item where
  q : Addr
  x : V
  y : V
  d : Dat
def Items (K : PySem.W.Frag) (H : Hp) (s : Addr) (its : List Item) : Prop := ∀ it ∈ its, it.q ≠ s ∧ H it.q = some (.lst [it.x, it.y]) ∧ Rp K H it.x it.d ∧ Rp K H it.y it.d
theorem Items.same {K : PySem.W.Frag} {H H' : Hp} {s : Addr} {its : List Item} (h : Items K H s its) (e : Same H H') : Items K H' s its := fun it hi =>
  let ⟨a, b, c, d⟩ := h it hi
  ⟨a, e _ _ b, rp_same e c, rp_same e d⟩
theorem Items.but {K : PySem.W.Frag} {H H' : Hp} {s : Addr} {its : List Item} {ys : List V} (h : Items K H s its) (e : But s H H') (hs : H s = some (.lst ys)) : Items K H' s its := fun it hi =>
  let ⟨a, b, c, d⟩ := h it hi
  ⟨a, e _ _ a b, rp_but e hs c, rp_but e hs d⟩
def total (its : List Item) : Nat := (its.map fun it => it.d.size).sum
def refs (its : List Item) : List V := its.map fun it => .ref it.q
theorem total_append (a b : List Item) : total (a ++ b) = total a + total b := by simp [total]
theorem refs_append (a b : List Item) : refs (a ++ b) = refs a ++ refs b := by simp [refs]
theorem length_le_total : ∀ its : List Item, its.length ≤ total its
  | [] => Nat.le_refl _
  | it :: r => by
    have h1 := length_le_total r
    have h2 := it.d.size_pos
    show r.length + 1 ≤ total ([it] ++ r)
    rw [total_append]
    simp [total] at *
    omega
theorem sizes_take : ∀ (ds : List Dat) (i : Nat) (d : Dat), ds[i]? = some d → Dat.sizes (ds.take (i + 1)) = Dat.sizes (ds.take i) + d.size
  | [], _, _, h => by simp at h
  | e :: r, 0, d, h => by simp at h; subst h; simp [Dat.sizes]
  | e :: r, i + 1, d, h => by
    have := sizes_take r i d (by simpa using h)
    simp only [List.take_succ_cons, Dat.sizes, this]
    omega
theorem sizes_take_le : ∀ (ds : List Dat) (i : Nat), Dat.sizes (ds.take i) ≤ Dat.sizes ds
  | [], i => by simp [Dat.sizes]
  | e :: r, 0 => by simp [Dat.sizes]
  | e :: r, i + 1 => by
    have := sizes_take_le r i
    simp only [List.take_succ_cons, Dat.sizes]
    omega
theorem len_sizes : ∀ (ds : List Dat), ds.length ≤ Dat.sizes ds
  | [] => by simp [Dat.sizes]
  | e :: r => by
    have := len_sizes r
    have := e.size_pos
    simp only [List.length_cons, Dat.sizes]
    omega
theorem pure_law_same {K : PySem.W.Frag} {vs : List V} {H : Hp} {Q : VK} {E : XK} (h : sp_law_same K vs H Q E) : t_law_same K (En Q) (start N_law_same vs) H := by
  obtain ⟨x0, y0, d0, rfl, hx0, hy0, hd0, q⟩ := h
  unfold t_law_same
  walk_at "rd"
  intro p1 H1 np1 s1 e1
  walk_at "rd"
  intro st H2 nst s2 e2
  walk_at "rd"
  have hne : p1 ≠ st := ne_of_none e1 nst
  refine r_while (fun m σ H' => ∃ (its : List Item) (z3 z4 : Option V), σ = [some x0, some y0, some (.ref st), z3, z4] ∧ Same H H' ∧ H st = none ∧ H' st = some (.lst (refs its)) ∧ Items K H' st its ∧ m = total its ∧ m ≤ 1000000) d0.size
    ⟨[⟨p1, x0, y0, d0⟩], none, none, rfl, s1.trans s2, s1.free nst, e2, ?_, ?_, hd0⟩ (fun m σ H' hW => ?_)
  · intro it hi
    rw [List.mem_singleton] at hi
    subst hi
    exact ⟨hne, s2 _ _ e1, rp_same (s1.trans s2) hx0, rp_same (s1.trans s2) hy0⟩
  · simp [total]
  obtain ⟨its, z3, z4, rfl, s3, nst0, e3, hI, rfl, hm⟩ := hW
  walk_at "rd"
  rcases List.eq_nil_or_concat its with rfl | ⟨rest, it, rfl⟩
  · -- the stack is empty
    refine r_F ?_
    walk_at "rd"
    exact q _ s3
  · rw [List.concat_eq_append] at *
    have hb : (!(refs (rest ++ [it])).isEmpty) = true := by rw [refs_append]; simp [refs]
    rw [if_pos hb]
    have e3' : H' st = some (.lst (refs rest ++ [.ref it.q])) := by rw [e3, refs_append]; rfl
    obtain ⟨hq, eq, hx, hy⟩ := hI it (by simp)
    have hR : Items K H' st rest := fun i hi => hI i (by simp [hi])
    obtain ⟨q0, x, y, d⟩ := it
    dsimp only at hq eq hx hy e3'
    have ht : total (rest ++ [⟨q0, x, y, d⟩]) = total rest + d.size := by rw [total_append]; simp [total]
    rw [ht] at hm ⊢
    walk_at "rd"
    intro H4 b4 e4
    have eq4 : H4 q0 = some (.lst [x, y]) := b4 _ _ hq eq
    have hx4 := rp_but b4 e3' hx
    have hy4 := rp_but b4 e3' hy
    have hR4 := hR.but b4 e3'
    have s4 : Same H H4 := same_but s3 b4 nst0
    have dp := d.size_pos
    have fin : ∃ m', m' < total rest + d.size ∧ ∃ (its : List Item) (y3 y4 : Option V), ([some x0, some y0, some (.ref st), some (.ref q0), z4] : L2.St) = [some x0, some y0, some (.ref st), y3, y4] ∧ Same H H4 ∧ H st = none ∧ H4 st = some (.lst (refs its)) ∧ Items K H4 st its ∧ m' = total its ∧ m' ≤ 1000000 :=
      ⟨total rest, by omega, rest, _, _, rfl, s4, nst0, e4, hR4, rfl, by omega⟩
    walk_at "rd"
    cases hy4 with
    | @tup b ys ds hbt hrb =>
      cases hx4 with
      | @tup a xs _ ha hra =>
        have lx := rpL_length hra
        have ly := rpL_length hrb
        walk_at "rd"
        rw [lx, ly]
        refine r_iteNP rfl ?_
        walk_at "rd"
        have hl := len_sizes ds
        have hs : (Dat.tup ds).size = 1 + Dat.sizes ds := by simp [Dat.size]
        refine r_pr1 ⟨by omega, by omega⟩ ?_
        rw [Int.toNat_natCast, ly]
        refine r_forRange0 (fun i σ' H' => ∃ (its : List Item) (z : Option V), σ' = [some x0, some y0, some (.ref st), some (.ref q0), z] ∧ Same H H' ∧ H' st = some (.lst (refs its)) ∧ Items K H' st its ∧ total its = total rest + Dat.sizes (ds.take i) ∧
          H' q0 = some (.lst [.ref a, .ref b]) ∧ SqT K H' a xs ∧ SqT K H' b ys ∧ RpL K H' xs ds ∧ RpL K H' ys ds)
          ⟨rest, _, rfl, s4, e4, hR4, by simp [Dat.sizes], eq4, ha, hbt, hra, hrb⟩ (fun i σ' H5 hi hP => ?_) (fun σ' H5 hP => ?_)
        · obtain ⟨its, z, rfl, s5, e5, hI5, ht5, eq5, ha5, hb5, hra5, hrb5⟩ := hP
          have hd : ds[i]? = some ds[i] := List.getElem?_eq_getElem hi
          obtain ⟨vx, gx, rx⟩ := rpL_get hra5 hd
          obtain ⟨vy, gy, ry⟩ := rpL_get hrb5 hd
          have gx' := atI_nat gx
          have gy' := atI_nat gy
          walk_at "rd"
          intro p H6 np s6 e6
          have hpq : p ≠ st := (ne_of_none e5 np).symm
          have e56 := s6 _ _ e5
          have hle : Dat.sizes (ds.take (i + 1)) ≤ Dat.sizes ds := sizes_take_le ds _
          have h1 := sizes_take ds i _ hd
          have h2 := (ds[i]).size_pos
          have hz : (refs its).length ≤ total its := by rw [show (refs its).length = its.length by simp [refs]]; exact length_le_total its
          walk_at "rd"
          intro H7 b7 e7
          walk_at "rd"
          refine ⟨its ++ [⟨p, vx, vy, ds[i]⟩], _, rfl, same_but (s5.trans s6) b7 nst0, by rw [e7, refs_append]; rfl, ?_, ?_, b7 _ _ hq (s6 _ _ eq5), sqT_but b7 e56 (sqT_same s6 ha5), sqT_but b7 e56 (sqT_same s6 hb5), rpL_keep (tk_but b7 e56) (rpL_keep (tk_same s6) hra5), rpL_keep (tk_but b7 e56) (rpL_keep (tk_same s6) hrb5)⟩
          · intro it hit
            rcases List.mem_append.mp hit with hit | hit
            · exact ((hI5.same s6).but b7 e56) it hit
            · rw [List.mem_singleton] at hit
              subst hit
              exact ⟨hpq, b7 _ _ hpq e6, rp_but b7 e56 (rp_same s6 rx), rp_but b7 e56 (rp_same s6 ry)⟩
          · rw [total_append, ht5, h1]
            simp [total]
            omega
        · obtain ⟨its, z, rfl, s5, e5, hI5, ht5, eq5, ha5, hb5, hra5, hrb5⟩ := hP
          rw [List.take_length] at ht5
          exact ⟨total its, by omega, its, _, _, rfl, s5, nst0, e5, hI5, rfl, by omega⟩
    | bl c =>
      cases hx4 with
      | bl _ =>
        walk_at "rd"
        refine r_neSame rfl ?_
        walk_at "rd"
        exact fin
    | int c =>
      cases hx4 with
      | int _ =>
        walk_at "rd"
        refine r_iteNP rfl ?_
        walk_at "rd"
        exact fin
    | str c =>
      cases hx4 with
      | str _ =>
        walk_at "rd"
        refine r_neSame rfl ?_
        walk_at "rd"
        exact fin
    | non =>
      cases hx4 with
      | non =>
        walk_at "rd"
        refine r_iteNP rfl ?_
        walk_at "rd"
        exact fin
end Kb
set_option maxRecDepth 100000
set_option linter.all false
namespace Kb
def IsRow (r : List Int) (n : Nat) : Prop := r.length = n ∧ r.Nodup ∧ ∀ x ∈ r, 1 ≤ x ∧ x ≤ (n : Int)
def nx (r : List Int) (b : Int) : Int := r.getD (b - 1).toNat 0
end Kb
set_option Elab.async false
set_option linter.all false
set_option maxRecDepth 100000
set_option maxHeartbeats 4000000
namespace Kb
open PySem PySem.Spec PyProof.Rows L2
local macro_rules | `(tactic| walk_at "tk") => `(tactic| first
  | assumption
  | ((with_reducible refine' sqT_of ?k); (case k => assumption))
  | ((with_reducible refine' sqT_ofD ?k); (case k => assumption))
  | ((with_reducible refine' noD_of ?k); (case k => assumption))
  | ((with_reducible refine' noD_same ?s ?k); (case s => assumption); (case k => walk_at "tk"))
  | ((with_reducible refine' sqL_of ?k); (case k => assumption))
  | ((with_reducible refine' sqT_same ?s ?k); (case s => assumption); (case k => walk_at "tk"))
  | ((with_reducible refine' sqL_same ?s ?k); (case s => assumption); (case k => walk_at "tk"))
  | ((with_reducible refine' sqT_but ?s ?t ?k); (case s => assumption); (case t => walk_at "tk"); (case k => walk_at "tk"))
  | ((with_reducible refine' sqL_but ?s ?t ?k); (case s => assumption); (case t => walk_at "ne"); (case k => walk_at "tk"))
  | ((with_reducible refine' sqL_of ?k); (case k => walk_at "tk"))
  | ((with_reducible refine' sqT_of ?k); (case k => walk_at "tk"))
  | ((with_reducible refine' at_same ?s ?k); (case s => assumption); (case k => walk_at "tk"))
  | ((with_reducible refine' at_but ?s ?t ?k); (case s => assumption); (case t => walk_at "ne"); (case k => walk_at "tk")))
local macro_rules | `(tactic| walk_at "ne") => `(tactic| first
  | assumption
  | (refine Ne.symm ?_; assumption)
  | exact ne_of_none (by assumption) (by assumption)
  | exact (ne_of_none (by assumption) (by assumption)).symm)
local macro_rules | `(tactic| walk_at "side") => `(tactic| first
  | assumption
  | omega
  | (simp only [sizeLine_eq, List.length_cons, List.length_nil, List.length_map]; omega)
  | (show _ ≤ sizeLine; decide))
local macro_rules | `(tactic| walk_at "kit") => `(tactic| first
  | (show kitB _ _ = some true; decide +kernel)
  | (show kitB _ _ = some false; decide +kernel))
local macro_rules | `(tactic| walk_at "rng") => `(tactic| first
  | (refine ⟨by omega, by omega, by omega, by omega⟩)
  | (refine ⟨by omega, by omega⟩)
  | ((simp only [List.length_map]); (refine ⟨by omega, by omega, by omega, by omega⟩))
  | ((simp only [List.length_map]); (refine ⟨by omega, by omega⟩)))
local macro_rules | `(tactic| walk_at "rd1") => `(tactic| first
  | with_reducible refine r_seq ?_
  | ((with_reducible refine' r_var ?k0 ?_); (case k0 => rfl))
  | with_reducible refine r_op ?_
  | with_reducible refine r_c ?_
  | with_reducible refine r_asg ?_
  | with_reducible refine r_name ?_
  | with_reducible refine r_cons ?_
  | with_reducible refine r_nil ?_
  | with_reducible refine r_CB ?_
  | with_reducible refine r_if ?_
  | with_reducible refine r_test ?_
  | with_reducible refine r_k ?_
  | with_reducible refine r_T ?_
  | with_reducible refine r_F ?_
  | with_reducible refine r_nT ?_
  | with_reducible refine r_nF ?_
  | with_reducible refine r_ret ?_
  | with_reducible refine r_drop ?_
  | with_reducible refine r_next ?_
  | with_reducible refine r_call ?_
  | with_reducible refine r_addI ?_
  | with_reducible refine r_subI ?_
  | with_reducible refine r_ltI ?_
  | with_reducible refine r_gtI ?_
  | with_reducible refine r_leI ?_
  | with_reducible refine r_geI ?_
  | with_reducible refine r_eqI ?_
  | with_reducible refine r_neI ?_
  | with_reducible refine r_int ?_
  | with_reducible refine r_abs ?_
  | with_reducible refine r_not ?_
  | with_reducible refine r_and ?_
  | with_reducible refine r_or ?_
  | with_reducible refine r_tru ?_
  | with_reducible refine r_truB ?_
  | with_reducible refine r_lst ?_
  | with_reducible refine r_tup ?_
  | with_reducible refine r_BM ?_
  | with_reducible refine r_BM0 ?_
  | with_reducible refine r_tyS ?_
  | with_reducible refine r_gsub ?_
  | with_reducible refine r_then ?_
  | with_reducible refine r_lstRg ?_
  | with_reducible refine r_tupRg ?_
  | with_reducible refine r_rg2 ?_
  | with_reducible refine r_rg1 ?_
  | with_reducible refine r_ii ?_
  | with_reducible refine r_i ?_
  | with_reducible refine r_ipI ?_
  | with_reducible refine r_un ?_
  | with_reducible refine r_neg ?_
  | with_reducible refine r_isN ?_
  | with_reducible refine r_notN ?_
  | with_reducible refine r_notV ?_
  | with_reducible refine r_pnot ?_
  | with_reducible refine r_pif ?_
  | with_reducible refine r_andV ?_
  | with_reducible refine r_orV ?_
  | with_reducible refine r_ifE ?_
  | with_reducible refine r_chain ?_
  | with_reducible refine r_sl ?_
  | with_reducible refine r_noPart ?_
  | with_reducible refine r_part ?_
  | with_reducible refine r_brk ?_
  | with_reducible refine r_cont ?_
  | with_reducible refine r_retN ?_
  | with_reducible refine r_truI ?_
  | with_reducible refine r_B ?_
  | with_reducible refine r_for ?_
  | with_reducible refine r_rng1 ?_
  | with_reducible refine r_rng2 ?_
  | with_reducible refine r_rng3 ?_
  | with_reducible refine r_body ?_
  | with_reducible refine r_lc ?_
  | with_reducible refine r_yes ?_
  | ((with_reducible refine' r_mod ?k0 ?_); (case k0 => walk_at "side"))
  | ((with_reducible refine' r_mulI ?k0 ?_); (case k0 => first | exact Or.inl ⟨by omega, by omega⟩ | exact Or.inr ⟨by omega, by omega⟩))
  | ((with_reducible refine' r_lenL ?k0 ?_); (case k0 => walk_at "tk"))
  | ((with_reducible refine' r_lenT ?k0 ?_); (case k0 => walk_at "tk"))
  | ((with_reducible refine' r_truL ?k0 ?_); (case k0 => walk_at "tk"))
  | ((with_reducible refine' r_truT ?k0 ?_); (case k0 => walk_at "tk"))
  | ((with_reducible refine' r_ixL ?k0 ?k1 ?_); (case k0 => walk_at "tk"); (case k1 => first | assumption | rfl))
  | ((with_reducible refine' r_ixT ?k0 ?k1 ?_); (case k0 => walk_at "tk"); (case k1 => first | assumption | rfl))
  | ((with_reducible refine' r_new ?k0 ?_); (case k0 => walk_at "side"))
  | ((with_reducible refine' r_tyL ?k0 ?_); (case k0 => walk_at "tk"))
  | ((with_reducible refine' r_append ?k0 ?k1 ?_); (case k0 => walk_at "tk"); (case k1 => walk_at "side"))
  | ((with_reducible refine' r_setL ?k0 ?k1 ?_); (case k0 => walk_at "tk"); (case k1 => first | assumption | rfl))
  | ((with_reducible refine' r_kTupL ?k0 ?_); (case k0 => walk_at "tk"))
  | ((with_reducible refine' r_kTupT ?k0 ?_); (case k0 => walk_at "tk"))
  | ((with_reducible refine' r_listL ?k0 ?_); (case k0 => walk_at "tk"))
  | ((with_reducible refine' r_listT ?k0 ?_); (case k0 => walk_at "tk"))
  | ((with_reducible refine' r_aug ?k0 ?_); (case k0 => rfl))
  | ((with_reducible refine' r_lenS ?k0 ?_); (case k0 => walk_at "side"))
  | ((with_reducible refine' r_pop ?k0 ?_); (case k0 => walk_at "tk"))
  | ((with_reducible refine' r_pr1 ?k0 ?_); (case k0 => walk_at "rng"))
  | ((with_reducible refine' r_pr2 ?k0 ?_); (case k0 => walk_at "rng"))
  | ((with_reducible refine' r_pr3d ?k0 ?_); (case k0 => walk_at "rng"))
  | ((with_reducible refine' r_isiI ?k0 ?_); (case k0 => walk_at "kit"))
  | ((with_reducible refine' r_isiB ?k0 ?_); (case k0 => walk_at "kit"))
  | ((with_reducible refine' r_isiS ?k0 ?_); (case k0 => walk_at "kit"))
  | ((with_reducible refine' r_isiN ?k0 ?_); (case k0 => walk_at "kit"))
  | ((with_reducible refine' r_isiT ?k0 ?k1 ?_); (case k0 => walk_at "tk"); (case k1 => walk_at "kit"))
  | ((with_reducible refine r_seqT ?_); (repeat (walk_at "rd1")); ((with_reducible refine' r_pseqT ?k0 ?_); (case k0 => walk_at "tk")))
  | ((with_reducible refine r_seqL ?_); (repeat (walk_at "rd1")); ((with_reducible refine' r_pseqL ?k0 ?_); (case k0 => walk_at "tk")))
  | ((with_reducible refine r_seqS ?_); (repeat (walk_at "rd1")); (with_reducible refine r_pseqS ?_)))
local macro_rules | `(tactic| walk_at "rd") => `(tactic| ((repeat (walk_at "rd1")); (try dsimp only)))
section
variable {K : PySem.W.Frag} {vs : List V} {H : Hp} {Q : VK} {E : XK}
theorem but_via {p l : Addr} {H H1 H2 : Hp} (a : But p H H1) (b : But l H1 H2) (h : H l = none) : But p H H2 := fun c o n e => b c o (ne_of_none e h) (a c o n e)
end
end Kb
set_option Elab.async false
set_option linter.all false
set_option maxRecDepth 100000
set_option maxHeartbeats 4000000
namespace Kb
open PySem PySem.Spec PyProof.Rows L2
/-- what the frame of an __init__ that says super() must say; D: the class that its body stands in -/
structure SupK (X : Cx) (D : Addr) : Prop where
  gs : Gl X "super"
  kc : X.env.kindOf "__class__" = some .free
  ks : X.env.kindOf "self" = some .local
  fn : ∃ (f : Addr) (oc : Value) (od : Option Addr) (fd : FuncData) (osl : Array (Option Value)) (ar : Arg), X.env.func = some f ∧ X.K.lookup f = some ⟨oc, od, .func fd, osl⟩ ∧ (fd.params.posonlyargs ++ fd.params.args).head? = some ar ∧ ar.arg = "self"
  cd : ∃ (cda : Addr) (ccl : Value) (cdd : Option Addr) (vs : Array Value) (ccs : Array (Option Value)) (file : Str) (tf : Tok), X.env.code = .ref cda ∧ X.K.lookup cda = some ⟨ccl, cdd, .fields vs, ccs⟩ ∧ vs[2]? = some (.str file tf) ∧ ((X.prog.main.file : Str) == file) = true
  cl : ∃ (cc : Addr) (cl : Value) (cld : Option Addr) (csl : Array (Option Value)), X.env.cells.lookup ("__class__" : Str) = some cc ∧ X.K.lookup cc = some ⟨cl, cld, .cell (some (.ref D)), csl⟩
  su : X.mg "super" = none
  tp : (X.prog.main.scope.names.lookup ("super" : Str)).isSome = false
  dc : ∃ cdD, PySem.W.clsIn X.K D = some cdD
section
variable {X : Cx} {pins : List (Addr × Obj)} {σ : L2.St} {H : Hp} {s : Shared} {a C D : Addr}
theorem exo_ne (T : OexC X.K C) (I : Inv X pins σ H s) (ea : H a = some (exo a C none)) : a ≠ C := by
  rintro rfl
  obtain ⟨nm, q, N, bs, bm, sn, sub, ab, col, dd, k0, k1, k2, k3, k5, hC, hbm⟩ := T.cls
  obtain ⟨t1, ho⟩ := exo_at I.hok ea
  have e := I.kIn _ _ hC
  rw [ho] at e
  cases e
theorem boot_super : bootBuiltins "super" = some (.type "super") := by first | boot_by_name | rfl | kernel_rfl
/-- a new object that is pinned -/
theorem pin_new {h' : Heap} {t' : Nat} {o : Obj} (I : Inv X pins σ H s) (k : ∀ b u, s.heap.get? b = some u → h'.get? b = some u) (e : h'.get? s.heap.objs.size = some o) (hn : ∀ v, o.data ≠ .cell v) :
    Inv X ((s.heap.objs.size, o) :: pins) σ H { s with heap := h', toks := t' } := by
  have J := I.kept (t' := t') k
  refine J.pins_of fun p hp => ?_
  rcases List.mem_cons.mp hp with rfl | hp
  · exact ⟨e, I.hok.fresh (Nat.le_refl _), Nat.ne_of_gt I.lt, I.nofs (Nat.le_refl _), hn⟩
  · exact J.pin p (List.mem_append_right _ hp)
theorem sup_base {body : List Stmt} {p0 p1 : Pos} {attr : Str} {whole : Sem Value} {Q : Value → Shared → Prop} {E : Value → Shared → Prop} (S : SupK X D) (I : Inv X pins σ H s) (hN : X.N[0]? = some ("self" : Str)) (hs : σ[0]? = some (some (V.ref a)))
    (T : OexC X.K C) (ea : H a = some (exo a C none)) (sub : PySem.W.mroIn X.K C (.ref D) = some true) (hat : (attr == ("__class__" : Str)) = false)
    (h : ∀ so s', Inv X ((so, PySem.W.ks_superObj D a C) :: pins) σ H s' → Q (.ref so) s') :
    _root_.PySem.wpAt (model X.prog X.w) X.A (.func body X.env) (attributeBase (.Call (.Name "super" p0) [] [] p1) attr X.env whole) Q E s := by
  obtain ⟨f, oc, od, fd, osl, ar, hfu, hf, hp, har⟩ := S.fn
  obtain ⟨cda, ccl, cdd, vs, ccs, file, tf, hco, hcode, hvs, hfile⟩ := S.cd
  obtain ⟨cc, cl, cld, csl, hcc, hcell⟩ := S.cl
  obtain ⟨cdD, hD⟩ := S.dc
  have KX := I.kIn
  have hg : X.env.globals = mainGlobals := I.ok.glob
  obtain ⟨m, hn, hlk⟩ := id I.loc
  obtain ⟨u, ru, lu⟩ := hlk 0 "self" (.ref a) hN hs (.inl S.ks)
  obtain rfl : u = Value.ref a := ru
  have hv : m "self" = some (.ref a) := by
    rcases lu with ⟨_, e⟩ | ⟨k, _⟩
    · exact e
    · rw [S.ks] at k
      rcases k with k | k <;> cases k
  obtain ⟨t1, ho⟩ := exo_at I.hok ea
  obtain ⟨oD, hD1, hD2⟩ : ∃ oD, s.heap.get? D = some oD ∧ oD.data = .cls cdD := by
    unfold PySem.W.clsIn at hD
    split at hD
    · rename_i c d cd' sl ho
      cases hD
      exact ⟨_, KX _ _ ho, rfl⟩
    · cases hD
  obtain ⟨hh, g, d, t, os⟩ := s
  refine ks_wpAt_super_base (env := X.env) S.gs S.kc hat hfu (KX _ _ hf) rfl hp hco (KX _ _ hcode) rfl hvs hfile S.tp ?_
  obtain ⟨mb, b1, b2⟩ := I.mod.blt
  refine PySem.W.ks_loadName_global I.ok.kind S.gs (Calls.loadGlobal_builtin (by rw [I.ok.glob]; exact I.mod.glob.keeps I.bk) S.su (by rw [I.ok.blt]; exact b1.keeps I.bk) ((b2 _ (by decide)).trans boot_super) ⟨rfl, ?_⟩)
  refine wpAny_loadName_free I.ok.kind S.kc hcc ⟨_, KX _ _ hcell, rfl⟩ ?_
  rw [har]
  refine wpAny_loadName_local I.ok.kind S.ks hn hv ?_
  refine ks_wpAny_isType_cls hD1 hD2 ⟨rfl, ?_⟩
  refine ks_wpAny_call_super hD1 hD2 ho rfl (fun c e => by cases e) (PySem.W.looks_mroIn KX sub) (fun h' e k => ?_)
  exact h _ _ (pin_new (s := ⟨hh, g, d, t, os⟩) (t' := t) I k e (fun v z => by cases z))
/-- super().__init__(e, ..), the next class ValueError: nothing of it is told -/
def tSupV (K : PySem.W.Frag) (D : Addr) (ta : TA) : TS := fun R σ H => ∃ a C : Addr, σ[0]? = some (some (V.ref a)) ∧ H a = some (exo a C none) ∧ OexC K C ∧ PySem.W.mroIn K C (.ref D) = some true ∧
  PySem.W.nsIn K PySem.cStatics "thirdparty.any" = some none ∧ PySem.W.ks_superIn K C D "__init__" = some (some (.builtin "ValueError.__init__")) ∧ PySem.W.subIn K (.ref C) (.type "ValueError") = some true ∧
  ta σ H fun vs H1 => vs.length ≤ 1000 ∧ H1 a = some (exo a C none) ∧ R.nx σ H1
/-- a statement that is run in its own frame -/
def PSat (X : Cx) (body : List Stmt) (st : Stmt) (t : TS) : Prop := ∀ (pins : List (Addr × Obj)) (s : Shared) (σ : L2.St) (H : Hp) (R : Ends), Inv X pins σ H s → t R σ H →
  _root_.PySem.wpAt (model X.prog X.w) X.A (.func body X.env) (exec st X.env) (SP X pins R) X.xe s
theorem sup_method {Q : Value × List Value → Shared → Prop} {E : Value → Shared → Prop} {A : Around} {pl : Sem Bool} {B i : String} {so : Addr} (KF : PySem.W.KxsFacts B i) (I : Inv X ((so, PySem.W.ks_superObj D a C) :: pins) σ H s) (T : OexC X.K C) (ea : H a = some (exo a C none))
    (opq : PySem.W.nsIn X.K PySem.cStatics "thirdparty.any" = some none) (hm : PySem.W.ks_superIn X.K C D "__init__" = some (some (.builtin i))) (hB : PySem.W.subIn X.K (.ref C) (.type B) = some true)
    (h : ∀ u s', Inv X ((u, PySem.W.kxs_mw i a) :: pins) σ H s' → Q (.ref u, []) s') : wpAny (model X.prog X.w) A (getMethod (.ref so) "__init__" pl) Q E s := by
  have KX := I.kIn
  obtain ⟨hso, _⟩ := I.pin _ (List.mem_append_right _ List.mem_cons_self)
  obtain ⟨t1, ho⟩ := exo_at I.hok ea
  have IA : PySem.W.InstAt s.heap a _ C none := ⟨ho, rfl, rfl, trivial⟩
  have hI : PySem.W.Looks (model X.prog X.w) s.heap (isInstance (.ref a) (.type B)) true := IA.type.andThen (PySem.W.looks_subIn KX hB)
  have hne := exo_ne T I ea
  obtain ⟨hh, g, d, t, os⟩ := s
  cases hc : PySem.W.clsIn X.K C with
  | none => unfold PySem.W.ks_superIn at hm; rw [hc] at hm; cases hm
  | some cd =>
    unfold PySem.W.ks_superIn at hm
    rw [hc] at hm
    refine PySem.W.kxs_getMethod KF hso (PySem.W.looks_opaque KX opq) (l₀ := cd.mro) (fun A Q E s k q => wpAny_bind ((PySem.W.looks_clsIn KX hc) A _ E s k (wpAny_pure q))) rfl KX hm hI hne (by decide) ?_
    have J := pin_new (s := ⟨hh, g, d, t, os⟩) (t' := t + 1) (o := PySem.W.kxs_mw i a) I (fun b o e => Heap.get?_push_of_some _ e) (Heap.get?_push_at rfl rfl) (fun v z => by cases z)
    exact h _ _ (J.pins_of fun p hp => J.pin p (List.mem_append_right _ (by
      rcases List.mem_cons.mp hp with rfl | hp
      · exact List.mem_cons_self
      · exact List.mem_cons_of_mem _ (List.mem_cons_of_mem _ hp))))
theorem sup_wrapper {u : Addr} {us : List Value} {Q : Value → Shared → Prop} {E : Value → Shared → Prop} {A : Around} (I : Inv X ((u, PySem.W.kxs_mw "ValueError.__init__" a) :: pins) σ H s) (T : OexC X.K C) (ea : H a = some (exo a C none)) (hl : us.length ≤ sizeLine)
    (h : ∀ s', Inv X pins σ H s' → Q .none s') : wpAny (model X.prog X.w) A (call (.ref u) us) Q E s := by
  obtain ⟨hu, _⟩ := I.pin _ (List.mem_append_right _ List.mem_cons_self)
  obtain ⟨nm, q, N, bs, bm, sn, sub, ab, col, dd, k0, k1, k2, k3, k5, hC, hbm⟩ := T.cls
  obtain ⟨t1, ho⟩ := exo_at I.hok ea
  obtain ⟨hp, g, d, t, os⟩ := s
  refine wpAny_call (codeAny_of_tree ?_)
  show wpAny _ A.in1 (callAny (.ref u) ⟨us, []⟩) _ _ _
  simp only [callAny]
  refine wpAny_bind (wpAny_load hu ?_)
  simp only [PySem.W.kxs_mw, show (Value.type "method-wrapper" == Value.type "method" || Value.type "method-wrapper" == Value.type "builtin_function_or_method" || Value.type "method-wrapper" == Value.type "method-wrapper") = true by decide, if_true]
  refine PySem.W.KFB.if_so (by decide) ?_
  refine wpAny_bind (PySem.W.check_bound_init F.excBase_ValueError.toExcCallFacts (I.kIn _ _ hC) ho rfl ?_)
  refine wpAny_bind (wpAny_pure (wpAny_pure ?_))
  refine ⟨plainId_quiet F.excBase_ValueError.init.plain _, codeAny_builtin F.excBase_ValueError.initEntry ?_⟩
  refine PySem.W.exc_init_tree (cls := .ref C) (t0 := t1) (dv := none) (c2 := .none) (c3 := .none) (b4 := .bool false) ho hl fun h' k hx _ => ?_
  have I0 : Inv X pins σ H ⟨hp, g, d, t, os⟩ := I.pins_of fun p hp => I.pin p (List.mem_append_right _ (List.mem_cons_of_mem _ hp))
  have J := I0.write (t' := t) (x := a) (e := a) (o := exo a C none) (by rw [ea]; exact True.intro) (.inl rfl) k ⟨_, hx⟩ (exo_ok hx)
  have eu : upd H a (exo a C none) = H := by
    funext b
    by_cases hb : b = a
    · rw [hb, upd_same, ea]
    · rw [upd_ne hb]
  rw [eu] at J
  exact h _ J
end
section
variable {M : Model} {A : Around} {E : Value → Shared → Prop} {s : Shared} {u x g : Addr} {i : String} {pos : Pos} {env : Env} {e : Expr} {rest : List Expr} {Q : Value → Shared → Prop} {K : PySem.W.Frag}
theorem cw_wrap (h : wpAny M A (spliced (backTo pos (starEach (e :: rest) env))) (fun vs s₁ => PySem.W.KxsAt i u x s₁.heap ∧ wpAny M A (call (.ref u) vs) Q E s₁) E s)
    (he : starEach (e :: rest) env = (false, eval e env) :: starEach rest env) (hplain : (backTo pos (starEach rest env)).any (·.1) = false) :
    wpAny M A (callWith pos (.ref u) [] (backTo pos (starEach (e :: rest) env)) []) Q E s := by
  rw [he] at h ⊢
  refine PySem.W.kxs_callWith (i := i) (x := x) (by show (false || (backTo pos (starEach rest env)).any (·.1)) = false; rw [hplain]; rfl) ?_
  exact PySem.Calls.evalArgs_plain h
theorem cw_meth {self : Value} (hf : PySem.W.fnIn K g = true) (h : wpAny M A (spliced (backTo pos (starEach (e :: rest) env))) (fun vs s₁ => PySem.W.MethP K u g self s₁.heap ∧ wpAny M A (call (.ref u) vs) Q E s₁) E s)
    (he : starEach (e :: rest) env = (false, eval e env) :: starEach rest env) (hplain : (backTo pos (starEach rest env)).any (·.1) = false) :
    wpAny M A (callWith pos (.ref u) [] (backTo pos (starEach (e :: rest) env)) []) Q E s := by
  rw [he] at h ⊢
  exact PySem.W.callWith_of (by show ((false || (backTo pos (starEach rest env)).any (·.1)) || false) = false; rw [hplain]; rfl) (PySem.W.keeps_M hf) (PySem.Calls.evalArgs_plain h)
end
section
variable {X : Cx} {D : Addr} {body : List Stmt} {e : Expr} {es : List Expr} {ta : TA} {p0 p1 p2 p3 p4 : Pos}
abbrev supStmt (e : Expr) (es : List Expr) (p0 p1 p2 p3 p4 : Pos) : Stmt := .Expr (.Call (.Attribute (.Call (.Name "super" p0) [] [] p1) "__init__" p2) (e :: es) [] p3) p4
theorem pst_supV {pl : Sem Bool} (S : SupK X D) (hN : X.N[0]? = some ("self" : Str)) (ha : PA X (e :: es) ta)
    (hc : eval (.Call (.Attribute (.Call (.Name "super" p0) [] [] p1) "__init__" p2) (e :: es) [] p3) X.env = (do
      let ov ← attributeBase (.Call (.Name "super" p0) [] [] p1) "__init__" X.env (eval (.Call (.Name "super" p0) [] [] p1) X.env)
      standAt p2.atName
      let (f, first) ← holding [ov] (getMethod ov "__init__" pl)
      callWith p3 f first (backTo p3 (starEach (e :: es) X.env)) []) := by rfl) (hsw : swapsWith (.Call (.Attribute (.Call (.Name "super" p0) [] [] p1) "__init__" p2) (e :: es) [] p3) none p4.line X.env = pure false := by rfl)
    (he : starEach (e :: es) X.env = (false, eval e X.env) :: starEach es X.env := by rfl) (hpl : (backTo p3 (starEach es X.env)).any (·.1) = false := by rfl) :
    PSat X body (supStmt e es p0 p1 p2 p3 p4) (tSupV X.K D ta) := by
  intro pins s σ H R I h
  obtain ⟨a, C, hs, ea, T, sub, opq, hm, hB, h⟩ := h
  refine ks_wpAt_Expr_any (ks_wpAt_MethodCall (pl := pl) ?_ hc) I.quiet hsw
  · refine sup_base S I hN hs T ea sub (by decide) fun so s1 I1 => ?_
    refine sup_method PySem.W.kxs_ValueError I1 T ea opq hm hB fun u s2 I2 => ?_
    show wpAny _ _ (callWith p3 (.ref u) [] (backTo p3 (starEach (e :: es) X.env)) []) _ _ _
    refine cw_wrap (i := "ValueError.__init__") (x := a) (thn (ha.run p3 _ s2 σ H _ I2 h) fun us s3 ⟨vs, H1, I3, r1, hl, ea1, q⟩ => ⟨?_, ?_⟩) he hpl
    · exact (I3.pin _ (List.mem_append_right _ List.mem_cons_self)).1
    · refine sup_wrapper I3 T ea1 ?_ fun s4 I4 => ⟨σ, H1, I4, q⟩
      rw [← Paired.length r1, sizeLine_eq]
      omega
/-- super().__init__(e, ..), the next class's own __init__ keeping sp -/
def tSupF (K : PySem.W.Frag) (D f2 : Addr) (sp : Sp) (ta : TA) : TS := fun R σ H => ∃ a C : Addr, σ[0]? = some (some (V.ref a)) ∧ H a = some (exo a C none) ∧ OexC K C ∧ PySem.W.mroIn K C (.ref D) = some true ∧
  PySem.W.nsIn K PySem.cStatics "thirdparty.any" = some none ∧ PySem.W.ks_superIn K C D "__init__" = some (some (.ref f2)) ∧
  ta σ H fun vs H1 => sp (.ref a :: vs) H1 (fun _ H2 => R.nx σ H2) (fun _ _ _ => False)
theorem sup_methodF {pins : List (Addr × Obj)} {σ : L2.St} {H : Hp} {s : Shared} {a C f2 so : Addr} {Q : Value × List Value → Shared → Prop} {E : Value → Shared → Prop} {A : Around} {pl : Sem Bool} (I : Inv X ((so, PySem.W.ks_superObj D a C) :: pins) σ H s) (T : OexC X.K C) (ea : H a = some (exo a C none))
    (opq : PySem.W.nsIn X.K PySem.cStatics "thirdparty.any" = some none) (hm : PySem.W.ks_superIn X.K C D "__init__" = some (some (.ref f2))) (ht : PySem.W.typeIn X.K (.ref f2) = some (.type "function"))
    (h : ∀ u s', Inv X ((u, PySem.W.methodObj (.ref f2) (.ref a)) :: pins) σ H s' → Q (.ref u, []) s') : wpAny (model X.prog X.w) A (getMethod (.ref so) "__init__" pl) Q E s := by
  have KX := I.kIn
  obtain ⟨hso, _⟩ := I.pin _ (List.mem_append_right _ List.mem_cons_self)
  have hne := exo_ne T I ea
  obtain ⟨hh, g, d, t, os⟩ := s
  cases hc : PySem.W.clsIn X.K C with
  | none => unfold PySem.W.ks_superIn at hm; rw [hc] at hm; cases hm
  | some cd =>
    unfold PySem.W.ks_superIn at hm
    rw [hc] at hm
    obtain ⟨of, hof, hofc⟩ : ∃ of, hh.get? f2 = some of ∧ of.cls = .type "function" := by
      have ht' : (X.K.lookup f2).map (·.cls) = some (.type "function") := ht
      cases z : X.K.lookup f2 with
      | none => rw [z] at ht'; cases ht'
      | some of => rw [z] at ht'; exact ⟨of, KX _ _ z, Option.some.inj ht'⟩
    refine ks_wpAny_getMethod_super hso (PySem.W.looks_opaque KX opq) (l₀ := cd.mro) (fun A Q E s k q => wpAny_bind ((PySem.W.looks_clsIn KX hc) A _ E s k (wpAny_pure q))) rfl KX hm hof hofc hne (by decide) ?_
    have J := pin_new (s := ⟨hh, g, d, t, os⟩) (t' := t + 1) (o := PySem.W.methodObj (.ref f2) (.ref a)) I (fun b o e => Heap.get?_push_of_some _ e) (Heap.get?_push_at rfl rfl) (fun v z => by cases z)
    exact h _ _ (J.pins_of fun p hp => J.pin p (List.mem_append_right _ (by
      rcases List.mem_cons.mp hp with rfl | hp
      · exact List.mem_cons_self
      · exact List.mem_cons_of_mem _ (List.mem_cons_of_mem _ hp))))
theorem pst_supF {pl : Sem Bool} {CX : CXT} {k : Nat} {f2 : Addr} {fd : FuncData} {ps : List Str} {sp : Sp} (S : SupK X D) (hN : X.N[0]? = some ("self" : Str)) (F1 : FnOk X.prog X.w X.K X.mg X.base CX k f2 fd ps sp) (hr : Room k X.A) (hb : Binds X.K fd ps [])
    (hx : Passes CX X (fun _ _ _ => False)) (ht : PySem.W.typeIn X.K (.ref f2) = some (.type "function")) (hf : PySem.W.fnIn X.K f2 = true) (ha : PA X (e :: es) ta)
    (hc : eval (.Call (.Attribute (.Call (.Name "super" p0) [] [] p1) "__init__" p2) (e :: es) [] p3) X.env = (do
      let ov ← attributeBase (.Call (.Name "super" p0) [] [] p1) "__init__" X.env (eval (.Call (.Name "super" p0) [] [] p1) X.env)
      standAt p2.atName
      let (f, first) ← holding [ov] (getMethod ov "__init__" pl)
      callWith p3 f first (backTo p3 (starEach (e :: es) X.env)) []) := by rfl) (hsw : swapsWith (.Call (.Attribute (.Call (.Name "super" p0) [] [] p1) "__init__" p2) (e :: es) [] p3) none p4.line X.env = pure false := by rfl)
    (he : starEach (e :: es) X.env = (false, eval e X.env) :: starEach es X.env := by rfl) (hpl : (backTo p3 (starEach es X.env)).any (·.1) = false := by rfl) :
    PSat X body (supStmt e es p0 p1 p2 p3 p4) (tSupF X.K D f2 sp ta) := by
  intro pins s σ H R I h
  obtain ⟨a, C, hs, ea, T, sub, opq, hm, h⟩ := h
  refine ks_wpAt_Expr_any (ks_wpAt_MethodCall (pl := pl) ?_ hc) I.quiet hsw
  · refine sup_base S I hN hs T ea sub (by decide) fun so s1 I1 => ?_
    refine sup_methodF I1 T ea opq hm ht fun u s2 I2 => ?_
    show wpAny _ _ (callWith p3 (.ref u) [] (backTo p3 (starEach (e :: es) X.env)) []) _ _ _
    refine cw_meth (g := f2) (self := .ref a) hf (thn (ha.run p3 _ s2 σ H _ I2 h) fun us s3 ⟨vs, H1, I3, r1, q⟩ => ⟨⟨?_, I3.kIn⟩, ?_⟩) he hpl
    · exact (I3.pin _ (List.mem_append_right _ List.mem_cons_self)).1
    · have hu := (I3.pin _ (List.mem_append_right _ List.mem_cons_self)).1
      have I4 : Inv X pins σ H1 s3 := I3.pins_of fun p hp => I3.pin p (List.mem_append_right _ (List.mem_cons_of_mem _ hp))
      have r2 : Vals (V.ref a :: vs) (Value.ref a :: us) := .cons rfl r1
      have hl : (Value.ref a :: us).length = ps.length := by
        rw [← r2.length]
        exact F1.len _ _ _ _ q
      refine wpAny_call (ks_codeAny_call_bound hu (codeAny_mono (F1.run _ X.stack _ _ ⟨Value.ref a :: us, []⟩ (Value.ref a :: us) _ _ (fun _ _ _ => False) hr I4.env0 (by have z := hb s3 (Value.ref a :: us) I4.kIn (by simpa using hl); rw [List.append_nil] at z; exact z) r2 q) fun r s' hq' => ?_))
      cases r with
      | error er => exact hx pins σ _ _ er s' I4 hq'
      | ok fl =>
        cases fl with
        | ret u2 =>
          obtain ⟨v, H', I5, rv, q5⟩ := I4.after hq'
          exact ⟨σ, H', I5, q5⟩
        | next => exact False.elim hq'
        | brk => exact False.elim hq'
        | cont => exact False.elim hq'
end
end Kb
set_option Elab.async false
set_option linter.all false
set_option maxRecDepth 100000
set_option maxHeartbeats 4000000
namespace Kb
open PySem PySem.Spec PyProof.Rows L2
theorem lookup_nodup {y : Str} {u : Value} : ∀ {l : List (Str × Value)}, (l.map (·.1)).Nodup → (y, u) ∈ l → l.lookup y = some u
  | [], _, h => by cases h
  | (z, w) :: r, nd, h => by
    rw [List.map_cons, List.nodup_cons] at nd
    rcases List.mem_cons.mp h with h | h
    · obtain ⟨rfl, rfl⟩ := Prod.mk.inj h
      simp [List.lookup]
    · have ne : (y == z) = false := by
        refine beq_eq_false_iff_ne.mpr fun e => nd.1 ?_
        rw [← e]
        exact List.mem_map.mpr ⟨(y, u), h, rfl⟩
      rw [List.lookup, ne]
      exact lookup_nodup nd.2 h
/-- the scope of an __init__ that says super() -/
structure SupScope (N P : List Str) (sc : Scope) : Prop where
  kind : sc.kind = .function
  co : sc.isCoroutine = false
  gen : sc.isGenerator = false
  nd : N.Nodup
  pre : N.take P.length = P
  par : ∀ x ∈ P, sc.names.lookup x = some .local
  nocell : ∀ y ∈ sc.names, y.2 ≠ .cell
  free : ∀ y ∈ sc.names, y.2 = .free → y.1 = "__class__"
/-- the context of its body -/
def cxS (P : Program) (w : World) (K : PySem.W.Frag) (mg : Str → Option Value) (base : Heap) (N : List Str) (qual : Str) (scope : Scope) (f : Addr) (cd : Value) (cc : Addr) (A : Around) (outer : List Env) (s : Shared) (H : Hp) : Cx where
  prog := P
  w := w
  K := K
  mg := mg
  base := base
  A := A.deeper (PySem.W.ksEnv qual scope s.heap.objs.size f cd cc)
  N := N
  s_0 := s
  H_0 := H
  env := PySem.W.ksEnv qual scope s.heap.objs.size f cd cc
  outer := outer
  stack := PySem.W.ksEnv qual scope s.heap.objs.size f cd cc :: outer
  ex := []
  calm := true
  fn := fun _ => false
  pn := []
  xe := fun _ _ => False
theorem inv_startS {P : Program} {w : World} {K : PySem.W.Frag} {mg : Str → Option Value} {base : Heap} {N ps : List Str} {qual : Str} {scope : Scope} {f : Addr} {cd : Value} {cc : Addr} {A : Around} {outer : List Env} {s : Shared} {H : Hp} {us : List Value} {vs : List V} {h₁ : Heap} {t' : Nat} {cl : Value} {cld : Option Addr} {v0 : Option Value} {csl : Array (Option Value)}
    (S : SupScope N ps scope) (hd : A.handled = none) (e0 : Env0 P w K mg base A outer s H) (hl : vs.length = ps.length) (r : Vals vs us) (hcell : K.lookup cc = some ⟨cl, cld, .cell v0, csl⟩)
    (hn : h₁.Ns s.heap.objs.size (fun x => (ps.zip us).reverse.lookup x)) (k : ∀ b o, s.heap.get? b = some o → h₁.get? b = some o) :
    Inv (cxS P w K mg base N qual scope f cd cc A outer s H) [] (start N vs) H { s with heap := h₁, toks := t' } := by
  have hpl : ps.length ≤ N.length := by have := congrArg List.length S.pre; rw [List.length_take] at this; omega
  have noA : ∀ b : Addr, b ∉ (cxS P w K mg base N qual scope f cd cc A outer s H).ex := fun b z => absurd (show b ∈ ([] : List Addr) from z) (by simp)
  have hb := e0.bs cc _ (e0.mod.kin _ _ hcell)
  have cell1 : ∀ y c, (cxS P w K mg base N qual scope f cd cc A outer s H).env.cells.lookup y = some c → y = ("__class__" : Str) ∧ c = cc := fun y c h => by
    have h : List.lookup y [(("__class__" : Str), cc)] = some c := h
    rw [List.lookup] at h
    split at h
    · rename_i z
      exact ⟨beq_iff_eq.mp z, (Option.some.inj h).symm⟩
    · cases h
  refine ⟨⟨e0.mod, S.kind, rfl, rfl, Nat.le_refl _, fun y z c h1 h2 => (cell1 y c h1).1.trans (cell1 z c h2).1.symm, fun y hy => ?_, fun y c z h => Bool.noConfusion z, fun _ => hd, Around.frames_deeper e0.frames, .inr ⟨rfl, rfl⟩, fun b z => absurd z (noA b), e0.bs, e0.bsz, fun b _ _ => noA b, fun b z => absurd z (noA b), e0.funs, e0.frf⟩,
    rfl, e0.bare, Un.kept k, ⟨_, hn, fun i y v h1 h2 h3 => ?_⟩, fun y c h => ⟨v0, ⟨cl, cld, .cell v0, csl⟩, k _ _ (by obtain ⟨_, e⟩ := cell1 y c h; subst e; exact hb.1), rfl⟩, e0.hok.fresh (Nat.le_refl _), fun y c h => by obtain ⟨_, e⟩ := cell1 y c h; subst e; exact hb.2, fun p hp => absurd (show p ∈ ([] : List (Addr × Obj)) from hp) (by simp), e0.hok.kept k, ?_⟩
  · have hy : scope.names.lookup y = some .cell ∨ scope.names.lookup y = some .free := hy
    rcases hy with hy | hy
    · exact absurd rfl (S.nocell _ (PySem.mem_of_lookup hy))
    · have e : y = ("__class__" : Str) := S.free _ (PySem.mem_of_lookup hy) rfl
      subst e
      exact ⟨cc, by show List.lookup ("__class__" : Str) [(("__class__" : Str), cc)] = some cc; simp [List.lookup]⟩
  · have hi : i < vs.length := by
      unfold L2.start at h2
      by_cases hi : i < vs.length
      · exact hi
      · rw [List.getElem?_append_right (by simpa using hi)] at h2
        rw [List.getElem?_replicate] at h2
        split at h2 <;> cases h2
    have ha : vs[i]? = some v := by
      unfold L2.start at h2
      rw [List.getElem?_append_left (by simpa using hi), List.getElem?_map] at h2
      cases e : vs[i]? with
      | none => rw [e] at h2; cases h2
      | some a => rw [e] at h2; cases h2; rfl
    obtain ⟨u, hu, rv⟩ := r.get ha
    have hp : ps[i]? = some y := by
      rw [← S.pre, List.getElem?_take_of_lt (by omega)]; exact h1
    have ndP : ps.Nodup := by rw [← S.pre]; exact S.nd.sublist (List.take_sublist _ _)
    refine ⟨u, rv, .inl ⟨S.par y (List.mem_of_getElem? hp), ?_⟩⟩
    have hlen : us.length = ps.length := by rw [← r.length]; exact hl
    refine lookup_nodup ?_ ?_
    · rw [List.map_reverse, List.map_fst_zip (by omega)]
      exact (List.reverse_perm ps).nodup_iff.mpr ndP
    · rw [List.mem_reverse]
      exact List.mem_of_getElem? (i := i) (by rw [List.getElem?_zip_eq_some]; exact ⟨hp, hu⟩)
  · unfold L2.start
    show _ = N.length
    rw [List.length_append, List.length_map, List.length_replicate]
    omega
/-- THE RULE: an __init__ that says super() first, by its body -/
theorem fn_sup {P : Program} {w : World} {K : PySem.W.Frag} {mg : Str → Option Value} {base : Heap} {k : Nat} {f : Addr} {name qual : Str} {params : Arguments} {b0 : Stmt} {body : List Stmt} {scope : Scope} {dV kV doc pm cdv ct oc : Value} {an od : Option Addr} {cc : Addr}
    {osl : Array (Option Value)} {N ps : List Str} {sp : Sp} {cl : Value} {cld : Option Addr} {v0 : Option Value} {csl : Array (Option Value)}
    (lk : K.lookup f = some ⟨oc, od, .func (PySem.W.ksFn name qual params (b0 :: body) scope dV kV doc pm an cdv ct cc), osl⟩) (hcd : PySem.W.codeIn K cdv qual = true) (hcell : K.lookup cc = some ⟨cl, cld, .cell v0, csl⟩) (S : SupScope N ps scope)
    (len : ∀ vs H Q E, sp vs H Q E → vs.length = ps.length)
    (hbody : ∀ (A : Around) (outer : List Env) (s : Shared) (H : Hp) (vs : List V) (Q : VK) (E : XK), Room k (A.deeper (PySem.W.ksEnv qual scope s.heap.objs.size f cdv cc)) → sp vs H Q E →
      ∃ t u, PSat (cxS P w K mg base N qual scope f cdv cc A outer s H) (b0 :: body) b0 t ∧ PSs (cxS P w K mg base N qual scope f cdv cc A outer s H) body u ∧ t { nx := fun σ' H' => u { nx := fun _ H' => Q .non H', rt := Q } σ' H', rt := Q } (start N vs) H) :
    FnOk P w K mg base CX0 (k + 1) f (PySem.W.ksFn name qual params (b0 :: body) scope dV kV doc pm an cdv ct cc) ps sp := by
  refine ⟨len, fun A outer s H args us vs Q E hr e0 hb r hsp => ?_⟩
  have hl := len _ _ _ _ hsp
  have KX : K.In s.heap := e0.mod.kin.keeps fun b o e => (e0.bs b o e).1
  have lim : s.heap.NoLimit := e0.mod.nolimit.keeps fun b o e => (e0.bs b o e).1
  refine ks_codeAny_call_defAt (body := b0 :: body) (binds := ps.zip us) hr.depth (KX _ _ lk) rfl lim (PySem.W.codeRec_of KX hcd) rfl hb S.nocell (fun y hy => S.par y.1 (List.of_mem_zip (show (y.1, y.2) ∈ ps.zip us from hy)).1) (fun h₁ hns hk => ?_) S.co S.gen S.kind
  obtain ⟨t, u, ht, hu, hq⟩ := hbody A outer s H vs Q E (hr.deeper _) hsp
  have I : Inv (cxS P w K mg base N qual scope f cdv cc A outer s H) [] (start N vs) H { s with heap := h₁, toks := s.toks + (ps.zip us).length } := inv_startS S hr.hd e0 hl r hcell hns hk
  have fin : ∀ {s' : Shared} {σ' : L2.St} {H' : Hp} {v : V} {u : Value}, Inv (cxS P w K mg base N qual scope f cdv cc A outer s H) [] σ' H' s' → RelV v u → Q v H' → CE outer P w H s Q u s' :=
    fun {s' σ' H' v u} J rv q => ⟨v, H', J.os, J.bare, J.base, J.hok, rv, q⟩
  have last : ∀ (fl : Flow) (s' : Shared), SP (cxS P w K mg base N qual scope f cdv cc A outer s H) [] { nx := fun _ H' => Q .non H', rt := Q } fl s' → CR CX0 outer P w H s Q E (.ok (.ret (match fl with | .ret v => v | _ => .none))) s' := by
    intro fl s' hs
    cases fl with
    | ret u =>
      obtain ⟨v, σ', H', J, rv, q⟩ := hs
      exact fin J rv q
    | next =>
      obtain ⟨σ', H', J, q⟩ := hs
      exact fin (v := V.non) (u := Value.none) J rfl q
    | brk =>
      obtain ⟨_, _, _, q⟩ := hs
      exact False.elim q
    | cont =>
      obtain ⟨_, _, _, q⟩ := hs
      exact False.elim q
  show _root_.PySem.wpAt (model P w) (A.deeper (PySem.W.ksEnv qual scope s.heap.objs.size f cdv cc)) (.func (b0 :: body) (PySem.W.ksEnv qual scope s.heap.objs.size f cdv cc)) (execs (b0 :: body) (PySem.W.ksEnv qual scope s.heap.objs.size f cdv cc)) _ _ _
  refine ks_wpAt_execs_cons (ks_wpAt_mono (ht [] _ _ _ _ I hq) (fun fl s' hs => ?_) fun e s' hs => False.elim hs)
  cases fl with
  | next =>
    obtain ⟨σ', H', J, q⟩ := hs
    exact wpAt_of_wpAny (wpAny_mono (hu.run [] s' σ' H' _ J q) (fun fl s2 hs => last fl s2 hs) fun e s' hs => False.elim hs)
  | ret u => exact last (.ret u) s' hs
  | brk =>
    obtain ⟨_, _, _, q⟩ := hs
    exact False.elim q
  | cont =>
    obtain ⟨_, _, _, q⟩ := hs
    exact False.elim q
end Kb
set_option Elab.async false
set_option linter.all false
set_option maxRecDepth 100000
set_option maxHeartbeats 4000000
namespace Kb
open PySem PySem.Spec PyProof.Rows L2
def oexB (K : PySem.W.Frag) (C : Addr) : Bool := match K.lookup C with
  | some ⟨.type "type", _, .cls cd, sl⟩ => (match cd.mro, sl.toList with
    | .ref C' :: bm, [_, _, _, _, some (.builtin n), _] => C' == C && n == "ValueError.__new__" && !cd.hasDel && cd.hasDict && PySem.HandSPX.refsVE bm
    | _, _ => false)
  | _ => false
theorem oexB_ok {K : PySem.W.Frag} {C : Addr} (q : oexB K C = true) : ∃ nm q N bs bm sn sub ab col dd k0 k1 k2 k3 k5, K.lookup C = some (excClassObj nm q C N bs bm true sn sub ab col dd k0 k1 k2 k3 k5 "ValueError.__new__") ∧ PySem.HandSPX.refsVE bm = true := by
  unfold oexB at q
  split at q
  · rename_i dd cd sl ho
    split at q
    · rename_i C' bm k0 k1 k2 k3 n k5 hm hs
      simp only [Bool.and_eq_true, beq_iff_eq, Bool.not_eq_true'] at q
      obtain ⟨⟨⟨⟨rfl, rfl⟩, hdel⟩, hdict⟩, ht⟩ := q
      obtain ⟨nm, bs, mro, ns, qn, hd, sn, sub, ab, col, del⟩ := cd
      dsimp only at hm hdel hdict
      subst hm hdel hdict
      have hsl : sl = #[k0, k1, k2, k3, some (.builtin "ValueError.__new__"), k5] := by
        obtain ⟨l⟩ := sl
        simp only at hs
        rw [hs]
      subst hsl
      exact ⟨nm, qn, ns, bs, bm, sn, sub, ab, col, dd, k0, k1, k2, k3, k5, ho, ht⟩
    · cases q
  · cases q
/-- the fields that errors have beside their word -/
abbrev errFlds : List Str := ["column", "first", "letter", "most", "name", "number", "second", "sign"]
/-- C, an error class below D (or D itself) -/
structure Bad (K : PySem.W.Frag) (C D : Addr) : Prop where
  ox : OexC K C
  sub : PySem.W.mroIn K C (.ref D) = some true
  opq : PySem.W.nsIn K PySem.cStatics "thirdparty.any" = some none
  sV : PySem.W.subIn K (.ref C) (.type "ValueError") = some true
  smV : PySem.W.ks_superIn K C D "__init__" = some (some (.builtin "ValueError.__init__"))
  ex : ExcC K C
  nw : PySem.W.findIn K (.ref C) "word" = some none
  nf : ∀ f ∈ errFlds, PySem.W.findIn K (.ref C) f = some none
def badL (K : PySem.W.Frag) (C D : Addr) : List Bool :=
  [oexB K C, decide (PySem.W.findIn K (.ref C) "__setattr__" = some (some (.builtin "object.__setattr__"))), decide (PySem.W.subIn K (.ref C) (.type "BaseException") = some true), decide (PySem.W.typeIn K (.ref C) = some (.type "type")), PySem.W.keepIn K (.ref C),
   decide (PySem.W.mroIn K C (.ref D) = some true), decide (PySem.W.nsIn K PySem.cStatics "thirdparty.any" = some none), decide (PySem.W.subIn K (.ref C) (.type "ValueError") = some true), decide (PySem.W.ks_superIn K C D "__init__" = some (some (.builtin "ValueError.__init__"))),
   decide (PySem.W.findIn K (.ref C) "__getattribute__" = some (some (.builtin "BaseException.__getattribute__"))), decide (PySem.W.findIn K (.ref C) "__getattr__" = some none), PySem.W.hasDictIn K C, decide (PySem.W.findIn K (.ref C) "__class__" = some (some (.builtin "object.__class__"))),
   decide (PySem.W.specialIn K (.builtin "object.__class__") "__get__" = some (some (.builtin "getset_descriptor.__get__"))), decide (PySem.W.takesIn K (.builtin "object.__class__") = some true), decide (PySem.W.mroIn K C (.type "object") = some true), decide (PySem.W.findIn K (.ref C) "word" = some none),
   errFlds.all fun f => decide (PySem.W.findIn K (.ref C) f = some none)]
def badB (K : PySem.W.Frag) (C D : Addr) : Bool := (badL K C D).all id
theorem bad_of {K : PySem.W.Frag} {C D : Addr} (h : badB K C D = true) : Bad K C D := by
  unfold badB badL at h
  rw [List.all_cons, List.all_cons, List.all_cons, List.all_cons, List.all_cons, List.all_cons, List.all_cons, List.all_cons, List.all_cons, List.all_cons, List.all_cons, List.all_cons, List.all_cons, List.all_cons, List.all_cons, List.all_cons, List.all_cons, List.all_cons, List.all_nil] at h
  simp only [id_eq, Bool.and_true, Bool.and_eq_true, decide_eq_true_eq] at h
  obtain ⟨h1, h2, h3, h4, h5, h6, h7, h8, h9, h10, h11, h12, h13, h14, h15, h16, h17, h18⟩ := h
  exact ⟨⟨oexB_ok h1, h2, h3, h4, h5⟩, h6, h7, h8, h9, ⟨h10, h11, h3, h12, h13, h14, h15, h16⟩, h17, fun f hf => of_decide_eq_true (List.all_eq_true.mp h18 f hf)⟩
theorem Bad.xf {K : PySem.W.Frag} {C D : Addr} (B : Bad K C D) : XfC K C := ⟨B.ex.hg, B.ex.hk, B.ex.hs, B.ex.hd⟩
theorem Bad.cls {K : PySem.W.Frag} {C D : Addr} (B : Bad K C D) : ∃ cd, PySem.W.clsIn K C = some cd := by
  obtain ⟨nm, q, N, bs, bm, sn, sub, ab, col, dd, k0, k1, k2, k3, k5, hC, hbm⟩ := B.ox.cls
  exact ⟨_, by unfold PySem.W.clsIn; rw [hC] <;> rfl⟩
def fileB (K : PySem.W.Frag) (cd : Value) (file : Str) : Bool := match cd with
  | .ref c => (match K.lookup c with
    | some ⟨_, _, .fields vs, _⟩ => (match (vs[2]? : Option Value) with
      | some (Value.str f _) => file == f
      | _ => false)
    | _ => false)
  | _ => false
theorem fileB_ok {K : PySem.W.Frag} {cd : Value} {file : Str} (h : fileB K cd file = true) : ∃ (cda : Addr) (ccl : Value) (cdd : Option Addr) (vs : Array Value) (ccs : Array (Option Value)) (f : Str) (tf : Tok), cd = .ref cda ∧ K.lookup cda = some ⟨ccl, cdd, .fields vs, ccs⟩ ∧ vs[2]? = some (.str f tf) ∧ (file == f) = true := by
  unfold fileB at h
  split at h
  · split at h
    · rename_i hl
      split at h
      · rename_i hv
        exact ⟨_, _, _, _, _, _, _, rfl, hl, hv, h⟩
      · cases h
    · cases h
  · cases h
def sp_CE (K : PySem.W.Frag) (D : Addr) : Sp := fun vs H Q E => ∃ (a C : Addr) (v : V), vs = [.ref a, v] ∧ Bad K C D ∧ H a = some (exo a C none) ∧
  ∀ dx, H dx = none → dx ≠ a → Q .non (upd (upd H dx (exd dx [("word", v)])) a (exo a C (some dx)))
def sp_B0 (C : Addr) (nm : Str) : Sp := fun vs H Q E => ∃ (a : Addr), vs = [.ref a] ∧ H a = some (exo a C none) ∧
  ∀ dx, H dx = none → dx ≠ a → Q .non (upd (upd H dx (exd dx [("word", .str nm)])) a (exo a C (some dx)))
def sp_B1 (C : Addr) (nm at1 : Str) : Sp := fun vs H Q E => ∃ (a : Addr) (v : V), vs = [.ref a, v] ∧ H a = some (exo a C none) ∧
  ∀ dx, H dx = none → dx ≠ a → Q .non (upd (upd (upd H dx (exd dx [("word", .str nm)])) a (exo a C (some dx))) dx (exd dx [(at1, v), ("word", .str nm)]))
section
variable {P : Program} {w : World} {K : PySem.W.Frag} {mg : Str → Option Value} {base : Heap}
/-- an __init__ of the text that says super() -/
structure SupI (P : Program) (K : PySem.W.Frag) (mg : Str → Option Value) (qual : Str) (s : Stmt) (D : Addr) (N : List Str) (f : Addr) (fd : FuncData) : Prop where
  ex : ∃ (oc : Value) (od : Option Addr) (dV kV doc pm : Value) (an : Option Addr) (cdv ct : Value) (osl : Array (Option Value)) (cc : Addr) (cl : Value) (cld : Option Addr) (csl : Array (Option Value)),
    fd = PySem.W.ksFn "__init__" qual (defArgs s) (defBody s) (defScope s) dV kV doc pm an cdv ct cc ∧ K.lookup f = some ⟨oc, od, .func fd, osl⟩ ∧ PySem.W.codeIn K cdv qual = true ∧ K.lookup cc = some ⟨cl, cld, .cell (some (.ref D)), csl⟩ ∧ fileB K cdv P.main.file = true
  sc : SupScope N N (defScope s)
  hs : (defScope s).names.lookup ("super" : Str) = some .globalImplicit
  hc : (defScope s).names.lookup ("__class__" : Str) = some .free
  hl : (defScope s).names.lookup ("self" : Str) = some .local
  ar : ∃ ar : Arg, ((defArgs s).posonlyargs ++ (defArgs s).args).head? = some ar ∧ ar.arg = "self"
  su : mg "super" = none
  tp : (P.main.scope.names.lookup ("super" : Str)).isSome = false
  dc : ∃ cd, PySem.W.clsIn K D = some cd
theorem SupI.supK {qual : Str} {s : Stmt} {D f : Addr} {fd : FuncData} {N : List Str} (S : SupI P K mg qual s D N f fd) {oc : Value} {od : Option Addr} {dV kV doc pm : Value} {an : Option Addr} {cdv ct : Value} {osl : Array (Option Value)} {cc : Addr} {cl : Value} {cld : Option Addr} {csl : Array (Option Value)}
    (hfd : fd = PySem.W.ksFn "__init__" qual (defArgs s) (defBody s) (defScope s) dV kV doc pm an cdv ct cc) (lk : K.lookup f = some ⟨oc, od, .func fd, osl⟩) (lc : K.lookup cc = some ⟨cl, cld, .cell (some (.ref D)), csl⟩) (hf : fileB K cdv P.main.file = true)
    (A : Around) (outer : List Env) (sh : Shared) (H : Hp) : SupK (cxS P w K mg base N qual (defScope s) f cdv cc A outer sh H) D := by
  obtain ⟨ar, h1, h2⟩ := S.ar
  obtain ⟨cda, ccl, cdd, vs, ccs, fl, tf, e, l, v, b⟩ := fileB_ok hf
  exact ⟨S.hs, S.hc, S.hl, ⟨f, oc, od, fd, osl, ar, rfl, lk, by subst hfd; exact h1, h2⟩, ⟨cda, ccl, cdd, vs, ccs, fl, tf, e, l, v, b⟩, ⟨cc, cl, cld, csl, by show List.lookup ("__class__" : Str) [(("__class__" : Str), cc)] = some cc; simp [List.lookup], lc⟩, S.su, S.tp, S.dc⟩
/-- super().__init__(e, ..) is a call of a method as it stands on one line -/
def SupEv (e : Expr) (es : List Expr) (p0 p1 p2 p3 p4 : Pos) : Prop := ∃ pl : Sem Bool, ∀ env : Env, eval (.Call (.Attribute (.Call (.Name "super" p0) [] [] p1) "__init__" p2) (e :: es) [] p3) env = (do
      let ov ← attributeBase (.Call (.Name "super" p0) [] [] p1) "__init__" env (eval (.Call (.Name "super" p0) [] [] p1) env)
      standAt p2.atName
      let (f, first) ← holding [ov] (getMethod ov "__init__" pl)
      callWith p3 f first (backTo p3 (starEach (e :: es) env)) [])
theorem ok_CE {s : Stmt} {D f : Addr} {fd : FuncData} {p0 p1 p2 p3 p4 q0 q1 q2 q3 q4 : Pos} (S : SupI P K mg "ChamberError.__init__" s D ["self", "word"] f fd)
    (hb : defBody s = [supStmt (.Name "word" q0) [] p0 p1 p2 p3 p4, .Assign [.Attribute (.Name "self" q1) "word" q2] (.Name "word" q3) q4])
    (ev : SupEv (.Name "word" q0) [] p0 p1 p2 p3 p4) (hw : (defScope s).names.lookup ("word" : Str) = some .local) : FnOk P w K mg base CX0 1 f fd ["self", "word"] (sp_CE K D) := by
  obtain ⟨oc, od, dV, kV, doc, pm, an, cdv, ct, osl, cc, cl, cld, csl, hfd, lk, hcd, lc, hf⟩ := S.ex
  have hfd' := hfd
  rw [hb] at hfd
  have lk' := lk
  subst hfd
  refine fn_sup lk' hcd lc S.sc (fun vs H Q E ⟨a, C, v, e, _⟩ => by rw [e]; rfl) fun A outer sh H vs Q E hr hsp => ?_
  have SK := S.supK (w := w) (base := base) hfd' lk lc hf A outer sh H
  have nd := S.sc.nd
  refine ⟨_, _, pst_supV SK rfl (pa_cons (pe_var (i := 1) rfl (.inl hw)) pa_nil) (hc := ev.choose_spec _), pss_one (ps_ost (pe_var (i := 0) rfl (.inl S.hl)) (pe_var (i := 1) rfl (.inl hw))), ?_⟩
  obtain ⟨a, C, v, rfl, B, ea, hq⟩ := hsp
  refine ⟨a, C, rfl, ea, B.ox, B.sub, B.opq, B.smV, B.sV, ?_⟩
  refine ⟨v, rfl, by simp, ea, ?_⟩
  exact ⟨v, rfl, .ref a, rfl, a, C, rfl, B.ox, B.nw, .inl ⟨ea, fun dx n ne => hq dx n ne⟩⟩
theorem ok_B0 {s : Stmt} {C D f f2 : Addr} {qual nm : Str} {fd fd2 : FuncData} {jc : Nat} {p0 p1 p2 p3 p4 q0 : Pos} (S : SupI P K mg qual s C ["self"] f fd)
    (hb : defBody s = [supStmt (.Constant (.str nm) jc q0) [] p0 p1 p2 p3 p4]) (ev : SupEv (.Constant (.str nm) jc q0) [] p0 p1 p2 p3 p4)
    (F1 : FnOk P w K mg base CX0 1 f2 fd2 ["self", "word"] (sp_CE K D)) (hbs : Binds K fd2 ["self", "word"] []) (B : Bad K C D) (sub : PySem.W.mroIn K C (.ref C) = some true) (sm : PySem.W.ks_superIn K C C "__init__" = some (some (.ref f2)))
    (ht : PySem.W.typeIn K (.ref f2) = some (.type "function")) (hf2 : PySem.W.fnIn K f2 = true) : FnOk P w K mg base CX0 2 f fd ["self"] (sp_B0 C nm) := by
  obtain ⟨oc, od, dV, kV, doc, pm, an, cdv, ct, osl, cc, cl, cld, csl, hfd, lk, hcd, lc, hf⟩ := S.ex
  have hfd' := hfd
  rw [hb] at hfd
  have lk' := lk
  subst hfd
  refine fn_sup lk' hcd lc S.sc (fun vs H Q E ⟨a, e, _⟩ => by rw [e]; rfl) fun A outer sh H vs Q E hr hsp => ?_
  have SK := S.supK (w := w) (base := base) hfd' lk lc hf A outer sh H
  refine ⟨_, _, pst_supF SK rfl F1 hr hbs pass0 ht hf2 (pa_cons pe_str pa_nil) (hc := ev.choose_spec _), pss_nil, ?_⟩
  obtain ⟨a, rfl, ea, hq⟩ := hsp
  refine ⟨a, C, rfl, ea, B.ox, sub, B.opq, sm, ?_⟩
  exact ⟨a, C, .str nm, rfl, B, ea, fun dx n ne => hq dx n ne⟩
theorem ok_B1 {s : Stmt} {C D f f2 : Addr} {qual nm at1 : Str} {fd fd2 : FuncData} {jc : Nat} {p0 p1 p2 p3 p4 q0 q1 q2 q3 q4 : Pos} (S : SupI P K mg qual s C ["self", at1] f fd)
    (hb : defBody s = [supStmt (.Constant (.str nm) jc q0) [] p0 p1 p2 p3 p4, .Assign [.Attribute (.Name "self" q1) at1 q2] (.Name at1 q3) q4]) (ev : SupEv (.Constant (.str nm) jc q0) [] p0 p1 p2 p3 p4)
    (hw : (defScope s).names.lookup at1 = some .local) (hd1 : (at1 == ("__debug__" : Str)) = false) (hd2 : (at1 == ("__classdict__" : Str)) = false) (na : PySem.W.findIn K (.ref C) at1 = some none)
    (F1 : FnOk P w K mg base CX0 1 f2 fd2 ["self", "word"] (sp_CE K D)) (hbs : Binds K fd2 ["self", "word"] []) (B : Bad K C D) (sub : PySem.W.mroIn K C (.ref C) = some true) (sm : PySem.W.ks_superIn K C C "__init__" = some (some (.ref f2)))
    (ht : PySem.W.typeIn K (.ref f2) = some (.type "function")) (hf2 : PySem.W.fnIn K f2 = true) : FnOk P w K mg base CX0 2 f fd ["self", at1] (sp_B1 C nm at1) := by
  obtain ⟨oc, od, dV, kV, doc, pm, an, cdv, ct, osl, cc, cl, cld, csl, hfd, lk, hcd, lc, hf⟩ := S.ex
  have hfd' := hfd
  rw [hb] at hfd
  have lk' := lk
  subst hfd
  refine fn_sup lk' hcd lc S.sc (fun vs H Q E ⟨a, v, e, _⟩ => by rw [e]; rfl) fun A outer sh H vs Q E hr hsp => ?_
  have SK := S.supK (w := w) (base := base) hfd' lk lc hf A outer sh H
  refine ⟨_, _, pst_supF SK rfl F1 hr hbs pass0 ht hf2 (pa_cons pe_str pa_nil) (hc := ev.choose_spec _), pss_one (ps_ost (pe_var (i := 0) rfl (.inl S.hl)) (pe_var (i := 1) rfl (.inl hw) hd1 hd2)), ?_⟩
  obtain ⟨a, v, rfl, ea, hq⟩ := hsp
  refine ⟨a, C, rfl, ea, B.ox, sub, B.opq, sm, ?_⟩
  refine ⟨a, C, .str nm, rfl, B, ea, fun dx n ne => ?_⟩
  refine ⟨v, rfl, .ref a, rfl, a, C, rfl, B.ox, na, .inr ⟨dx, [("word", .str nm)], upd_same, ?_, by simp, hq dx n ne⟩⟩
  rw [upd_ne ne, upd_same]
end
def tBad (C : Addr) (nm : Str) : L2.St → Hp → XK → Prop := fun σ H Q => ∀ d, H d = none → Q (.ref C) (some d) (upd H d (.xd [("word", .str nm)]))
def tBad1 (C : Addr) (nm at1 : Str) (te : TE) : L2.St → Hp → XK → Prop := tMkO C (sp_B1 C nm at1) [] (tCons te tNil)
theorem heap_end {H : Hp} {a dx : Addr} {o1 o2 o3 : HO} {fs : List (Str × V)} (n : H a = none) (ne : dx ≠ a) : upd (del (upd (upd (upd H a o1) dx o2) a o3) a) dx (.xd fs) = upd H dx (.xd fs) := by
  funext b
  by_cases h1 : b = dx
  · rw [h1, upd_same, upd_same]
  · rw [upd_ne h1, upd_ne h1]
    by_cases h2 : b = a
    · rw [h2, del_same, n]
    · rw [del_ne h2, upd_ne h2, upd_ne h1, upd_ne h2]
theorem heap_end1 {H : Hp} {a dx : Addr} {o1 o2 o3 o4 : HO} {fs : List (Str × V)} (n : H a = none) (ne : dx ≠ a) : upd (del (upd (upd (upd (upd H a o1) dx o2) a o3) dx o4) a) dx (.xd fs) = upd H dx (.xd fs) := by
  funext b
  by_cases h1 : b = dx
  · rw [h1, upd_same, upd_same]
  · rw [upd_ne h1, upd_ne h1]
    by_cases h2 : b = a
    · rw [h2, del_same, n]
    · rw [del_ne h2, upd_ne h1, upd_ne h2, upd_ne h1, upd_ne h2]
section
variable {X : Cx} {x : Str} {C fI : Addr} {k : Nat} {fd : FuncData} {p pos : Pos}
theorem run_bad {ps : List Str} {sp : Sp} (T : OexC X.K C) (iC : PySem.W.findIn X.K (.ref C) "__init__" = some (some (.ref fI))) (tI : PySem.W.typeIn X.K (.ref fI) = some (.type "function"))
    (F1 : FnOk X.prog X.w X.K X.mg X.base CX0 k fI fd ps sp) (hr : Room (k + 1) X.A) (hb : Binds X.K fd ps []) {pins : List (Addr × Obj)} {σ : L2.St} {H : Hp} {s : Shared} {Q : XK} (I : Inv X pins σ H s)
    (h : ∀ a, H a = none → sp [.ref a] (upd H a (exo a C none)) (fun v H2 => v = .non ∧ ∃ (d : Addr) (fs : List (Str × V)), H2 a = some (exo a C (some d)) ∧ H2 d = some (exd d fs) ∧ H d = none ∧ Q (.ref C) (some d) (upd (del H2 a) d (.xd fs))) (fun _ _ _ => False)) :
    wpAny (model X.prog X.w) X.A (call (.ref C) []) (MkP X pins σ Q) X.xe s := by
  obtain ⟨nm, q, N, bs, bm, sn, sub, ab, col, dd, k0, k1, k2, k3, k5, hC, hbm⟩ := T.cls
  obtain ⟨hp, g, dr, tk, os⟩ := s
  have hsz : hp.objs.size ≤ hp.objs.size + 1 := Nat.le_succ _
  have hn : H (hp.objs.size + 1) = none := I.hok.fresh hsz
  have hq := h (hp.objs.size + 1) hn
  have kk : ∀ b o, hp.get? b = some o → ((hp.push (PySem.W.kdv_tup [])).push (PySem.HandSPX.excO C hp.objs.size)).get? b = some o := fun b o e => Heap.get?_push_of_some _ (Heap.get?_push_of_some _ e)
  have hget : ((hp.push (PySem.W.kdv_tup [])).push (PySem.HandSPX.excO C hp.objs.size)).get? (hp.objs.size + 1) = some (PySem.HandSPX.excO C hp.objs.size) := by heap_get
  have I2 : Inv X pins σ (upd H (hp.objs.size + 1) (exo (hp.objs.size + 1) C none)) ⟨(hp.push (PySem.W.kdv_tup [])).push (PySem.HandSPX.excO C hp.objs.size), g, dr, tk, os⟩ :=
    I.laid (t' := tk) (a := hp.objs.size + 1) (o := exo (hp.objs.size + 1) C none) (h' := (hp.push (PySem.W.kdv_tup [])).push (PySem.HandSPX.excO C hp.objs.size)) kk hsz (exo_ok hget)
  have r2 : Vals [V.ref (hp.objs.size + 1)] [Value.ref (hp.objs.size + 1)] := .cons rfl .nil
  have hl : ([Value.ref (hp.objs.size + 1)] ++ []).length = ps.length := by
    have e := r2.length
    rw [F1.len _ _ _ _ hq] at e
    exact e.symm
  refine wpAny_call (PySem.HandSPX.call_own (rest := []) F.excBase_ValueError (fun Y => PySem.HandSPX.refsVE_contains Y bm hbm) (I.kIn _ _ hC) (PySem.W.looks_findIn I.kIn iC) (fun self => PySem.W.bind_fn I.kIn self tI) (Nat.zero_le _)
    (codeAny_mono (F1.run _ X.stack _ _ ⟨[Value.ref (hp.objs.size + 1)], []⟩ ([Value.ref (hp.objs.size + 1)] ++ []) _ _ (fun _ _ _ => False) (hr.make C [] []) (I2.env0.make C [] []) (hb _ [Value.ref (hp.objs.size + 1)] I2.kIn hl) r2 hq) fun r s' hq' => ?_))
  cases r with
  | error er => exact False.elim hq'
  | ok fl =>
    cases fl with
    | ret u =>
      obtain ⟨v, H2, os2, bare2, un2, hok2, rv, ev, d, fs, ea, ed, hd1, q2⟩ := hq'
      subst ev
      obtain ⟨h2, g2, d2, t2, os'⟩ := s'
      exact ⟨rv, mk_end (raises_own T.exC T.tyC) I hsz kk un2 hok2 os2 bare2 ea ed hd1 q2⟩
    | next => exact False.elim hq'
    | brk => exact False.elim hq'
    | cont => exact False.elim hq'
theorem pmk_bad0 {nm : Str} (T : OexC X.K C) (iC : PySem.W.findIn X.K (.ref C) "__init__" = some (some (.ref fI))) (tI : PySem.W.typeIn X.K (.ref fI) = some (.type "function"))
    (F1 : FnOk X.prog X.w X.K X.mg X.base CX0 k fI fd ["self"] (sp_B0 C nm)) (hr : Room (k + 1) X.A) (hb : Binds X.K fd ["self"] []) (hg : Gl X x) (hm : X.mg x = some (.ref C)) (hdb : (x == ("__debug__" : Str)) = false := by decide) :
    PMk X (.Call (.Name x p) [] [] pos) (tBad C nm) := by
  intro pins s σ H Q I h
  refine wpAny_Call_Name_kw (ld_glob I hg hm ?_ hdb)
  refine PySem.W.callWith_K0 I.kIn T.kC ?_
  refine run_bad T iC tI F1 hr hb I fun a na => ⟨a, rfl, upd_same, fun dx nx ne => ?_⟩
  have nx0 : H dx = none := by rw [upd_ne ne] at nx; exact nx
  refine ⟨rfl, dx, _, upd_same, by rw [upd_ne ne, upd_same], nx0, ?_⟩
  rw [heap_end na ne]
  exact h dx nx0
theorem pmk_bad1 {nm at1 : Str} {e : Expr} {te : TE} (T : OexC X.K C) (iC : PySem.W.findIn X.K (.ref C) "__init__" = some (some (.ref fI))) (tI : PySem.W.typeIn X.K (.ref fI) = some (.type "function"))
    (F1 : FnOk X.prog X.w X.K X.mg X.base CX0 k fI fd ["self", at1] (sp_B1 C nm at1)) (hr : Room (k + 1) X.A) (hb : Binds X.K fd ["self", at1] []) (hg : Gl X x) (hm : X.mg x = some (.ref C)) (ha : PE X e te) (hdb : (x == ("__debug__" : Str)) = false := by decide)
    (he : starEach [e] X.env = (false, eval e X.env) :: starEach [] X.env := by rfl) (hpl : (backTo pos (starEach [] X.env)).any (·.1) = false := by rfl) :
    PMk X (.Call (.Name x p) [e] [] pos) (tBad1 C nm at1 te) :=
  pmk_oex (CX := CX0) (dvs := []) (ds := []) (ta := tCons te tNil) T iC tI F1 hr hb .nil pass0 hg hm (pa_cons ha pa_nil he) hdb he hpl
end
/-- the question that tBad1 leaves behind its argument -/
theorem mk_bad1 {C : Addr} {nm at1 : Str} {v : V} {H1 : Hp} {Q : XK} (h : ∀ d, H1 d = none → Q (.ref C) (some d) (upd H1 d (.xd [(at1, v), ("word", .str nm)]))) :
    [v].length ≤ 1000 ∧ ∀ a, H1 a = none → sp_B1 C nm at1 (.ref a :: ([v] ++ [])) (upd H1 a (exo a C none)) (fun v H2 => v = .non ∧ ∃ (d : Addr) (fs : List (Str × V)), H2 a = some (exo a C (some d)) ∧ H2 d = some (exd d fs) ∧ H1 d = none ∧ Q (.ref C) (some d) (upd (del H2 a) d (.xd fs))) (fun _ _ _ => False) := by
  refine ⟨by simp, fun a na => ⟨a, v, rfl, upd_same, fun dx nx ne => ?_⟩⟩
  have nx0 : H1 dx = none := by rw [upd_ne ne] at nx; exact nx
  refine ⟨rfl, dx, _, ?_, upd_same, nx0, ?_⟩
  · rw [upd_ne (Ne.symm ne), upd_same]
  · rw [heap_end1 na ne]
    exact h dx nx0
end Kb
set_option Elab.async false
set_option linter.all false
set_option maxRecDepth 100000
set_option maxHeartbeats 4000000
namespace Kb
open PySem PySem.Spec PyProof.Rows L2
structure Cl where
  c : Value
  slot : Option Nat
  ts : Addr → Value → Option Addr → TS
def endsOf (D : Ends) : Option Nat → Ends
  | none => D
  | some i => { nx := fun σ' H' => D.nx (σ'.set i none) H', rt := D.rt, bk := fun σ' H' => D.bk (σ'.set i none) H', ct := fun σ' H' => D.ct (σ'.set i none) H' }
def setOf (σ : L2.St) (a : Addr) : Option Nat → L2.St
  | none => σ
  | some i => σ.set i (some (.ref a))
/-- what the clauses wish of an exception of the body, one after the other -/
def wAll (K : PySem.W.Frag) (Wout : WX) (D : Ends) : List Cl → WX
  | [] => Wout
  | q :: r => fun cls d σ H => ∃ b, PySem.W.exmOne K cls q.c = some b ∧ (b = true → ∀ a, H a = none → q.ts a cls d (endsOf D q.slot) (setOf σ a q.slot) H) ∧ (b = false → wAll K Wout D r cls d σ H)
inductive HdsA (X : Cx) : List ExceptHandler → List Cl → Prop
  | nil : HdsA X [] []
  | no {x : Str} {c : Value} {ts : Addr → Value → Option Addr → TS} {b₀ : Stmt} {suite : List Stmt} {np pos' : Pos} {hds : List ExceptHandler} {l : List Cl} (hc : Names X x c)
      (hsu : ∀ (a : Addr) (oe : Obj) (cls : Value) (d : Option Addr) (pn : List (Addr × Obj)), Zc cls d oe → (∃ vs, oe.data = .fields vs) → PSs (X.suite a ((a, oe) :: pn)) (b₀ :: suite) (ts a cls d)) (r : HdsA X hds l) :
      HdsA X (.ExceptHandler (some (.Name x np)) none (b₀ :: suite) pos' :: hds) (⟨c, none, ts⟩ :: l)
  | as {x n : Str} {i : Nat} {c : Value} {ts : Addr → Value → Option Addr → TS} {b₀ : Stmt} {suite : List Stmt} {np pos' : Pos} {hds : List ExceptHandler} {l : List Cl} (hc : Names X x c) (hi : X.N[i]? = some n) (hln : X.env.kindOf n = some .local)
      (hsu : ∀ (a : Addr) (oe : Obj) (cls : Value) (d : Option Addr) (pn : List (Addr × Obj)), Zc cls d oe → (∃ vs, oe.data = .fields vs) → PSs (X.suite a ((a, oe) :: pn)) (b₀ :: suite) (ts a cls d)) (r : HdsA X hds l) :
      HdsA X (.ExceptHandler (some (.Name x np)) (some n) (b₀ :: suite) pos' :: hds) (⟨c, some i, ts⟩ :: l)
section
variable {X : Cx} {body : List Stmt} {h₀ : ExceptHandler} {hds : List ExceptHandler} {l : List Cl} {pos : Pos} {tb : WX → TS} {Wout : WX}
theorem ps_try_all (hs : X.stack = X.env :: X.outer) (hf : X.env.frame = some X.env.locals) (hN : X.N.Nodup) (tk : Takes X Wout)
    (hb : ∀ (W : WX) (pn : List (Addr × Obj)) (xe : Value → Shared → Prop), Takes (X.tr pn xe) W → PassesOwn (model X.prog X.w) X.A X.env xe → PSs (X.tr pn xe) body (tb W))
    (hh : HdsA X (h₀ :: hds) l) : PS X (.Try body (h₀ :: hds) [] [] pos) (fun D σ H => tb (wAll X.K Wout D l) D σ H) := by
  refine ⟨fun pins s σ H D I h => ?_⟩
  have ok := I.ok
  have hfr : X.A.frames = some (X.env :: X.outer) := by rw [ok.frames, hs]
  refine wpAny_Try_except ?_
  refine wpAny_mono ((hb (wAll X.K Wout D l) (X.pn ++ pins) (fun e s₁ => wpAny (model X.prog X.w) X.A (noteFrame e X.env) (fun _ s₂ => wpAny (model X.prog X.w) X.A (setFlight e none) (fun _ s₃ =>
    wpAny (model X.prog X.w) X.A (handleBy e X.env (h₀ :: hds)) (SP X pins D) X.xe s₃) X.xe s₂) X.xe s₁) (fun u s' xx => ?_) PassesOwn.looking).run [] s σ H D (I.toTry _) h) (fun f s1 hsp => ?_) (fun e s1 he => he)
  · obtain ⟨a, B, sI, pins', σ', H', cls, d, rfl, J', nb, up, sky, na, os, ag, w⟩ := xx
    have J : Inv X pins σ' H' sI := J'.ofTry ok
    have sky' : Sky B (X.env :: X.outer) a (Zc cls d) X.env.locals s'.heap := by rw [← hs]; exact sky
    show wpAny (model X.prog X.w) X.A (noteFrame (.ref a) X.env) _ _ _
    refine Sky.land Zc.steady hfr hf sky' fun h3 fl3 up3 => ?_
    have J3 : Inv X pins σ' H' { s' with heap := h3 } := J.landed nb fl3.1 (up.trans up3) os ag
    obtain ⟨oe3, vs3, he3, hz3, hd3⟩ := fl3.there
    have notFr : ∀ {h : Heap} {o : Obj} {vs : Array Value}, h.FunFrames B (X.env :: X.outer) → h.get? a = some o → o.data = .fields vs → a ∉ frs (X.env :: X.outer) := fun {h o vs} ff e dd hm => by
      obtain ⟨_, o', e', hnf⟩ := ff.mem hm
      rw [e] at e'; cases e'
      exact hnf _ dd
    have nfr := notFr fl3.2.2.1 he3 hd3
    have nL : a ≠ X.env.locals := fun z => nfr (List.mem_filterMap.mpr ⟨X.env, List.mem_cons_self, by rw [hf, z]⟩)
    have nF : a ∉ X.fs := fun hm => by
      obtain ⟨e, he, q⟩ := List.mem_filterMap.mp hm
      exact nfr (List.mem_filterMap.mpr ⟨e, List.mem_cons_of_mem _ he, q⟩)
    have S3 := J3.suite he3 hd3 na nL nF
    have test : ∀ {x : Str} {c : Value} {np : Pos}, Names X x c → ∀ {Q : Value → Shared → Prop} {E : Value → Shared → Prop}, Q c { s' with heap := h3 } → wpAny (model X.prog X.w) (X.A.mark (some (.ref a))) (eval (.Name x np) X.env) Q E { s' with heap := h3 } := fun {x c np} hc {Q E} q => by
      obtain ⟨hg, hdbg, hm | ⟨hm, hv, hnn⟩⟩ := hc
      · exact ld_glob (X := X.suite a ((a, oe3) :: (X.pn ++ pins))) S3 hg hm q hdbg
      · exact ld_blt (X := X.suite a ((a, oe3) :: (X.pn ++ pins))) S3 hg hm hv q hnn hdbg
    have LT : PySem.W.Looks (model X.prog X.w) h3 (typeOf (.ref a)) cls := fun A Q E s k q => wpAny_typeOf_ref (k _ _ he3) (by rw [hz3.1]; exact q)
    have go : ∀ {hds' : List ExceptHandler} {l' : List Cl}, HdsA X hds' l' → wAll X.K Wout D l' cls d σ' H' →
        wpAny (model X.prog X.w) X.A (handleBy (.ref a) X.env hds') (SP X pins D) X.xe { s' with heap := h3 } := by
      intro hds' l' hk
      induction hk with
      | nil =>
        intro w
        refine wpAny_handleBy_nil ?_
        obtain ⟨k1, k2, k3, oe, vs, T, oT, ts', he, hz, hd, h1, hr⟩ := id fl3
        unfold PySem.passOn
        refine wpAny_bind (wpAny_field he hd h1 ?_)
        rw [if_neg (show ¬ ((Value.ref T == Value.none) = true) from by simp)]
        have fin : wpAny (model X.prog X.w) X.A (setFlight (.ref a) X.env.frame) (fun _ s4 => wpAny (model X.prog X.w) X.A (throw (.ref a) : Sem Flow) (SP X pins D) X.xe s4) X.xe { s' with heap := h3 } := by
          rw [hf]
          refine HandSPX.setFlight_upZ fl3 fun h4 hh4 up4 => wpAny_throw (tk _ _ ?_)
          exact ⟨a, B, sI, pins, σ', H', cls, d, rfl, J, nb, (up.trans up3).trans up4, .inr (.inr (by rw [hs]; exact hh4)), na, os, ag, w⟩
        first
          | exact wpAny_bind (wpAny_pure (wpAny_bind fin))
          | exact wpAny_bind fin
      | @no x c ts b₀ suite np pos' hds2 l2 hc hsu r ih =>
        intro w
        obtain ⟨b, hb1, hyes, hno⟩ := w
        refine wpAny_handleBy_cons (codeAny_handlers_test ?_) (by intro q; cases q)
        refine test hc ((PySem.W.exm_one (M := model X.prog X.w) (J3.kIn) LT hb1).here ?_)
        cases b with
        | true =>
          refine codeAny_handlers_suite ?_
          refine HandSPX.lands_againZ fl3 fun h4 fl4 up4 => ?_
          have J4 : Inv X pins σ' H' { s' with heap := h4 } := J.landed nb fl4.1 ((up.trans up3).trans up4) os ag
          obtain ⟨oe4, vs4, he4, hz4, hd4⟩ := fl4.there
          have S4 := J4.suite he4 hd4 na nL nF
          refine wpAny_mono ((hsu a oe4 cls d (X.pn ++ pins) hz4 ⟨_, hd4⟩).run [] _ _ H' _ S4 (hyes rfl a na)) (fun f s6 hsp => ?_) (fun _ _ z => False.elim z)
          cases f with
          | next =>
            obtain ⟨σ6, H6, S6, q6⟩ := hsp
            exact ⟨_, _, S6.unsuite ok, q6⟩
          | brk =>
            obtain ⟨σ6, H6, S6, q6⟩ := hsp
            exact ⟨_, _, S6.unsuite ok, q6⟩
          | cont =>
            obtain ⟨σ6, H6, S6, q6⟩ := hsp
            exact ⟨_, _, S6.unsuite ok, q6⟩
          | ret u =>
            obtain ⟨v6, σ6, H6, S6, r6, q6⟩ := hsp
            exact ⟨_, _, _, S6.unsuite ok, r6, q6⟩
        | false =>
          show wpAny _ X.A (handleBy (.ref a) X.env hds2) _ _ _
          exact ih (hno rfl)
      | @as x n i c ts b₀ suite np pos' hds2 l2 hc hi hln hsu r ih =>
        intro w
        obtain ⟨b, hb1, hyes, hno⟩ := w
        have hloc : Loc X.env.scope n := .inl hln
        refine wpAny_handleBy_cons (codeAny_handlers_test ?_) (by intro q; cases q)
        refine test hc ((PySem.W.exm_one (M := model X.prog X.w) (J3.kIn) LT hb1).here ?_)
        cases b with
        | true =>
          refine codeAny_handlers_suite_as ?_
          refine HandSPX.lands_againZ fl3 fun h4 fl4 up4 => ?_
          have J4 : Inv X pins σ' H' { s' with heap := h4 } := J.landed nb fl4.1 ((up.trans up3).trans up4) os ag
          obtain ⟨oe4, vs4, he4, hz4, hd4⟩ := fl4.there
          have S4 := J4.suite he4 hd4 na nL nF
          refine store_ok (X := X.suite a ((a, oe4) :: (X.pn ++ pins))) (v := .ref a) S4 hN hi hloc rfl (fun s5 S5 => ?_) (.inr hln)
          refine wpAny_mono ((hsu a oe4 cls d (X.pn ++ pins) hz4 ⟨_, hd4⟩).run [] s5 _ H' _ S5 (hyes rfl a na)) (fun f s6 hsp => ?_) (fun _ _ z => False.elim z)
          have end_ : ∀ {σ6 : L2.St} {H6 : Hp} {Q : Shared → Prop}, Inv (X.suite a ((a, oe4) :: (X.pn ++ pins))) [] σ6 H6 s6 → (∀ s7, Inv X pins (σ6.set i none) H6 s7 → Q s7) →
              wpAny (model X.prog X.w) X.A (do bindName X.env n .none; unbindBehindTheSuite X.env n pos') (fun _ s7 => Q s7) X.xe s6 := fun {σ6 H6 Q} S6 hq => gone_ok (S6.unsuite ok) hN hi hln hq
          cases f with
          | next =>
            obtain ⟨σ6, H6, S6, q6⟩ := hsp
            exact end_ S6 fun s7 J7 => ⟨_, _, J7, q6⟩
          | brk =>
            obtain ⟨σ6, H6, S6, q6⟩ := hsp
            exact end_ S6 fun s7 J7 => ⟨_, _, J7, q6⟩
          | cont =>
            obtain ⟨σ6, H6, S6, q6⟩ := hsp
            exact end_ S6 fun s7 J7 => ⟨_, _, J7, q6⟩
          | ret u =>
            obtain ⟨v6, σ6, H6, S6, r6, q6⟩ := hsp
            exact end_ S6 fun s7 J7 => ⟨_, _, _, J7, r6, q6⟩
        | false =>
          show wpAny _ X.A (handleBy (.ref a) X.env hds2) _ _ _
          exact ih (hno rfl)
    exact go hh w
  · cases f with
    | next =>
      obtain ⟨σ', H', J', q⟩ := hsp
      exact wpAny_execs_nil ⟨σ', H', J'.ofTry ok, q⟩
    | brk =>
      obtain ⟨σ', H', J', q⟩ := hsp
      exact ⟨σ', H', J'.ofTry ok, q⟩
    | cont =>
      obtain ⟨σ', H', J', q⟩ := hsp
      exact ⟨σ', H', J'.ofTry ok, q⟩
    | ret u =>
      obtain ⟨v, σ', H', J', r, q⟩ := hsp
      exact ⟨v, σ', H', J'.ofTry ok, r, q⟩
end
def tCallW (sp : Sp) (W : WX) (t : TA) : TE := fun σ H Q => t σ H fun vs H1 => sp vs H1 Q (fun cls d H' => W cls d σ H')
section
variable {X : Cx} {k : Nat} {ps : List Str} {sp : Sp} {x : Str} {p pos : Pos} {e : Expr} {es : List Expr} {t : TA} {W : WX}
theorem pe_callW (tk : Takes X W) (G : Fn X.prog X.w X.K X.mg X.base (L2.CX X.prog X.w) k x ps sp) (hr : Room k X.A) (hg : Gl X x) (ha : PA X (e :: es) t) (hdb : (x == ("__debug__" : Str)) = false := by decide)
    (he : starEach (e :: es) X.env = (false, eval e X.env) :: starEach es X.env := by rfl) (hpl : (backTo pos (starEach es X.env)).any (·.1) = false := by rfl) : PE X (.Call (.Name x p) (e :: es) [] pos) (tCallW sp W t) := by
  obtain ⟨f, fd, F, hm, hk, hb⟩ := G.ex
  refine ⟨fun pins s σ H Q I h => ?_⟩
  refine wpAny_Call_Name_kw (ld_glob I hg hm ?_ hdb)
  refine PySem.W.callWith_K (h₀ := X.base) I.ok.mod.kin hk (thn (ha.run pos pins s σ H _ I h) fun us s1 ⟨vs, H1, I1, r, q⟩ => ⟨I1.kIn, ?_⟩) he hpl
  show wpAny _ _ (call (.ref f) us) _ _ _
  have hl : (us ++ []).length = ps.length := by rw [List.append_nil, ← r.length]; exact F.len _ _ _ _ q
  have hbs := hb s1 us I1.kIn hl
  rw [List.append_nil] at hbs
  refine wpAny_call (codeAny_mono (F.run X.A X.stack s1 H1 ⟨us, []⟩ us vs Q (fun cls d H' => W cls d σ H') hr I1.env0 hbs r q) fun r s' hq => ?_)
  cases r with
  | error e => exact tk e s' (XE.of_call I1 (fun cls d H' h => h) hq)
  | ok fl =>
    cases fl with
    | ret u => exact I1.after hq
    | next => exact False.elim hq
    | brk => exact False.elim hq
    | cont => exact False.elim hq
end
/-- e.f -/
def tXfA (K : PySem.W.Frag) (a : Addr) (cls : Value) (d : Option Addr) (n : Str) (te : TE) : TE := fun σ H Q => ∃ C : Addr, cls = .ref C ∧ XfC K C ∧ PySem.W.findIn K (.ref C) n = some none ∧ tXf a cls d C n te σ H Q
/-- what isinstance's second says -/
def IsOf (K : PySem.W.Frag) (H : Hp) (C : Addr) (c : V) (b : Bool) : Prop :=
  (∃ cv, (∀ u, RelV c u → u = cv) ∧ PySem.W.kitOne K (.ref C) cv = some b) ∨ ∃ (tp : Addr) (cs : List V) (its : List Value), c = .ref tp ∧ SqT K H tp cs ∧ (∀ us, Vals cs us → us = its) ∧ PySem.W.kitAny K (.ref C) its = some b
def rIsX (K : PySem.W.Frag) (a : Addr) (cls : Value) (d : Option Addr) : List V → Hp → VK → Prop := fun xs H Q =>
  ∃ (c : V) (C dd : Addr) (fs : List (Str × V)) (b : Bool), xs = [.ref a, c] ∧ cls = .ref C ∧ d = some dd ∧ H dd = some (.xd fs) ∧ ExcC K C ∧ IsOf K H C c b ∧ Q (.bl b) H
section
variable {X : Cx} {a : Addr} {oe : Obj} {cls : Value} {d : Option Addr} {pn : List (Addr × Obj)} {e : Expr} {te : TE} {pos : Pos} {n : Str}
theorem pe_xfA (hz : Zc cls d oe) (hf : ∃ vs, oe.data = .fields vs) (he : PE (X.suite a ((a, oe) :: pn)) e te) (hb : attributeBase e n X.env (eval e X.env) = eval e X.env := by rfl) :
    PE (X.suite a ((a, oe) :: pn)) (.Attribute e n pos) (tXfA X.K a cls d n te) := by
  refine ⟨fun pins s σ H Q I h => ?_⟩
  obtain ⟨C, ec, T, hno, h⟩ := h
  exact (pe_xf T hno hz hf he hb).run pins s σ H Q I h
theorem call_isX (hz : Zc cls d oe) (hf : ∃ vs, oe.data = .fields vs) : CallR (X.suite a ((a, oe) :: pn)) (.builtin "isinstance") (rIsX X.K a cls d) := by
  intro pins s σ H xs us Q I r h
  obtain ⟨c, C, dd, fs, b, rfl, ec, ed, hdd, E, io, q⟩ := h
  subst ec
  subst ed
  cases r with
  | cons rx rr =>
    cases rr with
    | cons rt rr =>
      cases rr
      cases rx
      obtain ⟨hget, _⟩ := I.pin (a, oe) (List.mem_append.mpr (.inl List.mem_cons_self))
      obtain ⟨vs, hv⟩ := hf
      have hx : ObjOk X.prog X.w H s.heap dd (.xd fs) := I.hok dd _ hdd
      obtain ⟨od, hod⟩ : ∃ od, s.heap.get? dd = some od := by
        obtain ⟨mA, ⟨o, es, ep, e1, _⟩, _⟩ := hx
        exact ⟨o, e1⟩
      have J : PySem.W.InstAt s.heap a oe C (some od) := by
        obtain ⟨oc, od', oda, osl⟩ := oe
        obtain ⟨h1, h2⟩ := hz
        dsimp only at h1 h2 hv
        subst h1 h2 hv
        exact ⟨hget, rfl, rfl, hod⟩
      obtain ⟨cd, hcd, _⟩ := PySem.W.any_some E.hd
      have KT := PySem.W.kitx_exc (x := a) (ox := oe) (od := some od) (by rw [hcd]; rfl) E.hg E.hk E.hs E.ha E.hn E.ht E.hm
      rcases io with ⟨cv, hcv, e⟩ | ⟨tp, cs, its, rfl, htp, hits, e⟩
      · have ec := hcv _ rt
        subst ec
        exact PySem.W.kia_one KT I.kIn J e (fun z => nomatch z) fun tk => ⟨.bl b, H, I.kept (t' := tk) fun _ _ z => z, rfl, q⟩
      · obtain ⟨its', r', ⟨o, eo, oc, nn, dt⟩, _⟩ := I.tuple htp
        have e2 := hits _ r'
        subst e2
        cases rt
        obtain ⟨o1, o2, o3, o4⟩ := o
        dsimp only at oc dt
        subst oc
        subst dt
        exact PySem.W.kia_tup KT I.kIn J (its := its') eo e (fun z => nomatch z) fun tk => ⟨.bl b, H, I.kept (t' := tk) fun _ _ z => z, rfl, q⟩
end
end Kb
set_option Elab.async false
set_option linter.all false
set_option maxRecDepth 100000
set_option maxHeartbeats 4000000
namespace Kb
open PySem PySem.Spec PyProof.Rows L2
def IteT (K : PySem.W.Frag) (a : Addr) (k : Int) : It :=
  ⟨fun i H => ∃ (xs : List V) (x : V), SqT K H a xs ∧ xs[i]? = some x, fun i H v H' => ∃ T x, v = .ref T ∧ H T = none ∧ H' = upd H T (.tup [.int (k + (i : Nat)), x]) ∧ ∀ xs, SqT K H a xs → xs[i]? = some x, fun i H => ∃ xs : List V, SqT K H a xs ∧ xs.length = i⟩
/-- enumerate(t), enumerate(t, start=k): t a tuple -/
def iEnT (K : PySem.W.Frag) (k : Int) (ta : TA) : TI := fun σ H R => ta σ H fun vs H1 => ∃ a xs, vs = [.ref a] ∧ SqT K H1 a xs ∧ R (IteT K a k) H1
theorem callWith_tyKw {M : Model} {A : Around} {E : Value → Shared → Prop} {s : Shared} {pos : Pos} {T : String} {env : Env} {e : Expr} {rest : List Expr} {kws : List Keyword} {Q : Value → Shared → Prop}
    (h : wpAny M A (spliced (backTo pos (starEach (e :: rest) env))) (fun vs s₁ => wpAny M A (evalAll ((backToKw pos (keywordEach kws env)).map (·.2)))
      (fun kvs s₂ => wpAny M A (call (.type T) vs (((backToKw pos (keywordEach kws env)).filterMap (·.1)).zip kvs)) Q E s₂) E s₁) E s)
    (hall : (backToKw pos (keywordEach kws env)).all (·.1.isSome) = true) (hplain : ((backTo pos (starEach (e :: rest) env)).any (·.1) || (backToKw pos (keywordEach kws env)).any (·.1.isNone)) = false) (he : starEach (e :: rest) env = (false, eval e env) :: starEach rest env) :
    wpAny M A (callWith pos (.type T) [] (backTo pos (starEach (e :: rest) env)) (backToKw pos (keywordEach kws env))) Q E s :=
  PySem.W.callWith_of (P := fun _ => True) hplain (fun h _ => ⟨.machine, .inr (.inl rfl), PySem.W.Looks.now⟩) (PyProof.Rows.evalArgs_kw2 hall (thn h fun vs s1 h1 => thn h1 fun ks s2 h2 => ⟨trivial, h2⟩) he)
end Kb
set_option Elab.async false
set_option linter.all false
set_option maxRecDepth 100000
set_option maxHeartbeats 4000000
set_option Elab.async false
set_option linter.all false
set_option maxRecDepth 100000
set_option maxHeartbeats 4000000
namespace Kb
open PySem PySem.Spec PyProof.Rows L2
structure Exs (K : PySem.W.Frag) (ec : Str → Addr) (ns : List Str) : Prop where
  bad : ∀ x ∈ ns, Bad K (ec x) (ec "ChamberError")
  kitV : ∀ x ∈ ns, PySem.W.kitOne K (.ref (ec x)) (.type "ValueError") = some true
  kit : ∀ x ∈ ns, ∀ y ∈ ns, PySem.W.kitOne K (.ref (ec x)) (.ref (ec y)) = some (x == y || y == "ChamberError")
  exm : ∀ x ∈ ns, ∀ y ∈ ns, PySem.W.exmOne K (.ref (ec x)) (.ref (ec y)) = some (x == y || y == "ChamberError")
def exsB (K : PySem.W.Frag) (D : Addr) (l : List (Str × Addr)) : Bool :=
  l.all fun p => badB K p.2 D && (PySem.W.kitOne K (.ref p.2) (.type "ValueError") == some true && l.all fun q =>
    PySem.W.kitOne K (.ref p.2) (.ref q.2) == some (p.1 == q.1 || q.1 == "ChamberError") && PySem.W.exmOne K (.ref p.2) (.ref q.2) == some (p.1 == q.1 || q.1 == "ChamberError"))
def ecOf (mg : Str → Option Value) : Str → Addr := fun x => match mg x with
  | some (.ref a) => a
  | _ => 0
theorem ecOf_at {mg : Str → Option Value} {x : Str} {a : Addr} (h : mg x = some (.ref a)) : ecOf mg x = a := by unfold ecOf; rw [h]
theorem exs_of {K : PySem.W.Frag} {mg : Str → Option Value} {D : Addr} {l : List (Str × Addr)} (hD : mg "ChamberError" = some (.ref D)) (hl : ∀ p ∈ l, mg p.1 = some (.ref p.2)) (h : exsB K D l = true) : Exs K (ecOf mg) (l.map (·.1)) := by
  have key : ∀ x ∈ l.map (·.1), ∃ a, (x, a) ∈ l ∧ ecOf mg x = a := by
    intro x hx
    obtain ⟨p, hp, rfl⟩ := List.mem_map.mp hx
    exact ⟨p.2, hp, ecOf_at (hl p hp)⟩
  unfold exsB at h
  rw [List.all_eq_true] at h
  refine ⟨fun x hx => ?_, fun x hx => ?_, fun x hx y hy => ?_, fun x hx y hy => ?_⟩
  · obtain ⟨a, ha, e⟩ := key x hx
    have z := h _ ha
    simp only [Bool.and_eq_true] at z
    rw [e, ecOf_at hD]
    exact bad_of z.1
  · obtain ⟨a, ha, e⟩ := key x hx
    have z := h _ ha
    simp only [Bool.and_eq_true, beq_iff_eq] at z
    rw [e]
    exact z.2.1
  · obtain ⟨a, ha, e⟩ := key x hx
    obtain ⟨b, hb, e2⟩ := key y hy
    have z := h _ ha
    simp only [Bool.and_eq_true] at z
    have z2 := List.all_eq_true.mp z.2.2 _ hb
    simp only [Bool.and_eq_true] at z2
    rw [e, e2]
    exact beq_iff_eq.mp z2.1
  · obtain ⟨a, ha, e⟩ := key x hx
    obtain ⟨b, hb, e2⟩ := key y hy
    have z := h _ ha
    simp only [Bool.and_eq_true] at z
    have z2 := List.all_eq_true.mp z.2.2 _ hb
    simp only [Bool.and_eq_true] at z2
    rw [e, e2]
    exact beq_iff_eq.mp z2.2
def ExAt (mg : Str → Option Value) (ec : Str → Addr) (ns : List Str) : Prop := ∀ x ∈ ns, mg x = some (.ref (ec x))
/-- a class that is raised, its __init__ kept -/
structure Rz0 (P : Program) (w : World) (K : PySem.W.Frag) (mg : Str → Option Value) (base : Heap) (x : Str) (C : Addr) : Prop where
  ex : ∃ (fI : Addr) (fd : FuncData), PySem.W.findIn K (.ref C) "__init__" = some (some (.ref fI)) ∧ PySem.W.typeIn K (.ref fI) = some (.type "function") ∧ FnOk P w K mg base CX0 2 fI fd ["self"] (sp_B0 C x) ∧ Binds K fd ["self"] []
  ox : OexC K C
  at_ : mg x = some (.ref C)
structure Rz1 (P : Program) (w : World) (K : PySem.W.Frag) (mg : Str → Option Value) (base : Heap) (x at1 : Str) (C : Addr) : Prop where
  ex : ∃ (fI : Addr) (fd : FuncData), PySem.W.findIn K (.ref C) "__init__" = some (some (.ref fI)) ∧ PySem.W.typeIn K (.ref fI) = some (.type "function") ∧ FnOk P w K mg base CX0 2 fI fd ["self", at1] (sp_B1 C x at1) ∧ Binds K fd ["self", at1] []
  ox : OexC K C
  at_ : mg x = some (.ref C)
/-- raise .. -/
def sRaise (W : WX) (t : L2.St → Hp → XK → Prop) : TS := fun _ σ H => t σ H fun cls d H' => W cls d σ H'
def tTry (K : PySem.W.Frag) (Wout : WX) (l : List Cl) (tb : WX → TS) : TS := fun D σ H => tb (wAll K Wout D l) D σ H
abbrev W0 : WX := fun _ _ _ _ => False
section
variable {X : Cx} {x at1 : Str} {C : Addr} {p pos pos' : Pos} {W : WX} {e : Expr} {te : TE}
theorem ps_rz0 (hc : X.calm = true) (tk : Takes X W) (R : Rz0 X.prog X.w X.K X.mg X.base x C) (hr : Room 3 X.A) (hg : Gl X x) (hdb : (x == ("__debug__" : Str)) = false := by decide) :
    PS X (.Raise (some (.Call (.Name x p) [] [] pos)) none pos') (sRaise W (tBad C x)) := by
  obtain ⟨fI, fd, h1, h2, h3, h4⟩ := R.ex
  exact ps_raise hc tk (pmk_bad0 R.ox h1 h2 h3 hr h4 hg R.at_ hdb)
theorem ps_rz1 (hc : X.calm = true) (tk : Takes X W) (R : Rz1 X.prog X.w X.K X.mg X.base x at1 C) (hr : Room 3 X.A) (hg : Gl X x) (ha : PE X e te) (hdb : (x == ("__debug__" : Str)) = false := by decide)
    (he : starEach [e] X.env = (false, eval e X.env) :: starEach [] X.env := by rfl) (hpl : (backTo pos (starEach [] X.env)).any (·.1) = false := by rfl) :
    PS X (.Raise (some (.Call (.Name x p) [e] [] pos)) none pos') (sRaise W (tBad1 C x at1 te)) := by
  obtain ⟨fI, fd, h1, h2, h3, h4⟩ := R.ex
  exact ps_raise hc tk (pmk_bad1 R.ox h1 h2 h3 hr h4 hg R.at_ ha hdb he hpl)
theorem ps_tryT {body : List Stmt} {h₀ : ExceptHandler} {hds : List ExceptHandler} {l : List Cl} {tb : WX → TS} {Wout : WX} (hs : X.stack = X.env :: X.outer) (hf : X.env.frame = some X.env.locals) (hN : X.N.Nodup) (tk : Takes X Wout)
    (hb : ∀ (W : WX) (pn : List (Addr × Obj)) (xe : Value → Shared → Prop), Takes (X.tr pn xe) W → PassesOwn (model X.prog X.w) X.A X.env xe → PSs (X.tr pn xe) body (tb W))
    (hh : HdsA X (h₀ :: hds) l) : PS X (.Try body (h₀ :: hds) [] [] pos) (tTry X.K Wout l tb) := ps_try_all hs hf hN tk hb hh
end
section
variable {K : PySem.W.Frag} {ec : Str → Addr} {ns : List Str} {W : WX} {D : Ends} {σ : L2.St} {H : Hp} {C : Addr} {x at1 : Str}
theorem r_raise (h : ∀ d H', Same H H' → H d = none → H' d = some (.xd [("word", .str x)]) → W (.ref C) (some d) σ H') : sRaise W (tBad C x) D σ H := fun d nd => h d _ (same_new nd) nd upd_same
/-- behind the argument of C(e) in a raise -/
def PRz1 (W : WX) (σ : L2.St) (C : Addr) (x at1 : Str) (v : V) (H1 : Hp) : Prop := [v].length ≤ 1000 ∧ ∀ a, H1 a = none → sp_B1 C x at1 (.ref a :: ([v] ++ [])) (upd H1 a (exo a C none)) (fun v H2 => v = .non ∧ ∃ (d : Addr) (fs : List (Str × V)), H2 a = some (exo a C (some d)) ∧ H2 d = some (exd d fs) ∧ H1 d = none ∧ W (.ref C) (some d) σ (upd (del H2 a) d (.xd fs))) (fun _ _ _ => False)
theorem r_raise1 {te : TE} (h : te σ H fun v H1 => PRz1 W σ C x at1 v H1) : sRaise W (tBad1 C x at1 te) D σ H := h
theorem r_prz1 {v : V} (h : ∀ d H', Same H H' → H d = none → H' d = some (.xd [(at1, v), ("word", .str x)]) → W (.ref C) (some d) σ H') : PRz1 W σ C x at1 v H := mk_bad1 (Q := fun cls d H' => W cls d σ H') fun d nd => h d _ (same_new nd) nd upd_same
theorem r_try {Wout : WX} {l : List Cl} {tb : WX → TS} (h : tb (wAll K Wout D l) D σ H) : tTry K Wout l tb D σ H := h
/-- the clause is taken -/
theorem w_yes {Wout : WX} {q : Cl} {r : List Cl} {d : Option Addr} {cls : Value} (e : PySem.W.exmOne K cls q.c = some true) (h : ∀ a, H a = none → q.ts a cls d (endsOf D q.slot) (setOf σ a q.slot) H) : wAll K Wout D (q :: r) cls d σ H :=
  ⟨true, e, fun _ => h, fun z => nomatch z⟩
theorem w_no {Wout : WX} {q : Cl} {r : List Cl} {d : Option Addr} {cls : Value} (e : PySem.W.exmOne K cls q.c = some false) (h : wAll K Wout D r cls d σ H) : wAll K Wout D (q :: r) cls d σ H :=
  ⟨false, e, (fun z => nomatch z), fun _ => h⟩
/-- e.f of the caught -/
theorem r_xfV {a : Addr} {d : Addr} {n : Str} {i : Nat} {Q : VK} {fs : List (Str × V)} {v : V} (XF : XfC K C) (hn : PySem.W.findIn K (.ref C) n = some none) (hσ : σ[i]? = some (some (.ref a))) (hd : H d = some (.xd fs)) (hl : fs.lookup n = some v) (q : Q v H) : tXfA K a (.ref C) (some d) n (tVar i) σ H Q :=
  ⟨C, rfl, XF, hn, .ref a, hσ, rfl, rfl, d, fs, v, rfl, hd, hl, q⟩
/-- isinstance(e, c) -/
theorem r_isX {a d : Addr} {c : V} {b : Bool} {fs : List (Str × V)} {Q : VK} (hd : H d = some (.xd fs)) (E : ExcC K C) (io : IsOf K H C c b) (q : Q (.bl b) H) : rIsX K a (.ref C) (some d) [.ref a, c] H Q := ⟨c, C, d, fs, b, rfl, rfl, rfl, hd, E, io, q⟩
theorem is_cls (XS : Exs K ec ns) {y : Str} (hx : x ∈ ns) (hy : y ∈ ns) : IsOf K H (ec x) (.ref (ec y)) (x == y || y == "ChamberError") := .inl ⟨_, fun u r => r, XS.kit x hx y hy⟩
theorem is_VE (XS : Exs K ec ns) (hx : x ∈ ns) : IsOf K H (ec x) (.ty "ValueError") true := .inl ⟨_, fun u r => r, XS.kitV x hx⟩
theorem vals_refs : ∀ {cs : List Addr} {us : List Value}, Vals (cs.map V.ref) us → us = cs.map Value.ref
  | [], _, r => by cases r; rfl
  | c :: cs, _, r => by
    cases r with
    | cons h r =>
      rw [vals_refs r]
      have h : _ = Value.ref c := h
      rw [h]
      rfl
theorem kitAny_names (XS : Exs K ec ns) (hx : x ∈ ns) : ∀ {ys : List Str}, (∀ y ∈ ys, y ∈ ns) → PySem.W.kitAny K (.ref (ec x)) ((ys.map ec).map Value.ref) = some (ys.any fun y => x == y || y == "ChamberError")
  | [], _ => rfl
  | y :: ys, h => by
    have e := XS.kit x hx y (h y List.mem_cons_self)
    have r := kitAny_names XS hx (ys := ys) fun z hz => h z (List.mem_cons_of_mem _ hz)
    rw [List.map_cons, List.map_cons, List.any_cons]
    unfold PySem.W.kitAny
    rw [e]
    cases (x == y || y == "ChamberError") with
    | true => rfl
    | false => rw [Bool.false_or]; exact r
theorem is_tup (XS : Exs K ec ns) (hx : x ∈ ns) {tp : Addr} {ys : List Str} (hy : ∀ y ∈ ys, y ∈ ns) (ht : SqT K H tp ((ys.map ec).map V.ref)) : IsOf K H (ec x) (.ref tp) (ys.any fun y => x == y || y == "ChamberError") :=
  .inr ⟨tp, _, _, rfl, ht, fun us r => vals_refs r, kitAny_names XS hx hy⟩
end
theorem r_callW {sp : Sp} {W : WX} {t : TA} {σ : L2.St} {H : Hp} {Q : VK} (h : t σ H fun vs H1 => sp vs H1 Q (fun cls d H' => W cls d σ H')) : tCallW sp W t σ H Q := h
def PEn (K : PySem.W.Frag) (k : Int) (vs : List V) (H1 : Hp) (R : It → Hp → Prop) : Prop := ∃ a xs, vs = [.ref a] ∧ SqT K H1 a xs ∧ R (IteT K a k) H1
theorem r_enT {K : PySem.W.Frag} {k : Int} {ta : TA} {σ : L2.St} {H : Hp} {R : It → Hp → Prop} (h : ta σ H fun vs H1 => PEn K k vs H1 R) : iEnT K k ta σ H R := h
theorem r_pen {K : PySem.W.Frag} {k : Int} {a : Addr} {xs : List V} {H : Hp} {R : It → Hp → Prop} (h : SqT K H a xs) (q : R (IteT K a k) H) : PEn K k [.ref a] H R := ⟨a, xs, rfl, h, q⟩
theorem r_eqS {K : PySem.W.Frag} {x y : Str} {H : Hp} {Q : VK} (q : Q (.bl (decide (x = y))) H) : rEqU K (.str x) (.str y) H Q := .inl ⟨rfl, by
  have e : decide (V.str x = V.str y) = decide (x = y) := by by_cases h : x = y <;> simp [h]
  rw [e]; exact q⟩
theorem r_neS {K : PySem.W.Frag} {x y : Str} {H : Hp} {Q : VK} (q : Q (.bl (!decide (x = y))) H) : rNeU K (.str x) (.str y) H Q := .inl ⟨rfl, by
  have e : decide (V.str x = V.str y) = decide (x = y) := by by_cases h : x = y <;> simp [h]
  rw [e]; exact q⟩
theorem r_endsAs {D : Ends} {i : Nat} {σ : L2.St} {H : Hp} (h : D.nx (σ.set i none) H) : (endsOf D (some i)).nx σ H := h
def PTp (K : PySem.W.Frag) (x : V) (H1 : Hp) : Prop := ∃ p xs, x = .ref p ∧ SqT K H1 p xs ∧ NoD H1 p
theorem r_BMT {K : PySem.W.Frag} {r : V → List V → Hp → VK → Prop} {to : TE} {t : TA} {σ : L2.St} {H : Hp} {Q : VK} (h : to σ H fun x H1 => PTp K x H1 ∧ t σ H1 fun xs H2 => r x xs H2 Q) : tBMT K r to t σ H Q := h
theorem r_ptp {K : PySem.W.Frag} {p : Addr} {xs : List V} {H : Hp} {A : Prop} (h : SqT K H p xs) (d : NoD H p) (a : A) : PTp K (.ref p) H ∧ A := ⟨⟨p, xs, rfl, h, d⟩, a⟩
theorem ixN_n {n k : Nat} (h : k < n) : ixN n (k : Int) = some k := by
  unfold ixN
  rw [if_pos (by omega), if_pos (by omega)]
  rfl
theorem map_set {bs : List Int} {k : Nat} {x : Int} : (bs.map V.int).set k (.int x) = (bs.set k x).map V.int := by rw [List.map_set]
section
local macro_rules | `(tactic| walk_at "tk") => `(tactic| first
  | assumption
  | ((with_reducible refine' sqT_of ?k); (case k => assumption))
  | ((with_reducible refine' sqT_ofD ?k); (case k => assumption))
  | ((with_reducible refine' noD_of ?k); (case k => assumption))
  | ((with_reducible refine' noD_same ?s ?k); (case s => assumption); (case k => walk_at "tk"))
  | ((with_reducible refine' sqL_of ?k); (case k => assumption))
  | ((with_reducible refine' sqT_same ?s ?k); (case s => assumption); (case k => walk_at "tk"))
  | ((with_reducible refine' sqL_same ?s ?k); (case s => assumption); (case k => walk_at "tk"))
  | ((with_reducible refine' sqT_but ?s ?t ?k); (case s => assumption); (case t => walk_at "tk"); (case k => walk_at "tk"))
  | ((with_reducible refine' sqL_but ?s ?t ?k); (case s => assumption); (case t => walk_at "ne"); (case k => walk_at "tk"))
  | ((with_reducible refine' sqL_of ?k); (case k => walk_at "tk"))
  | ((with_reducible refine' sqT_of ?k); (case k => walk_at "tk"))
  | ((with_reducible refine' at_same ?s ?k); (case s => assumption); (case k => walk_at "tk"))
  | ((with_reducible refine' at_but ?s ?t ?k); (case s => assumption); (case t => walk_at "ne"); (case k => walk_at "tk")))
local macro_rules | `(tactic| walk_at "ne") => `(tactic| first
  | assumption
  | (refine Ne.symm ?_; assumption)
  | exact ne_of_none (by assumption) (by assumption)
  | exact (ne_of_none (by assumption) (by assumption)).symm)
local macro_rules | `(tactic| walk_at "side") => `(tactic| first
  | assumption
  | omega
  | (simp only [sizeLine_eq, List.length_cons, List.length_nil, List.length_map]; omega)
  | (show _ ≤ sizeLine; decide))
local macro_rules | `(tactic| walk_at "kit") => `(tactic| first
  | (show kitB _ _ = some true; decide +kernel)
  | (show kitB _ _ = some false; decide +kernel))
local macro_rules | `(tactic| walk_at "rng") => `(tactic| first
  | (refine ⟨by omega, by omega, by omega, by omega⟩)
  | (refine ⟨by omega, by omega⟩)
  | ((simp only [List.length_map]); (refine ⟨by omega, by omega, by omega, by omega⟩))
  | ((simp only [List.length_map]); (refine ⟨by omega, by omega⟩)))
local macro_rules | `(tactic| walk_at "rd1") => `(tactic| first
  | with_reducible refine r_seq ?_
  | ((with_reducible refine' r_var ?k0 ?_); (case k0 => rfl))
  | with_reducible refine r_op ?_
  | with_reducible refine r_c ?_
  | with_reducible refine r_asg ?_
  | with_reducible refine r_name ?_
  | with_reducible refine r_cons ?_
  | with_reducible refine r_nil ?_
  | with_reducible refine r_CB ?_
  | with_reducible refine r_if ?_
  | with_reducible refine r_test ?_
  | with_reducible refine r_k ?_
  | with_reducible refine r_T ?_
  | with_reducible refine r_F ?_
  | with_reducible refine r_nT ?_
  | with_reducible refine r_nF ?_
  | with_reducible refine r_ret ?_
  | with_reducible refine r_drop ?_
  | with_reducible refine r_next ?_
  | with_reducible refine r_call ?_
  | with_reducible refine r_addI ?_
  | with_reducible refine r_subI ?_
  | with_reducible refine r_ltI ?_
  | with_reducible refine r_gtI ?_
  | with_reducible refine r_leI ?_
  | with_reducible refine r_geI ?_
  | with_reducible refine r_eqI ?_
  | with_reducible refine r_neI ?_
  | with_reducible refine r_int ?_
  | with_reducible refine r_abs ?_
  | with_reducible refine r_not ?_
  | with_reducible refine r_and ?_
  | with_reducible refine r_or ?_
  | with_reducible refine r_tru ?_
  | with_reducible refine r_truB ?_
  | with_reducible refine r_lst ?_
  | with_reducible refine r_tup ?_
  | with_reducible refine r_BM ?_
  | with_reducible refine r_BM0 ?_
  | with_reducible refine r_tyS ?_
  | with_reducible refine r_gsub ?_
  | with_reducible refine r_then ?_
  | with_reducible refine r_lstRg ?_
  | with_reducible refine r_tupRg ?_
  | with_reducible refine r_rg2 ?_
  | with_reducible refine r_rg1 ?_
  | with_reducible refine r_ii ?_
  | with_reducible refine r_i ?_
  | with_reducible refine r_ipI ?_
  | with_reducible refine r_un ?_
  | with_reducible refine r_neg ?_
  | with_reducible refine r_isN ?_
  | with_reducible refine r_notN ?_
  | with_reducible refine r_notV ?_
  | with_reducible refine r_pnot ?_
  | with_reducible refine r_pif ?_
  | with_reducible refine r_andV ?_
  | with_reducible refine r_orV ?_
  | with_reducible refine r_ifE ?_
  | with_reducible refine r_chain ?_
  | with_reducible refine r_sl ?_
  | with_reducible refine r_noPart ?_
  | with_reducible refine r_part ?_
  | with_reducible refine r_brk ?_
  | with_reducible refine r_cont ?_
  | with_reducible refine r_retN ?_
  | with_reducible refine r_truI ?_
  | with_reducible refine r_B ?_
  | with_reducible refine r_for ?_
  | with_reducible refine r_rng1 ?_
  | with_reducible refine r_rng2 ?_
  | with_reducible refine r_rng3 ?_
  | with_reducible refine r_body ?_
  | with_reducible refine r_lc ?_
  | with_reducible refine r_yes ?_
  | ((with_reducible refine' r_mod ?k0 ?_); (case k0 => walk_at "side"))
  | ((with_reducible refine' r_mulI ?k0 ?_); (case k0 => first | exact Or.inl ⟨by omega, by omega⟩ | exact Or.inr ⟨by omega, by omega⟩))
  | ((with_reducible refine' r_lenL ?k0 ?_); (case k0 => walk_at "tk"))
  | ((with_reducible refine' r_lenT ?k0 ?_); (case k0 => walk_at "tk"))
  | ((with_reducible refine' r_truL ?k0 ?_); (case k0 => walk_at "tk"))
  | ((with_reducible refine' r_truT ?k0 ?_); (case k0 => walk_at "tk"))
  | ((with_reducible refine' r_ixL ?k0 ?k1 ?_); (case k0 => walk_at "tk"); (case k1 => first | assumption | rfl))
  | ((with_reducible refine' r_ixT ?k0 ?k1 ?_); (case k0 => walk_at "tk"); (case k1 => first | assumption | rfl))
  | ((with_reducible refine' r_new ?k0 ?_); (case k0 => walk_at "side"))
  | ((with_reducible refine' r_tyL ?k0 ?_); (case k0 => walk_at "tk"))
  | ((with_reducible refine' r_append ?k0 ?k1 ?_); (case k0 => walk_at "tk"); (case k1 => walk_at "side"))
  | ((with_reducible refine' r_setL ?k0 ?k1 ?_); (case k0 => walk_at "tk"); (case k1 => first | assumption | rfl))
  | ((with_reducible refine' r_kTupL ?k0 ?_); (case k0 => walk_at "tk"))
  | ((with_reducible refine' r_kTupT ?k0 ?_); (case k0 => walk_at "tk"))
  | ((with_reducible refine' r_listL ?k0 ?_); (case k0 => walk_at "tk"))
  | ((with_reducible refine' r_listT ?k0 ?_); (case k0 => walk_at "tk"))
  | ((with_reducible refine' r_aug ?k0 ?_); (case k0 => rfl))
  | ((with_reducible refine' r_lenS ?k0 ?_); (case k0 => walk_at "side"))
  | ((with_reducible refine' r_pop ?k0 ?_); (case k0 => walk_at "tk"))
  | ((with_reducible refine' r_pr1 ?k0 ?_); (case k0 => walk_at "rng"))
  | ((with_reducible refine' r_pr2 ?k0 ?_); (case k0 => walk_at "rng"))
  | ((with_reducible refine' r_pr3d ?k0 ?_); (case k0 => walk_at "rng"))
  | ((with_reducible refine' r_isiI ?k0 ?_); (case k0 => walk_at "kit"))
  | ((with_reducible refine' r_isiB ?k0 ?_); (case k0 => walk_at "kit"))
  | ((with_reducible refine' r_isiS ?k0 ?_); (case k0 => walk_at "kit"))
  | ((with_reducible refine' r_isiN ?k0 ?_); (case k0 => walk_at "kit"))
  | ((with_reducible refine' r_isiT ?k0 ?k1 ?_); (case k0 => walk_at "tk"); (case k1 => walk_at "kit"))
  | ((with_reducible refine r_seqT ?_); (repeat (walk_at "rd1")); ((with_reducible refine' r_pseqT ?k0 ?_); (case k0 => walk_at "tk")))
  | ((with_reducible refine r_seqL ?_); (repeat (walk_at "rd1")); ((with_reducible refine' r_pseqL ?k0 ?_); (case k0 => walk_at "tk")))
  | ((with_reducible refine r_seqS ?_); (repeat (walk_at "rd1")); (with_reducible refine r_pseqS ?_)))
local macro_rules | `(tactic| walk_at "rd") => `(tactic| ((repeat (walk_at "rd1")); (try dsimp only)))
/-- alone = isinstance(e, ChamberError) and isinstance(e, ValueError) and not isinstance(e, (A, B)) -/
theorem r_alone {K : PySem.W.Frag} {ec : Str → Addr} {ns : List Str} {σ : L2.St} {H : Hp} {Q : VK} {i : Nat} {a d : Addr} {x A B : Str} {fs : List (Str × V)} (XS : Exs K ec ns) (hx : x ∈ ns) (hC : ("ChamberError" : Str) ∈ ns) (hA : A ∈ ns) (hB : B ∈ ns)
    (nA : (x == A || A == "ChamberError") = false) (nB : (x == B || B == "ChamberError") = false) (hσ : σ[i]? = some (some (V.ref a))) (e : H d = some (.xd fs)) (q : ∀ H', Same H H' → Q (.bl true) H') :
    tAndV (tCB (rIsX K a (.ref (ec x)) (some d)) (tCons (tVar i) (tCons (tC (.ref (ec "ChamberError"))) tNil))) (tAndV (tCB (rIsX K a (.ref (ec x)) (some d)) (tCons (tVar i) (tCons (tC (.ty "ValueError")) tNil)))
      (tNotV (tCB (rIsX K a (.ref (ec x)) (some d)) (tCons (tVar i) (tCons (tTup (tCons (tC (.ref (ec A))) (tCons (tC (.ref (ec B))) tNil))) tNil))))) σ H Q := by
  have BX := XS.bad x hx
  refine r_andV (r_CB (r_cons (r_var hσ (r_cons (r_c (r_nil ?_)))))) 
  refine r_isX (b := true) e BX.ex ?_ ?_
  · have z := is_cls (H := H) XS hx hC
    rw [show (x == "ChamberError" || ("ChamberError" : Str) == "ChamberError") = true by rw [show (("ChamberError" : Str) == "ChamberError") = true by decide, Bool.or_true]] at z
    exact z
  refine r_pif (r_T ?_)
  refine r_andV (r_CB (r_cons (r_var hσ (r_cons (r_c (r_nil ?_))))))
  refine r_isX (b := true) e BX.ex (is_VE XS hx) ?_
  refine r_pif (r_T ?_)
  refine r_notV (r_CB (r_cons (r_var hσ (r_cons ?_))))
  walk_at "rd"
  intro tp H1 ntp s1 e1
  walk_at "rd"
  refine r_isX (b := false) (s1 _ _ e) BX.ex ?_ ?_
  · have z := is_tup (H := H1) XS hx (tp := tp) (ys := [A, B]) (by intro y hy; rcases List.mem_cons.mp hy with rfl | hy; exact hA; rcases List.mem_cons.mp hy with rfl | hy; exact hB; cases hy) (sqT_of e1)
    rw [show ([A, B].any fun y => x == y || y == "ChamberError") = false by simp only [List.any_cons, List.any_nil, nA, nB, Bool.or_false]] at z
    exact z
  exact r_pnot (q H1 s1)
end
end Kb
set_option Elab.async false
set_option linter.all false
set_option maxRecDepth 100000
set_option maxHeartbeats 4000000
namespace Kb
open PySem PySem.Spec PyProof.Rows L2
section
variable {K : PySem.W.Frag} {H : Hp} {Q : VK} {E : XK}
theorem pl_same {H H' : Hp} {p : Addr} (s : Same H H') (h : Pl H p) : Pl H' p := by
  obtain ⟨x, y, z, e⟩ := h
  exact ⟨x, y, z, s _ _ e⟩
theorem size_ints : ∀ r : List Int, Dat.sizes (r.map Dat.int) = r.length
  | [] => rfl
  | x :: r => by
    rw [List.map_cons]
    show Dat.size (.int x) + Dat.sizes (r.map Dat.int) = _
    rw [size_ints r, List.length_cons, show Dat.size (.int x) = 1 from rfl, Nat.add_comm]
theorem sm {a b : Addr} {r : List Int} {n : Nat} (h1 : SqT K H a (r.map V.int)) (h2 : SqT K H b (r.map V.int)) (hR : IsRow r n) (hn : n ≤ 12) (q : ∀ H', Same H H' → Q (.bl true) H') : sp_law_same K [.ref a, .ref b] H Q E :=
  ⟨_, _, .tup (r.map .int), rfl, rp_ints h1, rp_ints h2, by show 1 + Dat.sizes (r.map Dat.int) ≤ _; rw [size_ints, hR.1]; omega, q⟩
end
end Kb
set_option Elab.async false
set_option linter.all false
set_option maxRecDepth 100000
set_option maxHeartbeats 4000000
namespace Kb
open PySem PySem.Spec PyProof.Rows L2
/-- t[::k], k being -1 -/
def PRev (K : PySem.W.Frag) (x : V) (k : Option Int) (H : Hp) (Q : VK) : Prop := k = some (-1) ∧ ∃ a xs, x = .ref a ∧ SqT K H a xs ∧ ∀ p, H p = none → Q (.ref p) (upd H p (.tup xs.reverse))
def tRevU (K : PySem.W.Frag) (te : TE) (tk : TO) : TE := fun σ H Q => te σ H fun x H1 => tk σ H1 fun k H2 => PRev K x k H2 Q
/-- x, y = a, b -/
def PPar (vs : List V) (R : V → V → Prop) : Prop := ∃ v w, vs = [v, w] ∧ R v w
theorem r_par {D : Ends} {σ : L2.St} {H : Hp} {i j : Nat} {ta : TA} (h : ta σ H fun vs H1 => PPar vs fun v w => D.nx ((σ.set i (some v)).set j (some w)) H1) : tPar i j ta D σ H := h
theorem r_parV {v w : V} {R : V → V → Prop} (q : R v w) : PPar [v, w] R := ⟨v, w, rfl, q⟩
theorem r_revU {K : PySem.W.Frag} {te : TE} {tk : TO} {σ : L2.St} {H : Hp} {Q : VK} (h : te σ H fun x H1 => tk σ H1 fun k H2 => PRev K x k H2 Q) : tRevU K te tk σ H Q := h
theorem r_prev {K : PySem.W.Frag} {a : Addr} {xs : List V} {H : Hp} {Q : VK} (h : SqT K H a xs) (q : ∀ p H', H p = none → Same H H' → H' p = some (.tup xs.reverse) → Q (.ref p) H') : PRev K (.ref a) (some (-1)) H Q :=
  ⟨rfl, a, xs, rfl, h, fun p np => q p _ np (same_new np) upd_same⟩
end Kb
set_option Elab.async false
set_option linter.all false
set_option maxRecDepth 100000
namespace Kb
def stepN (L s : Nat) (neg : Bool) (a : Nat) : Nat := cond neg ((s + L - a) % L) ((s + a) % L)
end Kb
set_option Elab.async false
set_option linter.all false
set_option maxRecDepth 100000
set_option maxHeartbeats 4000000
namespace Kb
open PySem PySem.Spec PyProof.Rows L2
local macro_rules | `(tactic| walk_at "tk") => `(tactic| first
  | assumption
  | ((with_reducible refine' sqT_of ?k); (case k => assumption))
  | ((with_reducible refine' sqT_ofD ?k); (case k => assumption))
  | ((with_reducible refine' noD_of ?k); (case k => assumption))
  | ((with_reducible refine' noD_same ?s ?k); (case s => assumption); (case k => walk_at "tk"))
  | ((with_reducible refine' sqL_of ?k); (case k => assumption))
  | ((with_reducible refine' sqT_same ?s ?k); (case s => assumption); (case k => walk_at "tk"))
  | ((with_reducible refine' sqL_same ?s ?k); (case s => assumption); (case k => walk_at "tk"))
  | ((with_reducible refine' sqT_but ?s ?t ?k); (case s => assumption); (case t => walk_at "tk"); (case k => walk_at "tk"))
  | ((with_reducible refine' sqL_but ?s ?t ?k); (case s => assumption); (case t => walk_at "ne"); (case k => walk_at "tk"))
  | ((with_reducible refine' sqL_of ?k); (case k => walk_at "tk"))
  | ((with_reducible refine' sqT_of ?k); (case k => walk_at "tk"))
  | ((with_reducible refine' at_same ?s ?k); (case s => assumption); (case k => walk_at "tk"))
  | ((with_reducible refine' at_but ?s ?t ?k); (case s => assumption); (case t => walk_at "ne"); (case k => walk_at "tk")))
local macro_rules | `(tactic| walk_at "ne") => `(tactic| first
  | assumption
  | (refine Ne.symm ?_; assumption)
  | exact ne_of_none (by assumption) (by assumption)
  | exact (ne_of_none (by assumption) (by assumption)).symm)
local macro_rules | `(tactic| walk_at "side") => `(tactic| first
  | assumption
  | omega
  | (simp only [sizeLine_eq, List.length_cons, List.length_nil, List.length_map]; omega)
  | (show _ ≤ sizeLine; decide))
local macro_rules | `(tactic| walk_at "kit") => `(tactic| first
  | (show kitB _ _ = some true; decide +kernel)
  | (show kitB _ _ = some false; decide +kernel))
local macro_rules | `(tactic| walk_at "rng") => `(tactic| first
  | (refine ⟨by omega, by omega, by omega, by omega⟩)
  | (refine ⟨by omega, by omega⟩)
  | ((simp only [List.length_map]); (refine ⟨by omega, by omega, by omega, by omega⟩))
  | ((simp only [List.length_map]); (refine ⟨by omega, by omega⟩)))
local macro_rules | `(tactic| walk_at "rd1") => `(tactic| first
  | with_reducible refine r_seq ?_
  | ((with_reducible refine' r_var ?k0 ?_); (case k0 => rfl))
  | with_reducible refine r_op ?_
  | with_reducible refine r_c ?_
  | with_reducible refine r_asg ?_
  | with_reducible refine r_name ?_
  | with_reducible refine r_cons ?_
  | with_reducible refine r_nil ?_
  | with_reducible refine r_CB ?_
  | with_reducible refine r_if ?_
  | with_reducible refine r_test ?_
  | with_reducible refine r_k ?_
  | with_reducible refine r_T ?_
  | with_reducible refine r_F ?_
  | with_reducible refine r_nT ?_
  | with_reducible refine r_nF ?_
  | with_reducible refine r_ret ?_
  | with_reducible refine r_drop ?_
  | with_reducible refine r_next ?_
  | with_reducible refine r_call ?_
  | with_reducible refine r_addI ?_
  | with_reducible refine r_subI ?_
  | with_reducible refine r_ltI ?_
  | with_reducible refine r_gtI ?_
  | with_reducible refine r_leI ?_
  | with_reducible refine r_geI ?_
  | with_reducible refine r_eqI ?_
  | with_reducible refine r_neI ?_
  | with_reducible refine r_int ?_
  | with_reducible refine r_abs ?_
  | with_reducible refine r_not ?_
  | with_reducible refine r_and ?_
  | with_reducible refine r_or ?_
  | with_reducible refine r_tru ?_
  | with_reducible refine r_truB ?_
  | with_reducible refine r_lst ?_
  | with_reducible refine r_tup ?_
  | with_reducible refine r_BM ?_
  | with_reducible refine r_BM0 ?_
  | with_reducible refine r_tyS ?_
  | with_reducible refine r_gsub ?_
  | with_reducible refine r_then ?_
  | with_reducible refine r_lstRg ?_
  | with_reducible refine r_tupRg ?_
  | with_reducible refine r_rg2 ?_
  | with_reducible refine r_rg1 ?_
  | with_reducible refine r_ii ?_
  | with_reducible refine r_i ?_
  | with_reducible refine r_ipI ?_
  | with_reducible refine r_un ?_
  | with_reducible refine r_neg ?_
  | with_reducible refine r_isN ?_
  | with_reducible refine r_notN ?_
  | with_reducible refine r_notV ?_
  | with_reducible refine r_pnot ?_
  | with_reducible refine r_pif ?_
  | with_reducible refine r_andV ?_
  | with_reducible refine r_orV ?_
  | with_reducible refine r_ifE ?_
  | with_reducible refine r_chain ?_
  | with_reducible refine r_sl ?_
  | with_reducible refine r_noPart ?_
  | with_reducible refine r_part ?_
  | with_reducible refine r_brk ?_
  | with_reducible refine r_cont ?_
  | with_reducible refine r_retN ?_
  | with_reducible refine r_truI ?_
  | with_reducible refine r_B ?_
  | with_reducible refine r_for ?_
  | with_reducible refine r_rng1 ?_
  | with_reducible refine r_rng2 ?_
  | with_reducible refine r_rng3 ?_
  | with_reducible refine r_body ?_
  | with_reducible refine r_lc ?_
  | with_reducible refine r_yes ?_
  | ((with_reducible refine' r_mod ?k0 ?_); (case k0 => walk_at "side"))
  | ((with_reducible refine' r_mulI ?k0 ?_); (case k0 => first | exact Or.inl ⟨by omega, by omega⟩ | exact Or.inr ⟨by omega, by omega⟩))
  | ((with_reducible refine' r_lenL ?k0 ?_); (case k0 => walk_at "tk"))
  | ((with_reducible refine' r_lenT ?k0 ?_); (case k0 => walk_at "tk"))
  | ((with_reducible refine' r_truL ?k0 ?_); (case k0 => walk_at "tk"))
  | ((with_reducible refine' r_truT ?k0 ?_); (case k0 => walk_at "tk"))
  | ((with_reducible refine' r_ixL ?k0 ?k1 ?_); (case k0 => walk_at "tk"); (case k1 => first | assumption | rfl))
  | ((with_reducible refine' r_ixT ?k0 ?k1 ?_); (case k0 => walk_at "tk"); (case k1 => first | assumption | rfl))
  | ((with_reducible refine' r_new ?k0 ?_); (case k0 => walk_at "side"))
  | ((with_reducible refine' r_tyL ?k0 ?_); (case k0 => walk_at "tk"))
  | ((with_reducible refine' r_append ?k0 ?k1 ?_); (case k0 => walk_at "tk"); (case k1 => walk_at "side"))
  | ((with_reducible refine' r_setL ?k0 ?k1 ?_); (case k0 => walk_at "tk"); (case k1 => first | assumption | rfl))
  | ((with_reducible refine' r_kTupL ?k0 ?_); (case k0 => walk_at "tk"))
  | ((with_reducible refine' r_kTupT ?k0 ?_); (case k0 => walk_at "tk"))
  | ((with_reducible refine' r_listL ?k0 ?_); (case k0 => walk_at "tk"))
  | ((with_reducible refine' r_listT ?k0 ?_); (case k0 => walk_at "tk"))
  | ((with_reducible refine' r_aug ?k0 ?_); (case k0 => rfl))
  | ((with_reducible refine' r_lenS ?k0 ?_); (case k0 => walk_at "side"))
  | ((with_reducible refine' r_pop ?k0 ?_); (case k0 => walk_at "tk"))
  | ((with_reducible refine' r_pr1 ?k0 ?_); (case k0 => walk_at "rng"))
  | ((with_reducible refine' r_pr2 ?k0 ?_); (case k0 => walk_at "rng"))
  | ((with_reducible refine' r_pr3d ?k0 ?_); (case k0 => walk_at "rng"))
  | ((with_reducible refine' r_isiI ?k0 ?_); (case k0 => walk_at "kit"))
  | ((with_reducible refine' r_isiB ?k0 ?_); (case k0 => walk_at "kit"))
  | ((with_reducible refine' r_isiS ?k0 ?_); (case k0 => walk_at "kit"))
  | ((with_reducible refine' r_isiN ?k0 ?_); (case k0 => walk_at "kit"))
  | ((with_reducible refine' r_isiT ?k0 ?k1 ?_); (case k0 => walk_at "tk"); (case k1 => walk_at "kit"))
  | ((with_reducible refine r_seqT ?_); (repeat (walk_at "rd1")); ((with_reducible refine' r_pseqT ?k0 ?_); (case k0 => walk_at "tk")))
  | ((with_reducible refine r_seqL ?_); (repeat (walk_at "rd1")); ((with_reducible refine' r_pseqL ?k0 ?_); (case k0 => walk_at "tk")))
  | ((with_reducible refine r_seqS ?_); (repeat (walk_at "rd1")); (with_reducible refine r_pseqS ?_)))
local macro_rules | `(tactic| walk_at "rd") => `(tactic| ((repeat (walk_at "rd1")); (try dsimp only)))
local macro_rules | `(tactic| walk_at "rd1") => `(tactic| first
  | with_reducible refine r_BMT ?_
  | with_reducible refine r_par ?_
  | with_reducible refine r_parV ?_
  | ((with_reducible refine' r_ptp ?k0 ?k1 ?_); (case k0 => walk_at "tk"); (case k1 => walk_at "tk"))
  | with_reducible refine r_eqS ?_
  | with_reducible refine r_neS ?_
  | with_reducible refine r_callW ?_
  | with_reducible refine r_try ?_
  | with_reducible refine r_enT ?_
  | ((with_reducible refine' r_pen ?k0 ?_); (case k0 => walk_at "tk")))
theorem r_gTup2 {K : PySem.W.Frag} {a : Addr} {x y : V} {i j : Nat} {σ : L2.St} {H : Hp} {Q : L2.St → Hp → Prop} (h : SqT K H a [x, y]) (q : Q ((σ.set i (some x)).set j (some y)) H) : gTup K 2 (gCons (gName i) (gCons (gName j) gNil)) (.ref a) σ H Q :=
  ⟨a, [x, y], rfl, h, rfl, _, _, rfl, _, _, rfl, rfl, q⟩
def sp_check_stage (K : PySem.W.Frag) (ec : Str → Addr) : Sp := fun vs H Q E => ∃ (s : Int), vs = [.int s] ∧ (1 ≤ s ∧ s ≤ 12 → Q .non H) ∧
  (¬ (1 ≤ s ∧ s ≤ 12) → ∀ d H', Same H H' → H d = none → H' d = some (.xd [("word", .str "BadStage")]) → E (.ref (ec "BadStage")) (some d) H')
abbrev N_check_stage : List Str := ["stage"]
def t_check_stage (K : PySem.W.Frag) (ec : Str → Addr) (E : XK) : TS :=
  (tIfS ((tNot ((tTest (tChain (rLeU K) (rLeU K) ((tC (.int 1))) (tVar 0) ((tCB (rLenU K) (tCons ((tC (.str "1234567890ET"))) tNil)))))))) ((sRaise (fun cls d _ H => E cls d H) (tBad (ec "BadStage") "BadStage"))) (tNext))
section
variable {K : PySem.W.Frag} {ec : Str → Addr} {ns : List Str} {vs : List V} {H : Hp} {Q : VK} {E : XK}
theorem len_check_stage (h : sp_check_stage K ec vs H Q E) : vs.length = 1 := by obtain ⟨s, rfl, _⟩ := h; rfl
theorem signs_len : (("1234567890ET" : Str).length : Int) = 12 := by decide
theorem pure_check_stage (XS : Exs K ec ns) (h : sp_check_stage K ec vs H Q E) : t_check_stage K ec E (En Q) (start N_check_stage vs) H := by
  obtain ⟨s, rfl, q, qE⟩ := h
  unfold t_check_stage
  walk_at "rd"
  refine r_ite (fun h1 => ?_) (fun h1 => ?_)
  · walk_at "rd"
    rw [signs_len]
    refine r_iteN (fun h2 => ?_) (fun h2 => ?_)
    · exact r_raise fun d H' s nd e => qE (fun z => h2 z.2) d H' s nd e
    · walk_at "rd"
      exact q ⟨h1, h2⟩
  · walk_at "rd"
    exact r_raise fun d H' s nd e => qE (fun z => h1 z.1) d H' s nd e
end
end Kb
set_option Elab.async false
set_option linter.all false
set_option maxRecDepth 100000
set_option maxHeartbeats 4000000
set_option Elab.async false
set_option linter.all false
set_option maxRecDepth 100000
set_option maxHeartbeats 4000000
namespace Kb
open PySem PySem.Spec PyProof.Rows L2 PySem.SeqAt
section
variable {K : PySem.W.Frag} {σ : L2.St} {H : Hp} {te : TE} {Q : VK} {a b : Addr}
def PRevL (K : PySem.W.Frag) (x : V) (H : Hp) (Q : VK) : Prop := ∃ a xs, x = .ref a ∧ SqL K H a xs ∧ ∀ p, H p = none → Q (.ref p) (upd H p (.lst xs.reverse))
theorem r_revL (h : te σ H fun x H1 => PRevL K x H1 Q) : tRevL K te σ H Q := h
theorem r_prevL {xs : List V} (h : SqL K H a xs) (k : ∀ p H', H p = none → Same H H' → H' p = some (.lst xs.reverse) → Q (.ref p) H') : PRevL K (.ref a) H Q := ⟨a, xs, rfl, h, fun p hp => k p _ hp (same_new hp) upd_same⟩
theorem r_slLL {xs : List V} {lo hi : Option Int} (h : SqL K H a xs) (k : ∀ p H', H p = none → Same H H' → H' p = some (.lst (cutV xs lo hi)) → Q (.ref p) H') : rSlU K (.ref a) lo hi H Q := .inl ⟨a, xs, rfl, h, fun p hp => k p _ hp (same_new hp) upd_same⟩
theorem r_catL {xs ys : List V} (h1 : H a = some (.lst xs)) (h2 : H b = some (.lst ys)) (hz : xs.length + ys.length ≤ sizeLine) (k : ∀ p H', H p = none → Same H H' → H' p = some (.lst (xs ++ ys)) → Q (.ref p) H') : rAddU K (.ref a) (.ref b) H Q :=
  .inr (.inr (.inl ⟨a, b, xs, ys, rfl, rfl, h1, h2, hz, fun p hp => k p _ hp (same_new hp) upd_same⟩))
end
end Kb
set_option Elab.async false
set_option linter.all false
set_option maxRecDepth 100000
set_option maxHeartbeats 4000000
namespace Kb
open PySem PySem.Spec PyProof.Rows L2 SX PySem.Builtin.Str
def IteS (z : Str) (k : Int) : It :=
  ⟨fun i H => i < z.cps.size, fun i H v H' => ∃ T c, v = .ref T ∧ H T = none ∧ H' = upd H T (.tup [.int (k + (i : Nat)), .str ⟨#[c]⟩]) ∧ z.cps[i]? = some c, fun i H => z.cps.size = i⟩
theorem turn_enumS {P : Program} {w : World} {K : PySem.W.Frag} {elts : List Expr} {kk : Nat} {tpos : Pos} (z : Str) (tz : Tok) (e it : Addr) (k : Int) (hal : e ≠ it) :
    Turn P w K (.Tuple elts kk tpos) (IteS z k) [e, it] e (fun i h => (∃ old, IsEnum h e it (k + ((i : Nat) : Int)) old) ∧ h.IsStrIter it (strIterType z) z tz i) where
  mem := by simp
  obj := fun i h st b hb => by
    obtain ⟨⟨old, he⟩, ⟨o, ho, hc, hd⟩⟩ := st
    have e' : b = e ∨ b = it := by simpa using hb
    rcases e' with q | q
    · rw [q]; exact ⟨_, he, fun v q => nomatch q⟩
    · rw [q]; exact ⟨o, ho, fun v q => by rw [hd] at q; cases q⟩
  keep := fun i h h' st k => let ⟨⟨old, he⟩, hi⟩ := st; ⟨⟨old, k e (by simp) _ he⟩, let ⟨o, q, r⟩ := hi; ⟨o, k it (by simp) o q, r⟩⟩
  item := by
    intro X hP hw hK hc i pins s σ H E I hf st hg
    subst hP hw hK
    obtain ⟨⟨old, he⟩, hit⟩ := st
    have hel : e < s.heap.objs.size := Heap.lt_size he
    have hil : it < s.heap.objs.size := by obtain ⟨_, q, _⟩ := hit; exact Heap.lt_size q
    refine wpAny_pyNext_enum_itemC (Draws.text (A := X.A.in1) (I.ok.hd hc) it z tz) he hit hg hal (by simp [hal]) fun x' h' tk hx' ho hs' hT hsz hk => ?_
    obtain ⟨c, u, hcx, rfl⟩ := hx'
    refine ⟨_, rfl, wpAny_letOwnedTupleGo_enum (s := { s with heap := h', toks := tk + 1 }) ho fun h'' he' sb => ?_⟩
    have hT2 : h''.get? s.heap.objs.size = some { cls := .type "tuple", data := .seq #[.int (k + (i : Nat)) tk, .str ⟨#[c]⟩ u] } := (sb.2 _ (Nat.ne_of_gt hel)).trans hT
    have new : ObjOk X.prog X.w (upd H s.heap.objs.size (.tup [.int (k + (i : Nat)), .str ⟨#[c]⟩])) h'' s.heap.objs.size (.tup [.int (k + (i : Nat)), .str ⟨#[c]⟩]) :=
      ⟨by show 2 ≤ sizeLine; decide, [.int (k + (i : Nat)) tk, .str ⟨#[c]⟩ u], .cons ⟨_, rfl⟩ (.cons ⟨_, rfl⟩ .nil), ⟨_, hT2, rfl, _, rfl⟩⟩
    have I1 : Inv X pins σ (upd H s.heap.objs.size (.tup [.int (k + (i : Nat)), .str ⟨#[c]⟩])) { s with heap := h'', toks := tk + 1 } :=
      I.turnedNew (ch := [e, it]) (fun b ob hb q => (sb.2 b (fun z => hb (by simp [z]))).trans (hk b ob (fun z => hb (by simp [z])) (fun z => hb (by simp [z])) q)) hf (Nat.le_refl _) new
    refine ⟨.ref s.heap.objs.size, _, I1, rfl, ⟨_, c, rfl, I.hok.fresh (Nat.le_refl _), rfl, hcx⟩, ⟨⟨.str ⟨#[c]⟩ u, ?_⟩, let ⟨o, q, r⟩ := hs'; ⟨o, (sb.2 it (Ne.symm hal)).trans q, r⟩⟩, fun b hb => ?_⟩
    · have e1 : (k + ((i + 1 : Nat) : Int)) = k + (i : Int) + 1 := by omega
      rw [e1]; exact he'
    · have hb' : b < s.heap.objs.size := by
        have e' : b = e ∨ b = it := by simpa using hb
        rcases e' with q | q
        · rw [q]; exact hel
        · rw [q]; exact hil
      rw [upd_ne (Nat.ne_of_lt hb')]
      exact (hf b hb).1
  done := by
    intro X hP hw hK hc i pins s σ H E I hf st hg
    subst hP hw hK
    obtain ⟨⟨old, he⟩, hit⟩ := st
    have hg : z.cps.size = i := hg
    subst hg
    obtain ⟨f0, f1, f2, f3, f4, f5⟩ := hf it (by simp)
    exact wpAny_pyNext_enum_endD (Draws.text (A := X.A.in1) (I.ok.hd hc) it z tz) he hit fun h' eb => ⟨rfl, I.turned (t' := s.toks) (fun b o hb q => eb b o hb q) f0 f1 f3 f4 f5⟩
  self := fun A i s Q E st h => let ⟨⟨_, he⟩, _⟩ := st; wpAny_pyIter_enum he h
def iEnS (k : Int) (ta : TA) : TI := fun σ H R => ta σ H fun vs H1 => ∃ z, vs = [.str z] ∧ R (IteS z k) H1
section
variable {X : Cx} {e : Expr} {ta : TA} {p pos tpos kp cp : Pos} {elts : List Expr} {kk j : Nat} {k : Int}
theorem enumS_end {pins : List (Addr × Obj)} {σ : L2.St} {H1 : Hp} {s1 : Shared} {R : It → Hp → Prop} {z : Str} {tz : Tok} {h' : Heap} {t' : Nat} (I1 : Inv X pins σ H1 s1) (he : IsEnum h' (s1.heap.objs.size + 1) s1.heap.objs.size k .none)
    (hit : h'.get? s1.heap.objs.size = some { cls := .type (strIterType z), data := .fields #[.str z tz, .int 0 0] }) (hk : ∀ b o, s1.heap.get? b = some o → h'.get? b = some o) (q : R (IteS z k) H1) :
    wpAny (model X.prog X.w) X.A (pyIter (.ref (s1.heap.objs.size + 1))) (PIE X pins σ (.Tuple elts kk tpos) R) X.xe { s1 with heap := h', toks := t' } := by
  refine wpAny_pyIter_enum he ?_
  have I2 : Inv X pins σ H1 { s1 with heap := h', toks := t' } := I1.kept (t' := t') hk
  refine ⟨s1.heap.objs.size + 1, [s1.heap.objs.size + 1, s1.heap.objs.size], _, _, H1, rfl, I2, turn_enumS z tz (s1.heap.objs.size + 1) s1.heap.objs.size k (Nat.succ_ne_self _), ⟨⟨.none, by simpa using he⟩, ⟨_, hit, rfl, rfl⟩⟩, fun b hb => ?_, q⟩
  have e' : b = s1.heap.objs.size + 1 ∨ b = s1.heap.objs.size := by simpa using hb
  have hle : s1.heap.objs.size ≤ b := by
    rcases e' with z | z
    · rw [z]; exact Nat.le_add_right _ _
    · rw [z]; exact Nat.le_refl _
  exact I1.fpOk hle (I1.hok.fresh hle)
theorem pi_enumTxS (hg : Gl X "enumerate") (hm : X.mg "enumerate" = none) (ha : PA X [e] ta) (h0 : -(2 ^ 63) ≤ k) (h1 : k < 2 ^ 63) (hs : starEach [e] X.env = [(false, eval e X.env)] := by rfl)
    (hc : eval (.Call (.Name "enumerate" p) [e] [⟨some "start", .Constant (.int k) j cp, kp⟩] pos) X.env = (do
      callWith pos (← eval (.Name "enumerate" p) X.env) [] (backTo pos (starEach [e] X.env)) (backToKw pos (keywordEach [⟨some "start", .Constant (.int k) j cp, kp⟩] X.env))) := by rfl) :
    PI X (.Tuple elts kk tpos) (.Call (.Name "enumerate" p) [e] [⟨some "start", .Constant (.int k) j cp, kp⟩] pos) (iEnS k ta) := by
  refine ⟨fun pins s σ H R I h => ?_⟩
  rw [hc]
  refine wpAny_bind (ld_blt I hg hm boot_enumerate (callWith_tyKw (thn (ha.run pos pins s σ H _ I h) fun us s1 ⟨vs, H1, I1, r1, q1⟩ => ?_) rfl (by rw [hs] <;> rfl) hs))
  refine thn ((pk_cons (nm := some "start") (kpos := kp) (pe_int (j := j) (pos := cp)) pk_nil).run pos pins s1 σ H1 (fun ws H2 => ws = [.int k] ∧ H2 = H1) I1 ⟨rfl, rfl⟩) fun ks s2 ⟨ws, H2, I2, r2, ew, eH⟩ => ?_
  subst ew
  subst eH
  obtain ⟨z, ex, q⟩ := q1
  subst ex
  cases r1 with
  | cons r rr =>
    cases rr
    obtain ⟨t, rfl⟩ := r
    cases r2 with
    | cons r3 rr =>
      cases rr
      obtain ⟨t3, rfl⟩ := r3
      refine PySem.enum_begins_start (begins_text z t) trivial h0 h1 fun h' he hit hsz hk => ?_
      exact enumS_end (t' := s2.toks) I2 he hit hk q
end
def PEnS (k : Int) (vs : List V) (H : Hp) (R : It → Hp → Prop) : Prop := ∃ z, vs = [.str z] ∧ R (IteS z k) H
section
variable {K : PySem.W.Frag} {D : Ends} {σ : L2.St} {H : Hp} {ta : TA} {te : TE} {tb : TS} {R : It → Hp → Prop} {Q : VK} {z w : Str} {k : Int} {i j : Nat}
theorem r_enS (h : ta σ H fun vs H1 => PEnS k vs H1 R) : iEnS k ta σ H R := h
theorem r_penS (q : R (IteS z k) H) : PEnS k [.str z] H R := ⟨z, rfl, q⟩
/-- for i, c in enumerate(text) -/
theorem r_forEnS (Pv : Nat → L2.St → Hp → Prop) (h0 : Pv 0 σ H)
    (hs : ∀ n c σ' H' H2, z.cps.toList[n]? = some c → Pv n σ' H' → Same H' H2 → tb { D with nx := Pv (n + 1), ct := Pv (n + 1), bk := D.nx } ((σ'.set i (some (.int (k + (n : Int))))).set j (some (.str ⟨#[c]⟩))) H2)
    (hd : ∀ σ' H', Pv z.cps.toList.length σ' H' → D.nx σ' H') : PFor (IteS z k) (gTup K 2 (gCons (gName i) (gCons (gName j) gNil))) tb D σ H := by
  refine ⟨fun n m σ' H' => m = z.cps.size - n ∧ n ≤ z.cps.size ∧ Pv n σ' H', ⟨_, rfl, Nat.zero_le _, h0⟩, ?_⟩
  rintro n m σ' H' ⟨rfl, hn, p⟩
  by_cases hlt : n < z.cps.size
  · refine .inr ⟨hlt, Pv (n + 1), fun σ2 H2 p2 => ⟨_, by omega, rfl, hlt, p2⟩, ?_⟩
    rintro x H2 ⟨T, c, rfl, hT, rfl, hc⟩
    refine ⟨T, [.int (k + (n : Int)), .str ⟨#[c]⟩], rfl, sqT_of upd_same, rfl, ?_⟩
    exact ⟨_, _, rfl, _, _, rfl, rfl, hs n c σ' H' _ (by rw [Array.getElem?_toList]; exact hc) p (same_new hT)⟩
  · have e : n = z.cps.size := by omega
    subst e
    exact .inl ⟨rfl, hd σ' H' (by rw [Array.length_toList]; exact p)⟩
end
def rFind : V → List V → Hp → VK → Prop := fun x xs H Q => ∃ a b, x = .str a ∧ xs = [.str b] ∧ Q (.int (Txt.find a b)) H
def rJoin (K : PySem.W.Frag) : V → List V → Hp → VK → Prop := fun x xs H Q => ∃ a p, ∃ ys : List Str, x = .str a ∧ xs = [.ref p] ∧ (SqL K H p (ys.map V.str) ∨ SqT K H p (ys.map V.str)) ∧ (ys.map (·.length)).sum + ys.length * a.length ≤ 16777216 ∧ Q (.str (Txt.join a ys)) H
def rInsert : V → List V → Hp → VK → Prop := fun x vs H Q => ∃ (l : Addr) (xs : List V) (i : Int) (y : V), x = .ref l ∧ vs = [.int i, y] ∧ H l = some (.lst xs) ∧ xs.length < sizeLine ∧ 0 ≤ i ∧ i < 2 ^ 63 ∧ Q .non (upd H l (.lst (xs.take i.toNat ++ [y] ++ xs.drop i.toNat)))
section
variable {K : PySem.W.Frag} {H : Hp} {Q : VK} {a : Addr} {z w : Str} {y : V}
/-- where the sign c stands in l, or -1 -/
def fnd (l : List Nat) (c : Nat) : Int := match l.findIdx? (· == c) with | some i => (i : Int) | none => -1
theorem sub_sign {l : List Nat} {c i : Nat} (h : i < l.length) : subAt (S l) (S [c]) i = true ↔ l[i]? = some c := by
  rw [List.getElem?_eq_getElem h]
  simp [subAt, S, Str.length]
  rw [List.drop_eq_getElem_cons h, List.take_succ_cons, List.take_zero]
  simp
theorem find_S (l : List Nat) (c : Nat) : Txt.find (S l) ⟨#[c]⟩ = fnd l c := by
  have L1 : (S [c]).length = 1 := rfl
  have L2 : (S l).length = l.length := S_len l
  rcases find_whole (S l) (S [c]) with ⟨e, hn⟩ | ⟨i, e, hi, hn⟩
  · rw [show Txt.find (S l) ⟨#[c]⟩ = -1 from e]
    unfold fnd
    have : l.findIdx? (· == c) = none := by
      rw [List.findIdx?_eq_none_iff]
      intro x hx
      by_cases z : x = c
      · subst z
        obtain ⟨j, hj, rfl⟩ := List.mem_iff_getElem.mp hx
        exact absurd ⟨by rw [L1, L2]; omega, (sub_sign hj).mpr (List.getElem?_eq_getElem hj)⟩ (hn j)
      · simpa using z
    rw [this]
  · rw [show Txt.find (S l) ⟨#[c]⟩ = (i : Int) from e]
    unfold fnd
    have hil : i < l.length := by have := hi.1; rw [L1, L2] at this; omega
    have : l.findIdx? (· == c) = some i := by
      rw [List.findIdx?_eq_some_iff_getElem]
      have e2 := (sub_sign hil).mp hi.2
      rw [List.getElem?_eq_getElem hil] at e2
      refine ⟨hil, by simpa using e2, fun j hj => ?_⟩
      have hjl : j < l.length := by omega
      by_cases z : l[j] = c
      · exact absurd ⟨by rw [L1, L2]; omega, (sub_sign hjl).mpr (by rw [List.getElem?_eq_getElem hjl, z])⟩ (hn j hj)
      · simpa using z
    rw [this]
theorem r_find {l : List Nat} {c : Nat} (e : z.cps.toList = l) (q : Q (.int (fnd l c)) H) : rFind (.str z) [.str ⟨#[c]⟩] H Q := by
  refine ⟨z, _, rfl, rfl, ?_⟩
  subst e
  have := find_S z.cps.toList c
  rw [S_tl] at this
  rw [this]
  exact q
theorem joinL_nil : ∀ ys : List (List Nat), TL.joinL [] ys = ys.flatten
  | [] => rfl
  | [a] => by simp [TL.joinL]
  | a :: b :: r => by
    have := joinL_nil (b :: r)
    simp only [TL.joinL, List.flatten_cons] at *
    rw [this]
    simp
/-- ''.join of a list of texts -/
theorem r_join {ys : List (List Nat)} (h : SqL K H a (ys.map fun y => V.str (S y))) (hz : ys.flatten.length ≤ 16777216) (q : Q (.str (S ys.flatten)) H) : rJoin K (.str ⟨#[]⟩) [.ref a] H Q := by
  refine ⟨_, a, ys.map S, rfl, rfl, .inl (by rw [List.map_map]; exact h), ?_, ?_⟩
  · rw [lens, show (⟨#[]⟩ : Str).length = 0 from rfl, Nat.mul_zero, Nat.add_zero]
    rw [List.length_flatten] at hz
    exact hz
  · have := join_S [] ys
    rw [joinL_nil] at this
    rw [show (⟨#[]⟩ : Str) = S [] from rfl, this]
    exact q
theorem r_insert0 {xs : List V} (h : H a = some (.lst xs)) (hz : xs.length < sizeLine) (k : ∀ H', But a H H' → H' a = some (.lst (y :: xs)) → Q .non H') : rInsert (.ref a) [.int 0, y] H Q :=
  ⟨a, xs, 0, y, rfl, rfl, h, hz, by decide, by decide, k _ but_upd upd_same⟩
end
end Kb
set_option Elab.async false
set_option linter.all false
set_option maxRecDepth 100000
set_option maxHeartbeats 4000000
namespace Kb
open PySem PySem.Spec PyProof.Rows L2 SX
def cutA {α : Type} (xs : List α) (lo hi : Option Int) : List α := (xs.drop (HT.sIx xs.length 0 lo)).take (HT.sIx xs.length xs.length hi - HT.sIx xs.length 0 lo)
section
variable {K : PySem.W.Frag} {H H' : Hp} {Q : VK} {E : XK} {p a b l : Addr} {m : Int} {ns ms : List Int} {xs ys : List V} {lo hi : Option Int}
theorem cut_map {α : Type} (f : α → V) (ns : List α) : cutV (ns.map f) lo hi = (cutA ns lo hi).map f := by
  unfold cutV cutA
  rw [List.length_map, List.map_take, List.map_drop]
theorem cutA_len {α : Type} (ns : List α) : (cutA ns lo hi).length ≤ ns.length := by
  unfold cutA
  rw [List.length_take, List.length_drop]; omega
theorem cutA_whole {α : Type} {ns : List α} (h : HT.sIx ns.length 0 lo = 0 ∧ HT.sIx ns.length ns.length hi = ns.length) : cutA ns lo hi = ns := by
  unfold cutA
  rw [h.1, h.2, List.drop_zero, Nat.sub_zero, List.take_length]
/-- a slice of a tuple: the tuple itself or a new one -/
theorem r_slT (h : SqT K H a xs) (q : ∀ p H', Same H H' → SqT K H' p (cutA xs lo hi) → Q (.ref p) H') : rSlU K (.ref a) lo hi H Q := by
  refine .inr (.inl ⟨a, xs, rfl, h, fun z => q a H (Same.refl _) (by rw [cutA_whole z]; exact h), fun _ p hp => q p _ (same_new hp) (sqT_of ?_)⟩)
  rw [upd_same]
  have := cut_map (lo := lo) (hi := hi) id xs
  rw [List.map_id, List.map_id] at this
  rw [this]
theorem r_slI (h : SqT K H a (ns.map V.int)) (q : ∀ p H', Same H H' → SqT K H' p ((cutA ns lo hi).map V.int) → Q (.ref p) H') : rSlU K (.ref a) lo hi H Q :=
  r_slT h fun p H' s e => q p H' s (by rw [← cut_map]; have := cut_map (lo := lo) (hi := hi) id (ns.map V.int); rw [List.map_id, List.map_id] at this; rw [this]; exact e)
theorem r_catTT (h1 : SqT K H a xs) (h2 : SqT K H b ys) (hz : xs.length + ys.length ≤ sizeLine) (q : ∀ p H', Same H H' → SqT K H' p (xs ++ ys) → Q (.ref p) H') : rAddU K (.ref a) (.ref b) H Q := by
  refine .inr (.inr (.inr ⟨a, b, xs, ys, rfl, rfl, h1, h2, hz, fun e => ?_, fun _ e => ?_, fun _ _ p hp => ?_⟩))
  · exact q b H (Same.refl _) (by rw [e]; exact h2)
  · exact q a H (Same.refl _) (by rw [e, List.append_nil]; exact h1)
  · exact q p _ (same_new hp) (sqT_of upd_same)
theorem r_catII (h1 : SqT K H a (ns.map V.int)) (h2 : SqT K H b (ms.map V.int)) (hz : ns.length + ms.length ≤ 16000000) (q : ∀ p H', Same H H' → SqT K H' p ((ns ++ ms).map V.int) → Q (.ref p) H') : rAddU K (.ref a) (.ref b) H Q :=
  r_catTT h1 h2 (by rw [List.length_map, List.length_map, sizeLine_eq]; omega) fun p H' s e => q p H' s (by rw [List.map_append]; exact e)
theorem r_draw (hp : Pl H p) (h0 : 0 < m) (h1 : m < 2 ^ 200) (q : ∀ v H', 0 ≤ v → v < m → But p H H' → Pl H' p → Q (.int v) H') : sp_law_draw K ([.ref p, .int m] ++ []) H Q E := ⟨p, m, rfl, hp, h0, h1, q⟩
theorem sqT_pl (b : But p H H') (hp : Pl H p) (h : SqT K H a xs) : SqT K H' a xs := by
  obtain ⟨x, y, z, e⟩ := hp
  exact sqT_but b e h
theorem ne_pl (hn : H l = none) (hp : Pl H p) : l ≠ p := by
  obtain ⟨x, y, z, e⟩ := hp
  exact (ne_of_none e hn).symm
theorem pl_butL (b : But l H H') (n : p ≠ l) (h : Pl H p) : Pl H' p := by
  obtain ⟨x, y, z, e⟩ := h
  exact ⟨x, y, z, b _ _ n e⟩
theorem free_but (b : But p H H') (n : a ≠ p) (h : H' a = none) : H a = none := by
  cases e : H a with
  | none => rfl
  | some u => rw [b _ _ n e] at h; cases h
theorem rp_pl {v : V} {d : Dat} (b : But p H H') (hp : Pl H p) (h : Rp K H v d) : Rp K H' v d := by
  obtain ⟨x, y, z, e⟩ := hp
  exact rp_but b e h
theorem sqI_of (h : H a = some (.tup (ns.map V.int))) : SqT K H a (ns.map V.int) := sqT_of h
theorem sqI_0 (h : H a = some (.tup [])) : SqT K H a (([] : List Int).map V.int) := sqT_of h
theorem sqI_1 {i : Int} (h : H a = some (.tup [.int i])) : SqT K H a ([i].map V.int) := sqT_of h
theorem sqI_D (h : ∃ o : Obj, H a = some (.frz o (.tup (ns.map V.int))) ∧ o.dict = none) : SqT K H a (ns.map V.int) := sqT_ofD h
theorem S_eqD {a : List Nat} {z : Str} : decide (S a = z) = decide (a = z.cps.toList) := by
  have : S a = z ↔ a = z.cps.toList := ⟨fun h => by rw [← h], fun h => by rw [h]⟩
  exact decide_eq_decide.mpr this
theorem cutS_S (l : List Nat) : cutS (S l) lo hi = S (cutA l lo hi) := by
  unfold cutS cutA
  rw [S_len]
theorem r_slS {l : List Nat} (hz : l.length ≤ 16000000) (q : Q (.str (S (cutA l lo hi))) H) : rSlU K (.str (S l)) lo hi H Q :=
  .inr (.inr ⟨S l, rfl, by rw [S_len, sizeLine_eq]; omega, by rw [cutS_S]; exact q⟩)
theorem cutA_take {α : Type} {ns : List α} {k : Nat} : cutA ns none (some (k : Int)) = ns.take k := by
  unfold cutA
  rw [HT.sIx_nat, HT.sIx_none, List.drop_zero, Nat.sub_zero]
  by_cases h : k ≤ ns.length
  · rw [Nat.min_eq_left h]
  · rw [Nat.min_eq_right (by omega), List.take_of_length_le (Nat.le_refl _), List.take_of_length_le (by omega)]
theorem cutA_drop {α : Type} {ns : List α} {k : Nat} : cutA ns (some (k : Int)) none = ns.drop k := by
  unfold cutA
  rw [HT.sIx_nat, HT.sIx_none]
  by_cases h : k ≤ ns.length
  · rw [Nat.min_eq_left h, List.take_of_length_le (by rw [List.length_drop]; omega)]
  · rw [Nat.min_eq_right (by omega), List.drop_eq_nil_of_le (by omega : ns.length ≤ k), List.drop_length]; simp
theorem r_lenSS {l : List Nat} (hz : l.length ≤ 16000000) (q : Q (.int (l.length : Int)) H) : rLenU K [.str (S l)] H Q := r_lenS (by rw [S_len, sizeLine_eq]; omega) (by rw [S_len]; exact q)
theorem r_addSS {a b : List Nat} (hz : a.length + b.length ≤ 16000000) (q : Q (.str (S (a ++ b))) H) : rAddU K (.str (S a)) (.str (S b)) H Q := r_addS (by rw [S_len, S_len, sizeLine_eq]; omega) (by rw [S_cat]; exact q)
theorem r_ixSS {l : List Nat} {c : Nat} (hz : l.length ≤ 16000000) (ha : atI l m = some c) (q : Q (.str (S [c])) H) : rIx K (.str (S l)) (.int m) H Q := r_ixS (by rw [S_len, sizeLine_eq]; omega) ha q
end
end Kb
set_option linter.all false
namespace Kb
/-- the rest of a change of n behind the place last -/
def isC (n last : Int) : List Int → Bool
  | [] => decide ((n - last) % 2 = 0)
  | p :: r => decide (last < p) && (decide (p ≤ n) && (!decide ((p - last) % 2 = 0) && isC n p r))
def Chg (n : Int) (cs : List Int) : Prop := isC n 0 cs = true
/-- behind the members of cs, one by one -/
def okC (n : Int) (last : Int) : List Int → Bool
  | [] => true
  | p :: r => decide (last < p) && (decide (p ≤ n) && (!decide ((p - last) % 2 = 0) && okC n p r))
def lastC (last : Int) : List Int → Int
  | [] => last
  | p :: r => lastC p r
theorem isC_iff {n : Int} : ∀ {cs : List Int} {last : Int}, isC n last cs = true ↔ okC n last cs = true ∧ (n - lastC last cs) % 2 = 0
  | [], last => by simp [isC, okC, lastC]
  | p :: r, last => by
    have := isC_iff (n := n) (cs := r) (last := p)
    simp only [isC, okC, lastC, Bool.and_eq_true]
    rw [this]
    constructor
    · rintro ⟨a, b, c, d, e⟩; exact ⟨⟨a, b, c, d⟩, e⟩
    · rintro ⟨⟨a, b, c, d⟩, e⟩; exact ⟨a, b, c, d, e⟩
theorem okC_snoc {n : Int} {x : Int} : ∀ {cs : List Int} {last : Int}, okC n last (cs ++ [x]) = true ↔ okC n last cs = true ∧ lastC last cs < x ∧ x ≤ n ∧ ¬ (x - lastC last cs) % 2 = 0
  | [], last => by simp [okC, lastC]
  | p :: r, last => by
    have := okC_snoc (n := n) (x := x) (cs := r) (last := p)
    simp only [List.cons_append, okC, lastC, Bool.and_eq_true]
    rw [this]
    constructor
    · rintro ⟨a, b, c, d, e⟩; exact ⟨⟨a, b, c, d⟩, e⟩
    · rintro ⟨⟨a, b, c, d⟩, e⟩; exact ⟨a, b, c, d, e⟩
theorem lastC_snoc {x : Int} : ∀ {cs : List Int} {last : Int}, lastC last (cs ++ [x]) = x
  | [], _ => rfl
  | p :: r, _ => lastC_snoc (cs := r) (last := p)
theorem okC_mem {n : Int} : ∀ {cs : List Int} {last : Int}, okC n last cs = true → ∀ x ∈ cs, last < x ∧ x ≤ n
  | [], _, _, x, hx => nomatch hx
  | p :: r, last, h, x, hx => by
    simp only [okC, Bool.and_eq_true, decide_eq_true_eq] at h
    rcases List.mem_cons.mp hx with rfl | hx
    · exact ⟨h.1, h.2.1⟩
    · have := okC_mem h.2.2.2 x hx
      omega
theorem okC_len {n : Int} : ∀ {cs : List Int} {last : Int}, 0 ≤ last → last ≤ n → okC n last cs = true → (cs.length : Int) + last ≤ n
  | [], _, _, h, _ => by simpa using h
  | p :: r, last, h0, _, h => by
    simp only [okC, Bool.and_eq_true, decide_eq_true_eq] at h
    have := okC_len (cs := r) (last := p) (by omega) h.2.1 h.2.2.2
    simp only [List.length_cons]
    omega
theorem Chg.mem {n : Int} {cs : List Int} (h : Chg n cs) : ∀ x ∈ cs, 1 ≤ x ∧ x ≤ n := fun x hx => by
  have := okC_mem (isC_iff.mp h).1 x hx
  omega
theorem Chg.len {n : Int} {cs : List Int} (h : Chg n cs) (hn : 0 ≤ n) : (cs.length : Int) ≤ n := by
  have := okC_len (Int.le_refl 0) hn (isC_iff.mp h).1
  omega
def signsL : List Nat := [49, 50, 51, 52, 53, 54, 55, 56, 57, 48, 69, 84]
def sgAt (p : Int) : Nat := signsL.getD (p - 1).toNat 0
end Kb
set_option Elab.async false
set_option linter.all false
set_option maxRecDepth 100000
set_option maxHeartbeats 4000000
namespace Kb
open PySem PySem.Spec PyProof.Rows L2 SX
local macro_rules | `(tactic| walk_at "tk") => `(tactic| first
  | assumption
  | ((with_reducible refine' sqT_of ?k); (case k => assumption))
  | ((with_reducible refine' sqT_ofD ?k); (case k => assumption))
  | ((with_reducible refine' noD_of ?k); (case k => assumption))
  | ((with_reducible refine' noD_same ?s ?k); (case s => assumption); (case k => walk_at "tk"))
  | ((with_reducible refine' sqL_of ?k); (case k => assumption))
  | ((with_reducible refine' sqT_same ?s ?k); (case s => assumption); (case k => walk_at "tk"))
  | ((with_reducible refine' sqL_same ?s ?k); (case s => assumption); (case k => walk_at "tk"))
  | ((with_reducible refine' sqT_but ?s ?t ?k); (case s => assumption); (case t => walk_at "tk"); (case k => walk_at "tk"))
  | ((with_reducible refine' sqL_but ?s ?t ?k); (case s => assumption); (case t => walk_at "ne"); (case k => walk_at "tk"))
  | ((with_reducible refine' sqL_of ?k); (case k => walk_at "tk"))
  | ((with_reducible refine' sqT_of ?k); (case k => walk_at "tk"))
  | ((with_reducible refine' at_same ?s ?k); (case s => assumption); (case k => walk_at "tk"))
  | ((with_reducible refine' at_but ?s ?t ?k); (case s => assumption); (case t => walk_at "ne"); (case k => walk_at "tk")))
local macro_rules | `(tactic| walk_at "ne") => `(tactic| first
  | assumption
  | (refine Ne.symm ?_; assumption)
  | exact ne_of_none (by assumption) (by assumption)
  | exact (ne_of_none (by assumption) (by assumption)).symm)
local macro_rules | `(tactic| walk_at "side") => `(tactic| first
  | assumption
  | omega
  | (simp only [sizeLine_eq, List.length_cons, List.length_nil, List.length_map]; omega)
  | (show _ ≤ sizeLine; decide))
local macro_rules | `(tactic| walk_at "kit") => `(tactic| first
  | (show kitB _ _ = some true; decide +kernel)
  | (show kitB _ _ = some false; decide +kernel))
local macro_rules | `(tactic| walk_at "rng") => `(tactic| first
  | (refine ⟨by omega, by omega, by omega, by omega⟩)
  | (refine ⟨by omega, by omega⟩)
  | ((simp only [List.length_map]); (refine ⟨by omega, by omega, by omega, by omega⟩))
  | ((simp only [List.length_map]); (refine ⟨by omega, by omega⟩)))
local macro_rules | `(tactic| walk_at "rd1") => `(tactic| first
  | with_reducible refine r_seq ?_
  | ((with_reducible refine' r_var ?k0 ?_); (case k0 => rfl))
  | with_reducible refine r_op ?_
  | with_reducible refine r_c ?_
  | with_reducible refine r_asg ?_
  | with_reducible refine r_name ?_
  | with_reducible refine r_cons ?_
  | with_reducible refine r_nil ?_
  | with_reducible refine r_CB ?_
  | with_reducible refine r_if ?_
  | with_reducible refine r_test ?_
  | with_reducible refine r_k ?_
  | with_reducible refine r_T ?_
  | with_reducible refine r_F ?_
  | with_reducible refine r_nT ?_
  | with_reducible refine r_nF ?_
  | with_reducible refine r_ret ?_
  | with_reducible refine r_drop ?_
  | with_reducible refine r_next ?_
  | with_reducible refine r_call ?_
  | with_reducible refine r_addI ?_
  | with_reducible refine r_subI ?_
  | with_reducible refine r_ltI ?_
  | with_reducible refine r_gtI ?_
  | with_reducible refine r_leI ?_
  | with_reducible refine r_geI ?_
  | with_reducible refine r_eqI ?_
  | with_reducible refine r_neI ?_
  | with_reducible refine r_int ?_
  | with_reducible refine r_abs ?_
  | with_reducible refine r_not ?_
  | with_reducible refine r_and ?_
  | with_reducible refine r_or ?_
  | with_reducible refine r_tru ?_
  | with_reducible refine r_truB ?_
  | with_reducible refine r_lst ?_
  | with_reducible refine r_tup ?_
  | with_reducible refine r_BM ?_
  | with_reducible refine r_BM0 ?_
  | with_reducible refine r_tyS ?_
  | with_reducible refine r_gsub ?_
  | with_reducible refine r_then ?_
  | with_reducible refine r_lstRg ?_
  | with_reducible refine r_tupRg ?_
  | with_reducible refine r_rg2 ?_
  | with_reducible refine r_rg1 ?_
  | with_reducible refine r_ii ?_
  | with_reducible refine r_i ?_
  | with_reducible refine r_ipI ?_
  | with_reducible refine r_un ?_
  | with_reducible refine r_neg ?_
  | with_reducible refine r_isN ?_
  | with_reducible refine r_notN ?_
  | with_reducible refine r_notV ?_
  | with_reducible refine r_pnot ?_
  | with_reducible refine r_pif ?_
  | with_reducible refine r_andV ?_
  | with_reducible refine r_orV ?_
  | with_reducible refine r_ifE ?_
  | with_reducible refine r_chain ?_
  | with_reducible refine r_sl ?_
  | with_reducible refine r_noPart ?_
  | with_reducible refine r_part ?_
  | with_reducible refine r_brk ?_
  | with_reducible refine r_cont ?_
  | with_reducible refine r_retN ?_
  | with_reducible refine r_truI ?_
  | with_reducible refine r_B ?_
  | with_reducible refine r_for ?_
  | with_reducible refine r_rng1 ?_
  | with_reducible refine r_rng2 ?_
  | with_reducible refine r_rng3 ?_
  | with_reducible refine r_body ?_
  | with_reducible refine r_lc ?_
  | with_reducible refine r_yes ?_
  | ((with_reducible refine' r_mod ?k0 ?_); (case k0 => walk_at "side"))
  | ((with_reducible refine' r_mulI ?k0 ?_); (case k0 => first | exact Or.inl ⟨by omega, by omega⟩ | exact Or.inr ⟨by omega, by omega⟩))
  | ((with_reducible refine' r_lenL ?k0 ?_); (case k0 => walk_at "tk"))
  | ((with_reducible refine' r_lenT ?k0 ?_); (case k0 => walk_at "tk"))
  | ((with_reducible refine' r_truL ?k0 ?_); (case k0 => walk_at "tk"))
  | ((with_reducible refine' r_truT ?k0 ?_); (case k0 => walk_at "tk"))
  | ((with_reducible refine' r_ixL ?k0 ?k1 ?_); (case k0 => walk_at "tk"); (case k1 => first | assumption | rfl))
  | ((with_reducible refine' r_ixT ?k0 ?k1 ?_); (case k0 => walk_at "tk"); (case k1 => first | assumption | rfl))
  | ((with_reducible refine' r_new ?k0 ?_); (case k0 => walk_at "side"))
  | ((with_reducible refine' r_tyL ?k0 ?_); (case k0 => walk_at "tk"))
  | ((with_reducible refine' r_append ?k0 ?k1 ?_); (case k0 => walk_at "tk"); (case k1 => walk_at "side"))
  | ((with_reducible refine' r_setL ?k0 ?k1 ?_); (case k0 => walk_at "tk"); (case k1 => first | assumption | rfl))
  | ((with_reducible refine' r_kTupL ?k0 ?_); (case k0 => walk_at "tk"))
  | ((with_reducible refine' r_kTupT ?k0 ?_); (case k0 => walk_at "tk"))
  | ((with_reducible refine' r_listL ?k0 ?_); (case k0 => walk_at "tk"))
  | ((with_reducible refine' r_listT ?k0 ?_); (case k0 => walk_at "tk"))
  | ((with_reducible refine' r_aug ?k0 ?_); (case k0 => rfl))
  | ((with_reducible refine' r_lenS ?k0 ?_); (case k0 => walk_at "side"))
  | ((with_reducible refine' r_pop ?k0 ?_); (case k0 => walk_at "tk"))
  | ((with_reducible refine' r_pr1 ?k0 ?_); (case k0 => walk_at "rng"))
  | ((with_reducible refine' r_pr2 ?k0 ?_); (case k0 => walk_at "rng"))
  | ((with_reducible refine' r_pr3d ?k0 ?_); (case k0 => walk_at "rng"))
  | ((with_reducible refine' r_isiI ?k0 ?_); (case k0 => walk_at "kit"))
  | ((with_reducible refine' r_isiB ?k0 ?_); (case k0 => walk_at "kit"))
  | ((with_reducible refine' r_isiS ?k0 ?_); (case k0 => walk_at "kit"))
  | ((with_reducible refine' r_isiN ?k0 ?_); (case k0 => walk_at "kit"))
  | ((with_reducible refine' r_isiT ?k0 ?k1 ?_); (case k0 => walk_at "tk"); (case k1 => walk_at "kit"))
  | ((with_reducible refine r_seqT ?_); (repeat (walk_at "rd1")); ((with_reducible refine' r_pseqT ?k0 ?_); (case k0 => walk_at "tk")))
  | ((with_reducible refine r_seqL ?_); (repeat (walk_at "rd1")); ((with_reducible refine' r_pseqL ?k0 ?_); (case k0 => walk_at "tk")))
  | ((with_reducible refine r_seqS ?_); (repeat (walk_at "rd1")); (with_reducible refine r_pseqS ?_)))
local macro_rules | `(tactic| walk_at "rd") => `(tactic| ((repeat (walk_at "rd1")); (try dsimp only)))
local macro_rules | `(tactic| walk_at "rd1") => `(tactic| first
  | with_reducible refine r_BMT ?_
  | with_reducible refine r_par ?_
  | with_reducible refine r_parV ?_
  | ((with_reducible refine' r_ptp ?k0 ?k1 ?_); (case k0 => walk_at "tk"); (case k1 => walk_at "tk"))
  | with_reducible refine r_eqS ?_
  | with_reducible refine r_neS ?_
  | with_reducible refine r_callW ?_
  | with_reducible refine r_try ?_
  | with_reducible refine r_enT ?_
  | ((with_reducible refine' r_pen ?k0 ?_); (case k0 => walk_at "tk")))
local macro_rules | `(tactic| walk_at "pl0") => `(tactic| first
  | assumption
  | exact pl_same (by assumption) (by assumption)
  | exact pl_same (by assumption) (pl_same (by assumption) (by assumption))
  | exact pl_same (by assumption) (pl_same (by assumption) (pl_same (by assumption) (by assumption))))
local macro_rules | `(tactic| walk_at "pl") => `(tactic| first
  | walk_at "pl0"
  | ((with_reducible refine' pl_butL ?s ?n ?k); (case s => assumption); (case n => walk_at "ne"); (case k => walk_at "pl"))
  | ((with_reducible refine' pl_same ?s ?k); (case s => assumption); (case k => walk_at "pl")))
local macro_rules | `(tactic| walk_at "ne") => `(tactic| first
  | exact ne_pl (by assumption) (by walk_at "pl0")
  | exact (ne_pl (by assumption) (by walk_at "pl0")).symm)
local macro_rules | `(tactic| walk_at "fr") => `(tactic| first
  | assumption
  | ((with_reducible refine' free_but ?b ?n ?h); (case h => assumption); (case n => walk_at "ne"); (case b => walk_at "but"))
  | ((with_reducible refine' Same.free ?b ?h); (case h => assumption); (case b => walk_at "same")))
local macro_rules | `(tactic| walk_at "but") => `(tactic| first
  | assumption
  | exact But.refl
  | ((with_reducible refine' But.trans ?a ?b); (case b => assumption); (case a => walk_at "but"))
  | ((with_reducible refine' But.trans ?a (Same.but ?b)); (case b => assumption); (case a => walk_at "but"))
  | ((with_reducible refine' but_via ?a ?b ?c); (case b => assumption); (case c => walk_at "fr"); (case a => walk_at "but")))
local macro_rules | `(tactic| walk_at "same") => `(tactic| first
  | assumption
  | exact Same.refl _
  | ((with_reducible refine' Same.trans ?a ?b); (case b => assumption); (case a => walk_at "same"))
  | ((with_reducible refine' same_but ?a ?b ?c); (case b => assumption); (case c => walk_at "fr"); (case a => walk_at "same")))
local macro_rules | `(tactic| walk_at "tk") => `(tactic| first
  | ((with_reducible refine' sqT_pl ?s ?t ?k); (case s => assumption); (case t => walk_at "pl0"); (case k => walk_at "tk"))
  | ((with_reducible refine' rp_same ?s ?k); (case s => assumption); (case k => walk_at "tk"))
  | ((with_reducible refine' rp_pl ?s ?t ?k); (case s => assumption); (case t => walk_at "pl0"); (case k => walk_at "tk")))
local macro_rules | `(tactic| walk_at "it") => `(tactic| first
  | assumption
  | ((with_reducible refine' sqI_1 ?k); (case k => assumption))
  | ((with_reducible refine' sqI_0 ?k); (case k => assumption))
  | ((with_reducible refine' sqI_of ?k); (case k => assumption))
  | ((with_reducible refine' sqI_D ?k); (case k => assumption))
  | ((with_reducible refine' sqT_same ?s ?k); (case s => assumption); (case k => walk_at "it"))
  | ((with_reducible refine' sqT_but ?s ?t ?k); (case s => assumption); (case t => assumption); (case k => walk_at "it"))
  | ((with_reducible refine' sqT_pl ?s ?t ?k); (case s => assumption); (case t => walk_at "pl0"); (case k => walk_at "it")))
local macro_rules | `(tactic| walk_at "sz") => `(tactic| first | omega | ((try simp only [List.length_cons, List.length_nil] at *); omega))
local macro_rules | `(tactic| walk_at "au1") => `(tactic| first
  | walk_at "rd1"
  | ((with_reducible refine' r_draw ?k0 ?k1 ?k2 ?_); (case k0 => walk_at "pl"); (case k1 => omega); (case k2 => omega); (intro _ _ _ _ _ _))
  | ((with_reducible refine' r_slN ?k0 ?_); (case k0 => walk_at "it"); (intro _ _ _ _ _ _))
  | ((with_reducible refine' r_catN ?k0 ?k1 ?k2 ?_); (case k0 => walk_at "it"); (case k1 => walk_at "it"); (case k2 => walk_at "sz"); (intro _ _ _ _ _ _))
  | ((with_reducible refine' r_pow ?k0 ?_); (case k0 => exact ⟨by decide, by decide, by decide⟩))
  | ((with_reducible refine' r_ixI ?k0 ?k1 ?k2 ?_); (case k0 => walk_at "it"); (case k1 => omega); (case k2 => omega); (intro _ _))
  | ((with_reducible refine' r_setI ?k0 ?k1 ?k2 ?_); (case k0 => walk_at "tk"); (case k1 => omega); (case k2 => omega); (intro _ _ _ _ _))
  | ((with_reducible refine' r_kTupI ?k0 ?_); (case k0 => walk_at "tk"); (intro _ _ _ _ _))
  | ((with_reducible refine' r_listI ?k0 ?_); (case k0 => walk_at "it"); (intro _ _ _ _ _))
  | (with_reducible refine r_revU ?_)
  | ((with_reducible refine' r_prevN ?k0 ?_); (case k0 => walk_at "it"); (intro _ _ _ _ _ _))
  | (intro _ _ _ _ _))
local macro_rules | `(tactic| walk_at "go") => `(tactic| ((repeat (walk_at "au1")); (first
  | ((with_reducible refine r_ite (fun _ => ?_) (fun _ => ?_)) <;> (walk_at "go"))
  | ((with_reducible refine r_iteN (fun _ => ?_) (fun _ => ?_)) <;> (walk_at "go"))
  | dsimp only
  | skip)))
def noStage (ec : Str → Addr) (H : Hp) (E : XK) : Prop := ∀ d H', Same H H' → H d = none → H' d = some (.xd [("word", .str "BadStage")]) → E (.ref (ec "BadStage")) (some d) H'
def noNote (ec : Str → Addr) (c : Int) (H : Hp) (E : XK) : Prop := ∀ d H', Same H H' → H d = none → H' d = some (.xd [("column", .int c), ("word", .str "BadNotation")]) → E (.ref (ec "BadNotation")) (some d) H'
def Stg (s : Int) : Prop := 1 ≤ s ∧ s ≤ 12
def plC (n : Int) (c : Nat) : Int := if fnd signsL c + 1 > n then 0 else fnd signsL c + 1
def sp_place_of (K : PySem.W.Frag) : Sp := fun vs H Q _ => ∃ (s : Int) (c : Nat), vs = [.int s, .str ⟨#[c]⟩] ∧ Q (.int (plC s c)) H
def folC (l p : Int) : Bool := decide (l < p) && decide ((p - l) % 2 = 1)
def sp_may_follow (K : PySem.W.Frag) : Sp := fun vs H Q _ => ∃ (l p : Int), vs = [.int l, .int p] ∧ Q (.bl (folC l p)) H
def chOf1 (ps : List Int) : List Int := match ps with | p :: r => if p % 2 = 0 then 1 :: p :: r else p :: r | [] => []
def chOf (n : Int) (ps : List Int) : List Int := if chOf1 ps ≠ [] ∧ (n - lastC 0 (chOf1 ps)) % 2 = 1 then chOf1 ps ++ [n] else chOf1 ps
def sp_change_of (K : PySem.W.Frag) : Sp := fun vs H Q _ => ∃ (s : Int) (a : Addr) (ps : List Int), vs = [.int s, .ref a] ∧ SqL K H a (ps.map V.int) ∧ ps.length ≤ 100000 ∧ ∀ p H', H p = none → Same H H' → SqT K H' p ((chOf s ps).map V.int) → NoD H' p → Q (.ref p) H'
/-- the sign at j of a text of places is wrong -/
def badC (n : Int) (z : List Nat) (j : Nat) : Bool := decide (plC n (z.getD j 0) = 0) || (decide (0 < j) && !folC (plC n (z.getD (j - 1) 0)) (plC n (z.getD j 0)))
def rdC (n : Int) (z : List Nat) : Sum Nat (List Int) :=
  if z.take 1 = [120] ∧ n % 2 = 0 then (if 1 < z.length then .inl 2 else .inr [])
  else match (List.range z.length).find? (badC n z) with
    | some j => .inl (j + 1)
    | none => if z = [] then .inl 1 else .inr (chOf n (z.map (plC n)))
def sp_read_change (K : PySem.W.Frag) (ec : Str → Addr) : Sp := fun vs H Q E => ∃ (s : Int) (l : List Nat), vs = [.int s, .str (S l)] ∧ l.length ≤ 100000 ∧ (¬ Stg s → noStage ec H E) ∧
  (∀ c, Stg s → rdC s l = .inl c → noNote ec c H E) ∧ (∀ cs, Stg s → rdC s l = .inr cs → ∀ p H', H p = none → Same H H' → SqT K H' p (cs.map V.int) → Q (.ref p) H')
abbrev N_place_of : List Str := ["stage", "sign", "place"]
def t_place_of (K : PySem.W.Frag) : TS :=
  tSeq (tAsg ((tOp (rAddU K) ((tBM K "str" rFind ((tC (.str "1234567890ET"))) (tCons (tVar 1) tNil))) ((tC (.int 1))))) (gName 2))
  (tSeq (tIfS ((tTest (tOp rGtU (tVar 2) (tVar 0)))) ((tRet ((tC (.int 0))))) (tNext))
  ((tRet (tVar 2))))
abbrev N_may_follow : List Str := ["last", "place"]
def t_may_follow (K : PySem.W.Frag) : TS :=
  (tRet ((tAndV ((tOp rGtU (tVar 1) (tVar 0))) ((tOp (rEqU K) ((tOp rModU ((tOp rSubU (tVar 1) (tVar 0))) ((tC (.int 2))))) ((tC (.int 1))))))))
abbrev N_change_of : List Str := ["stage", "places", "change"]
def t_change_of (K : PySem.W.Frag) : TS :=
  tSeq (tAsg ((tCB (rListU K) (tCons (tVar 1) tNil))) (gName 2))
  (tSeq (tIfS ((tAnd ((tTest (tOp rGtU ((tCB (rLenU K) (tCons (tVar 2) tNil))) ((tC (.int 0)))))) ((tTest (tOp (rEqU K) ((tOp rModU ((tOp (rIx K) (tVar 2) ((tC (.int 0))))) ((tC (.int 2))))) ((tC (.int 0)))))))) ((tDrop ((tBM K "list" rInsert (tVar 2) (tCons ((tC (.int 0))) (tCons ((tC (.int 1))) tNil)))))) (tNext))
  (tSeq (tIfS ((tAnd ((tTest (tOp rGtU ((tCB (rLenU K) (tCons (tVar 2) tNil))) ((tC (.int 0)))))) ((tTest (tOp (rEqU K) ((tOp rModU ((tOp rSubU (tVar 0) ((tOp (rIx K) (tVar 2) ((tUn (rU fun i => .int (-i)) ((tC (.int 1))))))))) ((tC (.int 2))))) ((tC (.int 1)))))))) ((tDrop ((tBM K "list" rAppend (tVar 2) (tCons (tVar 0) tNil))))) (tNext))
  ((tRet ((tThen (tVar 2) (kTupD K)))))))
section
variable {K : PySem.W.Frag} {ec : Str → Addr} {ns : List Str} {vs : List V} {H : Hp} {Q : VK} {E : XK}
theorem len_place_of (h : sp_place_of K vs H Q E) : vs.length = 2 := by obtain ⟨s, v, rfl, _⟩ := h; rfl
theorem len_may_follow (h : sp_may_follow K vs H Q E) : vs.length = 2 := by obtain ⟨s, v, rfl, _⟩ := h; rfl
theorem len_change_of (h : sp_change_of K vs H Q E) : vs.length = 2 := by obtain ⟨s, v, d, rfl, _⟩ := h; rfl
theorem noStage.same {H' : Hp} (h : noStage ec H E) (s : Same H H') : noStage ec H' E := fun d H2 s2 nd e => h d H2 (s.trans s2) (s.free nd) e
theorem r_iteB' {b : Bool} {A B : Prop} (h1 : b = true → A) (h2 : b = false → B) : if b = true then A else B := by
  cases b with
  | true => exact r_T (h1 rfl)
  | false => exact r_F (h2 rfl)
theorem signs_tl : (("1234567890ET" : Str).cps.toList) = signsL := by decide
theorem pure_place_of (h : sp_place_of K vs H Q E) : t_place_of K (En Q) (start N_place_of vs) H := by
  obtain ⟨s, c, rfl, q⟩ := h
  unfold t_place_of
  walk_at "rd"
  refine r_find signs_tl ?_
  walk_at "rd"
  unfold plC at q
  refine r_ite (fun h1 => ?_) (fun h1 => ?_)
  · walk_at "rd"
    rw [if_pos (by omega)] at q
    exact q
  · walk_at "rd"
    rw [if_neg (by omega)] at q
    exact q
theorem pure_may_follow (h : sp_may_follow K vs H Q E) : t_may_follow K (En Q) (start N_may_follow vs) H := by
  obtain ⟨l, p, rfl, q⟩ := h
  unfold t_may_follow
  unfold folC at q
  walk_at "rd"
  refine r_ite (fun h1 => ?_) (fun h1 => ?_)
  · walk_at "rd"
    rw [decide_eq_true h1, Bool.true_and] at q
    exact q
  · rw [decide_eq_false h1, Bool.false_and] at q
    exact q
theorem at_last {cs : List Int} (h : cs ≠ []) : atI (cs.map V.int) (-1) = some (.int (lastC 0 cs)) := by
  rcases List.eq_nil_or_concat cs with z | ⟨r, x, rfl⟩
  · exact absurd z h
  · rw [List.concat_eq_append, lastC_snoc]
    have e : ixN ((r ++ [x]).map V.int).length (-1) = some r.length := by
      unfold ixN
      rw [List.length_map, List.length_append, List.length_singleton, if_neg (by omega), if_pos (by omega)]
      congr 1
      omega
    unfold atI
    rw [e]
    show ((r ++ [x]).map V.int)[r.length]? = _
    rw [List.getElem?_map, List.getElem?_append_right (Nat.le_refl _), Nat.sub_self]
    rfl
theorem at_first {p : Int} {r : List Int} : atI ((p :: r).map V.int) 0 = some (.int p) := by
  have := atI_nat (xs := (p :: r).map V.int) (j := 0) (v := .int p) rfl
  exact this
theorem change_end {s : Int} {a q : Addr} {cs : List Int} {H : Hp} {Q : VK} (e : H q = some (.lst (cs.map V.int))) (hl : cs.length ≤ 200000)
    (k : ∀ p H', H p = none → (∀ b, b ≠ q → ∀ o, H b = some o → H' b = some o) → SqT K H' p ((if cs ≠ [] ∧ (s - lastC 0 cs) % 2 = 1 then cs ++ [s] else cs).map V.int) → NoD H' p → Q (.ref p) H') :
    tSeq (tIfS ((tAnd ((tTest (tOp rGtU ((tCB (rLenU K) (tCons (tVar 2) tNil))) ((tC (.int 0)))))) ((tTest (tOp (rEqU K) ((tOp rModU ((tOp rSubU (tVar 0) ((tOp (rIx K) (tVar 2) ((tUn (rU fun i => .int (-i)) ((tC (.int 1))))))))) ((tC (.int 2))))) ((tC (.int 1)))))))) ((tDrop ((tBM K "list" rAppend (tVar 2) (tCons (tVar 0) tNil))))) (tNext))
      ((tRet ((tThen (tVar 2) (kTupD K))))) (En Q) [some (.int s), some (.ref a), some (.ref q)] H := by
  walk_at "rd"
  rw [List.length_map]
  refine r_ite (fun h0 => ?_) (fun h0 => ?_)
  · have hne : cs ≠ [] := fun z => by subst z; simp at h0
    have ha := at_last hne
    walk_at "rd"
    refine r_ite (fun h1 => ?_) (fun h1 => ?_)
    · walk_at "rd"
      intro H2 b2 e2
      have e3 : H2 q = some (.lst ((cs ++ [s]).map V.int)) := by rw [e2, List.map_append]; rfl
      walk_at "rd"
      intro p H3 np s3 e4
      refine k p H3 ?_ (fun b hb o eo => s3 _ _ (b2 _ _ hb eo)) ?_ (noD_of e4)
      · have pq : p ≠ q := (ne_of_none e3 np).symm
        cases eH : H p with
        | none => rfl
        | some u => rw [b2 _ _ pq eH] at np; cases np
      · rw [if_pos ⟨hne, h1⟩]; exact sqT_ofD e4
    · walk_at "rd"
      intro p H3 np s3 e4
      refine k p H3 np (fun b hb o eo => s3 _ _ eo) ?_ (noD_of e4)
      rw [if_neg (fun z => h1 z.2)]; exact sqT_ofD e4
  · have hne : cs = [] := List.length_eq_zero_iff.mp (by omega)
    walk_at "rd"
    intro p H3 np s3 e4
    refine k p H3 np (fun b hb o eo => s3 _ _ eo) ?_ (noD_of e4)
    rw [if_neg (fun z => z.1 hne)]; exact sqT_ofD e4
theorem pure_change_of (h : sp_change_of K vs H Q E) : t_change_of K (En Q) (start N_change_of vs) H := by
  obtain ⟨s, a, ps, rfl, ha, hl, q⟩ := h
  unfold t_change_of
  walk_at "rd"
  intro l H1 nl s1 e1
  have fin : ∀ (H2 : Hp), But l H1 H2 → H2 l = some (.lst ((chOf1 ps).map V.int)) → tSeq (tIfS ((tAnd ((tTest (tOp rGtU ((tCB (rLenU K) (tCons (tVar 2) tNil))) ((tC (.int 0)))))) ((tTest (tOp (rEqU K) ((tOp rModU ((tOp rSubU (tVar 0) ((tOp (rIx K) (tVar 2) ((tUn (rU fun i => .int (-i)) ((tC (.int 1))))))))) ((tC (.int 2))))) ((tC (.int 1)))))))) ((tDrop ((tBM K "list" rAppend (tVar 2) (tCons (tVar 0) tNil))))) (tNext))
      ((tRet ((tThen (tVar 2) (kTupD K))))) (En Q) [some (.int s), some (.ref a), some (.ref l)] H2 := fun H2 b2 e2 => by
    refine change_end e2 ?_ fun p H3 np k3 e3 n3 => q p H3 ?_ ?_ e3 n3
    · have : (chOf1 ps).length ≤ ps.length + 1 := by
        unfold chOf1
        split
        · split <;> simp
        · simp
      omega
    · have pl : p ≠ l := (ne_of_none e2 np).symm
      cases eH : H p with
      | none => rfl
      | some u => rw [b2 _ _ pl (s1 _ _ eH)] at np; cases np
    · intro b o eo
      have bl : b ≠ l := ne_of_none eo nl
      exact k3 _ bl _ (b2 _ _ bl (s1 _ _ eo))
  cases ps with
  | nil =>
    walk_at "rd"
    refine r_iteM (by simp) ?_
    refine r_F (r_next ?_)
    exact fin H1 But.refl e1
  | cons p r =>
    walk_at "rd"
    refine r_iteP (by simp) ?_
    walk_at "rd"
    refine r_ixL (sqL_of e1) at_first ?_
    walk_at "rd"
    refine r_ite (fun h1 => ?_) (fun h1 => ?_)
    · walk_at "rd"
      refine r_insert0 e1 (by rw [List.length_map, sizeLine_eq]; omega) fun H2 b2 e2 => ?_
      refine fin H2 b2 ?_
      show H2 l = some (.lst ((if p % 2 = 0 then 1 :: p :: r else p :: r).map V.int))
      rw [if_pos h1]; exact e2
    · refine r_next ?_
      refine fin H1 But.refl ?_
      show H1 l = some (.lst ((if p % 2 = 0 then 1 :: p :: r else p :: r).map V.int))
      rw [if_neg h1]; exact e1
end
end Kb
set_option Elab.async false
set_option linter.all false
set_option maxRecDepth 100000
set_option maxHeartbeats 4000000
namespace Kb
open PySem PySem.Spec PyProof.Rows L2 SX
section
variable {K : PySem.W.Frag} {H H' : Hp} {Q : VK} {E : XK} {p a b l : Addr} {m : Int} {xs ys : List V} {lo hi : Option Int}
variable {ns ms : List Int} {j k : Nat}
theorem r_slN (h : SqT K H a (ns.map V.int)) (q : ∀ p H' (ms : List Int), Same H H' → SqT K H' p (ms.map V.int) → ms.length ≤ ns.length → Q (.ref p) H') : rSlU K (.ref a) lo hi H Q :=
  r_slI h fun p H' s e => q p H' _ s e (cutA_len ns)
theorem r_catN (h1 : SqT K H a (ns.map V.int)) (h2 : SqT K H b (ms.map V.int)) (hz : ns.length + ms.length ≤ 16000000) (q : ∀ p H' (us : List Int), Same H H' → SqT K H' p (us.map V.int) → us.length = ns.length + ms.length → Q (.ref p) H') : rAddU K (.ref a) (.ref b) H Q :=
  r_catII h1 h2 hz fun p H' s e => q p H' _ s e (List.length_append ..)
theorem r_prevN (h : SqT K H a (ns.map V.int)) (q : ∀ p H' (ms : List Int), Same H H' → SqT K H' p (ms.map V.int) → ms.length = ns.length → Q (.ref p) H') : PRev K (.ref a) (some (-1)) H Q :=
  r_prev h fun p H' np s e => q p H' ns.reverse s (by rw [List.map_reverse]; exact sqT_of e) (List.length_reverse ..)
/-- t[m] of a tuple of ints, somewhere in it -/
theorem r_ixI (h : SqT K H a (ns.map V.int)) (h0 : 0 ≤ m) (h1 : m < (ns.length : Int)) (q : ∀ i, ns[m.toNat]? = some i → Q (.int i) H) : rIx K (.ref a) (.int m) H Q := by
  obtain ⟨n, e1, e2⟩ := atI_ints h0 h1
  exact r_ixT h e1 (q n e2)
theorem r_setI {N : Hp → Prop} {i : Int} (h : H p = some (.lst (ns.map V.int))) (h0 : 0 ≤ m) (h1 : m < (ns.length : Int)) (q : ∀ H' ns', But p H H' → H' p = some (.lst ((ns' : List Int).map V.int)) → ns'.length = ns.length → N H') : rSetL (.ref p) (.int m) (.int i) H N := by
  refine r_setL (k := m.toNat) h ?_ fun H' b e => q H' (ns.set m.toNat i) b (by rw [e, List.map_set]) (List.length_set ..)
  rw [List.length_map]
  have := ixN_n (n := ns.length) (k := m.toNat) (by omega)
  rw [show ((m.toNat : Nat) : Int) = m by omega] at this
  exact this
theorem r_kTupI (h : H p = some (.lst (ns.map V.int))) (q : ∀ a H', H a = none → Same H H' → SqT K H' a (ns.map V.int) → Q (.ref a) H') : kTupD K (.ref p) H Q := r_kTupL (sqL_of h) fun a H' na s e => q a H' na s (sqT_ofD e)
theorem r_listI (h : SqT K H p (ns.map V.int)) (q : ∀ a H', H a = none → Same H H' → H' a = some (.lst (ns.map V.int)) → Q (.ref a) H') : rListU K [.ref p] H Q := r_listT h q
/-- a list that stood before p was made -/
theorem sqL_via (np : H p = none) (b : But p H H') (h : SqL K H a xs) : SqL K H' a xs := by
  rcases h with (h | ⟨o, h⟩) | h
  · exact .inl (.inl (b _ _ (ne_of_none h np) h))
  · exact .inl (.inr ⟨o, b _ _ (ne_of_none h np) h⟩)
  · exact .inr h
end
end Kb
set_option Elab.async false
set_option linter.all false
set_option maxRecDepth 100000
set_option maxHeartbeats 4000000
namespace Kb
open PySem PySem.Spec PyProof.Rows L2 SX PySem.Builtin.Str
def PRevS (x : V) (k : Option Int) (H : Hp) (Q : VK) : Prop := k = some (-1) ∧ ∃ z : Str, x = .str z ∧ z.length ≤ sizeLine ∧ Q (.str ⟨z.cps.toList.reverse.toArray⟩) H
def tRevS (te : TE) (tk : TO) : TE := fun σ H Q => te σ H fun x H1 => tk σ H1 fun k H2 => PRevS x k H2 Q
section
variable {K : PySem.W.Frag} {H H' : Hp} {Q : VK} {E : XK} {p a b l : Addr} {m : Int} {lo hi : Option Int} {as bs : List Nat} {te : TE} {tk : TO} {σ : L2.St}
theorem r_revS (h : te σ H fun x H1 => tk σ H1 fun k H2 => PRevS x k H2 Q) : tRevS te tk σ H Q := h
theorem r_prevS (hz : as.length ≤ 16000000) (q : Q (.str (S as.reverse)) H) : PRevS (.str (S as)) (some (-1)) H Q := ⟨rfl, S as, rfl, by rw [S_len, sizeLine_eq]; omega, q⟩
theorem r_slSN (hz : as.length ≤ 16000000) (q : ∀ bs : List Nat, bs.length ≤ as.length → Q (.str (S bs)) H) : rSlU K (.str (S as)) lo hi H Q := r_slS hz (q _ (cutA_len as))
theorem r_catSN (hz : as.length + bs.length ≤ 16000000) (q : ∀ cs : List Nat, cs.length = as.length + bs.length → Q (.str (S cs)) H) : rAddU K (.str (S as)) (.str (S bs)) H Q := r_addSS hz (q _ (List.length_append ..))
theorem r_prevSN (hz : as.length ≤ 16000000) (q : ∀ bs : List Nat, bs.length = as.length → Q (.str (S bs)) H) : PRevS (.str (S as)) (some (-1)) H Q := r_prevS hz (q _ (List.length_reverse ..))
theorem r_ixSN (hz : as.length ≤ 16000000) (h0 : 0 ≤ m) (h1 : m < (as.length : Int)) (q : ∀ c, as[m.toNat]? = some c → Q (.str (S [c])) H) : rIx K (.str (S as)) (.int m) H Q := by
  have hk : m.toNat < as.length := by omega
  have := atI_nat (xs := as) (j := m.toNat) (v := as[m.toNat]) (List.getElem?_eq_getElem hk)
  rw [show ((m.toNat : Nat) : Int) = m by omega] at this
  exact r_ixSS hz this (q _ (List.getElem?_eq_getElem hk))
/-- a sign of a written text -/
theorem r_ixC {z : Str} {k : Nat} (hk : z.cps.toList.length = k) (hz : k ≤ 1000) (h0 : 0 ≤ m) (h1 : m < (k : Int)) (q : ∀ c, Q (.str (S [c])) H) : rIx K (.str z) (.int m) H Q := by
  have e : z = S z.cps.toList := (S_tl z).symm
  rw [e]
  exact r_ixSN (by omega) h0 (by omega) fun c _ => q c
/-- [f() for k in range(n)] with one sign each, drawn -/
theorem r_lcDrS {j n : Nat} {lo : Int} (hp : Pl H p) (hz : n ≤ 1000000) (he : ∀ (x : Int) H1 (Q' : VK), But p H H1 → Pl H1 p → (∀ c H2, But p H1 H2 → Pl H2 p → Q' (.str (S [c])) H2) → te ((σ.set j none).set j (some (.int x))) H1 Q')
    (hd : ∀ q H' (ms : List Nat), H q = none → But p H H' → Pl H' p → H' q = some (.lst (ms.map fun c => V.str (S [c]))) → ms.length = n → Q (.ref q) H') : PLc (Itr lo n) (gName j) tYes te [j] σ H Q := by
  refine r_lcR (fun D i H' => H D = none ∧ D ≠ p ∧ But p H H' ∧ Pl H' p ∧ ∃ ms : List Nat, H' D = some (.lst (ms.map fun c => V.str (S [c]))) ∧ ms.length = i)
    (fun x => by show ((σ.set j none).set j (some x)).set j none = σ.set j none; rw [List.set_set, List.set_set]) (fun D H' hD s e => ⟨hD, ne_pl hD hp, Same.but s, pl_same s hp, [], e, rfl⟩) (fun D i H' hi q => ?_) (fun D H' hD q => ?_)
  · obtain ⟨hD, hne, b, hp', ms, e, hl⟩ := q
    refine r_yes (r_T (he _ H' _ b hp' fun v H2 b2 hp2 => ?_))
    refine r_acc (b2 _ _ hne e) (by rw [List.length_map]; omega) fun H5 b5 e5 => ⟨hD, hne, but_via (b.trans b2) b5 hD, pl_butL b5 hne.symm hp2, ms ++ [v], by rw [e5, List.map_append]; rfl, by rw [List.length_append, hl]; rfl⟩
  · obtain ⟨hD, hne, b, hp', ms, e, hl⟩ := q
    exact hd D H' ms hD b hp' e hl
theorem flat_oneN : ∀ cs : List Nat, (cs.map fun x => [x]).flatten = cs
  | [] => rfl
  | c :: r => by rw [List.map_cons, List.flatten_cons, flat_oneN r]; rfl
theorem join_ones {cs : List Nat} (h : H a = some (.lst (cs.map fun c => V.str (S [c])))) (hl : cs.length ≤ 1000000) (q : Q (.str (S cs)) H) : rJoin K (.str "") [.ref a] H Q := by
  have e : ((cs.map fun x => [x]).map fun y => V.str (S y)) = cs.map fun x => V.str (S [x]) := by rw [List.map_map]; rfl
  refine r_join (ys := cs.map fun x => [x]) (sqL_of (by rw [e]; exact h)) ?_ ?_
  · rw [flat_oneN]; omega
  · rw [flat_oneN]; exact q
end
end Kb
set_option Elab.async false
set_option linter.all false
set_option maxRecDepth 100000
set_option maxHeartbeats 4000000
namespace Kb
open PySem PySem.Spec PyProof.Rows L2 PySem.W
abbrev VR := V × List Int
end Kb
set_option Elab.async false
set_option linter.all false
set_option maxRecDepth 100000
set_option maxHeartbeats 4000000
set_option Elab.async false
set_option linter.all false
set_option maxRecDepth 100000
set_option Elab.async false
set_option linter.all false
set_option maxRecDepth 100000
set_option maxHeartbeats 4000000
namespace Kb
open PySem PySem.Spec PyProof.Rows L2 SX
def KTab (K : PySem.W.Frag) (w : World) (mg : Str → Option Value) (x : Str) (l : List (Str × Str)) : Prop :=
  ∃ (d : Addr) (es : Array DictEntry) (n : Nat), mg x = some (.ref d) ∧ KDict K w d es n ∧ ∀ p ∈ l, ∃ t, PySem.W.nsIn K d p.1 = some (some (.str p.2 t))
def PTab (l : List (Str × Str)) (y : V) (H : Hp) (Q : VK) : Prop := ∃ k v, y = V.str k ∧ (k, v) ∈ l ∧ Q (.str v) H
def tTab (l : List (Str × Str)) (tb : TE) : TE := fun σ H Q => tb σ H fun y H1 => PTab l y H1 Q
section
variable {X : Cx}
theorem ix_tab {d : Addr} {es : Array DictEntry} {n : Nat} {l : List (Str × Str)} (D : KDict X.K X.w d es n) (hv : ∀ p ∈ l, ∃ t, PySem.W.nsIn X.K d p.1 = some (some (.str p.2 t))) :
    IxR X (fun x y H Q => x = V.ref d ∧ PTab l y H Q) := by
  intro value slice pins s σ H x y v u Q I rx ry h hs
  obtain ⟨rfl, k, z, rfl, hm, q⟩ := h
  cases rx
  obtain ⟨t, rfl⟩ := ry
  obtain ⟨t', e⟩ := hv _ hm
  refine tail_any (kd_type D I) PySem.F.slot_dict_getitem.lookup ?_ hs
  exact wpAny_getItem_of (PySem.strKind_is X.prog X.w k t) (PySem.W.mapOf_K (prog := X.prog) I.kIn D.at_ D.lit) (PySem.W.find_K D.at_ e) ⟨.str z, H, I.tok _, ⟨t', rfl⟩, q⟩
theorem pe_tab {x : Str} {l : List (Str × Str)} {b : Expr} {tb : TE} {pos pos' : Pos} (hg : Gl X x) (T : KTab X.K X.w X.mg x l) (hb : PE X b tb) (hs : PlainIx b) (hd : (x == ("__debug__" : Str)) = false := by decide) : PE X (.Subscript (.Name x pos') b pos) (tTab l tb) := by
  obtain ⟨d, es, n, hm, D, hv⟩ := T
  have h2 := pe_ix (pos := pos) (ix_tab D hv) (pe_glob (v := .ref d) (pos := pos') hg hm rfl hd) hb hs
  refine ⟨fun pins s σ H Q I h => h2.run pins s σ H Q I ?_⟩
  show tb σ H fun y H2 => V.ref d = V.ref d ∧ PTab l y H2 Q
  have e : (fun (y : V) (H2 : Hp) => V.ref d = V.ref d ∧ PTab l y H2 Q) = fun y H2 => PTab l y H2 Q := by
    funext y H2
    exact propext ⟨fun h => h.2, fun h => ⟨rfl, h⟩⟩
  rw [e]; exact h
end
section
variable {K : PySem.W.Frag} {σ : L2.St} {H : Hp} {Q : VK} {l : List (Str × Str)} {tb : TE}
theorem r_tab (h : tb σ H fun y H1 => PTab l y H1 Q) : tTab l tb σ H Q := h
theorem r_ptab {k v : Str} (h : (k, v) ∈ l) (q : Q (.str v) H) : PTab l (.str k) H Q := ⟨k, v, rfl, h, q⟩
end
def PZip (K : PySem.W.Frag) (vs : List V) (H : Hp) (R : It → Hp → Prop) : Prop := ∃ a b xs ys, vs = [V.ref a, V.ref b] ∧ SqL K H a xs ∧ SqL K H b ys ∧ R (Itz K a b) H
def iZipU (K : PySem.W.Frag) (ta : TA) : TI := fun σ H R => ta σ H fun vs H1 => PZip K vs H1 R
section
variable {X : Cx}
theorem pi_zipU {e e2 : Expr} {ta : TA} {p pos tpos : Pos} {elts : List Expr} {kk : Nat} (hg : Gl X "zip") (hm : X.mg "zip" = none) (ha : PA X [e, e2] ta)
    (hs : starEach [e, e2] X.env = (false, eval e X.env) :: starEach [e2] X.env := by rfl) (hpl : (backTo pos (starEach [e2] X.env)).any (·.1) = false := by rfl) :
    PI X (.Tuple elts kk tpos) (.Call (.Name "zip" p) [e, e2] [] pos) (iZipU X.K ta) := pi_zip hg hm ha hs hpl
end
section
variable {K : PySem.W.Frag} {σ : L2.St} {H : Hp} {R : It → Hp → Prop} {ta : TA} {a b : Addr} {xs ys : List V} {D : Ends} {g : TG} {tb : TS}
theorem r_zip (h : ta σ H fun vs H1 => PZip K vs H1 R) : iZipU K ta σ H R := h
theorem r_pzip (ha : SqL K H a xs) (hb : SqL K H b ys) (q : R (Itz K a b) H) : PZip K [.ref a, .ref b] H R := ⟨a, b, xs, ys, rfl, ha, hb, q⟩
theorem r_forZip (hl : xs.length = ys.length) (Pv : Nat → L2.St → Hp → Prop) (h0 : Pv 0 σ H) (hq : ∀ i σ H, Pv i σ H → SqL K H a xs ∧ SqL K H b ys)
    (hs : ∀ (i : Nat) (x y : V) (T : Addr) (σ : L2.St) (H H2 : Hp), xs[i]? = some x → ys[i]? = some y → Pv i σ H → H T = none → Same H H2 → H2 T = some (.tup [x, y]) → g (.ref T) σ H2 fun σ2 H2 => tb { D with nx := Pv (i + 1), ct := Pv (i + 1), bk := D.nx } σ2 H2)
    (hd : ∀ σ H, Pv xs.length σ H → D.nx σ H) : PFor (Itz K a b) g tb D σ H :=
  RZ.for_zipL hl Pv h0 hq (fun i x y T σ H hx hy p hT => hs i x y T σ H _ hx hy p hT (same_new hT) upd_same) hd
end
def rIntB : List V → Hp → VK → Prop := fun xs H Q => ∃ k, xs = [V.bl k] ∧ Q (V.int (if k then 1 else 0)) H
section
variable {X : Cx}
theorem call_intB : CallR X (.type "int") rIntB := fun pins s σ H xs us Q I r h => call_int1 pins s σ H xs us Q I r (.inr h)
end
section
variable {K : PySem.W.Frag} {σ : L2.St} {H : Hp} {Q : VK} {a b : Addr} {xs ys : List V}
theorem r_intB {k : Bool} (q : Q (.int (if k then 1 else 0)) H) : rIntB [.bl k] H Q := ⟨k, rfl, q⟩
theorem r_extend (h1 : H a = some (.lst xs)) (h2 : H b = some (.lst ys)) (hz : xs.length + ys.length ≤ sizeLine) (k : ∀ H', But a H H' → H' a = some (.lst (xs ++ ys)) → Q .non H') : rExtend (.ref a) [.ref b] H Q :=
  ⟨a, b, xs, ys, rfl, rfl, h1, h2, hz, k _ but_upd upd_same⟩
end
def splC (c : Nat) : List Nat → List Nat → List (List Nat)
  | acc, [] => [acc]
  | acc, x :: r => if x = c then acc :: splC c [] r else splC c (acc ++ [x]) r
theorem spl_one (c : Nat) : ∀ (l acc : List Nat), TL.spl [c] 0 acc l = splC c acc l
  | [], acc => rfl
  | x :: r, acc => by
    have e : TL.pre [c] (x :: r) = decide (x = c) := by
      unfold TL.pre
      show (([x] : List Nat) == [c]) = _
      by_cases h : x = c
      · subst h; simp
      · simp [h]
    show (if TL.pre [c] (x :: r) = true then acc :: TL.spl [c] 0 [] r else TL.spl [c] 0 (acc ++ [x]) r) = if x = c then acc :: splC c [] r else splC c (acc ++ [x]) r
    rw [e, spl_one c r [], spl_one c r (acc ++ [x])]
    by_cases h : x = c <;> simp [h]
def rSplit : V → List V → Hp → VK → Prop := fun x xs H Q => ∃ a b, x = V.str a ∧ xs = [V.str b] ∧ (b.length == 0) = false ∧ a.length + 2 ≤ sizeLine ∧ rNewStrs (Txt.split a b) H Q
theorem r_split {H : Hp} {Q : VK} {c : Nat} {l : List Nat} (hc : c < 256) (hz : l.length ≤ 1000000) (k : ∀ p H', H p = none → Same H H' → H' p = some (.lst ((splC c [] l).map fun y => V.str (S y))) → Q (.ref p) H') : rSplit (.str (S l)) [.str (S [c])] H Q := by
  refine ⟨S l, S [c], rfl, rfl, by rw [S_len]; rfl, by rw [S_len, sizeLine_eq]; omega, fun p np => k p _ np (same_new np) ?_⟩
  rw [upd_same, split_S (by simp) (by simp [hc]), spl_one, List.map_map]
  rfl
def PRep (y z : Str) (v : V) (H : Hp) (Q : VK) : Prop := ∃ x, v = V.str x ∧ x.length + (x.length + 1) * z.length ≤ 16777216 ∧ Q (.str (Txt.replace x y z)) H
def tReplR (to : TE) (y z : Str) : TE := fun σ H Q => to σ H fun v H1 => PRep y z v H1 Q
section
variable {σ : L2.St} {H : Hp} {Q : VK} {to : TE} {y z : Str}
theorem r_replR (h : to σ H fun v H1 => PRep y z v H1 Q) : tReplR to y z σ H Q := h
theorem replL_one {c : Nat} {z : List Nat} : ∀ l : List Nat, PySem.StrLaws.replL [c] z l = l.flatMap fun x => if x = c then z else [x]
  | [] => PySem.StrLaws.replL_nil
  | x :: r => by
    by_cases h : x = c
    · subst h
      rw [PySem.StrLaws.replL_hit (by simp) (by simp), List.flatMap_cons, if_pos rfl]
      show z ++ PySem.StrLaws.replL [x] z r = _
      rw [replL_one r]
    · rw [PySem.StrLaws.replL_miss (by simp [h]), List.flatMap_cons, if_neg h, replL_one r]; rfl
theorem r_prep {l zl : List Nat} {c : Nat} (hz : l.length + (l.length + 1) * zl.length ≤ 16000000) (q : Q (.str (S (l.flatMap fun x => if x = c then zl else [x]))) H) : PRep (S [c]) (S zl) (.str (S l)) H Q := by
  refine ⟨S l, rfl, by rw [S_len, S_len]; omega, ?_⟩
  have e : Txt.replace (S l) (S [c]) (S zl) = S (l.flatMap fun x => if x = c then zl else [x]) := by
    refine TL.ext_tl ?_
    show (Txt.replace (S l) (S [c]) (S zl)).cps.toList = _
    rw [PySem.StrLaws.replace_list (by rw [S_len]; exact Nat.le_refl _)]
    exact replL_one l
  rw [e]; exact q
end
end Kb
set_option linter.all false
set_option maxRecDepth 100000
set_option maxHeartbeats 4000000
namespace Kb
namespace K11
/-- may the sign c follow the sign b (44 at a block's beginning), m commas before -/
def fitN (n : Int) (b m c : Nat) : Bool :=
  if c = 120 then decide (n % 2 = 0) && decide (b ≠ 46)
  else if c = 46 then decide (0 < plC n b)
  else if c = 38 then decide (b = 44)
  else if c = 44 then decide (m = 0) && (decide (0 < plC n b) || decide (b = 120))
  else decide (0 < plC n c) && (decide (plC n b = 0) || (decide (plC n b < plC n c) && decide ((plC n c - plC n b) % 2 = 1)))
def colN (n : Int) (b m k : Nat) : List Nat → Nat
  | [] => if b = 120 ∨ 0 < plC n b then 0 else k + 1
  | c :: r => if fitN n b m c = true then colN n c (if c = 44 then m + 1 else m) (k + 1) r else k + 1
def mapL {α : Type} (f : α → α) : List α → List α
  | [] => []
  | [x] => [f x]
  | x :: y :: r => x :: mapL f (y :: r)
theorem mapL_snoc {α : Type} (f : α → α) (x : α) : ∀ l : List α, mapL f (l ++ [x]) = l ++ [f x]
  | [] => rfl
  | [y] => rfl
  | y :: z :: r => by
    show y :: mapL f ((z :: r) ++ [x]) = _
    rw [mapL_snoc f x (z :: r)]; rfl
theorem mapL_map {α β : Type} (f : α → α) (g : α → β) (h : β → β) : ∀ l : List α, (∀ x, l.getLast? = some x → g (f x) = h (g x)) → (mapL f l).map g = mapL h (l.map g)
  | [], _ => rfl
  | [x], e => by
    show [g (f x)] = [h (g x)]
    rw [e x rfl]
  | x :: y :: r, e => by
    show g x :: (mapL f (y :: r)).map g = g x :: mapL h ((y :: r).map g)
    rw [mapL_map f g h (y :: r) (fun z hz => e z (by rw [List.getLast?_cons_cons]; exact hz))]
def rep1 (l : List Nat) : List Nat := l.flatMap fun c => if c = 120 then [46, 120, 46] else [c]
theorem splC_ne (c : Nat) : ∀ (l acc : List Nat), splC c acc l ≠ []
  | [], acc => by show [acc] ≠ []; simp
  | x :: r, acc => by
    show (if x = c then acc :: splC c [] r else splC c (acc ++ [x]) r) ≠ []
    by_cases h : x = c
    · rw [if_pos h]; simp
    · rw [if_neg h]; exact splC_ne c r _
theorem mapL_cons {α : Type} {f : α → α} {x : α} {l : List α} (h : l ≠ []) : mapL f (x :: l) = x :: mapL f l := by
  cases l with
  | nil => exact absurd rfl h
  | cons y r => rfl
theorem splC_snoc (c x : Nat) : ∀ (l acc : List Nat), splC c acc (l ++ [x]) = if x = c then splC c acc l ++ [[]] else mapL (· ++ [x]) (splC c acc l)
  | [], acc => by
    show (if x = c then acc :: splC c [] [] else splC c (acc ++ [x]) []) = _
    rfl
  | y :: r, acc => by
    show (if y = c then acc :: splC c [] (r ++ [x]) else splC c (acc ++ [y]) (r ++ [x])) = if x = c then (if y = c then acc :: splC c [] r else splC c (acc ++ [y]) r) ++ [[]] else mapL (· ++ [x]) (if y = c then acc :: splC c [] r else splC c (acc ++ [y]) r)
    by_cases h : y = c
    · rw [if_pos h, if_pos h, splC_snoc c x r []]
      by_cases hx : x = c
      · rw [if_pos hx, if_pos hx]; rfl
      · rw [if_neg hx, if_neg hx, mapL_cons (splC_ne c r [])]
    · rw [if_neg h, if_neg h, splC_snoc c x r (acc ++ [y])]
theorem rep1_snoc (l : List Nat) (x : Nat) : rep1 (l ++ [x]) = rep1 l ++ (if x = 120 then [46, 120, 46] else [x]) := by
  unfold rep1
  rw [List.flatMap_append]
  simp
/-- the parts between dots, the empty ones too -/
def prE (l : List Nat) : List (List Nat) := splC 46 [] (rep1 l)
def pcs (l : List Nat) : List (List Nat) := (prE l).filter fun p => !decide (p = [])
theorem prE_dot (l : List Nat) : prE (l ++ [46]) = prE l ++ [[]] := by
  unfold prE
  rw [rep1_snoc, if_neg (by decide), splC_snoc, if_pos rfl]
theorem prE_x (l : List Nat) : prE (l ++ [120]) = prE l ++ [[120], []] := by
  unfold prE
  rw [rep1_snoc, if_pos rfl, show ([46, 120, 46] : List Nat) = [46] ++ [120] ++ [46] from rfl, ← List.append_assoc, ← List.append_assoc, splC_snoc, if_pos rfl, splC_snoc, if_neg (by decide), splC_snoc, if_pos rfl, mapL_snoc]
  simp
theorem prE_c (l : List Nat) {c : Nat} (h1 : c ≠ 46) (h2 : c ≠ 120) : prE (l ++ [c]) = mapL (· ++ [c]) (prE l) := by
  unfold prE
  rw [rep1_snoc, if_neg h2, splC_snoc, if_neg h1]
theorem prE_ne (l : List Nat) : prE l ≠ [] := splC_ne 46 _ _
/-- does a piece stand open at the end -/
def opn (l : List Nat) : Bool := match l.getLast? with
  | some c => decide (c ≠ 46) && decide (c ≠ 120)
  | none => false
theorem last_of {α : Type} (l : List α) (h : l ≠ []) : ∃ r x, l = r ++ [x] := by
  rcases List.eq_nil_or_concat l with z | ⟨r, x, z⟩
  · exact absurd z h
  · exact ⟨r, x, by rw [z, List.concat_eq_append]⟩
theorem opn_prE (l : List Nat) : ∃ r p, prE l = r ++ [p] ∧ (opn l = decide (p ≠ [])) ∧ p ≠ [120] := by
  rcases List.eq_nil_or_concat l with z | ⟨r, x, z⟩
  · subst z
    exact ⟨[], [], rfl, rfl, by simp⟩
  · rw [List.concat_eq_append] at z
    subst z
    have ho : opn (r ++ [x]) = (decide (x ≠ 46) && decide (x ≠ 120)) := by
      unfold opn; rw [List.getLast?_append]; rfl
    by_cases h1 : x = 46
    · subst h1
      exact ⟨prE r, [], prE_dot r, by rw [ho]; rfl, by simp⟩
    · by_cases h2 : x = 120
      · subst h2
        refine ⟨prE r ++ [[120]], [], by rw [prE_x]; simp, by rw [ho]; rfl, by simp⟩
      · obtain ⟨r2, p2, e⟩ := last_of (prE r) (prE_ne r)
        refine ⟨r2, p2 ++ [x], by rw [prE_c r h1 h2, e, mapL_snoc], ?_, fun z => ?_⟩
        · rw [ho]; simp [h1, h2]
        · have := congrArg List.getLast? z
          rw [List.getLast?_append] at this
          exact h2 (by simpa using this)
theorem pcs_dot (l : List Nat) : pcs (l ++ [46]) = pcs l := by
  unfold pcs; rw [prE_dot, List.filter_append]; simp
theorem pcs_x (l : List Nat) : pcs (l ++ [120]) = pcs l ++ [[120]] := by
  unfold pcs; rw [prE_x, List.filter_append]; rfl
theorem pcs_c (l : List Nat) {c : Nat} (h1 : c ≠ 46) (h2 : c ≠ 120) : pcs (l ++ [c]) = if opn l = true then mapL (· ++ [c]) (pcs l) else pcs l ++ [[c]] := by
  obtain ⟨r, p, e, ho, _⟩ := opn_prE l
  unfold pcs
  rw [prE_c l h1 h2, e, mapL_snoc, List.filter_append, List.filter_append, ho]
  by_cases hp : p = []
  · subst hp; simp
  · have e1 : List.filter (fun p => !decide (p = [])) [p] = [p] := by simp [hp]
    rw [e1, mapL_snoc]
    simp [hp]
/-- the places of a piece -/
def toPl (n : Int) (p : List Nat) : List Int := if p = [120] then [] else p.map (plC n)
/-- a state of reading: the blocks behind, the block, is it folded -/
abbrev Blk := List (List Int) × Bool
def stepN (n : Int) (b c : Nat) (s : List Blk × Blk) : List Blk × Blk :=
  if c = 38 then (s.1, (s.2.1, true))
  else if c = 44 then (s.1 ++ [s.2], ([], false))
  else if c = 46 then s
  else if c = 120 then (s.1, (s.2.1 ++ [[]], s.2.2))
  else if 0 < plC n b then (s.1, (mapL (· ++ [plC n c]) s.2.1, s.2.2)) else (s.1, (s.2.1 ++ [[plC n c]], s.2.2))
def runN (n : Int) : Nat → List Blk × Blk → List Nat → List Blk
  | _, s, [] => s.1 ++ [s.2]
  | b, s, c :: r => runN n c (stepN n b c s) r
def blkN (n : Int) (b : Blk) : List (List Int) := if b.2 = true then b.1.map (chOf n) ++ (b.1.map (chOf n)).dropLast.reverse else b.1.map (chOf n)
/-- what a valid text writes, as the program reads -/
def readN (n : Int) (l : List Nat) : List (List Int) := (runN n 44 ([], ([], false)) l).flatMap (blkN n)
def isF (p : List Nat) : Bool := decide (p.take 1 = [38])
def bdy (p : List Nat) : List Nat := p.drop (if isF p = true then 1 else 0)
def plF (c : Nat) : Int := fnd signsL c + 1
def lawC (n : Int) (p : List Nat) : List Int :=
  if p = [120] then [] else
  let a := if (((p.map plF).getD 0 0) - 1) % 2 = 1 then 1 :: p.map plF else p.map plF
  if (n - lastC 0 a) % 2 = 1 then a ++ [n] else a
def foldL (b : List (List Int)) : List (List Int) := (List.range (2 * b.length - 1)).map fun k => b.getD (min k (2 * b.length - 2 - k)) []
def lawP (n : Int) (p : List Nat) : List (List Int) := if isF p = true then foldL ((pcs (bdy p)).map (lawC n)) else (pcs (bdy p)).map (lawC n)
def lawN (n : Int) (l : List Nat) : List (List Int) := (splC 44 [] l).flatMap (lawP n)
theorem plC_0 {n : Int} (h : 0 ≤ n) : plC n 120 = 0 ∧ plC n 46 = 0 ∧ plC n 38 = 0 ∧ plC n 44 = 0 := by
  have e : fnd signsL 120 = -1 ∧ fnd signsL 46 = -1 ∧ fnd signsL 38 = -1 ∧ fnd signsL 44 = -1 := by decide
  unfold plC
  obtain ⟨e1, e2, e3, e4⟩ := e
  rw [e1, e2, e3, e4]
  simp [Int.not_lt.mpr h]
theorem plC_F {n : Int} {c : Nat} (h : 0 < plC n c) : plC n c = plF c := by
  unfold plC at h ⊢
  by_cases hh : fnd signsL c + 1 > n
  · rw [if_pos hh] at h; omega
  · rw [if_neg hh]; rfl
theorem foldL_eq (b : List (List Int)) : foldL b = b ++ b.dropLast.reverse := by
  apply List.ext_getElem?
  intro k
  unfold foldL
  rw [List.getElem?_map]
  by_cases hk : k < 2 * b.length - 1
  · rw [List.getElem?_range hk]
    show some (b.getD (min k (2 * b.length - 2 - k)) []) = _
    by_cases h1 : k < b.length
    · rw [List.getElem?_append_left h1, show min k (2 * b.length - 2 - k) = k by omega, List.getD_eq_getElem?_getD, List.getElem?_eq_getElem h1]; rfl
    · have h2 : 2 * b.length - 2 - k < b.length := by omega
      rw [List.getElem?_append_right (by omega), show min k (2 * b.length - 2 - k) = 2 * b.length - 2 - k by omega, List.getElem?_reverse (by rw [List.length_dropLast]; omega), List.length_dropLast, List.getElem?_dropLast, if_pos (by omega), List.getD_eq_getElem?_getD,
        show b.length - 1 - 1 - (k - b.length) = 2 * b.length - 2 - k by omega, List.getElem?_eq_getElem h2]; rfl
  · rw [List.getElem?_eq_none (by rw [List.length_range]; omega)]
    rw [List.getElem?_eq_none (by rw [List.length_append, List.length_reverse, List.length_dropLast]; omega)]; rfl
/-- pieces that are valid -/
def okP (n : Int) (p : List Nat) : Prop := p = [120] ∨ (p ≠ [] ∧ p ≠ [120] ∧ ∀ c ∈ p, 0 < plC n c)
theorem lawC_eq {n : Int} {p : List Nat} (h : okP n p) : chOf n (toPl n p) = lawC n p := by
  rcases h with rfl | ⟨h0, h1, h2⟩
  · rfl
  · have e : p.map (plC n) = p.map plF := List.map_congr_left fun c hc => plC_F (h2 c hc)
    unfold toPl lawC
    rw [if_neg h1, if_neg h1, e]
    obtain ⟨x, r, e2⟩ : ∃ x r, p.map plF = x :: r := by
      cases p with
      | nil => exact absurd rfl h0
      | cons c r => exact ⟨_, _, rfl⟩
    rw [e2]
    show (if chOf1 (x :: r) ≠ [] ∧ (n - lastC 0 (chOf1 (x :: r))) % 2 = 1 then chOf1 (x :: r) ++ [n] else chOf1 (x :: r)) = if (n - lastC 0 (if (x - 1) % 2 = 1 then 1 :: x :: r else x :: r)) % 2 = 1 then (if (x - 1) % 2 = 1 then 1 :: x :: r else x :: r) ++ [n] else (if (x - 1) % 2 = 1 then 1 :: x :: r else x :: r)
    have e3 : chOf1 (x :: r) = if (x - 1) % 2 = 1 then 1 :: x :: r else x :: r := by
      show (if x % 2 = 0 then 1 :: x :: r else x :: r) = _
      by_cases hx : x % 2 = 0
      · rw [if_pos hx, if_pos (by omega)]
      · rw [if_neg hx, if_neg (by omega)]
    have e4 : chOf1 (x :: r) ≠ [] := by rw [e3]; split <;> simp
    rw [← e3]
    simp [e4]
/-- the invariant of reading: acc the signs since the last comma -/
structure Rd (n : Int) (b : Nat) (acc : List Nat) (cur : Blk) : Prop where
  pl : cur.1 = (pcs (bdy acc)).map (toPl n)
  fo : cur.2 = isF acc
  ok : ∀ p ∈ pcs (bdy acc), okP n p
  la : (acc = [] ∧ b = 44) ∨ (acc.getLast? = some b ∧ b ≠ 44)
  op : opn (bdy acc) = decide (0 < plC n b)
theorem mapL_mem {α : Type} {f : α → α} : ∀ {l : List α} {x : α}, x ∈ mapL f l → x ∈ l ∨ ∃ y, l.getLast? = some y ∧ x = f y
  | [], x, h => nomatch h
  | [y], x, h => .inr ⟨y, rfl, List.mem_singleton.mp h⟩
  | y :: z :: r, x, h => by
    have h : x ∈ y :: mapL f (z :: r) := h
    rcases List.mem_cons.mp h with e | h
    · exact .inl (by rw [e]; simp)
    · rcases mapL_mem h with h | ⟨w, h1, h2⟩
      · exact .inl (List.mem_cons_of_mem _ h)
      · exact .inr ⟨w, by rw [List.getLast?_cons_cons]; exact h1, h2⟩
theorem pcs_last {l : List Nat} {x : List Nat} (ho : opn l = true) (h : (pcs l).getLast? = some x) : x ≠ [120] := by
  obtain ⟨r, p, e, h1, h2⟩ := opn_prE l
  have hp : p ≠ [] := by rw [ho] at h1; exact of_decide_eq_true h1.symm
  have : pcs l = r.filter (fun p => !decide (p = [])) ++ [p] := by
    unfold pcs; rw [e, List.filter_append]; simp [hp]
  rw [this, List.getLast?_append] at h
  have : p = x := by simpa using h
  rw [← this]; exact h2
theorem pcs_mem {l : List Nat} {x : List Nat} (h : x ∈ pcs l) : x ≠ [] := by
  have := (List.mem_filter.mp h).2
  simpa using this
theorem bdy_snoc {acc : List Nat} {c : Nat} (hc : c ≠ 38) : isF (acc ++ [c]) = isF acc ∧ bdy (acc ++ [c]) = bdy acc ++ [c] := by
  cases acc with
  | nil =>
    have : isF [c] = false := by unfold isF; simp [hc]
    refine ⟨by rw [List.nil_append, this]; rfl, ?_⟩
    show List.drop (if isF [c] = true then 1 else 0) [c] = _
    rw [this]; rfl
  | cons x r =>
    have e : isF (x :: r ++ [c]) = isF (x :: r) := rfl
    refine ⟨e, ?_⟩
    unfold bdy
    rw [e]
    cases isF (x :: r) <;> rfl
theorem Rd.step {n : Int} {b m c : Nat} {acc : List Nat} {cur : Blk} {done : List Blk} (hn : 0 ≤ n) (h : Rd n b acc cur) (hf : fitN n b m c = true) (h44 : c ≠ 44) : (stepN n b c (done, cur)).1 = done ∧ Rd n c (acc ++ [c]) (stepN n b c (done, cur)).2 := by
  obtain ⟨z120, z46, z38, z44⟩ := plC_0 hn
  have hla : (acc ++ [c] = [] ∧ c = 44) ∨ ((acc ++ [c]).getLast? = some c ∧ c ≠ 44) := .inr ⟨by rw [List.getLast?_append]; rfl, h44⟩
  by_cases c38 : c = 38
  · subst c38
    have hb : b = 44 := by simpa [fitN] using hf
    have ha : acc = [] := by
      rcases h.la with ⟨a, _⟩ | ⟨_, z⟩
      · exact a
      · exact absurd hb z
    subst ha
    refine ⟨rfl, ?_, rfl, (fun p hp => (nomatch hp)), hla, ?_⟩
    · show cur.1 = _
      rw [h.pl]; rfl
    · rw [z38]; rfl
  · obtain ⟨e1, e2⟩ := bdy_snoc (acc := acc) c38
    by_cases c46 : c = 46
    · subst c46
      refine ⟨rfl, ?_, ?_, ?_, hla, ?_⟩
      · show cur.1 = _; rw [e2, pcs_dot]; exact h.pl
      · show cur.2 = _; rw [e1]; exact h.fo
      · rw [e2, pcs_dot]; exact h.ok
      · rw [e2, z46]; unfold opn; rw [List.getLast?_append]; rfl
    · by_cases c120 : c = 120
      · subst c120
        refine ⟨rfl, ?_, ?_, ?_, hla, ?_⟩
        · show cur.1 ++ [[]] = _; rw [e2, pcs_x, List.map_append, h.pl]; rfl
        · show cur.2 = _; rw [e1]; exact h.fo
        · rw [e2, pcs_x]
          intro p hp
          rcases List.mem_append.mp hp with z | z
          · exact h.ok p z
          · exact .inl (List.mem_singleton.mp z)
        · rw [e2, z120]; unfold opn; rw [List.getLast?_append]; rfl
      · have hpc : 0 < plC n c := by
          unfold fitN at hf
          rw [if_neg c120, if_neg c46, if_neg c38, if_neg h44, Bool.and_eq_true, decide_eq_true_eq] at hf
          exact hf.1
        have es : stepN n b c (done, cur) = if 0 < plC n b then (done, (mapL (· ++ [plC n c]) cur.1, cur.2)) else (done, (cur.1 ++ [[plC n c]], cur.2)) := by
          unfold stepN
          rw [if_neg c38, if_neg h44, if_neg c46, if_neg c120]
        rw [es]
        have hop : opn (bdy (acc ++ [c])) = decide (0 < plC n c) := by
          rw [e2, decide_eq_true hpc]; unfold opn; rw [List.getLast?_append]; simp [c46, c120]
        by_cases hb : 0 < plC n b
        · have ho : opn (bdy acc) = true := by rw [h.op]; exact decide_eq_true hb
          rw [if_pos hb]
          refine ⟨rfl, ?_, ?_, ?_, hla, hop⟩
          · show mapL _ cur.1 = _
            rw [e2, pcs_c _ c46 c120, if_pos ho, mapL_map (h := (· ++ [plC n c])), h.pl]
            intro x hx
            have x1 := pcs_last ho hx
            have x2 : x ≠ [] := pcs_mem (List.mem_of_getLast? hx)
            have x3 : x ++ [c] ≠ [120] := fun z => by
              have := congrArg List.length z
              rw [List.length_append] at this
              exact x2 (List.length_eq_zero_iff.mp (by simpa using this))
            unfold toPl
            rw [if_neg x1, if_neg x3, List.map_append]; rfl
          · show cur.2 = _; rw [e1]; exact h.fo
          · rw [e2, pcs_c _ c46 c120, if_pos ho]
            intro p hp
            rcases mapL_mem hp with z | ⟨x, hx, rfl⟩
            · exact h.ok p z
            · have x1 := pcs_last ho hx
              have x2 : x ≠ [] := pcs_mem (List.mem_of_getLast? hx)
              have x3 : x ++ [c] ≠ [120] := fun z => by
                have := congrArg List.length z
                rw [List.length_append] at this
                exact x2 (List.length_eq_zero_iff.mp (by simpa using this))
              rcases h.ok x (List.mem_of_getLast? hx) with z | ⟨_, _, z⟩
              · exact absurd z x1
              · refine .inr ⟨by simp, x3, fun d hd => ?_⟩
                rcases List.mem_append.mp hd with y | y
                · exact z d y
                · rw [List.mem_singleton] at y; rw [y]; exact hpc
        · have ho : ¬ opn (bdy acc) = true := by rw [h.op]; simp [hb]
          rw [if_neg hb]
          refine ⟨rfl, ?_, ?_, ?_, hla, hop⟩
          · show cur.1 ++ [[plC n c]] = _
            rw [e2, pcs_c _ c46 c120, if_neg ho, List.map_append, h.pl]
            have : toPl n [c] = [plC n c] := by unfold toPl; rw [if_neg (by simp [c120])]; rfl
            show _ = _ ++ [toPl n [c]]
            rw [this]
          · show cur.2 = _; rw [e1]; exact h.fo
          · rw [e2, pcs_c _ c46 c120, if_neg ho]
            intro p hp
            rcases List.mem_append.mp hp with z | z
            · exact h.ok p z
            · rw [List.mem_singleton] at z
              subst z
              exact .inr ⟨by simp, by simp [c120], fun d hd => by rw [List.mem_singleton] at hd; rw [hd]; exact hpc⟩
theorem Rd.nil {n : Int} (hn : 0 ≤ n) : Rd n 44 [] ([], false) := ⟨rfl, rfl, (fun _ h => (nomatch h)), .inl ⟨rfl, rfl⟩, by rw [(plC_0 hn).2.2.2]; rfl⟩
theorem run_eq {n : Int} (hn : 0 ≤ n) : ∀ (r : List Nat) (b m k : Nat) (acc : List Nat) (done : List Blk) (cur : Blk), Rd n b acc cur → colN n b m k r = 0 →
    runN n b (done, cur) r = done ++ (splC 44 acc r).map (fun p => ((pcs (bdy p)).map (toPl n), isF p)) ∧ ∀ p ∈ splC 44 acc r, ∀ q ∈ pcs (bdy p), okP n q
  | [], b, m, k, acc, done, cur, h, _ => by
    refine ⟨?_, fun p hp => ?_⟩
    · show done ++ [cur] = done ++ [((pcs (bdy acc)).map (toPl n), isF acc)]
      rw [← h.pl, ← h.fo]
    · rw [List.mem_singleton.mp (show p ∈ [acc] from hp)]; exact h.ok
  | c :: r, b, m, k, acc, done, cur, h, hc => by
    have hf : fitN n b m c = true := by
      cases e : fitN n b m c with
      | true => rfl
      | false =>
        have : colN n b m k (c :: r) = k + 1 := by show (if fitN n b m c = true then _ else _) = _; rw [e]; rfl
        omega
    have hc' : colN n c (if c = 44 then m + 1 else m) (k + 1) r = 0 := by
      have : colN n b m k (c :: r) = colN n c (if c = 44 then m + 1 else m) (k + 1) r := by show (if fitN n b m c = true then _ else _) = _; rw [if_pos hf]
      rw [← this]; exact hc
    by_cases h44 : c = 44
    · subst h44
      obtain ⟨a1, a2⟩ := run_eq hn r 44 _ _ [] (done ++ [cur]) ([], false) (Rd.nil hn) hc'
      have es : stepN n b 44 (done, cur) = (done ++ [cur], ([], false)) := rfl
      have ep : splC 44 acc (44 :: r) = acc :: splC 44 [] r := rfl
      refine ⟨?_, fun p hp => ?_⟩
      · show runN n 44 (stepN n b 44 (done, cur)) r = _
        rw [es, a1, ep, List.map_cons, ← h.pl, ← h.fo]; simp
      · rw [ep] at hp
        rcases List.mem_cons.mp hp with rfl | z
        · exact h.ok
        · exact a2 p z
    · obtain ⟨e1, h2⟩ := h.step (done := done) hn hf h44
      obtain ⟨a1, a2⟩ := run_eq hn r c _ _ (acc ++ [c]) done _ h2 hc'
      have ep : splC 44 acc (c :: r) = splC 44 (acc ++ [c]) r := by show (if c = 44 then _ else _) = _; rw [if_neg h44]
      rw [ep]
      refine ⟨?_, a2⟩
      show runN n c (stepN n b c (done, cur)) r = _
      have e0 : stepN n b c (done, cur) = (done, (stepN n b c (done, cur)).2) := Prod.ext e1 rfl
      rw [e0]
      exact a1
theorem read_law {n : Int} (hn : 0 ≤ n) {l : List Nat} (h : colN n 44 0 0 l = 0) : readN n l = lawN n l := by
  obtain ⟨a1, a2⟩ := run_eq hn l 44 0 0 [] [] ([], false) (Rd.nil hn) h
  unfold readN lawN
  rw [a1, List.nil_append]
  have : ∀ ps : List (List Nat), (∀ p ∈ ps, ∀ q ∈ pcs (bdy p), okP n q) → (ps.map (fun p => ((pcs (bdy p)).map (toPl n), isF p))).flatMap (blkN n) = ps.flatMap (lawP n) := by
    intro ps hp
    induction ps with
    | nil => rfl
    | cons p ps ih =>
      rw [List.map_cons, List.flatMap_cons, List.flatMap_cons, ih fun q hq => hp q (by simp [hq])]
      congr 1
      have e : ((pcs (bdy p)).map (toPl n)).map (chOf n) = (pcs (bdy p)).map (lawC n) := by
        rw [List.map_map]
        exact List.map_congr_left fun q hq => lawC_eq (hp p (by simp) q hq)
      unfold blkN lawP
      dsimp only
      rw [e, foldL_eq]
  exact this _ a2
end K11
end Kb
set_option linter.all false
namespace Kb
def raI (n : Int) (ps : List Int) : List Int :=
  let a := if (ps.getD 0 0 - 1) % 2 = 1 then 1 :: ps else ps
  if (n - lastC 0 ps) % 2 = 1 then a ++ [n] else a
end Kb
set_option Elab.async false
set_option linter.all false
set_option maxRecDepth 100000
set_option maxHeartbeats 4000000
namespace Kb
open PySem PySem.Spec PyProof.Rows L2 SX
local macro_rules | `(tactic| walk_at "tk") => `(tactic| first
  | assumption
  | ((with_reducible refine' sqT_of ?k); (case k => assumption))
  | ((with_reducible refine' sqT_ofD ?k); (case k => assumption))
  | ((with_reducible refine' noD_of ?k); (case k => assumption))
  | ((with_reducible refine' noD_same ?s ?k); (case s => assumption); (case k => walk_at "tk"))
  | ((with_reducible refine' sqL_of ?k); (case k => assumption))
  | ((with_reducible refine' sqT_same ?s ?k); (case s => assumption); (case k => walk_at "tk"))
  | ((with_reducible refine' sqL_same ?s ?k); (case s => assumption); (case k => walk_at "tk"))
  | ((with_reducible refine' sqT_but ?s ?t ?k); (case s => assumption); (case t => walk_at "tk"); (case k => walk_at "tk"))
  | ((with_reducible refine' sqL_but ?s ?t ?k); (case s => assumption); (case t => walk_at "ne"); (case k => walk_at "tk"))
  | ((with_reducible refine' sqL_of ?k); (case k => walk_at "tk"))
  | ((with_reducible refine' sqT_of ?k); (case k => walk_at "tk"))
  | ((with_reducible refine' at_same ?s ?k); (case s => assumption); (case k => walk_at "tk"))
  | ((with_reducible refine' at_but ?s ?t ?k); (case s => assumption); (case t => walk_at "ne"); (case k => walk_at "tk")))
local macro_rules | `(tactic| walk_at "ne") => `(tactic| first
  | assumption
  | (refine Ne.symm ?_; assumption)
  | exact ne_of_none (by assumption) (by assumption)
  | exact (ne_of_none (by assumption) (by assumption)).symm)
local macro_rules | `(tactic| walk_at "side") => `(tactic| first
  | assumption
  | omega
  | (simp only [sizeLine_eq, List.length_cons, List.length_nil, List.length_map]; omega)
  | (show _ ≤ sizeLine; decide))
local macro_rules | `(tactic| walk_at "kit") => `(tactic| first
  | (show kitB _ _ = some true; decide +kernel)
  | (show kitB _ _ = some false; decide +kernel))
local macro_rules | `(tactic| walk_at "rng") => `(tactic| first
  | (refine ⟨by omega, by omega, by omega, by omega⟩)
  | (refine ⟨by omega, by omega⟩)
  | ((simp only [List.length_map]); (refine ⟨by omega, by omega, by omega, by omega⟩))
  | ((simp only [List.length_map]); (refine ⟨by omega, by omega⟩)))
local macro_rules | `(tactic| walk_at "rd1") => `(tactic| first
  | with_reducible refine r_seq ?_
  | ((with_reducible refine' r_var ?k0 ?_); (case k0 => rfl))
  | with_reducible refine r_op ?_
  | with_reducible refine r_c ?_
  | with_reducible refine r_asg ?_
  | with_reducible refine r_name ?_
  | with_reducible refine r_cons ?_
  | with_reducible refine r_nil ?_
  | with_reducible refine r_CB ?_
  | with_reducible refine r_if ?_
  | with_reducible refine r_test ?_
  | with_reducible refine r_k ?_
  | with_reducible refine r_T ?_
  | with_reducible refine r_F ?_
  | with_reducible refine r_nT ?_
  | with_reducible refine r_nF ?_
  | with_reducible refine r_ret ?_
  | with_reducible refine r_drop ?_
  | with_reducible refine r_next ?_
  | with_reducible refine r_call ?_
  | with_reducible refine r_addI ?_
  | with_reducible refine r_subI ?_
  | with_reducible refine r_ltI ?_
  | with_reducible refine r_gtI ?_
  | with_reducible refine r_leI ?_
  | with_reducible refine r_geI ?_
  | with_reducible refine r_eqI ?_
  | with_reducible refine r_neI ?_
  | with_reducible refine r_int ?_
  | with_reducible refine r_abs ?_
  | with_reducible refine r_not ?_
  | with_reducible refine r_and ?_
  | with_reducible refine r_or ?_
  | with_reducible refine r_tru ?_
  | with_reducible refine r_truB ?_
  | with_reducible refine r_lst ?_
  | with_reducible refine r_tup ?_
  | with_reducible refine r_BM ?_
  | with_reducible refine r_BM0 ?_
  | with_reducible refine r_tyS ?_
  | with_reducible refine r_gsub ?_
  | with_reducible refine r_then ?_
  | with_reducible refine r_lstRg ?_
  | with_reducible refine r_tupRg ?_
  | with_reducible refine r_rg2 ?_
  | with_reducible refine r_rg1 ?_
  | with_reducible refine r_ii ?_
  | with_reducible refine r_i ?_
  | with_reducible refine r_ipI ?_
  | with_reducible refine r_un ?_
  | with_reducible refine r_neg ?_
  | with_reducible refine r_isN ?_
  | with_reducible refine r_notN ?_
  | with_reducible refine r_notV ?_
  | with_reducible refine r_pnot ?_
  | with_reducible refine r_pif ?_
  | with_reducible refine r_andV ?_
  | with_reducible refine r_orV ?_
  | with_reducible refine r_ifE ?_
  | with_reducible refine r_chain ?_
  | with_reducible refine r_sl ?_
  | with_reducible refine r_noPart ?_
  | with_reducible refine r_part ?_
  | with_reducible refine r_brk ?_
  | with_reducible refine r_cont ?_
  | with_reducible refine r_retN ?_
  | with_reducible refine r_truI ?_
  | with_reducible refine r_B ?_
  | with_reducible refine r_for ?_
  | with_reducible refine r_rng1 ?_
  | with_reducible refine r_rng2 ?_
  | with_reducible refine r_rng3 ?_
  | with_reducible refine r_body ?_
  | with_reducible refine r_lc ?_
  | with_reducible refine r_yes ?_
  | ((with_reducible refine' r_mod ?k0 ?_); (case k0 => walk_at "side"))
  | ((with_reducible refine' r_mulI ?k0 ?_); (case k0 => first | exact Or.inl ⟨by omega, by omega⟩ | exact Or.inr ⟨by omega, by omega⟩))
  | ((with_reducible refine' r_lenL ?k0 ?_); (case k0 => walk_at "tk"))
  | ((with_reducible refine' r_lenT ?k0 ?_); (case k0 => walk_at "tk"))
  | ((with_reducible refine' r_truL ?k0 ?_); (case k0 => walk_at "tk"))
  | ((with_reducible refine' r_truT ?k0 ?_); (case k0 => walk_at "tk"))
  | ((with_reducible refine' r_ixL ?k0 ?k1 ?_); (case k0 => walk_at "tk"); (case k1 => first | assumption | rfl))
  | ((with_reducible refine' r_ixT ?k0 ?k1 ?_); (case k0 => walk_at "tk"); (case k1 => first | assumption | rfl))
  | ((with_reducible refine' r_new ?k0 ?_); (case k0 => walk_at "side"))
  | ((with_reducible refine' r_tyL ?k0 ?_); (case k0 => walk_at "tk"))
  | ((with_reducible refine' r_append ?k0 ?k1 ?_); (case k0 => walk_at "tk"); (case k1 => walk_at "side"))
  | ((with_reducible refine' r_setL ?k0 ?k1 ?_); (case k0 => walk_at "tk"); (case k1 => first | assumption | rfl))
  | ((with_reducible refine' r_kTupL ?k0 ?_); (case k0 => walk_at "tk"))
  | ((with_reducible refine' r_kTupT ?k0 ?_); (case k0 => walk_at "tk"))
  | ((with_reducible refine' r_listL ?k0 ?_); (case k0 => walk_at "tk"))
  | ((with_reducible refine' r_listT ?k0 ?_); (case k0 => walk_at "tk"))
  | ((with_reducible refine' r_aug ?k0 ?_); (case k0 => rfl))
  | ((with_reducible refine' r_lenS ?k0 ?_); (case k0 => walk_at "side"))
  | ((with_reducible refine' r_pop ?k0 ?_); (case k0 => walk_at "tk"))
  | ((with_reducible refine' r_pr1 ?k0 ?_); (case k0 => walk_at "rng"))
  | ((with_reducible refine' r_pr2 ?k0 ?_); (case k0 => walk_at "rng"))
  | ((with_reducible refine' r_pr3d ?k0 ?_); (case k0 => walk_at "rng"))
  | ((with_reducible refine' r_isiI ?k0 ?_); (case k0 => walk_at "kit"))
  | ((with_reducible refine' r_isiB ?k0 ?_); (case k0 => walk_at "kit"))
  | ((with_reducible refine' r_isiS ?k0 ?_); (case k0 => walk_at "kit"))
  | ((with_reducible refine' r_isiN ?k0 ?_); (case k0 => walk_at "kit"))
  | ((with_reducible refine' r_isiT ?k0 ?k1 ?_); (case k0 => walk_at "tk"); (case k1 => walk_at "kit"))
  | ((with_reducible refine r_seqT ?_); (repeat (walk_at "rd1")); ((with_reducible refine' r_pseqT ?k0 ?_); (case k0 => walk_at "tk")))
  | ((with_reducible refine r_seqL ?_); (repeat (walk_at "rd1")); ((with_reducible refine' r_pseqL ?k0 ?_); (case k0 => walk_at "tk")))
  | ((with_reducible refine r_seqS ?_); (repeat (walk_at "rd1")); (with_reducible refine r_pseqS ?_)))
local macro_rules | `(tactic| walk_at "rd") => `(tactic| ((repeat (walk_at "rd1")); (try dsimp only)))
local macro_rules | `(tactic| walk_at "rd1") => `(tactic| first
  | with_reducible refine r_BMT ?_
  | with_reducible refine r_par ?_
  | with_reducible refine r_parV ?_
  | ((with_reducible refine' r_ptp ?k0 ?k1 ?_); (case k0 => walk_at "tk"); (case k1 => walk_at "tk"))
  | with_reducible refine r_eqS ?_
  | with_reducible refine r_neS ?_
  | with_reducible refine r_callW ?_
  | with_reducible refine r_try ?_
  | with_reducible refine r_enT ?_
  | ((with_reducible refine' r_pen ?k0 ?_); (case k0 => walk_at "tk")))
local macro_rules | `(tactic| walk_at "pl0") => `(tactic| first
  | assumption
  | exact pl_same (by assumption) (by assumption)
  | exact pl_same (by assumption) (pl_same (by assumption) (by assumption))
  | exact pl_same (by assumption) (pl_same (by assumption) (pl_same (by assumption) (by assumption))))
local macro_rules | `(tactic| walk_at "pl") => `(tactic| first
  | walk_at "pl0"
  | ((with_reducible refine' pl_butL ?s ?n ?k); (case s => assumption); (case n => walk_at "ne"); (case k => walk_at "pl"))
  | ((with_reducible refine' pl_same ?s ?k); (case s => assumption); (case k => walk_at "pl")))
local macro_rules | `(tactic| walk_at "ne") => `(tactic| first
  | exact ne_pl (by assumption) (by walk_at "pl0")
  | exact (ne_pl (by assumption) (by walk_at "pl0")).symm)
local macro_rules | `(tactic| walk_at "fr") => `(tactic| first
  | assumption
  | ((with_reducible refine' free_but ?b ?n ?h); (case h => assumption); (case n => walk_at "ne"); (case b => walk_at "but"))
  | ((with_reducible refine' Same.free ?b ?h); (case h => assumption); (case b => walk_at "same")))
local macro_rules | `(tactic| walk_at "but") => `(tactic| first
  | assumption
  | exact But.refl
  | ((with_reducible refine' But.trans ?a ?b); (case b => assumption); (case a => walk_at "but"))
  | ((with_reducible refine' But.trans ?a (Same.but ?b)); (case b => assumption); (case a => walk_at "but"))
  | ((with_reducible refine' but_via ?a ?b ?c); (case b => assumption); (case c => walk_at "fr"); (case a => walk_at "but")))
local macro_rules | `(tactic| walk_at "same") => `(tactic| first
  | assumption
  | exact Same.refl _
  | ((with_reducible refine' Same.trans ?a ?b); (case b => assumption); (case a => walk_at "same"))
  | ((with_reducible refine' same_but ?a ?b ?c); (case b => assumption); (case c => walk_at "fr"); (case a => walk_at "same")))
local macro_rules | `(tactic| walk_at "tk") => `(tactic| first
  | ((with_reducible refine' sqT_pl ?s ?t ?k); (case s => assumption); (case t => walk_at "pl0"); (case k => walk_at "tk"))
  | ((with_reducible refine' rp_same ?s ?k); (case s => assumption); (case k => walk_at "tk"))
  | ((with_reducible refine' rp_pl ?s ?t ?k); (case s => assumption); (case t => walk_at "pl0"); (case k => walk_at "tk")))
local macro_rules | `(tactic| walk_at "it") => `(tactic| first
  | assumption
  | ((with_reducible refine' sqI_1 ?k); (case k => assumption))
  | ((with_reducible refine' sqI_0 ?k); (case k => assumption))
  | ((with_reducible refine' sqI_of ?k); (case k => assumption))
  | ((with_reducible refine' sqI_D ?k); (case k => assumption))
  | ((with_reducible refine' sqT_same ?s ?k); (case s => assumption); (case k => walk_at "it"))
  | ((with_reducible refine' sqT_but ?s ?t ?k); (case s => assumption); (case t => assumption); (case k => walk_at "it"))
  | ((with_reducible refine' sqT_pl ?s ?t ?k); (case s => assumption); (case t => walk_at "pl0"); (case k => walk_at "it")))
local macro_rules | `(tactic| walk_at "sz") => `(tactic| first | omega | ((try simp only [List.length_cons, List.length_nil] at *); omega))
local macro_rules | `(tactic| walk_at "au1") => `(tactic| first
  | walk_at "rd1"
  | ((with_reducible refine' r_draw ?k0 ?k1 ?k2 ?_); (case k0 => walk_at "pl"); (case k1 => omega); (case k2 => omega); (intro _ _ _ _ _ _))
  | ((with_reducible refine' r_slN ?k0 ?_); (case k0 => walk_at "it"); (intro _ _ _ _ _ _))
  | ((with_reducible refine' r_catN ?k0 ?k1 ?k2 ?_); (case k0 => walk_at "it"); (case k1 => walk_at "it"); (case k2 => walk_at "sz"); (intro _ _ _ _ _ _))
  | ((with_reducible refine' r_pow ?k0 ?_); (case k0 => exact ⟨by decide, by decide, by decide⟩))
  | ((with_reducible refine' r_ixI ?k0 ?k1 ?k2 ?_); (case k0 => walk_at "it"); (case k1 => omega); (case k2 => omega); (intro _ _))
  | ((with_reducible refine' r_setI ?k0 ?k1 ?k2 ?_); (case k0 => walk_at "tk"); (case k1 => omega); (case k2 => omega); (intro _ _ _ _ _))
  | ((with_reducible refine' r_kTupI ?k0 ?_); (case k0 => walk_at "tk"); (intro _ _ _ _ _))
  | ((with_reducible refine' r_listI ?k0 ?_); (case k0 => walk_at "it"); (intro _ _ _ _ _))
  | (with_reducible refine r_revU ?_)
  | ((with_reducible refine' r_prevN ?k0 ?_); (case k0 => walk_at "it"); (intro _ _ _ _ _ _))
  | (intro _ _ _ _ _))
local macro_rules | `(tactic| walk_at "go") => `(tactic| ((repeat (walk_at "au1")); (first
  | ((with_reducible refine r_ite (fun _ => ?_) (fun _ => ?_)) <;> (walk_at "go"))
  | ((with_reducible refine r_iteN (fun _ => ?_) (fun _ => ?_)) <;> (walk_at "go"))
  | dsimp only
  | skip)))
def sp_law_change_draw (K : PySem.W.Frag) : Sp := fun vs H Q _ => ∃ (p : Addr) (n : Nat), vs = [.ref p, .int (n : Int)] ∧ Pl H p ∧ 1 ≤ n ∧ n ≤ 12 ∧ ∀ a H' cs, H a = none → But p H H' → Pl H' p → SqT K H' a (cs.map V.int) → Chg n cs → Q (.ref a) H'
abbrev N_law_change_draw : List Str := ["pool", "stage", "out", "place", "k"]
def t_law_change_draw (K : PySem.W.Frag) : TS :=
  tSeq (tAsg ((tLst tNil)) (gName 2))
  (tSeq (tAsg ((tC (.int 1))) (gName 3))
  (tSeq (tFor (iRng1 (tCons (tVar 1) tNil)) (gName 4) ((tIfS ((tTest (tOp (rEqU K) (tVar 3) (tVar 1)))) (tSeq (tDrop ((tBM K "list" rAppend (tVar 2) (tCons (tVar 3) tNil))))
  ((tAsg ((tOp (rAddU K) (tVar 3) ((tC (.int 1))))) (gName 3)))) ((tIfS ((tTest (tOp (rLtU K) (tVar 3) (tVar 1)))) ((tIfS ((tTest (tOp (rEqU K) ((tCall (sp_law_draw K) [] E0 (tCons (tVar 0) (tCons ((tC (.int 2))) tNil)))) ((tC (.int 0)))))) (tSeq (tDrop ((tBM K "list" rAppend (tVar 2) (tCons (tVar 3) tNil))))
  ((tAsg ((tOp (rAddU K) (tVar 3) ((tC (.int 1))))) (gName 3)))) ((tAsg ((tOp (rAddU K) (tVar 3) ((tC (.int 2))))) (gName 3))))) (tNext))))))
  ((tRet ((tThen (tVar 2) (kTupD K)))))))
section
variable {K : PySem.W.Frag} {ec : Str → Addr} {ns : List Str} {vs : List V} {H : Hp} {Q : VK} {E : XK}
theorem len_law_change_draw (h : sp_law_change_draw K vs H Q E) : vs.length = 2 := by obtain ⟨s, d, rfl, _⟩ := h; rfl
theorem sizes_ints : ∀ cs : List Int, Dat.sizes (cs.map Dat.int) = cs.length
  | [] => rfl
  | c :: r => by
    show (Dat.int c).size + Dat.sizes (r.map Dat.int) = _
    rw [sizes_ints r, List.length_cons]
    show 1 + _ = _
    omega
theorem size_row (cs : List Int) : (Dat.tup (cs.map Dat.int)).size = cs.length + 1 := by
  show 1 + Dat.sizes (cs.map Dat.int) = _
  rw [sizes_ints]; omega
theorem sgn_at {x : Int} (h1 : 1 ≤ x) (h2 : x ≤ 12) : atI signsL (x - 1) = some (sgAt x) := by
  have hl : (x - 1).toNat < signsL.length := by show _ < 12; omega
  have := atI_nat (xs := signsL) (j := (x - 1).toNat) (v := sgAt x) (by unfold sgAt; rw [List.getD_eq_getElem?_getD, List.getElem?_eq_getElem hl]; rfl)
  rw [show (((x - 1).toNat : Nat) : Int) = x - 1 by omega] at this
  exact this
theorem signs_S : ("1234567890ET" : Str) = S signsL := by
  have := S_tl ("1234567890ET" : Str)
  rw [signs_tl] at this
  exact this.symm
theorem elt_sign {σ : L2.St} {j : Nat} {x : Int} {H : Hp} {Q : VK} (hσ : σ[j]? = some (some (.int x))) (h1 : 1 ≤ x) (h2 : x ≤ 12) (q : Q (.str (S [sgAt x])) H) :
    (tOp (rIx K) (tC (.str "1234567890ET")) (tOp rSubU (tVar j) (tC (.int 1)))) σ H Q := by
  refine r_op (r_c (r_op (r_var hσ (r_c (r_subI ?_)))))
  rw [signs_S]
  exact r_ixSS (by decide) (sgn_at h1 h2) q
theorem lc_signsT {σ : L2.St} {j : Nat} {a : Addr} {cs : List Int} {H : Hp} {Q : VK} (hj : j < σ.length) (h : SqT K H a (cs.map V.int)) (hm : ∀ x ∈ cs, 1 ≤ x ∧ x ≤ 12) (hl : cs.length ≤ 1000)
    (hd : ∀ p H', H p = none → Same H H' → H' p = some (.lst (cs.map fun x => V.str (S [sgAt x]))) → Q (.ref p) H') : PLc (Itt K a) (gName j) tYes (tOp (rIx K) (tC (.str "1234567890ET")) (tOp rSubU (tVar j) (tC (.int 1)))) [j] σ H Q := by
  refine r_lcT (xs := cs.map V.int) (fun D i H' => H D = none ∧ Same H H' ∧ H' D = some (.lst ((cs.take i).map fun x => V.str (S [sgAt x]))))
    (fun x => by show ((σ.set j none).set j (some x)).set j none = σ.set j none; rw [List.set_set, List.set_set]) (fun D H' hD s e => ⟨hD, s, e⟩) (fun D i H' q => sqT_same q.2.1 h) (fun D i x H' hi q => ?_) (fun D H' hD q => ?_)
  · obtain ⟨hD, s, e⟩ := q
    rw [List.getElem?_map] at hi
    obtain ⟨y, hy, rfl⟩ := Option.map_eq_some_iff.mp hi
    have hy2 := hm y (List.mem_of_getElem? hy)
    refine r_yes (r_T ?_)
    refine elt_sign (x := y) (List.getElem?_set_self (by show j < (σ.set j none).length; rw [List.length_set]; exact hj)) hy2.1 hy2.2 ?_
    refine r_acc e (by rw [List.length_map, List.length_take]; omega) fun H5 b5 e5 => ⟨hD, same_but s b5 hD, ?_⟩
    rw [e5, List.take_add_one, hy, List.map_append]
    rfl
  · obtain ⟨_, s, e⟩ := q
    rw [List.length_map, List.take_length] at e
    exact hd D H' hD s e
theorem flat_one {α : Type} (f : Int → α) : ∀ cs : List Int, (cs.map fun x => [f x]).flatten = cs.map f
  | [] => rfl
  | c :: r => by rw [List.map_cons, List.flatten_cons, flat_one f r]; rfl
theorem join_signs {a : Addr} {cs : List Int} {H : Hp} {Q : VK} (h : H a = some (.lst (cs.map fun x => V.str (S [sgAt x])))) (hl : cs.length ≤ 1000) (q : Q (.str (S (cs.map sgAt))) H) : rJoin K (.str "") [.ref a] H Q := by
  have e : ((cs.map fun x => [sgAt x]).map fun y => V.str (S y)) = cs.map fun x => V.str (S [sgAt x]) := by rw [List.map_map]; rfl
  refine r_join (ys := cs.map fun x => [sgAt x]) (sqL_of (by rw [e]; exact h)) ?_ ?_
  · rw [flat_one, List.length_map]; omega
  · rw [flat_one]; exact q
theorem pure_law_change_draw (h : sp_law_change_draw K vs H Q E) : t_law_change_draw K (En Q) (start N_law_change_draw vs) H := by
  obtain ⟨p, n, rfl, hp, h1, h2, q⟩ := h
  unfold t_law_change_draw
  walk_at "rd"
  intro o H1 no s1 e1
  have po : o ≠ p := ne_pl no hp
  walk_at "rd"
  rw [Int.toNat_natCast]
  refine r_forRange0 (fun i σ' H' => ∃ (cs : List Int) (P : Int) (z4 : Option V), σ' = [some (.ref p), some (.int (n : Int)), some (.ref o), some (.int P), z4] ∧ But p H H' ∧ Pl H' p ∧ H' o = some (.lst (cs.map V.int)) ∧ okC n 0 cs = true ∧ lastC 0 cs < P ∧ P ≤ n + 1 ∧ (P - 1 - lastC 0 cs) % 2 = 0 ∧ (i : Int) + 1 ≤ P ∧ cs.length ≤ i)
    ⟨[], 1, none, rfl, Same.but s1, pl_same s1 hp, e1, rfl, by show (0 : Int) < 1; decide, by omega, rfl, by omega, Nat.le_refl _⟩ (fun i σ' H' hi hW => ?_) (fun σ' H' hW => ?_)
  · obtain ⟨cs, P, z4, rfl, bt, hp', eo, ok, c1, c2, c3, c4, c5⟩ := hW
    have nH : H o = none := no
    have app : ∀ (H2 : Hp), But p H' H2 → Pl H2 p → P ≤ n → ∀ H3, But o H2 H3 → H3 o = some (.lst (cs.map V.int ++ [.int P])) → ∃ (cs : List Int) (P' : Int) (z4 : Option V), ([some (.ref p), some (.int (n : Int)), some (.ref o), some (.int (P + 1)), some (.int (i : Int))] : L2.St) = [some (.ref p), some (.int (n : Int)), some (.ref o), some (.int P'), z4] ∧ But p H H3 ∧ Pl H3 p ∧ H3 o = some (.lst (cs.map V.int)) ∧ okC n 0 cs = true ∧ lastC 0 cs < P' ∧ P' ≤ n + 1 ∧ (P' - 1 - lastC 0 cs) % 2 = 0 ∧ ((i + 1 : Nat) : Int) + 1 ≤ P' ∧ cs.length ≤ i + 1 := by
      intro H2 b2 hp2 hP H3 b3 e3
      refine ⟨cs ++ [P], P + 1, _, rfl, but_via (bt.trans b2) b3 nH, pl_butL b3 po.symm hp2, by rw [e3, List.map_append]; rfl, okC_snoc.mpr ⟨ok, c1, hP, by omega⟩, ?_, by omega, ?_, by omega, by rw [List.length_append]; simp; exact c5⟩
      · rw [lastC_snoc]; omega
      · rw [lastC_snoc]; omega
    walk_at "rd"
    refine r_ite (fun h0 => ?_) (fun h0 => ?_)
    · walk_at "rd"
      intro H3 b3 e3
      walk_at "rd"
      exact app H' But.refl hp' (by omega) H3 b3 e3
    · walk_at "rd"
      refine r_ite (fun h3 => ?_) (fun h3 => ?_)
      · walk_at "rd"
        refine r_draw hp' (by omega) (by omega) fun v H2 v0 v1 b2 hp2 => ?_
        have eo2 := b2 _ _ po eo
        walk_at "rd"
        refine r_ite (fun h4 => ?_) (fun h4 => ?_)
        · walk_at "rd"
          intro H3 b3 e3
          walk_at "rd"
          exact app H2 b2 hp2 (by omega) H3 b3 e3
        · walk_at "rd"
          exact ⟨cs, P + 2, _, rfl, bt.trans b2, hp2, eo2, ok, by omega, by omega, by omega, by omega, by omega⟩
      · walk_at "rd"
        exact ⟨cs, P, _, rfl, bt, hp', eo, ok, c1, c2, c3, by omega, by omega⟩
  · obtain ⟨cs, P, z4, rfl, bt, hp', eo, ok, c1, c2, c3, c4, c5⟩ := hW
    walk_at "rd"
    intro t H3 nt s3 e3
    have tp : t ≠ p := ne_pl nt hp'
    refine q t H3 cs (free_but bt tp nt) (bt.trans (Same.but s3)) (pl_same s3 hp') (sqT_ofD e3) (isC_iff.mpr ⟨ok, ?_⟩)
    omega
end
end Kb
set_option linter.all false
set_option maxRecDepth 100000
namespace Kb
namespace K8
abbrev St := List Int × Int
end K8
end Kb
namespace Kb
namespace K8
end K8
end Kb
set_option Elab.async false
set_option linter.all false
set_option maxRecDepth 100000
set_option maxHeartbeats 4000000
namespace Kb
namespace K8
open PySem PySem.Spec PyProof.Rows L2 SX
local macro_rules | `(tactic| walk_at "tk") => `(tactic| first
  | assumption
  | ((with_reducible refine' sqT_of ?k); (case k => assumption))
  | ((with_reducible refine' sqT_ofD ?k); (case k => assumption))
  | ((with_reducible refine' noD_of ?k); (case k => assumption))
  | ((with_reducible refine' noD_same ?s ?k); (case s => assumption); (case k => walk_at "tk"))
  | ((with_reducible refine' sqL_of ?k); (case k => assumption))
  | ((with_reducible refine' sqT_same ?s ?k); (case s => assumption); (case k => walk_at "tk"))
  | ((with_reducible refine' sqL_same ?s ?k); (case s => assumption); (case k => walk_at "tk"))
  | ((with_reducible refine' sqT_but ?s ?t ?k); (case s => assumption); (case t => walk_at "tk"); (case k => walk_at "tk"))
  | ((with_reducible refine' sqL_but ?s ?t ?k); (case s => assumption); (case t => walk_at "ne"); (case k => walk_at "tk"))
  | ((with_reducible refine' sqL_of ?k); (case k => walk_at "tk"))
  | ((with_reducible refine' sqT_of ?k); (case k => walk_at "tk"))
  | ((with_reducible refine' at_same ?s ?k); (case s => assumption); (case k => walk_at "tk"))
  | ((with_reducible refine' at_but ?s ?t ?k); (case s => assumption); (case t => walk_at "ne"); (case k => walk_at "tk")))
local macro_rules | `(tactic| walk_at "ne") => `(tactic| first
  | assumption
  | (refine Ne.symm ?_; assumption)
  | exact ne_of_none (by assumption) (by assumption)
  | exact (ne_of_none (by assumption) (by assumption)).symm)
local macro_rules | `(tactic| walk_at "side") => `(tactic| first
  | assumption
  | omega
  | (simp only [sizeLine_eq, List.length_cons, List.length_nil, List.length_map]; omega)
  | (show _ ≤ sizeLine; decide))
local macro_rules | `(tactic| walk_at "kit") => `(tactic| first
  | (show kitB _ _ = some true; decide +kernel)
  | (show kitB _ _ = some false; decide +kernel))
local macro_rules | `(tactic| walk_at "rng") => `(tactic| first
  | (refine ⟨by omega, by omega, by omega, by omega⟩)
  | (refine ⟨by omega, by omega⟩)
  | ((simp only [List.length_map]); (refine ⟨by omega, by omega, by omega, by omega⟩))
  | ((simp only [List.length_map]); (refine ⟨by omega, by omega⟩)))
local macro_rules | `(tactic| walk_at "rd1") => `(tactic| first
  | with_reducible refine r_seq ?_
  | ((with_reducible refine' r_var ?k0 ?_); (case k0 => rfl))
  | with_reducible refine r_op ?_
  | with_reducible refine r_c ?_
  | with_reducible refine r_asg ?_
  | with_reducible refine r_name ?_
  | with_reducible refine r_cons ?_
  | with_reducible refine r_nil ?_
  | with_reducible refine r_CB ?_
  | with_reducible refine r_if ?_
  | with_reducible refine r_test ?_
  | with_reducible refine r_k ?_
  | with_reducible refine r_T ?_
  | with_reducible refine r_F ?_
  | with_reducible refine r_nT ?_
  | with_reducible refine r_nF ?_
  | with_reducible refine r_ret ?_
  | with_reducible refine r_drop ?_
  | with_reducible refine r_next ?_
  | with_reducible refine r_call ?_
  | with_reducible refine r_addI ?_
  | with_reducible refine r_subI ?_
  | with_reducible refine r_ltI ?_
  | with_reducible refine r_gtI ?_
  | with_reducible refine r_leI ?_
  | with_reducible refine r_geI ?_
  | with_reducible refine r_eqI ?_
  | with_reducible refine r_neI ?_
  | with_reducible refine r_int ?_
  | with_reducible refine r_abs ?_
  | with_reducible refine r_not ?_
  | with_reducible refine r_and ?_
  | with_reducible refine r_or ?_
  | with_reducible refine r_tru ?_
  | with_reducible refine r_truB ?_
  | with_reducible refine r_lst ?_
  | with_reducible refine r_tup ?_
  | with_reducible refine r_BM ?_
  | with_reducible refine r_BM0 ?_
  | with_reducible refine r_tyS ?_
  | with_reducible refine r_gsub ?_
  | with_reducible refine r_then ?_
  | with_reducible refine r_lstRg ?_
  | with_reducible refine r_tupRg ?_
  | with_reducible refine r_rg2 ?_
  | with_reducible refine r_rg1 ?_
  | with_reducible refine r_ii ?_
  | with_reducible refine r_i ?_
  | with_reducible refine r_ipI ?_
  | with_reducible refine r_un ?_
  | with_reducible refine r_neg ?_
  | with_reducible refine r_isN ?_
  | with_reducible refine r_notN ?_
  | with_reducible refine r_notV ?_
  | with_reducible refine r_pnot ?_
  | with_reducible refine r_pif ?_
  | with_reducible refine r_andV ?_
  | with_reducible refine r_orV ?_
  | with_reducible refine r_ifE ?_
  | with_reducible refine r_chain ?_
  | with_reducible refine r_sl ?_
  | with_reducible refine r_noPart ?_
  | with_reducible refine r_part ?_
  | with_reducible refine r_brk ?_
  | with_reducible refine r_cont ?_
  | with_reducible refine r_retN ?_
  | with_reducible refine r_truI ?_
  | with_reducible refine r_B ?_
  | with_reducible refine r_for ?_
  | with_reducible refine r_rng1 ?_
  | with_reducible refine r_rng2 ?_
  | with_reducible refine r_rng3 ?_
  | with_reducible refine r_body ?_
  | with_reducible refine r_lc ?_
  | with_reducible refine r_yes ?_
  | ((with_reducible refine' r_mod ?k0 ?_); (case k0 => walk_at "side"))
  | ((with_reducible refine' r_mulI ?k0 ?_); (case k0 => first | exact Or.inl ⟨by omega, by omega⟩ | exact Or.inr ⟨by omega, by omega⟩))
  | ((with_reducible refine' r_lenL ?k0 ?_); (case k0 => walk_at "tk"))
  | ((with_reducible refine' r_lenT ?k0 ?_); (case k0 => walk_at "tk"))
  | ((with_reducible refine' r_truL ?k0 ?_); (case k0 => walk_at "tk"))
  | ((with_reducible refine' r_truT ?k0 ?_); (case k0 => walk_at "tk"))
  | ((with_reducible refine' r_ixL ?k0 ?k1 ?_); (case k0 => walk_at "tk"); (case k1 => first | assumption | rfl))
  | ((with_reducible refine' r_ixT ?k0 ?k1 ?_); (case k0 => walk_at "tk"); (case k1 => first | assumption | rfl))
  | ((with_reducible refine' r_new ?k0 ?_); (case k0 => walk_at "side"))
  | ((with_reducible refine' r_tyL ?k0 ?_); (case k0 => walk_at "tk"))
  | ((with_reducible refine' r_append ?k0 ?k1 ?_); (case k0 => walk_at "tk"); (case k1 => walk_at "side"))
  | ((with_reducible refine' r_setL ?k0 ?k1 ?_); (case k0 => walk_at "tk"); (case k1 => first | assumption | rfl))
  | ((with_reducible refine' r_kTupL ?k0 ?_); (case k0 => walk_at "tk"))
  | ((with_reducible refine' r_kTupT ?k0 ?_); (case k0 => walk_at "tk"))
  | ((with_reducible refine' r_listL ?k0 ?_); (case k0 => walk_at "tk"))
  | ((with_reducible refine' r_listT ?k0 ?_); (case k0 => walk_at "tk"))
  | ((with_reducible refine' r_aug ?k0 ?_); (case k0 => rfl))
  | ((with_reducible refine' r_lenS ?k0 ?_); (case k0 => walk_at "side"))
  | ((with_reducible refine' r_pop ?k0 ?_); (case k0 => walk_at "tk"))
  | ((with_reducible refine' r_pr1 ?k0 ?_); (case k0 => walk_at "rng"))
  | ((with_reducible refine' r_pr2 ?k0 ?_); (case k0 => walk_at "rng"))
  | ((with_reducible refine' r_pr3d ?k0 ?_); (case k0 => walk_at "rng"))
  | ((with_reducible refine' r_isiI ?k0 ?_); (case k0 => walk_at "kit"))
  | ((with_reducible refine' r_isiB ?k0 ?_); (case k0 => walk_at "kit"))
  | ((with_reducible refine' r_isiS ?k0 ?_); (case k0 => walk_at "kit"))
  | ((with_reducible refine' r_isiN ?k0 ?_); (case k0 => walk_at "kit"))
  | ((with_reducible refine' r_isiT ?k0 ?k1 ?_); (case k0 => walk_at "tk"); (case k1 => walk_at "kit"))
  | ((with_reducible refine r_seqT ?_); (repeat (walk_at "rd1")); ((with_reducible refine' r_pseqT ?k0 ?_); (case k0 => walk_at "tk")))
  | ((with_reducible refine r_seqL ?_); (repeat (walk_at "rd1")); ((with_reducible refine' r_pseqL ?k0 ?_); (case k0 => walk_at "tk")))
  | ((with_reducible refine r_seqS ?_); (repeat (walk_at "rd1")); (with_reducible refine r_pseqS ?_)))
local macro_rules | `(tactic| walk_at "rd") => `(tactic| ((repeat (walk_at "rd1")); (try dsimp only)))
local macro_rules | `(tactic| walk_at "rd1") => `(tactic| first
  | with_reducible refine r_BMT ?_
  | with_reducible refine r_par ?_
  | with_reducible refine r_parV ?_
  | ((with_reducible refine' r_ptp ?k0 ?k1 ?_); (case k0 => walk_at "tk"); (case k1 => walk_at "tk"))
  | with_reducible refine r_eqS ?_
  | with_reducible refine r_neS ?_
  | with_reducible refine r_callW ?_
  | with_reducible refine r_try ?_
  | with_reducible refine r_enT ?_
  | ((with_reducible refine' r_pen ?k0 ?_); (case k0 => walk_at "tk")))
local macro_rules | `(tactic| walk_at "pl0") => `(tactic| first
  | assumption
  | exact pl_same (by assumption) (by assumption)
  | exact pl_same (by assumption) (pl_same (by assumption) (by assumption))
  | exact pl_same (by assumption) (pl_same (by assumption) (pl_same (by assumption) (by assumption))))
local macro_rules | `(tactic| walk_at "pl") => `(tactic| first
  | walk_at "pl0"
  | ((with_reducible refine' pl_butL ?s ?n ?k); (case s => assumption); (case n => walk_at "ne"); (case k => walk_at "pl"))
  | ((with_reducible refine' pl_same ?s ?k); (case s => assumption); (case k => walk_at "pl")))
local macro_rules | `(tactic| walk_at "ne") => `(tactic| first
  | exact ne_pl (by assumption) (by walk_at "pl0")
  | exact (ne_pl (by assumption) (by walk_at "pl0")).symm)
local macro_rules | `(tactic| walk_at "fr") => `(tactic| first
  | assumption
  | ((with_reducible refine' free_but ?b ?n ?h); (case h => assumption); (case n => walk_at "ne"); (case b => walk_at "but"))
  | ((with_reducible refine' Same.free ?b ?h); (case h => assumption); (case b => walk_at "same")))
local macro_rules | `(tactic| walk_at "but") => `(tactic| first
  | assumption
  | exact But.refl
  | ((with_reducible refine' But.trans ?a ?b); (case b => assumption); (case a => walk_at "but"))
  | ((with_reducible refine' But.trans ?a (Same.but ?b)); (case b => assumption); (case a => walk_at "but"))
  | ((with_reducible refine' but_via ?a ?b ?c); (case b => assumption); (case c => walk_at "fr"); (case a => walk_at "but")))
local macro_rules | `(tactic| walk_at "same") => `(tactic| first
  | assumption
  | exact Same.refl _
  | ((with_reducible refine' Same.trans ?a ?b); (case b => assumption); (case a => walk_at "same"))
  | ((with_reducible refine' same_but ?a ?b ?c); (case b => assumption); (case c => walk_at "fr"); (case a => walk_at "same")))
local macro_rules | `(tactic| walk_at "tk") => `(tactic| first
  | ((with_reducible refine' sqT_pl ?s ?t ?k); (case s => assumption); (case t => walk_at "pl0"); (case k => walk_at "tk"))
  | ((with_reducible refine' rp_same ?s ?k); (case s => assumption); (case k => walk_at "tk"))
  | ((with_reducible refine' rp_pl ?s ?t ?k); (case s => assumption); (case t => walk_at "pl0"); (case k => walk_at "tk")))
local macro_rules | `(tactic| walk_at "it") => `(tactic| first
  | assumption
  | ((with_reducible refine' sqI_1 ?k); (case k => assumption))
  | ((with_reducible refine' sqI_0 ?k); (case k => assumption))
  | ((with_reducible refine' sqI_of ?k); (case k => assumption))
  | ((with_reducible refine' sqI_D ?k); (case k => assumption))
  | ((with_reducible refine' sqT_same ?s ?k); (case s => assumption); (case k => walk_at "it"))
  | ((with_reducible refine' sqT_but ?s ?t ?k); (case s => assumption); (case t => assumption); (case k => walk_at "it"))
  | ((with_reducible refine' sqT_pl ?s ?t ?k); (case s => assumption); (case t => walk_at "pl0"); (case k => walk_at "it")))
local macro_rules | `(tactic| walk_at "sz") => `(tactic| first | omega | ((try simp only [List.length_cons, List.length_nil] at *); omega))
local macro_rules | `(tactic| walk_at "au1") => `(tactic| first
  | walk_at "rd1"
  | ((with_reducible refine' r_draw ?k0 ?k1 ?k2 ?_); (case k0 => walk_at "pl"); (case k1 => omega); (case k2 => omega); (intro _ _ _ _ _ _))
  | ((with_reducible refine' r_slN ?k0 ?_); (case k0 => walk_at "it"); (intro _ _ _ _ _ _))
  | ((with_reducible refine' r_catN ?k0 ?k1 ?k2 ?_); (case k0 => walk_at "it"); (case k1 => walk_at "it"); (case k2 => walk_at "sz"); (intro _ _ _ _ _ _))
  | ((with_reducible refine' r_pow ?k0 ?_); (case k0 => exact ⟨by decide, by decide, by decide⟩))
  | ((with_reducible refine' r_ixI ?k0 ?k1 ?k2 ?_); (case k0 => walk_at "it"); (case k1 => omega); (case k2 => omega); (intro _ _))
  | ((with_reducible refine' r_setI ?k0 ?k1 ?k2 ?_); (case k0 => walk_at "tk"); (case k1 => omega); (case k2 => omega); (intro _ _ _ _ _))
  | ((with_reducible refine' r_kTupI ?k0 ?_); (case k0 => walk_at "tk"); (intro _ _ _ _ _))
  | ((with_reducible refine' r_listI ?k0 ?_); (case k0 => walk_at "it"); (intro _ _ _ _ _))
  | (with_reducible refine r_revU ?_)
  | ((with_reducible refine' r_prevN ?k0 ?_); (case k0 => walk_at "it"); (intro _ _ _ _ _ _))
  | (intro _ _ _ _ _))
local macro_rules | `(tactic| walk_at "go") => `(tactic| ((repeat (walk_at "au1")); (first
  | ((with_reducible refine r_ite (fun _ => ?_) (fun _ => ?_)) <;> (walk_at "go"))
  | ((with_reducible refine r_iteN (fun _ => ?_) (fun _ => ?_)) <;> (walk_at "go"))
  | dsimp only
  | skip)))
/-- the values ys are tuples of ints, css -/
def TL (K : PySem.W.Frag) (H : Hp) (ys : List V) (css : List (List Int)) : Prop := ∃ bs : List VR, ys = bs.map (·.1) ∧ css = bs.map (·.2) ∧ ∀ b ∈ bs, ∃ t : Addr, b.1 = .ref t ∧ SqT K H t (b.2.map V.int)
section
variable {K : PySem.W.Frag} {ec : Str → Addr} {ns : List Str} {vs : List V} {H H' : Hp} {Q : VK} {E : XK} {ys zs : List V} {css dss : List (List Int)} {l a : Addr}
theorem TL.keep (k : TK K H H') (h : TL K H ys css) : TL K H' ys css := by
  obtain ⟨bs, e1, e2, h⟩ := h
  exact ⟨bs, e1, e2, fun b hb => by obtain ⟨t, e, s⟩ := h b hb; exact ⟨t, e, k _ _ s⟩⟩
theorem TL.same (s : Same H H') (h : TL K H ys css) : TL K H' ys css := h.keep (tk_same s)
theorem TL.but {xs : List V} (b : But l H H') (hl : H l = some (.lst xs)) (h : TL K H ys css) : TL K H' ys css := h.keep (tk_but b hl)
theorem TL.nil : TL K H [] [] := ⟨[], rfl, rfl, fun _ h => (nomatch h)⟩
theorem TL.app (h : TL K H ys css) (h2 : TL K H zs dss) : TL K H (ys ++ zs) (css ++ dss) := by
  obtain ⟨bs, rfl, rfl, h⟩ := h
  obtain ⟨ds, rfl, rfl, h2⟩ := h2
  refine ⟨bs ++ ds, List.map_append.symm, List.map_append.symm, fun b hb => ?_⟩
  rcases List.mem_append.mp hb with z | z
  · exact h b z
  · exact h2 b z
theorem TL.one {t : Addr} {c : List Int} (h : SqT K H t (c.map V.int)) : TL K H [.ref t] [c] := ⟨[(.ref t, c)], rfl, rfl, fun b hb => by rw [List.mem_singleton] at hb; subst hb; exact ⟨t, rfl, h⟩⟩
theorem TL.len (h : TL K H ys css) : ys.length = css.length := by
  obtain ⟨bs, rfl, rfl, h⟩ := h
  rw [List.length_map, List.length_map]
theorem TL.get {i : Nat} {x : V} (h : TL K H ys css) (hi : ys[i]? = some x) : ∃ (t : Addr) (c : List Int), x = .ref t ∧ css[i]? = some c ∧ SqT K H t (c.map V.int) := by
  obtain ⟨bs, rfl, rfl, h⟩ := h
  rw [List.getElem?_map] at hi
  obtain ⟨b, hb, rfl⟩ := Option.map_eq_some_iff.mp hi
  obtain ⟨t, e, s⟩ := h b (List.mem_of_getElem? hb)
  exact ⟨t, b.2, e, by rw [List.getElem?_map, hb]; rfl, s⟩
theorem TL.rp {p : Addr} (hp : SqT K H p ys) (h : TL K H ys css) : Rp K H (.ref p) (.tup (css.map fun c => .tup (c.map .int))) := by
  refine .tup hp ?_
  obtain ⟨bs, rfl, rfl, h⟩ := h
  clear hp
  induction bs with
  | nil => exact .nil
  | cons b bs ih =>
    obtain ⟨t, e, s⟩ := h b (by simp)
    refine .cons ?_ (ih fun c hc => h c (by simp [hc]))
    show Rp K H b.1 _
    rw [e]; exact rp_ints s
theorem TL.refs (h : TL K H ys css) : ∀ x ∈ ys, ∃ t : Addr, x = .ref t := fun x hx => by
  obtain ⟨bs, rfl, rfl, h⟩ := h
  obtain ⟨b, hb, rfl⟩ := List.mem_map.mp hx
  obtain ⟨t, e, _⟩ := h b hb
  exact ⟨t, e⟩
end
end K8
end Kb
set_option Elab.async false
set_option linter.all false
set_option maxRecDepth 100000
set_option maxHeartbeats 4000000
namespace Kb
namespace K11
open PySem PySem.Spec PyProof.Rows L2 SX
open K8 (TL)
local macro_rules | `(tactic| walk_at "tk") => `(tactic| first
  | assumption
  | ((with_reducible refine' sqT_of ?k); (case k => assumption))
  | ((with_reducible refine' sqT_ofD ?k); (case k => assumption))
  | ((with_reducible refine' noD_of ?k); (case k => assumption))
  | ((with_reducible refine' noD_same ?s ?k); (case s => assumption); (case k => walk_at "tk"))
  | ((with_reducible refine' sqL_of ?k); (case k => assumption))
  | ((with_reducible refine' sqT_same ?s ?k); (case s => assumption); (case k => walk_at "tk"))
  | ((with_reducible refine' sqL_same ?s ?k); (case s => assumption); (case k => walk_at "tk"))
  | ((with_reducible refine' sqT_but ?s ?t ?k); (case s => assumption); (case t => walk_at "tk"); (case k => walk_at "tk"))
  | ((with_reducible refine' sqL_but ?s ?t ?k); (case s => assumption); (case t => walk_at "ne"); (case k => walk_at "tk"))
  | ((with_reducible refine' sqL_of ?k); (case k => walk_at "tk"))
  | ((with_reducible refine' sqT_of ?k); (case k => walk_at "tk"))
  | ((with_reducible refine' at_same ?s ?k); (case s => assumption); (case k => walk_at "tk"))
  | ((with_reducible refine' at_but ?s ?t ?k); (case s => assumption); (case t => walk_at "ne"); (case k => walk_at "tk")))
local macro_rules | `(tactic| walk_at "ne") => `(tactic| first
  | assumption
  | (refine Ne.symm ?_; assumption)
  | exact ne_of_none (by assumption) (by assumption)
  | exact (ne_of_none (by assumption) (by assumption)).symm)
local macro_rules | `(tactic| walk_at "side") => `(tactic| first
  | assumption
  | omega
  | (simp only [sizeLine_eq, List.length_cons, List.length_nil, List.length_map]; omega)
  | (show _ ≤ sizeLine; decide))
local macro_rules | `(tactic| walk_at "kit") => `(tactic| first
  | (show kitB _ _ = some true; decide +kernel)
  | (show kitB _ _ = some false; decide +kernel))
local macro_rules | `(tactic| walk_at "rng") => `(tactic| first
  | (refine ⟨by omega, by omega, by omega, by omega⟩)
  | (refine ⟨by omega, by omega⟩)
  | ((simp only [List.length_map]); (refine ⟨by omega, by omega, by omega, by omega⟩))
  | ((simp only [List.length_map]); (refine ⟨by omega, by omega⟩)))
local macro_rules | `(tactic| walk_at "rd1") => `(tactic| first
  | with_reducible refine r_seq ?_
  | ((with_reducible refine' r_var ?k0 ?_); (case k0 => rfl))
  | with_reducible refine r_op ?_
  | with_reducible refine r_c ?_
  | with_reducible refine r_asg ?_
  | with_reducible refine r_name ?_
  | with_reducible refine r_cons ?_
  | with_reducible refine r_nil ?_
  | with_reducible refine r_CB ?_
  | with_reducible refine r_if ?_
  | with_reducible refine r_test ?_
  | with_reducible refine r_k ?_
  | with_reducible refine r_T ?_
  | with_reducible refine r_F ?_
  | with_reducible refine r_nT ?_
  | with_reducible refine r_nF ?_
  | with_reducible refine r_ret ?_
  | with_reducible refine r_drop ?_
  | with_reducible refine r_next ?_
  | with_reducible refine r_call ?_
  | with_reducible refine r_addI ?_
  | with_reducible refine r_subI ?_
  | with_reducible refine r_ltI ?_
  | with_reducible refine r_gtI ?_
  | with_reducible refine r_leI ?_
  | with_reducible refine r_geI ?_
  | with_reducible refine r_eqI ?_
  | with_reducible refine r_neI ?_
  | with_reducible refine r_int ?_
  | with_reducible refine r_abs ?_
  | with_reducible refine r_not ?_
  | with_reducible refine r_and ?_
  | with_reducible refine r_or ?_
  | with_reducible refine r_tru ?_
  | with_reducible refine r_truB ?_
  | with_reducible refine r_lst ?_
  | with_reducible refine r_tup ?_
  | with_reducible refine r_BM ?_
  | with_reducible refine r_BM0 ?_
  | with_reducible refine r_tyS ?_
  | with_reducible refine r_gsub ?_
  | with_reducible refine r_then ?_
  | with_reducible refine r_lstRg ?_
  | with_reducible refine r_tupRg ?_
  | with_reducible refine r_rg2 ?_
  | with_reducible refine r_rg1 ?_
  | with_reducible refine r_ii ?_
  | with_reducible refine r_i ?_
  | with_reducible refine r_ipI ?_
  | with_reducible refine r_un ?_
  | with_reducible refine r_neg ?_
  | with_reducible refine r_isN ?_
  | with_reducible refine r_notN ?_
  | with_reducible refine r_notV ?_
  | with_reducible refine r_pnot ?_
  | with_reducible refine r_pif ?_
  | with_reducible refine r_andV ?_
  | with_reducible refine r_orV ?_
  | with_reducible refine r_ifE ?_
  | with_reducible refine r_chain ?_
  | with_reducible refine r_sl ?_
  | with_reducible refine r_noPart ?_
  | with_reducible refine r_part ?_
  | with_reducible refine r_brk ?_
  | with_reducible refine r_cont ?_
  | with_reducible refine r_retN ?_
  | with_reducible refine r_truI ?_
  | with_reducible refine r_B ?_
  | with_reducible refine r_for ?_
  | with_reducible refine r_rng1 ?_
  | with_reducible refine r_rng2 ?_
  | with_reducible refine r_rng3 ?_
  | with_reducible refine r_body ?_
  | with_reducible refine r_lc ?_
  | with_reducible refine r_yes ?_
  | ((with_reducible refine' r_mod ?k0 ?_); (case k0 => walk_at "side"))
  | ((with_reducible refine' r_mulI ?k0 ?_); (case k0 => first | exact Or.inl ⟨by omega, by omega⟩ | exact Or.inr ⟨by omega, by omega⟩))
  | ((with_reducible refine' r_lenL ?k0 ?_); (case k0 => walk_at "tk"))
  | ((with_reducible refine' r_lenT ?k0 ?_); (case k0 => walk_at "tk"))
  | ((with_reducible refine' r_truL ?k0 ?_); (case k0 => walk_at "tk"))
  | ((with_reducible refine' r_truT ?k0 ?_); (case k0 => walk_at "tk"))
  | ((with_reducible refine' r_ixL ?k0 ?k1 ?_); (case k0 => walk_at "tk"); (case k1 => first | assumption | rfl))
  | ((with_reducible refine' r_ixT ?k0 ?k1 ?_); (case k0 => walk_at "tk"); (case k1 => first | assumption | rfl))
  | ((with_reducible refine' r_new ?k0 ?_); (case k0 => walk_at "side"))
  | ((with_reducible refine' r_tyL ?k0 ?_); (case k0 => walk_at "tk"))
  | ((with_reducible refine' r_append ?k0 ?k1 ?_); (case k0 => walk_at "tk"); (case k1 => walk_at "side"))
  | ((with_reducible refine' r_setL ?k0 ?k1 ?_); (case k0 => walk_at "tk"); (case k1 => first | assumption | rfl))
  | ((with_reducible refine' r_kTupL ?k0 ?_); (case k0 => walk_at "tk"))
  | ((with_reducible refine' r_kTupT ?k0 ?_); (case k0 => walk_at "tk"))
  | ((with_reducible refine' r_listL ?k0 ?_); (case k0 => walk_at "tk"))
  | ((with_reducible refine' r_listT ?k0 ?_); (case k0 => walk_at "tk"))
  | ((with_reducible refine' r_aug ?k0 ?_); (case k0 => rfl))
  | ((with_reducible refine' r_lenS ?k0 ?_); (case k0 => walk_at "side"))
  | ((with_reducible refine' r_pop ?k0 ?_); (case k0 => walk_at "tk"))
  | ((with_reducible refine' r_pr1 ?k0 ?_); (case k0 => walk_at "rng"))
  | ((with_reducible refine' r_pr2 ?k0 ?_); (case k0 => walk_at "rng"))
  | ((with_reducible refine' r_pr3d ?k0 ?_); (case k0 => walk_at "rng"))
  | ((with_reducible refine' r_isiI ?k0 ?_); (case k0 => walk_at "kit"))
  | ((with_reducible refine' r_isiB ?k0 ?_); (case k0 => walk_at "kit"))
  | ((with_reducible refine' r_isiS ?k0 ?_); (case k0 => walk_at "kit"))
  | ((with_reducible refine' r_isiN ?k0 ?_); (case k0 => walk_at "kit"))
  | ((with_reducible refine' r_isiT ?k0 ?k1 ?_); (case k0 => walk_at "tk"); (case k1 => walk_at "kit"))
  | ((with_reducible refine r_seqT ?_); (repeat (walk_at "rd1")); ((with_reducible refine' r_pseqT ?k0 ?_); (case k0 => walk_at "tk")))
  | ((with_reducible refine r_seqL ?_); (repeat (walk_at "rd1")); ((with_reducible refine' r_pseqL ?k0 ?_); (case k0 => walk_at "tk")))
  | ((with_reducible refine r_seqS ?_); (repeat (walk_at "rd1")); (with_reducible refine r_pseqS ?_)))
local macro_rules | `(tactic| walk_at "rd") => `(tactic| ((repeat (walk_at "rd1")); (try dsimp only)))
local macro_rules | `(tactic| walk_at "rd1") => `(tactic| first
  | with_reducible refine r_BMT ?_
  | with_reducible refine r_par ?_
  | with_reducible refine r_parV ?_
  | ((with_reducible refine' r_ptp ?k0 ?k1 ?_); (case k0 => walk_at "tk"); (case k1 => walk_at "tk"))
  | with_reducible refine r_eqS ?_
  | with_reducible refine r_neS ?_
  | with_reducible refine r_callW ?_
  | with_reducible refine r_try ?_
  | with_reducible refine r_enT ?_
  | ((with_reducible refine' r_pen ?k0 ?_); (case k0 => walk_at "tk")))
local macro_rules | `(tactic| walk_at "pl0") => `(tactic| first
  | assumption
  | exact pl_same (by assumption) (by assumption)
  | exact pl_same (by assumption) (pl_same (by assumption) (by assumption))
  | exact pl_same (by assumption) (pl_same (by assumption) (pl_same (by assumption) (by assumption))))
local macro_rules | `(tactic| walk_at "pl") => `(tactic| first
  | walk_at "pl0"
  | ((with_reducible refine' pl_butL ?s ?n ?k); (case s => assumption); (case n => walk_at "ne"); (case k => walk_at "pl"))
  | ((with_reducible refine' pl_same ?s ?k); (case s => assumption); (case k => walk_at "pl")))
local macro_rules | `(tactic| walk_at "ne") => `(tactic| first
  | exact ne_pl (by assumption) (by walk_at "pl0")
  | exact (ne_pl (by assumption) (by walk_at "pl0")).symm)
local macro_rules | `(tactic| walk_at "fr") => `(tactic| first
  | assumption
  | ((with_reducible refine' free_but ?b ?n ?h); (case h => assumption); (case n => walk_at "ne"); (case b => walk_at "but"))
  | ((with_reducible refine' Same.free ?b ?h); (case h => assumption); (case b => walk_at "same")))
local macro_rules | `(tactic| walk_at "but") => `(tactic| first
  | assumption
  | exact But.refl
  | ((with_reducible refine' But.trans ?a ?b); (case b => assumption); (case a => walk_at "but"))
  | ((with_reducible refine' But.trans ?a (Same.but ?b)); (case b => assumption); (case a => walk_at "but"))
  | ((with_reducible refine' but_via ?a ?b ?c); (case b => assumption); (case c => walk_at "fr"); (case a => walk_at "but")))
local macro_rules | `(tactic| walk_at "same") => `(tactic| first
  | assumption
  | exact Same.refl _
  | ((with_reducible refine' Same.trans ?a ?b); (case b => assumption); (case a => walk_at "same"))
  | ((with_reducible refine' same_but ?a ?b ?c); (case b => assumption); (case c => walk_at "fr"); (case a => walk_at "same")))
local macro_rules | `(tactic| walk_at "tk") => `(tactic| first
  | ((with_reducible refine' sqT_pl ?s ?t ?k); (case s => assumption); (case t => walk_at "pl0"); (case k => walk_at "tk"))
  | ((with_reducible refine' rp_same ?s ?k); (case s => assumption); (case k => walk_at "tk"))
  | ((with_reducible refine' rp_pl ?s ?t ?k); (case s => assumption); (case t => walk_at "pl0"); (case k => walk_at "tk")))
local macro_rules | `(tactic| walk_at "it") => `(tactic| first
  | assumption
  | ((with_reducible refine' sqI_1 ?k); (case k => assumption))
  | ((with_reducible refine' sqI_0 ?k); (case k => assumption))
  | ((with_reducible refine' sqI_of ?k); (case k => assumption))
  | ((with_reducible refine' sqI_D ?k); (case k => assumption))
  | ((with_reducible refine' sqT_same ?s ?k); (case s => assumption); (case k => walk_at "it"))
  | ((with_reducible refine' sqT_but ?s ?t ?k); (case s => assumption); (case t => assumption); (case k => walk_at "it"))
  | ((with_reducible refine' sqT_pl ?s ?t ?k); (case s => assumption); (case t => walk_at "pl0"); (case k => walk_at "it")))
local macro_rules | `(tactic| walk_at "sz") => `(tactic| first | omega | ((try simp only [List.length_cons, List.length_nil] at *); omega))
local macro_rules | `(tactic| walk_at "au1") => `(tactic| first
  | walk_at "rd1"
  | ((with_reducible refine' r_draw ?k0 ?k1 ?k2 ?_); (case k0 => walk_at "pl"); (case k1 => omega); (case k2 => omega); (intro _ _ _ _ _ _))
  | ((with_reducible refine' r_slN ?k0 ?_); (case k0 => walk_at "it"); (intro _ _ _ _ _ _))
  | ((with_reducible refine' r_catN ?k0 ?k1 ?k2 ?_); (case k0 => walk_at "it"); (case k1 => walk_at "it"); (case k2 => walk_at "sz"); (intro _ _ _ _ _ _))
  | ((with_reducible refine' r_pow ?k0 ?_); (case k0 => exact ⟨by decide, by decide, by decide⟩))
  | ((with_reducible refine' r_ixI ?k0 ?k1 ?k2 ?_); (case k0 => walk_at "it"); (case k1 => omega); (case k2 => omega); (intro _ _))
  | ((with_reducible refine' r_setI ?k0 ?k1 ?k2 ?_); (case k0 => walk_at "tk"); (case k1 => omega); (case k2 => omega); (intro _ _ _ _ _))
  | ((with_reducible refine' r_kTupI ?k0 ?_); (case k0 => walk_at "tk"); (intro _ _ _ _ _))
  | ((with_reducible refine' r_listI ?k0 ?_); (case k0 => walk_at "it"); (intro _ _ _ _ _))
  | (with_reducible refine r_revU ?_)
  | ((with_reducible refine' r_prevN ?k0 ?_); (case k0 => walk_at "it"); (intro _ _ _ _ _ _))
  | (intro _ _ _ _ _))
local macro_rules | `(tactic| walk_at "go") => `(tactic| ((repeat (walk_at "au1")); (first
  | ((with_reducible refine r_ite (fun _ => ?_) (fun _ => ?_)) <;> (walk_at "go"))
  | ((with_reducible refine r_iteN (fun _ => ?_) (fun _ => ?_)) <;> (walk_at "go"))
  | dsimp only
  | skip)))
local macro_rules | `(tactic| walk_at "rd1") => `(tactic| first
  | with_reducible refine r_tab ?_
  | with_reducible refine r_zip ?_
  | with_reducible refine r_revL ?_)
def kindN (n : Int) (c : Nat) : Nat := if 0 < plC n c then 112 else if c = 38 ∨ c = 46 ∨ c = 44 ∨ (c = 120 ∧ n % 2 = 0) then c else 63
/-- a block in the heap: its pieces, each a list of places -/
def BK (H : Hp) (b : Addr) (qs : List (Addr × List Int)) : Prop := H b = some (.lst (qs.map fun q => V.ref q.1)) ∧ ∀ q ∈ qs, H q.1 = some (.lst (q.2.map V.int))
section
variable {H H' : Hp} {b l : Addr} {qs : List (Addr × List Int)}
theorem BK.same (s : Same H H') (h : BK H b qs) : BK H' b qs := ⟨s _ _ h.1, fun q hq => s _ _ (h.2 q hq)⟩
theorem BK.but (k : But l H H') (h1 : l ≠ b) (h2 : ∀ q ∈ qs, q.1 ≠ l) (h : BK H b qs) : BK H' b qs := ⟨k _ _ (Ne.symm h1) h.1, fun q hq => k _ _ (h2 q hq) (h.2 q hq)⟩
end
def sp_kind_of (K : PySem.W.Frag) : Sp := fun vs H Q _ => ∃ (s : Int) (c : Nat), vs = [.int s, .str ⟨#[c]⟩] ∧ Q (.str ⟨#[kindN s c]⟩) H
def sp_add_sign (K : PySem.W.Frag) : Sp := fun vs H Q _ => ∃ (s : Int) (b : Addr) (bf : Str) (c : Nat) (qs : List (Addr × List Int)), vs = [.int s, .ref b, .str bf, .str ⟨#[c]⟩] ∧ BK H b qs ∧ qs.length ≤ 100000 ∧ (∀ q ∈ qs, q.2.length ≤ 100000) ∧
  (plC s c = 0 → ∀ t H', H t = none → But b H H' → H' b = some (.lst (qs.map (fun q => V.ref q.1) ++ [.ref t])) → H' t = some (.lst []) → Q (.bl true) H') ∧
  (plC s c ≠ 0 → bf ≠ "p" → ∀ t H', H t = none → But b H H' → H' b = some (.lst (qs.map (fun q => V.ref q.1) ++ [.ref t])) → H' t = some (.lst [.int (plC s c)]) → Q (.bl true) H') ∧
  (plC s c ≠ 0 → bf = "p" → ∃ r q, qs = r ++ [q] ∧ q.2 ≠ [] ∧ (folC (lastC 0 q.2) (plC s c) = true → ∀ H', But q.1 H H' → H' q.1 = some (.lst ((q.2 ++ [plC s c]).map V.int)) → Q (.bl true) H') ∧ (folC (lastC 0 q.2) (plC s c) = false → Q (.bl false) H))
def sp_changes_of_block (K : PySem.W.Frag) : Sp := fun vs H Q _ => ∃ (s : Int) (b : Addr) (f : Bool) (qs : List (Addr × List Int)), vs = [.int s, .ref b, .bl f] ∧ BK H b qs ∧ qs.length ≤ 100000 ∧ (∀ q ∈ qs, q.2.length ≤ 100000) ∧
  ∀ p H' ys, H p = none → Same H H' → H' p = some (.lst ys) → TL K H' ys (blkN s (qs.map (·.2), f)) → Q (.ref p) H'
abbrev N_kind_of : List Str := ["stage", "sign"]
def t_kind_of (K : PySem.W.Frag) : TS :=
  tSeq (tIfS ((tTest (tOp rGtU ((tCall (sp_place_of K) [] E0 (tCons (tVar 0) (tCons (tVar 1) tNil)))) ((tC (.int 0)))))) ((tRet ((tC (.str "p"))))) (tNext))
  (tSeq (tIfS ((tOr ((tTest (tOp (rInU K) (tVar 1) ((tC (.str "&.,")))))) ((tAnd ((tTest (tOp (rEqU K) (tVar 1) ((tC (.str "x")))))) ((tTest (tOp (rEqU K) ((tOp rModU (tVar 0) ((tC (.int 2))))) ((tC (.int 0)))))))))) ((tRet (tVar 1))) (tNext))
  ((tRet ((tC (.str "?"))))))
abbrev N_add_sign : List Str := ["stage", "block", "before", "sign", "place"]
def t_add_sign (K : PySem.W.Frag) : TS :=
  tSeq (tAsg ((tCall (sp_place_of K) [] E0 (tCons (tVar 0) (tCons (tVar 3) tNil)))) (gName 4))
  (tSeq (tIfS ((tTest (tOp (rEqU K) (tVar 4) ((tC (.int 0)))))) ((tDrop ((tBM K "list" rAppend (tVar 1) (tCons ((tLst tNil)) tNil))))) ((tIfS ((tTest (tOp (rNeU K) (tVar 2) ((tC (.str "p")))))) ((tDrop ((tBM K "list" rAppend (tVar 1) (tCons ((tLst (tCons (tVar 4) tNil))) tNil))))) ((tIfS ((tTru K ((tCall (sp_may_follow K) [] E0 (tCons ((tOp (rIx K) ((tOp (rIx K) (tVar 1) ((tUn (rU fun i => .int (-i)) ((tC (.int 1))))))) ((tUn (rU fun i => .int (-i)) ((tC (.int 1))))))) (tCons (tVar 4) tNil)))))) ((tDrop ((tBM K "list" rAppend ((tOp (rIx K) (tVar 1) ((tUn (rU fun i => .int (-i)) ((tC (.int 1))))))) (tCons (tVar 4) tNil))))) ((tRet ((tC (.bl false))))))))))
  ((tRet ((tC (.bl true))))))
abbrev N_changes_of_block : List Str := ["stage", "block", "folded", "changes", "places"]
def t_changes_of_block (K : PySem.W.Frag) : TS :=
  tSeq (tAsg (tLc ((iSeqU K (tVar 1))) ((gName 4)) (tYes) ((tCall (sp_change_of K) [] E0 (tCons (tVar 0) (tCons (tVar 4) tNil)))) [4]) (gName 3))
  (tSeq (tIfS ((tTru K (tVar 2))) ((tRet ((tOp (rAddU K) (tVar 3) ((tRevL K ((tSl (rSlU K) (tVar 3) tNoPart (tPart ((tUn (rU fun i => .int (-i)) ((tC (.int 1)))))))))))))) (tNext))
  ((tRet (tVar 3))))
section
variable {K : PySem.W.Frag} {ec : Str → Addr} {ns : List Str} {vs : List V} {H : Hp} {Q : VK} {E : XK}
theorem len_kind_of (h : sp_kind_of K vs H Q E) : vs.length = 2 := by obtain ⟨s, c, rfl, _⟩ := h; rfl
theorem len_add_sign (h : sp_add_sign K vs H Q E) : vs.length = 4 := by obtain ⟨s, b, bf, c, qs, rfl, _⟩ := h; rfl
theorem len_changes_of_block (h : sp_changes_of_block K vs H Q E) : vs.length = 3 := by obtain ⟨s, b, f, qs, rfl, _⟩ := h; rfl
theorem r_inSg {c : Nat} {z : Str} (q : Q (.bl (decide (c ∈ z.cps.toList))) H) : rInU K (.str ⟨#[c]⟩) (.str z) H Q := .inr ⟨c, z, rfl, rfl, q⟩
theorem s_p : ("p" : Str) = ⟨#[112]⟩ := by decide
theorem s_q : ("?" : Str) = ⟨#[63]⟩ := by decide
theorem s_x : ("x" : Str) = ⟨#[120]⟩ := by decide
theorem s_amp : ("&" : Str) = ⟨#[38]⟩ := by decide
theorem s_com : ("," : Str) = ⟨#[44]⟩ := by decide
theorem s_three : (("&.," : Str).cps.toList) = [38, 46, 44] := by decide
theorem one_eq {a b : Nat} : ((⟨#[a]⟩ : Str) = ⟨#[b]⟩) ↔ a = b := by
  constructor
  · intro h
    have := congrArg Str.cps h
    simpa using this
  · rintro rfl; rfl
theorem pure_kind_of (h : sp_kind_of K vs H Q E) : t_kind_of K (En Q) (start N_kind_of vs) H := by
  obtain ⟨s, c, rfl, q⟩ := h
  unfold t_kind_of
  walk_at "rd"
  refine ⟨s, c, rfl, ?_⟩
  unfold kindN at q
  walk_at "rd"
  refine r_ite (fun h1 => ?_) (fun h1 => ?_)
  · walk_at "rd"
    rw [if_pos h1] at q
    rw [s_p]; exact q
  · rw [if_neg h1] at q
    walk_at "rd"
    refine r_inSg ?_
    rw [s_three]
    walk_at "rd"
    refine r_ite (fun h2 => ?_) (fun h2 => ?_)
    · refine r_T ?_
      walk_at "rd"
      rw [if_pos (by simp at h2; rcases h2 with z | z | z <;> simp [z])] at q
      exact q
    · rw [s_x]
      walk_at "rd"
      refine r_ite (fun h3 => ?_) (fun h3 => ?_)
      · have h3 := one_eq.mp h3
        walk_at "rd"
        refine r_ite (fun h4 => ?_) (fun h4 => ?_)
        · walk_at "rd"
          rw [if_pos (.inr (.inr (.inr ⟨h3, h4⟩)))] at q
          exact q
        · walk_at "rd"
          rw [if_neg (by simp at h2; rintro (z | z | z | z); exact h2.1 z; exact h2.2.1 z; exact h2.2.2 z; exact h4 z.2)] at q
          rw [s_q]; exact q
      · have h3 := fun z => h3 (one_eq.mpr z)
        walk_at "rd"
        rw [if_neg (by simp at h2; rintro (z | z | z | z); exact h2.1 z; exact h2.2.1 z; exact h2.2.2 z; exact h3 z.1)] at q
        rw [s_q]; exact q
theorem at_lastV {α : Type} (f : α → V) (r : List α) (q : α) : atI ((r ++ [q]).map f) (-1) = some (f q) := by
  have e : ixN ((r ++ [q]).map f).length (-1) = some r.length := by
    unfold ixN
    rw [List.length_map, List.length_append, List.length_singleton, if_neg (by omega), if_pos (by omega)]
    congr 1
    omega
  unfold atI
  rw [e]
  show ((r ++ [q]).map f)[r.length]? = _
  rw [List.getElem?_map, List.getElem?_append_right (Nat.le_refl _), Nat.sub_self]
  rfl
theorem pure_add_sign (h : sp_add_sign K vs H Q E) : t_add_sign K (En Q) (start N_add_sign vs) H := by
  obtain ⟨s, b, bf, c, qs, rfl, hb, hl, hz, q0, q1, q2⟩ := h
  have hlsz := sizeLine_eq
  have hlen : (qs.map fun q => V.ref q.1).length = qs.length := List.length_map ..
  unfold t_add_sign
  walk_at "rd"
  refine ⟨s, c, rfl, ?_⟩
  walk_at "rd"
  refine r_ite (fun h0 => ?_) (fun h0 => ?_)
  · have hb1 := hb.1
    walk_at "rd"
    intro t H1 nt s1 e1
    have e2 := s1 _ _ hb1
    have tb : t ≠ b := fun z => by subst z; rw [hb1] at nt; cases nt
    walk_at "rd"
    intro H2 b2 e3
    walk_at "rd"
    exact q0 h0 t H2 nt ((Same.but s1).trans b2) e3 (b2 _ _ tb e1)
  · walk_at "rd"
    refine r_iteN (fun h1 => ?_) (fun h1 => ?_)
    · have h1 : bf ≠ "p" := h1
      have hb1 := hb.1
      walk_at "rd"
      intro t H1 nt s1 e1
      have e2 := s1 _ _ hb1
      have tb : t ≠ b := fun z => by subst z; rw [hb1] at nt; cases nt
      walk_at "rd"
      intro H2 b2 e3
      walk_at "rd"
      exact q1 h0 h1 t H2 nt ((Same.but s1).trans b2) e3 (b2 _ _ tb e1)
    · have h1 : bf = "p" := h1
      obtain ⟨r, q, rfl, hne, k1, k2⟩ := q2 h0 h1
      have hb1 := hb.1
      have hq := hb.2 q (by simp)
      have lq := hz q (by simp)
      have lq2 : (q.2.map V.int).length = q.2.length := List.length_map ..
      have a1 := at_lastV (fun q : Addr × List Int => V.ref q.1) r q
      have a2 := at_last hne
      walk_at "rd"
      refine ⟨_, _, rfl, ?_⟩
      walk_at "rd"
      refine r_iteB' (fun h2 => ?_) (fun h2 => ?_)
      · walk_at "rd"
        intro H2 b2 e3
        walk_at "rd"
        exact k1 h2 H2 b2 (by rw [e3, List.map_append]; rfl)
      · walk_at "rd"
        exact k2 h2
theorem cutV_most {α : Type} (xs : List α) : cutA xs none (some (-1)) = xs.dropLast := by
  unfold cutA
  rw [HT.sIx_none]
  show (xs.drop 0).take ((if (-1 : Int) < 0 then ((-1 : Int) + (xs.length : Int)).toNat else min (-1 : Int).toNat xs.length) - 0) = _
  rw [if_pos (by decide), List.drop_zero, Nat.sub_zero, List.dropLast_eq_take]
  congr 1
  omega
theorem TL.rev {ys : List V} {css : List (List Int)} (h : TL K H ys css) : TL K H ys.dropLast.reverse css.dropLast.reverse := by
  obtain ⟨bs, rfl, rfl, h⟩ := h
  exact ⟨bs.dropLast.reverse, by rw [List.map_reverse, List.map_dropLast], by rw [List.map_reverse, List.map_dropLast], fun b hb => h b ((List.dropLast_sublist _).subset (List.mem_reverse.mp hb))⟩
theorem pure_changes_of_block (h : sp_changes_of_block K vs H Q E) : t_changes_of_block K (En Q) (start N_changes_of_block vs) H := by
  obtain ⟨s, b, f, qs, rfl, hb, hl, hz, q⟩ := h
  have hlsz := sizeLine_eq
  have hb1 := hb.1
  unfold t_changes_of_block
  walk_at "rd"
  refine r_lcL (xs := qs.map fun q => V.ref q.1) (fun D j H5 => H D = none ∧ Same H H5 ∧ ∃ ws : List V, H5 D = some (.lst ws) ∧ TL K H5 ws (((qs.map (·.2)).take j).map (chOf s))) (fun _ => rfl)
    (fun D H5 nD s e => ⟨nD, s, [], e, TL.nil⟩) (fun D j H5 P => sqL_of (P.2.1 _ _ hb1)) (fun D j x H5 hj P => ?_) (fun D H5 nD P => ?_)
  · obtain ⟨nD, s5, ws, e5, t5⟩ := P
    rw [List.getElem?_map] at hj
    obtain ⟨u, hu, rfl⟩ := Option.map_eq_some_iff.mp hj
    have eu := s5 _ _ (hb.2 u (List.mem_of_getElem? hu))
    have lu := hz u (List.mem_of_getElem? hu)
    have hjl : j < qs.length := (List.getElem?_eq_some_iff.mp hu).1
    have lw := t5.len
    rw [List.length_map, List.length_take, List.length_map] at lw
    refine r_yes (r_T ?_)
    walk_at "rd"
    refine ⟨s, u.1, u.2, rfl, sqL_of eu, lu, fun p H6 np s6 e6 _ => ?_⟩
    have e56 := s6 _ _ e5
    refine r_acc e56 (by omega) fun H7 b7 e7 => ⟨nD, same_but (s5.trans s6) b7 nD, _, e7, ?_⟩
    have hu2 : (qs.map (·.2))[j]? = some u.2 := by rw [List.getElem?_map, hu]; rfl
    rw [List.take_add_one, hu2, List.map_append]
    exact ((t5.same s6).app (TL.one e6)).but b7 e56
  · obtain ⟨nD, s5, ws, e5, t5⟩ := P
    have hlen : (qs.map fun q => V.ref q.1).length = (qs.map (·.2)).length := by rw [List.length_map, List.length_map]
    rw [hlen, List.take_length] at t5
    have lw := t5.len
    rw [List.length_map, List.length_map] at lw
    walk_at "rd"
    refine r_iteB' (fun hf => ?_) (fun hf => ?_)
    · subst hf
      walk_at "rd"
      refine r_slLL (sqL_of e5) fun p1 H6 np1 s6 e6 => ?_
      have e6 : H6 p1 = some (.lst (cutA ws none (some (-1)))) := e6
      rw [cutV_most] at e6
      have e56 := s6 _ _ e5
      walk_at "rd"
      refine r_prevL (sqL_of e6) fun p2 H7 np2 s7 e7 => ?_
      have e57 := s7 _ _ e56
      refine r_catL e57 e7 (by rw [List.length_reverse, List.length_dropLast]; omega) fun p3 H8 np3 s8 e8 => ?_
      walk_at "rd"
      have st := ((s5.trans s6).trans s7)
      refine q p3 H8 _ (st.free np3) (st.trans s8) e8 ?_
      have t8 := ((t5.same s6).same s7).same s8
      exact t8.app (TL.rev t8)
    · subst hf
      walk_at "rd"
      exact q D H5 ws nD s5 e5 t5
end
end K11
end Kb
set_option Elab.async false
set_option linter.all false
set_option maxRecDepth 100000
set_option maxHeartbeats 4000000
namespace Kb
namespace K11
open PySem PySem.Spec PyProof.Rows L2 SX
open K8 (TL)
local macro_rules | `(tactic| walk_at "tk") => `(tactic| first
  | assumption
  | ((with_reducible refine' sqT_of ?k); (case k => assumption))
  | ((with_reducible refine' sqT_ofD ?k); (case k => assumption))
  | ((with_reducible refine' noD_of ?k); (case k => assumption))
  | ((with_reducible refine' noD_same ?s ?k); (case s => assumption); (case k => walk_at "tk"))
  | ((with_reducible refine' sqL_of ?k); (case k => assumption))
  | ((with_reducible refine' sqT_same ?s ?k); (case s => assumption); (case k => walk_at "tk"))
  | ((with_reducible refine' sqL_same ?s ?k); (case s => assumption); (case k => walk_at "tk"))
  | ((with_reducible refine' sqT_but ?s ?t ?k); (case s => assumption); (case t => walk_at "tk"); (case k => walk_at "tk"))
  | ((with_reducible refine' sqL_but ?s ?t ?k); (case s => assumption); (case t => walk_at "ne"); (case k => walk_at "tk"))
  | ((with_reducible refine' sqL_of ?k); (case k => walk_at "tk"))
  | ((with_reducible refine' sqT_of ?k); (case k => walk_at "tk"))
  | ((with_reducible refine' at_same ?s ?k); (case s => assumption); (case k => walk_at "tk"))
  | ((with_reducible refine' at_but ?s ?t ?k); (case s => assumption); (case t => walk_at "ne"); (case k => walk_at "tk")))
local macro_rules | `(tactic| walk_at "ne") => `(tactic| first
  | assumption
  | (refine Ne.symm ?_; assumption)
  | exact ne_of_none (by assumption) (by assumption)
  | exact (ne_of_none (by assumption) (by assumption)).symm)
local macro_rules | `(tactic| walk_at "side") => `(tactic| first
  | assumption
  | omega
  | (simp only [sizeLine_eq, List.length_cons, List.length_nil, List.length_map]; omega)
  | (show _ ≤ sizeLine; decide))
local macro_rules | `(tactic| walk_at "kit") => `(tactic| first
  | (show kitB _ _ = some true; decide +kernel)
  | (show kitB _ _ = some false; decide +kernel))
local macro_rules | `(tactic| walk_at "rng") => `(tactic| first
  | (refine ⟨by omega, by omega, by omega, by omega⟩)
  | (refine ⟨by omega, by omega⟩)
  | ((simp only [List.length_map]); (refine ⟨by omega, by omega, by omega, by omega⟩))
  | ((simp only [List.length_map]); (refine ⟨by omega, by omega⟩)))
local macro_rules | `(tactic| walk_at "rd1") => `(tactic| first
  | with_reducible refine r_seq ?_
  | ((with_reducible refine' r_var ?k0 ?_); (case k0 => rfl))
  | with_reducible refine r_op ?_
  | with_reducible refine r_c ?_
  | with_reducible refine r_asg ?_
  | with_reducible refine r_name ?_
  | with_reducible refine r_cons ?_
  | with_reducible refine r_nil ?_
  | with_reducible refine r_CB ?_
  | with_reducible refine r_if ?_
  | with_reducible refine r_test ?_
  | with_reducible refine r_k ?_
  | with_reducible refine r_T ?_
  | with_reducible refine r_F ?_
  | with_reducible refine r_nT ?_
  | with_reducible refine r_nF ?_
  | with_reducible refine r_ret ?_
  | with_reducible refine r_drop ?_
  | with_reducible refine r_next ?_
  | with_reducible refine r_call ?_
  | with_reducible refine r_addI ?_
  | with_reducible refine r_subI ?_
  | with_reducible refine r_ltI ?_
  | with_reducible refine r_gtI ?_
  | with_reducible refine r_leI ?_
  | with_reducible refine r_geI ?_
  | with_reducible refine r_eqI ?_
  | with_reducible refine r_neI ?_
  | with_reducible refine r_int ?_
  | with_reducible refine r_abs ?_
  | with_reducible refine r_not ?_
  | with_reducible refine r_and ?_
  | with_reducible refine r_or ?_
  | with_reducible refine r_tru ?_
  | with_reducible refine r_truB ?_
  | with_reducible refine r_lst ?_
  | with_reducible refine r_tup ?_
  | with_reducible refine r_BM ?_
  | with_reducible refine r_BM0 ?_
  | with_reducible refine r_tyS ?_
  | with_reducible refine r_gsub ?_
  | with_reducible refine r_then ?_
  | with_reducible refine r_lstRg ?_
  | with_reducible refine r_tupRg ?_
  | with_reducible refine r_rg2 ?_
  | with_reducible refine r_rg1 ?_
  | with_reducible refine r_ii ?_
  | with_reducible refine r_i ?_
  | with_reducible refine r_ipI ?_
  | with_reducible refine r_un ?_
  | with_reducible refine r_neg ?_
  | with_reducible refine r_isN ?_
  | with_reducible refine r_notN ?_
  | with_reducible refine r_notV ?_
  | with_reducible refine r_pnot ?_
  | with_reducible refine r_pif ?_
  | with_reducible refine r_andV ?_
  | with_reducible refine r_orV ?_
  | with_reducible refine r_ifE ?_
  | with_reducible refine r_chain ?_
  | with_reducible refine r_sl ?_
  | with_reducible refine r_noPart ?_
  | with_reducible refine r_part ?_
  | with_reducible refine r_brk ?_
  | with_reducible refine r_cont ?_
  | with_reducible refine r_retN ?_
  | with_reducible refine r_truI ?_
  | with_reducible refine r_B ?_
  | with_reducible refine r_for ?_
  | with_reducible refine r_rng1 ?_
  | with_reducible refine r_rng2 ?_
  | with_reducible refine r_rng3 ?_
  | with_reducible refine r_body ?_
  | with_reducible refine r_lc ?_
  | with_reducible refine r_yes ?_
  | ((with_reducible refine' r_mod ?k0 ?_); (case k0 => walk_at "side"))
  | ((with_reducible refine' r_mulI ?k0 ?_); (case k0 => first | exact Or.inl ⟨by omega, by omega⟩ | exact Or.inr ⟨by omega, by omega⟩))
  | ((with_reducible refine' r_lenL ?k0 ?_); (case k0 => walk_at "tk"))
  | ((with_reducible refine' r_lenT ?k0 ?_); (case k0 => walk_at "tk"))
  | ((with_reducible refine' r_truL ?k0 ?_); (case k0 => walk_at "tk"))
  | ((with_reducible refine' r_truT ?k0 ?_); (case k0 => walk_at "tk"))
  | ((with_reducible refine' r_ixL ?k0 ?k1 ?_); (case k0 => walk_at "tk"); (case k1 => first | assumption | rfl))
  | ((with_reducible refine' r_ixT ?k0 ?k1 ?_); (case k0 => walk_at "tk"); (case k1 => first | assumption | rfl))
  | ((with_reducible refine' r_new ?k0 ?_); (case k0 => walk_at "side"))
  | ((with_reducible refine' r_tyL ?k0 ?_); (case k0 => walk_at "tk"))
  | ((with_reducible refine' r_append ?k0 ?k1 ?_); (case k0 => walk_at "tk"); (case k1 => walk_at "side"))
  | ((with_reducible refine' r_setL ?k0 ?k1 ?_); (case k0 => walk_at "tk"); (case k1 => first | assumption | rfl))
  | ((with_reducible refine' r_kTupL ?k0 ?_); (case k0 => walk_at "tk"))
  | ((with_reducible refine' r_kTupT ?k0 ?_); (case k0 => walk_at "tk"))
  | ((with_reducible refine' r_listL ?k0 ?_); (case k0 => walk_at "tk"))
  | ((with_reducible refine' r_listT ?k0 ?_); (case k0 => walk_at "tk"))
  | ((with_reducible refine' r_aug ?k0 ?_); (case k0 => rfl))
  | ((with_reducible refine' r_lenS ?k0 ?_); (case k0 => walk_at "side"))
  | ((with_reducible refine' r_pop ?k0 ?_); (case k0 => walk_at "tk"))
  | ((with_reducible refine' r_pr1 ?k0 ?_); (case k0 => walk_at "rng"))
  | ((with_reducible refine' r_pr2 ?k0 ?_); (case k0 => walk_at "rng"))
  | ((with_reducible refine' r_pr3d ?k0 ?_); (case k0 => walk_at "rng"))
  | ((with_reducible refine' r_isiI ?k0 ?_); (case k0 => walk_at "kit"))
  | ((with_reducible refine' r_isiB ?k0 ?_); (case k0 => walk_at "kit"))
  | ((with_reducible refine' r_isiS ?k0 ?_); (case k0 => walk_at "kit"))
  | ((with_reducible refine' r_isiN ?k0 ?_); (case k0 => walk_at "kit"))
  | ((with_reducible refine' r_isiT ?k0 ?k1 ?_); (case k0 => walk_at "tk"); (case k1 => walk_at "kit"))
  | ((with_reducible refine r_seqT ?_); (repeat (walk_at "rd1")); ((with_reducible refine' r_pseqT ?k0 ?_); (case k0 => walk_at "tk")))
  | ((with_reducible refine r_seqL ?_); (repeat (walk_at "rd1")); ((with_reducible refine' r_pseqL ?k0 ?_); (case k0 => walk_at "tk")))
  | ((with_reducible refine r_seqS ?_); (repeat (walk_at "rd1")); (with_reducible refine r_pseqS ?_)))
local macro_rules | `(tactic| walk_at "rd") => `(tactic| ((repeat (walk_at "rd1")); (try dsimp only)))
local macro_rules | `(tactic| walk_at "rd1") => `(tactic| first
  | with_reducible refine r_BMT ?_
  | with_reducible refine r_par ?_
  | with_reducible refine r_parV ?_
  | ((with_reducible refine' r_ptp ?k0 ?k1 ?_); (case k0 => walk_at "tk"); (case k1 => walk_at "tk"))
  | with_reducible refine r_eqS ?_
  | with_reducible refine r_neS ?_
  | with_reducible refine r_callW ?_
  | with_reducible refine r_try ?_
  | with_reducible refine r_enT ?_
  | ((with_reducible refine' r_pen ?k0 ?_); (case k0 => walk_at "tk")))
local macro_rules | `(tactic| walk_at "pl0") => `(tactic| first
  | assumption
  | exact pl_same (by assumption) (by assumption)
  | exact pl_same (by assumption) (pl_same (by assumption) (by assumption))
  | exact pl_same (by assumption) (pl_same (by assumption) (pl_same (by assumption) (by assumption))))
local macro_rules | `(tactic| walk_at "pl") => `(tactic| first
  | walk_at "pl0"
  | ((with_reducible refine' pl_butL ?s ?n ?k); (case s => assumption); (case n => walk_at "ne"); (case k => walk_at "pl"))
  | ((with_reducible refine' pl_same ?s ?k); (case s => assumption); (case k => walk_at "pl")))
local macro_rules | `(tactic| walk_at "ne") => `(tactic| first
  | exact ne_pl (by assumption) (by walk_at "pl0")
  | exact (ne_pl (by assumption) (by walk_at "pl0")).symm)
local macro_rules | `(tactic| walk_at "fr") => `(tactic| first
  | assumption
  | ((with_reducible refine' free_but ?b ?n ?h); (case h => assumption); (case n => walk_at "ne"); (case b => walk_at "but"))
  | ((with_reducible refine' Same.free ?b ?h); (case h => assumption); (case b => walk_at "same")))
local macro_rules | `(tactic| walk_at "but") => `(tactic| first
  | assumption
  | exact But.refl
  | ((with_reducible refine' But.trans ?a ?b); (case b => assumption); (case a => walk_at "but"))
  | ((with_reducible refine' But.trans ?a (Same.but ?b)); (case b => assumption); (case a => walk_at "but"))
  | ((with_reducible refine' but_via ?a ?b ?c); (case b => assumption); (case c => walk_at "fr"); (case a => walk_at "but")))
local macro_rules | `(tactic| walk_at "same") => `(tactic| first
  | assumption
  | exact Same.refl _
  | ((with_reducible refine' Same.trans ?a ?b); (case b => assumption); (case a => walk_at "same"))
  | ((with_reducible refine' same_but ?a ?b ?c); (case b => assumption); (case c => walk_at "fr"); (case a => walk_at "same")))
local macro_rules | `(tactic| walk_at "tk") => `(tactic| first
  | ((with_reducible refine' sqT_pl ?s ?t ?k); (case s => assumption); (case t => walk_at "pl0"); (case k => walk_at "tk"))
  | ((with_reducible refine' rp_same ?s ?k); (case s => assumption); (case k => walk_at "tk"))
  | ((with_reducible refine' rp_pl ?s ?t ?k); (case s => assumption); (case t => walk_at "pl0"); (case k => walk_at "tk")))
local macro_rules | `(tactic| walk_at "it") => `(tactic| first
  | assumption
  | ((with_reducible refine' sqI_1 ?k); (case k => assumption))
  | ((with_reducible refine' sqI_0 ?k); (case k => assumption))
  | ((with_reducible refine' sqI_of ?k); (case k => assumption))
  | ((with_reducible refine' sqI_D ?k); (case k => assumption))
  | ((with_reducible refine' sqT_same ?s ?k); (case s => assumption); (case k => walk_at "it"))
  | ((with_reducible refine' sqT_but ?s ?t ?k); (case s => assumption); (case t => assumption); (case k => walk_at "it"))
  | ((with_reducible refine' sqT_pl ?s ?t ?k); (case s => assumption); (case t => walk_at "pl0"); (case k => walk_at "it")))
local macro_rules | `(tactic| walk_at "sz") => `(tactic| first | omega | ((try simp only [List.length_cons, List.length_nil] at *); omega))
local macro_rules | `(tactic| walk_at "au1") => `(tactic| first
  | walk_at "rd1"
  | ((with_reducible refine' r_draw ?k0 ?k1 ?k2 ?_); (case k0 => walk_at "pl"); (case k1 => omega); (case k2 => omega); (intro _ _ _ _ _ _))
  | ((with_reducible refine' r_slN ?k0 ?_); (case k0 => walk_at "it"); (intro _ _ _ _ _ _))
  | ((with_reducible refine' r_catN ?k0 ?k1 ?k2 ?_); (case k0 => walk_at "it"); (case k1 => walk_at "it"); (case k2 => walk_at "sz"); (intro _ _ _ _ _ _))
  | ((with_reducible refine' r_pow ?k0 ?_); (case k0 => exact ⟨by decide, by decide, by decide⟩))
  | ((with_reducible refine' r_ixI ?k0 ?k1 ?k2 ?_); (case k0 => walk_at "it"); (case k1 => omega); (case k2 => omega); (intro _ _))
  | ((with_reducible refine' r_setI ?k0 ?k1 ?k2 ?_); (case k0 => walk_at "tk"); (case k1 => omega); (case k2 => omega); (intro _ _ _ _ _))
  | ((with_reducible refine' r_kTupI ?k0 ?_); (case k0 => walk_at "tk"); (intro _ _ _ _ _))
  | ((with_reducible refine' r_listI ?k0 ?_); (case k0 => walk_at "it"); (intro _ _ _ _ _))
  | (with_reducible refine r_revU ?_)
  | ((with_reducible refine' r_prevN ?k0 ?_); (case k0 => walk_at "it"); (intro _ _ _ _ _ _))
  | (intro _ _ _ _ _))
local macro_rules | `(tactic| walk_at "go") => `(tactic| ((repeat (walk_at "au1")); (first
  | ((with_reducible refine r_ite (fun _ => ?_) (fun _ => ?_)) <;> (walk_at "go"))
  | ((with_reducible refine r_iteN (fun _ => ?_) (fun _ => ?_)) <;> (walk_at "go"))
  | dsimp only
  | skip)))
local macro_rules | `(tactic| walk_at "rd1") => `(tactic| first
  | with_reducible refine r_tab ?_
  | with_reducible refine r_zip ?_
  | with_reducible refine r_revL ?_)
def bfS (n : Int) (b : Nat) : Str := if b = 44 then "" else if 0 < plC n b then ⟨#[112]⟩ else ⟨#[b]⟩
def folS (n : Int) (b : Nat) : Str := if b = 44 then "&xp" else if 0 < plC n b then "xp.," else if b = 38 then "xp" else if b = 120 then "xp," else "p"
abbrev folT : List (Str × Str) := [(("" : Str), ("&xp" : Str)), (("&" : Str), ("xp" : Str)), (("x" : Str), ("xp," : Str)), (("p" : Str), ("xp.," : Str)), (("." : Str), ("p" : Str))]
def vB (n : Int) (b : Nat) : Prop := b = 44 ∨ b = 38 ∨ b = 120 ∨ b = 46 ∨ 0 < plC n b
theorem s_dot : ("." : Str) = ⟨#[46]⟩ := by decide
theorem pl_ne {n : Int} {b : Nat} (hn : 0 ≤ n) (h : 0 < plC n b) : b ≠ 44 ∧ b ≠ 38 ∧ b ≠ 120 ∧ b ≠ 46 := by
  obtain ⟨a1, a2, a3, a4⟩ := plC_0 hn
  refine ⟨?_, ?_, ?_, ?_⟩ <;> (rintro rfl; omega)
theorem tab_mem {n : Int} {b : Nat} (hn : 0 ≤ n) (h : vB n b) : (bfS n b, folS n b) ∈ folT := by
  obtain ⟨a1, a2, a3, a4⟩ := plC_0 hn
  rcases h with rfl | rfl | rfl | rfl | h
  · unfold bfS folS; rw [if_pos rfl, if_pos rfl]; simp
  · unfold bfS folS; rw [if_neg (by decide), if_neg (by omega), if_neg (by decide), if_neg (by omega), if_pos rfl, ← s_amp]; simp
  · unfold bfS folS; rw [if_neg (by decide), if_neg (by omega), if_neg (by decide), if_neg (by omega), if_neg (by decide), if_pos rfl, ← s_x]; simp
  · unfold bfS folS; rw [if_neg (by decide), if_neg (by omega), if_neg (by decide), if_neg (by omega), if_neg (by decide), if_neg (by decide), ← s_dot]; simp
  · unfold bfS folS; rw [if_neg (pl_ne hn h).1, if_pos h, if_neg (pl_ne hn h).1, if_pos h, ← s_p]; simp
theorem f1 : ("&xp" : Str).cps.toList = [38, 120, 112] := by decide
theorem f2 : ("xp.," : Str).cps.toList = [120, 112, 46, 44] := by decide
theorem f3 : ("xp" : Str).cps.toList = [120, 112] := by decide
theorem f4 : ("xp," : Str).cps.toList = [120, 112, 44] := by decide
theorem f5 : ("p" : Str).cps.toList = [112] := by decide
def folL (n : Int) (b : Nat) : List Nat := if b = 44 then [38, 120, 112] else if 0 < plC n b then [120, 112, 46, 44] else if b = 38 then [120, 112] else if b = 120 then [120, 112, 44] else [112]
theorem folS_L (n : Int) (b : Nat) : (folS n b).cps.toList = folL n b := by
  unfold folS folL
  by_cases h1 : b = 44
  · rw [if_pos h1, if_pos h1, f1]
  · rw [if_neg h1, if_neg h1]
    by_cases h2 : 0 < plC n b
    · rw [if_pos h2, if_pos h2, f2]
    · rw [if_neg h2, if_neg h2]
      by_cases h3 : b = 38
      · rw [if_pos h3, if_pos h3, f3]
      · rw [if_neg h3, if_neg h3]
        by_cases h4 : b = 120
        · rw [if_pos h4, if_pos h4, f4]
        · rw [if_neg h4, if_neg h4, f5]
theorem kind_cases {n : Int} (hn : 0 ≤ n) (c : Nat) : (c = 38 ∧ kindN n c = 38) ∨ (c = 46 ∧ kindN n c = 46) ∨ (c = 44 ∧ kindN n c = 44) ∨ (c = 120 ∧ n % 2 = 0 ∧ kindN n c = 120) ∨ (0 < plC n c ∧ kindN n c = 112) ∨ (¬ 0 < plC n c ∧ c ≠ 38 ∧ c ≠ 46 ∧ c ≠ 44 ∧ ¬ (c = 120 ∧ n % 2 = 0) ∧ kindN n c = 63) := by
  obtain ⟨a1, a2, a3, a4⟩ := plC_0 hn
  unfold kindN
  by_cases h : 0 < plC n c
  · rw [if_pos h]; exact .inr (.inr (.inr (.inr (.inl ⟨h, rfl⟩))))
  · rw [if_neg h]
    by_cases h1 : c = 38
    · subst h1; left; simp
    · by_cases h2 : c = 46
      · subst h2; right; left; simp
      · by_cases h3 : c = 44
        · subst h3; right; right; left; simp
        · by_cases h4 : c = 120 ∧ n % 2 = 0
          · right; right; right; left
            refine ⟨h4.1, h4.2, ?_⟩
            rw [if_pos (by simp [h4])]; exact h4.1
          · right; right; right; right; right
            refine ⟨h, h1, h2, h3, h4, ?_⟩
            rw [if_neg]
            rintro (z | z | z | z)
            · exact h1 z
            · exact h2 z
            · exact h3 z
            · exact h4 z
/-- the signs that may follow, as the program asks -/
theorem fit_yes {n : Int} {b m c : Nat} (hn : 0 ≤ n) (hb : vB n b) (h : fitN n b m c = true) : kindN n c ∈ folL n b ∧ (c = 44 → m = 0) ∧ (0 < plC n c → 0 < plC n b → folC (plC n b) (plC n c) = true) ∧ (c = 38 ∨ c = 46 ∨ c = 44 ∨ c = 120 ∨ 0 < plC n c) := by
  obtain ⟨a1, a2, a3, a4⟩ := plC_0 hn
  rcases kind_cases hn c with ⟨rfl, e⟩ | ⟨rfl, e⟩ | ⟨rfl, e⟩ | ⟨rfl, h2, e⟩ | ⟨h2, e⟩ | ⟨h2, h3, h4, h5, h6, e⟩
  · have : b = 44 := by simpa [fitN] using h
    subst this
    refine ⟨by rw [e]; simp [folL], (fun z => by cases z), fun z => by omega, .inl rfl⟩
  · have : 0 < plC n b := by simpa [fitN] using h
    refine ⟨by rw [e]; unfold folL; rw [if_neg (pl_ne hn this).1, if_pos this]; simp, (fun z => by cases z), fun z => by omega, .inr (.inl rfl)⟩
  · have h := h
    simp [fitN] at h
    refine ⟨?_, fun _ => h.1, fun z => by omega, .inr (.inr (.inl rfl))⟩
    rw [e]
    unfold folL
    rcases h.2 with z | z
    · rw [if_neg (pl_ne hn z).1, if_pos z]; simp
    · subst z; rw [if_neg (by decide), if_neg (by omega), if_neg (by decide), if_pos rfl]; simp
  · have h46 : b ≠ 46 := by
      have h := h
      simp [fitN] at h; exact h.2
    refine ⟨?_, (fun z => by cases z), fun z => by omega, .inr (.inr (.inr (.inl rfl)))⟩
    rw [e]
    unfold folL
    rcases hb with rfl | rfl | rfl | rfl | z
    · simp
    · rw [if_neg (by decide), if_neg (by omega)]; simp
    · rw [if_neg (by decide), if_neg (by omega)]; simp
    · exact absurd rfl h46
    · rw [if_neg (pl_ne hn z).1, if_pos z]; simp
  · obtain ⟨n1, n2, n3, n4⟩ := pl_ne hn h2
    unfold fitN at h
    rw [if_neg n3, if_neg n4, if_neg n2, if_neg n1, Bool.and_eq_true] at h
    refine ⟨?_, fun z => absurd z n1, fun _ hpb => ?_, .inr (.inr (.inr (.inr h2)))⟩
    · rw [e]
      unfold folL
      split
      · simp
      · split
        · simp
        · split
          · simp
          · split <;> simp
    · have := h.2
      rw [Bool.or_eq_true, decide_eq_true_eq] at this
      rcases this with z | z
      · omega
      · exact z
  · exfalso
    unfold fitN at h
    by_cases c120 : c = 120
    · rw [if_pos c120, Bool.and_eq_true, decide_eq_true_eq] at h
      exact h6 ⟨c120, h.1⟩
    · rw [if_neg c120, if_neg h4, if_neg h3, if_neg h5, Bool.and_eq_true, decide_eq_true_eq] at h
      exact h2 h.1
theorem fit_no {n : Int} {b m c : Nat} (hn : 0 ≤ n) (hb : vB n b) (h : fitN n b m c = false) : kindN n c ∉ folL n b ∨ (c = 44 ∧ m ≠ 0) ∨ (0 < plC n c ∧ 0 < plC n b ∧ folC (plC n b) (plC n c) = false) := by
  obtain ⟨a1, a2, a3, a4⟩ := plC_0 hn
  rcases kind_cases hn c with ⟨rfl, e⟩ | ⟨rfl, e⟩ | ⟨rfl, e⟩ | ⟨rfl, h2, e⟩ | ⟨h2, e⟩ | ⟨h2, h3, h4, h5, h6, e⟩
  · have h44 : b ≠ 44 := by simpa [fitN] using h
    left
    rw [e]
    unfold folL
    rw [if_neg h44]
    split
    · decide
    · split
      · decide
      · split <;> decide
  · have hpb : ¬ 0 < plC n b := by simpa [fitN] using h
    left
    rw [e]
    unfold folL
    by_cases h44 : b = 44
    · rw [if_pos h44]; decide
    · rw [if_neg h44, if_neg hpb]
      split
      · decide
      · split <;> decide
  · by_cases hm : m = 0
    · left
      have h : ¬ 0 < plC n b ∧ b ≠ 120 := by simpa [fitN, hm] using h
      rw [e]
      unfold folL
      by_cases h44 : b = 44
      · rw [if_pos h44]; decide
      · rw [if_neg h44, if_neg h.1]
        by_cases h38 : b = 38
        · rw [if_pos h38]; decide
        · rw [if_neg h38, if_neg h.2]; decide
    · exact .inr (.inl ⟨rfl, hm⟩)
  · have h46 : b = 46 := by simpa [fitN, h2] using h
    subst h46
    left
    rw [e]
    unfold folL
    rw [if_neg (by decide), if_neg (by omega), if_neg (by decide), if_neg (by decide)]; decide
  · obtain ⟨n1, n2, n3, n4⟩ := pl_ne hn h2
    unfold fitN at h
    rw [if_neg n3, if_neg n4, if_neg n2, if_neg n1, decide_eq_true h2, Bool.true_and, Bool.or_eq_false_iff, decide_eq_false_iff_not] at h
    have hpb : 0 < plC n b := by
      rcases hb with rfl | rfl | rfl | rfl | z
      · omega
      · omega
      · omega
      · omega
      · exact z
    exact .inr (.inr ⟨h2, hpb, h.2⟩)
  · left
    rw [e]
    unfold folL
    split
    · decide
    · split
      · decide
      · split
        · decide
        · split <;> decide
end K11
end Kb
set_option Elab.async false
set_option linter.all false
set_option maxRecDepth 100000
set_option maxHeartbeats 4000000
namespace Kb
namespace K11
open PySem PySem.Spec PyProof.Rows L2 SX
open K8 (TL)
local macro_rules | `(tactic| walk_at "tk") => `(tactic| first
  | assumption
  | ((with_reducible refine' sqT_of ?k); (case k => assumption))
  | ((with_reducible refine' sqT_ofD ?k); (case k => assumption))
  | ((with_reducible refine' noD_of ?k); (case k => assumption))
  | ((with_reducible refine' noD_same ?s ?k); (case s => assumption); (case k => walk_at "tk"))
  | ((with_reducible refine' sqL_of ?k); (case k => assumption))
  | ((with_reducible refine' sqT_same ?s ?k); (case s => assumption); (case k => walk_at "tk"))
  | ((with_reducible refine' sqL_same ?s ?k); (case s => assumption); (case k => walk_at "tk"))
  | ((with_reducible refine' sqT_but ?s ?t ?k); (case s => assumption); (case t => walk_at "tk"); (case k => walk_at "tk"))
  | ((with_reducible refine' sqL_but ?s ?t ?k); (case s => assumption); (case t => walk_at "ne"); (case k => walk_at "tk"))
  | ((with_reducible refine' sqL_of ?k); (case k => walk_at "tk"))
  | ((with_reducible refine' sqT_of ?k); (case k => walk_at "tk"))
  | ((with_reducible refine' at_same ?s ?k); (case s => assumption); (case k => walk_at "tk"))
  | ((with_reducible refine' at_but ?s ?t ?k); (case s => assumption); (case t => walk_at "ne"); (case k => walk_at "tk")))
local macro_rules | `(tactic| walk_at "ne") => `(tactic| first
  | assumption
  | (refine Ne.symm ?_; assumption)
  | exact ne_of_none (by assumption) (by assumption)
  | exact (ne_of_none (by assumption) (by assumption)).symm)
local macro_rules | `(tactic| walk_at "side") => `(tactic| first
  | assumption
  | omega
  | (simp only [sizeLine_eq, List.length_cons, List.length_nil, List.length_map]; omega)
  | (show _ ≤ sizeLine; decide))
local macro_rules | `(tactic| walk_at "kit") => `(tactic| first
  | (show kitB _ _ = some true; decide +kernel)
  | (show kitB _ _ = some false; decide +kernel))
local macro_rules | `(tactic| walk_at "rng") => `(tactic| first
  | (refine ⟨by omega, by omega, by omega, by omega⟩)
  | (refine ⟨by omega, by omega⟩)
  | ((simp only [List.length_map]); (refine ⟨by omega, by omega, by omega, by omega⟩))
  | ((simp only [List.length_map]); (refine ⟨by omega, by omega⟩)))
local macro_rules | `(tactic| walk_at "rd1") => `(tactic| first
  | with_reducible refine r_seq ?_
  | ((with_reducible refine' r_var ?k0 ?_); (case k0 => rfl))
  | with_reducible refine r_op ?_
  | with_reducible refine r_c ?_
  | with_reducible refine r_asg ?_
  | with_reducible refine r_name ?_
  | with_reducible refine r_cons ?_
  | with_reducible refine r_nil ?_
  | with_reducible refine r_CB ?_
  | with_reducible refine r_if ?_
  | with_reducible refine r_test ?_
  | with_reducible refine r_k ?_
  | with_reducible refine r_T ?_
  | with_reducible refine r_F ?_
  | with_reducible refine r_nT ?_
  | with_reducible refine r_nF ?_
  | with_reducible refine r_ret ?_
  | with_reducible refine r_drop ?_
  | with_reducible refine r_next ?_
  | with_reducible refine r_call ?_
  | with_reducible refine r_addI ?_
  | with_reducible refine r_subI ?_
  | with_reducible refine r_ltI ?_
  | with_reducible refine r_gtI ?_
  | with_reducible refine r_leI ?_
  | with_reducible refine r_geI ?_
  | with_reducible refine r_eqI ?_
  | with_reducible refine r_neI ?_
  | with_reducible refine r_int ?_
  | with_reducible refine r_abs ?_
  | with_reducible refine r_not ?_
  | with_reducible refine r_and ?_
  | with_reducible refine r_or ?_
  | with_reducible refine r_tru ?_
  | with_reducible refine r_truB ?_
  | with_reducible refine r_lst ?_
  | with_reducible refine r_tup ?_
  | with_reducible refine r_BM ?_
  | with_reducible refine r_BM0 ?_
  | with_reducible refine r_tyS ?_
  | with_reducible refine r_gsub ?_
  | with_reducible refine r_then ?_
  | with_reducible refine r_lstRg ?_
  | with_reducible refine r_tupRg ?_
  | with_reducible refine r_rg2 ?_
  | with_reducible refine r_rg1 ?_
  | with_reducible refine r_ii ?_
  | with_reducible refine r_i ?_
  | with_reducible refine r_ipI ?_
  | with_reducible refine r_un ?_
  | with_reducible refine r_neg ?_
  | with_reducible refine r_isN ?_
  | with_reducible refine r_notN ?_
  | with_reducible refine r_notV ?_
  | with_reducible refine r_pnot ?_
  | with_reducible refine r_pif ?_
  | with_reducible refine r_andV ?_
  | with_reducible refine r_orV ?_
  | with_reducible refine r_ifE ?_
  | with_reducible refine r_chain ?_
  | with_reducible refine r_sl ?_
  | with_reducible refine r_noPart ?_
  | with_reducible refine r_part ?_
  | with_reducible refine r_brk ?_
  | with_reducible refine r_cont ?_
  | with_reducible refine r_retN ?_
  | with_reducible refine r_truI ?_
  | with_reducible refine r_B ?_
  | with_reducible refine r_for ?_
  | with_reducible refine r_rng1 ?_
  | with_reducible refine r_rng2 ?_
  | with_reducible refine r_rng3 ?_
  | with_reducible refine r_body ?_
  | with_reducible refine r_lc ?_
  | with_reducible refine r_yes ?_
  | ((with_reducible refine' r_mod ?k0 ?_); (case k0 => walk_at "side"))
  | ((with_reducible refine' r_mulI ?k0 ?_); (case k0 => first | exact Or.inl ⟨by omega, by omega⟩ | exact Or.inr ⟨by omega, by omega⟩))
  | ((with_reducible refine' r_lenL ?k0 ?_); (case k0 => walk_at "tk"))
  | ((with_reducible refine' r_lenT ?k0 ?_); (case k0 => walk_at "tk"))
  | ((with_reducible refine' r_truL ?k0 ?_); (case k0 => walk_at "tk"))
  | ((with_reducible refine' r_truT ?k0 ?_); (case k0 => walk_at "tk"))
  | ((with_reducible refine' r_ixL ?k0 ?k1 ?_); (case k0 => walk_at "tk"); (case k1 => first | assumption | rfl))
  | ((with_reducible refine' r_ixT ?k0 ?k1 ?_); (case k0 => walk_at "tk"); (case k1 => first | assumption | rfl))
  | ((with_reducible refine' r_new ?k0 ?_); (case k0 => walk_at "side"))
  | ((with_reducible refine' r_tyL ?k0 ?_); (case k0 => walk_at "tk"))
  | ((with_reducible refine' r_append ?k0 ?k1 ?_); (case k0 => walk_at "tk"); (case k1 => walk_at "side"))
  | ((with_reducible refine' r_setL ?k0 ?k1 ?_); (case k0 => walk_at "tk"); (case k1 => first | assumption | rfl))
  | ((with_reducible refine' r_kTupL ?k0 ?_); (case k0 => walk_at "tk"))
  | ((with_reducible refine' r_kTupT ?k0 ?_); (case k0 => walk_at "tk"))
  | ((with_reducible refine' r_listL ?k0 ?_); (case k0 => walk_at "tk"))
  | ((with_reducible refine' r_listT ?k0 ?_); (case k0 => walk_at "tk"))
  | ((with_reducible refine' r_aug ?k0 ?_); (case k0 => rfl))
  | ((with_reducible refine' r_lenS ?k0 ?_); (case k0 => walk_at "side"))
  | ((with_reducible refine' r_pop ?k0 ?_); (case k0 => walk_at "tk"))
  | ((with_reducible refine' r_pr1 ?k0 ?_); (case k0 => walk_at "rng"))
  | ((with_reducible refine' r_pr2 ?k0 ?_); (case k0 => walk_at "rng"))
  | ((with_reducible refine' r_pr3d ?k0 ?_); (case k0 => walk_at "rng"))
  | ((with_reducible refine' r_isiI ?k0 ?_); (case k0 => walk_at "kit"))
  | ((with_reducible refine' r_isiB ?k0 ?_); (case k0 => walk_at "kit"))
  | ((with_reducible refine' r_isiS ?k0 ?_); (case k0 => walk_at "kit"))
  | ((with_reducible refine' r_isiN ?k0 ?_); (case k0 => walk_at "kit"))
  | ((with_reducible refine' r_isiT ?k0 ?k1 ?_); (case k0 => walk_at "tk"); (case k1 => walk_at "kit"))
  | ((with_reducible refine r_seqT ?_); (repeat (walk_at "rd1")); ((with_reducible refine' r_pseqT ?k0 ?_); (case k0 => walk_at "tk")))
  | ((with_reducible refine r_seqL ?_); (repeat (walk_at "rd1")); ((with_reducible refine' r_pseqL ?k0 ?_); (case k0 => walk_at "tk")))
  | ((with_reducible refine r_seqS ?_); (repeat (walk_at "rd1")); (with_reducible refine r_pseqS ?_)))
local macro_rules | `(tactic| walk_at "rd") => `(tactic| ((repeat (walk_at "rd1")); (try dsimp only)))
local macro_rules | `(tactic| walk_at "rd1") => `(tactic| first
  | with_reducible refine r_BMT ?_
  | with_reducible refine r_par ?_
  | with_reducible refine r_parV ?_
  | ((with_reducible refine' r_ptp ?k0 ?k1 ?_); (case k0 => walk_at "tk"); (case k1 => walk_at "tk"))
  | with_reducible refine r_eqS ?_
  | with_reducible refine r_neS ?_
  | with_reducible refine r_callW ?_
  | with_reducible refine r_try ?_
  | with_reducible refine r_enT ?_
  | ((with_reducible refine' r_pen ?k0 ?_); (case k0 => walk_at "tk")))
local macro_rules | `(tactic| walk_at "pl0") => `(tactic| first
  | assumption
  | exact pl_same (by assumption) (by assumption)
  | exact pl_same (by assumption) (pl_same (by assumption) (by assumption))
  | exact pl_same (by assumption) (pl_same (by assumption) (pl_same (by assumption) (by assumption))))
local macro_rules | `(tactic| walk_at "pl") => `(tactic| first
  | walk_at "pl0"
  | ((with_reducible refine' pl_butL ?s ?n ?k); (case s => assumption); (case n => walk_at "ne"); (case k => walk_at "pl"))
  | ((with_reducible refine' pl_same ?s ?k); (case s => assumption); (case k => walk_at "pl")))
local macro_rules | `(tactic| walk_at "ne") => `(tactic| first
  | exact ne_pl (by assumption) (by walk_at "pl0")
  | exact (ne_pl (by assumption) (by walk_at "pl0")).symm)
local macro_rules | `(tactic| walk_at "fr") => `(tactic| first
  | assumption
  | ((with_reducible refine' free_but ?b ?n ?h); (case h => assumption); (case n => walk_at "ne"); (case b => walk_at "but"))
  | ((with_reducible refine' Same.free ?b ?h); (case h => assumption); (case b => walk_at "same")))
local macro_rules | `(tactic| walk_at "but") => `(tactic| first
  | assumption
  | exact But.refl
  | ((with_reducible refine' But.trans ?a ?b); (case b => assumption); (case a => walk_at "but"))
  | ((with_reducible refine' But.trans ?a (Same.but ?b)); (case b => assumption); (case a => walk_at "but"))
  | ((with_reducible refine' but_via ?a ?b ?c); (case b => assumption); (case c => walk_at "fr"); (case a => walk_at "but")))
local macro_rules | `(tactic| walk_at "same") => `(tactic| first
  | assumption
  | exact Same.refl _
  | ((with_reducible refine' Same.trans ?a ?b); (case b => assumption); (case a => walk_at "same"))
  | ((with_reducible refine' same_but ?a ?b ?c); (case b => assumption); (case c => walk_at "fr"); (case a => walk_at "same")))
local macro_rules | `(tactic| walk_at "tk") => `(tactic| first
  | ((with_reducible refine' sqT_pl ?s ?t ?k); (case s => assumption); (case t => walk_at "pl0"); (case k => walk_at "tk"))
  | ((with_reducible refine' rp_same ?s ?k); (case s => assumption); (case k => walk_at "tk"))
  | ((with_reducible refine' rp_pl ?s ?t ?k); (case s => assumption); (case t => walk_at "pl0"); (case k => walk_at "tk")))
local macro_rules | `(tactic| walk_at "it") => `(tactic| first
  | assumption
  | ((with_reducible refine' sqI_1 ?k); (case k => assumption))
  | ((with_reducible refine' sqI_0 ?k); (case k => assumption))
  | ((with_reducible refine' sqI_of ?k); (case k => assumption))
  | ((with_reducible refine' sqI_D ?k); (case k => assumption))
  | ((with_reducible refine' sqT_same ?s ?k); (case s => assumption); (case k => walk_at "it"))
  | ((with_reducible refine' sqT_but ?s ?t ?k); (case s => assumption); (case t => assumption); (case k => walk_at "it"))
  | ((with_reducible refine' sqT_pl ?s ?t ?k); (case s => assumption); (case t => walk_at "pl0"); (case k => walk_at "it")))
local macro_rules | `(tactic| walk_at "sz") => `(tactic| first | omega | ((try simp only [List.length_cons, List.length_nil] at *); omega))
local macro_rules | `(tactic| walk_at "au1") => `(tactic| first
  | walk_at "rd1"
  | ((with_reducible refine' r_draw ?k0 ?k1 ?k2 ?_); (case k0 => walk_at "pl"); (case k1 => omega); (case k2 => omega); (intro _ _ _ _ _ _))
  | ((with_reducible refine' r_slN ?k0 ?_); (case k0 => walk_at "it"); (intro _ _ _ _ _ _))
  | ((with_reducible refine' r_catN ?k0 ?k1 ?k2 ?_); (case k0 => walk_at "it"); (case k1 => walk_at "it"); (case k2 => walk_at "sz"); (intro _ _ _ _ _ _))
  | ((with_reducible refine' r_pow ?k0 ?_); (case k0 => exact ⟨by decide, by decide, by decide⟩))
  | ((with_reducible refine' r_ixI ?k0 ?k1 ?k2 ?_); (case k0 => walk_at "it"); (case k1 => omega); (case k2 => omega); (intro _ _))
  | ((with_reducible refine' r_setI ?k0 ?k1 ?k2 ?_); (case k0 => walk_at "tk"); (case k1 => omega); (case k2 => omega); (intro _ _ _ _ _))
  | ((with_reducible refine' r_kTupI ?k0 ?_); (case k0 => walk_at "tk"); (intro _ _ _ _ _))
  | ((with_reducible refine' r_listI ?k0 ?_); (case k0 => walk_at "it"); (intro _ _ _ _ _))
  | (with_reducible refine r_revU ?_)
  | ((with_reducible refine' r_prevN ?k0 ?_); (case k0 => walk_at "it"); (intro _ _ _ _ _ _))
  | (intro _ _ _ _ _))
local macro_rules | `(tactic| walk_at "go") => `(tactic| ((repeat (walk_at "au1")); (first
  | ((with_reducible refine r_ite (fun _ => ?_) (fun _ => ?_)) <;> (walk_at "go"))
  | ((with_reducible refine r_iteN (fun _ => ?_) (fun _ => ?_)) <;> (walk_at "go"))
  | dsimp only
  | skip)))
local macro_rules | `(tactic| walk_at "rd1") => `(tactic| first
  | with_reducible refine r_tab ?_
  | with_reducible refine r_zip ?_
  | with_reducible refine r_revL ?_)
abbrev Qs := List (Addr × List Int)
def adB (x : Addr × Qs) : List Addr := x.1 :: x.2.map (·.1)
/-- the blocks in the heap: B their list, F the folds, ba the last block -/
structure RH (B F : Addr) (L0 : List (Addr × Qs)) (ba : Addr) (qs : Qs) (fs : List Bool) (H : Hp) : Prop where
  hB : H B = some (.lst ((L0 ++ [(ba, qs)]).map fun x => V.ref x.1))
  hF : H F = some (.lst (fs.map V.bl))
  hk : BK H ba qs
  h0 : ∀ x ∈ L0, BK H x.1 x.2
  nd : (B :: F :: ba :: qs.map (·.1)).Nodup
  n0 : ∀ x ∈ L0, ∀ a ∈ adB x, a ∉ B :: F :: ba :: qs.map (·.1)
section
variable {B F ba t z : Addr} {L0 : List (Addr × Qs)} {qs : Qs} {fs : List Bool} {H H' H1 H2 H3 : Hp} {v : Int} {ps : List Int}
theorem RH.alive (h : RH B F L0 ba qs fs H) : ∀ a ∈ B :: F :: ba :: qs.map (·.1), H a ≠ none := fun a ha => by
  rcases List.mem_cons.mp ha with rfl | ha
  · rw [h.hB]; simp
  · rcases List.mem_cons.mp ha with rfl | ha
    · rw [h.hF]; simp
    · rcases List.mem_cons.mp ha with rfl | ha
      · rw [h.hk.1]; simp
      · obtain ⟨q, hq, rfl⟩ := List.mem_map.mp ha
        rw [h.hk.2 q hq]; simp
theorem RH.alive0 (h : RH B F L0 ba qs fs H) : ∀ x ∈ L0, ∀ a ∈ adB x, H a ≠ none := fun x hx a ha => by
  rcases List.mem_cons.mp ha with rfl | ha
  · rw [(h.h0 x hx).1]; simp
  · obtain ⟨q, hq, rfl⟩ := List.mem_map.mp ha
    rw [(h.h0 x hx).2 q hq]; simp
theorem RH.same (s : Same H H') (h : RH B F L0 ba qs fs H) : RH B F L0 ba qs fs H' := ⟨s _ _ h.hB, s _ _ h.hF, h.hk.same s, fun x hx => (h.h0 x hx).same s, h.nd, h.n0⟩
theorem RH.old (h : RH B F L0 ba qs fs H) (b : But z H H') (hz : z ∈ B :: F :: ba :: qs.map (·.1)) : ∀ x ∈ L0, BK H' x.1 x.2 := fun x hx =>
  (h.h0 x hx).but b (fun e => h.n0 x hx x.1 (by simp [adB]) (by rw [← e]; exact hz)) (fun q hq e => h.n0 x hx q.1 (by simp only [adB]; exact List.mem_cons_of_mem _ (List.mem_map.mpr ⟨q, hq, rfl⟩)) (by rw [e]; exact hz))
theorem RH.push (h : RH B F L0 ba qs fs H) (nt : H t = none) (b : But ba H H') (e1 : H' ba = some (.lst (qs.map (fun q => V.ref q.1) ++ [.ref t]))) (e2 : H' t = some (.lst (ps.map V.int))) : RH B F L0 ba (qs ++ [(t, ps)]) fs H' := by
  have nd := h.nd
  simp only [List.nodup_cons, List.mem_cons, not_or] at nd
  obtain ⟨⟨n1, n2, n3⟩, ⟨n4, n5⟩, n6, n7⟩ := nd
  have em : (B :: F :: ba :: (qs ++ [(t, ps)]).map (·.1)) = (B :: F :: ba :: qs.map (·.1)) ++ [t] := by simp
  have hba : ba ∈ B :: F :: ba :: qs.map (·.1) := by simp
  refine ⟨?_, b _ _ n4 h.hF, ⟨by rw [e1, List.map_append]; rfl, fun q hq => ?_⟩, h.old b hba, ?_, fun x hx a ha => ?_⟩
  · have := b _ _ n2 h.hB
    rw [this, List.map_append, List.map_append]; rfl
  · rcases List.mem_append.mp hq with w | w
    · exact b _ _ (fun e => n6 (by rw [← e]; exact List.mem_map.mpr ⟨q, w, rfl⟩)) (h.hk.2 q w)
    · rw [List.mem_singleton] at w
      subst w
      exact e2
  · rw [em, List.nodup_append]
    refine ⟨h.nd, by simp, fun a ha b hb => ?_⟩
    rw [List.mem_singleton] at hb
    subst hb
    rintro rfl
    exact h.alive a ha nt
  · rw [em, List.mem_append, not_or]
    refine ⟨h.n0 x hx a ha, fun w => ?_⟩
    rw [List.mem_singleton] at w
    subst w
    exact h.alive0 x hx a ha nt
theorem RH.ext {r : Qs} {q : Addr × List Int} (h : RH B F L0 ba (r ++ [q]) fs H) (b : But q.1 H H') (e : H' q.1 = some (.lst ((q.2 ++ [v]).map V.int))) : RH B F L0 ba (r ++ [(q.1, q.2 ++ [v])]) fs H' := by
  have nd := h.nd
  have em : (r ++ [(q.1, q.2 ++ [v])]).map (·.1) = (r ++ [q]).map (·.1) := by simp
  have er : ((r ++ [(q.1, q.2 ++ [v])]).map fun q => V.ref q.1) = (r ++ [q]).map fun q => V.ref q.1 := by simp
  have hz : q.1 ∈ B :: F :: ba :: (r ++ [q]).map (·.1) := by simp
  simp only [List.nodup_cons, List.mem_cons, not_or] at nd
  obtain ⟨⟨n1, n2, n3⟩, ⟨n4, n5⟩, n6, n7⟩ := nd
  have hq : q.1 ∈ (r ++ [q]).map (·.1) := by simp
  rw [List.map_append, List.nodup_append] at n7
  refine ⟨?_, b _ _ (fun e => n5 (by rw [e]; exact hq)) h.hF, ⟨?_, fun w hw => ?_⟩, h.old b hz, by rw [em]; exact h.nd, fun x hx a ha => by rw [em]; exact h.n0 x hx a ha⟩
  · have := b _ _ (fun e => n3 (by rw [e]; exact hq)) h.hB
    rw [this, List.map_append, List.map_append]; rfl
  · rw [er]
    exact b _ _ (fun e => n6 (by rw [e]; exact hq)) h.hk.1
  · rcases List.mem_append.mp hw with x | x
    · exact b _ _ (n7.2.2 w.1 (List.mem_map.mpr ⟨w, x, rfl⟩) q.1 (by simp)) (h.hk.2 w (List.mem_append_left _ x))
    · rw [List.mem_singleton] at x
      subst x
      exact e
theorem RH.amp {f : Bool} (h : RH B F L0 ba qs (fs ++ [f]) H) (b : But F H H') (e : H' F = some (.lst ((fs ++ [true]).map V.bl))) : RH B F L0 ba qs (fs ++ [true]) H' := by
  have nd := h.nd
  simp only [List.nodup_cons, List.mem_cons, not_or] at nd
  obtain ⟨⟨n1, n2, n3⟩, ⟨n4, n5⟩, n6, n7⟩ := nd
  exact ⟨b _ _ n1 h.hB, e, h.hk.but b n4 (fun q hq e => n5 (by rw [← e]; exact List.mem_map.mpr ⟨q, hq, rfl⟩)), h.old b (by simp), h.nd, h.n0⟩
theorem RH.comma (h : RH B F L0 ba qs fs H) (s : Same H H1) (nt : H t = none) (et : H1 t = some (.lst [])) (b1 : But B H1 H2) (e1 : H2 B = some (.lst (((L0 ++ [(ba, qs)]).map fun x => V.ref x.1) ++ [.ref t]))) (b2 : But F H2 H3) (e2 : H3 F = some (.lst ((fs ++ [false]).map V.bl))) :
    RH B F (L0 ++ [(ba, qs)]) t [] (fs ++ [false]) H3 := by
  have nd := h.nd
  simp only [List.nodup_cons, List.mem_cons, not_or] at nd
  obtain ⟨⟨n1, n2, n3⟩, ⟨n4, n5⟩, n6, n7⟩ := nd
  have tB : t ≠ B := fun e => h.alive B (by simp) (by rw [← e]; exact nt)
  have tF : t ≠ F := fun e => h.alive F (by simp) (by rw [← e]; exact nt)
  have h1 := h.same s
  have hold : ∀ x ∈ L0 ++ [(ba, qs)], ∀ a ∈ adB x, a ≠ B ∧ a ≠ F ∧ a ≠ t := fun x hx a ha => by
    rcases List.mem_append.mp hx with w | w
    · have := h.n0 x w a ha
      simp only [List.mem_cons, not_or] at this
      exact ⟨this.1, this.2.1, fun e => h.alive0 x w a ha (by rw [e]; exact nt)⟩
    · rw [List.mem_singleton] at w
      subst w
      have ha' : a ∈ ba :: qs.map (·.1) := ha
      refine ⟨fun e => ?_, fun e => ?_, fun e => h.alive a (by rcases List.mem_cons.mp ha' with z | z <;> simp [z]) (by rw [e]; exact nt)⟩
      · subst e
        rcases List.mem_cons.mp ha' with z | z
        · exact n2 z
        · exact n3 z
      · subst e
        rcases List.mem_cons.mp ha' with z | z
        · exact n4 z
        · exact n5 z
  refine ⟨?_, e2, ⟨b2 _ _ tF (b1 _ _ tB et), fun q hq => nomatch hq⟩, fun x hx => ?_, ?_, fun x hx a ha => ?_⟩
  · rw [b2 _ _ n1 e1, List.map_append (l₁ := L0 ++ [(ba, qs)])]; rfl
  · have k : BK H1 x.1 x.2 := by
      rcases List.mem_append.mp hx with w | w
      · exact h1.h0 x w
      · rw [List.mem_singleton] at w; subst w; exact h1.hk
    have ho := hold x hx
    have hm : ∀ q ∈ x.2, q.1 ∈ adB x := fun q hq => List.mem_cons_of_mem _ (List.mem_map.mpr ⟨q, hq, rfl⟩)
    exact (k.but b1 (fun e => (ho x.1 (by simp [adB])).1 e.symm) fun q hq => (ho q.1 (hm q hq)).1).but b2 (fun e => (ho x.1 (by simp [adB])).2.1 e.symm) fun q hq => (ho q.1 (hm q hq)).2.1
  · simp only [List.nodup_cons, List.mem_cons, List.map_nil, List.not_mem_nil, or_false, not_or, not_false_eq_true, List.nodup_nil, and_true]
    exact ⟨⟨n1, Ne.symm tB⟩, Ne.symm tF⟩
  · obtain ⟨o1, o2, o3⟩ := hold x hx a ha
    simp only [List.mem_cons, List.map_nil, List.not_mem_nil, or_false, not_or]
    exact ⟨o1, o2, o3⟩
end
/-- what the blocks mean -/
structure RP (n : Int) (l : List Nat) (i b : Nat) (L0 : List (Addr × Qs)) (qs : Qs) (st : List Blk × Blk) : Prop where
  c0 : L0.map (fun x => x.2.map (·.2)) = st.1.map (·.1)
  c1 : qs.map (·.2) = st.2.1
  ml : L0.length ≤ 1
  z0 : ∀ x ∈ L0, x.2.length ≤ i ∧ ∀ q ∈ x.2, q.2.length ≤ i
  z1 : qs.length ≤ i ∧ ∀ q ∈ qs, q.2.length ≤ i
  hc : colN n b L0.length i (l.drop i) = colN n 44 0 0 l
  hr : runN n b st (l.drop i) = runN n 44 ([], ([], false)) l
  vb : vB n b
  la : 0 < plC n b → ∃ r p, st.2.1 = r ++ [p] ∧ p ≠ [] ∧ lastC 0 p = plC n b
section
variable {n : Int} {l : List Nat} {i b c : Nat} {L0 : List (Addr × Qs)} {qs : Qs} {st : List Blk × Blk}
theorem RP.bad (h : RP n l i b L0 qs st) (hi : l[i]? = some c) (hf : fitN n b L0.length c = false) : colN n 44 0 0 l = i + 1 := by
  rw [← h.hc]
  have hil := (List.getElem?_eq_some_iff.mp hi).1
  have e : l.drop i = c :: l.drop (i + 1) := by rw [List.drop_eq_getElem_cons hil]; rw [List.getElem?_eq_getElem hil] at hi; rw [Option.some.inj hi]
  rw [e]
  show (if fitN n b L0.length c = true then _ else i + 1) = _
  rw [hf]; rfl
theorem RP.go (h : RP n l i b L0 qs st) (hi : l[i]? = some c) (hf : fitN n b L0.length c = true) : colN n c (if c = 44 then L0.length + 1 else L0.length) (i + 1) (l.drop (i + 1)) = colN n 44 0 0 l ∧ runN n c (stepN n b c st) (l.drop (i + 1)) = runN n 44 ([], ([], false)) l := by
  have hil := (List.getElem?_eq_some_iff.mp hi).1
  have e : l.drop i = c :: l.drop (i + 1) := by rw [List.drop_eq_getElem_cons hil]; rw [List.getElem?_eq_getElem hil] at hi; rw [Option.some.inj hi]
  have h1 := h.hc
  have h2 := h.hr
  rw [e] at h1 h2
  refine ⟨?_, h2⟩
  rw [← h1]
  show _ = (if fitN n b L0.length c = true then _ else i + 1)
  rw [if_pos hf]
theorem RP.z0' (h : RP n l i b L0 qs st) : ∀ x ∈ L0, x.2.length ≤ i + 1 ∧ ∀ q ∈ x.2, q.2.length ≤ i + 1 := fun x hx => ⟨by have := (h.z0 x hx).1; omega, fun q hq => by have := (h.z0 x hx).2 q hq; omega⟩
theorem RP.amp (h : RP n l i b L0 qs st) (hn : 0 ≤ n) (hi : l[i]? = some 38) (hf : fitN n b L0.length 38 = true) : RP n l (i + 1) 38 L0 qs (st.1, (st.2.1, true)) := by
  obtain ⟨g1, g2⟩ := h.go hi hf
  exact ⟨h.c0, h.c1, h.ml, h.z0', ⟨by have := h.z1.1; omega, fun q hq => by have := h.z1.2 q hq; omega⟩, g1, g2, .inr (.inl rfl), fun z => by have := (plC_0 hn).2.2.1; omega⟩
theorem RP.dot (h : RP n l i b L0 qs st) (hn : 0 ≤ n) (hi : l[i]? = some 46) (hf : fitN n b L0.length 46 = true) : RP n l (i + 1) 46 L0 qs st := by
  obtain ⟨g1, g2⟩ := h.go hi hf
  exact ⟨h.c0, h.c1, h.ml, h.z0', ⟨by have := h.z1.1; omega, fun q hq => by have := h.z1.2 q hq; omega⟩, g1, g2, .inr (.inr (.inr (.inl rfl))), fun z => by have := (plC_0 hn).2.1; omega⟩
theorem RP.comma {ba : Addr} (h : RP n l i b L0 qs st) (hn : 0 ≤ n) (hi : l[i]? = some 44) (hf : fitN n b L0.length 44 = true) (h0 : L0.length = 0) : RP n l (i + 1) 44 (L0 ++ [(ba, qs)]) [] (st.1 ++ [st.2], ([], false)) := by
  obtain ⟨g1, g2⟩ := h.go hi hf
  refine ⟨?_, rfl, by rw [List.length_append, h0]; exact Nat.le_refl _, fun x hx => ?_, ⟨Nat.zero_le _, fun q hq => nomatch hq⟩, ?_, g2, .inl rfl, fun z => by have := (plC_0 hn).2.2.2; omega⟩
  · rw [List.map_append, List.map_append, h.c0]
    show _ ++ [qs.map (·.2)] = _ ++ [st.2.1]
    rw [h.c1]
  · rcases List.mem_append.mp hx with w | w
    · exact h.z0' x w
    · rw [List.mem_singleton] at w
      subst w
      exact ⟨by have := h.z1.1; dsimp only; omega, fun q hq => by have := h.z1.2 q hq; omega⟩
  · rw [List.length_append]; exact g1
theorem RP.x {t : Addr} (h : RP n l i b L0 qs st) (hn : 0 ≤ n) (hi : l[i]? = some 120) (hf : fitN n b L0.length 120 = true) : RP n l (i + 1) 120 L0 (qs ++ [(t, [])]) (st.1, (st.2.1 ++ [[]], st.2.2)) := by
  obtain ⟨g1, g2⟩ := h.go hi hf
  refine ⟨h.c0, by rw [List.map_append, h.c1]; rfl, h.ml, h.z0', ⟨by rw [List.length_append]; have := h.z1.1; simp; omega, fun q hq => ?_⟩, g1, g2, .inr (.inr (.inl rfl)), fun z => by have := (plC_0 hn).1; omega⟩
  rcases List.mem_append.mp hq with w | w
  · have := h.z1.2 q w; omega
  · rw [List.mem_singleton] at w; subst w; exact Nat.zero_le _
theorem step_pl (hn : 0 ≤ n) (hc : 0 < plC n c) : stepN n b c st = if 0 < plC n b then (st.1, (mapL (· ++ [plC n c]) st.2.1, st.2.2)) else (st.1, (st.2.1 ++ [[plC n c]], st.2.2)) := by
  obtain ⟨n1, n2, n3, n4⟩ := pl_ne hn hc
  unfold stepN
  rw [if_neg n2, if_neg n1, if_neg n4, if_neg n3]
theorem RP.new {t : Addr} (h : RP n l i b L0 qs st) (hn : 0 ≤ n) (hi : l[i]? = some c) (hf : fitN n b L0.length c = true) (hc : 0 < plC n c) (hb : ¬ 0 < plC n b) : RP n l (i + 1) c L0 (qs ++ [(t, [plC n c])]) (st.1, (st.2.1 ++ [[plC n c]], st.2.2)) := by
  obtain ⟨g1, g2⟩ := h.go hi hf
  rw [if_neg (pl_ne hn hc).1] at g1
  rw [step_pl hn hc, if_neg hb] at g2
  refine ⟨h.c0, by rw [List.map_append, h.c1]; rfl, h.ml, h.z0', ⟨by rw [List.length_append]; have := h.z1.1; simp; omega, fun q hq => ?_⟩, g1, g2, .inr (.inr (.inr (.inr hc))), fun _ => ⟨st.2.1, [plC n c], rfl, by simp, rfl⟩⟩
  rcases List.mem_append.mp hq with w | w
  · have := h.z1.2 q w; omega
  · rw [List.mem_singleton] at w; subst w; show 1 ≤ i + 1; omega
theorem RP.more {r : Qs} {q : Addr × List Int} (h : RP n l i b L0 (r ++ [q]) st) (hn : 0 ≤ n) (hi : l[i]? = some c) (hf : fitN n b L0.length c = true) (hc : 0 < plC n c) (hb : 0 < plC n b) : RP n l (i + 1) c L0 (r ++ [(q.1, q.2 ++ [plC n c])]) (st.1, (mapL (· ++ [plC n c]) st.2.1, st.2.2)) := by
  obtain ⟨g1, g2⟩ := h.go hi hf
  rw [if_neg (pl_ne hn hc).1] at g1
  rw [step_pl hn hc, if_pos hb] at g2
  have e : mapL (· ++ [plC n c]) st.2.1 = r.map (·.2) ++ [q.2 ++ [plC n c]] := by rw [← h.c1, List.map_append]; exact mapL_snoc _ _ _
  refine ⟨h.c0, by rw [List.map_append]; exact e.symm, h.ml, h.z0', ⟨by have := h.z1.1; rw [List.length_append] at this ⊢; simp at this ⊢; omega, fun w hw => ?_⟩, g1, g2, .inr (.inr (.inr (.inr hc))), fun _ => ⟨_, _, e, by simp, lastC_snoc⟩⟩
  rcases List.mem_append.mp hw with x | x
  · have := h.z1.2 w (List.mem_append_left _ x); omega
  · rw [List.mem_singleton] at x
    subst x
    have := h.z1.2 q (by simp)
    show (q.2 ++ [plC n c]).length ≤ _
    rw [List.length_append]; simp; omega
end
end K11
end Kb
set_option Elab.async false
set_option linter.all false
set_option maxRecDepth 100000
set_option maxHeartbeats 4000000
namespace Kb
namespace K11
open PySem PySem.Spec PyProof.Rows L2 SX
open K8 (TL)
local macro_rules | `(tactic| walk_at "tk") => `(tactic| first
  | assumption
  | ((with_reducible refine' sqT_of ?k); (case k => assumption))
  | ((with_reducible refine' sqT_ofD ?k); (case k => assumption))
  | ((with_reducible refine' noD_of ?k); (case k => assumption))
  | ((with_reducible refine' noD_same ?s ?k); (case s => assumption); (case k => walk_at "tk"))
  | ((with_reducible refine' sqL_of ?k); (case k => assumption))
  | ((with_reducible refine' sqT_same ?s ?k); (case s => assumption); (case k => walk_at "tk"))
  | ((with_reducible refine' sqL_same ?s ?k); (case s => assumption); (case k => walk_at "tk"))
  | ((with_reducible refine' sqT_but ?s ?t ?k); (case s => assumption); (case t => walk_at "tk"); (case k => walk_at "tk"))
  | ((with_reducible refine' sqL_but ?s ?t ?k); (case s => assumption); (case t => walk_at "ne"); (case k => walk_at "tk"))
  | ((with_reducible refine' sqL_of ?k); (case k => walk_at "tk"))
  | ((with_reducible refine' sqT_of ?k); (case k => walk_at "tk"))
  | ((with_reducible refine' at_same ?s ?k); (case s => assumption); (case k => walk_at "tk"))
  | ((with_reducible refine' at_but ?s ?t ?k); (case s => assumption); (case t => walk_at "ne"); (case k => walk_at "tk")))
local macro_rules | `(tactic| walk_at "ne") => `(tactic| first
  | assumption
  | (refine Ne.symm ?_; assumption)
  | exact ne_of_none (by assumption) (by assumption)
  | exact (ne_of_none (by assumption) (by assumption)).symm)
local macro_rules | `(tactic| walk_at "side") => `(tactic| first
  | assumption
  | omega
  | (simp only [sizeLine_eq, List.length_cons, List.length_nil, List.length_map]; omega)
  | (show _ ≤ sizeLine; decide))
local macro_rules | `(tactic| walk_at "kit") => `(tactic| first
  | (show kitB _ _ = some true; decide +kernel)
  | (show kitB _ _ = some false; decide +kernel))
local macro_rules | `(tactic| walk_at "rng") => `(tactic| first
  | (refine ⟨by omega, by omega, by omega, by omega⟩)
  | (refine ⟨by omega, by omega⟩)
  | ((simp only [List.length_map]); (refine ⟨by omega, by omega, by omega, by omega⟩))
  | ((simp only [List.length_map]); (refine ⟨by omega, by omega⟩)))
local macro_rules | `(tactic| walk_at "rd1") => `(tactic| first
  | with_reducible refine r_seq ?_
  | ((with_reducible refine' r_var ?k0 ?_); (case k0 => rfl))
  | with_reducible refine r_op ?_
  | with_reducible refine r_c ?_
  | with_reducible refine r_asg ?_
  | with_reducible refine r_name ?_
  | with_reducible refine r_cons ?_
  | with_reducible refine r_nil ?_
  | with_reducible refine r_CB ?_
  | with_reducible refine r_if ?_
  | with_reducible refine r_test ?_
  | with_reducible refine r_k ?_
  | with_reducible refine r_T ?_
  | with_reducible refine r_F ?_
  | with_reducible refine r_nT ?_
  | with_reducible refine r_nF ?_
  | with_reducible refine r_ret ?_
  | with_reducible refine r_drop ?_
  | with_reducible refine r_next ?_
  | with_reducible refine r_call ?_
  | with_reducible refine r_addI ?_
  | with_reducible refine r_subI ?_
  | with_reducible refine r_ltI ?_
  | with_reducible refine r_gtI ?_
  | with_reducible refine r_leI ?_
  | with_reducible refine r_geI ?_
  | with_reducible refine r_eqI ?_
  | with_reducible refine r_neI ?_
  | with_reducible refine r_int ?_
  | with_reducible refine r_abs ?_
  | with_reducible refine r_not ?_
  | with_reducible refine r_and ?_
  | with_reducible refine r_or ?_
  | with_reducible refine r_tru ?_
  | with_reducible refine r_truB ?_
  | with_reducible refine r_lst ?_
  | with_reducible refine r_tup ?_
  | with_reducible refine r_BM ?_
  | with_reducible refine r_BM0 ?_
  | with_reducible refine r_tyS ?_
  | with_reducible refine r_gsub ?_
  | with_reducible refine r_then ?_
  | with_reducible refine r_lstRg ?_
  | with_reducible refine r_tupRg ?_
  | with_reducible refine r_rg2 ?_
  | with_reducible refine r_rg1 ?_
  | with_reducible refine r_ii ?_
  | with_reducible refine r_i ?_
  | with_reducible refine r_ipI ?_
  | with_reducible refine r_un ?_
  | with_reducible refine r_neg ?_
  | with_reducible refine r_isN ?_
  | with_reducible refine r_notN ?_
  | with_reducible refine r_notV ?_
  | with_reducible refine r_pnot ?_
  | with_reducible refine r_pif ?_
  | with_reducible refine r_andV ?_
  | with_reducible refine r_orV ?_
  | with_reducible refine r_ifE ?_
  | with_reducible refine r_chain ?_
  | with_reducible refine r_sl ?_
  | with_reducible refine r_noPart ?_
  | with_reducible refine r_part ?_
  | with_reducible refine r_brk ?_
  | with_reducible refine r_cont ?_
  | with_reducible refine r_retN ?_
  | with_reducible refine r_truI ?_
  | with_reducible refine r_B ?_
  | with_reducible refine r_for ?_
  | with_reducible refine r_rng1 ?_
  | with_reducible refine r_rng2 ?_
  | with_reducible refine r_rng3 ?_
  | with_reducible refine r_body ?_
  | with_reducible refine r_lc ?_
  | with_reducible refine r_yes ?_
  | ((with_reducible refine' r_mod ?k0 ?_); (case k0 => walk_at "side"))
  | ((with_reducible refine' r_mulI ?k0 ?_); (case k0 => first | exact Or.inl ⟨by omega, by omega⟩ | exact Or.inr ⟨by omega, by omega⟩))
  | ((with_reducible refine' r_lenL ?k0 ?_); (case k0 => walk_at "tk"))
  | ((with_reducible refine' r_lenT ?k0 ?_); (case k0 => walk_at "tk"))
  | ((with_reducible refine' r_truL ?k0 ?_); (case k0 => walk_at "tk"))
  | ((with_reducible refine' r_truT ?k0 ?_); (case k0 => walk_at "tk"))
  | ((with_reducible refine' r_ixL ?k0 ?k1 ?_); (case k0 => walk_at "tk"); (case k1 => first | assumption | rfl))
  | ((with_reducible refine' r_ixT ?k0 ?k1 ?_); (case k0 => walk_at "tk"); (case k1 => first | assumption | rfl))
  | ((with_reducible refine' r_new ?k0 ?_); (case k0 => walk_at "side"))
  | ((with_reducible refine' r_tyL ?k0 ?_); (case k0 => walk_at "tk"))
  | ((with_reducible refine' r_append ?k0 ?k1 ?_); (case k0 => walk_at "tk"); (case k1 => walk_at "side"))
  | ((with_reducible refine' r_setL ?k0 ?k1 ?_); (case k0 => walk_at "tk"); (case k1 => first | assumption | rfl))
  | ((with_reducible refine' r_kTupL ?k0 ?_); (case k0 => walk_at "tk"))
  | ((with_reducible refine' r_kTupT ?k0 ?_); (case k0 => walk_at "tk"))
  | ((with_reducible refine' r_listL ?k0 ?_); (case k0 => walk_at "tk"))
  | ((with_reducible refine' r_listT ?k0 ?_); (case k0 => walk_at "tk"))
  | ((with_reducible refine' r_aug ?k0 ?_); (case k0 => rfl))
  | ((with_reducible refine' r_lenS ?k0 ?_); (case k0 => walk_at "side"))
  | ((with_reducible refine' r_pop ?k0 ?_); (case k0 => walk_at "tk"))
  | ((with_reducible refine' r_pr1 ?k0 ?_); (case k0 => walk_at "rng"))
  | ((with_reducible refine' r_pr2 ?k0 ?_); (case k0 => walk_at "rng"))
  | ((with_reducible refine' r_pr3d ?k0 ?_); (case k0 => walk_at "rng"))
  | ((with_reducible refine' r_isiI ?k0 ?_); (case k0 => walk_at "kit"))
  | ((with_reducible refine' r_isiB ?k0 ?_); (case k0 => walk_at "kit"))
  | ((with_reducible refine' r_isiS ?k0 ?_); (case k0 => walk_at "kit"))
  | ((with_reducible refine' r_isiN ?k0 ?_); (case k0 => walk_at "kit"))
  | ((with_reducible refine' r_isiT ?k0 ?k1 ?_); (case k0 => walk_at "tk"); (case k1 => walk_at "kit"))
  | ((with_reducible refine r_seqT ?_); (repeat (walk_at "rd1")); ((with_reducible refine' r_pseqT ?k0 ?_); (case k0 => walk_at "tk")))
  | ((with_reducible refine r_seqL ?_); (repeat (walk_at "rd1")); ((with_reducible refine' r_pseqL ?k0 ?_); (case k0 => walk_at "tk")))
  | ((with_reducible refine r_seqS ?_); (repeat (walk_at "rd1")); (with_reducible refine r_pseqS ?_)))
local macro_rules | `(tactic| walk_at "rd") => `(tactic| ((repeat (walk_at "rd1")); (try dsimp only)))
local macro_rules | `(tactic| walk_at "rd1") => `(tactic| first
  | with_reducible refine r_BMT ?_
  | with_reducible refine r_par ?_
  | with_reducible refine r_parV ?_
  | ((with_reducible refine' r_ptp ?k0 ?k1 ?_); (case k0 => walk_at "tk"); (case k1 => walk_at "tk"))
  | with_reducible refine r_eqS ?_
  | with_reducible refine r_neS ?_
  | with_reducible refine r_callW ?_
  | with_reducible refine r_try ?_
  | with_reducible refine r_enT ?_
  | ((with_reducible refine' r_pen ?k0 ?_); (case k0 => walk_at "tk")))
local macro_rules | `(tactic| walk_at "pl0") => `(tactic| first
  | assumption
  | exact pl_same (by assumption) (by assumption)
  | exact pl_same (by assumption) (pl_same (by assumption) (by assumption))
  | exact pl_same (by assumption) (pl_same (by assumption) (pl_same (by assumption) (by assumption))))
local macro_rules | `(tactic| walk_at "pl") => `(tactic| first
  | walk_at "pl0"
  | ((with_reducible refine' pl_butL ?s ?n ?k); (case s => assumption); (case n => walk_at "ne"); (case k => walk_at "pl"))
  | ((with_reducible refine' pl_same ?s ?k); (case s => assumption); (case k => walk_at "pl")))
local macro_rules | `(tactic| walk_at "ne") => `(tactic| first
  | exact ne_pl (by assumption) (by walk_at "pl0")
  | exact (ne_pl (by assumption) (by walk_at "pl0")).symm)
local macro_rules | `(tactic| walk_at "fr") => `(tactic| first
  | assumption
  | ((with_reducible refine' free_but ?b ?n ?h); (case h => assumption); (case n => walk_at "ne"); (case b => walk_at "but"))
  | ((with_reducible refine' Same.free ?b ?h); (case h => assumption); (case b => walk_at "same")))
local macro_rules | `(tactic| walk_at "but") => `(tactic| first
  | assumption
  | exact But.refl
  | ((with_reducible refine' But.trans ?a ?b); (case b => assumption); (case a => walk_at "but"))
  | ((with_reducible refine' But.trans ?a (Same.but ?b)); (case b => assumption); (case a => walk_at "but"))
  | ((with_reducible refine' but_via ?a ?b ?c); (case b => assumption); (case c => walk_at "fr"); (case a => walk_at "but")))
local macro_rules | `(tactic| walk_at "same") => `(tactic| first
  | assumption
  | exact Same.refl _
  | ((with_reducible refine' Same.trans ?a ?b); (case b => assumption); (case a => walk_at "same"))
  | ((with_reducible refine' same_but ?a ?b ?c); (case b => assumption); (case c => walk_at "fr"); (case a => walk_at "same")))
local macro_rules | `(tactic| walk_at "tk") => `(tactic| first
  | ((with_reducible refine' sqT_pl ?s ?t ?k); (case s => assumption); (case t => walk_at "pl0"); (case k => walk_at "tk"))
  | ((with_reducible refine' rp_same ?s ?k); (case s => assumption); (case k => walk_at "tk"))
  | ((with_reducible refine' rp_pl ?s ?t ?k); (case s => assumption); (case t => walk_at "pl0"); (case k => walk_at "tk")))
local macro_rules | `(tactic| walk_at "it") => `(tactic| first
  | assumption
  | ((with_reducible refine' sqI_1 ?k); (case k => assumption))
  | ((with_reducible refine' sqI_0 ?k); (case k => assumption))
  | ((with_reducible refine' sqI_of ?k); (case k => assumption))
  | ((with_reducible refine' sqI_D ?k); (case k => assumption))
  | ((with_reducible refine' sqT_same ?s ?k); (case s => assumption); (case k => walk_at "it"))
  | ((with_reducible refine' sqT_but ?s ?t ?k); (case s => assumption); (case t => assumption); (case k => walk_at "it"))
  | ((with_reducible refine' sqT_pl ?s ?t ?k); (case s => assumption); (case t => walk_at "pl0"); (case k => walk_at "it")))
local macro_rules | `(tactic| walk_at "sz") => `(tactic| first | omega | ((try simp only [List.length_cons, List.length_nil] at *); omega))
local macro_rules | `(tactic| walk_at "au1") => `(tactic| first
  | walk_at "rd1"
  | ((with_reducible refine' r_draw ?k0 ?k1 ?k2 ?_); (case k0 => walk_at "pl"); (case k1 => omega); (case k2 => omega); (intro _ _ _ _ _ _))
  | ((with_reducible refine' r_slN ?k0 ?_); (case k0 => walk_at "it"); (intro _ _ _ _ _ _))
  | ((with_reducible refine' r_catN ?k0 ?k1 ?k2 ?_); (case k0 => walk_at "it"); (case k1 => walk_at "it"); (case k2 => walk_at "sz"); (intro _ _ _ _ _ _))
  | ((with_reducible refine' r_pow ?k0 ?_); (case k0 => exact ⟨by decide, by decide, by decide⟩))
  | ((with_reducible refine' r_ixI ?k0 ?k1 ?k2 ?_); (case k0 => walk_at "it"); (case k1 => omega); (case k2 => omega); (intro _ _))
  | ((with_reducible refine' r_setI ?k0 ?k1 ?k2 ?_); (case k0 => walk_at "tk"); (case k1 => omega); (case k2 => omega); (intro _ _ _ _ _))
  | ((with_reducible refine' r_kTupI ?k0 ?_); (case k0 => walk_at "tk"); (intro _ _ _ _ _))
  | ((with_reducible refine' r_listI ?k0 ?_); (case k0 => walk_at "it"); (intro _ _ _ _ _))
  | (with_reducible refine r_revU ?_)
  | ((with_reducible refine' r_prevN ?k0 ?_); (case k0 => walk_at "it"); (intro _ _ _ _ _ _))
  | (intro _ _ _ _ _))
local macro_rules | `(tactic| walk_at "go") => `(tactic| ((repeat (walk_at "au1")); (first
  | ((with_reducible refine r_ite (fun _ => ?_) (fun _ => ?_)) <;> (walk_at "go"))
  | ((with_reducible refine r_iteN (fun _ => ?_) (fun _ => ?_)) <;> (walk_at "go"))
  | dsimp only
  | skip)))
local macro_rules | `(tactic| walk_at "rd1") => `(tactic| first
  | with_reducible refine r_tab ?_
  | with_reducible refine r_zip ?_
  | with_reducible refine r_revL ?_)
local macro_rules | `(tactic| walk_at "no") => `(tactic| ((refine r_iteM (by decide) ?_); (walk_at "rd")))
local macro_rules | `(tactic| walk_at "yes") => `(tactic| ((refine r_iteP (by decide) ?_); (walk_at "rd")))
local macro_rules | `(tactic| walk_at "nno") => `(tactic| ((refine r_iteNM (by decide) ?_); (walk_at "rd")))
local macro_rules | `(tactic| walk_at "nyes") => `(tactic| ((refine r_iteNP (by decide) ?_); (walk_at "rd")))
def sp_read_notation (K : PySem.W.Frag) (ec : Str → Addr) : Sp := fun vs H Q E => ∃ (s : Int) (l : List Nat), vs = [.int s, .str (S l)] ∧ l.length ≤ 20000 ∧ (¬ Stg s → noStage ec H E) ∧
  ∀ n : Nat, s = (n : Int) → 1 ≤ n → n ≤ 12 → (colN n 44 0 0 l ≠ 0 → noNote ec (colN n 44 0 0 l : Nat) H E) ∧ (colN n 44 0 0 l = 0 → ∀ p H' ys, H p = none → Same H H' → SqT K H' p ys → TL K H' ys (readN n l) → NoD H' p → Q (.ref p) H')
abbrev N_read_notation : List Str := ["stage", "text", "blocks", "folds", "before", "column", "sign", "kind", "fits", "changes", "block", "folded"]
def t_read_notation (K : PySem.W.Frag) (ec : Str → Addr) (E : XK) : TS :=
  tSeq (tDrop ((tCallW (sp_check_stage K ec) (fun cls d _ H => E cls d H) (tCons (tVar 0) tNil))))
  (tSeq (tAsg ((tLst (tCons ((tLst tNil)) tNil))) (gName 2))
  (tSeq (tAsg ((tLst (tCons ((tC (.bl false))) tNil))) (gName 3))
  (tSeq (tAsg ((tC (.str ""))) (gName 4))
  (tSeq (tFor (iEnS 1 (tCons (tVar 1) tNil)) (gTup K 2 (gCons (gName 5) (gCons (gName 6) gNil))) (tSeq (tAsg ((tCall (sp_kind_of K) [] E0 (tCons (tVar 0) (tCons (tVar 6) tNil)))) (gName 7))
  (tSeq (tAsg ((tAndV ((tOp (rInU K) (tVar 7) ((tTab [(("" : Str), ("&xp" : Str)), (("&" : Str), ("xp" : Str)), (("x" : Str), ("xp," : Str)), (("p" : Str), ("xp.," : Str)), (("." : Str), ("p" : Str))] (tVar 4))))) ((tOrV ((tOp (rNeU K) (tVar 7) ((tC (.str ","))))) ((tOp (rEqU K) ((tCB (rLenU K) (tCons (tVar 2) tNil))) ((tC (.int 1))))))))) (gName 8))
  (tSeq (tIfS ((tAnd ((tTru K (tVar 8))) ((tOr ((tTest (tOp (rEqU K) (tVar 7) ((tC (.str "x")))))) ((tTest (tOp (rEqU K) (tVar 7) ((tC (.str "p")))))))))) ((tAsg ((tCall (sp_add_sign K) [] E0 (tCons (tVar 0) (tCons ((tOp (rIx K) (tVar 2) ((tUn (rU fun i => .int (-i)) ((tC (.int 1))))))) (tCons (tVar 4) (tCons (tVar 6) tNil)))))) (gName 8))) (tNext))
  (tSeq (tIfS ((tNot ((tTru K (tVar 8))))) ((sRaise (fun cls d _ H => E cls d H) (tBad1 (ec "BadNotation") "BadNotation" "column" (tVar 5)))) (tNext))
  (tSeq (tAsg (tVar 7) (gName 4))
  (tSeq (tIfS ((tTest (tOp (rEqU K) (tVar 7) ((tC (.str "&")))))) ((tAsg ((tC (.bl true))) (gSub (tVar 3) ((tUn (rU fun i => .int (-i)) ((tC (.int 1))))) rSetL))) (tNext))
  ((tIfS ((tTest (tOp (rEqU K) (tVar 7) ((tC (.str ",")))))) (tSeq (tDrop ((tBM K "list" rAppend (tVar 2) (tCons ((tLst tNil)) tNil))))
  (tSeq (tDrop ((tBM K "list" rAppend (tVar 3) (tCons ((tC (.bl false))) tNil))))
  ((tAsg ((tC (.str ""))) (gName 4))))) (tNext))))))))))
  (tSeq (tIfS ((tAnd ((tTest (tOp (rNeU K) (tVar 4) ((tC (.str "x")))))) ((tTest (tOp (rNeU K) (tVar 4) ((tC (.str "p")))))))) ((sRaise (fun cls d _ H => E cls d H) (tBad1 (ec "BadNotation") "BadNotation" "column" ((tOp (rAddU K) ((tCB (rLenU K) (tCons (tVar 1) tNil))) ((tC (.int 1)))))))) (tNext))
  (tSeq (tAsg ((tLst tNil)) (gName 9))
  (tSeq (tFor (iZipU K (tCons (tVar 2) (tCons (tVar 3) tNil))) (gTup K 2 (gCons (gName 10) (gCons (gName 11) gNil))) ((tDrop ((tBM K "list" rExtend (tVar 9) (tCons ((tCall (sp_changes_of_block K) [] E0 (tCons (tVar 0) (tCons (tVar 10) (tCons (tVar 11) tNil))))) tNil))))))
  ((tRet ((tThen (tVar 9) (kTupD K))))))))))))
section
variable {K : PySem.W.Frag} {ec : Str → Addr} {ns : List Str} {vs : List V} {H : Hp} {Q : VK} {E : XK}
theorem len_read_notation (h : sp_read_notation K ec vs H Q E) : vs.length = 2 := by obtain ⟨s, c, rfl, _⟩ := h; rfl
theorem bf_ne {n : Int} {b : Nat} (hb : vB n b) (h : ¬ 0 < plC n b) : bfS n b ≠ "p" := by
  unfold bfS
  rcases hb with rfl | rfl | rfl | rfl | z
  · rw [if_pos rfl]; decide
  · rw [if_neg (by decide), if_neg h]; decide
  · rw [if_neg (by decide), if_neg h]; decide
  · rw [if_neg (by decide), if_neg h]; decide
  · exact absurd z h
theorem bf_p {n : Int} {b : Nat} (hn : 0 ≤ n) (h : 0 < plC n b) : bfS n b = "p" := by
  unfold bfS
  rw [if_neg (pl_ne hn h).1, if_pos h, s_p]
theorem bf_x {n : Int} {b : Nat} (hn : 0 ≤ n) (hb : vB n b) : bfS n b = "x" ↔ b = 120 := by
  obtain ⟨a1, a2, a3, a4⟩ := plC_0 hn
  unfold bfS
  rcases hb with rfl | rfl | rfl | rfl | z
  · rw [if_pos rfl]; decide
  · rw [if_neg (by decide), if_neg (by omega)]; decide
  · rw [if_neg (by decide), if_neg (by omega)]; decide
  · rw [if_neg (by decide), if_neg (by omega)]; decide
  · rw [if_neg (pl_ne hn z).1, if_pos z]
    have := (pl_ne hn z).2.2.1
    constructor
    · intro h; exact absurd h (by decide)
    · intro h; exact absurd h this
theorem bf_38 {n : Int} (hn : 0 ≤ n) : bfS n 38 = ⟨#[38]⟩ := by unfold bfS; rw [if_neg (by decide), if_neg (by have := (plC_0 hn).2.2.1; omega)]
theorem bf_46 {n : Int} (hn : 0 ≤ n) : bfS n 46 = ⟨#[46]⟩ := by unfold bfS; rw [if_neg (by decide), if_neg (by have := (plC_0 hn).2.1; omega)]
theorem bf_120 {n : Int} (hn : 0 ≤ n) : bfS n 120 = ⟨#[120]⟩ := by unfold bfS; rw [if_neg (by decide), if_neg (by have := (plC_0 hn).1; omega)]
theorem bf_pl {n : Int} {c : Nat} (hn : 0 ≤ n) (h : 0 < plC n c) : bfS n c = ⟨#[112]⟩ := by unfold bfS; rw [if_neg (pl_ne hn h).1, if_pos h]
theorem ix_last {α : Type} {xs : List α} {x : α} {f : α → V} : ixN ((xs ++ [x]).map f).length (-1) = some xs.length := by
  unfold ixN
  rw [List.length_map, List.length_append, List.length_singleton, if_neg (by omega), if_pos (by omega)]
  congr 1
  omega
theorem pure_read_notation (XS : Exs K ec ns) (h : sp_read_notation K ec vs H Q E) : t_read_notation K ec E (En Q) (start N_read_notation vs) H := by
  obtain ⟨s, l, rfl, hl, qS, qn⟩ := h
  have hlsz := sizeLine_eq
  unfold t_read_notation
  walk_at "rd"
  refine ⟨s, rfl, fun hs => ?_, fun hs => qS hs⟩
  obtain ⟨n, rfl⟩ : ∃ n : Nat, s = (n : Int) := ⟨s.toNat, by have := hs.1; omega⟩
  obtain ⟨qE, q⟩ := qn n rfl (by have := hs.1; omega) (by have := hs.2; omega)
  have hn : (0 : Int) ≤ n := by omega
  walk_at "rd"
  intro t0 H1 nt0 s1 e1
  walk_at "rd"
  intro B H2 nB s2 e2
  walk_at "rd"
  intro F H3 nF s3 e3
  have e13 := s3 _ _ (s2 _ _ e1)
  have e23 := s3 _ _ e2
  have s03 := (s1.trans s2).trans s3
  have nB0 : H B = none := s1.free nB
  have nF0 : H F = none := (s1.trans s2).free nF
  have tB : t0 ≠ B := fun z => by subst z; rw [e1] at nB; cases nB
  have tF : t0 ≠ F := fun z => by subst z; rw [s2 _ _ e1] at nF; cases nF
  have BF : B ≠ F := fun z => by subst z; rw [e2] at nF; cases nF
  walk_at "rd"
  refine r_enS ?_
  walk_at "rd"
  refine r_penS ?_
  refine r_forEnS (fun i σ' H' => ∃ (b : Nat) (L0 : List (Addr × Qs)) (ba : Addr) (qs : Qs) (st : List Blk × Blk) (z5 z6 z7 z8 : Option V), σ' = [some (.int (n : Int)), some (.str (S l)), some (.ref B), some (.ref F), some (.str (bfS n b)), z5, z6, z7, z8, none, none, none] ∧ Same H H' ∧
      RH B F L0 ba qs (st.1.map (·.2) ++ [st.2.2]) H' ∧ RP n l i b L0 qs st ∧ H ba = none ∧ ∀ q ∈ qs, H q.1 = none)
    ⟨44, [], t0, [], ([], ([], false)), none, none, none, none, rfl, s03, ⟨e23, e3, ⟨e13, fun q hq => nomatch hq⟩, (fun x hx => (nomatch hx)), ?_, (fun x hx => (nomatch hx))⟩, ⟨rfl, rfl, Nat.zero_le _, (fun x hx => (nomatch hx)), ⟨Nat.zero_le _, fun q hq => nomatch hq⟩, rfl, rfl, .inl rfl, fun z => by have := (plC_0 hn).2.2.2; omega⟩, nt0, (fun q hq => (nomatch hq))⟩
    (fun i c σ' H' H4 hc hW s4 => ?_) (fun σ' H' hW => ?_)
  · simp only [List.nodup_cons, List.mem_cons, List.map_nil, List.not_mem_nil, or_false, not_or, not_false_eq_true, List.nodup_nil, and_true]
    exact ⟨⟨BF, Ne.symm tB⟩, Ne.symm tF⟩
  · obtain ⟨b, L0, ba, qs, st, z5, z6, z7, z8, rfl, st1, rh, rp, nba, nqs⟩ := hW
    have hc : l[i]? = some c := hc
    have hi : i < l.length := (List.getElem?_eq_some_iff.mp hc).1
    have rh4 := rh.same s4
    have st4 := st1.trans s4
    have hB4 := rh4.hB
    have hF4 := rh4.hF
    have lenB : ((L0 ++ [(ba, qs)]).map fun x => V.ref x.1).length = L0.length + 1 := by rw [List.length_map, List.length_append]; rfl
    have lqs := rp.z1.1
    have lenF : ((st.1.map (·.2) ++ [st.2.2]).map V.bl).length = L0.length + 1 := by
      have := congrArg List.length rp.c0
      rw [List.length_map, List.length_map] at this
      rw [List.length_map, List.length_append, List.length_map, this]; rfl
    have ml := rp.ml
    have aL : atI ((L0 ++ [(ba, qs)]).map fun x => V.ref x.1) (-1) = some (.ref ba) := at_lastV (fun x : Addr × Qs => V.ref x.1) L0 (ba, qs)
    have raise : fitN n b L0.length c = false → ∀ (H5 : Hp) (z : V), Same H H5 → sRaise (fun cls d _ H => E cls d H) (tBad1 (ec "BadNotation") "BadNotation" "column" (tVar 5)) { nx := fun _ _ => True, rt := Q } [some (.int (n : Int)), some (.str (S l)), some (.ref B), some (.ref F), some (.str (bfS n b)), some (.int (1 + (i : Int))), some (.str ⟨#[c]⟩), some (.str ⟨#[kindN n c]⟩), some z, none, none, none] H5 := fun hf H5 z s5 => by
      have hcol := rp.bad hc hf
      refine r_raise1 ?_
      walk_at "rd"
      refine r_prz1 fun d H6 s6 nd e6 => ?_
      have := qE (by omega) d H6 (s5.trans s6) (s5.free nd)
      rw [hcol, show (((i + 1 : Nat) : Int)) = 1 + (i : Int) by omega] at this
      exact this e6
    walk_at "rd"
    refine ⟨n, c, rfl, ?_⟩
    walk_at "rd"
    refine r_ptab (tab_mem hn rp.vb) ?_
    refine r_inSg ?_
    rw [folS_L]
    walk_at "rd"
    by_cases hf : fitN n b L0.length c = true
    · obtain ⟨y1, y2, y3, y4⟩ := fit_yes hn rp.vb hf
      refine r_iteP y1 ?_
      rcases kind_cases hn c with ⟨rfl, e⟩ | ⟨rfl, e⟩ | ⟨rfl, e⟩ | ⟨rfl, h2, e⟩ | ⟨h2, e⟩ | ⟨h2, h3, h4, h5, h6, e⟩
      · rw [e]
        walk_at "rd"
        walk_at "nno"
        walk_at "no"
        walk_at "no"
        walk_at "yes"
        refine r_setL hF4 ix_last ?_
        intro H5 b5 e5
        have e5 : H5 F = some (.lst ((st.1.map (·.2) ++ [true]).map V.bl)) := by
          rw [e5, List.map_append, List.map_append]
          congr 2
          rw [List.length_map, List.set_append_right _ _ (by rw [List.length_map, List.length_map]; exact Nat.le_refl _)]
          simp
        walk_at "rd"
        walk_at "no"
        exact ⟨38, L0, ba, qs, (st.1, (st.2.1, true)), _, _, _, _, by rw [bf_38 hn]; rfl, same_but st4 b5 nF0, rh4.amp b5 e5, rp.amp hn hc hf, nba, nqs⟩
      · rw [e]
        walk_at "rd"
        walk_at "nno"
        walk_at "no"
        walk_at "no"
        walk_at "no"
        walk_at "no"
        exact ⟨46, L0, ba, qs, st, _, _, _, _, by rw [bf_46 hn]; rfl, st4, rh4, rp.dot hn hc hf, nba, nqs⟩
      · have y2 := y2 rfl
        rw [e]
        walk_at "rd"
        walk_at "nyes"
        refine r_iteP (by omega) ?_
        walk_at "rd"
        walk_at "no"
        walk_at "no"
        refine r_iteNP (by omega) ?_
        walk_at "rd"
        walk_at "no"
        walk_at "yes"
        intro t H5 nt s5 e5
        have hB5 := s5 _ _ hB4
        walk_at "rd"
        intro H6 b6 e6
        have hF6 := b6 _ _ (Ne.symm BF) (s5 _ _ hF4)
        walk_at "rd"
        intro H7 b7 e7
        walk_at "rd"
        have rh7 := rh4.comma s5 nt e5 b6 e6 b7 (by rw [e7]; simp)
        refine ⟨44, L0 ++ [(ba, qs)], t, [], (st.1 ++ [st.2], ([], false)), _, _, _, _, rfl, same_but (same_but (st4.trans s5) b6 nB0) b7 nF0, ?_, rp.comma hn hc hf y2, st4.free nt, (fun q hq => (nomatch hq))⟩
        have ef : (st.1 ++ [st.2]).map (·.2) ++ [false] = (st.1.map (·.2) ++ [st.2.2]) ++ [false] := by rw [List.map_append]; rfl
        show RH B F (L0 ++ [(ba, qs)]) t [] ((st.1 ++ [st.2]).map (·.2) ++ [false]) H7
        rw [ef]; exact rh7
      · rw [e]
        walk_at "rd"
        walk_at "nno"
        walk_at "yes"
        refine ⟨n, ba, bfS n b, 120, qs, rfl, rh4.hk, by omega, (fun q hq => by have := rp.z1.2 q hq; omega), fun _ t H5 nt b5 e5 e6 => ?_, fun z => absurd (plC_0 hn).1 z, fun z => absurd (plC_0 hn).1 z⟩
        walk_at "rd"
        walk_at "no"
        walk_at "no"
        refine ⟨120, L0, ba, qs ++ [(t, [])], (st.1, (st.2.1 ++ [[]], st.2.2)), _, _, _, _, by rw [bf_120 hn]; rfl, same_but st4 b5 nba, rh4.push nt b5 e5 e6, rp.x hn hc hf, nba, fun q hq => ?_⟩
        rcases List.mem_append.mp hq with w | w
        · exact nqs q w
        · rw [List.mem_singleton] at w; subst w; exact st4.free nt
      · rw [e]
        walk_at "rd"
        walk_at "nno"
        walk_at "no"
        walk_at "yes"
        by_cases hb : 0 < plC n b
        · obtain ⟨r, p, e1', hne, hla⟩ := rp.la hb
          have e2' := rp.c1
          rw [e1'] at e2'
          obtain ⟨r', q', rfl⟩ := last_of qs (by rintro rfl; simp at e2')
          have e3' : q'.2 = p := by
            rw [List.map_append] at e2'
            have := congrArg List.getLast? e2'
            simpa [List.getLast?_append] using this
          subst e3'
          refine ⟨n, ba, bfS n b, c, r' ++ [q'], rfl, rh4.hk, by omega, (fun q hq => by have := rp.z1.2 q hq; omega), fun z => by omega, fun _ z => absurd (bf_p hn hb) z, fun _ _ => ⟨r', q', rfl, hne, fun _ H5 b5 e5 => ?_, fun z => ?_⟩⟩
          · walk_at "rd"
            walk_at "no"
            walk_at "no"
            refine ⟨c, L0, ba, r' ++ [(q'.1, q'.2 ++ [plC n c])], (st.1, (mapL (· ++ [plC n c]) st.2.1, st.2.2)), _, _, _, _, by rw [bf_pl hn h2]; rfl, same_but st4 b5 (nqs q' (by simp)), rh4.ext b5 e5, rp.more hn hc hf h2 hb, nba, fun q hq => ?_⟩
            rcases List.mem_append.mp hq with w | w
            · exact nqs q (List.mem_append_left _ w)
            · rw [List.mem_singleton] at w; subst w; exact nqs q' (by simp)
          · have := y3 h2 hb
            rw [hla] at z
            rw [z] at this; cases this
        · refine ⟨n, ba, bfS n b, c, qs, rfl, rh4.hk, by omega, (fun q hq => by have := rp.z1.2 q hq; omega), fun z => by omega, fun _ _ t H5 nt b5 e5 e6 => ?_, fun _ z => absurd z (bf_ne rp.vb hb)⟩
          walk_at "rd"
          walk_at "no"
          walk_at "no"
          refine ⟨c, L0, ba, qs ++ [(t, [plC n c])], (st.1, (st.2.1 ++ [[plC n c]], st.2.2)), _, _, _, _, by rw [bf_pl hn h2]; rfl, same_but st4 b5 nba, rh4.push nt b5 e5 e6, rp.new hn hc hf h2 hb, nba, fun q hq => ?_⟩
          rcases List.mem_append.mp hq with w | w
          · exact nqs q w
          · rw [List.mem_singleton] at w; subst w; exact st4.free nt
      · rcases y4 with z | z | z | z | z
        · exact absurd z h3
        · exact absurd z h4
        · exact absurd z h5
        · subst z
          have : (n : Int) % 2 = 0 := by
            have hf := hf
            simp [fitN] at hf
            omega
          exact absurd ⟨rfl, this⟩ h6
        · exact absurd z h2
    · have hf : fitN n b L0.length c = false := by simpa using hf
      by_cases hk : kindN n c ∈ folL n b
      · refine r_iteP hk ?_
        rcases fit_no hn rp.vb hf with z | ⟨rfl, hm⟩ | ⟨h2, hb, hfo⟩
        · exact absurd hk z
        · have e : kindN n 44 = 44 := by unfold kindN; rw [if_neg (by have := (plC_0 hn).2.2.2; omega), if_pos (by simp)]
          rw [e] at raise
          rw [e]
          walk_at "rd"
          walk_at "nyes"
          refine r_iteM (by omega) ?_
          walk_at "rd"
          refine r_iteNM (by omega) ?_
          exact raise hf H4 _ st4
        · have e : kindN n c = 112 := by unfold kindN; rw [if_pos h2]
          rw [e] at raise
          rw [e]
          walk_at "rd"
          walk_at "nno"
          walk_at "no"
          walk_at "yes"
          obtain ⟨r, p, e1', hne, hla⟩ := rp.la hb
          have e2' := rp.c1
          rw [e1'] at e2'
          obtain ⟨r', q', rfl⟩ := last_of qs (by rintro rfl; simp at e2')
          have e3' : q'.2 = p := by
            rw [List.map_append] at e2'
            have := congrArg List.getLast? e2'
            simpa [List.getLast?_append] using this
          subst e3'
          refine ⟨n, ba, bfS n b, c, r' ++ [q'], rfl, rh4.hk, by omega, (fun q hq => by have := rp.z1.2 q hq; omega), fun z => by omega, fun _ z => absurd (bf_p hn hb) z, fun _ _ => ⟨r', q', rfl, hne, fun z => ?_, fun _ => ?_⟩⟩
          · rw [hla, hfo] at z; cases z
          · walk_at "rd"
            exact raise hf H4 _ st4
      · refine r_iteM hk ?_
        walk_at "rd"
        exact raise hf H4 _ st4
  · obtain ⟨b, L0, ba, qs, st, z5, z6, z7, z8, rfl, st1, rh, rp, nba, nqs⟩ := hW
    have hz : (S l).cps.toList.length = l.length := rfl
    rw [hz] at rp
    have hcl := rp.hc
    have hrl := rp.hr
    rw [List.drop_length] at hcl hrl
    have hcl : (if b = 120 ∨ 0 < plC n b then 0 else l.length + 1) = colN n 44 0 0 l := hcl
    have hrl : st.1 ++ [st.2] = runN n 44 ([], ([], false)) l := hrl
    have raise : ¬ (b = 120 ∨ 0 < plC n b) → sRaise (fun cls d _ H => E cls d H) (tBad1 (ec "BadNotation") "BadNotation" "column" ((tOp (rAddU K) ((tCB (rLenU K) (tCons (tVar 1) tNil))) ((tC (.int 1)))))) { nx := fun _ _ => True, rt := Q } [some (.int (n : Int)), some (.str (S l)), some (.ref B), some (.ref F), some (.str (bfS n b)), z5, z6, z7, z8, none, none, none] H' := fun hb => by
      rw [if_neg hb] at hcl
      refine r_raise1 ?_
      walk_at "rd"
      refine r_lenSS (by omega) ?_
      walk_at "rd"
      refine r_prz1 fun d H6 s6 nd e6 => ?_
      have := qE (by omega) d H6 (st1.trans s6) (st1.free nd)
      rw [← hcl, show (((l.length + 1 : Nat) : Int)) = (l.length : Int) + 1 by omega] at this
      exact this e6
    have main : (b = 120 ∨ 0 < plC n b) → tSeq (tAsg ((tLst tNil)) (gName 9))
      (tSeq (tFor (iZipU K (tCons (tVar 2) (tCons (tVar 3) tNil))) (gTup K 2 (gCons (gName 10) (gCons (gName 11) gNil))) ((tDrop ((tBM K "list" rExtend (tVar 9) (tCons ((tCall (sp_changes_of_block K) [] E0 (tCons (tVar 0) (tCons (tVar 10) (tCons (tVar 11) tNil))))) tNil))))))
      ((tRet ((tThen (tVar 9) (kTupD K)))))) (En Q) [some (.int (n : Int)), some (.str (S l)), some (.ref B), some (.ref F), some (.str (bfS n b)), z5, z6, z7, z8, none, none, none] H' := fun hb => by
      rw [if_pos hb] at hcl
      have q := q hcl.symm
      walk_at "rd"
      intro C H4 nC s4 e4
      have rh4 := rh.same s4
      have st4 := st1.trans s4
      have nC0 := st1.free nC
      have hB4 := rh4.hB
      have hF4 := rh4.hF
      have eL : (L0 ++ [(ba, qs)]).map (fun x => x.2.map (·.2)) = (st.1 ++ [st.2]).map (·.1) := by
        rw [List.map_append, List.map_append, rp.c0]
        show _ ++ [qs.map (·.2)] = _ ++ [st.2.1]
        rw [rp.c1]
      have eF : st.1.map (·.2) ++ [st.2.2] = (st.1 ++ [st.2]).map (·.2) := by rw [List.map_append]; rfl
      have bk : ∀ x ∈ L0 ++ [(ba, qs)], BK H' x.1 x.2 ∧ x.2.length ≤ l.length ∧ ∀ q ∈ x.2, q.2.length ≤ l.length := fun x hx => by
        rcases List.mem_append.mp hx with w | w
        · exact ⟨rh.h0 x w, rp.z0 x w⟩
        · rw [List.mem_singleton] at w; subst w; exact ⟨rh.hk, rp.z1⟩
      have ll : (L0 ++ [(ba, qs)]).length ≤ 2 := by rw [List.length_append]; have := rp.ml; simp; omega
      rw [eF] at hF4
      have hCB : C ≠ B := fun z => by subst z; rw [rh.hB] at nC; cases nC
      have hCF : C ≠ F := fun z => by subst z; rw [rh.hF] at nC; cases nC
      generalize L0 ++ [(ba, qs)] = L at hB4 eL bk ll
      generalize st.1 ++ [st.2] = bs at hF4 eL hrl
      have lLb : L.length = bs.length := by have := congrArg List.length eL; rw [List.length_map, List.length_map] at this; exact this
      walk_at "rd"
      refine r_pzip (sqL_of hB4) (sqL_of hF4) ?_
      refine r_forZip (xs := L.map fun x => V.ref x.1) (ys := (bs.map (·.2)).map V.bl) (by rw [List.length_map, List.length_map, List.length_map]; exact lLb) (fun j σ' H5 => ∃ (ws : List V) (z10 z11 : Option V), σ' = [some (.int (n : Int)), some (.str (S l)), some (.ref B), some (.ref F), some (.str (bfS n b)), z5, z6, z7, z8, some (.ref C), z10, z11] ∧
          But C H4 H5 ∧ H5 C = some (.lst ws) ∧ TL K H5 ws ((bs.take j).flatMap (blkN n)) ∧ ws.length ≤ j * 40000)
        ⟨[], none, none, rfl, But.refl, e4, TL.nil, Nat.zero_le _⟩ (fun j σ' H5 hW => ?_) (fun j x y T σ' H5 H6 hx hy hW nT s6 eT => ?_) (fun σ' H5 hW => ?_)
      · obtain ⟨ws, z10, z11, rfl, b5, e5, t5, l5⟩ := hW
        exact ⟨sqL_of (b5 _ _ (Ne.symm hCB) hB4), sqL_of (b5 _ _ (Ne.symm hCF) hF4)⟩
      · obtain ⟨ws, z10, z11, rfl, b5, e5, t5, l5⟩ := hW
        rw [List.getElem?_map] at hx
        obtain ⟨u, hu, rfl⟩ := Option.map_eq_some_iff.mp hx
        rw [List.map_map, List.getElem?_map] at hy
        obtain ⟨v, hv, rfl⟩ := Option.map_eq_some_iff.mp hy
        obtain ⟨k1, k2, k3⟩ := bk u (List.mem_of_getElem? hu)
        have hjl : j < L.length := (List.getElem?_eq_some_iff.mp hu).1
        have euv : u.2.map (·.2) = v.1 := by
          have h1 : (L.map fun x => x.2.map (·.2))[j]? = some (u.2.map (·.2)) := by rw [List.getElem?_map, hu]; rfl
          rw [eL, List.getElem?_map, hv] at h1
          exact (Option.some.inj h1).symm
        have hC' : ∀ a o, H' a = some o → a ≠ C := fun a o e1 z => by subst z; rw [e1] at nC; cases nC
        have k1' : BK H6 u.1 u.2 := by
          have hu' : BK H' u.1 u.2 := k1
          have h1 : ∀ a o, H' a = some o → H6 a = some o := fun a o e1 => s6 _ _ (b5 _ _ (hC' a o e1) (s4 _ _ e1))
          exact ⟨h1 _ _ hu'.1, fun q hq => h1 _ _ (hu'.2 q hq)⟩
        refine r_gTup2 (sqT_of eT) ?_
        have e6 := s6 _ _ e5
        walk_at "rd"
        refine ⟨n, u.1, v.2, u.2, rfl, k1', by omega, (fun q hq => by have := k3 q hq; omega), fun p H7 ys np s7 e7 t7 => ?_⟩
        rw [euv] at t7
        have e67 := s7 _ _ e6
        have ly := t7.len
        have lb : (blkN n (v.1, v.2)).length ≤ 40000 := by
          have hv1 : v.1.length ≤ l.length := by rw [← euv, List.length_map]; exact k2
          unfold blkN
          dsimp only
          split
          · rw [List.length_append, List.length_reverse, List.length_dropLast, List.length_map]; omega
          · rw [List.length_map]; omega
        walk_at "rd"
        refine r_extend e67 e7 (by omega) fun H8 b8 e8 => ?_
        have t57 := (t5.same s6).same s7
        refine ⟨ws ++ ys, _, _, rfl, (b5.trans (Same.but (s6.trans s7))).trans b8, e8, ?_, by rw [List.length_append]; omega⟩
        rw [List.take_add_one, hv, List.flatMap_append]
        have : [v].flatMap (blkN n) = blkN n v := by simp
        show TL K H8 (ws ++ ys) (_ ++ [v].flatMap (blkN n))
        rw [this]
        exact (t57.app t7).but b8 e67
      · obtain ⟨ws, z10, z11, rfl, b5, e5, t5, l5⟩ := hW
        rw [List.length_map, lLb, List.take_length, hrl] at t5
        walk_at "rd"
        intro p H6 np s6 e6
        exact q p H6 ws ((same_but st4 b5 nC0).free np) ((same_but st4 b5 nC0).trans s6) (sqT_ofD e6) (t5.same s6) (noD_of e6)
    walk_at "rd"
    by_cases hx : b = 120
    · refine r_iteNP ((bf_x hn rp.vb).mpr hx) ?_
      first
        | exact main (.inl hx)
        | exact r_next (main (.inl hx))
        | (refine r_F ?_; exact r_next (main (.inl hx)))
        | (refine r_F ?_; exact main (.inl hx))
    · refine r_iteNM (fun z => hx ((bf_x hn rp.vb).mp z)) ?_
      walk_at "rd"
      by_cases hp : 0 < plC n b
      · refine r_iteNP (bf_p hn hp) ?_
        first
          | exact main (.inr hp)
          | exact r_next (main (.inr hp))
          | (refine r_F ?_; exact r_next (main (.inr hp)))
          | (refine r_F ?_; exact main (.inr hp))
      · refine r_iteNM (bf_ne rp.vb hp) ?_
        exact raise (fun z => z.elim hx hp)
end
end K11
end Kb
set_option Elab.async false
set_option linter.all false
set_option maxRecDepth 100000
set_option maxHeartbeats 4000000
namespace Kb
open PySem PySem.Spec PyProof.Rows L2 SX
local macro_rules | `(tactic| walk_at "tk") => `(tactic| first
  | assumption
  | ((with_reducible refine' sqT_of ?k); (case k => assumption))
  | ((with_reducible refine' sqT_ofD ?k); (case k => assumption))
  | ((with_reducible refine' noD_of ?k); (case k => assumption))
  | ((with_reducible refine' noD_same ?s ?k); (case s => assumption); (case k => walk_at "tk"))
  | ((with_reducible refine' sqL_of ?k); (case k => assumption))
  | ((with_reducible refine' sqT_same ?s ?k); (case s => assumption); (case k => walk_at "tk"))
  | ((with_reducible refine' sqL_same ?s ?k); (case s => assumption); (case k => walk_at "tk"))
  | ((with_reducible refine' sqT_but ?s ?t ?k); (case s => assumption); (case t => walk_at "tk"); (case k => walk_at "tk"))
  | ((with_reducible refine' sqL_but ?s ?t ?k); (case s => assumption); (case t => walk_at "ne"); (case k => walk_at "tk"))
  | ((with_reducible refine' sqL_of ?k); (case k => walk_at "tk"))
  | ((with_reducible refine' sqT_of ?k); (case k => walk_at "tk"))
  | ((with_reducible refine' at_same ?s ?k); (case s => assumption); (case k => walk_at "tk"))
  | ((with_reducible refine' at_but ?s ?t ?k); (case s => assumption); (case t => walk_at "ne"); (case k => walk_at "tk")))
local macro_rules | `(tactic| walk_at "ne") => `(tactic| first
  | assumption
  | (refine Ne.symm ?_; assumption)
  | exact ne_of_none (by assumption) (by assumption)
  | exact (ne_of_none (by assumption) (by assumption)).symm)
local macro_rules | `(tactic| walk_at "side") => `(tactic| first
  | assumption
  | omega
  | (simp only [sizeLine_eq, List.length_cons, List.length_nil, List.length_map]; omega)
  | (show _ ≤ sizeLine; decide))
local macro_rules | `(tactic| walk_at "kit") => `(tactic| first
  | (show kitB _ _ = some true; decide +kernel)
  | (show kitB _ _ = some false; decide +kernel))
local macro_rules | `(tactic| walk_at "rng") => `(tactic| first
  | (refine ⟨by omega, by omega, by omega, by omega⟩)
  | (refine ⟨by omega, by omega⟩)
  | ((simp only [List.length_map]); (refine ⟨by omega, by omega, by omega, by omega⟩))
  | ((simp only [List.length_map]); (refine ⟨by omega, by omega⟩)))
local macro_rules | `(tactic| walk_at "rd1") => `(tactic| first
  | with_reducible refine r_seq ?_
  | ((with_reducible refine' r_var ?k0 ?_); (case k0 => rfl))
  | with_reducible refine r_op ?_
  | with_reducible refine r_c ?_
  | with_reducible refine r_asg ?_
  | with_reducible refine r_name ?_
  | with_reducible refine r_cons ?_
  | with_reducible refine r_nil ?_
  | with_reducible refine r_CB ?_
  | with_reducible refine r_if ?_
  | with_reducible refine r_test ?_
  | with_reducible refine r_k ?_
  | with_reducible refine r_T ?_
  | with_reducible refine r_F ?_
  | with_reducible refine r_nT ?_
  | with_reducible refine r_nF ?_
  | with_reducible refine r_ret ?_
  | with_reducible refine r_drop ?_
  | with_reducible refine r_next ?_
  | with_reducible refine r_call ?_
  | with_reducible refine r_addI ?_
  | with_reducible refine r_subI ?_
  | with_reducible refine r_ltI ?_
  | with_reducible refine r_gtI ?_
  | with_reducible refine r_leI ?_
  | with_reducible refine r_geI ?_
  | with_reducible refine r_eqI ?_
  | with_reducible refine r_neI ?_
  | with_reducible refine r_int ?_
  | with_reducible refine r_abs ?_
  | with_reducible refine r_not ?_
  | with_reducible refine r_and ?_
  | with_reducible refine r_or ?_
  | with_reducible refine r_tru ?_
  | with_reducible refine r_truB ?_
  | with_reducible refine r_lst ?_
  | with_reducible refine r_tup ?_
  | with_reducible refine r_BM ?_
  | with_reducible refine r_BM0 ?_
  | with_reducible refine r_tyS ?_
  | with_reducible refine r_gsub ?_
  | with_reducible refine r_then ?_
  | with_reducible refine r_lstRg ?_
  | with_reducible refine r_tupRg ?_
  | with_reducible refine r_rg2 ?_
  | with_reducible refine r_rg1 ?_
  | with_reducible refine r_ii ?_
  | with_reducible refine r_i ?_
  | with_reducible refine r_ipI ?_
  | with_reducible refine r_un ?_
  | with_reducible refine r_neg ?_
  | with_reducible refine r_isN ?_
  | with_reducible refine r_notN ?_
  | with_reducible refine r_notV ?_
  | with_reducible refine r_pnot ?_
  | with_reducible refine r_pif ?_
  | with_reducible refine r_andV ?_
  | with_reducible refine r_orV ?_
  | with_reducible refine r_ifE ?_
  | with_reducible refine r_chain ?_
  | with_reducible refine r_sl ?_
  | with_reducible refine r_noPart ?_
  | with_reducible refine r_part ?_
  | with_reducible refine r_brk ?_
  | with_reducible refine r_cont ?_
  | with_reducible refine r_retN ?_
  | with_reducible refine r_truI ?_
  | with_reducible refine r_B ?_
  | with_reducible refine r_for ?_
  | with_reducible refine r_rng1 ?_
  | with_reducible refine r_rng2 ?_
  | with_reducible refine r_rng3 ?_
  | with_reducible refine r_body ?_
  | with_reducible refine r_lc ?_
  | with_reducible refine r_yes ?_
  | ((with_reducible refine' r_mod ?k0 ?_); (case k0 => walk_at "side"))
  | ((with_reducible refine' r_mulI ?k0 ?_); (case k0 => first | exact Or.inl ⟨by omega, by omega⟩ | exact Or.inr ⟨by omega, by omega⟩))
  | ((with_reducible refine' r_lenL ?k0 ?_); (case k0 => walk_at "tk"))
  | ((with_reducible refine' r_lenT ?k0 ?_); (case k0 => walk_at "tk"))
  | ((with_reducible refine' r_truL ?k0 ?_); (case k0 => walk_at "tk"))
  | ((with_reducible refine' r_truT ?k0 ?_); (case k0 => walk_at "tk"))
  | ((with_reducible refine' r_ixL ?k0 ?k1 ?_); (case k0 => walk_at "tk"); (case k1 => first | assumption | rfl))
  | ((with_reducible refine' r_ixT ?k0 ?k1 ?_); (case k0 => walk_at "tk"); (case k1 => first | assumption | rfl))
  | ((with_reducible refine' r_new ?k0 ?_); (case k0 => walk_at "side"))
  | ((with_reducible refine' r_tyL ?k0 ?_); (case k0 => walk_at "tk"))
  | ((with_reducible refine' r_append ?k0 ?k1 ?_); (case k0 => walk_at "tk"); (case k1 => walk_at "side"))
  | ((with_reducible refine' r_setL ?k0 ?k1 ?_); (case k0 => walk_at "tk"); (case k1 => first | assumption | rfl))
  | ((with_reducible refine' r_kTupL ?k0 ?_); (case k0 => walk_at "tk"))
  | ((with_reducible refine' r_kTupT ?k0 ?_); (case k0 => walk_at "tk"))
  | ((with_reducible refine' r_listL ?k0 ?_); (case k0 => walk_at "tk"))
  | ((with_reducible refine' r_listT ?k0 ?_); (case k0 => walk_at "tk"))
  | ((with_reducible refine' r_aug ?k0 ?_); (case k0 => rfl))
  | ((with_reducible refine' r_lenS ?k0 ?_); (case k0 => walk_at "side"))
  | ((with_reducible refine' r_pop ?k0 ?_); (case k0 => walk_at "tk"))
  | ((with_reducible refine' r_pr1 ?k0 ?_); (case k0 => walk_at "rng"))
  | ((with_reducible refine' r_pr2 ?k0 ?_); (case k0 => walk_at "rng"))
  | ((with_reducible refine' r_pr3d ?k0 ?_); (case k0 => walk_at "rng"))
  | ((with_reducible refine' r_isiI ?k0 ?_); (case k0 => walk_at "kit"))
  | ((with_reducible refine' r_isiB ?k0 ?_); (case k0 => walk_at "kit"))
  | ((with_reducible refine' r_isiS ?k0 ?_); (case k0 => walk_at "kit"))
  | ((with_reducible refine' r_isiN ?k0 ?_); (case k0 => walk_at "kit"))
  | ((with_reducible refine' r_isiT ?k0 ?k1 ?_); (case k0 => walk_at "tk"); (case k1 => walk_at "kit"))
  | ((with_reducible refine r_seqT ?_); (repeat (walk_at "rd1")); ((with_reducible refine' r_pseqT ?k0 ?_); (case k0 => walk_at "tk")))
  | ((with_reducible refine r_seqL ?_); (repeat (walk_at "rd1")); ((with_reducible refine' r_pseqL ?k0 ?_); (case k0 => walk_at "tk")))
  | ((with_reducible refine r_seqS ?_); (repeat (walk_at "rd1")); (with_reducible refine r_pseqS ?_)))
local macro_rules | `(tactic| walk_at "rd") => `(tactic| ((repeat (walk_at "rd1")); (try dsimp only)))
local macro_rules | `(tactic| walk_at "rd1") => `(tactic| first
  | with_reducible refine r_BMT ?_
  | with_reducible refine r_par ?_
  | with_reducible refine r_parV ?_
  | ((with_reducible refine' r_ptp ?k0 ?k1 ?_); (case k0 => walk_at "tk"); (case k1 => walk_at "tk"))
  | with_reducible refine r_eqS ?_
  | with_reducible refine r_neS ?_
  | with_reducible refine r_callW ?_
  | with_reducible refine r_try ?_
  | with_reducible refine r_enT ?_
  | ((with_reducible refine' r_pen ?k0 ?_); (case k0 => walk_at "tk")))
local macro_rules | `(tactic| walk_at "pl0") => `(tactic| first
  | assumption
  | exact pl_same (by assumption) (by assumption)
  | exact pl_same (by assumption) (pl_same (by assumption) (by assumption))
  | exact pl_same (by assumption) (pl_same (by assumption) (pl_same (by assumption) (by assumption))))
local macro_rules | `(tactic| walk_at "pl") => `(tactic| first
  | walk_at "pl0"
  | ((with_reducible refine' pl_butL ?s ?n ?k); (case s => assumption); (case n => walk_at "ne"); (case k => walk_at "pl"))
  | ((with_reducible refine' pl_same ?s ?k); (case s => assumption); (case k => walk_at "pl")))
local macro_rules | `(tactic| walk_at "ne") => `(tactic| first
  | exact ne_pl (by assumption) (by walk_at "pl0")
  | exact (ne_pl (by assumption) (by walk_at "pl0")).symm)
local macro_rules | `(tactic| walk_at "fr") => `(tactic| first
  | assumption
  | ((with_reducible refine' free_but ?b ?n ?h); (case h => assumption); (case n => walk_at "ne"); (case b => walk_at "but"))
  | ((with_reducible refine' Same.free ?b ?h); (case h => assumption); (case b => walk_at "same")))
local macro_rules | `(tactic| walk_at "but") => `(tactic| first
  | assumption
  | exact But.refl
  | ((with_reducible refine' But.trans ?a ?b); (case b => assumption); (case a => walk_at "but"))
  | ((with_reducible refine' But.trans ?a (Same.but ?b)); (case b => assumption); (case a => walk_at "but"))
  | ((with_reducible refine' but_via ?a ?b ?c); (case b => assumption); (case c => walk_at "fr"); (case a => walk_at "but")))
local macro_rules | `(tactic| walk_at "same") => `(tactic| first
  | assumption
  | exact Same.refl _
  | ((with_reducible refine' Same.trans ?a ?b); (case b => assumption); (case a => walk_at "same"))
  | ((with_reducible refine' same_but ?a ?b ?c); (case b => assumption); (case c => walk_at "fr"); (case a => walk_at "same")))
local macro_rules | `(tactic| walk_at "tk") => `(tactic| first
  | ((with_reducible refine' sqT_pl ?s ?t ?k); (case s => assumption); (case t => walk_at "pl0"); (case k => walk_at "tk"))
  | ((with_reducible refine' rp_same ?s ?k); (case s => assumption); (case k => walk_at "tk"))
  | ((with_reducible refine' rp_pl ?s ?t ?k); (case s => assumption); (case t => walk_at "pl0"); (case k => walk_at "tk")))
local macro_rules | `(tactic| walk_at "it") => `(tactic| first
  | assumption
  | ((with_reducible refine' sqI_1 ?k); (case k => assumption))
  | ((with_reducible refine' sqI_0 ?k); (case k => assumption))
  | ((with_reducible refine' sqI_of ?k); (case k => assumption))
  | ((with_reducible refine' sqI_D ?k); (case k => assumption))
  | ((with_reducible refine' sqT_same ?s ?k); (case s => assumption); (case k => walk_at "it"))
  | ((with_reducible refine' sqT_but ?s ?t ?k); (case s => assumption); (case t => assumption); (case k => walk_at "it"))
  | ((with_reducible refine' sqT_pl ?s ?t ?k); (case s => assumption); (case t => walk_at "pl0"); (case k => walk_at "it")))
local macro_rules | `(tactic| walk_at "sz") => `(tactic| first | omega | ((try simp only [List.length_cons, List.length_nil] at *); omega))
local macro_rules | `(tactic| walk_at "au1") => `(tactic| first
  | walk_at "rd1"
  | ((with_reducible refine' r_draw ?k0 ?k1 ?k2 ?_); (case k0 => walk_at "pl"); (case k1 => omega); (case k2 => omega); (intro _ _ _ _ _ _))
  | ((with_reducible refine' r_slN ?k0 ?_); (case k0 => walk_at "it"); (intro _ _ _ _ _ _))
  | ((with_reducible refine' r_catN ?k0 ?k1 ?k2 ?_); (case k0 => walk_at "it"); (case k1 => walk_at "it"); (case k2 => walk_at "sz"); (intro _ _ _ _ _ _))
  | ((with_reducible refine' r_pow ?k0 ?_); (case k0 => exact ⟨by decide, by decide, by decide⟩))
  | ((with_reducible refine' r_ixI ?k0 ?k1 ?k2 ?_); (case k0 => walk_at "it"); (case k1 => omega); (case k2 => omega); (intro _ _))
  | ((with_reducible refine' r_setI ?k0 ?k1 ?k2 ?_); (case k0 => walk_at "tk"); (case k1 => omega); (case k2 => omega); (intro _ _ _ _ _))
  | ((with_reducible refine' r_kTupI ?k0 ?_); (case k0 => walk_at "tk"); (intro _ _ _ _ _))
  | ((with_reducible refine' r_listI ?k0 ?_); (case k0 => walk_at "it"); (intro _ _ _ _ _))
  | (with_reducible refine r_revU ?_)
  | ((with_reducible refine' r_prevN ?k0 ?_); (case k0 => walk_at "it"); (intro _ _ _ _ _ _))
  | (intro _ _ _ _ _))
local macro_rules | `(tactic| walk_at "go") => `(tactic| ((repeat (walk_at "au1")); (first
  | ((with_reducible refine r_ite (fun _ => ?_) (fun _ => ?_)) <;> (walk_at "go"))
  | ((with_reducible refine r_iteN (fun _ => ?_) (fun _ => ?_)) <;> (walk_at "go"))
  | dsimp only
  | skip)))
local macro_rules | `(tactic| walk_at "au1") => `(tactic| first
  | with_reducible refine r_revS ?_
  | ((with_reducible refine' r_prevSN ?k0 ?_); (case k0 => walk_at "sz"); (intro _ _))
  | ((with_reducible refine' r_slSN ?k0 ?_); (case k0 => walk_at "sz"); (intro _ _))
  | ((with_reducible refine' r_catSN ?k0 ?_); (case k0 => walk_at "sz"); (intro _ _))
  | ((with_reducible refine' r_lenSS ?k0 ?_); (case k0 => walk_at "sz")))
def sp_law_sign (K : PySem.W.Frag) : Sp := fun vs H Q _ => ∃ (p : Addr), vs = [.ref p] ∧ Pl H p ∧ ∀ c H', But p H H' → Pl H' p → Q (.str (S [c])) H'
def sp_law_text (K : PySem.W.Frag) : Sp := fun vs H Q _ => ∃ (p : Addr) (n : Nat), vs = [.ref p, .int (n : Int)] ∧ Pl H p ∧ 1 ≤ n ∧ n ≤ 12 ∧ ∀ l H', But p H H' → Pl H' p → l.length ≤ 5000 → Q (.str (S l)) H'
def sp_law_bent_text (K : PySem.W.Frag) : Sp := fun vs H Q _ => ∃ (p : Addr) (l : List Nat), vs = [.ref p, .str (S l)] ∧ Pl H p ∧ l.length ≤ 5000 ∧ ∀ m H', But p H H' → Pl H' p → m.length ≤ 20000 → Q (.str (S m)) H'
abbrev N_law_sign : List Str := ["pool", "signs"]
def t_law_sign (K : PySem.W.Frag) : TS :=
  tSeq (tIfS ((tTest (tOp (rEqU K) ((tCall (sp_law_draw K) [] E0 (tCons (tVar 0) (tCons ((tC (.int 2))) tNil)))) ((tC (.int 0)))))) ((tRet ((tOp (rIx K) ((tC (.str "x.1234567890ET&,e "))) ((tCall (sp_law_draw K) [] E0 (tCons (tVar 0) (tCons ((tC (.int 18))) tNil)))))))) (tNext))
  (tSeq (tAsg ((tC (.str " !\"#$&'()*+,-./0123456789:;<=>?@ABCDEFGHIJKLMNOPQRSTUVWXYZ[\\]^_`"))) (gName 1))
  (tSeq (tAsg ((tOp (rAddU K) (tVar 1) ((tC (.str "abcdefghijklmnopqrstuvwxyz{|}~"))))) (gName 1))
  ((tRet ((tOp (rIx K) (tVar 1) ((tCall (sp_law_draw K) [] E0 (tCons (tVar 0) (tCons ((tC (.int 94))) tNil))))))))))
abbrev N_law_text : List Str := ["pool", "stage", "way", "size", "change", "k", "place"]
def t_law_text (K : PySem.W.Frag) : TS :=
  tSeq (tAsg ((tCall (sp_law_draw K) [] E0 (tCons (tVar 0) (tCons ((tC (.int 6))) tNil)))) (gName 2))
  (tSeq (tIfS ((tTest (tOp (rEqU K) (tVar 2) ((tC (.int 0)))))) ((tRet ((tBM K "str" (rJoin K) ((tC (.str ""))) (tCons ((tLc ((iRng1 (tCons ((tCall (sp_law_draw K) [] E0 (tCons (tVar 0) (tCons ((tC (.int 9))) tNil)))) tNil))) ((gName 5)) (tYes) ((tOp (rIx K) ((tC (.str "x.1234567890ET&,e "))) ((tCall (sp_law_draw K) [] E0 (tCons (tVar 0) (tCons ((tC (.int 18))) tNil)))))) [5])) tNil))))) (tNext))
  (tSeq (tIfS ((tTest (tOp (rEqU K) (tVar 2) ((tC (.int 1)))))) (tSeq (tAsg ((tCall (sp_law_draw K) [] E0 (tCons (tVar 0) (tCons ((tC (.int 15))) tNil)))) (gName 3))
  (tSeq (tIfS ((tTest (tOp (rEqU K) ((tCall (sp_law_draw K) [] E0 (tCons (tVar 0) (tCons ((tC (.int 8))) tNil)))) ((tC (.int 0)))))) ((tAsg ((tCall (sp_law_draw K) [] E0 (tCons (tVar 0) (tCons ((tC (.int 5000))) tNil)))) (gName 3))) (tNext))
  ((tRet ((tBM K "str" (rJoin K) ((tC (.str ""))) (tCons ((tLc ((iRng1 (tCons (tVar 3) tNil))) ((gName 5)) (tYes) ((tCall (sp_law_sign K) [] E0 (tCons (tVar 0) tNil))) [5])) tNil))))))) (tNext))
  (tSeq (tAsg ((tCall (sp_law_change_draw K) [] E0 (tCons (tVar 0) (tCons (tVar 1) tNil)))) (gName 4))
  (tSeq (tIfS ((tTest (tOp (rEqU K) ((tCB (rLenU K) (tCons (tVar 4) tNil))) ((tC (.int 0)))))) ((tRet ((tC (.str "x"))))) (tNext))
  ((tRet ((tBM K "str" (rJoin K) ((tC (.str ""))) (tCons ((tLc ((iSeqU K (tVar 4))) ((gName 6)) ((tTest (tOp rGtU ((tCall (sp_law_draw K) [] E0 (tCons (tVar 0) (tCons ((tC (.int 4))) tNil)))) ((tC (.int 0)))))) ((tOp (rIx K) ((tC (.str "1234567890ET"))) ((tOp rSubU (tVar 6) ((tC (.int 1))))))) [6])) tNil)))))))))
abbrev N_law_bent_text : List Str := ["pool", "text", "at", "to", "sign", "way"]
def t_law_bent_text (K : PySem.W.Frag) : TS :=
  tSeq (tAsg ((tCall (sp_law_draw K) [] E0 (tCons (tVar 0) (tCons ((tOp (rAddU K) ((tCB (rLenU K) (tCons (tVar 1) tNil))) ((tC (.int 1))))) tNil)))) (gName 2))
  (tSeq (tAsg ((tCall (sp_law_draw K) [] E0 (tCons (tVar 0) (tCons ((tOp (rAddU K) ((tCB (rLenU K) (tCons (tVar 1) tNil))) ((tC (.int 1))))) tNil)))) (gName 3))
  (tSeq (tAsg ((tCall (sp_law_sign K) [] E0 (tCons (tVar 0) tNil))) (gName 4))
  (tSeq (tAsg ((tCall (sp_law_draw K) [] E0 (tCons (tVar 0) (tCons ((tC (.int 10))) tNil)))) (gName 5))
  (tSeq (tIfS ((tTest (tOp (rEqU K) (tVar 5) ((tC (.int 0)))))) ((tRet ((tOp (rAddU K) ((tSl (rSlU K) (tVar 1) tNoPart (tPart (tVar 2)))) ((tSl (rSlU K) (tVar 1) (tPart ((tOp (rAddU K) (tVar 2) ((tC (.int 1)))))) tNoPart)))))) (tNext))
  (tSeq (tIfS ((tTest (tOp (rEqU K) (tVar 5) ((tC (.int 1)))))) ((tRet ((tOp (rAddU K) ((tOp (rAddU K) ((tSl (rSlU K) (tVar 1) tNoPart (tPart (tVar 2)))) (tVar 4))) ((tSl (rSlU K) (tVar 1) (tPart (tVar 2)) tNoPart)))))) (tNext))
  (tSeq (tIfS ((tTest (tOp (rEqU K) (tVar 5) ((tC (.int 2)))))) ((tRet ((tOp (rAddU K) ((tOp (rAddU K) ((tSl (rSlU K) (tVar 1) tNoPart (tPart (tVar 2)))) (tVar 4))) ((tSl (rSlU K) (tVar 1) (tPart ((tOp (rAddU K) (tVar 2) ((tC (.int 1)))))) tNoPart)))))) (tNext))
  (tSeq (tIfS ((tTest (tOp (rEqU K) (tVar 5) ((tC (.int 3)))))) ((tRet ((tOp (rAddU K) (tVar 1) (tVar 4))))) (tNext))
  (tSeq (tIfS ((tTest (tOp (rEqU K) (tVar 5) ((tC (.int 4)))))) ((tRet ((tOp (rAddU K) (tVar 4) (tVar 1))))) (tNext))
  (tSeq (tIfS ((tTest (tOp (rEqU K) (tVar 5) ((tC (.int 5)))))) ((tRet ((tSl (rSlU K) ((tOp (rAddU K) ((tSl (rSlU K) (tVar 1) tNoPart (tPart (tVar 2)))) ((tSl (rSlU K) (tVar 1) (tPart (tVar 3)) tNoPart)))) tNoPart (tPart ((tC (.int 5000)))))))) (tNext))
  (tSeq (tIfS ((tTest (tOp (rEqU K) (tVar 5) ((tC (.int 6)))))) ((tRet ((tRevS (tVar 1) (tPart ((tUn (rU fun i => .int (-i)) ((tC (.int 1)))))))))) (tNext))
  ((tRet (tVar 1)))))))))))))
section
variable {K : PySem.W.Frag} {ec : Str → Addr} {vs : List V} {H : Hp} {Q : VK} {E : XK}
theorem len_law_sign (h : sp_law_sign K vs H Q E) : vs.length = 1 := by obtain ⟨s, rfl, _⟩ := h; rfl
theorem len_law_text (h : sp_law_text K vs H Q E) : vs.length = 2 := by obtain ⟨s, d, rfl, _⟩ := h; rfl
theorem len_law_bent_text (h : sp_law_bent_text K vs H Q E) : vs.length = 2 := by obtain ⟨s, d, rfl, _⟩ := h; rfl
theorem pure_law_sign (h : sp_law_sign K vs H Q E) : t_law_sign K (En Q) (start N_law_sign vs) H := by
  obtain ⟨p, rfl, hp, q⟩ := h
  unfold t_law_sign
  walk_at "rd"
  refine r_draw hp (by omega) (by omega) fun v H1 v0 v1 b1 p1 => ?_
  walk_at "rd"
  refine r_ite (fun h0 => ?_) (fun h0 => ?_)
  · walk_at "rd"
    refine r_draw p1 (by omega) (by omega) fun u H2 u0 u1 b2 p2 => ?_
    refine r_ixC (k := 18) (by decide) (by decide) u0 u1 fun c => ?_
    exact q c H2 (b1.trans b2) p2
  · walk_at "rd"
    refine r_addS (by rw [sizeLine_eq]; decide) ?_
    walk_at "rd"
    refine r_draw p1 (by omega) (by omega) fun u H2 u0 u1 b2 p2 => ?_
    refine r_ixC (k := 94) (by decide) (by decide) u0 u1 fun c => ?_
    exact q c H2 (b1.trans b2) p2
theorem x_S : ("x" : Str) = S [120] := by decide
theorem pure_law_text (h : sp_law_text K vs H Q E) : t_law_text K (En Q) (start N_law_text vs) H := by
  obtain ⟨p, n, rfl, hp, h1, h2, q⟩ := h
  unfold t_law_text
  walk_at "rd"
  refine r_draw hp (by omega) (by omega) fun way H1 w0 w1 b1 p1 => ?_
  walk_at "rd"
  refine r_ite (fun h0 => ?_) (fun h0 => ?_)
  · walk_at "rd"
    refine r_draw p1 (by omega) (by omega) fun u H2 u0 u1 b2 p2 => ?_
    walk_at "rd"
    refine r_lcDrS p2 (by omega) (fun x H3 Q' b3 p3 k => ?_) fun t H3 ms nt b3 p3 e3 hl => ?_
    · walk_at "rd"
      refine r_draw p3 (by omega) (by omega) fun w H4 w0 w1 b4 p4 => ?_
      refine r_ixC (k := 18) (by decide) (by decide) w0 w1 fun c => ?_
      exact k c H4 b4 p4
    · walk_at "rd"
      refine join_ones e3 (by omega) ?_
      exact q ms H3 (by walk_at "but") p3 (by omega)
  walk_at "rd"
  refine r_ite (fun h3 => ?_) (fun h3 => ?_)
  · have fin : ∀ (size : Int) (H4 : Hp), 0 ≤ size → size < 5000 → But p H H4 → Pl H4 p → (tRet ((tBM K "str" (rJoin K) ((tC (.str ""))) (tCons ((tLc ((iRng1 (tCons (tVar 3) tNil))) ((gName 5)) (tYes) ((tCall (sp_law_sign K) [] E0 (tCons (tVar 0) tNil))) [5])) tNil)))) (En Q) [some (.ref p), some (.int (n : Int)), some (.int way), some (.int size), none, none, none] H4 := fun size H4 s0 s1 b4 p4 => by
      walk_at "rd"
      refine r_lcDrS p4 (by omega) (fun x H5 Q' b5 p5 k => ?_) fun t H5 ms nt b5 p5 e5 hl => ?_
      · walk_at "rd"
        exact ⟨p, rfl, p5, fun c H6 b6 p6 => k c H6 b6 p6⟩
      · walk_at "rd"
        refine join_ones e5 (by omega) ?_
        exact q ms H5 (b4.trans b5) p5 (by omega)
    walk_at "rd"
    refine r_draw p1 (by omega) (by omega) fun u H2 u0 u1 b2 p2 => ?_
    walk_at "rd"
    refine r_draw p2 (by omega) (by omega) fun w H3 w2 w3 b3 p3 => ?_
    walk_at "rd"
    refine r_ite (fun h4 => ?_) (fun h4 => ?_)
    · walk_at "rd"
      refine r_draw p3 (by omega) (by omega) fun z H4 z0 z1 b4 p4 => ?_
      refine r_name ?_
      exact fin z H4 z0 z1 (by walk_at "but") p4
    · refine r_next ?_
      exact fin u H3 u0 (by omega) (by walk_at "but") p3
  walk_at "rd"
  refine ⟨p, n, rfl, p1, h1, h2, fun a H2 cs na b2 p2 e2 hc => ?_⟩
  have cl := hc.len (by omega)
  walk_at "rd"
  refine r_ite (fun h4 => ?_) (fun h4 => ?_)
  · walk_at "rd"
    rw [x_S]
    exact q [120] H2 (by walk_at "but") p2 (by decide)
  walk_at "rd"
  refine r_lcT (xs := cs.map V.int) (fun D i H' => H2 D = none ∧ D ≠ p ∧ But p H2 H' ∧ Pl H' p ∧ SqT K H' a (cs.map V.int) ∧ ∃ ms : List Nat, H' D = some (.lst (ms.map fun c => V.str (S [c]))) ∧ ms.length ≤ i)
    (fun _ => rfl) (fun D H' hD s e => ⟨hD, ne_pl hD p2, Same.but s, pl_same s p2, sqT_same s e2, [], e, Nat.le_refl _⟩) (fun D i H' P => P.2.2.2.2.1) (fun D i x H' hi P => ?_) (fun D H' hD P => ?_)
  · obtain ⟨nD, dp, b, hp', ha', ms, e, hl⟩ := P
    have hil := (List.getElem?_eq_some_iff.mp hi).1
    rw [List.length_map] at hil
    rw [List.getElem?_map] at hi
    obtain ⟨y, hy, rfl⟩ := Option.map_eq_some_iff.mp hi
    have hy2 := hc.mem y (List.mem_of_getElem? hy)
    walk_at "rd"
    refine r_draw hp' (by omega) (by omega) fun w H3 w2 w3 b3 p3 => ?_
    walk_at "rd"
    refine r_ite (fun h5 => ?_) (fun h5 => ?_)
    · refine elt_sign (x := y) rfl hy2.1 (by omega) ?_
      have e3 := b3 _ _ dp e
      refine r_acc e3 (by rw [List.length_map]; omega) fun H5 b5 e5 => ⟨nD, dp, but_via (b.trans b3) b5 nD, pl_butL b5 dp.symm p3, sqT_but b5 e3 (sqT_pl b3 hp' ha'), ms ++ [sgAt y], by rw [e5, List.map_append]; rfl, by rw [List.length_append]; simp; omega⟩
    · exact ⟨nD, dp, b.trans b3, p3, sqT_pl b3 hp' ha', ms, b3 _ _ dp e, by omega⟩
  · obtain ⟨nD, dp, b, hp', ha', ms, e, hl⟩ := P
    rw [List.length_map] at hl
    walk_at "rd"
    refine join_ones e (by omega) ?_
    exact q ms H' ((b1.trans b2).trans b) hp' (by omega)
theorem pure_law_bent_text (h : sp_law_bent_text K vs H Q E) : t_law_bent_text K (En Q) (start N_law_bent_text vs) H := by
  obtain ⟨p, l, rfl, hp, hl, q⟩ := h
  unfold t_law_bent_text
  walk_at "rd"
  refine r_lenSS (by omega) ?_
  walk_at "rd"
  refine r_draw hp (by omega) (by omega) fun v1 H1 a0 a1 b1 p1 => ?_
  walk_at "rd"
  refine r_lenSS (by omega) ?_
  walk_at "rd"
  refine r_draw p1 (by omega) (by omega) fun v2 H2 c0 c1 b2 p2 => ?_
  walk_at "rd"
  refine ⟨p, rfl, p2, fun c H3 b3 p3 => ?_⟩
  refine r_name ?_
  walk_at "go"
  all_goals exact q _ _ (by walk_at "but") (by walk_at "pl") (by walk_at "sz")
end
end Kb
set_option Elab.async false
set_option linter.all false
set_option maxRecDepth 100000
set_option maxHeartbeats 4000000
namespace Kb
open PySem PySem.Spec PyProof.Rows L2 SX
local macro_rules | `(tactic| walk_at "tk") => `(tactic| first
  | assumption
  | ((with_reducible refine' sqT_of ?k); (case k => assumption))
  | ((with_reducible refine' sqT_ofD ?k); (case k => assumption))
  | ((with_reducible refine' noD_of ?k); (case k => assumption))
  | ((with_reducible refine' noD_same ?s ?k); (case s => assumption); (case k => walk_at "tk"))
  | ((with_reducible refine' sqL_of ?k); (case k => assumption))
  | ((with_reducible refine' sqT_same ?s ?k); (case s => assumption); (case k => walk_at "tk"))
  | ((with_reducible refine' sqL_same ?s ?k); (case s => assumption); (case k => walk_at "tk"))
  | ((with_reducible refine' sqT_but ?s ?t ?k); (case s => assumption); (case t => walk_at "tk"); (case k => walk_at "tk"))
  | ((with_reducible refine' sqL_but ?s ?t ?k); (case s => assumption); (case t => walk_at "ne"); (case k => walk_at "tk"))
  | ((with_reducible refine' sqL_of ?k); (case k => walk_at "tk"))
  | ((with_reducible refine' sqT_of ?k); (case k => walk_at "tk"))
  | ((with_reducible refine' at_same ?s ?k); (case s => assumption); (case k => walk_at "tk"))
  | ((with_reducible refine' at_but ?s ?t ?k); (case s => assumption); (case t => walk_at "ne"); (case k => walk_at "tk")))
local macro_rules | `(tactic| walk_at "ne") => `(tactic| first
  | assumption
  | (refine Ne.symm ?_; assumption)
  | exact ne_of_none (by assumption) (by assumption)
  | exact (ne_of_none (by assumption) (by assumption)).symm)
local macro_rules | `(tactic| walk_at "side") => `(tactic| first
  | assumption
  | omega
  | (simp only [sizeLine_eq, List.length_cons, List.length_nil, List.length_map]; omega)
  | (show _ ≤ sizeLine; decide))
local macro_rules | `(tactic| walk_at "kit") => `(tactic| first
  | (show kitB _ _ = some true; decide +kernel)
  | (show kitB _ _ = some false; decide +kernel))
local macro_rules | `(tactic| walk_at "rng") => `(tactic| first
  | (refine ⟨by omega, by omega, by omega, by omega⟩)
  | (refine ⟨by omega, by omega⟩)
  | ((simp only [List.length_map]); (refine ⟨by omega, by omega, by omega, by omega⟩))
  | ((simp only [List.length_map]); (refine ⟨by omega, by omega⟩)))
local macro_rules | `(tactic| walk_at "rd1") => `(tactic| first
  | with_reducible refine r_seq ?_
  | ((with_reducible refine' r_var ?k0 ?_); (case k0 => rfl))
  | with_reducible refine r_op ?_
  | with_reducible refine r_c ?_
  | with_reducible refine r_asg ?_
  | with_reducible refine r_name ?_
  | with_reducible refine r_cons ?_
  | with_reducible refine r_nil ?_
  | with_reducible refine r_CB ?_
  | with_reducible refine r_if ?_
  | with_reducible refine r_test ?_
  | with_reducible refine r_k ?_
  | with_reducible refine r_T ?_
  | with_reducible refine r_F ?_
  | with_reducible refine r_nT ?_
  | with_reducible refine r_nF ?_
  | with_reducible refine r_ret ?_
  | with_reducible refine r_drop ?_
  | with_reducible refine r_next ?_
  | with_reducible refine r_call ?_
  | with_reducible refine r_addI ?_
  | with_reducible refine r_subI ?_
  | with_reducible refine r_ltI ?_
  | with_reducible refine r_gtI ?_
  | with_reducible refine r_leI ?_
  | with_reducible refine r_geI ?_
  | with_reducible refine r_eqI ?_
  | with_reducible refine r_neI ?_
  | with_reducible refine r_int ?_
  | with_reducible refine r_abs ?_
  | with_reducible refine r_not ?_
  | with_reducible refine r_and ?_
  | with_reducible refine r_or ?_
  | with_reducible refine r_tru ?_
  | with_reducible refine r_truB ?_
  | with_reducible refine r_lst ?_
  | with_reducible refine r_tup ?_
  | with_reducible refine r_BM ?_
  | with_reducible refine r_BM0 ?_
  | with_reducible refine r_tyS ?_
  | with_reducible refine r_gsub ?_
  | with_reducible refine r_then ?_
  | with_reducible refine r_lstRg ?_
  | with_reducible refine r_tupRg ?_
  | with_reducible refine r_rg2 ?_
  | with_reducible refine r_rg1 ?_
  | with_reducible refine r_ii ?_
  | with_reducible refine r_i ?_
  | with_reducible refine r_ipI ?_
  | with_reducible refine r_un ?_
  | with_reducible refine r_neg ?_
  | with_reducible refine r_isN ?_
  | with_reducible refine r_notN ?_
  | with_reducible refine r_notV ?_
  | with_reducible refine r_pnot ?_
  | with_reducible refine r_pif ?_
  | with_reducible refine r_andV ?_
  | with_reducible refine r_orV ?_
  | with_reducible refine r_ifE ?_
  | with_reducible refine r_chain ?_
  | with_reducible refine r_sl ?_
  | with_reducible refine r_noPart ?_
  | with_reducible refine r_part ?_
  | with_reducible refine r_brk ?_
  | with_reducible refine r_cont ?_
  | with_reducible refine r_retN ?_
  | with_reducible refine r_truI ?_
  | with_reducible refine r_B ?_
  | with_reducible refine r_for ?_
  | with_reducible refine r_rng1 ?_
  | with_reducible refine r_rng2 ?_
  | with_reducible refine r_rng3 ?_
  | with_reducible refine r_body ?_
  | with_reducible refine r_lc ?_
  | with_reducible refine r_yes ?_
  | ((with_reducible refine' r_mod ?k0 ?_); (case k0 => walk_at "side"))
  | ((with_reducible refine' r_mulI ?k0 ?_); (case k0 => first | exact Or.inl ⟨by omega, by omega⟩ | exact Or.inr ⟨by omega, by omega⟩))
  | ((with_reducible refine' r_lenL ?k0 ?_); (case k0 => walk_at "tk"))
  | ((with_reducible refine' r_lenT ?k0 ?_); (case k0 => walk_at "tk"))
  | ((with_reducible refine' r_truL ?k0 ?_); (case k0 => walk_at "tk"))
  | ((with_reducible refine' r_truT ?k0 ?_); (case k0 => walk_at "tk"))
  | ((with_reducible refine' r_ixL ?k0 ?k1 ?_); (case k0 => walk_at "tk"); (case k1 => first | assumption | rfl))
  | ((with_reducible refine' r_ixT ?k0 ?k1 ?_); (case k0 => walk_at "tk"); (case k1 => first | assumption | rfl))
  | ((with_reducible refine' r_new ?k0 ?_); (case k0 => walk_at "side"))
  | ((with_reducible refine' r_tyL ?k0 ?_); (case k0 => walk_at "tk"))
  | ((with_reducible refine' r_append ?k0 ?k1 ?_); (case k0 => walk_at "tk"); (case k1 => walk_at "side"))
  | ((with_reducible refine' r_setL ?k0 ?k1 ?_); (case k0 => walk_at "tk"); (case k1 => first | assumption | rfl))
  | ((with_reducible refine' r_kTupL ?k0 ?_); (case k0 => walk_at "tk"))
  | ((with_reducible refine' r_kTupT ?k0 ?_); (case k0 => walk_at "tk"))
  | ((with_reducible refine' r_listL ?k0 ?_); (case k0 => walk_at "tk"))
  | ((with_reducible refine' r_listT ?k0 ?_); (case k0 => walk_at "tk"))
  | ((with_reducible refine' r_aug ?k0 ?_); (case k0 => rfl))
  | ((with_reducible refine' r_lenS ?k0 ?_); (case k0 => walk_at "side"))
  | ((with_reducible refine' r_pop ?k0 ?_); (case k0 => walk_at "tk"))
  | ((with_reducible refine' r_pr1 ?k0 ?_); (case k0 => walk_at "rng"))
  | ((with_reducible refine' r_pr2 ?k0 ?_); (case k0 => walk_at "rng"))
  | ((with_reducible refine' r_pr3d ?k0 ?_); (case k0 => walk_at "rng"))
  | ((with_reducible refine' r_isiI ?k0 ?_); (case k0 => walk_at "kit"))
  | ((with_reducible refine' r_isiB ?k0 ?_); (case k0 => walk_at "kit"))
  | ((with_reducible refine' r_isiS ?k0 ?_); (case k0 => walk_at "kit"))
  | ((with_reducible refine' r_isiN ?k0 ?_); (case k0 => walk_at "kit"))
  | ((with_reducible refine' r_isiT ?k0 ?k1 ?_); (case k0 => walk_at "tk"); (case k1 => walk_at "kit"))
  | ((with_reducible refine r_seqT ?_); (repeat (walk_at "rd1")); ((with_reducible refine' r_pseqT ?k0 ?_); (case k0 => walk_at "tk")))
  | ((with_reducible refine r_seqL ?_); (repeat (walk_at "rd1")); ((with_reducible refine' r_pseqL ?k0 ?_); (case k0 => walk_at "tk")))
  | ((with_reducible refine r_seqS ?_); (repeat (walk_at "rd1")); (with_reducible refine r_pseqS ?_)))
local macro_rules | `(tactic| walk_at "rd") => `(tactic| ((repeat (walk_at "rd1")); (try dsimp only)))
local macro_rules | `(tactic| walk_at "rd1") => `(tactic| first
  | with_reducible refine r_BMT ?_
  | with_reducible refine r_par ?_
  | with_reducible refine r_parV ?_
  | ((with_reducible refine' r_ptp ?k0 ?k1 ?_); (case k0 => walk_at "tk"); (case k1 => walk_at "tk"))
  | with_reducible refine r_eqS ?_
  | with_reducible refine r_neS ?_
  | with_reducible refine r_callW ?_
  | with_reducible refine r_try ?_
  | with_reducible refine r_enT ?_
  | ((with_reducible refine' r_pen ?k0 ?_); (case k0 => walk_at "tk")))
local macro_rules | `(tactic| walk_at "pl0") => `(tactic| first
  | assumption
  | exact pl_same (by assumption) (by assumption)
  | exact pl_same (by assumption) (pl_same (by assumption) (by assumption))
  | exact pl_same (by assumption) (pl_same (by assumption) (pl_same (by assumption) (by assumption))))
local macro_rules | `(tactic| walk_at "pl") => `(tactic| first
  | walk_at "pl0"
  | ((with_reducible refine' pl_butL ?s ?n ?k); (case s => assumption); (case n => walk_at "ne"); (case k => walk_at "pl"))
  | ((with_reducible refine' pl_same ?s ?k); (case s => assumption); (case k => walk_at "pl")))
local macro_rules | `(tactic| walk_at "ne") => `(tactic| first
  | exact ne_pl (by assumption) (by walk_at "pl0")
  | exact (ne_pl (by assumption) (by walk_at "pl0")).symm)
local macro_rules | `(tactic| walk_at "fr") => `(tactic| first
  | assumption
  | ((with_reducible refine' free_but ?b ?n ?h); (case h => assumption); (case n => walk_at "ne"); (case b => walk_at "but"))
  | ((with_reducible refine' Same.free ?b ?h); (case h => assumption); (case b => walk_at "same")))
local macro_rules | `(tactic| walk_at "but") => `(tactic| first
  | assumption
  | exact But.refl
  | ((with_reducible refine' But.trans ?a ?b); (case b => assumption); (case a => walk_at "but"))
  | ((with_reducible refine' But.trans ?a (Same.but ?b)); (case b => assumption); (case a => walk_at "but"))
  | ((with_reducible refine' but_via ?a ?b ?c); (case b => assumption); (case c => walk_at "fr"); (case a => walk_at "but")))
local macro_rules | `(tactic| walk_at "same") => `(tactic| first
  | assumption
  | exact Same.refl _
  | ((with_reducible refine' Same.trans ?a ?b); (case b => assumption); (case a => walk_at "same"))
  | ((with_reducible refine' same_but ?a ?b ?c); (case b => assumption); (case c => walk_at "fr"); (case a => walk_at "same")))
local macro_rules | `(tactic| walk_at "tk") => `(tactic| first
  | ((with_reducible refine' sqT_pl ?s ?t ?k); (case s => assumption); (case t => walk_at "pl0"); (case k => walk_at "tk"))
  | ((with_reducible refine' rp_same ?s ?k); (case s => assumption); (case k => walk_at "tk"))
  | ((with_reducible refine' rp_pl ?s ?t ?k); (case s => assumption); (case t => walk_at "pl0"); (case k => walk_at "tk")))
local macro_rules | `(tactic| walk_at "it") => `(tactic| first
  | assumption
  | ((with_reducible refine' sqI_1 ?k); (case k => assumption))
  | ((with_reducible refine' sqI_0 ?k); (case k => assumption))
  | ((with_reducible refine' sqI_of ?k); (case k => assumption))
  | ((with_reducible refine' sqI_D ?k); (case k => assumption))
  | ((with_reducible refine' sqT_same ?s ?k); (case s => assumption); (case k => walk_at "it"))
  | ((with_reducible refine' sqT_but ?s ?t ?k); (case s => assumption); (case t => assumption); (case k => walk_at "it"))
  | ((with_reducible refine' sqT_pl ?s ?t ?k); (case s => assumption); (case t => walk_at "pl0"); (case k => walk_at "it")))
local macro_rules | `(tactic| walk_at "sz") => `(tactic| first | omega | ((try simp only [List.length_cons, List.length_nil] at *); omega))
local macro_rules | `(tactic| walk_at "au1") => `(tactic| first
  | walk_at "rd1"
  | ((with_reducible refine' r_draw ?k0 ?k1 ?k2 ?_); (case k0 => walk_at "pl"); (case k1 => omega); (case k2 => omega); (intro _ _ _ _ _ _))
  | ((with_reducible refine' r_slN ?k0 ?_); (case k0 => walk_at "it"); (intro _ _ _ _ _ _))
  | ((with_reducible refine' r_catN ?k0 ?k1 ?k2 ?_); (case k0 => walk_at "it"); (case k1 => walk_at "it"); (case k2 => walk_at "sz"); (intro _ _ _ _ _ _))
  | ((with_reducible refine' r_pow ?k0 ?_); (case k0 => exact ⟨by decide, by decide, by decide⟩))
  | ((with_reducible refine' r_ixI ?k0 ?k1 ?k2 ?_); (case k0 => walk_at "it"); (case k1 => omega); (case k2 => omega); (intro _ _))
  | ((with_reducible refine' r_setI ?k0 ?k1 ?k2 ?_); (case k0 => walk_at "tk"); (case k1 => omega); (case k2 => omega); (intro _ _ _ _ _))
  | ((with_reducible refine' r_kTupI ?k0 ?_); (case k0 => walk_at "tk"); (intro _ _ _ _ _))
  | ((with_reducible refine' r_listI ?k0 ?_); (case k0 => walk_at "it"); (intro _ _ _ _ _))
  | (with_reducible refine r_revU ?_)
  | ((with_reducible refine' r_prevN ?k0 ?_); (case k0 => walk_at "it"); (intro _ _ _ _ _ _))
  | (intro _ _ _ _ _))
local macro_rules | `(tactic| walk_at "go") => `(tactic| ((repeat (walk_at "au1")); (first
  | ((with_reducible refine r_ite (fun _ => ?_) (fun _ => ?_)) <;> (walk_at "go"))
  | ((with_reducible refine r_iteN (fun _ => ?_) (fun _ => ?_)) <;> (walk_at "go"))
  | dsimp only
  | skip)))
local macro_rules | `(tactic| walk_at "au1") => `(tactic| first
  | with_reducible refine r_revS ?_
  | ((with_reducible refine' r_prevSN ?k0 ?_); (case k0 => walk_at "sz"); (intro _ _))
  | ((with_reducible refine' r_slSN ?k0 ?_); (case k0 => walk_at "sz"); (intro _ _))
  | ((with_reducible refine' r_catSN ?k0 ?_); (case k0 => walk_at "sz"); (intro _ _))
  | ((with_reducible refine' r_lenSS ?k0 ?_); (case k0 => walk_at "sz")))
theorem chOf_ra {n : Int} {ps : List Int} (h : ps ≠ []) : chOf n ps = raI n ps := by
  obtain ⟨p, r, rfl⟩ : ∃ p r, ps = p :: r := by
    cases ps with
    | nil => exact absurd rfl h
    | cons p r => exact ⟨p, r, rfl⟩
  have e1 : chOf1 (p :: r) = if (p - 1) % 2 = 1 then 1 :: p :: r else p :: r := by
    show (if p % 2 = 0 then 1 :: p :: r else p :: r) = _
    by_cases z : p % 2 = 0
    · rw [if_pos z, if_pos (by omega)]
    · rw [if_neg z, if_neg (by omega)]
  have e2 : lastC 0 (chOf1 (p :: r)) = lastC 0 (p :: r) := by
    rw [e1]
    split <;> rfl
  have e3 : chOf1 (p :: r) ≠ [] := by rw [e1]; split <;> simp
  unfold chOf raI
  rw [e2]
  show (if _ then chOf1 (p :: r) ++ [n] else chOf1 (p :: r)) = (if (n - lastC 0 (p :: r)) % 2 = 1 then (if (p - 1) % 2 = 1 then 1 :: p :: r else p :: r) ++ [n] else _)
  rw [← e1]
  by_cases z : (n - lastC 0 (p :: r)) % 2 = 1
  · rw [if_pos ⟨e3, z⟩, if_pos z]
  · rw [if_neg (fun y => z y.2), if_neg z]
    show chOf1 (p :: r) = if (p - 1) % 2 = 1 then _ else _
    rw [e1]
def dueT (s : Int) (l : List Nat) : Str × Nat × Dat := if 1 ≤ s ∧ s ≤ 12 then (match rdC s l with | .inl c => ("BadNotation", c, .non) | .inr cs => ("", 0, .tup (cs.map Dat.int))) else ("BadStage", 0, .non)
def sp_told3 (K : PySem.W.Frag) : Sp := fun vs H Q _ => ∃ (s : Int) (l : List Nat), vs = [.int s, .str (S l)] ∧ l.length ≤ 100000 ∧ ∀ p H' v, Same H H' → H' p = some (.lst [.str (dueT s l).1, .int ((dueT s l).2.1 : Nat), v]) → Rp K H' v (dueT s l).2.2 → Q (.ref p) H'
def sp_law_due (K : PySem.W.Frag) : Sp := sp_told3 K
end Kb
set_option Elab.async false
set_option linter.all false
set_option maxRecDepth 100000
set_option maxHeartbeats 4000000
namespace Kb
open PySem PySem.Spec PyProof.Rows L2 SX
local macro_rules | `(tactic| walk_at "tk") => `(tactic| first
  | assumption
  | ((with_reducible refine' sqT_of ?k); (case k => assumption))
  | ((with_reducible refine' sqT_ofD ?k); (case k => assumption))
  | ((with_reducible refine' noD_of ?k); (case k => assumption))
  | ((with_reducible refine' noD_same ?s ?k); (case s => assumption); (case k => walk_at "tk"))
  | ((with_reducible refine' sqL_of ?k); (case k => assumption))
  | ((with_reducible refine' sqT_same ?s ?k); (case s => assumption); (case k => walk_at "tk"))
  | ((with_reducible refine' sqL_same ?s ?k); (case s => assumption); (case k => walk_at "tk"))
  | ((with_reducible refine' sqT_but ?s ?t ?k); (case s => assumption); (case t => walk_at "tk"); (case k => walk_at "tk"))
  | ((with_reducible refine' sqL_but ?s ?t ?k); (case s => assumption); (case t => walk_at "ne"); (case k => walk_at "tk"))
  | ((with_reducible refine' sqL_of ?k); (case k => walk_at "tk"))
  | ((with_reducible refine' sqT_of ?k); (case k => walk_at "tk"))
  | ((with_reducible refine' at_same ?s ?k); (case s => assumption); (case k => walk_at "tk"))
  | ((with_reducible refine' at_but ?s ?t ?k); (case s => assumption); (case t => walk_at "ne"); (case k => walk_at "tk")))
local macro_rules | `(tactic| walk_at "ne") => `(tactic| first
  | assumption
  | (refine Ne.symm ?_; assumption)
  | exact ne_of_none (by assumption) (by assumption)
  | exact (ne_of_none (by assumption) (by assumption)).symm)
local macro_rules | `(tactic| walk_at "side") => `(tactic| first
  | assumption
  | omega
  | (simp only [sizeLine_eq, List.length_cons, List.length_nil, List.length_map]; omega)
  | (show _ ≤ sizeLine; decide))
local macro_rules | `(tactic| walk_at "kit") => `(tactic| first
  | (show kitB _ _ = some true; decide +kernel)
  | (show kitB _ _ = some false; decide +kernel))
local macro_rules | `(tactic| walk_at "rng") => `(tactic| first
  | (refine ⟨by omega, by omega, by omega, by omega⟩)
  | (refine ⟨by omega, by omega⟩)
  | ((simp only [List.length_map]); (refine ⟨by omega, by omega, by omega, by omega⟩))
  | ((simp only [List.length_map]); (refine ⟨by omega, by omega⟩)))
local macro_rules | `(tactic| walk_at "rd1") => `(tactic| first
  | with_reducible refine r_seq ?_
  | ((with_reducible refine' r_var ?k0 ?_); (case k0 => rfl))
  | with_reducible refine r_op ?_
  | with_reducible refine r_c ?_
  | with_reducible refine r_asg ?_
  | with_reducible refine r_name ?_
  | with_reducible refine r_cons ?_
  | with_reducible refine r_nil ?_
  | with_reducible refine r_CB ?_
  | with_reducible refine r_if ?_
  | with_reducible refine r_test ?_
  | with_reducible refine r_k ?_
  | with_reducible refine r_T ?_
  | with_reducible refine r_F ?_
  | with_reducible refine r_nT ?_
  | with_reducible refine r_nF ?_
  | with_reducible refine r_ret ?_
  | with_reducible refine r_drop ?_
  | with_reducible refine r_next ?_
  | with_reducible refine r_call ?_
  | with_reducible refine r_addI ?_
  | with_reducible refine r_subI ?_
  | with_reducible refine r_ltI ?_
  | with_reducible refine r_gtI ?_
  | with_reducible refine r_leI ?_
  | with_reducible refine r_geI ?_
  | with_reducible refine r_eqI ?_
  | with_reducible refine r_neI ?_
  | with_reducible refine r_int ?_
  | with_reducible refine r_abs ?_
  | with_reducible refine r_not ?_
  | with_reducible refine r_and ?_
  | with_reducible refine r_or ?_
  | with_reducible refine r_tru ?_
  | with_reducible refine r_truB ?_
  | with_reducible refine r_lst ?_
  | with_reducible refine r_tup ?_
  | with_reducible refine r_BM ?_
  | with_reducible refine r_BM0 ?_
  | with_reducible refine r_tyS ?_
  | with_reducible refine r_gsub ?_
  | with_reducible refine r_then ?_
  | with_reducible refine r_lstRg ?_
  | with_reducible refine r_tupRg ?_
  | with_reducible refine r_rg2 ?_
  | with_reducible refine r_rg1 ?_
  | with_reducible refine r_ii ?_
  | with_reducible refine r_i ?_
  | with_reducible refine r_ipI ?_
  | with_reducible refine r_un ?_
  | with_reducible refine r_neg ?_
  | with_reducible refine r_isN ?_
  | with_reducible refine r_notN ?_
  | with_reducible refine r_notV ?_
  | with_reducible refine r_pnot ?_
  | with_reducible refine r_pif ?_
  | with_reducible refine r_andV ?_
  | with_reducible refine r_orV ?_
  | with_reducible refine r_ifE ?_
  | with_reducible refine r_chain ?_
  | with_reducible refine r_sl ?_
  | with_reducible refine r_noPart ?_
  | with_reducible refine r_part ?_
  | with_reducible refine r_brk ?_
  | with_reducible refine r_cont ?_
  | with_reducible refine r_retN ?_
  | with_reducible refine r_truI ?_
  | with_reducible refine r_B ?_
  | with_reducible refine r_for ?_
  | with_reducible refine r_rng1 ?_
  | with_reducible refine r_rng2 ?_
  | with_reducible refine r_rng3 ?_
  | with_reducible refine r_body ?_
  | with_reducible refine r_lc ?_
  | with_reducible refine r_yes ?_
  | ((with_reducible refine' r_mod ?k0 ?_); (case k0 => walk_at "side"))
  | ((with_reducible refine' r_mulI ?k0 ?_); (case k0 => first | exact Or.inl ⟨by omega, by omega⟩ | exact Or.inr ⟨by omega, by omega⟩))
  | ((with_reducible refine' r_lenL ?k0 ?_); (case k0 => walk_at "tk"))
  | ((with_reducible refine' r_lenT ?k0 ?_); (case k0 => walk_at "tk"))
  | ((with_reducible refine' r_truL ?k0 ?_); (case k0 => walk_at "tk"))
  | ((with_reducible refine' r_truT ?k0 ?_); (case k0 => walk_at "tk"))
  | ((with_reducible refine' r_ixL ?k0 ?k1 ?_); (case k0 => walk_at "tk"); (case k1 => first | assumption | rfl))
  | ((with_reducible refine' r_ixT ?k0 ?k1 ?_); (case k0 => walk_at "tk"); (case k1 => first | assumption | rfl))
  | ((with_reducible refine' r_new ?k0 ?_); (case k0 => walk_at "side"))
  | ((with_reducible refine' r_tyL ?k0 ?_); (case k0 => walk_at "tk"))
  | ((with_reducible refine' r_append ?k0 ?k1 ?_); (case k0 => walk_at "tk"); (case k1 => walk_at "side"))
  | ((with_reducible refine' r_setL ?k0 ?k1 ?_); (case k0 => walk_at "tk"); (case k1 => first | assumption | rfl))
  | ((with_reducible refine' r_kTupL ?k0 ?_); (case k0 => walk_at "tk"))
  | ((with_reducible refine' r_kTupT ?k0 ?_); (case k0 => walk_at "tk"))
  | ((with_reducible refine' r_listL ?k0 ?_); (case k0 => walk_at "tk"))
  | ((with_reducible refine' r_listT ?k0 ?_); (case k0 => walk_at "tk"))
  | ((with_reducible refine' r_aug ?k0 ?_); (case k0 => rfl))
  | ((with_reducible refine' r_lenS ?k0 ?_); (case k0 => walk_at "side"))
  | ((with_reducible refine' r_pop ?k0 ?_); (case k0 => walk_at "tk"))
  | ((with_reducible refine' r_pr1 ?k0 ?_); (case k0 => walk_at "rng"))
  | ((with_reducible refine' r_pr2 ?k0 ?_); (case k0 => walk_at "rng"))
  | ((with_reducible refine' r_pr3d ?k0 ?_); (case k0 => walk_at "rng"))
  | ((with_reducible refine' r_isiI ?k0 ?_); (case k0 => walk_at "kit"))
  | ((with_reducible refine' r_isiB ?k0 ?_); (case k0 => walk_at "kit"))
  | ((with_reducible refine' r_isiS ?k0 ?_); (case k0 => walk_at "kit"))
  | ((with_reducible refine' r_isiN ?k0 ?_); (case k0 => walk_at "kit"))
  | ((with_reducible refine' r_isiT ?k0 ?k1 ?_); (case k0 => walk_at "tk"); (case k1 => walk_at "kit"))
  | ((with_reducible refine r_seqT ?_); (repeat (walk_at "rd1")); ((with_reducible refine' r_pseqT ?k0 ?_); (case k0 => walk_at "tk")))
  | ((with_reducible refine r_seqL ?_); (repeat (walk_at "rd1")); ((with_reducible refine' r_pseqL ?k0 ?_); (case k0 => walk_at "tk")))
  | ((with_reducible refine r_seqS ?_); (repeat (walk_at "rd1")); (with_reducible refine r_pseqS ?_)))
local macro_rules | `(tactic| walk_at "rd") => `(tactic| ((repeat (walk_at "rd1")); (try dsimp only)))
local macro_rules | `(tactic| walk_at "rd1") => `(tactic| first
  | with_reducible refine r_BMT ?_
  | with_reducible refine r_par ?_
  | with_reducible refine r_parV ?_
  | ((with_reducible refine' r_ptp ?k0 ?k1 ?_); (case k0 => walk_at "tk"); (case k1 => walk_at "tk"))
  | with_reducible refine r_eqS ?_
  | with_reducible refine r_neS ?_
  | with_reducible refine r_callW ?_
  | with_reducible refine r_try ?_
  | with_reducible refine r_enT ?_
  | ((with_reducible refine' r_pen ?k0 ?_); (case k0 => walk_at "tk")))
local macro_rules | `(tactic| walk_at "pl0") => `(tactic| first
  | assumption
  | exact pl_same (by assumption) (by assumption)
  | exact pl_same (by assumption) (pl_same (by assumption) (by assumption))
  | exact pl_same (by assumption) (pl_same (by assumption) (pl_same (by assumption) (by assumption))))
local macro_rules | `(tactic| walk_at "pl") => `(tactic| first
  | walk_at "pl0"
  | ((with_reducible refine' pl_butL ?s ?n ?k); (case s => assumption); (case n => walk_at "ne"); (case k => walk_at "pl"))
  | ((with_reducible refine' pl_same ?s ?k); (case s => assumption); (case k => walk_at "pl")))
local macro_rules | `(tactic| walk_at "ne") => `(tactic| first
  | exact ne_pl (by assumption) (by walk_at "pl0")
  | exact (ne_pl (by assumption) (by walk_at "pl0")).symm)
local macro_rules | `(tactic| walk_at "fr") => `(tactic| first
  | assumption
  | ((with_reducible refine' free_but ?b ?n ?h); (case h => assumption); (case n => walk_at "ne"); (case b => walk_at "but"))
  | ((with_reducible refine' Same.free ?b ?h); (case h => assumption); (case b => walk_at "same")))
local macro_rules | `(tactic| walk_at "but") => `(tactic| first
  | assumption
  | exact But.refl
  | ((with_reducible refine' But.trans ?a ?b); (case b => assumption); (case a => walk_at "but"))
  | ((with_reducible refine' But.trans ?a (Same.but ?b)); (case b => assumption); (case a => walk_at "but"))
  | ((with_reducible refine' but_via ?a ?b ?c); (case b => assumption); (case c => walk_at "fr"); (case a => walk_at "but")))
local macro_rules | `(tactic| walk_at "same") => `(tactic| first
  | assumption
  | exact Same.refl _
  | ((with_reducible refine' Same.trans ?a ?b); (case b => assumption); (case a => walk_at "same"))
  | ((with_reducible refine' same_but ?a ?b ?c); (case b => assumption); (case c => walk_at "fr"); (case a => walk_at "same")))
local macro_rules | `(tactic| walk_at "tk") => `(tactic| first
  | ((with_reducible refine' sqT_pl ?s ?t ?k); (case s => assumption); (case t => walk_at "pl0"); (case k => walk_at "tk"))
  | ((with_reducible refine' rp_same ?s ?k); (case s => assumption); (case k => walk_at "tk"))
  | ((with_reducible refine' rp_pl ?s ?t ?k); (case s => assumption); (case t => walk_at "pl0"); (case k => walk_at "tk")))
local macro_rules | `(tactic| walk_at "it") => `(tactic| first
  | assumption
  | ((with_reducible refine' sqI_1 ?k); (case k => assumption))
  | ((with_reducible refine' sqI_0 ?k); (case k => assumption))
  | ((with_reducible refine' sqI_of ?k); (case k => assumption))
  | ((with_reducible refine' sqI_D ?k); (case k => assumption))
  | ((with_reducible refine' sqT_same ?s ?k); (case s => assumption); (case k => walk_at "it"))
  | ((with_reducible refine' sqT_but ?s ?t ?k); (case s => assumption); (case t => assumption); (case k => walk_at "it"))
  | ((with_reducible refine' sqT_pl ?s ?t ?k); (case s => assumption); (case t => walk_at "pl0"); (case k => walk_at "it")))
local macro_rules | `(tactic| walk_at "sz") => `(tactic| first | omega | ((try simp only [List.length_cons, List.length_nil] at *); omega))
local macro_rules | `(tactic| walk_at "au1") => `(tactic| first
  | walk_at "rd1"
  | ((with_reducible refine' r_draw ?k0 ?k1 ?k2 ?_); (case k0 => walk_at "pl"); (case k1 => omega); (case k2 => omega); (intro _ _ _ _ _ _))
  | ((with_reducible refine' r_slN ?k0 ?_); (case k0 => walk_at "it"); (intro _ _ _ _ _ _))
  | ((with_reducible refine' r_catN ?k0 ?k1 ?k2 ?_); (case k0 => walk_at "it"); (case k1 => walk_at "it"); (case k2 => walk_at "sz"); (intro _ _ _ _ _ _))
  | ((with_reducible refine' r_pow ?k0 ?_); (case k0 => exact ⟨by decide, by decide, by decide⟩))
  | ((with_reducible refine' r_ixI ?k0 ?k1 ?k2 ?_); (case k0 => walk_at "it"); (case k1 => omega); (case k2 => omega); (intro _ _))
  | ((with_reducible refine' r_setI ?k0 ?k1 ?k2 ?_); (case k0 => walk_at "tk"); (case k1 => omega); (case k2 => omega); (intro _ _ _ _ _))
  | ((with_reducible refine' r_kTupI ?k0 ?_); (case k0 => walk_at "tk"); (intro _ _ _ _ _))
  | ((with_reducible refine' r_listI ?k0 ?_); (case k0 => walk_at "it"); (intro _ _ _ _ _))
  | (with_reducible refine r_revU ?_)
  | ((with_reducible refine' r_prevN ?k0 ?_); (case k0 => walk_at "it"); (intro _ _ _ _ _ _))
  | (intro _ _ _ _ _))
local macro_rules | `(tactic| walk_at "go") => `(tactic| ((repeat (walk_at "au1")); (first
  | ((with_reducible refine r_ite (fun _ => ?_) (fun _ => ?_)) <;> (walk_at "go"))
  | ((with_reducible refine r_iteN (fun _ => ?_) (fun _ => ?_)) <;> (walk_at "go"))
  | dsimp only
  | skip)))
local macro_rules | `(tactic| walk_at "au1") => `(tactic| first
  | with_reducible refine r_revS ?_
  | ((with_reducible refine' r_prevSN ?k0 ?_); (case k0 => walk_at "sz"); (intro _ _))
  | ((with_reducible refine' r_slSN ?k0 ?_); (case k0 => walk_at "sz"); (intro _ _))
  | ((with_reducible refine' r_catSN ?k0 ?_); (case k0 => walk_at "sz"); (intro _ _))
  | ((with_reducible refine' r_lenSS ?k0 ?_); (case k0 => walk_at "sz")))
abbrev XN : List Str := ["ChamberError", "BadStage", "BadChange", "BadNotation", "BadPositions"]
def sp_law_read (K : PySem.W.Frag) : Sp := sp_told3 K
def sp_law_answered (K : PySem.W.Frag) : Sp := fun vs H Q _ => ∃ (s : Int) (l : List Nat), vs = [.int s, .str (S l)] ∧ l.length ≤ 100000 ∧ ∀ H', Same H H' → Q (.bl true) H'
abbrev N_law_read : List Str := ["stage", "text", "kind", "word", "column", "alone", "told", "e"]
def t_law_read (K : PySem.W.Frag) (ec : Str → Addr) : TS :=
  tSeq (tAsg ((tC (.str ""))) (gName 2))
  (tSeq (tAsg ((tC (.str ""))) (gName 3))
  (tSeq (tAsg ((tC (.int 0))) (gName 4))
  (tSeq (tAsg ((tC (.bl true))) (gName 5))
  (tSeq (tAsg ((tC .non)) (gName 6))
  (tSeq (tTry K W0 [⟨.ref (ec "BadStage"), some 7, fun a cls d => tSeq (tAsg ((tC (.str "BadStage"))) (gName 2))
  (tSeq (tAsg ((tXfA K a cls d "word" (tVar 7))) (gName 3))
  ((tAsg ((tAndV ((tCB (rIsX K a cls d) (tCons (tVar 7) (tCons ((tC (.ref (ec "ChamberError")))) tNil)))) ((tAndV ((tCB (rIsX K a cls d) (tCons (tVar 7) (tCons ((tC (.ty "ValueError"))) tNil)))) ((tNotV ((tCB (rIsX K a cls d) (tCons (tVar 7) (tCons ((tTup (tCons ((tC (.ref (ec "BadNotation")))) (tCons ((tC (.ref (ec "BadChange")))) tNil)))) tNil)))))))))) (gName 5))))⟩, ⟨.ref (ec "BadNotation"), some 7, fun a cls d => tSeq (tAsg ((tC (.str "BadNotation"))) (gName 2))
  (tSeq (tAsg ((tXfA K a cls d "word" (tVar 7))) (gName 3))
  (tSeq (tAsg ((tXfA K a cls d "column" (tVar 7))) (gName 4))
  ((tAsg ((tAndV ((tCB (rIsX K a cls d) (tCons (tVar 7) (tCons ((tC (.ref (ec "ChamberError")))) tNil)))) ((tAndV ((tCB (rIsX K a cls d) (tCons (tVar 7) (tCons ((tC (.ty "ValueError"))) tNil)))) ((tNotV ((tCB (rIsX K a cls d) (tCons (tVar 7) (tCons ((tTup (tCons ((tC (.ref (ec "BadPositions")))) (tCons ((tC (.ref (ec "BadChange")))) tNil)))) tNil)))))))))) (gName 5)))))⟩, ⟨.ref (ec "ChamberError"), none, fun a cls d => (tAsg ((tC (.str "another"))) (gName 2))⟩] (fun W => (tAsg ((tCallW (sp_read_change K ec) W (tCons (tVar 0) (tCons (tVar 1) tNil)))) (gName 6))))
  (tSeq (tIfS ((tAnd ((tTest (tOp (rNeU K) (tVar 2) ((tC (.str "")))))) ((tNot ((tAnd ((tTru K (tVar 5))) ((tTru K ((tCall (sp_law_same K) [] E0 (tCons (tVar 3) (tCons (tVar 2) tNil)))))))))))) ((tAsg ((tC (.str "another"))) (gName 2))) (tNext))
  ((tRet ((tLst (tCons (tVar 2) (tCons (tVar 4) (tCons (tVar 6) tNil)))))))))))))
abbrev N_law_answered : List Str := ["stage", "text", "due", "told"]
def t_law_answered (K : PySem.W.Frag) : TS :=
  tSeq (tAsg ((tCall (sp_law_due K) [] E0 (tCons (tVar 0) (tCons (tVar 1) tNil)))) (gName 2))
  (tSeq (tAsg ((tCall (sp_law_read K) [] E0 (tCons (tVar 0) (tCons (tVar 1) tNil)))) (gName 3))
  ((tRet ((tAndV ((tOp (rEqU K) ((tOp (rIx K) (tVar 3) ((tC (.int 0))))) ((tOp (rIx K) (tVar 2) ((tC (.int 0))))))) ((tAndV ((tCall (sp_law_same K) [] E0 (tCons ((tOp (rIx K) (tVar 3) ((tC (.int 1))))) (tCons ((tOp (rIx K) (tVar 2) ((tC (.int 1))))) tNil)))) ((tCall (sp_law_same K) [] E0 (tCons ((tOp (rIx K) (tVar 3) ((tC (.int 2))))) (tCons ((tOp (rIx K) (tVar 2) ((tC (.int 2))))) tNil)))))))))))
section
variable {K : PySem.W.Frag} {ec : Str → Addr} {vs : List V} {H : Hp} {Q : VK} {E : XK}
theorem len_law_read (h : sp_law_read K vs H Q E) : vs.length = 2 := by obtain ⟨s, d, rfl, _⟩ := h; rfl
theorem len_law_answered (h : sp_law_answered K vs H Q E) : vs.length = 2 := by obtain ⟨s, d, rfl, _⟩ := h; rfl
theorem due_st {s : Int} {l : List Nat} (h : ¬ Stg s) : dueT s l = (("BadStage" : Str), 0, Dat.non) := by unfold dueT; rw [if_neg (show ¬ (1 ≤ s ∧ s ≤ 12) from h)]
theorem due_no {s : Int} {l : List Nat} {c : Nat} (h : Stg s) (e : rdC s l = .inl c) : dueT s l = (("BadNotation" : Str), c, Dat.non) := by unfold dueT; rw [if_pos (show 1 ≤ s ∧ s ≤ 12 from h), e]
theorem due_yes {s : Int} {l : List Nat} {cs : List Int} (h : Stg s) (e : rdC s l = .inr cs) : dueT s l = (("" : Str), 0, Dat.tup (cs.map Dat.int)) := by unfold dueT; rw [if_pos (show 1 ≤ s ∧ s ≤ 12 from h), e]
/-- [f(c) for c in text], whole numbers -/
theorem r_lcStr {σ : L2.St} {te : TE} {j : Nat} {l : List Nat} (f : Nat → Int) (hz : l.length ≤ 1000000) (he : ∀ c H1 (Q' : VK), Q' (.int (f c)) H1 → te ((σ.set j none).set j (some (.str (S [c])))) H1 Q')
    (hd : ∀ q H', H q = none → Same H H' → H' q = some (.lst ((l.map f).map V.int)) → Q (.ref q) H') : PLc (Its (S l)) (gName j) tYes te [j] σ H Q := by
  intro D hD
  refine lc_it (n := l.length) (Y := fun i H x H' => H' = H ∧ ∃ c, l[i]? = some c ∧ x = .str (S [c])) (G := fun _ => True) (J := Its (S l))
    ⟨fun i H hi _ => by show i < (S l).cps.size; simpa using hi, fun H _ => by show (S l).cps.size ≤ l.length; simp, fun i H x H' hi _ y => by
      obtain ⟨rfl, c, hc, rfl⟩ := y
      exact ⟨rfl, c, by simpa using hc, rfl⟩⟩
    (fun i H' => Same H H' ∧ H' D = some (.lst (((l.take i).map f).map V.int))) ⟨same_new hD, upd_same⟩ (fun _ _ _ _ => trivial) (fun i x H1 H2 hi P y => ?_) (fun H' P => ?_)
  · obtain ⟨rfl, c, hc, rfl⟩ := y
    obtain ⟨s, e⟩ := P
    refine ⟨by show ((σ.set j none).set j _).set j none = σ.set j none; rw [List.set_set, List.set_set], ?_⟩
    refine r_yes (r_T (he c H2 _ ?_))
    refine ⟨_, e, by rw [List.length_map, List.length_map, List.length_take, sizeLine_eq]; omega, same_but s but_upd hD, ?_⟩
    rw [upd_same, List.take_add_one, hc, List.map_append, List.map_append]
    rfl
  · have e := P.2
    rw [List.take_length] at e
    exact hd D H' hD P.1 e
theorem pure_law_read (XS : Exs K ec XN) (h : sp_law_read K vs H Q E) : t_law_read K ec (En Q) (start N_law_read vs) H := by
  obtain ⟨s, l, rfl, hl, q⟩ := h
  unfold t_law_read
  walk_at "rd"
  refine ⟨s, l, rfl, hl, fun hs d H' s' nd e => ?_, fun c hs hr d H' s' nd e => ?_, fun cs hs hr t H1 nt s1 e1 => ?_⟩
  · have BU := XS.bad "BadStage" (by decide)
    refine w_yes (by rw [XS.exm "BadStage" (by decide) "BadStage" (by decide)]; rfl) fun ea na => ?_
    dsimp only
    refine r_seq (r_asg (r_c (r_name ?_)))
    dsimp only
    refine r_seq (r_asg ?_)
    refine r_xfV (v := .str "BadStage") BU.xf BU.nw rfl e rfl ?_
    refine r_name ?_
    dsimp only
    refine r_asg ?_
    refine r_alone XS (x := "BadStage") (by decide) (by decide) (by decide) (by decide) (by decide) (by decide) rfl e fun H2 s2 => ?_
    refine r_name (r_endsAs ?_)
    dsimp only
    walk_at "rd"
    refine r_iteNM (by decide) ?_
    walk_at "rd"
    refine ⟨.str "BadStage", .str "BadStage", .str "BadStage", rfl, .str _, .str _, by decide, fun H3 s3 => ?_⟩
    walk_at "rd"
    intro p H4 np s4 e4
    rw [due_st hs] at q
    exact q p H4 _ (((s'.trans s2).trans s3).trans s4) e4 .non
  · have BU := XS.bad "BadNotation" (by decide)
    refine w_no (by rw [XS.exm "BadNotation" (by decide) "BadStage" (by decide)]; rfl) ?_
    refine w_yes (by rw [XS.exm "BadNotation" (by decide) "BadNotation" (by decide)]; rfl) fun ea na => ?_
    dsimp only
    refine r_seq (r_asg (r_c (r_name ?_)))
    dsimp only
    refine r_seq (r_asg ?_)
    refine r_xfV (v := .str "BadNotation") BU.xf BU.nw rfl e rfl ?_
    refine r_name ?_
    dsimp only
    refine r_seq (r_asg ?_)
    refine r_xfV (v := .int (c : Int)) BU.xf (BU.nf "column" (by decide)) rfl e rfl ?_
    refine r_name ?_
    dsimp only
    refine r_asg ?_
    refine r_alone XS (x := "BadNotation") (by decide) (by decide) (by decide) (by decide) (by decide) (by decide) rfl e fun H2 s2 => ?_
    refine r_name (r_endsAs ?_)
    dsimp only
    walk_at "rd"
    refine r_iteNM (by decide) ?_
    walk_at "rd"
    refine ⟨.str "BadNotation", .str "BadNotation", .str "BadNotation", rfl, .str _, .str _, by decide, fun H3 s3 => ?_⟩
    walk_at "rd"
    intro p H4 np s4 e4
    rw [due_no hs hr] at q
    exact q p H4 _ (((s'.trans s2).trans s3).trans s4) e4 .non
  · walk_at "rd"
    refine r_iteNP rfl ?_
    refine r_F (r_next ?_)
    walk_at "rd"
    intro p H4 np s4 e4
    rw [due_yes hs hr] at q
    exact q p H4 _ (s1.trans s4) e4 (rp_same s4 (rp_ints e1))
theorem ra_len (n : Int) (ps : List Int) : (raI n ps).length ≤ ps.length + 2 := by
  have a : (if (ps.getD 0 0 - 1) % 2 = 1 then 1 :: ps else ps).length ≤ ps.length + 1 := by split <;> simp
  unfold raI
  dsimp only
  split
  · rw [List.length_append]; simp only [List.length_singleton]; omega
  · omega
theorem ch_len (n : Int) (ps : List Int) : (chOf n ps).length ≤ ps.length + 2 := by
  by_cases h : ps = []
  · subst h
    unfold chOf
    rw [if_neg (fun z => z.1 rfl)]
    exact Nat.zero_le _
  · rw [chOf_ra h]; exact ra_len n ps
theorem rd_len {n : Int} {l : List Nat} {cs : List Int} (h : rdC n l = .inr cs) : cs.length ≤ l.length + 2 := by
  unfold rdC at h
  split at h
  · split at h
    · cases h
    · cases h; simp
  · split at h
    · cases h
    · split at h
      · cases h
      · cases h
        have := ch_len n (l.map (plC n))
        rw [List.length_map] at this
        exact this
theorem due_size {s : Int} {l : List Nat} (hl : l.length ≤ 100000) : (dueT s l).2.2.size ≤ 1000000 := by
  unfold dueT
  split
  · split
    · show 1 ≤ 1000000; decide
    · rename_i cs e
      show (Dat.tup (cs.map Dat.int)).size ≤ 1000000
      rw [size_row]
      have := rd_len e
      omega
  · show 1 ≤ 1000000; decide
theorem pure_law_answered (h : sp_law_answered K vs H Q E) : t_law_answered K (En Q) (start N_law_answered vs) H := by
  obtain ⟨s, l, rfl, hl, q⟩ := h
  unfold t_law_answered
  walk_at "rd"
  refine ⟨s, l, rfl, hl, fun a H1 v s1 e1 r1 => ?_⟩
  refine r_name ?_
  walk_at "rd"
  refine ⟨s, l, rfl, hl, fun b H2 w s2 e2 r2 => ?_⟩
  have e1' := s2 _ _ e1
  refine r_name ?_
  walk_at "rd"
  refine r_iteP rfl ?_
  walk_at "rd"
  refine ⟨_, _, .int _, rfl, .int _, .int _, by show 1 ≤ 1000000; decide, fun H3 s3 => ?_⟩
  have e1'' := s3 _ _ e1'
  have e2'' := s3 _ _ e2
  walk_at "rd"
  refine ⟨_, _, _, rfl, rp_same s3 r2, rp_same s3 (rp_same s2 r1), due_size hl, fun H4 s4 => ?_⟩
  exact q H4 (((s1.trans s2).trans s3).trans s4)
end
end Kb
set_option Elab.async false
set_option linter.all false
set_option maxRecDepth 100000
set_option maxHeartbeats 4000000
namespace Kb
namespace K11
open PySem PySem.Spec PyProof.Rows L2 SX
open K8 (TL)
local macro_rules | `(tactic| walk_at "tk") => `(tactic| first
  | assumption
  | ((with_reducible refine' sqT_of ?k); (case k => assumption))
  | ((with_reducible refine' sqT_ofD ?k); (case k => assumption))
  | ((with_reducible refine' noD_of ?k); (case k => assumption))
  | ((with_reducible refine' noD_same ?s ?k); (case s => assumption); (case k => walk_at "tk"))
  | ((with_reducible refine' sqL_of ?k); (case k => assumption))
  | ((with_reducible refine' sqT_same ?s ?k); (case s => assumption); (case k => walk_at "tk"))
  | ((with_reducible refine' sqL_same ?s ?k); (case s => assumption); (case k => walk_at "tk"))
  | ((with_reducible refine' sqT_but ?s ?t ?k); (case s => assumption); (case t => walk_at "tk"); (case k => walk_at "tk"))
  | ((with_reducible refine' sqL_but ?s ?t ?k); (case s => assumption); (case t => walk_at "ne"); (case k => walk_at "tk"))
  | ((with_reducible refine' sqL_of ?k); (case k => walk_at "tk"))
  | ((with_reducible refine' sqT_of ?k); (case k => walk_at "tk"))
  | ((with_reducible refine' at_same ?s ?k); (case s => assumption); (case k => walk_at "tk"))
  | ((with_reducible refine' at_but ?s ?t ?k); (case s => assumption); (case t => walk_at "ne"); (case k => walk_at "tk")))
local macro_rules | `(tactic| walk_at "ne") => `(tactic| first
  | assumption
  | (refine Ne.symm ?_; assumption)
  | exact ne_of_none (by assumption) (by assumption)
  | exact (ne_of_none (by assumption) (by assumption)).symm)
local macro_rules | `(tactic| walk_at "side") => `(tactic| first
  | assumption
  | omega
  | (simp only [sizeLine_eq, List.length_cons, List.length_nil, List.length_map]; omega)
  | (show _ ≤ sizeLine; decide))
local macro_rules | `(tactic| walk_at "kit") => `(tactic| first
  | (show kitB _ _ = some true; decide +kernel)
  | (show kitB _ _ = some false; decide +kernel))
local macro_rules | `(tactic| walk_at "rng") => `(tactic| first
  | (refine ⟨by omega, by omega, by omega, by omega⟩)
  | (refine ⟨by omega, by omega⟩)
  | ((simp only [List.length_map]); (refine ⟨by omega, by omega, by omega, by omega⟩))
  | ((simp only [List.length_map]); (refine ⟨by omega, by omega⟩)))
local macro_rules | `(tactic| walk_at "rd1") => `(tactic| first
  | with_reducible refine r_seq ?_
  | ((with_reducible refine' r_var ?k0 ?_); (case k0 => rfl))
  | with_reducible refine r_op ?_
  | with_reducible refine r_c ?_
  | with_reducible refine r_asg ?_
  | with_reducible refine r_name ?_
  | with_reducible refine r_cons ?_
  | with_reducible refine r_nil ?_
  | with_reducible refine r_CB ?_
  | with_reducible refine r_if ?_
  | with_reducible refine r_test ?_
  | with_reducible refine r_k ?_
  | with_reducible refine r_T ?_
  | with_reducible refine r_F ?_
  | with_reducible refine r_nT ?_
  | with_reducible refine r_nF ?_
  | with_reducible refine r_ret ?_
  | with_reducible refine r_drop ?_
  | with_reducible refine r_next ?_
  | with_reducible refine r_call ?_
  | with_reducible refine r_addI ?_
  | with_reducible refine r_subI ?_
  | with_reducible refine r_ltI ?_
  | with_reducible refine r_gtI ?_
  | with_reducible refine r_leI ?_
  | with_reducible refine r_geI ?_
  | with_reducible refine r_eqI ?_
  | with_reducible refine r_neI ?_
  | with_reducible refine r_int ?_
  | with_reducible refine r_abs ?_
  | with_reducible refine r_not ?_
  | with_reducible refine r_and ?_
  | with_reducible refine r_or ?_
  | with_reducible refine r_tru ?_
  | with_reducible refine r_truB ?_
  | with_reducible refine r_lst ?_
  | with_reducible refine r_tup ?_
  | with_reducible refine r_BM ?_
  | with_reducible refine r_BM0 ?_
  | with_reducible refine r_tyS ?_
  | with_reducible refine r_gsub ?_
  | with_reducible refine r_then ?_
  | with_reducible refine r_lstRg ?_
  | with_reducible refine r_tupRg ?_
  | with_reducible refine r_rg2 ?_
  | with_reducible refine r_rg1 ?_
  | with_reducible refine r_ii ?_
  | with_reducible refine r_i ?_
  | with_reducible refine r_ipI ?_
  | with_reducible refine r_un ?_
  | with_reducible refine r_neg ?_
  | with_reducible refine r_isN ?_
  | with_reducible refine r_notN ?_
  | with_reducible refine r_notV ?_
  | with_reducible refine r_pnot ?_
  | with_reducible refine r_pif ?_
  | with_reducible refine r_andV ?_
  | with_reducible refine r_orV ?_
  | with_reducible refine r_ifE ?_
  | with_reducible refine r_chain ?_
  | with_reducible refine r_sl ?_
  | with_reducible refine r_noPart ?_
  | with_reducible refine r_part ?_
  | with_reducible refine r_brk ?_
  | with_reducible refine r_cont ?_
  | with_reducible refine r_retN ?_
  | with_reducible refine r_truI ?_
  | with_reducible refine r_B ?_
  | with_reducible refine r_for ?_
  | with_reducible refine r_rng1 ?_
  | with_reducible refine r_rng2 ?_
  | with_reducible refine r_rng3 ?_
  | with_reducible refine r_body ?_
  | with_reducible refine r_lc ?_
  | with_reducible refine r_yes ?_
  | ((with_reducible refine' r_mod ?k0 ?_); (case k0 => walk_at "side"))
  | ((with_reducible refine' r_mulI ?k0 ?_); (case k0 => first | exact Or.inl ⟨by omega, by omega⟩ | exact Or.inr ⟨by omega, by omega⟩))
  | ((with_reducible refine' r_lenL ?k0 ?_); (case k0 => walk_at "tk"))
  | ((with_reducible refine' r_lenT ?k0 ?_); (case k0 => walk_at "tk"))
  | ((with_reducible refine' r_truL ?k0 ?_); (case k0 => walk_at "tk"))
  | ((with_reducible refine' r_truT ?k0 ?_); (case k0 => walk_at "tk"))
  | ((with_reducible refine' r_ixL ?k0 ?k1 ?_); (case k0 => walk_at "tk"); (case k1 => first | assumption | rfl))
  | ((with_reducible refine' r_ixT ?k0 ?k1 ?_); (case k0 => walk_at "tk"); (case k1 => first | assumption | rfl))
  | ((with_reducible refine' r_new ?k0 ?_); (case k0 => walk_at "side"))
  | ((with_reducible refine' r_tyL ?k0 ?_); (case k0 => walk_at "tk"))
  | ((with_reducible refine' r_append ?k0 ?k1 ?_); (case k0 => walk_at "tk"); (case k1 => walk_at "side"))
  | ((with_reducible refine' r_setL ?k0 ?k1 ?_); (case k0 => walk_at "tk"); (case k1 => first | assumption | rfl))
  | ((with_reducible refine' r_kTupL ?k0 ?_); (case k0 => walk_at "tk"))
  | ((with_reducible refine' r_kTupT ?k0 ?_); (case k0 => walk_at "tk"))
  | ((with_reducible refine' r_listL ?k0 ?_); (case k0 => walk_at "tk"))
  | ((with_reducible refine' r_listT ?k0 ?_); (case k0 => walk_at "tk"))
  | ((with_reducible refine' r_aug ?k0 ?_); (case k0 => rfl))
  | ((with_reducible refine' r_lenS ?k0 ?_); (case k0 => walk_at "side"))
  | ((with_reducible refine' r_pop ?k0 ?_); (case k0 => walk_at "tk"))
  | ((with_reducible refine' r_pr1 ?k0 ?_); (case k0 => walk_at "rng"))
  | ((with_reducible refine' r_pr2 ?k0 ?_); (case k0 => walk_at "rng"))
  | ((with_reducible refine' r_pr3d ?k0 ?_); (case k0 => walk_at "rng"))
  | ((with_reducible refine' r_isiI ?k0 ?_); (case k0 => walk_at "kit"))
  | ((with_reducible refine' r_isiB ?k0 ?_); (case k0 => walk_at "kit"))
  | ((with_reducible refine' r_isiS ?k0 ?_); (case k0 => walk_at "kit"))
  | ((with_reducible refine' r_isiN ?k0 ?_); (case k0 => walk_at "kit"))
  | ((with_reducible refine' r_isiT ?k0 ?k1 ?_); (case k0 => walk_at "tk"); (case k1 => walk_at "kit"))
  | ((with_reducible refine r_seqT ?_); (repeat (walk_at "rd1")); ((with_reducible refine' r_pseqT ?k0 ?_); (case k0 => walk_at "tk")))
  | ((with_reducible refine r_seqL ?_); (repeat (walk_at "rd1")); ((with_reducible refine' r_pseqL ?k0 ?_); (case k0 => walk_at "tk")))
  | ((with_reducible refine r_seqS ?_); (repeat (walk_at "rd1")); (with_reducible refine r_pseqS ?_)))
local macro_rules | `(tactic| walk_at "rd") => `(tactic| ((repeat (walk_at "rd1")); (try dsimp only)))
local macro_rules | `(tactic| walk_at "rd1") => `(tactic| first
  | with_reducible refine r_BMT ?_
  | with_reducible refine r_par ?_
  | with_reducible refine r_parV ?_
  | ((with_reducible refine' r_ptp ?k0 ?k1 ?_); (case k0 => walk_at "tk"); (case k1 => walk_at "tk"))
  | with_reducible refine r_eqS ?_
  | with_reducible refine r_neS ?_
  | with_reducible refine r_callW ?_
  | with_reducible refine r_try ?_
  | with_reducible refine r_enT ?_
  | ((with_reducible refine' r_pen ?k0 ?_); (case k0 => walk_at "tk")))
local macro_rules | `(tactic| walk_at "pl0") => `(tactic| first
  | assumption
  | exact pl_same (by assumption) (by assumption)
  | exact pl_same (by assumption) (pl_same (by assumption) (by assumption))
  | exact pl_same (by assumption) (pl_same (by assumption) (pl_same (by assumption) (by assumption))))
local macro_rules | `(tactic| walk_at "pl") => `(tactic| first
  | walk_at "pl0"
  | ((with_reducible refine' pl_butL ?s ?n ?k); (case s => assumption); (case n => walk_at "ne"); (case k => walk_at "pl"))
  | ((with_reducible refine' pl_same ?s ?k); (case s => assumption); (case k => walk_at "pl")))
local macro_rules | `(tactic| walk_at "ne") => `(tactic| first
  | exact ne_pl (by assumption) (by walk_at "pl0")
  | exact (ne_pl (by assumption) (by walk_at "pl0")).symm)
local macro_rules | `(tactic| walk_at "fr") => `(tactic| first
  | assumption
  | ((with_reducible refine' free_but ?b ?n ?h); (case h => assumption); (case n => walk_at "ne"); (case b => walk_at "but"))
  | ((with_reducible refine' Same.free ?b ?h); (case h => assumption); (case b => walk_at "same")))
local macro_rules | `(tactic| walk_at "but") => `(tactic| first
  | assumption
  | exact But.refl
  | ((with_reducible refine' But.trans ?a ?b); (case b => assumption); (case a => walk_at "but"))
  | ((with_reducible refine' But.trans ?a (Same.but ?b)); (case b => assumption); (case a => walk_at "but"))
  | ((with_reducible refine' but_via ?a ?b ?c); (case b => assumption); (case c => walk_at "fr"); (case a => walk_at "but")))
local macro_rules | `(tactic| walk_at "same") => `(tactic| first
  | assumption
  | exact Same.refl _
  | ((with_reducible refine' Same.trans ?a ?b); (case b => assumption); (case a => walk_at "same"))
  | ((with_reducible refine' same_but ?a ?b ?c); (case b => assumption); (case c => walk_at "fr"); (case a => walk_at "same")))
local macro_rules | `(tactic| walk_at "tk") => `(tactic| first
  | ((with_reducible refine' sqT_pl ?s ?t ?k); (case s => assumption); (case t => walk_at "pl0"); (case k => walk_at "tk"))
  | ((with_reducible refine' rp_same ?s ?k); (case s => assumption); (case k => walk_at "tk"))
  | ((with_reducible refine' rp_pl ?s ?t ?k); (case s => assumption); (case t => walk_at "pl0"); (case k => walk_at "tk")))
local macro_rules | `(tactic| walk_at "it") => `(tactic| first
  | assumption
  | ((with_reducible refine' sqI_1 ?k); (case k => assumption))
  | ((with_reducible refine' sqI_0 ?k); (case k => assumption))
  | ((with_reducible refine' sqI_of ?k); (case k => assumption))
  | ((with_reducible refine' sqI_D ?k); (case k => assumption))
  | ((with_reducible refine' sqT_same ?s ?k); (case s => assumption); (case k => walk_at "it"))
  | ((with_reducible refine' sqT_but ?s ?t ?k); (case s => assumption); (case t => assumption); (case k => walk_at "it"))
  | ((with_reducible refine' sqT_pl ?s ?t ?k); (case s => assumption); (case t => walk_at "pl0"); (case k => walk_at "it")))
local macro_rules | `(tactic| walk_at "sz") => `(tactic| first | omega | ((try simp only [List.length_cons, List.length_nil] at *); omega))
local macro_rules | `(tactic| walk_at "au1") => `(tactic| first
  | walk_at "rd1"
  | ((with_reducible refine' r_draw ?k0 ?k1 ?k2 ?_); (case k0 => walk_at "pl"); (case k1 => omega); (case k2 => omega); (intro _ _ _ _ _ _))
  | ((with_reducible refine' r_slN ?k0 ?_); (case k0 => walk_at "it"); (intro _ _ _ _ _ _))
  | ((with_reducible refine' r_catN ?k0 ?k1 ?k2 ?_); (case k0 => walk_at "it"); (case k1 => walk_at "it"); (case k2 => walk_at "sz"); (intro _ _ _ _ _ _))
  | ((with_reducible refine' r_pow ?k0 ?_); (case k0 => exact ⟨by decide, by decide, by decide⟩))
  | ((with_reducible refine' r_ixI ?k0 ?k1 ?k2 ?_); (case k0 => walk_at "it"); (case k1 => omega); (case k2 => omega); (intro _ _))
  | ((with_reducible refine' r_setI ?k0 ?k1 ?k2 ?_); (case k0 => walk_at "tk"); (case k1 => omega); (case k2 => omega); (intro _ _ _ _ _))
  | ((with_reducible refine' r_kTupI ?k0 ?_); (case k0 => walk_at "tk"); (intro _ _ _ _ _))
  | ((with_reducible refine' r_listI ?k0 ?_); (case k0 => walk_at "it"); (intro _ _ _ _ _))
  | (with_reducible refine r_revU ?_)
  | ((with_reducible refine' r_prevN ?k0 ?_); (case k0 => walk_at "it"); (intro _ _ _ _ _ _))
  | (intro _ _ _ _ _))
local macro_rules | `(tactic| walk_at "go") => `(tactic| ((repeat (walk_at "au1")); (first
  | ((with_reducible refine r_ite (fun _ => ?_) (fun _ => ?_)) <;> (walk_at "go"))
  | ((with_reducible refine r_iteN (fun _ => ?_) (fun _ => ?_)) <;> (walk_at "go"))
  | dsimp only
  | skip)))
def sp_law_place (K : PySem.W.Frag) : Sp := fun vs H Q _ => ∃ (s : Int) (c : Nat), vs = [.int s, .str ⟨#[c]⟩] ∧ Q (.int (plC s c)) H
def sp_law_column (K : PySem.W.Frag) : Sp := fun vs H Q _ => ∃ (n : Nat) (l : List Nat), vs = [.int (n : Int), .str (S l)] ∧ l.length ≤ 20000 ∧ ∀ H', Same H H' → Q (.int (colN n 44 0 0 l : Nat)) H'
def sp_law_change (K : PySem.W.Frag) : Sp := fun vs H Q _ => ∃ (n : Nat) (p : List Nat), vs = [.int (n : Int), .str (S p)] ∧ p ≠ [] ∧ p.length ≤ 100000 ∧ ∀ q H', H q = none → Same H H' → SqT K H' q ((lawC n p).map V.int) → Q (.ref q) H'
abbrev N_law_place : List Str := ["stage", "sign", "place"]
def t_law_place (K : PySem.W.Frag) : TS :=
  tSeq (tAsg ((tOp (rAddU K) ((tBM K "str" rFind ((tC (.str "1234567890ET"))) (tCons (tVar 1) tNil))) ((tC (.int 1))))) (gName 2))
  (tSeq (tIfS ((tTest (tOp rGtU (tVar 2) (tVar 0)))) ((tRet ((tC (.int 0))))) (tNext))
  ((tRet (tVar 2))))
abbrev N_law_column : List Str := ["stage", "text", "commas", "before", "k", "sign", "last", "place", "fits"]
def t_law_column (K : PySem.W.Frag) : TS :=
  tSeq (tAsg ((tC (.int 0))) (gName 2))
  (tSeq (tAsg ((tC (.str ","))) (gName 3))
  (tSeq (tFor (iRng1 (tCons ((tCB (rLenU K) (tCons (tVar 1) tNil))) tNil)) (gName 4) (tSeq (tAsg ((tOp (rIx K) (tVar 1) (tVar 4))) (gName 5))
  (tSeq (tAsg ((tCall (sp_law_place K) [] E0 (tCons (tVar 0) (tCons (tVar 3) tNil)))) (gName 6))
  (tSeq (tAsg ((tCall (sp_law_place K) [] E0 (tCons (tVar 0) (tCons (tVar 5) tNil)))) (gName 7))
  (tSeq (tAsg ((tAndV ((tOp rGtU (tVar 7) ((tC (.int 0))))) ((tOrV ((tOp (rEqU K) (tVar 6) ((tC (.int 0))))) ((tAndV ((tOp rGtU (tVar 7) (tVar 6))) ((tOp (rEqU K) ((tOp rModU ((tCB rIntU (tCons ((tOp rSubU (tVar 7) (tVar 6))) tNil))) ((tC (.int 2))))) ((tC (.int 1))))))))))) (gName 8))
  (tSeq (tIfS ((tTest (tOp (rEqU K) (tVar 5) ((tC (.str "x")))))) ((tAsg ((tAndV ((tOp (rEqU K) ((tOp rModU ((tCB rIntU (tCons (tVar 0) tNil))) ((tC (.int 2))))) ((tC (.int 0))))) ((tOp (rNeU K) (tVar 3) ((tC (.str "."))))))) (gName 8))) (tNext))
  (tSeq (tIfS ((tTest (tOp (rEqU K) (tVar 5) ((tC (.str ".")))))) ((tAsg ((tOp rGtU (tVar 6) ((tC (.int 0))))) (gName 8))) (tNext))
  (tSeq (tIfS ((tTest (tOp (rEqU K) (tVar 5) ((tC (.str "&")))))) ((tAsg ((tOp (rEqU K) (tVar 3) ((tC (.str ","))))) (gName 8))) (tNext))
  (tSeq (tIfS ((tTest (tOp (rEqU K) (tVar 5) ((tC (.str ",")))))) (tSeq (tAsg ((tOp (rAddU K) (tVar 2) ((tC (.int 1))))) (gName 2))
  ((tAsg ((tAndV ((tOp (rEqU K) (tVar 2) ((tC (.int 1))))) ((tOrV ((tOp rGtU (tVar 6) ((tC (.int 0))))) ((tOp (rEqU K) (tVar 3) ((tC (.str "x"))))))))) (gName 8)))) (tNext))
  (tSeq (tIfS ((tNot ((tTru K (tVar 8))))) ((tRet ((tOp (rAddU K) (tVar 4) ((tC (.int 1))))))) (tNext))
  ((tAsg (tVar 5) (gName 3)))))))))))))
  (tSeq (tIfS ((tOr ((tTest (tOp (rEqU K) (tVar 3) ((tC (.str "x")))))) ((tTest (tOp rGtU ((tCall (sp_law_place K) [] E0 (tCons (tVar 0) (tCons (tVar 3) tNil)))) ((tC (.int 0)))))))) ((tRet ((tC (.int 0))))) (tNext))
  ((tRet ((tOp (rAddU K) ((tCB (rLenU K) (tCons (tVar 1) tNil))) ((tC (.int 1))))))))))
abbrev N_law_change : List Str := ["stage", "piece", "places", "sign"]
def t_law_change (K : PySem.W.Frag) : TS :=
  tSeq (tIfS ((tTest (tOp (rEqU K) (tVar 1) ((tC (.str "x")))))) ((tRet ((tTup tNil)))) (tNext))
  (tSeq (tAsg (tLc ((iSeqU K (tVar 1))) ((gName 3)) (tYes) ((tOp (rAddU K) ((tBM K "str" rFind ((tC (.str "1234567890ET"))) (tCons (tVar 3) tNil))) ((tC (.int 1))))) [3]) (gName 2))
  (tSeq (tIfS ((tTest (tOp (rEqU K) ((tOp rModU ((tCB rIntU (tCons ((tOp rSubU ((tOp (rIx K) (tVar 2) ((tC (.int 0))))) ((tC (.int 1))))) tNil))) ((tC (.int 2))))) ((tC (.int 1)))))) ((tAsg ((tOp (rAddU K) ((tLst (tCons ((tC (.int 1))) tNil))) (tVar 2))) (gName 2))) (tNext))
  (tSeq (tIfS ((tTest (tOp (rEqU K) ((tOp rModU ((tCB rIntU (tCons ((tOp rSubU (tVar 0) ((tOp (rIx K) (tVar 2) ((tUn (rU fun i => .int (-i)) ((tC (.int 1))))))))) tNil))) ((tC (.int 2))))) ((tC (.int 1)))))) ((tAsg ((tOp (rAddU K) (tVar 2) ((tLst (tCons (tVar 0) tNil))))) (gName 2))) (tNext))
  ((tRet ((tThen (tVar 2) (kTupD K))))))))
section
variable {K : PySem.W.Frag} {ec : Str → Addr} {ns : List Str} {vs : List V} {H : Hp} {Q : VK} {E : XK}
theorem len_law_place (h : sp_law_place K vs H Q E) : vs.length = 2 := by obtain ⟨s, c, rfl, _⟩ := h; rfl
theorem len_law_column (h : sp_law_column K vs H Q E) : vs.length = 2 := by obtain ⟨s, c, rfl, _⟩ := h; rfl
theorem len_law_change (h : sp_law_change K vs H Q E) : vs.length = 2 := by obtain ⟨s, c, rfl, _⟩ := h; rfl
theorem pure_law_place (h : sp_law_place K vs H Q E) : t_law_place K (En Q) (start N_law_place vs) H := by
  obtain ⟨s, c, rfl, q⟩ := h
  unfold t_law_place
  walk_at "rd"
  refine r_find signs_tl ?_
  walk_at "rd"
  unfold plC at q
  refine r_ite (fun h1 => ?_) (fun h1 => ?_)
  · walk_at "rd"
    rw [if_pos (by omega)] at q
    exact q
  · walk_at "rd"
    rw [if_neg (by omega)] at q
    exact q
theorem pure_law_change (h : sp_law_change K vs H Q E) : t_law_change K (En Q) (start N_law_change vs) H := by
  obtain ⟨n, p, rfl, hne, hl, q⟩ := h
  have hlsz := sizeLine_eq
  unfold t_law_change
  walk_at "rd"
  rw [S_eqD, show ("x" : Str).cps.toList = [120] by decide]
  unfold lawC at q
  refine r_ite (fun h1 => ?_) (fun h1 => ?_)
  · rw [if_pos h1] at q
    walk_at "rd"
    intro t H1 nt s1 e1
    exact q t H1 nt s1 (sqT_of e1)
  · rw [if_neg h1] at q
    have hlen : ((p.map plF).map V.int).length = p.length := by rw [List.length_map, List.length_map]
    walk_at "rd"
    refine r_lcStr plF (by omega) (fun c H1 Q' k => ?_) fun t H1 nt s1 e1 => ?_
    · walk_at "rd"
      refine r_find signs_tl ?_
      walk_at "rd"
      exact k
    have e1 : H1 t = some (.lst ((p.map plF).map V.int)) := by rw [e1, List.map_map] <;> rfl
    have hpl : p.map plF ≠ [] := fun z => hne (List.map_eq_nil_iff.mp z)
    generalize p.map plF = ps at e1 q hlen hpl
    have a0 : atI (ps.map V.int) 0 = some (.int (ps.getD 0 0)) := by
      cases ps with
      | nil => exact absurd rfl hpl
      | cons x r => exact at_first
    have fin : ∀ (u : Addr) (as : List Int) (H2 : Hp), H u = none → Same H H2 → H2 u = some (.lst (as.map V.int)) → as.length ≤ 100001 → as ≠ [] → as = (if (ps.getD 0 0 - 1) % 2 = 1 then 1 :: ps else ps) →
        tSeq (tIfS ((tTest (tOp (rEqU K) ((tOp rModU ((tCB rIntU (tCons ((tOp rSubU (tVar 0) ((tOp (rIx K) (tVar 2) ((tUn (rU fun i => .int (-i)) ((tC (.int 1))))))))) tNil))) ((tC (.int 2))))) ((tC (.int 1)))))) ((tAsg ((tOp (rAddU K) (tVar 2) ((tLst (tCons (tVar 0) tNil))))) (gName 2))) (tNext))
        ((tRet ((tThen (tVar 2) (kTupD K))))) (En Q) [some (.int (n : Int)), some (.str (S p)), some (.ref u), none] H2 := fun u as H2 nu s2 e2 hl2 hne2 ea => by
      have al := at_last hne2
      walk_at "rd"
      refine r_ite (fun h3 => ?_) (fun h3 => ?_)
      · walk_at "rd"
        intro o H3 no s3 e3
        have e23 := s3 _ _ e2
        refine r_catL e23 e3 (by rw [List.length_map]; simp; omega) fun v H4 nv s4 e4 => ?_
        have e4 : H4 v = some (.lst ((as ++ [(n : Int)]).map V.int)) := by rw [e4, List.map_append]; rfl
        walk_at "rd"
        intro w H5 nw s5 e5
        refine q w H5 ((((s2.trans s3).trans s4)).free nw) (((s2.trans s3).trans s4).trans s5) ?_
        rw [← ea]
        dsimp only
        rw [if_pos h3]; exact sqT_ofD e5
      · walk_at "rd"
        intro w H5 nw s5 e5
        refine q w H5 (s2.free nw) (s2.trans s5) ?_
        rw [← ea]
        dsimp only
        rw [if_neg h3]; exact sqT_ofD e5
    walk_at "rd"
    refine r_ite (fun h2 => ?_) (fun h2 => ?_)
    · walk_at "rd"
      intro o H2 no s2 e2
      have e12 := s2 _ _ e1
      walk_at "rd"
      refine r_catL e2 e12 (by rw [List.length_singleton]; omega) fun v H3 nv s3 e3 => ?_
      have e3 : H3 v = some (.lst ((1 :: ps).map V.int)) := e3
      refine r_name ?_
      exact fin v (1 :: ps) H3 ((s1.trans s2).free nv) ((s1.trans s2).trans s3) e3 (by rw [List.length_cons]; rw [List.length_map] at hlen; omega) (by simp) (by rw [if_pos h2])
    · refine r_next ?_
      exact fin t ps H1 nt s1 e1 (by rw [List.length_map] at hlen; omega) hpl (by rw [if_neg h2])
theorem pure_law_column (h : sp_law_column K vs H Q E) : t_law_column K (En Q) (start N_law_column vs) H := by
  obtain ⟨n, l, rfl, hl, q⟩ := h
  have hn : (0 : Int) ≤ n := by omega
  obtain ⟨z120, z46, z38, z44⟩ := plC_0 hn
  unfold t_law_column
  walk_at "rd"
  refine r_lenSS (by omega) ?_
  walk_at "rd"
  rw [Int.toNat_natCast, s_com]
  refine r_forRange0 (fun i σ' H' => ∃ (b m : Nat) (z4 z5 z6 z7 z8 : Option V), σ' = [some (.int (n : Int)), some (.str (S l)), some (.int (m : Int)), some (.str ⟨#[b]⟩), z4, z5, z6, z7, z8] ∧ Same H H' ∧ colN n b m i (l.drop i) = colN n 44 0 0 l)
    ⟨44, 0, none, none, none, none, none, rfl, Same.refl _, rfl⟩ (fun i σ' H' hi hW => ?_) (fun σ' H' hW => ?_)
  · obtain ⟨b, m, z4, z5, z6, z7, z8, rfl, st, hc⟩ := hW
    have hli : l[i]? = some l[i] := List.getElem?_eq_getElem hi
    have hat : atI l (i : Int) = some l[i] := atI_nat hli
    rw [List.drop_eq_getElem_cons hi] at hc
    generalize l[i] = c at hat hc
    have hq := q H' st
    rw [← hc] at hq
    have bad : fitN n b m c = false → Q (.int ((i : Int) + 1)) H' := fun hf => by
      have : colN n b m i (c :: l.drop (i + 1)) = i + 1 := by show (if fitN n b m c = true then _ else i + 1) = _; rw [hf]; rfl
      rw [this, show (((i + 1 : Nat) : Int)) = (i : Int) + 1 by omega] at hq
      exact hq
    have good : fitN n b m c = true → colN n c (if c = 44 then m + 1 else m) (i + 1) (l.drop (i + 1)) = colN n 44 0 0 l := fun hf => by
      rw [← hc]
      show _ = (if fitN n b m c = true then _ else i + 1)
      rw [if_pos hf]
    clear hq
    walk_at "rd"
    refine r_ixSS (by omega) hat ?_
    walk_at "rd"
    refine ⟨n, b, rfl, ?_⟩
    walk_at "rd"
    refine ⟨n, c, rfl, ?_⟩
    walk_at "rd"
    by_cases c120 : c = 120
    · subst c120
      rw [z120]
      refine r_iteM (by decide) ?_
      walk_at "rd"
      refine r_iteP (by decide) ?_
      walk_at "rd"
      refine r_ite (fun h1 => ?_) (fun h1 => ?_)
      · walk_at "rd"
        refine r_iteM (by decide) ?_
        walk_at "rd"
        refine r_iteM (by decide) ?_
        walk_at "rd"
        refine r_iteM (by decide) ?_
        walk_at "rd"
        by_cases hb : b = 46
        · rw [decide_eq_true (show (⟨#[b]⟩ : Str) = "." by rw [hb]; decide), Bool.not_true]
          walk_at "rd"
          exact bad (by simp [fitN, hb])
        · rw [decide_eq_false (show ¬ (⟨#[b]⟩ : Str) = "." from fun z => hb (one_eq.mp (z.trans s_dot))), Bool.not_false]
          walk_at "rd"
          exact ⟨120, m, _, _, _, _, _, rfl, st, good (by simp [fitN, hb, h1])⟩
      · walk_at "rd"
        refine r_iteM (by decide) ?_
        walk_at "rd"
        refine r_iteM (by decide) ?_
        walk_at "rd"
        refine r_iteM (by decide) ?_
        walk_at "rd"
        exact bad (by simp [fitN, h1])
    · by_cases c46 : c = 46
      · subst c46
        rw [z46]
        refine r_iteM (by decide) ?_
        walk_at "rd"
        refine r_iteM (by decide) ?_
        walk_at "rd"
        refine r_iteP (by decide) ?_
        walk_at "rd"
        refine r_iteM (by decide) ?_
        walk_at "rd"
        refine r_iteM (by decide) ?_
        walk_at "rd"
        by_cases hb : 0 < plC n b
        · rw [decide_eq_true hb]
          walk_at "rd"
          exact ⟨46, m, _, _, _, _, _, rfl, st, good (by simp [fitN, hb])⟩
        · rw [decide_eq_false hb]
          walk_at "rd"
          exact bad (by simp [fitN, hb])
      · by_cases c38 : c = 38
        · subst c38
          rw [z38]
          refine r_iteM (by decide) ?_
          walk_at "rd"
          refine r_iteM (by decide) ?_
          walk_at "rd"
          refine r_iteM (by decide) ?_
          walk_at "rd"
          refine r_iteP (by decide) ?_
          walk_at "rd"
          refine r_iteM (by decide) ?_
          walk_at "rd"
          by_cases hb : b = 44
          · rw [decide_eq_true (show (⟨#[b]⟩ : Str) = ⟨#[44]⟩ from one_eq.mpr hb)]
            walk_at "rd"
            exact ⟨38, m, _, _, _, _, _, rfl, st, good (by simp [fitN, hb])⟩
          · rw [decide_eq_false (show ¬ (⟨#[b]⟩ : Str) = ⟨#[44]⟩ from fun z => hb (one_eq.mp z))]
            walk_at "rd"
            exact bad (by simp [fitN, hb])
        · by_cases c44 : c = 44
          · subst c44
            rw [z44]
            refine r_iteM (by decide) ?_
            walk_at "rd"
            refine r_iteM (by decide) ?_
            walk_at "rd"
            refine r_iteM (by decide) ?_
            walk_at "rd"
            refine r_iteM (by decide) ?_
            walk_at "rd"
            refine r_iteP (by decide) ?_
            walk_at "rd"
            refine r_ite (fun h1 => ?_) (fun h1 => ?_)
            · have hm : m = 0 := by omega
              walk_at "rd"
              by_cases hb : 0 < plC n b
              · refine r_iteP hb ?_
                walk_at "rd"
                exact ⟨44, m + 1, _, _, _, _, _, rfl, st, good (by simp [fitN, hb, hm])⟩
              · refine r_iteM hb ?_
                walk_at "rd"
                by_cases hx : b = 120
                · rw [decide_eq_true (show (⟨#[b]⟩ : Str) = "x" by rw [hx]; decide)]
                  walk_at "rd"
                  exact ⟨44, m + 1, _, _, _, _, _, rfl, st, good (by simp [fitN, hx, hm])⟩
                · rw [decide_eq_false (show ¬ (⟨#[b]⟩ : Str) = "x" from fun z => hx (one_eq.mp (z.trans s_x)))]
                  walk_at "rd"
                  exact bad (by simp [fitN, hb, hx])
            · have hm : m ≠ 0 := by omega
              walk_at "rd"
              exact bad (by simp [fitN, hm])
          · have ef : fitN n b m c = (decide (0 < plC n c) && (decide (plC n b = 0) || (decide (plC n b < plC n c) && decide ((plC n c - plC n b) % 2 = 1)))) := by
              unfold fitN; rw [if_neg c120, if_neg c46, if_neg c38, if_neg c44]
            rw [ef] at bad good
            rw [if_neg c44] at good
            have n1 : ¬ (⟨#[c]⟩ : Str) = "x" := fun z => c120 (one_eq.mp (z.trans s_x))
            have n2 : ¬ (⟨#[c]⟩ : Str) = "." := fun z => c46 (one_eq.mp (z.trans s_dot))
            have n3 : ¬ (⟨#[c]⟩ : Str) = "&" := fun z => c38 (one_eq.mp (z.trans s_amp))
            have n4 : ¬ (⟨#[c]⟩ : Str) = ⟨#[44]⟩ := fun z => c44 (one_eq.mp z)
            have tl : ∀ x : Bool, x = (decide (0 < plC n c) && (decide (plC n b = 0) || (decide (plC n b < plC n c) && decide ((plC n c - plC n b) % 2 = 1)))) →
                tSeq (tIfS ((tTest (tOp (rEqU K) (tVar 5) ((tC (.str "x")))))) ((tAsg ((tAndV ((tOp (rEqU K) ((tOp rModU ((tCB rIntU (tCons (tVar 0) tNil))) ((tC (.int 2))))) ((tC (.int 0))))) ((tOp (rNeU K) (tVar 3) ((tC (.str "."))))))) (gName 8))) (tNext))
                (tSeq (tIfS ((tTest (tOp (rEqU K) (tVar 5) ((tC (.str ".")))))) ((tAsg ((tOp rGtU (tVar 6) ((tC (.int 0))))) (gName 8))) (tNext))
                (tSeq (tIfS ((tTest (tOp (rEqU K) (tVar 5) ((tC (.str "&")))))) ((tAsg ((tOp (rEqU K) (tVar 3) ((tC (.str ⟨#[44]⟩))))) (gName 8))) (tNext))
                (tSeq (tIfS ((tTest (tOp (rEqU K) (tVar 5) ((tC (.str ⟨#[44]⟩)))))) (tSeq (tAsg ((tOp (rAddU K) (tVar 2) ((tC (.int 1))))) (gName 2))
                ((tAsg ((tAndV ((tOp (rEqU K) (tVar 2) ((tC (.int 1))))) ((tOrV ((tOp rGtU (tVar 6) ((tC (.int 0))))) ((tOp (rEqU K) (tVar 3) ((tC (.str "x"))))))))) (gName 8)))) (tNext))
                (tSeq (tIfS ((tNot ((tTru K (tVar 8))))) ((tRet ((tOp (rAddU K) (tVar 4) ((tC (.int 1))))))) (tNext))
                ((tAsg (tVar 5) (gName 3))))))) { nx := fun σ' H' => ∃ (b m : Nat) (z4 z5 z6 z7 z8 : Option V), σ' = [some (.int (n : Int)), some (.str (S l)), some (.int (m : Int)), some (.str ⟨#[b]⟩), z4, z5, z6, z7, z8] ∧ Same H H' ∧ colN n b m (i + 1) (l.drop (i + 1)) = colN n 44 0 0 l, rt := Q } [some (.int (n : Int)), some (.str (S l)), some (.int (m : Int)), some (.str ⟨#[b]⟩), some (.int (i : Int)), some (.str ⟨#[c]⟩), some (.int (plC n b)), some (.int (plC n c)), some (.bl x)] H' := fun x hx => by
              rw [← hx] at bad good
              walk_at "rd"
              refine r_iteM n1 ?_
              walk_at "rd"
              refine r_iteM n2 ?_
              walk_at "rd"
              refine r_iteM n3 ?_
              walk_at "rd"
              refine r_iteM n4 ?_
              walk_at "rd"
              cases x with
              | true =>
                walk_at "rd"
                exact ⟨c, m, _, _, _, _, _, rfl, st, good rfl⟩
              | false =>
                walk_at "rd"
                exact bad rfl
            refine r_ite (fun g1 => ?_) (fun g1 => ?_)
            · walk_at "rd"
              refine r_ite (fun g2 => ?_) (fun g2 => ?_)
              · refine r_name ?_
                exact tl true (by simp [g1, g2])
              · walk_at "rd"
                refine r_ite (fun g3 => ?_) (fun g3 => ?_)
                · refine r_op ?_
                  refine r_op ?_
                  refine r_CB ?_
                  refine r_cons ?_
                  refine r_op ?_
                  refine r_var rfl ?_
                  refine r_var rfl ?_
                  refine r_subI ?_
                  refine r_nil ?_
                  refine r_int ?_
                  refine r_c ?_
                  refine r_mod (by decide) ?_
                  refine r_c ?_
                  refine r_eqI ?_
                  refine r_name ?_
                  exact tl (decide ((plC n c - plC n b) % 2 = 1)) (by simp [g1, g2, g3])
                · refine r_name ?_
                  exact tl false (by simp [g2, g3])
            · refine r_name ?_
              exact tl false (by simp [g1])
  · obtain ⟨b, m, z4, z5, z6, z7, z8, rfl, st, hc⟩ := hW
    rw [List.drop_length] at hc
    have hc : (if b = 120 ∨ 0 < plC n b then 0 else l.length + 1) = colN n 44 0 0 l := hc
    have hq := q H' st
    rw [← hc] at hq
    walk_at "rd"
    by_cases hx : b = 120
    · refine r_iteP (by rw [hx]; decide) ?_
      refine r_T ?_
      walk_at "rd"
      rw [if_pos (.inl hx)] at hq
      exact hq
    · refine r_iteM (fun z => hx (one_eq.mp (z.trans s_x))) ?_
      walk_at "rd"
      refine ⟨n, b, rfl, ?_⟩
      walk_at "rd"
      refine r_ite (fun hp => ?_) (fun hp => ?_)
      · walk_at "rd"
        rw [if_pos (.inr hp)] at hq
        exact hq
      · rw [if_neg (fun z => z.elim hx hp)] at hq
        walk_at "rd"
        refine r_lenSS (by omega) ?_
        walk_at "rd"
        rw [show (((l.length + 1 : Nat) : Int)) = (l.length : Int) + 1 by omega] at hq
        exact hq
end
end K11
end Kb
set_option Elab.async false
set_option linter.all false
set_option Elab.async false
set_option linter.all false
set_option maxRecDepth 100000
set_option maxHeartbeats 4000000
namespace Kb
namespace K11
open PySem PySem.Spec PyProof.Rows L2 SX
open K8 (TL)
local macro_rules | `(tactic| walk_at "tk") => `(tactic| first
  | assumption
  | ((with_reducible refine' sqT_of ?k); (case k => assumption))
  | ((with_reducible refine' sqT_ofD ?k); (case k => assumption))
  | ((with_reducible refine' noD_of ?k); (case k => assumption))
  | ((with_reducible refine' noD_same ?s ?k); (case s => assumption); (case k => walk_at "tk"))
  | ((with_reducible refine' sqL_of ?k); (case k => assumption))
  | ((with_reducible refine' sqT_same ?s ?k); (case s => assumption); (case k => walk_at "tk"))
  | ((with_reducible refine' sqL_same ?s ?k); (case s => assumption); (case k => walk_at "tk"))
  | ((with_reducible refine' sqT_but ?s ?t ?k); (case s => assumption); (case t => walk_at "tk"); (case k => walk_at "tk"))
  | ((with_reducible refine' sqL_but ?s ?t ?k); (case s => assumption); (case t => walk_at "ne"); (case k => walk_at "tk"))
  | ((with_reducible refine' sqL_of ?k); (case k => walk_at "tk"))
  | ((with_reducible refine' sqT_of ?k); (case k => walk_at "tk"))
  | ((with_reducible refine' at_same ?s ?k); (case s => assumption); (case k => walk_at "tk"))
  | ((with_reducible refine' at_but ?s ?t ?k); (case s => assumption); (case t => walk_at "ne"); (case k => walk_at "tk")))
local macro_rules | `(tactic| walk_at "ne") => `(tactic| first
  | assumption
  | (refine Ne.symm ?_; assumption)
  | exact ne_of_none (by assumption) (by assumption)
  | exact (ne_of_none (by assumption) (by assumption)).symm)
local macro_rules | `(tactic| walk_at "side") => `(tactic| first
  | assumption
  | omega
  | (simp only [sizeLine_eq, List.length_cons, List.length_nil, List.length_map]; omega)
  | (show _ ≤ sizeLine; decide))
local macro_rules | `(tactic| walk_at "kit") => `(tactic| first
  | (show kitB _ _ = some true; decide +kernel)
  | (show kitB _ _ = some false; decide +kernel))
local macro_rules | `(tactic| walk_at "rng") => `(tactic| first
  | (refine ⟨by omega, by omega, by omega, by omega⟩)
  | (refine ⟨by omega, by omega⟩)
  | ((simp only [List.length_map]); (refine ⟨by omega, by omega, by omega, by omega⟩))
  | ((simp only [List.length_map]); (refine ⟨by omega, by omega⟩)))
local macro_rules | `(tactic| walk_at "rd1") => `(tactic| first
  | with_reducible refine r_seq ?_
  | ((with_reducible refine' r_var ?k0 ?_); (case k0 => rfl))
  | with_reducible refine r_op ?_
  | with_reducible refine r_c ?_
  | with_reducible refine r_asg ?_
  | with_reducible refine r_name ?_
  | with_reducible refine r_cons ?_
  | with_reducible refine r_nil ?_
  | with_reducible refine r_CB ?_
  | with_reducible refine r_if ?_
  | with_reducible refine r_test ?_
  | with_reducible refine r_k ?_
  | with_reducible refine r_T ?_
  | with_reducible refine r_F ?_
  | with_reducible refine r_nT ?_
  | with_reducible refine r_nF ?_
  | with_reducible refine r_ret ?_
  | with_reducible refine r_drop ?_
  | with_reducible refine r_next ?_
  | with_reducible refine r_call ?_
  | with_reducible refine r_addI ?_
  | with_reducible refine r_subI ?_
  | with_reducible refine r_ltI ?_
  | with_reducible refine r_gtI ?_
  | with_reducible refine r_leI ?_
  | with_reducible refine r_geI ?_
  | with_reducible refine r_eqI ?_
  | with_reducible refine r_neI ?_
  | with_reducible refine r_int ?_
  | with_reducible refine r_abs ?_
  | with_reducible refine r_not ?_
  | with_reducible refine r_and ?_
  | with_reducible refine r_or ?_
  | with_reducible refine r_tru ?_
  | with_reducible refine r_truB ?_
  | with_reducible refine r_lst ?_
  | with_reducible refine r_tup ?_
  | with_reducible refine r_BM ?_
  | with_reducible refine r_BM0 ?_
  | with_reducible refine r_tyS ?_
  | with_reducible refine r_gsub ?_
  | with_reducible refine r_then ?_
  | with_reducible refine r_lstRg ?_
  | with_reducible refine r_tupRg ?_
  | with_reducible refine r_rg2 ?_
  | with_reducible refine r_rg1 ?_
  | with_reducible refine r_ii ?_
  | with_reducible refine r_i ?_
  | with_reducible refine r_ipI ?_
  | with_reducible refine r_un ?_
  | with_reducible refine r_neg ?_
  | with_reducible refine r_isN ?_
  | with_reducible refine r_notN ?_
  | with_reducible refine r_notV ?_
  | with_reducible refine r_pnot ?_
  | with_reducible refine r_pif ?_
  | with_reducible refine r_andV ?_
  | with_reducible refine r_orV ?_
  | with_reducible refine r_ifE ?_
  | with_reducible refine r_chain ?_
  | with_reducible refine r_sl ?_
  | with_reducible refine r_noPart ?_
  | with_reducible refine r_part ?_
  | with_reducible refine r_brk ?_
  | with_reducible refine r_cont ?_
  | with_reducible refine r_retN ?_
  | with_reducible refine r_truI ?_
  | with_reducible refine r_B ?_
  | with_reducible refine r_for ?_
  | with_reducible refine r_rng1 ?_
  | with_reducible refine r_rng2 ?_
  | with_reducible refine r_rng3 ?_
  | with_reducible refine r_body ?_
  | with_reducible refine r_lc ?_
  | with_reducible refine r_yes ?_
  | ((with_reducible refine' r_mod ?k0 ?_); (case k0 => walk_at "side"))
  | ((with_reducible refine' r_mulI ?k0 ?_); (case k0 => first | exact Or.inl ⟨by omega, by omega⟩ | exact Or.inr ⟨by omega, by omega⟩))
  | ((with_reducible refine' r_lenL ?k0 ?_); (case k0 => walk_at "tk"))
  | ((with_reducible refine' r_lenT ?k0 ?_); (case k0 => walk_at "tk"))
  | ((with_reducible refine' r_truL ?k0 ?_); (case k0 => walk_at "tk"))
  | ((with_reducible refine' r_truT ?k0 ?_); (case k0 => walk_at "tk"))
  | ((with_reducible refine' r_ixL ?k0 ?k1 ?_); (case k0 => walk_at "tk"); (case k1 => first | assumption | rfl))
  | ((with_reducible refine' r_ixT ?k0 ?k1 ?_); (case k0 => walk_at "tk"); (case k1 => first | assumption | rfl))
  | ((with_reducible refine' r_new ?k0 ?_); (case k0 => walk_at "side"))
  | ((with_reducible refine' r_tyL ?k0 ?_); (case k0 => walk_at "tk"))
  | ((with_reducible refine' r_append ?k0 ?k1 ?_); (case k0 => walk_at "tk"); (case k1 => walk_at "side"))
  | ((with_reducible refine' r_setL ?k0 ?k1 ?_); (case k0 => walk_at "tk"); (case k1 => first | assumption | rfl))
  | ((with_reducible refine' r_kTupL ?k0 ?_); (case k0 => walk_at "tk"))
  | ((with_reducible refine' r_kTupT ?k0 ?_); (case k0 => walk_at "tk"))
  | ((with_reducible refine' r_listL ?k0 ?_); (case k0 => walk_at "tk"))
  | ((with_reducible refine' r_listT ?k0 ?_); (case k0 => walk_at "tk"))
  | ((with_reducible refine' r_aug ?k0 ?_); (case k0 => rfl))
  | ((with_reducible refine' r_lenS ?k0 ?_); (case k0 => walk_at "side"))
  | ((with_reducible refine' r_pop ?k0 ?_); (case k0 => walk_at "tk"))
  | ((with_reducible refine' r_pr1 ?k0 ?_); (case k0 => walk_at "rng"))
  | ((with_reducible refine' r_pr2 ?k0 ?_); (case k0 => walk_at "rng"))
  | ((with_reducible refine' r_pr3d ?k0 ?_); (case k0 => walk_at "rng"))
  | ((with_reducible refine' r_isiI ?k0 ?_); (case k0 => walk_at "kit"))
  | ((with_reducible refine' r_isiB ?k0 ?_); (case k0 => walk_at "kit"))
  | ((with_reducible refine' r_isiS ?k0 ?_); (case k0 => walk_at "kit"))
  | ((with_reducible refine' r_isiN ?k0 ?_); (case k0 => walk_at "kit"))
  | ((with_reducible refine' r_isiT ?k0 ?k1 ?_); (case k0 => walk_at "tk"); (case k1 => walk_at "kit"))
  | ((with_reducible refine r_seqT ?_); (repeat (walk_at "rd1")); ((with_reducible refine' r_pseqT ?k0 ?_); (case k0 => walk_at "tk")))
  | ((with_reducible refine r_seqL ?_); (repeat (walk_at "rd1")); ((with_reducible refine' r_pseqL ?k0 ?_); (case k0 => walk_at "tk")))
  | ((with_reducible refine r_seqS ?_); (repeat (walk_at "rd1")); (with_reducible refine r_pseqS ?_)))
local macro_rules | `(tactic| walk_at "rd") => `(tactic| ((repeat (walk_at "rd1")); (try dsimp only)))
local macro_rules | `(tactic| walk_at "rd1") => `(tactic| first
  | with_reducible refine r_BMT ?_
  | with_reducible refine r_par ?_
  | with_reducible refine r_parV ?_
  | ((with_reducible refine' r_ptp ?k0 ?k1 ?_); (case k0 => walk_at "tk"); (case k1 => walk_at "tk"))
  | with_reducible refine r_eqS ?_
  | with_reducible refine r_neS ?_
  | with_reducible refine r_callW ?_
  | with_reducible refine r_try ?_
  | with_reducible refine r_enT ?_
  | ((with_reducible refine' r_pen ?k0 ?_); (case k0 => walk_at "tk")))
local macro_rules | `(tactic| walk_at "pl0") => `(tactic| first
  | assumption
  | exact pl_same (by assumption) (by assumption)
  | exact pl_same (by assumption) (pl_same (by assumption) (by assumption))
  | exact pl_same (by assumption) (pl_same (by assumption) (pl_same (by assumption) (by assumption))))
local macro_rules | `(tactic| walk_at "pl") => `(tactic| first
  | walk_at "pl0"
  | ((with_reducible refine' pl_butL ?s ?n ?k); (case s => assumption); (case n => walk_at "ne"); (case k => walk_at "pl"))
  | ((with_reducible refine' pl_same ?s ?k); (case s => assumption); (case k => walk_at "pl")))
local macro_rules | `(tactic| walk_at "ne") => `(tactic| first
  | exact ne_pl (by assumption) (by walk_at "pl0")
  | exact (ne_pl (by assumption) (by walk_at "pl0")).symm)
local macro_rules | `(tactic| walk_at "fr") => `(tactic| first
  | assumption
  | ((with_reducible refine' free_but ?b ?n ?h); (case h => assumption); (case n => walk_at "ne"); (case b => walk_at "but"))
  | ((with_reducible refine' Same.free ?b ?h); (case h => assumption); (case b => walk_at "same")))
local macro_rules | `(tactic| walk_at "but") => `(tactic| first
  | assumption
  | exact But.refl
  | ((with_reducible refine' But.trans ?a ?b); (case b => assumption); (case a => walk_at "but"))
  | ((with_reducible refine' But.trans ?a (Same.but ?b)); (case b => assumption); (case a => walk_at "but"))
  | ((with_reducible refine' but_via ?a ?b ?c); (case b => assumption); (case c => walk_at "fr"); (case a => walk_at "but")))
local macro_rules | `(tactic| walk_at "same") => `(tactic| first
  | assumption
  | exact Same.refl _
  | ((with_reducible refine' Same.trans ?a ?b); (case b => assumption); (case a => walk_at "same"))
  | ((with_reducible refine' same_but ?a ?b ?c); (case b => assumption); (case c => walk_at "fr"); (case a => walk_at "same")))
local macro_rules | `(tactic| walk_at "tk") => `(tactic| first
  | ((with_reducible refine' sqT_pl ?s ?t ?k); (case s => assumption); (case t => walk_at "pl0"); (case k => walk_at "tk"))
  | ((with_reducible refine' rp_same ?s ?k); (case s => assumption); (case k => walk_at "tk"))
  | ((with_reducible refine' rp_pl ?s ?t ?k); (case s => assumption); (case t => walk_at "pl0"); (case k => walk_at "tk")))
local macro_rules | `(tactic| walk_at "it") => `(tactic| first
  | assumption
  | ((with_reducible refine' sqI_1 ?k); (case k => assumption))
  | ((with_reducible refine' sqI_0 ?k); (case k => assumption))
  | ((with_reducible refine' sqI_of ?k); (case k => assumption))
  | ((with_reducible refine' sqI_D ?k); (case k => assumption))
  | ((with_reducible refine' sqT_same ?s ?k); (case s => assumption); (case k => walk_at "it"))
  | ((with_reducible refine' sqT_but ?s ?t ?k); (case s => assumption); (case t => assumption); (case k => walk_at "it"))
  | ((with_reducible refine' sqT_pl ?s ?t ?k); (case s => assumption); (case t => walk_at "pl0"); (case k => walk_at "it")))
local macro_rules | `(tactic| walk_at "sz") => `(tactic| first | omega | ((try simp only [List.length_cons, List.length_nil] at *); omega))
local macro_rules | `(tactic| walk_at "au1") => `(tactic| first
  | walk_at "rd1"
  | ((with_reducible refine' r_draw ?k0 ?k1 ?k2 ?_); (case k0 => walk_at "pl"); (case k1 => omega); (case k2 => omega); (intro _ _ _ _ _ _))
  | ((with_reducible refine' r_slN ?k0 ?_); (case k0 => walk_at "it"); (intro _ _ _ _ _ _))
  | ((with_reducible refine' r_catN ?k0 ?k1 ?k2 ?_); (case k0 => walk_at "it"); (case k1 => walk_at "it"); (case k2 => walk_at "sz"); (intro _ _ _ _ _ _))
  | ((with_reducible refine' r_pow ?k0 ?_); (case k0 => exact ⟨by decide, by decide, by decide⟩))
  | ((with_reducible refine' r_ixI ?k0 ?k1 ?k2 ?_); (case k0 => walk_at "it"); (case k1 => omega); (case k2 => omega); (intro _ _))
  | ((with_reducible refine' r_setI ?k0 ?k1 ?k2 ?_); (case k0 => walk_at "tk"); (case k1 => omega); (case k2 => omega); (intro _ _ _ _ _))
  | ((with_reducible refine' r_kTupI ?k0 ?_); (case k0 => walk_at "tk"); (intro _ _ _ _ _))
  | ((with_reducible refine' r_listI ?k0 ?_); (case k0 => walk_at "it"); (intro _ _ _ _ _))
  | (with_reducible refine r_revU ?_)
  | ((with_reducible refine' r_prevN ?k0 ?_); (case k0 => walk_at "it"); (intro _ _ _ _ _ _))
  | (intro _ _ _ _ _))
local macro_rules | `(tactic| walk_at "go") => `(tactic| ((repeat (walk_at "au1")); (first
  | ((with_reducible refine r_ite (fun _ => ?_) (fun _ => ?_)) <;> (walk_at "go"))
  | ((with_reducible refine r_iteN (fun _ => ?_) (fun _ => ?_)) <;> (walk_at "go"))
  | dsimp only
  | skip)))
local macro_rules | `(tactic| walk_at "au1") => `(tactic| first
  | with_reducible refine r_revS ?_
  | ((with_reducible refine' r_prevSN ?k0 ?_); (case k0 => walk_at "sz"); (intro _ _))
  | ((with_reducible refine' r_slSN ?k0 ?_); (case k0 => walk_at "sz"); (intro _ _))
  | ((with_reducible refine' r_catSN ?k0 ?_); (case k0 => walk_at "sz"); (intro _ _))
  | ((with_reducible refine' r_lenSS ?k0 ?_); (case k0 => walk_at "sz")))
def sp_law_change_text (K : PySem.W.Frag) : Sp := fun vs H Q _ => ∃ (p : Addr) (n : Nat), vs = [.ref p, .int (n : Int)] ∧ Pl H p ∧ 1 ≤ n ∧ n ≤ 12 ∧ ∀ l H', But p H H' → Pl H' p → l.length ≤ 12 → Q (.str (S l)) H'
def sp_law_block_text (K : PySem.W.Frag) : Sp := fun vs H Q _ => ∃ (p : Addr) (n : Nat) (m : Int), vs = [.ref p, .int (n : Int), .int m] ∧ Pl H p ∧ 1 ≤ n ∧ n ≤ 12 ∧ 0 ≤ m ∧ m ≤ 1000 ∧ ∀ l H', But p H H' → Pl H' p → (l.length : Int) ≤ 1 + 13 * m → Q (.str (S l)) H'
def sp_law_notation (K : PySem.W.Frag) : Sp := fun vs H Q _ => ∃ (p : Addr) (n : Nat), vs = [.ref p, .int (n : Int)] ∧ Pl H p ∧ 1 ≤ n ∧ n ≤ 12 ∧ ∀ l H', But p H H' → Pl H' p → l.length ≤ 5000 → Q (.str (S l)) H'
def sp_law_sign (K : PySem.W.Frag) : Sp := fun vs H Q _ => ∃ (p : Addr), vs = [.ref p] ∧ Pl H p ∧ ∀ c H', But p H H' → Pl H' p → Q (.str (S [c])) H'
def sp_law_bent_text (K : PySem.W.Frag) : Sp := fun vs H Q _ => ∃ (p : Addr) (l : List Nat), vs = [.ref p, .str (S l)] ∧ Pl H p ∧ l.length ≤ 10000 ∧ ∀ m H', But p H H' → Pl H' p → m.length ≤ 50000 → Q (.str (S m)) H'
def sp_law_text (K : PySem.W.Frag) : Sp := fun vs H Q _ => ∃ (p : Addr) (l : List Nat), vs = [.ref p, .str (S l)] ∧ Pl H p ∧ l.length ≤ 5000 ∧ ∀ m H', But p H H' → Pl H' p → m.length ≤ 5001 → Q (.str (S m)) H'
abbrev N_law_change_text : List Str := ["pool", "stage", "places", "place"]
def t_law_change_text (K : PySem.W.Frag) : TS :=
  tSeq (tAsg ((tCall (sp_law_change_draw K) [] E0 (tCons (tVar 0) (tCons (tVar 1) tNil)))) (gName 2))
  (tSeq (tIfS ((tTest (tOp (rEqU K) ((tCB (rLenU K) (tCons (tVar 2) tNil))) ((tC (.int 0)))))) ((tRet ((tC (.str "x"))))) (tNext))
  (tSeq (tIfS ((tAnd ((tTest (tOp rGtU ((tCB (rLenU K) (tCons (tVar 2) tNil))) ((tC (.int 1)))))) ((tAnd ((tTest (tOp (rEqU K) ((tOp (rIx K) (tVar 2) ((tC (.int 0))))) ((tC (.int 1)))))) ((tTest (tOp (rEqU K) ((tCall (sp_law_draw K) [] E0 (tCons (tVar 0) (tCons ((tC (.int 2))) tNil)))) ((tC (.int 0)))))))))) ((tAsg ((tSl (rSlU K) (tVar 2) (tPart ((tC (.int 1)))) tNoPart)) (gName 2))) (tNext))
  (tSeq (tIfS ((tAnd ((tTest (tOp rGtU ((tCB (rLenU K) (tCons (tVar 2) tNil))) ((tC (.int 1)))))) ((tAnd ((tTest (tOp (rEqU K) ((tOp (rIx K) (tVar 2) ((tUn (rU fun i => .int (-i)) ((tC (.int 1))))))) (tVar 1)))) ((tTest (tOp (rEqU K) ((tCall (sp_law_draw K) [] E0 (tCons (tVar 0) (tCons ((tC (.int 2))) tNil)))) ((tC (.int 0)))))))))) ((tAsg ((tSl (rSlU K) (tVar 2) tNoPart (tPart ((tOp rSubU ((tCB (rLenU K) (tCons (tVar 2) tNil))) ((tC (.int 1)))))))) (gName 2))) (tNext))
  ((tRet ((tBM K "str" (rJoin K) ((tC (.str ""))) (tCons ((tLc ((iSeqU K (tVar 2))) ((gName 3)) (tYes) ((tOp (rIx K) ((tC (.str "1234567890ET"))) ((tOp rSubU (tVar 3) ((tC (.int 1))))))) [3])) tNil))))))))
abbrev N_law_block_text : List Str := ["pool", "stage", "many", "text", "before", "k", "piece"]
def t_law_block_text (K : PySem.W.Frag) : TS :=
  tSeq (tAsg ((tOp (rIx K) ((tLst (tCons ((tC (.str ""))) (tCons ((tC (.str "&"))) tNil)))) ((tCall (sp_law_draw K) [] E0 (tCons (tVar 0) (tCons ((tC (.int 2))) tNil)))))) (gName 3))
  (tSeq (tAsg ((tC (.str "x"))) (gName 4))
  (tSeq (tFor (iRng1 (tCons (tVar 2) tNil)) (gName 5) (tSeq (tAsg ((tCall (sp_law_change_text K) [] E0 (tCons (tVar 0) (tCons (tVar 1) tNil)))) (gName 6))
  (tSeq (tIfS ((tAnd ((tTest (tOp (rNeU K) (tVar 4) ((tC (.str "x")))))) ((tTest (tOp (rNeU K) (tVar 6) ((tC (.str "x")))))))) ((tAsg ((tOp (rAddU K) (tVar 3) ((tC (.str "."))))) (gName 3))) (tNext))
  (tSeq (tAsg ((tOp (rAddU K) (tVar 3) (tVar 6))) (gName 3))
  ((tAsg (tVar 6) (gName 4)))))))
  ((tRet (tVar 3)))))
abbrev N_law_notation : List Str := ["pool", "stage", "many", "text"]
def t_law_notation (K : PySem.W.Frag) : TS :=
  tSeq (tAsg ((tOp (rAddU K) ((tC (.int 1))) ((tCall (sp_law_draw K) [] E0 (tCons (tVar 0) (tCons ((tC (.int 6))) tNil)))))) (gName 2))
  (tSeq (tIfS ((tTest (tOp (rEqU K) ((tCall (sp_law_draw K) [] E0 (tCons (tVar 0) (tCons ((tC (.int 24))) tNil)))) ((tC (.int 0)))))) ((tAsg ((tOp (rAddU K) ((tC (.int 1))) ((tCall (sp_law_draw K) [] E0 (tCons (tVar 0) (tCons ((tC (.int 370))) tNil)))))) (gName 2))) (tNext))
  (tSeq (tAsg ((tCall (sp_law_block_text K) [] E0 (tCons (tVar 0) (tCons (tVar 1) (tCons (tVar 2) tNil))))) (gName 3))
  (tSeq (tIfS ((tTest (tOp (rEqU K) ((tCall (sp_law_draw K) [] E0 (tCons (tVar 0) (tCons ((tC (.int 2))) tNil)))) ((tC (.int 0)))))) ((tAsg ((tOp (rAddU K) ((tOp (rAddU K) (tVar 3) ((tC (.str ","))))) ((tCall (sp_law_block_text K) [] E0 (tCons (tVar 0) (tCons (tVar 1) (tCons ((tOp (rAddU K) ((tC (.int 1))) ((tCall (sp_law_draw K) [] E0 (tCons (tVar 0) (tCons ((tC (.int 6))) tNil)))))) tNil))))))) (gName 3))) (tNext))
  ((tRet (tVar 3))))))
abbrev N_law_sign : List Str := ["pool", "signs"]
def t_law_sign (K : PySem.W.Frag) : TS :=
  tSeq (tIfS ((tTest (tOp rGtU ((tCall (sp_law_draw K) [] E0 (tCons (tVar 0) (tCons ((tC (.int 3))) tNil)))) ((tC (.int 0)))))) ((tRet ((tOp (rIx K) ((tC (.str "x.&,1234567890ET"))) ((tCall (sp_law_draw K) [] E0 (tCons (tVar 0) (tCons ((tC (.int 16))) tNil)))))))) (tNext))
  (tSeq (tAsg ((tC (.str " !\"#$&'()*+,-./0123456789:;<=>?@ABCDEFGHIJKLMNOPQRSTUVWXYZ[\\]^_`"))) (gName 1))
  (tSeq (tAsg ((tOp (rAddU K) (tVar 1) ((tC (.str "abcdefghijklmnopqrstuvwxyz{|}~"))))) (gName 1))
  ((tRet ((tOp (rIx K) (tVar 1) ((tCall (sp_law_draw K) [] E0 (tCons (tVar 0) (tCons ((tC (.int 94))) tNil))))))))))
abbrev N_law_bent_text : List Str := ["pool", "text", "at", "to", "sign", "way"]
def t_law_bent_text (K : PySem.W.Frag) : TS :=
  tSeq (tAsg ((tCall (sp_law_draw K) [] E0 (tCons (tVar 0) (tCons ((tOp (rAddU K) ((tCB (rLenU K) (tCons (tVar 1) tNil))) ((tC (.int 1))))) tNil)))) (gName 2))
  (tSeq (tAsg ((tCall (sp_law_draw K) [] E0 (tCons (tVar 0) (tCons ((tOp (rAddU K) ((tCB (rLenU K) (tCons (tVar 1) tNil))) ((tC (.int 1))))) tNil)))) (gName 3))
  (tSeq (tAsg ((tCall (sp_law_sign K) [] E0 (tCons (tVar 0) tNil))) (gName 4))
  (tSeq (tAsg ((tCall (sp_law_draw K) [] E0 (tCons (tVar 0) (tCons ((tC (.int 10))) tNil)))) (gName 5))
  (tSeq (tIfS ((tTest (tOp (rEqU K) (tVar 5) ((tC (.int 0)))))) ((tRet ((tOp (rAddU K) ((tSl (rSlU K) (tVar 1) tNoPart (tPart (tVar 2)))) ((tSl (rSlU K) (tVar 1) (tPart ((tOp (rAddU K) (tVar 2) ((tC (.int 1)))))) tNoPart)))))) (tNext))
  (tSeq (tIfS ((tTest (tOp (rEqU K) (tVar 5) ((tC (.int 1)))))) ((tRet ((tOp (rAddU K) ((tOp (rAddU K) ((tSl (rSlU K) (tVar 1) tNoPart (tPart (tVar 2)))) (tVar 4))) ((tSl (rSlU K) (tVar 1) (tPart (tVar 2)) tNoPart)))))) (tNext))
  (tSeq (tIfS ((tTest (tOp (rEqU K) (tVar 5) ((tC (.int 2)))))) ((tRet ((tOp (rAddU K) ((tOp (rAddU K) ((tSl (rSlU K) (tVar 1) tNoPart (tPart (tVar 2)))) (tVar 4))) ((tSl (rSlU K) (tVar 1) (tPart ((tOp (rAddU K) (tVar 2) ((tC (.int 1)))))) tNoPart)))))) (tNext))
  (tSeq (tIfS ((tTest (tOp (rEqU K) (tVar 5) ((tC (.int 3)))))) ((tRet ((tOp (rAddU K) (tVar 1) (tVar 4))))) (tNext))
  (tSeq (tIfS ((tTest (tOp (rEqU K) (tVar 5) ((tC (.int 4)))))) ((tRet ((tOp (rAddU K) (tVar 4) (tVar 1))))) (tNext))
  (tSeq (tIfS ((tTest (tOp (rEqU K) (tVar 5) ((tC (.int 5)))))) ((tRet ((tOp (rAddU K) ((tSl (rSlU K) (tVar 1) tNoPart (tPart (tVar 2)))) ((tSl (rSlU K) (tVar 1) (tPart (tVar 3)) tNoPart)))))) (tNext))
  (tSeq (tIfS ((tTest (tOp (rEqU K) (tVar 5) ((tC (.int 6)))))) ((tRet ((tOp (rAddU K) ((tOp (rAddU K) ((tOp (rAddU K) ((tSl (rSlU K) (tVar 1) tNoPart (tPart (tVar 2)))) ((tSl (rSlU K) (tVar 1) (tPart ((tOp (rAddU K) (tVar 2) ((tC (.int 1)))))) (tPart ((tOp (rAddU K) (tVar 2) ((tC (.int 2)))))))))) ((tSl (rSlU K) (tVar 1) (tPart (tVar 2)) (tPart ((tOp (rAddU K) (tVar 2) ((tC (.int 1)))))))))) ((tSl (rSlU K) (tVar 1) (tPart ((tOp (rAddU K) (tVar 2) ((tC (.int 2)))))) tNoPart)))))) (tNext))
  ((tRet (tVar 1)))))))))))))
abbrev N_law_text : List Str := ["pool", "good", "text", "size", "k"]
def t_law_text (K : PySem.W.Frag) : TS :=
  tSeq (tAsg (tVar 1) (gName 2))
  (tSeq (tIfS ((tTest (tOp (rEqU K) ((tCall (sp_law_draw K) [] E0 (tCons (tVar 0) (tCons ((tC (.int 4))) tNil)))) ((tC (.int 0)))))) (tSeq (tAsg ((tCall (sp_law_draw K) [] E0 (tCons (tVar 0) (tCons ((tC (.int 15))) tNil)))) (gName 3))
  (tSeq (tIfS ((tTest (tOp (rEqU K) ((tCall (sp_law_draw K) [] E0 (tCons (tVar 0) (tCons ((tC (.int 12))) tNil)))) ((tC (.int 0)))))) ((tAsg ((tCall (sp_law_draw K) [] E0 (tCons (tVar 0) (tCons ((tC (.int 5001))) tNil)))) (gName 3))) (tNext))
  ((tAsg ((tBM K "str" (rJoin K) ((tC (.str ""))) (tCons ((tLc ((iRng1 (tCons (tVar 3) tNil))) ((gName 4)) (tYes) ((tCall (sp_law_sign K) [] E0 (tCons (tVar 0) tNil))) [4])) tNil))) (gName 2))))) (tNext))
  (tSeq (tFor (iRng1 (tCons ((tCall (sp_law_draw K) [] E0 (tCons (tVar 0) (tCons ((tC (.int 3))) tNil)))) tNil)) (gName 4) ((tAsg ((tSl (rSlU K) ((tCall (sp_law_bent_text K) [] E0 (tCons (tVar 0) (tCons (tVar 2) tNil)))) tNoPart (tPart ((tC (.int 5000)))))) (gName 2))))
  ((tRet (tVar 2)))))
section
variable {K : PySem.W.Frag} {ec : Str → Addr} {vs : List V} {H : Hp} {Q : VK} {E : XK}
theorem len_law_change_text (h : sp_law_change_text K vs H Q E) : vs.length = 2 := by obtain ⟨s, d, rfl, _⟩ := h; rfl
theorem len_law_block_text (h : sp_law_block_text K vs H Q E) : vs.length = 3 := by obtain ⟨s, d, m, rfl, _⟩ := h; rfl
theorem len_law_notation (h : sp_law_notation K vs H Q E) : vs.length = 2 := by obtain ⟨s, d, rfl, _⟩ := h; rfl
theorem len_law_sign (h : sp_law_sign K vs H Q E) : vs.length = 1 := by obtain ⟨s, rfl, _⟩ := h; rfl
theorem len_law_bent_text (h : sp_law_bent_text K vs H Q E) : vs.length = 2 := by obtain ⟨s, d, rfl, _⟩ := h; rfl
theorem len_law_text (h : sp_law_text K vs H Q E) : vs.length = 2 := by obtain ⟨s, d, rfl, _⟩ := h; rfl
theorem pure_law_sign (h : sp_law_sign K vs H Q E) : t_law_sign K (En Q) (start N_law_sign vs) H := by
  obtain ⟨p, rfl, hp, q⟩ := h
  unfold t_law_sign
  walk_at "rd"
  refine r_draw hp (by omega) (by omega) fun v H1 v0 v1 b1 p1 => ?_
  walk_at "rd"
  refine r_ite (fun h0 => ?_) (fun h0 => ?_)
  · walk_at "rd"
    refine r_draw p1 (by omega) (by omega) fun u H2 u0 u1 b2 p2 => ?_
    refine r_ixC (k := 16) (by decide) (by decide) u0 u1 fun c => ?_
    exact q c H2 (b1.trans b2) p2
  · walk_at "rd"
    refine r_addS (by rw [sizeLine_eq]; decide) ?_
    walk_at "rd"
    refine r_draw p1 (by omega) (by omega) fun u H2 u0 u1 b2 p2 => ?_
    refine r_ixC (k := 94) (by decide) (by decide) u0 u1 fun c => ?_
    exact q c H2 (b1.trans b2) p2
theorem pure_law_bent_text (h : sp_law_bent_text K vs H Q E) : t_law_bent_text K (En Q) (start N_law_bent_text vs) H := by
  obtain ⟨p, l, rfl, hp, hl, q⟩ := h
  unfold t_law_bent_text
  walk_at "rd"
  refine r_lenSS (by omega) ?_
  walk_at "rd"
  refine r_draw hp (by omega) (by omega) fun v1 H1 a0 a1 b1 p1 => ?_
  walk_at "rd"
  refine r_lenSS (by omega) ?_
  walk_at "rd"
  refine r_draw p1 (by omega) (by omega) fun v2 H2 c0 c1 b2 p2 => ?_
  walk_at "rd"
  refine ⟨p, rfl, p2, fun c H3 b3 p3 => ?_⟩
  refine r_name ?_
  walk_at "go"
  all_goals exact q _ _ (by walk_at "but") (by walk_at "pl") (by walk_at "sz")
theorem pure_law_change_text (h : sp_law_change_text K vs H Q E) : t_law_change_text K (En Q) (start N_law_change_text vs) H := by
  obtain ⟨p, n, rfl, hp, h1, h2, q⟩ := h
  unfold t_law_change_text
  walk_at "rd"
  refine ⟨p, n, rfl, hp, h1, h2, fun a H1 cs na b1 p1 ea hc => ?_⟩
  have clen := hc.len (by omega)
  have hm : ∀ x ∈ cs, 1 ≤ x ∧ x ≤ 12 := fun x hx => by have := hc.mem x hx; omega
  walk_at "rd"
  rw [List.length_map]
  refine r_ite (fun g0 => ?_) (fun g0 => ?_)
  · walk_at "rd"
    rw [x_S]
    exact q [120] H1 b1 p1 (by decide)
  refine r_next ?_
  dsimp only
  have R1 : ∀ (ds : List Int) (H2 : Hp) (b : Addr), (∀ x ∈ ds, 1 ≤ x ∧ x ≤ 12) → ds.length ≤ 12 → But p H H2 → Pl H2 p → SqT K H2 b (ds.map V.int) →
      (tRet ((tBM K "str" (rJoin K) ((tC (.str ""))) (tCons ((tLc ((iSeqU K (tVar 2))) ((gName 3)) (tYes) ((tOp (rIx K) ((tC (.str "1234567890ET"))) ((tOp rSubU (tVar 3) ((tC (.int 1))))))) [3])) tNil)))) (En Q) [some (.ref p), some (.int (n : Int)), some (.ref b), none] H2 := fun ds H2 b hd hl2 b2 p2 e2 => by
    walk_at "rd"
    refine lc_signsT (by show 3 < 4; decide) e2 hd (by omega) fun t H3 nt s3 e3 => ?_
    walk_at "rd"
    refine join_signs e3 (by omega) ?_
    exact q _ H3 (b2.trans (Same.but s3)) (pl_same s3 p2) (by rw [List.length_map]; exact hl2)
  have R2 : ∀ (ds : List Int) (H2 : Hp) (b : Addr), (∀ x ∈ ds, 1 ≤ x ∧ x ≤ 12) → ds.length ≤ 12 → But p H H2 → Pl H2 p → SqT K H2 b (ds.map V.int) →
      (tSeq (tIfS ((tAnd ((tTest (tOp rGtU ((tCB (rLenU K) (tCons (tVar 2) tNil))) ((tC (.int 1)))))) ((tAnd ((tTest (tOp (rEqU K) ((tOp (rIx K) (tVar 2) ((tUn (rU fun i => .int (-i)) ((tC (.int 1))))))) (tVar 1)))) ((tTest (tOp (rEqU K) ((tCall (sp_law_draw K) [] E0 (tCons (tVar 0) (tCons ((tC (.int 2))) tNil)))) ((tC (.int 0)))))))))) ((tAsg ((tSl (rSlU K) (tVar 2) tNoPart (tPart ((tOp rSubU ((tCB (rLenU K) (tCons (tVar 2) tNil))) ((tC (.int 1)))))))) (gName 2))) (tNext))
      ((tRet ((tBM K "str" (rJoin K) ((tC (.str ""))) (tCons ((tLc ((iSeqU K (tVar 2))) ((gName 3)) (tYes) ((tOp (rIx K) ((tC (.str "1234567890ET"))) ((tOp rSubU (tVar 3) ((tC (.int 1))))))) [3])) tNil)))))) (En Q) [some (.ref p), some (.int (n : Int)), some (.ref b), none] H2 := fun ds H2 b hd hl2 b2 p2 e2 => by
    walk_at "rd"
    rw [List.length_map]
    refine r_ite (fun g1 => ?_) (fun g1 => ?_)
    · have hne : ds ≠ [] := fun z => by subst z; simp at g1
      have al := at_last hne
      walk_at "rd"
      refine r_ite (fun g2 => ?_) (fun g2 => ?_)
      · walk_at "rd"
        refine r_draw p2 (by omega) (by omega) fun v H3 v0 v1 b3 p3 => ?_
        have e3 := sqT_pl b3 p2 e2
        walk_at "rd"
        refine r_ite (fun g3 => ?_) (fun g3 => ?_)
        · walk_at "rd"
          refine r_slI e3 fun c H4 s4 e4 => ?_
          refine r_name ?_
          exact R1 _ H4 c (fun x hx => hd x (List.mem_of_mem_drop (List.mem_of_mem_take hx))) (Nat.le_trans (cutA_len ds) hl2) ((b2.trans b3).trans (Same.but s4)) (pl_same s4 p3) e4
        · refine r_next ?_
          exact R1 ds H3 b hd hl2 (b2.trans b3) p3 e3
      · refine r_F (r_next ?_)
        exact R1 ds H2 b hd hl2 b2 p2 e2
    · refine r_F (r_next ?_)
      exact R1 ds H2 b hd hl2 b2 p2 e2
  walk_at "rd"
  rw [List.length_map]
  refine r_ite (fun g1 => ?_) (fun g1 => ?_)
  · have hne : cs ≠ [] := fun z => by subst z; simp at g1
    have a0 : atI (cs.map V.int) 0 = some (.int (cs.getD 0 0)) := by
      cases cs with
      | nil => exact absurd rfl hne
      | cons x r => exact at_first
    walk_at "rd"
    refine r_ite (fun g2 => ?_) (fun g2 => ?_)
    · walk_at "rd"
      refine r_draw p1 (by omega) (by omega) fun v H3 v0 v1 b3 p3 => ?_
      have e3 := sqT_pl b3 p1 ea
      walk_at "rd"
      refine r_ite (fun g3 => ?_) (fun g3 => ?_)
      · walk_at "rd"
        refine r_slI e3 fun c H4 s4 e4 => ?_
        refine r_name ?_
        exact R2 _ H4 c (fun x hx => hm x (List.mem_of_mem_drop (List.mem_of_mem_take hx))) (Nat.le_trans (cutA_len cs) (by omega)) ((b1.trans b3).trans (Same.but s4)) (pl_same s4 p3) e4
      · refine r_next ?_
        exact R2 cs H3 a hm (by omega) (b1.trans b3) p3 e3
    · refine r_F (r_next ?_)
      exact R2 cs H1 a hm (by omega) b1 p1 ea
  · refine r_F (r_next ?_)
    exact R2 cs H1 a hm (by omega) b1 p1 ea
theorem pure_law_block_text (h : sp_law_block_text K vs H Q E) : t_law_block_text K (En Q) (start N_law_block_text vs) H := by
  obtain ⟨p, n, m, rfl, hp, h1, h2, m0, m1, q⟩ := h
  unfold t_law_block_text
  walk_at "rd"
  intro o H1 no s1 e1
  have hp1 := pl_same s1 hp
  walk_at "rd"
  refine r_draw hp1 (by omega) (by omega) fun v H2 v0 v1 b2 p2 => ?_
  have e2 := b2 _ _ (ne_pl no hp) e1
  obtain ⟨t0, ht, hl0⟩ : ∃ t0 : List Nat, atI [V.str "", V.str "&"] v = some (.str (S t0)) ∧ t0.length ≤ 1 := by
    have : v = 0 ∨ v = 1 := by omega
    rcases this with rfl | rfl
    · exact ⟨[], rfl, by decide⟩
    · exact ⟨[38], rfl, by decide⟩
  refine r_ixL (sqL_of e2) ht ?_
  walk_at "rd"
  refine r_forRange0 (fun i σ' H' => ∃ (l : List Nat) (b : Str) (z5 z6 : Option V), σ' = [some (.ref p), some (.int (n : Int)), some (.int m), some (.str (S l)), some (.str b), z5, z6] ∧ But p H H' ∧ Pl H' p ∧ l.length ≤ 1 + 13 * i)
    ⟨t0, _, none, none, rfl, (Same.but s1).trans b2, p2, by omega⟩ (fun i σ' H' hi hW => ?_) (fun σ' H' hW => ?_)
  · obtain ⟨l, b, z5, z6, rfl, bt, hp', hl⟩ := hW
    walk_at "rd"
    refine ⟨p, n, rfl, hp', h1, h2, fun u H3 b3 p3 hu => ?_⟩
    have fin : ∀ (l2 : List Nat), l2.length ≤ 2 + 13 * i → (tSeq (tAsg ((tOp (rAddU K) (tVar 3) (tVar 6))) (gName 3)) ((tAsg (tVar 6) (gName 4)))) { nx := fun σ' H' => ∃ (l : List Nat) (b : Str) (z5 z6 : Option V), σ' = [some (.ref p), some (.int (n : Int)), some (.int m), some (.str (S l)), some (.str b), z5, z6] ∧ But p H H' ∧ Pl H' p ∧ l.length ≤ 1 + 13 * (i + 1), rt := Q } [some (.ref p), some (.int (n : Int)), some (.int m), some (.str (S l2)), some (.str b), some (.int (i : Int)), some (.str (S u))] H3 := fun l2 hl2 => by
      walk_at "rd"
      refine r_addSS (by omega) ?_
      walk_at "rd"
      exact ⟨l2 ++ u, _, _, _, rfl, bt.trans b3, p3, by rw [List.length_append]; omega⟩
    walk_at "rd"
    refine r_iteN (fun g1 => ?_) (fun g1 => ?_)
    · walk_at "rd"
      refine r_iteN (fun g2 => ?_) (fun g2 => ?_)
      · walk_at "rd"
        rw [show ("." : Str) = S [46] from s_dot]
        refine r_addSS (by simp; omega) ?_
        refine r_name ?_
        exact fin (l ++ [46]) (by rw [List.length_append]; simp; omega)
      · refine r_next ?_
        exact fin l (by omega)
    · refine r_F (r_next ?_)
      exact fin l (by omega)
  · obtain ⟨l, b, z5, z6, rfl, bt, hp', hl⟩ := hW
    walk_at "rd"
    exact q l H' bt hp' (by omega)
theorem pure_law_notation (h : sp_law_notation K vs H Q E) : t_law_notation K (En Q) (start N_law_notation vs) H := by
  obtain ⟨p, n, rfl, hp, h1, h2, q⟩ := h
  unfold t_law_notation
  walk_at "rd"
  refine r_draw hp (by omega) (by omega) fun v H1 v0 v1 b1 p1 => ?_
  walk_at "rd"
  refine r_draw p1 (by omega) (by omega) fun u H2 u0 u1 b2 p2 => ?_
  have fin : ∀ (m : Int) (H3 : Hp), 0 ≤ m → m ≤ 370 → But p H H3 → Pl H3 p → tSeq (tAsg ((tCall (sp_law_block_text K) [] E0 (tCons (tVar 0) (tCons (tVar 1) (tCons (tVar 2) tNil))))) (gName 3))
      (tSeq (tIfS ((tTest (tOp (rEqU K) ((tCall (sp_law_draw K) [] E0 (tCons (tVar 0) (tCons ((tC (.int 2))) tNil)))) ((tC (.int 0)))))) ((tAsg ((tOp (rAddU K) ((tOp (rAddU K) (tVar 3) ((tC (.str ","))))) ((tCall (sp_law_block_text K) [] E0 (tCons (tVar 0) (tCons (tVar 1) (tCons ((tOp (rAddU K) ((tC (.int 1))) ((tCall (sp_law_draw K) [] E0 (tCons (tVar 0) (tCons ((tC (.int 6))) tNil)))))) tNil))))))) (gName 3))) (tNext))
      ((tRet (tVar 3)))) (En Q) [some (.ref p), some (.int (n : Int)), some (.int m), none] H3 := fun m H3 m0 m1 b3 p3 => by
    walk_at "rd"
    refine ⟨p, n, m, rfl, p3, h1, h2, m0, by omega, fun l H4 b4 p4 hl => ?_⟩
    walk_at "rd"
    refine r_draw p4 (by omega) (by omega) fun w H5 w0 w1 b5 p5 => ?_
    walk_at "rd"
    refine r_ite (fun g1 => ?_) (fun g1 => ?_)
    · walk_at "rd"
      rw [show ("," : Str) = S [44] from s_com]
      refine r_addSS (by simp; omega) ?_
      walk_at "rd"
      refine r_draw p5 (by omega) (by omega) fun y H6 y0 y1 b6 p6 => ?_
      walk_at "rd"
      refine ⟨p, n, 1 + y, rfl, p6, h1, h2, by omega, by omega, fun r H7 b7 p7 hr => ?_⟩
      refine r_addSS (by rw [List.length_append]; simp; omega) ?_
      walk_at "rd"
      exact q _ H7 (b3.trans (b4.trans (b5.trans (b6.trans b7)))) p7 (by rw [List.length_append, List.length_append]; simp; omega)
    · walk_at "rd"
      exact q l H5 (b3.trans (b4.trans b5)) p5 (by omega)
  walk_at "rd"
  refine r_ite (fun g1 => ?_) (fun g1 => ?_)
  · walk_at "rd"
    refine r_draw p2 (by omega) (by omega) fun w H3 w0 w1 b3 p3 => ?_
    refine r_addI (r_name ?_)
    exact fin (1 + w) H3 (by omega) (by omega) (b1.trans (b2.trans b3)) p3
  · refine r_next ?_
    exact fin (1 + v) H2 (by omega) (by omega) (b1.trans b2) p2
theorem pure_law_text (h : sp_law_text K vs H Q E) : t_law_text K (En Q) (start N_law_text vs) H := by
  obtain ⟨p, l, rfl, hp, hl, q⟩ := h
  unfold t_law_text
  walk_at "rd"
  refine r_draw hp (by omega) (by omega) fun v H1 v0 v1 b1 p1 => ?_
  have fin : ∀ (t : List Nat) (H3 : Hp) (z3 : Option V), t.length ≤ 5001 → But p H H3 → Pl H3 p → tSeq (tFor (iRng1 (tCons ((tCall (sp_law_draw K) [] E0 (tCons (tVar 0) (tCons ((tC (.int 3))) tNil)))) tNil)) (gName 4) ((tAsg ((tSl (rSlU K) ((tCall (sp_law_bent_text K) [] E0 (tCons (tVar 0) (tCons (tVar 2) tNil)))) tNoPart (tPart ((tC (.int 5000)))))) (gName 2))))
      ((tRet (tVar 2))) (En Q) [some (.ref p), some (.str (S l)), some (.str (S t)), z3, none] H3 := fun t H3 z3 ht b3 p3 => by
    walk_at "rd"
    refine r_draw p3 (by omega) (by omega) fun w H4 w0 w1 b4 p4 => ?_
    walk_at "rd"
    refine r_forRange0 (fun i σ' H' => ∃ (t : List Nat) (z4 : Option V), σ' = [some (.ref p), some (.str (S l)), some (.str (S t)), z3, z4] ∧ But p H H' ∧ Pl H' p ∧ t.length ≤ 5001)
      ⟨t, none, rfl, b3.trans b4, p4, ht⟩ (fun i σ' H' hi hW => ?_) (fun σ' H' hW => ?_)
    · obtain ⟨t, z4, rfl, bt, hp', ht'⟩ := hW
      walk_at "rd"
      refine ⟨p, t, rfl, hp', by omega, fun u H5 b5 p5 hu => ?_⟩
      walk_at "rd"
      refine r_slS (by omega) ?_
      walk_at "rd"
      exact ⟨_, _, rfl, bt.trans b5, p5, by rw [show (some (5000 : Int)) = some ((5000 : Nat) : Int) from rfl, cutA_take, List.length_take]; omega⟩
    · obtain ⟨t, z4, rfl, bt, hp', ht'⟩ := hW
      walk_at "rd"
      exact q t H' bt hp' ht'
  walk_at "rd"
  refine r_ite (fun g1 => ?_) (fun g1 => ?_)
  · have fin2 : ∀ (size : Int) (H4 : Hp), 0 ≤ size → size ≤ 5000 → But p H H4 → Pl H4 p → ((tAsg ((tBM K "str" (rJoin K) ((tC (.str ""))) (tCons ((tLc ((iRng1 (tCons (tVar 3) tNil))) ((gName 4)) (tYes) ((tCall (sp_law_sign K) [] E0 (tCons (tVar 0) tNil))) [4])) tNil))) (gName 2))) { nx := tSeq (tFor (iRng1 (tCons ((tCall (sp_law_draw K) [] E0 (tCons (tVar 0) (tCons ((tC (.int 3))) tNil)))) tNil)) (gName 4) ((tAsg ((tSl (rSlU K) ((tCall (sp_law_bent_text K) [] E0 (tCons (tVar 0) (tCons (tVar 2) tNil)))) tNoPart (tPart ((tC (.int 5000)))))) (gName 2)))) (tRet (tVar 2)) (En Q), rt := Q } [some (.ref p), some (.str (S l)), some (.str (S l)), some (.int size), none] H4 := fun size H4 s0 s1 b4 p4 => by
      walk_at "rd"
      refine r_lcDrS p4 (by omega) (fun x H5 Q' b5 p5 k => ?_) fun t H5 ms nt b5 p5 e5 hl => ?_
      · walk_at "rd"
        exact ⟨p, rfl, p5, fun c H6 b6 p6 => k c H6 b6 p6⟩
      · walk_at "rd"
        refine join_ones e5 (by omega) ?_
        refine r_name ?_
        exact fin ms H5 _ (by omega) (b4.trans b5) p5
    walk_at "rd"
    refine r_draw p1 (by omega) (by omega) fun u H2 u0 u1 b2 p2 => ?_
    walk_at "rd"
    refine r_draw p2 (by omega) (by omega) fun w H3 w0 w1 b3 p3 => ?_
    walk_at "rd"
    refine r_ite (fun g2 => ?_) (fun g2 => ?_)
    · walk_at "rd"
      refine r_draw p3 (by omega) (by omega) fun y H4 y0 y1 b4 p4 => ?_
      refine r_name ?_
      exact fin2 y H4 y0 (by omega) (by walk_at "but") p4
    · refine r_next ?_
      exact fin2 u H3 u0 (by omega) (by walk_at "but") p3
  · refine r_next ?_
    exact fin l H1 _ (by omega) b1 p1
end
end K11
end Kb
set_option Elab.async false
set_option linter.all false
set_option maxRecDepth 100000
set_option maxHeartbeats 4000000
namespace Kb
open PySem PySem.Spec PyProof.Rows L2
def rMin2 : List V → Hp → VK → Prop := fun xs H Q => ∃ i j, xs = [.int i, .int j] ∧ Q (.int (if j < i then j else i)) H
section
variable {K : PySem.W.Frag} {D : Ends} {σ : L2.St} {H : Hp} {te : TE} {g : TG} {tb : TS} {Q : VK} {a d : Addr} {i : Nat}
theorem r_min2 {m n : Int} (q : Q (.int (min m n)) H) : rMin2 [.int m, .int n] H Q := ⟨m, n, rfl, by
  rw [show (if n < m then n else m) = min m n by split <;> omega]; exact q⟩
end
end Kb
set_option Elab.async false
set_option linter.all false
set_option maxRecDepth 100000
set_option maxHeartbeats 4000000
namespace Kb
namespace K11
open PySem PySem.Spec PyProof.Rows L2 SX
open K8 (TL)
local macro_rules | `(tactic| walk_at "tk") => `(tactic| first
  | assumption
  | ((with_reducible refine' sqT_of ?k); (case k => assumption))
  | ((with_reducible refine' sqT_ofD ?k); (case k => assumption))
  | ((with_reducible refine' noD_of ?k); (case k => assumption))
  | ((with_reducible refine' noD_same ?s ?k); (case s => assumption); (case k => walk_at "tk"))
  | ((with_reducible refine' sqL_of ?k); (case k => assumption))
  | ((with_reducible refine' sqT_same ?s ?k); (case s => assumption); (case k => walk_at "tk"))
  | ((with_reducible refine' sqL_same ?s ?k); (case s => assumption); (case k => walk_at "tk"))
  | ((with_reducible refine' sqT_but ?s ?t ?k); (case s => assumption); (case t => walk_at "tk"); (case k => walk_at "tk"))
  | ((with_reducible refine' sqL_but ?s ?t ?k); (case s => assumption); (case t => walk_at "ne"); (case k => walk_at "tk"))
  | ((with_reducible refine' sqL_of ?k); (case k => walk_at "tk"))
  | ((with_reducible refine' sqT_of ?k); (case k => walk_at "tk"))
  | ((with_reducible refine' at_same ?s ?k); (case s => assumption); (case k => walk_at "tk"))
  | ((with_reducible refine' at_but ?s ?t ?k); (case s => assumption); (case t => walk_at "ne"); (case k => walk_at "tk")))
local macro_rules | `(tactic| walk_at "ne") => `(tactic| first
  | assumption
  | (refine Ne.symm ?_; assumption)
  | exact ne_of_none (by assumption) (by assumption)
  | exact (ne_of_none (by assumption) (by assumption)).symm)
local macro_rules | `(tactic| walk_at "side") => `(tactic| first
  | assumption
  | omega
  | (simp only [sizeLine_eq, List.length_cons, List.length_nil, List.length_map]; omega)
  | (show _ ≤ sizeLine; decide))
local macro_rules | `(tactic| walk_at "kit") => `(tactic| first
  | (show kitB _ _ = some true; decide +kernel)
  | (show kitB _ _ = some false; decide +kernel))
local macro_rules | `(tactic| walk_at "rng") => `(tactic| first
  | (refine ⟨by omega, by omega, by omega, by omega⟩)
  | (refine ⟨by omega, by omega⟩)
  | ((simp only [List.length_map]); (refine ⟨by omega, by omega, by omega, by omega⟩))
  | ((simp only [List.length_map]); (refine ⟨by omega, by omega⟩)))
local macro_rules | `(tactic| walk_at "rd1") => `(tactic| first
  | with_reducible refine r_seq ?_
  | ((with_reducible refine' r_var ?k0 ?_); (case k0 => rfl))
  | with_reducible refine r_op ?_
  | with_reducible refine r_c ?_
  | with_reducible refine r_asg ?_
  | with_reducible refine r_name ?_
  | with_reducible refine r_cons ?_
  | with_reducible refine r_nil ?_
  | with_reducible refine r_CB ?_
  | with_reducible refine r_if ?_
  | with_reducible refine r_test ?_
  | with_reducible refine r_k ?_
  | with_reducible refine r_T ?_
  | with_reducible refine r_F ?_
  | with_reducible refine r_nT ?_
  | with_reducible refine r_nF ?_
  | with_reducible refine r_ret ?_
  | with_reducible refine r_drop ?_
  | with_reducible refine r_next ?_
  | with_reducible refine r_call ?_
  | with_reducible refine r_addI ?_
  | with_reducible refine r_subI ?_
  | with_reducible refine r_ltI ?_
  | with_reducible refine r_gtI ?_
  | with_reducible refine r_leI ?_
  | with_reducible refine r_geI ?_
  | with_reducible refine r_eqI ?_
  | with_reducible refine r_neI ?_
  | with_reducible refine r_int ?_
  | with_reducible refine r_abs ?_
  | with_reducible refine r_not ?_
  | with_reducible refine r_and ?_
  | with_reducible refine r_or ?_
  | with_reducible refine r_tru ?_
  | with_reducible refine r_truB ?_
  | with_reducible refine r_lst ?_
  | with_reducible refine r_tup ?_
  | with_reducible refine r_BM ?_
  | with_reducible refine r_BM0 ?_
  | with_reducible refine r_tyS ?_
  | with_reducible refine r_gsub ?_
  | with_reducible refine r_then ?_
  | with_reducible refine r_lstRg ?_
  | with_reducible refine r_tupRg ?_
  | with_reducible refine r_rg2 ?_
  | with_reducible refine r_rg1 ?_
  | with_reducible refine r_ii ?_
  | with_reducible refine r_i ?_
  | with_reducible refine r_ipI ?_
  | with_reducible refine r_un ?_
  | with_reducible refine r_neg ?_
  | with_reducible refine r_isN ?_
  | with_reducible refine r_notN ?_
  | with_reducible refine r_notV ?_
  | with_reducible refine r_pnot ?_
  | with_reducible refine r_pif ?_
  | with_reducible refine r_andV ?_
  | with_reducible refine r_orV ?_
  | with_reducible refine r_ifE ?_
  | with_reducible refine r_chain ?_
  | with_reducible refine r_sl ?_
  | with_reducible refine r_noPart ?_
  | with_reducible refine r_part ?_
  | with_reducible refine r_brk ?_
  | with_reducible refine r_cont ?_
  | with_reducible refine r_retN ?_
  | with_reducible refine r_truI ?_
  | with_reducible refine r_B ?_
  | with_reducible refine r_for ?_
  | with_reducible refine r_rng1 ?_
  | with_reducible refine r_rng2 ?_
  | with_reducible refine r_rng3 ?_
  | with_reducible refine r_body ?_
  | with_reducible refine r_lc ?_
  | with_reducible refine r_yes ?_
  | ((with_reducible refine' r_mod ?k0 ?_); (case k0 => walk_at "side"))
  | ((with_reducible refine' r_mulI ?k0 ?_); (case k0 => first | exact Or.inl ⟨by omega, by omega⟩ | exact Or.inr ⟨by omega, by omega⟩))
  | ((with_reducible refine' r_lenL ?k0 ?_); (case k0 => walk_at "tk"))
  | ((with_reducible refine' r_lenT ?k0 ?_); (case k0 => walk_at "tk"))
  | ((with_reducible refine' r_truL ?k0 ?_); (case k0 => walk_at "tk"))
  | ((with_reducible refine' r_truT ?k0 ?_); (case k0 => walk_at "tk"))
  | ((with_reducible refine' r_ixL ?k0 ?k1 ?_); (case k0 => walk_at "tk"); (case k1 => first | assumption | rfl))
  | ((with_reducible refine' r_ixT ?k0 ?k1 ?_); (case k0 => walk_at "tk"); (case k1 => first | assumption | rfl))
  | ((with_reducible refine' r_new ?k0 ?_); (case k0 => walk_at "side"))
  | ((with_reducible refine' r_tyL ?k0 ?_); (case k0 => walk_at "tk"))
  | ((with_reducible refine' r_append ?k0 ?k1 ?_); (case k0 => walk_at "tk"); (case k1 => walk_at "side"))
  | ((with_reducible refine' r_setL ?k0 ?k1 ?_); (case k0 => walk_at "tk"); (case k1 => first | assumption | rfl))
  | ((with_reducible refine' r_kTupL ?k0 ?_); (case k0 => walk_at "tk"))
  | ((with_reducible refine' r_kTupT ?k0 ?_); (case k0 => walk_at "tk"))
  | ((with_reducible refine' r_listL ?k0 ?_); (case k0 => walk_at "tk"))
  | ((with_reducible refine' r_listT ?k0 ?_); (case k0 => walk_at "tk"))
  | ((with_reducible refine' r_aug ?k0 ?_); (case k0 => rfl))
  | ((with_reducible refine' r_lenS ?k0 ?_); (case k0 => walk_at "side"))
  | ((with_reducible refine' r_pop ?k0 ?_); (case k0 => walk_at "tk"))
  | ((with_reducible refine' r_pr1 ?k0 ?_); (case k0 => walk_at "rng"))
  | ((with_reducible refine' r_pr2 ?k0 ?_); (case k0 => walk_at "rng"))
  | ((with_reducible refine' r_pr3d ?k0 ?_); (case k0 => walk_at "rng"))
  | ((with_reducible refine' r_isiI ?k0 ?_); (case k0 => walk_at "kit"))
  | ((with_reducible refine' r_isiB ?k0 ?_); (case k0 => walk_at "kit"))
  | ((with_reducible refine' r_isiS ?k0 ?_); (case k0 => walk_at "kit"))
  | ((with_reducible refine' r_isiN ?k0 ?_); (case k0 => walk_at "kit"))
  | ((with_reducible refine' r_isiT ?k0 ?k1 ?_); (case k0 => walk_at "tk"); (case k1 => walk_at "kit"))
  | ((with_reducible refine r_seqT ?_); (repeat (walk_at "rd1")); ((with_reducible refine' r_pseqT ?k0 ?_); (case k0 => walk_at "tk")))
  | ((with_reducible refine r_seqL ?_); (repeat (walk_at "rd1")); ((with_reducible refine' r_pseqL ?k0 ?_); (case k0 => walk_at "tk")))
  | ((with_reducible refine r_seqS ?_); (repeat (walk_at "rd1")); (with_reducible refine r_pseqS ?_)))
local macro_rules | `(tactic| walk_at "rd") => `(tactic| ((repeat (walk_at "rd1")); (try dsimp only)))
local macro_rules | `(tactic| walk_at "rd1") => `(tactic| first
  | with_reducible refine r_BMT ?_
  | with_reducible refine r_par ?_
  | with_reducible refine r_parV ?_
  | ((with_reducible refine' r_ptp ?k0 ?k1 ?_); (case k0 => walk_at "tk"); (case k1 => walk_at "tk"))
  | with_reducible refine r_eqS ?_
  | with_reducible refine r_neS ?_
  | with_reducible refine r_callW ?_
  | with_reducible refine r_try ?_
  | with_reducible refine r_enT ?_
  | ((with_reducible refine' r_pen ?k0 ?_); (case k0 => walk_at "tk")))
local macro_rules | `(tactic| walk_at "pl0") => `(tactic| first
  | assumption
  | exact pl_same (by assumption) (by assumption)
  | exact pl_same (by assumption) (pl_same (by assumption) (by assumption))
  | exact pl_same (by assumption) (pl_same (by assumption) (pl_same (by assumption) (by assumption))))
local macro_rules | `(tactic| walk_at "pl") => `(tactic| first
  | walk_at "pl0"
  | ((with_reducible refine' pl_butL ?s ?n ?k); (case s => assumption); (case n => walk_at "ne"); (case k => walk_at "pl"))
  | ((with_reducible refine' pl_same ?s ?k); (case s => assumption); (case k => walk_at "pl")))
local macro_rules | `(tactic| walk_at "ne") => `(tactic| first
  | exact ne_pl (by assumption) (by walk_at "pl0")
  | exact (ne_pl (by assumption) (by walk_at "pl0")).symm)
local macro_rules | `(tactic| walk_at "fr") => `(tactic| first
  | assumption
  | ((with_reducible refine' free_but ?b ?n ?h); (case h => assumption); (case n => walk_at "ne"); (case b => walk_at "but"))
  | ((with_reducible refine' Same.free ?b ?h); (case h => assumption); (case b => walk_at "same")))
local macro_rules | `(tactic| walk_at "but") => `(tactic| first
  | assumption
  | exact But.refl
  | ((with_reducible refine' But.trans ?a ?b); (case b => assumption); (case a => walk_at "but"))
  | ((with_reducible refine' But.trans ?a (Same.but ?b)); (case b => assumption); (case a => walk_at "but"))
  | ((with_reducible refine' but_via ?a ?b ?c); (case b => assumption); (case c => walk_at "fr"); (case a => walk_at "but")))
local macro_rules | `(tactic| walk_at "same") => `(tactic| first
  | assumption
  | exact Same.refl _
  | ((with_reducible refine' Same.trans ?a ?b); (case b => assumption); (case a => walk_at "same"))
  | ((with_reducible refine' same_but ?a ?b ?c); (case b => assumption); (case c => walk_at "fr"); (case a => walk_at "same")))
local macro_rules | `(tactic| walk_at "tk") => `(tactic| first
  | ((with_reducible refine' sqT_pl ?s ?t ?k); (case s => assumption); (case t => walk_at "pl0"); (case k => walk_at "tk"))
  | ((with_reducible refine' rp_same ?s ?k); (case s => assumption); (case k => walk_at "tk"))
  | ((with_reducible refine' rp_pl ?s ?t ?k); (case s => assumption); (case t => walk_at "pl0"); (case k => walk_at "tk")))
local macro_rules | `(tactic| walk_at "it") => `(tactic| first
  | assumption
  | ((with_reducible refine' sqI_1 ?k); (case k => assumption))
  | ((with_reducible refine' sqI_0 ?k); (case k => assumption))
  | ((with_reducible refine' sqI_of ?k); (case k => assumption))
  | ((with_reducible refine' sqI_D ?k); (case k => assumption))
  | ((with_reducible refine' sqT_same ?s ?k); (case s => assumption); (case k => walk_at "it"))
  | ((with_reducible refine' sqT_but ?s ?t ?k); (case s => assumption); (case t => assumption); (case k => walk_at "it"))
  | ((with_reducible refine' sqT_pl ?s ?t ?k); (case s => assumption); (case t => walk_at "pl0"); (case k => walk_at "it")))
local macro_rules | `(tactic| walk_at "sz") => `(tactic| first | omega | ((try simp only [List.length_cons, List.length_nil] at *); omega))
local macro_rules | `(tactic| walk_at "au1") => `(tactic| first
  | walk_at "rd1"
  | ((with_reducible refine' r_draw ?k0 ?k1 ?k2 ?_); (case k0 => walk_at "pl"); (case k1 => omega); (case k2 => omega); (intro _ _ _ _ _ _))
  | ((with_reducible refine' r_slN ?k0 ?_); (case k0 => walk_at "it"); (intro _ _ _ _ _ _))
  | ((with_reducible refine' r_catN ?k0 ?k1 ?k2 ?_); (case k0 => walk_at "it"); (case k1 => walk_at "it"); (case k2 => walk_at "sz"); (intro _ _ _ _ _ _))
  | ((with_reducible refine' r_pow ?k0 ?_); (case k0 => exact ⟨by decide, by decide, by decide⟩))
  | ((with_reducible refine' r_ixI ?k0 ?k1 ?k2 ?_); (case k0 => walk_at "it"); (case k1 => omega); (case k2 => omega); (intro _ _))
  | ((with_reducible refine' r_setI ?k0 ?k1 ?k2 ?_); (case k0 => walk_at "tk"); (case k1 => omega); (case k2 => omega); (intro _ _ _ _ _))
  | ((with_reducible refine' r_kTupI ?k0 ?_); (case k0 => walk_at "tk"); (intro _ _ _ _ _))
  | ((with_reducible refine' r_listI ?k0 ?_); (case k0 => walk_at "it"); (intro _ _ _ _ _))
  | (with_reducible refine r_revU ?_)
  | ((with_reducible refine' r_prevN ?k0 ?_); (case k0 => walk_at "it"); (intro _ _ _ _ _ _))
  | (intro _ _ _ _ _))
local macro_rules | `(tactic| walk_at "go") => `(tactic| ((repeat (walk_at "au1")); (first
  | ((with_reducible refine r_ite (fun _ => ?_) (fun _ => ?_)) <;> (walk_at "go"))
  | ((with_reducible refine r_iteN (fun _ => ?_) (fun _ => ?_)) <;> (walk_at "go"))
  | dsimp only
  | skip)))
local macro_rules | `(tactic| walk_at "rd1") => `(tactic| first
  | with_reducible refine r_replR ?_)
def PIL (K : PySem.W.Frag) (x : V) (H : Hp) (R : It → Hp → Prop) : Prop := ∃ a, x = V.ref a ∧ (∃ xs, SqL K H a xs) ∧ R (Itl K a) H
theorem r_iListW {K : PySem.W.Frag} {tl : TE} {σ : L2.St} {H : Hp} {R : It → Hp → Prop} (h : tl σ H fun x H1 => PIL K x H1 R) : iList K tl σ H R := h
theorem splC_len (c : Nat) : ∀ (l acc : List Nat), (splC c acc l).length ≤ l.length + 1 ∧ ∀ p ∈ splC c acc l, p.length ≤ acc.length + l.length
  | [], acc => ⟨Nat.le_refl _, fun p hp => by rw [List.mem_singleton.mp (show p ∈ [acc] from hp)]; exact Nat.le_refl _⟩
  | x :: r, acc => by
    have e : splC c acc (x :: r) = if x = c then acc :: splC c [] r else splC c (acc ++ [x]) r := rfl
    rw [e]
    by_cases h : x = c
    · rw [if_pos h]
      obtain ⟨a, b⟩ := splC_len c r []
      refine ⟨by simp; omega, fun p hp => ?_⟩
      rcases List.mem_cons.mp hp with rfl | z
      · omega
      · have := b p z; simp at this ⊢; omega
    · rw [if_neg h]
      obtain ⟨a, b⟩ := splC_len c r (acc ++ [x])
      refine ⟨by simp; omega, fun p hp => ?_⟩
      have := b p hp
      simp at this ⊢; omega
theorem rep1_len : ∀ l : List Nat, (rep1 l).length ≤ 3 * l.length
  | [] => Nat.le_refl _
  | c :: r => by
    have := rep1_len r
    unfold rep1 at this ⊢
    rw [List.flatMap_cons, List.length_append, List.length_cons]
    have h1 : (if c = 120 then [46, 120, 46] else [c] : List Nat).length ≤ 3 := by split <;> simp
    omega
theorem few_parts {n : Int} : ∀ (l : List Nat) (b m k : Nat) (acc : List Nat), m ≤ 1 → colN n b m k l = 0 → (splC 44 acc l).length + m ≤ 2
  | [], b, m, k, acc, hm, _ => by show 1 + m ≤ 2; omega
  | c :: r, b, m, k, acc, hm, hc => by
    have hf : fitN n b m c = true := by
      cases e : fitN n b m c with
      | true => rfl
      | false =>
        have : colN n b m k (c :: r) = k + 1 := by show (if fitN n b m c = true then _ else _) = _; rw [e]; rfl
        omega
    have hc' : colN n c (if c = 44 then m + 1 else m) (k + 1) r = 0 := by
      have : colN n b m k (c :: r) = colN n c (if c = 44 then m + 1 else m) (k + 1) r := by show (if fitN n b m c = true then _ else _) = _; rw [if_pos hf]
      rw [← this]; exact hc
    have e : splC 44 acc (c :: r) = if c = 44 then acc :: splC 44 [] r else splC 44 (acc ++ [c]) r := rfl
    rw [e]
    by_cases h : c = 44
    · subst h
      have hm0 : m = 0 := by
        have : fitN n b m 44 = (decide (m = 0) && (decide (0 < plC n b) || decide (b = 120))) := rfl
        rw [this, Bool.and_eq_true, decide_eq_true_eq] at hf
        exact hf.1
      rw [if_pos rfl] at hc' ⊢
      have := few_parts r 44 (m + 1) (k + 1) [] (by omega) hc'
      rw [List.length_cons]; omega
    · rw [if_neg h] at hc' ⊢
      exact few_parts r c m (k + 1) (acc ++ [c]) hm hc'
def sp_law_changes (K : PySem.W.Frag) : Sp := fun vs H Q _ => ∃ (n : Nat) (l : List Nat), vs = [.int (n : Int), .str (S l)] ∧ l.length ≤ 20000 ∧ colN n 44 0 0 l = 0 ∧ ∀ p H' ys, H p = none → Same H H' → SqT K H' p ys → TL K H' ys (lawN n l) → Q (.ref p) H'
abbrev N_law_changes : List Str := ["stage", "text", "out", "part", "folded", "body", "block", "many", "piece", "k"]
def t_law_changes (K : PySem.W.Frag) : TS :=
  tSeq (tAsg ((tLst tNil)) (gName 2))
  (tSeq (tFor (iSeqU K ((tBM K "str" rSplit (tVar 1) (tCons ((tC (.str ","))) tNil)))) (gName 3) (tSeq (tAsg (tOp (rEqU K) ((tSl (rSlU K) (tVar 3) tNoPart (tPart ((tC (.int 1)))))) (tC (.str "&"))) (gName 4))
  (tSeq (tAsg ((tSl (rSlU K) (tVar 3) (tPart ((tCB rIntB (tCons (tVar 4) tNil)))) tNoPart)) (gName 5))
  (tSeq (tAsg ((tLc ((iList K ((tBM K "str" rSplit ((tReplR (tVar 5) "x" ".x.")) (tCons ((tC (.str "."))) tNil))))) ((gName 8)) ((tTest (tOp (rNeU K) (tVar 8) ((tC (.str "")))))) ((tCall (sp_law_change K) [] E0 (tCons (tVar 0) (tCons (tVar 8) tNil)))) [8])) (gName 6))
  (tSeq (tAsg ((tCB (rLenU K) (tCons (tVar 6) tNil))) (gName 7))
  (tSeq (tIfS ((tTru K (tVar 4))) ((tAsg ((tLc ((iRng1 (tCons ((tOp rSubU ((tOp (rMulU K) ((tC (.int 2))) (tVar 7))) ((tC (.int 1))))) tNil))) ((gName 9)) (tYes) ((tOp (rIx K) (tVar 6) ((tCB rMin2 (tCons (tVar 9) (tCons ((tOp rSubU ((tOp rSubU ((tOp (rMulU K) ((tC (.int 2))) (tVar 7))) ((tC (.int 2))))) (tVar 9))) tNil)))))) [9])) (gName 6))) (tNext))
  ((tDrop ((tBM K "list" rExtend (tVar 2) (tCons (tVar 6) tNil)))))))))))
  ((tRet ((tThen (tVar 2) (kTupD K))))))
section
variable {K : PySem.W.Frag} {ec : Str → Addr} {ns : List Str} {vs : List V} {H : Hp} {Q : VK} {E : XK}
theorem len_law_changes (h : sp_law_changes K vs H Q E) : vs.length = 2 := by obtain ⟨s, c, rfl, _⟩ := h; rfl
theorem at_val {ys : List V} {k : Int} {j : Nat} {v : V} (e : k = (j : Int)) (h : ys[j]? = some v) : atI ys k = some v := by
  subst e; exact atI_nat h
theorem pure_law_changes (h : sp_law_changes K vs H Q E) : t_law_changes K (En Q) (start N_law_changes vs) H := by
  obtain ⟨n, l, rfl, hl, hcol, q⟩ := h
  have hlsz := sizeLine_eq
  have hfew := few_parts (n := (n : Int)) l 44 0 0 [] (by omega) hcol
  have hpl := (splC_len 44 l []).2
  unfold t_law_changes
  walk_at "rd"
  intro C H1 nC s1 e1
  walk_at "rd"
  rw [show ("," : Str) = S [44] from s_com]
  refine r_seqL ?_
  walk_at "rd"
  refine r_split (by decide) (by omega) fun P H2 nP s2 e2 => ?_
  refine r_pseqL (sqL_of e2) ?_
  have nP0 := s1.free nP
  have e12 := s2 _ _ e1
  have CP : C ≠ P := fun z => by subst z; rw [e1] at nP; cases nP
  have law : lawN n l = (splC 44 [] l).flatMap (lawP n) := rfl
  generalize splC 44 [] l = ps at e2 hfew hpl law
  refine r_forLst (xs := ps.map fun y => V.str (S y)) (fun i σ' H' => ∃ (ws : List V) (z3 z4 z5 z6 z7 : Option V), σ' = [some (.int (n : Int)), some (.str (S l)), some (.ref C), z3, z4, z5, z6, z7, none, none] ∧ But C H2 H' ∧ H' C = some (.lst ws) ∧ TL K H' ws ((ps.take i).flatMap (lawP n)) ∧ ws.length ≤ i * 200000)
    ⟨[], none, none, none, none, none, rfl, But.refl, e12, TL.nil, Nat.zero_le _⟩ (fun i σ' H' hi hW => ?_) (fun i x σ' H' hi hW => ?_) (fun σ' H' hW => ?_)
  · obtain ⟨ws, z3, z4, z5, z6, z7, rfl, bt, ec, tc, lw⟩ := hW
    exact sqL_of (bt _ _ (Ne.symm CP) e2)
  · obtain ⟨ws, z3, z4, z5, z6, z7, rfl, bt, ec, tc, lw⟩ := hW
    rw [List.getElem?_map] at hi
    obtain ⟨p, hp, rfl⟩ := Option.map_eq_some_iff.mp hi
    have hil := (List.getElem?_eq_some_iff.mp hp).1
    have lp := hpl p (List.mem_of_getElem? hp)
    rw [List.length_nil, Nat.zero_add] at lp
    walk_at "rd"
    refine r_slS (by omega) ?_
    rw [show (some (1 : Int)) = some ((1 : Nat) : Int) from rfl, cutA_take]
    walk_at "rd"
    rw [S_eqD, show ("&" : Str).cps.toList = [38] by decide]
    have hF : decide (p.take 1 = [38]) = isF p := rfl
    rw [hF]
    refine r_intB ?_
    walk_at "rd"
    refine r_slS (by omega) ?_
    have hB : cutA p (some (if isF p = true then 1 else 0)) none = bdy p := by
      unfold bdy
      cases isF p
      · exact cutA_drop (k := 0)
      · exact cutA_drop (k := 1)
    rw [hB]
    have lb : (bdy p).length ≤ p.length := by unfold bdy; rw [List.length_drop]; omega
    have hlp : lawP n p = if isF p = true then foldL ((pcs (bdy p)).map (lawC n)) else (pcs (bdy p)).map (lawC n) := rfl
    have hpc : pcs (bdy p) = (splC 46 [] (rep1 (bdy p))).filter fun p => !decide (p = []) := rfl
    have l1 := rep1_len (bdy p)
    obtain ⟨l2, l3⟩ := splC_len 46 (rep1 (bdy p)) []
    generalize isF p = f at hlp
    have hrep : (bdy p).flatMap (fun x => if x = 120 then [46, 120, 46] else [x]) = rep1 (bdy p) := rfl
    generalize bdy p = bd at hlp hpc l1 l2 l3 lb hrep
    walk_at "rd"
    rw [show ("x" : Str) = S [120] from s_x, show (".x." : Str) = S [46, 120, 46] by decide]
    refine r_iListW ?_
    walk_at "rd"
    refine r_prep (by rw [show ([46, 120, 46] : List Nat).length = 3 from rfl]; omega) ?_
    rw [hrep]
    generalize rep1 bd = rb at hpc l1 l2 l3
    walk_at "rd"
    rw [show ("." : Str) = S [46] from s_dot]
    refine r_split (by decide) (by omega) fun G H3 nG s3 e3 => ?_
    have ec3 := s3 _ _ ec
    have nGC : G ≠ C := fun z => by subst z; rw [ec] at nG; cases nG
    refine ⟨G, rfl, ⟨_, sqL_of e3⟩, ?_⟩
    generalize splC 46 [] rb = qs at hpc e3 l2 l3
    have main : ∀ (B : Addr) (H4 : Hp) (ys : List V) (css : List (List Int)), But C H2 H4 → H4 C = some (.lst ws) → B ≠ C → H4 B = some (.lst ys) → TL K H4 ys css → css = lawP n p → css.length ≤ 130000 → TL K H4 ws ((ps.take i).flatMap (lawP n)) → ∀ (z7 : Option V) (z5 : Option V),
        ((tDrop ((tBM K "list" rExtend (tVar 2) (tCons (tVar 6) tNil))))) { nx := fun σ' H' => ∃ (ws : List V) (z3 z4 z5 z6 z7 : Option V), σ' = [some (.int (n : Int)), some (.str (S l)), some (.ref C), z3, z4, z5, z6, z7, none, none] ∧ But C H2 H' ∧ H' C = some (.lst ws) ∧ TL K H' ws ((ps.take (i + 1)).flatMap (lawP n)) ∧ ws.length ≤ (i + 1) * 200000, rt := Q } [some (.int (n : Int)), some (.str (S l)), some (.ref C), some (.str (S p)), some (.bl f), z5, some (.ref B), z7, none, none] H4 := fun B H4 ys css b4 ec4 nBC eB tB ecs lcs tw z7 z5 => by
      have ly := tB.len
      walk_at "rd"
      refine r_extend ec4 eB (by omega) fun H5 b5 e5 => ?_
      refine ⟨ws ++ ys, _, _, _, _, _, rfl, b4.trans b5, e5, ?_, by rw [List.length_append]; omega⟩
      rw [List.take_add_one, hp, List.flatMap_append]
      have : [p].flatMap (lawP n) = css := by rw [ecs]; simp
      show TL K H5 (ws ++ ys) (_ ++ [p].flatMap (lawP n))
      rw [this]
      exact (tw.app tB).but b5 ec4
    refine r_lcL (xs := qs.map fun y => V.str (S y)) (fun D j H5 => H3 D = none ∧ Same H3 H5 ∧ ∃ us : List V, H5 D = some (.lst us) ∧ TL K H5 us (((qs.take j).filter fun p => !decide (p = [])).map (lawC n))) (fun _ => rfl)
      (fun D H5 nD s e => ⟨nD, s, [], e, TL.nil⟩) (fun D j H5 P => sqL_of (P.2.1 _ _ e3)) (fun D j x H5 hj P => ?_) (fun D H5 nD P => ?_)
    · obtain ⟨nD, s5, us, e5, t5⟩ := P
      rw [List.getElem?_map] at hj
      obtain ⟨w, hw, rfl⟩ := Option.map_eq_some_iff.mp hj
      have hjl := (List.getElem?_eq_some_iff.mp hw).1
      have lw := l3 w (List.mem_of_getElem? hw)
      rw [List.length_nil, Nat.zero_add] at lw
      have lu := t5.len
      rw [List.length_map] at lu
      have lu2 : ((qs.take j).filter fun p => !decide (p = [])).length ≤ j := by
        have h1 := List.length_filter_le (fun p : List Nat => !decide (p = [])) (qs.take j)
        rw [List.length_take] at h1; omega
      have tk : (((qs.take (j + 1)).filter fun p => !decide (p = [])).map (lawC n)) = (((qs.take j).filter fun p => !decide (p = [])).map (lawC n)) ++ (if w = [] then [] else [lawC n w]) := by
        rw [List.take_add_one, hw, List.filter_append, List.map_append]
        congr 1
        by_cases hz : w = []
        · subst hz; rfl
        · have : List.filter (fun p : List Nat => !decide (p = [])) [w] = [w] := by simp [hz]
          show List.map _ (List.filter _ [w]) = _
          rw [this, if_neg hz]; rfl
      walk_at "rd"
      rw [S_eqD, show ("" : Str).cps.toList = [] by decide]
      refine r_iteN (fun g1 => ?_) (fun g1 => ?_)
      · walk_at "rd"
        refine ⟨n, w, rfl, g1, by omega, fun u H6 nu s6 eu => ?_⟩
        have e56 := s6 _ _ e5
        refine r_acc e56 (by omega) fun H7 b7 e7 => ⟨nD, same_but (s5.trans s6) b7 nD, _, e7, ?_⟩
        rw [tk, if_neg g1]
        exact ((t5.same s6).app (TL.one eu)).but b7 e56
      · refine ⟨nD, s5, us, e5, ?_⟩
        rw [tk, if_pos g1, List.append_nil]
        exact t5
    · obtain ⟨nD, s5, us, e5, t5⟩ := P
      rw [List.length_map, List.take_length, ← hpc] at t5
      have lu := t5.len
      have lpc : ((pcs bd).map (lawC n)).length ≤ 60001 := by
        rw [List.length_map, hpc]
        have h1 := List.length_filter_le (fun p : List Nat => !decide (p = [])) qs
        omega
      generalize (pcs bd).map (lawC n) = css at t5 hlp lu lpc
      have b5 : But C H2 H5 := bt.trans (Same.but (s3.trans s5))
      have ec5 := s5 _ _ ec3
      have nDC : D ≠ C := fun z => by subst z; rw [ec3] at nD; cases nD
      have tw5 := (tc.same s3).same s5
      walk_at "rd"
      rw [lu]
      refine r_iteB' (fun hf => ?_) (fun hf => ?_)
      · subst hf
        rw [if_pos rfl] at hlp
        walk_at "rd"
        refine r_lcR (fun D2 j H6 => H5 D2 = none ∧ Same H5 H6 ∧ ∃ vs : List V, H6 D2 = some (.lst vs) ∧ TL K H6 vs ((List.range j).map fun k => css.getD (min k (2 * css.length - 2 - k)) []))
          (fun _ => rfl) (fun D2 H6 nD2 s e => ⟨nD2, s, [], e, TL.nil⟩) (fun D2 j H6 hj P => ?_) (fun D2 H6 nD2 P => ?_)
        · obtain ⟨nD2, s6, vs, e6, t6⟩ := P
          have hj' : j < 2 * css.length - 1 := by omega
          have hm : min j (2 * css.length - 2 - j) < us.length := by omega
          have lv := t6.len
          rw [List.length_map, List.length_range] at lv
          have e56 := s6 _ _ e5
          obtain ⟨t, c, et, hc, ht⟩ := (t5.same s6).get (List.getElem?_eq_getElem hm)
          have hat : atI us (min (j : Int) (2 * (css.length : Int) - 2 - (j : Int))) = some (.ref t) := at_val (j := min j (2 * css.length - 2 - j)) (by omega) (by rw [List.getElem?_eq_getElem hm, et])
          have hgd : css.getD (min j (2 * css.length - 2 - j)) [] = c := by rw [List.getD_eq_getElem?_getD, hc]; rfl
          refine r_yes (r_T ?_)
          walk_at "rd"
          rw [Int.zero_add]
          refine r_min2 ?_
          refine r_ixL (sqL_of e56) hat ?_
          refine r_acc e6 (by omega) fun H7 b7 e7 => ⟨nD2, same_but s6 b7 nD2, _, e7, ?_⟩
          rw [List.range_succ, List.map_append]
          show TL K H7 (vs ++ [.ref t]) (_ ++ [css.getD (min j (2 * css.length - 2 - j)) []])
          rw [hgd]
          exact (t6.app (TL.one ht)).but b7 e6
        · obtain ⟨nD2, s6, vs, e6, t6⟩ := P
          have hfo : ((List.range (2 * (css.length : Int) - 1).toNat).map fun k => css.getD (min k (2 * css.length - 2 - k)) []) = foldL css := by
            unfold foldL
            rw [show (2 * (css.length : Int) - 1).toNat = 2 * css.length - 1 by omega]
          rw [hfo] at t6
          refine r_name ?_
          have lf : (foldL css).length ≤ 130000 := by unfold foldL; rw [List.length_map, List.length_range]; omega
          exact main D2 H6 vs (foldL css) (b5.trans (Same.but s6)) (s6 _ _ ec5) (fun z => by subst z; rw [ec5] at nD2; cases nD2) e6 t6 hlp.symm lf (tw5.same s6) _ _
      · subst hf
        rw [if_neg (by decide)] at hlp
        refine r_next ?_
        exact main D H5 us css b5 ec5 nDC e5 t5 hlp.symm (by omega) tw5 _ _
  · obtain ⟨ws, z3, z4, z5, z6, z7, rfl, bt, ec, tc, lw⟩ := hW
    rw [List.length_map, List.take_length, ← law] at tc
    walk_at "rd"
    intro p H6 np s6 e6
    have st := same_but (s1.trans s2) bt nC
    exact q p H6 ws (st.free np) (st.trans s6) (sqT_ofD e6) (tc.same s6)
end
end K11
end Kb
set_option Elab.async false
set_option linter.all false
set_option maxRecDepth 100000
set_option maxHeartbeats 4000000
namespace Kb
namespace K11
open PySem PySem.Spec PyProof.Rows L2 SX
open K8 (TL)
local macro_rules | `(tactic| walk_at "tk") => `(tactic| first
  | assumption
  | ((with_reducible refine' sqT_of ?k); (case k => assumption))
  | ((with_reducible refine' sqT_ofD ?k); (case k => assumption))
  | ((with_reducible refine' noD_of ?k); (case k => assumption))
  | ((with_reducible refine' noD_same ?s ?k); (case s => assumption); (case k => walk_at "tk"))
  | ((with_reducible refine' sqL_of ?k); (case k => assumption))
  | ((with_reducible refine' sqT_same ?s ?k); (case s => assumption); (case k => walk_at "tk"))
  | ((with_reducible refine' sqL_same ?s ?k); (case s => assumption); (case k => walk_at "tk"))
  | ((with_reducible refine' sqT_but ?s ?t ?k); (case s => assumption); (case t => walk_at "tk"); (case k => walk_at "tk"))
  | ((with_reducible refine' sqL_but ?s ?t ?k); (case s => assumption); (case t => walk_at "ne"); (case k => walk_at "tk"))
  | ((with_reducible refine' sqL_of ?k); (case k => walk_at "tk"))
  | ((with_reducible refine' sqT_of ?k); (case k => walk_at "tk"))
  | ((with_reducible refine' at_same ?s ?k); (case s => assumption); (case k => walk_at "tk"))
  | ((with_reducible refine' at_but ?s ?t ?k); (case s => assumption); (case t => walk_at "ne"); (case k => walk_at "tk")))
local macro_rules | `(tactic| walk_at "ne") => `(tactic| first
  | assumption
  | (refine Ne.symm ?_; assumption)
  | exact ne_of_none (by assumption) (by assumption)
  | exact (ne_of_none (by assumption) (by assumption)).symm)
local macro_rules | `(tactic| walk_at "side") => `(tactic| first
  | assumption
  | omega
  | (simp only [sizeLine_eq, List.length_cons, List.length_nil, List.length_map]; omega)
  | (show _ ≤ sizeLine; decide))
local macro_rules | `(tactic| walk_at "kit") => `(tactic| first
  | (show kitB _ _ = some true; decide +kernel)
  | (show kitB _ _ = some false; decide +kernel))
local macro_rules | `(tactic| walk_at "rng") => `(tactic| first
  | (refine ⟨by omega, by omega, by omega, by omega⟩)
  | (refine ⟨by omega, by omega⟩)
  | ((simp only [List.length_map]); (refine ⟨by omega, by omega, by omega, by omega⟩))
  | ((simp only [List.length_map]); (refine ⟨by omega, by omega⟩)))
local macro_rules | `(tactic| walk_at "rd1") => `(tactic| first
  | with_reducible refine r_seq ?_
  | ((with_reducible refine' r_var ?k0 ?_); (case k0 => rfl))
  | with_reducible refine r_op ?_
  | with_reducible refine r_c ?_
  | with_reducible refine r_asg ?_
  | with_reducible refine r_name ?_
  | with_reducible refine r_cons ?_
  | with_reducible refine r_nil ?_
  | with_reducible refine r_CB ?_
  | with_reducible refine r_if ?_
  | with_reducible refine r_test ?_
  | with_reducible refine r_k ?_
  | with_reducible refine r_T ?_
  | with_reducible refine r_F ?_
  | with_reducible refine r_nT ?_
  | with_reducible refine r_nF ?_
  | with_reducible refine r_ret ?_
  | with_reducible refine r_drop ?_
  | with_reducible refine r_next ?_
  | with_reducible refine r_call ?_
  | with_reducible refine r_addI ?_
  | with_reducible refine r_subI ?_
  | with_reducible refine r_ltI ?_
  | with_reducible refine r_gtI ?_
  | with_reducible refine r_leI ?_
  | with_reducible refine r_geI ?_
  | with_reducible refine r_eqI ?_
  | with_reducible refine r_neI ?_
  | with_reducible refine r_int ?_
  | with_reducible refine r_abs ?_
  | with_reducible refine r_not ?_
  | with_reducible refine r_and ?_
  | with_reducible refine r_or ?_
  | with_reducible refine r_tru ?_
  | with_reducible refine r_truB ?_
  | with_reducible refine r_lst ?_
  | with_reducible refine r_tup ?_
  | with_reducible refine r_BM ?_
  | with_reducible refine r_BM0 ?_
  | with_reducible refine r_tyS ?_
  | with_reducible refine r_gsub ?_
  | with_reducible refine r_then ?_
  | with_reducible refine r_lstRg ?_
  | with_reducible refine r_tupRg ?_
  | with_reducible refine r_rg2 ?_
  | with_reducible refine r_rg1 ?_
  | with_reducible refine r_ii ?_
  | with_reducible refine r_i ?_
  | with_reducible refine r_ipI ?_
  | with_reducible refine r_un ?_
  | with_reducible refine r_neg ?_
  | with_reducible refine r_isN ?_
  | with_reducible refine r_notN ?_
  | with_reducible refine r_notV ?_
  | with_reducible refine r_pnot ?_
  | with_reducible refine r_pif ?_
  | with_reducible refine r_andV ?_
  | with_reducible refine r_orV ?_
  | with_reducible refine r_ifE ?_
  | with_reducible refine r_chain ?_
  | with_reducible refine r_sl ?_
  | with_reducible refine r_noPart ?_
  | with_reducible refine r_part ?_
  | with_reducible refine r_brk ?_
  | with_reducible refine r_cont ?_
  | with_reducible refine r_retN ?_
  | with_reducible refine r_truI ?_
  | with_reducible refine r_B ?_
  | with_reducible refine r_for ?_
  | with_reducible refine r_rng1 ?_
  | with_reducible refine r_rng2 ?_
  | with_reducible refine r_rng3 ?_
  | with_reducible refine r_body ?_
  | with_reducible refine r_lc ?_
  | with_reducible refine r_yes ?_
  | ((with_reducible refine' r_mod ?k0 ?_); (case k0 => walk_at "side"))
  | ((with_reducible refine' r_mulI ?k0 ?_); (case k0 => first | exact Or.inl ⟨by omega, by omega⟩ | exact Or.inr ⟨by omega, by omega⟩))
  | ((with_reducible refine' r_lenL ?k0 ?_); (case k0 => walk_at "tk"))
  | ((with_reducible refine' r_lenT ?k0 ?_); (case k0 => walk_at "tk"))
  | ((with_reducible refine' r_truL ?k0 ?_); (case k0 => walk_at "tk"))
  | ((with_reducible refine' r_truT ?k0 ?_); (case k0 => walk_at "tk"))
  | ((with_reducible refine' r_ixL ?k0 ?k1 ?_); (case k0 => walk_at "tk"); (case k1 => first | assumption | rfl))
  | ((with_reducible refine' r_ixT ?k0 ?k1 ?_); (case k0 => walk_at "tk"); (case k1 => first | assumption | rfl))
  | ((with_reducible refine' r_new ?k0 ?_); (case k0 => walk_at "side"))
  | ((with_reducible refine' r_tyL ?k0 ?_); (case k0 => walk_at "tk"))
  | ((with_reducible refine' r_append ?k0 ?k1 ?_); (case k0 => walk_at "tk"); (case k1 => walk_at "side"))
  | ((with_reducible refine' r_setL ?k0 ?k1 ?_); (case k0 => walk_at "tk"); (case k1 => first | assumption | rfl))
  | ((with_reducible refine' r_kTupL ?k0 ?_); (case k0 => walk_at "tk"))
  | ((with_reducible refine' r_kTupT ?k0 ?_); (case k0 => walk_at "tk"))
  | ((with_reducible refine' r_listL ?k0 ?_); (case k0 => walk_at "tk"))
  | ((with_reducible refine' r_listT ?k0 ?_); (case k0 => walk_at "tk"))
  | ((with_reducible refine' r_aug ?k0 ?_); (case k0 => rfl))
  | ((with_reducible refine' r_lenS ?k0 ?_); (case k0 => walk_at "side"))
  | ((with_reducible refine' r_pop ?k0 ?_); (case k0 => walk_at "tk"))
  | ((with_reducible refine' r_pr1 ?k0 ?_); (case k0 => walk_at "rng"))
  | ((with_reducible refine' r_pr2 ?k0 ?_); (case k0 => walk_at "rng"))
  | ((with_reducible refine' r_pr3d ?k0 ?_); (case k0 => walk_at "rng"))
  | ((with_reducible refine' r_isiI ?k0 ?_); (case k0 => walk_at "kit"))
  | ((with_reducible refine' r_isiB ?k0 ?_); (case k0 => walk_at "kit"))
  | ((with_reducible refine' r_isiS ?k0 ?_); (case k0 => walk_at "kit"))
  | ((with_reducible refine' r_isiN ?k0 ?_); (case k0 => walk_at "kit"))
  | ((with_reducible refine' r_isiT ?k0 ?k1 ?_); (case k0 => walk_at "tk"); (case k1 => walk_at "kit"))
  | ((with_reducible refine r_seqT ?_); (repeat (walk_at "rd1")); ((with_reducible refine' r_pseqT ?k0 ?_); (case k0 => walk_at "tk")))
  | ((with_reducible refine r_seqL ?_); (repeat (walk_at "rd1")); ((with_reducible refine' r_pseqL ?k0 ?_); (case k0 => walk_at "tk")))
  | ((with_reducible refine r_seqS ?_); (repeat (walk_at "rd1")); (with_reducible refine r_pseqS ?_)))
local macro_rules | `(tactic| walk_at "rd") => `(tactic| ((repeat (walk_at "rd1")); (try dsimp only)))
local macro_rules | `(tactic| walk_at "rd1") => `(tactic| first
  | with_reducible refine r_BMT ?_
  | with_reducible refine r_par ?_
  | with_reducible refine r_parV ?_
  | ((with_reducible refine' r_ptp ?k0 ?k1 ?_); (case k0 => walk_at "tk"); (case k1 => walk_at "tk"))
  | with_reducible refine r_eqS ?_
  | with_reducible refine r_neS ?_
  | with_reducible refine r_callW ?_
  | with_reducible refine r_try ?_
  | with_reducible refine r_enT ?_
  | ((with_reducible refine' r_pen ?k0 ?_); (case k0 => walk_at "tk")))
local macro_rules | `(tactic| walk_at "pl0") => `(tactic| first
  | assumption
  | exact pl_same (by assumption) (by assumption)
  | exact pl_same (by assumption) (pl_same (by assumption) (by assumption))
  | exact pl_same (by assumption) (pl_same (by assumption) (pl_same (by assumption) (by assumption))))
local macro_rules | `(tactic| walk_at "pl") => `(tactic| first
  | walk_at "pl0"
  | ((with_reducible refine' pl_butL ?s ?n ?k); (case s => assumption); (case n => walk_at "ne"); (case k => walk_at "pl"))
  | ((with_reducible refine' pl_same ?s ?k); (case s => assumption); (case k => walk_at "pl")))
local macro_rules | `(tactic| walk_at "ne") => `(tactic| first
  | exact ne_pl (by assumption) (by walk_at "pl0")
  | exact (ne_pl (by assumption) (by walk_at "pl0")).symm)
local macro_rules | `(tactic| walk_at "fr") => `(tactic| first
  | assumption
  | ((with_reducible refine' free_but ?b ?n ?h); (case h => assumption); (case n => walk_at "ne"); (case b => walk_at "but"))
  | ((with_reducible refine' Same.free ?b ?h); (case h => assumption); (case b => walk_at "same")))
local macro_rules | `(tactic| walk_at "but") => `(tactic| first
  | assumption
  | exact But.refl
  | ((with_reducible refine' But.trans ?a ?b); (case b => assumption); (case a => walk_at "but"))
  | ((with_reducible refine' But.trans ?a (Same.but ?b)); (case b => assumption); (case a => walk_at "but"))
  | ((with_reducible refine' but_via ?a ?b ?c); (case b => assumption); (case c => walk_at "fr"); (case a => walk_at "but")))
local macro_rules | `(tactic| walk_at "same") => `(tactic| first
  | assumption
  | exact Same.refl _
  | ((with_reducible refine' Same.trans ?a ?b); (case b => assumption); (case a => walk_at "same"))
  | ((with_reducible refine' same_but ?a ?b ?c); (case b => assumption); (case c => walk_at "fr"); (case a => walk_at "same")))
local macro_rules | `(tactic| walk_at "tk") => `(tactic| first
  | ((with_reducible refine' sqT_pl ?s ?t ?k); (case s => assumption); (case t => walk_at "pl0"); (case k => walk_at "tk"))
  | ((with_reducible refine' rp_same ?s ?k); (case s => assumption); (case k => walk_at "tk"))
  | ((with_reducible refine' rp_pl ?s ?t ?k); (case s => assumption); (case t => walk_at "pl0"); (case k => walk_at "tk")))
local macro_rules | `(tactic| walk_at "it") => `(tactic| first
  | assumption
  | ((with_reducible refine' sqI_1 ?k); (case k => assumption))
  | ((with_reducible refine' sqI_0 ?k); (case k => assumption))
  | ((with_reducible refine' sqI_of ?k); (case k => assumption))
  | ((with_reducible refine' sqI_D ?k); (case k => assumption))
  | ((with_reducible refine' sqT_same ?s ?k); (case s => assumption); (case k => walk_at "it"))
  | ((with_reducible refine' sqT_but ?s ?t ?k); (case s => assumption); (case t => assumption); (case k => walk_at "it"))
  | ((with_reducible refine' sqT_pl ?s ?t ?k); (case s => assumption); (case t => walk_at "pl0"); (case k => walk_at "it")))
local macro_rules | `(tactic| walk_at "sz") => `(tactic| first | omega | ((try simp only [List.length_cons, List.length_nil] at *); omega))
local macro_rules | `(tactic| walk_at "au1") => `(tactic| first
  | walk_at "rd1"
  | ((with_reducible refine' r_draw ?k0 ?k1 ?k2 ?_); (case k0 => walk_at "pl"); (case k1 => omega); (case k2 => omega); (intro _ _ _ _ _ _))
  | ((with_reducible refine' r_slN ?k0 ?_); (case k0 => walk_at "it"); (intro _ _ _ _ _ _))
  | ((with_reducible refine' r_catN ?k0 ?k1 ?k2 ?_); (case k0 => walk_at "it"); (case k1 => walk_at "it"); (case k2 => walk_at "sz"); (intro _ _ _ _ _ _))
  | ((with_reducible refine' r_pow ?k0 ?_); (case k0 => exact ⟨by decide, by decide, by decide⟩))
  | ((with_reducible refine' r_ixI ?k0 ?k1 ?k2 ?_); (case k0 => walk_at "it"); (case k1 => omega); (case k2 => omega); (intro _ _))
  | ((with_reducible refine' r_setI ?k0 ?k1 ?k2 ?_); (case k0 => walk_at "tk"); (case k1 => omega); (case k2 => omega); (intro _ _ _ _ _))
  | ((with_reducible refine' r_kTupI ?k0 ?_); (case k0 => walk_at "tk"); (intro _ _ _ _ _))
  | ((with_reducible refine' r_listI ?k0 ?_); (case k0 => walk_at "it"); (intro _ _ _ _ _))
  | (with_reducible refine r_revU ?_)
  | ((with_reducible refine' r_prevN ?k0 ?_); (case k0 => walk_at "it"); (intro _ _ _ _ _ _))
  | (intro _ _ _ _ _))
local macro_rules | `(tactic| walk_at "go") => `(tactic| ((repeat (walk_at "au1")); (first
  | ((with_reducible refine r_ite (fun _ => ?_) (fun _ => ?_)) <;> (walk_at "go"))
  | ((with_reducible refine r_iteN (fun _ => ?_) (fun _ => ?_)) <;> (walk_at "go"))
  | dsimp only
  | skip)))
local macro_rules | `(tactic| walk_at "au1") => `(tactic| first
  | with_reducible refine r_revS ?_
  | ((with_reducible refine' r_prevSN ?k0 ?_); (case k0 => walk_at "sz"); (intro _ _))
  | ((with_reducible refine' r_slSN ?k0 ?_); (case k0 => walk_at "sz"); (intro _ _))
  | ((with_reducible refine' r_catSN ?k0 ?_); (case k0 => walk_at "sz"); (intro _ _))
  | ((with_reducible refine' r_lenSS ?k0 ?_); (case k0 => walk_at "sz")))
abbrev XN : List Str := ["ChamberError", "BadStage", "BadChange", "BadNotation", "BadComposition"]
def sumL (css : List (List Int)) : Nat := (css.map fun c => c.length + 1).sum
def sumP (ps : List (List Nat)) : Nat := (ps.map fun p => p.length + 3).sum
theorem sumL_app (a b : List (List Int)) : sumL (a ++ b) = sumL a + sumL b := by unfold sumL; rw [List.map_append, List.sum_append]
theorem sumL_rev : ∀ a : List (List Int), sumL a.reverse = sumL a
  | [] => rfl
  | x :: r => by
    rw [List.reverse_cons, sumL_app, sumL_rev r]
    show sumL r + ((x.length + 1) + 0) = (x.length + 1) + sumL r
    omega
theorem sumL_fold (b : List (List Int)) : sumL (foldL b) ≤ 2 * sumL b := by
  rw [foldL_eq, sumL_app, sumL_rev]
  rcases List.eq_nil_or_concat b with z | ⟨r, x, z⟩
  · subst z; exact Nat.le_refl _
  · rw [List.concat_eq_append] at z
    subst z
    rw [List.dropLast_concat, sumL_app]; omega
theorem sumP_spl (c : Nat) : ∀ (l acc : List Nat), sumP (splC c acc l) ≤ acc.length + 4 * l.length + 3
  | [], acc => by show (acc.length + 3) + 0 ≤ _; omega
  | x :: r, acc => by
    have e : splC c acc (x :: r) = if x = c then acc :: splC c [] r else splC c (acc ++ [x]) r := rfl
    rw [e]
    by_cases h : x = c
    · rw [if_pos h]
      have := sumP_spl c r []
      show (acc.length + 3) + sumP (splC c [] r) ≤ _
      simp at this ⊢; omega
    · rw [if_neg h]
      have := sumP_spl c r (acc ++ [x])
      simp at this ⊢; omega
theorem sumP_filter (f : List Nat → Bool) : ∀ ps : List (List Nat), sumP (ps.filter f) ≤ sumP ps
  | [] => Nat.le_refl _
  | p :: r => by
    have := sumP_filter f r
    rw [List.filter_cons]
    have e : sumP (p :: r) = (p.length + 3) + sumP r := rfl
    rw [e]
    split
    · show (p.length + 3) + sumP (r.filter f) ≤ _; omega
    · omega
theorem lawC_len (n : Int) (p : List Nat) : (lawC n p).length ≤ p.length + 2 := by
  unfold lawC
  split
  · simp
  · dsimp only
    split <;> split <;> simp
theorem sumL_law (n : Int) : ∀ ps : List (List Nat), sumL (ps.map (lawC n)) ≤ sumP ps
  | [] => Nat.le_refl _
  | p :: r => by
    have := sumL_law n r
    have h := lawC_len n p
    show ((lawC n p).length + 1) + sumL (r.map (lawC n)) ≤ (p.length + 3) + sumP r
    omega
theorem sumL_part (n : Int) (p : List Nat) : sumL (lawP n p) ≤ 24 * p.length + 6 := by
  have lb : (bdy p).length ≤ p.length := by unfold bdy; rw [List.length_drop]; omega
  have h1 : sumL ((pcs (bdy p)).map (lawC n)) ≤ 12 * p.length + 3 := by
    refine Nat.le_trans (sumL_law n _) ?_
    unfold pcs prE
    refine Nat.le_trans (sumP_filter _ _) ?_
    have := sumP_spl 46 (rep1 (bdy p)) []
    have h2 := rep1_len (bdy p)
    rw [List.length_nil] at this
    omega
  unfold lawP
  split
  · have := sumL_fold ((pcs (bdy p)).map (lawC n)); omega
  · omega
theorem sumL_flat (n : Int) {M : Nat} : ∀ ps : List (List Nat), (∀ p ∈ ps, p.length ≤ M) → sumL (ps.flatMap (lawP n)) ≤ ps.length * (24 * M + 6)
  | [], _ => Nat.zero_le _
  | p :: r, h => by
    have h1 := sumL_flat n r fun q hq => h q (by simp [hq])
    have h2 := sumL_part n p
    have h3 := h p (by simp)
    rw [List.flatMap_cons, sumL_app, List.length_cons, Nat.succ_mul]
    omega
theorem size_sumL : ∀ css : List (List Int), Dat.sizes (css.map fun c => Dat.tup (c.map Dat.int)) = sumL css
  | [] => rfl
  | c :: r => by
    have := size_sumL r
    show (Dat.tup (c.map Dat.int)).size + Dat.sizes (r.map fun c => Dat.tup (c.map Dat.int)) = (c.length + 1) + sumL r
    rw [size_row, this]
theorem law_size {n : Int} {l : List Nat} (hl : l.length ≤ 5100) (hc : colN n 44 0 0 l = 0) : (Dat.tup ((lawN n l).map fun c => .tup (c.map .int))).size ≤ 1000000 := by
  have h1 := few_parts l 44 0 0 [] (by omega) hc
  have h2 := sumL_flat n (M := 5100) (splC 44 [] l) fun p hp => by have := (splC_len 44 l []).2 p hp; simp at this; omega
  show 1 + Dat.sizes _ ≤ _
  rw [size_sumL]
  have h3 : (splC 44 [] l).length * (24 * 5100 + 6) ≤ 2 * (24 * 5100 + 6) := Nat.mul_le_mul_right _ (by omega)
  unfold lawN
  omega
def sp_law_read (K : PySem.W.Frag) : Sp := fun vs H Q _ => ∃ (s : Int) (l : List Nat), vs = [.int s, .str (S l)] ∧ l.length ≤ 20000 ∧ ∀ o H' (k : Str) (c : Int) (v : V), Same H H' → H' o = some (.lst [.str k, .int c, v]) → (¬ Stg s → k = "BadStage") →
  (∀ n : Nat, s = (n : Int) → 1 ≤ n → n ≤ 12 → (colN n 44 0 0 l ≠ 0 → k = "BadNotation" ∧ c = (colN n 44 0 0 l : Nat)) ∧ (colN n 44 0 0 l = 0 → k = "" ∧ ∃ (p : Addr) (ys : List V), v = .ref p ∧ SqT K H' p ys ∧ TL K H' ys (readN n l))) → Q (.ref o) H'
def sp_law_answered (K : PySem.W.Frag) : Sp := fun vs H Q _ => ∃ (s : Int) (l : List Nat), vs = [.int s, .str (S l)] ∧ l.length ≤ 5100 ∧ ∀ H', Same H H' → Q (.bl true) H'
abbrev N_law_read : List Str := ["stage", "text", "kind", "word", "column", "alone", "told", "e"]
def t_law_read (K : PySem.W.Frag) (ec : Str → Addr) : TS :=
  tSeq (tAsg ((tC (.str ""))) (gName 2))
  (tSeq (tAsg ((tC (.str ""))) (gName 3))
  (tSeq (tAsg ((tC (.int 0))) (gName 4))
  (tSeq (tAsg ((tC (.bl true))) (gName 5))
  (tSeq (tAsg ((tC .non)) (gName 6))
  (tSeq (tTry K W0 [⟨.ref (ec "BadStage"), some 7, fun a cls d => tSeq (tAsg ((tC (.str "BadStage"))) (gName 2))
  (tSeq (tAsg ((tXfA K a cls d "word" (tVar 7))) (gName 3))
  ((tAsg ((tAndV ((tCB (rIsX K a cls d) (tCons (tVar 7) (tCons ((tC (.ref (ec "ChamberError")))) tNil)))) ((tAndV ((tCB (rIsX K a cls d) (tCons (tVar 7) (tCons ((tC (.ty "ValueError"))) tNil)))) ((tNotV ((tCB (rIsX K a cls d) (tCons (tVar 7) (tCons ((tTup (tCons ((tC (.ref (ec "BadNotation")))) (tCons ((tC (.ref (ec "BadChange")))) tNil)))) tNil)))))))))) (gName 5))))⟩, ⟨.ref (ec "BadNotation"), some 7, fun a cls d => tSeq (tAsg ((tC (.str "BadNotation"))) (gName 2))
  (tSeq (tAsg ((tXfA K a cls d "word" (tVar 7))) (gName 3))
  (tSeq (tAsg ((tXfA K a cls d "column" (tVar 7))) (gName 4))
  ((tAsg ((tAndV ((tCB (rIsX K a cls d) (tCons (tVar 7) (tCons ((tC (.ref (ec "ChamberError")))) tNil)))) ((tAndV ((tCB (rIsX K a cls d) (tCons (tVar 7) (tCons ((tC (.ty "ValueError"))) tNil)))) ((tNotV ((tCB (rIsX K a cls d) (tCons (tVar 7) (tCons ((tTup (tCons ((tC (.ref (ec "BadComposition")))) (tCons ((tC (.ref (ec "BadChange")))) tNil)))) tNil)))))))))) (gName 5)))))⟩, ⟨.ref (ec "ChamberError"), none, fun a cls d => (tAsg ((tC (.str "another"))) (gName 2))⟩] (fun W => (tAsg ((tCallW (sp_read_notation K ec) W (tCons (tVar 0) (tCons (tVar 1) tNil)))) (gName 6))))
  (tSeq (tIfS ((tAnd ((tTest (tOp (rNeU K) (tVar 2) ((tC (.str "")))))) ((tNot ((tAnd ((tTru K (tVar 5))) ((tTru K ((tCall (sp_law_same K) [] E0 (tCons (tVar 3) (tCons (tVar 2) tNil)))))))))))) ((tAsg ((tC (.str "another"))) (gName 2))) (tNext))
  ((tRet ((tLst (tCons (tVar 2) (tCons (tVar 4) (tCons (tVar 6) tNil)))))))))))))
abbrev N_law_answered : List Str := ["stage", "text", "told", "column"]
def t_law_answered (K : PySem.W.Frag) : TS :=
  tSeq (tAsg ((tCall (sp_law_read K) [] E0 (tCons (tVar 0) (tCons (tVar 1) tNil)))) (gName 2))
  (tSeq (tIfS ((tOr ((tTest (tOp (rLtU K) (tVar 0) ((tC (.int 1)))))) ((tTest (tOp rGtU (tVar 0) ((tC (.int 12)))))))) ((tRet ((tOp (rEqU K) ((tOp (rIx K) (tVar 2) ((tC (.int 0))))) ((tC (.str "BadStage"))))))) (tNext))
  (tSeq (tAsg ((tCall (sp_law_column K) [] E0 (tCons (tVar 0) (tCons (tVar 1) tNil)))) (gName 3))
  (tSeq (tIfS ((tTest (tOp rGtU (tVar 3) ((tC (.int 0)))))) ((tRet ((tAndV ((tOp (rEqU K) ((tOp (rIx K) (tVar 2) ((tC (.int 0))))) ((tC (.str "BadNotation"))))) ((tCall (sp_law_same K) [] E0 (tCons ((tOp (rIx K) (tVar 2) ((tC (.int 1))))) (tCons (tVar 3) tNil)))))))) (tNext))
  ((tRet ((tAndV ((tOp (rEqU K) ((tOp (rIx K) (tVar 2) ((tC (.int 0))))) ((tC (.str ""))))) ((tCall (sp_law_same K) [] E0 (tCons ((tOp (rIx K) (tVar 2) ((tC (.int 2))))) (tCons ((tCall (sp_law_changes K) [] E0 (tCons (tVar 0) (tCons (tVar 1) tNil)))) tNil)))))))))))
section
variable {K : PySem.W.Frag} {ec : Str → Addr} {vs : List V} {H : Hp} {Q : VK} {E : XK}
theorem len_law_read (h : sp_law_read K vs H Q E) : vs.length = 2 := by obtain ⟨s, d, rfl, _⟩ := h; rfl
theorem len_law_answered (h : sp_law_answered K vs H Q E) : vs.length = 2 := by obtain ⟨s, d, rfl, _⟩ := h; rfl
theorem pure_law_read (XS : Exs K ec XN) (h : sp_law_read K vs H Q E) : t_law_read K ec (En Q) (start N_law_read vs) H := by
  obtain ⟨s, l, rfl, hl, q⟩ := h
  unfold t_law_read
  walk_at "rd"
  refine ⟨s, l, rfl, hl, fun hs d H' s' nd e => ?_, fun n en n1 n2 => ⟨fun hcol d H' s' nd e => ?_, fun hcol t H1 ys nt s1 e1 t1 _ => ?_⟩⟩
  · have BU := XS.bad "BadStage" (by decide)
    refine w_yes (by rw [XS.exm "BadStage" (by decide) "BadStage" (by decide)]; rfl) fun ea na => ?_
    dsimp only
    refine r_seq (r_asg (r_c (r_name ?_)))
    dsimp only
    refine r_seq (r_asg ?_)
    refine r_xfV (v := .str "BadStage") BU.xf BU.nw rfl e rfl ?_
    refine r_name ?_
    dsimp only
    refine r_asg ?_
    refine r_alone XS (x := "BadStage") (by decide) (by decide) (by decide) (by decide) (by decide) (by decide) rfl e fun H2 s2 => ?_
    refine r_name (r_endsAs ?_)
    dsimp only
    walk_at "rd"
    refine r_iteNM (by decide) ?_
    walk_at "rd"
    refine ⟨.str "BadStage", .str "BadStage", .str "BadStage", rfl, .str _, .str _, by decide, fun H3 s3 => ?_⟩
    walk_at "rd"
    intro p H4 np s4 e4
    exact q p H4 _ _ _ (((s'.trans s2).trans s3).trans s4) e4 (fun _ => rfl) (fun n en n1 n2 => absurd ⟨by omega, by omega⟩ hs)
  · subst en
    have BU := XS.bad "BadNotation" (by decide)
    refine w_no (by rw [XS.exm "BadNotation" (by decide) "BadStage" (by decide)]; rfl) ?_
    refine w_yes (by rw [XS.exm "BadNotation" (by decide) "BadNotation" (by decide)]; rfl) fun ea na => ?_
    dsimp only
    refine r_seq (r_asg (r_c (r_name ?_)))
    dsimp only
    refine r_seq (r_asg ?_)
    refine r_xfV (v := .str "BadNotation") BU.xf BU.nw rfl e rfl ?_
    refine r_name ?_
    dsimp only
    refine r_seq (r_asg ?_)
    refine r_xfV (v := .int (colN n 44 0 0 l : Nat)) BU.xf (BU.nf "column" (by decide)) rfl e rfl ?_
    refine r_name ?_
    dsimp only
    refine r_asg ?_
    refine r_alone XS (x := "BadNotation") (by decide) (by decide) (by decide) (by decide) (by decide) (by decide) rfl e fun H2 s2 => ?_
    refine r_name (r_endsAs ?_)
    dsimp only
    walk_at "rd"
    refine r_iteNM (by decide) ?_
    walk_at "rd"
    refine ⟨.str "BadNotation", .str "BadNotation", .str "BadNotation", rfl, .str _, .str _, by decide, fun H3 s3 => ?_⟩
    walk_at "rd"
    intro p H4 np s4 e4
    refine q p H4 _ _ _ (((s'.trans s2).trans s3).trans s4) e4 (fun hs => absurd ⟨by omega, by omega⟩ hs) fun m em m1 m2 => ?_
    obtain rfl : n = m := by omega
    exact ⟨fun _ => ⟨rfl, rfl⟩, fun z => absurd z hcol⟩
  · subst en
    walk_at "rd"
    refine r_iteNP rfl ?_
    refine r_F (r_next ?_)
    walk_at "rd"
    intro p H4 np s4 e4
    refine q p H4 _ _ _ (s1.trans s4) e4 (fun hs => absurd ⟨by omega, by omega⟩ hs) fun m em m1 m2 => ?_
    obtain rfl : n = m := by omega
    exact ⟨fun z => absurd hcol z, fun _ => ⟨rfl, t, ys, rfl, sqT_same s4 e1, t1.same s4⟩⟩
theorem pure_law_answered (h : sp_law_answered K vs H Q E) : t_law_answered K (En Q) (start N_law_answered vs) H := by
  obtain ⟨s, l, rfl, hl, q⟩ := h
  unfold t_law_answered
  walk_at "rd"
  refine ⟨s, l, rfl, by omega, fun o H1 k c v s1 e1 kS kn => ?_⟩
  have a0 : atI [V.str k, .int c, v] 0 = some (.str k) := rfl
  have a1 : atI [V.str k, .int c, v] 1 = some (.int c) := rfl
  have a2 : atI [V.str k, .int c, v] 2 = some v := rfl
  walk_at "rd"
  by_cases hs : Stg s
  · obtain ⟨n, rfl⟩ : ∃ n : Nat, s = (n : Int) := ⟨s.toNat, by have := hs.1; omega⟩
    obtain ⟨kb, kg⟩ := kn n rfl (by have := hs.1; omega) (by have := hs.2; omega)
    refine r_iteM (by have := hs.1; omega) ?_
    walk_at "rd"
    refine r_iteM (by have := hs.2; omega) ?_
    walk_at "rd"
    refine ⟨n, l, rfl, by omega, fun H2 s2 => ?_⟩
    have e2 := s2 _ _ e1
    walk_at "rd"
    by_cases hc : colN n 44 0 0 l = 0
    · refine r_iteM (by omega) ?_
      obtain ⟨rfl, p, ys, rfl, ep, tp⟩ := kg hc
      walk_at "rd"
      refine r_iteP rfl ?_
      walk_at "rd"
      refine ⟨n, l, rfl, by omega, hc, fun u H3 zs nu s3 eu tz => ?_⟩
      rw [read_law (by omega) hc] at tp
      walk_at "rd"
      refine ⟨_, _, _, rfl, TL.rp (sqT_same (s2.trans s3) ep) ((tp.same s2).same s3), TL.rp eu tz, law_size hl hc, fun H4 s4 => ?_⟩
      exact q H4 (((s1.trans s2).trans s3).trans s4)
    · refine r_iteP (by omega) ?_
      obtain ⟨rfl, rfl⟩ := kb hc
      walk_at "rd"
      refine r_iteP rfl ?_
      walk_at "rd"
      refine ⟨_, _, _, rfl, .int _, .int _, by show 1 ≤ 1000000; decide, fun H4 s4 => ?_⟩
      exact q H4 ((s1.trans s2).trans s4)
  · have := kS hs
    subst this
    by_cases h1 : s < 1
    · refine r_iteP h1 ?_
      refine r_T ?_
      walk_at "rd"
      exact q H1 s1
    · refine r_iteM h1 ?_
      walk_at "rd"
      refine r_iteP (by
        by_cases h2 : 12 < s
        · exact h2
        · exact absurd ⟨by omega, by omega⟩ hs) ?_
      walk_at "rd"
      exact q H1 s1
end
end K11
end Kb
set_option Elab.async false
set_option linter.all false
set_option maxRecDepth 100000
set_option maxHeartbeats 4000000
namespace Kb
namespace K11
open PySem PySem.Spec PyProof.Rows L2 SX
open K8 (TL)
local macro_rules | `(tactic| walk_at "tk") => `(tactic| first
  | assumption
  | ((with_reducible refine' sqT_of ?k); (case k => assumption))
  | ((with_reducible refine' sqT_ofD ?k); (case k => assumption))
  | ((with_reducible refine' noD_of ?k); (case k => assumption))
  | ((with_reducible refine' noD_same ?s ?k); (case s => assumption); (case k => walk_at "tk"))
  | ((with_reducible refine' sqL_of ?k); (case k => assumption))
  | ((with_reducible refine' sqT_same ?s ?k); (case s => assumption); (case k => walk_at "tk"))
  | ((with_reducible refine' sqL_same ?s ?k); (case s => assumption); (case k => walk_at "tk"))
  | ((with_reducible refine' sqT_but ?s ?t ?k); (case s => assumption); (case t => walk_at "tk"); (case k => walk_at "tk"))
  | ((with_reducible refine' sqL_but ?s ?t ?k); (case s => assumption); (case t => walk_at "ne"); (case k => walk_at "tk"))
  | ((with_reducible refine' sqL_of ?k); (case k => walk_at "tk"))
  | ((with_reducible refine' sqT_of ?k); (case k => walk_at "tk"))
  | ((with_reducible refine' at_same ?s ?k); (case s => assumption); (case k => walk_at "tk"))
  | ((with_reducible refine' at_but ?s ?t ?k); (case s => assumption); (case t => walk_at "ne"); (case k => walk_at "tk")))
local macro_rules | `(tactic| walk_at "ne") => `(tactic| first
  | assumption
  | (refine Ne.symm ?_; assumption)
  | exact ne_of_none (by assumption) (by assumption)
  | exact (ne_of_none (by assumption) (by assumption)).symm)
local macro_rules | `(tactic| walk_at "side") => `(tactic| first
  | assumption
  | omega
  | (simp only [sizeLine_eq, List.length_cons, List.length_nil, List.length_map]; omega)
  | (show _ ≤ sizeLine; decide))
local macro_rules | `(tactic| walk_at "kit") => `(tactic| first
  | (show kitB _ _ = some true; decide +kernel)
  | (show kitB _ _ = some false; decide +kernel))
local macro_rules | `(tactic| walk_at "rng") => `(tactic| first
  | (refine ⟨by omega, by omega, by omega, by omega⟩)
  | (refine ⟨by omega, by omega⟩)
  | ((simp only [List.length_map]); (refine ⟨by omega, by omega, by omega, by omega⟩))
  | ((simp only [List.length_map]); (refine ⟨by omega, by omega⟩)))
local macro_rules | `(tactic| walk_at "rd1") => `(tactic| first
  | with_reducible refine r_seq ?_
  | ((with_reducible refine' r_var ?k0 ?_); (case k0 => rfl))
  | with_reducible refine r_op ?_
  | with_reducible refine r_c ?_
  | with_reducible refine r_asg ?_
  | with_reducible refine r_name ?_
  | with_reducible refine r_cons ?_
  | with_reducible refine r_nil ?_
  | with_reducible refine r_CB ?_
  | with_reducible refine r_if ?_
  | with_reducible refine r_test ?_
  | with_reducible refine r_k ?_
  | with_reducible refine r_T ?_
  | with_reducible refine r_F ?_
  | with_reducible refine r_nT ?_
  | with_reducible refine r_nF ?_
  | with_reducible refine r_ret ?_
  | with_reducible refine r_drop ?_
  | with_reducible refine r_next ?_
  | with_reducible refine r_call ?_
  | with_reducible refine r_addI ?_
  | with_reducible refine r_subI ?_
  | with_reducible refine r_ltI ?_
  | with_reducible refine r_gtI ?_
  | with_reducible refine r_leI ?_
  | with_reducible refine r_geI ?_
  | with_reducible refine r_eqI ?_
  | with_reducible refine r_neI ?_
  | with_reducible refine r_int ?_
  | with_reducible refine r_abs ?_
  | with_reducible refine r_not ?_
  | with_reducible refine r_and ?_
  | with_reducible refine r_or ?_
  | with_reducible refine r_tru ?_
  | with_reducible refine r_truB ?_
  | with_reducible refine r_lst ?_
  | with_reducible refine r_tup ?_
  | with_reducible refine r_BM ?_
  | with_reducible refine r_BM0 ?_
  | with_reducible refine r_tyS ?_
  | with_reducible refine r_gsub ?_
  | with_reducible refine r_then ?_
  | with_reducible refine r_lstRg ?_
  | with_reducible refine r_tupRg ?_
  | with_reducible refine r_rg2 ?_
  | with_reducible refine r_rg1 ?_
  | with_reducible refine r_ii ?_
  | with_reducible refine r_i ?_
  | with_reducible refine r_ipI ?_
  | with_reducible refine r_un ?_
  | with_reducible refine r_neg ?_
  | with_reducible refine r_isN ?_
  | with_reducible refine r_notN ?_
  | with_reducible refine r_notV ?_
  | with_reducible refine r_pnot ?_
  | with_reducible refine r_pif ?_
  | with_reducible refine r_andV ?_
  | with_reducible refine r_orV ?_
  | with_reducible refine r_ifE ?_
  | with_reducible refine r_chain ?_
  | with_reducible refine r_sl ?_
  | with_reducible refine r_noPart ?_
  | with_reducible refine r_part ?_
  | with_reducible refine r_brk ?_
  | with_reducible refine r_cont ?_
  | with_reducible refine r_retN ?_
  | with_reducible refine r_truI ?_
  | with_reducible refine r_B ?_
  | with_reducible refine r_for ?_
  | with_reducible refine r_rng1 ?_
  | with_reducible refine r_rng2 ?_
  | with_reducible refine r_rng3 ?_
  | with_reducible refine r_body ?_
  | with_reducible refine r_lc ?_
  | with_reducible refine r_yes ?_
  | ((with_reducible refine' r_mod ?k0 ?_); (case k0 => walk_at "side"))
  | ((with_reducible refine' r_mulI ?k0 ?_); (case k0 => first | exact Or.inl ⟨by omega, by omega⟩ | exact Or.inr ⟨by omega, by omega⟩))
  | ((with_reducible refine' r_lenL ?k0 ?_); (case k0 => walk_at "tk"))
  | ((with_reducible refine' r_lenT ?k0 ?_); (case k0 => walk_at "tk"))
  | ((with_reducible refine' r_truL ?k0 ?_); (case k0 => walk_at "tk"))
  | ((with_reducible refine' r_truT ?k0 ?_); (case k0 => walk_at "tk"))
  | ((with_reducible refine' r_ixL ?k0 ?k1 ?_); (case k0 => walk_at "tk"); (case k1 => first | assumption | rfl))
  | ((with_reducible refine' r_ixT ?k0 ?k1 ?_); (case k0 => walk_at "tk"); (case k1 => first | assumption | rfl))
  | ((with_reducible refine' r_new ?k0 ?_); (case k0 => walk_at "side"))
  | ((with_reducible refine' r_tyL ?k0 ?_); (case k0 => walk_at "tk"))
  | ((with_reducible refine' r_append ?k0 ?k1 ?_); (case k0 => walk_at "tk"); (case k1 => walk_at "side"))
  | ((with_reducible refine' r_setL ?k0 ?k1 ?_); (case k0 => walk_at "tk"); (case k1 => first | assumption | rfl))
  | ((with_reducible refine' r_kTupL ?k0 ?_); (case k0 => walk_at "tk"))
  | ((with_reducible refine' r_kTupT ?k0 ?_); (case k0 => walk_at "tk"))
  | ((with_reducible refine' r_listL ?k0 ?_); (case k0 => walk_at "tk"))
  | ((with_reducible refine' r_listT ?k0 ?_); (case k0 => walk_at "tk"))
  | ((with_reducible refine' r_aug ?k0 ?_); (case k0 => rfl))
  | ((with_reducible refine' r_lenS ?k0 ?_); (case k0 => walk_at "side"))
  | ((with_reducible refine' r_pop ?k0 ?_); (case k0 => walk_at "tk"))
  | ((with_reducible refine' r_pr1 ?k0 ?_); (case k0 => walk_at "rng"))
  | ((with_reducible refine' r_pr2 ?k0 ?_); (case k0 => walk_at "rng"))
  | ((with_reducible refine' r_pr3d ?k0 ?_); (case k0 => walk_at "rng"))
  | ((with_reducible refine' r_isiI ?k0 ?_); (case k0 => walk_at "kit"))
  | ((with_reducible refine' r_isiB ?k0 ?_); (case k0 => walk_at "kit"))
  | ((with_reducible refine' r_isiS ?k0 ?_); (case k0 => walk_at "kit"))
  | ((with_reducible refine' r_isiN ?k0 ?_); (case k0 => walk_at "kit"))
  | ((with_reducible refine' r_isiT ?k0 ?k1 ?_); (case k0 => walk_at "tk"); (case k1 => walk_at "kit"))
  | ((with_reducible refine r_seqT ?_); (repeat (walk_at "rd1")); ((with_reducible refine' r_pseqT ?k0 ?_); (case k0 => walk_at "tk")))
  | ((with_reducible refine r_seqL ?_); (repeat (walk_at "rd1")); ((with_reducible refine' r_pseqL ?k0 ?_); (case k0 => walk_at "tk")))
  | ((with_reducible refine r_seqS ?_); (repeat (walk_at "rd1")); (with_reducible refine r_pseqS ?_)))
local macro_rules | `(tactic| walk_at "rd") => `(tactic| ((repeat (walk_at "rd1")); (try dsimp only)))
local macro_rules | `(tactic| walk_at "rd1") => `(tactic| first
  | with_reducible refine r_BMT ?_
  | with_reducible refine r_par ?_
  | with_reducible refine r_parV ?_
  | ((with_reducible refine' r_ptp ?k0 ?k1 ?_); (case k0 => walk_at "tk"); (case k1 => walk_at "tk"))
  | with_reducible refine r_eqS ?_
  | with_reducible refine r_neS ?_
  | with_reducible refine r_callW ?_
  | with_reducible refine r_try ?_
  | with_reducible refine r_enT ?_
  | ((with_reducible refine' r_pen ?k0 ?_); (case k0 => walk_at "tk")))
local macro_rules | `(tactic| walk_at "pl0") => `(tactic| first
  | assumption
  | exact pl_same (by assumption) (by assumption)
  | exact pl_same (by assumption) (pl_same (by assumption) (by assumption))
  | exact pl_same (by assumption) (pl_same (by assumption) (pl_same (by assumption) (by assumption))))
local macro_rules | `(tactic| walk_at "pl") => `(tactic| first
  | walk_at "pl0"
  | ((with_reducible refine' pl_butL ?s ?n ?k); (case s => assumption); (case n => walk_at "ne"); (case k => walk_at "pl"))
  | ((with_reducible refine' pl_same ?s ?k); (case s => assumption); (case k => walk_at "pl")))
local macro_rules | `(tactic| walk_at "ne") => `(tactic| first
  | exact ne_pl (by assumption) (by walk_at "pl0")
  | exact (ne_pl (by assumption) (by walk_at "pl0")).symm)
local macro_rules | `(tactic| walk_at "fr") => `(tactic| first
  | assumption
  | ((with_reducible refine' free_but ?b ?n ?h); (case h => assumption); (case n => walk_at "ne"); (case b => walk_at "but"))
  | ((with_reducible refine' Same.free ?b ?h); (case h => assumption); (case b => walk_at "same")))
local macro_rules | `(tactic| walk_at "but") => `(tactic| first
  | assumption
  | exact But.refl
  | ((with_reducible refine' But.trans ?a ?b); (case b => assumption); (case a => walk_at "but"))
  | ((with_reducible refine' But.trans ?a (Same.but ?b)); (case b => assumption); (case a => walk_at "but"))
  | ((with_reducible refine' but_via ?a ?b ?c); (case b => assumption); (case c => walk_at "fr"); (case a => walk_at "but")))
local macro_rules | `(tactic| walk_at "same") => `(tactic| first
  | assumption
  | exact Same.refl _
  | ((with_reducible refine' Same.trans ?a ?b); (case b => assumption); (case a => walk_at "same"))
  | ((with_reducible refine' same_but ?a ?b ?c); (case b => assumption); (case c => walk_at "fr"); (case a => walk_at "same")))
local macro_rules | `(tactic| walk_at "tk") => `(tactic| first
  | ((with_reducible refine' sqT_pl ?s ?t ?k); (case s => assumption); (case t => walk_at "pl0"); (case k => walk_at "tk"))
  | ((with_reducible refine' rp_same ?s ?k); (case s => assumption); (case k => walk_at "tk"))
  | ((with_reducible refine' rp_pl ?s ?t ?k); (case s => assumption); (case t => walk_at "pl0"); (case k => walk_at "tk")))
local macro_rules | `(tactic| walk_at "it") => `(tactic| first
  | assumption
  | ((with_reducible refine' sqI_1 ?k); (case k => assumption))
  | ((with_reducible refine' sqI_0 ?k); (case k => assumption))
  | ((with_reducible refine' sqI_of ?k); (case k => assumption))
  | ((with_reducible refine' sqI_D ?k); (case k => assumption))
  | ((with_reducible refine' sqT_same ?s ?k); (case s => assumption); (case k => walk_at "it"))
  | ((with_reducible refine' sqT_but ?s ?t ?k); (case s => assumption); (case t => assumption); (case k => walk_at "it"))
  | ((with_reducible refine' sqT_pl ?s ?t ?k); (case s => assumption); (case t => walk_at "pl0"); (case k => walk_at "it")))
local macro_rules | `(tactic| walk_at "sz") => `(tactic| first | omega | ((try simp only [List.length_cons, List.length_nil] at *); omega))
local macro_rules | `(tactic| walk_at "au1") => `(tactic| first
  | walk_at "rd1"
  | ((with_reducible refine' r_draw ?k0 ?k1 ?k2 ?_); (case k0 => walk_at "pl"); (case k1 => omega); (case k2 => omega); (intro _ _ _ _ _ _))
  | ((with_reducible refine' r_slN ?k0 ?_); (case k0 => walk_at "it"); (intro _ _ _ _ _ _))
  | ((with_reducible refine' r_catN ?k0 ?k1 ?k2 ?_); (case k0 => walk_at "it"); (case k1 => walk_at "it"); (case k2 => walk_at "sz"); (intro _ _ _ _ _ _))
  | ((with_reducible refine' r_pow ?k0 ?_); (case k0 => exact ⟨by decide, by decide, by decide⟩))
  | ((with_reducible refine' r_ixI ?k0 ?k1 ?k2 ?_); (case k0 => walk_at "it"); (case k1 => omega); (case k2 => omega); (intro _ _))
  | ((with_reducible refine' r_setI ?k0 ?k1 ?k2 ?_); (case k0 => walk_at "tk"); (case k1 => omega); (case k2 => omega); (intro _ _ _ _ _))
  | ((with_reducible refine' r_kTupI ?k0 ?_); (case k0 => walk_at "tk"); (intro _ _ _ _ _))
  | ((with_reducible refine' r_listI ?k0 ?_); (case k0 => walk_at "it"); (intro _ _ _ _ _))
  | (with_reducible refine r_revU ?_)
  | ((with_reducible refine' r_prevN ?k0 ?_); (case k0 => walk_at "it"); (intro _ _ _ _ _ _))
  | (intro _ _ _ _ _))
local macro_rules | `(tactic| walk_at "go") => `(tactic| ((repeat (walk_at "au1")); (first
  | ((with_reducible refine r_ite (fun _ => ?_) (fun _ => ?_)) <;> (walk_at "go"))
  | ((with_reducible refine r_iteN (fun _ => ?_) (fun _ => ?_)) <;> (walk_at "go"))
  | dsimp only
  | skip)))
local macro_rules | `(tactic| walk_at "au1") => `(tactic| first
  | with_reducible refine r_revS ?_
  | ((with_reducible refine' r_prevSN ?k0 ?_); (case k0 => walk_at "sz"); (intro _ _))
  | ((with_reducible refine' r_slSN ?k0 ?_); (case k0 => walk_at "sz"); (intro _ _))
  | ((with_reducible refine' r_catSN ?k0 ?_); (case k0 => walk_at "sz"); (intro _ _))
  | ((with_reducible refine' r_lenSS ?k0 ?_); (case k0 => walk_at "sz")))
def sp_law (K : PySem.W.Frag) : Sp := fun vs H Q _ => ∃ (a : Addr) (ns : List Int), vs = [.ref a] ∧ SqL K H a (ns.map V.int) ∧ ns.length ≤ 63 ∧ ∀ H', Q (.bl true) H'
abbrev N_law : List Str := ["script", "pool", "stage", "good", "bend", "text", "other", "far", "strange", "marks", "signs", "sign", "at"]
def t_law (K : PySem.W.Frag) : TS :=
  tSeq (tAsg ((tCall (sp_law_pool K) [] E0 (tCons (tVar 0) (tCons ((tC (.int 0))) tNil)))) (gName 1))
  (tSeq (tAsg ((tOp (rAddU K) ((tC (.int 1))) ((tCall (sp_law_draw K) [] E0 (tCons (tVar 1) (tCons ((tC (.int 12))) tNil)))))) (gName 2))
  (tSeq (tAsg ((tCall (sp_law_notation K) [] E0 (tCons (tVar 1) (tCons (tVar 2) tNil)))) (gName 3))
  (tSeq (tAsg ((tCall (sp_law_pool K) [] E0 (tCons (tVar 0) (tCons ((tC (.int 1))) tNil)))) (gName 4))
  (tSeq (tAsg ((tCall (sp_law_text K) [] E0 (tCons (tVar 4) (tCons (tVar 3) tNil)))) (gName 5))
  (tSeq (tIfS ((tOr ((tNot ((tTru K ((tCall (sp_law_answered K) [] E0 (tCons (tVar 2) (tCons (tVar 5) tNil)))))))) ((tNot ((tTru K ((tCall (sp_law_answered K) [] E0 (tCons (tVar 2) (tCons (tVar 3) tNil)))))))))) ((tRet ((tC (.bl false))))) (tNext))
  (tSeq (tAsg ((tOp (rAddU K) ((tC (.int 1))) ((tCall (sp_law_draw K) [] E0 (tCons (tVar 4) (tCons ((tC (.int 12))) tNil)))))) (gName 6))
  (tSeq (tIfS ((tOr ((tNot ((tTru K ((tCall (sp_law_answered K) [] E0 (tCons (tVar 6) (tCons (tVar 5) tNil)))))))) ((tOr ((tNot ((tTru K ((tCall (sp_law_answered K) [] E0 (tCons (tVar 6) (tCons (tVar 3) tNil)))))))) ((tNot ((tTru K ((tCall (sp_law_answered K) [] E0 (tCons (tVar 2) (tCons ((tC (.str ""))) tNil)))))))))))) ((tRet ((tC (.bl false))))) (tNext))
  (tSeq (tAsg ((tOp (rAddU K) ((tOp (rMulU K) ((tCall (sp_law_draw K) [] E0 (tCons (tVar 4) (tCons ((tOp rPowU ((tC (.int 10))) ((tC (.int 8))))) tNil)))) ((tOp rPowU ((tC (.int 10))) ((tC (.int 8))))))) ((tCall (sp_law_draw K) [] E0 (tCons (tVar 4) (tCons ((tOp rPowU ((tC (.int 10))) ((tC (.int 8))))) tNil)))))) (gName 7))
  (tSeq (tAsg ((tOp (rIx K) ((tLst (tCons ((tC (.int 0))) (tCons ((tC (.int 13))) (tCons ((tUn (rU fun i => .int (-i)) (tVar 7))) (tCons ((tOp (rAddU K) ((tC (.int 13))) (tVar 7))) tNil)))))) ((tCall (sp_law_draw K) [] E0 (tCons (tVar 4) (tCons ((tC (.int 4))) tNil)))))) (gName 8))
  (tSeq (tIfS ((tOr ((tNot ((tTru K ((tCall (sp_law_answered K) [] E0 (tCons (tVar 8) (tCons (tVar 5) tNil)))))))) ((tNot ((tTru K ((tCall (sp_law_answered K) [] E0 (tCons (tVar 8) (tCons (tVar 3) tNil)))))))))) ((tRet ((tC (.bl false))))) (tNext))
  (tSeq (tAsg ((tCall (sp_law_pool K) [] E0 (tCons (tVar 0) (tCons ((tC (.int 2))) tNil)))) (gName 9))
  (tSeq (tAsg ((tLst (tCons ((tC (.str "x"))) (tCons ((tC (.str "."))) (tCons ((tC (.str "&"))) (tCons ((tC (.str ","))) (tCons ((tOp (rIx K) ((tC (.str "1234567890ET"))) ((tCall (sp_law_draw K) [] E0 (tCons (tVar 9) (tCons ((tC (.int 12))) tNil)))))) tNil))))))) (gName 10))
  (tSeq (tIfS ((tTest (tOp rGtU ((tCB (rLenU K) (tCons (tVar 3) tNil))) ((tC (.int 400)))))) ((tAsg ((tLst (tCons ((tOp (rIx K) (tVar 10) ((tCall (sp_law_draw K) [] E0 (tCons (tVar 9) (tCons ((tC (.int 5))) tNil)))))) tNil))) (gName 10))) (tNext))
  (tSeq (tFor (iSeqU K (tVar 10)) (gName 11) (tSeq (tAsg ((tCall (sp_law_draw K) [] E0 (tCons (tVar 9) (tCons ((tOp (rAddU K) ((tCB (rLenU K) (tCons (tVar 3) tNil))) ((tC (.int 1))))) tNil)))) (gName 12))
  (tSeq (tIfS ((tNot ((tTru K ((tCall (sp_law_answered K) [] E0 (tCons (tVar 2) (tCons ((tOp (rAddU K) ((tOp (rAddU K) ((tSl (rSlU K) (tVar 3) tNoPart (tPart (tVar 12)))) (tVar 11))) ((tSl (rSlU K) (tVar 3) (tPart (tVar 12)) tNoPart)))) tNil)))))))) ((tRet ((tC (.bl false))))) (tNext))
  ((tIfS ((tNot ((tTru K ((tCall (sp_law_answered K) [] E0 (tCons (tVar 2) (tCons ((tOp (rAddU K) ((tSl (rSlU K) (tVar 3) tNoPart (tPart (tVar 12)))) ((tSl (rSlU K) (tVar 3) (tPart ((tOp (rAddU K) (tVar 12) ((tC (.int 1)))))) tNoPart)))) tNil)))))))) ((tRet ((tC (.bl false))))) (tNext))))))
  ((tRet ((tCall (sp_law_answered K) [] E0 (tCons (tVar 2) (tCons (tVar 5) tNil))))))))))))))))))))
section
variable {K : PySem.W.Frag} {ec : Str → Addr} {vs : List V} {H : Hp} {Q : VK} {E : XK}
theorem len_law (h : sp_law K vs H Q E) : vs.length = 1 := by obtain ⟨a, r, rfl, _⟩ := h; rfl
theorem far4 {v f : Int} (h0 : 0 ≤ v) (h1 : v < 4) : ∃ s : Int, atI [V.int 0, .int 13, .int (-f), .int (13 + f)] v = some (.int s) := by
  have : v = 0 ∨ v = 1 ∨ v = 2 ∨ v = 3 := by omega
  rcases this with rfl | rfl | rfl | rfl
  · exact ⟨0, rfl⟩
  · exact ⟨13, rfl⟩
  · exact ⟨-f, rfl⟩
  · exact ⟨13 + f, rfl⟩
theorem p8 : (10 : Int) ^ (8 : Int).toNat = 100000000 := by decide
theorem pick5 {c : Nat} {v : Int} (h0 : 0 ≤ v) (h1 : v < 5) : ∃ d : Nat, atI [V.str "x", .str ".", .str "&", .str ",", .str (S [c])] v = some (.str (S [d])) := by
  have : v = 0 ∨ v = 1 ∨ v = 2 ∨ v = 3 ∨ v = 4 := by omega
  rcases this with rfl | rfl | rfl | rfl | rfl
  · exact ⟨120, rfl⟩
  · exact ⟨46, rfl⟩
  · exact ⟨38, rfl⟩
  · exact ⟨44, rfl⟩
  · exact ⟨c, rfl⟩
theorem pure_law (h : sp_law K vs H Q E) : t_law K (En Q) (start N_law vs) H := by
  obtain ⟨a, ns, rfl, hA, hn, q⟩ := h
  unfold t_law
  walk_at "rd"
  refine ⟨a, ns, 0, rfl, hA, hn, by omega, fun p H1 np s1 hp1 => ?_⟩
  walk_at "rd"
  refine r_draw hp1 (by omega) (by omega) fun v H2 v0 v1 b2 hp2 => ?_
  obtain ⟨n, en⟩ : ∃ n : Nat, 1 + v = (n : Int) := ⟨(1 + v).toNat, by omega⟩
  have hn1 : 1 ≤ n := by omega
  have hn2 : n ≤ 12 := by omega
  walk_at "rd"
  rw [en]
  refine ⟨p, n, rfl, hp2, hn1, hn2, fun g H3 b3 hp3 hg => ?_⟩
  have hA3 : SqL K H3 a (ns.map V.int) := sqL_via np (((Same.but s1).trans b2).trans b3) hA
  walk_at "rd"
  refine ⟨a, ns, 1, rfl, hA3, hn, by omega, fun p2 H4 np2 s4 hp4 => ?_⟩
  walk_at "rd"
  refine ⟨p2, g, rfl, hp4, hg, fun t H5 b5 hp5 ht => ?_⟩
  have hA5 : SqL K H5 a (ns.map V.int) := sqL_via np2 ((Same.but s4).trans b5) hA3
  walk_at "rd"
  refine ⟨n, t, rfl, by omega, fun H6 s6 => ?_⟩
  walk_at "rd"
  refine ⟨n, g, rfl, by omega, fun H7 s7 => ?_⟩
  have hp7 := pl_same (s6.trans s7) hp5
  have hA7 := sqL_same (s6.trans s7) hA5
  walk_at "rd"
  refine r_draw hp7 (by omega) (by omega) fun w H8 w0 w1 b8 hp8 => ?_
  walk_at "rd"
  refine ⟨1 + w, t, rfl, by omega, fun H9 s9 => ?_⟩
  walk_at "rd"
  refine ⟨1 + w, g, rfl, by omega, fun H10 s10 => ?_⟩
  walk_at "rd"
  refine ⟨n, [], rfl, by simp, fun H11 s11 => ?_⟩
  have hp11 := pl_same ((s9.trans s10).trans s11) hp8
  walk_at "rd"
  refine r_pow ⟨by decide, by decide, by decide⟩ ?_
  rw [p8]
  walk_at "rd"
  refine r_draw hp11 (by omega) (by omega) fun x1 H12 c0 c1 b12 hp12 => ?_
  walk_at "rd"
  refine r_pow ⟨by decide, by decide, by decide⟩ ?_
  rw [p8]
  walk_at "rd"
  refine r_pow ⟨by decide, by decide, by decide⟩ ?_
  rw [p8]
  walk_at "rd"
  refine r_draw hp12 (by omega) (by omega) fun x2 H13 c2 c3 b13 hp13 => ?_
  walk_at "rd"
  intro o H14 no s14 e14
  have hp14 := pl_same s14 hp13
  walk_at "rd"
  refine r_draw hp14 (by omega) (by omega) fun x3 H15 c4 c5 b15 hp15 => ?_
  have e15 := b15 _ _ (ne_pl no hp13) e14
  obtain ⟨s, es⟩ := far4 (f := x1 * 100000000 + x2) c4 c5
  refine r_ixL (sqL_of e15) es ?_
  walk_at "rd"
  refine ⟨s, t, rfl, by omega, fun H16 s16 => ?_⟩
  walk_at "rd"
  refine ⟨s, g, rfl, by omega, fun H17 s17 => ?_⟩
  have bt : But p2 H3 H17 := (((((((Same.but s4).trans b5).trans (Same.but (s6.trans s7))).trans b8).trans (Same.but ((s9.trans s10).trans s11))).trans (b12.trans b13)).trans (Same.but s14)).trans (b15.trans (Same.but (s16.trans s17)))
  have hA17 : SqL K H17 a (ns.map V.int) := sqL_via np2 bt hA3
  walk_at "rd"
  refine ⟨a, ns, 2, rfl, hA17, hn, by omega, fun p3 H18 np3 s18 hp18 => ?_⟩
  walk_at "rd"
  refine r_draw hp18 (by omega) (by omega) fun y H19 y0 y1 b19 hp19 => ?_
  refine r_ixC (k := 12) (by decide) (by decide) y0 y1 fun c => ?_
  walk_at "rd"
  intro l H20 nl s20 e20
  have hp20 := pl_same s20 hp19
  have fin : ∀ (L : Addr) (xs : List V) (H21 : Hp), (∀ x ∈ xs, ∃ d : Nat, x = .str (S [d])) → xs.length ≤ 5 → H21 L = some (.lst xs) → Pl H21 p3 → tSeq (tFor (iSeqU K (tVar 10)) (gName 11) (tSeq (tAsg ((tCall (sp_law_draw K) [] E0 (tCons (tVar 9) (tCons ((tOp (rAddU K) ((tCB (rLenU K) (tCons (tVar 3) tNil))) ((tC (.int 1))))) tNil)))) (gName 12))
      (tSeq (tIfS ((tNot ((tTru K ((tCall (sp_law_answered K) [] E0 (tCons (tVar 2) (tCons ((tOp (rAddU K) ((tOp (rAddU K) ((tSl (rSlU K) (tVar 3) tNoPart (tPart (tVar 12)))) (tVar 11))) ((tSl (rSlU K) (tVar 3) (tPart (tVar 12)) tNoPart)))) tNil)))))))) ((tRet ((tC (.bl false))))) (tNext))
      ((tIfS ((tNot ((tTru K ((tCall (sp_law_answered K) [] E0 (tCons (tVar 2) (tCons ((tOp (rAddU K) ((tSl (rSlU K) (tVar 3) tNoPart (tPart (tVar 12)))) ((tSl (rSlU K) (tVar 3) (tPart ((tOp (rAddU K) (tVar 12) ((tC (.int 1)))))) tNoPart)))) tNil)))))))) ((tRet ((tC (.bl false))))) (tNext))))))
      ((tRet ((tCall (sp_law_answered K) [] E0 (tCons (tVar 2) (tCons (tVar 5) tNil)))))) (En Q) [some (.ref a), some (.ref p), some (.int (n : Int)), some (.str (S g)), some (.ref p2), some (.str (S t)), some (.int (1 + w)), some (.int (x1 * 100000000 + x2)), some (.int s), some (.ref p3), some (.ref L), none, none] H21 := fun L xs H21 hxs lxs eL hp21 => by
    have nL : L ≠ p3 := by
      obtain ⟨u0, u1, u2, eP⟩ := hp21
      rintro rfl
      rw [eL] at eP
      have : xs = [V.int u0, V.int u1, V.int u2] := by injection (Option.some.inj eP)
      obtain ⟨d, hd⟩ := hxs (.int u0) (by rw [this]; simp)
      cases hd
    walk_at "rd"
    refine r_forLst (xs := xs) (fun i σ' H' => ∃ (z11 z12 : Option V), σ' = [some (.ref a), some (.ref p), some (.int (n : Int)), some (.str (S g)), some (.ref p2), some (.str (S t)), some (.int (1 + w)), some (.int (x1 * 100000000 + x2)), some (.int s), some (.ref p3), some (.ref L), z11, z12] ∧ But p3 H21 H' ∧ Pl H' p3)
      ⟨none, none, rfl, But.refl, hp21⟩ (fun i σ' H' hi hW => ?_) (fun i x σ' H' hi hW => ?_) (fun σ' H' hW => ?_)
    · obtain ⟨z11, z12, rfl, bt, hp'⟩ := hW
      exact sqL_of (bt _ _ nL eL)
    · obtain ⟨z11, z12, rfl, bt, hp'⟩ := hW
      obtain ⟨d, rfl⟩ := hxs x (List.mem_of_getElem? hi)
      walk_at "rd"
      refine r_lenSS (by omega) ?_
      walk_at "rd"
      refine r_draw hp' (by omega) (by omega) fun k H22 k0 k1 b22 hp22 => ?_
      obtain ⟨m, rfl⟩ : ∃ m : Nat, k = (m : Int) := ⟨k.toNat, by omega⟩
      walk_at "rd"
      refine r_slS (by omega) ?_
      walk_at "rd"
      rw [cutA_take]
      refine r_addSS (by rw [List.length_take]; simp; omega) ?_
      walk_at "rd"
      refine r_slS (by omega) ?_
      rw [cutA_drop]
      refine r_addSS (by rw [List.length_append, List.length_take, List.length_drop]; simp; omega) ?_
      walk_at "rd"
      refine ⟨n, _, rfl, by rw [List.length_append, List.length_append, List.length_take, List.length_drop]; simp; omega, fun H23 s23 => ?_⟩
      walk_at "rd"
      refine r_slS (by omega) ?_
      walk_at "rd"
      rw [cutA_take]
      refine r_slS (by omega) ?_
      rw [show ((m : Int) + 1) = ((m + 1 : Nat) : Int) by omega, cutA_drop]
      refine r_addSS (by rw [List.length_take, List.length_drop]; omega) ?_
      walk_at "rd"
      refine ⟨n, _, rfl, by rw [List.length_append, List.length_take, List.length_drop]; omega, fun H24 s24 => ?_⟩
      walk_at "rd"
      exact ⟨_, _, rfl, bt.trans (b22.trans (Same.but (s23.trans s24))), pl_same (s23.trans s24) hp22⟩
    · obtain ⟨z11, z12, rfl, bt, hp'⟩ := hW
      walk_at "rd"
      exact ⟨n, t, rfl, by omega, fun H25 _ => q H25⟩
  walk_at "rd"
  refine r_lenSS (by omega) ?_
  walk_at "rd"
  refine r_ite (fun h1 => ?_) (fun h1 => ?_)
  · walk_at "rd"
    refine r_draw hp20 (by omega) (by omega) fun z H21 z0 z1 b21 hp21 => ?_
    have e21 := b21 _ _ (ne_pl nl hp19) e20
    obtain ⟨d, hd⟩ := pick5 (c := c) z0 z1
    refine r_ixL (sqL_of e21) hd ?_
    walk_at "rd"
    intro L H22 nL s22 e22
    refine r_name ?_
    exact fin L _ H22 (fun x hx => ⟨d, by rw [List.mem_singleton] at hx; exact hx⟩) (by simp) e22 (pl_same s22 hp21)
  · refine r_next ?_
    refine fin l _ H20 (fun x hx => ?_) (by simp) e20 hp20
    simp only [List.mem_cons, List.not_mem_nil, or_false] at hx
    rcases hx with rfl | rfl | rfl | rfl | rfl
    · exact ⟨120, rfl⟩
    · exact ⟨46, rfl⟩
    · exact ⟨38, rfl⟩
    · exact ⟨44, rfl⟩
    · exact ⟨c, rfl⟩
end
end K11
end Kb
set_option Elab.async false
set_option linter.all false
set_option maxRecDepth 100000
set_option maxHeartbeats 4000000
namespace Kb
open PySem PySem.Spec PyProof.Rows
open L2
/-- what a turn of a comprehension's loop is to reach -/
def LcTurn (J : It) (g : TG) (tt : TT) (te : TE) (vs : List Nat) (σ : L2.St) (D : Addr) (Z : Hp → Prop) (W : Nat → Nat → Hp → Prop) : Prop := ∀ i m H, W i m H →
  (J.stop i H ∧ Z H) ∨ (J.go i H ∧ ∃ Nx : Hp → Prop, (∀ H', Nx H' → ∃ m', m' < m ∧ W (i + 1) m' H') ∧ ∀ x H', J.yld i H x H' → g x (wipe σ vs) H' fun σ2 H2 => wipe σ2 vs = wipe σ vs ∧ tt σ2 H2 fun b H3 =>
    if b = true then te σ2 H3 fun y H4 => ∃ acc, H4 D = some (.lst acc) ∧ acc.length < sizeLine ∧ Nx (upd H4 D (.lst (acc ++ [y]))) else Nx H3)
section
variable {Y : Cx} {tg iter elt : Expr} {ifs : List Expr} {scope : Scope} {pos : Pos} {J : It} {fp : List Addr} {it D : Addr} {tn : Nat → Heap → Prop} {g : TG} {tt : TT} {te : TE} {vs : List Nat} {σ : L2.St}
  {Z : Hp → Prop} {W : Nat → Nat → Hp → Prop} {R : Result → Shared → Prop}
/-- the loop, told in the block's own context alone -/
theorem blk_loop (hc : Y.calm = true) (hx : Y.xe = fun _ _ => False) (T : Turn Y.prog Y.w Y.K tg J fp it tn) (hg : PG Y tg g) (ht : PTs Y ifs tt) (he : PE Y elt te)
    (fok : ∀ σ' H' s', L2.Inv Y [] σ' H' s' → (∀ b ∈ fp, H' b = none) → ∀ b ∈ fp, FpOk Y [] H' b) (turn : LcTurn J g tt te vs σ D Z W)
    (fin : ∀ H' s', L2.Inv Y [] (wipe σ vs) H' s' → Z H' → R (.ok .next) s') {m : Nat} {H : Hp} {s : Shared} (I : L2.Inv Y [] (wipe σ vs) H s) (t : tn 0 s.heap) (nf : ∀ b ∈ fp, H b = none) (w : W 0 m H) :
    codeAny (model Y.prog Y.w) Y.A (.compStart (.ListComp elt [⟨tg, iter, ifs, 0⟩] scope pos) 0 (.ref it) (.ref D) Y.env) R s := by
  have loop : codeAny (model Y.prog Y.w) Y.A (.compLoop (.ListComp elt [⟨tg, iter, ifs, 0⟩] scope pos) 0 (.ref it) (.ref D) Y.env) R s := by
    refine L2.compLoop_any (fun n s' => ∃ i H', L2.Inv Y [] (wipe σ vs) H' s' ∧ tn i s'.heap ∧ (∀ b ∈ fp, H' b = none) ∧ W i n H') (fun n s1 ⟨i, H1, I1, t1, n1, w1⟩ => ?_) m ⟨0, H, I, t, nf, w⟩
    rcases turn i n H1 w1 with ⟨stop, z⟩ | ⟨go, Nx, hN, step⟩
    · refine L2.thnF (T.done Y rfl rfl rfl hc i [] s1 _ H1 (fun _ _ => False) I1 (fok _ _ _ I1 n1) t1 stop) fun r s2 hr => ?_
      obtain ⟨rfl, I2⟩ := hr
      exact fin H1 s2 I2 z
    · refine L2.thnF (T.item Y rfl rfl rfl hc i [] s1 _ H1 (fun _ _ => False) I1 (fok _ _ _ I1 n1) t1 go) fun r s2 hr => ?_
      obtain ⟨u, rfl, hu⟩ := hr
      refine L2.thnF hu fun _ s3 h3 => ?_
      obtain ⟨x, H3, I3, rx, yl, t3, n3⟩ := h3
      have P3 := I3.pinned (fok _ _ _ I3 n3) (T.obj _ _ t3)
      -- a state behind the turn, the iterator's objects as they were
      have next : ∀ (σ' : L2.St) (H' : Hp) (s' : Shared), wipe σ' vs = wipe σ vs → L2.Inv Y ([] ++ L2.pinsAt fp s3.heap) σ' H' s' → Nx H' → ∃ k, k < n ∧ ∃ j H2, L2.Inv Y [] (wipe σ vs) H2 s' ∧ tn j s'.heap ∧ (∀ b ∈ fp, H2 b = none) ∧ W j k H2 := fun σ' H' s' ew I' nx => by
        obtain ⟨k, hk, w'⟩ := hN H' nx
        have stay : ∀ b ∈ fp, ∀ o, s3.heap.get? b = some o → s'.heap.get? b = some o ∧ H' b = none := fun b hb o e => by
          have z := I'.pin (b, o) (List.mem_append_right _ (List.mem_append_right _ (L2.mem_pinsAt hb e)))
          exact ⟨z.1, z.2.1⟩
        have I'' := (I'.unpinned (pins := [])).weak (σ' := wipe σ vs) (by rw [← ew, L2.wipe_length]) fun j v e => (L2.wipe_some (by rw [← ew] at e; exact e)).1
        refine ⟨k, hk, i + 1, H', I'', T.keep _ _ _ t3 fun b hb o e => (stay b hb o e).1, fun b hb => ?_, w'⟩
        obtain ⟨o, e, _⟩ := T.obj _ _ t3 b hb
        exact (stay b hb o e).2
      have a1 := hg.run _ s3 _ H3 x u _ P3 rx (step x H3 yl)
      rw [hx] at a1
      refine L2.thnF a1 fun _ s4 h4 => ?_
      obtain ⟨σ4, H4, I4, ew, q4⟩ := h4
      have a2 := ht.run _ s4 σ4 H4 _ I4 q4
      rw [hx] at a2
      refine L2.thnF a2 fun b s5 h5 => ?_
      obtain ⟨H5, I5, q5⟩ := h5
      cases b with
      | false =>
        simp only [Bool.false_eq_true, if_false] at q5 ⊢
        exact next σ4 H5 s5 ew I5 q5
      | true =>
        simp only [if_true] at q5 ⊢
        have a3 := he.run _ s5 σ4 H5 _ I5 q5
        rw [hx] at a3
        refine L2.thnF a3 fun v s6 h6 => ?_
        obtain ⟨y, H6, I6, ry, acc, eD, hz, nx⟩ := h6
        exact L2.app_ok I6 eD hz ry fun s7 I7 => next σ4 _ s7 ew I7 nx
  exact codeAny_compStart_list loop (T.self Y.A 0 _ _ _ t loop)
end
section
variable {X : Cx}
/-- the comprehension in a state in which a token is out; Z: what the new list is to reach -/
theorem lc_at {elt tg iter : Expr} {ifs : List Expr} {scope : Scope} {own : List (Str × Nat)} {pos pos' : Pos} {wi : TI} {g : TG} {tt : TT} {te : TE} {pins : List (Addr × Obj)} {s : Shared} {σ : L2.St} {H : Hp} {use : Option (Value → Sem Unit)} {Qf : Value → Shared → Prop} {Z : Addr → Hp → Prop}
    (hc : X.calm = true) (hN : X.N.Nodup) (hi : PIT X tg iter wi) (ok : BlkOk X.N X.env.scope scope own)
    (hg : ∀ (s : Shared) (H : Hp) (C : Addr) (cl : List (Str × Addr)) (fp : List Addr), PG (X.blk s H scope (compEnvC scope cl C X.env) fp) tg g)
    (ht : ∀ (s : Shared) (H : Hp) (C : Addr) (cl : List (Str × Addr)) (fp : List Addr), PTs (X.blk s H scope (compEnvC scope cl C X.env) fp) ifs tt)
    (he : ∀ (s : Shared) (H : Hp) (C : Addr) (cl : List (Str × Addr)) (fp : List Addr), PE (X.blk s H scope (compEnvC scope cl C X.env) fp) elt te) (hs : ∀ x, foldedSetIterable iter X.env x = pure x)
    (I : L2.Inv X pins σ H s) (h0 : 1 ≤ s.toks) (h : wi σ H fun J H1 => ∀ D, H1 D = none → ∃ W : Nat → Nat → Hp → Prop, (∃ m, W 0 m (upd H1 D (.lst []))) ∧ LcTurn J g tt te (own.map (·.2)) σ D (Z D) W)
    (fin : ∀ D C s' m H', L2.Inv X pins σ H' s' → Z D H' → s'.heap.Ns C m → FpOk X pins H' C → compPost (model X.prog X.w) X.A X.xe use Qf (.ref D) C (.ok .next) s') :
    wpAny (model X.prog X.w) X.A (comprehension (.ListComp elt [⟨tg, iter, ifs, 0⟩] scope pos) scope X.env pos' (newList []) false (eval iter X.env) use) Qf X.xe s := by
  have hcl : closureFor scope X.env = pure (cloFrom X.env.cells scope.names []) := closure_ok fun z hz e => (ok.free z hz e).elim (fun k => I.ok.has _ (.inl k)) (fun k => I.ok.has _ (.inr k))
  refine wpAny_comprehension_free rfl hs hcl ok.kind (fun z hz e => by rw [ok.uniq z hz, e]) (thn (hi pins s σ H _ h0 I h) fun xv s1 h1 => thn h1 fun itv s2 h2 => ?_)
  obtain ⟨it, fp, tn, J, H2, rfl, I2, T, t2, f2, q⟩ := h2
  refine wpAny_newObj_type (newEnv_comp ?_) (by show 0 ≤ sizeLine; decide)
  obtain ⟨W, ⟨m0, w0⟩, turn⟩ := q s2.heap.objs.size (I2.hok.fresh (Nat.le_refl _))
  -- the new list stands
  have I3 : L2.Inv X pins σ (upd H2 s2.heap.objs.size (.lst [])) { s2 with heap := s2.heap.push { cls := .type "list", data := .seq ([] : List Value).toArray } } :=
    I2.laid (t' := s2.toks) (fun b o e => Heap.get?_push_of_some _ e) (Nat.le_refl _) ⟨Nat.zero_le _, [], 0, .nil, Heap.get?_push_size _ rfl⟩
  have old : ∀ b o, s2.heap.get? b = some o → (s2.heap.push { cls := .type "list", data := .seq ([] : List Value).toArray }).get? b = some o := fun b o e => Heap.get?_push_of_some _ e
  have lt : ∀ b ∈ fp, b < s2.heap.objs.size := fun b hb => by
    obtain ⟨o, e, _⟩ := T.obj _ _ t2 b hb
    exact Heap.lt_size e
  have f3 : ∀ b ∈ fp, FpOk X pins (upd H2 s2.heap.objs.size (.lst [])) b ∧ b < (s2.heap.push { cls := .type "list", data := .seq ([] : List Value).toArray }).objs.size := fun b hb => by
    refine ⟨⟨?_, (f2 b hb).2⟩, by rw [Heap.size_push]; exact Nat.lt_succ_of_lt (lt b hb)⟩
    rw [upd_ne (Nat.ne_of_lt (lt b hb))]
    exact (f2 b hb).1
  generalize hh : s2.heap.push { cls := .type "list", data := .seq ([] : List Value).toArray } = h3 at I3 old f3 ⊢
  generalize hD : s2.heap.objs.size = D at I3 f3 w0 turn ⊢
  generalize hH : upd H2 D (.lst []) = H3 at I3 f3 w0
  have I4 := block_start I3 ok hN f3
  have t4 : tn 0 (pushCells (h3.push { cls := .type "dict", data := .dict #[] }) scope.names) := T.keep _ _ _ t2 fun b _ o e => pushCells_keeps _ _ _ _ (Heap.get?_push_of_some _ (old b o e))
  refine blk_loop (Y := X.blk { s2 with heap := h3 } H3 scope (compEnvC scope (cellsFrom (h3.objs.size + 1) scope.names (cloFrom X.env.cells scope.names [])) h3.objs.size X.env) fp) hc rfl T (hg _ _ _ _ _) (ht _ _ _ _ _) (he _ _ _ _ _) (fun σ' H' s' I' n' b hb => ?_) turn (fun H5 s5 I5 z => ?_) I4 t4 (fun b hb => (f3 b hb).1.1) w0
  · exact ⟨n' b hb, (I'.ok.exf b hb).1, I'.ok.exfs b hb, .inl hb, fun x c e => (I'.ok.exf b hb).2 x c e, fun p hp => nomatch (show p ∈ ([] : List (Addr × Obj)) ++ [] from hp)⟩
  · have I6 : L2.Inv X pins σ H5 s5 := I3.call' (ch := fp) I5.os I5.base I5.hok I5.bare fun b hb => ⟨(f3 b hb).1.2.2.2.1, (f3 b hb).1.2.1, (f3 b hb).1.2.2.2.2.1, (f3 b hb).1.2.2.2.2.2⟩
    have nC : H5 h3.objs.size = none := I5.free
    obtain ⟨m, hn, _⟩ := I5.loc
    have hn : s5.heap.Ns h3.objs.size m := hn
    exact fin D _ s5 m H5 I6 z hn (I3.fpOk (b := h3.objs.size) (Nat.le_refl _) nC)
/-- as a value -/
theorem pet_lc {elt tg iter : Expr} {ifs : List Expr} {scope : Scope} {own : List (Str × Nat)} {pos : Pos} {wi : TI} {g : TG} {tt : TT} {te : TE} (hc : X.calm = true) (hN : X.N.Nodup) (hi : PIT X tg iter wi) (ok : BlkOk X.N X.env.scope scope own)
    (hg : ∀ (s : Shared) (H : Hp) (C : Addr) (cl : List (Str × Addr)) (fp : List Addr), PG (X.blk s H scope (compEnvC scope cl C X.env) fp) tg g)
    (ht : ∀ (s : Shared) (H : Hp) (C : Addr) (cl : List (Str × Addr)) (fp : List Addr), PTs (X.blk s H scope (compEnvC scope cl C X.env) fp) ifs tt)
    (he : ∀ (s : Shared) (H : Hp) (C : Addr) (cl : List (Str × Addr)) (fp : List Addr), PE (X.blk s H scope (compEnvC scope cl C X.env) fp) elt te) (hs : ∀ x, foldedSetIterable iter X.env x = pure x := by intro _; rfl) :
    PET X (.ListComp elt [⟨tg, iter, ifs, 0⟩] scope pos) (tLc wi g tt te (own.map (·.2))) := by
  intro pins s σ H Q h0 I h
  rw [eval_ListComp]
  refine lc_at (Z := fun D H' => Q (.ref D) H') hc hN hi ok hg ht he hs I h0 h fun D C s' m H' I' z hn f => ?_
  obtain ⟨g0, g1, g2, g3, g4, g5⟩ := f
  exact ⟨m, hn, fun h' sb => ⟨.ref D, H', I'.turned (t' := s'.toks) (fun b o hb e => (sb.2 b hb).trans e) g0 g1 g3 g4 g5, rfl, z⟩⟩
/-- name = e, e may want that a token is out -/
theorem pst_set {i : Nat} {x : Str} {e : Expr} {te : TE} {pos' pos : Pos} (hN : X.N.Nodup) (hi : X.N[i]? = some x) (hx : Loc X.env.scope x) (he : PET X e te) (hs : swapsWith e (some (.Name x pos')) pos.line X.env = pure false := by rfl)
    (hf : X.fn x = true ∨ X.env.scope.names.lookup x = some .local := by first | exact .inl rfl | exact .inr rfl | assumption) : PST X (.Assign [.Name x pos'] e pos) (tAsg te (gName i)) := by
  intro pins s σ H D h0 I h
  exact wpAny_Assign_Name (thn (he pins s σ H _ h0 I h) fun v s1 ⟨z, H1, I1, r1, q1⟩ => store_ok I1 hN hi hx r1 (fun s' I' => ⟨_, H1, I', q1⟩) hf) hs
end
section
variable {X : Cx} {rest : List Stmt} {u : TS}
/-- name = a == 'text': behind it a token is out -/
theorem pss_cmpTok {i j : Nat} {x c : Str} {op : CmpOp} {r : R2} {a : Expr} {ta : TE} {pos' cpos epos pos : Pos} (hN : X.N.Nodup) (hi : X.N[i]? = some x) (hx : Loc X.env.scope x) (ho : OpR X (compareOp op) r) (ha : PE X a ta) (h2 : PSsT X rest u)
    (hm : behindInMarks op (.Constant (.str c) j cpos) = false) (hs : swapsWith (.Compare a [op] [.Constant (.str c) j cpos] epos) (some (.Name x pos')) pos.line X.env = pure false := by rfl)
    (hf : X.fn x = true ∨ X.env.scope.names.lookup x = some .local := by first | exact .inl rfl | exact .inr rfl | assumption) :
    PSs X (.Assign [.Name x pos'] (.Compare a [op] [.Constant (.str c) j cpos] epos) pos :: rest) (tSeq (tAsg (tOp r ta (tC (.str c))) (gName i)) u) := by
  refine ⟨fun pins s σ H D I h => ?_⟩
  have h : ta σ H fun y H1 => r y (.str c) H1 fun v H2 => u D (σ.set i (some v)) H2 := h
  refine wpAny_execs_cons (wpAny_Assign_Name ?_ hs)
  refine wpAny_Compare1 (thn (ha.run pins s σ H _ I h) fun v s1 ⟨y, H1, I1, r1, q1⟩ => Calls.Constant_str ?_) hm
  refine wpAny_mono (PySem.wpAny_toks (ho pins { s1 with toks := s1.toks + 1 } σ H1 y (.str c) v (.str c s1.toks) _ (I1.tok (s1.toks + 1)) r1 ⟨_, rfl⟩ q1)) (fun w s2 hq => ?_) fun _ _ z => z.2
  obtain ⟨hk, z, H2, I2, r2, q2⟩ := hq
  have hk : s1.toks + 1 ≤ s2.toks := hk
  refine wpAny_mono (PySem.wpAny_toks (store_ok (v := z) (u := w) (Q := fun _ s3 => L2.Inv X pins (σ.set i (some z)) H2 s3) I2 hN hi hx r2 (fun _ I3 => I3) hf)) (fun _ s3 q3 => ?_) fun _ _ z => z.2
  have hk2 : s2.toks ≤ s3.toks := q3.1
  exact h2 pins s3 _ H2 D (by omega) q3.2 q2
/-- a text's method, the receiver may want that a token is out -/
theorem pet_bm {o e : Expr} {es : List Expr} {to : TE} {t : TA} {name : Str} {apos cpos : Pos} {T id : String} {r : V → List V → Hp → VK → Prop} (pa : PlainAttrs T) (slot : Slot T name id) (hty : typeOf (.builtin id) = pure (.type "method_descriptor")) (hm : MtR X id r) (ho : PET X o to) (ha : PA X (e :: es) t)
    (hbase : attributeBase o name X.env (eval o X.env) = eval o X.env := by rfl)
    (hfew : ((backTo cpos (starEach (e :: es) X.env)).all (fun x => !x.1) && (backToKw cpos (keywordEach [] X.env)).all (fun x => x.1.isSome)
      && decide ((e :: es).length + ([] : List Keyword).length + (if ([] : List Keyword).isEmpty then 0 else 1) < 30)) = true := by rfl)
    (hline : (apos.endLine == cpos.line) = true := by rfl) (hs : starEach (e :: es) X.env = (false, eval e X.env) :: starEach es X.env := by rfl) (hplain : (backTo cpos (starEach es X.env)).any (·.1) = false := by rfl) :
    PET X (.Call (.Attribute o name apos) (e :: es) [] cpos) (tBM X.K T r to t) := by
  intro pins s σ H Q h0 I h
  refine wpAny_Call_method_late hbase hfew hline rfl (thn (ho pins s σ H _ h0 I h) fun v s1 ⟨x, H1, I1, r1, ty, q1⟩ => ?_)
  obtain ⟨k1, k2⟩ := tyV_is I1 r1 ty
  refine ⟨T, id, pa, slot, hty, k1, k2, ?_⟩
  have hA := ha.run cpos pins s1 σ H1 _ I1 q1
  rw [hs] at hA ⊢
  refine Calls.callWith_builtin (by show (false || (backTo cpos (starEach es X.env)).any (·.1)) = false; rw [hplain] <;> rfl) (Calls.evalArgs_plain ?_)
  exact thn hA fun us s2 ⟨vs, H2, I2, r2, q2⟩ => hm pins s2 σ H2 x vs v us Q I2 r1 r2 q2
theorem pet_replR {o : Expr} {to : TE} {y z : Str} {j k : Nat} {c0 c1 apos pos : Pos} (ho : PE X o to) (hyz : (y == z) = false := by decide)
    (hst : starEach [.Constant (.str y) j c0, .Constant (.str z) k c1] X.env = [(false, eval (.Constant (.str y) j c0) X.env), (false, eval (.Constant (.str z) k c1) X.env)] := by rfl)
    (hbase : attributeBase o "replace" X.env (eval o X.env) = eval o X.env := by rfl) (hline : (apos.endLine == pos.line) = true := by rfl) :
    PET X (.Call (.Attribute o "replace" apos) [.Constant (.str y) j c0, .Constant (.str z) k c1] [] pos) (tReplR to y z) := CwR.pet_replC ho hyz hst hbase hline
end
end Kb
set_option Elab.async false
set_option linter.all false
set_option maxRecDepth 100000
set_option maxHeartbeats 4000000
namespace Kb
namespace K11
open PySem PySem.Spec PyProof.Rows L2 SX
def top (i : Nat) : Stmt := PySem.Challenge.pw_ringingchamber_k11_texts_of_notation.main.body.getD i (.Pass ⟨0, 0, 0, 0⟩)
abbrev s_check_stage : Stmt := top 8
abbrev s_place_of : Stmt := top 10
abbrev s_may_follow : Stmt := top 11
abbrev s_change_of : Stmt := top 12
abbrev s_kind_of : Stmt := top 15
abbrev s_add_sign : Stmt := top 16
abbrev s_changes_of_block : Stmt := top 17
abbrev s_read_notation : Stmt := top 18
abbrev s_law_cell : Stmt := top 20
abbrev s_law_pool : Stmt := top 21
abbrev s_law_draw : Stmt := top 22
abbrev s_law_change_draw : Stmt := top 23
abbrev s_law_same : Stmt := top 24
abbrev s_law_change_text : Stmt := top 25
abbrev s_law_block_text : Stmt := top 26
abbrev s_law_notation : Stmt := top 27
abbrev s_law_sign : Stmt := top 28
abbrev s_law_bent_text : Stmt := top 29
abbrev s_law_text : Stmt := top 30
abbrev s_law_place : Stmt := top 31
abbrev s_law_column : Stmt := top 32
abbrev s_law_change : Stmt := top 33
abbrev s_law_changes : Stmt := top 34
abbrev s_law_read : Stmt := top 35
abbrev s_law_answered : Stmt := top 36
abbrev s_law : Stmt := top 37
structure Bn (mg : Str → Option Value) : Prop where
  n_ValueError : mg "ValueError" = none
  n_abs : mg "abs" = none
  n_bool : mg "bool" = none
  n_enumerate : mg "enumerate" = none
  n_int : mg "int" = none
  n_isinstance : mg "isinstance" = none
  n_len : mg "len" = none
  n_list : mg "list" = none
  n_min : mg "min" = none
  n_range : mg "range" = none
  n_str : mg "str" = none
  n_tuple : mg "tuple" = none
  n_zip : mg "zip" = none
  c_SIGNS : ∃ t, mg "SIGNS" = some (.str "1234567890ET" t)
abbrev i_ChamberError : Stmt := inClass (top 1) 0
abbrev i_BadStage : Stmt := inClass (top 2) 0
abbrev i_BadNotation : Stmt := inClass (top 4) 0
section
variable {P : Program} {w : World} {K : PySem.W.Frag} {mg : Str → Option Value} {base : Heap}
theorem sc_check_stage : FnScope N_check_stage ["stage"] (defScope s_check_stage) := ⟨rfl, rfl, rfl, by decide +kernel, rfl, by decide +kernel, by decide +kernel⟩
theorem ok_check_stage (D : At K mg "check_stage" s_check_stage) (B : Bn mg) {ec : Str → Addr} (XS : Exs K ec XN) (EX : ExAt mg ec XN) (Z_BadStage : Rz0 P w K mg base "BadStage" (ec "BadStage")) : Fn P w K mg base (L2.CX P w) 4 "check_stage" ["stage"] (sp_check_stage K ec) := by
  obtain ⟨f, fd, F, hm⟩ := D
  refine ⟨f, fd, F.okX sc_check_stage (fun vs H Q E h => len_check_stage h) (fun cdv A outer s H vs Q E hr h => ⟨t_check_stage K ec E, ?_, pure_check_stage XS h⟩), hm, F.kp, F.binds fun _ _ _ _ _ _ us hl => match us, hl with | [_], _ => rfl⟩
  have nd := sc_check_stage.nd
  exact pss_one (ps_if ((pt_not ((pt_chain (op_leU hr.units) (op_leU hr.units) (pe_int) (pv 0) ((pe_callB call_lenU (by rfl) B.n_len (by decide +kernel) (pa_cons ((pe_glob rfl B.c_SIGNS.choose_spec ⟨_, rfl⟩)) pa_nil))))))) (pss_one (ps_rz0 rfl (takes_of rfl rfl rfl rfl) Z_BadStage (hr.mono (by decide)) (by rfl))) (pss_nil))
theorem sc_place_of : FnScope N_place_of ["stage", "sign"] (defScope s_place_of) := ⟨rfl, rfl, rfl, by decide +kernel, rfl, by decide +kernel, by decide +kernel⟩
theorem ok_place_of (D : At K mg "place_of" s_place_of) (B : Bn mg) : Fn P w K mg base CX0 1 "place_of" ["stage", "sign"] (sp_place_of K) := by
  obtain ⟨f, fd, F, hm⟩ := D
  refine ⟨f, fd, F.ok sc_place_of (fun vs H Q E h => len_place_of h) (fun cdv A outer s H vs Q E hr h => ⟨t_place_of K, ?_, pure_place_of h⟩), hm, F.kp, F.binds fun _ _ _ _ _ _ us hl => match us, hl with | [_, _], _ => rfl⟩
  have nd := sc_place_of.nd
  exact pss_cons (ps_set (i := 2) nd rfl (Or.inl rfl) ((pe_op op_addU ((pe_bm PySem.F.plainAttrs_str PySem.F.slot_str_find PySem.F.type_str_find mt_find ((pe_glob rfl B.c_SIGNS.choose_spec ⟨_, rfl⟩)) (pa_cons (pv 1) pa_nil))) (pe_int))))
      (pss_cons (ps_if ((pt_cmpR op_gtU (pv 2) (pv 0) (nomark _))) (pss_one (ps_ret (pe_int))) (pss_nil))
      (pss_one (ps_ret (pv 2))))
theorem sc_may_follow : FnScope N_may_follow ["last", "place"] (defScope s_may_follow) := ⟨rfl, rfl, rfl, by decide +kernel, rfl, by decide +kernel, by decide +kernel⟩
theorem ok_may_follow (D : At K mg "may_follow" s_may_follow) (B : Bn mg) : Fn P w K mg base CX0 1 "may_follow" ["last", "place"] (sp_may_follow K) := by
  obtain ⟨f, fd, F, hm⟩ := D
  refine ⟨f, fd, F.ok sc_may_follow (fun vs H Q E h => len_may_follow h) (fun cdv A outer s H vs Q E hr h => ⟨t_may_follow K, ?_, pure_may_follow h⟩), hm, F.kp, F.binds fun _ _ _ _ _ _ us hl => match us, hl with | [_, _], _ => rfl⟩
  have nd := sc_may_follow.nd
  exact pss_one (ps_ret ((pe_and ((pe_cmpR op_gtU (pv 1) (pv 0) (nomark _))) (pe_one ((pe_cmpR (op_eqU hr.units) ((pe_op op_modU ((pe_op op_subU (pv 1) (pv 0))) (pe_int))) (pe_int) (nomark _)))))))
theorem sc_change_of : FnScope N_change_of ["stage", "places"] (defScope s_change_of) := ⟨rfl, rfl, rfl, by decide +kernel, rfl, by decide +kernel, by decide +kernel⟩
theorem ok_change_of (D : At K mg "change_of" s_change_of) (B : Bn mg) : Fn P w K mg base CX0 1 "change_of" ["stage", "places"] (sp_change_of K) := by
  obtain ⟨f, fd, F, hm⟩ := D
  refine ⟨f, fd, F.ok sc_change_of (fun vs H Q E h => len_change_of h) (fun cdv A outer s H vs Q E hr h => ⟨t_change_of K, ?_, pure_change_of h⟩), hm, F.kp, F.binds fun _ _ _ _ _ _ us hl => match us, hl with | [_, _], _ => rfl⟩
  have nd := sc_change_of.nd
  exact pss_cons (ps_set (i := 2) nd rfl (Or.inl rfl) ((pe_callTy call_listU (by rfl) B.n_list (by decide +kernel) (pa_cons (pv 1) pa_nil))))
      (pss_cons (ps_if ((PW.pt (pw_and ((pt_cmpR op_gtU ((pe_callB call_lenU (by rfl) B.n_len (by decide +kernel) (pa_cons (pv 2) pa_nil))) (pe_int) (nomark _))) (pw_and1 ((pt_cmpR (op_eqU hr.units) ((pe_op op_modU ((pe_ix ix_seq (pv 2) (pe_int) (fun _ _ => rfl))) (pe_int))) (pe_int) (nomark _))))))) (pss_one (ps_expr ((pe_bm PySem.F.plainAttrs_list PySem.F.slot_list_insert PySem.F.type_list_insert mt_insert (pv 2) (pa_cons (pe_int) (pa_cons (pe_int) pa_nil)))))) (pss_nil))
      (pss_cons (ps_if ((PW.pt (pw_and ((pt_cmpR op_gtU ((pe_callB call_lenU (by rfl) B.n_len (by decide +kernel) (pa_cons (pv 2) pa_nil))) (pe_int) (nomark _))) (pw_and1 ((pt_cmpR (op_eqU hr.units) ((pe_op op_modU ((pe_op op_subU (pv 0) ((pe_ix ix_seq (pv 2) ((pe_un un_neg (pe_int))) (fun _ _ => rfl))))) (pe_int))) (pe_int) (nomark _))))))) (pss_one (ps_expr ((pe_bm PySem.F.plainAttrs_list PySem.F.slot_list_append PySem.F.type_list_append mt_append (pv 2) (pa_cons (pv 0) pa_nil))))) (pss_nil))
      (pss_one (ps_ret ((pe_tupD (by rfl) B.n_tuple (pv 2)))))))
theorem sc_kind_of : FnScope N_kind_of ["stage", "sign"] (defScope s_kind_of) := ⟨rfl, rfl, rfl, by decide +kernel, rfl, by decide +kernel, by decide +kernel⟩
theorem ok_kind_of (D : At K mg "kind_of" s_kind_of) (B : Bn mg) (G_place_of : Fn P w K mg base CX0 1 "place_of" ["stage", "sign"] (sp_place_of K)) : Fn P w K mg base CX0 2 "kind_of" ["stage", "sign"] (sp_kind_of K) := by
  obtain ⟨f, fd, F, hm⟩ := D
  refine ⟨f, fd, F.ok sc_kind_of (fun vs H Q E h => len_kind_of h) (fun cdv A outer s H vs Q E hr h => ⟨t_kind_of K, ?_, pure_kind_of h⟩), hm, F.kp, F.binds fun _ _ _ _ _ _ us hl => match us, hl with | [_, _], _ => rfl⟩
  have nd := sc_kind_of.nd
  exact pss_cons (ps_if ((pt_cmpR op_gtU ((pe_callF G_place_of (hr.mono (by decide)) (by rfl) pass0 (pa_cons (pv 0) (pa_cons (pv 1) pa_nil)))) (pe_int) (nomark _))) (pss_one (ps_ret (pe_str))) (pss_nil))
      (pss_cons (ps_if ((PW.pt (pw_or ((pt_cmpR op_inU (pv 1) (pe_str) (by with_unfolding_all rfl))) (pw_or1 ((PW.pt (pw_and ((pt_cmpR (op_eqU hr.units) (pv 1) (pe_str) (nomark _))) (pw_and1 ((pt_cmpR (op_eqU hr.units) ((pe_op op_modU (pv 0) (pe_int))) (pe_int) (nomark _))))))))))) (pss_one (ps_ret (pv 1))) (pss_nil))
      (pss_one (ps_ret (pe_str))))
theorem sc_add_sign : FnScope N_add_sign ["stage", "block", "before", "sign"] (defScope s_add_sign) := ⟨rfl, rfl, rfl, by decide +kernel, rfl, by decide +kernel, by decide +kernel⟩
theorem ok_add_sign (D : At K mg "add_sign" s_add_sign) (B : Bn mg) (G_place_of : Fn P w K mg base CX0 1 "place_of" ["stage", "sign"] (sp_place_of K)) (G_may_follow : Fn P w K mg base CX0 1 "may_follow" ["last", "place"] (sp_may_follow K)) : Fn P w K mg base CX0 2 "add_sign" ["stage", "block", "before", "sign"] (sp_add_sign K) := by
  obtain ⟨f, fd, F, hm⟩ := D
  refine ⟨f, fd, F.ok sc_add_sign (fun vs H Q E h => len_add_sign h) (fun cdv A outer s H vs Q E hr h => ⟨t_add_sign K, ?_, pure_add_sign h⟩), hm, F.kp, F.binds fun _ _ _ _ _ _ us hl => match us, hl with | [_, _, _, _], _ => rfl⟩
  have nd := sc_add_sign.nd
  exact pss_cons (ps_set (i := 4) nd rfl (Or.inl rfl) ((pe_callF G_place_of (hr.mono (by decide)) (by rfl) pass0 (pa_cons (pv 0) (pa_cons (pv 3) pa_nil)))))
      (pss_cons (ps_if ((pt_cmpR (op_eqU hr.units) (pv 4) (pe_int) (nomark _))) (pss_one (ps_expr ((pe_bm PySem.F.plainAttrs_list PySem.F.slot_list_append PySem.F.type_list_append mt_append (pv 1) (pa_cons ((pe_lst pa_nil)) pa_nil))))) (pss_one (ps_if ((pt_cmpR (op_neU hr.units) (pv 2) (pe_str) (nomark _))) (pss_one (ps_expr ((pe_bm PySem.F.plainAttrs_list PySem.F.slot_list_append PySem.F.type_list_append mt_append (pv 1) (pa_cons ((pe_lst (pa_cons (pv 4) pa_nil))) pa_nil))))) (pss_one (ps_if ((pt_truU ((pe_callF G_may_follow (hr.mono (by decide)) (by rfl) pass0 (pa_cons ((pe_ix ix_seq ((pe_ix ix_seq (pv 1) ((pe_un un_neg (pe_int))) (fun _ _ => rfl))) ((pe_un un_neg (pe_int))) (fun _ _ => rfl))) (pa_cons (pv 4) pa_nil)))) (by intro _; rfl))) (pss_one (ps_expr ((pe_bm PySem.F.plainAttrs_list PySem.F.slot_list_append PySem.F.type_list_append mt_append ((pe_ix ix_seq (pv 1) ((pe_un un_neg (pe_int))) (fun _ _ => rfl))) (pa_cons (pv 4) pa_nil))))) (pss_one (ps_ret (pe_bl))))))))
      (pss_one (ps_ret (pe_bl))))
theorem sc_changes_of_block : FnScope N_changes_of_block ["stage", "block", "folded"] (defScope s_changes_of_block) := ⟨rfl, rfl, rfl, by decide +kernel, rfl, by decide +kernel, by decide +kernel⟩
theorem ok_changes_of_block (D : At K mg "changes_of_block" s_changes_of_block) (B : Bn mg) (G_change_of : Fn P w K mg base CX0 1 "change_of" ["stage", "places"] (sp_change_of K)) : Fn P w K mg base CX0 2 "changes_of_block" ["stage", "block", "folded"] (sp_changes_of_block K) := by
  obtain ⟨f, fd, F, hm⟩ := D
  refine ⟨f, fd, F.ok sc_changes_of_block (fun vs H Q E h => len_changes_of_block h) (fun cdv A outer s H vs Q E hr h => ⟨t_changes_of_block K, ?_, pure_changes_of_block h⟩), hm, F.kp, F.binds fun _ _ _ _ _ _ us hl => match us, hl with | [_, _, _], _ => rfl⟩
  have nd := sc_changes_of_block.nd
  exact pss_cons (ps_setLc (i := 3) (own := [("places", 4)]) (g := (gName 4)) (tt := tYes) rfl nd rfl rfl (sw_true rfl rfl rfl (by decide +kernel)) ((pi_seqU (pv 1))) (blkOk_by (N := (N_changes_of_block : List Str)) (sc := defScope s_changes_of_block) (by decide +kernel)) (fun _ _ _ _ _ => (pg_name (i := 4) nd rfl (Or.inl rfl))) (fun _ _ _ _ _ => pts_nil) (fun _ _ _ _ _ => (pe_callF G_change_of (hr.mono (by decide)) (by rfl) pass0 (pa_cons (pv 0) (pa_cons (pv 4) pa_nil)))))
      (pss_cons (ps_if ((pt_truU (pv 2) (by intro _; rfl))) (pss_one (ps_ret ((pe_op op_addU (pv 3) ((pe_revL ((pe_slice sl_U (pv 3) po_none (po_some ((pe_un un_neg (pe_int)))))))))))) (pss_nil))
      (pss_one (ps_ret (pv 3))))
theorem sc_read_notation : FnScope N_read_notation ["stage", "text"] (defScope s_read_notation) := ⟨rfl, rfl, rfl, by decide +kernel, rfl, by decide +kernel, by decide +kernel⟩
theorem ok_read_notation (D : At K mg "read_notation" s_read_notation) (B : Bn mg) {ec : Str → Addr} (XS : Exs K ec XN) (EX : ExAt mg ec XN) (T_FOLLOWERS : KTab K w mg "FOLLOWERS" [(("" : Str), ("&xp" : Str)), (("&" : Str), ("xp" : Str)), (("x" : Str), ("xp," : Str)), (("p" : Str), ("xp.," : Str)), (("." : Str), ("p" : Str))]) (G_check_stage : Fn P w K mg base (L2.CX P w) 4 "check_stage" ["stage"] (sp_check_stage K ec)) (G_kind_of : Fn P w K mg base CX0 2 "kind_of" ["stage", "sign"] (sp_kind_of K)) (G_add_sign : Fn P w K mg base CX0 2 "add_sign" ["stage", "block", "before", "sign"] (sp_add_sign K)) (G_changes_of_block : Fn P w K mg base CX0 2 "changes_of_block" ["stage", "block", "folded"] (sp_changes_of_block K)) (Z_BadNotation : Rz1 P w K mg base "BadNotation" "column" (ec "BadNotation")) : Fn P w K mg base (L2.CX P w) 5 "read_notation" ["stage", "text"] (sp_read_notation K ec) := by
  obtain ⟨f, fd, F, hm⟩ := D
  refine ⟨f, fd, F.okX sc_read_notation (fun vs H Q E h => len_read_notation h) (fun cdv A outer s H vs Q E hr h => ⟨t_read_notation K ec E, ?_, pure_read_notation XS h⟩), hm, F.kp, F.binds fun _ _ _ _ _ _ us hl => match us, hl with | [_, _], _ => rfl⟩
  have nd := sc_read_notation.nd
  exact pss_cons (ps_expr ((pe_callW (takes_of rfl rfl rfl rfl) G_check_stage (hr.mono (by decide)) (by rfl) (pa_cons (pv 0) pa_nil))))
      (pss_cons (ps_set (i := 2) nd rfl (Or.inl rfl) ((pe_lst (pa_cons ((pe_lst pa_nil)) pa_nil))))
      (pss_cons (ps_set (i := 3) nd rfl (Or.inl rfl) ((pe_lst (pa_cons (pe_bl) pa_nil))))
      (pss_cons (ps_set (i := 4) nd rfl (Or.inl rfl) (pe_str))
      (pss_cons (ps_for (passes_of rfl) rfl (pi_enumTxS (by rfl) B.n_enumerate (pa_cons (pv 1) pa_nil) (by decide) (by decide)) (pg_tup rfl (pgs_cons (pg_name (i := 5) nd rfl (Or.inl rfl)) (pgs_cons (pg_name (i := 6) nd rfl (Or.inl rfl)) pgs_nil))) (pss_cons (ps_set (i := 7) nd rfl (Or.inl rfl) ((pe_callF G_kind_of (hr.mono (by decide)) (by rfl) pass0 (pa_cons (pv 0) (pa_cons (pv 6) pa_nil)))))
      (pss_cons (ps_set (i := 8) nd rfl (Or.inl rfl) ((pe_and ((pe_cmpR op_inU (pv 7) ((pe_tab (by rfl) T_FOLLOWERS (pv 4) (fun _ _ => rfl))) (by with_unfolding_all rfl))) (pe_one ((pe_or ((pe_cmpR (op_neU hr.units) (pv 7) (pe_str) (nomark _))) (pe_one ((pe_cmpR (op_eqU hr.units) ((pe_callB call_lenU (by rfl) B.n_len (by decide +kernel) (pa_cons (pv 2) pa_nil))) (pe_int) (nomark _))))))))))
      (pss_cons (ps_if ((PW.pt (pw_and ((pt_truU (pv 8) (by intro _; rfl))) (pw_and1 ((PW.pt (pw_or ((pt_cmpR (op_eqU hr.units) (pv 7) (pe_str) (nomark _))) (pw_or1 ((pt_cmpR (op_eqU hr.units) (pv 7) (pe_str) (nomark _))))))))))) (pss_one (ps_set (i := 8) nd rfl (Or.inl rfl) ((pe_callF G_add_sign (hr.mono (by decide)) (by rfl) pass0 (pa_cons (pv 0) (pa_cons ((pe_ix ix_seq (pv 2) ((pe_un un_neg (pe_int))) (fun _ _ => rfl))) (pa_cons (pv 4) (pa_cons (pv 6) pa_nil)))))))) (pss_nil))
      (pss_cons (ps_if ((pt_not ((pt_truU (pv 8) (by intro _; rfl))))) (pss_one (ps_rz1 rfl (takes_of rfl rfl rfl rfl) Z_BadNotation (hr.mono (by decide)) (by rfl) (pv 5))) (pss_nil))
      (pss_cons (ps_set (i := 4) nd rfl (Or.inl rfl) (pv 7))
      (pss_cons (ps_if ((pt_cmpR (op_eqU hr.units) (pv 7) (pe_str) (nomark _))) (pss_one (ps_asg (pe_bl) (pg_sub (pv 3) ((pe_un un_neg (pe_int))) set_list))) (pss_nil))
      (pss_one (ps_if ((pt_cmpR (op_eqU hr.units) (pv 7) (pe_str) (nomark _))) (pss_cons (ps_expr ((pe_bm PySem.F.plainAttrs_list PySem.F.slot_list_append PySem.F.type_list_append mt_append (pv 2) (pa_cons ((pe_lst pa_nil)) pa_nil))))
      (pss_cons (ps_expr ((pe_bm PySem.F.plainAttrs_list PySem.F.slot_list_append PySem.F.type_list_append mt_append (pv 3) (pa_cons (pe_bl) pa_nil))))
      (pss_one (ps_set (i := 4) nd rfl (Or.inl rfl) (pe_str))))) (pss_nil))))))))))
      (pss_cons (ps_if ((PW.pt (pw_and ((pt_cmpR (op_neU hr.units) (pv 4) (pe_str) (nomark _))) (pw_and1 ((pt_cmpR (op_neU hr.units) (pv 4) (pe_str) (nomark _))))))) (pss_one (ps_rz1 rfl (takes_of rfl rfl rfl rfl) Z_BadNotation (hr.mono (by decide)) (by rfl) ((pe_op op_addU ((pe_callB call_lenU (by rfl) B.n_len (by decide +kernel) (pa_cons (pv 1) pa_nil))) (pe_int))))) (pss_nil))
      (pss_cons (ps_set (i := 9) nd rfl (Or.inl rfl) ((pe_lst pa_nil)))
      (pss_cons (ps_for (passes_of rfl) rfl (pi_zipU (by rfl) B.n_zip (pa_cons (pv 2) (pa_cons (pv 3) pa_nil))) (pg_tup rfl (pgs_cons (pg_name (i := 10) nd rfl (Or.inl rfl)) (pgs_cons (pg_name (i := 11) nd rfl (Or.inl rfl)) pgs_nil))) (pss_one (ps_expr ((pe_bm PySem.F.plainAttrs_list PySem.F.slot_list_extend PySem.F.type_list_extend mt_extend (pv 9) (pa_cons ((pe_callF G_changes_of_block (hr.mono (by decide)) (by rfl) pass0 (pa_cons (pv 0) (pa_cons (pv 10) (pa_cons (pv 11) pa_nil))))) pa_nil))))))
      (pss_one (ps_ret ((pe_tupD (by rfl) B.n_tuple (pv 9))))))))))))
theorem sc_law_cell : FnScope N_law_cell ["script", "k"] (defScope s_law_cell) := ⟨rfl, rfl, rfl, by decide +kernel, rfl, by decide +kernel, by decide +kernel⟩
theorem ok_law_cell (D : At K mg "_law_cell" s_law_cell) (B : Bn mg) : Fn P w K mg base CX0 1 "_law_cell" ["script", "k"] (sp_law_cell K) := by
  obtain ⟨f, fd, F, hm⟩ := D
  refine ⟨f, fd, F.ok sc_law_cell (fun vs H Q E h => len_law_cell h) (fun cdv A outer s H vs Q E hr h => ⟨t_law_cell K, ?_, pure_law_cell h⟩), hm, F.kp, F.binds fun _ _ _ _ _ _ us hl => match us, hl with | [_, _], _ => rfl⟩
  have nd := sc_law_cell.nd
  exact pss_cons (ps_if ((pt_cmpR (op_ltU hr.units) (pv 1) ((pe_callB call_lenU (by rfl) B.n_len (by decide +kernel) (pa_cons (pv 0) pa_nil))) (nomark _))) (pss_one (ps_ret ((pe_callB call_absU (by rfl) B.n_abs (by decide +kernel) (pa_cons ((pe_callTy call_intU (by rfl) B.n_int (by decide +kernel) (pa_cons ((pe_ix ix_seq (pv 0) (pv 1) (fun _ _ => rfl))) pa_nil))) pa_nil))))) (pss_nil))
      (pss_cons (ps_if ((pt_cmpR (op_eqU hr.units) ((pe_callB call_lenU (by rfl) B.n_len (by decide +kernel) (pa_cons (pv 0) pa_nil))) (pe_int) (nomark _))) (pss_one (ps_ret (pe_int))) (pss_nil))
      (pss_one (ps_ret ((pe_op op_modU ((pe_callB call_absU (by rfl) B.n_abs (by decide +kernel) (pa_cons ((pe_callTy call_intU (by rfl) B.n_int (by decide +kernel) (pa_cons ((pe_ix ix_seq (pv 0) ((pe_op op_modU ((pe_callTy call_intU (by rfl) B.n_int (by decide +kernel) (pa_cons (pv 1) pa_nil))) ((pe_callB call_lenU (by rfl) B.n_len (by decide +kernel) (pa_cons (pv 0) pa_nil))))) (fun _ _ => rfl))) pa_nil))) pa_nil))) (pe_int))))))
theorem sc_law_pool : FnScope N_law_pool ["script", "k"] (defScope s_law_pool) := ⟨rfl, rfl, rfl, by decide +kernel, rfl, by decide +kernel, by decide +kernel⟩
theorem ok_law_pool (D : At K mg "_law_pool" s_law_pool) (B : Bn mg) (G_law_cell : Fn P w K mg base CX0 1 "_law_cell" ["script", "k"] (sp_law_cell K)) : Fn P w K mg base CX0 2 "_law_pool" ["script", "k"] (sp_law_pool K) := by
  obtain ⟨f, fd, F, hm⟩ := D
  refine ⟨f, fd, F.ok sc_law_pool (fun vs H Q E h => len_law_pool h) (fun cdv A outer s H vs Q E hr h => ⟨t_law_pool K, ?_, pure_law_pool h⟩), hm, F.kp, F.binds fun _ _ _ _ _ _ us hl => match us, hl with | [_, _], _ => rfl⟩
  have nd := sc_law_pool.nd
  exact pss_cons (ps_set (i := 2) nd rfl (Or.inl rfl) ((pe_callF G_law_cell (hr.mono (by decide)) (by rfl) pass0 (pa_cons (pv 0) (pa_cons (pv 1) pa_nil)))))
      (pss_cons (ps_if ((pt_cmpR op_geU (pv 2) ((pe_op op_powU (pe_int) (pe_int))) (nomark _))) (pss_one (ps_ret ((pe_lst (pa_cons ((pe_op op_subU (pv 2) ((pe_op op_powU (pe_int) (pe_int))))) (pa_cons ((pe_op op_modU ((pe_callTy call_intU (by rfl) B.n_int (by decide +kernel) (pa_cons (pv 2) pa_nil))) (pe_int))) (pa_cons (pe_int) pa_nil))))))) (pss_nil))
      (pss_one (ps_ret ((pe_lst (pa_cons (pe_int) (pa_cons ((pe_op op_addU (pv 2) ((pe_op op_mulU (pe_int) ((pe_op op_addU (pv 1) (pe_int))))))) (pa_cons (pe_int) pa_nil))))))))
theorem sc_law_draw : FnScope N_law_draw ["pool", "many"] (defScope s_law_draw) := ⟨rfl, rfl, rfl, by decide +kernel, rfl, by decide +kernel, by decide +kernel⟩
theorem ok_law_draw (D : At K mg "_law_draw" s_law_draw) (B : Bn mg) : Fn P w K mg base CX0 1 "_law_draw" ["pool", "many"] (sp_law_draw K) := by
  obtain ⟨f, fd, F, hm⟩ := D
  refine ⟨f, fd, F.ok sc_law_draw (fun vs H Q E h => len_law_draw h) (fun cdv A outer s H vs Q E hr h => ⟨t_law_draw K, ?_, pure_law_draw h⟩), hm, F.kp, F.binds fun _ _ _ _ _ _ us hl => match us, hl with | [_, _], _ => rfl⟩
  have nd := sc_law_draw.nd
  exact pss_cons (ps_asg ((pe_op op_addU ((pe_ix ix_seq (pv 0) (pe_int) (fun _ _ => rfl))) (pe_int))) (pg_sub (pv 0) (pe_int) set_list))
      (pss_cons (ps_if ((pt_cmpR op_gtU ((pe_ix ix_seq (pv 0) (pe_int) (fun _ _ => rfl))) (pe_int) (nomark _))) (pss_cons (ps_set (i := 2) nd rfl (Or.inl rfl) ((pe_op op_modU ((pe_callTy call_intU (by rfl) B.n_int (by decide +kernel) (pa_cons ((pe_ix ix_seq (pv 0) (pe_int) (fun _ _ => rfl))) pa_nil))) (pv 1))))
      (pss_cons (ps_asg ((pe_op op_fdivU ((pe_ix ix_seq (pv 0) (pe_int) (fun _ _ => rfl))) (pv 1))) (pg_sub (pv 0) (pe_int) set_list))
      (pss_one (ps_ret (pv 2))))) (pss_nil))
      (pss_cons (ps_set (i := 3) nd rfl (Or.inl rfl) ((pe_op op_modU ((pe_callTy call_intU (by rfl) B.n_int (by decide +kernel) (pa_cons ((pe_op op_addU ((pe_ix ix_seq (pv 0) (pe_int) (fun _ _ => rfl))) ((pe_op op_mulU (pe_int) ((pe_ix ix_seq (pv 0) (pe_int) (fun _ _ => rfl))))))) pa_nil))) (pe_int))))
      (pss_cons (ps_set (i := 3) nd rfl (Or.inl rfl) ((pe_op op_modU ((pe_callTy call_intU (by rfl) B.n_int (by decide +kernel) (pa_cons ((pe_op op_addU ((pe_op op_addU ((pe_op op_mulU (pv 3) (pv 3))) ((pe_op op_mulU (pe_int) ((pe_ix ix_seq (pv 0) (pe_int) (fun _ _ => rfl))))))) ((pe_ix ix_seq (pv 0) (pe_int) (fun _ _ => rfl))))) pa_nil))) (pe_int))))
      (pss_cons (ps_set (i := 3) nd rfl (Or.inl rfl) ((pe_op op_modU ((pe_callTy call_intU (by rfl) B.n_int (by decide +kernel) (pa_cons ((pe_op op_addU ((pe_op op_mulU (pv 3) (pv 3))) (pe_int))) pa_nil))) (pe_int))))
      (pss_one (ps_ret ((pe_op op_modU ((pe_callTy call_intU (by rfl) B.n_int (by decide +kernel) (pa_cons ((pe_op op_fdivU (pv 3) (pe_int))) pa_nil))) (pv 1)))))))))
theorem sc_law_change_draw : FnScope N_law_change_draw ["pool", "stage"] (defScope s_law_change_draw) := ⟨rfl, rfl, rfl, by decide +kernel, rfl, by decide +kernel, by decide +kernel⟩
theorem ok_law_change_draw (D : At K mg "_law_change_draw" s_law_change_draw) (B : Bn mg) (G_law_draw : Fn P w K mg base CX0 1 "_law_draw" ["pool", "many"] (sp_law_draw K)) : Fn P w K mg base CX0 2 "_law_change_draw" ["pool", "stage"] (sp_law_change_draw K) := by
  obtain ⟨f, fd, F, hm⟩ := D
  refine ⟨f, fd, F.ok sc_law_change_draw (fun vs H Q E h => len_law_change_draw h) (fun cdv A outer s H vs Q E hr h => ⟨t_law_change_draw K, ?_, pure_law_change_draw h⟩), hm, F.kp, F.binds fun _ _ _ _ _ _ us hl => match us, hl with | [_, _], _ => rfl⟩
  have nd := sc_law_change_draw.nd
  exact pss_cons (ps_set (i := 2) nd rfl (Or.inl rfl) ((pe_lst pa_nil)))
      (pss_cons (ps_set (i := 3) nd rfl (Or.inl rfl) (pe_int))
      (pss_cons (ps_for PassesOwn.never rfl (pi_range1 (by rfl) B.n_range (pa_cons (pv 1) pa_nil)) (pg_name (i := 4) nd rfl (Or.inl rfl)) (pss_one (ps_if ((pt_cmpR (op_eqU hr.units) (pv 3) (pv 1) (nomark _))) (pss_cons (ps_expr ((pe_bm PySem.F.plainAttrs_list PySem.F.slot_list_append PySem.F.type_list_append mt_append (pv 2) (pa_cons (pv 3) pa_nil))))
      (pss_one (ps_set (i := 3) nd rfl (Or.inl rfl) ((pe_op op_addU (pv 3) (pe_int)))))) (pss_one (ps_if ((pt_cmpR (op_ltU hr.units) (pv 3) (pv 1) (nomark _))) (pss_one (ps_if ((pt_cmpR (op_eqU hr.units) ((pe_callF G_law_draw (hr.mono (by decide)) (by rfl) pass0 (pa_cons (pv 0) (pa_cons (pe_int) pa_nil)))) (pe_int) (nomark _))) (pss_cons (ps_expr ((pe_bm PySem.F.plainAttrs_list PySem.F.slot_list_append PySem.F.type_list_append mt_append (pv 2) (pa_cons (pv 3) pa_nil))))
      (pss_one (ps_set (i := 3) nd rfl (Or.inl rfl) ((pe_op op_addU (pv 3) (pe_int)))))) (pss_one (ps_set (i := 3) nd rfl (Or.inl rfl) ((pe_op op_addU (pv 3) (pe_int))))))) (pss_nil))))))
      (pss_one (ps_ret ((pe_tupD (by rfl) B.n_tuple (pv 2)))))))
theorem sc_law_same : FnScope N_law_same ["got", "due"] (defScope s_law_same) := ⟨rfl, rfl, rfl, by decide +kernel, rfl, by decide +kernel, by decide +kernel⟩
theorem ok_law_same (D : At K mg "_law_same" s_law_same) (B : Bn mg) : Fn P w K mg base CX0 1 "_law_same" ["got", "due"] (sp_law_same K) := by
  obtain ⟨f, fd, F, hm⟩ := D
  refine ⟨f, fd, F.ok sc_law_same (fun vs H Q E h => len_law_same h) (fun cdv A outer s H vs Q E hr h => ⟨t_law_same K, ?_, pure_law_same h⟩), hm, F.kp, F.binds fun _ _ _ _ _ _ us hl => match us, hl with | [_, _], _ => rfl⟩
  have nd := sc_law_same.nd
  exact pss_cons (ps_set (i := 2) nd rfl (Or.inl rfl) ((pe_lst (pa_cons ((pe_lst (pa_cons (pv 0) (pa_cons (pv 1) pa_nil)))) pa_nil))))
      (pss_cons (ps_while PassesOwn.never ((pt_truU (pv 2) (by intro _; rfl))) (pss_cons (ps_set (i := 3) nd rfl (Or.inl rfl) ((pe_bm0 PySem.F.plainAttrs_list PySem.F.slot_list_pop PySem.F.type_list_pop mt_pop (pv 2))))
      (pss_one (ps_if ((pt_truU ((pe_callB call_isi (by rfl) B.n_isinstance (by decide +kernel) (pa_cons ((pe_ix ix_seq (pv 3) (pe_int) (fun _ _ => rfl))) (pa_cons ((pe_bltn (by rfl) B.n_tuple (by decide +kernel) rfl)) pa_nil)))) (by intro _; rfl))) (pss_cons (ps_if ((PW.pt (pw_or ((pt_not ((pt_truU ((pe_callB call_isi (by rfl) B.n_isinstance (by decide +kernel) (pa_cons ((pe_ix ix_seq (pv 3) (pe_int) (fun _ _ => rfl))) (pa_cons ((pe_bltn (by rfl) B.n_tuple (by decide +kernel) rfl)) pa_nil)))) (by intro _; rfl))))) (pw_or1 ((pt_cmpR (op_neU hr.units) ((pe_callB call_lenU (by rfl) B.n_len (by decide +kernel) (pa_cons ((pe_ix ix_seq (pv 3) (pe_int) (fun _ _ => rfl))) pa_nil))) ((pe_callB call_lenU (by rfl) B.n_len (by decide +kernel) (pa_cons ((pe_ix ix_seq (pv 3) (pe_int) (fun _ _ => rfl))) pa_nil))) (nomark _))))))) (pss_one (ps_ret (pe_bl))) (pss_nil))
      (pss_one (ps_for PassesOwn.never rfl (pi_range1 (by rfl) B.n_range (pa_cons ((pe_callB call_lenU (by rfl) B.n_len (by decide +kernel) (pa_cons ((pe_ix ix_seq (pv 3) (pe_int) (fun _ _ => rfl))) pa_nil))) pa_nil)) (pg_name (i := 4) nd rfl (Or.inl rfl)) (pss_one (ps_expr ((pe_bm PySem.F.plainAttrs_list PySem.F.slot_list_append PySem.F.type_list_append mt_append (pv 2) (pa_cons ((pe_lst (pa_cons ((pe_ix ix_seq ((pe_ix ix_seq (pv 3) (pe_int) (fun _ _ => rfl))) (pv 4) (fun _ _ => rfl))) (pa_cons ((pe_ix ix_seq ((pe_ix ix_seq (pv 3) (pe_int) (fun _ _ => rfl))) (pv 4) (fun _ _ => rfl))) pa_nil)))) pa_nil)))))))) (pss_one (ps_if ((pt_truU ((pe_callB call_isi (by rfl) B.n_isinstance (by decide +kernel) (pa_cons ((pe_ix ix_seq (pv 3) (pe_int) (fun _ _ => rfl))) (pa_cons ((pe_bltn (by rfl) B.n_bool (by decide +kernel) rfl)) pa_nil)))) (by intro _; rfl))) (pss_one (ps_if ((PW.pt (pw_or ((pt_not ((pt_truU ((pe_callB call_isi (by rfl) B.n_isinstance (by decide +kernel) (pa_cons ((pe_ix ix_seq (pv 3) (pe_int) (fun _ _ => rfl))) (pa_cons ((pe_bltn (by rfl) B.n_bool (by decide +kernel) rfl)) pa_nil)))) (by intro _; rfl))))) (pw_or1 ((pt_cmpR (op_neU hr.units) ((pe_ix ix_seq (pv 3) (pe_int) (fun _ _ => rfl))) ((pe_ix ix_seq (pv 3) (pe_int) (fun _ _ => rfl))) (nomark _))))))) (pss_one (ps_ret (pe_bl))) (pss_nil))) (pss_one (ps_if ((pt_truU ((pe_callB call_isi (by rfl) B.n_isinstance (by decide +kernel) (pa_cons ((pe_ix ix_seq (pv 3) (pe_int) (fun _ _ => rfl))) (pa_cons ((pe_bltn (by rfl) B.n_int (by decide +kernel) rfl)) pa_nil)))) (by intro _; rfl))) (pss_one (ps_if ((PW.pt (pw_or ((pt_not ((pt_truU ((pe_callB call_isi (by rfl) B.n_isinstance (by decide +kernel) (pa_cons ((pe_ix ix_seq (pv 3) (pe_int) (fun _ _ => rfl))) (pa_cons ((pe_bltn (by rfl) B.n_int (by decide +kernel) rfl)) pa_nil)))) (by intro _; rfl))))) (pw_or ((pt_truU ((pe_callB call_isi (by rfl) B.n_isinstance (by decide +kernel) (pa_cons ((pe_ix ix_seq (pv 3) (pe_int) (fun _ _ => rfl))) (pa_cons ((pe_bltn (by rfl) B.n_bool (by decide +kernel) rfl)) pa_nil)))) (by intro _; rfl))) (pw_or1 ((pt_cmpR (op_neU hr.units) ((pe_ix ix_seq (pv 3) (pe_int) (fun _ _ => rfl))) ((pe_ix ix_seq (pv 3) (pe_int) (fun _ _ => rfl))) (nomark _)))))))) (pss_one (ps_ret (pe_bl))) (pss_nil))) (pss_one (ps_if ((pt_truU ((pe_callB call_isi (by rfl) B.n_isinstance (by decide +kernel) (pa_cons ((pe_ix ix_seq (pv 3) (pe_int) (fun _ _ => rfl))) (pa_cons ((pe_bltn (by rfl) B.n_str (by decide +kernel) rfl)) pa_nil)))) (by intro _; rfl))) (pss_one (ps_if ((PW.pt (pw_or ((pt_not ((pt_truU ((pe_callB call_isi (by rfl) B.n_isinstance (by decide +kernel) (pa_cons ((pe_ix ix_seq (pv 3) (pe_int) (fun _ _ => rfl))) (pa_cons ((pe_bltn (by rfl) B.n_str (by decide +kernel) rfl)) pa_nil)))) (by intro _; rfl))))) (pw_or1 ((pt_cmpR (op_neU hr.units) ((pe_ix ix_seq (pv 3) (pe_int) (fun _ _ => rfl))) ((pe_ix ix_seq (pv 3) (pe_int) (fun _ _ => rfl))) (nomark _))))))) (pss_one (ps_ret (pe_bl))) (pss_nil))) (pss_one (ps_if ((pt_cmpR op_notNU ((pe_ix ix_seq (pv 3) (pe_int) (fun _ _ => rfl))) (pe_non) (nomark _))) (pss_one (ps_ret (pe_bl))) (pss_nil)))))))))))))
      (pss_one (ps_ret (pe_bl))))
theorem sc_law_change_text : FnScope N_law_change_text ["pool", "stage"] (defScope s_law_change_text) := ⟨rfl, rfl, rfl, by decide +kernel, rfl, by decide +kernel, by decide +kernel⟩
theorem ok_law_change_text (D : At K mg "_law_change_text" s_law_change_text) (B : Bn mg) (G_law_change_draw : Fn P w K mg base CX0 2 "_law_change_draw" ["pool", "stage"] (sp_law_change_draw K)) (G_law_draw : Fn P w K mg base CX0 1 "_law_draw" ["pool", "many"] (sp_law_draw K)) : Fn P w K mg base CX0 3 "_law_change_text" ["pool", "stage"] (sp_law_change_text K) := by
  obtain ⟨f, fd, F, hm⟩ := D
  refine ⟨f, fd, F.ok sc_law_change_text (fun vs H Q E h => len_law_change_text h) (fun cdv A outer s H vs Q E hr h => ⟨t_law_change_text K, ?_, pure_law_change_text h⟩), hm, F.kp, F.binds fun _ _ _ _ _ _ us hl => match us, hl with | [_, _], _ => rfl⟩
  have nd := sc_law_change_text.nd
  exact pss_cons (ps_set (i := 2) nd rfl (Or.inl rfl) ((pe_callF G_law_change_draw (hr.mono (by decide)) (by rfl) pass0 (pa_cons (pv 0) (pa_cons (pv 1) pa_nil)))))
      (pss_cons (ps_if ((pt_cmpR (op_eqU hr.units) ((pe_callB call_lenU (by rfl) B.n_len (by decide +kernel) (pa_cons (pv 2) pa_nil))) (pe_int) (nomark _))) (pss_one (ps_ret (pe_str))) (pss_nil))
      (pss_cons (ps_if ((PW.pt (pw_and ((pt_cmpR op_gtU ((pe_callB call_lenU (by rfl) B.n_len (by decide +kernel) (pa_cons (pv 2) pa_nil))) (pe_int) (nomark _))) (pw_and ((pt_cmpR (op_eqU hr.units) ((pe_ix ix_seq (pv 2) (pe_int) (fun _ _ => rfl))) (pe_int) (nomark _))) (pw_and1 ((pt_cmpR (op_eqU hr.units) ((pe_callF G_law_draw (hr.mono (by decide)) (by rfl) pass0 (pa_cons (pv 0) (pa_cons (pe_int) pa_nil)))) (pe_int) (nomark _)))))))) (pss_one (ps_set (i := 2) nd rfl (Or.inl rfl) ((pe_slice sl_U (pv 2) (po_some (pe_int)) po_none)))) (pss_nil))
      (pss_cons (ps_if ((PW.pt (pw_and ((pt_cmpR op_gtU ((pe_callB call_lenU (by rfl) B.n_len (by decide +kernel) (pa_cons (pv 2) pa_nil))) (pe_int) (nomark _))) (pw_and ((pt_cmpR (op_eqU hr.units) ((pe_ix ix_seq (pv 2) ((pe_un un_neg (pe_int))) (fun _ _ => rfl))) (pv 1) (nomark _))) (pw_and1 ((pt_cmpR (op_eqU hr.units) ((pe_callF G_law_draw (hr.mono (by decide)) (by rfl) pass0 (pa_cons (pv 0) (pa_cons (pe_int) pa_nil)))) (pe_int) (nomark _)))))))) (pss_one (ps_set (i := 2) nd rfl (Or.inl rfl) ((pe_slice sl_U (pv 2) po_none (po_some ((pe_op op_subU ((pe_callB call_lenU (by rfl) B.n_len (by decide +kernel) (pa_cons (pv 2) pa_nil))) (pe_int)))))))) (pss_nil))
      (pss_one (ps_ret ((pe_bm PySem.F.plainAttrs_str PySem.F.slot_str_join PySem.F.type_str_join mt_join (pe_str) (pa_cons ((pe_lc (own := [("place", 3)]) (g := (gName 3)) (tt := tYes) rfl nd ((pi_seqU (pv 2))) (blkOk_by (N := (N_law_change_text : List Str)) (sc := defScope s_law_change_text) (by decide +kernel)) (fun _ _ _ _ _ => (pg_name (i := 3) nd rfl (Or.inl rfl))) (fun _ _ _ _ _ => pts_nil) (fun _ _ _ _ _ => (pe_ix ix_seq (pe_str) ((pe_op op_subU (pv 3) (pe_int))) (fun _ _ => rfl))))) pa_nil))))))))
theorem sc_law_block_text : FnScope N_law_block_text ["pool", "stage", "many"] (defScope s_law_block_text) := ⟨rfl, rfl, rfl, by decide +kernel, rfl, by decide +kernel, by decide +kernel⟩
theorem ok_law_block_text (D : At K mg "_law_block_text" s_law_block_text) (B : Bn mg) (G_law_draw : Fn P w K mg base CX0 1 "_law_draw" ["pool", "many"] (sp_law_draw K)) (G_law_change_text : Fn P w K mg base CX0 3 "_law_change_text" ["pool", "stage"] (sp_law_change_text K)) : Fn P w K mg base CX0 4 "_law_block_text" ["pool", "stage", "many"] (sp_law_block_text K) := by
  obtain ⟨f, fd, F, hm⟩ := D
  refine ⟨f, fd, F.ok sc_law_block_text (fun vs H Q E h => len_law_block_text h) (fun cdv A outer s H vs Q E hr h => ⟨t_law_block_text K, ?_, pure_law_block_text h⟩), hm, F.kp, F.binds fun _ _ _ _ _ _ us hl => match us, hl with | [_, _, _], _ => rfl⟩
  have nd := sc_law_block_text.nd
  exact pss_cons (ps_set (i := 3) nd rfl (Or.inl rfl) ((pe_ix ix_seq ((pe_lst (pa_cons (pe_str) (pa_cons (pe_str) pa_nil)))) ((pe_callF G_law_draw (hr.mono (by decide)) (by rfl) pass0 (pa_cons (pv 0) (pa_cons (pe_int) pa_nil)))) (fun _ _ => rfl))))
      (pss_cons (ps_set (i := 4) nd rfl (Or.inl rfl) (pe_str))
      (pss_cons (ps_for PassesOwn.never rfl (pi_range1 (by rfl) B.n_range (pa_cons (pv 2) pa_nil)) (pg_name (i := 5) nd rfl (Or.inl rfl)) (pss_cons (ps_set (i := 6) nd rfl (Or.inl rfl) ((pe_callF G_law_change_text (hr.mono (by decide)) (by rfl) pass0 (pa_cons (pv 0) (pa_cons (pv 1) pa_nil)))))
      (pss_cons (ps_if ((PW.pt (pw_and ((pt_cmpR (op_neU hr.units) (pv 4) (pe_str) (nomark _))) (pw_and1 ((pt_cmpR (op_neU hr.units) (pv 6) (pe_str) (nomark _))))))) (pss_one (ps_set (i := 3) nd rfl (Or.inl rfl) ((pe_op op_addU (pv 3) (pe_str))))) (pss_nil))
      (pss_cons (ps_set (i := 3) nd rfl (Or.inl rfl) ((pe_op op_addU (pv 3) (pv 6))))
      (pss_one (ps_set (i := 4) nd rfl (Or.inl rfl) (pv 6)))))))
      (pss_one (ps_ret (pv 3)))))
theorem sc_law_notation : FnScope N_law_notation ["pool", "stage"] (defScope s_law_notation) := ⟨rfl, rfl, rfl, by decide +kernel, rfl, by decide +kernel, by decide +kernel⟩
theorem ok_law_notation (D : At K mg "_law_notation" s_law_notation) (B : Bn mg) (G_law_draw : Fn P w K mg base CX0 1 "_law_draw" ["pool", "many"] (sp_law_draw K)) (G_law_block_text : Fn P w K mg base CX0 4 "_law_block_text" ["pool", "stage", "many"] (sp_law_block_text K)) : Fn P w K mg base CX0 5 "_law_notation" ["pool", "stage"] (sp_law_notation K) := by
  obtain ⟨f, fd, F, hm⟩ := D
  refine ⟨f, fd, F.ok sc_law_notation (fun vs H Q E h => len_law_notation h) (fun cdv A outer s H vs Q E hr h => ⟨t_law_notation K, ?_, pure_law_notation h⟩), hm, F.kp, F.binds fun _ _ _ _ _ _ us hl => match us, hl with | [_, _], _ => rfl⟩
  have nd := sc_law_notation.nd
  exact pss_cons (ps_set (i := 2) nd rfl (Or.inl rfl) ((pe_op op_addU (pe_int) ((pe_callF G_law_draw (hr.mono (by decide)) (by rfl) pass0 (pa_cons (pv 0) (pa_cons (pe_int) pa_nil)))))))
      (pss_cons (ps_if ((pt_cmpR (op_eqU hr.units) ((pe_callF G_law_draw (hr.mono (by decide)) (by rfl) pass0 (pa_cons (pv 0) (pa_cons (pe_int) pa_nil)))) (pe_int) (nomark _))) (pss_one (ps_set (i := 2) nd rfl (Or.inl rfl) ((pe_op op_addU (pe_int) ((pe_callF G_law_draw (hr.mono (by decide)) (by rfl) pass0 (pa_cons (pv 0) (pa_cons (pe_int) pa_nil)))))))) (pss_nil))
      (pss_cons (ps_set (i := 3) nd rfl (Or.inl rfl) ((pe_callF G_law_block_text (hr.mono (by decide)) (by rfl) pass0 (pa_cons (pv 0) (pa_cons (pv 1) (pa_cons (pv 2) pa_nil))))))
      (pss_cons (ps_if ((pt_cmpR (op_eqU hr.units) ((pe_callF G_law_draw (hr.mono (by decide)) (by rfl) pass0 (pa_cons (pv 0) (pa_cons (pe_int) pa_nil)))) (pe_int) (nomark _))) (pss_one (ps_set (i := 3) nd rfl (Or.inl rfl) ((pe_op op_addU ((pe_op op_addU (pv 3) (pe_str))) ((pe_callF G_law_block_text (hr.mono (by decide)) (by rfl) pass0 (pa_cons (pv 0) (pa_cons (pv 1) (pa_cons ((pe_op op_addU (pe_int) ((pe_callF G_law_draw (hr.mono (by decide)) (by rfl) pass0 (pa_cons (pv 0) (pa_cons (pe_int) pa_nil)))))) pa_nil))))))))) (pss_nil))
      (pss_one (ps_ret (pv 3))))))
theorem sc_law_sign : FnScope N_law_sign ["pool"] (defScope s_law_sign) := ⟨rfl, rfl, rfl, by decide +kernel, rfl, by decide +kernel, by decide +kernel⟩
theorem ok_law_sign (D : At K mg "_law_sign" s_law_sign) (B : Bn mg) (G_law_draw : Fn P w K mg base CX0 1 "_law_draw" ["pool", "many"] (sp_law_draw K)) : Fn P w K mg base CX0 2 "_law_sign" ["pool"] (sp_law_sign K) := by
  obtain ⟨f, fd, F, hm⟩ := D
  refine ⟨f, fd, F.ok sc_law_sign (fun vs H Q E h => len_law_sign h) (fun cdv A outer s H vs Q E hr h => ⟨t_law_sign K, ?_, pure_law_sign h⟩), hm, F.kp, F.binds fun _ _ _ _ _ _ us hl => match us, hl with | [_], _ => rfl⟩
  have nd := sc_law_sign.nd
  exact pss_cons (ps_if ((pt_cmpR op_gtU ((pe_callF G_law_draw (hr.mono (by decide)) (by rfl) pass0 (pa_cons (pv 0) (pa_cons (pe_int) pa_nil)))) (pe_int) (nomark _))) (pss_one (ps_ret ((pe_ix ix_seq (pe_str) ((pe_callF G_law_draw (hr.mono (by decide)) (by rfl) pass0 (pa_cons (pv 0) (pa_cons (pe_int) pa_nil)))) (fun _ _ => rfl))))) (pss_nil))
      (pss_cons (ps_set (i := 1) nd rfl (Or.inl rfl) (pe_str))
      (pss_cons (ps_set (i := 1) nd rfl (Or.inl rfl) ((pe_op op_addU (pv 1) (pe_str))))
      (pss_one (ps_ret ((pe_ix ix_seq (pv 1) ((pe_callF G_law_draw (hr.mono (by decide)) (by rfl) pass0 (pa_cons (pv 0) (pa_cons (pe_int) pa_nil)))) (fun _ _ => rfl)))))))
theorem sc_law_bent_text : FnScope N_law_bent_text ["pool", "text"] (defScope s_law_bent_text) := ⟨rfl, rfl, rfl, by decide +kernel, rfl, by decide +kernel, by decide +kernel⟩
theorem ok_law_bent_text (D : At K mg "_law_bent_text" s_law_bent_text) (B : Bn mg) (G_law_draw : Fn P w K mg base CX0 1 "_law_draw" ["pool", "many"] (sp_law_draw K)) (G_law_sign : Fn P w K mg base CX0 2 "_law_sign" ["pool"] (sp_law_sign K)) : Fn P w K mg base CX0 3 "_law_bent_text" ["pool", "text"] (sp_law_bent_text K) := by
  obtain ⟨f, fd, F, hm⟩ := D
  refine ⟨f, fd, F.ok sc_law_bent_text (fun vs H Q E h => len_law_bent_text h) (fun cdv A outer s H vs Q E hr h => ⟨t_law_bent_text K, ?_, pure_law_bent_text h⟩), hm, F.kp, F.binds fun _ _ _ _ _ _ us hl => match us, hl with | [_, _], _ => rfl⟩
  have nd := sc_law_bent_text.nd
  exact pss_cons (ps_set (i := 2) nd rfl (Or.inl rfl) ((pe_callF G_law_draw (hr.mono (by decide)) (by rfl) pass0 (pa_cons (pv 0) (pa_cons ((pe_op op_addU ((pe_callB call_lenU (by rfl) B.n_len (by decide +kernel) (pa_cons (pv 1) pa_nil))) (pe_int))) pa_nil)))))
      (pss_cons (ps_set (i := 3) nd rfl (Or.inl rfl) ((pe_callF G_law_draw (hr.mono (by decide)) (by rfl) pass0 (pa_cons (pv 0) (pa_cons ((pe_op op_addU ((pe_callB call_lenU (by rfl) B.n_len (by decide +kernel) (pa_cons (pv 1) pa_nil))) (pe_int))) pa_nil)))))
      (pss_cons (ps_set (i := 4) nd rfl (Or.inl rfl) ((pe_callF G_law_sign (hr.mono (by decide)) (by rfl) pass0 (pa_cons (pv 0) pa_nil))))
      (pss_cons (ps_set (i := 5) nd rfl (Or.inl rfl) ((pe_callF G_law_draw (hr.mono (by decide)) (by rfl) pass0 (pa_cons (pv 0) (pa_cons (pe_int) pa_nil)))))
      (pss_cons (ps_if ((pt_cmpR (op_eqU hr.units) (pv 5) (pe_int) (nomark _))) (pss_one (ps_ret ((pe_op op_addU ((pe_slice sl_U (pv 1) po_none (po_some (pv 2)))) ((pe_slice sl_U (pv 1) (po_some ((pe_op op_addU (pv 2) (pe_int)))) po_none)))))) (pss_nil))
      (pss_cons (ps_if ((pt_cmpR (op_eqU hr.units) (pv 5) (pe_int) (nomark _))) (pss_one (ps_ret ((pe_op op_addU ((pe_op op_addU ((pe_slice sl_U (pv 1) po_none (po_some (pv 2)))) (pv 4))) ((pe_slice sl_U (pv 1) (po_some (pv 2)) po_none)))))) (pss_nil))
      (pss_cons (ps_if ((pt_cmpR (op_eqU hr.units) (pv 5) (pe_int) (nomark _))) (pss_one (ps_ret ((pe_op op_addU ((pe_op op_addU ((pe_slice sl_U (pv 1) po_none (po_some (pv 2)))) (pv 4))) ((pe_slice sl_U (pv 1) (po_some ((pe_op op_addU (pv 2) (pe_int)))) po_none)))))) (pss_nil))
      (pss_cons (ps_if ((pt_cmpR (op_eqU hr.units) (pv 5) (pe_int) (nomark _))) (pss_one (ps_ret ((pe_op op_addU (pv 1) (pv 4))))) (pss_nil))
      (pss_cons (ps_if ((pt_cmpR (op_eqU hr.units) (pv 5) (pe_int) (nomark _))) (pss_one (ps_ret ((pe_op op_addU (pv 4) (pv 1))))) (pss_nil))
      (pss_cons (ps_if ((pt_cmpR (op_eqU hr.units) (pv 5) (pe_int) (nomark _))) (pss_one (ps_ret ((pe_op op_addU ((pe_slice sl_U (pv 1) po_none (po_some (pv 2)))) ((pe_slice sl_U (pv 1) (po_some (pv 3)) po_none)))))) (pss_nil))
      (pss_cons (ps_if ((pt_cmpR (op_eqU hr.units) (pv 5) (pe_int) (nomark _))) (pss_one (ps_ret ((pe_op op_addU ((pe_op op_addU ((pe_op op_addU ((pe_slice sl_U (pv 1) po_none (po_some (pv 2)))) ((pe_slice sl_U (pv 1) (po_some ((pe_op op_addU (pv 2) (pe_int)))) (po_some ((pe_op op_addU (pv 2) (pe_int)))))))) ((pe_slice sl_U (pv 1) (po_some (pv 2)) (po_some ((pe_op op_addU (pv 2) (pe_int)))))))) ((pe_slice sl_U (pv 1) (po_some ((pe_op op_addU (pv 2) (pe_int)))) po_none)))))) (pss_nil))
      (pss_one (ps_ret (pv 1)))))))))))))
theorem sc_law_text : FnScope N_law_text ["pool", "good"] (defScope s_law_text) := ⟨rfl, rfl, rfl, by decide +kernel, rfl, by decide +kernel, by decide +kernel⟩
theorem ok_law_text (D : At K mg "_law_text" s_law_text) (B : Bn mg) (G_law_draw : Fn P w K mg base CX0 1 "_law_draw" ["pool", "many"] (sp_law_draw K)) (G_law_sign : Fn P w K mg base CX0 2 "_law_sign" ["pool"] (sp_law_sign K)) (G_law_bent_text : Fn P w K mg base CX0 3 "_law_bent_text" ["pool", "text"] (sp_law_bent_text K)) : Fn P w K mg base CX0 4 "_law_text" ["pool", "good"] (sp_law_text K) := by
  obtain ⟨f, fd, F, hm⟩ := D
  refine ⟨f, fd, F.ok sc_law_text (fun vs H Q E h => len_law_text h) (fun cdv A outer s H vs Q E hr h => ⟨t_law_text K, ?_, pure_law_text h⟩), hm, F.kp, F.binds fun _ _ _ _ _ _ us hl => match us, hl with | [_, _], _ => rfl⟩
  have nd := sc_law_text.nd
  exact pss_cons (ps_set (i := 2) nd rfl (Or.inl rfl) (pv 1))
      (pss_cons (ps_if ((pt_cmpR (op_eqU hr.units) ((pe_callF G_law_draw (hr.mono (by decide)) (by rfl) pass0 (pa_cons (pv 0) (pa_cons (pe_int) pa_nil)))) (pe_int) (nomark _))) (pss_cons (ps_set (i := 3) nd rfl (Or.inl rfl) ((pe_callF G_law_draw (hr.mono (by decide)) (by rfl) pass0 (pa_cons (pv 0) (pa_cons (pe_int) pa_nil)))))
      (pss_cons (ps_if ((pt_cmpR (op_eqU hr.units) ((pe_callF G_law_draw (hr.mono (by decide)) (by rfl) pass0 (pa_cons (pv 0) (pa_cons (pe_int) pa_nil)))) (pe_int) (nomark _))) (pss_one (ps_set (i := 3) nd rfl (Or.inl rfl) ((pe_callF G_law_draw (hr.mono (by decide)) (by rfl) pass0 (pa_cons (pv 0) (pa_cons (pe_int) pa_nil)))))) (pss_nil))
      (pss_one (ps_set (i := 2) nd rfl (Or.inl rfl) ((pe_bm PySem.F.plainAttrs_str PySem.F.slot_str_join PySem.F.type_str_join mt_join (pe_str) (pa_cons ((pe_lc (own := [("k", 4)]) (g := (gName 4)) (tt := tYes) rfl nd ((pi_range1 (by rfl) B.n_range (pa_cons (pv 3) pa_nil))) (blkOk_by (N := (N_law_text : List Str)) (sc := defScope s_law_text) (by decide +kernel)) (fun _ _ _ _ _ => (pg_name (i := 4) nd rfl (Or.inl rfl))) (fun _ _ _ _ _ => pts_nil) (fun _ _ _ _ _ => (pe_callF G_law_sign (hr.mono (by decide)) (by rfl) pass0 (pa_cons (pv 0) pa_nil))))) pa_nil))))))) (pss_nil))
      (pss_cons (ps_for PassesOwn.never rfl (pi_range1 (by rfl) B.n_range (pa_cons ((pe_callF G_law_draw (hr.mono (by decide)) (by rfl) pass0 (pa_cons (pv 0) (pa_cons (pe_int) pa_nil)))) pa_nil)) (pg_name (i := 4) nd rfl (Or.inl rfl)) (pss_one (ps_set (i := 2) nd rfl (Or.inl rfl) ((pe_slice sl_U ((pe_callF G_law_bent_text (hr.mono (by decide)) (by rfl) pass0 (pa_cons (pv 0) (pa_cons (pv 2) pa_nil)))) po_none (po_some (pe_int)))))))
      (pss_one (ps_ret (pv 2)))))
theorem sc_law_place : FnScope N_law_place ["stage", "sign"] (defScope s_law_place) := ⟨rfl, rfl, rfl, by decide +kernel, rfl, by decide +kernel, by decide +kernel⟩
theorem ok_law_place (D : At K mg "_law_place" s_law_place) (B : Bn mg) : Fn P w K mg base CX0 1 "_law_place" ["stage", "sign"] (sp_law_place K) := by
  obtain ⟨f, fd, F, hm⟩ := D
  refine ⟨f, fd, F.ok sc_law_place (fun vs H Q E h => len_law_place h) (fun cdv A outer s H vs Q E hr h => ⟨t_law_place K, ?_, pure_law_place h⟩), hm, F.kp, F.binds fun _ _ _ _ _ _ us hl => match us, hl with | [_, _], _ => rfl⟩
  have nd := sc_law_place.nd
  exact pss_cons (ps_set (i := 2) nd rfl (Or.inl rfl) ((pe_op op_addU ((pe_bm PySem.F.plainAttrs_str PySem.F.slot_str_find PySem.F.type_str_find mt_find (pe_str) (pa_cons (pv 1) pa_nil))) (pe_int))))
      (pss_cons (ps_if ((pt_cmpR op_gtU (pv 2) (pv 0) (nomark _))) (pss_one (ps_ret (pe_int))) (pss_nil))
      (pss_one (ps_ret (pv 2))))
theorem sc_law_column : FnScope N_law_column ["stage", "text"] (defScope s_law_column) := ⟨rfl, rfl, rfl, by decide +kernel, rfl, by decide +kernel, by decide +kernel⟩
theorem ok_law_column (D : At K mg "_law_column" s_law_column) (B : Bn mg) (G_law_place : Fn P w K mg base CX0 1 "_law_place" ["stage", "sign"] (sp_law_place K)) : Fn P w K mg base CX0 2 "_law_column" ["stage", "text"] (sp_law_column K) := by
  obtain ⟨f, fd, F, hm⟩ := D
  refine ⟨f, fd, F.ok sc_law_column (fun vs H Q E h => len_law_column h) (fun cdv A outer s H vs Q E hr h => ⟨t_law_column K, ?_, pure_law_column h⟩), hm, F.kp, F.binds fun _ _ _ _ _ _ us hl => match us, hl with | [_, _], _ => rfl⟩
  have nd := sc_law_column.nd
  exact pss_cons (ps_set (i := 2) nd rfl (Or.inl rfl) (pe_int))
      (pss_cons (ps_set (i := 3) nd rfl (Or.inl rfl) (pe_str))
      (pss_cons (ps_for PassesOwn.never rfl (pi_range1 (by rfl) B.n_range (pa_cons ((pe_callB call_lenU (by rfl) B.n_len (by decide +kernel) (pa_cons (pv 1) pa_nil))) pa_nil)) (pg_name (i := 4) nd rfl (Or.inl rfl)) (pss_cons (ps_set (i := 5) nd rfl (Or.inl rfl) ((pe_ix ix_seq (pv 1) (pv 4) (fun _ _ => rfl))))
      (pss_cons (ps_set (i := 6) nd rfl (Or.inl rfl) ((pe_callF G_law_place (hr.mono (by decide)) (by rfl) pass0 (pa_cons (pv 0) (pa_cons (pv 3) pa_nil)))))
      (pss_cons (ps_set (i := 7) nd rfl (Or.inl rfl) ((pe_callF G_law_place (hr.mono (by decide)) (by rfl) pass0 (pa_cons (pv 0) (pa_cons (pv 5) pa_nil)))))
      (pss_cons (ps_set (i := 8) nd rfl (Or.inl rfl) ((pe_and ((pe_cmpR op_gtU (pv 7) (pe_int) (nomark _))) (pe_one ((pe_or ((pe_cmpR (op_eqU hr.units) (pv 6) (pe_int) (nomark _))) (pe_one ((pe_and ((pe_cmpR op_gtU (pv 7) (pv 6) (nomark _))) (pe_one ((pe_cmpR (op_eqU hr.units) ((pe_op op_modU ((pe_callTy call_intU (by rfl) B.n_int (by decide +kernel) (pa_cons ((pe_op op_subU (pv 7) (pv 6))) pa_nil))) (pe_int))) (pe_int) (nomark _)))))))))))))
      (pss_cons (ps_if ((pt_cmpR (op_eqU hr.units) (pv 5) (pe_str) (nomark _))) (pss_one (ps_set (i := 8) nd rfl (Or.inl rfl) ((pe_and ((pe_cmpR (op_eqU hr.units) ((pe_op op_modU ((pe_callTy call_intU (by rfl) B.n_int (by decide +kernel) (pa_cons (pv 0) pa_nil))) (pe_int))) (pe_int) (nomark _))) (pe_one ((pe_cmpR (op_neU hr.units) (pv 3) (pe_str) (nomark _)))))))) (pss_nil))
      (pss_cons (ps_if ((pt_cmpR (op_eqU hr.units) (pv 5) (pe_str) (nomark _))) (pss_one (ps_set (i := 8) nd rfl (Or.inl rfl) ((pe_cmpR op_gtU (pv 6) (pe_int) (nomark _))))) (pss_nil))
      (pss_cons (ps_if ((pt_cmpR (op_eqU hr.units) (pv 5) (pe_str) (nomark _))) (pss_one (ps_set (i := 8) nd rfl (Or.inl rfl) ((pe_cmpR (op_eqU hr.units) (pv 3) (pe_str) (nomark _))))) (pss_nil))
      (pss_cons (ps_if ((pt_cmpR (op_eqU hr.units) (pv 5) (pe_str) (nomark _))) (pss_cons (ps_set (i := 2) nd rfl (Or.inl rfl) ((pe_op op_addU (pv 2) (pe_int))))
      (pss_one (ps_set (i := 8) nd rfl (Or.inl rfl) ((pe_and ((pe_cmpR (op_eqU hr.units) (pv 2) (pe_int) (nomark _))) (pe_one ((pe_or ((pe_cmpR op_gtU (pv 6) (pe_int) (nomark _))) (pe_one ((pe_cmpR (op_eqU hr.units) (pv 3) (pe_str) (nomark _)))))))))))) (pss_nil))
      (pss_cons (ps_if ((pt_not ((pt_truU (pv 8) (by intro _; rfl))))) (pss_one (ps_ret ((pe_op op_addU (pv 4) (pe_int))))) (pss_nil))
      (pss_one (ps_set (i := 3) nd rfl (Or.inl rfl) (pv 5)))))))))))))
      (pss_cons (ps_if ((PW.pt (pw_or ((pt_cmpR (op_eqU hr.units) (pv 3) (pe_str) (nomark _))) (pw_or1 ((pt_cmpR op_gtU ((pe_callF G_law_place (hr.mono (by decide)) (by rfl) pass0 (pa_cons (pv 0) (pa_cons (pv 3) pa_nil)))) (pe_int) (nomark _))))))) (pss_one (ps_ret (pe_int))) (pss_nil))
      (pss_one (ps_ret ((pe_op op_addU ((pe_callB call_lenU (by rfl) B.n_len (by decide +kernel) (pa_cons (pv 1) pa_nil))) (pe_int))))))))
theorem sc_law_change : FnScope N_law_change ["stage", "piece"] (defScope s_law_change) := ⟨rfl, rfl, rfl, by decide +kernel, rfl, by decide +kernel, by decide +kernel⟩
theorem ok_law_change (D : At K mg "_law_change" s_law_change) (B : Bn mg) : Fn P w K mg base CX0 1 "_law_change" ["stage", "piece"] (sp_law_change K) := by
  obtain ⟨f, fd, F, hm⟩ := D
  refine ⟨f, fd, F.ok sc_law_change (fun vs H Q E h => len_law_change h) (fun cdv A outer s H vs Q E hr h => ⟨t_law_change K, ?_, pure_law_change h⟩), hm, F.kp, F.binds fun _ _ _ _ _ _ us hl => match us, hl with | [_, _], _ => rfl⟩
  have nd := sc_law_change.nd
  exact pss_cons (ps_if ((pt_cmpR (op_eqU hr.units) (pv 1) (pe_str) (nomark _))) (pss_one (ps_ret ((pe_tup pa_nil)))) (pss_nil))
      (pss_cons (ps_setLc (i := 2) (own := [("sign", 3)]) (g := (gName 3)) (tt := tYes) rfl nd rfl rfl (sw_true rfl rfl rfl (by decide +kernel)) ((pi_seqU (pv 1))) (blkOk_by (N := (N_law_change : List Str)) (sc := defScope s_law_change) (by decide +kernel)) (fun _ _ _ _ _ => (pg_name (i := 3) nd rfl (Or.inl rfl))) (fun _ _ _ _ _ => pts_nil) (fun _ _ _ _ _ => (pe_op op_addU ((pe_bm PySem.F.plainAttrs_str PySem.F.slot_str_find PySem.F.type_str_find mt_find (pe_str) (pa_cons (pv 3) pa_nil))) (pe_int))))
      (pss_cons (ps_if ((pt_cmpR (op_eqU hr.units) ((pe_op op_modU ((pe_callTy call_intU (by rfl) B.n_int (by decide +kernel) (pa_cons ((pe_op op_subU ((pe_ix ix_seq (pv 2) (pe_int) (fun _ _ => rfl))) (pe_int))) pa_nil))) (pe_int))) (pe_int) (nomark _))) (pss_one (ps_set (i := 2) nd rfl (Or.inl rfl) ((pe_op op_addU ((pe_lst (pa_cons (pe_int) pa_nil))) (pv 2))))) (pss_nil))
      (pss_cons (ps_if ((pt_cmpR (op_eqU hr.units) ((pe_op op_modU ((pe_callTy call_intU (by rfl) B.n_int (by decide +kernel) (pa_cons ((pe_op op_subU (pv 0) ((pe_ix ix_seq (pv 2) ((pe_un un_neg (pe_int))) (fun _ _ => rfl))))) pa_nil))) (pe_int))) (pe_int) (nomark _))) (pss_one (ps_set (i := 2) nd rfl (Or.inl rfl) ((pe_op op_addU (pv 2) ((pe_lst (pa_cons (pv 0) pa_nil))))))) (pss_nil))
      (pss_one (ps_ret ((pe_tupD (by rfl) B.n_tuple (pv 2))))))))
theorem sc_law_changes : FnScope N_law_changes ["stage", "text"] (defScope s_law_changes) := ⟨rfl, rfl, rfl, by decide +kernel, rfl, by decide +kernel, by decide +kernel⟩
theorem ok_law_changes (D : At K mg "_law_changes" s_law_changes) (B : Bn mg) (G_law_change : Fn P w K mg base CX0 1 "_law_change" ["stage", "piece"] (sp_law_change K)) : Fn P w K mg base CX0 2 "_law_changes" ["stage", "text"] (sp_law_changes K) := by
  obtain ⟨f, fd, F, hm⟩ := D
  refine ⟨f, fd, F.ok sc_law_changes (fun vs H Q E h => len_law_changes h) (fun cdv A outer s H vs Q E hr h => ⟨t_law_changes K, ?_, pure_law_changes h⟩), hm, F.kp, F.binds fun _ _ _ _ _ _ us hl => match us, hl with | [_, _], _ => rfl⟩
  have nd := sc_law_changes.nd
  exact pss_cons (ps_set (i := 2) nd rfl (Or.inl rfl) ((pe_lst pa_nil)))
      (pss_cons (ps_for PassesOwn.never rfl (pi_seqU ((pe_bm PySem.F.plainAttrs_str PySem.F.slot_str_split PySem.F.type_str_split mt_split (pv 1) (pa_cons (pe_str) pa_nil)))) (pg_name (i := 3) nd rfl (Or.inl rfl)) (pss_cmpTok (i := 4) nd rfl (Or.inl rfl) (op_eqU hr.units) ((pe_slice sl_U (pv 3) po_none (po_some (pe_int))))
      (psst_cons (PST.of (ps_set (i := 5) nd rfl (Or.inl rfl) ((pe_slice sl_U (pv 3) (po_some ((pe_callTy call_intB (by rfl) B.n_int (by decide +kernel) (pa_cons (pv 4) pa_nil)))) po_none))))
      (psst_cons (pst_set (i := 6) nd rfl (Or.inr rfl) (pet_lc (own := [("piece", 8)]) (g := (gName 8)) (tt := (tTest (tOp (rNeU K) (tVar 8) ((tC (.str "")))))) rfl nd ((pit_list (pet_bm PySem.F.plainAttrs_str PySem.F.slot_str_split PySem.F.type_str_split mt_split (pet_replR (pv 5)) (pa_cons (pe_str) pa_nil)))) (blkOk_by (N := (N_law_changes : List Str)) (sc := defScope s_law_changes) (by decide +kernel)) (fun _ _ _ _ _ => (pg_name (i := 8) nd rfl (Or.inl rfl))) (fun _ _ _ _ _ => (pts_one ((pt_cmpR (op_neU hr.units) (pv 8) (pe_str) (nomark _))))) (fun _ _ _ _ _ => (pe_callF G_law_change (hr.mono (by decide)) (by rfl) pass0 (pa_cons (pv 0) (pa_cons (pv 8) pa_nil))))))
      (PSsT.of (pss_cons (ps_set (i := 7) nd rfl (Or.inr rfl) ((pe_callB call_lenU (by rfl) B.n_len (by decide +kernel) (pa_cons (pv 6) pa_nil))))
      (pss_cons (ps_if ((pt_truU (pv 4) (by intro _; rfl))) (pss_one (ps_set (i := 6) nd rfl (Or.inr rfl) ((pe_lc (own := [("k", 9)]) (g := (gName 9)) (tt := tYes) rfl nd ((pi_range1 (by rfl) B.n_range (pa_cons ((pe_op op_subU ((pe_op op_mulU (pe_int) (pv 7))) (pe_int))) pa_nil))) (blkOk_by (N := (N_law_changes : List Str)) (sc := defScope s_law_changes) (by decide +kernel)) (fun _ _ _ _ _ => (pg_name (i := 9) nd rfl (Or.inl rfl))) (fun _ _ _ _ _ => pts_nil) (fun _ _ _ _ _ => (pe_ix ix_seq (pv 6) ((pe_callB (call_min2 rfl) (by rfl) B.n_min (by decide +kernel) (pa_cons (pv 9) (pa_cons ((pe_op op_subU ((pe_op op_subU ((pe_op op_mulU (pe_int) (pv 7))) (pe_int))) (pv 9))) pa_nil)))) (fun _ _ => rfl))))))) (pss_nil))
      (pss_one (ps_expr ((pe_bm PySem.F.plainAttrs_list PySem.F.slot_list_extend PySem.F.type_list_extend mt_extend (pv 2) (pa_cons (pv 6) pa_nil)))))))))) (nomark _)))
      (pss_one (ps_ret ((pe_tupD (by rfl) B.n_tuple (pv 2))))))
theorem sc_law_read : FnScope N_law_read ["stage", "text"] (defScope s_law_read) := ⟨rfl, rfl, rfl, by decide +kernel, rfl, by decide +kernel, by decide +kernel⟩
theorem ok_law_read (D : At K mg "_law_read" s_law_read) (B : Bn mg) {ec : Str → Addr} (XS : Exs K ec XN) (EX : ExAt mg ec XN) (G_read_notation : Fn P w K mg base (L2.CX P w) 5 "read_notation" ["stage", "text"] (sp_read_notation K ec)) (G_law_same : Fn P w K mg base CX0 1 "_law_same" ["got", "due"] (sp_law_same K)) : Fn P w K mg base CX0 6 "_law_read" ["stage", "text"] (sp_law_read K) := by
  obtain ⟨f, fd, F, hm⟩ := D
  refine ⟨f, fd, F.ok sc_law_read (fun vs H Q E h => len_law_read h) (fun cdv A outer s H vs Q E hr h => ⟨t_law_read K ec, ?_, pure_law_read XS h⟩), hm, F.kp, F.binds fun _ _ _ _ _ _ us hl => match us, hl with | [_, _], _ => rfl⟩
  have nd := sc_law_read.nd
  exact pss_cons (ps_set (i := 2) nd rfl (Or.inl rfl) (pe_str))
      (pss_cons (ps_set (i := 3) nd rfl (Or.inl rfl) (pe_str))
      (pss_cons (ps_set (i := 4) nd rfl (Or.inl rfl) (pe_int))
      (pss_cons (ps_set (i := 5) nd rfl (Or.inl rfl) (pe_bl))
      (pss_cons (ps_set (i := 6) nd rfl (Or.inl rfl) (pe_non))
      (pss_cons (ps_tryT rfl rfl nd takes0 (fun W pn xe htk hpo => pss_one (ps_set (i := 6) nd rfl (Or.inl rfl) ((pe_callW htk G_read_notation (hr.mono (by decide)) (by rfl) (pa_cons (pv 0) (pa_cons (pv 1) pa_nil)))))) (HdsA.as ⟨rfl, by decide, .inl (EX "BadStage" (by decide))⟩ rfl rfl (fun a oe cls d pn hz hf => pss_cons (ps_set (i := 2) nd rfl (Or.inl rfl) (pe_str))
      (pss_cons (ps_set (i := 3) nd rfl (Or.inl rfl) ((pe_xfA hz hf (pv 7))))
      (pss_one (ps_set (i := 5) nd rfl (Or.inl rfl) ((pe_and ((pe_callB (call_isX hz hf) (by rfl) B.n_isinstance (by decide +kernel) (pa_cons (pv 7) (pa_cons ((pe_glob rfl (EX "ChamberError" (by decide)) rfl)) pa_nil)))) (pe_and ((pe_callB (call_isX hz hf) (by rfl) B.n_isinstance (by decide +kernel) (pa_cons (pv 7) (pa_cons ((pe_bltn (by rfl) B.n_ValueError (by decide +kernel) rfl)) pa_nil)))) (pe_one ((pe_not ((pe_callB (call_isX hz hf) (by rfl) B.n_isinstance (by decide +kernel) (pa_cons (pv 7) (pa_cons ((pe_tup (pa_cons ((pe_glob rfl (EX "BadNotation" (by decide)) rfl)) (pa_cons ((pe_glob rfl (EX "BadChange" (by decide)) rfl)) pa_nil)))) pa_nil)))))))))))))) (HdsA.as ⟨rfl, by decide, .inl (EX "BadNotation" (by decide))⟩ rfl rfl (fun a oe cls d pn hz hf => pss_cons (ps_set (i := 2) nd rfl (Or.inl rfl) (pe_str))
      (pss_cons (ps_set (i := 3) nd rfl (Or.inl rfl) ((pe_xfA hz hf (pv 7))))
      (pss_cons (ps_set (i := 4) nd rfl (Or.inl rfl) ((pe_xfA hz hf (pv 7))))
      (pss_one (ps_set (i := 5) nd rfl (Or.inl rfl) ((pe_and ((pe_callB (call_isX hz hf) (by rfl) B.n_isinstance (by decide +kernel) (pa_cons (pv 7) (pa_cons ((pe_glob rfl (EX "ChamberError" (by decide)) rfl)) pa_nil)))) (pe_and ((pe_callB (call_isX hz hf) (by rfl) B.n_isinstance (by decide +kernel) (pa_cons (pv 7) (pa_cons ((pe_bltn (by rfl) B.n_ValueError (by decide +kernel) rfl)) pa_nil)))) (pe_one ((pe_not ((pe_callB (call_isX hz hf) (by rfl) B.n_isinstance (by decide +kernel) (pa_cons (pv 7) (pa_cons ((pe_tup (pa_cons ((pe_glob rfl (EX "BadComposition" (by decide)) rfl)) (pa_cons ((pe_glob rfl (EX "BadChange" (by decide)) rfl)) pa_nil)))) pa_nil))))))))))))))) (HdsA.no ⟨rfl, by decide, .inl (EX "ChamberError" (by decide))⟩ (fun a oe cls d pn hz hf => pss_one (ps_set (i := 2) nd rfl (Or.inl rfl) (pe_str))) HdsA.nil))))
      (pss_cons (ps_if ((PW.pt (pw_and ((pt_cmpR (op_neU hr.units) (pv 2) (pe_str) (nomark _))) (pw_and1 ((pt_not ((PW.pt (pw_and ((pt_truU (pv 5) (by intro _; rfl))) (pw_and1 ((pt_truU ((pe_callF G_law_same (hr.mono (by decide)) (by rfl) pass0 (pa_cons (pv 3) (pa_cons (pv 2) pa_nil)))) (by intro _; rfl))))))))))))) (pss_one (ps_set (i := 2) nd rfl (Or.inl rfl) (pe_str))) (pss_nil))
      (pss_one (ps_ret ((pe_lst (pa_cons (pv 2) (pa_cons (pv 4) (pa_cons (pv 6) pa_nil)))))))))))))
theorem sc_law_answered : FnScope N_law_answered ["stage", "text"] (defScope s_law_answered) := ⟨rfl, rfl, rfl, by decide +kernel, rfl, by decide +kernel, by decide +kernel⟩
theorem ok_law_answered (D : At K mg "_law_answered" s_law_answered) (B : Bn mg) (G_law_read : Fn P w K mg base CX0 6 "_law_read" ["stage", "text"] (sp_law_read K)) (G_law_column : Fn P w K mg base CX0 2 "_law_column" ["stage", "text"] (sp_law_column K)) (G_law_same : Fn P w K mg base CX0 1 "_law_same" ["got", "due"] (sp_law_same K)) (G_law_changes : Fn P w K mg base CX0 2 "_law_changes" ["stage", "text"] (sp_law_changes K)) : Fn P w K mg base CX0 7 "_law_answered" ["stage", "text"] (sp_law_answered K) := by
  obtain ⟨f, fd, F, hm⟩ := D
  refine ⟨f, fd, F.ok sc_law_answered (fun vs H Q E h => len_law_answered h) (fun cdv A outer s H vs Q E hr h => ⟨t_law_answered K, ?_, pure_law_answered h⟩), hm, F.kp, F.binds fun _ _ _ _ _ _ us hl => match us, hl with | [_, _], _ => rfl⟩
  have nd := sc_law_answered.nd
  exact pss_cons (ps_set (i := 2) nd rfl (Or.inl rfl) ((pe_callF G_law_read (hr.mono (by decide)) (by rfl) pass0 (pa_cons (pv 0) (pa_cons (pv 1) pa_nil)))))
      (pss_cons (ps_if ((PW.pt (pw_or ((pt_cmpR (op_ltU hr.units) (pv 0) (pe_int) (nomark _))) (pw_or1 ((pt_cmpR op_gtU (pv 0) (pe_int) (nomark _))))))) (pss_one (ps_ret ((pe_cmpR (op_eqU hr.units) ((pe_ix ix_seq (pv 2) (pe_int) (fun _ _ => rfl))) (pe_str) (nomark _))))) (pss_nil))
      (pss_cons (ps_set (i := 3) nd rfl (Or.inl rfl) ((pe_callF G_law_column (hr.mono (by decide)) (by rfl) pass0 (pa_cons (pv 0) (pa_cons (pv 1) pa_nil)))))
      (pss_cons (ps_if ((pt_cmpR op_gtU (pv 3) (pe_int) (nomark _))) (pss_one (ps_ret ((pe_and ((pe_cmpR (op_eqU hr.units) ((pe_ix ix_seq (pv 2) (pe_int) (fun _ _ => rfl))) (pe_str) (nomark _))) (pe_one ((pe_callF G_law_same (hr.mono (by decide)) (by rfl) pass0 (pa_cons ((pe_ix ix_seq (pv 2) (pe_int) (fun _ _ => rfl))) (pa_cons (pv 3) pa_nil))))))))) (pss_nil))
      (pss_one (ps_ret ((pe_and ((pe_cmpR (op_eqU hr.units) ((pe_ix ix_seq (pv 2) (pe_int) (fun _ _ => rfl))) (pe_str) (nomark _))) (pe_one ((pe_callF G_law_same (hr.mono (by decide)) (by rfl) pass0 (pa_cons ((pe_ix ix_seq (pv 2) (pe_int) (fun _ _ => rfl))) (pa_cons ((pe_callF G_law_changes (hr.mono (by decide)) (by rfl) pass0 (pa_cons (pv 0) (pa_cons (pv 1) pa_nil)))) pa_nil))))))))))))
theorem sc_law : FnScope N_law ["script"] (defScope s_law) := ⟨rfl, rfl, rfl, by decide +kernel, rfl, by decide +kernel, by decide +kernel⟩
theorem ok_lawF {f : Addr} {fd : FuncData} (F : Fun K "law" "law" s_law f fd) (B : Bn mg) (G_law_pool : Fn P w K mg base CX0 2 "_law_pool" ["script", "k"] (sp_law_pool K)) (G_law_draw : Fn P w K mg base CX0 1 "_law_draw" ["pool", "many"] (sp_law_draw K)) (G_law_notation : Fn P w K mg base CX0 5 "_law_notation" ["pool", "stage"] (sp_law_notation K)) (G_law_text : Fn P w K mg base CX0 4 "_law_text" ["pool", "good"] (sp_law_text K)) (G_law_answered : Fn P w K mg base CX0 7 "_law_answered" ["stage", "text"] (sp_law_answered K)) : FnOk P w K mg base CX0 8 f fd ["script"] (sp_law K) := by
  refine F.ok sc_law (fun vs H Q E h => len_law h) (fun cdv A outer s H vs Q E hr h => ⟨t_law K, ?_, pure_law h⟩)
  have nd := sc_law.nd
  exact pss_cons (ps_set (i := 1) nd rfl (Or.inl rfl) ((pe_callF G_law_pool (hr.mono (by decide)) (by rfl) pass0 (pa_cons (pv 0) (pa_cons (pe_int) pa_nil)))))
      (pss_cons (ps_set (i := 2) nd rfl (Or.inl rfl) ((pe_op op_addU (pe_int) ((pe_callF G_law_draw (hr.mono (by decide)) (by rfl) pass0 (pa_cons (pv 1) (pa_cons (pe_int) pa_nil)))))))
      (pss_cons (ps_set (i := 3) nd rfl (Or.inl rfl) ((pe_callF G_law_notation (hr.mono (by decide)) (by rfl) pass0 (pa_cons (pv 1) (pa_cons (pv 2) pa_nil)))))
      (pss_cons (ps_set (i := 4) nd rfl (Or.inl rfl) ((pe_callF G_law_pool (hr.mono (by decide)) (by rfl) pass0 (pa_cons (pv 0) (pa_cons (pe_int) pa_nil)))))
      (pss_cons (ps_set (i := 5) nd rfl (Or.inl rfl) ((pe_callF G_law_text (hr.mono (by decide)) (by rfl) pass0 (pa_cons (pv 4) (pa_cons (pv 3) pa_nil)))))
      (pss_cons (ps_if ((PW.pt (pw_or ((pt_not ((pt_truU ((pe_callF G_law_answered (hr.mono (by decide)) (by rfl) pass0 (pa_cons (pv 2) (pa_cons (pv 5) pa_nil)))) (by intro _; rfl))))) (pw_or1 ((pt_not ((pt_truU ((pe_callF G_law_answered (hr.mono (by decide)) (by rfl) pass0 (pa_cons (pv 2) (pa_cons (pv 3) pa_nil)))) (by intro _; rfl))))))))) (pss_one (ps_ret (pe_bl))) (pss_nil))
      (pss_cons (ps_set (i := 6) nd rfl (Or.inl rfl) ((pe_op op_addU (pe_int) ((pe_callF G_law_draw (hr.mono (by decide)) (by rfl) pass0 (pa_cons (pv 4) (pa_cons (pe_int) pa_nil)))))))
      (pss_cons (ps_if ((PW.pt (pw_or ((pt_not ((pt_truU ((pe_callF G_law_answered (hr.mono (by decide)) (by rfl) pass0 (pa_cons (pv 6) (pa_cons (pv 5) pa_nil)))) (by intro _; rfl))))) (pw_or ((pt_not ((pt_truU ((pe_callF G_law_answered (hr.mono (by decide)) (by rfl) pass0 (pa_cons (pv 6) (pa_cons (pv 3) pa_nil)))) (by intro _; rfl))))) (pw_or1 ((pt_not ((pt_truU ((pe_callF G_law_answered (hr.mono (by decide)) (by rfl) pass0 (pa_cons (pv 2) (pa_cons (pe_str) pa_nil)))) (by intro _; rfl)))))))))) (pss_one (ps_ret (pe_bl))) (pss_nil))
      (pss_cons (ps_set (i := 7) nd rfl (Or.inl rfl) ((pe_op op_addU ((pe_op op_mulU ((pe_callF G_law_draw (hr.mono (by decide)) (by rfl) pass0 (pa_cons (pv 4) (pa_cons ((pe_op op_powU (pe_int) (pe_int))) pa_nil)))) ((pe_op op_powU (pe_int) (pe_int))))) ((pe_callF G_law_draw (hr.mono (by decide)) (by rfl) pass0 (pa_cons (pv 4) (pa_cons ((pe_op op_powU (pe_int) (pe_int))) pa_nil)))))))
      (pss_cons (ps_set (i := 8) nd rfl (Or.inl rfl) ((pe_ix ix_seq ((pe_lst (pa_cons (pe_int) (pa_cons (pe_int) (pa_cons ((pe_un un_neg (pv 7))) (pa_cons ((pe_op op_addU (pe_int) (pv 7))) pa_nil)))))) ((pe_callF G_law_draw (hr.mono (by decide)) (by rfl) pass0 (pa_cons (pv 4) (pa_cons (pe_int) pa_nil)))) (fun _ _ => rfl))))
      (pss_cons (ps_if ((PW.pt (pw_or ((pt_not ((pt_truU ((pe_callF G_law_answered (hr.mono (by decide)) (by rfl) pass0 (pa_cons (pv 8) (pa_cons (pv 5) pa_nil)))) (by intro _; rfl))))) (pw_or1 ((pt_not ((pt_truU ((pe_callF G_law_answered (hr.mono (by decide)) (by rfl) pass0 (pa_cons (pv 8) (pa_cons (pv 3) pa_nil)))) (by intro _; rfl))))))))) (pss_one (ps_ret (pe_bl))) (pss_nil))
      (pss_cons (ps_set (i := 9) nd rfl (Or.inl rfl) ((pe_callF G_law_pool (hr.mono (by decide)) (by rfl) pass0 (pa_cons (pv 0) (pa_cons (pe_int) pa_nil)))))
      (pss_cons (ps_set (i := 10) nd rfl (Or.inl rfl) ((pe_lst (pa_cons (pe_str) (pa_cons (pe_str) (pa_cons (pe_str) (pa_cons (pe_str) (pa_cons ((pe_ix ix_seq (pe_str) ((pe_callF G_law_draw (hr.mono (by decide)) (by rfl) pass0 (pa_cons (pv 9) (pa_cons (pe_int) pa_nil)))) (fun _ _ => rfl))) pa_nil))))))))
      (pss_cons (ps_if ((pt_cmpR op_gtU ((pe_callB call_lenU (by rfl) B.n_len (by decide +kernel) (pa_cons (pv 3) pa_nil))) (pe_int) (nomark _))) (pss_one (ps_set (i := 10) nd rfl (Or.inl rfl) ((pe_lst (pa_cons ((pe_ix ix_seq (pv 10) ((pe_callF G_law_draw (hr.mono (by decide)) (by rfl) pass0 (pa_cons (pv 9) (pa_cons (pe_int) pa_nil)))) (fun _ _ => rfl))) pa_nil))))) (pss_nil))
      (pss_cons (ps_for PassesOwn.never rfl (pi_seqU (pv 10)) (pg_name (i := 11) nd rfl (Or.inl rfl)) (pss_cons (ps_set (i := 12) nd rfl (Or.inl rfl) ((pe_callF G_law_draw (hr.mono (by decide)) (by rfl) pass0 (pa_cons (pv 9) (pa_cons ((pe_op op_addU ((pe_callB call_lenU (by rfl) B.n_len (by decide +kernel) (pa_cons (pv 3) pa_nil))) (pe_int))) pa_nil)))))
      (pss_cons (ps_if ((pt_not ((pt_truU ((pe_callF G_law_answered (hr.mono (by decide)) (by rfl) pass0 (pa_cons (pv 2) (pa_cons ((pe_op op_addU ((pe_op op_addU ((pe_slice sl_U (pv 3) po_none (po_some (pv 12)))) (pv 11))) ((pe_slice sl_U (pv 3) (po_some (pv 12)) po_none)))) pa_nil)))) (by intro _; rfl))))) (pss_one (ps_ret (pe_bl))) (pss_nil))
      (pss_one (ps_if ((pt_not ((pt_truU ((pe_callF G_law_answered (hr.mono (by decide)) (by rfl) pass0 (pa_cons (pv 2) (pa_cons ((pe_op op_addU ((pe_slice sl_U (pv 3) po_none (po_some (pv 12)))) ((pe_slice sl_U (pv 3) (po_some ((pe_op op_addU (pv 12) (pe_int)))) po_none)))) pa_nil)))) (by intro _; rfl))))) (pss_one (ps_ret (pe_bl))) (pss_nil))))))
      (pss_one (ps_ret ((pe_callF G_law_answered (hr.mono (by decide)) (by rfl) pass0 (pa_cons (pv 2) (pa_cons (pv 5) pa_nil))))))))))))))))))))
end
theorem all_mk {l : PySem.W.OpenLaw} {w : World} {K : PySem.W.Frag} {h : Heap} {mg : Str → Option Value} {fa : Addr} (X : K.In h) (G : h.Ns mainGlobals mg) (hfa : mg "law" = some (.ref fa))
    {f1 : Addr} {od1 an1 : Option Addr} {sl1 : Array (Option Value)} {oc1 kV1 dc1 pm1 cd1 ct1 : Value}
    {f2 : Addr} {od2 an2 : Option Addr} {sl2 : Array (Option Value)} {oc2 kV2 dc2 pm2 cd2 ct2 : Value}
    {f3 : Addr} {od3 an3 : Option Addr} {sl3 : Array (Option Value)} {oc3 kV3 dc3 pm3 cd3 ct3 : Value}
    {f4 : Addr} {od4 an4 : Option Addr} {sl4 : Array (Option Value)} {oc4 kV4 dc4 pm4 cd4 ct4 : Value}
    {f5 : Addr} {od5 an5 : Option Addr} {sl5 : Array (Option Value)} {oc5 kV5 dc5 pm5 cd5 ct5 : Value}
    {f6 : Addr} {od6 an6 : Option Addr} {sl6 : Array (Option Value)} {oc6 kV6 dc6 pm6 cd6 ct6 : Value}
    {f7 : Addr} {od7 an7 : Option Addr} {sl7 : Array (Option Value)} {oc7 kV7 dc7 pm7 cd7 ct7 : Value}
    {f8 : Addr} {od8 an8 : Option Addr} {sl8 : Array (Option Value)} {oc8 kV8 dc8 pm8 cd8 ct8 : Value}
    {f9 : Addr} {od9 an9 : Option Addr} {sl9 : Array (Option Value)} {oc9 kV9 dc9 pm9 cd9 ct9 : Value}
    {f10 : Addr} {od10 an10 : Option Addr} {sl10 : Array (Option Value)} {oc10 kV10 dc10 pm10 cd10 ct10 : Value}
    {f11 : Addr} {od11 an11 : Option Addr} {sl11 : Array (Option Value)} {oc11 kV11 dc11 pm11 cd11 ct11 : Value}
    {f12 : Addr} {od12 an12 : Option Addr} {sl12 : Array (Option Value)} {oc12 kV12 dc12 pm12 cd12 ct12 : Value}
    {f13 : Addr} {od13 an13 : Option Addr} {sl13 : Array (Option Value)} {oc13 kV13 dc13 pm13 cd13 ct13 : Value}
    {f14 : Addr} {od14 an14 : Option Addr} {sl14 : Array (Option Value)} {oc14 kV14 dc14 pm14 cd14 ct14 : Value}
    {f15 : Addr} {od15 an15 : Option Addr} {sl15 : Array (Option Value)} {oc15 kV15 dc15 pm15 cd15 ct15 : Value}
    {f16 : Addr} {od16 an16 : Option Addr} {sl16 : Array (Option Value)} {oc16 kV16 dc16 pm16 cd16 ct16 : Value}
    {f17 : Addr} {od17 an17 : Option Addr} {sl17 : Array (Option Value)} {oc17 kV17 dc17 pm17 cd17 ct17 : Value}
    {f18 : Addr} {od18 an18 : Option Addr} {sl18 : Array (Option Value)} {oc18 kV18 dc18 pm18 cd18 ct18 : Value}
    {f19 : Addr} {od19 an19 : Option Addr} {sl19 : Array (Option Value)} {oc19 kV19 dc19 pm19 cd19 ct19 : Value}
    {f20 : Addr} {od20 an20 : Option Addr} {sl20 : Array (Option Value)} {oc20 kV20 dc20 pm20 cd20 ct20 : Value}
    {f21 : Addr} {od21 an21 : Option Addr} {sl21 : Array (Option Value)} {oc21 kV21 dc21 pm21 cd21 ct21 : Value}
    {f22 : Addr} {od22 an22 : Option Addr} {sl22 : Array (Option Value)} {oc22 kV22 dc22 pm22 cd22 ct22 : Value}
    {f23 : Addr} {od23 an23 : Option Addr} {sl23 : Array (Option Value)} {oc23 kV23 dc23 pm23 cd23 ct23 : Value}
    {f24 : Addr} {od24 an24 : Option Addr} {sl24 : Array (Option Value)} {oc24 kV24 dc24 pm24 cd24 ct24 : Value}
    {f25 : Addr} {od25 an25 : Option Addr} {sl25 : Array (Option Value)} {oc25 kV25 dc25 pm25 cd25 ct25 : Value}
    {f26 : Addr} {od26 an26 : Option Addr} {sl26 : Array (Option Value)} {oc26 kV26 dc26 pm26 cd26 ct26 : Value}
    {C_ChamberError : Addr}
    {C_BadStage : Addr}
    {C_BadChange : Addr}
    {C_BadNotation : Addr}
    {C_BadComposition : Addr}
    {fI_ChamberError cc_ChamberError : Addr} {od_ChamberError an_ChamberError cld_ChamberError : Option Addr} {sl_ChamberError csl_ChamberError : Array (Option Value)} {oc_ChamberError kV_ChamberError dc_ChamberError pm_ChamberError cd_ChamberError ct_ChamberError cl_ChamberError : Value}
    {fI_BadStage cc_BadStage : Addr} {od_BadStage an_BadStage cld_BadStage : Option Addr} {sl_BadStage csl_BadStage : Array (Option Value)} {oc_BadStage kV_BadStage dc_BadStage pm_BadStage cd_BadStage ct_BadStage cl_BadStage : Value}
    {fI_BadNotation cc_BadNotation : Addr} {od_BadNotation an_BadNotation cld_BadNotation : Option Addr} {sl_BadNotation csl_BadNotation : Array (Option Value)} {oc_BadNotation kV_BadNotation dc_BadNotation pm_BadNotation cd_BadNotation ct_BadNotation cl_BadNotation : Value}
    {t_SIGNS : Tok}
    {d_FOLLOWERS : Addr} {es_FOLLOWERS : Array DictEntry} {n_FOLLOWERS : Nat} {tk_FOLLOWERS_0 tk_FOLLOWERS_1 tk_FOLLOWERS_2 tk_FOLLOWERS_3 tk_FOLLOWERS_4 : Tok}
    (a1 : PySem.W.nsIn K mainGlobals "check_stage" = some (some (.ref f1))) (l1 : K.lookup f1 = some ⟨oc1, od1, .func (PySem.W.fnOf "check_stage" "check_stage" (defArgs s_check_stage) (defBody s_check_stage) (defScope s_check_stage) .none kV1 dc1 pm1 an1 cd1 ct1), sl1⟩) (c1 : PySem.W.codeIn K cd1 "check_stage" = true) (k1 : PySem.W.keepIn K (.ref f1) = true)
    (a2 : PySem.W.nsIn K mainGlobals "place_of" = some (some (.ref f2))) (l2 : K.lookup f2 = some ⟨oc2, od2, .func (PySem.W.fnOf "place_of" "place_of" (defArgs s_place_of) (defBody s_place_of) (defScope s_place_of) .none kV2 dc2 pm2 an2 cd2 ct2), sl2⟩) (c2 : PySem.W.codeIn K cd2 "place_of" = true) (k2 : PySem.W.keepIn K (.ref f2) = true)
    (a3 : PySem.W.nsIn K mainGlobals "may_follow" = some (some (.ref f3))) (l3 : K.lookup f3 = some ⟨oc3, od3, .func (PySem.W.fnOf "may_follow" "may_follow" (defArgs s_may_follow) (defBody s_may_follow) (defScope s_may_follow) .none kV3 dc3 pm3 an3 cd3 ct3), sl3⟩) (c3 : PySem.W.codeIn K cd3 "may_follow" = true) (k3 : PySem.W.keepIn K (.ref f3) = true)
    (a4 : PySem.W.nsIn K mainGlobals "change_of" = some (some (.ref f4))) (l4 : K.lookup f4 = some ⟨oc4, od4, .func (PySem.W.fnOf "change_of" "change_of" (defArgs s_change_of) (defBody s_change_of) (defScope s_change_of) .none kV4 dc4 pm4 an4 cd4 ct4), sl4⟩) (c4 : PySem.W.codeIn K cd4 "change_of" = true) (k4 : PySem.W.keepIn K (.ref f4) = true)
    (a5 : PySem.W.nsIn K mainGlobals "kind_of" = some (some (.ref f5))) (l5 : K.lookup f5 = some ⟨oc5, od5, .func (PySem.W.fnOf "kind_of" "kind_of" (defArgs s_kind_of) (defBody s_kind_of) (defScope s_kind_of) .none kV5 dc5 pm5 an5 cd5 ct5), sl5⟩) (c5 : PySem.W.codeIn K cd5 "kind_of" = true) (k5 : PySem.W.keepIn K (.ref f5) = true)
    (a6 : PySem.W.nsIn K mainGlobals "add_sign" = some (some (.ref f6))) (l6 : K.lookup f6 = some ⟨oc6, od6, .func (PySem.W.fnOf "add_sign" "add_sign" (defArgs s_add_sign) (defBody s_add_sign) (defScope s_add_sign) .none kV6 dc6 pm6 an6 cd6 ct6), sl6⟩) (c6 : PySem.W.codeIn K cd6 "add_sign" = true) (k6 : PySem.W.keepIn K (.ref f6) = true)
    (a7 : PySem.W.nsIn K mainGlobals "changes_of_block" = some (some (.ref f7))) (l7 : K.lookup f7 = some ⟨oc7, od7, .func (PySem.W.fnOf "changes_of_block" "changes_of_block" (defArgs s_changes_of_block) (defBody s_changes_of_block) (defScope s_changes_of_block) .none kV7 dc7 pm7 an7 cd7 ct7), sl7⟩) (c7 : PySem.W.codeIn K cd7 "changes_of_block" = true) (k7 : PySem.W.keepIn K (.ref f7) = true)
    (a8 : PySem.W.nsIn K mainGlobals "read_notation" = some (some (.ref f8))) (l8 : K.lookup f8 = some ⟨oc8, od8, .func (PySem.W.fnOf "read_notation" "read_notation" (defArgs s_read_notation) (defBody s_read_notation) (defScope s_read_notation) .none kV8 dc8 pm8 an8 cd8 ct8), sl8⟩) (c8 : PySem.W.codeIn K cd8 "read_notation" = true) (k8 : PySem.W.keepIn K (.ref f8) = true)
    (a9 : PySem.W.nsIn K mainGlobals "_law_cell" = some (some (.ref f9))) (l9 : K.lookup f9 = some ⟨oc9, od9, .func (PySem.W.fnOf "_law_cell" "_law_cell" (defArgs s_law_cell) (defBody s_law_cell) (defScope s_law_cell) .none kV9 dc9 pm9 an9 cd9 ct9), sl9⟩) (c9 : PySem.W.codeIn K cd9 "_law_cell" = true) (k9 : PySem.W.keepIn K (.ref f9) = true)
    (a10 : PySem.W.nsIn K mainGlobals "_law_pool" = some (some (.ref f10))) (l10 : K.lookup f10 = some ⟨oc10, od10, .func (PySem.W.fnOf "_law_pool" "_law_pool" (defArgs s_law_pool) (defBody s_law_pool) (defScope s_law_pool) .none kV10 dc10 pm10 an10 cd10 ct10), sl10⟩) (c10 : PySem.W.codeIn K cd10 "_law_pool" = true) (k10 : PySem.W.keepIn K (.ref f10) = true)
    (a11 : PySem.W.nsIn K mainGlobals "_law_draw" = some (some (.ref f11))) (l11 : K.lookup f11 = some ⟨oc11, od11, .func (PySem.W.fnOf "_law_draw" "_law_draw" (defArgs s_law_draw) (defBody s_law_draw) (defScope s_law_draw) .none kV11 dc11 pm11 an11 cd11 ct11), sl11⟩) (c11 : PySem.W.codeIn K cd11 "_law_draw" = true) (k11 : PySem.W.keepIn K (.ref f11) = true)
    (a12 : PySem.W.nsIn K mainGlobals "_law_change_draw" = some (some (.ref f12))) (l12 : K.lookup f12 = some ⟨oc12, od12, .func (PySem.W.fnOf "_law_change_draw" "_law_change_draw" (defArgs s_law_change_draw) (defBody s_law_change_draw) (defScope s_law_change_draw) .none kV12 dc12 pm12 an12 cd12 ct12), sl12⟩) (c12 : PySem.W.codeIn K cd12 "_law_change_draw" = true) (k12 : PySem.W.keepIn K (.ref f12) = true)
    (a13 : PySem.W.nsIn K mainGlobals "_law_same" = some (some (.ref f13))) (l13 : K.lookup f13 = some ⟨oc13, od13, .func (PySem.W.fnOf "_law_same" "_law_same" (defArgs s_law_same) (defBody s_law_same) (defScope s_law_same) .none kV13 dc13 pm13 an13 cd13 ct13), sl13⟩) (c13 : PySem.W.codeIn K cd13 "_law_same" = true) (k13 : PySem.W.keepIn K (.ref f13) = true)
    (a14 : PySem.W.nsIn K mainGlobals "_law_change_text" = some (some (.ref f14))) (l14 : K.lookup f14 = some ⟨oc14, od14, .func (PySem.W.fnOf "_law_change_text" "_law_change_text" (defArgs s_law_change_text) (defBody s_law_change_text) (defScope s_law_change_text) .none kV14 dc14 pm14 an14 cd14 ct14), sl14⟩) (c14 : PySem.W.codeIn K cd14 "_law_change_text" = true) (k14 : PySem.W.keepIn K (.ref f14) = true)
    (a15 : PySem.W.nsIn K mainGlobals "_law_block_text" = some (some (.ref f15))) (l15 : K.lookup f15 = some ⟨oc15, od15, .func (PySem.W.fnOf "_law_block_text" "_law_block_text" (defArgs s_law_block_text) (defBody s_law_block_text) (defScope s_law_block_text) .none kV15 dc15 pm15 an15 cd15 ct15), sl15⟩) (c15 : PySem.W.codeIn K cd15 "_law_block_text" = true) (k15 : PySem.W.keepIn K (.ref f15) = true)
    (a16 : PySem.W.nsIn K mainGlobals "_law_notation" = some (some (.ref f16))) (l16 : K.lookup f16 = some ⟨oc16, od16, .func (PySem.W.fnOf "_law_notation" "_law_notation" (defArgs s_law_notation) (defBody s_law_notation) (defScope s_law_notation) .none kV16 dc16 pm16 an16 cd16 ct16), sl16⟩) (c16 : PySem.W.codeIn K cd16 "_law_notation" = true) (k16 : PySem.W.keepIn K (.ref f16) = true)
    (a17 : PySem.W.nsIn K mainGlobals "_law_sign" = some (some (.ref f17))) (l17 : K.lookup f17 = some ⟨oc17, od17, .func (PySem.W.fnOf "_law_sign" "_law_sign" (defArgs s_law_sign) (defBody s_law_sign) (defScope s_law_sign) .none kV17 dc17 pm17 an17 cd17 ct17), sl17⟩) (c17 : PySem.W.codeIn K cd17 "_law_sign" = true) (k17 : PySem.W.keepIn K (.ref f17) = true)
    (a18 : PySem.W.nsIn K mainGlobals "_law_bent_text" = some (some (.ref f18))) (l18 : K.lookup f18 = some ⟨oc18, od18, .func (PySem.W.fnOf "_law_bent_text" "_law_bent_text" (defArgs s_law_bent_text) (defBody s_law_bent_text) (defScope s_law_bent_text) .none kV18 dc18 pm18 an18 cd18 ct18), sl18⟩) (c18 : PySem.W.codeIn K cd18 "_law_bent_text" = true) (k18 : PySem.W.keepIn K (.ref f18) = true)
    (a19 : PySem.W.nsIn K mainGlobals "_law_text" = some (some (.ref f19))) (l19 : K.lookup f19 = some ⟨oc19, od19, .func (PySem.W.fnOf "_law_text" "_law_text" (defArgs s_law_text) (defBody s_law_text) (defScope s_law_text) .none kV19 dc19 pm19 an19 cd19 ct19), sl19⟩) (c19 : PySem.W.codeIn K cd19 "_law_text" = true) (k19 : PySem.W.keepIn K (.ref f19) = true)
    (a20 : PySem.W.nsIn K mainGlobals "_law_place" = some (some (.ref f20))) (l20 : K.lookup f20 = some ⟨oc20, od20, .func (PySem.W.fnOf "_law_place" "_law_place" (defArgs s_law_place) (defBody s_law_place) (defScope s_law_place) .none kV20 dc20 pm20 an20 cd20 ct20), sl20⟩) (c20 : PySem.W.codeIn K cd20 "_law_place" = true) (k20 : PySem.W.keepIn K (.ref f20) = true)
    (a21 : PySem.W.nsIn K mainGlobals "_law_column" = some (some (.ref f21))) (l21 : K.lookup f21 = some ⟨oc21, od21, .func (PySem.W.fnOf "_law_column" "_law_column" (defArgs s_law_column) (defBody s_law_column) (defScope s_law_column) .none kV21 dc21 pm21 an21 cd21 ct21), sl21⟩) (c21 : PySem.W.codeIn K cd21 "_law_column" = true) (k21 : PySem.W.keepIn K (.ref f21) = true)
    (a22 : PySem.W.nsIn K mainGlobals "_law_change" = some (some (.ref f22))) (l22 : K.lookup f22 = some ⟨oc22, od22, .func (PySem.W.fnOf "_law_change" "_law_change" (defArgs s_law_change) (defBody s_law_change) (defScope s_law_change) .none kV22 dc22 pm22 an22 cd22 ct22), sl22⟩) (c22 : PySem.W.codeIn K cd22 "_law_change" = true) (k22 : PySem.W.keepIn K (.ref f22) = true)
    (a23 : PySem.W.nsIn K mainGlobals "_law_changes" = some (some (.ref f23))) (l23 : K.lookup f23 = some ⟨oc23, od23, .func (PySem.W.fnOf "_law_changes" "_law_changes" (defArgs s_law_changes) (defBody s_law_changes) (defScope s_law_changes) .none kV23 dc23 pm23 an23 cd23 ct23), sl23⟩) (c23 : PySem.W.codeIn K cd23 "_law_changes" = true) (k23 : PySem.W.keepIn K (.ref f23) = true)
    (a24 : PySem.W.nsIn K mainGlobals "_law_read" = some (some (.ref f24))) (l24 : K.lookup f24 = some ⟨oc24, od24, .func (PySem.W.fnOf "_law_read" "_law_read" (defArgs s_law_read) (defBody s_law_read) (defScope s_law_read) .none kV24 dc24 pm24 an24 cd24 ct24), sl24⟩) (c24 : PySem.W.codeIn K cd24 "_law_read" = true) (k24 : PySem.W.keepIn K (.ref f24) = true)
    (a25 : PySem.W.nsIn K mainGlobals "_law_answered" = some (some (.ref f25))) (l25 : K.lookup f25 = some ⟨oc25, od25, .func (PySem.W.fnOf "_law_answered" "_law_answered" (defArgs s_law_answered) (defBody s_law_answered) (defScope s_law_answered) .none kV25 dc25 pm25 an25 cd25 ct25), sl25⟩) (c25 : PySem.W.codeIn K cd25 "_law_answered" = true) (k25 : PySem.W.keepIn K (.ref f25) = true)
    (a26 : PySem.W.nsIn K mainGlobals "law" = some (some (.ref f26))) (l26 : K.lookup f26 = some ⟨oc26, od26, .func (PySem.W.fnOf "law" "law" (defArgs s_law) (defBody s_law) (defScope s_law) .none kV26 dc26 pm26 an26 cd26 ct26), sl26⟩) (c26 : PySem.W.codeIn K cd26 "law" = true) (k26 : PySem.W.keepIn K (.ref f26) = true)
    (z_ValueError : PySem.W.nsIn K mainGlobals "ValueError" = some none)
    (z_abs : PySem.W.nsIn K mainGlobals "abs" = some none)
    (z_bool : PySem.W.nsIn K mainGlobals "bool" = some none)
    (z_enumerate : PySem.W.nsIn K mainGlobals "enumerate" = some none)
    (z_int : PySem.W.nsIn K mainGlobals "int" = some none)
    (z_isinstance : PySem.W.nsIn K mainGlobals "isinstance" = some none)
    (z_len : PySem.W.nsIn K mainGlobals "len" = some none)
    (z_list : PySem.W.nsIn K mainGlobals "list" = some none)
    (z_min : PySem.W.nsIn K mainGlobals "min" = some none)
    (z_range : PySem.W.nsIn K mainGlobals "range" = some none)
    (z_str : PySem.W.nsIn K mainGlobals "str" = some none)
    (z_tuple : PySem.W.nsIn K mainGlobals "tuple" = some none)
    (z_zip : PySem.W.nsIn K mainGlobals "zip" = some none)
    (q_SIGNS : PySem.W.nsIn K mainGlobals "SIGNS" = some (some (.str "1234567890ET" t_SIGNS)))
    (q_FOLLOWERS : PySem.W.nsIn K mainGlobals "FOLLOWERS" = some (some (.ref d_FOLLOWERS))) (kl_FOLLOWERS : K.lookup d_FOLLOWERS = some ⟨.type "dict", none, .dict es_FOLLOWERS n_FOLLOWERS, #[]⟩) (kk_FOLLOWERS : PySem.W.KeysLit w.params es_FOLLOWERS.toList) (kn_FOLLOWERS : (d_FOLLOWERS == sysModules) = false)
    (kv_FOLLOWERS_0 : PySem.W.nsIn K d_FOLLOWERS "" = some (some (.str "&xp" tk_FOLLOWERS_0)))
    (kv_FOLLOWERS_1 : PySem.W.nsIn K d_FOLLOWERS "&" = some (some (.str "xp" tk_FOLLOWERS_1)))
    (kv_FOLLOWERS_2 : PySem.W.nsIn K d_FOLLOWERS "x" = some (some (.str "xp," tk_FOLLOWERS_2)))
    (kv_FOLLOWERS_3 : PySem.W.nsIn K d_FOLLOWERS "p" = some (some (.str "xp.," tk_FOLLOWERS_3)))
    (kv_FOLLOWERS_4 : PySem.W.nsIn K d_FOLLOWERS "." = some (some (.str "p" tk_FOLLOWERS_4)))
    (e_ChamberError : PySem.W.nsIn K mainGlobals "ChamberError" = some (some (.ref C_ChamberError)))
    (e_BadStage : PySem.W.nsIn K mainGlobals "BadStage" = some (some (.ref C_BadStage)))
    (e_BadChange : PySem.W.nsIn K mainGlobals "BadChange" = some (some (.ref C_BadChange)))
    (e_BadNotation : PySem.W.nsIn K mainGlobals "BadNotation" = some (some (.ref C_BadNotation)))
    (e_BadComposition : PySem.W.nsIn K mainGlobals "BadComposition" = some (some (.ref C_BadComposition)))
    (xs : exsB K C_ChamberError [("ChamberError", C_ChamberError), ("BadStage", C_BadStage), ("BadChange", C_BadChange), ("BadNotation", C_BadNotation), ("BadComposition", C_BadComposition)] = true)
    (zsu : PySem.W.nsIn K mainGlobals "super" = some none) (tp : (l.prog.main.scope.names.lookup ("super" : Str)).isSome = false)
    (i1_ChamberError : PySem.W.findIn K (.ref C_ChamberError) "__init__" = some (some (.ref fI_ChamberError))) (i2_ChamberError : PySem.W.typeIn K (.ref fI_ChamberError) = some (.type "function"))
    (i3_ChamberError : K.lookup fI_ChamberError = some ⟨oc_ChamberError, od_ChamberError, .func (PySem.W.ksFn "__init__" "ChamberError.__init__" (defArgs i_ChamberError) (defBody i_ChamberError) (defScope i_ChamberError) .none kV_ChamberError dc_ChamberError pm_ChamberError an_ChamberError cd_ChamberError ct_ChamberError cc_ChamberError), sl_ChamberError⟩)
    (i4_ChamberError : PySem.W.codeIn K cd_ChamberError "ChamberError.__init__" = true) (i5_ChamberError : K.lookup cc_ChamberError = some ⟨cl_ChamberError, cld_ChamberError, .cell (some (.ref C_ChamberError)), csl_ChamberError⟩) (i6_ChamberError : fileB K cd_ChamberError l.prog.main.file = true)
    (i1_BadStage : PySem.W.findIn K (.ref C_BadStage) "__init__" = some (some (.ref fI_BadStage))) (i2_BadStage : PySem.W.typeIn K (.ref fI_BadStage) = some (.type "function"))
    (i3_BadStage : K.lookup fI_BadStage = some ⟨oc_BadStage, od_BadStage, .func (PySem.W.ksFn "__init__" "BadStage.__init__" (defArgs i_BadStage) (defBody i_BadStage) (defScope i_BadStage) .none kV_BadStage dc_BadStage pm_BadStage an_BadStage cd_BadStage ct_BadStage cc_BadStage), sl_BadStage⟩)
    (i4_BadStage : PySem.W.codeIn K cd_BadStage "BadStage.__init__" = true) (i5_BadStage : K.lookup cc_BadStage = some ⟨cl_BadStage, cld_BadStage, .cell (some (.ref C_BadStage)), csl_BadStage⟩) (i6_BadStage : fileB K cd_BadStage l.prog.main.file = true)
    (i7_BadStage : PySem.W.ks_superIn K C_BadStage C_BadStage "__init__" = some (some (.ref fI_ChamberError))) (i8_BadStage : PySem.W.mroIn K C_BadStage (.ref C_BadStage) = some true)
    (i1_BadNotation : PySem.W.findIn K (.ref C_BadNotation) "__init__" = some (some (.ref fI_BadNotation))) (i2_BadNotation : PySem.W.typeIn K (.ref fI_BadNotation) = some (.type "function"))
    (i3_BadNotation : K.lookup fI_BadNotation = some ⟨oc_BadNotation, od_BadNotation, .func (PySem.W.ksFn "__init__" "BadNotation.__init__" (defArgs i_BadNotation) (defBody i_BadNotation) (defScope i_BadNotation) .none kV_BadNotation dc_BadNotation pm_BadNotation an_BadNotation cd_BadNotation ct_BadNotation cc_BadNotation), sl_BadNotation⟩)
    (i4_BadNotation : PySem.W.codeIn K cd_BadNotation "BadNotation.__init__" = true) (i5_BadNotation : K.lookup cc_BadNotation = some ⟨cl_BadNotation, cld_BadNotation, .cell (some (.ref C_BadNotation)), csl_BadNotation⟩) (i6_BadNotation : fileB K cd_BadNotation l.prog.main.file = true)
    (i7_BadNotation : PySem.W.ks_superIn K C_BadNotation C_BadNotation "__init__" = some (some (.ref fI_ChamberError))) (i8_BadNotation : PySem.W.mroIn K C_BadNotation (.ref C_BadNotation) = some true)
    (i9_BadNotation : PySem.W.findIn K (.ref C_BadNotation) "column" = some none)
    (kf : PySem.W.fnIn K fI_ChamberError = true)
    : ∃ fd : FuncData, (∀ (s : Shared) (v : Value), BindsTo s fd ⟨[v], []⟩ [("script", v)]) ∧ ∀ base : Heap, K.In base → base.Ns mainGlobals mg → FnOk l.prog w K mg base CX0 8 fa fd ["script"] (sp_law K) := by
  have e := hfa.symm.trans (PySem.W.mg_of X G a26)
  cases e
  have B : Bn mg := ⟨PySem.W.mg_none_of X G z_ValueError, PySem.W.mg_none_of X G z_abs, PySem.W.mg_none_of X G z_bool, PySem.W.mg_none_of X G z_enumerate, PySem.W.mg_none_of X G z_int, PySem.W.mg_none_of X G z_isinstance, PySem.W.mg_none_of X G z_len, PySem.W.mg_none_of X G z_list, PySem.W.mg_none_of X G z_min, PySem.W.mg_none_of X G z_range, PySem.W.mg_none_of X G z_str, PySem.W.mg_none_of X G z_tuple, PySem.W.mg_none_of X G z_zip, ⟨_, PySem.W.mg_of X G q_SIGNS⟩⟩
  have T_FOLLOWERS : KTab K w mg "FOLLOWERS" [(("" : Str), ("&xp" : Str)), (("&" : Str), ("xp" : Str)), (("x" : Str), ("xp," : Str)), (("p" : Str), ("xp.," : Str)), (("." : Str), ("p" : Str))] := ⟨d_FOLLOWERS, es_FOLLOWERS, n_FOLLOWERS, PySem.W.mg_of X G q_FOLLOWERS, ⟨kl_FOLLOWERS, kk_FOLLOWERS, kn_FOLLOWERS⟩, by
    simp only [List.forall_mem_cons]
    exact ⟨⟨_, kv_FOLLOWERS_0⟩, ⟨_, kv_FOLLOWERS_1⟩, ⟨_, kv_FOLLOWERS_2⟩, ⟨_, kv_FOLLOWERS_3⟩, ⟨_, kv_FOLLOWERS_4⟩, fun _ h => nomatch h⟩⟩
  have D1 : At K mg "check_stage" s_check_stage := ⟨_, _, fun_mk (st := s_check_stage) l1 c1 k1, PySem.W.mg_of X G a1⟩
  have D2 : At K mg "place_of" s_place_of := ⟨_, _, fun_mk (st := s_place_of) l2 c2 k2, PySem.W.mg_of X G a2⟩
  have D3 : At K mg "may_follow" s_may_follow := ⟨_, _, fun_mk (st := s_may_follow) l3 c3 k3, PySem.W.mg_of X G a3⟩
  have D4 : At K mg "change_of" s_change_of := ⟨_, _, fun_mk (st := s_change_of) l4 c4 k4, PySem.W.mg_of X G a4⟩
  have D5 : At K mg "kind_of" s_kind_of := ⟨_, _, fun_mk (st := s_kind_of) l5 c5 k5, PySem.W.mg_of X G a5⟩
  have D6 : At K mg "add_sign" s_add_sign := ⟨_, _, fun_mk (st := s_add_sign) l6 c6 k6, PySem.W.mg_of X G a6⟩
  have D7 : At K mg "changes_of_block" s_changes_of_block := ⟨_, _, fun_mk (st := s_changes_of_block) l7 c7 k7, PySem.W.mg_of X G a7⟩
  have D8 : At K mg "read_notation" s_read_notation := ⟨_, _, fun_mk (st := s_read_notation) l8 c8 k8, PySem.W.mg_of X G a8⟩
  have D9 : At K mg "_law_cell" s_law_cell := ⟨_, _, fun_mk (st := s_law_cell) l9 c9 k9, PySem.W.mg_of X G a9⟩
  have D10 : At K mg "_law_pool" s_law_pool := ⟨_, _, fun_mk (st := s_law_pool) l10 c10 k10, PySem.W.mg_of X G a10⟩
  have D11 : At K mg "_law_draw" s_law_draw := ⟨_, _, fun_mk (st := s_law_draw) l11 c11 k11, PySem.W.mg_of X G a11⟩
  have D12 : At K mg "_law_change_draw" s_law_change_draw := ⟨_, _, fun_mk (st := s_law_change_draw) l12 c12 k12, PySem.W.mg_of X G a12⟩
  have D13 : At K mg "_law_same" s_law_same := ⟨_, _, fun_mk (st := s_law_same) l13 c13 k13, PySem.W.mg_of X G a13⟩
  have D14 : At K mg "_law_change_text" s_law_change_text := ⟨_, _, fun_mk (st := s_law_change_text) l14 c14 k14, PySem.W.mg_of X G a14⟩
  have D15 : At K mg "_law_block_text" s_law_block_text := ⟨_, _, fun_mk (st := s_law_block_text) l15 c15 k15, PySem.W.mg_of X G a15⟩
  have D16 : At K mg "_law_notation" s_law_notation := ⟨_, _, fun_mk (st := s_law_notation) l16 c16 k16, PySem.W.mg_of X G a16⟩
  have D17 : At K mg "_law_sign" s_law_sign := ⟨_, _, fun_mk (st := s_law_sign) l17 c17 k17, PySem.W.mg_of X G a17⟩
  have D18 : At K mg "_law_bent_text" s_law_bent_text := ⟨_, _, fun_mk (st := s_law_bent_text) l18 c18 k18, PySem.W.mg_of X G a18⟩
  have D19 : At K mg "_law_text" s_law_text := ⟨_, _, fun_mk (st := s_law_text) l19 c19 k19, PySem.W.mg_of X G a19⟩
  have D20 : At K mg "_law_place" s_law_place := ⟨_, _, fun_mk (st := s_law_place) l20 c20 k20, PySem.W.mg_of X G a20⟩
  have D21 : At K mg "_law_column" s_law_column := ⟨_, _, fun_mk (st := s_law_column) l21 c21 k21, PySem.W.mg_of X G a21⟩
  have D22 : At K mg "_law_change" s_law_change := ⟨_, _, fun_mk (st := s_law_change) l22 c22 k22, PySem.W.mg_of X G a22⟩
  have D23 : At K mg "_law_changes" s_law_changes := ⟨_, _, fun_mk (st := s_law_changes) l23 c23 k23, PySem.W.mg_of X G a23⟩
  have D24 : At K mg "_law_read" s_law_read := ⟨_, _, fun_mk (st := s_law_read) l24 c24 k24, PySem.W.mg_of X G a24⟩
  have D25 : At K mg "_law_answered" s_law_answered := ⟨_, _, fun_mk (st := s_law_answered) l25 c25 k25, PySem.W.mg_of X G a25⟩
  have D26 : At K mg "law" s_law := ⟨_, _, fun_mk (st := s_law) l26 c26 k26, PySem.W.mg_of X G a26⟩
  have FL := fun_mk (st := s_law) l26 c26 k26
  have M_ChamberError : mg "ChamberError" = some (.ref C_ChamberError) := PySem.W.mg_of X G e_ChamberError
  have M_BadStage : mg "BadStage" = some (.ref C_BadStage) := PySem.W.mg_of X G e_BadStage
  have M_BadChange : mg "BadChange" = some (.ref C_BadChange) := PySem.W.mg_of X G e_BadChange
  have M_BadNotation : mg "BadNotation" = some (.ref C_BadNotation) := PySem.W.mg_of X G e_BadNotation
  have M_BadComposition : mg "BadComposition" = some (.ref C_BadComposition) := PySem.W.mg_of X G e_BadComposition
  have XS : Exs K (ecOf mg) XN := exs_of (l := [("ChamberError", C_ChamberError), ("BadStage", C_BadStage), ("BadChange", C_BadChange), ("BadNotation", C_BadNotation), ("BadComposition", C_BadComposition)]) M_ChamberError (by simp only [List.forall_mem_cons]; exact ⟨M_ChamberError, M_BadStage, M_BadChange, M_BadNotation, M_BadComposition, fun _ h => nomatch h⟩) xs
  have EX : ExAt mg (ecOf mg) XN := by
    unfold ExAt
    simp only [XN, List.forall_mem_cons]
    exact ⟨by rw [ecOf_at M_ChamberError]; exact M_ChamberError, by rw [ecOf_at M_BadStage]; exact M_BadStage, by rw [ecOf_at M_BadChange]; exact M_BadChange, by rw [ecOf_at M_BadNotation]; exact M_BadNotation, by rw [ecOf_at M_BadComposition]; exact M_BadComposition, fun _ h => nomatch h⟩
  have BC_ChamberError : Bad K C_ChamberError C_ChamberError := by have z := XS.bad "ChamberError" (by decide); simp only [ecOf_at M_ChamberError, ecOf_at M_ChamberError] at z; exact z
  have BC_BadStage : Bad K C_BadStage C_ChamberError := by have z := XS.bad "BadStage" (by decide); simp only [ecOf_at M_BadStage, ecOf_at M_ChamberError] at z; exact z
  have BC_BadChange : Bad K C_BadChange C_ChamberError := by have z := XS.bad "BadChange" (by decide); simp only [ecOf_at M_BadChange, ecOf_at M_ChamberError] at z; exact z
  have BC_BadNotation : Bad K C_BadNotation C_ChamberError := by have z := XS.bad "BadNotation" (by decide); simp only [ecOf_at M_BadNotation, ecOf_at M_ChamberError] at z; exact z
  have BC_BadComposition : Bad K C_BadComposition C_ChamberError := by have z := XS.bad "BadComposition" (by decide); simp only [ecOf_at M_BadComposition, ecOf_at M_ChamberError] at z; exact z
  refine ⟨PySem.W.fnOf "law" "law" (defArgs s_law) (defBody s_law) (defScope s_law) .none kV26 dc26 pm26 an26 cd26 ct26, fun s v => .of_eq rfl, fun base _ _ => ?_⟩
  have FC := ok_CE (w := w) (base := base) (D := C_ChamberError) (S := (⟨⟨_, _, _, _, _, _, _, _, _, _, _, _, _, _, rfl, i3_ChamberError, i4_ChamberError, i5_ChamberError, i6_ChamberError⟩, ⟨rfl, rfl, rfl, by decide +kernel, rfl, by decide +kernel, by decide +kernel, by decide +kernel⟩, rfl, rfl, rfl, ⟨_, rfl, rfl⟩, PySem.W.mg_none_of X G zsu, tp, BC_ChamberError.cls⟩ : SupI l.prog K mg "ChamberError.__init__" i_ChamberError C_ChamberError ["self", "word"] fI_ChamberError _)) rfl ⟨_, fun _ => rfl⟩ rfl
  have BCE : Binds K _ ["self", "word"] [] := Binds.all (fd := PySem.W.ksFn "__init__" "ChamberError.__init__" (defArgs i_ChamberError) (defBody i_ChamberError) (defScope i_ChamberError) .none kV_ChamberError dc_ChamberError pm_ChamberError an_ChamberError cd_ChamberError ct_ChamberError cc_ChamberError) fun us hl => match us, hl with | [_, _], _ => rfl
  have Z_BadNotation : Rz1 l.prog w K mg base "BadNotation" "column" (ecOf mg "BadNotation") := by
    rw [ecOf_at M_BadNotation]
    exact ⟨⟨_, _, i1_BadNotation, i2_BadNotation, ok_B1 (w := w) (base := base) (nm := "BadNotation") (at1 := "column") (S := (⟨⟨_, _, _, _, _, _, _, _, _, _, _, _, _, _, rfl, i3_BadNotation, i4_BadNotation, i5_BadNotation, i6_BadNotation⟩, ⟨rfl, rfl, rfl, by decide +kernel, rfl, by decide +kernel, by decide +kernel, by decide +kernel⟩, rfl, rfl, rfl, ⟨_, rfl, rfl⟩, PySem.W.mg_none_of X G zsu, tp, BC_BadNotation.cls⟩ : SupI l.prog K mg "BadNotation.__init__" i_BadNotation C_BadNotation ["self", "column"] fI_BadNotation _)) rfl ⟨_, fun _ => rfl⟩ rfl (by decide) (by decide) i9_BadNotation FC BCE BC_BadNotation i8_BadNotation i7_BadNotation i2_ChamberError kf, Binds.all fun us hl => match us, hl with | [_, _], _ => rfl⟩, BC_BadNotation.ox, M_BadNotation⟩
  have Z_BadStage : Rz0 l.prog w K mg base "BadStage" (ecOf mg "BadStage") := by
    rw [ecOf_at M_BadStage]
    exact ⟨⟨_, _, i1_BadStage, i2_BadStage, ok_B0 (w := w) (base := base) (nm := "BadStage") (S := (⟨⟨_, _, _, _, _, _, _, _, _, _, _, _, _, _, rfl, i3_BadStage, i4_BadStage, i5_BadStage, i6_BadStage⟩, ⟨rfl, rfl, rfl, by decide +kernel, rfl, by decide +kernel, by decide +kernel, by decide +kernel⟩, rfl, rfl, rfl, ⟨_, rfl, rfl⟩, PySem.W.mg_none_of X G zsu, tp, BC_BadStage.cls⟩ : SupI l.prog K mg "BadStage.__init__" i_BadStage C_BadStage ["self"] fI_BadStage _)) rfl ⟨_, fun _ => rfl⟩ FC BCE BC_BadStage i8_BadStage i7_BadStage i2_ChamberError kf, Binds.all fun us hl => match us, hl with | [_], _ => rfl⟩, BC_BadStage.ox, M_BadStage⟩
  have G1 := ok_check_stage (P := l.prog) (w := w) (base := base) D1 B XS EX Z_BadStage
  have G2 := ok_place_of (P := l.prog) (w := w) (base := base) D2 B
  have G3 := ok_may_follow (P := l.prog) (w := w) (base := base) D3 B
  have G4 := ok_change_of (P := l.prog) (w := w) (base := base) D4 B
  have G5 := ok_kind_of (P := l.prog) (w := w) (base := base) D5 B G2
  have G6 := ok_add_sign (P := l.prog) (w := w) (base := base) D6 B G2 G3
  have G7 := ok_changes_of_block (P := l.prog) (w := w) (base := base) D7 B G4
  have G8 := ok_read_notation (P := l.prog) (w := w) (base := base) D8 B XS EX T_FOLLOWERS G1 G5 G6 G7 Z_BadNotation
  have G9 := ok_law_cell (P := l.prog) (w := w) (base := base) D9 B
  have G10 := ok_law_pool (P := l.prog) (w := w) (base := base) D10 B G9
  have G11 := ok_law_draw (P := l.prog) (w := w) (base := base) D11 B
  have G12 := ok_law_change_draw (P := l.prog) (w := w) (base := base) D12 B G11
  have G13 := ok_law_same (P := l.prog) (w := w) (base := base) D13 B
  have G14 := ok_law_change_text (P := l.prog) (w := w) (base := base) D14 B G12 G11
  have G15 := ok_law_block_text (P := l.prog) (w := w) (base := base) D15 B G11 G14
  have G16 := ok_law_notation (P := l.prog) (w := w) (base := base) D16 B G11 G15
  have G17 := ok_law_sign (P := l.prog) (w := w) (base := base) D17 B G11
  have G18 := ok_law_bent_text (P := l.prog) (w := w) (base := base) D18 B G11 G17
  have G19 := ok_law_text (P := l.prog) (w := w) (base := base) D19 B G11 G17 G18
  have G20 := ok_law_place (P := l.prog) (w := w) (base := base) D20 B
  have G21 := ok_law_column (P := l.prog) (w := w) (base := base) D21 B G20
  have G22 := ok_law_change (P := l.prog) (w := w) (base := base) D22 B
  have G23 := ok_law_changes (P := l.prog) (w := w) (base := base) D23 B G22
  have G24 := ok_law_read (P := l.prog) (w := w) (base := base) D24 B XS EX G8 G13
  have G25 := ok_law_answered (P := l.prog) (w := w) (base := base) D25 B G24 G21 G13 G23
  exact ok_lawF FL B G10 G11 G16 G19 G25
end K11
end Kb
open PySem PySem.W PyProof.Rows
set_option maxRecDepth 100000 in
set_option maxHeartbeats 0 in
theorem PySem.Challenge.cw_ringingchamber_k11_texts_of_notation_holds : PySem.Challenge.rw_ringingchamber_k11_texts_of_notation.Holds := by
  w_on; o_law; k_head; (case hw => w_witness2)
  k_fill
  refine L2.walk_of (l := PySem.Challenge.rw_ringingchamber_k11_texts_of_notation) (n := 63) (k := 8) (x := "script") (CX := fun _ => L2.CX0) (sp := fun w => Kb.K11.sp_law _) rfl (by decide) rfl ⟨rfl, by decide, by decide⟩ (fun w h Y => PySem.W.kIn_of Y) ?F (fun _ _ a ns hl _ hS => ⟨a, ns, rfl, hS, hl, fun _ => rfl⟩) (fun _ _ _ _ _ h => h)
  case F =>
    intro w mg fa h KX G hmg
    refine' Kb.K11.all_mk KX G hmg ?a1 ?l1 ?c1 ?k1 ?a2 ?l2 ?c2 ?k2 ?a3 ?l3 ?c3 ?k3 ?a4 ?l4 ?c4 ?k4 ?a5 ?l5 ?c5 ?k5 ?a6 ?l6 ?c6 ?k6 ?a7 ?l7 ?c7 ?k7 ?a8 ?l8 ?c8 ?k8 ?a9 ?l9 ?c9 ?k9 ?a10 ?l10 ?c10 ?k10 ?a11 ?l11 ?c11 ?k11 ?a12 ?l12 ?c12 ?k12 ?a13 ?l13 ?c13 ?k13 ?a14 ?l14 ?c14 ?k14 ?a15 ?l15 ?c15 ?k15 ?a16 ?l16 ?c16 ?k16 ?a17 ?l17 ?c17 ?k17 ?a18 ?l18 ?c18 ?k18 ?a19 ?l19 ?c19 ?k19 ?a20 ?l20 ?c20 ?k20 ?a21 ?l21 ?c21 ?k21 ?a22 ?l22 ?c22 ?k22 ?a23 ?l23 ?c23 ?k23 ?a24 ?l24 ?c24 ?k24 ?a25 ?l25 ?c25 ?k25 ?a26 ?l26 ?c26 ?k26 ?z_ValueError ?z_abs ?z_bool ?z_enumerate ?z_int ?z_isinstance ?z_len ?z_list ?z_min ?z_range ?z_str ?z_tuple ?z_zip ?q_SIGNS ?q_FOLLOWERS ?kl_FOLLOWERS ?kk_FOLLOWERS ?kn_FOLLOWERS ?kv_FOLLOWERS_0 ?kv_FOLLOWERS_1 ?kv_FOLLOWERS_2 ?kv_FOLLOWERS_3 ?kv_FOLLOWERS_4 ?e_ChamberError ?e_BadStage ?e_BadChange ?e_BadNotation ?e_BadComposition ?xs ?zsu ?tp ?i1_ChamberError ?i2_ChamberError ?i3_ChamberError ?i4_ChamberError ?i5_ChamberError ?i6_ChamberError ?i1_BadStage ?i2_BadStage ?i3_BadStage ?i4_BadStage ?i5_BadStage ?i6_BadStage ?i7_BadStage ?i8_BadStage ?i1_BadNotation ?i2_BadNotation ?i3_BadNotation ?i4_BadNotation ?i5_BadNotation ?i6_BadNotation ?i7_BadNotation ?i8_BadNotation ?i9_BadNotation ?kf
    (case a1 => k_is); (case l1 => k_is); (case c1 => k_is); (case k1 => k_is); (case a2 => k_is); (case l2 => k_is); (case c2 => k_is); (case k2 => k_is); (case a3 => k_is); (case l3 => k_is); (case c3 => k_is); (case k3 => k_is); (case a4 => k_is); (case l4 => k_is); (case c4 => k_is); (case k4 => k_is); (case a5 => k_is); (case l5 => k_is); (case c5 => k_is); (case k5 => k_is); (case a6 => k_is); (case l6 => k_is); (case c6 => k_is); (case k6 => k_is); (case a7 => k_is); (case l7 => k_is); (case c7 => k_is); (case k7 => k_is); (case a8 => k_is); (case l8 => k_is); (case c8 => k_is); (case k8 => k_is); (case a9 => k_is); (case l9 => k_is); (case c9 => k_is); (case k9 => k_is); (case a10 => k_is); (case l10 => k_is); (case c10 => k_is); (case k10 => k_is); (case a11 => k_is); (case l11 => k_is); (case c11 => k_is); (case k11 => k_is); (case a12 => k_is); (case l12 => k_is); (case c12 => k_is); (case k12 => k_is); (case a13 => k_is); (case l13 => k_is); (case c13 => k_is); (case k13 => k_is); (case a14 => k_is); (case l14 => k_is); (case c14 => k_is); (case k14 => k_is); (case a15 => k_is); (case l15 => k_is); (case c15 => k_is); (case k15 => k_is); (case a16 => k_is); (case l16 => k_is); (case c16 => k_is); (case k16 => k_is); (case a17 => k_is); (case l17 => k_is); (case c17 => k_is); (case k17 => k_is); (case a18 => k_is); (case l18 => k_is); (case c18 => k_is); (case k18 => k_is); (case a19 => k_is); (case l19 => k_is); (case c19 => k_is); (case k19 => k_is); (case a20 => k_is); (case l20 => k_is); (case c20 => k_is); (case k20 => k_is); (case a21 => k_is); (case l21 => k_is); (case c21 => k_is); (case k21 => k_is); (case a22 => k_is); (case l22 => k_is); (case c22 => k_is); (case k22 => k_is); (case a23 => k_is); (case l23 => k_is); (case c23 => k_is); (case k23 => k_is); (case a24 => k_is); (case l24 => k_is); (case c24 => k_is); (case k24 => k_is); (case a25 => k_is); (case l25 => k_is); (case c25 => k_is); (case k25 => k_is); (case a26 => k_is); (case l26 => k_is); (case c26 => k_is); (case k26 => k_is); (case z_ValueError => k_is); (case z_abs => k_is); (case z_bool => k_is); (case z_enumerate => k_is); (case z_int => k_is); (case z_isinstance => k_is); (case z_len => k_is); (case z_list => k_is); (case z_min => k_is); (case z_range => k_is); (case z_str => k_is); (case z_tuple => k_is); (case z_zip => k_is); (case q_SIGNS => k_is); (case q_FOLLOWERS => k_is); (case kl_FOLLOWERS => k_is); (case kk_FOLLOWERS => k_keys); (case kn_FOLLOWERS => decide +kernel); (case kv_FOLLOWERS_0 => k_is); (case kv_FOLLOWERS_1 => k_is); (case kv_FOLLOWERS_2 => k_is); (case kv_FOLLOWERS_3 => k_is); (case kv_FOLLOWERS_4 => k_is); (case e_ChamberError => k_is); (case e_BadStage => k_is); (case e_BadChange => k_is); (case e_BadNotation => k_is); (case e_BadComposition => k_is); (case xs => kernel_rfl); (case zsu => k_is); (case tp => decide +kernel); (case i1_ChamberError => k_is); (case i2_ChamberError => k_is); (case i3_ChamberError => k_is); (case i4_ChamberError => k_is); (case i5_ChamberError => k_is); (case i6_ChamberError => kernel_rfl); (case i1_BadStage => k_is); (case i2_BadStage => k_is); (case i3_BadStage => k_is); (case i4_BadStage => k_is); (case i5_BadStage => k_is); (case i6_BadStage => kernel_rfl); (case i7_BadStage => kernel_rfl); (case i8_BadStage => k_is); (case i1_BadNotation => k_is); (case i2_BadNotation => k_is); (case i3_BadNotation => k_is); (case i4_BadNotation => k_is); (case i5_BadNotation => k_is); (case i6_BadNotation => kernel_rfl); (case i7_BadNotation => kernel_rfl); (case i8_BadNotation => k_is); (case i9_BadNotation => k_is); (case kf => k_is)
