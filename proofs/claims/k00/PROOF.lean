import PyProof.Rows.All
import Wide.All
import OpenK.AllK
import Wide.FinOn
import HandS.ForMost
import HandS.Conv
import HandS.IsInst
import HandS.Wide
import HandS.TupAny
import HandS.TupLe
import HandS.TupMul
import KE.KExcSuper
import KE.KExcIs
import HandS.Exc
import HandS.ExcInit
import HandS.ExcField
import HandS.ExcIs
import HandS.WordsExc
import KE.GoesEnumKw
import HandS.Iter
import HandS.Strs
import HandS.SetFor
import HandS.List
import KE.LtData
import HandS.Style
import HandS.Codes
import HandS.More
import KE.SortData
import PyProof.Rows.StrFirst
import PyProof.SliceStr2
import KE.KDictDisplayH
import HandS.Deep
import KE.DataFind
import PyProof.StrLawsFirst
import PyProof.ListStr
import HandS.Walk
import PySem.Challenge.RW_ringingchamber_k00_rows_read_and_written
set_option Elab.async false
set_option linter.all false
set_option maxRecDepth 100000
namespace Kb
open PySem PySem.Spec PyProof.Rows L2
section
variable {X : Cx}
def rAddU (K : PySem.W.Frag) : R2 := fun x y H Q => rI0 (fun i j => .int (i + j)) x y H Q ∨
  ((fun x y H Q => ∃ i j, x = V.str i ∧ y = V.str j ∧ i.length + j.length ≤ sizeLine ∧ Q (V.str (i ++ j)) H) x y H Q ∨ (rCat x y H Q ∨ rCatA K x y H Q))
theorem op_addU : OpR X (binaryOp .Add) (rAddU X.K) := OpR.or op_add (OpR.or op_add_str (OpR.or op_cat op_catA))
def rMulU (K : PySem.W.Frag) : R2 := fun x y H Q => rI CMul (fun i j => .int (i * j)) x y H Q ∨ (rI CMulW (fun i j => .int (i * j)) x y H Q ∨ (rRep x y H Q ∨ rRepT K x y H Q))
theorem op_mulU : OpR X (binaryOp .Mult) (rMulU X.K) := OpR.or op_mul (OpR.or op_mulW (OpR.or op_rep op_repT))
def rFdivU : R2 := rI CDivW (fun i j => .int (i / j))
theorem op_fdivU : OpR X (binaryOp .FloorDiv) rFdivU := op_fdivW
def rModU : R2 := rI (fun _ j => 0 < j) (fun i j => .int (i % j))
theorem op_modU : OpR X (binaryOp .Mod) rModU := op_mod
def rSubU : R2 := rI0 (fun i j => .int (i - j))
theorem op_subU : OpR X (binaryOp .Sub) rSubU := op_sub
def rPowU : R2 := rI CPow (fun i j => .int (i ^ j.toNat))
theorem op_powU : OpR X (binaryOp .Pow) rPowU := op_pow
def rEqU (K : PySem.W.Frag) : R2 := fun x y H Q => rEq x y H Q ∨ rEqD K x y H Q
theorem op_eqU (hu : X.A.units + 64 < cLine) : OpR X (compareOp .Eq) (rEqU X.K) := OpR.or op_eq (op_eqD hu)
def rNeU (K : PySem.W.Frag) : R2 := fun x y H Q => rNe x y H Q ∨ rNeD K x y H Q
theorem op_neU (hu : X.A.units + 64 < cLine) : OpR X (compareOp .NotEq) (rNeU X.K) := OpR.or op_ne (op_neD hu)
def rLtU (K : PySem.W.Frag) : R2 := fun x y H Q => rI0 (fun i j => .bl (decide (i < j))) x y H Q ∨
  ((fun x y H Q => ∃ i j, x = V.str i ∧ y = V.str j ∧ Q (V.bl (decide (i.cps.toList < j.cps.toList))) H) x y H Q ∨ rLtT K x y H Q)
theorem op_ltU (hu : X.A.units + 64 < cLine) : OpR X (compareOp .Lt) (rLtU X.K) := OpR.or op_lt (OpR.or op_lt_str (op_ltT (by omega)))
def rLeU (K : PySem.W.Frag) : R2 := fun x y H Q => rI0 (fun i j => .bl (decide (i ≤ j))) x y H Q ∨
  ((fun x y H Q => ∃ i j, x = V.str i ∧ y = V.str j ∧ Q (V.bl (!decide (j.cps.toList < i.cps.toList))) H) x y H Q ∨ rLeT K x y H Q)
theorem op_leU (hu : X.A.units + 64 < cLine) : OpR X (compareOp .LtE) (rLeU X.K) := OpR.or op_le (OpR.or op_le_str (op_leT (by omega)))
def rGtU : R2 := fun x y H Q => rI0 (fun i j => .bl (decide (j < i))) x y H Q ∨
  (fun x y H Q => ∃ i j, x = V.str i ∧ y = V.str j ∧ Q (V.bl (decide (j.cps.toList < i.cps.toList))) H) x y H Q
theorem op_gtU : OpR X (compareOp .Gt) rGtU := OpR.or op_gt op_gt_str
def rGeU : R2 := fun x y H Q => rI0 (fun i j => .bl (decide (j ≤ i))) x y H Q ∨
  (fun x y H Q => ∃ i j, x = V.str i ∧ y = V.str j ∧ Q (V.bl (!decide (i.cps.toList < j.cps.toList))) H) x y H Q
theorem op_geU : OpR X (compareOp .GtE) rGeU := OpR.or op_ge op_ge_str
def rInU (K : PySem.W.Frag) : R2 := fun x y H Q => rIn K false x y H Q ∨
  (fun x y H Q => ∃ (c : Nat) (z : Str), x = V.str ⟨#[c]⟩ ∧ y = V.str z ∧ Q (V.bl (decide (c ∈ z.cps.toList))) H) x y H Q
theorem op_inU : OpR X (compareOp .In) (rInU X.K) := OpR.or op_in_seq op_in_sign
def rIsNU : R2 := fun x y H Q => y = V.non ∧ Q (V.bl (decide (x = V.non))) H
def rNotNU : R2 := fun x y H Q => y = V.non ∧ Q (V.bl (!decide (x = V.non))) H
theorem op_notNU : OpR X (compareOp .IsNot) rNotNU := op_notN
def rSlU (K : PySem.W.Frag) : V → Option Int → Option Int → Hp → VK → Prop := fun x lo hi H Q => rSlL K x lo hi H Q ∨ (rSlA K x lo hi H Q ∨ rSlS x lo hi H Q)
theorem sl_U : SlR X (rSlU X.K) := SlR.or sl_list (SlR.or sl_tupA sl_str)
def rLenU (K : PySem.W.Frag) : List V → Hp → VK → Prop := fun xs H Q => (fun xs H Q => ∃ p ys, xs = [V.ref p] ∧ (SqL K H p ys ∨ SqT K H p ys) ∧ Q (V.int ys.length) H) xs H Q ∨
  ((fun xs H Q => ∃ z, xs = [V.str z] ∧ z.length ≤ sizeLine ∧ Q (V.int z.length) H) xs H Q ∨ (fun xs H Q => ∃ a kvs, xs = [V.ref a] ∧ H a = some (.dK kvs) ∧ Q (.int kvs.length) H) xs H Q)
theorem call_lenU : CallR X (.builtin "len") (rLenU X.K) := CallR.or call_len_seq (CallR.or call_len_str call_lenD)
def rIntU : List V → Hp → VK → Prop := fun xs H Q => ∃ i, xs = [V.int i] ∧ Q (V.int i) H
theorem call_intU : CallR X (.type "int") rIntU := fun pins s σ H xs us Q I r h => call_int1 pins s σ H xs us Q I r (.inl h)
def rAbsU : List V → Hp → VK → Prop := fun xs H Q => ∃ i, xs = [V.int i] ∧ Q (V.int (if i < 0 then -i else i)) H
theorem call_absU : CallR X (.builtin "abs") rAbsU := call_abs
def rListU (K : PySem.W.Frag) : List V → Hp → VK → Prop := fun xs H Q => ∃ p ys, xs = [V.ref p] ∧ (SqL K H p ys ∨ SqT K H p ys) ∧ ∀ l, H l = none → Q (V.ref l) (upd H l (.lst ys))
theorem call_listU : CallR X (.type "list") (rListU X.K) := call_list_of
theorem PI.or {tg e : Expr} {w1 w2 : TI} (h1 : PI X tg e w1) (h2 : PI X tg e w2) : PI X tg e (fun σ H R => w1 σ H R ∨ w2 σ H R) := by
  refine ⟨fun pins s σ H R I h => ?_⟩
  rcases h with h | h
  · exact h1.run pins s σ H R I h
  · exact h2.run pins s σ H R I h
def iSeqU (K : PySem.W.Frag) (te : TE) : TI := fun σ H R => iList K te σ H R ∨ (iTup K te σ H R ∨ iStr te σ H R)
theorem pi_seqU {tg e : Expr} {te : TE} (he : PE X e te) : PI X tg e (iSeqU X.K te) := PI.or (pi_list he) (PI.or (pi_tup he) (pi_str he))
def tTru (K : PySem.W.Frag) (ta : TE) : TT := fun σ H Q => ta σ H fun x H' => ∃ k, TruV K x H' k ∧ Q k H'
theorem pt_truU {a : Expr} {ta : TE} (h : PE X a ta) (hq : ∀ whole, isTrue a X.env whole = (do let v ← whole; standAt a.pos; holding [v] (truthy v))) : PT X a (tTru X.K ta) := pt_truth h hq
/-- a tuple that tuple(..) has made: the object is told, it has no dict (a method may be asked of it) -/
def kTupD (K : PySem.W.Frag) (x : V) (H : Hp) (Q : VK) : Prop :=
  (∃ p xs, x = .ref p ∧ SqL K H p xs ∧ ∀ (q : Addr) (o : Obj), H q = none → o.dict = none → Q (.ref q) (upd H q (.frz o (.tup xs)))) ∨ (∃ p xs, x = .ref p ∧ SqT K H p xs ∧ Q (.ref p) H)
theorem rl_tupD (pins : List (Addr × Obj)) (s : Shared) (σ : L2.St) (H : Hp) (x : V) (v : Value) (Q : VK) (I : Inv X pins σ H s) (r : RelV x v) (h : kTupD X.K x H Q) :
    wpAny (model X.prog X.w) X.A (call (.type "tuple") [v]) (EP X pins σ Q) X.xe s := by
  rcases h with ⟨p, xs, rfl, hs, q⟩ | ⟨p, xs, rfl, hs, q⟩
  · obtain rfl : v = .ref p := r
    obtain ⟨its, rv, pl, hz⟩ := I.list hs
    refine call_tuple_list pl.isList (fun h' hk => ?_) (by rw [List.size_toArray, ← rv.length]; exact hz)
    have I1 : Inv X pins σ H { s with heap := h' } := I.kept (t' := s.toks) hk
    have I2 : Inv X pins σ (upd H h'.objs.size (.frz { cls := .type "tuple", data := .seq its.toArray } (.tup xs))) { s with heap := h'.push { cls := .type "tuple", data := .seq its.toArray } } :=
      I1.laid (t' := s.toks) (fun b o e => Heap.get?_push_of_some _ e) (Nat.le_refl _) (show ObjOk X.prog X.w _ _ _ (.frz _ (.tup xs)) from ⟨Heap.get?_push_size _ rfl, hz, its, rv, IsTup.new _ _⟩)
    exact ⟨.ref h'.objs.size, _, I2, rfl, q _ _ (I1.hok.fresh (Nat.le_refl _)) rfl⟩
  · obtain rfl : v = .ref p := r
    obtain ⟨its, rv, pl, hz⟩ := I.tuple hs
    exact call_tuple_tup pl ⟨.ref p, H, I, rfl, q⟩
theorem pe_tupD {a : Expr} {ta : TE} {p pos : Pos} (hg : Gl X "tuple") (hm : X.mg "tuple" = none) (ha : PE X a ta) (na : starEach [a] X.env = (false, eval a X.env) :: starEach [] X.env := by rfl) :
    PE X (.Call (.Name "tuple" p) [a] [] pos) (tThen ta (kTupD X.K)) := by
  refine ⟨fun pins s σ H Q I h => ?_⟩
  exact Call_ (ld_blt I hg hm boot_tuple (PyProof.Rows.callWith_type1 (one_arg ha I h (fun v s2 x H2 I2 r q => rl_tupD pins s2 σ H2 x v Q I2 r q) na) na))
/-- the object at p is told and has no dict -/
def NoD (H : Hp) (p : Addr) : Prop := ∃ (o : Obj) (u : HO), H p = some (.frz o u) ∧ o.dict = none
def tBMT (K : PySem.W.Frag) (r : V → List V → Hp → VK → Prop) (to : TE) (t : TA) : TE := fun σ H Q => to σ H fun x H1 => (∃ p xs, x = .ref p ∧ SqT K H1 p xs ∧ NoD H1 p) ∧ t σ H1 fun xs H2 => r x xs H2 Q
theorem pe_bmT {o e : Expr} {es : List Expr} {to : TE} {t : TA} {name : Str} {apos cpos : Pos} {id : String} {r : V → List V → Hp → VK → Prop} (slot : Slot "tuple" name id) (hty : typeOf (.builtin id) = pure (.type "method_descriptor")) (hm : MtR X id r) (ho : PE X o to) (ha : PA X (e :: es) t)
    (hbase : attributeBase o name X.env (eval o X.env) = eval o X.env := by rfl)
    (hfew : ((backTo cpos (starEach (e :: es) X.env)).all (fun x => !x.1) && (backToKw cpos (keywordEach [] X.env)).all (fun x => x.1.isSome)
      && decide ((e :: es).length + ([] : List Keyword).length + (if ([] : List Keyword).isEmpty then 0 else 1) < 30)) = true := by rfl)
    (hline : (apos.endLine == cpos.line) = true := by rfl) (hs : starEach (e :: es) X.env = (false, eval e X.env) :: starEach es X.env := by rfl) (hplain : (backTo cpos (starEach es X.env)).any (·.1) = false := by rfl) :
    PE X (.Call (.Attribute o name apos) (e :: es) [] cpos) (tBMT X.K r to t) := by
  refine ⟨fun pins s σ H Q I h => ?_⟩
  refine wpAny_Call_method_late hbase hfew hline rfl (thn (ho.run pins s σ H _ I h) fun v s1 ⟨x, H1, I1, r1, ⟨p, xs, ex, hq, oo, uu, hp, hd⟩, q1⟩ => ?_)
  subst ex
  obtain rfl : v = Value.ref p := r1
  obtain ⟨its, rv, ⟨o1, e1, c1, _⟩, hz⟩ := I1.tuple hq
  have hok : ObjOk X.prog X.w H1 s1.heap p (.frz oo uu) := I1.hok p _ hp
  refine ⟨"tuple", id, PySem.F.plainAttrs_tuple, slot, hty, ⟨o1, e1, c1⟩, fun a ea => ?_, ?_⟩
  · cases ea
    exact ⟨oo, hok.1, hd⟩
  have hA := ha.run cpos pins s1 σ H1 _ I1 q1
  rw [hs] at hA ⊢
  refine Calls.callWith_builtin (by show (false || (backTo cpos (starEach es X.env)).any (·.1)) = false; rw [hplain] <;> rfl) (Calls.evalArgs_plain ?_)
  exact thn hA fun us s2 ⟨vs, H2, I2, r2, q2⟩ => hm pins s2 σ H2 (.ref p) vs (.ref p) us Q I2 rfl r2 q2
end
end Kb
set_option Elab.async false
set_option linter.all false
set_option maxRecDepth 100000
namespace Kb
open PySem PySem.Spec PyProof.Rows L2
structure Fn (P : Program) (w : World) (K : PySem.W.Frag) (mg : Str → Option Value) (base : Heap) (CX : CXT) (k : Nat) (x : Str) (ps : List Str) (sp : Sp) : Prop where
  ex : ∃ f fd, FnOk P w K mg base CX k f fd ps sp ∧ mg x = some (.ref f) ∧ PySem.W.keepIn K (.ref f) = true ∧ Binds K fd ps []
def At (K : PySem.W.Frag) (mg : Str → Option Value) (x : Str) (st : Stmt) : Prop := ∃ f fd, Fun K x x st f fd ∧ mg x = some (.ref f)
section
variable {X : Cx} {CX : CXT} {k : Nat} {ps : List Str} {sp : Sp} {E : XK} {x : Str} {p pos : Pos} {e : Expr} {es : List Expr} {t : TA}
theorem pe_callF (G : Fn X.prog X.w X.K X.mg X.base CX k x ps sp) (hr : Room k X.A) (hg : Gl X x) (hx : Passes CX X E) (ha : PA X (e :: es) t) (hdb : (x == ("__debug__" : Str)) = false := by decide)
    (he : starEach (e :: es) X.env = (false, eval e X.env) :: starEach es X.env := by rfl) (hpl : (backTo pos (starEach es X.env)).any (·.1) = false := by rfl) : PE X (.Call (.Name x p) (e :: es) [] pos) (tCall sp [] E t) := by
  obtain ⟨f, fd, F, hm, hk, hb⟩ := G.ex
  exact pe_call F hr hg hm hk hb .nil hx ha hdb he hpl
end
/-- all but l is as it was -/
def But (l : Addr) (H H' : Hp) : Prop := ∀ b o, b ≠ l → H b = some o → H' b = some o
section
variable {K : PySem.W.Frag} {H H1 H2 H' : Hp} {a l p : Addr} {o u : HO} {xs ys : List V} {ns : List Int}
theorem same_new (h : H p = none) : Same H (upd H p o) := fun b x e => by rw [upd_ne (ne_of_none e h)]; exact e
theorem but_upd : But l H (upd H l o) := fun b x n e => by rw [upd_ne n]; exact e
theorem But.trans (a : But l H H1) (b : But l H1 H2) : But l H H2 := fun c o n h => b c o n (a c o n h)
theorem But.refl : But l H H := fun _ _ _ h => h
theorem Same.but (s : Same H H') : But l H H' := fun b o _ h => s b o h
theorem rd_same (s : Same H H') (h : Rd H a u) : Rd H' a u := by
  rcases h with h | ⟨o, h⟩
  · exact .inl (s _ _ h)
  · exact .inr ⟨o, s _ _ h⟩
theorem sqT_same (s : Same H H') (h : SqT K H a xs) : SqT K H' a xs := by
  rcases h with h | h
  · exact .inl (rd_same s h)
  · exact .inr h
theorem sqL_same (s : Same H H') (h : SqL K H a xs) : SqL K H' a xs := s.seq h
theorem sqT_but (b : But l H H') (hl : H l = some (.lst ys)) (h : SqT K H a xs) : SqT K H' a xs := by
  rcases h with (h | ⟨o, h⟩) | h
  · exact .inl (.inl (b _ _ (ne_of h hl (by intro z; cases z)) h))
  · exact .inl (.inr ⟨o, b _ _ (ne_of h hl (by intro z; cases z)) h⟩)
  · exact .inr h
theorem sqL_but (b : But l H H') (hne : a ≠ l) (h : SqL K H a xs) : SqL K H' a xs := by
  rcases h with (h | ⟨o, h⟩) | h
  · exact .inl (.inl (b _ _ hne h))
  · exact .inl (.inr ⟨o, b _ _ hne h⟩)
  · exact .inr h
theorem at_same (s : Same H H') (h : H a = some o) : H' a = some o := s _ _ h
theorem at_but (b : But l H H') (hne : a ≠ l) (h : H a = some o) : H' a = some o := b _ _ hne h
theorem sqL_of (h : H a = some (.lst xs)) : SqL K H a xs := .inl (.inl h)
theorem sqT_of (h : H a = some (.tup xs)) : SqT K H a xs := .inl (.inl h)
/-- a but of an object that the first heap doesn't know is a same -/
theorem But.same (b : But l H H') (h : H l = none) : Same H H' := fun c o e => b c o (ne_of_none e h) e
theorem same_but (s : Same H H1) (b : But l H1 H2) (h : H l = none) : Same H H2 := fun c o e => b c o (ne_of_none e h) (s c o e)
end
def PB (x : V) (H : Hp) (QB : Bool → Hp → Prop) : Prop := ∃ k, x = .bl k ∧ QB k H
def PIf (x : V) (A B : Prop) : Prop := ∃ c, x = .bl c ∧ if c = true then A else B
def PTr (K : PySem.W.Frag) (x : V) (H : Hp) (QB : Bool → Hp → Prop) : Prop := ∃ k, TruV K x H k ∧ QB k H
def PNew (z : Prop) (o : HO) (H : Hp) (Q : VK) : Prop := z ∧ ∀ p, H p = none → Q (.ref p) (upd H p o)
def PI2 (x y : V) (QR : Int → Int → Prop) : Prop := ∃ i j, x = .int i ∧ y = .int j ∧ QR i j
def PI1 (x : V) (QR : Int → Prop) : Prop := ∃ i, x = .int i ∧ QR i
def PNot (x : V) (H : Hp) (Q : VK) : Prop := ∃ c, x = .bl c ∧ Q (.bl (!c)) H
section
variable {K : PySem.W.Frag} {D : Ends} {σ : L2.St} {H : Hp} {t u : TS} {te ta tb : TE} {g : TG} {c d : TT} {Q : VK} {QB : Bool → Hp → Prop} {v x y : V} {i j : Nat} {m n : Int} {b : Bool}
theorem r_seq (h : t { D with nx := u D } σ H) : tSeq t u D σ H := h
theorem r_next (h : D.nx σ H) : tNext D σ H := h
theorem r_asg (h : te σ H fun x H1 => g x σ H1 D.nx) : tAsg te g D σ H := h
theorem r_name {N : L2.St → Hp → Prop} (h : N (σ.set i (some v)) H) : gName i v σ H N := h
theorem r_drop (h : te σ H fun _ H1 => D.nx σ H1) : tDrop te D σ H := h
theorem r_ret (h : te σ H D.rt) : tRet te D σ H := h
theorem r_retN (h : D.rt .non H) : tRetN D σ H := h
theorem r_if (h : c σ H fun b H1 => if b = true then t D σ H1 else u D σ H1) : tIfS c t u D σ H := h
theorem r_brk (h : D.bk σ H) : tBreak D σ H := h
theorem r_cont (h : D.ct σ H) : tCont D σ H := h
theorem r_var (h : σ[i]? = some (some v)) (q : Q v H) : tVar i σ H Q := ⟨v, h, q⟩
theorem r_c (q : Q v H) : tC v σ H Q := q
theorem r_op {r : R2} (h : ta σ H fun x H1 => tb σ H1 fun y H2 => r x y H2 Q) : tOp r ta tb σ H Q := h
theorem r_un {r : V → Hp → VK → Prop} (h : ta σ H fun x H1 => r x H1 Q) : tUn r ta σ H Q := h
theorem r_neg (q : Q (.int (-m)) H) : rU (fun i => .int (-i)) (.int m) H Q := ⟨m, rfl, q⟩
theorem r_addI (q : Q (.int (m + n)) H) : rAddU K (.int m) (.int n) H Q := .inl ⟨m, n, rfl, rfl, q⟩
theorem r_addS {z w : Str} (hz : z.length + w.length ≤ sizeLine) (q : Q (.str (z ++ w)) H) : rAddU K (.str z) (.str w) H Q := .inr (.inl ⟨z, w, rfl, rfl, hz, q⟩)
theorem r_subI (q : Q (.int (m - n)) H) : rSubU (.int m) (.int n) H Q := ⟨m, n, rfl, rfl, q⟩
theorem r_mulI (c : CMul m n) (q : Q (.int (m * n)) H) : rMulU K (.int m) (.int n) H Q := .inl ⟨m, n, rfl, rfl, c, q⟩
theorem r_fdiv (h0 : 0 < n) (h1 : n.natAbs.log2 < 9000) (q : Q (.int (m / n)) H) : rFdivU (.int m) (.int n) H Q := ⟨m, n, rfl, rfl, ⟨h0, h1⟩, q⟩
theorem r_mod (h0 : 0 < n) (q : Q (.int (m % n)) H) : rModU (.int m) (.int n) H Q := ⟨m, n, rfl, rfl, h0, q⟩
theorem r_pow (h0 : CPow m n) (q : Q (.int (m ^ n.toNat)) H) : rPowU (.int m) (.int n) H Q := ⟨m, n, rfl, rfl, h0, q⟩
theorem r_eqI (q : Q (.bl (decide (m = n))) H) : rEqU K (.int m) (.int n) H Q := .inl ⟨rfl, by
  have e : decide (V.int m = V.int n) = decide (m = n) := by by_cases h : m = n <;> simp [h]
  rw [e]; exact q⟩
theorem r_neI (q : Q (.bl (!decide (m = n))) H) : rNeU K (.int m) (.int n) H Q := .inl ⟨rfl, by
  have e : decide (V.int m = V.int n) = decide (m = n) := by by_cases h : m = n <;> simp [h]
  rw [e]; exact q⟩
theorem r_ltI (q : Q (.bl (decide (m < n))) H) : rLtU K (.int m) (.int n) H Q := .inl ⟨m, n, rfl, rfl, q⟩
theorem r_leI (q : Q (.bl (decide (m ≤ n))) H) : rLeU K (.int m) (.int n) H Q := .inl ⟨m, n, rfl, rfl, q⟩
theorem r_gtI (q : Q (.bl (decide (n < m))) H) : rGtU (.int m) (.int n) H Q := .inl ⟨m, n, rfl, rfl, q⟩
theorem r_geI (q : Q (.bl (decide (n ≤ m))) H) : rGeU (.int m) (.int n) H Q := .inl ⟨m, n, rfl, rfl, q⟩
theorem r_isN (q : Q (.bl (decide (x = .non))) H) : rIsNU x .non H Q := ⟨rfl, q⟩
theorem r_notN (q : Q (.bl (!decide (x = .non))) H) : rNotNU x .non H Q := ⟨rfl, q⟩
theorem r_test (h : te σ H fun x H' => PB x H' QB) : tTest te σ H QB := h
theorem r_B (h : te σ H fun x H' => PB x H' QB) : tB te σ H QB := h
theorem r_k (q : QB b H) : PB (.bl b) H QB := ⟨b, rfl, q⟩
theorem r_not (h : c σ H fun b H1 => QB (!b) H1) : tNot c σ H QB := h
theorem r_and (h : c σ H fun b H1 => if b = true then d σ H1 QB else QB false H1) : tAnd c d σ H QB := h
theorem r_or (h : c σ H fun b H1 => if b = true then QB true H1 else d σ H1 QB) : tOr c d σ H QB := h
theorem r_andV (h : ta σ H fun x H1 => PIf x (tb σ H1 Q) (Q (.bl false) H1)) : tAndV ta tb σ H Q := h
theorem r_orV (h : ta σ H fun x H1 => PIf x (Q (.bl true) H1) (tb σ H1 Q)) : tOrV ta tb σ H Q := h
theorem r_pif {A B : Prop} (h : if b = true then A else B) : PIf (.bl b) A B := ⟨b, rfl, h⟩
theorem r_notV (h : ta σ H fun x H1 => PNot x H1 Q) : tNotV ta σ H Q := h
theorem r_pnot (q : Q (.bl (!b)) H) : PNot (.bl b) H Q := ⟨b, rfl, q⟩
theorem r_ifE (h : c σ H fun b H1 => if b = true then ta σ H1 Q else tb σ H1 Q) : tIf c ta tb σ H Q := h
theorem r_chain {r r' : R2} {tc : TE} (h : ta σ H fun x H1 => tb σ H1 fun y H2 => r x y H2 fun z H3 => PIf z (tc σ H3 fun w' H4 => r' y w' H4 Q) (Q (.bl false) H3)) : tChain r r' ta tb tc σ H Q := h
theorem r_tru (h : ta σ H fun x H' => PTr K x H' QB) : tTru K ta σ H QB := h
theorem r_truB (q : QB b H) : PTr K (.bl b) H QB := ⟨b, rfl, q⟩
theorem r_truI (q : QB (m != 0) H) : PTr K (.int m) H QB := ⟨_, rfl, q⟩
theorem r_truL {p : Addr} {xs : List V} (h : SqL K H p xs) (q : QB (!xs.isEmpty) H) : PTr K (.ref p) H QB := ⟨_, .inl ⟨xs, h, rfl⟩, q⟩
theorem r_truT {p : Addr} {xs : List V} (h : SqT K H p xs) (q : QB (!xs.isEmpty) H) : PTr K (.ref p) H QB := ⟨_, .inr (.inl ⟨xs, h, rfl⟩), q⟩
theorem r_nil {QA : List V → Hp → Prop} (q : QA [] H) : tNil σ H QA := q
theorem r_cons {tr : TA} {QA : List V → Hp → Prop} (h : ta σ H fun x H1 => tr σ H1 fun xs H2 => QA (x :: xs) H2) : tCons ta tr σ H QA := h
theorem r_CB {r : List V → Hp → VK → Prop} {ts : TA} (h : ts σ H fun vs H1 => r vs H1 Q) : tCB r ts σ H Q := h
theorem r_lenL {p : Addr} {xs : List V} (h : SqL K H p xs) (q : Q (.int (xs.length : Int)) H) : rLenU K [.ref p] H Q := .inl ⟨p, xs, rfl, .inl h, q⟩
theorem r_lenT {p : Addr} {xs : List V} (h : SqT K H p xs) (q : Q (.int (xs.length : Int)) H) : rLenU K [.ref p] H Q := .inl ⟨p, xs, rfl, .inr h, q⟩
theorem r_lenS {z : Str} (h : z.length ≤ sizeLine) (q : Q (.int (z.length : Int)) H) : rLenU K [.str z] H Q := .inr (.inl ⟨z, rfl, h, q⟩)
theorem r_int (q : Q (.int m) H) : rIntU [.int m] H Q := ⟨m, rfl, q⟩
theorem r_abs (q : Q (.int (if m < 0 then -m else m)) H) : rAbsU [.int m] H Q := ⟨m, rfl, q⟩
theorem r_ixL {p : Addr} {xs : List V} (h : SqL K H p xs) (ha : atI xs m = some v) (q : Q v H) : rIx K (.ref p) (.int m) H Q := .inl ⟨p, xs, m, v, rfl, rfl, h, ha, q⟩
theorem r_ixT {p : Addr} {xs : List V} (h : SqT K H p xs) (ha : atI xs m = some v) (q : Q v H) : rIx K (.ref p) (.int m) H Q := .inr (.inl ⟨p, xs, m, v, rfl, rfl, h, ha, q⟩)
theorem r_ixS {z : Str} {c : Nat} (h : z.length ≤ sizeLine) (ha : atI z.cps.toList m = some c) (q : Q (.str ⟨#[c]⟩) H) : rIx K (.str z) (.int m) H Q := .inr (.inr ⟨z, m, c, rfl, rfl, h, ha, q⟩)
theorem r_tup {ts : TA} (h : ts σ H fun xs H1 => PNew (xs.length ≤ sizeLine) (.tup xs) H1 Q) : tTup ts σ H Q := h
theorem r_lst {ts : TA} (h : ts σ H fun xs H1 => PNew (xs.length ≤ sizeLine) (.lst xs) H1 Q) : tLst ts σ H Q := h
theorem r_new {z : Prop} {o : HO} (hz : z) (k : ∀ p H', H p = none → Same H H' → H' p = some o → Q (.ref p) H') : PNew z o H Q := ⟨hz, fun p hp => k p _ hp (same_new hp) upd_same⟩
theorem r_call {sp : Sp} {E : XK} {ts : TA} (h : ts σ H fun vs H1 => sp (vs ++ []) H1 Q E) : tCall sp [] E ts σ H Q := h
theorem r_BM {T : String} {r : V → List V → Hp → VK → Prop} {ts : TA} (h : ta σ H fun x H1 => tyV K T x H1 ∧ ts σ H1 fun xs H2 => r x xs H2 Q) : tBM K T r ta ts σ H Q := h
theorem r_BM0 {T : String} {r : V → List V → Hp → VK → Prop} (h : ta σ H fun x H1 => tyV K T x H1 ∧ r x [] H1 Q) : tBM0 K T r ta σ H Q := h
theorem r_tyL {p : Addr} {xs : List V} {A : Prop} (h : SqL K H p xs) (a : A) : tyV K "list" (.ref p) H ∧ A := ⟨Or.inl ⟨rfl, _, h⟩, a⟩
theorem r_tyS {z : Str} {A : Prop} (a : A) : tyV K "str" (.str z) H ∧ A := ⟨rfl, a⟩
theorem r_append {p : Addr} {xs : List V} (h : H p = some (.lst xs)) (hz : xs.length < sizeLine) (k : ∀ H', But p H H' → H' p = some (.lst (xs ++ [y])) → Q .non H') : rAppend (.ref p) [y] H Q := ⟨p, xs, y, rfl, rfl, h, hz, k _ but_upd upd_same⟩
theorem r_pop {p : Addr} {xs : List V} (h : H p = some (.lst (xs ++ [y]))) (k : ∀ H', But p H H' → H' p = some (.lst xs) → Q y H') : rPop (.ref p) [] H Q := by
  refine ⟨p, xs ++ [y], y, rfl, rfl, h, ?_, ?_⟩
  · simp
  · rw [List.dropLast_concat]; exact k _ but_upd upd_same
theorem r_popAt {p : Addr} {xs : List V} {k : Nat} (h : H p = some (.lst xs)) (e : m = (k : Int)) (hk : xs[k]? = some y) (hz : xs.length < 2 ^ 62) (q : ∀ H', But p H H' → H' p = some (.lst (xs.eraseIdx k)) → Q y H') : rPopAt (.ref p) [.int m] H Q := by
  have hl : k < xs.length := (List.getElem?_eq_some_iff.mp hk).1
  refine ⟨p, xs, m, k, y, rfl, rfl, h, by omega, by omega, ?_, hk, q _ but_upd upd_same⟩
  subst e
  obtain ⟨j, hj, hx, _⟩ := atI_get (atI_nat hk)
  have e2 : j = k := by
    unfold seqIndex? at hj
    simp at hj
    omega
  rw [hj, e2]
theorem r_then {kk : V → Hp → VK → Prop} (h : ta σ H fun x H1 => kk x H1 Q) : tThen ta kk σ H Q := h
theorem r_kTupL {p : Addr} {xs : List V} (h : SqL K H p xs) (k : ∀ q H', H q = none → Same H H' → (∃ o : Obj, H' q = some (.frz o (.tup xs)) ∧ o.dict = none) → Q (.ref q) H') : kTupD K (.ref p) H Q := .inl ⟨p, xs, rfl, h, fun q o hq ho => k q _ hq (same_new hq) ⟨o, upd_same, ho⟩⟩
theorem r_kTupT {p : Addr} {xs : List V} (h : SqT K H p xs) (q : Q (.ref p) H) : kTupD K (.ref p) H Q := .inr ⟨p, xs, rfl, h, q⟩
theorem sqT_ofD {q : Addr} {xs : List V} (h : ∃ o : Obj, H q = some (.frz o (.tup xs)) ∧ o.dict = none) : SqT K H q xs := by
  obtain ⟨o, e, _⟩ := h
  exact .inl (.inr ⟨o, e⟩)
theorem noD_of {q : Addr} {xs : List V} (h : ∃ o : Obj, H q = some (.frz o (.tup xs)) ∧ o.dict = none) : NoD H q := by
  obtain ⟨o, e, d⟩ := h
  exact ⟨o, _, e, d⟩
theorem noD_same {H H' : Hp} {q : Addr} (s : Same H H') (h : NoD H q) : NoD H' q := by
  obtain ⟨o, u, e, d⟩ := h
  exact ⟨o, u, s _ _ e, d⟩
theorem r_listL {p : Addr} {xs : List V} (h : SqL K H p xs) (k : ∀ q H', H q = none → Same H H' → H' q = some (.lst xs) → Q (.ref q) H') : rListU K [.ref p] H Q := ⟨p, xs, rfl, .inl h, fun q hq => k q _ hq (same_new hq) upd_same⟩
theorem r_listT {p : Addr} {xs : List V} (h : SqT K H p xs) (k : ∀ q H', H q = none → Same H H' → H' q = some (.lst xs) → Q (.ref q) H') : rListU K [.ref p] H Q := ⟨p, xs, rfl, .inr h, fun q hq => k q _ hq (same_new hq) upd_same⟩
theorem r_lstRg {tr : L2.St → Hp → (Int → Int → Hp → Prop) → Prop} (h : tr σ H fun a b H1 => PNew (RgOk a b) (.lst (rgV a b)) H1 Q) : tLstRg tr σ H Q := h
theorem r_tupRg {tr : L2.St → Hp → (Int → Int → Hp → Prop) → Prop} (h : tr σ H fun a b H1 => PNew (RgOk a b) (.tup (rgV a b)) H1 Q) : tTupRg tr σ H Q := h
theorem r_rg2 {QR : Int → Int → Hp → Prop} (h : ta σ H fun x H1 => tb σ H1 fun y H2 => PI2 x y fun i j => QR i j H2) : tRg2 ta tb σ H QR := h
theorem r_rg1 {QR : Int → Int → Hp → Prop} (h : ta σ H fun x H1 => PI1 x fun n => QR 0 n H1) : tRg1 ta σ H QR := h
theorem r_ii {QR : Int → Int → Prop} (q : QR m n) : PI2 (.int m) (.int n) QR := ⟨m, n, rfl, rfl, q⟩
theorem r_i {QR : Int → Prop} (q : QR m) : PI1 (.int m) QR := ⟨m, rfl, q⟩
theorem r_gsub {ti : TE} {to : TE} {ts : TSet} {N : L2.St → Hp → Prop} (h : to σ H fun o H1 => ti σ H1 fun i H2 => ts o i v H2 fun H3 => N σ H3) : gSub to ti ts v σ H N := h
theorem r_setL {N : Hp → Prop} {p : Addr} {xs : List V} {k : Nat} (h : H p = some (.lst xs)) (hk : ixN xs.length m = some k) (q : ∀ H', But p H H' → H' p = some (.lst (xs.set k v)) → N H') : rSetL (.ref p) (.int m) v H N := ⟨p, xs, m, k, rfl, rfl, h, hk, q _ but_upd upd_same⟩
theorem r_aug {ti : TIp} (h : σ[i]? = some (some x)) (q : te σ H fun y H1 => ti x y H1 fun z H2 => D.nx (σ.set i (some z)) H2) : tAug i te ti D σ H := ⟨x, h, q⟩
theorem r_ipI {f : Int → Int → Int} (q : Q (.int (f m n)) H) : ipI f (.int m) (.int n) H Q := ⟨m, n, rfl, rfl, q⟩
theorem r_noPart {QO : Option Int → Hp → Prop} (q : QO none H) : tNoPart σ H QO := q
theorem r_part {QO : Option Int → Hp → Prop} (h : te σ H fun x H1 => PI1 x fun i => QO (some i) H1) : tPart te σ H QO := h
theorem r_sl {r : V → Option Int → Option Int → Hp → VK → Prop} {tl th : TO} (h : te σ H fun x H1 => tl σ H1 fun l H2 => th σ H2 fun u H3 => r x l u H3 Q) : tSl r te tl th σ H Q := h
theorem r_ite {c : Prop} [Decidable c] {A B : Prop} (h1 : c → A) (h2 : ¬ c → B) : if decide c = true then A else B := by
  by_cases h : c
  · rw [if_pos (decide_eq_true h)]; exact h1 h
  · rw [if_neg (by simp [h])]; exact h2 h
theorem r_iteN {c : Prop} [Decidable c] {A B : Prop} (h1 : ¬ c → A) (h2 : c → B) : if (!decide c) = true then A else B := by
  by_cases h : c
  · rw [if_neg (by simp [h])]; exact h2 h
  · rw [if_pos (by simp [h])]; exact h1 h
theorem r_iteP {c : Prop} [Decidable c] {A B : Prop} (h : c) (a : A) : if decide c = true then A else B := by rw [if_pos (decide_eq_true h)]; exact a
theorem r_iteM {c : Prop} [Decidable c] {A B : Prop} (h : ¬ c) (a : B) : if decide c = true then A else B := by rw [if_neg (by simp [h])]; exact a
theorem r_iteNP {c : Prop} [Decidable c] {A B : Prop} (h : c) (a : B) : if (!decide c) = true then A else B := by rw [if_neg (by simp [h])]; exact a
theorem r_iteNM {c : Prop} [Decidable c] {A B : Prop} (h : ¬ c) (a : A) : if (!decide c) = true then A else B := by rw [if_pos (by simp [h])]; exact a
theorem r_T {A B : Prop} (a : A) : if true = true then A else B := by rw [if_pos rfl]; exact a
theorem r_F {A B : Prop} (a : B) : if false = true then A else B := by rw [if_neg (by decide)]; exact a
theorem r_nT {A B : Prop} (a : B) : if (!true) = true then A else B := r_F a
theorem r_nF {A B : Prop} (a : A) : if (!false) = true then A else B := r_T a
end
end Kb
set_option Elab.async false
set_option linter.all false
set_option maxRecDepth 100000
set_option maxHeartbeats 4000000
namespace Kb
open PySem PySem.Spec PyProof.Rows L2
local macro_rules | `(tactic| walk_at "tk") => `(tactic| first
  | assumption
  | ((with_reducible refine' sqT_of ?k); (case k => assumption))
  | ((with_reducible refine' sqT_ofD ?k); (case k => assumption))
  | ((with_reducible refine' noD_of ?k); (case k => assumption))
  | ((with_reducible refine' noD_same ?s ?k); (case s => assumption); (case k => walk_at "tk"))
  | ((with_reducible refine' sqL_of ?k); (case k => assumption))
  | ((with_reducible refine' sqT_same ?s ?k); (case s => assumption); (case k => walk_at "tk"))
  | ((with_reducible refine' sqL_same ?s ?k); (case s => assumption); (case k => walk_at "tk"))
  | ((with_reducible refine' sqT_but ?s ?t ?k); (case s => assumption); (case t => walk_at "tk"); (case k => walk_at "tk"))
  | ((with_reducible refine' sqL_but ?s ?t ?k); (case s => assumption); (case t => walk_at "ne"); (case k => walk_at "tk"))
  | ((with_reducible refine' sqL_of ?k); (case k => walk_at "tk"))
  | ((with_reducible refine' sqT_of ?k); (case k => walk_at "tk"))
  | ((with_reducible refine' at_same ?s ?k); (case s => assumption); (case k => walk_at "tk"))
  | ((with_reducible refine' at_but ?s ?t ?k); (case s => assumption); (case t => walk_at "ne"); (case k => walk_at "tk")))
local macro_rules | `(tactic| walk_at "ne") => `(tactic| first
  | assumption
  | (refine Ne.symm ?_; assumption)
  | exact ne_of_none (by assumption) (by assumption)
  | exact (ne_of_none (by assumption) (by assumption)).symm)
local macro_rules | `(tactic| walk_at "side") => `(tactic| first
  | assumption
  | omega
  | (simp only [sizeLine_eq, List.length_cons, List.length_nil, List.length_map]; omega)
  | (show _ ≤ sizeLine; decide))
local macro_rules | `(tactic| walk_at "kit") => `(tactic| first
  | (show kitB _ _ = some true; decide +kernel)
  | (show kitB _ _ = some false; decide +kernel))
local macro_rules | `(tactic| walk_at "rng") => `(tactic| first
  | (refine ⟨by omega, by omega, by omega, by omega⟩)
  | (refine ⟨by omega, by omega⟩)
  | ((simp only [List.length_map]); (refine ⟨by omega, by omega, by omega, by omega⟩))
  | ((simp only [List.length_map]); (refine ⟨by omega, by omega⟩)))
local macro_rules | `(tactic| walk_at "rd1") => `(tactic| first
  | with_reducible refine r_seq ?_
  | ((with_reducible refine' r_var ?k0 ?_); (case k0 => rfl))
  | with_reducible refine r_op ?_
  | with_reducible refine r_c ?_
  | with_reducible refine r_asg ?_
  | with_reducible refine r_name ?_
  | with_reducible refine r_cons ?_
  | with_reducible refine r_nil ?_
  | with_reducible refine r_CB ?_
  | with_reducible refine r_if ?_
  | with_reducible refine r_test ?_
  | with_reducible refine r_k ?_
  | with_reducible refine r_T ?_
  | with_reducible refine r_F ?_
  | with_reducible refine r_nT ?_
  | with_reducible refine r_nF ?_
  | with_reducible refine r_ret ?_
  | with_reducible refine r_drop ?_
  | with_reducible refine r_next ?_
  | with_reducible refine r_call ?_
  | with_reducible refine r_addI ?_
  | with_reducible refine r_subI ?_
  | with_reducible refine r_ltI ?_
  | with_reducible refine r_gtI ?_
  | with_reducible refine r_leI ?_
  | with_reducible refine r_geI ?_
  | with_reducible refine r_eqI ?_
  | with_reducible refine r_neI ?_
  | with_reducible refine r_int ?_
  | with_reducible refine r_abs ?_
  | with_reducible refine r_not ?_
  | with_reducible refine r_and ?_
  | with_reducible refine r_or ?_
  | with_reducible refine r_tru ?_
  | with_reducible refine r_truB ?_
  | with_reducible refine r_lst ?_
  | with_reducible refine r_tup ?_
  | with_reducible refine r_BM ?_
  | with_reducible refine r_BM0 ?_
  | with_reducible refine r_tyS ?_
  | with_reducible refine r_gsub ?_
  | with_reducible refine r_then ?_
  | with_reducible refine r_lstRg ?_
  | with_reducible refine r_tupRg ?_
  | with_reducible refine r_rg2 ?_
  | with_reducible refine r_rg1 ?_
  | with_reducible refine r_ii ?_
  | with_reducible refine r_i ?_
  | with_reducible refine r_ipI ?_
  | with_reducible refine r_un ?_
  | with_reducible refine r_neg ?_
  | with_reducible refine r_isN ?_
  | with_reducible refine r_notN ?_
  | with_reducible refine r_notV ?_
  | with_reducible refine r_pnot ?_
  | with_reducible refine r_pif ?_
  | with_reducible refine r_andV ?_
  | with_reducible refine r_orV ?_
  | with_reducible refine r_ifE ?_
  | with_reducible refine r_chain ?_
  | with_reducible refine r_sl ?_
  | with_reducible refine r_noPart ?_
  | with_reducible refine r_part ?_
  | with_reducible refine r_brk ?_
  | with_reducible refine r_cont ?_
  | with_reducible refine r_retN ?_
  | with_reducible refine r_truI ?_
  | with_reducible refine r_B ?_
  | ((with_reducible refine' r_mod ?k0 ?_); (case k0 => walk_at "side"))
  | ((with_reducible refine' r_mulI ?k0 ?_); (case k0 => first | exact Or.inl ⟨by omega, by omega⟩ | exact Or.inr ⟨by omega, by omega⟩))
  | ((with_reducible refine' r_lenL ?k0 ?_); (case k0 => walk_at "tk"))
  | ((with_reducible refine' r_lenT ?k0 ?_); (case k0 => walk_at "tk"))
  | ((with_reducible refine' r_truL ?k0 ?_); (case k0 => walk_at "tk"))
  | ((with_reducible refine' r_truT ?k0 ?_); (case k0 => walk_at "tk"))
  | ((with_reducible refine' r_ixL ?k0 ?k1 ?_); (case k0 => walk_at "tk"); (case k1 => first | assumption | rfl))
  | ((with_reducible refine' r_ixT ?k0 ?k1 ?_); (case k0 => walk_at "tk"); (case k1 => first | assumption | rfl))
  | ((with_reducible refine' r_new ?k0 ?_); (case k0 => walk_at "side"))
  | ((with_reducible refine' r_tyL ?k0 ?_); (case k0 => walk_at "tk"))
  | ((with_reducible refine' r_append ?k0 ?k1 ?_); (case k0 => walk_at "tk"); (case k1 => walk_at "side"))
  | ((with_reducible refine' r_setL ?k0 ?k1 ?_); (case k0 => walk_at "tk"); (case k1 => first | assumption | rfl))
  | ((with_reducible refine' r_kTupL ?k0 ?_); (case k0 => walk_at "tk"))
  | ((with_reducible refine' r_kTupT ?k0 ?_); (case k0 => walk_at "tk"))
  | ((with_reducible refine' r_listL ?k0 ?_); (case k0 => walk_at "tk"))
  | ((with_reducible refine' r_listT ?k0 ?_); (case k0 => walk_at "tk"))
  | ((with_reducible refine' r_aug ?k0 ?_); (case k0 => rfl))
  | ((with_reducible refine' r_lenS ?k0 ?_); (case k0 => walk_at "side"))
  | ((with_reducible refine' r_pop ?k0 ?_); (case k0 => walk_at "tk")))
local macro_rules | `(tactic| walk_at "rd") => `(tactic| ((repeat (walk_at "rd1")); (try dsimp only)))
def sp_law_cell (K : PySem.W.Frag) : Sp := fun vs H Q _ => ∃ (a : Addr) (ns : List Int) (k : Int), vs = [.ref a, .int k] ∧ SqL K H a (ns.map V.int) ∧ ns.length ≤ 63 ∧ 0 ≤ k ∧ ∀ n, Q (.int n) H
def Pl (H : Hp) (p : Addr) : Prop := ∃ x y z, H p = some (.lst [.int x, .int y, .int z])
def sp_law_pool (K : PySem.W.Frag) : Sp := fun vs H Q _ => ∃ (a : Addr) (ns : List Int) (k : Int), vs = [.ref a, .int k] ∧ SqL K H a (ns.map V.int) ∧ ns.length ≤ 63 ∧ 0 ≤ k ∧ ∀ p H', H p = none → Same H H' → Pl H' p → Q (.ref p) H'
def sp_law_draw (K : PySem.W.Frag) : Sp := fun vs H Q _ => ∃ (p : Addr) (m : Int), vs = [.ref p, .int m] ∧ Pl H p ∧ 0 < m ∧ m < 2 ^ 200 ∧ ∀ v H', 0 ≤ v → v < m → But p H H' → Pl H' p → Q (.int v) H'
abbrev N_law_cell : List Str := ["script", "k"]
def t_law_cell (K : PySem.W.Frag) : TS :=
  tSeq (tIfS ((tTest (tOp (rLtU K) (tVar 1) ((tCB (rLenU K) (tCons (tVar 0) tNil)))))) ((tRet ((tCB rAbsU (tCons ((tCB rIntU (tCons ((tOp (rIx K) (tVar 0) (tVar 1))) tNil))) tNil))))) (tNext))
  (tSeq (tIfS ((tTest (tOp (rEqU K) ((tCB (rLenU K) (tCons (tVar 0) tNil))) ((tC (.int 0)))))) ((tRet ((tC (.int 0))))) (tNext))
  ((tRet ((tOp rModU ((tCB rAbsU (tCons ((tCB rIntU (tCons ((tOp (rIx K) (tVar 0) ((tOp rModU ((tCB rIntU (tCons (tVar 1) tNil))) ((tCB (rLenU K) (tCons (tVar 0) tNil))))))) tNil))) tNil))) ((tC (.int 999999999999999989))))))))
abbrev N_law_pool : List Str := ["script", "k", "cell"]
def t_law_pool (K : PySem.W.Frag) : TS :=
  tSeq (tAsg ((tCall (sp_law_cell K) [] E0 (tCons (tVar 0) (tCons (tVar 1) tNil)))) (gName 2))
  (tSeq (tIfS ((tTest (tOp rGeU (tVar 2) ((tOp rPowU ((tC (.int 10))) ((tC (.int 18)))))))) ((tRet ((tLst (tCons ((tOp rSubU (tVar 2) ((tOp rPowU ((tC (.int 10))) ((tC (.int 18))))))) (tCons ((tOp rModU ((tCB rIntU (tCons (tVar 2) tNil))) ((tC (.int 1000003))))) (tCons ((tC (.int 0))) tNil))))))) (tNext))
  ((tRet ((tLst (tCons ((tC (.int 0))) (tCons ((tOp (rAddU K) (tVar 2) ((tOp (rMulU K) ((tC (.int 104729))) ((tOp (rAddU K) (tVar 1) ((tC (.int 1))))))))) (tCons ((tC (.int 0))) tNil))))))))
abbrev N_law_draw : List Str := ["pool", "many", "value", "mixed"]
def t_law_draw (K : PySem.W.Frag) : TS :=
  tSeq (tAsg ((tOp (rAddU K) ((tOp (rIx K) (tVar 0) ((tC (.int 2))))) ((tC (.int 1))))) (gSub (tVar 0) ((tC (.int 2))) rSetL))
  (tSeq (tIfS ((tTest (tOp rGtU ((tOp (rIx K) (tVar 0) ((tC (.int 0))))) ((tC (.int 1)))))) (tSeq (tAsg ((tOp rModU ((tCB rIntU (tCons ((tOp (rIx K) (tVar 0) ((tC (.int 0))))) tNil))) (tVar 1))) (gName 2))
  (tSeq (tAsg ((tOp rFdivU ((tOp (rIx K) (tVar 0) ((tC (.int 0))))) (tVar 1))) (gSub (tVar 0) ((tC (.int 0))) rSetL))
  ((tRet (tVar 2))))) (tNext))
  (tSeq (tAsg ((tOp rModU ((tCB rIntU (tCons ((tOp (rAddU K) ((tOp (rIx K) (tVar 0) ((tC (.int 1))))) ((tOp (rMulU K) ((tC (.int 7919))) ((tOp (rIx K) (tVar 0) ((tC (.int 2))))))))) tNil))) ((tC (.int 1000003))))) (gName 3))
  (tSeq (tAsg ((tOp rModU ((tCB rIntU (tCons ((tOp (rAddU K) ((tOp (rAddU K) ((tOp (rMulU K) (tVar 3) (tVar 3))) ((tOp (rMulU K) ((tC (.int 48271))) ((tOp (rIx K) (tVar 0) ((tC (.int 2))))))))) ((tOp (rIx K) (tVar 0) ((tC (.int 1))))))) tNil))) ((tC (.int 998244353))))) (gName 3))
  (tSeq (tAsg ((tOp rModU ((tCB rIntU (tCons ((tOp (rAddU K) ((tOp (rMulU K) (tVar 3) (tVar 3))) ((tC (.int 69621))))) tNil))) ((tC (.int 2147483647))))) (gName 3))
  ((tRet ((tOp rModU ((tCB rIntU (tCons ((tOp rFdivU (tVar 3) ((tC (.int 7))))) tNil))) (tVar 1)))))))))
theorem len_law_cell {K : PySem.W.Frag} {vs : List V} {H : Hp} {Q : VK} {E : XK} (h : sp_law_cell K vs H Q E) : vs.length = 2 := by
  obtain ⟨a, ns, k, rfl, _⟩ := h; rfl
theorem len_law_pool {K : PySem.W.Frag} {vs : List V} {H : Hp} {Q : VK} {E : XK} (h : sp_law_pool K vs H Q E) : vs.length = 2 := by
  obtain ⟨a, ns, k, rfl, _⟩ := h; rfl
theorem len_law_draw {K : PySem.W.Frag} {vs : List V} {H : Hp} {Q : VK} {E : XK} (h : sp_law_draw K vs H Q E) : vs.length = 2 := by
  obtain ⟨a, m, rfl, _⟩ := h; rfl
abbrev En (Q : VK) : Ends := { nx := fun _ H' => Q .non H', rt := Q }
theorem atI_ints {ns : List Int} {k : Int} (h0 : 0 ≤ k) (h1 : k < (ns.length : Int)) : ∃ n, atI (ns.map V.int) k = some (.int n) ∧ ns[k.toNat]? = some n := by
  have h2 : k.toNat < ns.length := by omega
  refine ⟨ns[k.toNat], ?_, List.getElem?_eq_getElem h2⟩
  have e : ((k.toNat : Nat) : Int) = k := by omega
  have h3 : (ns.map V.int)[k.toNat]? = some (.int ns[k.toNat]) := by rw [List.getElem?_map, List.getElem?_eq_getElem h2]; rfl
  have h4 := atI_nat h3
  rw [e] at h4
  exact h4
theorem pure_law_cell {K : PySem.W.Frag} {vs : List V} {H : Hp} {Q : VK} {E : XK} (h : sp_law_cell K vs H Q E) : t_law_cell K (En Q) (start N_law_cell vs) H := by
  obtain ⟨a, ns, k, rfl, hS, hn, hk, q⟩ := h
  unfold t_law_cell
  walk_at "rd"
  rw [List.length_map]
  refine r_ite (fun hlt => ?_) (fun hge => ?_)
  · obtain ⟨n, e1, _⟩ := atI_ints hk hlt
    walk_at "rd"
    exact q _
  · walk_at "rd"
    rw [List.length_map]
    refine r_ite (fun h0 => ?_) (fun h0 => ?_)
    · walk_at "rd"
      exact q _
    · have hp : (0 : Int) < ((ns.map V.int).length : Int) := by rw [List.length_map]; omega
      walk_at "rd"
      obtain ⟨n, e1, _⟩ := atI_ints (ns := ns) (k := k % ((ns.map V.int).length : Int)) (Int.emod_nonneg _ (by omega)) (by rw [List.length_map] at hp ⊢; exact Int.emod_lt_of_pos _ hp)
      walk_at "rd"
      exact q _
theorem c18 : CPow 10 18 := ⟨by decide, by decide, by decide⟩
theorem pure_law_pool {K : PySem.W.Frag} {vs : List V} {H : Hp} {Q : VK} {E : XK} (h : sp_law_pool K vs H Q E) : t_law_pool K (En Q) (start N_law_pool vs) H := by
  obtain ⟨a, ns, k, rfl, hS, hn, hk, q⟩ := h
  unfold t_law_pool
  walk_at "rd"
  refine ⟨a, ns, k, rfl, hS, hn, hk, fun n => ?_⟩
  walk_at "rd"
  refine r_pow c18 ?_
  walk_at "rd"
  refine r_ite (fun h1 => ?_) (fun h1 => ?_)
  · walk_at "rd"
    refine r_pow c18 ?_
    walk_at "rd"
    intro p H' hp s e
    exact q p H' hp s ⟨_, _, _, e⟩
  · walk_at "rd"
    intro p H' hp s e
    exact q p H' hp s ⟨_, _, _, e⟩
theorem log2_small {m : Int} (h0 : 0 < m) (h1 : m < 2 ^ 200) : m.natAbs.log2 < 9000 := (wide_div (i := 0) h0 (b := 200) (by omega) (by decide) (by decide)).2
theorem pure_law_draw {K : PySem.W.Frag} {vs : List V} {H : Hp} {Q : VK} {E : XK} (h : sp_law_draw K vs H Q E) : t_law_draw K (En Q) (start N_law_draw vs) H := by
  obtain ⟨p, m, rfl, ⟨x, y, z, hp⟩, h0, h1, q⟩ := h
  have hl := log2_small h0 h1
  unfold t_law_draw
  walk_at "rd"
  intro H1 b1 e1
  have e1 : H1 p = some (.lst [.int x, .int y, .int (z + 1)]) := e1
  walk_at "rd"
  refine r_ite (fun hx => ?_) (fun hx => ?_)
  · walk_at "rd"
    refine r_fdiv h0 hl ?_
    walk_at "rd"
    intro H2 b2 e2
    walk_at "rd"
    exact q _ _ (Int.emod_nonneg _ (by omega)) (Int.emod_lt_of_pos _ h0) (b1.trans b2) ⟨_, _, _, e2⟩
  · walk_at "rd"
    refine r_fdiv (by decide) (by decide) ?_
    walk_at "rd"
    exact q _ _ (Int.emod_nonneg _ (by omega)) (Int.emod_lt_of_pos _ h0) b1 ⟨_, _, _, e1⟩
end Kb
set_option Elab.async false
set_option linter.all false
set_option maxRecDepth 100000
set_option maxHeartbeats 4000000
namespace Kb
open PySem PySem.Spec PyProof.Rows L2
section
variable {K : PySem.W.Frag} {D : Ends} {σ : L2.St} {H : Hp} {tb : TS} {te ta : TE} {g : TG} {c : TT} {i j : Nat} {m n l : Int} {R : It → Hp → Prop}
/-- the body of a while, from a state that holds with the measure m -/
def PBody (W : Nat → L2.St → Hp → Prop) (m : Nat) (tb : TS) (D : Ends) (σ : L2.St) (H : Hp) : Prop := ∃ N : L2.St → Hp → Prop, (∀ σ' H', N σ' H' → ∃ m', m' < m ∧ W m' σ' H') ∧ tb { D with nx := N, ct := N, bk := D.nx } σ H
theorem r_while (W : Nat → L2.St → Hp → Prop) (m : Nat) (h0 : W m σ H)
    (hs : ∀ m σ H, W m σ H → c σ H fun b H1 => if b = true then PBody W m tb D σ H1 else D.nx σ H1) : tWhile c tb D σ H := ⟨W, ⟨m, h0⟩, hs⟩
theorem r_body {W : Nat → L2.St → Hp → Prop} {m : Nat} (h : tb { D with nx := fun σ' H' => ∃ m', m' < m ∧ W m' σ' H', ct := fun σ' H' => ∃ m', m' < m ∧ W m' σ' H', bk := D.nx } σ H) : PBody W m tb D σ H := ⟨_, fun _ _ h => h, h⟩
def PFor (J : It) (g : TG) (tb : TS) (D : Ends) (σ : L2.St) (H : Hp) : Prop := ∃ W : Nat → Nat → L2.St → Hp → Prop, (∃ m, W 0 m σ H) ∧ ∀ i m σ H, W i m σ H →
  (J.stop i H ∧ D.nx σ H) ∨ (J.go i H ∧ ∃ N : L2.St → Hp → Prop, (∀ σ' H', N σ' H' → ∃ m', m' < m ∧ W (i + 1) m' σ' H') ∧ ∀ x H', J.yld i H x H' → g x σ H' fun σ2 H2 => tb { D with nx := N, ct := N, bk := D.nx } σ2 H2)
theorem r_for {wi : TI} (h : wi σ H fun J H1 => PFor J g tb D σ H1) : tFor wi g tb D σ H := h
def PR1 (vs : List V) (R : It → Prop) : Prop := ∃ j : Int, vs = [.int j] ∧ -(2 ^ 62) ≤ j ∧ j < 2 ^ 62 ∧ R (Itr 0 j.toNat)
def PR2 (vs : List V) (R : It → Prop) : Prop := ∃ i j : Int, vs = [.int i, .int j] ∧ (-(2 ^ 62) ≤ i ∧ i < 2 ^ 62 ∧ -(2 ^ 62) ≤ j ∧ j < 2 ^ 62) ∧ R (Itr i (j - i).toNat)
def PR3 (vs : List V) (R : It → Prop) : Prop := ∃ (i j c : Int) (n : Nat), vs = [.int i, .int j, .int c] ∧ RgC i j c n ∧ R (Itc i c n)
theorem r_rng1 {ts : TA} (h : ts σ H fun vs H1 => PR1 vs fun J => R J H1) : iRng1 ts σ H R := h
theorem r_rng2 {ts : TA} (h : ts σ H fun vs H1 => PR2 vs fun J => R J H1) : iRng2 ts σ H R := h
theorem r_rng3 {ts : TA} (h : ts σ H fun vs H1 => PR3 vs fun J => R J H1) : iRng3 ts σ H R := h
theorem r_pr1 {R : It → Prop} (h : -(2 ^ 62) ≤ m ∧ m < 2 ^ 62) (q : R (Itr 0 m.toNat)) : PR1 [.int m] R := ⟨m, rfl, h.1, h.2, q⟩
theorem r_pr2 {R : It → Prop} (h : -(2 ^ 62) ≤ l ∧ l < 2 ^ 62 ∧ -(2 ^ 62) ≤ m ∧ m < 2 ^ 62) (q : R (Itr l (m - l).toNat)) : PR2 [.int l, .int m] R := ⟨l, m, rfl, h, q⟩
theorem r_pr3d {R : It → Prop} (h : -(2 ^ 62) ≤ l ∧ l < 2 ^ 62 ∧ -(2 ^ 62) ≤ m ∧ m < 2 ^ 62) (q : R (Itc l (-1) (l - m).toNat)) : PR3 [.int l, .int m, .int (-1)] R := ⟨l, m, -1, _, rfl, RgC.neg h.1 h.2.1 h.2.2.1 h.2.2.2, q⟩
theorem r_forRange {lo : Int} {n : Nat} (Pv : Nat → L2.St → Hp → Prop) (h0 : Pv 0 σ H)
    (hs : ∀ i σ' H', i < n → Pv i σ' H' → tb { D with nx := Pv (i + 1), ct := Pv (i + 1), bk := D.nx } (σ'.set j (some (.int (lo + (i : Int))))) H')
    (hd : ∀ σ' H', Pv n σ' H' → D.nx σ' H') : PFor (Itr lo n) (gName j) tb D σ H := for_range Pv h0 hs hd
theorem r_forRange0 {n : Nat} (Pv : Nat → L2.St → Hp → Prop) (h0 : Pv 0 σ H)
    (hs : ∀ i σ' H', i < n → Pv i σ' H' → tb { D with nx := Pv (i + 1), ct := Pv (i + 1), bk := D.nx } (σ'.set j (some (.int (i : Int)))) H')
    (hd : ∀ σ' H', Pv n σ' H' → D.nx σ' H') : PFor (Itr 0 n) (gName j) tb D σ H := for_range Pv h0 (fun i σ' H' hi p => by
      show tb _ (σ'.set j (some (.int ((0 : Int) + (i : Int))))) H'
      rw [Int.zero_add]
      exact hs i σ' H' hi p) hd
def PSeqT (K : PySem.W.Frag) (x : V) (H : Hp) (R : It → Hp → Prop) : Prop := ∃ a, x = .ref a ∧ (∃ xs, SqT K H a xs) ∧ R (Itt K a) H
def PSeqL (K : PySem.W.Frag) (x : V) (H : Hp) (R : It → Hp → Prop) : Prop := ∃ a, x = .ref a ∧ (∃ xs, SqL K H a xs) ∧ R (Itl K a) H
def PSeqS (x : V) (H : Hp) (R : It → Hp → Prop) : Prop := ∃ z, x = .str z ∧ R (Its z) H
theorem r_seqT (h : te σ H fun x H1 => PSeqT K x H1 R) : iSeqU K te σ H R := .inr (.inl h)
theorem r_seqL (h : te σ H fun x H1 => PSeqL K x H1 R) : iSeqU K te σ H R := .inl h
theorem r_seqS (h : te σ H fun x H1 => PSeqS x H1 R) : iSeqU K te σ H R := .inr (.inr h)
theorem r_pseqT {a : Addr} {xs : List V} (h : SqT K H a xs) (q : R (Itt K a) H) : PSeqT K (.ref a) H R := ⟨a, rfl, ⟨xs, h⟩, q⟩
theorem r_pseqL {a : Addr} {xs : List V} (h : SqL K H a xs) (q : R (Itl K a) H) : PSeqL K (.ref a) H R := ⟨a, rfl, ⟨xs, h⟩, q⟩
theorem r_pseqS {z : Str} (q : R (Its z) H) : PSeqS (.str z) H R := ⟨z, rfl, q⟩
theorem r_forTup {a : Addr} {xs : List V} (Pv : Nat → L2.St → Hp → Prop) (h0 : Pv 0 σ H) (hl : ∀ i σ' H', i ≤ xs.length → Pv i σ' H' → SqT K H' a xs)
    (hs : ∀ i x σ' H', xs[i]? = some x → Pv i σ' H' → g x σ' H' fun σ2 H2 => tb { D with nx := Pv (i + 1), ct := Pv (i + 1), bk := D.nx } σ2 H2)
    (hd : ∀ σ' H', Pv xs.length σ' H' → D.nx σ' H') : PFor (Itt K a) g tb D σ H := for_tup Pv h0 hl hs hd
def PLc (J : It) (g : TG) (tt : TT) (te : TE) (vs : List Nat) (σ : L2.St) (H1 : Hp) (Q : VK) : Prop := ∀ D, H1 D = none → ∃ W : Nat → Nat → Hp → Prop, (∃ m, W 0 m (upd H1 D (.lst []))) ∧ ∀ i m H, W i m H →
  (J.stop i H ∧ Q (.ref D) H) ∨ (J.go i H ∧ ∃ Nx : Hp → Prop, (∀ H', Nx H' → ∃ m', m' < m ∧ W (i + 1) m' H') ∧ ∀ x H', J.yld i H x H' → g x (wipe σ vs) H' fun σ2 H2 => wipe σ2 vs = wipe σ vs ∧ tt σ2 H2 fun b H3 =>
    if b = true then te σ2 H3 fun y H4 => ∃ acc, H4 D = some (.lst acc) ∧ acc.length < sizeLine ∧ Nx (upd H4 D (.lst (acc ++ [y]))) else Nx H3)
theorem r_lc {wi : TI} {tt : TT} {vs : List Nat} {Q : VK} (h : wi σ H fun J H1 => PLc J g tt te vs σ H1 Q) : tLc wi g tt te vs σ H Q := h
theorem r_yes {QB : Bool → Hp → Prop} (q : QB true H) : tYes σ H QB := q
/-- the made item goes into the list at D -/
def PAcc (D : Addr) (Nx : Hp → Prop) (y : V) (H : Hp) : Prop := ∃ acc, H D = some (.lst acc) ∧ acc.length < sizeLine ∧ Nx (upd H D (.lst (acc ++ [y])))
theorem r_acc {D : Addr} {Nx : Hp → Prop} {y : V} {acc : List V} (h : H D = some (.lst acc)) (hz : acc.length ≤ 1000000) (k : ∀ H', But D H H' → H' D = some (.lst (acc ++ [y])) → Nx H') : PAcc D Nx y H :=
  ⟨acc, h, by rw [sizeLine_eq]; omega, k _ but_upd upd_same⟩
/-- over a tuple: Pv tells the new list's place, the turn, the heap -/
theorem r_lcT {a : Addr} {xs : List V} {Q : VK} {tt : TT} {vs : List Nat} (Pv : Addr → Nat → Hp → Prop) (hw : ∀ x, wipe ((wipe σ vs).set j (some x)) vs = wipe σ vs)
    (h0 : ∀ D H', H D = none → Same H H' → H' D = some (.lst []) → Pv D 0 H') (hl : ∀ D i H', Pv D i H' → SqT K H' a xs)
    (hs : ∀ D i x H', xs[i]? = some x → Pv D i H' → tt ((wipe σ vs).set j (some x)) H' fun b H3 => if b = true then te ((wipe σ vs).set j (some x)) H3 (fun y H4 => PAcc D (Pv D (i + 1)) y H4) else Pv D (i + 1) H3)
    (hd : ∀ D H', H D = none → Pv D xs.length H' → Q (.ref D) H') : PLc (Itt K a) (gName j) tt te vs σ H Q := by
  intro D hD
  exact lc_tup (xs := xs) (Pv D) (h0 D _ hD (same_new hD) upd_same) (fun i H' _ p => hl D i H' p) (fun i x H' hi p => ⟨hw x, hs D i x H' hi p⟩) (fun H' p => hd D H' hD p)
theorem r_lcR {lo : Int} {n : Nat} {Q : VK} {tt : TT} {vs : List Nat} (Pv : Addr → Nat → Hp → Prop) (hw : ∀ x, wipe ((wipe σ vs).set j (some x)) vs = wipe σ vs)
    (h0 : ∀ D H', H D = none → Same H H' → H' D = some (.lst []) → Pv D 0 H')
    (hs : ∀ D i H', i < n → Pv D i H' → tt ((wipe σ vs).set j (some (.int (lo + (i : Int))))) H' fun b H3 => if b = true then te ((wipe σ vs).set j (some (.int (lo + (i : Int))))) H3 (fun y H4 => PAcc D (Pv D (i + 1)) y H4) else Pv D (i + 1) H3)
    (hd : ∀ D H', H D = none → Pv D n H' → Q (.ref D) H') : PLc (Itr lo n) (gName j) tt te vs σ H Q := by
  intro D hD
  exact lc_range (Pv D) (h0 D _ hD (same_new hD) upd_same) (fun i H' hi p => ⟨hw _, hs D i H' hi p⟩) (fun H' p => hd D H' hD p)
end
end Kb
set_option Elab.async false
set_option linter.all false
set_option maxRecDepth 100000
set_option maxHeartbeats 4000000
namespace Kb
open PySem PySem.Spec PyProof.Rows L2
inductive Dat where | int (i : Int) | bl (b : Bool) | str (s : Str) | non | tup (ds : List Dat)
mutual
def Dat.size : Dat → Nat
  | .tup ds => 1 + Dat.sizes ds
  | _ => 1
def Dat.sizes : List Dat → Nat
  | [] => 0
  | d :: ds => d.size + Dat.sizes ds
end
theorem Dat.size_pos : ∀ d : Dat, 0 < d.size
  | .int _ => by simp [Dat.size]
  | .bl _ => by simp [Dat.size]
  | .str _ => by simp [Dat.size]
  | .non => by simp [Dat.size]
  | .tup _ => by simp [Dat.size]; omega
mutual
inductive Rp (K : PySem.W.Frag) (H : Hp) : V → Dat → Prop
  | int (i : Int) : Rp K H (.int i) (.int i)
  | bl (b : Bool) : Rp K H (.bl b) (.bl b)
  | str (s : Str) : Rp K H (.str s) (.str s)
  | non : Rp K H .non .non
  | tup {a : Addr} {xs : List V} {ds : List Dat} : SqT K H a xs → RpL K H xs ds → Rp K H (.ref a) (.tup ds)
inductive RpL (K : PySem.W.Frag) (H : Hp) : List V → List Dat → Prop
  | nil : RpL K H [] []
  | cons {v : V} {vs : List V} {d : Dat} {ds : List Dat} : Rp K H v d → RpL K H vs ds → RpL K H (v :: vs) (d :: ds)
end
section
variable {K : PySem.W.Frag} {H H' : Hp} {l : Addr} {ys : List V}
/-- tuples stay -/
def TK (K : PySem.W.Frag) (H H' : Hp) : Prop := ∀ a xs, SqT K H a xs → SqT K H' a xs
theorem tk_same (s : Same H H') : TK K H H' := fun _ _ h => sqT_same s h
theorem tk_but (b : But l H H') (hl : H l = some (.lst ys)) : TK K H H' := fun _ _ h => sqT_but b hl h
mutual
theorem rp_keep (k : TK K H H') : ∀ {v : V} {d : Dat}, Rp K H v d → Rp K H' v d
  | _, _, .int i => .int i
  | _, _, .bl b => .bl b
  | _, _, .str s => .str s
  | _, _, .non => .non
  | _, _, .tup h hr => .tup (k _ _ h) (rpL_keep k hr)
theorem rpL_keep (k : TK K H H') : ∀ {vs : List V} {ds : List Dat}, RpL K H vs ds → RpL K H' vs ds
  | _, _, .nil => .nil
  | _, _, .cons h hr => .cons (rp_keep k h) (rpL_keep k hr)
end
theorem rp_same {v : V} {d : Dat} (s : Same H H') (h : Rp K H v d) : Rp K H' v d := rp_keep (tk_same s) h
theorem rp_but {v : V} {d : Dat} (b : But l H H') (hl : H l = some (.lst ys)) (h : Rp K H v d) : Rp K H' v d := rp_keep (tk_but b hl) h
theorem rpL_length : ∀ {vs : List V} {ds : List Dat}, RpL K H vs ds → vs.length = ds.length
  | _, _, .nil => rfl
  | _, _, .cons _ hr => by simp [rpL_length hr]
theorem rpL_get : ∀ {vs : List V} {ds : List Dat} {i : Nat} {d : Dat}, RpL K H vs ds → ds[i]? = some d → ∃ v, vs[i]? = some v ∧ Rp K H v d
  | _, _, _, _, .nil, e => by simp at e
  | _, _, 0, _, .cons h _, e => by simp at e; subst e; exact ⟨_, rfl, h⟩
  | _, _, i + 1, _, .cons _ hr, e => by
    obtain ⟨v, h1, h2⟩ := rpL_get (i := i) hr (by simpa using e)
    exact ⟨v, by simpa using h1, h2⟩
theorem rpL_ints (ns : List Int) : RpL K H (ns.map V.int) (ns.map Dat.int) := by
  induction ns with
  | nil => exact .nil
  | cons n ns ih => exact .cons (.int n) ih
theorem rp_ints {a : Addr} {ns : List Int} (h : SqT K H a (ns.map V.int)) : Rp K H (.ref a) (.tup (ns.map Dat.int)) := .tup h (rpL_ints ns)
end
section
variable {K : PySem.W.Frag} {H : Hp} {Q : VK}
theorem r_isiT {a : Addr} {xs : List V} {b : Bool} {T : String} (h : SqT K H a xs) (hb : kitB "tuple" T = some b) (q : Q (.bl b) H) : rIsi K [.ref a, .ty T] H Q := by
  refine ⟨.ref a, .ty T, .type "tuple", .type T, b, rfl, .ty T, ?_, kit_ty hb, q⟩
  rcases h with (h | ⟨o, h⟩) | h
  · exact .base (.tup h)
  · exact .fTuple h
  · obtain ⟨o, its, n, h1, h2, _⟩ := h
    exact .kTuple h1 h2
theorem r_isiI {i : Int} {b : Bool} {T : String} (hb : kitB "int" T = some b) (q : Q (.bl b) H) : rIsi K [.int i, .ty T] H Q := ⟨_, _, _, _, b, rfl, .ty T, .base (.int i), kit_ty hb, q⟩
theorem r_isiB {i : Bool} {b : Bool} {T : String} (hb : kitB "bool" T = some b) (q : Q (.bl b) H) : rIsi K [.bl i, .ty T] H Q := ⟨_, _, _, _, b, rfl, .ty T, .base (.bl i), kit_ty hb, q⟩
theorem r_isiS {i : Str} {b : Bool} {T : String} (hb : kitB "str" T = some b) (q : Q (.bl b) H) : rIsi K [.str i, .ty T] H Q := ⟨_, _, _, _, b, rfl, .ty T, .base (.str i), kit_ty hb, q⟩
theorem r_isiN {b : Bool} {T : String} (hb : kitB "NoneType" T = some b) (q : Q (.bl b) H) : rIsi K [.non, .ty T] H Q := ⟨_, _, _, _, b, rfl, .ty T, .base .non, kit_ty hb, q⟩
end
local macro_rules | `(tactic| walk_at "tk") => `(tactic| first
  | assumption
  | ((with_reducible refine' sqT_of ?k); (case k => assumption))
  | ((with_reducible refine' sqT_ofD ?k); (case k => assumption))
  | ((with_reducible refine' noD_of ?k); (case k => assumption))
  | ((with_reducible refine' noD_same ?s ?k); (case s => assumption); (case k => walk_at "tk"))
  | ((with_reducible refine' sqL_of ?k); (case k => assumption))
  | ((with_reducible refine' sqT_same ?s ?k); (case s => assumption); (case k => walk_at "tk"))
  | ((with_reducible refine' sqL_same ?s ?k); (case s => assumption); (case k => walk_at "tk"))
  | ((with_reducible refine' sqT_but ?s ?t ?k); (case s => assumption); (case t => walk_at "tk"); (case k => walk_at "tk"))
  | ((with_reducible refine' sqL_but ?s ?t ?k); (case s => assumption); (case t => walk_at "ne"); (case k => walk_at "tk"))
  | ((with_reducible refine' sqL_of ?k); (case k => walk_at "tk"))
  | ((with_reducible refine' sqT_of ?k); (case k => walk_at "tk"))
  | ((with_reducible refine' at_same ?s ?k); (case s => assumption); (case k => walk_at "tk"))
  | ((with_reducible refine' at_but ?s ?t ?k); (case s => assumption); (case t => walk_at "ne"); (case k => walk_at "tk")))
local macro_rules | `(tactic| walk_at "ne") => `(tactic| first
  | assumption
  | (refine Ne.symm ?_; assumption)
  | exact ne_of_none (by assumption) (by assumption)
  | exact (ne_of_none (by assumption) (by assumption)).symm)
local macro_rules | `(tactic| walk_at "side") => `(tactic| first
  | assumption
  | omega
  | (simp only [sizeLine_eq, List.length_cons, List.length_nil, List.length_map]; omega)
  | (show _ ≤ sizeLine; decide))
local macro_rules | `(tactic| walk_at "kit") => `(tactic| first
  | (show kitB _ _ = some true; decide +kernel)
  | (show kitB _ _ = some false; decide +kernel))
local macro_rules | `(tactic| walk_at "rng") => `(tactic| first
  | (refine ⟨by omega, by omega, by omega, by omega⟩)
  | (refine ⟨by omega, by omega⟩)
  | ((simp only [List.length_map]); (refine ⟨by omega, by omega, by omega, by omega⟩))
  | ((simp only [List.length_map]); (refine ⟨by omega, by omega⟩)))
local macro_rules | `(tactic| walk_at "rd1") => `(tactic| first
  | with_reducible refine r_seq ?_
  | ((with_reducible refine' r_var ?k0 ?_); (case k0 => rfl))
  | with_reducible refine r_op ?_
  | with_reducible refine r_c ?_
  | with_reducible refine r_asg ?_
  | with_reducible refine r_name ?_
  | with_reducible refine r_cons ?_
  | with_reducible refine r_nil ?_
  | with_reducible refine r_CB ?_
  | with_reducible refine r_if ?_
  | with_reducible refine r_test ?_
  | with_reducible refine r_k ?_
  | with_reducible refine r_T ?_
  | with_reducible refine r_F ?_
  | with_reducible refine r_nT ?_
  | with_reducible refine r_nF ?_
  | with_reducible refine r_ret ?_
  | with_reducible refine r_drop ?_
  | with_reducible refine r_next ?_
  | with_reducible refine r_call ?_
  | with_reducible refine r_addI ?_
  | with_reducible refine r_subI ?_
  | with_reducible refine r_ltI ?_
  | with_reducible refine r_gtI ?_
  | with_reducible refine r_leI ?_
  | with_reducible refine r_geI ?_
  | with_reducible refine r_eqI ?_
  | with_reducible refine r_neI ?_
  | with_reducible refine r_int ?_
  | with_reducible refine r_abs ?_
  | with_reducible refine r_not ?_
  | with_reducible refine r_and ?_
  | with_reducible refine r_or ?_
  | with_reducible refine r_tru ?_
  | with_reducible refine r_truB ?_
  | with_reducible refine r_lst ?_
  | with_reducible refine r_tup ?_
  | with_reducible refine r_BM ?_
  | with_reducible refine r_BM0 ?_
  | with_reducible refine r_tyS ?_
  | with_reducible refine r_gsub ?_
  | with_reducible refine r_then ?_
  | with_reducible refine r_lstRg ?_
  | with_reducible refine r_tupRg ?_
  | with_reducible refine r_rg2 ?_
  | with_reducible refine r_rg1 ?_
  | with_reducible refine r_ii ?_
  | with_reducible refine r_i ?_
  | with_reducible refine r_ipI ?_
  | with_reducible refine r_un ?_
  | with_reducible refine r_neg ?_
  | with_reducible refine r_isN ?_
  | with_reducible refine r_notN ?_
  | with_reducible refine r_notV ?_
  | with_reducible refine r_pnot ?_
  | with_reducible refine r_pif ?_
  | with_reducible refine r_andV ?_
  | with_reducible refine r_orV ?_
  | with_reducible refine r_ifE ?_
  | with_reducible refine r_chain ?_
  | with_reducible refine r_sl ?_
  | with_reducible refine r_noPart ?_
  | with_reducible refine r_part ?_
  | with_reducible refine r_brk ?_
  | with_reducible refine r_cont ?_
  | with_reducible refine r_retN ?_
  | with_reducible refine r_truI ?_
  | with_reducible refine r_B ?_
  | with_reducible refine r_for ?_
  | with_reducible refine r_rng1 ?_
  | with_reducible refine r_rng2 ?_
  | with_reducible refine r_rng3 ?_
  | with_reducible refine r_body ?_
  | with_reducible refine r_lc ?_
  | with_reducible refine r_yes ?_
  | ((with_reducible refine' r_mod ?k0 ?_); (case k0 => walk_at "side"))
  | ((with_reducible refine' r_mulI ?k0 ?_); (case k0 => first | exact Or.inl ⟨by omega, by omega⟩ | exact Or.inr ⟨by omega, by omega⟩))
  | ((with_reducible refine' r_lenL ?k0 ?_); (case k0 => walk_at "tk"))
  | ((with_reducible refine' r_lenT ?k0 ?_); (case k0 => walk_at "tk"))
  | ((with_reducible refine' r_truL ?k0 ?_); (case k0 => walk_at "tk"))
  | ((with_reducible refine' r_truT ?k0 ?_); (case k0 => walk_at "tk"))
  | ((with_reducible refine' r_ixL ?k0 ?k1 ?_); (case k0 => walk_at "tk"); (case k1 => first | assumption | rfl))
  | ((with_reducible refine' r_ixT ?k0 ?k1 ?_); (case k0 => walk_at "tk"); (case k1 => first | assumption | rfl))
  | ((with_reducible refine' r_new ?k0 ?_); (case k0 => walk_at "side"))
  | ((with_reducible refine' r_tyL ?k0 ?_); (case k0 => walk_at "tk"))
  | ((with_reducible refine' r_append ?k0 ?k1 ?_); (case k0 => walk_at "tk"); (case k1 => walk_at "side"))
  | ((with_reducible refine' r_setL ?k0 ?k1 ?_); (case k0 => walk_at "tk"); (case k1 => first | assumption | rfl))
  | ((with_reducible refine' r_kTupL ?k0 ?_); (case k0 => walk_at "tk"))
  | ((with_reducible refine' r_kTupT ?k0 ?_); (case k0 => walk_at "tk"))
  | ((with_reducible refine' r_listL ?k0 ?_); (case k0 => walk_at "tk"))
  | ((with_reducible refine' r_listT ?k0 ?_); (case k0 => walk_at "tk"))
  | ((with_reducible refine' r_aug ?k0 ?_); (case k0 => rfl))
  | ((with_reducible refine' r_lenS ?k0 ?_); (case k0 => walk_at "side"))
  | ((with_reducible refine' r_pop ?k0 ?_); (case k0 => walk_at "tk"))
  | ((with_reducible refine' r_pr1 ?k0 ?_); (case k0 => walk_at "rng"))
  | ((with_reducible refine' r_pr2 ?k0 ?_); (case k0 => walk_at "rng"))
  | ((with_reducible refine' r_pr3d ?k0 ?_); (case k0 => walk_at "rng"))
  | ((with_reducible refine' r_isiI ?k0 ?_); (case k0 => walk_at "kit"))
  | ((with_reducible refine' r_isiB ?k0 ?_); (case k0 => walk_at "kit"))
  | ((with_reducible refine' r_isiS ?k0 ?_); (case k0 => walk_at "kit"))
  | ((with_reducible refine' r_isiN ?k0 ?_); (case k0 => walk_at "kit"))
  | ((with_reducible refine' r_isiT ?k0 ?k1 ?_); (case k0 => walk_at "tk"); (case k1 => walk_at "kit"))
  | ((with_reducible refine r_seqT ?_); (repeat (walk_at "rd1")); ((with_reducible refine' r_pseqT ?k0 ?_); (case k0 => walk_at "tk")))
  | ((with_reducible refine r_seqL ?_); (repeat (walk_at "rd1")); ((with_reducible refine' r_pseqL ?k0 ?_); (case k0 => walk_at "tk")))
  | ((with_reducible refine r_seqS ?_); (repeat (walk_at "rd1")); (with_reducible refine r_pseqS ?_)))
local macro_rules | `(tactic| walk_at "rd") => `(tactic| ((repeat (walk_at "rd1")); (try dsimp only)))
def sp_law_same (K : PySem.W.Frag) : Sp := fun vs H Q _ => ∃ (x y : V) (d : Dat), vs = [x, y] ∧ Rp K H x d ∧ Rp K H y d ∧ d.size ≤ 1000000 ∧ ∀ H', Same H H' → Q (.bl true) H'
abbrev N_law_same : List Str := ["got", "due", "stack", "pair", "k"]
def t_law_same (K : PySem.W.Frag) : TS :=
  tSeq (tAsg ((tLst (tCons ((tLst (tCons (tVar 0) (tCons (tVar 1) tNil)))) tNil))) (gName 2))
  (tSeq (tWhile ((tTru K (tVar 2))) (tSeq (tAsg ((tBM0 K "list" rPop (tVar 2))) (gName 3))
  ((tIfS ((tTru K ((tCB (rIsi K) (tCons ((tOp (rIx K) (tVar 3) ((tC (.int 1))))) (tCons ((tC (.ty "tuple"))) tNil)))))) (tSeq (tIfS ((tOr ((tNot ((tTru K ((tCB (rIsi K) (tCons ((tOp (rIx K) (tVar 3) ((tC (.int 0))))) (tCons ((tC (.ty "tuple"))) tNil)))))))) ((tTest (tOp (rNeU K) ((tCB (rLenU K) (tCons ((tOp (rIx K) (tVar 3) ((tC (.int 0))))) tNil))) ((tCB (rLenU K) (tCons ((tOp (rIx K) (tVar 3) ((tC (.int 1))))) tNil)))))))) ((tRet ((tC (.bl false))))) (tNext))
  ((tFor (iRng1 (tCons ((tCB (rLenU K) (tCons ((tOp (rIx K) (tVar 3) ((tC (.int 1))))) tNil))) tNil)) (gName 4) ((tDrop ((tBM K "list" rAppend (tVar 2) (tCons ((tLst (tCons ((tOp (rIx K) ((tOp (rIx K) (tVar 3) ((tC (.int 0))))) (tVar 4))) (tCons ((tOp (rIx K) ((tOp (rIx K) (tVar 3) ((tC (.int 1))))) (tVar 4))) tNil)))) tNil)))))))) ((tIfS ((tTru K ((tCB (rIsi K) (tCons ((tOp (rIx K) (tVar 3) ((tC (.int 1))))) (tCons ((tC (.ty "bool"))) tNil)))))) ((tIfS ((tOr ((tNot ((tTru K ((tCB (rIsi K) (tCons ((tOp (rIx K) (tVar 3) ((tC (.int 0))))) (tCons ((tC (.ty "bool"))) tNil)))))))) ((tTest (tOp (rNeU K) ((tOp (rIx K) (tVar 3) ((tC (.int 0))))) ((tOp (rIx K) (tVar 3) ((tC (.int 1)))))))))) ((tRet ((tC (.bl false))))) (tNext))) ((tIfS ((tTru K ((tCB (rIsi K) (tCons ((tOp (rIx K) (tVar 3) ((tC (.int 1))))) (tCons ((tC (.ty "int"))) tNil)))))) ((tIfS ((tOr ((tNot ((tTru K ((tCB (rIsi K) (tCons ((tOp (rIx K) (tVar 3) ((tC (.int 0))))) (tCons ((tC (.ty "int"))) tNil)))))))) ((tOr ((tTru K ((tCB (rIsi K) (tCons ((tOp (rIx K) (tVar 3) ((tC (.int 0))))) (tCons ((tC (.ty "bool"))) tNil)))))) ((tTest (tOp (rNeU K) ((tOp (rIx K) (tVar 3) ((tC (.int 0))))) ((tOp (rIx K) (tVar 3) ((tC (.int 1)))))))))))) ((tRet ((tC (.bl false))))) (tNext))) ((tIfS ((tTru K ((tCB (rIsi K) (tCons ((tOp (rIx K) (tVar 3) ((tC (.int 1))))) (tCons ((tC (.ty "str"))) tNil)))))) ((tIfS ((tOr ((tNot ((tTru K ((tCB (rIsi K) (tCons ((tOp (rIx K) (tVar 3) ((tC (.int 0))))) (tCons ((tC (.ty "str"))) tNil)))))))) ((tTest (tOp (rNeU K) ((tOp (rIx K) (tVar 3) ((tC (.int 0))))) ((tOp (rIx K) (tVar 3) ((tC (.int 1)))))))))) ((tRet ((tC (.bl false))))) (tNext))) ((tIfS ((tTest (tOp rNotNU ((tOp (rIx K) (tVar 3) ((tC (.int 0))))) ((tC .non))))) ((tRet ((tC (.bl false))))) (tNext)))))))))))))
  ((tRet ((tC (.bl true))))))
theorem len_law_same {K : PySem.W.Frag} {vs : List V} {H : Hp} {Q : VK} {E : XK} (h : sp_law_same K vs H Q E) : vs.length = 2 := by
  obtain ⟨x, y, d, rfl, _⟩ := h; rfl
theorem r_neSame {K : PySem.W.Frag} {x : V} {H : Hp} {Q : VK} (h : scal x x = true) (q : Q (.bl false) H) : rNeU K x x H Q := .inl ⟨h, by rw [decide_eq_true rfl]; exact q⟩
structure Item where
  q : Addr
  x : V
  y : V
  d : Dat
def Items (K : PySem.W.Frag) (H : Hp) (s : Addr) (its : List Item) : Prop := ∀ it ∈ its, it.q ≠ s ∧ H it.q = some (.lst [it.x, it.y]) ∧ Rp K H it.x it.d ∧ Rp K H it.y it.d
theorem Items.same {K : PySem.W.Frag} {H H' : Hp} {s : Addr} {its : List Item} (h : Items K H s its) (e : Same H H') : Items K H' s its := fun it hi =>
  let ⟨a, b, c, d⟩ := h it hi
  ⟨a, e _ _ b, rp_same e c, rp_same e d⟩
theorem Items.but {K : PySem.W.Frag} {H H' : Hp} {s : Addr} {its : List Item} {ys : List V} (h : Items K H s its) (e : But s H H') (hs : H s = some (.lst ys)) : Items K H' s its := fun it hi =>
  let ⟨a, b, c, d⟩ := h it hi
  ⟨a, e _ _ a b, rp_but e hs c, rp_but e hs d⟩
def total (its : List Item) : Nat := (its.map fun it => it.d.size).sum
def refs (its : List Item) : List V := its.map fun it => .ref it.q
theorem total_append (a b : List Item) : total (a ++ b) = total a + total b := by simp [total]
theorem refs_append (a b : List Item) : refs (a ++ b) = refs a ++ refs b := by simp [refs]
theorem length_le_total : ∀ its : List Item, its.length ≤ total its
  | [] => Nat.le_refl _
  | it :: r => by
    have h1 := length_le_total r
    have h2 := it.d.size_pos
    show r.length + 1 ≤ total ([it] ++ r)
    rw [total_append]
    simp [total] at *
    omega
theorem sizes_take : ∀ (ds : List Dat) (i : Nat) (d : Dat), ds[i]? = some d → Dat.sizes (ds.take (i + 1)) = Dat.sizes (ds.take i) + d.size
  | [], _, _, h => by simp at h
  | e :: r, 0, d, h => by simp at h; subst h; simp [Dat.sizes]
  | e :: r, i + 1, d, h => by
    have := sizes_take r i d (by simpa using h)
    simp only [List.take_succ_cons, Dat.sizes, this]
    omega
theorem sizes_take_le : ∀ (ds : List Dat) (i : Nat), Dat.sizes (ds.take i) ≤ Dat.sizes ds
  | [], i => by simp [Dat.sizes]
  | e :: r, 0 => by simp [Dat.sizes]
  | e :: r, i + 1 => by
    have := sizes_take_le r i
    simp only [List.take_succ_cons, Dat.sizes]
    omega
theorem len_sizes : ∀ (ds : List Dat), ds.length ≤ Dat.sizes ds
  | [] => by simp [Dat.sizes]
  | e :: r => by
    have := len_sizes r
    have := e.size_pos
    simp only [List.length_cons, Dat.sizes]
    omega
theorem pure_law_same {K : PySem.W.Frag} {vs : List V} {H : Hp} {Q : VK} {E : XK} (h : sp_law_same K vs H Q E) : t_law_same K (En Q) (start N_law_same vs) H := by
  obtain ⟨x0, y0, d0, rfl, hx0, hy0, hd0, q⟩ := h
  unfold t_law_same
  walk_at "rd"
  intro p1 H1 np1 s1 e1
  walk_at "rd"
  intro st H2 nst s2 e2
  walk_at "rd"
  have hne : p1 ≠ st := ne_of_none e1 nst
  refine r_while (fun m σ H' => ∃ (its : List Item) (z3 z4 : Option V), σ = [some x0, some y0, some (.ref st), z3, z4] ∧ Same H H' ∧ H st = none ∧ H' st = some (.lst (refs its)) ∧ Items K H' st its ∧ m = total its ∧ m ≤ 1000000) d0.size
    ⟨[⟨p1, x0, y0, d0⟩], none, none, rfl, s1.trans s2, s1.free nst, e2, ?_, ?_, hd0⟩ (fun m σ H' hW => ?_)
  · intro it hi
    rw [List.mem_singleton] at hi
    subst hi
    exact ⟨hne, s2 _ _ e1, rp_same (s1.trans s2) hx0, rp_same (s1.trans s2) hy0⟩
  · simp [total]
  obtain ⟨its, z3, z4, rfl, s3, nst0, e3, hI, rfl, hm⟩ := hW
  walk_at "rd"
  rcases List.eq_nil_or_concat its with rfl | ⟨rest, it, rfl⟩
  · -- the stack is empty
    refine r_F ?_
    walk_at "rd"
    exact q _ s3
  · rw [List.concat_eq_append] at *
    have hb : (!(refs (rest ++ [it])).isEmpty) = true := by rw [refs_append]; simp [refs]
    rw [if_pos hb]
    have e3' : H' st = some (.lst (refs rest ++ [.ref it.q])) := by rw [e3, refs_append]; rfl
    obtain ⟨hq, eq, hx, hy⟩ := hI it (by simp)
    have hR : Items K H' st rest := fun i hi => hI i (by simp [hi])
    obtain ⟨q0, x, y, d⟩ := it
    dsimp only at hq eq hx hy e3'
    have ht : total (rest ++ [⟨q0, x, y, d⟩]) = total rest + d.size := by rw [total_append]; simp [total]
    rw [ht] at hm ⊢
    walk_at "rd"
    intro H4 b4 e4
    have eq4 : H4 q0 = some (.lst [x, y]) := b4 _ _ hq eq
    have hx4 := rp_but b4 e3' hx
    have hy4 := rp_but b4 e3' hy
    have hR4 := hR.but b4 e3'
    have s4 : Same H H4 := same_but s3 b4 nst0
    have dp := d.size_pos
    have fin : ∃ m', m' < total rest + d.size ∧ ∃ (its : List Item) (y3 y4 : Option V), ([some x0, some y0, some (.ref st), some (.ref q0), z4] : L2.St) = [some x0, some y0, some (.ref st), y3, y4] ∧ Same H H4 ∧ H st = none ∧ H4 st = some (.lst (refs its)) ∧ Items K H4 st its ∧ m' = total its ∧ m' ≤ 1000000 :=
      ⟨total rest, by omega, rest, _, _, rfl, s4, nst0, e4, hR4, rfl, by omega⟩
    walk_at "rd"
    cases hy4 with
    | @tup b ys ds hbt hrb =>
      cases hx4 with
      | @tup a xs _ ha hra =>
        have lx := rpL_length hra
        have ly := rpL_length hrb
        walk_at "rd"
        rw [lx, ly]
        refine r_iteNP rfl ?_
        walk_at "rd"
        have hl := len_sizes ds
        have hs : (Dat.tup ds).size = 1 + Dat.sizes ds := by simp [Dat.size]
        refine r_pr1 ⟨by omega, by omega⟩ ?_
        rw [Int.toNat_natCast, ly]
        refine r_forRange0 (fun i σ' H' => ∃ (its : List Item) (z : Option V), σ' = [some x0, some y0, some (.ref st), some (.ref q0), z] ∧ Same H H' ∧ H' st = some (.lst (refs its)) ∧ Items K H' st its ∧ total its = total rest + Dat.sizes (ds.take i) ∧
          H' q0 = some (.lst [.ref a, .ref b]) ∧ SqT K H' a xs ∧ SqT K H' b ys ∧ RpL K H' xs ds ∧ RpL K H' ys ds)
          ⟨rest, _, rfl, s4, e4, hR4, by simp [Dat.sizes], eq4, ha, hbt, hra, hrb⟩ (fun i σ' H5 hi hP => ?_) (fun σ' H5 hP => ?_)
        · obtain ⟨its, z, rfl, s5, e5, hI5, ht5, eq5, ha5, hb5, hra5, hrb5⟩ := hP
          have hd : ds[i]? = some ds[i] := List.getElem?_eq_getElem hi
          obtain ⟨vx, gx, rx⟩ := rpL_get hra5 hd
          obtain ⟨vy, gy, ry⟩ := rpL_get hrb5 hd
          have gx' := atI_nat gx
          have gy' := atI_nat gy
          walk_at "rd"
          intro p H6 np s6 e6
          have hpq : p ≠ st := (ne_of_none e5 np).symm
          have e56 := s6 _ _ e5
          have hle : Dat.sizes (ds.take (i + 1)) ≤ Dat.sizes ds := sizes_take_le ds _
          have h1 := sizes_take ds i _ hd
          have h2 := (ds[i]).size_pos
          have hz : (refs its).length ≤ total its := by rw [show (refs its).length = its.length by simp [refs]]; exact length_le_total its
          walk_at "rd"
          intro H7 b7 e7
          walk_at "rd"
          refine ⟨its ++ [⟨p, vx, vy, ds[i]⟩], _, rfl, same_but (s5.trans s6) b7 nst0, by rw [e7, refs_append]; rfl, ?_, ?_, b7 _ _ hq (s6 _ _ eq5), sqT_but b7 e56 (sqT_same s6 ha5), sqT_but b7 e56 (sqT_same s6 hb5), rpL_keep (tk_but b7 e56) (rpL_keep (tk_same s6) hra5), rpL_keep (tk_but b7 e56) (rpL_keep (tk_same s6) hrb5)⟩
          · intro it hit
            rcases List.mem_append.mp hit with hit | hit
            · exact ((hI5.same s6).but b7 e56) it hit
            · rw [List.mem_singleton] at hit
              subst hit
              exact ⟨hpq, b7 _ _ hpq e6, rp_but b7 e56 (rp_same s6 rx), rp_but b7 e56 (rp_same s6 ry)⟩
          · rw [total_append, ht5, h1]
            simp [total]
            omega
        · obtain ⟨its, z, rfl, s5, e5, hI5, ht5, eq5, ha5, hb5, hra5, hrb5⟩ := hP
          rw [List.take_length] at ht5
          exact ⟨total its, by omega, its, _, _, rfl, s5, nst0, e5, hI5, rfl, by omega⟩
    | bl c =>
      cases hx4 with
      | bl _ =>
        walk_at "rd"
        refine r_neSame rfl ?_
        walk_at "rd"
        exact fin
    | int c =>
      cases hx4 with
      | int _ =>
        walk_at "rd"
        refine r_iteNP rfl ?_
        walk_at "rd"
        exact fin
    | str c =>
      cases hx4 with
      | str _ =>
        walk_at "rd"
        refine r_neSame rfl ?_
        walk_at "rd"
        exact fin
    | non =>
      cases hx4 with
      | non =>
        walk_at "rd"
        refine r_iteNP rfl ?_
        walk_at "rd"
        exact fin
end Kb
set_option maxRecDepth 100000
set_option linter.all false
namespace Kb
def IsRow (r : List Int) (n : Nat) : Prop := r.length = n ∧ r.Nodup ∧ ∀ x ∈ r, 1 ≤ x ∧ x ≤ (n : Int)
def roundsR (n : Nat) : List Int := (List.range n).map fun (i : Nat) => 1 + (i : Int)
def nx (r : List Int) (b : Int) : Int := r.getD (b - 1).toNat 0
theorem nodup_erase_len {α : Type} [DecidableEq α] {l : List α} {x : α} (h : x ∈ l) : (l.erase x).length + 1 = l.length := by
  rw [List.length_erase_of_mem h]
  have := List.length_pos_of_mem h
  omega
theorem nodup_le : ∀ (n : Nat) (l : List Int), l.Nodup → (∀ x ∈ l, 1 ≤ x ∧ x ≤ (n : Int)) → l.length ≤ n
  | 0, l, _, h => by
    cases l with
    | nil => exact Nat.le_refl _
    | cons x r => have := h x List.mem_cons_self; omega
  | n + 1, l, nd, h => by
    by_cases hm : ((n : Int) + 1) ∈ l
    · have h1 := nodup_le n (l.erase ((n : Int) + 1)) (nd.erase _) (fun x hx => by
        have h2 := h x (List.mem_of_mem_erase hx)
        have h3 : x ≠ (n : Int) + 1 := fun e => by
          subst e
          exact (List.Nodup.mem_erase_iff nd).mp hx |>.1 rfl
        omega)
      have := nodup_erase_len hm
      omega
    · have := nodup_le n l nd (fun x hx => by
        have h2 := h x hx
        have h3 : x ≠ (n : Int) + 1 := fun e => hm (e ▸ hx)
        omega)
      omega
/-- a row holds every bell -/
theorem row_mem {r : List Int} {n : Nat} (h : IsRow r n) {b : Int} (h1 : 1 ≤ b) (h2 : b ≤ n) : b ∈ r := by
  refine Decidable.byContradiction fun hm => ?_
  have := nodup_le n (b :: r) (List.nodup_cons.mpr ⟨hm, h.2.1⟩) (fun x hx => by
    rcases List.mem_cons.mp hx with rfl | hx
    · exact ⟨h1, h2⟩
    · exact h.2.2 x hx)
  rw [List.length_cons, h.1] at this
  omega
end Kb
set_option Elab.async false
set_option linter.all false
set_option maxRecDepth 100000
set_option maxHeartbeats 4000000
namespace Kb
open PySem PySem.Spec PyProof.Rows L2
local macro_rules | `(tactic| walk_at "tk") => `(tactic| first
  | assumption
  | ((with_reducible refine' sqT_of ?k); (case k => assumption))
  | ((with_reducible refine' sqT_ofD ?k); (case k => assumption))
  | ((with_reducible refine' noD_of ?k); (case k => assumption))
  | ((with_reducible refine' noD_same ?s ?k); (case s => assumption); (case k => walk_at "tk"))
  | ((with_reducible refine' sqL_of ?k); (case k => assumption))
  | ((with_reducible refine' sqT_same ?s ?k); (case s => assumption); (case k => walk_at "tk"))
  | ((with_reducible refine' sqL_same ?s ?k); (case s => assumption); (case k => walk_at "tk"))
  | ((with_reducible refine' sqT_but ?s ?t ?k); (case s => assumption); (case t => walk_at "tk"); (case k => walk_at "tk"))
  | ((with_reducible refine' sqL_but ?s ?t ?k); (case s => assumption); (case t => walk_at "ne"); (case k => walk_at "tk"))
  | ((with_reducible refine' sqL_of ?k); (case k => walk_at "tk"))
  | ((with_reducible refine' sqT_of ?k); (case k => walk_at "tk"))
  | ((with_reducible refine' at_same ?s ?k); (case s => assumption); (case k => walk_at "tk"))
  | ((with_reducible refine' at_but ?s ?t ?k); (case s => assumption); (case t => walk_at "ne"); (case k => walk_at "tk")))
local macro_rules | `(tactic| walk_at "ne") => `(tactic| first
  | assumption
  | (refine Ne.symm ?_; assumption)
  | exact ne_of_none (by assumption) (by assumption)
  | exact (ne_of_none (by assumption) (by assumption)).symm)
local macro_rules | `(tactic| walk_at "side") => `(tactic| first
  | assumption
  | omega
  | (simp only [sizeLine_eq, List.length_cons, List.length_nil, List.length_map]; omega)
  | (show _ ≤ sizeLine; decide))
local macro_rules | `(tactic| walk_at "kit") => `(tactic| first
  | (show kitB _ _ = some true; decide +kernel)
  | (show kitB _ _ = some false; decide +kernel))
local macro_rules | `(tactic| walk_at "rng") => `(tactic| first
  | (refine ⟨by omega, by omega, by omega, by omega⟩)
  | (refine ⟨by omega, by omega⟩)
  | ((simp only [List.length_map]); (refine ⟨by omega, by omega, by omega, by omega⟩))
  | ((simp only [List.length_map]); (refine ⟨by omega, by omega⟩)))
local macro_rules | `(tactic| walk_at "rd1") => `(tactic| first
  | with_reducible refine r_seq ?_
  | ((with_reducible refine' r_var ?k0 ?_); (case k0 => rfl))
  | with_reducible refine r_op ?_
  | with_reducible refine r_c ?_
  | with_reducible refine r_asg ?_
  | with_reducible refine r_name ?_
  | with_reducible refine r_cons ?_
  | with_reducible refine r_nil ?_
  | with_reducible refine r_CB ?_
  | with_reducible refine r_if ?_
  | with_reducible refine r_test ?_
  | with_reducible refine r_k ?_
  | with_reducible refine r_T ?_
  | with_reducible refine r_F ?_
  | with_reducible refine r_nT ?_
  | with_reducible refine r_nF ?_
  | with_reducible refine r_ret ?_
  | with_reducible refine r_drop ?_
  | with_reducible refine r_next ?_
  | with_reducible refine r_call ?_
  | with_reducible refine r_addI ?_
  | with_reducible refine r_subI ?_
  | with_reducible refine r_ltI ?_
  | with_reducible refine r_gtI ?_
  | with_reducible refine r_leI ?_
  | with_reducible refine r_geI ?_
  | with_reducible refine r_eqI ?_
  | with_reducible refine r_neI ?_
  | with_reducible refine r_int ?_
  | with_reducible refine r_abs ?_
  | with_reducible refine r_not ?_
  | with_reducible refine r_and ?_
  | with_reducible refine r_or ?_
  | with_reducible refine r_tru ?_
  | with_reducible refine r_truB ?_
  | with_reducible refine r_lst ?_
  | with_reducible refine r_tup ?_
  | with_reducible refine r_BM ?_
  | with_reducible refine r_BM0 ?_
  | with_reducible refine r_tyS ?_
  | with_reducible refine r_gsub ?_
  | with_reducible refine r_then ?_
  | with_reducible refine r_lstRg ?_
  | with_reducible refine r_tupRg ?_
  | with_reducible refine r_rg2 ?_
  | with_reducible refine r_rg1 ?_
  | with_reducible refine r_ii ?_
  | with_reducible refine r_i ?_
  | with_reducible refine r_ipI ?_
  | with_reducible refine r_un ?_
  | with_reducible refine r_neg ?_
  | with_reducible refine r_isN ?_
  | with_reducible refine r_notN ?_
  | with_reducible refine r_notV ?_
  | with_reducible refine r_pnot ?_
  | with_reducible refine r_pif ?_
  | with_reducible refine r_andV ?_
  | with_reducible refine r_orV ?_
  | with_reducible refine r_ifE ?_
  | with_reducible refine r_chain ?_
  | with_reducible refine r_sl ?_
  | with_reducible refine r_noPart ?_
  | with_reducible refine r_part ?_
  | with_reducible refine r_brk ?_
  | with_reducible refine r_cont ?_
  | with_reducible refine r_retN ?_
  | with_reducible refine r_truI ?_
  | with_reducible refine r_B ?_
  | with_reducible refine r_for ?_
  | with_reducible refine r_rng1 ?_
  | with_reducible refine r_rng2 ?_
  | with_reducible refine r_rng3 ?_
  | with_reducible refine r_body ?_
  | with_reducible refine r_lc ?_
  | with_reducible refine r_yes ?_
  | ((with_reducible refine' r_mod ?k0 ?_); (case k0 => walk_at "side"))
  | ((with_reducible refine' r_mulI ?k0 ?_); (case k0 => first | exact Or.inl ⟨by omega, by omega⟩ | exact Or.inr ⟨by omega, by omega⟩))
  | ((with_reducible refine' r_lenL ?k0 ?_); (case k0 => walk_at "tk"))
  | ((with_reducible refine' r_lenT ?k0 ?_); (case k0 => walk_at "tk"))
  | ((with_reducible refine' r_truL ?k0 ?_); (case k0 => walk_at "tk"))
  | ((with_reducible refine' r_truT ?k0 ?_); (case k0 => walk_at "tk"))
  | ((with_reducible refine' r_ixL ?k0 ?k1 ?_); (case k0 => walk_at "tk"); (case k1 => first | assumption | rfl))
  | ((with_reducible refine' r_ixT ?k0 ?k1 ?_); (case k0 => walk_at "tk"); (case k1 => first | assumption | rfl))
  | ((with_reducible refine' r_new ?k0 ?_); (case k0 => walk_at "side"))
  | ((with_reducible refine' r_tyL ?k0 ?_); (case k0 => walk_at "tk"))
  | ((with_reducible refine' r_append ?k0 ?k1 ?_); (case k0 => walk_at "tk"); (case k1 => walk_at "side"))
  | ((with_reducible refine' r_setL ?k0 ?k1 ?_); (case k0 => walk_at "tk"); (case k1 => first | assumption | rfl))
  | ((with_reducible refine' r_kTupL ?k0 ?_); (case k0 => walk_at "tk"))
  | ((with_reducible refine' r_kTupT ?k0 ?_); (case k0 => walk_at "tk"))
  | ((with_reducible refine' r_listL ?k0 ?_); (case k0 => walk_at "tk"))
  | ((with_reducible refine' r_listT ?k0 ?_); (case k0 => walk_at "tk"))
  | ((with_reducible refine' r_aug ?k0 ?_); (case k0 => rfl))
  | ((with_reducible refine' r_lenS ?k0 ?_); (case k0 => walk_at "side"))
  | ((with_reducible refine' r_pop ?k0 ?_); (case k0 => walk_at "tk"))
  | ((with_reducible refine' r_pr1 ?k0 ?_); (case k0 => walk_at "rng"))
  | ((with_reducible refine' r_pr2 ?k0 ?_); (case k0 => walk_at "rng"))
  | ((with_reducible refine' r_pr3d ?k0 ?_); (case k0 => walk_at "rng"))
  | ((with_reducible refine' r_isiI ?k0 ?_); (case k0 => walk_at "kit"))
  | ((with_reducible refine' r_isiB ?k0 ?_); (case k0 => walk_at "kit"))
  | ((with_reducible refine' r_isiS ?k0 ?_); (case k0 => walk_at "kit"))
  | ((with_reducible refine' r_isiN ?k0 ?_); (case k0 => walk_at "kit"))
  | ((with_reducible refine' r_isiT ?k0 ?k1 ?_); (case k0 => walk_at "tk"); (case k1 => walk_at "kit"))
  | ((with_reducible refine r_seqT ?_); (repeat (walk_at "rd1")); ((with_reducible refine' r_pseqT ?k0 ?_); (case k0 => walk_at "tk")))
  | ((with_reducible refine r_seqL ?_); (repeat (walk_at "rd1")); ((with_reducible refine' r_pseqL ?k0 ?_); (case k0 => walk_at "tk")))
  | ((with_reducible refine r_seqS ?_); (repeat (walk_at "rd1")); (with_reducible refine r_pseqS ?_)))
local macro_rules | `(tactic| walk_at "rd") => `(tactic| ((repeat (walk_at "rd1")); (try dsimp only)))
def sp_law_row_draw (K : PySem.W.Frag) : Sp := fun vs H Q _ => ∃ (p : Addr) (n : Nat), vs = [.ref p, .int (n : Int)] ∧ Pl H p ∧ n ≤ 1000 ∧ ∀ a H' r, H a = none → But p H H' → Pl H' p → SqT K H' a (r.map V.int) → IsRow r n → NoD H' a → Q (.ref a) H'
abbrev N_law_row_draw : List Str := ["pool", "stage", "left", "out", "k"]
def t_law_row_draw (K : PySem.W.Frag) : TS :=
  tSeq (tAsg ((tLstRg (tRg2 ((tC (.int 1))) ((tOp (rAddU K) (tVar 1) ((tC (.int 1)))))))) (gName 2))
  (tSeq (tAsg ((tLst tNil)) (gName 3))
  (tSeq (tFor (iRng1 (tCons (tVar 1) tNil)) (gName 4) ((tDrop ((tBM K "list" rAppend (tVar 3) (tCons ((tBM K "list" rPopAt (tVar 2) (tCons ((tCall (sp_law_draw K) [] E0 (tCons (tVar 0) (tCons ((tCB (rLenU K) (tCons (tVar 2) tNil))) tNil)))) tNil))) tNil))))))
  ((tRet ((tThen (tVar 3) (kTupD K)))))))
section
variable {K : PySem.W.Frag} {vs : List V} {H : Hp} {Q : VK} {E : XK}
theorem len_law_row_draw (h : sp_law_row_draw K vs H Q E) : vs.length = 2 := by
  obtain ⟨p, n, rfl, _⟩ := h; rfl
theorem rgV_rounds (n : Nat) : rgV 1 ((n : Int) + 1) = (roundsR n).map V.int := by
  unfold rgV roundsR
  rw [List.map_map, show ((n : Int) + 1 - 1).toNat = n by omega]
  rfl
theorem roundsR_row (n : Nat) : IsRow (roundsR n) n := by
  refine ⟨by simp [roundsR], ?_, ?_⟩
  · unfold roundsR
    rw [List.nodup_iff_pairwise_ne, List.pairwise_map]
    exact List.nodup_range.imp fun h e => h (by omega)
  · intro x hx
    obtain ⟨i, hi, rfl⟩ := List.mem_map.mp hx
    rw [List.mem_range] at hi
    omega
theorem pop_perm {os ls : List Int} {k : Nat} {v : Int} (h : ls[k]? = some v) : ((os ++ [v]) ++ ls.eraseIdx k).Perm (os ++ ls) := by
  rw [List.append_assoc]
  refine List.Perm.append_left os ?_
  have hk : k < ls.length := (List.getElem?_eq_some_iff.mp h).1
  have e : v = ls[k] := by rw [List.getElem?_eq_getElem hk] at h; exact (Option.some.inj h).symm
  subst e
  rw [List.eraseIdx_eq_take_drop_succ]
  have e2 : ls = ls.take k ++ ls[k] :: ls.drop (k + 1) := by
    rw [List.getElem_cons_drop]
    exact (List.take_append_drop k ls).symm
  conv => rhs; rw [e2]
  exact List.Perm.symm (List.perm_middle (a := ls[k]) (l₁ := ls.take k) (l₂ := ls.drop (k + 1)))
theorem IsRow.perm {a b : List Int} {n : Nat} (h : a.Perm b) (r : IsRow b n) : IsRow a n :=
  ⟨h.length_eq.trans r.1, h.nodup_iff.mpr r.2.1, fun x hx => r.2.2 x (h.mem_iff.mp hx)⟩
theorem map_eraseIdx {α β : Type} (f : α → β) : ∀ (l : List α) (k : Nat), (l.map f).eraseIdx k = (l.eraseIdx k).map f
  | [], _ => rfl
  | _ :: _, 0 => rfl
  | x :: r, k + 1 => by simp [List.eraseIdx_cons_succ, map_eraseIdx f r k]
theorem but_via {p l : Addr} {H H1 H2 : Hp} (a : But p H H1) (b : But l H1 H2) (h : H l = none) : But p H H2 := fun c o n e => b c o (ne_of_none e h) (a c o n e)
theorem pure_law_row_draw (h : sp_law_row_draw K vs H Q E) : t_law_row_draw K (En Q) (start N_law_row_draw vs) H := by
  obtain ⟨p, n, rfl, hP, hn, q⟩ := h
  unfold t_law_row_draw
  walk_at "rd"
  refine r_new (RgOk.of_le (by omega) (by omega) (by omega) (by omega)) ?_
  intro l H1 nl s1 e1
  rw [rgV_rounds] at e1
  walk_at "rd"
  intro o H2 no s2 e2
  have hpl : p ≠ l := by obtain ⟨x, y, z, hp⟩ := hP; exact ne_of_none hp nl
  have hpo : p ≠ o := by obtain ⟨x, y, z, hp⟩ := hP; exact ne_of_none (s1 _ _ hp) no
  have hlo : l ≠ o := ne_of_none e1 no
  walk_at "rd"
  rw [Int.toNat_natCast]
  refine r_forRange0 (fun i σ' H' => ∃ (os ls : List Int) (z : Option V), σ' = [some (.ref p), some (.int (n : Int)), some (.ref l), some (.ref o), z] ∧ But p H H' ∧ Pl H' p ∧ H' l = some (.lst (ls.map V.int)) ∧ H' o = some (.lst (os.map V.int)) ∧ IsRow (os ++ ls) n ∧ os.length = i)
    ⟨[], roundsR n, none, rfl, (Same.but s1).trans (Same.but s2), ?_, s2 _ _ e1, e2, roundsR_row n, rfl⟩ (fun i σ' H' hi hW => ?_) (fun σ' H' hW => ?_)
  · obtain ⟨x, y, z, hp⟩ := hP
    exact ⟨x, y, z, s2 _ _ (s1 _ _ hp)⟩
  · obtain ⟨os, ls, z, rfl, b, hP', el, eo, hr, ho⟩ := hW
    have hll : ls.length = n - i := by have := hr.1; rw [List.length_append] at this; omega
    walk_at "rd"
    refine ⟨p, _, rfl, hP', by rw [List.length_map]; omega, by rw [List.length_map]; omega, fun v H5 hv0 hv1 b5 hP5 => ?_⟩
    rw [List.length_map] at hv1
    have hk : v.toNat < ls.length := by omega
    have hl5 : H5 l = some (.lst (ls.map V.int)) := b5 _ _ hpl.symm el
    have ho5 : H5 o = some (.lst (os.map V.int)) := b5 _ _ hpo.symm eo
    walk_at "rd"
    refine r_popAt (k := v.toNat) (y := .int ls[v.toNat]) hl5 (by omega) (by rw [List.getElem?_map, List.getElem?_eq_getElem hk]; rfl) (by rw [List.length_map]; omega) ?_
    intro H6 b6 e6
    have ho6 := b6 _ _ hlo.symm ho5
    walk_at "rd"
    intro H7 b7 e7
    walk_at "rd"
    have hpk : ((os ++ [ls[v.toNat]]) ++ ls.eraseIdx v.toNat).Perm (os ++ ls) := pop_perm (List.getElem?_eq_getElem hk)
    refine ⟨os ++ [ls[v.toNat]], ls.eraseIdx v.toNat, _, rfl, but_via (but_via (b.trans b5) b6 nl) b7 (s1.free no), ?_, ?_, ?_, IsRow.perm hpk hr, by rw [List.length_append, ho]; rfl⟩
    · obtain ⟨x, y, z, hp⟩ := hP5
      exact ⟨x, y, z, b7 _ _ hpo (b6 _ _ hpl hp)⟩
    · rw [b7 _ _ hlo e6, map_eraseIdx]
    · rw [e7, List.map_append]; rfl
  · obtain ⟨os, ls, z, rfl, b, hP', el, eo, hr, ho⟩ := hW
    have hll : ls = [] := List.length_eq_zero_iff.mp (by have := hr.1; rw [List.length_append] at this; omega)
    subst hll
    rw [List.append_nil] at hr
    walk_at "rd"
    intro a H3 na s3 e3
    have hna : H a = none := by
      cases e : H a with
      | none => rfl
      | some u =>
        by_cases hap : a = p
        · subst hap
          obtain ⟨x, y, z, hp⟩ := hP'
          rw [hp] at na
          cases na
        · rw [b _ _ hap e] at na
          cases na
    refine q a H3 os hna (b.trans (Same.but s3)) ?_ (sqT_ofD e3) hr (noD_of e3)
    obtain ⟨x, y, z, hp⟩ := hP'
    exact ⟨x, y, z, s3 _ _ hp⟩
end
end Kb
set_option Elab.async false
set_option linter.all false
set_option maxRecDepth 100000
set_option maxHeartbeats 4000000
namespace Kb
open PySem PySem.Spec PyProof.Rows L2
/-- what the frame of an __init__ that says super() must say; D: the class that its body stands in -/
structure SupK (X : Cx) (D : Addr) : Prop where
  gs : Gl X "super"
  kc : X.env.kindOf "__class__" = some .free
  ks : X.env.kindOf "self" = some .local
  fn : ∃ (f : Addr) (oc : Value) (od : Option Addr) (fd : FuncData) (osl : Array (Option Value)) (ar : Arg), X.env.func = some f ∧ X.K.lookup f = some ⟨oc, od, .func fd, osl⟩ ∧ (fd.params.posonlyargs ++ fd.params.args).head? = some ar ∧ ar.arg = "self"
  cd : ∃ (cda : Addr) (ccl : Value) (cdd : Option Addr) (vs : Array Value) (ccs : Array (Option Value)) (file : Str) (tf : Tok), X.env.code = .ref cda ∧ X.K.lookup cda = some ⟨ccl, cdd, .fields vs, ccs⟩ ∧ vs[2]? = some (.str file tf) ∧ ((X.prog.main.file : Str) == file) = true
  cl : ∃ (cc : Addr) (cl : Value) (cld : Option Addr) (csl : Array (Option Value)), X.env.cells.lookup ("__class__" : Str) = some cc ∧ X.K.lookup cc = some ⟨cl, cld, .cell (some (.ref D)), csl⟩
  su : X.mg "super" = none
  tp : (X.prog.main.scope.names.lookup ("super" : Str)).isSome = false
  dc : ∃ cdD, PySem.W.clsIn X.K D = some cdD
section
variable {X : Cx} {pins : List (Addr × Obj)} {σ : L2.St} {H : Hp} {s : Shared} {a C D : Addr}
theorem exo_ne (T : OexC X.K C) (I : Inv X pins σ H s) (ea : H a = some (exo a C none)) : a ≠ C := by
  rintro rfl
  obtain ⟨nm, q, N, bs, bm, sn, sub, ab, col, dd, k0, k1, k2, k3, k5, hC, hbm⟩ := T.cls
  obtain ⟨t1, ho⟩ := exo_at I.hok ea
  have e := I.kIn _ _ hC
  rw [ho] at e
  cases e
theorem boot_super : bootBuiltins "super" = some (.type "super") := by first | boot_by_name | rfl | kernel_rfl
/-- a new object that is pinned -/
theorem pin_new {h' : Heap} {t' : Nat} {o : Obj} (I : Inv X pins σ H s) (k : ∀ b u, s.heap.get? b = some u → h'.get? b = some u) (e : h'.get? s.heap.objs.size = some o) (hn : ∀ v, o.data ≠ .cell v) :
    Inv X ((s.heap.objs.size, o) :: pins) σ H { s with heap := h', toks := t' } := by
  have J := I.kept (t' := t') k
  refine J.pins_of fun p hp => ?_
  rcases List.mem_cons.mp hp with rfl | hp
  · exact ⟨e, I.hok.fresh (Nat.le_refl _), Nat.ne_of_gt I.lt, I.nofs (Nat.le_refl _), hn⟩
  · exact J.pin p (List.mem_append_right _ hp)
theorem sup_base {body : List Stmt} {p0 p1 : Pos} {attr : Str} {whole : Sem Value} {Q : Value → Shared → Prop} {E : Value → Shared → Prop} (S : SupK X D) (I : Inv X pins σ H s) (hN : X.N[0]? = some ("self" : Str)) (hs : σ[0]? = some (some (V.ref a)))
    (T : OexC X.K C) (ea : H a = some (exo a C none)) (sub : PySem.W.mroIn X.K C (.ref D) = some true) (hat : (attr == ("__class__" : Str)) = false)
    (h : ∀ so s', Inv X ((so, PySem.W.ks_superObj D a C) :: pins) σ H s' → Q (.ref so) s') :
    _root_.PySem.wpAt (model X.prog X.w) X.A (.func body X.env) (attributeBase (.Call (.Name "super" p0) [] [] p1) attr X.env whole) Q E s := by
  obtain ⟨f, oc, od, fd, osl, ar, hfu, hf, hp, har⟩ := S.fn
  obtain ⟨cda, ccl, cdd, vs, ccs, file, tf, hco, hcode, hvs, hfile⟩ := S.cd
  obtain ⟨cc, cl, cld, csl, hcc, hcell⟩ := S.cl
  obtain ⟨cdD, hD⟩ := S.dc
  have KX := I.kIn
  have hg : X.env.globals = mainGlobals := I.ok.glob
  obtain ⟨m, hn, hlk⟩ := id I.loc
  obtain ⟨u, ru, lu⟩ := hlk 0 "self" (.ref a) hN hs (.inl S.ks)
  obtain rfl : u = Value.ref a := ru
  have hv : m "self" = some (.ref a) := by
    rcases lu with ⟨_, e⟩ | ⟨k, _⟩
    · exact e
    · rw [S.ks] at k
      rcases k with k | k <;> cases k
  obtain ⟨t1, ho⟩ := exo_at I.hok ea
  obtain ⟨oD, hD1, hD2⟩ : ∃ oD, s.heap.get? D = some oD ∧ oD.data = .cls cdD := by
    unfold PySem.W.clsIn at hD
    split at hD
    · rename_i c d cd' sl ho
      cases hD
      exact ⟨_, KX _ _ ho, rfl⟩
    · cases hD
  obtain ⟨hh, g, d, t, os⟩ := s
  refine ks_wpAt_super_base (env := X.env) S.gs S.kc hat hfu (KX _ _ hf) rfl hp hco (KX _ _ hcode) rfl hvs hfile S.tp ?_
  obtain ⟨mb, b1, b2⟩ := I.mod.blt
  refine PySem.W.ks_loadName_global I.ok.kind S.gs (Calls.loadGlobal_builtin (by rw [I.ok.glob]; exact I.mod.glob.keeps I.bk) S.su (by rw [I.ok.blt]; exact b1.keeps I.bk) ((b2 _ (by decide)).trans boot_super) ⟨rfl, ?_⟩)
  refine wpAny_loadName_free I.ok.kind S.kc hcc ⟨_, KX _ _ hcell, rfl⟩ ?_
  rw [har]
  refine wpAny_loadName_local I.ok.kind S.ks hn hv ?_
  refine ks_wpAny_isType_cls hD1 hD2 ⟨rfl, ?_⟩
  refine ks_wpAny_call_super hD1 hD2 ho rfl (fun c e => by cases e) (PySem.W.looks_mroIn KX sub) (fun h' e k => ?_)
  exact h _ _ (pin_new (s := ⟨hh, g, d, t, os⟩) (t' := t) I k e (fun v z => by cases z))
/-- super().__init__(e, ..), the next class ValueError: nothing of it is told -/
def tSupV (K : PySem.W.Frag) (D : Addr) (ta : TA) : TS := fun R σ H => ∃ a C : Addr, σ[0]? = some (some (V.ref a)) ∧ H a = some (exo a C none) ∧ OexC K C ∧ PySem.W.mroIn K C (.ref D) = some true ∧
  PySem.W.nsIn K PySem.cStatics "thirdparty.any" = some none ∧ PySem.W.ks_superIn K C D "__init__" = some (some (.builtin "ValueError.__init__")) ∧ PySem.W.subIn K (.ref C) (.type "ValueError") = some true ∧
  ta σ H fun vs H1 => vs.length ≤ 1000 ∧ H1 a = some (exo a C none) ∧ R.nx σ H1
/-- a statement that is run in its own frame -/
def PSat (X : Cx) (body : List Stmt) (st : Stmt) (t : TS) : Prop := ∀ (pins : List (Addr × Obj)) (s : Shared) (σ : L2.St) (H : Hp) (R : Ends), Inv X pins σ H s → t R σ H →
  _root_.PySem.wpAt (model X.prog X.w) X.A (.func body X.env) (exec st X.env) (SP X pins R) X.xe s
theorem sup_method {Q : Value × List Value → Shared → Prop} {E : Value → Shared → Prop} {A : Around} {pl : Sem Bool} {B i : String} {so : Addr} (KF : PySem.W.KxsFacts B i) (I : Inv X ((so, PySem.W.ks_superObj D a C) :: pins) σ H s) (T : OexC X.K C) (ea : H a = some (exo a C none))
    (opq : PySem.W.nsIn X.K PySem.cStatics "thirdparty.any" = some none) (hm : PySem.W.ks_superIn X.K C D "__init__" = some (some (.builtin i))) (hB : PySem.W.subIn X.K (.ref C) (.type B) = some true)
    (h : ∀ u s', Inv X ((u, PySem.W.kxs_mw i a) :: pins) σ H s' → Q (.ref u, []) s') : wpAny (model X.prog X.w) A (getMethod (.ref so) "__init__" pl) Q E s := by
  have KX := I.kIn
  obtain ⟨hso, _⟩ := I.pin _ (List.mem_append_right _ List.mem_cons_self)
  obtain ⟨t1, ho⟩ := exo_at I.hok ea
  have IA : PySem.W.InstAt s.heap a _ C none := ⟨ho, rfl, rfl, trivial⟩
  have hI : PySem.W.Looks (model X.prog X.w) s.heap (isInstance (.ref a) (.type B)) true := IA.type.andThen (PySem.W.looks_subIn KX hB)
  have hne := exo_ne T I ea
  obtain ⟨hh, g, d, t, os⟩ := s
  cases hc : PySem.W.clsIn X.K C with
  | none => unfold PySem.W.ks_superIn at hm; rw [hc] at hm; cases hm
  | some cd =>
    unfold PySem.W.ks_superIn at hm
    rw [hc] at hm
    refine PySem.W.kxs_getMethod KF hso (PySem.W.looks_opaque KX opq) (l₀ := cd.mro) (fun A Q E s k q => wpAny_bind ((PySem.W.looks_clsIn KX hc) A _ E s k (wpAny_pure q))) rfl KX hm hI hne (by decide) ?_
    have J := pin_new (s := ⟨hh, g, d, t, os⟩) (t' := t + 1) (o := PySem.W.kxs_mw i a) I (fun b o e => Heap.get?_push_of_some _ e) (Heap.get?_push_at rfl rfl) (fun v z => by cases z)
    exact h _ _ (J.pins_of fun p hp => J.pin p (List.mem_append_right _ (by
      rcases List.mem_cons.mp hp with rfl | hp
      · exact List.mem_cons_self
      · exact List.mem_cons_of_mem _ (List.mem_cons_of_mem _ hp))))
theorem sup_wrapper {u : Addr} {us : List Value} {Q : Value → Shared → Prop} {E : Value → Shared → Prop} {A : Around} (I : Inv X ((u, PySem.W.kxs_mw "ValueError.__init__" a) :: pins) σ H s) (T : OexC X.K C) (ea : H a = some (exo a C none)) (hl : us.length ≤ sizeLine)
    (h : ∀ s', Inv X pins σ H s' → Q .none s') : wpAny (model X.prog X.w) A (call (.ref u) us) Q E s := by
  obtain ⟨hu, _⟩ := I.pin _ (List.mem_append_right _ List.mem_cons_self)
  obtain ⟨nm, q, N, bs, bm, sn, sub, ab, col, dd, k0, k1, k2, k3, k5, hC, hbm⟩ := T.cls
  obtain ⟨t1, ho⟩ := exo_at I.hok ea
  obtain ⟨hp, g, d, t, os⟩ := s
  refine wpAny_call (codeAny_of_tree ?_)
  show wpAny _ A.in1 (callAny (.ref u) ⟨us, []⟩) _ _ _
  simp only [callAny]
  refine wpAny_bind (wpAny_load hu ?_)
  simp only [PySem.W.kxs_mw, show (Value.type "method-wrapper" == Value.type "method" || Value.type "method-wrapper" == Value.type "builtin_function_or_method" || Value.type "method-wrapper" == Value.type "method-wrapper") = true by decide, if_true]
  refine PySem.W.KFB.if_so (by decide) ?_
  refine wpAny_bind (PySem.W.check_bound_init F.excBase_ValueError.toExcCallFacts (I.kIn _ _ hC) ho rfl ?_)
  refine wpAny_bind (wpAny_pure (wpAny_pure ?_))
  refine ⟨plainId_quiet F.excBase_ValueError.init.plain _, codeAny_builtin F.excBase_ValueError.initEntry ?_⟩
  refine PySem.W.exc_init_tree (cls := .ref C) (t0 := t1) (dv := none) (c2 := .none) (c3 := .none) (b4 := .bool false) ho hl fun h' k hx _ => ?_
  have I0 : Inv X pins σ H ⟨hp, g, d, t, os⟩ := I.pins_of fun p hp => I.pin p (List.mem_append_right _ (List.mem_cons_of_mem _ hp))
  have J := I0.write (t' := t) (x := a) (e := a) (o := exo a C none) (by rw [ea]; exact True.intro) (.inl rfl) k ⟨_, hx⟩ (exo_ok hx)
  have eu : upd H a (exo a C none) = H := by
    funext b
    by_cases hb : b = a
    · rw [hb, upd_same, ea]
    · rw [upd_ne hb]
  rw [eu] at J
  exact h _ J
end
section
variable {M : Model} {A : Around} {E : Value → Shared → Prop} {s : Shared} {u x g : Addr} {i : String} {pos : Pos} {env : Env} {e : Expr} {rest : List Expr} {Q : Value → Shared → Prop} {K : PySem.W.Frag}
theorem cw_wrap (h : wpAny M A (spliced (backTo pos (starEach (e :: rest) env))) (fun vs s₁ => PySem.W.KxsAt i u x s₁.heap ∧ wpAny M A (call (.ref u) vs) Q E s₁) E s)
    (he : starEach (e :: rest) env = (false, eval e env) :: starEach rest env) (hplain : (backTo pos (starEach rest env)).any (·.1) = false) :
    wpAny M A (callWith pos (.ref u) [] (backTo pos (starEach (e :: rest) env)) []) Q E s := by
  rw [he] at h ⊢
  refine PySem.W.kxs_callWith (i := i) (x := x) (by show (false || (backTo pos (starEach rest env)).any (·.1)) = false; rw [hplain]; rfl) ?_
  exact PySem.Calls.evalArgs_plain h
theorem cw_meth {self : Value} (hf : PySem.W.fnIn K g = true) (h : wpAny M A (spliced (backTo pos (starEach (e :: rest) env))) (fun vs s₁ => PySem.W.MethP K u g self s₁.heap ∧ wpAny M A (call (.ref u) vs) Q E s₁) E s)
    (he : starEach (e :: rest) env = (false, eval e env) :: starEach rest env) (hplain : (backTo pos (starEach rest env)).any (·.1) = false) :
    wpAny M A (callWith pos (.ref u) [] (backTo pos (starEach (e :: rest) env)) []) Q E s := by
  rw [he] at h ⊢
  exact PySem.W.callWith_of (by show ((false || (backTo pos (starEach rest env)).any (·.1)) || false) = false; rw [hplain]; rfl) (PySem.W.keeps_M hf) (PySem.Calls.evalArgs_plain h)
end
section
variable {X : Cx} {D : Addr} {body : List Stmt} {e : Expr} {es : List Expr} {ta : TA} {p0 p1 p2 p3 p4 : Pos}
abbrev supStmt (e : Expr) (es : List Expr) (p0 p1 p2 p3 p4 : Pos) : Stmt := .Expr (.Call (.Attribute (.Call (.Name "super" p0) [] [] p1) "__init__" p2) (e :: es) [] p3) p4
theorem pst_supV {pl : Sem Bool} (S : SupK X D) (hN : X.N[0]? = some ("self" : Str)) (ha : PA X (e :: es) ta)
    (hc : eval (.Call (.Attribute (.Call (.Name "super" p0) [] [] p1) "__init__" p2) (e :: es) [] p3) X.env = (do
      let ov ← attributeBase (.Call (.Name "super" p0) [] [] p1) "__init__" X.env (eval (.Call (.Name "super" p0) [] [] p1) X.env)
      standAt p2.atName
      let (f, first) ← holding [ov] (getMethod ov "__init__" pl)
      callWith p3 f first (backTo p3 (starEach (e :: es) X.env)) []) := by rfl) (hsw : swapsWith (.Call (.Attribute (.Call (.Name "super" p0) [] [] p1) "__init__" p2) (e :: es) [] p3) none p4.line X.env = pure false := by rfl)
    (he : starEach (e :: es) X.env = (false, eval e X.env) :: starEach es X.env := by rfl) (hpl : (backTo p3 (starEach es X.env)).any (·.1) = false := by rfl) :
    PSat X body (supStmt e es p0 p1 p2 p3 p4) (tSupV X.K D ta) := by
  intro pins s σ H R I h
  obtain ⟨a, C, hs, ea, T, sub, opq, hm, hB, h⟩ := h
  refine ks_wpAt_Expr_any (ks_wpAt_MethodCall (pl := pl) ?_ hc) I.quiet hsw
  · refine sup_base S I hN hs T ea sub (by decide) fun so s1 I1 => ?_
    refine sup_method PySem.W.kxs_ValueError I1 T ea opq hm hB fun u s2 I2 => ?_
    show wpAny _ _ (callWith p3 (.ref u) [] (backTo p3 (starEach (e :: es) X.env)) []) _ _ _
    refine cw_wrap (i := "ValueError.__init__") (x := a) (thn (ha.run p3 _ s2 σ H _ I2 h) fun us s3 ⟨vs, H1, I3, r1, hl, ea1, q⟩ => ⟨?_, ?_⟩) he hpl
    · exact (I3.pin _ (List.mem_append_right _ List.mem_cons_self)).1
    · refine sup_wrapper I3 T ea1 ?_ fun s4 I4 => ⟨σ, H1, I4, q⟩
      rw [← Paired.length r1, sizeLine_eq]
      omega
/-- super().__init__(e, ..), the next class's own __init__ keeping sp -/
def tSupF (K : PySem.W.Frag) (D f2 : Addr) (sp : Sp) (ta : TA) : TS := fun R σ H => ∃ a C : Addr, σ[0]? = some (some (V.ref a)) ∧ H a = some (exo a C none) ∧ OexC K C ∧ PySem.W.mroIn K C (.ref D) = some true ∧
  PySem.W.nsIn K PySem.cStatics "thirdparty.any" = some none ∧ PySem.W.ks_superIn K C D "__init__" = some (some (.ref f2)) ∧
  ta σ H fun vs H1 => sp (.ref a :: vs) H1 (fun _ H2 => R.nx σ H2) (fun _ _ _ => False)
theorem sup_methodF {pins : List (Addr × Obj)} {σ : L2.St} {H : Hp} {s : Shared} {a C f2 so : Addr} {Q : Value × List Value → Shared → Prop} {E : Value → Shared → Prop} {A : Around} {pl : Sem Bool} (I : Inv X ((so, PySem.W.ks_superObj D a C) :: pins) σ H s) (T : OexC X.K C) (ea : H a = some (exo a C none))
    (opq : PySem.W.nsIn X.K PySem.cStatics "thirdparty.any" = some none) (hm : PySem.W.ks_superIn X.K C D "__init__" = some (some (.ref f2))) (ht : PySem.W.typeIn X.K (.ref f2) = some (.type "function"))
    (h : ∀ u s', Inv X ((u, PySem.W.methodObj (.ref f2) (.ref a)) :: pins) σ H s' → Q (.ref u, []) s') : wpAny (model X.prog X.w) A (getMethod (.ref so) "__init__" pl) Q E s := by
  have KX := I.kIn
  obtain ⟨hso, _⟩ := I.pin _ (List.mem_append_right _ List.mem_cons_self)
  have hne := exo_ne T I ea
  obtain ⟨hh, g, d, t, os⟩ := s
  cases hc : PySem.W.clsIn X.K C with
  | none => unfold PySem.W.ks_superIn at hm; rw [hc] at hm; cases hm
  | some cd =>
    unfold PySem.W.ks_superIn at hm
    rw [hc] at hm
    obtain ⟨of, hof, hofc⟩ : ∃ of, hh.get? f2 = some of ∧ of.cls = .type "function" := by
      have ht' : (X.K.lookup f2).map (·.cls) = some (.type "function") := ht
      cases z : X.K.lookup f2 with
      | none => rw [z] at ht'; cases ht'
      | some of => rw [z] at ht'; exact ⟨of, KX _ _ z, Option.some.inj ht'⟩
    refine ks_wpAny_getMethod_super hso (PySem.W.looks_opaque KX opq) (l₀ := cd.mro) (fun A Q E s k q => wpAny_bind ((PySem.W.looks_clsIn KX hc) A _ E s k (wpAny_pure q))) rfl KX hm hof hofc hne (by decide) ?_
    have J := pin_new (s := ⟨hh, g, d, t, os⟩) (t' := t + 1) (o := PySem.W.methodObj (.ref f2) (.ref a)) I (fun b o e => Heap.get?_push_of_some _ e) (Heap.get?_push_at rfl rfl) (fun v z => by cases z)
    exact h _ _ (J.pins_of fun p hp => J.pin p (List.mem_append_right _ (by
      rcases List.mem_cons.mp hp with rfl | hp
      · exact List.mem_cons_self
      · exact List.mem_cons_of_mem _ (List.mem_cons_of_mem _ hp))))
theorem pst_supF {pl : Sem Bool} {CX : CXT} {k : Nat} {f2 : Addr} {fd : FuncData} {ps : List Str} {sp : Sp} (S : SupK X D) (hN : X.N[0]? = some ("self" : Str)) (F1 : FnOk X.prog X.w X.K X.mg X.base CX k f2 fd ps sp) (hr : Room k X.A) (hb : Binds X.K fd ps [])
    (hx : Passes CX X (fun _ _ _ => False)) (ht : PySem.W.typeIn X.K (.ref f2) = some (.type "function")) (hf : PySem.W.fnIn X.K f2 = true) (ha : PA X (e :: es) ta)
    (hc : eval (.Call (.Attribute (.Call (.Name "super" p0) [] [] p1) "__init__" p2) (e :: es) [] p3) X.env = (do
      let ov ← attributeBase (.Call (.Name "super" p0) [] [] p1) "__init__" X.env (eval (.Call (.Name "super" p0) [] [] p1) X.env)
      standAt p2.atName
      let (f, first) ← holding [ov] (getMethod ov "__init__" pl)
      callWith p3 f first (backTo p3 (starEach (e :: es) X.env)) []) := by rfl) (hsw : swapsWith (.Call (.Attribute (.Call (.Name "super" p0) [] [] p1) "__init__" p2) (e :: es) [] p3) none p4.line X.env = pure false := by rfl)
    (he : starEach (e :: es) X.env = (false, eval e X.env) :: starEach es X.env := by rfl) (hpl : (backTo p3 (starEach es X.env)).any (·.1) = false := by rfl) :
    PSat X body (supStmt e es p0 p1 p2 p3 p4) (tSupF X.K D f2 sp ta) := by
  intro pins s σ H R I h
  obtain ⟨a, C, hs, ea, T, sub, opq, hm, h⟩ := h
  refine ks_wpAt_Expr_any (ks_wpAt_MethodCall (pl := pl) ?_ hc) I.quiet hsw
  · refine sup_base S I hN hs T ea sub (by decide) fun so s1 I1 => ?_
    refine sup_methodF I1 T ea opq hm ht fun u s2 I2 => ?_
    show wpAny _ _ (callWith p3 (.ref u) [] (backTo p3 (starEach (e :: es) X.env)) []) _ _ _
    refine cw_meth (g := f2) (self := .ref a) hf (thn (ha.run p3 _ s2 σ H _ I2 h) fun us s3 ⟨vs, H1, I3, r1, q⟩ => ⟨⟨?_, I3.kIn⟩, ?_⟩) he hpl
    · exact (I3.pin _ (List.mem_append_right _ List.mem_cons_self)).1
    · have hu := (I3.pin _ (List.mem_append_right _ List.mem_cons_self)).1
      have I4 : Inv X pins σ H1 s3 := I3.pins_of fun p hp => I3.pin p (List.mem_append_right _ (List.mem_cons_of_mem _ hp))
      have r2 : Vals (V.ref a :: vs) (Value.ref a :: us) := .cons rfl r1
      have hl : (Value.ref a :: us).length = ps.length := by
        rw [← r2.length]
        exact F1.len _ _ _ _ q
      refine wpAny_call (ks_codeAny_call_bound hu (codeAny_mono (F1.run _ X.stack _ _ ⟨Value.ref a :: us, []⟩ (Value.ref a :: us) _ _ (fun _ _ _ => False) hr I4.env0 (by have z := hb s3 (Value.ref a :: us) I4.kIn (by simpa using hl); rw [List.append_nil] at z; exact z) r2 q) fun r s' hq' => ?_))
      cases r with
      | error er => exact hx pins σ _ _ er s' I4 hq'
      | ok fl =>
        cases fl with
        | ret u2 =>
          obtain ⟨v, H', I5, rv, q5⟩ := I4.after hq'
          exact ⟨σ, H', I5, q5⟩
        | next => exact False.elim hq'
        | brk => exact False.elim hq'
        | cont => exact False.elim hq'
end
end Kb
set_option Elab.async false
set_option linter.all false
set_option maxRecDepth 100000
set_option maxHeartbeats 4000000
namespace Kb
open PySem PySem.Spec PyProof.Rows L2
theorem lookup_nodup {y : Str} {u : Value} : ∀ {l : List (Str × Value)}, (l.map (·.1)).Nodup → (y, u) ∈ l → l.lookup y = some u
  | [], _, h => by cases h
  | (z, w) :: r, nd, h => by
    rw [List.map_cons, List.nodup_cons] at nd
    rcases List.mem_cons.mp h with h | h
    · obtain ⟨rfl, rfl⟩ := Prod.mk.inj h
      simp [List.lookup]
    · have ne : (y == z) = false := by
        refine beq_eq_false_iff_ne.mpr fun e => nd.1 ?_
        rw [← e]
        exact List.mem_map.mpr ⟨(y, u), h, rfl⟩
      rw [List.lookup, ne]
      exact lookup_nodup nd.2 h
/-- the scope of an __init__ that says super() -/
structure SupScope (N P : List Str) (sc : Scope) : Prop where
  kind : sc.kind = .function
  co : sc.isCoroutine = false
  gen : sc.isGenerator = false
  nd : N.Nodup
  pre : N.take P.length = P
  par : ∀ x ∈ P, sc.names.lookup x = some .local
  nocell : ∀ y ∈ sc.names, y.2 ≠ .cell
  free : ∀ y ∈ sc.names, y.2 = .free → y.1 = "__class__"
/-- the context of its body -/
def cxS (P : Program) (w : World) (K : PySem.W.Frag) (mg : Str → Option Value) (base : Heap) (N : List Str) (qual : Str) (scope : Scope) (f : Addr) (cd : Value) (cc : Addr) (A : Around) (outer : List Env) (s : Shared) (H : Hp) : Cx where
  prog := P
  w := w
  K := K
  mg := mg
  base := base
  A := A.deeper (PySem.W.ksEnv qual scope s.heap.objs.size f cd cc)
  N := N
  s_0 := s
  H_0 := H
  env := PySem.W.ksEnv qual scope s.heap.objs.size f cd cc
  outer := outer
  stack := PySem.W.ksEnv qual scope s.heap.objs.size f cd cc :: outer
  ex := []
  calm := true
  fn := fun _ => false
  pn := []
  xe := fun _ _ => False
theorem inv_startS {P : Program} {w : World} {K : PySem.W.Frag} {mg : Str → Option Value} {base : Heap} {N ps : List Str} {qual : Str} {scope : Scope} {f : Addr} {cd : Value} {cc : Addr} {A : Around} {outer : List Env} {s : Shared} {H : Hp} {us : List Value} {vs : List V} {h₁ : Heap} {t' : Nat} {cl : Value} {cld : Option Addr} {v0 : Option Value} {csl : Array (Option Value)}
    (S : SupScope N ps scope) (hd : A.handled = none) (e0 : Env0 P w K mg base A outer s H) (hl : vs.length = ps.length) (r : Vals vs us) (hcell : K.lookup cc = some ⟨cl, cld, .cell v0, csl⟩)
    (hn : h₁.Ns s.heap.objs.size (fun x => (ps.zip us).reverse.lookup x)) (k : ∀ b o, s.heap.get? b = some o → h₁.get? b = some o) :
    Inv (cxS P w K mg base N qual scope f cd cc A outer s H) [] (start N vs) H { s with heap := h₁, toks := t' } := by
  have hpl : ps.length ≤ N.length := by have := congrArg List.length S.pre; rw [List.length_take] at this; omega
  have noA : ∀ b : Addr, b ∉ (cxS P w K mg base N qual scope f cd cc A outer s H).ex := fun b z => absurd (show b ∈ ([] : List Addr) from z) (by simp)
  have hb := e0.bs cc _ (e0.mod.kin _ _ hcell)
  have cell1 : ∀ y c, (cxS P w K mg base N qual scope f cd cc A outer s H).env.cells.lookup y = some c → y = ("__class__" : Str) ∧ c = cc := fun y c h => by
    have h : List.lookup y [(("__class__" : Str), cc)] = some c := h
    rw [List.lookup] at h
    split at h
    · rename_i z
      exact ⟨beq_iff_eq.mp z, (Option.some.inj h).symm⟩
    · cases h
  refine ⟨⟨e0.mod, S.kind, rfl, rfl, Nat.le_refl _, fun y z c h1 h2 => (cell1 y c h1).1.trans (cell1 z c h2).1.symm, fun y hy => ?_, fun y c z h => Bool.noConfusion z, fun _ => hd, Around.frames_deeper e0.frames, .inr ⟨rfl, rfl⟩, fun b z => absurd z (noA b), e0.bs, e0.bsz, fun b _ _ => noA b, fun b z => absurd z (noA b), e0.funs, e0.frf⟩,
    rfl, e0.bare, Un.kept k, ⟨_, hn, fun i y v h1 h2 h3 => ?_⟩, fun y c h => ⟨v0, ⟨cl, cld, .cell v0, csl⟩, k _ _ (by obtain ⟨_, e⟩ := cell1 y c h; subst e; exact hb.1), rfl⟩, e0.hok.fresh (Nat.le_refl _), fun y c h => by obtain ⟨_, e⟩ := cell1 y c h; subst e; exact hb.2, fun p hp => absurd (show p ∈ ([] : List (Addr × Obj)) from hp) (by simp), e0.hok.kept k, ?_⟩
  · have hy : scope.names.lookup y = some .cell ∨ scope.names.lookup y = some .free := hy
    rcases hy with hy | hy
    · exact absurd rfl (S.nocell _ (PySem.mem_of_lookup hy))
    · have e : y = ("__class__" : Str) := S.free _ (PySem.mem_of_lookup hy) rfl
      subst e
      exact ⟨cc, by show List.lookup ("__class__" : Str) [(("__class__" : Str), cc)] = some cc; simp [List.lookup]⟩
  · have hi : i < vs.length := by
      unfold L2.start at h2
      by_cases hi : i < vs.length
      · exact hi
      · rw [List.getElem?_append_right (by simpa using hi)] at h2
        rw [List.getElem?_replicate] at h2
        split at h2 <;> cases h2
    have ha : vs[i]? = some v := by
      unfold L2.start at h2
      rw [List.getElem?_append_left (by simpa using hi), List.getElem?_map] at h2
      cases e : vs[i]? with
      | none => rw [e] at h2; cases h2
      | some a => rw [e] at h2; cases h2; rfl
    obtain ⟨u, hu, rv⟩ := r.get ha
    have hp : ps[i]? = some y := by
      rw [← S.pre, List.getElem?_take_of_lt (by omega)]; exact h1
    have ndP : ps.Nodup := by rw [← S.pre]; exact S.nd.sublist (List.take_sublist _ _)
    refine ⟨u, rv, .inl ⟨S.par y (List.mem_of_getElem? hp), ?_⟩⟩
    have hlen : us.length = ps.length := by rw [← r.length]; exact hl
    refine lookup_nodup ?_ ?_
    · rw [List.map_reverse, List.map_fst_zip (by omega)]
      exact (List.reverse_perm ps).nodup_iff.mpr ndP
    · rw [List.mem_reverse]
      exact List.mem_of_getElem? (i := i) (by rw [List.getElem?_zip_eq_some]; exact ⟨hp, hu⟩)
  · unfold L2.start
    show _ = N.length
    rw [List.length_append, List.length_map, List.length_replicate]
    omega
/-- THE RULE: an __init__ that says super() first, by its body -/
theorem fn_sup {P : Program} {w : World} {K : PySem.W.Frag} {mg : Str → Option Value} {base : Heap} {k : Nat} {f : Addr} {name qual : Str} {params : Arguments} {b0 : Stmt} {body : List Stmt} {scope : Scope} {dV kV doc pm cdv ct oc : Value} {an od : Option Addr} {cc : Addr}
    {osl : Array (Option Value)} {N ps : List Str} {sp : Sp} {cl : Value} {cld : Option Addr} {v0 : Option Value} {csl : Array (Option Value)}
    (lk : K.lookup f = some ⟨oc, od, .func (PySem.W.ksFn name qual params (b0 :: body) scope dV kV doc pm an cdv ct cc), osl⟩) (hcd : PySem.W.codeIn K cdv qual = true) (hcell : K.lookup cc = some ⟨cl, cld, .cell v0, csl⟩) (S : SupScope N ps scope)
    (len : ∀ vs H Q E, sp vs H Q E → vs.length = ps.length)
    (hbody : ∀ (A : Around) (outer : List Env) (s : Shared) (H : Hp) (vs : List V) (Q : VK) (E : XK), Room k (A.deeper (PySem.W.ksEnv qual scope s.heap.objs.size f cdv cc)) → sp vs H Q E →
      ∃ t u, PSat (cxS P w K mg base N qual scope f cdv cc A outer s H) (b0 :: body) b0 t ∧ PSs (cxS P w K mg base N qual scope f cdv cc A outer s H) body u ∧ t { nx := fun σ' H' => u { nx := fun _ H' => Q .non H', rt := Q } σ' H', rt := Q } (start N vs) H) :
    FnOk P w K mg base CX0 (k + 1) f (PySem.W.ksFn name qual params (b0 :: body) scope dV kV doc pm an cdv ct cc) ps sp := by
  refine ⟨len, fun A outer s H args us vs Q E hr e0 hb r hsp => ?_⟩
  have hl := len _ _ _ _ hsp
  have KX : K.In s.heap := e0.mod.kin.keeps fun b o e => (e0.bs b o e).1
  have lim : s.heap.NoLimit := e0.mod.nolimit.keeps fun b o e => (e0.bs b o e).1
  refine ks_codeAny_call_defAt (body := b0 :: body) (binds := ps.zip us) hr.depth (KX _ _ lk) rfl lim (PySem.W.codeRec_of KX hcd) rfl hb S.nocell (fun y hy => S.par y.1 (List.of_mem_zip (show (y.1, y.2) ∈ ps.zip us from hy)).1) (fun h₁ hns hk => ?_) S.co S.gen S.kind
  obtain ⟨t, u, ht, hu, hq⟩ := hbody A outer s H vs Q E (hr.deeper _) hsp
  have I : Inv (cxS P w K mg base N qual scope f cdv cc A outer s H) [] (start N vs) H { s with heap := h₁, toks := s.toks + (ps.zip us).length } := inv_startS S hr.hd e0 hl r hcell hns hk
  have fin : ∀ {s' : Shared} {σ' : L2.St} {H' : Hp} {v : V} {u : Value}, Inv (cxS P w K mg base N qual scope f cdv cc A outer s H) [] σ' H' s' → RelV v u → Q v H' → CE outer P w H s Q u s' :=
    fun {s' σ' H' v u} J rv q => ⟨v, H', J.os, J.bare, J.base, J.hok, rv, q⟩
  have last : ∀ (fl : Flow) (s' : Shared), SP (cxS P w K mg base N qual scope f cdv cc A outer s H) [] { nx := fun _ H' => Q .non H', rt := Q } fl s' → CR CX0 outer P w H s Q E (.ok (.ret (match fl with | .ret v => v | _ => .none))) s' := by
    intro fl s' hs
    cases fl with
    | ret u =>
      obtain ⟨v, σ', H', J, rv, q⟩ := hs
      exact fin J rv q
    | next =>
      obtain ⟨σ', H', J, q⟩ := hs
      exact fin (v := V.non) (u := Value.none) J rfl q
    | brk =>
      obtain ⟨_, _, _, q⟩ := hs
      exact False.elim q
    | cont =>
      obtain ⟨_, _, _, q⟩ := hs
      exact False.elim q
  show _root_.PySem.wpAt (model P w) (A.deeper (PySem.W.ksEnv qual scope s.heap.objs.size f cdv cc)) (.func (b0 :: body) (PySem.W.ksEnv qual scope s.heap.objs.size f cdv cc)) (execs (b0 :: body) (PySem.W.ksEnv qual scope s.heap.objs.size f cdv cc)) _ _ _
  refine ks_wpAt_execs_cons (ks_wpAt_mono (ht [] _ _ _ _ I hq) (fun fl s' hs => ?_) fun e s' hs => False.elim hs)
  cases fl with
  | next =>
    obtain ⟨σ', H', J, q⟩ := hs
    exact wpAt_of_wpAny (wpAny_mono (hu.run [] s' σ' H' _ J q) (fun fl s2 hs => last fl s2 hs) fun e s' hs => False.elim hs)
  | ret u => exact last (.ret u) s' hs
  | brk =>
    obtain ⟨_, _, _, q⟩ := hs
    exact False.elim q
  | cont =>
    obtain ⟨_, _, _, q⟩ := hs
    exact False.elim q
end Kb
set_option Elab.async false
set_option linter.all false
set_option maxRecDepth 100000
set_option maxHeartbeats 4000000
namespace Kb
open PySem PySem.Spec PyProof.Rows L2
def oexB (K : PySem.W.Frag) (C : Addr) : Bool := match K.lookup C with
  | some ⟨.type "type", _, .cls cd, sl⟩ => (match cd.mro, sl.toList with
    | .ref C' :: bm, [_, _, _, _, some (.builtin n), _] => C' == C && n == "ValueError.__new__" && !cd.hasDel && cd.hasDict && PySem.HandSPX.refsVE bm
    | _, _ => false)
  | _ => false
theorem oexB_ok {K : PySem.W.Frag} {C : Addr} (q : oexB K C = true) : ∃ nm q N bs bm sn sub ab col dd k0 k1 k2 k3 k5, K.lookup C = some (excClassObj nm q C N bs bm true sn sub ab col dd k0 k1 k2 k3 k5 "ValueError.__new__") ∧ PySem.HandSPX.refsVE bm = true := by
  unfold oexB at q
  split at q
  · rename_i dd cd sl ho
    split at q
    · rename_i C' bm k0 k1 k2 k3 n k5 hm hs
      simp only [Bool.and_eq_true, beq_iff_eq, Bool.not_eq_true'] at q
      obtain ⟨⟨⟨⟨rfl, rfl⟩, hdel⟩, hdict⟩, ht⟩ := q
      obtain ⟨nm, bs, mro, ns, qn, hd, sn, sub, ab, col, del⟩ := cd
      dsimp only at hm hdel hdict
      subst hm hdel hdict
      have hsl : sl = #[k0, k1, k2, k3, some (.builtin "ValueError.__new__"), k5] := by
        obtain ⟨l⟩ := sl
        simp only at hs
        rw [hs]
      subst hsl
      exact ⟨nm, qn, ns, bs, bm, sn, sub, ab, col, dd, k0, k1, k2, k3, k5, ho, ht⟩
    · cases q
  · cases q
/-- the fields that errors have beside their word -/
abbrev errFlds : List Str := ["column", "first", "letter", "most", "name", "number", "second", "sign"]
/-- C, an error class below D (or D itself) -/
structure Bad (K : PySem.W.Frag) (C D : Addr) : Prop where
  ox : OexC K C
  sub : PySem.W.mroIn K C (.ref D) = some true
  opq : PySem.W.nsIn K PySem.cStatics "thirdparty.any" = some none
  sV : PySem.W.subIn K (.ref C) (.type "ValueError") = some true
  smV : PySem.W.ks_superIn K C D "__init__" = some (some (.builtin "ValueError.__init__"))
  ex : ExcC K C
  nw : PySem.W.findIn K (.ref C) "word" = some none
  nf : ∀ f ∈ errFlds, PySem.W.findIn K (.ref C) f = some none
def badL (K : PySem.W.Frag) (C D : Addr) : List Bool :=
  [oexB K C, decide (PySem.W.findIn K (.ref C) "__setattr__" = some (some (.builtin "object.__setattr__"))), decide (PySem.W.subIn K (.ref C) (.type "BaseException") = some true), decide (PySem.W.typeIn K (.ref C) = some (.type "type")), PySem.W.keepIn K (.ref C),
   decide (PySem.W.mroIn K C (.ref D) = some true), decide (PySem.W.nsIn K PySem.cStatics "thirdparty.any" = some none), decide (PySem.W.subIn K (.ref C) (.type "ValueError") = some true), decide (PySem.W.ks_superIn K C D "__init__" = some (some (.builtin "ValueError.__init__"))),
   decide (PySem.W.findIn K (.ref C) "__getattribute__" = some (some (.builtin "BaseException.__getattribute__"))), decide (PySem.W.findIn K (.ref C) "__getattr__" = some none), PySem.W.hasDictIn K C, decide (PySem.W.findIn K (.ref C) "__class__" = some (some (.builtin "object.__class__"))),
   decide (PySem.W.specialIn K (.builtin "object.__class__") "__get__" = some (some (.builtin "getset_descriptor.__get__"))), decide (PySem.W.takesIn K (.builtin "object.__class__") = some true), decide (PySem.W.mroIn K C (.type "object") = some true), decide (PySem.W.findIn K (.ref C) "word" = some none),
   errFlds.all fun f => decide (PySem.W.findIn K (.ref C) f = some none)]
def badB (K : PySem.W.Frag) (C D : Addr) : Bool := (badL K C D).all id
theorem bad_of {K : PySem.W.Frag} {C D : Addr} (h : badB K C D = true) : Bad K C D := by
  unfold badB badL at h
  rw [List.all_cons, List.all_cons, List.all_cons, List.all_cons, List.all_cons, List.all_cons, List.all_cons, List.all_cons, List.all_cons, List.all_cons, List.all_cons, List.all_cons, List.all_cons, List.all_cons, List.all_cons, List.all_cons, List.all_cons, List.all_cons, List.all_nil] at h
  simp only [id_eq, Bool.and_true, Bool.and_eq_true, decide_eq_true_eq] at h
  obtain ⟨h1, h2, h3, h4, h5, h6, h7, h8, h9, h10, h11, h12, h13, h14, h15, h16, h17, h18⟩ := h
  exact ⟨⟨oexB_ok h1, h2, h3, h4, h5⟩, h6, h7, h8, h9, ⟨h10, h11, h3, h12, h13, h14, h15, h16⟩, h17, fun f hf => of_decide_eq_true (List.all_eq_true.mp h18 f hf)⟩
theorem Bad.xf {K : PySem.W.Frag} {C D : Addr} (B : Bad K C D) : XfC K C := ⟨B.ex.hg, B.ex.hk, B.ex.hs, B.ex.hd⟩
theorem Bad.cls {K : PySem.W.Frag} {C D : Addr} (B : Bad K C D) : ∃ cd, PySem.W.clsIn K C = some cd := by
  obtain ⟨nm, q, N, bs, bm, sn, sub, ab, col, dd, k0, k1, k2, k3, k5, hC, hbm⟩ := B.ox.cls
  exact ⟨_, by unfold PySem.W.clsIn; rw [hC] <;> rfl⟩
def fileB (K : PySem.W.Frag) (cd : Value) (file : Str) : Bool := match cd with
  | .ref c => (match K.lookup c with
    | some ⟨_, _, .fields vs, _⟩ => (match (vs[2]? : Option Value) with
      | some (Value.str f _) => file == f
      | _ => false)
    | _ => false)
  | _ => false
theorem fileB_ok {K : PySem.W.Frag} {cd : Value} {file : Str} (h : fileB K cd file = true) : ∃ (cda : Addr) (ccl : Value) (cdd : Option Addr) (vs : Array Value) (ccs : Array (Option Value)) (f : Str) (tf : Tok), cd = .ref cda ∧ K.lookup cda = some ⟨ccl, cdd, .fields vs, ccs⟩ ∧ vs[2]? = some (.str f tf) ∧ (file == f) = true := by
  unfold fileB at h
  split at h
  · split at h
    · rename_i hl
      split at h
      · rename_i hv
        exact ⟨_, _, _, _, _, _, _, rfl, hl, hv, h⟩
      · cases h
    · cases h
  · cases h
def sp_CE (K : PySem.W.Frag) (D : Addr) : Sp := fun vs H Q E => ∃ (a C : Addr) (v : V), vs = [.ref a, v] ∧ Bad K C D ∧ H a = some (exo a C none) ∧
  ∀ dx, H dx = none → dx ≠ a → Q .non (upd (upd H dx (exd dx [("word", v)])) a (exo a C (some dx)))
def sp_B0 (C : Addr) (nm : Str) : Sp := fun vs H Q E => ∃ (a : Addr), vs = [.ref a] ∧ H a = some (exo a C none) ∧
  ∀ dx, H dx = none → dx ≠ a → Q .non (upd (upd H dx (exd dx [("word", .str nm)])) a (exo a C (some dx)))
section
variable {P : Program} {w : World} {K : PySem.W.Frag} {mg : Str → Option Value} {base : Heap}
/-- an __init__ of the text that says super() -/
structure SupI (P : Program) (K : PySem.W.Frag) (mg : Str → Option Value) (qual : Str) (s : Stmt) (D : Addr) (N : List Str) (f : Addr) (fd : FuncData) : Prop where
  ex : ∃ (oc : Value) (od : Option Addr) (dV kV doc pm : Value) (an : Option Addr) (cdv ct : Value) (osl : Array (Option Value)) (cc : Addr) (cl : Value) (cld : Option Addr) (csl : Array (Option Value)),
    fd = PySem.W.ksFn "__init__" qual (defArgs s) (defBody s) (defScope s) dV kV doc pm an cdv ct cc ∧ K.lookup f = some ⟨oc, od, .func fd, osl⟩ ∧ PySem.W.codeIn K cdv qual = true ∧ K.lookup cc = some ⟨cl, cld, .cell (some (.ref D)), csl⟩ ∧ fileB K cdv P.main.file = true
  sc : SupScope N N (defScope s)
  hs : (defScope s).names.lookup ("super" : Str) = some .globalImplicit
  hc : (defScope s).names.lookup ("__class__" : Str) = some .free
  hl : (defScope s).names.lookup ("self" : Str) = some .local
  ar : ∃ ar : Arg, ((defArgs s).posonlyargs ++ (defArgs s).args).head? = some ar ∧ ar.arg = "self"
  su : mg "super" = none
  tp : (P.main.scope.names.lookup ("super" : Str)).isSome = false
  dc : ∃ cd, PySem.W.clsIn K D = some cd
theorem SupI.supK {qual : Str} {s : Stmt} {D f : Addr} {fd : FuncData} {N : List Str} (S : SupI P K mg qual s D N f fd) {oc : Value} {od : Option Addr} {dV kV doc pm : Value} {an : Option Addr} {cdv ct : Value} {osl : Array (Option Value)} {cc : Addr} {cl : Value} {cld : Option Addr} {csl : Array (Option Value)}
    (hfd : fd = PySem.W.ksFn "__init__" qual (defArgs s) (defBody s) (defScope s) dV kV doc pm an cdv ct cc) (lk : K.lookup f = some ⟨oc, od, .func fd, osl⟩) (lc : K.lookup cc = some ⟨cl, cld, .cell (some (.ref D)), csl⟩) (hf : fileB K cdv P.main.file = true)
    (A : Around) (outer : List Env) (sh : Shared) (H : Hp) : SupK (cxS P w K mg base N qual (defScope s) f cdv cc A outer sh H) D := by
  obtain ⟨ar, h1, h2⟩ := S.ar
  obtain ⟨cda, ccl, cdd, vs, ccs, fl, tf, e, l, v, b⟩ := fileB_ok hf
  exact ⟨S.hs, S.hc, S.hl, ⟨f, oc, od, fd, osl, ar, rfl, lk, by subst hfd; exact h1, h2⟩, ⟨cda, ccl, cdd, vs, ccs, fl, tf, e, l, v, b⟩, ⟨cc, cl, cld, csl, by show List.lookup ("__class__" : Str) [(("__class__" : Str), cc)] = some cc; simp [List.lookup], lc⟩, S.su, S.tp, S.dc⟩
/-- super().__init__(e, ..) is a call of a method as it stands on one line -/
def SupEv (e : Expr) (es : List Expr) (p0 p1 p2 p3 p4 : Pos) : Prop := ∃ pl : Sem Bool, ∀ env : Env, eval (.Call (.Attribute (.Call (.Name "super" p0) [] [] p1) "__init__" p2) (e :: es) [] p3) env = (do
      let ov ← attributeBase (.Call (.Name "super" p0) [] [] p1) "__init__" env (eval (.Call (.Name "super" p0) [] [] p1) env)
      standAt p2.atName
      let (f, first) ← holding [ov] (getMethod ov "__init__" pl)
      callWith p3 f first (backTo p3 (starEach (e :: es) env)) [])
theorem ok_CE {s : Stmt} {D f : Addr} {fd : FuncData} {p0 p1 p2 p3 p4 q0 q1 q2 q3 q4 : Pos} (S : SupI P K mg "ChamberError.__init__" s D ["self", "word"] f fd)
    (hb : defBody s = [supStmt (.Name "word" q0) [] p0 p1 p2 p3 p4, .Assign [.Attribute (.Name "self" q1) "word" q2] (.Name "word" q3) q4])
    (ev : SupEv (.Name "word" q0) [] p0 p1 p2 p3 p4) (hw : (defScope s).names.lookup ("word" : Str) = some .local) : FnOk P w K mg base CX0 1 f fd ["self", "word"] (sp_CE K D) := by
  obtain ⟨oc, od, dV, kV, doc, pm, an, cdv, ct, osl, cc, cl, cld, csl, hfd, lk, hcd, lc, hf⟩ := S.ex
  have hfd' := hfd
  rw [hb] at hfd
  have lk' := lk
  subst hfd
  refine fn_sup lk' hcd lc S.sc (fun vs H Q E ⟨a, C, v, e, _⟩ => by rw [e]; rfl) fun A outer sh H vs Q E hr hsp => ?_
  have SK := S.supK (w := w) (base := base) hfd' lk lc hf A outer sh H
  have nd := S.sc.nd
  refine ⟨_, _, pst_supV SK rfl (pa_cons (pe_var (i := 1) rfl (.inl hw)) pa_nil) (hc := ev.choose_spec _), pss_one (ps_ost (pe_var (i := 0) rfl (.inl S.hl)) (pe_var (i := 1) rfl (.inl hw))), ?_⟩
  obtain ⟨a, C, v, rfl, B, ea, hq⟩ := hsp
  refine ⟨a, C, rfl, ea, B.ox, B.sub, B.opq, B.smV, B.sV, ?_⟩
  refine ⟨v, rfl, by simp, ea, ?_⟩
  exact ⟨v, rfl, .ref a, rfl, a, C, rfl, B.ox, B.nw, .inl ⟨ea, fun dx n ne => hq dx n ne⟩⟩
theorem ok_B0 {s : Stmt} {C D f f2 : Addr} {qual nm : Str} {fd fd2 : FuncData} {jc : Nat} {p0 p1 p2 p3 p4 q0 : Pos} (S : SupI P K mg qual s C ["self"] f fd)
    (hb : defBody s = [supStmt (.Constant (.str nm) jc q0) [] p0 p1 p2 p3 p4]) (ev : SupEv (.Constant (.str nm) jc q0) [] p0 p1 p2 p3 p4)
    (F1 : FnOk P w K mg base CX0 1 f2 fd2 ["self", "word"] (sp_CE K D)) (hbs : Binds K fd2 ["self", "word"] []) (B : Bad K C D) (sub : PySem.W.mroIn K C (.ref C) = some true) (sm : PySem.W.ks_superIn K C C "__init__" = some (some (.ref f2)))
    (ht : PySem.W.typeIn K (.ref f2) = some (.type "function")) (hf2 : PySem.W.fnIn K f2 = true) : FnOk P w K mg base CX0 2 f fd ["self"] (sp_B0 C nm) := by
  obtain ⟨oc, od, dV, kV, doc, pm, an, cdv, ct, osl, cc, cl, cld, csl, hfd, lk, hcd, lc, hf⟩ := S.ex
  have hfd' := hfd
  rw [hb] at hfd
  have lk' := lk
  subst hfd
  refine fn_sup lk' hcd lc S.sc (fun vs H Q E ⟨a, e, _⟩ => by rw [e]; rfl) fun A outer sh H vs Q E hr hsp => ?_
  have SK := S.supK (w := w) (base := base) hfd' lk lc hf A outer sh H
  refine ⟨_, _, pst_supF SK rfl F1 hr hbs pass0 ht hf2 (pa_cons pe_str pa_nil) (hc := ev.choose_spec _), pss_nil, ?_⟩
  obtain ⟨a, rfl, ea, hq⟩ := hsp
  refine ⟨a, C, rfl, ea, B.ox, sub, B.opq, sm, ?_⟩
  exact ⟨a, C, .str nm, rfl, B, ea, fun dx n ne => hq dx n ne⟩
end
def tBad (C : Addr) (nm : Str) : L2.St → Hp → XK → Prop := fun σ H Q => ∀ d, H d = none → Q (.ref C) (some d) (upd H d (.xd [("word", .str nm)]))
theorem heap_end {H : Hp} {a dx : Addr} {o1 o2 o3 : HO} {fs : List (Str × V)} (n : H a = none) (ne : dx ≠ a) : upd (del (upd (upd (upd H a o1) dx o2) a o3) a) dx (.xd fs) = upd H dx (.xd fs) := by
  funext b
  by_cases h1 : b = dx
  · rw [h1, upd_same, upd_same]
  · rw [upd_ne h1, upd_ne h1]
    by_cases h2 : b = a
    · rw [h2, del_same, n]
    · rw [del_ne h2, upd_ne h2, upd_ne h1, upd_ne h2]
section
variable {X : Cx} {x : Str} {C fI : Addr} {k : Nat} {fd : FuncData} {p pos : Pos}
theorem run_bad {ps : List Str} {sp : Sp} (T : OexC X.K C) (iC : PySem.W.findIn X.K (.ref C) "__init__" = some (some (.ref fI))) (tI : PySem.W.typeIn X.K (.ref fI) = some (.type "function"))
    (F1 : FnOk X.prog X.w X.K X.mg X.base CX0 k fI fd ps sp) (hr : Room (k + 1) X.A) (hb : Binds X.K fd ps []) {pins : List (Addr × Obj)} {σ : L2.St} {H : Hp} {s : Shared} {Q : XK} (I : Inv X pins σ H s)
    (h : ∀ a, H a = none → sp [.ref a] (upd H a (exo a C none)) (fun v H2 => v = .non ∧ ∃ (d : Addr) (fs : List (Str × V)), H2 a = some (exo a C (some d)) ∧ H2 d = some (exd d fs) ∧ H d = none ∧ Q (.ref C) (some d) (upd (del H2 a) d (.xd fs))) (fun _ _ _ => False)) :
    wpAny (model X.prog X.w) X.A (call (.ref C) []) (MkP X pins σ Q) X.xe s := by
  obtain ⟨nm, q, N, bs, bm, sn, sub, ab, col, dd, k0, k1, k2, k3, k5, hC, hbm⟩ := T.cls
  obtain ⟨hp, g, dr, tk, os⟩ := s
  have hsz : hp.objs.size ≤ hp.objs.size + 1 := Nat.le_succ _
  have hn : H (hp.objs.size + 1) = none := I.hok.fresh hsz
  have hq := h (hp.objs.size + 1) hn
  have kk : ∀ b o, hp.get? b = some o → ((hp.push (PySem.W.kdv_tup [])).push (PySem.HandSPX.excO C hp.objs.size)).get? b = some o := fun b o e => Heap.get?_push_of_some _ (Heap.get?_push_of_some _ e)
  have hget : ((hp.push (PySem.W.kdv_tup [])).push (PySem.HandSPX.excO C hp.objs.size)).get? (hp.objs.size + 1) = some (PySem.HandSPX.excO C hp.objs.size) := by heap_get
  have I2 : Inv X pins σ (upd H (hp.objs.size + 1) (exo (hp.objs.size + 1) C none)) ⟨(hp.push (PySem.W.kdv_tup [])).push (PySem.HandSPX.excO C hp.objs.size), g, dr, tk, os⟩ :=
    I.laid (t' := tk) (a := hp.objs.size + 1) (o := exo (hp.objs.size + 1) C none) (h' := (hp.push (PySem.W.kdv_tup [])).push (PySem.HandSPX.excO C hp.objs.size)) kk hsz (exo_ok hget)
  have r2 : Vals [V.ref (hp.objs.size + 1)] [Value.ref (hp.objs.size + 1)] := .cons rfl .nil
  have hl : ([Value.ref (hp.objs.size + 1)] ++ []).length = ps.length := by
    have e := r2.length
    rw [F1.len _ _ _ _ hq] at e
    exact e.symm
  refine wpAny_call (PySem.HandSPX.call_own (rest := []) F.excBase_ValueError (fun Y => PySem.HandSPX.refsVE_contains Y bm hbm) (I.kIn _ _ hC) (PySem.W.looks_findIn I.kIn iC) (fun self => PySem.W.bind_fn I.kIn self tI) (Nat.zero_le _)
    (codeAny_mono (F1.run _ X.stack _ _ ⟨[Value.ref (hp.objs.size + 1)], []⟩ ([Value.ref (hp.objs.size + 1)] ++ []) _ _ (fun _ _ _ => False) (hr.make C [] []) (I2.env0.make C [] []) (hb _ [Value.ref (hp.objs.size + 1)] I2.kIn hl) r2 hq) fun r s' hq' => ?_))
  cases r with
  | error er => exact False.elim hq'
  | ok fl =>
    cases fl with
    | ret u =>
      obtain ⟨v, H2, os2, bare2, un2, hok2, rv, ev, d, fs, ea, ed, hd1, q2⟩ := hq'
      subst ev
      obtain ⟨h2, g2, d2, t2, os'⟩ := s'
      exact ⟨rv, mk_end (raises_own T.exC T.tyC) I hsz kk un2 hok2 os2 bare2 ea ed hd1 q2⟩
    | next => exact False.elim hq'
    | brk => exact False.elim hq'
    | cont => exact False.elim hq'
theorem pmk_bad0 {nm : Str} (T : OexC X.K C) (iC : PySem.W.findIn X.K (.ref C) "__init__" = some (some (.ref fI))) (tI : PySem.W.typeIn X.K (.ref fI) = some (.type "function"))
    (F1 : FnOk X.prog X.w X.K X.mg X.base CX0 k fI fd ["self"] (sp_B0 C nm)) (hr : Room (k + 1) X.A) (hb : Binds X.K fd ["self"] []) (hg : Gl X x) (hm : X.mg x = some (.ref C)) (hdb : (x == ("__debug__" : Str)) = false := by decide) :
    PMk X (.Call (.Name x p) [] [] pos) (tBad C nm) := by
  intro pins s σ H Q I h
  refine wpAny_Call_Name_kw (ld_glob I hg hm ?_ hdb)
  refine PySem.W.callWith_K0 I.kIn T.kC ?_
  refine run_bad T iC tI F1 hr hb I fun a na => ⟨a, rfl, upd_same, fun dx nx ne => ?_⟩
  have nx0 : H dx = none := by rw [upd_ne ne] at nx; exact nx
  refine ⟨rfl, dx, _, upd_same, by rw [upd_ne ne, upd_same], nx0, ?_⟩
  rw [heap_end na ne]
  exact h dx nx0
end
end Kb
set_option Elab.async false
set_option linter.all false
set_option maxRecDepth 100000
set_option maxHeartbeats 4000000
namespace Kb
open PySem PySem.Spec PyProof.Rows L2
structure Cl where
  c : Value
  slot : Option Nat
  ts : Addr → Value → Option Addr → TS
def endsOf (D : Ends) : Option Nat → Ends
  | none => D
  | some i => { nx := fun σ' H' => D.nx (σ'.set i none) H', rt := D.rt, bk := fun σ' H' => D.bk (σ'.set i none) H', ct := fun σ' H' => D.ct (σ'.set i none) H' }
def setOf (σ : L2.St) (a : Addr) : Option Nat → L2.St
  | none => σ
  | some i => σ.set i (some (.ref a))
/-- what the clauses wish of an exception of the body, one after the other -/
def wAll (K : PySem.W.Frag) (Wout : WX) (D : Ends) : List Cl → WX
  | [] => Wout
  | q :: r => fun cls d σ H => ∃ b, PySem.W.exmOne K cls q.c = some b ∧ (b = true → ∀ a, H a = none → q.ts a cls d (endsOf D q.slot) (setOf σ a q.slot) H) ∧ (b = false → wAll K Wout D r cls d σ H)
inductive HdsA (X : Cx) : List ExceptHandler → List Cl → Prop
  | nil : HdsA X [] []
  | no {x : Str} {c : Value} {ts : Addr → Value → Option Addr → TS} {b₀ : Stmt} {suite : List Stmt} {np pos' : Pos} {hds : List ExceptHandler} {l : List Cl} (hc : Names X x c)
      (hsu : ∀ (a : Addr) (oe : Obj) (cls : Value) (d : Option Addr) (pn : List (Addr × Obj)), Zc cls d oe → (∃ vs, oe.data = .fields vs) → PSs (X.suite a ((a, oe) :: pn)) (b₀ :: suite) (ts a cls d)) (r : HdsA X hds l) :
      HdsA X (.ExceptHandler (some (.Name x np)) none (b₀ :: suite) pos' :: hds) (⟨c, none, ts⟩ :: l)
  | as {x n : Str} {i : Nat} {c : Value} {ts : Addr → Value → Option Addr → TS} {b₀ : Stmt} {suite : List Stmt} {np pos' : Pos} {hds : List ExceptHandler} {l : List Cl} (hc : Names X x c) (hi : X.N[i]? = some n) (hln : X.env.kindOf n = some .local)
      (hsu : ∀ (a : Addr) (oe : Obj) (cls : Value) (d : Option Addr) (pn : List (Addr × Obj)), Zc cls d oe → (∃ vs, oe.data = .fields vs) → PSs (X.suite a ((a, oe) :: pn)) (b₀ :: suite) (ts a cls d)) (r : HdsA X hds l) :
      HdsA X (.ExceptHandler (some (.Name x np)) (some n) (b₀ :: suite) pos' :: hds) (⟨c, some i, ts⟩ :: l)
section
variable {X : Cx} {body : List Stmt} {h₀ : ExceptHandler} {hds : List ExceptHandler} {l : List Cl} {pos : Pos} {tb : WX → TS} {Wout : WX}
theorem ps_try_all (hs : X.stack = X.env :: X.outer) (hf : X.env.frame = some X.env.locals) (hN : X.N.Nodup) (tk : Takes X Wout)
    (hb : ∀ (W : WX) (pn : List (Addr × Obj)) (xe : Value → Shared → Prop), Takes (X.tr pn xe) W → PassesOwn (model X.prog X.w) X.A X.env xe → PSs (X.tr pn xe) body (tb W))
    (hh : HdsA X (h₀ :: hds) l) : PS X (.Try body (h₀ :: hds) [] [] pos) (fun D σ H => tb (wAll X.K Wout D l) D σ H) := by
  refine ⟨fun pins s σ H D I h => ?_⟩
  have ok := I.ok
  have hfr : X.A.frames = some (X.env :: X.outer) := by rw [ok.frames, hs]
  refine wpAny_Try_except ?_
  refine wpAny_mono ((hb (wAll X.K Wout D l) (X.pn ++ pins) (fun e s₁ => wpAny (model X.prog X.w) X.A (noteFrame e X.env) (fun _ s₂ => wpAny (model X.prog X.w) X.A (setFlight e none) (fun _ s₃ =>
    wpAny (model X.prog X.w) X.A (handleBy e X.env (h₀ :: hds)) (SP X pins D) X.xe s₃) X.xe s₂) X.xe s₁) (fun u s' xx => ?_) PassesOwn.looking).run [] s σ H D (I.toTry _) h) (fun f s1 hsp => ?_) (fun e s1 he => he)
  · obtain ⟨a, B, sI, pins', σ', H', cls, d, rfl, J', nb, up, sky, na, os, ag, w⟩ := xx
    have J : Inv X pins σ' H' sI := J'.ofTry ok
    have sky' : Sky B (X.env :: X.outer) a (Zc cls d) X.env.locals s'.heap := by rw [← hs]; exact sky
    show wpAny (model X.prog X.w) X.A (noteFrame (.ref a) X.env) _ _ _
    refine Sky.land Zc.steady hfr hf sky' fun h3 fl3 up3 => ?_
    have J3 : Inv X pins σ' H' { s' with heap := h3 } := J.landed nb fl3.1 (up.trans up3) os ag
    obtain ⟨oe3, vs3, he3, hz3, hd3⟩ := fl3.there
    have notFr : ∀ {h : Heap} {o : Obj} {vs : Array Value}, h.FunFrames B (X.env :: X.outer) → h.get? a = some o → o.data = .fields vs → a ∉ frs (X.env :: X.outer) := fun {h o vs} ff e dd hm => by
      obtain ⟨_, o', e', hnf⟩ := ff.mem hm
      rw [e] at e'; cases e'
      exact hnf _ dd
    have nfr := notFr fl3.2.2.1 he3 hd3
    have nL : a ≠ X.env.locals := fun z => nfr (List.mem_filterMap.mpr ⟨X.env, List.mem_cons_self, by rw [hf, z]⟩)
    have nF : a ∉ X.fs := fun hm => by
      obtain ⟨e, he, q⟩ := List.mem_filterMap.mp hm
      exact nfr (List.mem_filterMap.mpr ⟨e, List.mem_cons_of_mem _ he, q⟩)
    have S3 := J3.suite he3 hd3 na nL nF
    have test : ∀ {x : Str} {c : Value} {np : Pos}, Names X x c → ∀ {Q : Value → Shared → Prop} {E : Value → Shared → Prop}, Q c { s' with heap := h3 } → wpAny (model X.prog X.w) (X.A.mark (some (.ref a))) (eval (.Name x np) X.env) Q E { s' with heap := h3 } := fun {x c np} hc {Q E} q => by
      obtain ⟨hg, hdbg, hm | ⟨hm, hv, hnn⟩⟩ := hc
      · exact ld_glob (X := X.suite a ((a, oe3) :: (X.pn ++ pins))) S3 hg hm q hdbg
      · exact ld_blt (X := X.suite a ((a, oe3) :: (X.pn ++ pins))) S3 hg hm hv q hnn hdbg
    have LT : PySem.W.Looks (model X.prog X.w) h3 (typeOf (.ref a)) cls := fun A Q E s k q => wpAny_typeOf_ref (k _ _ he3) (by rw [hz3.1]; exact q)
    have go : ∀ {hds' : List ExceptHandler} {l' : List Cl}, HdsA X hds' l' → wAll X.K Wout D l' cls d σ' H' →
        wpAny (model X.prog X.w) X.A (handleBy (.ref a) X.env hds') (SP X pins D) X.xe { s' with heap := h3 } := by
      intro hds' l' hk
      induction hk with
      | nil =>
        intro w
        refine wpAny_handleBy_nil ?_
        obtain ⟨k1, k2, k3, oe, vs, T, oT, ts', he, hz, hd, h1, hr⟩ := id fl3
        unfold PySem.passOn
        refine wpAny_bind (wpAny_field he hd h1 ?_)
        rw [if_neg (show ¬ ((Value.ref T == Value.none) = true) from by simp)]
        have fin : wpAny (model X.prog X.w) X.A (setFlight (.ref a) X.env.frame) (fun _ s4 => wpAny (model X.prog X.w) X.A (throw (.ref a) : Sem Flow) (SP X pins D) X.xe s4) X.xe { s' with heap := h3 } := by
          rw [hf]
          refine HandSPX.setFlight_upZ fl3 fun h4 hh4 up4 => wpAny_throw (tk _ _ ?_)
          exact ⟨a, B, sI, pins, σ', H', cls, d, rfl, J, nb, (up.trans up3).trans up4, .inr (.inr (by rw [hs]; exact hh4)), na, os, ag, w⟩
        first
          | exact wpAny_bind (wpAny_pure (wpAny_bind fin))
          | exact wpAny_bind fin
      | @no x c ts b₀ suite np pos' hds2 l2 hc hsu r ih =>
        intro w
        obtain ⟨b, hb1, hyes, hno⟩ := w
        refine wpAny_handleBy_cons (codeAny_handlers_test ?_) (by intro q; cases q)
        refine test hc ((PySem.W.exm_one (M := model X.prog X.w) (J3.kIn) LT hb1).here ?_)
        cases b with
        | true =>
          refine codeAny_handlers_suite ?_
          refine HandSPX.lands_againZ fl3 fun h4 fl4 up4 => ?_
          have J4 : Inv X pins σ' H' { s' with heap := h4 } := J.landed nb fl4.1 ((up.trans up3).trans up4) os ag
          obtain ⟨oe4, vs4, he4, hz4, hd4⟩ := fl4.there
          have S4 := J4.suite he4 hd4 na nL nF
          refine wpAny_mono ((hsu a oe4 cls d (X.pn ++ pins) hz4 ⟨_, hd4⟩).run [] _ _ H' _ S4 (hyes rfl a na)) (fun f s6 hsp => ?_) (fun _ _ z => False.elim z)
          cases f with
          | next =>
            obtain ⟨σ6, H6, S6, q6⟩ := hsp
            exact ⟨_, _, S6.unsuite ok, q6⟩
          | brk =>
            obtain ⟨σ6, H6, S6, q6⟩ := hsp
            exact ⟨_, _, S6.unsuite ok, q6⟩
          | cont =>
            obtain ⟨σ6, H6, S6, q6⟩ := hsp
            exact ⟨_, _, S6.unsuite ok, q6⟩
          | ret u =>
            obtain ⟨v6, σ6, H6, S6, r6, q6⟩ := hsp
            exact ⟨_, _, _, S6.unsuite ok, r6, q6⟩
        | false =>
          show wpAny _ X.A (handleBy (.ref a) X.env hds2) _ _ _
          exact ih (hno rfl)
      | @as x n i c ts b₀ suite np pos' hds2 l2 hc hi hln hsu r ih =>
        intro w
        obtain ⟨b, hb1, hyes, hno⟩ := w
        have hloc : Loc X.env.scope n := .inl hln
        refine wpAny_handleBy_cons (codeAny_handlers_test ?_) (by intro q; cases q)
        refine test hc ((PySem.W.exm_one (M := model X.prog X.w) (J3.kIn) LT hb1).here ?_)
        cases b with
        | true =>
          refine codeAny_handlers_suite_as ?_
          refine HandSPX.lands_againZ fl3 fun h4 fl4 up4 => ?_
          have J4 : Inv X pins σ' H' { s' with heap := h4 } := J.landed nb fl4.1 ((up.trans up3).trans up4) os ag
          obtain ⟨oe4, vs4, he4, hz4, hd4⟩ := fl4.there
          have S4 := J4.suite he4 hd4 na nL nF
          refine store_ok (X := X.suite a ((a, oe4) :: (X.pn ++ pins))) (v := .ref a) S4 hN hi hloc rfl (fun s5 S5 => ?_) (.inr hln)
          refine wpAny_mono ((hsu a oe4 cls d (X.pn ++ pins) hz4 ⟨_, hd4⟩).run [] s5 _ H' _ S5 (hyes rfl a na)) (fun f s6 hsp => ?_) (fun _ _ z => False.elim z)
          have end_ : ∀ {σ6 : L2.St} {H6 : Hp} {Q : Shared → Prop}, Inv (X.suite a ((a, oe4) :: (X.pn ++ pins))) [] σ6 H6 s6 → (∀ s7, Inv X pins (σ6.set i none) H6 s7 → Q s7) →
              wpAny (model X.prog X.w) X.A (do bindName X.env n .none; unbindBehindTheSuite X.env n pos') (fun _ s7 => Q s7) X.xe s6 := fun {σ6 H6 Q} S6 hq => gone_ok (S6.unsuite ok) hN hi hln hq
          cases f with
          | next =>
            obtain ⟨σ6, H6, S6, q6⟩ := hsp
            exact end_ S6 fun s7 J7 => ⟨_, _, J7, q6⟩
          | brk =>
            obtain ⟨σ6, H6, S6, q6⟩ := hsp
            exact end_ S6 fun s7 J7 => ⟨_, _, J7, q6⟩
          | cont =>
            obtain ⟨σ6, H6, S6, q6⟩ := hsp
            exact end_ S6 fun s7 J7 => ⟨_, _, J7, q6⟩
          | ret u =>
            obtain ⟨v6, σ6, H6, S6, r6, q6⟩ := hsp
            exact end_ S6 fun s7 J7 => ⟨_, _, _, J7, r6, q6⟩
        | false =>
          show wpAny _ X.A (handleBy (.ref a) X.env hds2) _ _ _
          exact ih (hno rfl)
    exact go hh w
  · cases f with
    | next =>
      obtain ⟨σ', H', J', q⟩ := hsp
      exact wpAny_execs_nil ⟨σ', H', J'.ofTry ok, q⟩
    | brk =>
      obtain ⟨σ', H', J', q⟩ := hsp
      exact ⟨σ', H', J'.ofTry ok, q⟩
    | cont =>
      obtain ⟨σ', H', J', q⟩ := hsp
      exact ⟨σ', H', J'.ofTry ok, q⟩
    | ret u =>
      obtain ⟨v, σ', H', J', r, q⟩ := hsp
      exact ⟨v, σ', H', J'.ofTry ok, r, q⟩
end
def tCallW (sp : Sp) (W : WX) (t : TA) : TE := fun σ H Q => t σ H fun vs H1 => sp vs H1 Q (fun cls d H' => W cls d σ H')
section
variable {X : Cx} {k : Nat} {ps : List Str} {sp : Sp} {x : Str} {p pos : Pos} {e : Expr} {es : List Expr} {t : TA} {W : WX}
theorem pe_callW (tk : Takes X W) (G : Fn X.prog X.w X.K X.mg X.base (L2.CX X.prog X.w) k x ps sp) (hr : Room k X.A) (hg : Gl X x) (ha : PA X (e :: es) t) (hdb : (x == ("__debug__" : Str)) = false := by decide)
    (he : starEach (e :: es) X.env = (false, eval e X.env) :: starEach es X.env := by rfl) (hpl : (backTo pos (starEach es X.env)).any (·.1) = false := by rfl) : PE X (.Call (.Name x p) (e :: es) [] pos) (tCallW sp W t) := by
  obtain ⟨f, fd, F, hm, hk, hb⟩ := G.ex
  refine ⟨fun pins s σ H Q I h => ?_⟩
  refine wpAny_Call_Name_kw (ld_glob I hg hm ?_ hdb)
  refine PySem.W.callWith_K (h₀ := X.base) I.ok.mod.kin hk (thn (ha.run pos pins s σ H _ I h) fun us s1 ⟨vs, H1, I1, r, q⟩ => ⟨I1.kIn, ?_⟩) he hpl
  show wpAny _ _ (call (.ref f) us) _ _ _
  have hl : (us ++ []).length = ps.length := by rw [List.append_nil, ← r.length]; exact F.len _ _ _ _ q
  have hbs := hb s1 us I1.kIn hl
  rw [List.append_nil] at hbs
  refine wpAny_call (codeAny_mono (F.run X.A X.stack s1 H1 ⟨us, []⟩ us vs Q (fun cls d H' => W cls d σ H') hr I1.env0 hbs r q) fun r s' hq => ?_)
  cases r with
  | error e => exact tk e s' (XE.of_call I1 (fun cls d H' h => h) hq)
  | ok fl =>
    cases fl with
    | ret u => exact I1.after hq
    | next => exact False.elim hq
    | brk => exact False.elim hq
    | cont => exact False.elim hq
end
/-- e.f -/
def tXfA (K : PySem.W.Frag) (a : Addr) (cls : Value) (d : Option Addr) (n : Str) (te : TE) : TE := fun σ H Q => ∃ C : Addr, cls = .ref C ∧ XfC K C ∧ PySem.W.findIn K (.ref C) n = some none ∧ tXf a cls d C n te σ H Q
/-- what isinstance's second says -/
def IsOf (K : PySem.W.Frag) (H : Hp) (C : Addr) (c : V) (b : Bool) : Prop :=
  (∃ cv, (∀ u, RelV c u → u = cv) ∧ PySem.W.kitOne K (.ref C) cv = some b) ∨ ∃ (tp : Addr) (cs : List V) (its : List Value), c = .ref tp ∧ SqT K H tp cs ∧ (∀ us, Vals cs us → us = its) ∧ PySem.W.kitAny K (.ref C) its = some b
def rIsX (K : PySem.W.Frag) (a : Addr) (cls : Value) (d : Option Addr) : List V → Hp → VK → Prop := fun xs H Q =>
  ∃ (c : V) (C dd : Addr) (fs : List (Str × V)) (b : Bool), xs = [.ref a, c] ∧ cls = .ref C ∧ d = some dd ∧ H dd = some (.xd fs) ∧ ExcC K C ∧ IsOf K H C c b ∧ Q (.bl b) H
section
variable {X : Cx} {a : Addr} {oe : Obj} {cls : Value} {d : Option Addr} {pn : List (Addr × Obj)} {e : Expr} {te : TE} {pos : Pos} {n : Str}
theorem pe_xfA (hz : Zc cls d oe) (hf : ∃ vs, oe.data = .fields vs) (he : PE (X.suite a ((a, oe) :: pn)) e te) (hb : attributeBase e n X.env (eval e X.env) = eval e X.env := by rfl) :
    PE (X.suite a ((a, oe) :: pn)) (.Attribute e n pos) (tXfA X.K a cls d n te) := by
  refine ⟨fun pins s σ H Q I h => ?_⟩
  obtain ⟨C, ec, T, hno, h⟩ := h
  exact (pe_xf T hno hz hf he hb).run pins s σ H Q I h
theorem call_isX (hz : Zc cls d oe) (hf : ∃ vs, oe.data = .fields vs) : CallR (X.suite a ((a, oe) :: pn)) (.builtin "isinstance") (rIsX X.K a cls d) := by
  intro pins s σ H xs us Q I r h
  obtain ⟨c, C, dd, fs, b, rfl, ec, ed, hdd, E, io, q⟩ := h
  subst ec
  subst ed
  cases r with
  | cons rx rr =>
    cases rr with
    | cons rt rr =>
      cases rr
      cases rx
      obtain ⟨hget, _⟩ := I.pin (a, oe) (List.mem_append.mpr (.inl List.mem_cons_self))
      obtain ⟨vs, hv⟩ := hf
      have hx : ObjOk X.prog X.w H s.heap dd (.xd fs) := I.hok dd _ hdd
      obtain ⟨od, hod⟩ : ∃ od, s.heap.get? dd = some od := by
        obtain ⟨mA, ⟨o, es, ep, e1, _⟩, _⟩ := hx
        exact ⟨o, e1⟩
      have J : PySem.W.InstAt s.heap a oe C (some od) := by
        obtain ⟨oc, od', oda, osl⟩ := oe
        obtain ⟨h1, h2⟩ := hz
        dsimp only at h1 h2 hv
        subst h1 h2 hv
        exact ⟨hget, rfl, rfl, hod⟩
      obtain ⟨cd, hcd, _⟩ := PySem.W.any_some E.hd
      have KT := PySem.W.kitx_exc (x := a) (ox := oe) (od := some od) (by rw [hcd]; rfl) E.hg E.hk E.hs E.ha E.hn E.ht E.hm
      rcases io with ⟨cv, hcv, e⟩ | ⟨tp, cs, its, rfl, htp, hits, e⟩
      · have ec := hcv _ rt
        subst ec
        exact PySem.W.kia_one KT I.kIn J e (fun z => nomatch z) fun tk => ⟨.bl b, H, I.kept (t' := tk) fun _ _ z => z, rfl, q⟩
      · obtain ⟨its', r', ⟨o, eo, oc, nn, dt⟩, _⟩ := I.tuple htp
        have e2 := hits _ r'
        subst e2
        cases rt
        obtain ⟨o1, o2, o3, o4⟩ := o
        dsimp only at oc dt
        subst oc
        subst dt
        exact PySem.W.kia_tup KT I.kIn J (its := its') eo e (fun z => nomatch z) fun tk => ⟨.bl b, H, I.kept (t' := tk) fun _ _ z => z, rfl, q⟩
end
end Kb
set_option Elab.async false
set_option linter.all false
set_option maxRecDepth 100000
set_option maxHeartbeats 4000000
namespace Kb
open PySem PySem.Spec PyProof.Rows L2
def IteT (K : PySem.W.Frag) (a : Addr) (k : Int) : It :=
  ⟨fun i H => ∃ (xs : List V) (x : V), SqT K H a xs ∧ xs[i]? = some x, fun i H v H' => ∃ T x, v = .ref T ∧ H T = none ∧ H' = upd H T (.tup [.int (k + (i : Nat)), x]) ∧ ∀ xs, SqT K H a xs → xs[i]? = some x, fun i H => ∃ xs : List V, SqT K H a xs ∧ xs.length = i⟩
/-- enumerate(t), enumerate(t, start=k): t a tuple -/
def iEnT (K : PySem.W.Frag) (k : Int) (ta : TA) : TI := fun σ H R => ta σ H fun vs H1 => ∃ a xs, vs = [.ref a] ∧ SqT K H1 a xs ∧ R (IteT K a k) H1
end Kb
set_option Elab.async false
set_option linter.all false
set_option maxRecDepth 100000
set_option maxHeartbeats 4000000
set_option Elab.async false
set_option linter.all false
set_option maxRecDepth 100000
set_option maxHeartbeats 4000000
namespace Kb
open PySem PySem.Spec PyProof.Rows L2
structure Exs (K : PySem.W.Frag) (ec : Str → Addr) (ns : List Str) : Prop where
  bad : ∀ x ∈ ns, Bad K (ec x) (ec "ChamberError")
  kitV : ∀ x ∈ ns, PySem.W.kitOne K (.ref (ec x)) (.type "ValueError") = some true
  kit : ∀ x ∈ ns, ∀ y ∈ ns, PySem.W.kitOne K (.ref (ec x)) (.ref (ec y)) = some (x == y || y == "ChamberError")
  exm : ∀ x ∈ ns, ∀ y ∈ ns, PySem.W.exmOne K (.ref (ec x)) (.ref (ec y)) = some (x == y || y == "ChamberError")
def exsB (K : PySem.W.Frag) (D : Addr) (l : List (Str × Addr)) : Bool :=
  l.all fun p => badB K p.2 D && (PySem.W.kitOne K (.ref p.2) (.type "ValueError") == some true && l.all fun q =>
    PySem.W.kitOne K (.ref p.2) (.ref q.2) == some (p.1 == q.1 || q.1 == "ChamberError") && PySem.W.exmOne K (.ref p.2) (.ref q.2) == some (p.1 == q.1 || q.1 == "ChamberError"))
def ecOf (mg : Str → Option Value) : Str → Addr := fun x => match mg x with
  | some (.ref a) => a
  | _ => 0
theorem ecOf_at {mg : Str → Option Value} {x : Str} {a : Addr} (h : mg x = some (.ref a)) : ecOf mg x = a := by unfold ecOf; rw [h]
theorem exs_of {K : PySem.W.Frag} {mg : Str → Option Value} {D : Addr} {l : List (Str × Addr)} (hD : mg "ChamberError" = some (.ref D)) (hl : ∀ p ∈ l, mg p.1 = some (.ref p.2)) (h : exsB K D l = true) : Exs K (ecOf mg) (l.map (·.1)) := by
  have key : ∀ x ∈ l.map (·.1), ∃ a, (x, a) ∈ l ∧ ecOf mg x = a := by
    intro x hx
    obtain ⟨p, hp, rfl⟩ := List.mem_map.mp hx
    exact ⟨p.2, hp, ecOf_at (hl p hp)⟩
  unfold exsB at h
  rw [List.all_eq_true] at h
  refine ⟨fun x hx => ?_, fun x hx => ?_, fun x hx y hy => ?_, fun x hx y hy => ?_⟩
  · obtain ⟨a, ha, e⟩ := key x hx
    have z := h _ ha
    simp only [Bool.and_eq_true] at z
    rw [e, ecOf_at hD]
    exact bad_of z.1
  · obtain ⟨a, ha, e⟩ := key x hx
    have z := h _ ha
    simp only [Bool.and_eq_true, beq_iff_eq] at z
    rw [e]
    exact z.2.1
  · obtain ⟨a, ha, e⟩ := key x hx
    obtain ⟨b, hb, e2⟩ := key y hy
    have z := h _ ha
    simp only [Bool.and_eq_true] at z
    have z2 := List.all_eq_true.mp z.2.2 _ hb
    simp only [Bool.and_eq_true] at z2
    rw [e, e2]
    exact beq_iff_eq.mp z2.1
  · obtain ⟨a, ha, e⟩ := key x hx
    obtain ⟨b, hb, e2⟩ := key y hy
    have z := h _ ha
    simp only [Bool.and_eq_true] at z
    have z2 := List.all_eq_true.mp z.2.2 _ hb
    simp only [Bool.and_eq_true] at z2
    rw [e, e2]
    exact beq_iff_eq.mp z2.2
def ExAt (mg : Str → Option Value) (ec : Str → Addr) (ns : List Str) : Prop := ∀ x ∈ ns, mg x = some (.ref (ec x))
/-- a class that is raised, its __init__ kept -/
structure Rz0 (P : Program) (w : World) (K : PySem.W.Frag) (mg : Str → Option Value) (base : Heap) (x : Str) (C : Addr) : Prop where
  ex : ∃ (fI : Addr) (fd : FuncData), PySem.W.findIn K (.ref C) "__init__" = some (some (.ref fI)) ∧ PySem.W.typeIn K (.ref fI) = some (.type "function") ∧ FnOk P w K mg base CX0 2 fI fd ["self"] (sp_B0 C x) ∧ Binds K fd ["self"] []
  ox : OexC K C
  at_ : mg x = some (.ref C)
/-- raise .. -/
def sRaise (W : WX) (t : L2.St → Hp → XK → Prop) : TS := fun _ σ H => t σ H fun cls d H' => W cls d σ H'
def tTry (K : PySem.W.Frag) (Wout : WX) (l : List Cl) (tb : WX → TS) : TS := fun D σ H => tb (wAll K Wout D l) D σ H
abbrev W0 : WX := fun _ _ _ _ => False
section
variable {X : Cx} {x at1 : Str} {C : Addr} {p pos pos' : Pos} {W : WX} {e : Expr} {te : TE}
theorem ps_rz0 (hc : X.calm = true) (tk : Takes X W) (R : Rz0 X.prog X.w X.K X.mg X.base x C) (hr : Room 3 X.A) (hg : Gl X x) (hdb : (x == ("__debug__" : Str)) = false := by decide) :
    PS X (.Raise (some (.Call (.Name x p) [] [] pos)) none pos') (sRaise W (tBad C x)) := by
  obtain ⟨fI, fd, h1, h2, h3, h4⟩ := R.ex
  exact ps_raise hc tk (pmk_bad0 R.ox h1 h2 h3 hr h4 hg R.at_ hdb)
theorem ps_tryT {body : List Stmt} {h₀ : ExceptHandler} {hds : List ExceptHandler} {l : List Cl} {tb : WX → TS} {Wout : WX} (hs : X.stack = X.env :: X.outer) (hf : X.env.frame = some X.env.locals) (hN : X.N.Nodup) (tk : Takes X Wout)
    (hb : ∀ (W : WX) (pn : List (Addr × Obj)) (xe : Value → Shared → Prop), Takes (X.tr pn xe) W → PassesOwn (model X.prog X.w) X.A X.env xe → PSs (X.tr pn xe) body (tb W))
    (hh : HdsA X (h₀ :: hds) l) : PS X (.Try body (h₀ :: hds) [] [] pos) (tTry X.K Wout l tb) := ps_try_all hs hf hN tk hb hh
end
section
variable {K : PySem.W.Frag} {ec : Str → Addr} {ns : List Str} {W : WX} {D : Ends} {σ : L2.St} {H : Hp} {C : Addr} {x at1 : Str}
theorem r_raise (h : ∀ d H', Same H H' → H d = none → H' d = some (.xd [("word", .str x)]) → W (.ref C) (some d) σ H') : sRaise W (tBad C x) D σ H := fun d nd => h d _ (same_new nd) nd upd_same
theorem r_try {Wout : WX} {l : List Cl} {tb : WX → TS} (h : tb (wAll K Wout D l) D σ H) : tTry K Wout l tb D σ H := h
/-- the clause is taken -/
theorem w_yes {Wout : WX} {q : Cl} {r : List Cl} {d : Option Addr} {cls : Value} (e : PySem.W.exmOne K cls q.c = some true) (h : ∀ a, H a = none → q.ts a cls d (endsOf D q.slot) (setOf σ a q.slot) H) : wAll K Wout D (q :: r) cls d σ H :=
  ⟨true, e, fun _ => h, fun z => nomatch z⟩
theorem w_no {Wout : WX} {q : Cl} {r : List Cl} {d : Option Addr} {cls : Value} (e : PySem.W.exmOne K cls q.c = some false) (h : wAll K Wout D r cls d σ H) : wAll K Wout D (q :: r) cls d σ H :=
  ⟨false, e, (fun z => nomatch z), fun _ => h⟩
/-- e.f of the caught -/
theorem r_xfV {a : Addr} {d : Addr} {n : Str} {i : Nat} {Q : VK} {fs : List (Str × V)} {v : V} (XF : XfC K C) (hn : PySem.W.findIn K (.ref C) n = some none) (hσ : σ[i]? = some (some (.ref a))) (hd : H d = some (.xd fs)) (hl : fs.lookup n = some v) (q : Q v H) : tXfA K a (.ref C) (some d) n (tVar i) σ H Q :=
  ⟨C, rfl, XF, hn, .ref a, hσ, rfl, rfl, d, fs, v, rfl, hd, hl, q⟩
/-- isinstance(e, c) -/
theorem r_isX {a d : Addr} {c : V} {b : Bool} {fs : List (Str × V)} {Q : VK} (hd : H d = some (.xd fs)) (E : ExcC K C) (io : IsOf K H C c b) (q : Q (.bl b) H) : rIsX K a (.ref C) (some d) [.ref a, c] H Q := ⟨c, C, d, fs, b, rfl, rfl, rfl, hd, E, io, q⟩
theorem is_cls (XS : Exs K ec ns) {y : Str} (hx : x ∈ ns) (hy : y ∈ ns) : IsOf K H (ec x) (.ref (ec y)) (x == y || y == "ChamberError") := .inl ⟨_, fun u r => r, XS.kit x hx y hy⟩
theorem is_VE (XS : Exs K ec ns) (hx : x ∈ ns) : IsOf K H (ec x) (.ty "ValueError") true := .inl ⟨_, fun u r => r, XS.kitV x hx⟩
theorem vals_refs : ∀ {cs : List Addr} {us : List Value}, Vals (cs.map V.ref) us → us = cs.map Value.ref
  | [], _, r => by cases r; rfl
  | c :: cs, _, r => by
    cases r with
    | cons h r =>
      rw [vals_refs r]
      have h : _ = Value.ref c := h
      rw [h]
      rfl
theorem kitAny_names (XS : Exs K ec ns) (hx : x ∈ ns) : ∀ {ys : List Str}, (∀ y ∈ ys, y ∈ ns) → PySem.W.kitAny K (.ref (ec x)) ((ys.map ec).map Value.ref) = some (ys.any fun y => x == y || y == "ChamberError")
  | [], _ => rfl
  | y :: ys, h => by
    have e := XS.kit x hx y (h y List.mem_cons_self)
    have r := kitAny_names XS hx (ys := ys) fun z hz => h z (List.mem_cons_of_mem _ hz)
    rw [List.map_cons, List.map_cons, List.any_cons]
    unfold PySem.W.kitAny
    rw [e]
    cases (x == y || y == "ChamberError") with
    | true => rfl
    | false => rw [Bool.false_or]; exact r
theorem is_tup (XS : Exs K ec ns) (hx : x ∈ ns) {tp : Addr} {ys : List Str} (hy : ∀ y ∈ ys, y ∈ ns) (ht : SqT K H tp ((ys.map ec).map V.ref)) : IsOf K H (ec x) (.ref tp) (ys.any fun y => x == y || y == "ChamberError") :=
  .inr ⟨tp, _, _, rfl, ht, fun us r => vals_refs r, kitAny_names XS hx hy⟩
end
theorem r_callW {sp : Sp} {W : WX} {t : TA} {σ : L2.St} {H : Hp} {Q : VK} (h : t σ H fun vs H1 => sp vs H1 Q (fun cls d H' => W cls d σ H')) : tCallW sp W t σ H Q := h
def PEn (K : PySem.W.Frag) (k : Int) (vs : List V) (H1 : Hp) (R : It → Hp → Prop) : Prop := ∃ a xs, vs = [.ref a] ∧ SqT K H1 a xs ∧ R (IteT K a k) H1
theorem r_enT {K : PySem.W.Frag} {k : Int} {ta : TA} {σ : L2.St} {H : Hp} {R : It → Hp → Prop} (h : ta σ H fun vs H1 => PEn K k vs H1 R) : iEnT K k ta σ H R := h
theorem r_pen {K : PySem.W.Frag} {k : Int} {a : Addr} {xs : List V} {H : Hp} {R : It → Hp → Prop} (h : SqT K H a xs) (q : R (IteT K a k) H) : PEn K k [.ref a] H R := ⟨a, xs, rfl, h, q⟩
theorem r_eqS {K : PySem.W.Frag} {x y : Str} {H : Hp} {Q : VK} (q : Q (.bl (decide (x = y))) H) : rEqU K (.str x) (.str y) H Q := .inl ⟨rfl, by
  have e : decide (V.str x = V.str y) = decide (x = y) := by by_cases h : x = y <;> simp [h]
  rw [e]; exact q⟩
theorem r_neS {K : PySem.W.Frag} {x y : Str} {H : Hp} {Q : VK} (q : Q (.bl (!decide (x = y))) H) : rNeU K (.str x) (.str y) H Q := .inl ⟨rfl, by
  have e : decide (V.str x = V.str y) = decide (x = y) := by by_cases h : x = y <;> simp [h]
  rw [e]; exact q⟩
theorem r_endsAs {D : Ends} {i : Nat} {σ : L2.St} {H : Hp} (h : D.nx (σ.set i none) H) : (endsOf D (some i)).nx σ H := h
def PTp (K : PySem.W.Frag) (x : V) (H1 : Hp) : Prop := ∃ p xs, x = .ref p ∧ SqT K H1 p xs ∧ NoD H1 p
theorem r_BMT {K : PySem.W.Frag} {r : V → List V → Hp → VK → Prop} {to : TE} {t : TA} {σ : L2.St} {H : Hp} {Q : VK} (h : to σ H fun x H1 => PTp K x H1 ∧ t σ H1 fun xs H2 => r x xs H2 Q) : tBMT K r to t σ H Q := h
theorem r_ptp {K : PySem.W.Frag} {p : Addr} {xs : List V} {H : Hp} {A : Prop} (h : SqT K H p xs) (d : NoD H p) (a : A) : PTp K (.ref p) H ∧ A := ⟨⟨p, xs, rfl, h, d⟩, a⟩
theorem ixN_n {n k : Nat} (h : k < n) : ixN n (k : Int) = some k := by
  unfold ixN
  rw [if_pos (by omega), if_pos (by omega)]
  rfl
theorem map_set {bs : List Int} {k : Nat} {x : Int} : (bs.map V.int).set k (.int x) = (bs.set k x).map V.int := by rw [List.map_set]
section
local macro_rules | `(tactic| walk_at "tk") => `(tactic| first
  | assumption
  | ((with_reducible refine' sqT_of ?k); (case k => assumption))
  | ((with_reducible refine' sqT_ofD ?k); (case k => assumption))
  | ((with_reducible refine' noD_of ?k); (case k => assumption))
  | ((with_reducible refine' noD_same ?s ?k); (case s => assumption); (case k => walk_at "tk"))
  | ((with_reducible refine' sqL_of ?k); (case k => assumption))
  | ((with_reducible refine' sqT_same ?s ?k); (case s => assumption); (case k => walk_at "tk"))
  | ((with_reducible refine' sqL_same ?s ?k); (case s => assumption); (case k => walk_at "tk"))
  | ((with_reducible refine' sqT_but ?s ?t ?k); (case s => assumption); (case t => walk_at "tk"); (case k => walk_at "tk"))
  | ((with_reducible refine' sqL_but ?s ?t ?k); (case s => assumption); (case t => walk_at "ne"); (case k => walk_at "tk"))
  | ((with_reducible refine' sqL_of ?k); (case k => walk_at "tk"))
  | ((with_reducible refine' sqT_of ?k); (case k => walk_at "tk"))
  | ((with_reducible refine' at_same ?s ?k); (case s => assumption); (case k => walk_at "tk"))
  | ((with_reducible refine' at_but ?s ?t ?k); (case s => assumption); (case t => walk_at "ne"); (case k => walk_at "tk")))
local macro_rules | `(tactic| walk_at "ne") => `(tactic| first
  | assumption
  | (refine Ne.symm ?_; assumption)
  | exact ne_of_none (by assumption) (by assumption)
  | exact (ne_of_none (by assumption) (by assumption)).symm)
local macro_rules | `(tactic| walk_at "side") => `(tactic| first
  | assumption
  | omega
  | (simp only [sizeLine_eq, List.length_cons, List.length_nil, List.length_map]; omega)
  | (show _ ≤ sizeLine; decide))
local macro_rules | `(tactic| walk_at "kit") => `(tactic| first
  | (show kitB _ _ = some true; decide +kernel)
  | (show kitB _ _ = some false; decide +kernel))
local macro_rules | `(tactic| walk_at "rng") => `(tactic| first
  | (refine ⟨by omega, by omega, by omega, by omega⟩)
  | (refine ⟨by omega, by omega⟩)
  | ((simp only [List.length_map]); (refine ⟨by omega, by omega, by omega, by omega⟩))
  | ((simp only [List.length_map]); (refine ⟨by omega, by omega⟩)))
local macro_rules | `(tactic| walk_at "rd1") => `(tactic| first
  | with_reducible refine r_seq ?_
  | ((with_reducible refine' r_var ?k0 ?_); (case k0 => rfl))
  | with_reducible refine r_op ?_
  | with_reducible refine r_c ?_
  | with_reducible refine r_asg ?_
  | with_reducible refine r_name ?_
  | with_reducible refine r_cons ?_
  | with_reducible refine r_nil ?_
  | with_reducible refine r_CB ?_
  | with_reducible refine r_if ?_
  | with_reducible refine r_test ?_
  | with_reducible refine r_k ?_
  | with_reducible refine r_T ?_
  | with_reducible refine r_F ?_
  | with_reducible refine r_nT ?_
  | with_reducible refine r_nF ?_
  | with_reducible refine r_ret ?_
  | with_reducible refine r_drop ?_
  | with_reducible refine r_next ?_
  | with_reducible refine r_call ?_
  | with_reducible refine r_addI ?_
  | with_reducible refine r_subI ?_
  | with_reducible refine r_ltI ?_
  | with_reducible refine r_gtI ?_
  | with_reducible refine r_leI ?_
  | with_reducible refine r_geI ?_
  | with_reducible refine r_eqI ?_
  | with_reducible refine r_neI ?_
  | with_reducible refine r_int ?_
  | with_reducible refine r_abs ?_
  | with_reducible refine r_not ?_
  | with_reducible refine r_and ?_
  | with_reducible refine r_or ?_
  | with_reducible refine r_tru ?_
  | with_reducible refine r_truB ?_
  | with_reducible refine r_lst ?_
  | with_reducible refine r_tup ?_
  | with_reducible refine r_BM ?_
  | with_reducible refine r_BM0 ?_
  | with_reducible refine r_tyS ?_
  | with_reducible refine r_gsub ?_
  | with_reducible refine r_then ?_
  | with_reducible refine r_lstRg ?_
  | with_reducible refine r_tupRg ?_
  | with_reducible refine r_rg2 ?_
  | with_reducible refine r_rg1 ?_
  | with_reducible refine r_ii ?_
  | with_reducible refine r_i ?_
  | with_reducible refine r_ipI ?_
  | with_reducible refine r_un ?_
  | with_reducible refine r_neg ?_
  | with_reducible refine r_isN ?_
  | with_reducible refine r_notN ?_
  | with_reducible refine r_notV ?_
  | with_reducible refine r_pnot ?_
  | with_reducible refine r_pif ?_
  | with_reducible refine r_andV ?_
  | with_reducible refine r_orV ?_
  | with_reducible refine r_ifE ?_
  | with_reducible refine r_chain ?_
  | with_reducible refine r_sl ?_
  | with_reducible refine r_noPart ?_
  | with_reducible refine r_part ?_
  | with_reducible refine r_brk ?_
  | with_reducible refine r_cont ?_
  | with_reducible refine r_retN ?_
  | with_reducible refine r_truI ?_
  | with_reducible refine r_B ?_
  | with_reducible refine r_for ?_
  | with_reducible refine r_rng1 ?_
  | with_reducible refine r_rng2 ?_
  | with_reducible refine r_rng3 ?_
  | with_reducible refine r_body ?_
  | with_reducible refine r_lc ?_
  | with_reducible refine r_yes ?_
  | ((with_reducible refine' r_mod ?k0 ?_); (case k0 => walk_at "side"))
  | ((with_reducible refine' r_mulI ?k0 ?_); (case k0 => first | exact Or.inl ⟨by omega, by omega⟩ | exact Or.inr ⟨by omega, by omega⟩))
  | ((with_reducible refine' r_lenL ?k0 ?_); (case k0 => walk_at "tk"))
  | ((with_reducible refine' r_lenT ?k0 ?_); (case k0 => walk_at "tk"))
  | ((with_reducible refine' r_truL ?k0 ?_); (case k0 => walk_at "tk"))
  | ((with_reducible refine' r_truT ?k0 ?_); (case k0 => walk_at "tk"))
  | ((with_reducible refine' r_ixL ?k0 ?k1 ?_); (case k0 => walk_at "tk"); (case k1 => first | assumption | rfl))
  | ((with_reducible refine' r_ixT ?k0 ?k1 ?_); (case k0 => walk_at "tk"); (case k1 => first | assumption | rfl))
  | ((with_reducible refine' r_new ?k0 ?_); (case k0 => walk_at "side"))
  | ((with_reducible refine' r_tyL ?k0 ?_); (case k0 => walk_at "tk"))
  | ((with_reducible refine' r_append ?k0 ?k1 ?_); (case k0 => walk_at "tk"); (case k1 => walk_at "side"))
  | ((with_reducible refine' r_setL ?k0 ?k1 ?_); (case k0 => walk_at "tk"); (case k1 => first | assumption | rfl))
  | ((with_reducible refine' r_kTupL ?k0 ?_); (case k0 => walk_at "tk"))
  | ((with_reducible refine' r_kTupT ?k0 ?_); (case k0 => walk_at "tk"))
  | ((with_reducible refine' r_listL ?k0 ?_); (case k0 => walk_at "tk"))
  | ((with_reducible refine' r_listT ?k0 ?_); (case k0 => walk_at "tk"))
  | ((with_reducible refine' r_aug ?k0 ?_); (case k0 => rfl))
  | ((with_reducible refine' r_lenS ?k0 ?_); (case k0 => walk_at "side"))
  | ((with_reducible refine' r_pop ?k0 ?_); (case k0 => walk_at "tk"))
  | ((with_reducible refine' r_pr1 ?k0 ?_); (case k0 => walk_at "rng"))
  | ((with_reducible refine' r_pr2 ?k0 ?_); (case k0 => walk_at "rng"))
  | ((with_reducible refine' r_pr3d ?k0 ?_); (case k0 => walk_at "rng"))
  | ((with_reducible refine' r_isiI ?k0 ?_); (case k0 => walk_at "kit"))
  | ((with_reducible refine' r_isiB ?k0 ?_); (case k0 => walk_at "kit"))
  | ((with_reducible refine' r_isiS ?k0 ?_); (case k0 => walk_at "kit"))
  | ((with_reducible refine' r_isiN ?k0 ?_); (case k0 => walk_at "kit"))
  | ((with_reducible refine' r_isiT ?k0 ?k1 ?_); (case k0 => walk_at "tk"); (case k1 => walk_at "kit"))
  | ((with_reducible refine r_seqT ?_); (repeat (walk_at "rd1")); ((with_reducible refine' r_pseqT ?k0 ?_); (case k0 => walk_at "tk")))
  | ((with_reducible refine r_seqL ?_); (repeat (walk_at "rd1")); ((with_reducible refine' r_pseqL ?k0 ?_); (case k0 => walk_at "tk")))
  | ((with_reducible refine r_seqS ?_); (repeat (walk_at "rd1")); (with_reducible refine r_pseqS ?_)))
local macro_rules | `(tactic| walk_at "rd") => `(tactic| ((repeat (walk_at "rd1")); (try dsimp only)))
/-- alone = isinstance(e, ChamberError) and isinstance(e, ValueError) and not isinstance(e, (A, B)) -/
theorem r_alone {K : PySem.W.Frag} {ec : Str → Addr} {ns : List Str} {σ : L2.St} {H : Hp} {Q : VK} {i : Nat} {a d : Addr} {x A B : Str} {fs : List (Str × V)} (XS : Exs K ec ns) (hx : x ∈ ns) (hC : ("ChamberError" : Str) ∈ ns) (hA : A ∈ ns) (hB : B ∈ ns)
    (nA : (x == A || A == "ChamberError") = false) (nB : (x == B || B == "ChamberError") = false) (hσ : σ[i]? = some (some (V.ref a))) (e : H d = some (.xd fs)) (q : ∀ H', Same H H' → Q (.bl true) H') :
    tAndV (tCB (rIsX K a (.ref (ec x)) (some d)) (tCons (tVar i) (tCons (tC (.ref (ec "ChamberError"))) tNil))) (tAndV (tCB (rIsX K a (.ref (ec x)) (some d)) (tCons (tVar i) (tCons (tC (.ty "ValueError")) tNil)))
      (tNotV (tCB (rIsX K a (.ref (ec x)) (some d)) (tCons (tVar i) (tCons (tTup (tCons (tC (.ref (ec A))) (tCons (tC (.ref (ec B))) tNil))) tNil))))) σ H Q := by
  have BX := XS.bad x hx
  refine r_andV (r_CB (r_cons (r_var hσ (r_cons (r_c (r_nil ?_)))))) 
  refine r_isX (b := true) e BX.ex ?_ ?_
  · have z := is_cls (H := H) XS hx hC
    rw [show (x == "ChamberError" || ("ChamberError" : Str) == "ChamberError") = true by rw [show (("ChamberError" : Str) == "ChamberError") = true by decide, Bool.or_true]] at z
    exact z
  refine r_pif (r_T ?_)
  refine r_andV (r_CB (r_cons (r_var hσ (r_cons (r_c (r_nil ?_))))))
  refine r_isX (b := true) e BX.ex (is_VE XS hx) ?_
  refine r_pif (r_T ?_)
  refine r_notV (r_CB (r_cons (r_var hσ (r_cons ?_))))
  walk_at "rd"
  intro tp H1 ntp s1 e1
  walk_at "rd"
  refine r_isX (b := false) (s1 _ _ e) BX.ex ?_ ?_
  · have z := is_tup (H := H1) XS hx (tp := tp) (ys := [A, B]) (by intro y hy; rcases List.mem_cons.mp hy with rfl | hy; exact hA; rcases List.mem_cons.mp hy with rfl | hy; exact hB; cases hy) (sqT_of e1)
    rw [show ([A, B].any fun y => x == y || y == "ChamberError") = false by simp only [List.any_cons, List.any_nil, nA, nB, Bool.or_false]] at z
    exact z
  exact r_pnot (q H1 s1)
end
end Kb
set_option Elab.async false
set_option linter.all false
set_option maxRecDepth 100000
set_option maxHeartbeats 4000000
namespace Kb
open PySem PySem.Spec PyProof.Rows L2
section
variable {K : PySem.W.Frag} {H : Hp} {Q : VK} {E : XK}
theorem pl_same {H H' : Hp} {p : Addr} (s : Same H H') (h : Pl H p) : Pl H' p := by
  obtain ⟨x, y, z, e⟩ := h
  exact ⟨x, y, z, s _ _ e⟩
theorem size_ints : ∀ r : List Int, Dat.sizes (r.map Dat.int) = r.length
  | [] => rfl
  | x :: r => by
    rw [List.map_cons]
    show Dat.size (.int x) + Dat.sizes (r.map Dat.int) = _
    rw [size_ints r, List.length_cons, show Dat.size (.int x) = 1 from rfl, Nat.add_comm]
theorem sm {a b : Addr} {r : List Int} {n : Nat} (h1 : SqT K H a (r.map V.int)) (h2 : SqT K H b (r.map V.int)) (hR : IsRow r n) (hn : n ≤ 12) (q : ∀ H', Same H H' → Q (.bl true) H') : sp_law_same K [.ref a, .ref b] H Q E :=
  ⟨_, _, .tup (r.map .int), rfl, rp_ints h1, rp_ints h2, by show 1 + Dat.sizes (r.map Dat.int) ≤ _; rw [size_ints, hR.1]; omega, q⟩
end
end Kb
set_option Elab.async false
set_option linter.all false
set_option maxRecDepth 100000
set_option maxHeartbeats 4000000
namespace Kb
open PySem PySem.Spec PyProof.Rows L2
/-- t[::k], k being -1 -/
def PRev (K : PySem.W.Frag) (x : V) (k : Option Int) (H : Hp) (Q : VK) : Prop := k = some (-1) ∧ ∃ a xs, x = .ref a ∧ SqT K H a xs ∧ ∀ p, H p = none → Q (.ref p) (upd H p (.tup xs.reverse))
def tRevU (K : PySem.W.Frag) (te : TE) (tk : TO) : TE := fun σ H Q => te σ H fun x H1 => tk σ H1 fun k H2 => PRev K x k H2 Q
/-- x, y = a, b -/
def PPar (vs : List V) (R : V → V → Prop) : Prop := ∃ v w, vs = [v, w] ∧ R v w
theorem r_par {D : Ends} {σ : L2.St} {H : Hp} {i j : Nat} {ta : TA} (h : ta σ H fun vs H1 => PPar vs fun v w => D.nx ((σ.set i (some v)).set j (some w)) H1) : tPar i j ta D σ H := h
theorem r_parV {v w : V} {R : V → V → Prop} (q : R v w) : PPar [v, w] R := ⟨v, w, rfl, q⟩
theorem r_revU {K : PySem.W.Frag} {te : TE} {tk : TO} {σ : L2.St} {H : Hp} {Q : VK} (h : te σ H fun x H1 => tk σ H1 fun k H2 => PRev K x k H2 Q) : tRevU K te tk σ H Q := h
theorem r_prev {K : PySem.W.Frag} {a : Addr} {xs : List V} {H : Hp} {Q : VK} (h : SqT K H a xs) (q : ∀ p H', H p = none → Same H H' → H' p = some (.tup xs.reverse) → Q (.ref p) H') : PRev K (.ref a) (some (-1)) H Q :=
  ⟨rfl, a, xs, rfl, h, fun p np => q p _ np (same_new np) upd_same⟩
end Kb
set_option Elab.async false
set_option linter.all false
set_option maxRecDepth 100000
set_option Elab.async false
set_option linter.all false
set_option maxRecDepth 100000
set_option maxHeartbeats 4000000
namespace Kb
open PySem PySem.Spec PyProof.Rows L2
local macro_rules | `(tactic| walk_at "tk") => `(tactic| first
  | assumption
  | ((with_reducible refine' sqT_of ?k); (case k => assumption))
  | ((with_reducible refine' sqT_ofD ?k); (case k => assumption))
  | ((with_reducible refine' noD_of ?k); (case k => assumption))
  | ((with_reducible refine' noD_same ?s ?k); (case s => assumption); (case k => walk_at "tk"))
  | ((with_reducible refine' sqL_of ?k); (case k => assumption))
  | ((with_reducible refine' sqT_same ?s ?k); (case s => assumption); (case k => walk_at "tk"))
  | ((with_reducible refine' sqL_same ?s ?k); (case s => assumption); (case k => walk_at "tk"))
  | ((with_reducible refine' sqT_but ?s ?t ?k); (case s => assumption); (case t => walk_at "tk"); (case k => walk_at "tk"))
  | ((with_reducible refine' sqL_but ?s ?t ?k); (case s => assumption); (case t => walk_at "ne"); (case k => walk_at "tk"))
  | ((with_reducible refine' sqL_of ?k); (case k => walk_at "tk"))
  | ((with_reducible refine' sqT_of ?k); (case k => walk_at "tk"))
  | ((with_reducible refine' at_same ?s ?k); (case s => assumption); (case k => walk_at "tk"))
  | ((with_reducible refine' at_but ?s ?t ?k); (case s => assumption); (case t => walk_at "ne"); (case k => walk_at "tk")))
local macro_rules | `(tactic| walk_at "ne") => `(tactic| first
  | assumption
  | (refine Ne.symm ?_; assumption)
  | exact ne_of_none (by assumption) (by assumption)
  | exact (ne_of_none (by assumption) (by assumption)).symm)
local macro_rules | `(tactic| walk_at "side") => `(tactic| first
  | assumption
  | omega
  | (simp only [sizeLine_eq, List.length_cons, List.length_nil, List.length_map]; omega)
  | (show _ ≤ sizeLine; decide))
local macro_rules | `(tactic| walk_at "kit") => `(tactic| first
  | (show kitB _ _ = some true; decide +kernel)
  | (show kitB _ _ = some false; decide +kernel))
local macro_rules | `(tactic| walk_at "rng") => `(tactic| first
  | (refine ⟨by omega, by omega, by omega, by omega⟩)
  | (refine ⟨by omega, by omega⟩)
  | ((simp only [List.length_map]); (refine ⟨by omega, by omega, by omega, by omega⟩))
  | ((simp only [List.length_map]); (refine ⟨by omega, by omega⟩)))
local macro_rules | `(tactic| walk_at "rd1") => `(tactic| first
  | with_reducible refine r_seq ?_
  | ((with_reducible refine' r_var ?k0 ?_); (case k0 => rfl))
  | with_reducible refine r_op ?_
  | with_reducible refine r_c ?_
  | with_reducible refine r_asg ?_
  | with_reducible refine r_name ?_
  | with_reducible refine r_cons ?_
  | with_reducible refine r_nil ?_
  | with_reducible refine r_CB ?_
  | with_reducible refine r_if ?_
  | with_reducible refine r_test ?_
  | with_reducible refine r_k ?_
  | with_reducible refine r_T ?_
  | with_reducible refine r_F ?_
  | with_reducible refine r_nT ?_
  | with_reducible refine r_nF ?_
  | with_reducible refine r_ret ?_
  | with_reducible refine r_drop ?_
  | with_reducible refine r_next ?_
  | with_reducible refine r_call ?_
  | with_reducible refine r_addI ?_
  | with_reducible refine r_subI ?_
  | with_reducible refine r_ltI ?_
  | with_reducible refine r_gtI ?_
  | with_reducible refine r_leI ?_
  | with_reducible refine r_geI ?_
  | with_reducible refine r_eqI ?_
  | with_reducible refine r_neI ?_
  | with_reducible refine r_int ?_
  | with_reducible refine r_abs ?_
  | with_reducible refine r_not ?_
  | with_reducible refine r_and ?_
  | with_reducible refine r_or ?_
  | with_reducible refine r_tru ?_
  | with_reducible refine r_truB ?_
  | with_reducible refine r_lst ?_
  | with_reducible refine r_tup ?_
  | with_reducible refine r_BM ?_
  | with_reducible refine r_BM0 ?_
  | with_reducible refine r_tyS ?_
  | with_reducible refine r_gsub ?_
  | with_reducible refine r_then ?_
  | with_reducible refine r_lstRg ?_
  | with_reducible refine r_tupRg ?_
  | with_reducible refine r_rg2 ?_
  | with_reducible refine r_rg1 ?_
  | with_reducible refine r_ii ?_
  | with_reducible refine r_i ?_
  | with_reducible refine r_ipI ?_
  | with_reducible refine r_un ?_
  | with_reducible refine r_neg ?_
  | with_reducible refine r_isN ?_
  | with_reducible refine r_notN ?_
  | with_reducible refine r_notV ?_
  | with_reducible refine r_pnot ?_
  | with_reducible refine r_pif ?_
  | with_reducible refine r_andV ?_
  | with_reducible refine r_orV ?_
  | with_reducible refine r_ifE ?_
  | with_reducible refine r_chain ?_
  | with_reducible refine r_sl ?_
  | with_reducible refine r_noPart ?_
  | with_reducible refine r_part ?_
  | with_reducible refine r_brk ?_
  | with_reducible refine r_cont ?_
  | with_reducible refine r_retN ?_
  | with_reducible refine r_truI ?_
  | with_reducible refine r_B ?_
  | with_reducible refine r_for ?_
  | with_reducible refine r_rng1 ?_
  | with_reducible refine r_rng2 ?_
  | with_reducible refine r_rng3 ?_
  | with_reducible refine r_body ?_
  | with_reducible refine r_lc ?_
  | with_reducible refine r_yes ?_
  | ((with_reducible refine' r_mod ?k0 ?_); (case k0 => walk_at "side"))
  | ((with_reducible refine' r_mulI ?k0 ?_); (case k0 => first | exact Or.inl ⟨by omega, by omega⟩ | exact Or.inr ⟨by omega, by omega⟩))
  | ((with_reducible refine' r_lenL ?k0 ?_); (case k0 => walk_at "tk"))
  | ((with_reducible refine' r_lenT ?k0 ?_); (case k0 => walk_at "tk"))
  | ((with_reducible refine' r_truL ?k0 ?_); (case k0 => walk_at "tk"))
  | ((with_reducible refine' r_truT ?k0 ?_); (case k0 => walk_at "tk"))
  | ((with_reducible refine' r_ixL ?k0 ?k1 ?_); (case k0 => walk_at "tk"); (case k1 => first | assumption | rfl))
  | ((with_reducible refine' r_ixT ?k0 ?k1 ?_); (case k0 => walk_at "tk"); (case k1 => first | assumption | rfl))
  | ((with_reducible refine' r_new ?k0 ?_); (case k0 => walk_at "side"))
  | ((with_reducible refine' r_tyL ?k0 ?_); (case k0 => walk_at "tk"))
  | ((with_reducible refine' r_append ?k0 ?k1 ?_); (case k0 => walk_at "tk"); (case k1 => walk_at "side"))
  | ((with_reducible refine' r_setL ?k0 ?k1 ?_); (case k0 => walk_at "tk"); (case k1 => first | assumption | rfl))
  | ((with_reducible refine' r_kTupL ?k0 ?_); (case k0 => walk_at "tk"))
  | ((with_reducible refine' r_kTupT ?k0 ?_); (case k0 => walk_at "tk"))
  | ((with_reducible refine' r_listL ?k0 ?_); (case k0 => walk_at "tk"))
  | ((with_reducible refine' r_listT ?k0 ?_); (case k0 => walk_at "tk"))
  | ((with_reducible refine' r_aug ?k0 ?_); (case k0 => rfl))
  | ((with_reducible refine' r_lenS ?k0 ?_); (case k0 => walk_at "side"))
  | ((with_reducible refine' r_pop ?k0 ?_); (case k0 => walk_at "tk"))
  | ((with_reducible refine' r_pr1 ?k0 ?_); (case k0 => walk_at "rng"))
  | ((with_reducible refine' r_pr2 ?k0 ?_); (case k0 => walk_at "rng"))
  | ((with_reducible refine' r_pr3d ?k0 ?_); (case k0 => walk_at "rng"))
  | ((with_reducible refine' r_isiI ?k0 ?_); (case k0 => walk_at "kit"))
  | ((with_reducible refine' r_isiB ?k0 ?_); (case k0 => walk_at "kit"))
  | ((with_reducible refine' r_isiS ?k0 ?_); (case k0 => walk_at "kit"))
  | ((with_reducible refine' r_isiN ?k0 ?_); (case k0 => walk_at "kit"))
  | ((with_reducible refine' r_isiT ?k0 ?k1 ?_); (case k0 => walk_at "tk"); (case k1 => walk_at "kit"))
  | ((with_reducible refine r_seqT ?_); (repeat (walk_at "rd1")); ((with_reducible refine' r_pseqT ?k0 ?_); (case k0 => walk_at "tk")))
  | ((with_reducible refine r_seqL ?_); (repeat (walk_at "rd1")); ((with_reducible refine' r_pseqL ?k0 ?_); (case k0 => walk_at "tk")))
  | ((with_reducible refine r_seqS ?_); (repeat (walk_at "rd1")); (with_reducible refine r_pseqS ?_)))
local macro_rules | `(tactic| walk_at "rd") => `(tactic| ((repeat (walk_at "rd1")); (try dsimp only)))
local macro_rules | `(tactic| walk_at "rd1") => `(tactic| first
  | with_reducible refine r_BMT ?_
  | with_reducible refine r_par ?_
  | with_reducible refine r_parV ?_
  | ((with_reducible refine' r_ptp ?k0 ?k1 ?_); (case k0 => walk_at "tk"); (case k1 => walk_at "tk"))
  | with_reducible refine r_eqS ?_
  | with_reducible refine r_neS ?_
  | with_reducible refine r_callW ?_
  | with_reducible refine r_try ?_
  | with_reducible refine r_enT ?_
  | ((with_reducible refine' r_pen ?k0 ?_); (case k0 => walk_at "tk")))
def sp_check_stage (K : PySem.W.Frag) (ec : Str → Addr) : Sp := fun vs H Q E => ∃ (s : Int), vs = [.int s] ∧ (1 ≤ s ∧ s ≤ 12 → Q .non H) ∧
  (¬ (1 ≤ s ∧ s ≤ 12) → ∀ d H', Same H H' → H d = none → H' d = some (.xd [("word", .str "BadStage")]) → E (.ref (ec "BadStage")) (some d) H')
abbrev N_check_stage : List Str := ["stage"]
def t_check_stage (K : PySem.W.Frag) (ec : Str → Addr) (E : XK) : TS :=
  (tIfS ((tNot ((tTest (tChain (rLeU K) (rLeU K) ((tC (.int 1))) (tVar 0) ((tCB (rLenU K) (tCons ((tC (.str "1234567890ET"))) tNil)))))))) ((sRaise (fun cls d _ H => E cls d H) (tBad (ec "BadStage") "BadStage"))) (tNext))
section
variable {K : PySem.W.Frag} {ec : Str → Addr} {ns : List Str} {vs : List V} {H : Hp} {Q : VK} {E : XK}
theorem len_check_stage (h : sp_check_stage K ec vs H Q E) : vs.length = 1 := by obtain ⟨s, rfl, _⟩ := h; rfl
theorem signs_len : (("1234567890ET" : Str).length : Int) = 12 := by decide
theorem pure_check_stage (XS : Exs K ec ns) (h : sp_check_stage K ec vs H Q E) : t_check_stage K ec E (En Q) (start N_check_stage vs) H := by
  obtain ⟨s, rfl, q, qE⟩ := h
  unfold t_check_stage
  walk_at "rd"
  refine r_ite (fun h1 => ?_) (fun h1 => ?_)
  · walk_at "rd"
    rw [signs_len]
    refine r_iteN (fun h2 => ?_) (fun h2 => ?_)
    · exact r_raise fun d H' s nd e => qE (fun z => h2 z.2) d H' s nd e
    · walk_at "rd"
      exact q ⟨h1, h2⟩
  · walk_at "rd"
    exact r_raise fun d H' s nd e => qE (fun z => h1 z.1) d H' s nd e
end
end Kb
set_option Elab.async false
set_option linter.all false
set_option maxRecDepth 100000
set_option maxHeartbeats 4000000
namespace Kb
open PySem PySem.Spec PyProof.Rows L2
def PDIn (x y : V) (H : Hp) (Q : VK) : Prop := ∃ a o, x = .ref a ∧ DGet H a y o ∧ Q (.bl o.isSome) H
def PDNo (x y : V) (H : Hp) (Q : VK) : Prop := ∃ a o, x = .ref a ∧ DGet H a y o ∧ Q (.bl (!o.isSome)) H
def PDPut (x y v : V) (H : Hp) (N : Hp → Prop) : Prop := ∃ a H4, x = .ref a ∧ DPut H a y v H4 ∧ N H4
def PDGet (x y : V) (H : Hp) (Q : VK) : Prop := ∃ a v, x = .ref a ∧ DGet H a y (some v) ∧ Q v H
section
variable {K : PySem.W.Frag} {D : Ends} {σ : L2.St} {H : Hp} {td ty tv : TE} {Q : VK} {N : Hp → Prop} {v x y : V} {p : Addr} {m n a : Nat}
theorem r_dIn (h : ty σ H fun y H1 => td σ H1 fun x H2 => PDIn x y H2 Q) : tDIn ty td σ H Q := h
theorem r_dNo (h : ty σ H fun y H1 => td σ H1 fun x H2 => PDNo x y H2 Q) : tDNotIn ty td σ H Q := h
theorem r_dPut (h : tv σ H fun v H1 => td σ H1 fun x H2 => ty σ H2 fun y H3 => PDPut x y v H3 fun H4 => D.nx σ H4) : sDPut td ty tv D σ H := h
theorem r_dGet (h : td σ H fun x H1 => ty σ H1 fun y H2 => PDGet x y H2 Q) : tDGet td ty σ H Q := h
end
end Kb
set_option Elab.async false
set_option linter.all false
set_option maxRecDepth 100000
set_option maxHeartbeats 4000000
namespace Kb
open PySem PySem.Spec PyProof.Rows L2 PySem.SeqAt
section
variable {K : PySem.W.Frag} {σ : L2.St} {H : Hp} {te : TE} {Q : VK} {a b : Addr}
theorem r_catL {xs ys : List V} (h1 : H a = some (.lst xs)) (h2 : H b = some (.lst ys)) (hz : xs.length + ys.length ≤ sizeLine) (k : ∀ p H', H p = none → Same H H' → H' p = some (.lst (xs ++ ys)) → Q (.ref p) H') : rAddU K (.ref a) (.ref b) H Q :=
  .inr (.inr (.inl ⟨a, b, xs, ys, rfl, rfl, h1, h2, hz, fun p hp => k p _ hp (same_new hp) upd_same⟩))
end
end Kb
set_option Elab.async false
set_option linter.all false
set_option maxRecDepth 100000
set_option maxHeartbeats 4000000
namespace Kb
open PySem PySem.Spec PyProof.Rows L2 SX PySem.Builtin.Str
section
variable {K : PySem.W.Frag} {D : Ends} {σ : L2.St} {H : Hp} {ta : TA} {te : TE} {tb : TS} {R : It → Hp → Prop} {Q : VK} {z w : Str} {k : Int} {i j : Nat}
/-- for c in text -/
theorem r_forStr (Pv : Nat → L2.St → Hp → Prop) (h0 : Pv 0 σ H)
    (hs : ∀ n c σ' H', z.cps.toList[n]? = some c → Pv n σ' H' → tb { D with nx := Pv (n + 1), ct := Pv (n + 1), bk := D.nx } (σ'.set j (some (.str ⟨#[c]⟩))) H')
    (hd : ∀ σ' H', Pv z.cps.toList.length σ' H' → D.nx σ' H') : PFor (Its z) (gName j) tb D σ H := by
  refine ⟨fun n m σ' H' => m = z.cps.size - n ∧ n ≤ z.cps.size ∧ Pv n σ' H', ⟨_, rfl, Nat.zero_le _, h0⟩, ?_⟩
  rintro n m σ' H' ⟨rfl, hn, p⟩
  by_cases hlt : n < z.cps.size
  · refine .inr ⟨hlt, Pv (n + 1), fun σ2 H2 p2 => ⟨_, by omega, rfl, hlt, p2⟩, ?_⟩
    rintro x H2 ⟨rfl, c, hc, rfl⟩
    exact hs n c σ' _ (by rw [Array.getElem?_toList]; exact hc) p
  · have e : n = z.cps.size := by omega
    subst e
    exact .inl ⟨Nat.le_refl _, hd σ' H' (by rw [Array.length_toList]; exact p)⟩
end
def rFind : V → List V → Hp → VK → Prop := fun x xs H Q => ∃ a b, x = .str a ∧ xs = [.str b] ∧ Q (.int (Txt.find a b)) H
def rJoin (K : PySem.W.Frag) : V → List V → Hp → VK → Prop := fun x xs H Q => ∃ a p, ∃ ys : List Str, x = .str a ∧ xs = [.ref p] ∧ (SqL K H p (ys.map V.str) ∨ SqT K H p (ys.map V.str)) ∧ (ys.map (·.length)).sum + ys.length * a.length ≤ 16777216 ∧ Q (.str (Txt.join a ys)) H
def rLower : V → List V → Hp → VK → Prop := fun x xs H Q => ∃ a, x = .str a ∧ xs = [] ∧ a.length ≤ 5592405 ∧ Q (.str (Txt.lower a)) H
def rCountS : V → List V → Hp → VK → Prop := fun x xs H Q => ∃ a b, x = .str a ∧ xs = [.str b] ∧ Q (.int (Txt.count a b)) H
section
variable {K : PySem.W.Frag} {H : Hp} {Q : VK} {a : Addr} {z w : Str} {y : V}
/-- where the sign c stands in l, or -1 -/
def fnd (l : List Nat) (c : Nat) : Int := match l.findIdx? (· == c) with | some i => (i : Int) | none => -1
theorem sub_sign {l : List Nat} {c i : Nat} (h : i < l.length) : subAt (S l) (S [c]) i = true ↔ l[i]? = some c := by
  rw [List.getElem?_eq_getElem h]
  simp [subAt, S, Str.length]
  rw [List.drop_eq_getElem_cons h, List.take_succ_cons, List.take_zero]
  simp
theorem find_S (l : List Nat) (c : Nat) : Txt.find (S l) ⟨#[c]⟩ = fnd l c := by
  have L1 : (S [c]).length = 1 := rfl
  have L2 : (S l).length = l.length := S_len l
  rcases find_whole (S l) (S [c]) with ⟨e, hn⟩ | ⟨i, e, hi, hn⟩
  · rw [show Txt.find (S l) ⟨#[c]⟩ = -1 from e]
    unfold fnd
    have : l.findIdx? (· == c) = none := by
      rw [List.findIdx?_eq_none_iff]
      intro x hx
      by_cases z : x = c
      · subst z
        obtain ⟨j, hj, rfl⟩ := List.mem_iff_getElem.mp hx
        exact absurd ⟨by rw [L1, L2]; omega, (sub_sign hj).mpr (List.getElem?_eq_getElem hj)⟩ (hn j)
      · simpa using z
    rw [this]
  · rw [show Txt.find (S l) ⟨#[c]⟩ = (i : Int) from e]
    unfold fnd
    have hil : i < l.length := by have := hi.1; rw [L1, L2] at this; omega
    have : l.findIdx? (· == c) = some i := by
      rw [List.findIdx?_eq_some_iff_getElem]
      have e2 := (sub_sign hil).mp hi.2
      rw [List.getElem?_eq_getElem hil] at e2
      refine ⟨hil, by simpa using e2, fun j hj => ?_⟩
      have hjl : j < l.length := by omega
      by_cases z : l[j] = c
      · exact absurd ⟨by rw [L1, L2]; omega, (sub_sign hjl).mpr (by rw [List.getElem?_eq_getElem hjl, z])⟩ (hn j hj)
      · simpa using z
    rw [this]
theorem r_find {l : List Nat} {c : Nat} (e : z.cps.toList = l) (q : Q (.int (fnd l c)) H) : rFind (.str z) [.str ⟨#[c]⟩] H Q := by
  refine ⟨z, _, rfl, rfl, ?_⟩
  subst e
  have := find_S z.cps.toList c
  rw [S_tl] at this
  rw [this]
  exact q
theorem joinL_nil : ∀ ys : List (List Nat), TL.joinL [] ys = ys.flatten
  | [] => rfl
  | [a] => by simp [TL.joinL]
  | a :: b :: r => by
    have := joinL_nil (b :: r)
    simp only [TL.joinL, List.flatten_cons] at *
    rw [this]
    simp
/-- ''.join of a list of texts -/
theorem r_join {ys : List (List Nat)} (h : SqL K H a (ys.map fun y => V.str (S y))) (hz : ys.flatten.length ≤ 16777216) (q : Q (.str (S ys.flatten)) H) : rJoin K (.str ⟨#[]⟩) [.ref a] H Q := by
  refine ⟨_, a, ys.map S, rfl, rfl, .inl (by rw [List.map_map]; exact h), ?_, ?_⟩
  · rw [lens, show (⟨#[]⟩ : Str).length = 0 from rfl, Nat.mul_zero, Nat.add_zero]
    rw [List.length_flatten] at hz
    exact hz
  · have := join_S [] ys
    rw [joinL_nil] at this
    rw [show (⟨#[]⟩ : Str) = S [] from rfl, this]
    exact q
end
end Kb
set_option Elab.async false
set_option linter.all false
set_option maxRecDepth 100000
set_option maxHeartbeats 4000000
namespace Kb
open PySem PySem.Spec PyProof.Rows L2 SX
def cutA {α : Type} (xs : List α) (lo hi : Option Int) : List α := (xs.drop (HT.sIx xs.length 0 lo)).take (HT.sIx xs.length xs.length hi - HT.sIx xs.length 0 lo)
section
variable {K : PySem.W.Frag} {H H' : Hp} {Q : VK} {E : XK} {p a b l : Addr} {m : Int} {ns ms : List Int} {xs ys : List V} {lo hi : Option Int}
theorem cut_map {α : Type} (f : α → V) (ns : List α) : cutV (ns.map f) lo hi = (cutA ns lo hi).map f := by
  unfold cutV cutA
  rw [List.length_map, List.map_take, List.map_drop]
theorem cutA_len {α : Type} (ns : List α) : (cutA ns lo hi).length ≤ ns.length := by
  unfold cutA
  rw [List.length_take, List.length_drop]; omega
theorem cutA_whole {α : Type} {ns : List α} (h : HT.sIx ns.length 0 lo = 0 ∧ HT.sIx ns.length ns.length hi = ns.length) : cutA ns lo hi = ns := by
  unfold cutA
  rw [h.1, h.2, List.drop_zero, Nat.sub_zero, List.take_length]
/-- a slice of a tuple: the tuple itself or a new one -/
theorem r_slT (h : SqT K H a xs) (q : ∀ p H', Same H H' → SqT K H' p (cutA xs lo hi) → Q (.ref p) H') : rSlU K (.ref a) lo hi H Q := by
  refine .inr (.inl ⟨a, xs, rfl, h, fun z => q a H (Same.refl _) (by rw [cutA_whole z]; exact h), fun _ p hp => q p _ (same_new hp) (sqT_of ?_)⟩)
  rw [upd_same]
  have := cut_map (lo := lo) (hi := hi) id xs
  rw [List.map_id, List.map_id] at this
  rw [this]
theorem r_slI (h : SqT K H a (ns.map V.int)) (q : ∀ p H', Same H H' → SqT K H' p ((cutA ns lo hi).map V.int) → Q (.ref p) H') : rSlU K (.ref a) lo hi H Q :=
  r_slT h fun p H' s e => q p H' s (by rw [← cut_map]; have := cut_map (lo := lo) (hi := hi) id (ns.map V.int); rw [List.map_id, List.map_id] at this; rw [this]; exact e)
theorem r_catTT (h1 : SqT K H a xs) (h2 : SqT K H b ys) (hz : xs.length + ys.length ≤ sizeLine) (q : ∀ p H', Same H H' → SqT K H' p (xs ++ ys) → Q (.ref p) H') : rAddU K (.ref a) (.ref b) H Q := by
  refine .inr (.inr (.inr ⟨a, b, xs, ys, rfl, rfl, h1, h2, hz, fun e => ?_, fun _ e => ?_, fun _ _ p hp => ?_⟩))
  · exact q b H (Same.refl _) (by rw [e]; exact h2)
  · exact q a H (Same.refl _) (by rw [e, List.append_nil]; exact h1)
  · exact q p _ (same_new hp) (sqT_of upd_same)
theorem r_catII (h1 : SqT K H a (ns.map V.int)) (h2 : SqT K H b (ms.map V.int)) (hz : ns.length + ms.length ≤ 16000000) (q : ∀ p H', Same H H' → SqT K H' p ((ns ++ ms).map V.int) → Q (.ref p) H') : rAddU K (.ref a) (.ref b) H Q :=
  r_catTT h1 h2 (by rw [List.length_map, List.length_map, sizeLine_eq]; omega) fun p H' s e => q p H' s (by rw [List.map_append]; exact e)
theorem r_draw (hp : Pl H p) (h0 : 0 < m) (h1 : m < 2 ^ 200) (q : ∀ v H', 0 ≤ v → v < m → But p H H' → Pl H' p → Q (.int v) H') : sp_law_draw K ([.ref p, .int m] ++ []) H Q E := ⟨p, m, rfl, hp, h0, h1, q⟩
theorem sqT_pl (b : But p H H') (hp : Pl H p) (h : SqT K H a xs) : SqT K H' a xs := by
  obtain ⟨x, y, z, e⟩ := hp
  exact sqT_but b e h
theorem ne_pl (hn : H l = none) (hp : Pl H p) : l ≠ p := by
  obtain ⟨x, y, z, e⟩ := hp
  exact (ne_of_none e hn).symm
theorem pl_butL (b : But l H H') (n : p ≠ l) (h : Pl H p) : Pl H' p := by
  obtain ⟨x, y, z, e⟩ := h
  exact ⟨x, y, z, b _ _ n e⟩
theorem free_but (b : But p H H') (n : a ≠ p) (h : H' a = none) : H a = none := by
  cases e : H a with
  | none => rfl
  | some u => rw [b _ _ n e] at h; cases h
theorem rp_pl {v : V} {d : Dat} (b : But p H H') (hp : Pl H p) (h : Rp K H v d) : Rp K H' v d := by
  obtain ⟨x, y, z, e⟩ := hp
  exact rp_but b e h
theorem sqI_of (h : H a = some (.tup (ns.map V.int))) : SqT K H a (ns.map V.int) := sqT_of h
theorem sqI_0 (h : H a = some (.tup [])) : SqT K H a (([] : List Int).map V.int) := sqT_of h
theorem sqI_1 {i : Int} (h : H a = some (.tup [.int i])) : SqT K H a ([i].map V.int) := sqT_of h
theorem sqI_D (h : ∃ o : Obj, H a = some (.frz o (.tup (ns.map V.int))) ∧ o.dict = none) : SqT K H a (ns.map V.int) := sqT_ofD h
theorem S_eqD {a : List Nat} {z : Str} : decide (S a = z) = decide (a = z.cps.toList) := by
  have : S a = z ↔ a = z.cps.toList := ⟨fun h => by rw [← h], fun h => by rw [h]⟩
  exact decide_eq_decide.mpr this
theorem cutS_S (l : List Nat) : cutS (S l) lo hi = S (cutA l lo hi) := by
  unfold cutS cutA
  rw [S_len]
theorem r_slS {l : List Nat} (hz : l.length ≤ 16000000) (q : Q (.str (S (cutA l lo hi))) H) : rSlU K (.str (S l)) lo hi H Q :=
  .inr (.inr ⟨S l, rfl, by rw [S_len, sizeLine_eq]; omega, by rw [cutS_S]; exact q⟩)
theorem cutA_take {α : Type} {ns : List α} {k : Nat} : cutA ns none (some (k : Int)) = ns.take k := by
  unfold cutA
  rw [HT.sIx_nat, HT.sIx_none, List.drop_zero, Nat.sub_zero]
  by_cases h : k ≤ ns.length
  · rw [Nat.min_eq_left h]
  · rw [Nat.min_eq_right (by omega), List.take_of_length_le (Nat.le_refl _), List.take_of_length_le (by omega)]
theorem r_lenSS {l : List Nat} (hz : l.length ≤ 16000000) (q : Q (.int (l.length : Int)) H) : rLenU K [.str (S l)] H Q := r_lenS (by rw [S_len, sizeLine_eq]; omega) (by rw [S_len]; exact q)
theorem r_addSS {a b : List Nat} (hz : a.length + b.length ≤ 16000000) (q : Q (.str (S (a ++ b))) H) : rAddU K (.str (S a)) (.str (S b)) H Q := r_addS (by rw [S_len, S_len, sizeLine_eq]; omega) (by rw [S_cat]; exact q)
theorem r_ixSS {l : List Nat} {c : Nat} (hz : l.length ≤ 16000000) (ha : atI l m = some c) (q : Q (.str (S [c])) H) : rIx K (.str (S l)) (.int m) H Q := r_ixS (by rw [S_len, sizeLine_eq]; omega) ha q
end
end Kb
set_option linter.all false
namespace Kb
/-- the rest of a change of n behind the place last -/
def isC (n last : Int) : List Int → Bool
  | [] => decide ((n - last) % 2 = 0)
  | p :: r => decide (last < p) && (decide (p ≤ n) && (!decide ((p - last) % 2 = 0) && isC n p r))
def Chg (n : Int) (cs : List Int) : Prop := isC n 0 cs = true
/-- behind the members of cs, one by one -/
def okC (n : Int) (last : Int) : List Int → Bool
  | [] => true
  | p :: r => decide (last < p) && (decide (p ≤ n) && (!decide ((p - last) % 2 = 0) && okC n p r))
def lastC (last : Int) : List Int → Int
  | [] => last
  | p :: r => lastC p r
theorem isC_iff {n : Int} : ∀ {cs : List Int} {last : Int}, isC n last cs = true ↔ okC n last cs = true ∧ (n - lastC last cs) % 2 = 0
  | [], last => by simp [isC, okC, lastC]
  | p :: r, last => by
    have := isC_iff (n := n) (cs := r) (last := p)
    simp only [isC, okC, lastC, Bool.and_eq_true]
    rw [this]
    constructor
    · rintro ⟨a, b, c, d, e⟩; exact ⟨⟨a, b, c, d⟩, e⟩
    · rintro ⟨⟨a, b, c, d⟩, e⟩; exact ⟨a, b, c, d, e⟩
theorem lastC_snoc {x : Int} : ∀ {cs : List Int} {last : Int}, lastC last (cs ++ [x]) = x
  | [], _ => rfl
  | p :: r, _ => lastC_snoc (cs := r) (last := p)
theorem okC_mem {n : Int} : ∀ {cs : List Int} {last : Int}, okC n last cs = true → ∀ x ∈ cs, last < x ∧ x ≤ n
  | [], _, _, x, hx => nomatch hx
  | p :: r, last, h, x, hx => by
    simp only [okC, Bool.and_eq_true, decide_eq_true_eq] at h
    rcases List.mem_cons.mp hx with rfl | hx
    · exact ⟨h.1, h.2.1⟩
    · have := okC_mem h.2.2.2 x hx
      omega
theorem okC_len {n : Int} : ∀ {cs : List Int} {last : Int}, 0 ≤ last → last ≤ n → okC n last cs = true → (cs.length : Int) + last ≤ n
  | [], _, _, h, _ => by simpa using h
  | p :: r, last, h0, _, h => by
    simp only [okC, Bool.and_eq_true, decide_eq_true_eq] at h
    have := okC_len (cs := r) (last := p) (by omega) h.2.1 h.2.2.2
    simp only [List.length_cons]
    omega
theorem Chg.mem {n : Int} {cs : List Int} (h : Chg n cs) : ∀ x ∈ cs, 1 ≤ x ∧ x ≤ n := fun x hx => by
  have := okC_mem (isC_iff.mp h).1 x hx
  omega
theorem Chg.len {n : Int} {cs : List Int} (h : Chg n cs) (hn : 0 ≤ n) : (cs.length : Int) ≤ n := by
  have := okC_len (Int.le_refl 0) hn (isC_iff.mp h).1
  omega
def signsL : List Nat := [49, 50, 51, 52, 53, 54, 55, 56, 57, 48, 69, 84]
def sgAt (p : Int) : Nat := signsL.getD (p - 1).toNat 0
end Kb
set_option Elab.async false
set_option linter.all false
set_option maxRecDepth 100000
set_option maxHeartbeats 4000000
namespace Kb
open PySem PySem.Spec PyProof.Rows L2 SX
local macro_rules | `(tactic| walk_at "tk") => `(tactic| first
  | assumption
  | ((with_reducible refine' sqT_of ?k); (case k => assumption))
  | ((with_reducible refine' sqT_ofD ?k); (case k => assumption))
  | ((with_reducible refine' noD_of ?k); (case k => assumption))
  | ((with_reducible refine' noD_same ?s ?k); (case s => assumption); (case k => walk_at "tk"))
  | ((with_reducible refine' sqL_of ?k); (case k => assumption))
  | ((with_reducible refine' sqT_same ?s ?k); (case s => assumption); (case k => walk_at "tk"))
  | ((with_reducible refine' sqL_same ?s ?k); (case s => assumption); (case k => walk_at "tk"))
  | ((with_reducible refine' sqT_but ?s ?t ?k); (case s => assumption); (case t => walk_at "tk"); (case k => walk_at "tk"))
  | ((with_reducible refine' sqL_but ?s ?t ?k); (case s => assumption); (case t => walk_at "ne"); (case k => walk_at "tk"))
  | ((with_reducible refine' sqL_of ?k); (case k => walk_at "tk"))
  | ((with_reducible refine' sqT_of ?k); (case k => walk_at "tk"))
  | ((with_reducible refine' at_same ?s ?k); (case s => assumption); (case k => walk_at "tk"))
  | ((with_reducible refine' at_but ?s ?t ?k); (case s => assumption); (case t => walk_at "ne"); (case k => walk_at "tk")))
local macro_rules | `(tactic| walk_at "ne") => `(tactic| first
  | assumption
  | (refine Ne.symm ?_; assumption)
  | exact ne_of_none (by assumption) (by assumption)
  | exact (ne_of_none (by assumption) (by assumption)).symm)
local macro_rules | `(tactic| walk_at "side") => `(tactic| first
  | assumption
  | omega
  | (simp only [sizeLine_eq, List.length_cons, List.length_nil, List.length_map]; omega)
  | (show _ ≤ sizeLine; decide))
local macro_rules | `(tactic| walk_at "kit") => `(tactic| first
  | (show kitB _ _ = some true; decide +kernel)
  | (show kitB _ _ = some false; decide +kernel))
local macro_rules | `(tactic| walk_at "rng") => `(tactic| first
  | (refine ⟨by omega, by omega, by omega, by omega⟩)
  | (refine ⟨by omega, by omega⟩)
  | ((simp only [List.length_map]); (refine ⟨by omega, by omega, by omega, by omega⟩))
  | ((simp only [List.length_map]); (refine ⟨by omega, by omega⟩)))
local macro_rules | `(tactic| walk_at "rd1") => `(tactic| first
  | with_reducible refine r_seq ?_
  | ((with_reducible refine' r_var ?k0 ?_); (case k0 => rfl))
  | with_reducible refine r_op ?_
  | with_reducible refine r_c ?_
  | with_reducible refine r_asg ?_
  | with_reducible refine r_name ?_
  | with_reducible refine r_cons ?_
  | with_reducible refine r_nil ?_
  | with_reducible refine r_CB ?_
  | with_reducible refine r_if ?_
  | with_reducible refine r_test ?_
  | with_reducible refine r_k ?_
  | with_reducible refine r_T ?_
  | with_reducible refine r_F ?_
  | with_reducible refine r_nT ?_
  | with_reducible refine r_nF ?_
  | with_reducible refine r_ret ?_
  | with_reducible refine r_drop ?_
  | with_reducible refine r_next ?_
  | with_reducible refine r_call ?_
  | with_reducible refine r_addI ?_
  | with_reducible refine r_subI ?_
  | with_reducible refine r_ltI ?_
  | with_reducible refine r_gtI ?_
  | with_reducible refine r_leI ?_
  | with_reducible refine r_geI ?_
  | with_reducible refine r_eqI ?_
  | with_reducible refine r_neI ?_
  | with_reducible refine r_int ?_
  | with_reducible refine r_abs ?_
  | with_reducible refine r_not ?_
  | with_reducible refine r_and ?_
  | with_reducible refine r_or ?_
  | with_reducible refine r_tru ?_
  | with_reducible refine r_truB ?_
  | with_reducible refine r_lst ?_
  | with_reducible refine r_tup ?_
  | with_reducible refine r_BM ?_
  | with_reducible refine r_BM0 ?_
  | with_reducible refine r_tyS ?_
  | with_reducible refine r_gsub ?_
  | with_reducible refine r_then ?_
  | with_reducible refine r_lstRg ?_
  | with_reducible refine r_tupRg ?_
  | with_reducible refine r_rg2 ?_
  | with_reducible refine r_rg1 ?_
  | with_reducible refine r_ii ?_
  | with_reducible refine r_i ?_
  | with_reducible refine r_ipI ?_
  | with_reducible refine r_un ?_
  | with_reducible refine r_neg ?_
  | with_reducible refine r_isN ?_
  | with_reducible refine r_notN ?_
  | with_reducible refine r_notV ?_
  | with_reducible refine r_pnot ?_
  | with_reducible refine r_pif ?_
  | with_reducible refine r_andV ?_
  | with_reducible refine r_orV ?_
  | with_reducible refine r_ifE ?_
  | with_reducible refine r_chain ?_
  | with_reducible refine r_sl ?_
  | with_reducible refine r_noPart ?_
  | with_reducible refine r_part ?_
  | with_reducible refine r_brk ?_
  | with_reducible refine r_cont ?_
  | with_reducible refine r_retN ?_
  | with_reducible refine r_truI ?_
  | with_reducible refine r_B ?_
  | with_reducible refine r_for ?_
  | with_reducible refine r_rng1 ?_
  | with_reducible refine r_rng2 ?_
  | with_reducible refine r_rng3 ?_
  | with_reducible refine r_body ?_
  | with_reducible refine r_lc ?_
  | with_reducible refine r_yes ?_
  | ((with_reducible refine' r_mod ?k0 ?_); (case k0 => walk_at "side"))
  | ((with_reducible refine' r_mulI ?k0 ?_); (case k0 => first | exact Or.inl ⟨by omega, by omega⟩ | exact Or.inr ⟨by omega, by omega⟩))
  | ((with_reducible refine' r_lenL ?k0 ?_); (case k0 => walk_at "tk"))
  | ((with_reducible refine' r_lenT ?k0 ?_); (case k0 => walk_at "tk"))
  | ((with_reducible refine' r_truL ?k0 ?_); (case k0 => walk_at "tk"))
  | ((with_reducible refine' r_truT ?k0 ?_); (case k0 => walk_at "tk"))
  | ((with_reducible refine' r_ixL ?k0 ?k1 ?_); (case k0 => walk_at "tk"); (case k1 => first | assumption | rfl))
  | ((with_reducible refine' r_ixT ?k0 ?k1 ?_); (case k0 => walk_at "tk"); (case k1 => first | assumption | rfl))
  | ((with_reducible refine' r_new ?k0 ?_); (case k0 => walk_at "side"))
  | ((with_reducible refine' r_tyL ?k0 ?_); (case k0 => walk_at "tk"))
  | ((with_reducible refine' r_append ?k0 ?k1 ?_); (case k0 => walk_at "tk"); (case k1 => walk_at "side"))
  | ((with_reducible refine' r_setL ?k0 ?k1 ?_); (case k0 => walk_at "tk"); (case k1 => first | assumption | rfl))
  | ((with_reducible refine' r_kTupL ?k0 ?_); (case k0 => walk_at "tk"))
  | ((with_reducible refine' r_kTupT ?k0 ?_); (case k0 => walk_at "tk"))
  | ((with_reducible refine' r_listL ?k0 ?_); (case k0 => walk_at "tk"))
  | ((with_reducible refine' r_listT ?k0 ?_); (case k0 => walk_at "tk"))
  | ((with_reducible refine' r_aug ?k0 ?_); (case k0 => rfl))
  | ((with_reducible refine' r_lenS ?k0 ?_); (case k0 => walk_at "side"))
  | ((with_reducible refine' r_pop ?k0 ?_); (case k0 => walk_at "tk"))
  | ((with_reducible refine' r_pr1 ?k0 ?_); (case k0 => walk_at "rng"))
  | ((with_reducible refine' r_pr2 ?k0 ?_); (case k0 => walk_at "rng"))
  | ((with_reducible refine' r_pr3d ?k0 ?_); (case k0 => walk_at "rng"))
  | ((with_reducible refine' r_isiI ?k0 ?_); (case k0 => walk_at "kit"))
  | ((with_reducible refine' r_isiB ?k0 ?_); (case k0 => walk_at "kit"))
  | ((with_reducible refine' r_isiS ?k0 ?_); (case k0 => walk_at "kit"))
  | ((with_reducible refine' r_isiN ?k0 ?_); (case k0 => walk_at "kit"))
  | ((with_reducible refine' r_isiT ?k0 ?k1 ?_); (case k0 => walk_at "tk"); (case k1 => walk_at "kit"))
  | ((with_reducible refine r_seqT ?_); (repeat (walk_at "rd1")); ((with_reducible refine' r_pseqT ?k0 ?_); (case k0 => walk_at "tk")))
  | ((with_reducible refine r_seqL ?_); (repeat (walk_at "rd1")); ((with_reducible refine' r_pseqL ?k0 ?_); (case k0 => walk_at "tk")))
  | ((with_reducible refine r_seqS ?_); (repeat (walk_at "rd1")); (with_reducible refine r_pseqS ?_)))
local macro_rules | `(tactic| walk_at "rd") => `(tactic| ((repeat (walk_at "rd1")); (try dsimp only)))
local macro_rules | `(tactic| walk_at "rd1") => `(tactic| first
  | with_reducible refine r_BMT ?_
  | with_reducible refine r_par ?_
  | with_reducible refine r_parV ?_
  | ((with_reducible refine' r_ptp ?k0 ?k1 ?_); (case k0 => walk_at "tk"); (case k1 => walk_at "tk"))
  | with_reducible refine r_eqS ?_
  | with_reducible refine r_neS ?_
  | with_reducible refine r_callW ?_
  | with_reducible refine r_try ?_
  | with_reducible refine r_enT ?_
  | ((with_reducible refine' r_pen ?k0 ?_); (case k0 => walk_at "tk")))
local macro_rules | `(tactic| walk_at "pl0") => `(tactic| first
  | assumption
  | exact pl_same (by assumption) (by assumption)
  | exact pl_same (by assumption) (pl_same (by assumption) (by assumption))
  | exact pl_same (by assumption) (pl_same (by assumption) (pl_same (by assumption) (by assumption))))
local macro_rules | `(tactic| walk_at "pl") => `(tactic| first
  | walk_at "pl0"
  | ((with_reducible refine' pl_butL ?s ?n ?k); (case s => assumption); (case n => walk_at "ne"); (case k => walk_at "pl"))
  | ((with_reducible refine' pl_same ?s ?k); (case s => assumption); (case k => walk_at "pl")))
local macro_rules | `(tactic| walk_at "ne") => `(tactic| first
  | exact ne_pl (by assumption) (by walk_at "pl0")
  | exact (ne_pl (by assumption) (by walk_at "pl0")).symm)
local macro_rules | `(tactic| walk_at "fr") => `(tactic| first
  | assumption
  | ((with_reducible refine' free_but ?b ?n ?h); (case h => assumption); (case n => walk_at "ne"); (case b => walk_at "but"))
  | ((with_reducible refine' Same.free ?b ?h); (case h => assumption); (case b => walk_at "same")))
local macro_rules | `(tactic| walk_at "but") => `(tactic| first
  | assumption
  | exact But.refl
  | ((with_reducible refine' But.trans ?a ?b); (case b => assumption); (case a => walk_at "but"))
  | ((with_reducible refine' But.trans ?a (Same.but ?b)); (case b => assumption); (case a => walk_at "but"))
  | ((with_reducible refine' but_via ?a ?b ?c); (case b => assumption); (case c => walk_at "fr"); (case a => walk_at "but")))
local macro_rules | `(tactic| walk_at "same") => `(tactic| first
  | assumption
  | exact Same.refl _
  | ((with_reducible refine' Same.trans ?a ?b); (case b => assumption); (case a => walk_at "same"))
  | ((with_reducible refine' same_but ?a ?b ?c); (case b => assumption); (case c => walk_at "fr"); (case a => walk_at "same")))
local macro_rules | `(tactic| walk_at "tk") => `(tactic| first
  | ((with_reducible refine' sqT_pl ?s ?t ?k); (case s => assumption); (case t => walk_at "pl0"); (case k => walk_at "tk"))
  | ((with_reducible refine' rp_same ?s ?k); (case s => assumption); (case k => walk_at "tk"))
  | ((with_reducible refine' rp_pl ?s ?t ?k); (case s => assumption); (case t => walk_at "pl0"); (case k => walk_at "tk")))
local macro_rules | `(tactic| walk_at "it") => `(tactic| first
  | assumption
  | ((with_reducible refine' sqI_1 ?k); (case k => assumption))
  | ((with_reducible refine' sqI_0 ?k); (case k => assumption))
  | ((with_reducible refine' sqI_of ?k); (case k => assumption))
  | ((with_reducible refine' sqI_D ?k); (case k => assumption))
  | ((with_reducible refine' sqT_same ?s ?k); (case s => assumption); (case k => walk_at "it"))
  | ((with_reducible refine' sqT_but ?s ?t ?k); (case s => assumption); (case t => assumption); (case k => walk_at "it"))
  | ((with_reducible refine' sqT_pl ?s ?t ?k); (case s => assumption); (case t => walk_at "pl0"); (case k => walk_at "it")))
local macro_rules | `(tactic| walk_at "sz") => `(tactic| first | omega | ((try simp only [List.length_cons, List.length_nil] at *); omega))
local macro_rules | `(tactic| walk_at "au1") => `(tactic| first
  | walk_at "rd1"
  | ((with_reducible refine' r_draw ?k0 ?k1 ?k2 ?_); (case k0 => walk_at "pl"); (case k1 => omega); (case k2 => omega); (intro _ _ _ _ _ _))
  | ((with_reducible refine' r_slN ?k0 ?_); (case k0 => walk_at "it"); (intro _ _ _ _ _ _))
  | ((with_reducible refine' r_catN ?k0 ?k1 ?k2 ?_); (case k0 => walk_at "it"); (case k1 => walk_at "it"); (case k2 => walk_at "sz"); (intro _ _ _ _ _ _))
  | ((with_reducible refine' r_pow ?k0 ?_); (case k0 => exact ⟨by decide, by decide, by decide⟩))
  | ((with_reducible refine' r_ixI ?k0 ?k1 ?k2 ?_); (case k0 => walk_at "it"); (case k1 => omega); (case k2 => omega); (intro _ _))
  | ((with_reducible refine' r_setI ?k0 ?k1 ?k2 ?_); (case k0 => walk_at "tk"); (case k1 => omega); (case k2 => omega); (intro _ _ _ _ _))
  | ((with_reducible refine' r_kTupI ?k0 ?_); (case k0 => walk_at "tk"); (intro _ _ _ _ _))
  | ((with_reducible refine' r_listI ?k0 ?_); (case k0 => walk_at "it"); (intro _ _ _ _ _))
  | (with_reducible refine r_revU ?_)
  | ((with_reducible refine' r_prevN ?k0 ?_); (case k0 => walk_at "it"); (intro _ _ _ _ _ _))
  | (intro _ _ _ _ _))
local macro_rules | `(tactic| walk_at "go") => `(tactic| ((repeat (walk_at "au1")); (first
  | ((with_reducible refine r_ite (fun _ => ?_) (fun _ => ?_)) <;> (walk_at "go"))
  | ((with_reducible refine r_iteN (fun _ => ?_) (fun _ => ?_)) <;> (walk_at "go"))
  | dsimp only
  | skip)))
def isNum : Dat → Bool
  | .int _ => true
  | _ => false
def noStage (ec : Str → Addr) (H : Hp) (E : XK) : Prop := ∀ d H', Same H H' → H d = none → H' d = some (.xd [("word", .str "BadStage")]) → E (.ref (ec "BadStage")) (some d) H'
def noNote (ec : Str → Addr) (c : Int) (H : Hp) (E : XK) : Prop := ∀ d H', Same H H' → H d = none → H' d = some (.xd [("column", .int c), ("word", .str "BadNotation")]) → E (.ref (ec "BadNotation")) (some d) H'
def Stg (s : Int) : Prop := 1 ≤ s ∧ s ≤ 12
def sp_is_number (K : PySem.W.Frag) : Sp := fun vs H Q _ => ∃ (v : V) (d : Dat), vs = [v] ∧ Rp K H v d ∧ Q (.bl (isNum d)) H
def plC (n : Int) (c : Nat) : Int := if fnd signsL c + 1 > n then 0 else fnd signsL c + 1
def folC (l p : Int) : Bool := decide (l < p) && decide ((p - l) % 2 = 1)
def chOf1 (ps : List Int) : List Int := match ps with | p :: r => if p % 2 = 0 then 1 :: p :: r else p :: r | [] => []
def chOf (n : Int) (ps : List Int) : List Int := if chOf1 ps ≠ [] ∧ (n - lastC 0 (chOf1 ps)) % 2 = 1 then chOf1 ps ++ [n] else chOf1 ps
/-- the sign at j of a text of places is wrong -/
def badC (n : Int) (z : List Nat) (j : Nat) : Bool := decide (plC n (z.getD j 0) = 0) || (decide (0 < j) && !folC (plC n (z.getD (j - 1) 0)) (plC n (z.getD j 0)))
def rdC (n : Int) (z : List Nat) : Sum Nat (List Int) :=
  if z.take 1 = [120] ∧ n % 2 = 0 then (if 1 < z.length then .inl 2 else .inr [])
  else match (List.range z.length).find? (badC n z) with
    | some j => .inl (j + 1)
    | none => if z = [] then .inl 1 else .inr (chOf n (z.map (plC n)))
def sp_read_change (K : PySem.W.Frag) (ec : Str → Addr) : Sp := fun vs H Q E => ∃ (s : Int) (l : List Nat), vs = [.int s, .str (S l)] ∧ l.length ≤ 100000 ∧ (¬ Stg s → noStage ec H E) ∧
  (∀ c, Stg s → rdC s l = .inl c → noNote ec c H E) ∧ (∀ cs, Stg s → rdC s l = .inr cs → ∀ p H', H p = none → Same H H' → SqT K H' p (cs.map V.int) → Q (.ref p) H')
abbrev N_is_number : List Str := ["told"]
def t_is_number (K : PySem.W.Frag) : TS :=
  (tRet ((tAndV ((tCB (rIsi K) (tCons (tVar 0) (tCons ((tC (.ty "int"))) tNil)))) ((tNotV ((tCB (rIsi K) (tCons (tVar 0) (tCons ((tC (.ty "bool"))) tNil)))))))))
section
variable {K : PySem.W.Frag} {ec : Str → Addr} {ns : List Str} {vs : List V} {H : Hp} {Q : VK} {E : XK}
theorem len_is_number (h : sp_is_number K vs H Q E) : vs.length = 1 := by obtain ⟨s, d, rfl, _⟩ := h; rfl
theorem noStage.same {H' : Hp} (h : noStage ec H E) (s : Same H H') : noStage ec H' E := fun d H2 s2 nd e => h d H2 (s.trans s2) (s.free nd) e
theorem pure_is_number (h : sp_is_number K vs H Q E) : t_is_number K (En Q) (start N_is_number vs) H := by
  obtain ⟨v, d, rfl, hr, q⟩ := h
  unfold t_is_number
  cases hr with
  | int i => walk_at "rd"; exact q
  | bl b => walk_at "rd"; exact q
  | str z => walk_at "rd"; exact q
  | non => walk_at "rd"; exact q
  | tup ht hd => walk_at "rd"; exact q
theorem r_iteB' {b : Bool} {A B : Prop} (h1 : b = true → A) (h2 : b = false → B) : if b = true then A else B := by
  cases b with
  | true => exact r_T (h1 rfl)
  | false => exact r_F (h2 rfl)
theorem signs_tl : (("1234567890ET" : Str).cps.toList) = signsL := by decide
theorem at_last {cs : List Int} (h : cs ≠ []) : atI (cs.map V.int) (-1) = some (.int (lastC 0 cs)) := by
  rcases List.eq_nil_or_concat cs with z | ⟨r, x, rfl⟩
  · exact absurd z h
  · rw [List.concat_eq_append, lastC_snoc]
    have e : ixN ((r ++ [x]).map V.int).length (-1) = some r.length := by
      unfold ixN
      rw [List.length_map, List.length_append, List.length_singleton, if_neg (by omega), if_pos (by omega)]
      congr 1
      omega
    unfold atI
    rw [e]
    show ((r ++ [x]).map V.int)[r.length]? = _
    rw [List.getElem?_map, List.getElem?_append_right (Nat.le_refl _), Nat.sub_self]
    rfl
theorem at_first {p : Int} {r : List Int} : atI ((p :: r).map V.int) 0 = some (.int p) := by
  have := atI_nat (xs := (p :: r).map V.int) (j := 0) (v := .int p) rfl
  exact this
theorem read_hit {s : Int} {l : List Nat} {i : Nat} (hx : ¬ (l.take 1 = [120] ∧ s % 2 = 0)) (hi : i < l.length) (hg : ∀ j, j < i → badC s l j = false) (hb : badC s l i = true) : rdC s l = .inl (i + 1) := by
  have : (List.range l.length).find? (badC s l) = some i := by
    rw [List.find?_range_eq_some]
    exact ⟨hb, List.mem_range.mpr hi, fun j hj => by rw [hg j hj]; rfl⟩
  unfold rdC
  rw [if_neg hx, this]
end
end Kb
set_option linter.all false
namespace Kb
def raI (n : Int) (ps : List Int) : List Int :=
  let a := if (ps.getD 0 0 - 1) % 2 = 1 then 1 :: ps else ps
  if (n - lastC 0 ps) % 2 = 1 then a ++ [n] else a
end Kb
set_option Elab.async false
set_option linter.all false
set_option maxRecDepth 100000
set_option maxHeartbeats 4000000
namespace Kb
open PySem PySem.Spec PyProof.Rows L2 SX
local macro_rules | `(tactic| walk_at "tk") => `(tactic| first
  | assumption
  | ((with_reducible refine' sqT_of ?k); (case k => assumption))
  | ((with_reducible refine' sqT_ofD ?k); (case k => assumption))
  | ((with_reducible refine' noD_of ?k); (case k => assumption))
  | ((with_reducible refine' noD_same ?s ?k); (case s => assumption); (case k => walk_at "tk"))
  | ((with_reducible refine' sqL_of ?k); (case k => assumption))
  | ((with_reducible refine' sqT_same ?s ?k); (case s => assumption); (case k => walk_at "tk"))
  | ((with_reducible refine' sqL_same ?s ?k); (case s => assumption); (case k => walk_at "tk"))
  | ((with_reducible refine' sqT_but ?s ?t ?k); (case s => assumption); (case t => walk_at "tk"); (case k => walk_at "tk"))
  | ((with_reducible refine' sqL_but ?s ?t ?k); (case s => assumption); (case t => walk_at "ne"); (case k => walk_at "tk"))
  | ((with_reducible refine' sqL_of ?k); (case k => walk_at "tk"))
  | ((with_reducible refine' sqT_of ?k); (case k => walk_at "tk"))
  | ((with_reducible refine' at_same ?s ?k); (case s => assumption); (case k => walk_at "tk"))
  | ((with_reducible refine' at_but ?s ?t ?k); (case s => assumption); (case t => walk_at "ne"); (case k => walk_at "tk")))
local macro_rules | `(tactic| walk_at "ne") => `(tactic| first
  | assumption
  | (refine Ne.symm ?_; assumption)
  | exact ne_of_none (by assumption) (by assumption)
  | exact (ne_of_none (by assumption) (by assumption)).symm)
local macro_rules | `(tactic| walk_at "side") => `(tactic| first
  | assumption
  | omega
  | (simp only [sizeLine_eq, List.length_cons, List.length_nil, List.length_map]; omega)
  | (show _ ≤ sizeLine; decide))
local macro_rules | `(tactic| walk_at "kit") => `(tactic| first
  | (show kitB _ _ = some true; decide +kernel)
  | (show kitB _ _ = some false; decide +kernel))
local macro_rules | `(tactic| walk_at "rng") => `(tactic| first
  | (refine ⟨by omega, by omega, by omega, by omega⟩)
  | (refine ⟨by omega, by omega⟩)
  | ((simp only [List.length_map]); (refine ⟨by omega, by omega, by omega, by omega⟩))
  | ((simp only [List.length_map]); (refine ⟨by omega, by omega⟩)))
local macro_rules | `(tactic| walk_at "rd1") => `(tactic| first
  | with_reducible refine r_seq ?_
  | ((with_reducible refine' r_var ?k0 ?_); (case k0 => rfl))
  | with_reducible refine r_op ?_
  | with_reducible refine r_c ?_
  | with_reducible refine r_asg ?_
  | with_reducible refine r_name ?_
  | with_reducible refine r_cons ?_
  | with_reducible refine r_nil ?_
  | with_reducible refine r_CB ?_
  | with_reducible refine r_if ?_
  | with_reducible refine r_test ?_
  | with_reducible refine r_k ?_
  | with_reducible refine r_T ?_
  | with_reducible refine r_F ?_
  | with_reducible refine r_nT ?_
  | with_reducible refine r_nF ?_
  | with_reducible refine r_ret ?_
  | with_reducible refine r_drop ?_
  | with_reducible refine r_next ?_
  | with_reducible refine r_call ?_
  | with_reducible refine r_addI ?_
  | with_reducible refine r_subI ?_
  | with_reducible refine r_ltI ?_
  | with_reducible refine r_gtI ?_
  | with_reducible refine r_leI ?_
  | with_reducible refine r_geI ?_
  | with_reducible refine r_eqI ?_
  | with_reducible refine r_neI ?_
  | with_reducible refine r_int ?_
  | with_reducible refine r_abs ?_
  | with_reducible refine r_not ?_
  | with_reducible refine r_and ?_
  | with_reducible refine r_or ?_
  | with_reducible refine r_tru ?_
  | with_reducible refine r_truB ?_
  | with_reducible refine r_lst ?_
  | with_reducible refine r_tup ?_
  | with_reducible refine r_BM ?_
  | with_reducible refine r_BM0 ?_
  | with_reducible refine r_tyS ?_
  | with_reducible refine r_gsub ?_
  | with_reducible refine r_then ?_
  | with_reducible refine r_lstRg ?_
  | with_reducible refine r_tupRg ?_
  | with_reducible refine r_rg2 ?_
  | with_reducible refine r_rg1 ?_
  | with_reducible refine r_ii ?_
  | with_reducible refine r_i ?_
  | with_reducible refine r_ipI ?_
  | with_reducible refine r_un ?_
  | with_reducible refine r_neg ?_
  | with_reducible refine r_isN ?_
  | with_reducible refine r_notN ?_
  | with_reducible refine r_notV ?_
  | with_reducible refine r_pnot ?_
  | with_reducible refine r_pif ?_
  | with_reducible refine r_andV ?_
  | with_reducible refine r_orV ?_
  | with_reducible refine r_ifE ?_
  | with_reducible refine r_chain ?_
  | with_reducible refine r_sl ?_
  | with_reducible refine r_noPart ?_
  | with_reducible refine r_part ?_
  | with_reducible refine r_brk ?_
  | with_reducible refine r_cont ?_
  | with_reducible refine r_retN ?_
  | with_reducible refine r_truI ?_
  | with_reducible refine r_B ?_
  | with_reducible refine r_for ?_
  | with_reducible refine r_rng1 ?_
  | with_reducible refine r_rng2 ?_
  | with_reducible refine r_rng3 ?_
  | with_reducible refine r_body ?_
  | with_reducible refine r_lc ?_
  | with_reducible refine r_yes ?_
  | ((with_reducible refine' r_mod ?k0 ?_); (case k0 => walk_at "side"))
  | ((with_reducible refine' r_mulI ?k0 ?_); (case k0 => first | exact Or.inl ⟨by omega, by omega⟩ | exact Or.inr ⟨by omega, by omega⟩))
  | ((with_reducible refine' r_lenL ?k0 ?_); (case k0 => walk_at "tk"))
  | ((with_reducible refine' r_lenT ?k0 ?_); (case k0 => walk_at "tk"))
  | ((with_reducible refine' r_truL ?k0 ?_); (case k0 => walk_at "tk"))
  | ((with_reducible refine' r_truT ?k0 ?_); (case k0 => walk_at "tk"))
  | ((with_reducible refine' r_ixL ?k0 ?k1 ?_); (case k0 => walk_at "tk"); (case k1 => first | assumption | rfl))
  | ((with_reducible refine' r_ixT ?k0 ?k1 ?_); (case k0 => walk_at "tk"); (case k1 => first | assumption | rfl))
  | ((with_reducible refine' r_new ?k0 ?_); (case k0 => walk_at "side"))
  | ((with_reducible refine' r_tyL ?k0 ?_); (case k0 => walk_at "tk"))
  | ((with_reducible refine' r_append ?k0 ?k1 ?_); (case k0 => walk_at "tk"); (case k1 => walk_at "side"))
  | ((with_reducible refine' r_setL ?k0 ?k1 ?_); (case k0 => walk_at "tk"); (case k1 => first | assumption | rfl))
  | ((with_reducible refine' r_kTupL ?k0 ?_); (case k0 => walk_at "tk"))
  | ((with_reducible refine' r_kTupT ?k0 ?_); (case k0 => walk_at "tk"))
  | ((with_reducible refine' r_listL ?k0 ?_); (case k0 => walk_at "tk"))
  | ((with_reducible refine' r_listT ?k0 ?_); (case k0 => walk_at "tk"))
  | ((with_reducible refine' r_aug ?k0 ?_); (case k0 => rfl))
  | ((with_reducible refine' r_lenS ?k0 ?_); (case k0 => walk_at "side"))
  | ((with_reducible refine' r_pop ?k0 ?_); (case k0 => walk_at "tk"))
  | ((with_reducible refine' r_pr1 ?k0 ?_); (case k0 => walk_at "rng"))
  | ((with_reducible refine' r_pr2 ?k0 ?_); (case k0 => walk_at "rng"))
  | ((with_reducible refine' r_pr3d ?k0 ?_); (case k0 => walk_at "rng"))
  | ((with_reducible refine' r_isiI ?k0 ?_); (case k0 => walk_at "kit"))
  | ((with_reducible refine' r_isiB ?k0 ?_); (case k0 => walk_at "kit"))
  | ((with_reducible refine' r_isiS ?k0 ?_); (case k0 => walk_at "kit"))
  | ((with_reducible refine' r_isiN ?k0 ?_); (case k0 => walk_at "kit"))
  | ((with_reducible refine' r_isiT ?k0 ?k1 ?_); (case k0 => walk_at "tk"); (case k1 => walk_at "kit"))
  | ((with_reducible refine r_seqT ?_); (repeat (walk_at "rd1")); ((with_reducible refine' r_pseqT ?k0 ?_); (case k0 => walk_at "tk")))
  | ((with_reducible refine r_seqL ?_); (repeat (walk_at "rd1")); ((with_reducible refine' r_pseqL ?k0 ?_); (case k0 => walk_at "tk")))
  | ((with_reducible refine r_seqS ?_); (repeat (walk_at "rd1")); (with_reducible refine r_pseqS ?_)))
local macro_rules | `(tactic| walk_at "rd") => `(tactic| ((repeat (walk_at "rd1")); (try dsimp only)))
local macro_rules | `(tactic| walk_at "rd1") => `(tactic| first
  | with_reducible refine r_BMT ?_
  | with_reducible refine r_par ?_
  | with_reducible refine r_parV ?_
  | ((with_reducible refine' r_ptp ?k0 ?k1 ?_); (case k0 => walk_at "tk"); (case k1 => walk_at "tk"))
  | with_reducible refine r_eqS ?_
  | with_reducible refine r_neS ?_
  | with_reducible refine r_callW ?_
  | with_reducible refine r_try ?_
  | with_reducible refine r_enT ?_
  | ((with_reducible refine' r_pen ?k0 ?_); (case k0 => walk_at "tk")))
local macro_rules | `(tactic| walk_at "pl0") => `(tactic| first
  | assumption
  | exact pl_same (by assumption) (by assumption)
  | exact pl_same (by assumption) (pl_same (by assumption) (by assumption))
  | exact pl_same (by assumption) (pl_same (by assumption) (pl_same (by assumption) (by assumption))))
local macro_rules | `(tactic| walk_at "pl") => `(tactic| first
  | walk_at "pl0"
  | ((with_reducible refine' pl_butL ?s ?n ?k); (case s => assumption); (case n => walk_at "ne"); (case k => walk_at "pl"))
  | ((with_reducible refine' pl_same ?s ?k); (case s => assumption); (case k => walk_at "pl")))
local macro_rules | `(tactic| walk_at "ne") => `(tactic| first
  | exact ne_pl (by assumption) (by walk_at "pl0")
  | exact (ne_pl (by assumption) (by walk_at "pl0")).symm)
local macro_rules | `(tactic| walk_at "fr") => `(tactic| first
  | assumption
  | ((with_reducible refine' free_but ?b ?n ?h); (case h => assumption); (case n => walk_at "ne"); (case b => walk_at "but"))
  | ((with_reducible refine' Same.free ?b ?h); (case h => assumption); (case b => walk_at "same")))
local macro_rules | `(tactic| walk_at "but") => `(tactic| first
  | assumption
  | exact But.refl
  | ((with_reducible refine' But.trans ?a ?b); (case b => assumption); (case a => walk_at "but"))
  | ((with_reducible refine' But.trans ?a (Same.but ?b)); (case b => assumption); (case a => walk_at "but"))
  | ((with_reducible refine' but_via ?a ?b ?c); (case b => assumption); (case c => walk_at "fr"); (case a => walk_at "but")))
local macro_rules | `(tactic| walk_at "same") => `(tactic| first
  | assumption
  | exact Same.refl _
  | ((with_reducible refine' Same.trans ?a ?b); (case b => assumption); (case a => walk_at "same"))
  | ((with_reducible refine' same_but ?a ?b ?c); (case b => assumption); (case c => walk_at "fr"); (case a => walk_at "same")))
local macro_rules | `(tactic| walk_at "tk") => `(tactic| first
  | ((with_reducible refine' sqT_pl ?s ?t ?k); (case s => assumption); (case t => walk_at "pl0"); (case k => walk_at "tk"))
  | ((with_reducible refine' rp_same ?s ?k); (case s => assumption); (case k => walk_at "tk"))
  | ((with_reducible refine' rp_pl ?s ?t ?k); (case s => assumption); (case t => walk_at "pl0"); (case k => walk_at "tk")))
local macro_rules | `(tactic| walk_at "it") => `(tactic| first
  | assumption
  | ((with_reducible refine' sqI_1 ?k); (case k => assumption))
  | ((with_reducible refine' sqI_0 ?k); (case k => assumption))
  | ((with_reducible refine' sqI_of ?k); (case k => assumption))
  | ((with_reducible refine' sqI_D ?k); (case k => assumption))
  | ((with_reducible refine' sqT_same ?s ?k); (case s => assumption); (case k => walk_at "it"))
  | ((with_reducible refine' sqT_but ?s ?t ?k); (case s => assumption); (case t => assumption); (case k => walk_at "it"))
  | ((with_reducible refine' sqT_pl ?s ?t ?k); (case s => assumption); (case t => walk_at "pl0"); (case k => walk_at "it")))
local macro_rules | `(tactic| walk_at "sz") => `(tactic| first | omega | ((try simp only [List.length_cons, List.length_nil] at *); omega))
local macro_rules | `(tactic| walk_at "au1") => `(tactic| first
  | walk_at "rd1"
  | ((with_reducible refine' r_draw ?k0 ?k1 ?k2 ?_); (case k0 => walk_at "pl"); (case k1 => omega); (case k2 => omega); (intro _ _ _ _ _ _))
  | ((with_reducible refine' r_slN ?k0 ?_); (case k0 => walk_at "it"); (intro _ _ _ _ _ _))
  | ((with_reducible refine' r_catN ?k0 ?k1 ?k2 ?_); (case k0 => walk_at "it"); (case k1 => walk_at "it"); (case k2 => walk_at "sz"); (intro _ _ _ _ _ _))
  | ((with_reducible refine' r_pow ?k0 ?_); (case k0 => exact ⟨by decide, by decide, by decide⟩))
  | ((with_reducible refine' r_ixI ?k0 ?k1 ?k2 ?_); (case k0 => walk_at "it"); (case k1 => omega); (case k2 => omega); (intro _ _))
  | ((with_reducible refine' r_setI ?k0 ?k1 ?k2 ?_); (case k0 => walk_at "tk"); (case k1 => omega); (case k2 => omega); (intro _ _ _ _ _))
  | ((with_reducible refine' r_kTupI ?k0 ?_); (case k0 => walk_at "tk"); (intro _ _ _ _ _))
  | ((with_reducible refine' r_listI ?k0 ?_); (case k0 => walk_at "it"); (intro _ _ _ _ _))
  | (with_reducible refine r_revU ?_)
  | ((with_reducible refine' r_prevN ?k0 ?_); (case k0 => walk_at "it"); (intro _ _ _ _ _ _))
  | (intro _ _ _ _ _))
local macro_rules | `(tactic| walk_at "go") => `(tactic| ((repeat (walk_at "au1")); (first
  | ((with_reducible refine r_ite (fun _ => ?_) (fun _ => ?_)) <;> (walk_at "go"))
  | ((with_reducible refine r_iteN (fun _ => ?_) (fun _ => ?_)) <;> (walk_at "go"))
  | dsimp only
  | skip)))
section
variable {K : PySem.W.Frag} {ec : Str → Addr} {ns : List Str} {vs : List V} {H : Hp} {Q : VK} {E : XK}
theorem sizes_ints : ∀ cs : List Int, Dat.sizes (cs.map Dat.int) = cs.length
  | [] => rfl
  | c :: r => by
    show (Dat.int c).size + Dat.sizes (r.map Dat.int) = _
    rw [sizes_ints r, List.length_cons]
    show 1 + _ = _
    omega
theorem size_row (cs : List Int) : (Dat.tup (cs.map Dat.int)).size = cs.length + 1 := by
  show 1 + Dat.sizes (cs.map Dat.int) = _
  rw [sizes_ints]; omega
theorem sgn_at {x : Int} (h1 : 1 ≤ x) (h2 : x ≤ 12) : atI signsL (x - 1) = some (sgAt x) := by
  have hl : (x - 1).toNat < signsL.length := by show _ < 12; omega
  have := atI_nat (xs := signsL) (j := (x - 1).toNat) (v := sgAt x) (by unfold sgAt; rw [List.getD_eq_getElem?_getD, List.getElem?_eq_getElem hl]; rfl)
  rw [show (((x - 1).toNat : Nat) : Int) = x - 1 by omega] at this
  exact this
theorem signs_S : ("1234567890ET" : Str) = S signsL := by
  have := S_tl ("1234567890ET" : Str)
  rw [signs_tl] at this
  exact this.symm
theorem elt_sign {σ : L2.St} {j : Nat} {x : Int} {H : Hp} {Q : VK} (hσ : σ[j]? = some (some (.int x))) (h1 : 1 ≤ x) (h2 : x ≤ 12) (q : Q (.str (S [sgAt x])) H) :
    (tOp (rIx K) (tC (.str "1234567890ET")) (tOp rSubU (tVar j) (tC (.int 1)))) σ H Q := by
  refine r_op (r_c (r_op (r_var hσ (r_c (r_subI ?_)))))
  rw [signs_S]
  exact r_ixSS (by decide) (sgn_at h1 h2) q
theorem lc_signsT {σ : L2.St} {j : Nat} {a : Addr} {cs : List Int} {H : Hp} {Q : VK} (hj : j < σ.length) (h : SqT K H a (cs.map V.int)) (hm : ∀ x ∈ cs, 1 ≤ x ∧ x ≤ 12) (hl : cs.length ≤ 1000)
    (hd : ∀ p H', H p = none → Same H H' → H' p = some (.lst (cs.map fun x => V.str (S [sgAt x]))) → Q (.ref p) H') : PLc (Itt K a) (gName j) tYes (tOp (rIx K) (tC (.str "1234567890ET")) (tOp rSubU (tVar j) (tC (.int 1)))) [j] σ H Q := by
  refine r_lcT (xs := cs.map V.int) (fun D i H' => H D = none ∧ Same H H' ∧ H' D = some (.lst ((cs.take i).map fun x => V.str (S [sgAt x]))))
    (fun x => by show ((σ.set j none).set j (some x)).set j none = σ.set j none; rw [List.set_set, List.set_set]) (fun D H' hD s e => ⟨hD, s, e⟩) (fun D i H' q => sqT_same q.2.1 h) (fun D i x H' hi q => ?_) (fun D H' hD q => ?_)
  · obtain ⟨hD, s, e⟩ := q
    rw [List.getElem?_map] at hi
    obtain ⟨y, hy, rfl⟩ := Option.map_eq_some_iff.mp hi
    have hy2 := hm y (List.mem_of_getElem? hy)
    refine r_yes (r_T ?_)
    refine elt_sign (x := y) (List.getElem?_set_self (by show j < (σ.set j none).length; rw [List.length_set]; exact hj)) hy2.1 hy2.2 ?_
    refine r_acc e (by rw [List.length_map, List.length_take]; omega) fun H5 b5 e5 => ⟨hD, same_but s b5 hD, ?_⟩
    rw [e5, List.take_add_one, hy, List.map_append]
    rfl
  · obtain ⟨_, s, e⟩ := q
    rw [List.length_map, List.take_length] at e
    exact hd D H' hD s e
theorem flat_one {α : Type} (f : Int → α) : ∀ cs : List Int, (cs.map fun x => [f x]).flatten = cs.map f
  | [] => rfl
  | c :: r => by rw [List.map_cons, List.flatten_cons, flat_one f r]; rfl
theorem join_signs {a : Addr} {cs : List Int} {H : Hp} {Q : VK} (h : H a = some (.lst (cs.map fun x => V.str (S [sgAt x])))) (hl : cs.length ≤ 1000) (q : Q (.str (S (cs.map sgAt))) H) : rJoin K (.str "") [.ref a] H Q := by
  have e : ((cs.map fun x => [sgAt x]).map fun y => V.str (S y)) = cs.map fun x => V.str (S [sgAt x]) := by rw [List.map_map]; rfl
  refine r_join (ys := cs.map fun x => [sgAt x]) (sqL_of (by rw [e]; exact h)) ?_ ?_
  · rw [flat_one, List.length_map]; omega
  · rw [flat_one]; exact q
end
end Kb
set_option Elab.async false
set_option linter.all false
set_option maxRecDepth 100000
set_option maxHeartbeats 4000000
namespace Kb
open PySem PySem.Spec PyProof.Rows L2 SX
section
variable {K : PySem.W.Frag} {H H' : Hp} {Q : VK} {E : XK} {p a b l : Addr} {m : Int} {xs ys : List V} {lo hi : Option Int}
variable {ns ms : List Int} {j k : Nat}
theorem r_slN (h : SqT K H a (ns.map V.int)) (q : ∀ p H' (ms : List Int), Same H H' → SqT K H' p (ms.map V.int) → ms.length ≤ ns.length → Q (.ref p) H') : rSlU K (.ref a) lo hi H Q :=
  r_slI h fun p H' s e => q p H' _ s e (cutA_len ns)
theorem r_catN (h1 : SqT K H a (ns.map V.int)) (h2 : SqT K H b (ms.map V.int)) (hz : ns.length + ms.length ≤ 16000000) (q : ∀ p H' (us : List Int), Same H H' → SqT K H' p (us.map V.int) → us.length = ns.length + ms.length → Q (.ref p) H') : rAddU K (.ref a) (.ref b) H Q :=
  r_catII h1 h2 hz fun p H' s e => q p H' _ s e (List.length_append ..)
theorem r_prevN (h : SqT K H a (ns.map V.int)) (q : ∀ p H' (ms : List Int), Same H H' → SqT K H' p (ms.map V.int) → ms.length = ns.length → Q (.ref p) H') : PRev K (.ref a) (some (-1)) H Q :=
  r_prev h fun p H' np s e => q p H' ns.reverse s (by rw [List.map_reverse]; exact sqT_of e) (List.length_reverse ..)
/-- t[m] of a tuple of ints, somewhere in it -/
theorem r_ixI (h : SqT K H a (ns.map V.int)) (h0 : 0 ≤ m) (h1 : m < (ns.length : Int)) (q : ∀ i, ns[m.toNat]? = some i → Q (.int i) H) : rIx K (.ref a) (.int m) H Q := by
  obtain ⟨n, e1, e2⟩ := atI_ints h0 h1
  exact r_ixT h e1 (q n e2)
theorem r_setI {N : Hp → Prop} {i : Int} (h : H p = some (.lst (ns.map V.int))) (h0 : 0 ≤ m) (h1 : m < (ns.length : Int)) (q : ∀ H' ns', But p H H' → H' p = some (.lst ((ns' : List Int).map V.int)) → ns'.length = ns.length → N H') : rSetL (.ref p) (.int m) (.int i) H N := by
  refine r_setL (k := m.toNat) h ?_ fun H' b e => q H' (ns.set m.toNat i) b (by rw [e, List.map_set]) (List.length_set ..)
  rw [List.length_map]
  have := ixN_n (n := ns.length) (k := m.toNat) (by omega)
  rw [show ((m.toNat : Nat) : Int) = m by omega] at this
  exact this
theorem r_kTupI (h : H p = some (.lst (ns.map V.int))) (q : ∀ a H', H a = none → Same H H' → SqT K H' a (ns.map V.int) → Q (.ref a) H') : kTupD K (.ref p) H Q := r_kTupL (sqL_of h) fun a H' na s e => q a H' na s (sqT_ofD e)
theorem r_listI (h : SqT K H p (ns.map V.int)) (q : ∀ a H', H a = none → Same H H' → H' a = some (.lst (ns.map V.int)) → Q (.ref a) H') : rListU K [.ref p] H Q := r_listT h q
/-- [f() for k in range(n)] with whole numbers that are drawn -/
theorem r_lcDr {σ : L2.St} {te : TE} {j n : Nat} {lo : Int} (hp : Pl H p) (hz : n ≤ 1000000) (he : ∀ (x : Int) H1 (Q' : VK), But p H H1 → Pl H1 p → (∀ i H2, But p H1 H2 → Pl H2 p → Q' (.int i) H2) → te ((σ.set j none).set j (some (.int x))) H1 Q')
    (hd : ∀ q H' (ms : List Int), H q = none → But p H H' → Pl H' p → H' q = some (.lst (ms.map V.int)) → ms.length = n → Q (.ref q) H') : PLc (Itr lo n) (gName j) tYes te [j] σ H Q := by
  refine r_lcR (fun D i H' => H D = none ∧ D ≠ p ∧ But p H H' ∧ Pl H' p ∧ ∃ ms : List Int, H' D = some (.lst (ms.map V.int)) ∧ ms.length = i)
    (fun x => by show ((σ.set j none).set j (some x)).set j none = σ.set j none; rw [List.set_set, List.set_set]) (fun D H' hD s e => ⟨hD, ne_pl hD hp, Same.but s, pl_same s hp, [], e, rfl⟩) (fun D i H' hi q => ?_) (fun D H' hD q => ?_)
  · obtain ⟨hD, hne, b, hp', ms, e, hl⟩ := q
    refine r_yes (r_T (he _ H' _ b hp' fun v H2 b2 hp2 => ?_))
    refine r_acc (b2 _ _ hne e) (by rw [List.length_map]; omega) fun H5 b5 e5 => ⟨hD, hne, but_via (b.trans b2) b5 hD, pl_butL b5 hne.symm hp2, ms ++ [v], by rw [e5, List.map_append]; rfl, by rw [List.length_append, hl]; rfl⟩
  · obtain ⟨hD, hne, b, hp', ms, e, hl⟩ := q
    exact hd D H' ms hD b hp' e hl
/-- a list that stood before p was made -/
theorem sqL_via (np : H p = none) (b : But p H H') (h : SqL K H a xs) : SqL K H' a xs := by
  rcases h with (h | ⟨o, h⟩) | h
  · exact .inl (.inl (b _ _ (ne_of_none h np) h))
  · exact .inl (.inr ⟨o, b _ _ (ne_of_none h np) h⟩)
  · exact .inr h
end
end Kb
set_option Elab.async false
set_option linter.all false
set_option maxRecDepth 100000
set_option maxHeartbeats 4000000
namespace Kb
open PySem PySem.Spec PyProof.Rows L2 SX PySem.Builtin.Str
def PRevS (x : V) (k : Option Int) (H : Hp) (Q : VK) : Prop := k = some (-1) ∧ ∃ z : Str, x = .str z ∧ z.length ≤ sizeLine ∧ Q (.str ⟨z.cps.toList.reverse.toArray⟩) H
def tRevS (te : TE) (tk : TO) : TE := fun σ H Q => te σ H fun x H1 => tk σ H1 fun k H2 => PRevS x k H2 Q
section
variable {K : PySem.W.Frag} {H H' : Hp} {Q : VK} {E : XK} {p a b l : Addr} {m : Int} {lo hi : Option Int} {as bs : List Nat} {te : TE} {tk : TO} {σ : L2.St}
theorem r_revS (h : te σ H fun x H1 => tk σ H1 fun k H2 => PRevS x k H2 Q) : tRevS te tk σ H Q := h
theorem r_prevS (hz : as.length ≤ 16000000) (q : Q (.str (S as.reverse)) H) : PRevS (.str (S as)) (some (-1)) H Q := ⟨rfl, S as, rfl, by rw [S_len, sizeLine_eq]; omega, q⟩
theorem r_slSN (hz : as.length ≤ 16000000) (q : ∀ bs : List Nat, bs.length ≤ as.length → Q (.str (S bs)) H) : rSlU K (.str (S as)) lo hi H Q := r_slS hz (q _ (cutA_len as))
theorem r_catSN (hz : as.length + bs.length ≤ 16000000) (q : ∀ cs : List Nat, cs.length = as.length + bs.length → Q (.str (S cs)) H) : rAddU K (.str (S as)) (.str (S bs)) H Q := r_addSS hz (q _ (List.length_append ..))
theorem r_prevSN (hz : as.length ≤ 16000000) (q : ∀ bs : List Nat, bs.length = as.length → Q (.str (S bs)) H) : PRevS (.str (S as)) (some (-1)) H Q := r_prevS hz (q _ (List.length_reverse ..))
theorem r_ixSN (hz : as.length ≤ 16000000) (h0 : 0 ≤ m) (h1 : m < (as.length : Int)) (q : ∀ c, as[m.toNat]? = some c → Q (.str (S [c])) H) : rIx K (.str (S as)) (.int m) H Q := by
  have hk : m.toNat < as.length := by omega
  have := atI_nat (xs := as) (j := m.toNat) (v := as[m.toNat]) (List.getElem?_eq_getElem hk)
  rw [show ((m.toNat : Nat) : Int) = m by omega] at this
  exact r_ixSS hz this (q _ (List.getElem?_eq_getElem hk))
/-- a sign of a written text -/
theorem r_ixC {z : Str} {k : Nat} (hk : z.cps.toList.length = k) (hz : k ≤ 1000) (h0 : 0 ≤ m) (h1 : m < (k : Int)) (q : ∀ c, Q (.str (S [c])) H) : rIx K (.str z) (.int m) H Q := by
  have e : z = S z.cps.toList := (S_tl z).symm
  rw [e]
  exact r_ixSN (by omega) h0 (by omega) fun c _ => q c
/-- [f() for k in range(n)] with one sign each, drawn -/
theorem r_lcDrS {j n : Nat} {lo : Int} (hp : Pl H p) (hz : n ≤ 1000000) (he : ∀ (x : Int) H1 (Q' : VK), But p H H1 → Pl H1 p → (∀ c H2, But p H1 H2 → Pl H2 p → Q' (.str (S [c])) H2) → te ((σ.set j none).set j (some (.int x))) H1 Q')
    (hd : ∀ q H' (ms : List Nat), H q = none → But p H H' → Pl H' p → H' q = some (.lst (ms.map fun c => V.str (S [c]))) → ms.length = n → Q (.ref q) H') : PLc (Itr lo n) (gName j) tYes te [j] σ H Q := by
  refine r_lcR (fun D i H' => H D = none ∧ D ≠ p ∧ But p H H' ∧ Pl H' p ∧ ∃ ms : List Nat, H' D = some (.lst (ms.map fun c => V.str (S [c]))) ∧ ms.length = i)
    (fun x => by show ((σ.set j none).set j (some x)).set j none = σ.set j none; rw [List.set_set, List.set_set]) (fun D H' hD s e => ⟨hD, ne_pl hD hp, Same.but s, pl_same s hp, [], e, rfl⟩) (fun D i H' hi q => ?_) (fun D H' hD q => ?_)
  · obtain ⟨hD, hne, b, hp', ms, e, hl⟩ := q
    refine r_yes (r_T (he _ H' _ b hp' fun v H2 b2 hp2 => ?_))
    refine r_acc (b2 _ _ hne e) (by rw [List.length_map]; omega) fun H5 b5 e5 => ⟨hD, hne, but_via (b.trans b2) b5 hD, pl_butL b5 hne.symm hp2, ms ++ [v], by rw [e5, List.map_append]; rfl, by rw [List.length_append, hl]; rfl⟩
  · obtain ⟨hD, hne, b, hp', ms, e, hl⟩ := q
    exact hd D H' ms hD b hp' e hl
theorem flat_oneN : ∀ cs : List Nat, (cs.map fun x => [x]).flatten = cs
  | [] => rfl
  | c :: r => by rw [List.map_cons, List.flatten_cons, flat_oneN r]; rfl
theorem join_ones {cs : List Nat} (h : H a = some (.lst (cs.map fun c => V.str (S [c])))) (hl : cs.length ≤ 1000000) (q : Q (.str (S cs)) H) : rJoin K (.str "") [.ref a] H Q := by
  have e : ((cs.map fun x => [x]).map fun y => V.str (S y)) = cs.map fun x => V.str (S [x]) := by rw [List.map_map]; rfl
  refine r_join (ys := cs.map fun x => [x]) (sqL_of (by rw [e]; exact h)) ?_ ?_
  · rw [flat_oneN]; omega
  · rw [flat_oneN]; exact q
end
end Kb
set_option Elab.async false
set_option linter.all false
set_option maxRecDepth 100000
set_option maxHeartbeats 4000000
set_option Elab.async false
set_option linter.all false
set_option maxRecDepth 100000
set_option maxHeartbeats 4000000
namespace Kb
open PySem PySem.Spec PyProof.Rows L2
def keyR (r : List Int) : List Key := r.map Sum.inl
end Kb
set_option Elab.async false
set_option linter.all false
namespace Kb
open PySem PySem.Spec PyProof.Rows L2
section
variable {D : Ends} {σ : L2.St} {H : Hp}
theorem r_key {ta tb : TS} (R : L2.St → Hp → Prop) (k : ∀ tb' : TS, (∀ σ' H', R σ' H' → tb' D σ' H') → tSeq ta tb' D σ H) (key : ∀ σ' H', R σ' H' → tb D σ' H') : tSeq ta tb D σ H := k tb key
theorem r_key2 {ta tb tc : TS} (R : L2.St → Hp → Prop) (k : ∀ tc' : TS, (∀ σ' H', R σ' H' → tc' D σ' H') → tSeq ta (tSeq tb tc') D σ H) (key : ∀ σ' H', R σ' H' → tc D σ' H') : tSeq ta (tSeq tb tc) D σ H := k tc key
end
end Kb
set_option Elab.async false
set_option linter.all false
set_option maxRecDepth 100000
set_option maxHeartbeats 4000000
namespace Kb
open PySem PySem.Spec PyProof.Rows L2
def DV (H : Hp) (p : Addr) (f : List Int → Option Int) (n : Nat) : Prop := ∃ kvs : List (List Key × V), H p = some (.dT kvs) ∧ kvs.length ≤ n ∧ ∀ r, valV kvs (keyR r) = (f r).map V.int
section
variable {σ : L2.St} {H H' : Hp} {td ty tx : TE} {Q : VK} {N : Hp → Prop} {z : V} {p b l : Addr} {f : List Int → Option Int} {r : List Int} {n : Nat} {v : Int} {R : Addr → Prop}
theorem DV.same (s : Same H H') (h : DV H p f n) : DV H' p f n := let ⟨k, e, r⟩ := h; ⟨k, s _ _ e, r⟩
end
end Kb
set_option Elab.async false
set_option linter.all false
set_option maxRecDepth 100000
set_option maxHeartbeats 4000000
namespace Kb
open PySem PySem.Spec PyProof.Rows L2
theorem perm_of_sub {α : Type} [DecidableEq α] : ∀ {a b : List α}, a.Nodup → (∀ x ∈ a, x ∈ b) → b.length ≤ a.length → a.Perm b
  | [], b, _, _, hl => by
    have : b = [] := List.length_eq_zero_iff.mp (by simpa using hl)
    subst this; exact .refl _
  | x :: a, b, nd, h, hl => by
    have hx := h x (by simp)
    have nd' := List.nodup_cons.mp nd
    have e := List.length_erase_of_mem hx
    have hpos := List.length_pos_of_mem hx
    have := perm_of_sub (b := b.erase x) nd'.2 (fun y hy => by
      have ne : y ≠ x := fun z => nd'.1 (by rw [← z]; exact hy)
      exact (List.mem_erase_of_ne ne).mpr (h y (by simp [hy]))) (by simp only [List.length_cons] at hl; omega)
    exact (this.cons x).trans (List.perm_cons_erase hx).symm
theorem many_iff {L ns : List Int} (nd : L.Nodup) (h : ∀ k, k ∈ L ↔ k ∈ ns) : L.length = ns.length ↔ ns.Nodup := by
  constructor
  · intro e
    exact (perm_of_sub nd (fun x hx => (h x).mp hx) (Nat.le_of_eq e.symm)).nodup_iff.mp nd
  · intro n
    exact ((List.perm_ext_iff_of_nodup nd n).mpr h).length_eq
def PLenSet (K : PySem.W.Frag) (x : V) (H : Hp) (Q : VK) : Prop := ∃ (t : Addr) (ns : List Int), x = V.ref t ∧ SqT K H t (ns.map V.int) ∧ ns.length ≤ 60 ∧ ∀ c : Nat, (c = ns.length ↔ ns.Nodup) → Q (.int (c : Int)) H
def tLenSetT (K : PySem.W.Frag) (ta : TE) : TE := fun σ H Q => ta σ H fun x H1 => PLenSet K x H1 Q
section
variable {X : Cx}
theorem pe_lenSetT {a : Expr} {ta : TE} {p p2 q pos : Pos} (hc : X.calm = true) (gl : Gl X "len") (ml : X.mg "len" = none) (gs : Gl X "set") (ms : X.mg "set" = none) (ha : PE X a ta)
    (na : starEach [a] X.env = (false, eval a X.env) :: starEach [] X.env := by rfl) : PE X (.Call (.Name "len" p) [.Call (.Name "set" p2) [a] [] q] [] pos) (tLenSetT X.K ta) := by
  refine ⟨fun pins s σ H Q I h => Call_ (ld_blt I gl ml PySem.boot_len (callWith_builtin1 (args_cons (Call_ (ld_blt I gs ms boot_set (callWith_type1 (args_cons (thn (ha.run pins s σ H _ I h) fun v s1 z => args_nil ?_) na) na rfl))) rfl) rfl rfl))⟩
  obtain ⟨x, H1, I1, r1, t, ns, rfl, ht, hl, k⟩ := z
  cases r1
  obtain ⟨its, rv, pt, hz⟩ := I1.tuple ht
  refine call_set_tupI ns (I1.ok.hd hc) pt (ints_of_vals rv) (by unfold scanBound; omega) fun h' tk c R hcn hk => args_nil ?_
  obtain ⟨o, es, ep, tb, ho, hex, hd, _, nd, hm, hb, hf, hn, _, _⟩ := R
  have I2 : Inv X pins σ H1 { s1 with heap := h', toks := tk } := I1.kept hk
  have e : es.size = (es.toList.map keyOf).length := by rw [List.length_map, Array.length_toList]
  refine call_len_set ho hex hd hf (by have := hb; unfold scanBound at this; omega) ⟨.int es.size, H1, I2.tok _, ⟨_, rfl⟩, k _ ?_⟩
  rw [e]
  exact many_iff nd fun j => by rw [← hm j, decide_eq_true_eq]
/-- t.count(x) of data -/
def rCntP (K : PySem.W.Frag) : V → List V → Hp → VK → Prop := fun x xs H Q => ∃ (a : Addr) (y : V) (d : PyData) (ds : List PyData), x = V.ref a ∧ xs = [y] ∧ Dp K H (V.ref a) (.tuple ds) ∧ Dp K H y d ∧ PyData.plainAll ds = true ∧ d.plain = true ∧ d.depth = 0 ∧ Q (.int ((ds.countP fun z => PyData.eqv z d : Nat) : Int)) H
theorem mt_countP (hu : X.A.units + 65 < cLine) : MtR X "tuple.count" (rCntP X.K) := by
  intro pins s σ H x xs v us Q I rx rxs h
  obtain ⟨a, y, d, ds, rfl, rfl, hl, hy, pl, pd, d0, q⟩ := h
  cases rx
  cases rxs with
  | cons ry rt =>
    cases rt
    obtain ⟨bs, r1⟩ := Dp.reads I d y _ hy ry
    cases hl with
    | tup hs ha =>
      obtain ⟨its, rv, pt, hz⟩ := I.tuple hs
      obtain ⟨as, r2⟩ := Dp.readsAll I ds _ its ha rv
      exact PySem.SeqAt.count_tuple_data (vs := its.toArray) pt (by simpa using r2) r1 pl pd (by rw [d0]; omega) ⟨.int _, H, I.tok _, ⟨_, rfl⟩, q⟩
end
section
variable {K : PySem.W.Frag} {σ : L2.St} {H : Hp} {ta : TE} {Q : VK} {t : Addr} {ns : List Int}
theorem r_lenSet (h : ta σ H fun x H1 => PLenSet K x H1 Q) : tLenSetT K ta σ H Q := h
theorem r_plenSet (h : SqT K H t (ns.map V.int)) (hl : ns.length ≤ 60) (k : ∀ c : Nat, (c = ns.length ↔ ns.Nodup) → Q (.int (c : Int)) H) : PLenSet K (.ref t) H Q := ⟨t, ns, rfl, h, hl, k⟩
end
section
variable {X : Cx}
def PNF (H : Hp) (xs : List V) (Q : VK) : Prop := ∀ (p : Addr) (o : Obj), H p = none → o.dict = none → Q (.ref p) (upd H p (.frz o (.tup xs)))
theorem frz_new {pins : List (Addr × Obj)} {σ : L2.St} {H : Hp} {s : Shared} {its : List Value} {xs : List V} {Q : VK} (I : Inv X pins σ H s) (rv : Vals xs its) (hz : xs.length ≤ sizeLine) (q : PNF H xs Q) :
    EP X pins σ Q (.ref s.heap.objs.size) { s with heap := s.heap.push { cls := .type "tuple", data := .seq its.toArray } } :=
  ⟨.ref s.heap.objs.size, upd H s.heap.objs.size (.frz { cls := .type "tuple", data := .seq its.toArray } (.tup xs)), I.laid (t' := s.toks) (fun b o e => Heap.get?_push_of_some _ e) (Nat.le_refl _)
    (show ObjOk X.prog X.w _ _ _ (.frz _ (.tup xs)) from ⟨Heap.get?_push_size _ rfl, hz, its, rv, IsTup.new _ _⟩), rfl, q _ _ (I.hok.fresh (Nat.le_refl _)) rfl⟩
def rCatF (K : PySem.W.Frag) : R2 := fun x y H Q => ∃ a b xs ys, x = .ref a ∧ y = .ref b ∧ SqT K H a xs ∧ SqT K H b ys ∧ xs.length + ys.length ≤ sizeLine ∧
  (xs = [] → Q (.ref b) H) ∧ (xs ≠ [] → ys = [] → Q (.ref a) H) ∧ (xs ≠ [] → ys ≠ [] → PNF H (xs ++ ys) Q)
theorem op_catF : OpR X (binaryOp .Add) (rCatF X.K) := by
  intro pins s σ H x y v u Q I rx ry h
  obtain ⟨a, b, xs, ys, rfl, rfl, ha, hb, hz, q0, q1, q2⟩ := h
  cases rx
  cases ry
  obtain ⟨its, r1, p1, _⟩ := I.tuple ha
  obtain ⟨its2, r2, p2, _⟩ := I.tuple hb
  by_cases hx : xs = []
  · subst hx
    cases r1
    exact cat_tup0 p1 p2 ⟨.ref b, H, I, rfl, q0 rfl⟩
  · exact HT.cat_tup p1 p2 (fun z => hx (r1.nil_iff.mp z)) (fun z => ⟨.ref a, H, I, rfl, q1 hx (r2.nil_iff.mp z)⟩) (fun z => frz_new I (r1.append r2) (by rw [List.length_append]; exact hz) (q2 hx fun w => z (r2.nil_iff.mpr w))) (by rw [← r1.length, ← r2.length]; exact hz)
def rAddF (K : PySem.W.Frag) : R2 := fun x y H Q => rI0 (fun i j => .int (i + j)) x y H Q ∨ rCatF K x y H Q
theorem op_addF : OpR X (binaryOp .Add) (rAddF X.K) := OpR.or op_add op_catF
def rSlF (K : PySem.W.Frag) : V → Option Int → Option Int → Hp → VK → Prop := fun x lo hi H Q => ∃ a xs, x = .ref a ∧ SqT K H a xs ∧
  (HT.sIx xs.length 0 lo = 0 ∧ HT.sIx xs.length xs.length hi = xs.length → Q (.ref a) H) ∧ (¬ (HT.sIx xs.length 0 lo = 0 ∧ HT.sIx xs.length xs.length hi = xs.length) → PNF H (cutV xs lo hi) Q)
theorem sl_tupF : SlR X (rSlF X.K) := by
  intro pins s σ H x v vl vu lo hi sl Q I rx hs pl pu h
  obtain ⟨a, xs, rfl, hx, q1, q2⟩ := h
  cases rx
  obtain ⟨its, r, ht, hz⟩ := I.tuple hx
  have hlen : its.toArray.size = xs.length := by rw [List.size_toArray]; exact r.length.symm
  refine ⟨"tuple", _, PyProof.Rows.slot_tuple_getitem.lookup, ht.typeIs, ?_⟩
  by_cases hw : HT.sIx xs.length 0 lo = 0 ∧ HT.sIx xs.length xs.length hi = xs.length
  · exact getItem_tuple_whole ht hs pl pu (by rw [hlen]; exact hw) ⟨.ref a, H, I, rfl, q1 hw⟩
  · refine HT.getItem_tuple_cut ht hs pl pu (by rw [hlen]; exact hw) ?_ (by rw [hlen]; exact hz)
    rw [hlen]
    exact frz_new I ((r.drop (HT.sIx xs.length 0 lo)).take (HT.sIx xs.length xs.length hi - HT.sIx xs.length 0 lo)) (Nat.le_trans (cutV_length xs lo hi) hz) (q2 hw)
def tTupF (t : TA) : TE := fun σ H Q => t σ H fun xs H1 => xs.length ≤ sizeLine ∧ PNF H1 xs Q
theorem pe_tupF {es : List Expr} {t : TA} {pos : Pos} {x1} (h : PA X es t) : PE X (.Tuple es x1 pos) (tTupF t) := by
  refine ⟨fun pins s σ H Q I hq => wpAny_Tuple_spliced (thn (h.run pos pins s σ H _ I hq) fun us s1 z => ?_)⟩
  obtain ⟨xs, H1, I1, r, hz, q⟩ := z
  exact ⟨by rw [← r.length]; exact hz, frz_new I1 r hz q⟩
end
end Kb
set_option Elab.async false
set_option linter.all false
set_option maxRecDepth 100000
namespace Kb
open PySem PySem.Spec PyProof.Rows L2 SX PySem.Builtin PySem.Builtin.Str PySem.StrLaws
/-- the places of c in l, counted from k on -/
def posN (c : Nat) : List Nat → Nat → List Nat
  | [], _ => []
  | x :: r, k => if x = c then k :: posN c r (k + 1) else posN c r (k + 1)
theorem posN_len (c : Nat) : ∀ (l : List Nat) (k : Nat), (posN c l k).length = l.count c
  | [], _ => rfl
  | x :: r, k => by
    rw [posN, List.count_cons]
    by_cases h : x = c
    · rw [if_pos h, List.length_cons, posN_len c r]; simp [h]
    · rw [if_neg h, posN_len c r]; simp [h]
theorem forIn_yield {α σ : Type} {f : α → σ → Id (ForInStep σ)} {a : α} {r : List α} {st st' : σ} (h : f a st = pure (ForInStep.yield st')) : (forIn (a :: r) st f : Id σ).run = (forIn r st' f : Id σ).run := by
  rw [List.forIn_cons, h]; rfl
theorem forIn_none {α σ : Type} {f : α → σ → Id (ForInStep σ)} {st : σ} : (forIn ([] : List α) st f : Id σ).run = st := rfl
theorem occ_walk (l : List Nat) (c lim : Nat) : ∀ (r : List Nat) (a : Nat) (arr : Array Nat) (free : Nat), l.drop a = r → free ≤ a → arr.size ≤ a → a + r.length + 1 ≤ lim →
    (forIn (List.range' a (r.length + 1)) (arr, free) (occBody (S l) (S [c]) l.length lim)).run.fst.toList = arr.toList ++ posN c r a
  | [], a, arr, free, hr, hf, hs, hl => by
    have h1 : l.length ≤ a := by
      have := congrArg List.length hr
      rw [List.length_drop] at this
      simp at this
      omega
    have st : occBody (S l) (S [c]) l.length lim a (arr, free) = pure (ForInStep.yield (arr, free)) := by
      unfold occBody
      rw [if_neg]
      intro z
      have := z.1.2
      have e : (S [c]).length = 1 := rfl
      rw [e] at this
      omega
    rw [show List.range' a (([] : List Nat).length + 1) = [a] from rfl, forIn_yield st, forIn_none, posN, List.append_nil]
  | x :: r, a, arr, free, hr, hf, hs, hl => by
    have h1 : a < l.length := by
      have := congrArg List.length hr
      rw [List.length_drop, List.length_cons] at this
      omega
    have hx : l[a]? = some x := by
      have := congrArg (fun q => q[0]?) hr
      simpa [List.getElem?_drop] using this
    have hr' : l.drop (a + 1) = r := by
      have := congrArg List.tail hr
      rw [List.tail_drop] at this
      exact this
    rw [List.length_cons] at hl
    have e : (S [c]).length = 1 := rfl
    rw [List.length_cons, show List.range' a (r.length + 1 + 1) = a :: List.range' (a + 1) (r.length + 1) from rfl]
    by_cases hc : x = c
    · subst hc
      have st : occBody (S l) (S [x]) l.length lim a (arr, free) = pure (ForInStep.yield (arr.push a, a + 1)) := by
        unfold occBody
        rw [if_pos ⟨⟨⟨by dsimp only; omega, hf⟩, by rw [e]; omega⟩, (sub_sign h1).mpr hx⟩, e]
      rw [forIn_yield st, occ_walk l x lim r (a + 1) (arr.push a) (a + 1) hr' (Nat.le_refl _) (by rw [Array.size_push]; omega) (by omega), posN, if_pos rfl, Array.toList_push, List.append_assoc]
      rfl
    · have st : occBody (S l) (S [c]) l.length lim a (arr, free) = pure (ForInStep.yield (arr, free)) := by
        unfold occBody
        rw [if_neg]
        intro z
        have := (sub_sign h1).mp z.2
        rw [hx] at this
        exact hc (Option.some.inj this)
      rw [forIn_yield st, occ_walk l c lim r (a + 1) arr free hr' (by omega) (by omega) (by omega), posN, if_neg hc]
theorem occ_sign (l : List Nat) (c : Nat) : occurrences (S l) (S [c]) 0 (S l).length ((S l).length + 1) = posN c l 0 := by
  have e : (S l).length = l.length := S_len l
  rw [occ_eq, e]
  have := occ_walk l c (l.length + 1) l 0 #[] 0 rfl (Nat.le_refl _) (Nat.le_refl _) (by omega)
  rw [show l.length + 1 - 0 = l.length + 1 by omega, this]
  rfl
theorem count_S (l : List Nat) (c : Nat) : (Txt.count (S l) (S [c]) : Int) = (l.count c : Nat) := by
  rw [← posN_len c l 0, ← occ_sign l c]
  rfl
section
variable {K : PySem.W.Frag} {H : Hp} {Q : VK}
theorem r_countS {l : List Nat} {c : Nat} (q : Q (.int ((l.count c : Nat) : Int)) H) : rCountS (.str (S l)) [.str (S [c])] H Q := ⟨S l, S [c], rfl, rfl, by
  have := count_S l c
  rw [this]; exact q⟩
end
theorem vals_signs {x : Str} : ∀ {us : List Value} {k : Nat} {l : List Nat}, l = x.cps.toList.drop k → us.length = l.length → (∀ j v, us[j]? = some v → SignAt x (k + j) v) → Vals (l.map fun c => V.str ⟨#[c]⟩) us
  | [], _, [], _, _, _ => .nil
  | [], _, _ :: _, _, h, _ => by simp at h
  | _ :: _, _, [], _, h, _ => by simp at h
  | u :: us, k, c :: l, e, h, at' => by
    have hc : x.cps.toList[k]? = some c := by
      have := congrArg (fun q => q[0]?) e
      simp only [List.getElem?_cons_zero, List.getElem?_drop, Nat.add_zero] at this
      exact this.symm
    have e' : l = x.cps.toList.drop (k + 1) := by
      have := congrArg List.tail e
      rw [List.tail_drop] at this
      exact this
    obtain ⟨c', t, h1, h2⟩ := at' 0 u rfl
    rw [Nat.add_zero, ← Array.getElem?_toList, hc] at h1
    cases h1
    exact .cons ⟨t, h2⟩ (vals_signs e' (by simpa using h) fun j v hj => by have := at' (j + 1) v hj; rw [show k + 1 + j = k + (j + 1) by omega]; exact this)
/-- list(text) -/
def rListTx : List V → Hp → VK → Prop := fun xs H Q => ∃ z : Str, xs = [V.str z] ∧ z.cps.size ≤ sizeLine ∧ ∀ p, H p = none → Q (.ref p) (upd H p (.lst (z.cps.toList.map fun c => V.str ⟨#[c]⟩)))
theorem call_listTx {X : Cx} (hc : X.calm = true) : CallR X (.type "list") rListTx := by
  intro pins s σ H xs us Q I r h
  obtain ⟨z, rfl, hz, q⟩ := h
  obtain ⟨u, rfl, t, rfl⟩ := vals1 r
  refine call_list_str (I.ok.hd hc) z t (fun h' tk acc c' hk hS ha => ?_) hz
  have hv : Vals (z.cps.toList.map fun c => V.str ⟨#[c]⟩) acc.toList := vals_signs (k := 0) rfl (by rw [Array.length_toList, Array.length_toList]; exact ha.1) fun j v e => by
    rw [Nat.zero_add]
    exact ha.2 j v (by rw [← Array.getElem?_toList]; exact e)
  have hlen : (z.cps.toList.map fun c => V.str ⟨#[c]⟩).length ≤ sizeLine := by rw [List.length_map, Array.length_toList]; exact hz
  exact ⟨.ref s.heap.objs.size, upd H s.heap.objs.size (.lst _), I.laid (t' := tk) hk (Nat.le_refl _) (show ObjOk X.prog X.w _ _ _ (.lst _) from ⟨hlen, acc.toList, c', hv, by rw [Array.toArray_toList]; exact hS⟩), rfl, q _ (I.hok.fresh (Nat.le_refl _))⟩
section
variable {K : PySem.W.Frag} {H : Hp} {Q : VK}
theorem r_listTx {l : List Nat} (hz : l.length ≤ 1000000) (k : ∀ p H', H p = none → Same H H' → H' p = some (.lst (l.map fun c => V.str (S [c]))) → Q (.ref p) H') : rListTx [.str (S l)] H Q :=
  ⟨S l, rfl, by rw [show (S l).cps.size = l.length from S_len l, sizeLine_eq]; omega, fun p hp => k p _ hp (same_new hp) upd_same⟩
end
end Kb
set_option Elab.async false
set_option linter.all false
set_option maxRecDepth 100000
namespace Kb
open L2
/-- the bell of a sign -/
def blC (c : Nat) : Int := fnd signsL c + 1
/-- reading on, with the bells so far -/
def rdA (n : Int) : List Nat → List Int → Option (List Int)
  | [], acc => some acc
  | c :: r, acc => if (1 ≤ blC c ∧ blC c ≤ n) ∧ blC c ∉ acc then rdA n r (acc ++ [blC c]) else none
/-- the text is one of a row of the stage -/
def OkT (n : Nat) (l : List Nat) : Prop := l.length = n ∧ ∀ c ∈ signsL.take n, l.count c = 1
theorem rdA_iff (n : Int) : ∀ (l : List Nat) (acc r : List Int), acc.Nodup → (rdA n l acc = some r ↔ (∀ c ∈ l, 1 ≤ blC c ∧ blC c ≤ n) ∧ (acc ++ l.map blC).Nodup ∧ r = acc ++ l.map blC)
  | [], acc, r, nd => by
    rw [rdA, List.map_nil, List.append_nil]
    constructor
    · intro h; cases h; exact ⟨(fun c h => nomatch h), nd, rfl⟩
    · rintro ⟨_, _, h⟩; rw [h]
  | c :: l, acc, r, nd => by
    rw [rdA]
    by_cases h : (1 ≤ blC c ∧ blC c ≤ n) ∧ blC c ∉ acc
    · rw [if_pos h]
      have nd' : (acc ++ [blC c]).Nodup := by
        rw [List.nodup_append]
        exact ⟨nd, by simp, fun a ha b hb e => h.2 (by rw [List.mem_singleton] at hb; rw [← hb, ← e]; exact ha)⟩
      rw [rdA_iff n l _ r nd', List.append_assoc]
      constructor
      · rintro ⟨h1, h2, h3⟩
        refine ⟨fun x hx => ?_, h2, h3⟩
        rcases List.mem_cons.mp hx with rfl | hx
        · exact h.1
        · exact h1 x hx
      · rintro ⟨h1, h2, h3⟩
        exact ⟨fun x hx => h1 x (by simp [hx]), h2, h3⟩
    · rw [if_neg h]
      constructor
      · intro z; cases z
      · rintro ⟨h1, h2, _⟩
        refine absurd ⟨h1 c (by simp), fun hm => ?_⟩ h
        rw [List.nodup_append] at h2
        exact h2.2.2 _ hm (blC c) (by simp) rfl
theorem signs_chk : (signsL.all fun c => decide (1 ≤ blC c) && decide (blC c ≤ 12) && decide (sgAt (blC c) = c) && (List.range 13).all fun n => decide (blC c ≤ (n : Int)) == decide (c ∈ signsL.take n)) = true := by decide +kernel
theorem signs_chk2 : ((List.range 13).all fun n => (signsL.take n).all fun c => decide (fnd (signsL.take n) c + 1 = blC c)) = true := by decide +kernel
theorem signs_chk3 : ((List.range 12).all fun k => decide (blC (sgAt ((k : Int) + 1)) = (k : Int) + 1) && decide (sgAt ((k : Int) + 1) ∈ signsL)) = true := by decide +kernel
theorem sign_all {c : Nat} (h : c ∈ signsL) : 1 ≤ blC c ∧ blC c ≤ 12 ∧ sgAt (blC c) = c ∧ ∀ n : Nat, n ≤ 12 → (blC c ≤ (n : Int) ↔ c ∈ signsL.take n) := by
  have := List.all_eq_true.mp signs_chk c h
  simp only [Bool.and_eq_true, decide_eq_true_eq] at this
  refine ⟨this.1.1.1, this.1.1.2, this.1.2, fun n hn => ?_⟩
  have h2 := List.all_eq_true.mp this.2 n (List.mem_range.mpr (by omega))
  have h3 := beq_iff_eq.mp h2
  exact decide_eq_decide.mp h3
theorem fnd_none {l : List Nat} {c : Nat} (h : c ∉ l) : fnd l c = -1 := by
  unfold fnd
  have : l.findIdx? (· == c) = none := by
    rw [List.findIdx?_eq_none_iff]
    intro x hx
    by_cases z : x = c
    · subst z; exact absurd hx h
    · simpa using z
  rw [this]
theorem blC_in {c : Nat} (h : 1 ≤ blC c) : c ∈ signsL := Decidable.byContradiction fun z => by
  unfold blC at h
  rw [fnd_none z] at h
  omega
theorem blC_stage {n c : Nat} (hn : n ≤ 12) : (1 ≤ blC c ∧ blC c ≤ (n : Int)) ↔ c ∈ signsL.take n := by
  constructor
  · rintro ⟨h1, h2⟩
    exact ((sign_all (blC_in h1)).2.2.2 n hn).mp h2
  · intro h
    have hc := List.mem_of_mem_take h
    exact ⟨(sign_all hc).1, ((sign_all hc).2.2.2 n hn).mpr h⟩
theorem fnd_take {n c : Nat} (hn : n ≤ 12) (h : c ∈ signsL.take n) : fnd (signsL.take n) c + 1 = blC c := by
  have h1 := List.all_eq_true.mp signs_chk2 n (List.mem_range.mpr (by omega))
  exact of_decide_eq_true (List.all_eq_true.mp h1 c h)
theorem blC_at {b : Int} (h1 : 1 ≤ b) (h2 : b ≤ 12) : blC (sgAt b) = b ∧ sgAt b ∈ signsL := by
  have := List.all_eq_true.mp signs_chk3 (b - 1).toNat (List.mem_range.mpr (by omega))
  simp only [Bool.and_eq_true, decide_eq_true_eq] at this
  have e : (((b - 1).toNat : Nat) : Int) + 1 = b := by omega
  rw [e] at this
  exact this
theorem signs_nodup : signsL.Nodup := by decide
theorem signs_length : signsL.length = 12 := rfl
theorem nodup_map_inj {α β : Type} {f : α → β} {l : List α} (nd : l.Nodup) (h : ∀ x ∈ l, ∀ y ∈ l, f x = f y → x = y) : (l.map f).Nodup := by
  rw [List.nodup_iff_pairwise_ne, List.pairwise_map]
  exact (List.nodup_iff_pairwise_ne.mp nd).imp_of_mem fun {a b} ha hb ne e => ne (h a ha b hb e)
theorem nodup_of_map {α β : Type} {f : α → β} {l : List α} (nd : (l.map f).Nodup) : l.Nodup := by
  rw [List.nodup_iff_pairwise_ne, List.pairwise_map] at nd
  rw [List.nodup_iff_pairwise_ne]
  exact nd.imp fun h e => h (by rw [e])
theorem count_one {α : Type} [DecidableEq α] : ∀ {l : List α} {c : α}, l.Nodup → c ∈ l → l.count c = 1
  | [], _, _, h => nomatch h
  | x :: l, c, nd, h => by
    have nd' := List.nodup_cons.mp nd
    rw [List.count_cons]
    by_cases e : x = c
    · subst e
      rw [List.count_eq_zero.mpr nd'.1]; simp
    · have hc : c ∈ l := by
        rcases List.mem_cons.mp h with z | z
        · exact absurd z.symm e
        · exact z
      rw [count_one nd'.2 hc]; simp [e]
/-- reading by bells and counting signs agree -/
theorem read_iff {n : Nat} (hn : n ≤ 12) {l : List Nat} {r : List Int} (hl : l.length = n) : rdA (n : Int) l [] = some r ↔ (OkT n l ∧ r = l.map blC) := by
  rw [rdA_iff _ _ _ _ List.nodup_nil, List.nil_append]
  have tl : (signsL.take n).length = n := by rw [List.length_take, signs_length]; omega
  have tnd : (signsL.take n).Nodup := signs_nodup.sublist (List.take_sublist _ _)
  constructor
  · rintro ⟨h1, h2, h3⟩
    have nd := nodup_of_map h2
    have pm := perm_of_sub nd (fun c hc => (blC_stage hn).mp (h1 c hc)) (b := signsL.take n) (by rw [tl, hl]; exact Nat.le_refl _)
    exact ⟨⟨hl, fun c hc => by rw [pm.count_eq]; exact count_one tnd hc⟩, h3⟩
  · rintro ⟨⟨_, h⟩, h3⟩
    have pm := perm_of_sub tnd (fun c hc => List.count_pos_iff.mp (by rw [h c hc]; exact Nat.one_pos)) (b := l) (by rw [tl, hl]; exact Nat.le_refl _)
    have nd := pm.nodup_iff.mp tnd
    refine ⟨fun c hc => (blC_stage hn).mpr (pm.mem_iff.mpr hc), nodup_map_inj nd fun x hx y hy e => ?_, h3⟩
    have sx := (sign_all (List.mem_of_mem_take (pm.mem_iff.mpr hx))).2.2.1
    have sy := (sign_all (List.mem_of_mem_take (pm.mem_iff.mpr hy))).2.2.1
    rw [← sx, ← sy, e]
theorem ok_row {n : Nat} (hn : n ≤ 12) {l : List Nat} (h : OkT n l) : IsRow (l.map blC) n ∧ (l.map blC).map sgAt = l ∧ (l.map fun c => fnd (signsL.take n) c + 1) = l.map blC := by
  have hr := (read_iff hn h.1).mpr ⟨h, rfl⟩
  rw [rdA_iff _ _ _ _ List.nodup_nil, List.nil_append] at hr
  obtain ⟨h1, h2, _⟩ := hr
  refine ⟨⟨by rw [List.length_map]; exact h.1, h2, fun x hx => ?_⟩, ?_, ?_⟩
  · obtain ⟨c, hc, rfl⟩ := List.mem_map.mp hx
    exact h1 c hc
  · rw [List.map_map]
    exact (List.map_congr_left fun c hc => (sign_all (blC_in (h1 c hc).1)).2.2.1).trans (List.map_id l)
  · exact List.map_congr_left fun c hc => fnd_take hn ((blC_stage hn).mp (h1 c hc))
theorem row_ok {n : Nat} (hn : n ≤ 12) {r : List Int} (h : IsRow r n) : OkT n (r.map sgAt) ∧ (r.map sgAt).map blC = r := by
  have e : (r.map sgAt).map blC = r := by
    rw [List.map_map]
    exact (List.map_congr_left fun b hb => (blC_at (h.2.2 b hb).1 (by have := (h.2.2 b hb).2; omega)).1).trans (List.map_id r)
  have hl : (r.map sgAt).length = n := by rw [List.length_map]; exact h.1
  refine ⟨((read_iff hn hl (r := r)).mp ?_).1, e⟩
  rw [rdA_iff _ _ _ _ List.nodup_nil, List.nil_append, e]
  refine ⟨fun c hc => ?_, h.2.1, rfl⟩
  obtain ⟨b, hb, rfl⟩ := List.mem_map.mp hc
  rw [(blC_at (h.2.2 b hb).1 (by have := (h.2.2 b hb).2; omega)).1]
  exact h.2.2 b hb
def toI : Dat → Int | .int i => i | _ => 0
/-- the data is a row of a stage from 1 to 12 -/
def RowD : Dat → Prop
  | .tup ds => 1 ≤ ds.length ∧ ds.length ≤ 12 ∧ (∀ e ∈ ds, ∃ i : Int, e = .int i ∧ 1 ≤ i ∧ i ≤ (ds.length : Int)) ∧ (ds.map toI).Nodup
  | _ => False
theorem rowD_row {n : Nat} (h1 : 1 ≤ n) (h2 : n ≤ 12) {r : List Int} (h : IsRow r n) : RowD (.tup (r.map Dat.int)) := by
  refine ⟨by rw [List.length_map, h.1]; exact h1, by rw [List.length_map, h.1]; exact h2, fun e he => ?_, ?_⟩
  · obtain ⟨b, hb, rfl⟩ := List.mem_map.mp he
    rw [List.length_map, h.1]
    exact ⟨b, rfl, h.2.2 b hb⟩
  · rw [List.map_map]
    have : r.map (toI ∘ Dat.int) = r := List.map_id r
    rw [this]; exact h.2.1
end Kb
set_option Elab.async false
set_option linter.all false
set_option maxRecDepth 100000
set_option maxHeartbeats 4000000
namespace Kb
namespace K0
open PySem PySem.Spec PyProof.Rows L2 SX
local macro_rules | `(tactic| walk_at "tk") => `(tactic| first
  | assumption
  | ((with_reducible refine' sqT_of ?k); (case k => assumption))
  | ((with_reducible refine' sqT_ofD ?k); (case k => assumption))
  | ((with_reducible refine' noD_of ?k); (case k => assumption))
  | ((with_reducible refine' noD_same ?s ?k); (case s => assumption); (case k => walk_at "tk"))
  | ((with_reducible refine' sqL_of ?k); (case k => assumption))
  | ((with_reducible refine' sqT_same ?s ?k); (case s => assumption); (case k => walk_at "tk"))
  | ((with_reducible refine' sqL_same ?s ?k); (case s => assumption); (case k => walk_at "tk"))
  | ((with_reducible refine' sqT_but ?s ?t ?k); (case s => assumption); (case t => walk_at "tk"); (case k => walk_at "tk"))
  | ((with_reducible refine' sqL_but ?s ?t ?k); (case s => assumption); (case t => walk_at "ne"); (case k => walk_at "tk"))
  | ((with_reducible refine' sqL_of ?k); (case k => walk_at "tk"))
  | ((with_reducible refine' sqT_of ?k); (case k => walk_at "tk"))
  | ((with_reducible refine' at_same ?s ?k); (case s => assumption); (case k => walk_at "tk"))
  | ((with_reducible refine' at_but ?s ?t ?k); (case s => assumption); (case t => walk_at "ne"); (case k => walk_at "tk")))
local macro_rules | `(tactic| walk_at "ne") => `(tactic| first
  | assumption
  | (refine Ne.symm ?_; assumption)
  | exact ne_of_none (by assumption) (by assumption)
  | exact (ne_of_none (by assumption) (by assumption)).symm)
local macro_rules | `(tactic| walk_at "side") => `(tactic| first
  | assumption
  | omega
  | (simp only [sizeLine_eq, List.length_cons, List.length_nil, List.length_map]; omega)
  | (show _ ≤ sizeLine; decide))
local macro_rules | `(tactic| walk_at "kit") => `(tactic| first
  | (show kitB _ _ = some true; decide +kernel)
  | (show kitB _ _ = some false; decide +kernel))
local macro_rules | `(tactic| walk_at "rng") => `(tactic| first
  | (refine ⟨by omega, by omega, by omega, by omega⟩)
  | (refine ⟨by omega, by omega⟩)
  | ((simp only [List.length_map]); (refine ⟨by omega, by omega, by omega, by omega⟩))
  | ((simp only [List.length_map]); (refine ⟨by omega, by omega⟩)))
local macro_rules | `(tactic| walk_at "rd1") => `(tactic| first
  | with_reducible refine r_seq ?_
  | ((with_reducible refine' r_var ?k0 ?_); (case k0 => rfl))
  | with_reducible refine r_op ?_
  | with_reducible refine r_c ?_
  | with_reducible refine r_asg ?_
  | with_reducible refine r_name ?_
  | with_reducible refine r_cons ?_
  | with_reducible refine r_nil ?_
  | with_reducible refine r_CB ?_
  | with_reducible refine r_if ?_
  | with_reducible refine r_test ?_
  | with_reducible refine r_k ?_
  | with_reducible refine r_T ?_
  | with_reducible refine r_F ?_
  | with_reducible refine r_nT ?_
  | with_reducible refine r_nF ?_
  | with_reducible refine r_ret ?_
  | with_reducible refine r_drop ?_
  | with_reducible refine r_next ?_
  | with_reducible refine r_call ?_
  | with_reducible refine r_addI ?_
  | with_reducible refine r_subI ?_
  | with_reducible refine r_ltI ?_
  | with_reducible refine r_gtI ?_
  | with_reducible refine r_leI ?_
  | with_reducible refine r_geI ?_
  | with_reducible refine r_eqI ?_
  | with_reducible refine r_neI ?_
  | with_reducible refine r_int ?_
  | with_reducible refine r_abs ?_
  | with_reducible refine r_not ?_
  | with_reducible refine r_and ?_
  | with_reducible refine r_or ?_
  | with_reducible refine r_tru ?_
  | with_reducible refine r_truB ?_
  | with_reducible refine r_lst ?_
  | with_reducible refine r_tup ?_
  | with_reducible refine r_BM ?_
  | with_reducible refine r_BM0 ?_
  | with_reducible refine r_tyS ?_
  | with_reducible refine r_gsub ?_
  | with_reducible refine r_then ?_
  | with_reducible refine r_lstRg ?_
  | with_reducible refine r_tupRg ?_
  | with_reducible refine r_rg2 ?_
  | with_reducible refine r_rg1 ?_
  | with_reducible refine r_ii ?_
  | with_reducible refine r_i ?_
  | with_reducible refine r_ipI ?_
  | with_reducible refine r_un ?_
  | with_reducible refine r_neg ?_
  | with_reducible refine r_isN ?_
  | with_reducible refine r_notN ?_
  | with_reducible refine r_notV ?_
  | with_reducible refine r_pnot ?_
  | with_reducible refine r_pif ?_
  | with_reducible refine r_andV ?_
  | with_reducible refine r_orV ?_
  | with_reducible refine r_ifE ?_
  | with_reducible refine r_chain ?_
  | with_reducible refine r_sl ?_
  | with_reducible refine r_noPart ?_
  | with_reducible refine r_part ?_
  | with_reducible refine r_brk ?_
  | with_reducible refine r_cont ?_
  | with_reducible refine r_retN ?_
  | with_reducible refine r_truI ?_
  | with_reducible refine r_B ?_
  | with_reducible refine r_for ?_
  | with_reducible refine r_rng1 ?_
  | with_reducible refine r_rng2 ?_
  | with_reducible refine r_rng3 ?_
  | with_reducible refine r_body ?_
  | with_reducible refine r_lc ?_
  | with_reducible refine r_yes ?_
  | ((with_reducible refine' r_mod ?k0 ?_); (case k0 => walk_at "side"))
  | ((with_reducible refine' r_mulI ?k0 ?_); (case k0 => first | exact Or.inl ⟨by omega, by omega⟩ | exact Or.inr ⟨by omega, by omega⟩))
  | ((with_reducible refine' r_lenL ?k0 ?_); (case k0 => walk_at "tk"))
  | ((with_reducible refine' r_lenT ?k0 ?_); (case k0 => walk_at "tk"))
  | ((with_reducible refine' r_truL ?k0 ?_); (case k0 => walk_at "tk"))
  | ((with_reducible refine' r_truT ?k0 ?_); (case k0 => walk_at "tk"))
  | ((with_reducible refine' r_ixL ?k0 ?k1 ?_); (case k0 => walk_at "tk"); (case k1 => first | assumption | rfl))
  | ((with_reducible refine' r_ixT ?k0 ?k1 ?_); (case k0 => walk_at "tk"); (case k1 => first | assumption | rfl))
  | ((with_reducible refine' r_new ?k0 ?_); (case k0 => walk_at "side"))
  | ((with_reducible refine' r_tyL ?k0 ?_); (case k0 => walk_at "tk"))
  | ((with_reducible refine' r_append ?k0 ?k1 ?_); (case k0 => walk_at "tk"); (case k1 => walk_at "side"))
  | ((with_reducible refine' r_setL ?k0 ?k1 ?_); (case k0 => walk_at "tk"); (case k1 => first | assumption | rfl))
  | ((with_reducible refine' r_kTupL ?k0 ?_); (case k0 => walk_at "tk"))
  | ((with_reducible refine' r_kTupT ?k0 ?_); (case k0 => walk_at "tk"))
  | ((with_reducible refine' r_listL ?k0 ?_); (case k0 => walk_at "tk"))
  | ((with_reducible refine' r_listT ?k0 ?_); (case k0 => walk_at "tk"))
  | ((with_reducible refine' r_aug ?k0 ?_); (case k0 => rfl))
  | ((with_reducible refine' r_lenS ?k0 ?_); (case k0 => walk_at "side"))
  | ((with_reducible refine' r_pop ?k0 ?_); (case k0 => walk_at "tk"))
  | ((with_reducible refine' r_pr1 ?k0 ?_); (case k0 => walk_at "rng"))
  | ((with_reducible refine' r_pr2 ?k0 ?_); (case k0 => walk_at "rng"))
  | ((with_reducible refine' r_pr3d ?k0 ?_); (case k0 => walk_at "rng"))
  | ((with_reducible refine' r_isiI ?k0 ?_); (case k0 => walk_at "kit"))
  | ((with_reducible refine' r_isiB ?k0 ?_); (case k0 => walk_at "kit"))
  | ((with_reducible refine' r_isiS ?k0 ?_); (case k0 => walk_at "kit"))
  | ((with_reducible refine' r_isiN ?k0 ?_); (case k0 => walk_at "kit"))
  | ((with_reducible refine' r_isiT ?k0 ?k1 ?_); (case k0 => walk_at "tk"); (case k1 => walk_at "kit"))
  | ((with_reducible refine r_seqT ?_); (repeat (walk_at "rd1")); ((with_reducible refine' r_pseqT ?k0 ?_); (case k0 => walk_at "tk")))
  | ((with_reducible refine r_seqL ?_); (repeat (walk_at "rd1")); ((with_reducible refine' r_pseqL ?k0 ?_); (case k0 => walk_at "tk")))
  | ((with_reducible refine r_seqS ?_); (repeat (walk_at "rd1")); (with_reducible refine r_pseqS ?_)))
local macro_rules | `(tactic| walk_at "rd") => `(tactic| ((repeat (walk_at "rd1")); (try dsimp only)))
local macro_rules | `(tactic| walk_at "rd1") => `(tactic| first
  | with_reducible refine r_BMT ?_
  | with_reducible refine r_par ?_
  | with_reducible refine r_parV ?_
  | ((with_reducible refine' r_ptp ?k0 ?k1 ?_); (case k0 => walk_at "tk"); (case k1 => walk_at "tk"))
  | with_reducible refine r_eqS ?_
  | with_reducible refine r_neS ?_
  | with_reducible refine r_callW ?_
  | with_reducible refine r_try ?_
  | with_reducible refine r_enT ?_
  | ((with_reducible refine' r_pen ?k0 ?_); (case k0 => walk_at "tk")))
local macro_rules | `(tactic| walk_at "rd1") => `(tactic| first
  | with_reducible refine r_dIn ?_
  | with_reducible refine r_dNo ?_
  | with_reducible refine r_dPut ?_
  | with_reducible refine r_dGet ?_)
local macro_rules | `(tactic| walk_at "pl0") => `(tactic| first
  | assumption
  | exact pl_same (by assumption) (by assumption)
  | exact pl_same (by assumption) (pl_same (by assumption) (by assumption))
  | exact pl_same (by assumption) (pl_same (by assumption) (pl_same (by assumption) (by assumption))))
local macro_rules | `(tactic| walk_at "pl") => `(tactic| first
  | walk_at "pl0"
  | ((with_reducible refine' pl_butL ?s ?n ?k); (case s => assumption); (case n => walk_at "ne"); (case k => walk_at "pl"))
  | ((with_reducible refine' pl_same ?s ?k); (case s => assumption); (case k => walk_at "pl")))
local macro_rules | `(tactic| walk_at "ne") => `(tactic| first
  | exact ne_pl (by assumption) (by walk_at "pl0")
  | exact (ne_pl (by assumption) (by walk_at "pl0")).symm)
local macro_rules | `(tactic| walk_at "fr") => `(tactic| first
  | assumption
  | ((with_reducible refine' free_but ?b ?n ?h); (case h => assumption); (case n => walk_at "ne"); (case b => walk_at "but"))
  | ((with_reducible refine' Same.free ?b ?h); (case h => assumption); (case b => walk_at "same")))
local macro_rules | `(tactic| walk_at "but") => `(tactic| first
  | assumption
  | exact But.refl
  | ((with_reducible refine' But.trans ?a ?b); (case b => assumption); (case a => walk_at "but"))
  | ((with_reducible refine' But.trans ?a (Same.but ?b)); (case b => assumption); (case a => walk_at "but"))
  | ((with_reducible refine' but_via ?a ?b ?c); (case b => assumption); (case c => walk_at "fr"); (case a => walk_at "but")))
local macro_rules | `(tactic| walk_at "same") => `(tactic| first
  | assumption
  | exact Same.refl _
  | ((with_reducible refine' Same.trans ?a ?b); (case b => assumption); (case a => walk_at "same"))
  | ((with_reducible refine' same_but ?a ?b ?c); (case b => assumption); (case c => walk_at "fr"); (case a => walk_at "same")))
local macro_rules | `(tactic| walk_at "tk") => `(tactic| first
  | ((with_reducible refine' sqT_pl ?s ?t ?k); (case s => assumption); (case t => walk_at "pl0"); (case k => walk_at "tk"))
  | ((with_reducible refine' rp_same ?s ?k); (case s => assumption); (case k => walk_at "tk"))
  | ((with_reducible refine' rp_pl ?s ?t ?k); (case s => assumption); (case t => walk_at "pl0"); (case k => walk_at "tk")))
local macro_rules | `(tactic| walk_at "it") => `(tactic| first
  | assumption
  | ((with_reducible refine' sqI_1 ?k); (case k => assumption))
  | ((with_reducible refine' sqI_0 ?k); (case k => assumption))
  | ((with_reducible refine' sqI_of ?k); (case k => assumption))
  | ((with_reducible refine' sqI_D ?k); (case k => assumption))
  | ((with_reducible refine' sqT_same ?s ?k); (case s => assumption); (case k => walk_at "it"))
  | ((with_reducible refine' sqT_but ?s ?t ?k); (case s => assumption); (case t => assumption); (case k => walk_at "it"))
  | ((with_reducible refine' sqT_pl ?s ?t ?k); (case s => assumption); (case t => walk_at "pl0"); (case k => walk_at "it")))
local macro_rules | `(tactic| walk_at "sz") => `(tactic| first | omega | ((try simp only [List.length_cons, List.length_nil] at *); omega))
local macro_rules | `(tactic| walk_at "au1") => `(tactic| first
  | walk_at "rd1"
  | ((with_reducible refine' r_draw ?k0 ?k1 ?k2 ?_); (case k0 => walk_at "pl"); (case k1 => omega); (case k2 => omega); (intro _ _ _ _ _ _))
  | ((with_reducible refine' r_slN ?k0 ?_); (case k0 => walk_at "it"); (intro _ _ _ _ _ _))
  | ((with_reducible refine' r_catN ?k0 ?k1 ?k2 ?_); (case k0 => walk_at "it"); (case k1 => walk_at "it"); (case k2 => walk_at "sz"); (intro _ _ _ _ _ _))
  | ((with_reducible refine' r_pow ?k0 ?_); (case k0 => exact ⟨by decide, by decide, by decide⟩))
  | ((with_reducible refine' r_ixI ?k0 ?k1 ?k2 ?_); (case k0 => walk_at "it"); (case k1 => omega); (case k2 => omega); (intro _ _))
  | ((with_reducible refine' r_setI ?k0 ?k1 ?k2 ?_); (case k0 => walk_at "tk"); (case k1 => omega); (case k2 => omega); (intro _ _ _ _ _))
  | ((with_reducible refine' r_kTupI ?k0 ?_); (case k0 => walk_at "tk"); (intro _ _ _ _ _))
  | ((with_reducible refine' r_listI ?k0 ?_); (case k0 => walk_at "it"); (intro _ _ _ _ _))
  | (with_reducible refine r_revU ?_)
  | ((with_reducible refine' r_prevN ?k0 ?_); (case k0 => walk_at "it"); (intro _ _ _ _ _ _))
  | (intro _ _ _ _ _))
local macro_rules | `(tactic| walk_at "go") => `(tactic| ((repeat (walk_at "au1")); (first
  | ((with_reducible refine r_ite (fun _ => ?_) (fun _ => ?_)) <;> (walk_at "go"))
  | ((with_reducible refine r_iteN (fun _ => ?_) (fun _ => ?_)) <;> (walk_at "go"))
  | dsimp only
  | skip)))
def noErr (ec : Str → Addr) (x : Str) (H : Hp) (E : XK) : Prop := ∀ d H', Same H H' → H d = none → H' d = some (.xd [("word", .str x)]) → E (.ref (ec x)) (some d) H'
def sp_rounds (K : PySem.W.Frag) (ec : Str → Addr) : Sp := fun vs H Q E => ∃ s : Int, vs = [.int s] ∧ (Stg s → ∀ p H', H p = none → Same H H' → SqT K H' p ((roundsR s.toNat).map V.int) → Q (.ref p) H') ∧ (¬ Stg s → noErr ec "BadStage" H E)
def sp_write_row (K : PySem.W.Frag) : Sp := fun vs H Q _ => ∃ (a : Addr) (r : List Int), vs = [.ref a] ∧ SqT K H a (r.map V.int) ∧ (∀ x ∈ r, 1 ≤ x ∧ x ≤ 12) ∧ r.length ≤ 12 ∧ ∀ H', Same H H' → Q (.str (S (r.map sgAt))) H'
def sp_read_row (K : PySem.W.Frag) (ec : Str → Addr) : Sp := fun vs H Q E => ∃ (s : Int) (l : List Nat), vs = [.int s, .str (S l)] ∧ l.length ≤ 100000 ∧ (¬ Stg s → noErr ec "BadStage" H E) ∧
  (Stg s → ¬ OkT s.toNat l → noErr ec "BadRow" H E) ∧ (Stg s → OkT s.toNat l → ∀ p H', H p = none → Same H H' → SqT K H' p ((l.map blC).map V.int) → Q (.ref p) H')
def sp_is_row (K : PySem.W.Frag) : Sp := fun vs H Q _ => ∃ (x : V) (d : Dat), vs = [x] ∧ Rp K H x d ∧ ∀ b : Bool, (b = true ↔ RowD d) → Q (.bl b) H
abbrev N_is_row : List Str := ["told", "bell"]
def t_is_row (K : PySem.W.Frag) : TS :=
  tSeq (tIfS ((tOr ((tNot ((tTru K ((tCB (rIsi K) (tCons (tVar 0) (tCons ((tC (.ty "tuple"))) tNil)))))))) ((tNot ((tTest (tChain (rLeU K) (rLeU K) ((tC (.int 1))) ((tCB (rLenU K) (tCons (tVar 0) tNil))) ((tCB (rLenU K) (tCons ((tC (.str "1234567890ET"))) tNil)))))))))) ((tRet ((tC (.bl false))))) (tNext))
  (tSeq (tFor (iSeqU K (tVar 0)) (gName 1) ((tIfS ((tOr ((tNot ((tTru K ((tCall (sp_is_number K) [] E0 (tCons (tVar 1) tNil))))))) ((tNot ((tTest (tChain (rLeU K) (rLeU K) ((tC (.int 1))) (tVar 1) ((tCB (rLenU K) (tCons (tVar 0) tNil)))))))))) ((tRet ((tC (.bl false))))) (tNext))))
  ((tRet ((tOp (rEqU K) ((tLenSetT K (tVar 0))) ((tCB (rLenU K) (tCons (tVar 0) tNil))))))))
abbrev N_rounds : List Str := ["stage"]
def t_rounds (K : PySem.W.Frag) (ec : Str → Addr) (E : XK) : TS :=
  tSeq (tDrop ((tCallW (sp_check_stage K ec) (fun cls d _ H => E cls d H) (tCons (tVar 0) tNil))))
  ((tRet ((tTupRg (tRg2 ((tC (.int 1))) ((tOp (rAddU K) (tVar 0) ((tC (.int 1))))))))))
abbrev N_write_row : List Str := ["row", "bell"]
def t_write_row (K : PySem.W.Frag) : TS :=
  (tRet ((tBM K "str" (rJoin K) ((tC (.str ""))) (tCons ((tLc ((iSeqU K (tVar 0))) ((gName 1)) (tYes) ((tOp (rIx K) ((tC (.str "1234567890ET"))) ((tOp rSubU (tVar 1) ((tC (.int 1))))))) [1])) tNil))))
abbrev N_read_row : List Str := ["stage", "text", "row", "sign", "bell"]
def t_read_row (K : PySem.W.Frag) (ec : Str → Addr) (E : XK) : TS :=
  tSeq (tDrop ((tCallW (sp_check_stage K ec) (fun cls d _ H => E cls d H) (tCons (tVar 0) tNil))))
  (tSeq (tIfS ((tTest (tOp (rNeU K) ((tCB (rLenU K) (tCons (tVar 1) tNil))) (tVar 0)))) ((sRaise (fun cls d _ H => E cls d H) (tBad (ec "BadRow") "BadRow"))) (tNext))
  (tSeq (tAsg ((tLst tNil)) (gName 2))
  (tSeq (tFor (iSeqU K (tVar 1)) (gName 3) (tSeq (tAsg ((tOp (rAddU K) ((tBM K "str" rFind ((tC (.str "1234567890ET"))) (tCons (tVar 3) tNil))) ((tC (.int 1))))) (gName 4))
  (tSeq (tIfS ((tOr ((tNot ((tTest (tChain (rLeU K) (rLeU K) ((tC (.int 1))) (tVar 4) (tVar 0)))))) ((tTest (tOp (rInU K) (tVar 4) (tVar 2)))))) ((sRaise (fun cls d _ H => E cls d H) (tBad (ec "BadRow") "BadRow"))) (tNext))
  ((tDrop ((tBM K "list" rAppend (tVar 2) (tCons (tVar 4) tNil))))))))
  ((tRet ((tThen (tVar 2) (kTupD K))))))))
theorem inV_int (b : Int) (r : List Int) : inV (.int b) (r.map V.int) = decide (b ∈ r) := by
  unfold inV
  rw [List.any_map, Bool.eq_iff_iff, List.any_eq_true, decide_eq_true_eq]
  constructor
  · rintro ⟨x, hx, e⟩
    have : x = b := by simpa [eqV] using e
    subst this; exact hx
  · intro h
    exact ⟨b, h, by simp [eqV]⟩
section
variable {K : PySem.W.Frag} {ec : Str → Addr} {ns : List Str} {vs : List V} {H : Hp} {Q : VK} {E : XK}
theorem len_rounds (h : sp_rounds K ec vs H Q E) : vs.length = 1 := by obtain ⟨s, rfl, _⟩ := h; rfl
theorem len_write_row (h : sp_write_row K vs H Q E) : vs.length = 1 := by obtain ⟨a, r, rfl, _⟩ := h; rfl
theorem len_read_row (h : sp_read_row K ec vs H Q E) : vs.length = 2 := by obtain ⟨s, l, rfl, _⟩ := h; rfl
theorem len_is_row (h : sp_is_row K vs H Q E) : vs.length = 1 := by obtain ⟨x, d, rfl, _⟩ := h; rfl
theorem noErr.same {H' : Hp} {x : Str} (h : noErr ec x H E) (s : Same H H') : noErr ec x H' E := fun d H2 s2 nd e => h d H2 (s.trans s2) (s.free nd) e
theorem r_inI {m : Int} {l : Addr} {r : List Int} (h : SqL K H l (r.map V.int)) (q : Q (.bl (decide (m ∈ r))) H) : rInU K (.int m) (.ref l) H Q := by
  refine .inl ⟨l, _, rfl, .inl h, rfl, ?_, ?_⟩
  · rw [List.all_eq_true]
    intro x hx
    obtain ⟨i, _, rfl⟩ := List.mem_map.mp hx
    rfl
  · show Q (.bl (inV (.int m) (r.map V.int))) H
    rw [inV_int]; exact q
theorem pure_rounds (XS : Exs K ec ns) (h : sp_rounds K ec vs H Q E) : t_rounds K ec E (En Q) (start N_rounds vs) H := by
  obtain ⟨s, rfl, q, qE⟩ := h
  unfold t_rounds
  walk_at "rd"
  refine ⟨s, rfl, fun hs => ?_, fun hs => qE hs⟩
  have hs' : 1 ≤ s ∧ s ≤ 12 := hs
  obtain ⟨n, rfl⟩ : ∃ n : Nat, s = (n : Int) := ⟨s.toNat, by omega⟩
  walk_at "rd"
  refine r_new (RgOk.of_le (by omega) (by omega) (by omega) (by omega)) ?_
  intro p H1 np s1 e1
  rw [rgV_rounds] at e1
  exact q hs p H1 np s1 (by rw [Int.toNat_natCast]; exact sqT_of e1)
theorem pure_write_row (h : sp_write_row K vs H Q E) : t_write_row K (En Q) (start N_write_row vs) H := by
  obtain ⟨a, r, rfl, hr, hb, hl, q⟩ := h
  unfold t_write_row
  walk_at "rd"
  refine lc_signsT (by show 1 < 2; decide) hr hb (by omega) fun q1 H10 nq1 s10 e10 => ?_
  walk_at "rd"
  exact join_signs e10 (by omega) (q H10 s10)
theorem signs_S : ("1234567890ET" : Str).cps.toList = signsL := by decide
theorem pure_read_row (XS : Exs K ec ns) (h : sp_read_row K ec vs H Q E) : t_read_row K ec E (En Q) (start N_read_row vs) H := by
  obtain ⟨s, l, rfl, hl, qS, qB, q⟩ := h
  unfold t_read_row
  walk_at "rd"
  refine ⟨s, rfl, fun hs => ?_, fun hs => qS hs⟩
  have hs' : 1 ≤ s ∧ s ≤ 12 := hs
  obtain ⟨n, rfl⟩ : ∃ n : Nat, s = (n : Int) := ⟨s.toNat, by omega⟩
  have hn : n ≤ 12 := by omega
  rw [Int.toNat_natCast] at qB q
  walk_at "rd"
  refine r_lenSS (by omega) ?_
  walk_at "rd"
  refine r_iteN (fun h0 => ?_) (fun h0 => ?_)
  · exact r_raise fun d H' s' nd e => qB hs (fun z => h0 (by rw [z.1])) d H' s' nd e
  have hln : l.length = n := by omega
  walk_at "rd"
  intro o H1 no s1 e1
  walk_at "rd"
  refine r_forStr (fun i σ' H' => ∃ (acc : List Int) (z3 z4 : Option V), σ' = [some (.int (n : Int)), some (.str (S l)), some (.ref o), z3, z4] ∧ Same H H' ∧ H' o = some (.lst (acc.map V.int)) ∧ acc.Nodup ∧ acc.length = i ∧ rdA (n : Int) l [] = rdA (n : Int) (l.drop i) acc)
    ⟨[], none, none, rfl, s1, e1, List.nodup_nil, rfl, rfl⟩ (fun i c σ' H' hi hW => ?_) (fun σ' H' hW => ?_)
  · obtain ⟨acc, z3, z4, rfl, s2, e2, nd, al, hrd⟩ := hW
    have hc : l[i]? = some c := hi
    have hil : i < l.length := (List.getElem?_eq_some_iff.mp hc).1
    have ed : l.drop i = c :: l.drop (i + 1) := by
      rw [List.drop_eq_getElem_cons hil]
      congr 1
      exact (List.getElem?_eq_some_iff.mp hc).2
    rw [ed, rdA] at hrd
    have bad : ¬ ((1 ≤ blC c ∧ blC c ≤ (n : Int)) ∧ blC c ∉ acc) → noErr ec "BadRow" H E := fun z => qB hs fun ok => by
      have := (read_iff hn hln (r := l.map blC)).mpr ⟨ok, rfl⟩
      rw [hrd, if_neg z] at this
      cases this
    walk_at "rd"
    refine r_find signs_S ?_
    walk_at "rd"
    have eb : fnd signsL c + 1 = blC c := rfl
    rw [eb]
    refine r_ite (fun c1 => ?_) (fun c1 => ?_)
    · walk_at "rd"
      refine r_iteN (fun c2 => ?_) (fun c2 => ?_)
      · walk_at "rd"
        exact r_raise fun d H' s' nd e => (bad fun z => c2 z.1.2).same s2 d H' s' nd e
      · walk_at "rd"
        refine r_inI (sqL_of e2) ?_
        walk_at "rd"
        refine r_ite (fun c3 => ?_) (fun c3 => ?_)
        · exact r_raise fun d H' s' nd e => (bad fun z => z.2 c3).same s2 d H' s' nd e
        · walk_at "rd"
          intro H3 b3 e3
          rw [if_pos ⟨⟨c1, c2⟩, c3⟩] at hrd
          refine ⟨acc ++ [blC c], _, _, rfl, same_but s2 b3 no, by rw [e3, List.map_append]; rfl, ?_, by rw [List.length_append, al]; rfl, hrd⟩
          rw [List.nodup_append]
          exact ⟨nd, by simp, fun a ha b hb e => c3 (by rw [List.mem_singleton] at hb; rw [← hb, ← e]; exact ha)⟩
    · walk_at "rd"
      exact r_raise fun d H' s' nd e => (bad fun z => c1 z.1.1).same s2 d H' s' nd e
  · obtain ⟨acc, z3, z4, rfl, s2, e2, nd, al, hrd⟩ := hW
    have hz : (S l).cps.toList.length = l.length := rfl
    rw [hz, List.drop_length, rdA] at hrd
    obtain ⟨ok, er⟩ := (read_iff hn hln).mp hrd
    walk_at "rd"
    intro p H4 np s4 e4
    rw [er] at e4
    exact q hs ok p H4 (s2.free np) (s2.trans s4) (sqT_ofD e4)
theorem rpL_all {xs : List V} : ∀ {ds : List Dat}, RpL K H xs ds → (∀ e ∈ ds, ∃ i : Int, e = .int i) → xs = (ds.map toI).map V.int
  | _, .nil, _ => rfl
  | d :: ds, .cons r t, h => by
    obtain ⟨i, rfl⟩ := h d (by simp)
    cases r
    rw [List.map_cons, List.map_cons, rpL_all t fun e he => h e (by simp [he])]
    rfl
theorem pure_is_row (h : sp_is_row K vs H Q E) : t_is_row K (En Q) (start N_is_row vs) H := by
  obtain ⟨x, d, rfl, hr, q⟩ := h
  have no : ¬ RowD d → Q (.bl false) H := fun z => q false ⟨(fun h => nomatch h), fun h => absurd h z⟩
  unfold t_is_row
  cases hr with
  | int i => walk_at "rd"; exact no (fun z => z)
  | bl b => walk_at "rd"; exact no (fun z => z)
  | str z => walk_at "rd"; exact no (fun z => z)
  | non => walk_at "rd"; exact no (fun z => z)
  | @tup a xs ds ht hd =>
    have hlen := rpL_length hd
    walk_at "rd"
    rw [hlen]
    refine r_ite (fun c1 => ?_) (fun c1 => by walk_at "rd"; exact no fun z => c1 (by have := z.1; omega))
    walk_at "rd"
    rw [show (("1234567890ET" : Str).length : Int) = 12 by decide]
    refine r_iteN (fun c2 => by walk_at "rd"; exact no fun z => c2 (by have := z.2.1; omega)) (fun c2 => ?_)
    walk_at "rd"
    refine r_forTup (xs := xs) (fun i σ' H' => ∃ (z1 : Option V), σ' = [some (.ref a), z1] ∧ H' = H ∧ ∀ e ∈ ds.take i, ∃ i : Int, e = .int i ∧ 1 ≤ i ∧ i ≤ (ds.length : Int))
      ⟨none, rfl, rfl, fun e he => by simp at he⟩ (fun i σ' H' _ hW => ?_) (fun i x σ' H' hi hW => ?_) (fun σ' H' hW => ?_)
    · obtain ⟨z1, rfl, rfl, _⟩ := hW
      exact ht
    · obtain ⟨z1, rfl, rfl, hc⟩ := hW
      have hil : i < ds.length := by rw [← hlen]; exact (List.getElem?_eq_some_iff.mp hi).1
      obtain ⟨y, hy, ry⟩ := rpL_get hd (List.getElem?_eq_getElem hil)
      rw [hi] at hy
      obtain rfl := Option.some.inj hy
      have mem : ds[i] ∈ ds := List.getElem_mem hil
      obtain ⟨d', hd'⟩ : ∃ d', ds[i] = d' := ⟨_, rfl⟩
      rw [hd'] at ry mem
      walk_at "rd"
      refine ⟨x, d', rfl, ry, ?_⟩
      have bad : (∀ i : Int, d' = .int i → 1 ≤ i → i ≤ (ds.length : Int) → False) → ¬ RowD (.tup ds) := fun z h => by
        obtain ⟨i, e, h1, h2⟩ := h.2.2.1 d' mem
        exact z i e h1 h2
      cases d' with
      | int p =>
        cases ry
        dsimp only [isNum]
        walk_at "rd"
        refine r_ite (fun h1 => ?_) (fun h1 => ?_)
        · walk_at "rd"
          rw [hlen]
          refine r_iteN (fun h2 => ?_) (fun h2 => ?_)
          · walk_at "rd"
            exact no (bad fun i e _ h => by cases e; exact h2 h)
          · walk_at "rd"
            refine ⟨_, rfl, rfl, fun e he => ?_⟩
            rw [List.take_add_one, List.getElem?_eq_getElem hil, hd', List.mem_append] at he
            rcases he with he | he
            · exact hc e he
            · have : e = .int p := by simpa using he
              subst this; exact ⟨p, rfl, h1, h2⟩
        · walk_at "rd"
          exact no (bad fun i e h _ => by cases e; exact h1 h)
      | bl b => dsimp only [isNum]; walk_at "rd"; exact no (bad fun i e => nomatch e)
      | str b => dsimp only [isNum]; walk_at "rd"; exact no (bad fun i e => nomatch e)
      | non => dsimp only [isNum]; walk_at "rd"; exact no (bad fun i e => nomatch e)
      | tup b => dsimp only [isNum]; walk_at "rd"; exact no (bad fun i e => nomatch e)
    · obtain ⟨z1, rfl, rfl, hc⟩ := hW
      rw [hlen, List.take_length] at hc
      have exs := rpL_all hd fun e he => let ⟨i, h, _⟩ := hc e he; ⟨i, h⟩
      rw [exs] at ht
      walk_at "rd"
      refine r_lenSet ?_
      walk_at "rd"
      refine r_plenSet ht (by rw [List.length_map]; omega) fun c hcc => ?_
      walk_at "rd"
      refine q _ ?_
      rw [decide_eq_true_eq]
      have l2 : (((ds.map toI).map V.int).length : Int) = (ds.map toI).length := by rw [List.length_map]
      rw [l2]
      have e : ((c : Int) = ((ds.map toI).length : Int)) ↔ c = (ds.map toI).length := by omega
      rw [e, hcc]
      exact ⟨fun h => ⟨by omega, by omega, hc, h⟩, fun h => h.2.2.2⟩
end
end K0
end Kb
set_option Elab.async false
set_option linter.all false
set_option maxRecDepth 100000
set_option maxHeartbeats 4000000
namespace Kb
open PySem PySem.Spec PyProof.Rows L2 SX
local macro_rules | `(tactic| walk_at "tk") => `(tactic| first
  | assumption
  | ((with_reducible refine' sqT_of ?k); (case k => assumption))
  | ((with_reducible refine' sqT_ofD ?k); (case k => assumption))
  | ((with_reducible refine' noD_of ?k); (case k => assumption))
  | ((with_reducible refine' noD_same ?s ?k); (case s => assumption); (case k => walk_at "tk"))
  | ((with_reducible refine' sqL_of ?k); (case k => assumption))
  | ((with_reducible refine' sqT_same ?s ?k); (case s => assumption); (case k => walk_at "tk"))
  | ((with_reducible refine' sqL_same ?s ?k); (case s => assumption); (case k => walk_at "tk"))
  | ((with_reducible refine' sqT_but ?s ?t ?k); (case s => assumption); (case t => walk_at "tk"); (case k => walk_at "tk"))
  | ((with_reducible refine' sqL_but ?s ?t ?k); (case s => assumption); (case t => walk_at "ne"); (case k => walk_at "tk"))
  | ((with_reducible refine' sqL_of ?k); (case k => walk_at "tk"))
  | ((with_reducible refine' sqT_of ?k); (case k => walk_at "tk"))
  | ((with_reducible refine' at_same ?s ?k); (case s => assumption); (case k => walk_at "tk"))
  | ((with_reducible refine' at_but ?s ?t ?k); (case s => assumption); (case t => walk_at "ne"); (case k => walk_at "tk")))
local macro_rules | `(tactic| walk_at "ne") => `(tactic| first
  | assumption
  | (refine Ne.symm ?_; assumption)
  | exact ne_of_none (by assumption) (by assumption)
  | exact (ne_of_none (by assumption) (by assumption)).symm)
local macro_rules | `(tactic| walk_at "side") => `(tactic| first
  | assumption
  | omega
  | (simp only [sizeLine_eq, List.length_cons, List.length_nil, List.length_map]; omega)
  | (show _ ≤ sizeLine; decide))
local macro_rules | `(tactic| walk_at "kit") => `(tactic| first
  | (show kitB _ _ = some true; decide +kernel)
  | (show kitB _ _ = some false; decide +kernel))
local macro_rules | `(tactic| walk_at "rng") => `(tactic| first
  | (refine ⟨by omega, by omega, by omega, by omega⟩)
  | (refine ⟨by omega, by omega⟩)
  | ((simp only [List.length_map]); (refine ⟨by omega, by omega, by omega, by omega⟩))
  | ((simp only [List.length_map]); (refine ⟨by omega, by omega⟩)))
local macro_rules | `(tactic| walk_at "rd1") => `(tactic| first
  | with_reducible refine r_seq ?_
  | ((with_reducible refine' r_var ?k0 ?_); (case k0 => rfl))
  | with_reducible refine r_op ?_
  | with_reducible refine r_c ?_
  | with_reducible refine r_asg ?_
  | with_reducible refine r_name ?_
  | with_reducible refine r_cons ?_
  | with_reducible refine r_nil ?_
  | with_reducible refine r_CB ?_
  | with_reducible refine r_if ?_
  | with_reducible refine r_test ?_
  | with_reducible refine r_k ?_
  | with_reducible refine r_T ?_
  | with_reducible refine r_F ?_
  | with_reducible refine r_nT ?_
  | with_reducible refine r_nF ?_
  | with_reducible refine r_ret ?_
  | with_reducible refine r_drop ?_
  | with_reducible refine r_next ?_
  | with_reducible refine r_call ?_
  | with_reducible refine r_addI ?_
  | with_reducible refine r_subI ?_
  | with_reducible refine r_ltI ?_
  | with_reducible refine r_gtI ?_
  | with_reducible refine r_leI ?_
  | with_reducible refine r_geI ?_
  | with_reducible refine r_eqI ?_
  | with_reducible refine r_neI ?_
  | with_reducible refine r_int ?_
  | with_reducible refine r_abs ?_
  | with_reducible refine r_not ?_
  | with_reducible refine r_and ?_
  | with_reducible refine r_or ?_
  | with_reducible refine r_tru ?_
  | with_reducible refine r_truB ?_
  | with_reducible refine r_lst ?_
  | with_reducible refine r_tup ?_
  | with_reducible refine r_BM ?_
  | with_reducible refine r_BM0 ?_
  | with_reducible refine r_tyS ?_
  | with_reducible refine r_gsub ?_
  | with_reducible refine r_then ?_
  | with_reducible refine r_lstRg ?_
  | with_reducible refine r_tupRg ?_
  | with_reducible refine r_rg2 ?_
  | with_reducible refine r_rg1 ?_
  | with_reducible refine r_ii ?_
  | with_reducible refine r_i ?_
  | with_reducible refine r_ipI ?_
  | with_reducible refine r_un ?_
  | with_reducible refine r_neg ?_
  | with_reducible refine r_isN ?_
  | with_reducible refine r_notN ?_
  | with_reducible refine r_notV ?_
  | with_reducible refine r_pnot ?_
  | with_reducible refine r_pif ?_
  | with_reducible refine r_andV ?_
  | with_reducible refine r_orV ?_
  | with_reducible refine r_ifE ?_
  | with_reducible refine r_chain ?_
  | with_reducible refine r_sl ?_
  | with_reducible refine r_noPart ?_
  | with_reducible refine r_part ?_
  | with_reducible refine r_brk ?_
  | with_reducible refine r_cont ?_
  | with_reducible refine r_retN ?_
  | with_reducible refine r_truI ?_
  | with_reducible refine r_B ?_
  | with_reducible refine r_for ?_
  | with_reducible refine r_rng1 ?_
  | with_reducible refine r_rng2 ?_
  | with_reducible refine r_rng3 ?_
  | with_reducible refine r_body ?_
  | with_reducible refine r_lc ?_
  | with_reducible refine r_yes ?_
  | ((with_reducible refine' r_mod ?k0 ?_); (case k0 => walk_at "side"))
  | ((with_reducible refine' r_mulI ?k0 ?_); (case k0 => first | exact Or.inl ⟨by omega, by omega⟩ | exact Or.inr ⟨by omega, by omega⟩))
  | ((with_reducible refine' r_lenL ?k0 ?_); (case k0 => walk_at "tk"))
  | ((with_reducible refine' r_lenT ?k0 ?_); (case k0 => walk_at "tk"))
  | ((with_reducible refine' r_truL ?k0 ?_); (case k0 => walk_at "tk"))
  | ((with_reducible refine' r_truT ?k0 ?_); (case k0 => walk_at "tk"))
  | ((with_reducible refine' r_ixL ?k0 ?k1 ?_); (case k0 => walk_at "tk"); (case k1 => first | assumption | rfl))
  | ((with_reducible refine' r_ixT ?k0 ?k1 ?_); (case k0 => walk_at "tk"); (case k1 => first | assumption | rfl))
  | ((with_reducible refine' r_new ?k0 ?_); (case k0 => walk_at "side"))
  | ((with_reducible refine' r_tyL ?k0 ?_); (case k0 => walk_at "tk"))
  | ((with_reducible refine' r_append ?k0 ?k1 ?_); (case k0 => walk_at "tk"); (case k1 => walk_at "side"))
  | ((with_reducible refine' r_setL ?k0 ?k1 ?_); (case k0 => walk_at "tk"); (case k1 => first | assumption | rfl))
  | ((with_reducible refine' r_kTupL ?k0 ?_); (case k0 => walk_at "tk"))
  | ((with_reducible refine' r_kTupT ?k0 ?_); (case k0 => walk_at "tk"))
  | ((with_reducible refine' r_listL ?k0 ?_); (case k0 => walk_at "tk"))
  | ((with_reducible refine' r_listT ?k0 ?_); (case k0 => walk_at "tk"))
  | ((with_reducible refine' r_aug ?k0 ?_); (case k0 => rfl))
  | ((with_reducible refine' r_lenS ?k0 ?_); (case k0 => walk_at "side"))
  | ((with_reducible refine' r_pop ?k0 ?_); (case k0 => walk_at "tk"))
  | ((with_reducible refine' r_pr1 ?k0 ?_); (case k0 => walk_at "rng"))
  | ((with_reducible refine' r_pr2 ?k0 ?_); (case k0 => walk_at "rng"))
  | ((with_reducible refine' r_pr3d ?k0 ?_); (case k0 => walk_at "rng"))
  | ((with_reducible refine' r_isiI ?k0 ?_); (case k0 => walk_at "kit"))
  | ((with_reducible refine' r_isiB ?k0 ?_); (case k0 => walk_at "kit"))
  | ((with_reducible refine' r_isiS ?k0 ?_); (case k0 => walk_at "kit"))
  | ((with_reducible refine' r_isiN ?k0 ?_); (case k0 => walk_at "kit"))
  | ((with_reducible refine' r_isiT ?k0 ?k1 ?_); (case k0 => walk_at "tk"); (case k1 => walk_at "kit"))
  | ((with_reducible refine r_seqT ?_); (repeat (walk_at "rd1")); ((with_reducible refine' r_pseqT ?k0 ?_); (case k0 => walk_at "tk")))
  | ((with_reducible refine r_seqL ?_); (repeat (walk_at "rd1")); ((with_reducible refine' r_pseqL ?k0 ?_); (case k0 => walk_at "tk")))
  | ((with_reducible refine r_seqS ?_); (repeat (walk_at "rd1")); (with_reducible refine r_pseqS ?_)))
local macro_rules | `(tactic| walk_at "rd") => `(tactic| ((repeat (walk_at "rd1")); (try dsimp only)))
local macro_rules | `(tactic| walk_at "rd1") => `(tactic| first
  | with_reducible refine r_BMT ?_
  | with_reducible refine r_par ?_
  | with_reducible refine r_parV ?_
  | ((with_reducible refine' r_ptp ?k0 ?k1 ?_); (case k0 => walk_at "tk"); (case k1 => walk_at "tk"))
  | with_reducible refine r_eqS ?_
  | with_reducible refine r_neS ?_
  | with_reducible refine r_callW ?_
  | with_reducible refine r_try ?_
  | with_reducible refine r_enT ?_
  | ((with_reducible refine' r_pen ?k0 ?_); (case k0 => walk_at "tk")))
local macro_rules | `(tactic| walk_at "pl0") => `(tactic| first
  | assumption
  | exact pl_same (by assumption) (by assumption)
  | exact pl_same (by assumption) (pl_same (by assumption) (by assumption))
  | exact pl_same (by assumption) (pl_same (by assumption) (pl_same (by assumption) (by assumption))))
local macro_rules | `(tactic| walk_at "pl") => `(tactic| first
  | walk_at "pl0"
  | ((with_reducible refine' pl_butL ?s ?n ?k); (case s => assumption); (case n => walk_at "ne"); (case k => walk_at "pl"))
  | ((with_reducible refine' pl_same ?s ?k); (case s => assumption); (case k => walk_at "pl")))
local macro_rules | `(tactic| walk_at "ne") => `(tactic| first
  | exact ne_pl (by assumption) (by walk_at "pl0")
  | exact (ne_pl (by assumption) (by walk_at "pl0")).symm)
local macro_rules | `(tactic| walk_at "fr") => `(tactic| first
  | assumption
  | ((with_reducible refine' free_but ?b ?n ?h); (case h => assumption); (case n => walk_at "ne"); (case b => walk_at "but"))
  | ((with_reducible refine' Same.free ?b ?h); (case h => assumption); (case b => walk_at "same")))
local macro_rules | `(tactic| walk_at "but") => `(tactic| first
  | assumption
  | exact But.refl
  | ((with_reducible refine' But.trans ?a ?b); (case b => assumption); (case a => walk_at "but"))
  | ((with_reducible refine' But.trans ?a (Same.but ?b)); (case b => assumption); (case a => walk_at "but"))
  | ((with_reducible refine' but_via ?a ?b ?c); (case b => assumption); (case c => walk_at "fr"); (case a => walk_at "but")))
local macro_rules | `(tactic| walk_at "same") => `(tactic| first
  | assumption
  | exact Same.refl _
  | ((with_reducible refine' Same.trans ?a ?b); (case b => assumption); (case a => walk_at "same"))
  | ((with_reducible refine' same_but ?a ?b ?c); (case b => assumption); (case c => walk_at "fr"); (case a => walk_at "same")))
local macro_rules | `(tactic| walk_at "tk") => `(tactic| first
  | ((with_reducible refine' sqT_pl ?s ?t ?k); (case s => assumption); (case t => walk_at "pl0"); (case k => walk_at "tk"))
  | ((with_reducible refine' rp_same ?s ?k); (case s => assumption); (case k => walk_at "tk"))
  | ((with_reducible refine' rp_pl ?s ?t ?k); (case s => assumption); (case t => walk_at "pl0"); (case k => walk_at "tk")))
local macro_rules | `(tactic| walk_at "it") => `(tactic| first
  | assumption
  | ((with_reducible refine' sqI_1 ?k); (case k => assumption))
  | ((with_reducible refine' sqI_0 ?k); (case k => assumption))
  | ((with_reducible refine' sqI_of ?k); (case k => assumption))
  | ((with_reducible refine' sqI_D ?k); (case k => assumption))
  | ((with_reducible refine' sqT_same ?s ?k); (case s => assumption); (case k => walk_at "it"))
  | ((with_reducible refine' sqT_but ?s ?t ?k); (case s => assumption); (case t => assumption); (case k => walk_at "it"))
  | ((with_reducible refine' sqT_pl ?s ?t ?k); (case s => assumption); (case t => walk_at "pl0"); (case k => walk_at "it")))
local macro_rules | `(tactic| walk_at "sz") => `(tactic| first | omega | ((try simp only [List.length_cons, List.length_nil] at *); omega))
local macro_rules | `(tactic| walk_at "au1") => `(tactic| first
  | walk_at "rd1"
  | ((with_reducible refine' r_draw ?k0 ?k1 ?k2 ?_); (case k0 => walk_at "pl"); (case k1 => omega); (case k2 => omega); (intro _ _ _ _ _ _))
  | ((with_reducible refine' r_slN ?k0 ?_); (case k0 => walk_at "it"); (intro _ _ _ _ _ _))
  | ((with_reducible refine' r_catN ?k0 ?k1 ?k2 ?_); (case k0 => walk_at "it"); (case k1 => walk_at "it"); (case k2 => walk_at "sz"); (intro _ _ _ _ _ _))
  | ((with_reducible refine' r_pow ?k0 ?_); (case k0 => exact ⟨by decide, by decide, by decide⟩))
  | ((with_reducible refine' r_ixI ?k0 ?k1 ?k2 ?_); (case k0 => walk_at "it"); (case k1 => omega); (case k2 => omega); (intro _ _))
  | ((with_reducible refine' r_setI ?k0 ?k1 ?k2 ?_); (case k0 => walk_at "tk"); (case k1 => omega); (case k2 => omega); (intro _ _ _ _ _))
  | ((with_reducible refine' r_kTupI ?k0 ?_); (case k0 => walk_at "tk"); (intro _ _ _ _ _))
  | ((with_reducible refine' r_listI ?k0 ?_); (case k0 => walk_at "it"); (intro _ _ _ _ _))
  | (with_reducible refine r_revU ?_)
  | ((with_reducible refine' r_prevN ?k0 ?_); (case k0 => walk_at "it"); (intro _ _ _ _ _ _))
  | (intro _ _ _ _ _))
local macro_rules | `(tactic| walk_at "go") => `(tactic| ((repeat (walk_at "au1")); (first
  | ((with_reducible refine r_ite (fun _ => ?_) (fun _ => ?_)) <;> (walk_at "go"))
  | ((with_reducible refine r_iteN (fun _ => ?_) (fun _ => ?_)) <;> (walk_at "go"))
  | dsimp only
  | skip)))
local macro_rules | `(tactic| walk_at "au1") => `(tactic| first
  | with_reducible refine r_revS ?_
  | ((with_reducible refine' r_prevSN ?k0 ?_); (case k0 => walk_at "sz"); (intro _ _))
  | ((with_reducible refine' r_slSN ?k0 ?_); (case k0 => walk_at "sz"); (intro _ _))
  | ((with_reducible refine' r_catSN ?k0 ?_); (case k0 => walk_at "sz"); (intro _ _))
  | ((with_reducible refine' r_lenSS ?k0 ?_); (case k0 => walk_at "sz")))
def sp_law_sign (K : PySem.W.Frag) : Sp := fun vs H Q _ => ∃ (p : Addr), vs = [.ref p] ∧ Pl H p ∧ ∀ c H', But p H H' → Pl H' p → Q (.str (S [c])) H'
def sp_law_bent_text (K : PySem.W.Frag) : Sp := fun vs H Q _ => ∃ (p : Addr) (l : List Nat), vs = [.ref p, .str (S l)] ∧ Pl H p ∧ l.length ≤ 5000 ∧ ∀ m H', But p H H' → Pl H' p → m.length ≤ 20000 → Q (.str (S m)) H'
abbrev N_law_sign : List Str := ["pool", "signs"]
def t_law_sign (K : PySem.W.Frag) : TS :=
  tSeq (tIfS ((tTest (tOp (rEqU K) ((tCall (sp_law_draw K) [] E0 (tCons (tVar 0) (tCons ((tC (.int 2))) tNil)))) ((tC (.int 0)))))) ((tRet ((tOp (rIx K) ((tC (.str "x.1234567890ET&,e "))) ((tCall (sp_law_draw K) [] E0 (tCons (tVar 0) (tCons ((tC (.int 18))) tNil)))))))) (tNext))
  (tSeq (tAsg ((tC (.str " !\"#$&'()*+,-./0123456789:;<=>?@ABCDEFGHIJKLMNOPQRSTUVWXYZ[\\]^_`"))) (gName 1))
  (tSeq (tAsg ((tOp (rAddU K) (tVar 1) ((tC (.str "abcdefghijklmnopqrstuvwxyz{|}~"))))) (gName 1))
  ((tRet ((tOp (rIx K) (tVar 1) ((tCall (sp_law_draw K) [] E0 (tCons (tVar 0) (tCons ((tC (.int 94))) tNil))))))))))
abbrev N_law_bent_text : List Str := ["pool", "text", "at", "to", "sign", "way"]
def t_law_bent_text (K : PySem.W.Frag) : TS :=
  tSeq (tAsg ((tCall (sp_law_draw K) [] E0 (tCons (tVar 0) (tCons ((tOp (rAddU K) ((tCB (rLenU K) (tCons (tVar 1) tNil))) ((tC (.int 1))))) tNil)))) (gName 2))
  (tSeq (tAsg ((tCall (sp_law_draw K) [] E0 (tCons (tVar 0) (tCons ((tOp (rAddU K) ((tCB (rLenU K) (tCons (tVar 1) tNil))) ((tC (.int 1))))) tNil)))) (gName 3))
  (tSeq (tAsg ((tCall (sp_law_sign K) [] E0 (tCons (tVar 0) tNil))) (gName 4))
  (tSeq (tAsg ((tCall (sp_law_draw K) [] E0 (tCons (tVar 0) (tCons ((tC (.int 10))) tNil)))) (gName 5))
  (tSeq (tIfS ((tTest (tOp (rEqU K) (tVar 5) ((tC (.int 0)))))) ((tRet ((tOp (rAddU K) ((tSl (rSlU K) (tVar 1) tNoPart (tPart (tVar 2)))) ((tSl (rSlU K) (tVar 1) (tPart ((tOp (rAddU K) (tVar 2) ((tC (.int 1)))))) tNoPart)))))) (tNext))
  (tSeq (tIfS ((tTest (tOp (rEqU K) (tVar 5) ((tC (.int 1)))))) ((tRet ((tOp (rAddU K) ((tOp (rAddU K) ((tSl (rSlU K) (tVar 1) tNoPart (tPart (tVar 2)))) (tVar 4))) ((tSl (rSlU K) (tVar 1) (tPart (tVar 2)) tNoPart)))))) (tNext))
  (tSeq (tIfS ((tTest (tOp (rEqU K) (tVar 5) ((tC (.int 2)))))) ((tRet ((tOp (rAddU K) ((tOp (rAddU K) ((tSl (rSlU K) (tVar 1) tNoPart (tPart (tVar 2)))) (tVar 4))) ((tSl (rSlU K) (tVar 1) (tPart ((tOp (rAddU K) (tVar 2) ((tC (.int 1)))))) tNoPart)))))) (tNext))
  (tSeq (tIfS ((tTest (tOp (rEqU K) (tVar 5) ((tC (.int 3)))))) ((tRet ((tOp (rAddU K) (tVar 1) (tVar 4))))) (tNext))
  (tSeq (tIfS ((tTest (tOp (rEqU K) (tVar 5) ((tC (.int 4)))))) ((tRet ((tOp (rAddU K) (tVar 4) (tVar 1))))) (tNext))
  (tSeq (tIfS ((tTest (tOp (rEqU K) (tVar 5) ((tC (.int 5)))))) ((tRet ((tSl (rSlU K) ((tOp (rAddU K) ((tSl (rSlU K) (tVar 1) tNoPart (tPart (tVar 2)))) ((tSl (rSlU K) (tVar 1) (tPart (tVar 3)) tNoPart)))) tNoPart (tPart ((tC (.int 5000)))))))) (tNext))
  (tSeq (tIfS ((tTest (tOp (rEqU K) (tVar 5) ((tC (.int 6)))))) ((tRet ((tRevS (tVar 1) (tPart ((tUn (rU fun i => .int (-i)) ((tC (.int 1)))))))))) (tNext))
  ((tRet (tVar 1)))))))))))))
section
variable {K : PySem.W.Frag} {ec : Str → Addr} {vs : List V} {H : Hp} {Q : VK} {E : XK}
theorem len_law_sign (h : sp_law_sign K vs H Q E) : vs.length = 1 := by obtain ⟨s, rfl, _⟩ := h; rfl
theorem len_law_bent_text (h : sp_law_bent_text K vs H Q E) : vs.length = 2 := by obtain ⟨s, d, rfl, _⟩ := h; rfl
theorem pure_law_sign (h : sp_law_sign K vs H Q E) : t_law_sign K (En Q) (start N_law_sign vs) H := by
  obtain ⟨p, rfl, hp, q⟩ := h
  unfold t_law_sign
  walk_at "rd"
  refine r_draw hp (by omega) (by omega) fun v H1 v0 v1 b1 p1 => ?_
  walk_at "rd"
  refine r_ite (fun h0 => ?_) (fun h0 => ?_)
  · walk_at "rd"
    refine r_draw p1 (by omega) (by omega) fun u H2 u0 u1 b2 p2 => ?_
    refine r_ixC (k := 18) (by decide) (by decide) u0 u1 fun c => ?_
    exact q c H2 (b1.trans b2) p2
  · walk_at "rd"
    refine r_addS (by rw [sizeLine_eq]; decide) ?_
    walk_at "rd"
    refine r_draw p1 (by omega) (by omega) fun u H2 u0 u1 b2 p2 => ?_
    refine r_ixC (k := 94) (by decide) (by decide) u0 u1 fun c => ?_
    exact q c H2 (b1.trans b2) p2
theorem pure_law_bent_text (h : sp_law_bent_text K vs H Q E) : t_law_bent_text K (En Q) (start N_law_bent_text vs) H := by
  obtain ⟨p, l, rfl, hp, hl, q⟩ := h
  unfold t_law_bent_text
  walk_at "rd"
  refine r_lenSS (by omega) ?_
  walk_at "rd"
  refine r_draw hp (by omega) (by omega) fun v1 H1 a0 a1 b1 p1 => ?_
  walk_at "rd"
  refine r_lenSS (by omega) ?_
  walk_at "rd"
  refine r_draw p1 (by omega) (by omega) fun v2 H2 c0 c1 b2 p2 => ?_
  walk_at "rd"
  refine ⟨p, rfl, p2, fun c H3 b3 p3 => ?_⟩
  refine r_name ?_
  walk_at "go"
  all_goals exact q _ _ (by walk_at "but") (by walk_at "pl") (by walk_at "sz")
end
end Kb
set_option Elab.async false
set_option linter.all false
set_option maxRecDepth 100000
set_option maxHeartbeats 4000000
namespace Kb
open PySem PySem.Spec PyProof.Rows L2 SX
local macro_rules | `(tactic| walk_at "tk") => `(tactic| first
  | assumption
  | ((with_reducible refine' sqT_of ?k); (case k => assumption))
  | ((with_reducible refine' sqT_ofD ?k); (case k => assumption))
  | ((with_reducible refine' noD_of ?k); (case k => assumption))
  | ((with_reducible refine' noD_same ?s ?k); (case s => assumption); (case k => walk_at "tk"))
  | ((with_reducible refine' sqL_of ?k); (case k => assumption))
  | ((with_reducible refine' sqT_same ?s ?k); (case s => assumption); (case k => walk_at "tk"))
  | ((with_reducible refine' sqL_same ?s ?k); (case s => assumption); (case k => walk_at "tk"))
  | ((with_reducible refine' sqT_but ?s ?t ?k); (case s => assumption); (case t => walk_at "tk"); (case k => walk_at "tk"))
  | ((with_reducible refine' sqL_but ?s ?t ?k); (case s => assumption); (case t => walk_at "ne"); (case k => walk_at "tk"))
  | ((with_reducible refine' sqL_of ?k); (case k => walk_at "tk"))
  | ((with_reducible refine' sqT_of ?k); (case k => walk_at "tk"))
  | ((with_reducible refine' at_same ?s ?k); (case s => assumption); (case k => walk_at "tk"))
  | ((with_reducible refine' at_but ?s ?t ?k); (case s => assumption); (case t => walk_at "ne"); (case k => walk_at "tk")))
local macro_rules | `(tactic| walk_at "ne") => `(tactic| first
  | assumption
  | (refine Ne.symm ?_; assumption)
  | exact ne_of_none (by assumption) (by assumption)
  | exact (ne_of_none (by assumption) (by assumption)).symm)
local macro_rules | `(tactic| walk_at "side") => `(tactic| first
  | assumption
  | omega
  | (simp only [sizeLine_eq, List.length_cons, List.length_nil, List.length_map]; omega)
  | (show _ ≤ sizeLine; decide))
local macro_rules | `(tactic| walk_at "kit") => `(tactic| first
  | (show kitB _ _ = some true; decide +kernel)
  | (show kitB _ _ = some false; decide +kernel))
local macro_rules | `(tactic| walk_at "rng") => `(tactic| first
  | (refine ⟨by omega, by omega, by omega, by omega⟩)
  | (refine ⟨by omega, by omega⟩)
  | ((simp only [List.length_map]); (refine ⟨by omega, by omega, by omega, by omega⟩))
  | ((simp only [List.length_map]); (refine ⟨by omega, by omega⟩)))
local macro_rules | `(tactic| walk_at "rd1") => `(tactic| first
  | with_reducible refine r_seq ?_
  | ((with_reducible refine' r_var ?k0 ?_); (case k0 => rfl))
  | with_reducible refine r_op ?_
  | with_reducible refine r_c ?_
  | with_reducible refine r_asg ?_
  | with_reducible refine r_name ?_
  | with_reducible refine r_cons ?_
  | with_reducible refine r_nil ?_
  | with_reducible refine r_CB ?_
  | with_reducible refine r_if ?_
  | with_reducible refine r_test ?_
  | with_reducible refine r_k ?_
  | with_reducible refine r_T ?_
  | with_reducible refine r_F ?_
  | with_reducible refine r_nT ?_
  | with_reducible refine r_nF ?_
  | with_reducible refine r_ret ?_
  | with_reducible refine r_drop ?_
  | with_reducible refine r_next ?_
  | with_reducible refine r_call ?_
  | with_reducible refine r_addI ?_
  | with_reducible refine r_subI ?_
  | with_reducible refine r_ltI ?_
  | with_reducible refine r_gtI ?_
  | with_reducible refine r_leI ?_
  | with_reducible refine r_geI ?_
  | with_reducible refine r_eqI ?_
  | with_reducible refine r_neI ?_
  | with_reducible refine r_int ?_
  | with_reducible refine r_abs ?_
  | with_reducible refine r_not ?_
  | with_reducible refine r_and ?_
  | with_reducible refine r_or ?_
  | with_reducible refine r_tru ?_
  | with_reducible refine r_truB ?_
  | with_reducible refine r_lst ?_
  | with_reducible refine r_tup ?_
  | with_reducible refine r_BM ?_
  | with_reducible refine r_BM0 ?_
  | with_reducible refine r_tyS ?_
  | with_reducible refine r_gsub ?_
  | with_reducible refine r_then ?_
  | with_reducible refine r_lstRg ?_
  | with_reducible refine r_tupRg ?_
  | with_reducible refine r_rg2 ?_
  | with_reducible refine r_rg1 ?_
  | with_reducible refine r_ii ?_
  | with_reducible refine r_i ?_
  | with_reducible refine r_ipI ?_
  | with_reducible refine r_un ?_
  | with_reducible refine r_neg ?_
  | with_reducible refine r_isN ?_
  | with_reducible refine r_notN ?_
  | with_reducible refine r_notV ?_
  | with_reducible refine r_pnot ?_
  | with_reducible refine r_pif ?_
  | with_reducible refine r_andV ?_
  | with_reducible refine r_orV ?_
  | with_reducible refine r_ifE ?_
  | with_reducible refine r_chain ?_
  | with_reducible refine r_sl ?_
  | with_reducible refine r_noPart ?_
  | with_reducible refine r_part ?_
  | with_reducible refine r_brk ?_
  | with_reducible refine r_cont ?_
  | with_reducible refine r_retN ?_
  | with_reducible refine r_truI ?_
  | with_reducible refine r_B ?_
  | with_reducible refine r_for ?_
  | with_reducible refine r_rng1 ?_
  | with_reducible refine r_rng2 ?_
  | with_reducible refine r_rng3 ?_
  | with_reducible refine r_body ?_
  | with_reducible refine r_lc ?_
  | with_reducible refine r_yes ?_
  | ((with_reducible refine' r_mod ?k0 ?_); (case k0 => walk_at "side"))
  | ((with_reducible refine' r_mulI ?k0 ?_); (case k0 => first | exact Or.inl ⟨by omega, by omega⟩ | exact Or.inr ⟨by omega, by omega⟩))
  | ((with_reducible refine' r_lenL ?k0 ?_); (case k0 => walk_at "tk"))
  | ((with_reducible refine' r_lenT ?k0 ?_); (case k0 => walk_at "tk"))
  | ((with_reducible refine' r_truL ?k0 ?_); (case k0 => walk_at "tk"))
  | ((with_reducible refine' r_truT ?k0 ?_); (case k0 => walk_at "tk"))
  | ((with_reducible refine' r_ixL ?k0 ?k1 ?_); (case k0 => walk_at "tk"); (case k1 => first | assumption | rfl))
  | ((with_reducible refine' r_ixT ?k0 ?k1 ?_); (case k0 => walk_at "tk"); (case k1 => first | assumption | rfl))
  | ((with_reducible refine' r_new ?k0 ?_); (case k0 => walk_at "side"))
  | ((with_reducible refine' r_tyL ?k0 ?_); (case k0 => walk_at "tk"))
  | ((with_reducible refine' r_append ?k0 ?k1 ?_); (case k0 => walk_at "tk"); (case k1 => walk_at "side"))
  | ((with_reducible refine' r_setL ?k0 ?k1 ?_); (case k0 => walk_at "tk"); (case k1 => first | assumption | rfl))
  | ((with_reducible refine' r_kTupL ?k0 ?_); (case k0 => walk_at "tk"))
  | ((with_reducible refine' r_kTupT ?k0 ?_); (case k0 => walk_at "tk"))
  | ((with_reducible refine' r_listL ?k0 ?_); (case k0 => walk_at "tk"))
  | ((with_reducible refine' r_listT ?k0 ?_); (case k0 => walk_at "tk"))
  | ((with_reducible refine' r_aug ?k0 ?_); (case k0 => rfl))
  | ((with_reducible refine' r_lenS ?k0 ?_); (case k0 => walk_at "side"))
  | ((with_reducible refine' r_pop ?k0 ?_); (case k0 => walk_at "tk"))
  | ((with_reducible refine' r_pr1 ?k0 ?_); (case k0 => walk_at "rng"))
  | ((with_reducible refine' r_pr2 ?k0 ?_); (case k0 => walk_at "rng"))
  | ((with_reducible refine' r_pr3d ?k0 ?_); (case k0 => walk_at "rng"))
  | ((with_reducible refine' r_isiI ?k0 ?_); (case k0 => walk_at "kit"))
  | ((with_reducible refine' r_isiB ?k0 ?_); (case k0 => walk_at "kit"))
  | ((with_reducible refine' r_isiS ?k0 ?_); (case k0 => walk_at "kit"))
  | ((with_reducible refine' r_isiN ?k0 ?_); (case k0 => walk_at "kit"))
  | ((with_reducible refine' r_isiT ?k0 ?k1 ?_); (case k0 => walk_at "tk"); (case k1 => walk_at "kit"))
  | ((with_reducible refine r_seqT ?_); (repeat (walk_at "rd1")); ((with_reducible refine' r_pseqT ?k0 ?_); (case k0 => walk_at "tk")))
  | ((with_reducible refine r_seqL ?_); (repeat (walk_at "rd1")); ((with_reducible refine' r_pseqL ?k0 ?_); (case k0 => walk_at "tk")))
  | ((with_reducible refine r_seqS ?_); (repeat (walk_at "rd1")); (with_reducible refine r_pseqS ?_)))
local macro_rules | `(tactic| walk_at "rd") => `(tactic| ((repeat (walk_at "rd1")); (try dsimp only)))
local macro_rules | `(tactic| walk_at "rd1") => `(tactic| first
  | with_reducible refine r_BMT ?_
  | with_reducible refine r_par ?_
  | with_reducible refine r_parV ?_
  | ((with_reducible refine' r_ptp ?k0 ?k1 ?_); (case k0 => walk_at "tk"); (case k1 => walk_at "tk"))
  | with_reducible refine r_eqS ?_
  | with_reducible refine r_neS ?_
  | with_reducible refine r_callW ?_
  | with_reducible refine r_try ?_
  | with_reducible refine r_enT ?_
  | ((with_reducible refine' r_pen ?k0 ?_); (case k0 => walk_at "tk")))
local macro_rules | `(tactic| walk_at "pl0") => `(tactic| first
  | assumption
  | exact pl_same (by assumption) (by assumption)
  | exact pl_same (by assumption) (pl_same (by assumption) (by assumption))
  | exact pl_same (by assumption) (pl_same (by assumption) (pl_same (by assumption) (by assumption))))
local macro_rules | `(tactic| walk_at "pl") => `(tactic| first
  | walk_at "pl0"
  | ((with_reducible refine' pl_butL ?s ?n ?k); (case s => assumption); (case n => walk_at "ne"); (case k => walk_at "pl"))
  | ((with_reducible refine' pl_same ?s ?k); (case s => assumption); (case k => walk_at "pl")))
local macro_rules | `(tactic| walk_at "ne") => `(tactic| first
  | exact ne_pl (by assumption) (by walk_at "pl0")
  | exact (ne_pl (by assumption) (by walk_at "pl0")).symm)
local macro_rules | `(tactic| walk_at "fr") => `(tactic| first
  | assumption
  | ((with_reducible refine' free_but ?b ?n ?h); (case h => assumption); (case n => walk_at "ne"); (case b => walk_at "but"))
  | ((with_reducible refine' Same.free ?b ?h); (case h => assumption); (case b => walk_at "same")))
local macro_rules | `(tactic| walk_at "but") => `(tactic| first
  | assumption
  | exact But.refl
  | ((with_reducible refine' But.trans ?a ?b); (case b => assumption); (case a => walk_at "but"))
  | ((with_reducible refine' But.trans ?a (Same.but ?b)); (case b => assumption); (case a => walk_at "but"))
  | ((with_reducible refine' but_via ?a ?b ?c); (case b => assumption); (case c => walk_at "fr"); (case a => walk_at "but")))
local macro_rules | `(tactic| walk_at "same") => `(tactic| first
  | assumption
  | exact Same.refl _
  | ((with_reducible refine' Same.trans ?a ?b); (case b => assumption); (case a => walk_at "same"))
  | ((with_reducible refine' same_but ?a ?b ?c); (case b => assumption); (case c => walk_at "fr"); (case a => walk_at "same")))
local macro_rules | `(tactic| walk_at "tk") => `(tactic| first
  | ((with_reducible refine' sqT_pl ?s ?t ?k); (case s => assumption); (case t => walk_at "pl0"); (case k => walk_at "tk"))
  | ((with_reducible refine' rp_same ?s ?k); (case s => assumption); (case k => walk_at "tk"))
  | ((with_reducible refine' rp_pl ?s ?t ?k); (case s => assumption); (case t => walk_at "pl0"); (case k => walk_at "tk")))
local macro_rules | `(tactic| walk_at "it") => `(tactic| first
  | assumption
  | ((with_reducible refine' sqI_1 ?k); (case k => assumption))
  | ((with_reducible refine' sqI_0 ?k); (case k => assumption))
  | ((with_reducible refine' sqI_of ?k); (case k => assumption))
  | ((with_reducible refine' sqI_D ?k); (case k => assumption))
  | ((with_reducible refine' sqT_same ?s ?k); (case s => assumption); (case k => walk_at "it"))
  | ((with_reducible refine' sqT_but ?s ?t ?k); (case s => assumption); (case t => assumption); (case k => walk_at "it"))
  | ((with_reducible refine' sqT_pl ?s ?t ?k); (case s => assumption); (case t => walk_at "pl0"); (case k => walk_at "it")))
local macro_rules | `(tactic| walk_at "sz") => `(tactic| first | omega | ((try simp only [List.length_cons, List.length_nil] at *); omega))
local macro_rules | `(tactic| walk_at "au1") => `(tactic| first
  | walk_at "rd1"
  | ((with_reducible refine' r_draw ?k0 ?k1 ?k2 ?_); (case k0 => walk_at "pl"); (case k1 => omega); (case k2 => omega); (intro _ _ _ _ _ _))
  | ((with_reducible refine' r_slN ?k0 ?_); (case k0 => walk_at "it"); (intro _ _ _ _ _ _))
  | ((with_reducible refine' r_catN ?k0 ?k1 ?k2 ?_); (case k0 => walk_at "it"); (case k1 => walk_at "it"); (case k2 => walk_at "sz"); (intro _ _ _ _ _ _))
  | ((with_reducible refine' r_pow ?k0 ?_); (case k0 => exact ⟨by decide, by decide, by decide⟩))
  | ((with_reducible refine' r_ixI ?k0 ?k1 ?k2 ?_); (case k0 => walk_at "it"); (case k1 => omega); (case k2 => omega); (intro _ _))
  | ((with_reducible refine' r_setI ?k0 ?k1 ?k2 ?_); (case k0 => walk_at "tk"); (case k1 => omega); (case k2 => omega); (intro _ _ _ _ _))
  | ((with_reducible refine' r_kTupI ?k0 ?_); (case k0 => walk_at "tk"); (intro _ _ _ _ _))
  | ((with_reducible refine' r_listI ?k0 ?_); (case k0 => walk_at "it"); (intro _ _ _ _ _))
  | (with_reducible refine r_revU ?_)
  | ((with_reducible refine' r_prevN ?k0 ?_); (case k0 => walk_at "it"); (intro _ _ _ _ _ _))
  | (intro _ _ _ _ _))
local macro_rules | `(tactic| walk_at "go") => `(tactic| ((repeat (walk_at "au1")); (first
  | ((with_reducible refine r_ite (fun _ => ?_) (fun _ => ?_)) <;> (walk_at "go"))
  | ((with_reducible refine r_iteN (fun _ => ?_) (fun _ => ?_)) <;> (walk_at "go"))
  | dsimp only
  | skip)))
local macro_rules | `(tactic| walk_at "au1") => `(tactic| first
  | with_reducible refine r_revS ?_
  | ((with_reducible refine' r_prevSN ?k0 ?_); (case k0 => walk_at "sz"); (intro _ _))
  | ((with_reducible refine' r_slSN ?k0 ?_); (case k0 => walk_at "sz"); (intro _ _))
  | ((with_reducible refine' r_catSN ?k0 ?_); (case k0 => walk_at "sz"); (intro _ _))
  | ((with_reducible refine' r_lenSS ?k0 ?_); (case k0 => walk_at "sz")))
def pF (c : Nat) : Int := fnd signsL c + 1
def okS (n last : Int) (c : Nat) : Bool := decide (1 ≤ pF c) && (decide (pF c ≤ n) && (decide (last < pF c) && !(decide (0 < last) && decide ((pF c - last - 1) % 2 = 1))))
def valL (n last : Int) : List Nat → Bool
  | [] => true
  | c :: r => okS n last c && valL n (pF c) r
def lastP (last : Int) : List Nat → Int
  | [] => last
  | c :: r => lastP (pF c) r
theorem lastP_snoc (c : Nat) : ∀ (l : List Nat) (last : Int), lastP last (l ++ [c]) = pF c
  | [], _ => rfl
  | d :: r, _ => lastP_snoc c r (pF d)
theorem valL_snoc (n : Int) (c : Nat) : ∀ (l : List Nat) (last : Int), valL n last (l ++ [c]) = (valL n last l && okS n (lastP last l) c)
  | [], last => by simp [valL, lastP]
  | d :: r, last => by
    have := valL_snoc n c r (pF d)
    simp only [List.cons_append, valL, lastP]
    rw [this, Bool.and_assoc]
theorem fnd_ge (l : List Nat) (c : Nat) : -1 ≤ fnd l c := by
  unfold fnd
  split <;> omega
theorem plC_pF (n : Int) (c : Nat) : plC n c = if pF c > n then 0 else pF c := rfl
theorem okS_bad {n : Int} (hn : 0 ≤ n) {l : List Nat} {k : Nat} (hk : k < l.length) (hg : ∀ j, j < k → badC n l j = false) : okS n (lastP 0 (l.take k)) (l.getD k 0) = !badC n l k := by
  have g0 : ∀ c, 0 ≤ pF c := fun c => by have := fnd_ge signsL c; unfold pF; omega
  have gc := g0 (l.getD k 0)
  cases k with
  | zero =>
    have e0 : lastP 0 (l.take 0) = 0 := rfl
    rw [e0]
    unfold okS badC
    rw [plC_pF]
    generalize pF (l.getD 0 0) = p at gc ⊢
    rw [decide_eq_false (show ¬ (0 : Int) < 0 by omega), decide_eq_false (show ¬ (0 : Nat) < 0 by omega)]
    by_cases h : p > n
    · rw [if_pos h, decide_eq_false (show ¬ p ≤ n by omega)]; simp
    · rw [if_neg h, decide_eq_true (show p ≤ n by omega)]
      by_cases h2 : p = 0
      · subst h2; simp
      · rw [decide_eq_true (show 1 ≤ p by omega), decide_eq_true (show 0 < p by omega), decide_eq_false h2]; simp
  | succ j =>
    have hj : j < l.length := by omega
    have hb := hg j (by omega)
    have eL : lastP 0 (l.take (j + 1)) = pF (l.getD j 0) := by
      rw [List.take_add_one, List.getElem?_eq_getElem hj, List.getD_eq_getElem?_getD, List.getElem?_eq_getElem hj]
      exact lastP_snoc _ _ _
    have gl := g0 (l.getD j 0)
    have hl : pF (l.getD j 0) ≤ n ∧ 1 ≤ pF (l.getD j 0) := by
      unfold badC at hb
      rw [Bool.or_eq_false_iff] at hb
      have := of_decide_eq_false hb.1
      rw [plC_pF] at this
      by_cases h : pF (l.getD j 0) > n
      · rw [if_pos h] at this; exact absurd rfl this
      · rw [if_neg h] at this; omega
    rw [eL]
    unfold okS badC folC
    rw [plC_pF, plC_pF, Nat.add_sub_cancel, if_neg (show ¬ pF (l.getD j 0) > n by omega)]
    generalize pF (l.getD (j + 1) 0) = p at gc ⊢
    generalize pF (l.getD j 0) = m at gl hl ⊢
    rw [decide_eq_true (show 0 < m by omega), decide_eq_true (show 0 < j + 1 by omega)]
    by_cases h : p > n
    · rw [if_pos h, decide_eq_false (show ¬ p ≤ n by omega)]; simp
    · rw [if_neg h, decide_eq_true (show p ≤ n by omega)]
      by_cases h2 : m < p
      · rw [decide_eq_true h2, decide_eq_true (show 1 ≤ p by omega), decide_eq_false (show ¬ p = 0 by omega)]
        by_cases h3 : (p - m) % 2 = 1
        · rw [decide_eq_true h3, decide_eq_false (show ¬ (p - m - 1) % 2 = 1 by omega)]; rfl
        · rw [decide_eq_false h3, decide_eq_true (show (p - m - 1) % 2 = 1 by omega)]; rfl
      · rw [decide_eq_false h2]; simp
theorem valL_take {n : Int} (hn : 0 ≤ n) {l : List Nat} : ∀ {k : Nat}, k ≤ l.length → (∀ j, j + 1 < k → badC n l j = false) → valL n 0 (l.take k) = (k == 0 || !badC n l (k - 1))
  | 0, _, _ => rfl
  | k + 1, hk, hg => by
    have hk' : k < l.length := by omega
    have e : l.take (k + 1) = l.take k ++ [l.getD k 0] := by
      rw [List.take_add_one, List.getElem?_eq_getElem hk', List.getD_eq_getElem?_getD, List.getElem?_eq_getElem hk']; rfl
    rw [e, valL_snoc, okS_bad hn hk' (fun j hj => hg j (by omega)), valL_take hn (by omega) (fun j hj => hg j (by omega))]
    rw [show (k + 1 == 0) = false from rfl, Bool.false_or, Nat.add_sub_cancel]
    cases k with
    | zero => rfl
    | succ j =>
      rw [show (j + 1 == 0) = false from rfl, Bool.false_or, Nat.add_sub_cancel, hg j (by omega)]; rfl
def valN (n : Int) (l : List Nat) : Bool := if l = [120] then decide (n % 2 = 0) else valL n 0 l && decide (l ≠ [])
theorem pF_x : pF 120 = 0 := by decide
/-- the prefix of k signs, where no x opens an even stage -/
theorem valN_take {n : Int} (hn : 0 ≤ n) {l : List Nat} {k : Nat} (hx : ¬ (l.take 1 = [120] ∧ n % 2 = 0)) (h1 : 1 ≤ k) (hk : k ≤ l.length) (hg : ∀ j, j + 1 < k → badC n l j = false) : valN n (l.take k) = !badC n l (k - 1) := by
  have e := valL_take hn hk hg
  rw [show (k == 0) = false by rw [beq_eq_false_iff_ne]; omega, Bool.false_or] at e
  unfold valN
  split
  · rename_i hl
    have hk1 : k = 1 := by
      have := congrArg List.length hl
      rw [List.length_take] at this
      have e1 : ([120] : List Nat).length = 1 := rfl
      omega
    subst hk1
    rw [hl] at e
    rw [← e]
    have : valL n 0 [120] = false := by simp [valL, okS, pF_x]
    rw [this]
    have : ¬ n % 2 = 0 := fun z => hx ⟨hl, z⟩
    rw [decide_eq_false this]
  · have : l.take k ≠ [] := fun z => by
      have := congrArg List.length z
      rw [List.length_take] at this
      have e1 : ([] : List Nat).length = 0 := rfl
      omega
    rw [decide_eq_true this, Bool.and_true, e]
theorem chOf_ra {n : Int} {ps : List Int} (h : ps ≠ []) : chOf n ps = raI n ps := by
  obtain ⟨p, r, rfl⟩ : ∃ p r, ps = p :: r := by
    cases ps with
    | nil => exact absurd rfl h
    | cons p r => exact ⟨p, r, rfl⟩
  have e1 : chOf1 (p :: r) = if (p - 1) % 2 = 1 then 1 :: p :: r else p :: r := by
    show (if p % 2 = 0 then 1 :: p :: r else p :: r) = _
    by_cases z : p % 2 = 0
    · rw [if_pos z, if_pos (by omega)]
    · rw [if_neg z, if_neg (by omega)]
  have e2 : lastC 0 (chOf1 (p :: r)) = lastC 0 (p :: r) := by
    rw [e1]
    split <;> rfl
  have e3 : chOf1 (p :: r) ≠ [] := by rw [e1]; split <;> simp
  unfold chOf raI
  rw [e2]
  show (if _ then chOf1 (p :: r) ++ [n] else chOf1 (p :: r)) = (if (n - lastC 0 (p :: r)) % 2 = 1 then (if (p - 1) % 2 = 1 then 1 :: p :: r else p :: r) ++ [n] else _)
  rw [← e1]
  by_cases z : (n - lastC 0 (p :: r)) % 2 = 1
  · rw [if_pos ⟨e3, z⟩, if_pos z]
  · rw [if_neg (fun y => z y.2), if_neg z]
    show chOf1 (p :: r) = if (p - 1) % 2 = 1 then _ else _
    rw [e1]
def sp_law_valid (K : PySem.W.Frag) : Sp := fun vs H Q _ => ∃ (n : Int) (l : List Nat), vs = [.int n, .str (S l)] ∧ l.length ≤ 100000 ∧ Q (.bl (valN n l)) H
def dueT (s : Int) (l : List Nat) : Str × Nat × Dat := if 1 ≤ s ∧ s ≤ 12 then (match rdC s l with | .inl c => ("BadNotation", c, .non) | .inr cs => ("", 0, .tup (cs.map Dat.int))) else ("BadStage", 0, .non)
def sp_told3 (K : PySem.W.Frag) : Sp := fun vs H Q _ => ∃ (s : Int) (l : List Nat), vs = [.int s, .str (S l)] ∧ l.length ≤ 100000 ∧ ∀ p H' v, Same H H' → H' p = some (.lst [.str (dueT s l).1, .int ((dueT s l).2.1 : Nat), v]) → Rp K H' v (dueT s l).2.2 → Q (.ref p) H'
def sp_law_due (K : PySem.W.Frag) : Sp := sp_told3 K
abbrev N_law_due : List Str := ["stage", "text", "k", "places", "ahead", "behind", "sign"]
def t_law_due (K : PySem.W.Frag) : TS :=
  tSeq (tIfS ((tOr ((tTest (tOp (rLtU K) (tVar 0) ((tC (.int 1)))))) ((tTest (tOp rGtU (tVar 0) ((tC (.int 12)))))))) ((tRet ((tLst (tCons ((tC (.str "BadStage"))) (tCons ((tC (.int 0))) (tCons ((tC .non)) tNil))))))) (tNext))
  (tSeq (tFor (iRng2 (tCons ((tC (.int 1))) (tCons ((tOp (rAddU K) ((tCB (rLenU K) (tCons (tVar 1) tNil))) ((tC (.int 1))))) tNil))) (gName 2) ((tIfS ((tNot ((tTru K ((tCall (sp_law_valid K) [] E0 (tCons (tVar 0) (tCons ((tSl (rSlU K) (tVar 1) tNoPart (tPart (tVar 2)))) tNil)))))))) ((tRet ((tLst (tCons ((tC (.str "BadNotation"))) (tCons (tVar 2) (tCons ((tC .non)) tNil))))))) (tNext))))
  (tSeq (tIfS ((tTest (tOp (rEqU K) (tVar 1) ((tC (.str "")))))) ((tRet ((tLst (tCons ((tC (.str "BadNotation"))) (tCons ((tC (.int 1))) (tCons ((tC .non)) tNil))))))) (tNext))
  (tSeq (tIfS ((tTest (tOp (rEqU K) (tVar 1) ((tC (.str "x")))))) ((tRet ((tLst (tCons ((tC (.str ""))) (tCons ((tC (.int 0))) (tCons ((tTup tNil)) tNil))))))) (tNext))
  (tSeq (tAsg (tLc ((iSeqU K (tVar 1))) ((gName 6)) (tYes) ((tOp (rAddU K) ((tBM K "str" rFind ((tC (.str "1234567890ET"))) (tCons (tVar 6) tNil))) ((tC (.int 1))))) [6]) (gName 3))
  (tSeq (tAsg ((tOp rSubU ((tOp (rIx K) (tVar 3) ((tC (.int 0))))) ((tC (.int 1))))) (gName 4))
  (tSeq (tAsg ((tOp rSubU (tVar 0) ((tOp (rIx K) (tVar 3) ((tUn (rU fun i => .int (-i)) ((tC (.int 1))))))))) (gName 5))
  (tSeq (tIfS ((tTest (tOp (rEqU K) ((tOp rModU ((tCB rIntU (tCons (tVar 4) tNil))) ((tC (.int 2))))) ((tC (.int 1)))))) ((tAsg ((tOp (rAddU K) ((tLst (tCons ((tC (.int 1))) tNil))) (tVar 3))) (gName 3))) (tNext))
  (tSeq (tIfS ((tTest (tOp (rEqU K) ((tOp rModU ((tCB rIntU (tCons (tVar 5) tNil))) ((tC (.int 2))))) ((tC (.int 1)))))) ((tAsg ((tOp (rAddU K) (tVar 3) ((tLst (tCons (tVar 0) tNil))))) (gName 3))) (tNext))
  ((tRet ((tLst (tCons ((tC (.str ""))) (tCons ((tC (.int 0))) (tCons ((tThen (tVar 3) (kTupD K))) tNil)))))))))))))))
section
variable {K : PySem.W.Frag} {ec : Str → Addr} {vs : List V} {H : Hp} {Q : VK} {E : XK}
theorem len_law_due (h : sp_law_due K vs H Q E) : vs.length = 2 := by obtain ⟨s, d, rfl, _⟩ := h; rfl
end
end Kb
set_option Elab.async false
set_option linter.all false
set_option maxRecDepth 100000
set_option maxHeartbeats 4000000
namespace Kb
open PySem PySem.Spec PyProof.Rows L2 SX
local macro_rules | `(tactic| walk_at "tk") => `(tactic| first
  | assumption
  | ((with_reducible refine' sqT_of ?k); (case k => assumption))
  | ((with_reducible refine' sqT_ofD ?k); (case k => assumption))
  | ((with_reducible refine' noD_of ?k); (case k => assumption))
  | ((with_reducible refine' noD_same ?s ?k); (case s => assumption); (case k => walk_at "tk"))
  | ((with_reducible refine' sqL_of ?k); (case k => assumption))
  | ((with_reducible refine' sqT_same ?s ?k); (case s => assumption); (case k => walk_at "tk"))
  | ((with_reducible refine' sqL_same ?s ?k); (case s => assumption); (case k => walk_at "tk"))
  | ((with_reducible refine' sqT_but ?s ?t ?k); (case s => assumption); (case t => walk_at "tk"); (case k => walk_at "tk"))
  | ((with_reducible refine' sqL_but ?s ?t ?k); (case s => assumption); (case t => walk_at "ne"); (case k => walk_at "tk"))
  | ((with_reducible refine' sqL_of ?k); (case k => walk_at "tk"))
  | ((with_reducible refine' sqT_of ?k); (case k => walk_at "tk"))
  | ((with_reducible refine' at_same ?s ?k); (case s => assumption); (case k => walk_at "tk"))
  | ((with_reducible refine' at_but ?s ?t ?k); (case s => assumption); (case t => walk_at "ne"); (case k => walk_at "tk")))
local macro_rules | `(tactic| walk_at "ne") => `(tactic| first
  | assumption
  | (refine Ne.symm ?_; assumption)
  | exact ne_of_none (by assumption) (by assumption)
  | exact (ne_of_none (by assumption) (by assumption)).symm)
local macro_rules | `(tactic| walk_at "side") => `(tactic| first
  | assumption
  | omega
  | (simp only [sizeLine_eq, List.length_cons, List.length_nil, List.length_map]; omega)
  | (show _ ≤ sizeLine; decide))
local macro_rules | `(tactic| walk_at "kit") => `(tactic| first
  | (show kitB _ _ = some true; decide +kernel)
  | (show kitB _ _ = some false; decide +kernel))
local macro_rules | `(tactic| walk_at "rng") => `(tactic| first
  | (refine ⟨by omega, by omega, by omega, by omega⟩)
  | (refine ⟨by omega, by omega⟩)
  | ((simp only [List.length_map]); (refine ⟨by omega, by omega, by omega, by omega⟩))
  | ((simp only [List.length_map]); (refine ⟨by omega, by omega⟩)))
local macro_rules | `(tactic| walk_at "rd1") => `(tactic| first
  | with_reducible refine r_seq ?_
  | ((with_reducible refine' r_var ?k0 ?_); (case k0 => rfl))
  | with_reducible refine r_op ?_
  | with_reducible refine r_c ?_
  | with_reducible refine r_asg ?_
  | with_reducible refine r_name ?_
  | with_reducible refine r_cons ?_
  | with_reducible refine r_nil ?_
  | with_reducible refine r_CB ?_
  | with_reducible refine r_if ?_
  | with_reducible refine r_test ?_
  | with_reducible refine r_k ?_
  | with_reducible refine r_T ?_
  | with_reducible refine r_F ?_
  | with_reducible refine r_nT ?_
  | with_reducible refine r_nF ?_
  | with_reducible refine r_ret ?_
  | with_reducible refine r_drop ?_
  | with_reducible refine r_next ?_
  | with_reducible refine r_call ?_
  | with_reducible refine r_addI ?_
  | with_reducible refine r_subI ?_
  | with_reducible refine r_ltI ?_
  | with_reducible refine r_gtI ?_
  | with_reducible refine r_leI ?_
  | with_reducible refine r_geI ?_
  | with_reducible refine r_eqI ?_
  | with_reducible refine r_neI ?_
  | with_reducible refine r_int ?_
  | with_reducible refine r_abs ?_
  | with_reducible refine r_not ?_
  | with_reducible refine r_and ?_
  | with_reducible refine r_or ?_
  | with_reducible refine r_tru ?_
  | with_reducible refine r_truB ?_
  | with_reducible refine r_lst ?_
  | with_reducible refine r_tup ?_
  | with_reducible refine r_BM ?_
  | with_reducible refine r_BM0 ?_
  | with_reducible refine r_tyS ?_
  | with_reducible refine r_gsub ?_
  | with_reducible refine r_then ?_
  | with_reducible refine r_lstRg ?_
  | with_reducible refine r_tupRg ?_
  | with_reducible refine r_rg2 ?_
  | with_reducible refine r_rg1 ?_
  | with_reducible refine r_ii ?_
  | with_reducible refine r_i ?_
  | with_reducible refine r_ipI ?_
  | with_reducible refine r_un ?_
  | with_reducible refine r_neg ?_
  | with_reducible refine r_isN ?_
  | with_reducible refine r_notN ?_
  | with_reducible refine r_notV ?_
  | with_reducible refine r_pnot ?_
  | with_reducible refine r_pif ?_
  | with_reducible refine r_andV ?_
  | with_reducible refine r_orV ?_
  | with_reducible refine r_ifE ?_
  | with_reducible refine r_chain ?_
  | with_reducible refine r_sl ?_
  | with_reducible refine r_noPart ?_
  | with_reducible refine r_part ?_
  | with_reducible refine r_brk ?_
  | with_reducible refine r_cont ?_
  | with_reducible refine r_retN ?_
  | with_reducible refine r_truI ?_
  | with_reducible refine r_B ?_
  | with_reducible refine r_for ?_
  | with_reducible refine r_rng1 ?_
  | with_reducible refine r_rng2 ?_
  | with_reducible refine r_rng3 ?_
  | with_reducible refine r_body ?_
  | with_reducible refine r_lc ?_
  | with_reducible refine r_yes ?_
  | ((with_reducible refine' r_mod ?k0 ?_); (case k0 => walk_at "side"))
  | ((with_reducible refine' r_mulI ?k0 ?_); (case k0 => first | exact Or.inl ⟨by omega, by omega⟩ | exact Or.inr ⟨by omega, by omega⟩))
  | ((with_reducible refine' r_lenL ?k0 ?_); (case k0 => walk_at "tk"))
  | ((with_reducible refine' r_lenT ?k0 ?_); (case k0 => walk_at "tk"))
  | ((with_reducible refine' r_truL ?k0 ?_); (case k0 => walk_at "tk"))
  | ((with_reducible refine' r_truT ?k0 ?_); (case k0 => walk_at "tk"))
  | ((with_reducible refine' r_ixL ?k0 ?k1 ?_); (case k0 => walk_at "tk"); (case k1 => first | assumption | rfl))
  | ((with_reducible refine' r_ixT ?k0 ?k1 ?_); (case k0 => walk_at "tk"); (case k1 => first | assumption | rfl))
  | ((with_reducible refine' r_new ?k0 ?_); (case k0 => walk_at "side"))
  | ((with_reducible refine' r_tyL ?k0 ?_); (case k0 => walk_at "tk"))
  | ((with_reducible refine' r_append ?k0 ?k1 ?_); (case k0 => walk_at "tk"); (case k1 => walk_at "side"))
  | ((with_reducible refine' r_setL ?k0 ?k1 ?_); (case k0 => walk_at "tk"); (case k1 => first | assumption | rfl))
  | ((with_reducible refine' r_kTupL ?k0 ?_); (case k0 => walk_at "tk"))
  | ((with_reducible refine' r_kTupT ?k0 ?_); (case k0 => walk_at "tk"))
  | ((with_reducible refine' r_listL ?k0 ?_); (case k0 => walk_at "tk"))
  | ((with_reducible refine' r_listT ?k0 ?_); (case k0 => walk_at "tk"))
  | ((with_reducible refine' r_aug ?k0 ?_); (case k0 => rfl))
  | ((with_reducible refine' r_lenS ?k0 ?_); (case k0 => walk_at "side"))
  | ((with_reducible refine' r_pop ?k0 ?_); (case k0 => walk_at "tk"))
  | ((with_reducible refine' r_pr1 ?k0 ?_); (case k0 => walk_at "rng"))
  | ((with_reducible refine' r_pr2 ?k0 ?_); (case k0 => walk_at "rng"))
  | ((with_reducible refine' r_pr3d ?k0 ?_); (case k0 => walk_at "rng"))
  | ((with_reducible refine' r_isiI ?k0 ?_); (case k0 => walk_at "kit"))
  | ((with_reducible refine' r_isiB ?k0 ?_); (case k0 => walk_at "kit"))
  | ((with_reducible refine' r_isiS ?k0 ?_); (case k0 => walk_at "kit"))
  | ((with_reducible refine' r_isiN ?k0 ?_); (case k0 => walk_at "kit"))
  | ((with_reducible refine' r_isiT ?k0 ?k1 ?_); (case k0 => walk_at "tk"); (case k1 => walk_at "kit"))
  | ((with_reducible refine r_seqT ?_); (repeat (walk_at "rd1")); ((with_reducible refine' r_pseqT ?k0 ?_); (case k0 => walk_at "tk")))
  | ((with_reducible refine r_seqL ?_); (repeat (walk_at "rd1")); ((with_reducible refine' r_pseqL ?k0 ?_); (case k0 => walk_at "tk")))
  | ((with_reducible refine r_seqS ?_); (repeat (walk_at "rd1")); (with_reducible refine r_pseqS ?_)))
local macro_rules | `(tactic| walk_at "rd") => `(tactic| ((repeat (walk_at "rd1")); (try dsimp only)))
local macro_rules | `(tactic| walk_at "rd1") => `(tactic| first
  | with_reducible refine r_BMT ?_
  | with_reducible refine r_par ?_
  | with_reducible refine r_parV ?_
  | ((with_reducible refine' r_ptp ?k0 ?k1 ?_); (case k0 => walk_at "tk"); (case k1 => walk_at "tk"))
  | with_reducible refine r_eqS ?_
  | with_reducible refine r_neS ?_
  | with_reducible refine r_callW ?_
  | with_reducible refine r_try ?_
  | with_reducible refine r_enT ?_
  | ((with_reducible refine' r_pen ?k0 ?_); (case k0 => walk_at "tk")))
local macro_rules | `(tactic| walk_at "pl0") => `(tactic| first
  | assumption
  | exact pl_same (by assumption) (by assumption)
  | exact pl_same (by assumption) (pl_same (by assumption) (by assumption))
  | exact pl_same (by assumption) (pl_same (by assumption) (pl_same (by assumption) (by assumption))))
local macro_rules | `(tactic| walk_at "pl") => `(tactic| first
  | walk_at "pl0"
  | ((with_reducible refine' pl_butL ?s ?n ?k); (case s => assumption); (case n => walk_at "ne"); (case k => walk_at "pl"))
  | ((with_reducible refine' pl_same ?s ?k); (case s => assumption); (case k => walk_at "pl")))
local macro_rules | `(tactic| walk_at "ne") => `(tactic| first
  | exact ne_pl (by assumption) (by walk_at "pl0")
  | exact (ne_pl (by assumption) (by walk_at "pl0")).symm)
local macro_rules | `(tactic| walk_at "fr") => `(tactic| first
  | assumption
  | ((with_reducible refine' free_but ?b ?n ?h); (case h => assumption); (case n => walk_at "ne"); (case b => walk_at "but"))
  | ((with_reducible refine' Same.free ?b ?h); (case h => assumption); (case b => walk_at "same")))
local macro_rules | `(tactic| walk_at "but") => `(tactic| first
  | assumption
  | exact But.refl
  | ((with_reducible refine' But.trans ?a ?b); (case b => assumption); (case a => walk_at "but"))
  | ((with_reducible refine' But.trans ?a (Same.but ?b)); (case b => assumption); (case a => walk_at "but"))
  | ((with_reducible refine' but_via ?a ?b ?c); (case b => assumption); (case c => walk_at "fr"); (case a => walk_at "but")))
local macro_rules | `(tactic| walk_at "same") => `(tactic| first
  | assumption
  | exact Same.refl _
  | ((with_reducible refine' Same.trans ?a ?b); (case b => assumption); (case a => walk_at "same"))
  | ((with_reducible refine' same_but ?a ?b ?c); (case b => assumption); (case c => walk_at "fr"); (case a => walk_at "same")))
local macro_rules | `(tactic| walk_at "tk") => `(tactic| first
  | ((with_reducible refine' sqT_pl ?s ?t ?k); (case s => assumption); (case t => walk_at "pl0"); (case k => walk_at "tk"))
  | ((with_reducible refine' rp_same ?s ?k); (case s => assumption); (case k => walk_at "tk"))
  | ((with_reducible refine' rp_pl ?s ?t ?k); (case s => assumption); (case t => walk_at "pl0"); (case k => walk_at "tk")))
local macro_rules | `(tactic| walk_at "it") => `(tactic| first
  | assumption
  | ((with_reducible refine' sqI_1 ?k); (case k => assumption))
  | ((with_reducible refine' sqI_0 ?k); (case k => assumption))
  | ((with_reducible refine' sqI_of ?k); (case k => assumption))
  | ((with_reducible refine' sqI_D ?k); (case k => assumption))
  | ((with_reducible refine' sqT_same ?s ?k); (case s => assumption); (case k => walk_at "it"))
  | ((with_reducible refine' sqT_but ?s ?t ?k); (case s => assumption); (case t => assumption); (case k => walk_at "it"))
  | ((with_reducible refine' sqT_pl ?s ?t ?k); (case s => assumption); (case t => walk_at "pl0"); (case k => walk_at "it")))
local macro_rules | `(tactic| walk_at "sz") => `(tactic| first | omega | ((try simp only [List.length_cons, List.length_nil] at *); omega))
local macro_rules | `(tactic| walk_at "au1") => `(tactic| first
  | walk_at "rd1"
  | ((with_reducible refine' r_draw ?k0 ?k1 ?k2 ?_); (case k0 => walk_at "pl"); (case k1 => omega); (case k2 => omega); (intro _ _ _ _ _ _))
  | ((with_reducible refine' r_slN ?k0 ?_); (case k0 => walk_at "it"); (intro _ _ _ _ _ _))
  | ((with_reducible refine' r_catN ?k0 ?k1 ?k2 ?_); (case k0 => walk_at "it"); (case k1 => walk_at "it"); (case k2 => walk_at "sz"); (intro _ _ _ _ _ _))
  | ((with_reducible refine' r_pow ?k0 ?_); (case k0 => exact ⟨by decide, by decide, by decide⟩))
  | ((with_reducible refine' r_ixI ?k0 ?k1 ?k2 ?_); (case k0 => walk_at "it"); (case k1 => omega); (case k2 => omega); (intro _ _))
  | ((with_reducible refine' r_setI ?k0 ?k1 ?k2 ?_); (case k0 => walk_at "tk"); (case k1 => omega); (case k2 => omega); (intro _ _ _ _ _))
  | ((with_reducible refine' r_kTupI ?k0 ?_); (case k0 => walk_at "tk"); (intro _ _ _ _ _))
  | ((with_reducible refine' r_listI ?k0 ?_); (case k0 => walk_at "it"); (intro _ _ _ _ _))
  | (with_reducible refine r_revU ?_)
  | ((with_reducible refine' r_prevN ?k0 ?_); (case k0 => walk_at "it"); (intro _ _ _ _ _ _))
  | (intro _ _ _ _ _))
local macro_rules | `(tactic| walk_at "go") => `(tactic| ((repeat (walk_at "au1")); (first
  | ((with_reducible refine r_ite (fun _ => ?_) (fun _ => ?_)) <;> (walk_at "go"))
  | ((with_reducible refine r_iteN (fun _ => ?_) (fun _ => ?_)) <;> (walk_at "go"))
  | dsimp only
  | skip)))
local macro_rules | `(tactic| walk_at "au1") => `(tactic| first
  | with_reducible refine r_revS ?_
  | ((with_reducible refine' r_prevSN ?k0 ?_); (case k0 => walk_at "sz"); (intro _ _))
  | ((with_reducible refine' r_slSN ?k0 ?_); (case k0 => walk_at "sz"); (intro _ _))
  | ((with_reducible refine' r_catSN ?k0 ?_); (case k0 => walk_at "sz"); (intro _ _))
  | ((with_reducible refine' r_lenSS ?k0 ?_); (case k0 => walk_at "sz")))
abbrev XN : List Str := ["ChamberError", "BadStage", "BadChange", "BadNotation", "BadPositions"]
def sp_law_read (K : PySem.W.Frag) : Sp := sp_told3 K
abbrev N_law_read : List Str := ["stage", "text", "kind", "word", "column", "alone", "told", "e"]
def t_law_read (K : PySem.W.Frag) (ec : Str → Addr) : TS :=
  tSeq (tAsg ((tC (.str ""))) (gName 2))
  (tSeq (tAsg ((tC (.str ""))) (gName 3))
  (tSeq (tAsg ((tC (.int 0))) (gName 4))
  (tSeq (tAsg ((tC (.bl true))) (gName 5))
  (tSeq (tAsg ((tC .non)) (gName 6))
  (tSeq (tTry K W0 [⟨.ref (ec "BadStage"), some 7, fun a cls d => tSeq (tAsg ((tC (.str "BadStage"))) (gName 2))
  (tSeq (tAsg ((tXfA K a cls d "word" (tVar 7))) (gName 3))
  ((tAsg ((tAndV ((tCB (rIsX K a cls d) (tCons (tVar 7) (tCons ((tC (.ref (ec "ChamberError")))) tNil)))) ((tAndV ((tCB (rIsX K a cls d) (tCons (tVar 7) (tCons ((tC (.ty "ValueError"))) tNil)))) ((tNotV ((tCB (rIsX K a cls d) (tCons (tVar 7) (tCons ((tTup (tCons ((tC (.ref (ec "BadNotation")))) (tCons ((tC (.ref (ec "BadChange")))) tNil)))) tNil)))))))))) (gName 5))))⟩, ⟨.ref (ec "BadNotation"), some 7, fun a cls d => tSeq (tAsg ((tC (.str "BadNotation"))) (gName 2))
  (tSeq (tAsg ((tXfA K a cls d "word" (tVar 7))) (gName 3))
  (tSeq (tAsg ((tXfA K a cls d "column" (tVar 7))) (gName 4))
  ((tAsg ((tAndV ((tCB (rIsX K a cls d) (tCons (tVar 7) (tCons ((tC (.ref (ec "ChamberError")))) tNil)))) ((tAndV ((tCB (rIsX K a cls d) (tCons (tVar 7) (tCons ((tC (.ty "ValueError"))) tNil)))) ((tNotV ((tCB (rIsX K a cls d) (tCons (tVar 7) (tCons ((tTup (tCons ((tC (.ref (ec "BadPositions")))) (tCons ((tC (.ref (ec "BadChange")))) tNil)))) tNil)))))))))) (gName 5)))))⟩, ⟨.ref (ec "ChamberError"), none, fun a cls d => (tAsg ((tC (.str "another"))) (gName 2))⟩] (fun W => (tAsg ((tCallW (sp_read_change K ec) W (tCons (tVar 0) (tCons (tVar 1) tNil)))) (gName 6))))
  (tSeq (tIfS ((tAnd ((tTest (tOp (rNeU K) (tVar 2) ((tC (.str "")))))) ((tNot ((tAnd ((tTru K (tVar 5))) ((tTru K ((tCall (sp_law_same K) [] E0 (tCons (tVar 3) (tCons (tVar 2) tNil)))))))))))) ((tAsg ((tC (.str "another"))) (gName 2))) (tNext))
  ((tRet ((tLst (tCons (tVar 2) (tCons (tVar 4) (tCons (tVar 6) tNil)))))))))))))
theorem val2 {n : Int} {l : List Nat} (hx : l.take 1 = [120]) (h2 : 2 ≤ l.length) : valN n (l.take 2) = false := by
  obtain ⟨a, b, r, rfl⟩ : ∃ a b r, l = a :: b :: r := by
    cases l with
    | nil => simp at h2
    | cons a l => cases l with
      | nil => simp at h2
      | cons b r => exact ⟨a, b, r, rfl⟩
  have ha : a = 120 := by simpa using hx
  subst ha
  show valN n [120, b] = false
  have : valL n 0 [120, b] = false := by
    show (okS n 0 120 && _) = false
    have : okS n 0 120 = false := by unfold okS; rw [pF_x]; rfl
    rw [this]; rfl
  unfold valN
  rw [if_neg (by simp), this]; rfl
theorem goods {n : Int} (hn : 0 ≤ n) {l : List Nat} (hx : ¬ (l.take 1 = [120] ∧ n % 2 = 0)) {i : Nat} (hi : i ≤ l.length) (hv : ∀ k, 1 ≤ k → k ≤ i → valN n (l.take k) = true) : ∀ m, m ≤ i → ∀ j, j < m → badC n l j = false
  | 0, _, j, hj => absurd hj (Nat.not_lt_zero _)
  | m + 1, hm, j, hj => by
    have ih := goods hn hx hi hv m (by omega)
    by_cases z : j = m
    · subst z
      have e := valN_take hn hx (k := j + 1) (by omega) (by omega) (fun t ht => ih t (by omega))
      rw [hv (j + 1) (by omega) hm, Nat.add_sub_cancel] at e
      simpa using e
    · exact ih j (by omega)
theorem rd_first {n : Int} (hn : 0 ≤ n) {l : List Nat} {i : Nat} (hi : i < l.length) (hv : ∀ k, 1 ≤ k → k ≤ i → valN n (l.take k) = true) (hb : valN n (l.take (i + 1)) = false) : rdC n l = .inl (i + 1) := by
  by_cases hx : l.take 1 = [120] ∧ n % 2 = 0
  · have i1 : i = 1 := by
      rcases Nat.lt_trichotomy i 1 with z | z | z
      · obtain rfl : i = 0 := by omega
        rw [hx.1] at hb
        unfold valN at hb
        rw [if_pos rfl, decide_eq_true hx.2] at hb
        cases hb
      · exact z
      · have := hv 2 (by omega) (by omega)
        rw [val2 hx.1 (by omega)] at this
        cases this
    subst i1
    unfold rdC
    rw [if_pos hx, if_pos (by omega)]
  · have hg := goods hn hx (by omega : i ≤ l.length) hv i (Nat.le_refl _)
    have e := valN_take hn hx (k := i + 1) (by omega) (by omega) (fun j hj => hg j (by omega))
    rw [hb, Nat.add_sub_cancel] at e
    exact read_hit hx hi hg (by simpa using e.symm)
theorem rd_all {n : Int} (hn : 0 ≤ n) {l : List Nat} (hv : ∀ k, 1 ≤ k → k ≤ l.length → valN n (l.take k) = true) : rdC n l = if l = [] then .inl 1 else if l = [120] then .inr [] else .inr (raI n (l.map pF)) := by
  by_cases hx : l.take 1 = [120] ∧ n % 2 = 0
  · have h1 : ¬ 1 < l.length := fun z => by
      have := hv 2 (by omega) (by omega)
      rw [val2 hx.1 (by omega)] at this
      cases this
    have e : l = [120] := by rw [← hx.1, List.take_of_length_le (by omega)]
    unfold rdC
    rw [if_pos hx, if_neg h1, if_neg (by rw [e]; simp), if_pos e]
  · have hg := goods hn hx (Nat.le_refl _) hv l.length (Nat.le_refl _)
    have hf : (List.range l.length).find? (badC n l) = none := by
      rw [List.find?_eq_none]
      intro j hj
      rw [hg j (List.mem_range.mp hj)]; decide
    have e1 : rdC n l = if l = [] then .inl 1 else .inr (chOf n (l.map (plC n))) := by
      unfold rdC
      rw [if_neg hx, hf]
    rw [e1]
    by_cases h0 : l = []
    · rw [if_pos h0, if_pos h0]
    · have hp : l.map (plC n) = l.map pF := by
        apply List.map_congr_left
        intro c hc
        obtain ⟨j, hj, rfl⟩ := List.mem_iff_getElem.mp hc
        have := hg j hj
        unfold badC at this
        rw [Bool.or_eq_false_iff, List.getD_eq_getElem?_getD, List.getElem?_eq_getElem hj] at this
        have := of_decide_eq_false this.1
        have this : ¬ plC n l[j] = 0 := this
        rw [plC_pF] at this ⊢
        by_cases z : pF l[j] > n
        · rw [if_pos z] at this; exact absurd rfl this
        · rw [if_neg z]
      rw [if_neg h0, if_neg h0, hp, chOf_ra (by simpa using h0)]
      by_cases hl : l = [120]
      · exfalso
        have := hv 1 (by omega) (by rw [hl]; decide)
        rw [hl] at this
        unfold valN at this
        rw [show ([120] : List Nat).take 1 = [120] from rfl, if_pos rfl] at this
        exact hx ⟨by rw [hl]; rfl, of_decide_eq_true this⟩
      · rw [if_neg hl]
section
variable {K : PySem.W.Frag} {ec : Str → Addr} {vs : List V} {H : Hp} {Q : VK} {E : XK}
theorem len_law_read (h : sp_law_read K vs H Q E) : vs.length = 2 := by obtain ⟨s, d, rfl, _⟩ := h; rfl
theorem due_st {s : Int} {l : List Nat} (h : ¬ Stg s) : dueT s l = (("BadStage" : Str), 0, Dat.non) := by unfold dueT; rw [if_neg (show ¬ (1 ≤ s ∧ s ≤ 12) from h)]
theorem due_no {s : Int} {l : List Nat} {c : Nat} (h : Stg s) (e : rdC s l = .inl c) : dueT s l = (("BadNotation" : Str), c, Dat.non) := by unfold dueT; rw [if_pos (show 1 ≤ s ∧ s ≤ 12 from h), e]
theorem due_yes {s : Int} {l : List Nat} {cs : List Int} (h : Stg s) (e : rdC s l = .inr cs) : dueT s l = (("" : Str), 0, Dat.tup (cs.map Dat.int)) := by unfold dueT; rw [if_pos (show 1 ≤ s ∧ s ≤ 12 from h), e]
/-- [f(c) for c in text], whole numbers -/
theorem r_lcStr {σ : L2.St} {te : TE} {j : Nat} {l : List Nat} (f : Nat → Int) (hz : l.length ≤ 1000000) (he : ∀ c H1 (Q' : VK), Q' (.int (f c)) H1 → te ((σ.set j none).set j (some (.str (S [c])))) H1 Q')
    (hd : ∀ q H', H q = none → Same H H' → H' q = some (.lst ((l.map f).map V.int)) → Q (.ref q) H') : PLc (Its (S l)) (gName j) tYes te [j] σ H Q := by
  intro D hD
  refine lc_it (n := l.length) (Y := fun i H x H' => H' = H ∧ ∃ c, l[i]? = some c ∧ x = .str (S [c])) (G := fun _ => True) (J := Its (S l))
    ⟨fun i H hi _ => by show i < (S l).cps.size; simpa using hi, fun H _ => by show (S l).cps.size ≤ l.length; simp, fun i H x H' hi _ y => by
      obtain ⟨rfl, c, hc, rfl⟩ := y
      exact ⟨rfl, c, by simpa using hc, rfl⟩⟩
    (fun i H' => Same H H' ∧ H' D = some (.lst (((l.take i).map f).map V.int))) ⟨same_new hD, upd_same⟩ (fun _ _ _ _ => trivial) (fun i x H1 H2 hi P y => ?_) (fun H' P => ?_)
  · obtain ⟨rfl, c, hc, rfl⟩ := y
    obtain ⟨s, e⟩ := P
    refine ⟨by show ((σ.set j none).set j _).set j none = σ.set j none; rw [List.set_set, List.set_set], ?_⟩
    refine r_yes (r_T (he c H2 _ ?_))
    refine ⟨_, e, by rw [List.length_map, List.length_map, List.length_take, sizeLine_eq]; omega, same_but s but_upd hD, ?_⟩
    rw [upd_same, List.take_add_one, hc, List.map_append, List.map_append]
    rfl
  · have e := P.2
    rw [List.take_length] at e
    exact hd D H' hD P.1 e
theorem at_hd {cs : List Int} (h : cs ≠ []) : atI (cs.map V.int) 0 = some (.int (cs.getD 0 0)) := by
  cases cs with
  | nil => exact absurd rfl h
  | cons p r => exact at_first
theorem pure_law_due (h : sp_law_due K vs H Q E) : t_law_due K (En Q) (start N_law_due vs) H := by
  obtain ⟨s, l, rfl, hl, q⟩ := h
  have bad : ¬ Stg s → ∀ (σ : L2.St) (D : Ends), D.rt = Q → (tRet (tLst (tCons (tC (.str "BadStage")) (tCons (tC (.int 0)) (tCons (tC .non) tNil))))) D σ H := fun hs σ D hD => by
    walk_at "rd"
    intro p H1 np s1 e1
    rw [hD]
    rw [due_st hs] at q
    exact q p H1 _ s1 e1 .non
  unfold t_law_due
  walk_at "rd"
  refine r_ite (fun c1 => ?_) (fun c1 => ?_)
  · exact r_T (bad (fun z => by have := z.1; omega) _ _ rfl)
  walk_at "rd"
  refine r_ite (fun c2 => ?_) (fun c2 => ?_)
  · exact bad (fun z => by have := z.2; omega) _ _ rfl
  have hs : Stg s := ⟨by omega, by omega⟩
  walk_at "rd"
  refine r_lenSS (by omega) ?_
  walk_at "rd"
  rw [show ((l.length : Int) + 1 - 1).toNat = l.length by omega]
  refine r_forRange (fun i σ' H' => ∃ (z2 : Option V), σ' = [some (.int s), some (.str (S l)), z2, none, none, none, none] ∧ H' = H ∧ ∀ k, 1 ≤ k → k ≤ i → valN s (l.take k) = true)
    ⟨none, rfl, rfl, fun k h1 h2 => by omega⟩ (fun i σ' H' hi hW => ?_) (fun σ' H' hW => ?_)
  · obtain ⟨z2, rfl, rfl, hv⟩ := hW
    walk_at "rd"
    refine r_slS (by omega) ?_
    rw [show (1 + (i : Int)) = ((i + 1 : Nat) : Int) by omega, cutA_take]
    walk_at "rd"
    refine ⟨s, l.take (i + 1), rfl, by rw [List.length_take]; omega, ?_⟩
    walk_at "rd"
    refine r_iteB' (fun hb => ?_) (fun hb => ?_)
    · have hb : valN s (l.take (i + 1)) = false := by simpa using hb
      walk_at "rd"
      intro p H1 np s1 e1
      rw [due_no hs (rd_first (by have := hs.1; omega) hi hv hb)] at q
      exact q p H1 _ s1 e1 .non
    · have hb : valN s (l.take (i + 1)) = true := by simpa using hb
      refine r_next ⟨_, rfl, rfl, fun k h1 h2 => ?_⟩
      by_cases z : k = i + 1
      · subst z; exact hb
      · exact hv k h1 (by omega)
  · obtain ⟨z2, rfl, rfl, hv⟩ := hW
    have hr := rd_all (by have := hs.1; omega) hv
    walk_at "rd"
    rw [S_eqD, show ("" : Str).cps.toList = [] by decide]
    refine r_ite (fun h0 => ?_) (fun h0 => ?_)
    · rw [if_pos h0] at hr
      rw [due_no hs hr] at q
      walk_at "rd"
      intro p H1 np s1 e1
      exact q p H1 _ s1 e1 .non
    rw [if_neg h0] at hr
    walk_at "rd"
    rw [S_eqD, show ("x" : Str).cps.toList = [120] by decide]
    refine r_ite (fun h1 => ?_) (fun h1 => ?_)
    · rw [if_pos h1] at hr
      rw [due_yes hs hr] at q
      walk_at "rd"
      intro t H1 nt s1 e1
      walk_at "rd"
      intro p H2 np s2 e2
      exact q p H2 _ (s1.trans s2) e2 (rp_same s2 (rp_ints (ns := []) (sqT_of e1)))
    rw [if_neg h1] at hr
    rw [due_yes hs hr] at q
    have hne : l.map pF ≠ [] := by simpa using h0
    walk_at "rd"
    refine r_lcStr pF (by omega) (fun c H1 Q' k => ?_) fun t H1 nt s1 e1 => ?_
    · walk_at "rd"
      refine r_find signs_tl ?_
      walk_at "rd"
      exact k
    have a0 := at_hd hne
    have a1 := at_last hne
    walk_at "rd"
    have fin : ∀ (t : Addr) (ds : List Int) (H2 : Hp), Same H' H2 → H2 t = some (.lst (ds.map V.int)) → ds.length ≤ 200000 → ds = (if ((l.map pF).getD 0 0 - 1) % 2 = 1 then 1 :: l.map pF else l.map pF) → ∀ z6 : Option V,
        tSeq (tIfS ((tTest (tOp (rEqU K) ((tOp rModU ((tCB rIntU (tCons (tVar 5) tNil))) ((tC (.int 2))))) ((tC (.int 1)))))) ((tAsg ((tOp (rAddU K) (tVar 3) ((tLst (tCons (tVar 0) tNil))))) (gName 3))) (tNext))
        ((tRet ((tLst (tCons ((tC (.str ""))) (tCons ((tC (.int 0))) (tCons ((tThen (tVar 3) (kTupD K))) tNil))))))) (En Q) [some (.int s), some (.str (S l)), z2, some (.ref t), some (.int ((l.map pF).getD 0 0 - 1)), some (.int (s - lastC 0 (l.map pF))), z6] H2 := fun t ds H2 s2 e2 hl2 ed z6 => by
      have out : ∀ (t : Addr) (us : List Int) (H3 : Hp), Same H' H3 → H3 t = some (.lst (us.map V.int)) → us = raI s (l.map pF) → ((tRet ((tLst (tCons ((tC (.str ""))) (tCons ((tC (.int 0))) (tCons ((tThen (tVar 3) (kTupD K))) tNil))))))) (En Q) [some (.int s), some (.str (S l)), z2, some (.ref t), some (.int ((l.map pF).getD 0 0 - 1)), some (.int (s - lastC 0 (l.map pF))), z6] H3 := fun t us H3 s3 e3 eu => by
        walk_at "rd"
        intro w H4 nw s4 e4
        walk_at "rd"
        intro p H5 np s5 e5
        refine q p H5 _ ((s3.trans s4).trans s5) e5 (rp_same s5 ?_)
        rw [← eu]
        exact rp_ints (sqT_ofD e4)
      walk_at "rd"
      refine r_ite (fun c => ?_) (fun c => ?_)
      · walk_at "rd"
        intro w H3 nw s3 e3
        refine r_catL (s3 _ _ e2) e3 (by rw [List.length_map, sizeLine_eq]; simp; omega) fun u H4 nu s4 e4 => ?_
        refine r_name ?_
        refine out u (ds ++ [s]) H4 ((s2.trans s3).trans s4) (by rw [e4, List.map_append]; rfl) ?_
        unfold raI
        rw [if_pos c, ← ed]
      · refine r_next ?_
        refine out t ds H2 s2 e2 ?_
        unfold raI
        rw [if_neg c, ← ed]
    refine r_ite (fun c => ?_) (fun c => ?_)
    · walk_at "rd"
      intro w H3 nw s3 e3
      walk_at "rd"
      refine r_catL e3 (s3 _ _ e1) (by rw [List.length_map, List.length_map, sizeLine_eq]; simp; omega) fun u H4 nu s4 e4 => ?_
      refine r_name ?_
      exact fin u (1 :: l.map pF) H4 ((s1.trans s3).trans s4) e4 (by rw [List.length_cons, List.length_map]; omega) (by rw [if_pos c]) _
    · refine r_next ?_
      exact fin t (l.map pF) H1 s1 e1 (by rw [List.length_map]; omega) (by rw [if_neg c]) _
theorem pure_law_read (XS : Exs K ec XN) (h : sp_law_read K vs H Q E) : t_law_read K ec (En Q) (start N_law_read vs) H := by
  obtain ⟨s, l, rfl, hl, q⟩ := h
  unfold t_law_read
  walk_at "rd"
  refine ⟨s, l, rfl, hl, fun hs d H' s' nd e => ?_, fun c hs hr d H' s' nd e => ?_, fun cs hs hr t H1 nt s1 e1 => ?_⟩
  · have BU := XS.bad "BadStage" (by decide)
    refine w_yes (by rw [XS.exm "BadStage" (by decide) "BadStage" (by decide)]; rfl) fun ea na => ?_
    dsimp only
    refine r_seq (r_asg (r_c (r_name ?_)))
    dsimp only
    refine r_seq (r_asg ?_)
    refine r_xfV (v := .str "BadStage") BU.xf BU.nw rfl e rfl ?_
    refine r_name ?_
    dsimp only
    refine r_asg ?_
    refine r_alone XS (x := "BadStage") (by decide) (by decide) (by decide) (by decide) (by decide) (by decide) rfl e fun H2 s2 => ?_
    refine r_name (r_endsAs ?_)
    dsimp only
    walk_at "rd"
    refine r_iteNM (by decide) ?_
    walk_at "rd"
    refine ⟨.str "BadStage", .str "BadStage", .str "BadStage", rfl, .str _, .str _, by decide, fun H3 s3 => ?_⟩
    walk_at "rd"
    intro p H4 np s4 e4
    rw [due_st hs] at q
    exact q p H4 _ (((s'.trans s2).trans s3).trans s4) e4 .non
  · have BU := XS.bad "BadNotation" (by decide)
    refine w_no (by rw [XS.exm "BadNotation" (by decide) "BadStage" (by decide)]; rfl) ?_
    refine w_yes (by rw [XS.exm "BadNotation" (by decide) "BadNotation" (by decide)]; rfl) fun ea na => ?_
    dsimp only
    refine r_seq (r_asg (r_c (r_name ?_)))
    dsimp only
    refine r_seq (r_asg ?_)
    refine r_xfV (v := .str "BadNotation") BU.xf BU.nw rfl e rfl ?_
    refine r_name ?_
    dsimp only
    refine r_seq (r_asg ?_)
    refine r_xfV (v := .int (c : Int)) BU.xf (BU.nf "column" (by decide)) rfl e rfl ?_
    refine r_name ?_
    dsimp only
    refine r_asg ?_
    refine r_alone XS (x := "BadNotation") (by decide) (by decide) (by decide) (by decide) (by decide) (by decide) rfl e fun H2 s2 => ?_
    refine r_name (r_endsAs ?_)
    dsimp only
    walk_at "rd"
    refine r_iteNM (by decide) ?_
    walk_at "rd"
    refine ⟨.str "BadNotation", .str "BadNotation", .str "BadNotation", rfl, .str _, .str _, by decide, fun H3 s3 => ?_⟩
    walk_at "rd"
    intro p H4 np s4 e4
    rw [due_no hs hr] at q
    exact q p H4 _ (((s'.trans s2).trans s3).trans s4) e4 .non
  · walk_at "rd"
    refine r_iteNP rfl ?_
    refine r_F (r_next ?_)
    walk_at "rd"
    intro p H4 np s4 e4
    rw [due_yes hs hr] at q
    exact q p H4 _ (s1.trans s4) e4 (rp_same s4 (rp_ints e1))
end
end Kb
set_option Elab.async false
set_option linter.all false
set_option maxRecDepth 100000
set_option maxHeartbeats 4000000
namespace Kb
namespace K0
open PySem PySem.Spec PyProof.Rows L2 SX
local macro_rules | `(tactic| walk_at "tk") => `(tactic| first
  | assumption
  | ((with_reducible refine' sqT_of ?k); (case k => assumption))
  | ((with_reducible refine' sqT_ofD ?k); (case k => assumption))
  | ((with_reducible refine' noD_of ?k); (case k => assumption))
  | ((with_reducible refine' noD_same ?s ?k); (case s => assumption); (case k => walk_at "tk"))
  | ((with_reducible refine' sqL_of ?k); (case k => assumption))
  | ((with_reducible refine' sqT_same ?s ?k); (case s => assumption); (case k => walk_at "tk"))
  | ((with_reducible refine' sqL_same ?s ?k); (case s => assumption); (case k => walk_at "tk"))
  | ((with_reducible refine' sqT_but ?s ?t ?k); (case s => assumption); (case t => walk_at "tk"); (case k => walk_at "tk"))
  | ((with_reducible refine' sqL_but ?s ?t ?k); (case s => assumption); (case t => walk_at "ne"); (case k => walk_at "tk"))
  | ((with_reducible refine' sqL_of ?k); (case k => walk_at "tk"))
  | ((with_reducible refine' sqT_of ?k); (case k => walk_at "tk"))
  | ((with_reducible refine' at_same ?s ?k); (case s => assumption); (case k => walk_at "tk"))
  | ((with_reducible refine' at_but ?s ?t ?k); (case s => assumption); (case t => walk_at "ne"); (case k => walk_at "tk")))
local macro_rules | `(tactic| walk_at "ne") => `(tactic| first
  | assumption
  | (refine Ne.symm ?_; assumption)
  | exact ne_of_none (by assumption) (by assumption)
  | exact (ne_of_none (by assumption) (by assumption)).symm)
local macro_rules | `(tactic| walk_at "side") => `(tactic| first
  | assumption
  | omega
  | (simp only [sizeLine_eq, List.length_cons, List.length_nil, List.length_map]; omega)
  | (show _ ≤ sizeLine; decide))
local macro_rules | `(tactic| walk_at "kit") => `(tactic| first
  | (show kitB _ _ = some true; decide +kernel)
  | (show kitB _ _ = some false; decide +kernel))
local macro_rules | `(tactic| walk_at "rng") => `(tactic| first
  | (refine ⟨by omega, by omega, by omega, by omega⟩)
  | (refine ⟨by omega, by omega⟩)
  | ((simp only [List.length_map]); (refine ⟨by omega, by omega, by omega, by omega⟩))
  | ((simp only [List.length_map]); (refine ⟨by omega, by omega⟩)))
local macro_rules | `(tactic| walk_at "rd1") => `(tactic| first
  | with_reducible refine r_seq ?_
  | ((with_reducible refine' r_var ?k0 ?_); (case k0 => rfl))
  | with_reducible refine r_op ?_
  | with_reducible refine r_c ?_
  | with_reducible refine r_asg ?_
  | with_reducible refine r_name ?_
  | with_reducible refine r_cons ?_
  | with_reducible refine r_nil ?_
  | with_reducible refine r_CB ?_
  | with_reducible refine r_if ?_
  | with_reducible refine r_test ?_
  | with_reducible refine r_k ?_
  | with_reducible refine r_T ?_
  | with_reducible refine r_F ?_
  | with_reducible refine r_nT ?_
  | with_reducible refine r_nF ?_
  | with_reducible refine r_ret ?_
  | with_reducible refine r_drop ?_
  | with_reducible refine r_next ?_
  | with_reducible refine r_call ?_
  | with_reducible refine r_addI ?_
  | with_reducible refine r_subI ?_
  | with_reducible refine r_ltI ?_
  | with_reducible refine r_gtI ?_
  | with_reducible refine r_leI ?_
  | with_reducible refine r_geI ?_
  | with_reducible refine r_eqI ?_
  | with_reducible refine r_neI ?_
  | with_reducible refine r_int ?_
  | with_reducible refine r_abs ?_
  | with_reducible refine r_not ?_
  | with_reducible refine r_and ?_
  | with_reducible refine r_or ?_
  | with_reducible refine r_tru ?_
  | with_reducible refine r_truB ?_
  | with_reducible refine r_lst ?_
  | with_reducible refine r_tup ?_
  | with_reducible refine r_BM ?_
  | with_reducible refine r_BM0 ?_
  | with_reducible refine r_tyS ?_
  | with_reducible refine r_gsub ?_
  | with_reducible refine r_then ?_
  | with_reducible refine r_lstRg ?_
  | with_reducible refine r_tupRg ?_
  | with_reducible refine r_rg2 ?_
  | with_reducible refine r_rg1 ?_
  | with_reducible refine r_ii ?_
  | with_reducible refine r_i ?_
  | with_reducible refine r_ipI ?_
  | with_reducible refine r_un ?_
  | with_reducible refine r_neg ?_
  | with_reducible refine r_isN ?_
  | with_reducible refine r_notN ?_
  | with_reducible refine r_notV ?_
  | with_reducible refine r_pnot ?_
  | with_reducible refine r_pif ?_
  | with_reducible refine r_andV ?_
  | with_reducible refine r_orV ?_
  | with_reducible refine r_ifE ?_
  | with_reducible refine r_chain ?_
  | with_reducible refine r_sl ?_
  | with_reducible refine r_noPart ?_
  | with_reducible refine r_part ?_
  | with_reducible refine r_brk ?_
  | with_reducible refine r_cont ?_
  | with_reducible refine r_retN ?_
  | with_reducible refine r_truI ?_
  | with_reducible refine r_B ?_
  | with_reducible refine r_for ?_
  | with_reducible refine r_rng1 ?_
  | with_reducible refine r_rng2 ?_
  | with_reducible refine r_rng3 ?_
  | with_reducible refine r_body ?_
  | with_reducible refine r_lc ?_
  | with_reducible refine r_yes ?_
  | ((with_reducible refine' r_mod ?k0 ?_); (case k0 => walk_at "side"))
  | ((with_reducible refine' r_mulI ?k0 ?_); (case k0 => first | exact Or.inl ⟨by omega, by omega⟩ | exact Or.inr ⟨by omega, by omega⟩))
  | ((with_reducible refine' r_lenL ?k0 ?_); (case k0 => walk_at "tk"))
  | ((with_reducible refine' r_lenT ?k0 ?_); (case k0 => walk_at "tk"))
  | ((with_reducible refine' r_truL ?k0 ?_); (case k0 => walk_at "tk"))
  | ((with_reducible refine' r_truT ?k0 ?_); (case k0 => walk_at "tk"))
  | ((with_reducible refine' r_ixL ?k0 ?k1 ?_); (case k0 => walk_at "tk"); (case k1 => first | assumption | rfl))
  | ((with_reducible refine' r_ixT ?k0 ?k1 ?_); (case k0 => walk_at "tk"); (case k1 => first | assumption | rfl))
  | ((with_reducible refine' r_new ?k0 ?_); (case k0 => walk_at "side"))
  | ((with_reducible refine' r_tyL ?k0 ?_); (case k0 => walk_at "tk"))
  | ((with_reducible refine' r_append ?k0 ?k1 ?_); (case k0 => walk_at "tk"); (case k1 => walk_at "side"))
  | ((with_reducible refine' r_setL ?k0 ?k1 ?_); (case k0 => walk_at "tk"); (case k1 => first | assumption | rfl))
  | ((with_reducible refine' r_kTupL ?k0 ?_); (case k0 => walk_at "tk"))
  | ((with_reducible refine' r_kTupT ?k0 ?_); (case k0 => walk_at "tk"))
  | ((with_reducible refine' r_listL ?k0 ?_); (case k0 => walk_at "tk"))
  | ((with_reducible refine' r_listT ?k0 ?_); (case k0 => walk_at "tk"))
  | ((with_reducible refine' r_aug ?k0 ?_); (case k0 => rfl))
  | ((with_reducible refine' r_lenS ?k0 ?_); (case k0 => walk_at "side"))
  | ((with_reducible refine' r_pop ?k0 ?_); (case k0 => walk_at "tk"))
  | ((with_reducible refine' r_pr1 ?k0 ?_); (case k0 => walk_at "rng"))
  | ((with_reducible refine' r_pr2 ?k0 ?_); (case k0 => walk_at "rng"))
  | ((with_reducible refine' r_pr3d ?k0 ?_); (case k0 => walk_at "rng"))
  | ((with_reducible refine' r_isiI ?k0 ?_); (case k0 => walk_at "kit"))
  | ((with_reducible refine' r_isiB ?k0 ?_); (case k0 => walk_at "kit"))
  | ((with_reducible refine' r_isiS ?k0 ?_); (case k0 => walk_at "kit"))
  | ((with_reducible refine' r_isiN ?k0 ?_); (case k0 => walk_at "kit"))
  | ((with_reducible refine' r_isiT ?k0 ?k1 ?_); (case k0 => walk_at "tk"); (case k1 => walk_at "kit"))
  | ((with_reducible refine r_seqT ?_); (repeat (walk_at "rd1")); ((with_reducible refine' r_pseqT ?k0 ?_); (case k0 => walk_at "tk")))
  | ((with_reducible refine r_seqL ?_); (repeat (walk_at "rd1")); ((with_reducible refine' r_pseqL ?k0 ?_); (case k0 => walk_at "tk")))
  | ((with_reducible refine r_seqS ?_); (repeat (walk_at "rd1")); (with_reducible refine r_pseqS ?_)))
local macro_rules | `(tactic| walk_at "rd") => `(tactic| ((repeat (walk_at "rd1")); (try dsimp only)))
local macro_rules | `(tactic| walk_at "rd1") => `(tactic| first
  | with_reducible refine r_BMT ?_
  | with_reducible refine r_par ?_
  | with_reducible refine r_parV ?_
  | ((with_reducible refine' r_ptp ?k0 ?k1 ?_); (case k0 => walk_at "tk"); (case k1 => walk_at "tk"))
  | with_reducible refine r_eqS ?_
  | with_reducible refine r_neS ?_
  | with_reducible refine r_callW ?_
  | with_reducible refine r_try ?_
  | with_reducible refine r_enT ?_
  | ((with_reducible refine' r_pen ?k0 ?_); (case k0 => walk_at "tk")))
local macro_rules | `(tactic| walk_at "rd1") => `(tactic| first
  | with_reducible refine r_dIn ?_
  | with_reducible refine r_dNo ?_
  | with_reducible refine r_dPut ?_
  | with_reducible refine r_dGet ?_)
local macro_rules | `(tactic| walk_at "pl0") => `(tactic| first
  | assumption
  | exact pl_same (by assumption) (by assumption)
  | exact pl_same (by assumption) (pl_same (by assumption) (by assumption))
  | exact pl_same (by assumption) (pl_same (by assumption) (pl_same (by assumption) (by assumption))))
local macro_rules | `(tactic| walk_at "pl") => `(tactic| first
  | walk_at "pl0"
  | ((with_reducible refine' pl_butL ?s ?n ?k); (case s => assumption); (case n => walk_at "ne"); (case k => walk_at "pl"))
  | ((with_reducible refine' pl_same ?s ?k); (case s => assumption); (case k => walk_at "pl")))
local macro_rules | `(tactic| walk_at "ne") => `(tactic| first
  | exact ne_pl (by assumption) (by walk_at "pl0")
  | exact (ne_pl (by assumption) (by walk_at "pl0")).symm)
local macro_rules | `(tactic| walk_at "fr") => `(tactic| first
  | assumption
  | ((with_reducible refine' free_but ?b ?n ?h); (case h => assumption); (case n => walk_at "ne"); (case b => walk_at "but"))
  | ((with_reducible refine' Same.free ?b ?h); (case h => assumption); (case b => walk_at "same")))
local macro_rules | `(tactic| walk_at "but") => `(tactic| first
  | assumption
  | exact But.refl
  | ((with_reducible refine' But.trans ?a ?b); (case b => assumption); (case a => walk_at "but"))
  | ((with_reducible refine' But.trans ?a (Same.but ?b)); (case b => assumption); (case a => walk_at "but"))
  | ((with_reducible refine' but_via ?a ?b ?c); (case b => assumption); (case c => walk_at "fr"); (case a => walk_at "but")))
local macro_rules | `(tactic| walk_at "same") => `(tactic| first
  | assumption
  | exact Same.refl _
  | ((with_reducible refine' Same.trans ?a ?b); (case b => assumption); (case a => walk_at "same"))
  | ((with_reducible refine' same_but ?a ?b ?c); (case b => assumption); (case c => walk_at "fr"); (case a => walk_at "same")))
local macro_rules | `(tactic| walk_at "tk") => `(tactic| first
  | ((with_reducible refine' sqT_pl ?s ?t ?k); (case s => assumption); (case t => walk_at "pl0"); (case k => walk_at "tk"))
  | ((with_reducible refine' rp_same ?s ?k); (case s => assumption); (case k => walk_at "tk"))
  | ((with_reducible refine' rp_pl ?s ?t ?k); (case s => assumption); (case t => walk_at "pl0"); (case k => walk_at "tk")))
local macro_rules | `(tactic| walk_at "it") => `(tactic| first
  | assumption
  | ((with_reducible refine' sqI_1 ?k); (case k => assumption))
  | ((with_reducible refine' sqI_0 ?k); (case k => assumption))
  | ((with_reducible refine' sqI_of ?k); (case k => assumption))
  | ((with_reducible refine' sqI_D ?k); (case k => assumption))
  | ((with_reducible refine' sqT_same ?s ?k); (case s => assumption); (case k => walk_at "it"))
  | ((with_reducible refine' sqT_but ?s ?t ?k); (case s => assumption); (case t => assumption); (case k => walk_at "it"))
  | ((with_reducible refine' sqT_pl ?s ?t ?k); (case s => assumption); (case t => walk_at "pl0"); (case k => walk_at "it")))
local macro_rules | `(tactic| walk_at "sz") => `(tactic| first | omega | ((try simp only [List.length_cons, List.length_nil] at *); omega))
local macro_rules | `(tactic| walk_at "au1") => `(tactic| first
  | walk_at "rd1"
  | ((with_reducible refine' r_draw ?k0 ?k1 ?k2 ?_); (case k0 => walk_at "pl"); (case k1 => omega); (case k2 => omega); (intro _ _ _ _ _ _))
  | ((with_reducible refine' r_slN ?k0 ?_); (case k0 => walk_at "it"); (intro _ _ _ _ _ _))
  | ((with_reducible refine' r_catN ?k0 ?k1 ?k2 ?_); (case k0 => walk_at "it"); (case k1 => walk_at "it"); (case k2 => walk_at "sz"); (intro _ _ _ _ _ _))
  | ((with_reducible refine' r_pow ?k0 ?_); (case k0 => exact ⟨by decide, by decide, by decide⟩))
  | ((with_reducible refine' r_ixI ?k0 ?k1 ?k2 ?_); (case k0 => walk_at "it"); (case k1 => omega); (case k2 => omega); (intro _ _))
  | ((with_reducible refine' r_setI ?k0 ?k1 ?k2 ?_); (case k0 => walk_at "tk"); (case k1 => omega); (case k2 => omega); (intro _ _ _ _ _))
  | ((with_reducible refine' r_kTupI ?k0 ?_); (case k0 => walk_at "tk"); (intro _ _ _ _ _))
  | ((with_reducible refine' r_listI ?k0 ?_); (case k0 => walk_at "it"); (intro _ _ _ _ _))
  | (with_reducible refine r_revU ?_)
  | ((with_reducible refine' r_prevN ?k0 ?_); (case k0 => walk_at "it"); (intro _ _ _ _ _ _))
  | (intro _ _ _ _ _))
local macro_rules | `(tactic| walk_at "go") => `(tactic| ((repeat (walk_at "au1")); (first
  | ((with_reducible refine r_ite (fun _ => ?_) (fun _ => ?_)) <;> (walk_at "go"))
  | ((with_reducible refine r_iteN (fun _ => ?_) (fun _ => ?_)) <;> (walk_at "go"))
  | dsimp only
  | skip)))
abbrev XN : List Str := ["ChamberError", "BadStage", "BadRow", "Unlike"]
/-- the three answers to a text -/
def Ans (K : PySem.W.Frag) (s : Int) (l : List Nat) (H : Hp) (Q : VK) : Prop := (¬ Stg s → ∀ p H', Same H H' → H' p = some (.lst [.str "BadStage", .non]) → Q (.ref p) H') ∧
  (Stg s → ¬ OkT s.toNat l → ∀ p H', Same H H' → H' p = some (.lst [.str "BadRow", .non]) → Q (.ref p) H') ∧
  (Stg s → OkT s.toNat l → ∀ p t H', Same H H' → H' p = some (.lst [.str "", .ref t]) → SqT K H' t ((l.map blC).map V.int) → Q (.ref p) H')
def sp_law_due (K : PySem.W.Frag) : Sp := fun vs H Q _ => ∃ (s : Int) (l : List Nat), vs = [.int s, .str (S l)] ∧ l.length ≤ 100000 ∧ Ans K s l H Q
def sp_law_read (K : PySem.W.Frag) : Sp := fun vs H Q _ => ∃ (s : Int) (l : List Nat), vs = [.int s, .str (S l)] ∧ l.length ≤ 100000 ∧ Ans K s l H Q
def sp_law_home (K : PySem.W.Frag) : Sp := fun vs H Q _ => ∃ (s : Int), vs = [.int s] ∧ (¬ Stg s → ∀ p H', Same H H' → H' p = some (.lst [.str "BadStage", .non]) → Q (.ref p) H') ∧
  (Stg s → ∀ p t H', Same H H' → H' p = some (.lst [.str "", .ref t]) → SqT K H' t ((roundsR s.toNat).map V.int) → Q (.ref p) H')
abbrev N_law_due : List Str := ["stage", "text", "signs", "sign"]
def t_law_due (K : PySem.W.Frag) : TS :=
  tSeq (tIfS ((tOr ((tTest (tOp (rLtU K) (tVar 0) ((tC (.int 1)))))) ((tTest (tOp rGtU (tVar 0) ((tC (.int 12)))))))) ((tRet ((tLst (tCons ((tC (.str "BadStage"))) (tCons ((tC .non)) tNil)))))) (tNext))
  (tSeq (tAsg ((tSl (rSlU K) ((tC (.str "1234567890ET"))) tNoPart (tPart (tVar 0)))) (gName 2))
  (tSeq (tIfS ((tTest (tOp (rNeU K) ((tCB (rLenU K) (tCons (tVar 1) tNil))) (tVar 0)))) ((tRet ((tLst (tCons ((tC (.str "BadRow"))) (tCons ((tC .non)) tNil)))))) (tNext))
  (tSeq (tFor (iSeqU K (tVar 2)) (gName 3) ((tIfS ((tTest (tOp (rNeU K) ((tBM K "str" rCountS (tVar 1) (tCons (tVar 3) tNil))) ((tC (.int 1)))))) ((tRet ((tLst (tCons ((tC (.str "BadRow"))) (tCons ((tC .non)) tNil)))))) (tNext))))
  ((tRet ((tLst (tCons ((tC (.str ""))) (tCons ((tThen ((tLc ((iSeqU K (tVar 1))) ((gName 3)) (tYes) ((tOp (rAddU K) ((tBM K "str" rFind (tVar 2) (tCons (tVar 3) tNil))) ((tC (.int 1))))) [3])) (kTupD K))) tNil)))))))))
abbrev N_law_read : List Str := ["stage", "text", "kind", "word", "alone", "row", "e"]
def t_law_read (K : PySem.W.Frag) (ec : Str → Addr) : TS :=
  tSeq (tAsg ((tC (.str ""))) (gName 2))
  (tSeq (tAsg ((tC (.str ""))) (gName 3))
  (tSeq (tAsg ((tC (.bl true))) (gName 4))
  (tSeq (tAsg ((tC .non)) (gName 5))
  (tSeq (tTry K W0 [⟨.ref (ec "BadStage"), some 6, fun a cls d => tSeq (tAsg ((tC (.str "BadStage"))) (gName 2))
  (tSeq (tAsg ((tXfA K a cls d "word" (tVar 6))) (gName 3))
  ((tAsg ((tAndV ((tCB (rIsX K a cls d) (tCons (tVar 6) (tCons ((tC (.ref (ec "ChamberError")))) tNil)))) ((tAndV ((tCB (rIsX K a cls d) (tCons (tVar 6) (tCons ((tC (.ty "ValueError"))) tNil)))) ((tNotV ((tCB (rIsX K a cls d) (tCons (tVar 6) (tCons ((tTup (tCons ((tC (.ref (ec "BadRow")))) (tCons ((tC (.ref (ec "Unlike")))) tNil)))) tNil)))))))))) (gName 4))))⟩, ⟨.ref (ec "BadRow"), some 6, fun a cls d => tSeq (tAsg ((tC (.str "BadRow"))) (gName 2))
  (tSeq (tAsg ((tXfA K a cls d "word" (tVar 6))) (gName 3))
  ((tAsg ((tAndV ((tCB (rIsX K a cls d) (tCons (tVar 6) (tCons ((tC (.ref (ec "ChamberError")))) tNil)))) ((tAndV ((tCB (rIsX K a cls d) (tCons (tVar 6) (tCons ((tC (.ty "ValueError"))) tNil)))) ((tNotV ((tCB (rIsX K a cls d) (tCons (tVar 6) (tCons ((tTup (tCons ((tC (.ref (ec "BadStage")))) (tCons ((tC (.ref (ec "Unlike")))) tNil)))) tNil)))))))))) (gName 4))))⟩, ⟨.ref (ec "ChamberError"), none, fun a cls d => (tAsg ((tC (.str "another"))) (gName 2))⟩] (fun W => (tAsg ((tCallW (sp_read_row K ec) W (tCons (tVar 0) (tCons (tVar 1) tNil)))) (gName 5))))
  (tSeq (tIfS ((tAnd ((tTest (tOp (rNeU K) (tVar 2) ((tC (.str "")))))) ((tNot ((tAnd ((tTru K (tVar 4))) ((tAnd ((tTru K ((tCB (rIsi K) (tCons (tVar 3) (tCons ((tC (.ty "str"))) tNil)))))) ((tTest (tOp (rEqU K) (tVar 3) (tVar 2)))))))))))) ((tAsg ((tC (.str "another"))) (gName 2))) (tNext))
  ((tRet ((tLst (tCons (tVar 2) (tCons (tVar 5) tNil)))))))))))
abbrev N_law_home : List Str := ["stage", "kind", "word", "alone", "row", "e"]
def t_law_home (K : PySem.W.Frag) (ec : Str → Addr) : TS :=
  tSeq (tAsg ((tC (.str ""))) (gName 1))
  (tSeq (tAsg ((tC (.str ""))) (gName 2))
  (tSeq (tAsg ((tC (.bl true))) (gName 3))
  (tSeq (tAsg ((tC .non)) (gName 4))
  (tSeq (tTry K W0 [⟨.ref (ec "BadStage"), some 5, fun a cls d => tSeq (tAsg ((tC (.str "BadStage"))) (gName 1))
  (tSeq (tAsg ((tXfA K a cls d "word" (tVar 5))) (gName 2))
  ((tAsg ((tAndV ((tCB (rIsX K a cls d) (tCons (tVar 5) (tCons ((tC (.ref (ec "ChamberError")))) tNil)))) ((tAndV ((tCB (rIsX K a cls d) (tCons (tVar 5) (tCons ((tC (.ty "ValueError"))) tNil)))) ((tNotV ((tCB (rIsX K a cls d) (tCons (tVar 5) (tCons ((tTup (tCons ((tC (.ref (ec "BadRow")))) (tCons ((tC (.ref (ec "Unlike")))) tNil)))) tNil)))))))))) (gName 3))))⟩, ⟨.ref (ec "ChamberError"), none, fun a cls d => (tAsg ((tC (.str "another"))) (gName 1))⟩] (fun W => (tAsg ((tCallW (sp_rounds K ec) W (tCons (tVar 0) tNil))) (gName 4))))
  (tSeq (tIfS ((tAnd ((tTest (tOp (rNeU K) (tVar 1) ((tC (.str "")))))) ((tNot ((tAnd ((tTru K (tVar 3))) ((tAnd ((tTru K ((tCB (rIsi K) (tCons (tVar 2) (tCons ((tC (.ty "str"))) tNil)))))) ((tTest (tOp (rEqU K) (tVar 2) (tVar 1)))))))))))) ((tAsg ((tC (.str "another"))) (gName 1))) (tNext))
  ((tRet ((tLst (tCons (tVar 1) (tCons (tVar 4) tNil)))))))))))
section
variable {K : PySem.W.Frag} {ec : Str → Addr} {vs : List V} {H : Hp} {Q : VK} {E : XK}
theorem len_law_due (h : sp_law_due K vs H Q E) : vs.length = 2 := by obtain ⟨s, l, rfl, _⟩ := h; rfl
theorem len_law_read (h : sp_law_read K vs H Q E) : vs.length = 2 := by obtain ⟨s, l, rfl, _⟩ := h; rfl
theorem len_law_home (h : sp_law_home K vs H Q E) : vs.length = 1 := by obtain ⟨s, rfl, _⟩ := h; rfl
theorem signsS : ("1234567890ET" : Str) = S signsL := by decide
theorem pure_law_due (h : sp_law_due K vs H Q E) : t_law_due K (En Q) (start N_law_due vs) H := by
  obtain ⟨s, l, rfl, hl, qS, qB, q⟩ := h
  unfold t_law_due
  walk_at "rd"
  refine r_ite (fun h1 => ?_) (fun h1 => ?_)
  · walk_at "rd"
    intro p H1 np s1 e1
    exact qS (fun z => by have := z.1; omega) p H1 s1 e1
  walk_at "rd"
  refine r_ite (fun h2 => ?_) (fun h2 => ?_)
  · walk_at "rd"
    intro p H1 np s1 e1
    exact qS (fun z => by have := z.2; omega) p H1 s1 e1
  have hs : Stg s := ⟨by omega, by omega⟩
  obtain ⟨n, rfl⟩ : ∃ n : Nat, s = (n : Int) := ⟨s.toNat, by omega⟩
  have hn : n ≤ 12 := by omega
  rw [Int.toNat_natCast] at qB q
  walk_at "rd"
  rw [signsS]
  refine r_slS (by decide) ?_
  rw [cutA_take]
  walk_at "rd"
  refine r_lenSS (by omega) ?_
  walk_at "rd"
  refine r_iteN (fun h3 => ?_) (fun h3 => ?_)
  · walk_at "rd"
    intro p H1 np s1 e1
    exact qB hs (fun z => h3 (by rw [z.1])) p H1 s1 e1
  have hln : l.length = n := by omega
  have tl : (signsL.take n).length = n := by rw [List.length_take, signs_length]; omega
  walk_at "rd"
  refine r_forStr (fun i σ' H' => ∃ (z3 : Option V), σ' = [some (.int (n : Int)), some (.str (S l)), some (.str (S (signsL.take n))), z3] ∧ H' = H ∧ ∀ c ∈ (signsL.take n).take i, l.count c = 1)
    ⟨none, rfl, rfl, fun c hc => by simp at hc⟩ (fun i c σ' H' hi hW => ?_) (fun σ' H' hW => ?_)
  · obtain ⟨z3, rfl, rfl, hg⟩ := hW
    have hc : (signsL.take n)[i]? = some c := hi
    walk_at "rd"
    refine r_countS ?_
    walk_at "rd"
    refine r_iteN (fun h4 => ?_) (fun h4 => ?_)
    · walk_at "rd"
      intro p H1 np s1 e1
      exact qB hs (fun z => h4 (by rw [z.2 c (List.mem_of_getElem? hc)]; rfl)) p H1 s1 e1
    · walk_at "rd"
      refine ⟨_, rfl, rfl, fun x hx => ?_⟩
      rw [List.take_add_one, hc, List.mem_append] at hx
      rcases hx with hx | hx
      · exact hg x hx
      · have : x = c := by simpa using hx
        subst this; omega
  · obtain ⟨z3, rfl, rfl, hg⟩ := hW
    have hz : (S (signsL.take n)).cps.toList.length = (signsL.take n).length := rfl
    rw [hz, List.take_length] at hg
    have ok : OkT n l := ⟨hln, hg⟩
    walk_at "rd"
    refine r_lcStr (fun c => fnd (signsL.take n) c + 1) (by omega) (fun c H1 Q' k => ?_) fun q1 H1 nq1 s1 e1 => ?_
    · walk_at "rd"
      refine r_find (l := signsL.take n) rfl ?_
      walk_at "rd"
      exact k
    rw [(ok_row hn ok).2.2] at e1
    walk_at "rd"
    intro t H2 nt s2 e2
    walk_at "rd"
    intro p H3 np s3 e3
    exact q hs ok p t H3 ((s1.trans s2).trans s3) e3 (sqT_same s3 (sqT_ofD e2))
theorem pure_law_read (XS : Exs K ec XN) (h : sp_law_read K vs H Q E) : t_law_read K ec (En Q) (start N_law_read vs) H := by
  obtain ⟨s, l, rfl, hl, qS, qB, q⟩ := h
  unfold t_law_read
  walk_at "rd"
  refine ⟨s, l, rfl, hl, fun hs d H' s' nd e => ?_, fun hs hr d H' s' nd e => ?_, fun hs ok t H1 nt s1 e1 => ?_⟩
  · have BU := XS.bad "BadStage" (by decide)
    refine w_yes (by rw [XS.exm "BadStage" (by decide) "BadStage" (by decide)]; rfl) fun ea na => ?_
    dsimp only
    refine r_seq (r_asg (r_c (r_name ?_)))
    dsimp only
    refine r_seq (r_asg ?_)
    refine r_xfV (v := .str "BadStage") BU.xf BU.nw rfl e rfl ?_
    refine r_name ?_
    dsimp only
    refine r_asg ?_
    refine r_alone XS (x := "BadStage") (by decide) (by decide) (by decide) (by decide) (by decide) (by decide) rfl e fun H2 s2 => ?_
    refine r_name (r_endsAs ?_)
    dsimp only
    walk_at "rd"
    refine r_iteNM (by decide) ?_
    walk_at "rd"
    refine r_iteNP rfl ?_
    walk_at "rd"
    intro p H4 np s4 e4
    exact qS hs p H4 ((s'.trans s2).trans s4) e4
  · have BU := XS.bad "BadRow" (by decide)
    refine w_no (by rw [XS.exm "BadRow" (by decide) "BadStage" (by decide)]; rfl) ?_
    refine w_yes (by rw [XS.exm "BadRow" (by decide) "BadRow" (by decide)]; rfl) fun ea na => ?_
    dsimp only
    refine r_seq (r_asg (r_c (r_name ?_)))
    dsimp only
    refine r_seq (r_asg ?_)
    refine r_xfV (v := .str "BadRow") BU.xf BU.nw rfl e rfl ?_
    refine r_name ?_
    dsimp only
    refine r_asg ?_
    refine r_alone XS (x := "BadRow") (by decide) (by decide) (by decide) (by decide) (by decide) (by decide) rfl e fun H2 s2 => ?_
    refine r_name (r_endsAs ?_)
    dsimp only
    walk_at "rd"
    refine r_iteNM (by decide) ?_
    walk_at "rd"
    refine r_iteNP rfl ?_
    walk_at "rd"
    intro p H4 np s4 e4
    exact qB hs hr p H4 ((s'.trans s2).trans s4) e4
  · walk_at "rd"
    refine r_iteNP rfl ?_
    refine r_F (r_next ?_)
    walk_at "rd"
    intro p H4 np s4 e4
    exact q hs ok p t H4 (s1.trans s4) e4 (sqT_same s4 e1)
theorem pure_law_home (XS : Exs K ec XN) (h : sp_law_home K vs H Q E) : t_law_home K ec (En Q) (start N_law_home vs) H := by
  obtain ⟨s, rfl, qS, q⟩ := h
  unfold t_law_home
  walk_at "rd"
  refine ⟨s, rfl, fun hs t H1 nt s1 e1 => ?_, fun hs d H' s' nd e => ?_⟩
  · walk_at "rd"
    refine r_iteNP rfl ?_
    refine r_F (r_next ?_)
    walk_at "rd"
    intro p H4 np s4 e4
    exact q hs p t H4 (s1.trans s4) e4 (sqT_same s4 e1)
  · have BU := XS.bad "BadStage" (by decide)
    refine w_yes (by rw [XS.exm "BadStage" (by decide) "BadStage" (by decide)]; rfl) fun ea na => ?_
    dsimp only
    refine r_seq (r_asg (r_c (r_name ?_)))
    dsimp only
    refine r_seq (r_asg ?_)
    refine r_xfV (v := .str "BadStage") BU.xf BU.nw rfl e rfl ?_
    refine r_name ?_
    dsimp only
    refine r_asg ?_
    refine r_alone XS (x := "BadStage") (by decide) (by decide) (by decide) (by decide) (by decide) (by decide) rfl e fun H2 s2 => ?_
    refine r_name (r_endsAs ?_)
    dsimp only
    walk_at "rd"
    refine r_iteNM (by decide) ?_
    walk_at "rd"
    refine r_iteNP rfl ?_
    walk_at "rd"
    intro p H4 np s4 e4
    exact qS hs p H4 ((s'.trans s2).trans s4) e4
end
end K0
end Kb
set_option Elab.async false
set_option linter.all false
set_option maxRecDepth 100000
set_option maxHeartbeats 4000000
namespace Kb
namespace K0
open PySem PySem.Spec PyProof.Rows L2 SX
local macro_rules | `(tactic| walk_at "tk") => `(tactic| first
  | assumption
  | ((with_reducible refine' sqT_of ?k); (case k => assumption))
  | ((with_reducible refine' sqT_ofD ?k); (case k => assumption))
  | ((with_reducible refine' noD_of ?k); (case k => assumption))
  | ((with_reducible refine' noD_same ?s ?k); (case s => assumption); (case k => walk_at "tk"))
  | ((with_reducible refine' sqL_of ?k); (case k => assumption))
  | ((with_reducible refine' sqT_same ?s ?k); (case s => assumption); (case k => walk_at "tk"))
  | ((with_reducible refine' sqL_same ?s ?k); (case s => assumption); (case k => walk_at "tk"))
  | ((with_reducible refine' sqT_but ?s ?t ?k); (case s => assumption); (case t => walk_at "tk"); (case k => walk_at "tk"))
  | ((with_reducible refine' sqL_but ?s ?t ?k); (case s => assumption); (case t => walk_at "ne"); (case k => walk_at "tk"))
  | ((with_reducible refine' sqL_of ?k); (case k => walk_at "tk"))
  | ((with_reducible refine' sqT_of ?k); (case k => walk_at "tk"))
  | ((with_reducible refine' at_same ?s ?k); (case s => assumption); (case k => walk_at "tk"))
  | ((with_reducible refine' at_but ?s ?t ?k); (case s => assumption); (case t => walk_at "ne"); (case k => walk_at "tk")))
local macro_rules | `(tactic| walk_at "ne") => `(tactic| first
  | assumption
  | (refine Ne.symm ?_; assumption)
  | exact ne_of_none (by assumption) (by assumption)
  | exact (ne_of_none (by assumption) (by assumption)).symm)
local macro_rules | `(tactic| walk_at "side") => `(tactic| first
  | assumption
  | omega
  | (simp only [sizeLine_eq, List.length_cons, List.length_nil, List.length_map]; omega)
  | (show _ ≤ sizeLine; decide))
local macro_rules | `(tactic| walk_at "kit") => `(tactic| first
  | (show kitB _ _ = some true; decide +kernel)
  | (show kitB _ _ = some false; decide +kernel))
local macro_rules | `(tactic| walk_at "rng") => `(tactic| first
  | (refine ⟨by omega, by omega, by omega, by omega⟩)
  | (refine ⟨by omega, by omega⟩)
  | ((simp only [List.length_map]); (refine ⟨by omega, by omega, by omega, by omega⟩))
  | ((simp only [List.length_map]); (refine ⟨by omega, by omega⟩)))
local macro_rules | `(tactic| walk_at "rd1") => `(tactic| first
  | with_reducible refine r_seq ?_
  | ((with_reducible refine' r_var ?k0 ?_); (case k0 => rfl))
  | with_reducible refine r_op ?_
  | with_reducible refine r_c ?_
  | with_reducible refine r_asg ?_
  | with_reducible refine r_name ?_
  | with_reducible refine r_cons ?_
  | with_reducible refine r_nil ?_
  | with_reducible refine r_CB ?_
  | with_reducible refine r_if ?_
  | with_reducible refine r_test ?_
  | with_reducible refine r_k ?_
  | with_reducible refine r_T ?_
  | with_reducible refine r_F ?_
  | with_reducible refine r_nT ?_
  | with_reducible refine r_nF ?_
  | with_reducible refine r_ret ?_
  | with_reducible refine r_drop ?_
  | with_reducible refine r_next ?_
  | with_reducible refine r_call ?_
  | with_reducible refine r_addI ?_
  | with_reducible refine r_subI ?_
  | with_reducible refine r_ltI ?_
  | with_reducible refine r_gtI ?_
  | with_reducible refine r_leI ?_
  | with_reducible refine r_geI ?_
  | with_reducible refine r_eqI ?_
  | with_reducible refine r_neI ?_
  | with_reducible refine r_int ?_
  | with_reducible refine r_abs ?_
  | with_reducible refine r_not ?_
  | with_reducible refine r_and ?_
  | with_reducible refine r_or ?_
  | with_reducible refine r_tru ?_
  | with_reducible refine r_truB ?_
  | with_reducible refine r_lst ?_
  | with_reducible refine r_tup ?_
  | with_reducible refine r_BM ?_
  | with_reducible refine r_BM0 ?_
  | with_reducible refine r_tyS ?_
  | with_reducible refine r_gsub ?_
  | with_reducible refine r_then ?_
  | with_reducible refine r_lstRg ?_
  | with_reducible refine r_tupRg ?_
  | with_reducible refine r_rg2 ?_
  | with_reducible refine r_rg1 ?_
  | with_reducible refine r_ii ?_
  | with_reducible refine r_i ?_
  | with_reducible refine r_ipI ?_
  | with_reducible refine r_un ?_
  | with_reducible refine r_neg ?_
  | with_reducible refine r_isN ?_
  | with_reducible refine r_notN ?_
  | with_reducible refine r_notV ?_
  | with_reducible refine r_pnot ?_
  | with_reducible refine r_pif ?_
  | with_reducible refine r_andV ?_
  | with_reducible refine r_orV ?_
  | with_reducible refine r_ifE ?_
  | with_reducible refine r_chain ?_
  | with_reducible refine r_sl ?_
  | with_reducible refine r_noPart ?_
  | with_reducible refine r_part ?_
  | with_reducible refine r_brk ?_
  | with_reducible refine r_cont ?_
  | with_reducible refine r_retN ?_
  | with_reducible refine r_truI ?_
  | with_reducible refine r_B ?_
  | with_reducible refine r_for ?_
  | with_reducible refine r_rng1 ?_
  | with_reducible refine r_rng2 ?_
  | with_reducible refine r_rng3 ?_
  | with_reducible refine r_body ?_
  | with_reducible refine r_lc ?_
  | with_reducible refine r_yes ?_
  | ((with_reducible refine' r_mod ?k0 ?_); (case k0 => walk_at "side"))
  | ((with_reducible refine' r_mulI ?k0 ?_); (case k0 => first | exact Or.inl ⟨by omega, by omega⟩ | exact Or.inr ⟨by omega, by omega⟩))
  | ((with_reducible refine' r_lenL ?k0 ?_); (case k0 => walk_at "tk"))
  | ((with_reducible refine' r_lenT ?k0 ?_); (case k0 => walk_at "tk"))
  | ((with_reducible refine' r_truL ?k0 ?_); (case k0 => walk_at "tk"))
  | ((with_reducible refine' r_truT ?k0 ?_); (case k0 => walk_at "tk"))
  | ((with_reducible refine' r_ixL ?k0 ?k1 ?_); (case k0 => walk_at "tk"); (case k1 => first | assumption | rfl))
  | ((with_reducible refine' r_ixT ?k0 ?k1 ?_); (case k0 => walk_at "tk"); (case k1 => first | assumption | rfl))
  | ((with_reducible refine' r_new ?k0 ?_); (case k0 => walk_at "side"))
  | ((with_reducible refine' r_tyL ?k0 ?_); (case k0 => walk_at "tk"))
  | ((with_reducible refine' r_append ?k0 ?k1 ?_); (case k0 => walk_at "tk"); (case k1 => walk_at "side"))
  | ((with_reducible refine' r_setL ?k0 ?k1 ?_); (case k0 => walk_at "tk"); (case k1 => first | assumption | rfl))
  | ((with_reducible refine' r_kTupL ?k0 ?_); (case k0 => walk_at "tk"))
  | ((with_reducible refine' r_kTupT ?k0 ?_); (case k0 => walk_at "tk"))
  | ((with_reducible refine' r_listL ?k0 ?_); (case k0 => walk_at "tk"))
  | ((with_reducible refine' r_listT ?k0 ?_); (case k0 => walk_at "tk"))
  | ((with_reducible refine' r_aug ?k0 ?_); (case k0 => rfl))
  | ((with_reducible refine' r_lenS ?k0 ?_); (case k0 => walk_at "side"))
  | ((with_reducible refine' r_pop ?k0 ?_); (case k0 => walk_at "tk"))
  | ((with_reducible refine' r_pr1 ?k0 ?_); (case k0 => walk_at "rng"))
  | ((with_reducible refine' r_pr2 ?k0 ?_); (case k0 => walk_at "rng"))
  | ((with_reducible refine' r_pr3d ?k0 ?_); (case k0 => walk_at "rng"))
  | ((with_reducible refine' r_isiI ?k0 ?_); (case k0 => walk_at "kit"))
  | ((with_reducible refine' r_isiB ?k0 ?_); (case k0 => walk_at "kit"))
  | ((with_reducible refine' r_isiS ?k0 ?_); (case k0 => walk_at "kit"))
  | ((with_reducible refine' r_isiN ?k0 ?_); (case k0 => walk_at "kit"))
  | ((with_reducible refine' r_isiT ?k0 ?k1 ?_); (case k0 => walk_at "tk"); (case k1 => walk_at "kit"))
  | ((with_reducible refine r_seqT ?_); (repeat (walk_at "rd1")); ((with_reducible refine' r_pseqT ?k0 ?_); (case k0 => walk_at "tk")))
  | ((with_reducible refine r_seqL ?_); (repeat (walk_at "rd1")); ((with_reducible refine' r_pseqL ?k0 ?_); (case k0 => walk_at "tk")))
  | ((with_reducible refine r_seqS ?_); (repeat (walk_at "rd1")); (with_reducible refine r_pseqS ?_)))
local macro_rules | `(tactic| walk_at "rd") => `(tactic| ((repeat (walk_at "rd1")); (try dsimp only)))
local macro_rules | `(tactic| walk_at "rd1") => `(tactic| first
  | with_reducible refine r_BMT ?_
  | with_reducible refine r_par ?_
  | with_reducible refine r_parV ?_
  | ((with_reducible refine' r_ptp ?k0 ?k1 ?_); (case k0 => walk_at "tk"); (case k1 => walk_at "tk"))
  | with_reducible refine r_eqS ?_
  | with_reducible refine r_neS ?_
  | with_reducible refine r_callW ?_
  | with_reducible refine r_try ?_
  | with_reducible refine r_enT ?_
  | ((with_reducible refine' r_pen ?k0 ?_); (case k0 => walk_at "tk")))
local macro_rules | `(tactic| walk_at "rd1") => `(tactic| first
  | with_reducible refine r_dIn ?_
  | with_reducible refine r_dNo ?_
  | with_reducible refine r_dPut ?_
  | with_reducible refine r_dGet ?_)
local macro_rules | `(tactic| walk_at "pl0") => `(tactic| first
  | assumption
  | exact pl_same (by assumption) (by assumption)
  | exact pl_same (by assumption) (pl_same (by assumption) (by assumption))
  | exact pl_same (by assumption) (pl_same (by assumption) (pl_same (by assumption) (by assumption))))
local macro_rules | `(tactic| walk_at "pl") => `(tactic| first
  | walk_at "pl0"
  | ((with_reducible refine' pl_butL ?s ?n ?k); (case s => assumption); (case n => walk_at "ne"); (case k => walk_at "pl"))
  | ((with_reducible refine' pl_same ?s ?k); (case s => assumption); (case k => walk_at "pl")))
local macro_rules | `(tactic| walk_at "ne") => `(tactic| first
  | exact ne_pl (by assumption) (by walk_at "pl0")
  | exact (ne_pl (by assumption) (by walk_at "pl0")).symm)
local macro_rules | `(tactic| walk_at "fr") => `(tactic| first
  | assumption
  | ((with_reducible refine' free_but ?b ?n ?h); (case h => assumption); (case n => walk_at "ne"); (case b => walk_at "but"))
  | ((with_reducible refine' Same.free ?b ?h); (case h => assumption); (case b => walk_at "same")))
local macro_rules | `(tactic| walk_at "but") => `(tactic| first
  | assumption
  | exact But.refl
  | ((with_reducible refine' But.trans ?a ?b); (case b => assumption); (case a => walk_at "but"))
  | ((with_reducible refine' But.trans ?a (Same.but ?b)); (case b => assumption); (case a => walk_at "but"))
  | ((with_reducible refine' but_via ?a ?b ?c); (case b => assumption); (case c => walk_at "fr"); (case a => walk_at "but")))
local macro_rules | `(tactic| walk_at "same") => `(tactic| first
  | assumption
  | exact Same.refl _
  | ((with_reducible refine' Same.trans ?a ?b); (case b => assumption); (case a => walk_at "same"))
  | ((with_reducible refine' same_but ?a ?b ?c); (case b => assumption); (case c => walk_at "fr"); (case a => walk_at "same")))
local macro_rules | `(tactic| walk_at "tk") => `(tactic| first
  | ((with_reducible refine' sqT_pl ?s ?t ?k); (case s => assumption); (case t => walk_at "pl0"); (case k => walk_at "tk"))
  | ((with_reducible refine' rp_same ?s ?k); (case s => assumption); (case k => walk_at "tk"))
  | ((with_reducible refine' rp_pl ?s ?t ?k); (case s => assumption); (case t => walk_at "pl0"); (case k => walk_at "tk")))
local macro_rules | `(tactic| walk_at "it") => `(tactic| first
  | assumption
  | ((with_reducible refine' sqI_1 ?k); (case k => assumption))
  | ((with_reducible refine' sqI_0 ?k); (case k => assumption))
  | ((with_reducible refine' sqI_of ?k); (case k => assumption))
  | ((with_reducible refine' sqI_D ?k); (case k => assumption))
  | ((with_reducible refine' sqT_same ?s ?k); (case s => assumption); (case k => walk_at "it"))
  | ((with_reducible refine' sqT_but ?s ?t ?k); (case s => assumption); (case t => assumption); (case k => walk_at "it"))
  | ((with_reducible refine' sqT_pl ?s ?t ?k); (case s => assumption); (case t => walk_at "pl0"); (case k => walk_at "it")))
local macro_rules | `(tactic| walk_at "sz") => `(tactic| first | omega | ((try simp only [List.length_cons, List.length_nil] at *); omega))
local macro_rules | `(tactic| walk_at "au1") => `(tactic| first
  | walk_at "rd1"
  | ((with_reducible refine' r_draw ?k0 ?k1 ?k2 ?_); (case k0 => walk_at "pl"); (case k1 => omega); (case k2 => omega); (intro _ _ _ _ _ _))
  | ((with_reducible refine' r_slN ?k0 ?_); (case k0 => walk_at "it"); (intro _ _ _ _ _ _))
  | ((with_reducible refine' r_catN ?k0 ?k1 ?k2 ?_); (case k0 => walk_at "it"); (case k1 => walk_at "it"); (case k2 => walk_at "sz"); (intro _ _ _ _ _ _))
  | ((with_reducible refine' r_pow ?k0 ?_); (case k0 => exact ⟨by decide, by decide, by decide⟩))
  | ((with_reducible refine' r_ixI ?k0 ?k1 ?k2 ?_); (case k0 => walk_at "it"); (case k1 => omega); (case k2 => omega); (intro _ _))
  | ((with_reducible refine' r_setI ?k0 ?k1 ?k2 ?_); (case k0 => walk_at "tk"); (case k1 => omega); (case k2 => omega); (intro _ _ _ _ _))
  | ((with_reducible refine' r_kTupI ?k0 ?_); (case k0 => walk_at "tk"); (intro _ _ _ _ _))
  | ((with_reducible refine' r_listI ?k0 ?_); (case k0 => walk_at "it"); (intro _ _ _ _ _))
  | (with_reducible refine r_revU ?_)
  | ((with_reducible refine' r_prevN ?k0 ?_); (case k0 => walk_at "it"); (intro _ _ _ _ _ _))
  | (intro _ _ _ _ _))
local macro_rules | `(tactic| walk_at "go") => `(tactic| ((repeat (walk_at "au1")); (first
  | ((with_reducible refine r_ite (fun _ => ?_) (fun _ => ?_)) <;> (walk_at "go"))
  | ((with_reducible refine r_iteN (fun _ => ?_) (fun _ => ?_)) <;> (walk_at "go"))
  | dsimp only
  | skip)))
local macro_rules | `(tactic| walk_at "au1") => `(tactic| first
  | with_reducible refine r_revS ?_
  | ((with_reducible refine' r_prevSN ?k0 ?_); (case k0 => walk_at "sz"); (intro _ _))
  | ((with_reducible refine' r_slSN ?k0 ?_); (case k0 => walk_at "sz"); (intro _ _))
  | ((with_reducible refine' r_catSN ?k0 ?_); (case k0 => walk_at "sz"); (intro _ _))
  | ((with_reducible refine' r_lenSS ?k0 ?_); (case k0 => walk_at "sz")))
local macro_rules | `(tactic| walk_at "skp") => `(tactic| ((refine r_iteM (by decide) ?_); (walk_at "rd")))
/-- data of which the tuple, if it is one, is known to have no dict -/
def Val (K : PySem.W.Frag) (H : Hp) (v : V) (d : Dat) : Prop := Rp K H v d ∧ (∀ a, v = .ref a → NoD H a) ∧ (∀ ds, d = .tup ds → ∀ e ∈ ds, ∀ b, e ≠ .bl b)
def sp_law_bent (K : PySem.W.Frag) : Sp := fun vs H Q _ => ∃ (p : Addr) (v : V), vs = [.ref p, v] ∧ Pl H p ∧ ((∃ i, v = .int i ∧ ∀ (j : Int) H', But p H H' → Pl H' p → Q (.int j) H') ∨ ∃ (a : Addr) (r : List Int), v = .ref a ∧ SqT K H a (r.map V.int) ∧ NoD H a ∧ 1 ≤ r.length ∧ r.length ≤ 100 ∧
  ∀ b H' (ms : List Int), But p H H' → Pl H' p → SqT K H' b (ms.map V.int) → NoD H' b → ms.length ≤ 300 → Q (.ref b) H')
def sp_law_sign (K : PySem.W.Frag) : Sp := fun vs H Q _ => ∃ (p : Addr), vs = [.ref p] ∧ Pl H p ∧ ∀ c H', But p H H' → Pl H' p → Q (.str (S [c])) H'
def sp_law_bent_text (K : PySem.W.Frag) : Sp := fun vs H Q _ => ∃ (p : Addr) (l : List Nat), vs = [.ref p, .str (S l)] ∧ Pl H p ∧ 1 ≤ l.length ∧ l.length ≤ 12 ∧ (∀ c ∈ l, c < 128) ∧ ∀ (z : List Nat) H', But p H H' → Pl H' p → z.length ≤ 6000 → Q (.str (S z)) H'
def sp_law_no_stage (K : PySem.W.Frag) : Sp := fun vs H Q _ => ∃ (p : Addr), vs = [.ref p] ∧ Pl H p ∧ ∀ s H', But p H H' → Pl H' p → Q (.int s) H'
def sp_law_value (K : PySem.W.Frag) : Sp := fun vs H Q _ => ∃ (p a : Addr) (r : List Int) (l : List Nat), vs = [.ref p, .ref a, .str (S l)] ∧ Pl H p ∧ SqT K H a (r.map V.int) ∧ NoD H a ∧ 1 ≤ r.length ∧ r.length ≤ 12 ∧ l.length = r.length ∧ ∀ v H' d, But p H H' → Pl H' p → Val K H' v d → Q v H'
def sp_law_row_by_count (K : PySem.W.Frag) : Sp := fun vs H Q _ => ∃ (v : V) (d : Dat), vs = [v] ∧ Val K H v d ∧ ∀ b : Bool, (b = true ↔ RowD d) → Q (.bl b) H
abbrev N_law_bent : List Str := ["pool", "part", "at", "other", "way", "turned"]
def t_law_bent (K : PySem.W.Frag) : TS :=
  tSeq (tIfS ((tTru K ((tCB (rIsi K) (tCons (tVar 1) (tCons ((tC (.ty "int"))) tNil)))))) ((tRet ((tOp (rIx K) ((tLst (tCons ((tOp (rAddF K) (tVar 1) ((tC (.int 1))))) (tCons ((tOp rSubU (tVar 1) ((tC (.int 1))))) (tCons ((tOp (rAddF K) (tVar 1) ((tC (.int 2))))) (tCons ((tC (.int 0))) tNil)))))) ((tCall (sp_law_draw K) [] E0 (tCons (tVar 0) (tCons ((tC (.int 4))) tNil)))))))) (tNext))
  (tSeq (tAsg ((tCall (sp_law_draw K) [] E0 (tCons (tVar 0) (tCons ((tCB (rLenU K) (tCons (tVar 1) tNil))) tNil)))) (gName 2))
  (tSeq (tAsg ((tCall (sp_law_draw K) [] E0 (tCons (tVar 0) (tCons ((tCB (rLenU K) (tCons (tVar 1) tNil))) tNil)))) (gName 3))
  (tSeq (tAsg ((tCall (sp_law_draw K) [] E0 (tCons (tVar 0) (tCons ((tC (.int 4))) tNil)))) (gName 4))
  (tSeq (tIfS ((tTest (tOp (rEqU K) (tVar 4) ((tC (.int 0)))))) ((tRet ((tOp (rAddF K) ((tSl (rSlF K) (tVar 1) tNoPart (tPart (tVar 2)))) ((tSl (rSlF K) (tVar 1) (tPart ((tOp (rAddF K) (tVar 2) ((tC (.int 1)))))) tNoPart)))))) (tNext))
  (tSeq (tIfS ((tTest (tOp (rEqU K) (tVar 4) ((tC (.int 1)))))) ((tRet ((tOp (rAddF K) ((tSl (rSlF K) (tVar 1) tNoPart (tPart ((tOp (rAddF K) (tVar 2) ((tC (.int 1)))))))) ((tSl (rSlF K) (tVar 1) (tPart (tVar 2)) tNoPart)))))) (tNext))
  (tSeq (tIfS ((tTest (tOp (rEqU K) (tVar 4) ((tC (.int 2)))))) (tSeq (tAsg ((tCB (rListU K) (tCons (tVar 1) tNil))) (gName 5))
  (tSeq (tAsg ((tOp (rIx K) (tVar 1) (tVar 3))) (gSub (tVar 5) (tVar 2) rSetL))
  (tSeq (tAsg ((tOp (rIx K) (tVar 1) (tVar 2))) (gSub (tVar 5) (tVar 3) rSetL))
  ((tRet ((tThen (tVar 5) (kTupD K)))))))) (tNext))
  ((tRet ((tOp (rAddF K) (tVar 1) ((tTupF (tCons ((tCall (sp_law_draw K) [] E0 (tCons (tVar 0) (tCons ((tC (.int 3))) tNil)))) tNil)))))))))))))
abbrev N_law_sign : List Str := ["pool", "signs"]
def t_law_sign (K : PySem.W.Frag) : TS :=
  tSeq (tIfS ((tTest (tOp (rEqU K) ((tCall (sp_law_draw K) [] E0 (tCons (tVar 0) (tCons ((tC (.int 2))) tNil)))) ((tC (.int 0)))))) ((tRet ((tOp (rIx K) ((tC (.str "1234567890ETet. x"))) ((tCall (sp_law_draw K) [] E0 (tCons (tVar 0) (tCons ((tC (.int 17))) tNil)))))))) (tNext))
  (tSeq (tAsg ((tC (.str " !\"#$&'()*+,-./0123456789:;<=>?@ABCDEFGHIJKLMNOPQRSTUVWXYZ[\\]^_`"))) (gName 1))
  (tSeq (tAsg ((tOp (rAddU K) (tVar 1) ((tC (.str "abcdefghijklmnopqrstuvwxyz{|}~"))))) (gName 1))
  ((tRet ((tOp (rIx K) (tVar 1) ((tCall (sp_law_draw K) [] E0 (tCons (tVar 0) (tCons ((tC (.int 94))) tNil))))))))))
abbrev N_law_bent_text : List Str := ["pool", "text", "at", "to", "way", "size", "turned", "k"]
def t_law_bent_text (K : PySem.W.Frag) : TS :=
  tSeq (tAsg ((tCall (sp_law_draw K) [] E0 (tCons (tVar 0) (tCons ((tCB (rLenU K) (tCons (tVar 1) tNil))) tNil)))) (gName 2))
  (tSeq (tAsg ((tCall (sp_law_draw K) [] E0 (tCons (tVar 0) (tCons ((tCB (rLenU K) (tCons (tVar 1) tNil))) tNil)))) (gName 3))
  (tSeq (tAsg ((tCall (sp_law_draw K) [] E0 (tCons (tVar 0) (tCons ((tC (.int 12))) tNil)))) (gName 4))
  (tSeq (tIfS ((tTest (tOp (rEqU K) (tVar 4) ((tC (.int 0)))))) ((tRet ((tOp (rAddU K) ((tSl (rSlU K) (tVar 1) tNoPart (tPart (tVar 2)))) ((tSl (rSlU K) (tVar 1) (tPart ((tOp (rAddU K) (tVar 2) ((tC (.int 1)))))) tNoPart)))))) (tNext))
  (tSeq (tIfS ((tTest (tOp (rEqU K) (tVar 4) ((tC (.int 1)))))) ((tRet ((tOp (rAddU K) ((tOp (rAddU K) ((tSl (rSlU K) (tVar 1) tNoPart (tPart (tVar 3)))) ((tOp (rIx K) (tVar 1) (tVar 2))))) ((tSl (rSlU K) (tVar 1) (tPart (tVar 3)) tNoPart)))))) (tNext))
  (tSeq (tIfS ((tTest (tOp (rEqU K) (tVar 4) ((tC (.int 2)))))) ((tRet ((tOp (rAddU K) ((tOp (rAddU K) ((tSl (rSlU K) (tVar 1) tNoPart (tPart (tVar 2)))) ((tOp (rIx K) (tVar 1) (tVar 3))))) ((tSl (rSlU K) (tVar 1) (tPart ((tOp (rAddU K) (tVar 2) ((tC (.int 1)))))) tNoPart)))))) (tNext))
  (tSeq (tIfS ((tTest (tOp (rEqU K) (tVar 4) ((tC (.int 3)))))) ((tRet ((tOp (rAddU K) ((tOp (rAddU K) ((tSl (rSlU K) (tVar 1) tNoPart (tPart (tVar 2)))) ((tCall (sp_law_sign K) [] E0 (tCons (tVar 0) tNil))))) ((tSl (rSlU K) (tVar 1) (tPart ((tOp (rAddU K) (tVar 2) ((tC (.int 1)))))) tNoPart)))))) (tNext))
  (tSeq (tIfS ((tTest (tOp (rEqU K) (tVar 4) ((tC (.int 4)))))) ((tRet ((tOp (rAddU K) ((tOp (rAddU K) ((tSl (rSlU K) (tVar 1) tNoPart (tPart (tVar 2)))) ((tCall (sp_law_sign K) [] E0 (tCons (tVar 0) tNil))))) ((tSl (rSlU K) (tVar 1) (tPart (tVar 2)) tNoPart)))))) (tNext))
  (tSeq (tIfS ((tTest (tOp (rEqU K) (tVar 4) ((tC (.int 5)))))) ((tRet ((tOp (rAddU K) (tVar 1) ((tCall (sp_law_sign K) [] E0 (tCons (tVar 0) tNil))))))) (tNext))
  (tSeq (tIfS ((tOr ((tTest (tOp (rEqU K) (tVar 4) ((tC (.int 6)))))) ((tTest (tOp (rEqU K) (tVar 4) ((tC (.int 9)))))))) ((tRet ((tBM0 K "str" rLower (tVar 1))))) (tNext))
  (tSeq (tIfS ((tTest (tOp (rEqU K) (tVar 4) ((tC (.int 7)))))) (tSeq (tAsg ((tCall (sp_law_draw K) [] E0 (tCons (tVar 0) (tCons ((tC (.int 15))) tNil)))) (gName 5))
  (tSeq (tIfS ((tTest (tOp (rEqU K) ((tCall (sp_law_draw K) [] E0 (tCons (tVar 0) (tCons ((tC (.int 6))) tNil)))) ((tC (.int 0)))))) ((tAsg ((tCall (sp_law_draw K) [] E0 (tCons (tVar 0) (tCons ((tC (.int 5001))) tNil)))) (gName 5))) (tNext))
  ((tRet ((tBM K "str" (rJoin K) ((tC (.str ""))) (tCons ((tLc ((iRng1 (tCons (tVar 5) tNil))) ((gName 7)) (tYes) ((tCall (sp_law_sign K) [] E0 (tCons (tVar 0) tNil))) [7])) tNil))))))) (tNext))
  (tSeq (tIfS ((tTest (tOp (rEqU K) (tVar 4) ((tC (.int 8)))))) (tSeq (tAsg ((tCB rListTx (tCons (tVar 1) tNil))) (gName 6))
  (tSeq (tAsg ((tOp (rIx K) (tVar 1) (tVar 3))) (gSub (tVar 6) (tVar 2) rSetL))
  (tSeq (tAsg ((tOp (rIx K) (tVar 1) (tVar 2))) (gSub (tVar 6) (tVar 3) rSetL))
  ((tRet ((tBM K "str" (rJoin K) ((tC (.str ""))) (tCons (tVar 6) tNil)))))))) (tNext))
  ((tRet (tVar 1))))))))))))))
abbrev N_law_no_stage : List Str := ["pool", "far"]
def t_law_no_stage (K : PySem.W.Frag) : TS :=
  tSeq (tAsg ((tOp (rAddU K) ((tOp (rMulU K) ((tCall (sp_law_draw K) [] E0 (tCons (tVar 0) (tCons ((tOp rPowU ((tC (.int 10))) ((tC (.int 9))))) tNil)))) ((tOp rPowU ((tC (.int 10))) ((tC (.int 12))))))) ((tCall (sp_law_draw K) [] E0 (tCons (tVar 0) (tCons ((tOp rPowU ((tC (.int 10))) ((tC (.int 12))))) tNil)))))) (gName 1))
  ((tRet ((tOp (rIx K) ((tLst (tCons ((tC (.int 0))) (tCons ((tC (.int 13))) (tCons ((tUn (rU fun i => .int (-i)) (tVar 1))) (tCons ((tOp (rAddU K) ((tC (.int 13))) (tVar 1))) tNil)))))) ((tCall (sp_law_draw K) [] E0 (tCons (tVar 0) (tCons ((tC (.int 4))) tNil))))))))
abbrev N_law_value : List Str := ["pool", "row", "text", "at", "to", "way", "other", "k"]
def t_law_value (K : PySem.W.Frag) : TS :=
  tSeq (tAsg ((tCall (sp_law_draw K) [] E0 (tCons (tVar 0) (tCons ((tCB (rLenU K) (tCons (tVar 1) tNil))) tNil)))) (gName 3))
  (tSeq (tAsg ((tCall (sp_law_draw K) [] E0 (tCons (tVar 0) (tCons ((tCB (rLenU K) (tCons (tVar 1) tNil))) tNil)))) (gName 4))
  (tSeq (tAsg ((tCall (sp_law_draw K) [] E0 (tCons (tVar 0) (tCons ((tC (.int 11))) tNil)))) (gName 5))
  (tSeq (tIfS ((tTest (tOp (rLtU K) (tVar 5) ((tC (.int 2)))))) ((tRet ((tCall (sp_law_bent K) [] E0 (tCons (tVar 0) (tCons (tVar 1) tNil)))))) (tNext))
  (tSeq (tAsg ((tCB (rListU K) (tCons (tVar 1) tNil))) (gName 6))
  (tSeq (tIfS ((tTest (tOp (rEqU K) (tVar 5) ((tC (.int 2)))))) ((tAsg ((tCall (sp_law_bent K) [] E0 (tCons (tVar 0) (tCons ((tOp (rIx K) (tVar 1) (tVar 3))) tNil)))) (gSub (tVar 6) (tVar 3) rSetL))) (tNext))
  (tSeq (tIfS ((tTest (tOp (rEqU K) (tVar 5) ((tC (.int 3)))))) (tSeq (tAsg ((tOp (rAddF K) ((tOp (rIx K) (tVar 6) (tVar 3))) ((tC (.int 1))))) (gSub (tVar 6) (tVar 3) rSetL))
  ((tAsg ((tOp rSubU ((tOp (rIx K) (tVar 6) (tVar 4))) ((tC (.int 1))))) (gSub (tVar 6) (tVar 4) rSetL)))) (tNext))
  (tSeq (tIfS ((tTest (tOp (rEqU K) (tVar 5) ((tC (.int 4)))))) ((tAsg ((tOp (rIx K) (tVar 2) (tVar 3))) (gSub (tVar 6) (tVar 3) rSetL))) (tNext))
  (tSeq (tIfS ((tTest (tOp (rEqU K) (tVar 5) ((tC (.int 5)))))) ((tAsg (tVar 1) (gSub (tVar 6) (tVar 3) rSetL))) (tNext))
  (tSeq (tIfS ((tTest (tOp (rEqU K) (tVar 5) ((tC (.int 6)))))) ((tAsg ((tOp (rIx K) (tVar 1) (tVar 4))) (gSub (tVar 6) (tVar 3) rSetL))) (tNext))
  (tSeq (tIfS ((tTest (tOp (rEqU K) (tVar 5) ((tC (.int 7)))))) ((tDrop ((tBM K "list" rAppend (tVar 6) (tCons ((tOp (rAddF K) ((tCB (rLenU K) (tCons (tVar 1) tNil))) ((tC (.int 1))))) tNil))))) (tNext))
  (tSeq (tIfS ((tTest (tOp (rEqU K) (tVar 5) ((tC (.int 8)))))) ((tAsg ((tLstRg (tRg2 ((tC (.int 1))) ((tOp (rAddF K) ((tC (.int 1))) ((tCall (sp_law_draw K) [] E0 (tCons (tVar 0) (tCons ((tC (.int 15))) tNil))))))))) (gName 6))) (tNext))
  (tSeq (tIfS ((tTest (tOp (rEqU K) (tVar 5) ((tC (.int 9)))))) ((tAsg (tLc ((iRng1 (tCons ((tCall (sp_law_draw K) [] E0 (tCons (tVar 0) (tCons ((tC (.int 14))) tNil)))) tNil))) ((gName 7)) (tYes) ((tOp rSubU ((tCall (sp_law_draw K) [] E0 (tCons (tVar 0) (tCons ((tC (.int 15))) tNil)))) ((tC (.int 1))))) [7]) (gName 6))) (tNext))
  (tSeq (tIfS ((tTest (tOp (rEqU K) (tVar 5) ((tC (.int 10)))))) ((tRet ((tOp (rIx K) ((tLst (tCons (tVar 2) (tCons ((tOp (rIx K) (tVar 1) (tVar 3))) (tCons ((tTupF (tCons (tVar 1) tNil))) (tCons ((tTupF tNil)) tNil)))))) ((tCall (sp_law_draw K) [] E0 (tCons (tVar 0) (tCons ((tC (.int 4))) tNil)))))))) (tNext))
  ((tRet ((tThen (tVar 6) (kTupD K))))))))))))))))))
abbrev N_law_row_by_count : List Str := ["value", "bell"]
def t_law_row_by_count (K : PySem.W.Frag) : TS :=
  tSeq (tIfS ((tOr ((tNot ((tTru K ((tCB (rIsi K) (tCons (tVar 0) (tCons ((tC (.ty "tuple"))) tNil)))))))) ((tOr ((tTest (tOp (rLtU K) ((tCB (rLenU K) (tCons (tVar 0) tNil))) ((tC (.int 1)))))) ((tTest (tOp rGtU ((tCB (rLenU K) (tCons (tVar 0) tNil))) ((tC (.int 12)))))))))) ((tRet ((tC (.bl false))))) (tNext))
  (tSeq (tFor (iRng2 (tCons ((tC (.int 1))) (tCons ((tOp (rAddU K) ((tCB (rLenU K) (tCons (tVar 0) tNil))) ((tC (.int 1))))) tNil))) (gName 1) ((tIfS ((tTest (tOp (rNeU K) ((tBMT K (rCntP K) (tVar 0) (tCons (tVar 1) tNil))) ((tC (.int 1)))))) ((tRet ((tC (.bl false))))) (tNext))))
  ((tRet ((tC (.bl true))))))
section
variable {K : PySem.W.Frag} {ec : Str → Addr} {vs : List V} {H H' : Hp} {Q : VK} {E : XK} {a b p : Addr} {xs ys : List V} {lo hi : Option Int} {m n : Int} {σ : L2.St}
theorem len_law_bent (h : sp_law_bent K vs H Q E) : vs.length = 2 := by obtain ⟨p, v, rfl, _⟩ := h; rfl
theorem len_law_sign (h : sp_law_sign K vs H Q E) : vs.length = 1 := by obtain ⟨p, rfl, _⟩ := h; rfl
theorem len_law_bent_text (h : sp_law_bent_text K vs H Q E) : vs.length = 2 := by obtain ⟨p, l, rfl, _⟩ := h; rfl
theorem len_law_no_stage (h : sp_law_no_stage K vs H Q E) : vs.length = 1 := by obtain ⟨p, rfl, _⟩ := h; rfl
theorem len_law_value (h : sp_law_value K vs H Q E) : vs.length = 3 := by obtain ⟨p, a, r, l, rfl, _⟩ := h; rfl
theorem len_law_row_by_count (h : sp_law_row_by_count K vs H Q E) : vs.length = 1 := by obtain ⟨v, d, rfl, _⟩ := h; rfl
theorem r_ixIL {ns : List Int} (h : H a = some (.lst (ns.map V.int))) (h0 : 0 ≤ m) (h1 : m < (ns.length : Int)) (q : ∀ i, i ∈ ns → Q (.int i) H) : rIx K (.ref a) (.int m) H Q := by
  obtain ⟨v, e, hv⟩ := atI_ints h0 h1
  exact r_ixL (sqL_of h) e (q v (List.mem_of_getElem? hv))
theorem noD_pl (b : But p H H') (hp : Pl H p) (h : NoD H a) : NoD H' a := by
  obtain ⟨o, u, e, d⟩ := h
  obtain ⟨x, y, z, e2⟩ := hp
  exact ⟨o, u, b _ _ (ne_of e e2 (by intro z; cases z)) e, d⟩
theorem r_addFI (q : Q (.int (m + n)) H) : rAddF K (.int m) (.int n) H Q := .inl ⟨m, n, rfl, rfl, q⟩
theorem r_pnf (k : ∀ p H', Same H H' → SqT K H' p xs → NoD H' p → Q (.ref p) H') : PNF H xs Q := fun p o hp ho =>
  k p _ (same_new hp) (.inl (.inr ⟨o, upd_same⟩)) ⟨o, _, upd_same, ho⟩
theorem r_catF (h1 : SqT K H a xs) (n1 : NoD H a) (h2 : SqT K H b ys) (n2 : NoD H b) (hz : xs.length + ys.length ≤ 100000) (q : ∀ p H', Same H H' → SqT K H' p (xs ++ ys) → NoD H' p → Q (.ref p) H') : rAddF K (.ref a) (.ref b) H Q := by
  refine .inr ⟨a, b, xs, ys, rfl, rfl, h1, h2, by rw [sizeLine_eq]; omega, fun e => ?_, fun _ e => ?_, fun _ _ => r_pnf q⟩
  · exact q b H (Same.refl _) (by rw [e]; exact h2) n2
  · exact q a H (Same.refl _) (by rw [e, List.append_nil]; exact h1) n1
theorem cutV_A (xs : List V) : cutV xs lo hi = cutA xs lo hi := rfl
theorem r_slF (h : SqT K H a xs) (n1 : NoD H a) (q : ∀ p H', Same H H' → SqT K H' p (cutA xs lo hi) → NoD H' p → Q (.ref p) H') : rSlF K (.ref a) lo hi H Q :=
  ⟨a, xs, rfl, h, fun z => q a H (Same.refl _) (by rw [cutA_whole z]; exact h) n1, fun _ => by rw [cutV_A]; exact r_pnf q⟩
theorem cutA_map {α β : Type} (f : α → β) (ns : List α) : cutA (ns.map f) lo hi = (cutA ns lo hi).map f := by
  unfold cutA
  rw [List.length_map, List.map_take, List.map_drop]
theorem r_tupF {ts : TA} (h : ts σ H fun xs H1 => xs.length ≤ sizeLine ∧ PNF H1 xs Q) : tTupF ts σ H Q := h
theorem pure_law_sign (h : sp_law_sign K vs H Q E) : t_law_sign K (En Q) (start N_law_sign vs) H := by
  obtain ⟨p, rfl, hp, q⟩ := h
  unfold t_law_sign
  walk_at "rd"
  refine r_draw hp (by omega) (by omega) fun v H1 v0 v1 b1 hp1 => ?_
  walk_at "rd"
  refine r_ite (fun h0 => ?_) (fun h0 => ?_)
  · walk_at "rd"
    refine r_draw hp1 (by omega) (by omega) fun w H2 w0 w1 b2 hp2 => ?_
    refine r_ixC (k := 17) (by decide) (by decide) w0 w1 fun c => ?_
    exact q c H2 (b1.trans b2) hp2
  · walk_at "rd"
    refine r_addS (by decide) ?_
    walk_at "rd"
    refine r_draw hp1 (by omega) (by omega) fun w H2 w0 w1 b2 hp2 => ?_
    refine r_ixC (k := 94) (by decide +kernel) (by decide) w0 w1 fun c => ?_
    exact q c H2 (b1.trans b2) hp2
theorem pure_law_no_stage (h : sp_law_no_stage K vs H Q E) : t_law_no_stage K (En Q) (start N_law_no_stage vs) H := by
  obtain ⟨p, rfl, hp, q⟩ := h
  unfold t_law_no_stage
  have p9 : (10 : Int) ^ (9 : Int).toNat = 1000000000 := by decide
  have p12 : (10 : Int) ^ (12 : Int).toNat = 1000000000000 := by decide
  walk_at "rd"
  refine r_pow ⟨by decide, by decide, by decide⟩ ?_
  rw [p9]
  walk_at "rd"
  refine r_draw hp (by omega) (by omega) fun f1 H1 f10 f11 b1 hp1 => ?_
  walk_at "rd"
  refine r_pow ⟨by decide, by decide, by decide⟩ ?_
  rw [p12]
  walk_at "rd"
  refine r_pow ⟨by decide, by decide, by decide⟩ ?_
  rw [p12]
  walk_at "rd"
  refine r_draw hp1 (by omega) (by omega) fun f2 H2 f20 f21 b2 hp2 => ?_
  walk_at "rd"
  intro l H3 nl s3 e3
  have hp3 := pl_same s3 hp2
  walk_at "rd"
  refine r_draw hp3 (by omega) (by omega) fun w H4 w0 w1 b4 hp4 => ?_
  have e4 := b4 _ _ (ne_pl nl hp2) e3
  refine r_ixL (sqL_of e4) (v := .int ((([0, 13, -(f1 * 1000000000000 + f2), 13 + (f1 * 1000000000000 + f2)] : List Int).getD w.toNat 0))) ?_ ?_
  · have : w = 0 ∨ w = 1 ∨ w = 2 ∨ w = 3 := by omega
    rcases this with rfl | rfl | rfl | rfl <;> rfl
  · exact q _ H4 (((b1.trans b2).trans (Same.but s3)).trans b4) hp4
theorem pure_law_bent (h : sp_law_bent K vs H Q E) : t_law_bent K (En Q) (start N_law_bent vs) H := by
  obtain ⟨p, v, rfl, hp, alt⟩ := h
  unfold t_law_bent
  rcases alt with ⟨i, rfl, q⟩ | ⟨a, r, rfl, ha, nd, l1, l2, q⟩
  · walk_at "rd"
    refine r_addFI ?_
    walk_at "rd"
    refine r_addFI ?_
    walk_at "rd"
    intro l H1 nl s1 e1
    have hp1 := pl_same s1 hp
    walk_at "rd"
    refine r_draw hp1 (by omega) (by omega) fun w H2 w0 w1 b2 hp2 => ?_
    have e2 := b2 _ _ (ne_pl nl hp) e1
    refine r_ixL (sqL_of e2) (v := .int ((([i + 1, i - 1, i + 2, 0] : List Int).getD w.toNat 0))) ?_ ?_
    · have : w = 0 ∨ w = 1 ∨ w = 2 ∨ w = 3 := by omega
      rcases this with rfl | rfl | rfl | rfl <;> rfl
    · exact q _ H2 ((Same.but s1).trans b2) hp2
  · have hm : (r.map V.int).length = r.length := List.length_map ..
    walk_at "rd"
    refine r_draw hp (by omega) (by omega) fun at' H1 a0 a1 b1 hp1 => ?_
    have ha1 := sqT_pl b1 hp ha
    have nd1 := noD_pl b1 hp nd
    walk_at "rd"
    refine r_draw hp1 (by omega) (by omega) fun ot H2 o0 o1 b2 hp2 => ?_
    have ha2 := sqT_pl b2 hp1 ha1
    have nd2 := noD_pl b2 hp1 nd1
    walk_at "rd"
    refine r_draw hp2 (by omega) (by omega) fun w H3 w0 w1 b3 hp3 => ?_
    have ha3 := sqT_pl b3 hp2 ha2
    have nd3 := noD_pl b3 hp2 nd2
    have b13 := (b1.trans b2).trans b3
    have fin : ∀ (lo1 hi1 lo2 hi2 : Option Int) (u w' : Addr) (H5 : Hp), Same H3 H5 → SqT K H5 u (cutA (r.map V.int) lo1 hi1) → NoD H5 u → SqT K H5 w' (cutA (r.map V.int) lo2 hi2) → NoD H5 w' → rAddF K (.ref u) (.ref w') H5 Q := fun lo1 hi1 lo2 hi2 u w' H5 s5 hu nu hw nw => by
      have z1 := cutA_len (lo := lo1) (hi := hi1) (r.map V.int)
      have z2 := cutA_len (lo := lo2) (hi := hi2) (r.map V.int)
      refine r_catF hu nu hw nw (by omega) fun q1 H6 s6 hq nq => ?_
      have y1 := cutA_len (lo := lo1) (hi := hi1) r
      have y2 := cutA_len (lo := lo2) (hi := hi2) r
      exact q q1 H6 (cutA r lo1 hi1 ++ cutA r lo2 hi2) (b13.trans (Same.but (s5.trans s6))) (pl_same (s5.trans s6) hp3) (by rw [List.map_append, ← cutA_map, ← cutA_map]; exact hq) nq (by rw [List.length_append]; omega)
    walk_at "rd"
    refine r_ite (fun h0 => ?_) (fun h0 => ?_)
    · walk_at "rd"
      refine r_slF ha3 nd3 fun u H4 s4 hu nu => ?_
      have ha4 := sqT_same s4 ha3
      have nd4 := noD_same s4 nd3
      walk_at "rd"
      refine r_addFI ?_
      walk_at "rd"
      refine r_slF ha4 nd4 fun w' H5 s5 hw nw => ?_
      exact fin _ _ _ _ u w' H5 (s4.trans s5) (sqT_same s5 hu) (noD_same s5 nu) hw nw
    walk_at "rd"
    refine r_ite (fun h1 => ?_) (fun h1 => ?_)
    · walk_at "rd"
      refine r_addFI ?_
      walk_at "rd"
      refine r_slF ha3 nd3 fun u H4 s4 hu nu => ?_
      have ha4 := sqT_same s4 ha3
      have nd4 := noD_same s4 nd3
      walk_at "rd"
      refine r_slF ha4 nd4 fun w' H5 s5 hw nw => ?_
      exact fin _ _ _ _ u w' H5 (s4.trans s5) (sqT_same s5 hu) (noD_same s5 nu) hw nw
    walk_at "rd"
    refine r_ite (fun h2 => ?_) (fun h2 => ?_)
    · walk_at "rd"
      intro l H4 nl s4 e4
      have ha4 := sqT_same s4 ha3
      walk_at "rd"
      refine r_ixI ha4 o0 (by omega) fun x1 hx1 => ?_
      walk_at "rd"
      refine r_setI e4 a0 (by omega) fun H5 ns5 b5 e5 l5 => ?_
      have ha5 := sqT_but b5 e4 ha4
      walk_at "rd"
      refine r_ixI ha5 a0 (by omega) fun x2 hx2 => ?_
      walk_at "rd"
      refine r_setI e5 o0 (by omega) fun H6 ns6 b6 e6 l6 => ?_
      walk_at "rd"
      intro t H7 nt s7 e7
      have s36 : Same H3 H6 := same_but (same_but s4 b5 nl) b6 nl
      exact q t H7 ns6 (b13.trans (Same.but (s36.trans s7))) (pl_same (s36.trans s7) hp3) (sqT_ofD e7) (noD_of e7) (by omega)
    · walk_at "rd"
      refine r_tupF ?_
      walk_at "rd"
      refine r_draw hp3 (by omega) (by omega) fun x H4 x0 x1 b4 hp4 => ?_
      refine ⟨by rw [sizeLine_eq]; simp, r_pnf (K := K) fun u H5 s5 hu nu => ?_⟩
      have ha5 := sqT_same s5 (sqT_pl b4 hp3 ha3)
      have nd5 := noD_same s5 (noD_pl b4 hp3 nd3)
      refine r_catF ha5 nd5 hu nu (by simp; omega) fun q1 H6 s6 hq nq => ?_
      exact q q1 H6 (r ++ [x]) ((b13.trans b4).trans (Same.but (s5.trans s6))) (pl_same (s5.trans s6) hp4) (by rw [List.map_append]; exact hq) nq (by rw [List.length_append]; simp; omega)
theorem pure_law_bent_text (h : sp_law_bent_text K vs H Q E) : t_law_bent_text K (En Q) (start N_law_bent_text vs) H := by
  obtain ⟨p, l, rfl, hp, l1, l2, asc, q⟩ := h
  unfold t_law_bent_text
  walk_at "rd"
  refine r_lenSS (by omega) ?_
  walk_at "rd"
  refine r_draw hp (by omega) (by omega) fun at' H1 a0 a1 b1 hp1 => ?_
  walk_at "rd"
  refine r_lenSS (by omega) ?_
  walk_at "rd"
  refine r_draw hp1 (by omega) (by omega) fun to H2 o0 o1 b2 hp2 => ?_
  walk_at "rd"
  refine r_draw hp2 (by omega) (by omega) fun w H3 w0 w1 b3 hp3 => ?_
  have b13 := (b1.trans b2).trans b3
  walk_at "rd"
  refine r_ite (fun h0 => ?_) (fun h0 => ?_)
  · walk_at "rd"
    refine r_slSN (by omega) fun x1 l1 => ?_
    walk_at "rd"
    refine r_slSN (by omega) fun x2 l2 => ?_
    refine r_catSN (by omega) fun x3 l3 => ?_
    exact q x3 H3 b13 hp3 (by omega)
  walk_at "rd"
  refine r_ite (fun h1 => ?_) (fun h1 => ?_)
  · walk_at "rd"
    refine r_slSN (by omega) fun x1 l1 => ?_
    walk_at "rd"
    refine r_ixSN (by omega) a0 a1 fun c hc => ?_
    refine r_catSN (by simp; omega) fun x2 l2 => ?_
    have l2' : x2.length = x1.length + 1 := l2
    walk_at "rd"
    refine r_slSN (by omega) fun x3 l3 => ?_
    refine r_catSN (by omega) fun x4 l4 => ?_
    exact q x4 H3 b13 hp3 (by omega)
  walk_at "rd"
  refine r_ite (fun h2 => ?_) (fun h2 => ?_)
  · walk_at "rd"
    refine r_slSN (by omega) fun x1 l1 => ?_
    walk_at "rd"
    refine r_ixSN (by omega) o0 o1 fun c hc => ?_
    refine r_catSN (by simp; omega) fun x2 l2 => ?_
    have l2' : x2.length = x1.length + 1 := l2
    walk_at "rd"
    refine r_slSN (by omega) fun x3 l3 => ?_
    refine r_catSN (by omega) fun x4 l4 => ?_
    exact q x4 H3 b13 hp3 (by omega)
  walk_at "rd"
  refine r_ite (fun h3 => ?_) (fun h3 => ?_)
  · walk_at "rd"
    refine r_slSN (by omega) fun x1 l1 => ?_
    walk_at "rd"
    refine ⟨p, rfl, hp3, fun c H4 b4 hp4 => ?_⟩
    refine r_catSN (by simp; omega) fun x2 l2 => ?_
    have l2' : x2.length = x1.length + 1 := l2
    walk_at "rd"
    refine r_slSN (by omega) fun x3 l3 => ?_
    refine r_catSN (by omega) fun x4 l4 => ?_
    exact q x4 H4 (b13.trans b4) hp4 (by omega)
  walk_at "rd"
  refine r_ite (fun h4 => ?_) (fun h4 => ?_)
  · walk_at "rd"
    refine r_slSN (by omega) fun x1 l1 => ?_
    walk_at "rd"
    refine ⟨p, rfl, hp3, fun c H4 b4 hp4 => ?_⟩
    refine r_catSN (by simp; omega) fun x2 l2 => ?_
    have l2' : x2.length = x1.length + 1 := l2
    walk_at "rd"
    refine r_slSN (by omega) fun x3 l3 => ?_
    refine r_catSN (by omega) fun x4 l4 => ?_
    exact q x4 H4 (b13.trans b4) hp4 (by omega)
  walk_at "rd"
  refine r_ite (fun h5 => ?_) (fun h5 => ?_)
  · walk_at "rd"
    refine ⟨p, rfl, hp3, fun c H4 b4 hp4 => ?_⟩
    refine r_catSN (by simp; omega) fun x2 l2 => ?_
    have l2' : x2.length = l.length + 1 := l2
    exact q x2 H4 (b13.trans b4) hp4 (by omega)
  have low : rLower (.str (S l)) [] H3 Q := by
    refine ⟨S l, rfl, rfl, by rw [S_len]; omega, ?_⟩
    rw [lower_S (List.all_eq_true.mpr fun c hc => decide_eq_true (asc c hc))]
    exact q _ H3 b13 hp3 (by rw [List.length_map]; omega)
  walk_at "rd"
  refine r_ite (fun h6 => ?_) (fun h6 => ?_)
  · walk_at "rd"
    exact low
  walk_at "rd"
  refine r_ite (fun h9 => ?_) (fun h9 => ?_)
  · walk_at "rd"
    exact low
  walk_at "rd"
  refine r_ite (fun h7 => ?_) (fun h7 => ?_)
  · walk_at "rd"
    refine r_draw hp3 (by omega) (by omega) fun z H4 z0 z1 b4 hp4 => ?_
    walk_at "rd"
    refine r_draw hp4 (by omega) (by omega) fun y H5 y0 y1 b5 hp5 => ?_
    have fin : ∀ (z : Int) (H6 : Hp), 0 ≤ z → z ≤ 5001 → But p H H6 → Pl H6 p → ∀ z6 z7 : Option V, tRet ((tBM K "str" (rJoin K) ((tC (.str ""))) (tCons ((tLc ((iRng1 (tCons (tVar 5) tNil))) ((gName 7)) (tYes) ((tCall (sp_law_sign K) [] E0 (tCons (tVar 0) tNil))) [7])) tNil))) (En Q) [some (.ref p), some (.str (S l)), some (.int at'), some (.int to), some (.int w), some (.int z), z6, z7] H6 := fun z H6 z0 z1 b6 hp6 z6 z7 => by
      walk_at "rd"
      refine r_lcDrS hp6 (by omega) (fun x H7 Q' b7 hp7 k => ?_) fun q1 H7 ms nq b7 hp7 e7 hl7 => ?_
      · walk_at "rd"
        exact ⟨p, rfl, hp7, fun c H8 b8 hp8 => k c H8 b8 hp8⟩
      · walk_at "rd"
        exact join_ones e7 (by omega) (q ms H7 (b6.trans b7) hp7 (by omega))
    walk_at "rd"
    refine r_ite (fun hy => ?_) (fun hy => ?_)
    · walk_at "rd"
      refine r_draw hp5 (by omega) (by omega) fun y2 H6 y20 y21 b6 hp6 => ?_
      refine r_name ?_
      exact fin y2 H6 y20 (by omega) (((b13.trans b4).trans b5).trans b6) hp6 _ _
    · refine r_next ?_
      exact fin z H5 z0 (by omega) ((b13.trans b4).trans b5) hp5 _ _
  walk_at "rd"
  refine r_ite (fun h8 => ?_) (fun h8 => ?_)
  · walk_at "rd"
    refine r_listTx (by omega) fun t H4 nt s4 e4 => ?_
    walk_at "rd"
    refine r_ixSN (by omega) o0 o1 fun c hc => ?_
    walk_at "rd"
    refine r_setL (k := at'.toNat) e4 ?_ fun H5 b5 e5 => ?_
    · rw [List.length_map]
      have := ixN_n (n := l.length) (k := at'.toNat) (by omega)
      rw [show ((at'.toNat : Nat) : Int) = at' by omega] at this
      exact this
    rw [show (l.map fun c => V.str (S [c])).set at'.toNat (.str (S [c])) = (l.set at'.toNat c).map fun c => V.str (S [c]) from (List.map_set ..).symm] at e5
    walk_at "rd"
    refine r_ixSN (by omega) a0 a1 fun c2 hc2 => ?_
    walk_at "rd"
    refine r_setL (k := to.toNat) e5 ?_ fun H6 b6 e6 => ?_
    · rw [List.length_map, List.length_set]
      have := ixN_n (n := l.length) (k := to.toNat) (by omega)
      rw [show ((to.toNat : Nat) : Int) = to by omega] at this
      exact this
    rw [show ((l.set at'.toNat c).map fun c => V.str (S [c])).set to.toNat (.str (S [c2])) = ((l.set at'.toNat c).set to.toNat c2).map fun c => V.str (S [c]) from (List.map_set ..).symm] at e6
    have s36 : Same H3 H6 := same_but (same_but s4 b5 nt) b6 nt
    walk_at "rd"
    exact join_ones e6 (by rw [List.length_set, List.length_set]; omega) (q _ H6 (b13.trans (Same.but s36)) (pl_same s36 hp3) (by rw [List.length_set, List.length_set]; omega))
  · walk_at "rd"
    exact q l H3 b13 hp3 (by omega)
mutual
def pyD : Dat → PyData
  | .int i => .int i
  | .bl b => .bool b
  | .str z => .str z
  | .non => .none
  | .tup ds => .tuple (pyDs ds)
def pyDs : List Dat → List PyData
  | [] => []
  | d :: ds => pyD d :: pyDs ds
end
mutual
theorem dp_of : ∀ {v : V} {d : Dat}, Rp K H v d → Dp K H v (pyD d)
  | _, _, .int i => by rw [pyD]; exact .int i
  | _, _, .bl b => by rw [pyD]; exact .bl b
  | _, _, .str z => by rw [pyD]; exact .str z
  | _, _, .non => by rw [pyD]; exact .non
  | _, _, .tup h t => by rw [pyD]; exact .tup h (dpAll_of t)
theorem dpAll_of : ∀ {vs : List V} {ds : List Dat}, RpL K H vs ds → DpAll K H vs (pyDs ds)
  | _, _, .nil => by rw [pyDs]; exact .nil
  | _, _, .cons r t => by rw [pyDs]; exact .cons (dp_of r) (dpAll_of t)
end
mutual
theorem plain_of : ∀ d : Dat, (pyD d).plain = true
  | .int i => by rw [pyD]; rfl
  | .bl b => by rw [pyD]; rfl
  | .str z => by rw [pyD]; rfl
  | .non => by rw [pyD]; rfl
  | .tup ds => by rw [pyD, PyData.plain]; exact plainAll_of ds
theorem plainAll_of : ∀ ds : List Dat, PyData.plainAll (pyDs ds) = true
  | [] => by rw [pyDs]; rfl
  | d :: ds => by rw [pyDs, PyData.plainAll, plain_of d, plainAll_of ds]; rfl
end
/-- the whole number b -/
def isI (b : Int) : Dat → Bool | .int i => decide (i = b) | _ => false
theorem eqv_isI {b : Int} : ∀ {d : Dat}, (∀ k, d ≠ .bl k) → PyData.eqv (pyD d) (.int b) = isI b d
  | .int i, _ => by
    rw [pyD]
    show (i == b) = decide (i = b)
    by_cases h : i = b <;> simp [h]
  | .bl k, h => absurd rfl (h k)
  | .str z, _ => by rw [pyD]; simp [PyData.eqv, isI]
  | .non, _ => by rw [pyD]; simp [PyData.eqv, isI]
  | .tup ds, _ => by rw [pyD]; simp [PyData.eqv, isI]
theorem cnt_isI {b : Int} : ∀ {ds : List Dat}, (∀ e ∈ ds, ∀ k, e ≠ .bl k) → (pyDs ds).countP (fun z => PyData.eqv z (.int b)) = ds.countP (isI b)
  | [], _ => by rw [pyDs]; rfl
  | d :: ds, h => by
    rw [pyDs, List.countP_cons, List.countP_cons, cnt_isI fun e he => h e (by simp [he]), eqv_isI (h d (by simp))]
def getI : Dat → Option Int | .int i => some i | _ => none
theorem cnt_get (b : Int) : ∀ ds : List Dat, ds.countP (isI b) = (ds.filterMap getI).count b
  | [] => rfl
  | d :: ds => by
    rw [List.countP_cons, cnt_get b ds, List.filterMap_cons]
    cases d with
    | int i =>
      show _ = (i :: ds.filterMap getI).count b
      rw [List.count_cons]
      by_cases e : i = b <;> simp [isI, e]
    | bl _ => simp [isI, getI]
    | str _ => simp [isI, getI]
    | non => simp [isI, getI]
    | tup _ => simp [isI, getI]
theorem get_all : ∀ {ds : List Dat}, ds.length ≤ (ds.filterMap getI).length → ds = (ds.filterMap getI).map Dat.int
  | [], _ => rfl
  | d :: ds, h => by
    have hl := List.length_filterMap_le getI ds
    rw [List.filterMap_cons] at h ⊢
    cases d with
    | int i =>
      have h' : (Dat.int i :: ds).length ≤ (i :: ds.filterMap getI).length := h
      show Dat.int i :: ds = (i :: ds.filterMap getI).map Dat.int
      rw [List.map_cons, ← get_all (by simpa using h')]
    | bl _ => simp [getI] at h; omega
    | str _ => simp [getI] at h; omega
    | non => simp [getI] at h; omega
    | tup _ => simp [getI] at h; omega
theorem get_ints : ∀ ns : List Int, (ns.map Dat.int).filterMap getI = ns
  | [] => rfl
  | n :: ns => by
    rw [List.map_cons, List.filterMap_cons]
    show n :: (ns.map Dat.int).filterMap getI = _
    rw [get_ints ns]
theorem ints_of {ds : List Dat} : (∀ e ∈ ds, ∃ i : Int, e = .int i) → ds = (ds.map toI).map Dat.int := fun h => by
  rw [List.map_map]
  refine (List.map_congr_left (g := id) fun e he => ?_).trans (List.map_id ds) |>.symm
  obtain ⟨i, rfl⟩ := h e he
  rfl
theorem count_iff {ds : List Dat} (h1 : 1 ≤ ds.length) (h2 : ds.length ≤ 12) : RowD (.tup ds) ↔ ∀ k, k < ds.length → ds.countP (isI (1 + (k : Int))) = 1 := by
  constructor
  · rintro ⟨_, _, hi, nd⟩ k hk
    have e := ints_of fun e he => let ⟨i, z, _⟩ := hi e he; ⟨i, z⟩
    have hr : IsRow (ds.map toI) ds.length := ⟨List.length_map _, nd, fun x hx => by
      obtain ⟨d, hd, rfl⟩ := List.mem_map.mp hx
      obtain ⟨i, rfl, a, b⟩ := hi d hd
      exact ⟨a, b⟩⟩
    rw [cnt_get, e, get_ints]
    exact count_one nd (row_mem hr (by omega) (by omega))
  · intro h
    have rr := roundsR_row ds.length
    have pm := perm_of_sub rr.2.1 (b := ds.filterMap getI) (fun x hx => by
      have := rr.2.2 x hx
      have z := h (x - 1).toNat (by omega)
      rw [show (1 + (((x - 1).toNat : Nat) : Int)) = x by omega, cnt_get] at z
      exact List.count_pos_iff.mp (by omega)) (by rw [rr.1]; exact List.length_filterMap_le _ _)
    have hlen : ds.length ≤ (ds.filterMap getI).length := by rw [← pm.length_eq, rr.1]; exact Nat.le_refl _
    have e := get_all hlen
    have hr : IsRow (ds.filterMap getI) ds.length := IsRow.perm pm.symm rr
    have := rowD_row h1 h2 hr
    rw [← e] at this
    exact this
theorem pure_law_row_by_count (h : sp_law_row_by_count K vs H Q E) : t_law_row_by_count K (En Q) (start N_law_row_by_count vs) H := by
  obtain ⟨v, d, rfl, ⟨hr, hnd, hnb⟩, q⟩ := h
  have no : ¬ RowD d → Q (.bl false) H := fun z => q false ⟨(fun h => nomatch h), fun h => absurd h z⟩
  unfold t_law_row_by_count
  cases hr with
  | int i => walk_at "rd"; exact no (fun z => z)
  | bl b => walk_at "rd"; exact no (fun z => z)
  | str z => walk_at "rd"; exact no (fun z => z)
  | non => walk_at "rd"; exact no (fun z => z)
  | @tup a xs ds ht hd =>
    have hlen := rpL_length hd
    have nda := hnd a rfl
    walk_at "rd"
    rw [hlen]
    refine r_ite (fun c1 => by walk_at "rd"; exact no fun z => by have := z.1; omega) (fun c1 => ?_)
    walk_at "rd"
    rw [hlen]
    refine r_ite (fun c2 => by walk_at "rd"; exact no fun z => by have := z.2.1; omega) (fun c2 => ?_)
    have ci := count_iff (ds := ds) (by omega) (by omega)
    walk_at "rd"
    rw [hlen]
    rw [show (((ds.length : Int) + 1) - 1).toNat = ds.length by omega]
    refine r_forRange (fun i σ' H' => ∃ (z1 : Option V), σ' = [some (.ref a), z1] ∧ H' = H ∧ ∀ k, k < i → ds.countP (isI (1 + (k : Int))) = 1)
      ⟨none, rfl, rfl, fun k hk => absurd hk (Nat.not_lt_zero k)⟩ (fun i σ' H' hi hW => ?_) (fun σ' H' hW => ?_)
    · obtain ⟨z1, rfl, rfl, hc⟩ := hW
      walk_at "rd"
      refine ⟨a, _, .int (1 + (i : Int)), pyDs ds, rfl, rfl, .tup ht (dpAll_of hd), .int _, plainAll_of ds, rfl, rfl, ?_⟩
      rw [cnt_isI (hnb ds rfl)]
      walk_at "rd"
      refine r_iteN (fun c3 => ?_) (fun c3 => ?_)
      · walk_at "rd"
        exact no fun z => c3 (by rw [ci.mp z i hi]; rfl)
      · walk_at "rd"
        refine ⟨_, rfl, rfl, fun k hk => ?_⟩
        by_cases e : k = i
        · subst e; omega
        · exact hc k (by omega)
    · obtain ⟨z1, rfl, rfl, hc⟩ := hW
      walk_at "rd"
      exact q true ⟨fun _ => ci.mpr hc, fun _ => rfl⟩
theorem rpL_set : ∀ {xs : List V} {ds : List Dat} {k : Nat} {v : V} {e : Dat}, RpL K H xs ds → Rp K H v e → RpL K H (xs.set k v) (ds.set k e)
  | _, _, _, _, _, .nil, _ => .nil
  | _, _, 0, _, _, .cons _ t, h => .cons h t
  | _, _, k + 1, _, _, .cons r t, h => .cons r (rpL_set t h)
theorem mem_set {ds : List Dat} {k : Nat} {e : Dat} (h : ∀ d ∈ ds, ∀ b, d ≠ .bl b) (he : ∀ b, e ≠ .bl b) : ∀ d ∈ ds.set k e, ∀ b, d ≠ .bl b := fun d hd => by
  rcases List.mem_or_eq_of_mem_set hd with z | z
  · exact h d z
  · subst z; exact he
theorem ints_nb (r : List Int) : ∀ d ∈ r.map Dat.int, ∀ b, d ≠ .bl b := fun d hd b e => by
  obtain ⟨i, _, rfl⟩ := List.mem_map.mp hd
  cases e
theorem pure_law_value (h : sp_law_value K vs H Q E) : t_law_value K (En Q) (start N_law_value vs) H := by
  obtain ⟨p, a, r, l, rfl, hp, ha, nd, l1, l2, ll, q⟩ := h
  have hm : (r.map V.int).length = r.length := List.length_map ..
  unfold t_law_value
  walk_at "rd"
  refine r_draw hp (by omega) (by omega) fun at' H1 a0 a1 b1 hp1 => ?_
  have ha1 := sqT_pl b1 hp ha
  have nd1 := noD_pl b1 hp nd
  walk_at "rd"
  refine r_draw hp1 (by omega) (by omega) fun to H2 o0 o1 b2 hp2 => ?_
  have ha2 := sqT_pl b2 hp1 ha1
  have nd2 := noD_pl b2 hp1 nd1
  walk_at "rd"
  refine r_draw hp2 (by omega) (by omega) fun w H3 w0 w1 b3 hp3 => ?_
  have ha3 := sqT_pl b3 hp2 ha2
  have nd3 := noD_pl b3 hp2 nd2
  have b13 := (b1.trans b2).trans b3
  rw [hm] at a1 o1
  have intQ : ∀ (b : Addr) (H' : Hp) (ms : List Int), But p H H' → Pl H' p → SqT K H' b (ms.map V.int) → NoD H' b → Q (.ref b) H' := fun b H' ms bb pp e n => q _ H' (.tup (ms.map Dat.int)) bb pp ⟨rp_ints e, fun a h => by cases h; exact n, fun ds h => by cases h; exact ints_nb ms⟩
  walk_at "rd"
  refine r_ite (fun hw => ?_) (fun hw => ?_)
  · walk_at "rd"
    exact ⟨p, _, rfl, hp3, .inr ⟨a, r, rfl, ha3, nd3, l1, by omega, fun b H' ms bb pp e n _ => intQ b H' ms (b13.trans bb) pp e n⟩⟩
  walk_at "rd"
  intro o H4 no s4 e4
  have hp4 := pl_same s4 hp3
  have ha4 := sqT_same s4 ha3
  have nd4 := noD_same s4 nd3
  have b14 := b13.trans (Same.but s4)
  have opn : o ≠ p := ne_pl no hp3
  have fin : ∀ (o : Addr) (xs : List V) (ds : List Dat) (H5 : Hp), RpL K H5 xs ds → (∀ d ∈ ds, ∀ b, d ≠ .bl b) → But p H H5 → Pl H5 p → ∀ t H6, H5 t = none → Same H5 H6 → (∃ o : Obj, H6 t = some (.frz o (.tup xs)) ∧ o.dict = none) → Q (.ref t) H6 := fun o xs ds H5 h5 nb bb pp t H6 nt s6 e6 =>
    q _ H6 (.tup ds) (bb.trans (Same.but s6)) (pl_same s6 pp) ⟨.tup (sqT_ofD e6) (rpL_keep (tk_same s6) h5), fun a h => by cases h; exact noD_of e6, fun ds' h => by cases h; exact nb⟩
  have fin1 : ∀ (v : V) (e : Dat) (H5 H6 : Hp), H5 o = some (.lst (r.map V.int)) → But o H5 H6 → Rp K H5 v e → (∀ b, e ≠ .bl b) → But p H H5 → Pl H5 p → ∀ t H7, H6 t = none → Same H6 H7 → (∃ o : Obj, H7 t = some (.frz o (.tup ((r.map V.int).set at'.toNat v))) ∧ o.dict = none) → Q (.ref t) H7 := fun v e H5 H6 e5 b6 hv nb bb pp =>
    fin o _ ((r.map Dat.int).set at'.toNat e) H6 (rpL_set (rpL_ints r) (rp_keep (tk_but b6 e5) hv)) (mem_set (ints_nb r) nb) (but_via bb b6 (free_but b13 opn no)) (pl_butL b6 opn.symm pp)
  have hat : ixN (r.map V.int).length at' = some at'.toNat := by
    rw [hm]
    have := ixN_n (n := r.length) (k := at'.toNat) (by omega)
    rw [show ((at'.toNat : Nat) : Int) = at' by omega] at this
    exact this
  have nbI : ∀ (i : Int) b, Dat.int i ≠ .bl b := fun i b e => nomatch e
  have hw' : w = 2 ∨ w = 3 ∨ w = 4 ∨ w = 5 ∨ w = 6 ∨ w = 7 ∨ w = 8 ∨ w = 9 ∨ w = 10 := by omega
  clear hw w0 w1
  rcases hw' with rfl | rfl | rfl | rfl | rfl | rfl | rfl | rfl | rfl
  · walk_at "rd"
    refine r_iteP rfl ?_
    walk_at "rd"
    refine r_ixI ha4 a0 a1 fun i hi => ?_
    refine ⟨p, .int i, rfl, hp4, .inl ⟨i, rfl, fun j H5 b5 hp5 => ?_⟩⟩
    have e5 := b5 _ _ opn e4
    walk_at "rd"
    intro H6 b6 e6
    walk_at "rd"
    walk_at "skp"
    walk_at "skp"
    walk_at "skp"
    walk_at "skp"
    walk_at "skp"
    walk_at "skp"
    walk_at "skp"
    walk_at "skp"
    exact fin1 _ (.int j) H5 H6 e5 b6 (.int j) (nbI j) (b14.trans b5) hp5
  · walk_at "rd"
    walk_at "skp"
    refine r_iteP rfl ?_
    walk_at "rd"
    refine r_ixIL e4 a0 (by omega) fun i hi => ?_
    refine r_addFI ?_
    walk_at "rd"
    intro H5 b5 e5
    rw [← List.map_set (f := V.int)] at e5
    have l5 : (r.set at'.toNat (i + 1)).length = r.length := List.length_set ..
    generalize r.set at'.toNat (i + 1) = ns5 at e5 l5
    walk_at "rd"
    refine r_ixIL e5 o0 (by omega) fun i2 hi2 => ?_
    walk_at "rd"
    refine r_setI e5 o0 (by omega) fun H6 ns6 b6 e6 l6 => ?_
    walk_at "rd"
    walk_at "skp"
    walk_at "skp"
    walk_at "skp"
    walk_at "skp"
    walk_at "skp"
    walk_at "skp"
    walk_at "skp"
    have noH := free_but b13 opn no
    exact fin o _ (ns6.map Dat.int) H6 (rpL_ints ns6) (ints_nb ns6) (but_via (but_via b14 b5 noH) b6 noH) (pl_butL b6 opn.symm (pl_butL b5 opn.symm hp4))
  · walk_at "rd"
    walk_at "skp"
    walk_at "skp"
    refine r_iteP rfl ?_
    walk_at "rd"
    refine r_ixSN (by omega) a0 (by omega) fun c hc => ?_
    walk_at "rd"
    intro H6 b6 e6
    walk_at "rd"
    walk_at "skp"
    walk_at "skp"
    walk_at "skp"
    walk_at "skp"
    walk_at "skp"
    walk_at "skp"
    exact fin1 _ (.str (S [c])) H4 H6 e4 b6 (.str _) (fun b e => nomatch e) b14 hp4
  · walk_at "rd"
    walk_at "skp"
    walk_at "skp"
    walk_at "skp"
    refine r_iteP rfl ?_
    walk_at "rd"
    intro H6 b6 e6
    walk_at "rd"
    walk_at "skp"
    walk_at "skp"
    walk_at "skp"
    walk_at "skp"
    walk_at "skp"
    exact fin1 _ (.tup (r.map Dat.int)) H4 H6 e4 b6 (rp_ints ha4) (fun b e => nomatch e) b14 hp4
  · walk_at "rd"
    walk_at "skp"
    walk_at "skp"
    walk_at "skp"
    walk_at "skp"
    refine r_iteP rfl ?_
    walk_at "rd"
    refine r_ixI ha4 o0 o1 fun i hi => ?_
    walk_at "rd"
    intro H6 b6 e6
    walk_at "rd"
    walk_at "skp"
    walk_at "skp"
    walk_at "skp"
    walk_at "skp"
    exact fin1 _ (.int i) H4 H6 e4 b6 (.int i) (nbI i) b14 hp4
  · walk_at "rd"
    walk_at "skp"
    walk_at "skp"
    walk_at "skp"
    walk_at "skp"
    walk_at "skp"
    refine r_iteP rfl ?_
    walk_at "rd"
    refine r_addFI ?_
    walk_at "rd"
    intro H6 b6 e6
    walk_at "rd"
    walk_at "skp"
    walk_at "skp"
    walk_at "skp"
    rw [hm] at e6
    have noH := free_but b13 opn no
    rw [hm, show r.map V.int ++ [V.int ((r.length : Int) + 1)] = (r ++ [(r.length : Int) + 1]).map V.int by rw [List.map_append]; rfl]
    exact fin o _ ((r ++ [(r.length : Int) + 1]).map Dat.int) H6 (rpL_ints _) (ints_nb _) (but_via b14 b6 noH) (pl_butL b6 opn.symm hp4)
  · walk_at "rd"
    walk_at "skp"
    walk_at "skp"
    walk_at "skp"
    walk_at "skp"
    walk_at "skp"
    walk_at "skp"
    refine r_iteP rfl ?_
    walk_at "rd"
    refine r_draw hp4 (by omega) (by omega) fun y H5 y0 y1 b5 hp5 => ?_
    refine r_addFI ?_
    walk_at "rd"
    refine r_new (RgOk.of_le (by omega) (by omega) (by omega) (by omega)) ?_
    intro o2 H6 no2 s6 e6
    walk_at "rd"
    walk_at "skp"
    walk_at "skp"
    obtain ⟨y', rfl⟩ : ∃ y' : Nat, y = (y' : Int) := ⟨y.toNat, by omega⟩
    rw [show ((1 : Int) + (y' : Int)) = (y' : Int) + 1 by omega, rgV_rounds]
    exact fin o2 _ ((roundsR y').map Dat.int) H6 (rpL_ints _) (ints_nb _) ((b14.trans b5).trans (Same.but s6)) (pl_same s6 hp5)
  · walk_at "rd"
    walk_at "skp"
    walk_at "skp"
    walk_at "skp"
    walk_at "skp"
    walk_at "skp"
    walk_at "skp"
    walk_at "skp"
    refine r_iteP rfl ?_
    walk_at "rd"
    refine r_draw hp4 (by omega) (by omega) fun y H5 y0 y1 b5 hp5 => ?_
    walk_at "rd"
    refine r_lcDr hp5 (by omega) (fun x H7 Q' b7 hp7 k => ?_) fun q1 H7 ms nq b7 hp7 e7 hl7 => ?_
    · walk_at "rd"
      refine r_draw hp7 (by omega) (by omega) fun x2 H8 x20 x21 b8 hp8 => ?_
      walk_at "rd"
      exact k _ H8 b8 hp8
    · walk_at "rd"
      walk_at "skp"
      exact fin q1 _ (ms.map Dat.int) H7 (rpL_ints _) (ints_nb _) ((b14.trans b5).trans b7) hp7
  · walk_at "rd"
    walk_at "skp"
    walk_at "skp"
    walk_at "skp"
    walk_at "skp"
    walk_at "skp"
    walk_at "skp"
    walk_at "skp"
    walk_at "skp"
    refine r_iteP rfl ?_
    walk_at "rd"
    refine r_ixI ha4 a0 a1 fun i hi => ?_
    walk_at "rd"
    refine r_tupF ?_
    walk_at "rd"
    refine ⟨by rw [sizeLine_eq]; simp, r_pnf (K := K) fun u H5 s5 hu nu => ?_⟩
    walk_at "rd"
    refine r_tupF ?_
    walk_at "rd"
    refine ⟨by rw [sizeLine_eq]; simp, r_pnf (K := K) fun u2 H6 s6 hu2 nu2 => ?_⟩
    walk_at "rd"
    intro l5 H7 nl5 s7 e7
    have hp7 := pl_same s7 (pl_same s6 (pl_same s5 hp4))
    walk_at "rd"
    refine r_draw hp7 (by omega) (by omega) fun y H8 y0 y1 b8 hp8 => ?_
    have e8 := b8 _ _ (ne_pl nl5 (pl_same s6 (pl_same s5 hp4))) e7
    have b18 : But p H H8 := (((b14.trans (Same.but s5)).trans (Same.but s6)).trans (Same.but s7)).trans b8
    have hu8 := sqT_pl b8 hp7 (sqT_same s7 (sqT_same s6 hu))
    have nu8 := noD_pl b8 hp7 (noD_same s7 (noD_same s6 nu))
    have hu28 := sqT_pl b8 hp7 (sqT_same s7 hu2)
    have nu28 := noD_pl b8 hp7 (noD_same s7 nu2)
    have ha8 := sqT_pl b8 hp7 (sqT_same s7 (sqT_same s6 (sqT_same s5 ha4)))
    have hy : y = 0 ∨ y = 1 ∨ y = 2 ∨ y = 3 := by omega
    rcases hy with rfl | rfl | rfl | rfl
    · exact r_ixL (sqL_of e8) (v := .str (S l)) rfl (q _ H8 (.str (S l)) b18 hp8 ⟨.str _, (fun a h => nomatch h), (fun ds h => nomatch h)⟩)
    · exact r_ixL (sqL_of e8) (v := .int i) rfl (q _ H8 (.int i) b18 hp8 ⟨.int _, (fun a h => nomatch h), (fun ds h => nomatch h)⟩)
    · exact r_ixL (sqL_of e8) (v := .ref u) rfl (q _ H8 (.tup [.tup (r.map Dat.int)]) b18 hp8 ⟨.tup hu8 (.cons (rp_ints ha8) .nil), fun a h => by cases h; exact nu8, fun ds h => by
        cases h
        intro e he b
        rw [List.mem_singleton] at he
        subst he
        exact fun z => nomatch z⟩)
    · exact r_ixL (sqL_of e8) (v := .ref u2) rfl (q _ H8 (.tup []) b18 hp8 ⟨.tup hu28 .nil, fun a h => by cases h; exact nu28, fun ds h => by
        cases h
        exact fun e he => nomatch he⟩)
end
end K0
end Kb
set_option Elab.async false
set_option linter.all false
set_option maxRecDepth 100000
set_option maxHeartbeats 4000000
namespace Kb
namespace K0
open PySem PySem.Spec PyProof.Rows L2 SX
local macro_rules | `(tactic| walk_at "tk") => `(tactic| first
  | assumption
  | ((with_reducible refine' sqT_of ?k); (case k => assumption))
  | ((with_reducible refine' sqT_ofD ?k); (case k => assumption))
  | ((with_reducible refine' noD_of ?k); (case k => assumption))
  | ((with_reducible refine' noD_same ?s ?k); (case s => assumption); (case k => walk_at "tk"))
  | ((with_reducible refine' sqL_of ?k); (case k => assumption))
  | ((with_reducible refine' sqT_same ?s ?k); (case s => assumption); (case k => walk_at "tk"))
  | ((with_reducible refine' sqL_same ?s ?k); (case s => assumption); (case k => walk_at "tk"))
  | ((with_reducible refine' sqT_but ?s ?t ?k); (case s => assumption); (case t => walk_at "tk"); (case k => walk_at "tk"))
  | ((with_reducible refine' sqL_but ?s ?t ?k); (case s => assumption); (case t => walk_at "ne"); (case k => walk_at "tk"))
  | ((with_reducible refine' sqL_of ?k); (case k => walk_at "tk"))
  | ((with_reducible refine' sqT_of ?k); (case k => walk_at "tk"))
  | ((with_reducible refine' at_same ?s ?k); (case s => assumption); (case k => walk_at "tk"))
  | ((with_reducible refine' at_but ?s ?t ?k); (case s => assumption); (case t => walk_at "ne"); (case k => walk_at "tk")))
local macro_rules | `(tactic| walk_at "ne") => `(tactic| first
  | assumption
  | (refine Ne.symm ?_; assumption)
  | exact ne_of_none (by assumption) (by assumption)
  | exact (ne_of_none (by assumption) (by assumption)).symm)
local macro_rules | `(tactic| walk_at "side") => `(tactic| first
  | assumption
  | omega
  | (simp only [sizeLine_eq, List.length_cons, List.length_nil, List.length_map]; omega)
  | (show _ ≤ sizeLine; decide))
local macro_rules | `(tactic| walk_at "kit") => `(tactic| first
  | (show kitB _ _ = some true; decide +kernel)
  | (show kitB _ _ = some false; decide +kernel))
local macro_rules | `(tactic| walk_at "rng") => `(tactic| first
  | (refine ⟨by omega, by omega, by omega, by omega⟩)
  | (refine ⟨by omega, by omega⟩)
  | ((simp only [List.length_map]); (refine ⟨by omega, by omega, by omega, by omega⟩))
  | ((simp only [List.length_map]); (refine ⟨by omega, by omega⟩)))
local macro_rules | `(tactic| walk_at "rd1") => `(tactic| first
  | with_reducible refine r_seq ?_
  | ((with_reducible refine' r_var ?k0 ?_); (case k0 => rfl))
  | with_reducible refine r_op ?_
  | with_reducible refine r_c ?_
  | with_reducible refine r_asg ?_
  | with_reducible refine r_name ?_
  | with_reducible refine r_cons ?_
  | with_reducible refine r_nil ?_
  | with_reducible refine r_CB ?_
  | with_reducible refine r_if ?_
  | with_reducible refine r_test ?_
  | with_reducible refine r_k ?_
  | with_reducible refine r_T ?_
  | with_reducible refine r_F ?_
  | with_reducible refine r_nT ?_
  | with_reducible refine r_nF ?_
  | with_reducible refine r_ret ?_
  | with_reducible refine r_drop ?_
  | with_reducible refine r_next ?_
  | with_reducible refine r_call ?_
  | with_reducible refine r_addI ?_
  | with_reducible refine r_subI ?_
  | with_reducible refine r_ltI ?_
  | with_reducible refine r_gtI ?_
  | with_reducible refine r_leI ?_
  | with_reducible refine r_geI ?_
  | with_reducible refine r_eqI ?_
  | with_reducible refine r_neI ?_
  | with_reducible refine r_int ?_
  | with_reducible refine r_abs ?_
  | with_reducible refine r_not ?_
  | with_reducible refine r_and ?_
  | with_reducible refine r_or ?_
  | with_reducible refine r_tru ?_
  | with_reducible refine r_truB ?_
  | with_reducible refine r_lst ?_
  | with_reducible refine r_tup ?_
  | with_reducible refine r_BM ?_
  | with_reducible refine r_BM0 ?_
  | with_reducible refine r_tyS ?_
  | with_reducible refine r_gsub ?_
  | with_reducible refine r_then ?_
  | with_reducible refine r_lstRg ?_
  | with_reducible refine r_tupRg ?_
  | with_reducible refine r_rg2 ?_
  | with_reducible refine r_rg1 ?_
  | with_reducible refine r_ii ?_
  | with_reducible refine r_i ?_
  | with_reducible refine r_ipI ?_
  | with_reducible refine r_un ?_
  | with_reducible refine r_neg ?_
  | with_reducible refine r_isN ?_
  | with_reducible refine r_notN ?_
  | with_reducible refine r_notV ?_
  | with_reducible refine r_pnot ?_
  | with_reducible refine r_pif ?_
  | with_reducible refine r_andV ?_
  | with_reducible refine r_orV ?_
  | with_reducible refine r_ifE ?_
  | with_reducible refine r_chain ?_
  | with_reducible refine r_sl ?_
  | with_reducible refine r_noPart ?_
  | with_reducible refine r_part ?_
  | with_reducible refine r_brk ?_
  | with_reducible refine r_cont ?_
  | with_reducible refine r_retN ?_
  | with_reducible refine r_truI ?_
  | with_reducible refine r_B ?_
  | with_reducible refine r_for ?_
  | with_reducible refine r_rng1 ?_
  | with_reducible refine r_rng2 ?_
  | with_reducible refine r_rng3 ?_
  | with_reducible refine r_body ?_
  | with_reducible refine r_lc ?_
  | with_reducible refine r_yes ?_
  | ((with_reducible refine' r_mod ?k0 ?_); (case k0 => walk_at "side"))
  | ((with_reducible refine' r_mulI ?k0 ?_); (case k0 => first | exact Or.inl ⟨by omega, by omega⟩ | exact Or.inr ⟨by omega, by omega⟩))
  | ((with_reducible refine' r_lenL ?k0 ?_); (case k0 => walk_at "tk"))
  | ((with_reducible refine' r_lenT ?k0 ?_); (case k0 => walk_at "tk"))
  | ((with_reducible refine' r_truL ?k0 ?_); (case k0 => walk_at "tk"))
  | ((with_reducible refine' r_truT ?k0 ?_); (case k0 => walk_at "tk"))
  | ((with_reducible refine' r_ixL ?k0 ?k1 ?_); (case k0 => walk_at "tk"); (case k1 => first | assumption | rfl))
  | ((with_reducible refine' r_ixT ?k0 ?k1 ?_); (case k0 => walk_at "tk"); (case k1 => first | assumption | rfl))
  | ((with_reducible refine' r_new ?k0 ?_); (case k0 => walk_at "side"))
  | ((with_reducible refine' r_tyL ?k0 ?_); (case k0 => walk_at "tk"))
  | ((with_reducible refine' r_append ?k0 ?k1 ?_); (case k0 => walk_at "tk"); (case k1 => walk_at "side"))
  | ((with_reducible refine' r_setL ?k0 ?k1 ?_); (case k0 => walk_at "tk"); (case k1 => first | assumption | rfl))
  | ((with_reducible refine' r_kTupL ?k0 ?_); (case k0 => walk_at "tk"))
  | ((with_reducible refine' r_kTupT ?k0 ?_); (case k0 => walk_at "tk"))
  | ((with_reducible refine' r_listL ?k0 ?_); (case k0 => walk_at "tk"))
  | ((with_reducible refine' r_listT ?k0 ?_); (case k0 => walk_at "tk"))
  | ((with_reducible refine' r_aug ?k0 ?_); (case k0 => rfl))
  | ((with_reducible refine' r_lenS ?k0 ?_); (case k0 => walk_at "side"))
  | ((with_reducible refine' r_pop ?k0 ?_); (case k0 => walk_at "tk"))
  | ((with_reducible refine' r_pr1 ?k0 ?_); (case k0 => walk_at "rng"))
  | ((with_reducible refine' r_pr2 ?k0 ?_); (case k0 => walk_at "rng"))
  | ((with_reducible refine' r_pr3d ?k0 ?_); (case k0 => walk_at "rng"))
  | ((with_reducible refine' r_isiI ?k0 ?_); (case k0 => walk_at "kit"))
  | ((with_reducible refine' r_isiB ?k0 ?_); (case k0 => walk_at "kit"))
  | ((with_reducible refine' r_isiS ?k0 ?_); (case k0 => walk_at "kit"))
  | ((with_reducible refine' r_isiN ?k0 ?_); (case k0 => walk_at "kit"))
  | ((with_reducible refine' r_isiT ?k0 ?k1 ?_); (case k0 => walk_at "tk"); (case k1 => walk_at "kit"))
  | ((with_reducible refine r_seqT ?_); (repeat (walk_at "rd1")); ((with_reducible refine' r_pseqT ?k0 ?_); (case k0 => walk_at "tk")))
  | ((with_reducible refine r_seqL ?_); (repeat (walk_at "rd1")); ((with_reducible refine' r_pseqL ?k0 ?_); (case k0 => walk_at "tk")))
  | ((with_reducible refine r_seqS ?_); (repeat (walk_at "rd1")); (with_reducible refine r_pseqS ?_)))
local macro_rules | `(tactic| walk_at "rd") => `(tactic| ((repeat (walk_at "rd1")); (try dsimp only)))
local macro_rules | `(tactic| walk_at "rd1") => `(tactic| first
  | with_reducible refine r_BMT ?_
  | with_reducible refine r_par ?_
  | with_reducible refine r_parV ?_
  | ((with_reducible refine' r_ptp ?k0 ?k1 ?_); (case k0 => walk_at "tk"); (case k1 => walk_at "tk"))
  | with_reducible refine r_eqS ?_
  | with_reducible refine r_neS ?_
  | with_reducible refine r_callW ?_
  | with_reducible refine r_try ?_
  | with_reducible refine r_enT ?_
  | ((with_reducible refine' r_pen ?k0 ?_); (case k0 => walk_at "tk")))
local macro_rules | `(tactic| walk_at "rd1") => `(tactic| first
  | with_reducible refine r_dIn ?_
  | with_reducible refine r_dNo ?_
  | with_reducible refine r_dPut ?_
  | with_reducible refine r_dGet ?_)
local macro_rules | `(tactic| walk_at "pl0") => `(tactic| first
  | assumption
  | exact pl_same (by assumption) (by assumption)
  | exact pl_same (by assumption) (pl_same (by assumption) (by assumption))
  | exact pl_same (by assumption) (pl_same (by assumption) (pl_same (by assumption) (by assumption))))
local macro_rules | `(tactic| walk_at "pl") => `(tactic| first
  | walk_at "pl0"
  | ((with_reducible refine' pl_butL ?s ?n ?k); (case s => assumption); (case n => walk_at "ne"); (case k => walk_at "pl"))
  | ((with_reducible refine' pl_same ?s ?k); (case s => assumption); (case k => walk_at "pl")))
local macro_rules | `(tactic| walk_at "ne") => `(tactic| first
  | exact ne_pl (by assumption) (by walk_at "pl0")
  | exact (ne_pl (by assumption) (by walk_at "pl0")).symm)
local macro_rules | `(tactic| walk_at "fr") => `(tactic| first
  | assumption
  | ((with_reducible refine' free_but ?b ?n ?h); (case h => assumption); (case n => walk_at "ne"); (case b => walk_at "but"))
  | ((with_reducible refine' Same.free ?b ?h); (case h => assumption); (case b => walk_at "same")))
local macro_rules | `(tactic| walk_at "but") => `(tactic| first
  | assumption
  | exact But.refl
  | ((with_reducible refine' But.trans ?a ?b); (case b => assumption); (case a => walk_at "but"))
  | ((with_reducible refine' But.trans ?a (Same.but ?b)); (case b => assumption); (case a => walk_at "but"))
  | ((with_reducible refine' but_via ?a ?b ?c); (case b => assumption); (case c => walk_at "fr"); (case a => walk_at "but")))
local macro_rules | `(tactic| walk_at "same") => `(tactic| first
  | assumption
  | exact Same.refl _
  | ((with_reducible refine' Same.trans ?a ?b); (case b => assumption); (case a => walk_at "same"))
  | ((with_reducible refine' same_but ?a ?b ?c); (case b => assumption); (case c => walk_at "fr"); (case a => walk_at "same")))
local macro_rules | `(tactic| walk_at "tk") => `(tactic| first
  | ((with_reducible refine' sqT_pl ?s ?t ?k); (case s => assumption); (case t => walk_at "pl0"); (case k => walk_at "tk"))
  | ((with_reducible refine' rp_same ?s ?k); (case s => assumption); (case k => walk_at "tk"))
  | ((with_reducible refine' rp_pl ?s ?t ?k); (case s => assumption); (case t => walk_at "pl0"); (case k => walk_at "tk")))
local macro_rules | `(tactic| walk_at "it") => `(tactic| first
  | assumption
  | ((with_reducible refine' sqI_1 ?k); (case k => assumption))
  | ((with_reducible refine' sqI_0 ?k); (case k => assumption))
  | ((with_reducible refine' sqI_of ?k); (case k => assumption))
  | ((with_reducible refine' sqI_D ?k); (case k => assumption))
  | ((with_reducible refine' sqT_same ?s ?k); (case s => assumption); (case k => walk_at "it"))
  | ((with_reducible refine' sqT_but ?s ?t ?k); (case s => assumption); (case t => assumption); (case k => walk_at "it"))
  | ((with_reducible refine' sqT_pl ?s ?t ?k); (case s => assumption); (case t => walk_at "pl0"); (case k => walk_at "it")))
local macro_rules | `(tactic| walk_at "sz") => `(tactic| first | omega | ((try simp only [List.length_cons, List.length_nil] at *); omega))
local macro_rules | `(tactic| walk_at "au1") => `(tactic| first
  | walk_at "rd1"
  | ((with_reducible refine' r_draw ?k0 ?k1 ?k2 ?_); (case k0 => walk_at "pl"); (case k1 => omega); (case k2 => omega); (intro _ _ _ _ _ _))
  | ((with_reducible refine' r_slN ?k0 ?_); (case k0 => walk_at "it"); (intro _ _ _ _ _ _))
  | ((with_reducible refine' r_catN ?k0 ?k1 ?k2 ?_); (case k0 => walk_at "it"); (case k1 => walk_at "it"); (case k2 => walk_at "sz"); (intro _ _ _ _ _ _))
  | ((with_reducible refine' r_pow ?k0 ?_); (case k0 => exact ⟨by decide, by decide, by decide⟩))
  | ((with_reducible refine' r_ixI ?k0 ?k1 ?k2 ?_); (case k0 => walk_at "it"); (case k1 => omega); (case k2 => omega); (intro _ _))
  | ((with_reducible refine' r_setI ?k0 ?k1 ?k2 ?_); (case k0 => walk_at "tk"); (case k1 => omega); (case k2 => omega); (intro _ _ _ _ _))
  | ((with_reducible refine' r_kTupI ?k0 ?_); (case k0 => walk_at "tk"); (intro _ _ _ _ _))
  | ((with_reducible refine' r_listI ?k0 ?_); (case k0 => walk_at "it"); (intro _ _ _ _ _))
  | (with_reducible refine r_revU ?_)
  | ((with_reducible refine' r_prevN ?k0 ?_); (case k0 => walk_at "it"); (intro _ _ _ _ _ _))
  | (intro _ _ _ _ _))
local macro_rules | `(tactic| walk_at "go") => `(tactic| ((repeat (walk_at "au1")); (first
  | ((with_reducible refine r_ite (fun _ => ?_) (fun _ => ?_)) <;> (walk_at "go"))
  | ((with_reducible refine r_iteN (fun _ => ?_) (fun _ => ?_)) <;> (walk_at "go"))
  | dsimp only
  | skip)))
def sp_law (K : PySem.W.Frag) : Sp := fun vs H Q _ => ∃ (a : Addr) (ns : List Int), vs = [.ref a] ∧ SqL K H a (ns.map V.int) ∧ ns.length ≤ 63 ∧ ∀ H', Q (.bl true) H'
abbrev N_law : List Str := ["script", "pool", "stage", "row", "good", "bend", "text", "asked", "way", "due", "first", "plain", "home", "values", "k", "value", "again", "bell"]
def t_law (K : PySem.W.Frag) : TS :=
  tSeq (tAsg ((tCall (sp_law_pool K) [] E0 (tCons (tVar 0) (tCons ((tC (.int 0))) tNil)))) (gName 1))
  (tSeq (tAsg ((tOp (rAddU K) ((tC (.int 1))) ((tCall (sp_law_draw K) [] E0 (tCons (tVar 1) (tCons ((tC (.int 12))) tNil)))))) (gName 2))
  (tSeq (tAsg ((tCall (sp_law_row_draw K) [] E0 (tCons (tVar 1) (tCons (tVar 2) tNil)))) (gName 3))
  (tSeq (tAsg ((tBM K "str" (rJoin K) ((tC (.str ""))) (tCons ((tLc ((iSeqU K (tVar 3))) ((gName 17)) (tYes) ((tOp (rIx K) ((tC (.str "1234567890ET"))) ((tOp rSubU (tVar 17) ((tC (.int 1))))))) [17])) tNil))) (gName 4))
  (tSeq (tAsg ((tCall (sp_law_pool K) [] E0 (tCons (tVar 0) (tCons ((tC (.int 1))) tNil)))) (gName 5))
  (tSeq (tAsg ((tCall (sp_law_bent_text K) [] E0 (tCons (tVar 5) (tCons (tVar 4) tNil)))) (gName 6))
  (tSeq (tAsg (tVar 2) (gName 7))
  (tSeq (tAsg ((tCall (sp_law_draw K) [] E0 (tCons (tVar 5) (tCons ((tC (.int 8))) tNil)))) (gName 8))
  (tSeq (tIfS ((tTest (tOp (rEqU K) (tVar 8) ((tC (.int 0)))))) ((tAsg ((tOp (rAddU K) ((tC (.int 1))) ((tCall (sp_law_draw K) [] E0 (tCons (tVar 5) (tCons ((tC (.int 12))) tNil)))))) (gName 7))) (tNext))
  (tSeq (tIfS ((tTest (tOp (rEqU K) (tVar 8) ((tC (.int 1)))))) ((tAsg ((tCall (sp_law_no_stage K) [] E0 (tCons (tVar 5) tNil))) (gName 7))) (tNext))
  (tSeq (tAsg ((tCall (sp_law_due K) [] E0 (tCons (tVar 7) (tCons (tVar 6) tNil)))) (gName 9))
  (tSeq (tAsg ((tCall (sp_law_read K) [] E0 (tCons (tVar 7) (tCons (tVar 6) tNil)))) (gName 10))
  (tSeq (tIfS ((tOr ((tTest (tOp (rNeU K) ((tOp (rIx K) (tVar 10) ((tC (.int 0))))) ((tOp (rIx K) (tVar 9) ((tC (.int 0)))))))) ((tNot ((tTru K ((tCall (sp_law_same K) [] E0 (tCons ((tOp (rIx K) (tVar 10) ((tC (.int 1))))) (tCons ((tOp (rIx K) (tVar 9) ((tC (.int 1))))) tNil)))))))))) ((tRet ((tC (.bl false))))) (tNext))
  (tSeq (tIfS ((tAnd ((tTest (tOp (rEqU K) ((tOp (rIx K) (tVar 9) ((tC (.int 0))))) ((tC (.str "")))))) ((tNot ((tTru K ((tCall (sp_law_same K) [] E0 (tCons ((tCall (sp_write_row K) [] E0 (tCons ((tOp (rIx K) (tVar 9) ((tC (.int 1))))) tNil))) (tCons (tVar 6) tNil)))))))))) ((tRet ((tC (.bl false))))) (tNext))
  (tSeq (tAsg ((tCall (sp_law_read K) [] E0 (tCons (tVar 2) (tCons (tVar 4) tNil)))) (gName 11))
  (tSeq (tIfS ((tOr ((tTest (tOp (rNeU K) ((tOp (rIx K) (tVar 11) ((tC (.int 0))))) ((tC (.str "")))))) ((tOr ((tNot ((tTru K ((tCall (sp_law_same K) [] E0 (tCons ((tOp (rIx K) (tVar 11) ((tC (.int 1))))) (tCons (tVar 3) tNil)))))))) ((tNot ((tTru K ((tCall (sp_law_same K) [] E0 (tCons ((tCall (sp_write_row K) [] E0 (tCons (tVar 3) tNil))) (tCons (tVar 4) tNil)))))))))))) ((tRet ((tC (.bl false))))) (tNext))
  (tSeq (tAsg ((tCall (sp_law_home K) [] E0 (tCons (tVar 7) tNil))) (gName 12))
  (tSeq (tIfS ((tOr ((tTest (tOp (rLtU K) (tVar 7) ((tC (.int 1)))))) ((tTest (tOp rGtU (tVar 7) ((tC (.int 12)))))))) ((tIfS ((tTest (tOp (rNeU K) ((tOp (rIx K) (tVar 12) ((tC (.int 0))))) ((tC (.str "BadStage")))))) ((tRet ((tC (.bl false))))) (tNext))) ((tIfS ((tOr ((tTest (tOp (rNeU K) ((tOp (rIx K) (tVar 12) ((tC (.int 0))))) ((tC (.str "")))))) ((tNot ((tTru K ((tCall (sp_law_same K) [] E0 (tCons ((tOp (rIx K) (tVar 12) ((tC (.int 1))))) (tCons ((tThen ((tLstRg (tRg2 ((tC (.int 1))) ((tOp (rAddU K) (tVar 7) ((tC (.int 1)))))))) (kTupD K))) tNil)))))))))) ((tRet ((tC (.bl false))))) (tNext))))
  (tSeq (tIfS ((tOr ((tNot ((tTru K ((tCall (sp_law_same K) [] E0 (tCons ((tC (.str "1234567890ET"))) (tCons ((tC (.str "1234567890ET"))) tNil)))))))) ((tNot ((tTru K ((tCall (sp_law_same K) [] E0 (tCons ((tCall (sp_is_row K) [] E0 (tCons (tVar 3) tNil))) (tCons ((tC (.bl true))) tNil)))))))))) ((tRet ((tC (.bl false))))) (tNext))
  (tSeq (tAsg ((tCall (sp_law_pool K) [] E0 (tCons (tVar 0) (tCons ((tC (.int 2))) tNil)))) (gName 13))
  (tSeq (tFor (iRng1 (tCons ((tC (.int 4))) tNil)) (gName 14) (tSeq (tAsg ((tCall (sp_law_value K) [] E0 (tCons (tVar 13) (tCons (tVar 3) (tCons (tVar 4) tNil))))) (gName 15))
  ((tIfS ((tNot ((tTru K ((tCall (sp_law_same K) [] E0 (tCons ((tCall (sp_is_row K) [] E0 (tCons (tVar 15) tNil))) (tCons ((tCall (sp_law_row_by_count K) [] E0 (tCons (tVar 15) tNil))) tNil)))))))) ((tRet ((tC (.bl false))))) (tNext)))))
  (tSeq (tAsg ((tCall (sp_law_read K) [] E0 (tCons (tVar 7) (tCons (tVar 6) tNil)))) (gName 16))
  ((tRet ((tAndV ((tOp (rEqU K) ((tOp (rIx K) (tVar 16) ((tC (.int 0))))) ((tOp (rIx K) (tVar 9) ((tC (.int 0))))))) ((tCall (sp_law_same K) [] E0 (tCons ((tOp (rIx K) (tVar 16) ((tC (.int 1))))) (tCons ((tOp (rIx K) (tVar 9) ((tC (.int 1))))) tNil)))))))))))))))))))))))))))))
/-- what an answer to a text says -/
def Key (s : Int) (l : List Nat) (kind : Str) (d : Dat) : Prop := (¬ Stg s ∧ kind = "BadStage" ∧ d = .non) ∨ (Stg s ∧ ¬ OkT s.toNat l ∧ kind = "BadRow" ∧ d = .non) ∨ (Stg s ∧ OkT s.toNat l ∧ kind = "" ∧ d = .tup ((l.map blC).map Dat.int))
theorem key_one {s : Int} {l : List Nat} {k1 k2 : Str} {d1 d2 : Dat} (h1 : Key s l k1 d1) (h2 : Key s l k2 d2) : k1 = k2 ∧ d1 = d2 := by
  rcases h1 with ⟨a, b, c⟩ | ⟨a, b, c, d⟩ | ⟨a, b, c, d⟩ <;> rcases h2 with ⟨e, f, g⟩ | ⟨e, f, g, h⟩ | ⟨e, f, g, h⟩
  · exact ⟨b.trans f.symm, c.trans g.symm⟩
  · exact absurd e a
  · exact absurd e a
  · exact absurd a e
  · exact ⟨c.trans g.symm, d.trans h.symm⟩
  · exact absurd f b
  · exact absurd a e
  · exact absurd b f
  · exact ⟨c.trans g.symm, d.trans h.symm⟩
theorem key_size {s : Int} {l : List Nat} {k : Str} {d : Dat} (h : Key s l k d) : d.size ≤ 1000000 := by
  rcases h with ⟨a, b, rfl⟩ | ⟨a, b, c, rfl⟩ | ⟨a, b, c, rfl⟩
  · decide
  · decide
  · have := b.1
    have hs : s ≤ 12 := a.2
    rw [size_row, List.length_map]
    omega
section
variable {K : PySem.W.Frag} {ec : Str → Addr} {vs : List V} {H H' : Hp} {Q : VK} {E : XK} {p : Addr}
theorem len_law (h : sp_law K vs H Q E) : vs.length = 1 := by obtain ⟨a, ns, rfl, _⟩ := h; rfl
theorem ans_key {s : Int} {l : List Nat} (k : ∀ p kind v d H', Same H H' → H' p = some (.lst [.str kind, v]) → Key s l kind d → Rp K H' v d → Q (.ref p) H') : Ans K s l H Q :=
  ⟨fun hs p H' s' e => k p _ _ _ H' s' e (.inl ⟨hs, rfl, rfl⟩) .non, fun hs ho p H' s' e => k p _ _ _ H' s' e (.inr (.inl ⟨hs, ho, rfl, rfl⟩)) .non, fun hs ho p t H' s' e et => k p _ _ _ H' s' e (.inr (.inr ⟨hs, ho, rfl, rfl⟩)) (rp_ints et)⟩
theorem sqT_via {a : Addr} {xs : List V} (np : H p = none) (b : But p H H') (h : SqT K H a xs) : SqT K H' a xs := by
  rcases h with (h | ⟨o, h⟩) | h
  · exact .inl (.inl (b _ _ (ne_of_none h np) h))
  · exact .inl (.inr ⟨o, b _ _ (ne_of_none h np) h⟩)
  · exact .inr h
theorem noD_via {a : Addr} (np : H p = none) (b : But p H H') (h : NoD H a) : NoD H' a := by
  obtain ⟨o, u, e, d⟩ := h
  exact ⟨o, u, b _ _ (ne_of_none e np) e, d⟩
theorem rp_via {v : V} {d : Dat} (np : H p = none) (b : But p H H') (h : Rp K H v d) : Rp K H' v d := rp_keep (fun _ _ h => sqT_via np b h) h
structure Sit (K : PySem.W.Frag) (a0 : Addr) (ns : List Int) (a : Addr) (r : List Int) (pd : Addr) (kind : Str) (v : V) (d : Dat) (H : Hp) : Prop where
  hA : SqL K H a0 (ns.map V.int)
  hr : SqT K H a (r.map V.int)
  hn : NoD H a
  hd : H pd = some (.lst [.str kind, v])
  hv : Rp K H v d
theorem Sit.same {a0 a pd : Addr} {ns r : List Int} {kind : Str} {v : V} {d : Dat} (s : Same H H') (h : Sit K a0 ns a r pd kind v d H) : Sit K a0 ns a r pd kind v d H' := ⟨sqL_same s h.hA, sqT_same s h.hr, noD_same s h.hn, s _ _ h.hd, rp_same s h.hv⟩
theorem Sit.via {a0 a pd : Addr} {ns r : List Int} {kind : Str} {v : V} {d : Dat} (np : H p = none) (b : But p H H') (h : Sit K a0 ns a r pd kind v d H) : Sit K a0 ns a r pd kind v d H' := ⟨sqL_via np b h.hA, sqT_via np b h.hr, noD_via np b h.hn, b _ _ (ne_of_none h.hd np) h.hd, rp_via np b h.hv⟩
theorem pure_law (h : sp_law K vs H Q E) : t_law K (En Q) (start N_law vs) H := by
  obtain ⟨a0, ns, rfl, hA, hn, q⟩ := h
  unfold t_law
  walk_at "rd"
  refine ⟨a0, ns, 0, rfl, hA, hn, by omega, fun p0 H1 np0 s1 hp1 => ?_⟩
  walk_at "rd"
  refine r_draw hp1 (by omega) (by omega) fun v H2 v0 v1 b2 hp2 => ?_
  obtain ⟨n, en⟩ : ∃ n : Nat, 1 + v = (n : Int) := ⟨(1 + v).toNat, by omega⟩
  have n1 : 1 ≤ n := by omega
  have n2 : n ≤ 12 := by omega
  walk_at "rd"
  rw [en]
  refine ⟨p0, n, rfl, hp2, by omega, fun a H3 r na b3 hp3 ea hr nda => ?_⟩
  have b13 : But p0 H H3 := ((Same.but s1).trans b2).trans b3
  have hA3 := sqL_via np0 b13 hA
  have hrb : ∀ x ∈ r, 1 ≤ x ∧ x ≤ 12 := fun x hx => by have := hr.2.2 x hx; omega
  have hrl : r.length = n := hr.1
  walk_at "rd"
  refine lc_signsT (by show 17 < 18; decide) ea hrb (by omega) fun q1 H4 nq1 s4 e4 => ?_
  walk_at "rd"
  refine join_signs e4 (by omega) ?_
  have gl : (r.map sgAt).length = n := by rw [List.length_map]; exact hrl
  have hA4 := sqL_same s4 hA3
  have ea4 := sqT_same s4 ea
  have nda4 := noD_same s4 nda
  refine r_name ?_
  walk_at "rd"
  refine ⟨a0, ns, 1, rfl, hA4, hn, by omega, fun p1 H5 np1 s5 hp5 => ?_⟩
  walk_at "rd"
  refine ⟨p1, r.map sgAt, rfl, hp5, by omega, by omega, fun c hc => ?_, fun z H6 b6 hp6 zl => ?_⟩
  · obtain ⟨x, hx, rfl⟩ := List.mem_map.mp hc
    have hm := (blC_at (hrb x hx).1 (hrb x hx).2).2
    have : ∀ c ∈ signsL, c < 128 := by decide
    exact this _ hm
  have b56 : But p1 H4 H6 := (Same.but s5).trans b6
  walk_at "rd"
  refine r_draw hp6 (by omega) (by omega) fun w H7 w0 w1 b7 hp7 => ?_
  refine r_name ?_
  refine r_key2 (R := fun σ' H' => ∃ A : Int, σ' = [some (.ref a0), some (.ref p0), some (.int (n : Int)), some (.ref a), some (.str (S (r.map sgAt))), some (.ref p1), some (.str (S z)), some (.int A), some (.int w), none, none, none, none, none, none, none, none, none] ∧ But p1 H4 H') (fun tb key => ?_) (fun σ' H8 hW => ?_)
  · walk_at "rd"
    refine r_ite (fun h0 => ?_) (fun h0 => ?_)
    · walk_at "rd"
      refine r_draw hp7 (by omega) (by omega) fun w2 H8 w20 w21 b8 hp8 => ?_
      walk_at "rd"
      refine r_iteM (by omega) ?_
      walk_at "rd"
      exact key _ _ ⟨_, rfl, (b56.trans b7).trans b8⟩
    · walk_at "rd"
      refine r_ite (fun h1 => ?_) (fun h1 => ?_)
      · walk_at "rd"
        refine ⟨p1, rfl, hp7, fun A H8 b8 hp8 => ?_⟩
        refine r_name ?_
        exact key _ _ ⟨_, rfl, (b56.trans b7).trans b8⟩
      · walk_at "rd"
        exact key _ _ ⟨_, rfl, b56.trans b7⟩
  obtain ⟨A, rfl, b8⟩ := hW
  have hA8 := sqL_via np1 b8 hA4
  have ea8 := sqT_via np1 b8 ea4
  have nda8 := noD_via np1 b8 nda4
  walk_at "rd"
  refine ⟨A, z, rfl, by omega, ans_key fun pd kind v d H9 s9 e9 hk hv => ?_⟩
  have S9 : Sit K a0 ns a r pd kind v d H9 := ⟨sqL_same s9 hA8, sqT_same s9 ea8, noD_same s9 nda8, e9, hv⟩
  have dz := key_size hk
  walk_at "rd"
  refine ⟨A, z, rfl, by omega, ans_key fun pf kind' v' d' H10 s10 e10 hk' hv' => ?_⟩
  obtain ⟨rfl, rfl⟩ := key_one hk' hk
  have S10 := S9.same s10
  have ed10 := S10.hd
  have i0 : ∀ {k : Str} {v : V}, atI [V.str k, v] 0 = some (.str k) := rfl
  have i1 : ∀ {k : Str} {v : V}, atI [V.str k, v] 1 = some v := rfl
  refine r_name ?_
  refine r_key2 (R := fun σ' H' => σ' = [some (.ref a0), some (.ref p0), some (.int (n : Int)), some (.ref a), some (.str (S (r.map sgAt))), some (.ref p1), some (.str (S z)), some (.int A), some (.int w), some (.ref pd), some (.ref pf), none, none, none, none, none, none, none] ∧ Same H10 H') (fun tb key => ?_) (fun σ' H12 hW => ?_)
  · walk_at "rd"
    refine r_iteNP rfl ?_
    walk_at "rd"
    refine ⟨v', v, d', rfl, hv', S10.hv, dz, fun H11 s11 => ?_⟩
    have S11 := S10.same s11
    have ed11 := S11.hd
    walk_at "rd"
    rcases hk with ⟨x1, rfl, rfl⟩ | ⟨x1, x2, rfl, rfl⟩ | ⟨x1, x2, rfl, rfl⟩
    · refine r_iteM (by decide) ?_
      walk_at "rd"
      exact key _ _ ⟨rfl, s11⟩
    · refine r_iteM (by decide) ?_
      walk_at "rd"
      exact key _ _ ⟨rfl, s11⟩
    · refine r_iteP rfl ?_
      have hA12 : A ≤ 12 := x1.2
      have okr := ok_row (by omega) x2
      cases hv' : v with
      | ref t =>
        subst hv'
        have hvt := S11.hv
        cases hvt with
        | @tup _ xs ds ht hds =>
          have exs : xs = (z.map blC).map V.int := by
            have := rpL_all hds fun e he => by
              obtain ⟨i, _, rfl⟩ := List.mem_map.mp he
              exact ⟨i, rfl⟩
            rw [this]
            congr 1
            rw [List.map_map]
            exact List.map_id _
          rw [exs] at ht
          walk_at "rd"
          have hzl := okr.1.1
          rw [List.length_map] at hzl
          refine ⟨t, z.map blC, rfl, ht, fun x hx => by have := okr.1.2.2 x hx; omega, by rw [List.length_map]; omega, fun H12 s12 => ?_⟩
          rw [okr.2.1]
          walk_at "rd"
          refine ⟨.str (S z), .str (S z), .str (S z), rfl, .str _, .str _, by show 1 ≤ 1000000; decide, fun H13 s13 => ?_⟩
          walk_at "rd"
          exact key _ _ ⟨rfl, (s11.trans s12).trans s13⟩
      | int _ => subst hv'; cases S11.hv
      | bl _ => subst hv'; cases S11.hv
      | str _ => subst hv'; cases S11.hv
      | non => subst hv'; cases S11.hv
      | _ => subst hv'; cases S11.hv
  obtain ⟨rfl, s12⟩ := hW
  have S12 := S10.same s12
  have okg := row_ok n2 hr
  have hS : Stg (n : Int) := ⟨by omega, by omega⟩
  walk_at "rd"
  refine ⟨n, r.map sgAt, rfl, by omega, fun hs => absurd hS hs, fun _ ho => absurd (by rw [Int.toNat_natCast]; exact okg.1) ho, fun _ _ pp t H13 s13 e13 et13 => ?_⟩
  rw [okg.2] at et13
  have S13 := S12.same s13
  walk_at "rd"
  refine r_iteNP rfl ?_
  walk_at "rd"
  refine ⟨.ref t, .ref a, .tup (r.map Dat.int), rfl, rp_ints et13, rp_ints S13.hr, by rw [size_row]; omega, fun H14 s14 => ?_⟩
  have S14 := S13.same s14
  walk_at "rd"
  refine ⟨a, r, rfl, S14.hr, hrb, by omega, fun H15 s15 => ?_⟩
  have S15 := S14.same s15
  walk_at "rd"
  refine ⟨.str _, .str _, .str (S (r.map sgAt)), rfl, .str _, .str _, by show 1 ≤ 1000000; decide, fun H16 s16 => ?_⟩
  have S16 := S15.same s16
  walk_at "rd"
  have home : ∀ (k : V → Hp → Prop), (∀ ph kind' v' H', Same H16 H' → H' ph = some (.lst [.str kind', v']) → ((¬ Stg A ∧ kind' = "BadStage") ∨ (Stg A ∧ kind' = "" ∧ ∃ t, v' = .ref t ∧ SqT K H' t ((roundsR A.toNat).map V.int))) → k (.ref ph) H') → sp_law_home K ([.int A] ++ []) H16 k E0 := fun k hk =>
    ⟨A, rfl, fun hs p H' s e => hk p _ _ H' s e (.inl ⟨hs, rfl⟩), fun hs p t H' s e et => hk p _ _ H' s e (.inr ⟨hs, rfl, t, rfl, et⟩)⟩
  refine home _ fun ph kind' v' H17 s17 e17 alt => ?_
  have S17 := S16.same s17
  refine r_name ?_
  refine r_key (R := fun σ' H' => σ' = [some (.ref a0), some (.ref p0), some (.int (n : Int)), some (.ref a), some (.str (S (r.map sgAt))), some (.ref p1), some (.str (S z)), some (.int A), some (.int w), some (.ref pd), some (.ref pf), some (.ref pp), some (.ref ph), none, none, none, none, none] ∧ Same H17 H') (fun tb key => ?_) (fun σ' H18 hW => ?_)
  · rcases alt with ⟨hns, rfl⟩ | ⟨hs, rfl, t', rfl, et'⟩
    · walk_at "rd"
      refine r_ite (fun c1 => ?_) (fun c1 => ?_)
      · walk_at "rd"
        refine r_iteNP rfl ?_
        walk_at "rd"
        exact key _ _ ⟨rfl, Same.refl _⟩
      · walk_at "rd"
        refine r_ite (fun c2 => ?_) (fun c2 => absurd ⟨by omega, by omega⟩ hns)
        walk_at "rd"
        refine r_iteNP rfl ?_
        walk_at "rd"
        exact key _ _ ⟨rfl, Same.refl _⟩
    · have hs1 : 1 ≤ A := hs.1
      have hs2 : A ≤ 12 := hs.2
      obtain ⟨m, rfl⟩ : ∃ m : Nat, A = (m : Int) := ⟨A.toNat, by omega⟩
      rw [Int.toNat_natCast] at et'
      walk_at "rd"
      refine r_iteM (by omega) ?_
      walk_at "rd"
      refine r_iteM (by omega) ?_
      walk_at "rd"
      refine r_iteNP rfl ?_
      walk_at "rd"
      refine r_new (RgOk.of_le (by omega) (by omega) (by omega) (by omega)) ?_
      intro l2 H18 nl2 s18 e18
      rw [rgV_rounds] at e18
      walk_at "rd"
      intro t2 H19 nt2 s19 e19
      walk_at "rd"
      have ml := (roundsR_row m).1
      refine ⟨.ref t', .ref t2, .tup ((roundsR m).map Dat.int), rfl, rp_ints (sqT_same (s18.trans s19) et'), rp_ints (sqT_ofD e19), by rw [size_row, ml]; omega, fun H20 s20 => ?_⟩
      walk_at "rd"
      exact key _ _ ⟨rfl, (s18.trans s19).trans s20⟩
  obtain ⟨rfl, s18⟩ := hW
  have S18 := S17.same s18
  walk_at "rd"
  refine ⟨.str "1234567890ET", .str "1234567890ET", .str "1234567890ET", rfl, .str _, .str _, by decide, fun H19 s19 => ?_⟩
  have S19 := S18.same s19
  have rD : RowD (.tup (r.map Dat.int)) := rowD_row n1 n2 hr
  walk_at "rd"
  refine ⟨.ref a, .tup (r.map Dat.int), rfl, rp_ints S19.hr, fun b hb => ?_⟩
  rw [hb.mpr rD]
  walk_at "rd"
  refine ⟨.bl true, .bl true, .bl true, rfl, .bl _, .bl _, by decide, fun H20 s20 => ?_⟩
  have S20 := S19.same s20
  have hA20 := S20.hA
  walk_at "rd"
  refine ⟨a0, ns, 2, rfl, hA20, hn, by omega, fun p2 H21 np2 s21 hp21 => ?_⟩
  walk_at "rd"
  refine r_forRange0 (fun i σ' H' => ∃ (z14 z15 : Option V), σ' = [some (.ref a0), some (.ref p0), some (.int (n : Int)), some (.ref a), some (.str (S (r.map sgAt))), some (.ref p1), some (.str (S z)), some (.int A), some (.int w), some (.ref pd), some (.ref pf), some (.ref pp), some (.ref ph), some (.ref p2), z14, z15, none, none] ∧ But p2 H20 H' ∧ Pl H' p2)
    ⟨none, none, rfl, Same.but s21, hp21⟩ (fun i σ' H' hi hW => ?_) (fun σ' H' hW => ?_)
  · obtain ⟨z14, z15, rfl, b22, hp22⟩ := hW
    have S22 := S20.via np2 b22
    walk_at "rd"
    refine ⟨p2, a, r, r.map sgAt, rfl, hp22, S22.hr, S22.hn, by omega, by omega, by rw [List.length_map], fun x H23 dx b23 hp23 hx => ?_⟩
    refine r_name ?_
    walk_at "rd"
    refine ⟨x, dx, rfl, hx.1, fun b1 hb1 => ?_⟩
    walk_at "rd"
    refine ⟨x, dx, rfl, hx, fun b2 hb2 => ?_⟩
    have e12 : b1 = b2 := by
      rw [Bool.eq_iff_iff, hb1, hb2]
    subst e12
    refine ⟨.bl b1, .bl b1, .bl b1, rfl, .bl _, .bl _, by show 1 ≤ 1000000; decide, fun H24 s24 => ?_⟩
    walk_at "rd"
    exact ⟨_, _, rfl, (b22.trans b23).trans (Same.but s24), pl_same s24 hp23⟩
  · obtain ⟨z14, z15, rfl, b22, hp22⟩ := hW
    have S22 := S20.via np2 b22
    walk_at "rd"
    refine ⟨A, z, rfl, by omega, ans_key fun pf k3 v3 d3 H23 s23 e23 hk3 hv3 => ?_⟩
    obtain ⟨rfl, rfl⟩ := key_one hk3 hk
    have S23 := S22.same s23
    have ed23 := S23.hd
    walk_at "rd"
    rw [decide_eq_true rfl]
    refine r_T ?_
    walk_at "rd"
    exact ⟨v3, v, _, rfl, hv3, S23.hv, dz, fun H24 s24 => q H24⟩
end
end K0
end Kb
set_option Elab.async false
set_option linter.all false
set_option maxRecDepth 100000
set_option maxHeartbeats 4000000
namespace Kb
namespace K0
open PySem PySem.Spec PyProof.Rows L2 SX
theorem hu65 {A : Around} {k : Nat} (hr : Room k A) : A.units + 65 < cLine := by
  have := hr.un
  omega
def top (i : Nat) : Stmt := PySem.Challenge.pw_ringingchamber_k00_rows_read_and_written.main.body.getD i (.Pass ⟨0, 0, 0, 0⟩)
abbrev s_check_stage : Stmt := top 7
abbrev s_is_number : Stmt := top 8
abbrev s_is_row : Stmt := top 9
abbrev s_rounds : Stmt := top 10
abbrev s_write_row : Stmt := top 11
abbrev s_read_row : Stmt := top 12
abbrev s_law_cell : Stmt := top 14
abbrev s_law_pool : Stmt := top 15
abbrev s_law_draw : Stmt := top 16
abbrev s_law_row_draw : Stmt := top 17
abbrev s_law_same : Stmt := top 18
abbrev s_law_bent : Stmt := top 19
abbrev s_law_sign : Stmt := top 20
abbrev s_law_bent_text : Stmt := top 21
abbrev s_law_no_stage : Stmt := top 22
abbrev s_law_due : Stmt := top 23
abbrev s_law_read : Stmt := top 24
abbrev s_law_home : Stmt := top 25
abbrev s_law_value : Stmt := top 26
abbrev s_law_row_by_count : Stmt := top 27
abbrev s_law : Stmt := top 28
structure Bn (mg : Str → Option Value) : Prop where
  n_ValueError : mg "ValueError" = none
  n_abs : mg "abs" = none
  n_bool : mg "bool" = none
  n_int : mg "int" = none
  n_isinstance : mg "isinstance" = none
  n_len : mg "len" = none
  n_list : mg "list" = none
  n_range : mg "range" = none
  n_set : mg "set" = none
  n_str : mg "str" = none
  n_tuple : mg "tuple" = none
  c_SIGNS : ∃ t, mg "SIGNS" = some (.str "1234567890ET" t)
abbrev i_ChamberError : Stmt := inClass (top 1) 0
abbrev i_BadStage : Stmt := inClass (top 2) 0
abbrev i_BadRow : Stmt := inClass (top 3) 0
section
variable {P : Program} {w : World} {K : PySem.W.Frag} {mg : Str → Option Value} {base : Heap}
theorem sc_check_stage : FnScope N_check_stage ["stage"] (defScope s_check_stage) := ⟨rfl, rfl, rfl, by decide +kernel, rfl, by decide +kernel, by decide +kernel⟩
theorem ok_check_stage (D : At K mg "check_stage" s_check_stage) (B : Bn mg) {ec : Str → Addr} (XS : Exs K ec XN) (EX : ExAt mg ec XN) (Z_BadStage : Rz0 P w K mg base "BadStage" (ec "BadStage")) : Fn P w K mg base (L2.CX P w) 4 "check_stage" ["stage"] (sp_check_stage K ec) := by
  obtain ⟨f, fd, F, hm⟩ := D
  refine ⟨f, fd, F.okX sc_check_stage (fun vs H Q E h => len_check_stage h) (fun cdv A outer s H vs Q E hr h => ⟨t_check_stage K ec E, ?_, pure_check_stage XS h⟩), hm, F.kp, F.binds fun _ _ _ _ _ _ us hl => match us, hl with | [_], _ => rfl⟩
  have nd := sc_check_stage.nd
  exact pss_one (ps_if ((pt_not ((pt_chain (op_leU hr.units) (op_leU hr.units) (pe_int) (pv 0) ((pe_callB call_lenU (by rfl) B.n_len (by decide +kernel) (pa_cons ((pe_glob rfl B.c_SIGNS.choose_spec ⟨_, rfl⟩)) pa_nil))))))) (pss_one (ps_rz0 rfl (takes_of rfl rfl rfl rfl) Z_BadStage (hr.mono (by decide)) (by rfl))) (pss_nil))
theorem sc_is_number : FnScope N_is_number ["told"] (defScope s_is_number) := ⟨rfl, rfl, rfl, by decide +kernel, rfl, by decide +kernel, by decide +kernel⟩
theorem ok_is_number (D : At K mg "is_number" s_is_number) (B : Bn mg) : Fn P w K mg base CX0 1 "is_number" ["told"] (sp_is_number K) := by
  obtain ⟨f, fd, F, hm⟩ := D
  refine ⟨f, fd, F.ok sc_is_number (fun vs H Q E h => len_is_number h) (fun cdv A outer s H vs Q E hr h => ⟨t_is_number K, ?_, pure_is_number h⟩), hm, F.kp, F.binds fun _ _ _ _ _ _ us hl => match us, hl with | [_], _ => rfl⟩
  have nd := sc_is_number.nd
  exact pss_one (ps_ret ((pe_and ((pe_callB call_isi (by rfl) B.n_isinstance (by decide +kernel) (pa_cons (pv 0) (pa_cons ((pe_bltn (by rfl) B.n_int (by decide +kernel) rfl)) pa_nil)))) (pe_one ((pe_not ((pe_callB call_isi (by rfl) B.n_isinstance (by decide +kernel) (pa_cons (pv 0) (pa_cons ((pe_bltn (by rfl) B.n_bool (by decide +kernel) rfl)) pa_nil))))))))))
theorem sc_is_row : FnScope N_is_row ["told"] (defScope s_is_row) := ⟨rfl, rfl, rfl, by decide +kernel, rfl, by decide +kernel, by decide +kernel⟩
theorem ok_is_row (D : At K mg "is_row" s_is_row) (B : Bn mg) (G_is_number : Fn P w K mg base CX0 1 "is_number" ["told"] (sp_is_number K)) : Fn P w K mg base CX0 2 "is_row" ["told"] (sp_is_row K) := by
  obtain ⟨f, fd, F, hm⟩ := D
  refine ⟨f, fd, F.ok sc_is_row (fun vs H Q E h => len_is_row h) (fun cdv A outer s H vs Q E hr h => ⟨t_is_row K, ?_, pure_is_row h⟩), hm, F.kp, F.binds fun _ _ _ _ _ _ us hl => match us, hl with | [_], _ => rfl⟩
  have nd := sc_is_row.nd
  exact pss_cons (ps_if ((PW.pt (pw_or ((pt_not ((pt_truU ((pe_callB call_isi (by rfl) B.n_isinstance (by decide +kernel) (pa_cons (pv 0) (pa_cons ((pe_bltn (by rfl) B.n_tuple (by decide +kernel) rfl)) pa_nil)))) (by intro _; rfl))))) (pw_or1 ((pt_not ((pt_chain (op_leU hr.units) (op_leU hr.units) (pe_int) ((pe_callB call_lenU (by rfl) B.n_len (by decide +kernel) (pa_cons (pv 0) pa_nil))) ((pe_callB call_lenU (by rfl) B.n_len (by decide +kernel) (pa_cons ((pe_glob rfl B.c_SIGNS.choose_spec ⟨_, rfl⟩)) pa_nil))))))))))) (pss_one (ps_ret (pe_bl))) (pss_nil))
      (pss_cons (ps_for PassesOwn.never rfl (pi_seqU (pv 0)) (pg_name (i := 1) nd rfl (Or.inl rfl)) (pss_one (ps_if ((PW.pt (pw_or ((pt_not ((pt_truU ((pe_callF G_is_number (hr.mono (by decide)) (by rfl) pass0 (pa_cons (pv 1) pa_nil))) (by intro _; rfl))))) (pw_or1 ((pt_not ((pt_chain (op_leU hr.units) (op_leU hr.units) (pe_int) (pv 1) ((pe_callB call_lenU (by rfl) B.n_len (by decide +kernel) (pa_cons (pv 0) pa_nil))))))))))) (pss_one (ps_ret (pe_bl))) (pss_nil))))
      (pss_one (ps_ret ((pe_cmpR (op_eqU hr.units) ((pe_lenSetT rfl (by rfl) B.n_len (by rfl) B.n_set (pv 0))) ((pe_callB call_lenU (by rfl) B.n_len (by decide +kernel) (pa_cons (pv 0) pa_nil))) (nomark _))))))
theorem sc_rounds : FnScope N_rounds ["stage"] (defScope s_rounds) := ⟨rfl, rfl, rfl, by decide +kernel, rfl, by decide +kernel, by decide +kernel⟩
theorem ok_rounds (D : At K mg "rounds" s_rounds) (B : Bn mg) {ec : Str → Addr} (XS : Exs K ec XN) (EX : ExAt mg ec XN) (G_check_stage : Fn P w K mg base (L2.CX P w) 4 "check_stage" ["stage"] (sp_check_stage K ec)) : Fn P w K mg base (L2.CX P w) 5 "rounds" ["stage"] (sp_rounds K ec) := by
  obtain ⟨f, fd, F, hm⟩ := D
  refine ⟨f, fd, F.okX sc_rounds (fun vs H Q E h => len_rounds h) (fun cdv A outer s H vs Q E hr h => ⟨t_rounds K ec E, ?_, pure_rounds XS h⟩), hm, F.kp, F.binds fun _ _ _ _ _ _ us hl => match us, hl with | [_], _ => rfl⟩
  have nd := sc_rounds.nd
  exact pss_cons (ps_expr ((pe_callW (takes_of rfl rfl rfl rfl) G_check_stage (hr.mono (by decide)) (by rfl) (pa_cons (pv 0) pa_nil))))
      (pss_one (ps_ret ((pe_tupRg rfl (by rfl) B.n_tuple (prg_2 (by rfl) B.n_range (pe_int) ((pe_op op_addU (pv 0) (pe_int))))))))
theorem sc_write_row : FnScope N_write_row ["row"] (defScope s_write_row) := ⟨rfl, rfl, rfl, by decide +kernel, rfl, by decide +kernel, by decide +kernel⟩
theorem ok_write_row (D : At K mg "write_row" s_write_row) (B : Bn mg) : Fn P w K mg base CX0 1 "write_row" ["row"] (sp_write_row K) := by
  obtain ⟨f, fd, F, hm⟩ := D
  refine ⟨f, fd, F.ok sc_write_row (fun vs H Q E h => len_write_row h) (fun cdv A outer s H vs Q E hr h => ⟨t_write_row K, ?_, pure_write_row h⟩), hm, F.kp, F.binds fun _ _ _ _ _ _ us hl => match us, hl with | [_], _ => rfl⟩
  have nd := sc_write_row.nd
  exact pss_one (ps_ret ((pe_bm PySem.F.plainAttrs_str PySem.F.slot_str_join PySem.F.type_str_join mt_join (pe_str) (pa_cons ((pe_lc (own := [("bell", 1)]) (g := (gName 1)) (tt := tYes) rfl nd ((pi_seqU (pv 0))) (blkOk_by (N := (N_write_row : List Str)) (sc := defScope s_write_row) (by decide +kernel)) (fun _ _ _ _ _ => (pg_name (i := 1) nd rfl (Or.inl rfl))) (fun _ _ _ _ _ => pts_nil) (fun _ _ _ _ _ => (pe_ix ix_seq ((pe_glob rfl B.c_SIGNS.choose_spec ⟨_, rfl⟩)) ((pe_op op_subU (pv 1) (pe_int))) (fun _ _ => rfl))))) pa_nil))))
theorem sc_read_row : FnScope N_read_row ["stage", "text"] (defScope s_read_row) := ⟨rfl, rfl, rfl, by decide +kernel, rfl, by decide +kernel, by decide +kernel⟩
theorem ok_read_row (D : At K mg "read_row" s_read_row) (B : Bn mg) {ec : Str → Addr} (XS : Exs K ec XN) (EX : ExAt mg ec XN) (G_check_stage : Fn P w K mg base (L2.CX P w) 4 "check_stage" ["stage"] (sp_check_stage K ec)) (Z_BadRow : Rz0 P w K mg base "BadRow" (ec "BadRow")) : Fn P w K mg base (L2.CX P w) 5 "read_row" ["stage", "text"] (sp_read_row K ec) := by
  obtain ⟨f, fd, F, hm⟩ := D
  refine ⟨f, fd, F.okX sc_read_row (fun vs H Q E h => len_read_row h) (fun cdv A outer s H vs Q E hr h => ⟨t_read_row K ec E, ?_, pure_read_row XS h⟩), hm, F.kp, F.binds fun _ _ _ _ _ _ us hl => match us, hl with | [_, _], _ => rfl⟩
  have nd := sc_read_row.nd
  exact pss_cons (ps_expr ((pe_callW (takes_of rfl rfl rfl rfl) G_check_stage (hr.mono (by decide)) (by rfl) (pa_cons (pv 0) pa_nil))))
      (pss_cons (ps_if ((pt_cmpR (op_neU hr.units) ((pe_callB call_lenU (by rfl) B.n_len (by decide +kernel) (pa_cons (pv 1) pa_nil))) (pv 0) (nomark _))) (pss_one (ps_rz0 rfl (takes_of rfl rfl rfl rfl) Z_BadRow (hr.mono (by decide)) (by rfl))) (pss_nil))
      (pss_cons (ps_set (i := 2) nd rfl (Or.inl rfl) ((pe_lst pa_nil)))
      (pss_cons (ps_for (passes_of rfl) rfl (pi_seqU (pv 1)) (pg_name (i := 3) nd rfl (Or.inl rfl)) (pss_cons (ps_set (i := 4) nd rfl (Or.inl rfl) ((pe_op op_addU ((pe_bm PySem.F.plainAttrs_str PySem.F.slot_str_find PySem.F.type_str_find mt_find ((pe_glob rfl B.c_SIGNS.choose_spec ⟨_, rfl⟩)) (pa_cons (pv 3) pa_nil))) (pe_int))))
      (pss_cons (ps_if ((PW.pt (pw_or ((pt_not ((pt_chain (op_leU hr.units) (op_leU hr.units) (pe_int) (pv 4) (pv 0))))) (pw_or1 ((pt_cmpR op_inU (pv 4) (pv 2) (by with_unfolding_all rfl))))))) (pss_one (ps_rz0 rfl (takes_of rfl rfl rfl rfl) Z_BadRow (hr.mono (by decide)) (by rfl))) (pss_nil))
      (pss_one (ps_expr ((pe_bm PySem.F.plainAttrs_list PySem.F.slot_list_append PySem.F.type_list_append mt_append (pv 2) (pa_cons (pv 4) pa_nil))))))))
      (pss_one (ps_ret ((pe_tupD (by rfl) B.n_tuple (pv 2))))))))
theorem sc_law_cell : FnScope N_law_cell ["script", "k"] (defScope s_law_cell) := ⟨rfl, rfl, rfl, by decide +kernel, rfl, by decide +kernel, by decide +kernel⟩
theorem ok_law_cell (D : At K mg "_law_cell" s_law_cell) (B : Bn mg) : Fn P w K mg base CX0 1 "_law_cell" ["script", "k"] (sp_law_cell K) := by
  obtain ⟨f, fd, F, hm⟩ := D
  refine ⟨f, fd, F.ok sc_law_cell (fun vs H Q E h => len_law_cell h) (fun cdv A outer s H vs Q E hr h => ⟨t_law_cell K, ?_, pure_law_cell h⟩), hm, F.kp, F.binds fun _ _ _ _ _ _ us hl => match us, hl with | [_, _], _ => rfl⟩
  have nd := sc_law_cell.nd
  exact pss_cons (ps_if ((pt_cmpR (op_ltU hr.units) (pv 1) ((pe_callB call_lenU (by rfl) B.n_len (by decide +kernel) (pa_cons (pv 0) pa_nil))) (nomark _))) (pss_one (ps_ret ((pe_callB call_absU (by rfl) B.n_abs (by decide +kernel) (pa_cons ((pe_callTy call_intU (by rfl) B.n_int (by decide +kernel) (pa_cons ((pe_ix ix_seq (pv 0) (pv 1) (fun _ _ => rfl))) pa_nil))) pa_nil))))) (pss_nil))
      (pss_cons (ps_if ((pt_cmpR (op_eqU hr.units) ((pe_callB call_lenU (by rfl) B.n_len (by decide +kernel) (pa_cons (pv 0) pa_nil))) (pe_int) (nomark _))) (pss_one (ps_ret (pe_int))) (pss_nil))
      (pss_one (ps_ret ((pe_op op_modU ((pe_callB call_absU (by rfl) B.n_abs (by decide +kernel) (pa_cons ((pe_callTy call_intU (by rfl) B.n_int (by decide +kernel) (pa_cons ((pe_ix ix_seq (pv 0) ((pe_op op_modU ((pe_callTy call_intU (by rfl) B.n_int (by decide +kernel) (pa_cons (pv 1) pa_nil))) ((pe_callB call_lenU (by rfl) B.n_len (by decide +kernel) (pa_cons (pv 0) pa_nil))))) (fun _ _ => rfl))) pa_nil))) pa_nil))) (pe_int))))))
theorem sc_law_pool : FnScope N_law_pool ["script", "k"] (defScope s_law_pool) := ⟨rfl, rfl, rfl, by decide +kernel, rfl, by decide +kernel, by decide +kernel⟩
theorem ok_law_pool (D : At K mg "_law_pool" s_law_pool) (B : Bn mg) (G_law_cell : Fn P w K mg base CX0 1 "_law_cell" ["script", "k"] (sp_law_cell K)) : Fn P w K mg base CX0 2 "_law_pool" ["script", "k"] (sp_law_pool K) := by
  obtain ⟨f, fd, F, hm⟩ := D
  refine ⟨f, fd, F.ok sc_law_pool (fun vs H Q E h => len_law_pool h) (fun cdv A outer s H vs Q E hr h => ⟨t_law_pool K, ?_, pure_law_pool h⟩), hm, F.kp, F.binds fun _ _ _ _ _ _ us hl => match us, hl with | [_, _], _ => rfl⟩
  have nd := sc_law_pool.nd
  exact pss_cons (ps_set (i := 2) nd rfl (Or.inl rfl) ((pe_callF G_law_cell (hr.mono (by decide)) (by rfl) pass0 (pa_cons (pv 0) (pa_cons (pv 1) pa_nil)))))
      (pss_cons (ps_if ((pt_cmpR op_geU (pv 2) ((pe_op op_powU (pe_int) (pe_int))) (nomark _))) (pss_one (ps_ret ((pe_lst (pa_cons ((pe_op op_subU (pv 2) ((pe_op op_powU (pe_int) (pe_int))))) (pa_cons ((pe_op op_modU ((pe_callTy call_intU (by rfl) B.n_int (by decide +kernel) (pa_cons (pv 2) pa_nil))) (pe_int))) (pa_cons (pe_int) pa_nil))))))) (pss_nil))
      (pss_one (ps_ret ((pe_lst (pa_cons (pe_int) (pa_cons ((pe_op op_addU (pv 2) ((pe_op op_mulU (pe_int) ((pe_op op_addU (pv 1) (pe_int))))))) (pa_cons (pe_int) pa_nil))))))))
theorem sc_law_draw : FnScope N_law_draw ["pool", "many"] (defScope s_law_draw) := ⟨rfl, rfl, rfl, by decide +kernel, rfl, by decide +kernel, by decide +kernel⟩
theorem ok_law_draw (D : At K mg "_law_draw" s_law_draw) (B : Bn mg) : Fn P w K mg base CX0 1 "_law_draw" ["pool", "many"] (sp_law_draw K) := by
  obtain ⟨f, fd, F, hm⟩ := D
  refine ⟨f, fd, F.ok sc_law_draw (fun vs H Q E h => len_law_draw h) (fun cdv A outer s H vs Q E hr h => ⟨t_law_draw K, ?_, pure_law_draw h⟩), hm, F.kp, F.binds fun _ _ _ _ _ _ us hl => match us, hl with | [_, _], _ => rfl⟩
  have nd := sc_law_draw.nd
  exact pss_cons (ps_asg ((pe_op op_addU ((pe_ix ix_seq (pv 0) (pe_int) (fun _ _ => rfl))) (pe_int))) (pg_sub (pv 0) (pe_int) set_list))
      (pss_cons (ps_if ((pt_cmpR op_gtU ((pe_ix ix_seq (pv 0) (pe_int) (fun _ _ => rfl))) (pe_int) (nomark _))) (pss_cons (ps_set (i := 2) nd rfl (Or.inl rfl) ((pe_op op_modU ((pe_callTy call_intU (by rfl) B.n_int (by decide +kernel) (pa_cons ((pe_ix ix_seq (pv 0) (pe_int) (fun _ _ => rfl))) pa_nil))) (pv 1))))
      (pss_cons (ps_asg ((pe_op op_fdivU ((pe_ix ix_seq (pv 0) (pe_int) (fun _ _ => rfl))) (pv 1))) (pg_sub (pv 0) (pe_int) set_list))
      (pss_one (ps_ret (pv 2))))) (pss_nil))
      (pss_cons (ps_set (i := 3) nd rfl (Or.inl rfl) ((pe_op op_modU ((pe_callTy call_intU (by rfl) B.n_int (by decide +kernel) (pa_cons ((pe_op op_addU ((pe_ix ix_seq (pv 0) (pe_int) (fun _ _ => rfl))) ((pe_op op_mulU (pe_int) ((pe_ix ix_seq (pv 0) (pe_int) (fun _ _ => rfl))))))) pa_nil))) (pe_int))))
      (pss_cons (ps_set (i := 3) nd rfl (Or.inl rfl) ((pe_op op_modU ((pe_callTy call_intU (by rfl) B.n_int (by decide +kernel) (pa_cons ((pe_op op_addU ((pe_op op_addU ((pe_op op_mulU (pv 3) (pv 3))) ((pe_op op_mulU (pe_int) ((pe_ix ix_seq (pv 0) (pe_int) (fun _ _ => rfl))))))) ((pe_ix ix_seq (pv 0) (pe_int) (fun _ _ => rfl))))) pa_nil))) (pe_int))))
      (pss_cons (ps_set (i := 3) nd rfl (Or.inl rfl) ((pe_op op_modU ((pe_callTy call_intU (by rfl) B.n_int (by decide +kernel) (pa_cons ((pe_op op_addU ((pe_op op_mulU (pv 3) (pv 3))) (pe_int))) pa_nil))) (pe_int))))
      (pss_one (ps_ret ((pe_op op_modU ((pe_callTy call_intU (by rfl) B.n_int (by decide +kernel) (pa_cons ((pe_op op_fdivU (pv 3) (pe_int))) pa_nil))) (pv 1)))))))))
theorem sc_law_row_draw : FnScope N_law_row_draw ["pool", "stage"] (defScope s_law_row_draw) := ⟨rfl, rfl, rfl, by decide +kernel, rfl, by decide +kernel, by decide +kernel⟩
theorem ok_law_row_draw (D : At K mg "_law_row_draw" s_law_row_draw) (B : Bn mg) (G_law_draw : Fn P w K mg base CX0 1 "_law_draw" ["pool", "many"] (sp_law_draw K)) : Fn P w K mg base CX0 2 "_law_row_draw" ["pool", "stage"] (sp_law_row_draw K) := by
  obtain ⟨f, fd, F, hm⟩ := D
  refine ⟨f, fd, F.ok sc_law_row_draw (fun vs H Q E h => len_law_row_draw h) (fun cdv A outer s H vs Q E hr h => ⟨t_law_row_draw K, ?_, pure_law_row_draw h⟩), hm, F.kp, F.binds fun _ _ _ _ _ _ us hl => match us, hl with | [_, _], _ => rfl⟩
  have nd := sc_law_row_draw.nd
  exact pss_cons (ps_set (i := 2) nd rfl (Or.inl rfl) ((pe_listRg rfl (by rfl) B.n_list (prg_2 (by rfl) B.n_range (pe_int) ((pe_op op_addU (pv 1) (pe_int)))))))
      (pss_cons (ps_set (i := 3) nd rfl (Or.inl rfl) ((pe_lst pa_nil)))
      (pss_cons (ps_for PassesOwn.never rfl (pi_range1 (by rfl) B.n_range (pa_cons (pv 1) pa_nil)) (pg_name (i := 4) nd rfl (Or.inl rfl)) (pss_one (ps_expr ((pe_bm PySem.F.plainAttrs_list PySem.F.slot_list_append PySem.F.type_list_append mt_append (pv 3) (pa_cons ((pe_bm PySem.F.plainAttrs_list PySem.F.slot_list_pop PySem.F.type_list_pop mt_popAt (pv 2) (pa_cons ((pe_callF G_law_draw (hr.mono (by decide)) (by rfl) pass0 (pa_cons (pv 0) (pa_cons ((pe_callB call_lenU (by rfl) B.n_len (by decide +kernel) (pa_cons (pv 2) pa_nil))) pa_nil)))) pa_nil))) pa_nil))))))
      (pss_one (ps_ret ((pe_tupD (by rfl) B.n_tuple (pv 3)))))))
theorem sc_law_same : FnScope N_law_same ["got", "due"] (defScope s_law_same) := ⟨rfl, rfl, rfl, by decide +kernel, rfl, by decide +kernel, by decide +kernel⟩
theorem ok_law_same (D : At K mg "_law_same" s_law_same) (B : Bn mg) : Fn P w K mg base CX0 1 "_law_same" ["got", "due"] (sp_law_same K) := by
  obtain ⟨f, fd, F, hm⟩ := D
  refine ⟨f, fd, F.ok sc_law_same (fun vs H Q E h => len_law_same h) (fun cdv A outer s H vs Q E hr h => ⟨t_law_same K, ?_, pure_law_same h⟩), hm, F.kp, F.binds fun _ _ _ _ _ _ us hl => match us, hl with | [_, _], _ => rfl⟩
  have nd := sc_law_same.nd
  exact pss_cons (ps_set (i := 2) nd rfl (Or.inl rfl) ((pe_lst (pa_cons ((pe_lst (pa_cons (pv 0) (pa_cons (pv 1) pa_nil)))) pa_nil))))
      (pss_cons (ps_while PassesOwn.never ((pt_truU (pv 2) (by intro _; rfl))) (pss_cons (ps_set (i := 3) nd rfl (Or.inl rfl) ((pe_bm0 PySem.F.plainAttrs_list PySem.F.slot_list_pop PySem.F.type_list_pop mt_pop (pv 2))))
      (pss_one (ps_if ((pt_truU ((pe_callB call_isi (by rfl) B.n_isinstance (by decide +kernel) (pa_cons ((pe_ix ix_seq (pv 3) (pe_int) (fun _ _ => rfl))) (pa_cons ((pe_bltn (by rfl) B.n_tuple (by decide +kernel) rfl)) pa_nil)))) (by intro _; rfl))) (pss_cons (ps_if ((PW.pt (pw_or ((pt_not ((pt_truU ((pe_callB call_isi (by rfl) B.n_isinstance (by decide +kernel) (pa_cons ((pe_ix ix_seq (pv 3) (pe_int) (fun _ _ => rfl))) (pa_cons ((pe_bltn (by rfl) B.n_tuple (by decide +kernel) rfl)) pa_nil)))) (by intro _; rfl))))) (pw_or1 ((pt_cmpR (op_neU hr.units) ((pe_callB call_lenU (by rfl) B.n_len (by decide +kernel) (pa_cons ((pe_ix ix_seq (pv 3) (pe_int) (fun _ _ => rfl))) pa_nil))) ((pe_callB call_lenU (by rfl) B.n_len (by decide +kernel) (pa_cons ((pe_ix ix_seq (pv 3) (pe_int) (fun _ _ => rfl))) pa_nil))) (nomark _))))))) (pss_one (ps_ret (pe_bl))) (pss_nil))
      (pss_one (ps_for PassesOwn.never rfl (pi_range1 (by rfl) B.n_range (pa_cons ((pe_callB call_lenU (by rfl) B.n_len (by decide +kernel) (pa_cons ((pe_ix ix_seq (pv 3) (pe_int) (fun _ _ => rfl))) pa_nil))) pa_nil)) (pg_name (i := 4) nd rfl (Or.inl rfl)) (pss_one (ps_expr ((pe_bm PySem.F.plainAttrs_list PySem.F.slot_list_append PySem.F.type_list_append mt_append (pv 2) (pa_cons ((pe_lst (pa_cons ((pe_ix ix_seq ((pe_ix ix_seq (pv 3) (pe_int) (fun _ _ => rfl))) (pv 4) (fun _ _ => rfl))) (pa_cons ((pe_ix ix_seq ((pe_ix ix_seq (pv 3) (pe_int) (fun _ _ => rfl))) (pv 4) (fun _ _ => rfl))) pa_nil)))) pa_nil)))))))) (pss_one (ps_if ((pt_truU ((pe_callB call_isi (by rfl) B.n_isinstance (by decide +kernel) (pa_cons ((pe_ix ix_seq (pv 3) (pe_int) (fun _ _ => rfl))) (pa_cons ((pe_bltn (by rfl) B.n_bool (by decide +kernel) rfl)) pa_nil)))) (by intro _; rfl))) (pss_one (ps_if ((PW.pt (pw_or ((pt_not ((pt_truU ((pe_callB call_isi (by rfl) B.n_isinstance (by decide +kernel) (pa_cons ((pe_ix ix_seq (pv 3) (pe_int) (fun _ _ => rfl))) (pa_cons ((pe_bltn (by rfl) B.n_bool (by decide +kernel) rfl)) pa_nil)))) (by intro _; rfl))))) (pw_or1 ((pt_cmpR (op_neU hr.units) ((pe_ix ix_seq (pv 3) (pe_int) (fun _ _ => rfl))) ((pe_ix ix_seq (pv 3) (pe_int) (fun _ _ => rfl))) (nomark _))))))) (pss_one (ps_ret (pe_bl))) (pss_nil))) (pss_one (ps_if ((pt_truU ((pe_callB call_isi (by rfl) B.n_isinstance (by decide +kernel) (pa_cons ((pe_ix ix_seq (pv 3) (pe_int) (fun _ _ => rfl))) (pa_cons ((pe_bltn (by rfl) B.n_int (by decide +kernel) rfl)) pa_nil)))) (by intro _; rfl))) (pss_one (ps_if ((PW.pt (pw_or ((pt_not ((pt_truU ((pe_callB call_isi (by rfl) B.n_isinstance (by decide +kernel) (pa_cons ((pe_ix ix_seq (pv 3) (pe_int) (fun _ _ => rfl))) (pa_cons ((pe_bltn (by rfl) B.n_int (by decide +kernel) rfl)) pa_nil)))) (by intro _; rfl))))) (pw_or ((pt_truU ((pe_callB call_isi (by rfl) B.n_isinstance (by decide +kernel) (pa_cons ((pe_ix ix_seq (pv 3) (pe_int) (fun _ _ => rfl))) (pa_cons ((pe_bltn (by rfl) B.n_bool (by decide +kernel) rfl)) pa_nil)))) (by intro _; rfl))) (pw_or1 ((pt_cmpR (op_neU hr.units) ((pe_ix ix_seq (pv 3) (pe_int) (fun _ _ => rfl))) ((pe_ix ix_seq (pv 3) (pe_int) (fun _ _ => rfl))) (nomark _)))))))) (pss_one (ps_ret (pe_bl))) (pss_nil))) (pss_one (ps_if ((pt_truU ((pe_callB call_isi (by rfl) B.n_isinstance (by decide +kernel) (pa_cons ((pe_ix ix_seq (pv 3) (pe_int) (fun _ _ => rfl))) (pa_cons ((pe_bltn (by rfl) B.n_str (by decide +kernel) rfl)) pa_nil)))) (by intro _; rfl))) (pss_one (ps_if ((PW.pt (pw_or ((pt_not ((pt_truU ((pe_callB call_isi (by rfl) B.n_isinstance (by decide +kernel) (pa_cons ((pe_ix ix_seq (pv 3) (pe_int) (fun _ _ => rfl))) (pa_cons ((pe_bltn (by rfl) B.n_str (by decide +kernel) rfl)) pa_nil)))) (by intro _; rfl))))) (pw_or1 ((pt_cmpR (op_neU hr.units) ((pe_ix ix_seq (pv 3) (pe_int) (fun _ _ => rfl))) ((pe_ix ix_seq (pv 3) (pe_int) (fun _ _ => rfl))) (nomark _))))))) (pss_one (ps_ret (pe_bl))) (pss_nil))) (pss_one (ps_if ((pt_cmpR op_notNU ((pe_ix ix_seq (pv 3) (pe_int) (fun _ _ => rfl))) (pe_non) (nomark _))) (pss_one (ps_ret (pe_bl))) (pss_nil)))))))))))))
      (pss_one (ps_ret (pe_bl))))
theorem sc_law_bent : FnScope N_law_bent ["pool", "part"] (defScope s_law_bent) := ⟨rfl, rfl, rfl, by decide +kernel, rfl, by decide +kernel, by decide +kernel⟩
theorem ok_law_bent (D : At K mg "_law_bent" s_law_bent) (B : Bn mg) (G_law_draw : Fn P w K mg base CX0 1 "_law_draw" ["pool", "many"] (sp_law_draw K)) : Fn P w K mg base CX0 2 "_law_bent" ["pool", "part"] (sp_law_bent K) := by
  obtain ⟨f, fd, F, hm⟩ := D
  refine ⟨f, fd, F.ok sc_law_bent (fun vs H Q E h => len_law_bent h) (fun cdv A outer s H vs Q E hr h => ⟨t_law_bent K, ?_, pure_law_bent h⟩), hm, F.kp, F.binds fun _ _ _ _ _ _ us hl => match us, hl with | [_, _], _ => rfl⟩
  have nd := sc_law_bent.nd
  exact pss_cons (ps_if ((pt_truU ((pe_callB call_isi (by rfl) B.n_isinstance (by decide +kernel) (pa_cons (pv 1) (pa_cons ((pe_bltn (by rfl) B.n_int (by decide +kernel) rfl)) pa_nil)))) (by intro _; rfl))) (pss_one (ps_ret ((pe_ix ix_seq ((pe_lst (pa_cons ((pe_op op_addF (pv 1) (pe_int))) (pa_cons ((pe_op op_subU (pv 1) (pe_int))) (pa_cons ((pe_op op_addF (pv 1) (pe_int))) (pa_cons (pe_int) pa_nil)))))) ((pe_callF G_law_draw (hr.mono (by decide)) (by rfl) pass0 (pa_cons (pv 0) (pa_cons (pe_int) pa_nil)))) (fun _ _ => rfl))))) (pss_nil))
      (pss_cons (ps_set (i := 2) nd rfl (Or.inl rfl) ((pe_callF G_law_draw (hr.mono (by decide)) (by rfl) pass0 (pa_cons (pv 0) (pa_cons ((pe_callB call_lenU (by rfl) B.n_len (by decide +kernel) (pa_cons (pv 1) pa_nil))) pa_nil)))))
      (pss_cons (ps_set (i := 3) nd rfl (Or.inl rfl) ((pe_callF G_law_draw (hr.mono (by decide)) (by rfl) pass0 (pa_cons (pv 0) (pa_cons ((pe_callB call_lenU (by rfl) B.n_len (by decide +kernel) (pa_cons (pv 1) pa_nil))) pa_nil)))))
      (pss_cons (ps_set (i := 4) nd rfl (Or.inl rfl) ((pe_callF G_law_draw (hr.mono (by decide)) (by rfl) pass0 (pa_cons (pv 0) (pa_cons (pe_int) pa_nil)))))
      (pss_cons (ps_if ((pt_cmpR (op_eqU hr.units) (pv 4) (pe_int) (nomark _))) (pss_one (ps_ret ((pe_op op_addF ((pe_slice sl_tupF (pv 1) po_none (po_some (pv 2)))) ((pe_slice sl_tupF (pv 1) (po_some ((pe_op op_addF (pv 2) (pe_int)))) po_none)))))) (pss_nil))
      (pss_cons (ps_if ((pt_cmpR (op_eqU hr.units) (pv 4) (pe_int) (nomark _))) (pss_one (ps_ret ((pe_op op_addF ((pe_slice sl_tupF (pv 1) po_none (po_some ((pe_op op_addF (pv 2) (pe_int)))))) ((pe_slice sl_tupF (pv 1) (po_some (pv 2)) po_none)))))) (pss_nil))
      (pss_cons (ps_if ((pt_cmpR (op_eqU hr.units) (pv 4) (pe_int) (nomark _))) (pss_cons (ps_set (i := 5) nd rfl (Or.inl rfl) ((pe_callTy call_listU (by rfl) B.n_list (by decide +kernel) (pa_cons (pv 1) pa_nil))))
      (pss_cons (ps_asg ((pe_ix ix_seq (pv 1) (pv 3) (fun _ _ => rfl))) (pg_sub (pv 5) (pv 2) set_list))
      (pss_cons (ps_asg ((pe_ix ix_seq (pv 1) (pv 2) (fun _ _ => rfl))) (pg_sub (pv 5) (pv 3) set_list))
      (pss_one (ps_ret ((pe_tupD (by rfl) B.n_tuple (pv 5)))))))) (pss_nil))
      (pss_one (ps_ret ((pe_op op_addF (pv 1) ((pe_tupF (pa_cons ((pe_callF G_law_draw (hr.mono (by decide)) (by rfl) pass0 (pa_cons (pv 0) (pa_cons (pe_int) pa_nil)))) pa_nil)))))))))))))
theorem sc_law_sign : FnScope N_law_sign ["pool"] (defScope s_law_sign) := ⟨rfl, rfl, rfl, by decide +kernel, rfl, by decide +kernel, by decide +kernel⟩
theorem ok_law_sign (D : At K mg "_law_sign" s_law_sign) (B : Bn mg) (G_law_draw : Fn P w K mg base CX0 1 "_law_draw" ["pool", "many"] (sp_law_draw K)) : Fn P w K mg base CX0 2 "_law_sign" ["pool"] (sp_law_sign K) := by
  obtain ⟨f, fd, F, hm⟩ := D
  refine ⟨f, fd, F.ok sc_law_sign (fun vs H Q E h => len_law_sign h) (fun cdv A outer s H vs Q E hr h => ⟨t_law_sign K, ?_, pure_law_sign h⟩), hm, F.kp, F.binds fun _ _ _ _ _ _ us hl => match us, hl with | [_], _ => rfl⟩
  have nd := sc_law_sign.nd
  exact pss_cons (ps_if ((pt_cmpR (op_eqU hr.units) ((pe_callF G_law_draw (hr.mono (by decide)) (by rfl) pass0 (pa_cons (pv 0) (pa_cons (pe_int) pa_nil)))) (pe_int) (nomark _))) (pss_one (ps_ret ((pe_ix ix_seq (pe_str) ((pe_callF G_law_draw (hr.mono (by decide)) (by rfl) pass0 (pa_cons (pv 0) (pa_cons (pe_int) pa_nil)))) (fun _ _ => rfl))))) (pss_nil))
      (pss_cons (ps_set (i := 1) nd rfl (Or.inl rfl) (pe_str))
      (pss_cons (ps_set (i := 1) nd rfl (Or.inl rfl) ((pe_op op_addU (pv 1) (pe_str))))
      (pss_one (ps_ret ((pe_ix ix_seq (pv 1) ((pe_callF G_law_draw (hr.mono (by decide)) (by rfl) pass0 (pa_cons (pv 0) (pa_cons (pe_int) pa_nil)))) (fun _ _ => rfl)))))))
theorem sc_law_bent_text : FnScope N_law_bent_text ["pool", "text"] (defScope s_law_bent_text) := ⟨rfl, rfl, rfl, by decide +kernel, rfl, by decide +kernel, by decide +kernel⟩
theorem ok_law_bent_text (D : At K mg "_law_bent_text" s_law_bent_text) (B : Bn mg) (G_law_draw : Fn P w K mg base CX0 1 "_law_draw" ["pool", "many"] (sp_law_draw K)) (G_law_sign : Fn P w K mg base CX0 2 "_law_sign" ["pool"] (sp_law_sign K)) : Fn P w K mg base CX0 3 "_law_bent_text" ["pool", "text"] (sp_law_bent_text K) := by
  obtain ⟨f, fd, F, hm⟩ := D
  refine ⟨f, fd, F.ok sc_law_bent_text (fun vs H Q E h => len_law_bent_text h) (fun cdv A outer s H vs Q E hr h => ⟨t_law_bent_text K, ?_, pure_law_bent_text h⟩), hm, F.kp, F.binds fun _ _ _ _ _ _ us hl => match us, hl with | [_, _], _ => rfl⟩
  have nd := sc_law_bent_text.nd
  exact pss_cons (ps_set (i := 2) nd rfl (Or.inl rfl) ((pe_callF G_law_draw (hr.mono (by decide)) (by rfl) pass0 (pa_cons (pv 0) (pa_cons ((pe_callB call_lenU (by rfl) B.n_len (by decide +kernel) (pa_cons (pv 1) pa_nil))) pa_nil)))))
      (pss_cons (ps_set (i := 3) nd rfl (Or.inl rfl) ((pe_callF G_law_draw (hr.mono (by decide)) (by rfl) pass0 (pa_cons (pv 0) (pa_cons ((pe_callB call_lenU (by rfl) B.n_len (by decide +kernel) (pa_cons (pv 1) pa_nil))) pa_nil)))))
      (pss_cons (ps_set (i := 4) nd rfl (Or.inl rfl) ((pe_callF G_law_draw (hr.mono (by decide)) (by rfl) pass0 (pa_cons (pv 0) (pa_cons (pe_int) pa_nil)))))
      (pss_cons (ps_if ((pt_cmpR (op_eqU hr.units) (pv 4) (pe_int) (nomark _))) (pss_one (ps_ret ((pe_op op_addU ((pe_slice sl_U (pv 1) po_none (po_some (pv 2)))) ((pe_slice sl_U (pv 1) (po_some ((pe_op op_addU (pv 2) (pe_int)))) po_none)))))) (pss_nil))
      (pss_cons (ps_if ((pt_cmpR (op_eqU hr.units) (pv 4) (pe_int) (nomark _))) (pss_one (ps_ret ((pe_op op_addU ((pe_op op_addU ((pe_slice sl_U (pv 1) po_none (po_some (pv 3)))) ((pe_ix ix_seq (pv 1) (pv 2) (fun _ _ => rfl))))) ((pe_slice sl_U (pv 1) (po_some (pv 3)) po_none)))))) (pss_nil))
      (pss_cons (ps_if ((pt_cmpR (op_eqU hr.units) (pv 4) (pe_int) (nomark _))) (pss_one (ps_ret ((pe_op op_addU ((pe_op op_addU ((pe_slice sl_U (pv 1) po_none (po_some (pv 2)))) ((pe_ix ix_seq (pv 1) (pv 3) (fun _ _ => rfl))))) ((pe_slice sl_U (pv 1) (po_some ((pe_op op_addU (pv 2) (pe_int)))) po_none)))))) (pss_nil))
      (pss_cons (ps_if ((pt_cmpR (op_eqU hr.units) (pv 4) (pe_int) (nomark _))) (pss_one (ps_ret ((pe_op op_addU ((pe_op op_addU ((pe_slice sl_U (pv 1) po_none (po_some (pv 2)))) ((pe_callF G_law_sign (hr.mono (by decide)) (by rfl) pass0 (pa_cons (pv 0) pa_nil))))) ((pe_slice sl_U (pv 1) (po_some ((pe_op op_addU (pv 2) (pe_int)))) po_none)))))) (pss_nil))
      (pss_cons (ps_if ((pt_cmpR (op_eqU hr.units) (pv 4) (pe_int) (nomark _))) (pss_one (ps_ret ((pe_op op_addU ((pe_op op_addU ((pe_slice sl_U (pv 1) po_none (po_some (pv 2)))) ((pe_callF G_law_sign (hr.mono (by decide)) (by rfl) pass0 (pa_cons (pv 0) pa_nil))))) ((pe_slice sl_U (pv 1) (po_some (pv 2)) po_none)))))) (pss_nil))
      (pss_cons (ps_if ((pt_cmpR (op_eqU hr.units) (pv 4) (pe_int) (nomark _))) (pss_one (ps_ret ((pe_op op_addU (pv 1) ((pe_callF G_law_sign (hr.mono (by decide)) (by rfl) pass0 (pa_cons (pv 0) pa_nil))))))) (pss_nil))
      (pss_cons (ps_if ((PW.pt (pw_or ((pt_cmpR (op_eqU hr.units) (pv 4) (pe_int) (nomark _))) (pw_or1 ((pt_cmpR (op_eqU hr.units) (pv 4) (pe_int) (nomark _))))))) (pss_one (ps_ret ((pe_bm0 PySem.F.plainAttrs_str PySem.F.slot_str_lower PySem.F.type_str_lower mt_lower (pv 1))))) (pss_nil))
      (pss_cons (ps_if ((pt_cmpR (op_eqU hr.units) (pv 4) (pe_int) (nomark _))) (pss_cons (ps_set (i := 5) nd rfl (Or.inl rfl) ((pe_callF G_law_draw (hr.mono (by decide)) (by rfl) pass0 (pa_cons (pv 0) (pa_cons (pe_int) pa_nil)))))
      (pss_cons (ps_if ((pt_cmpR (op_eqU hr.units) ((pe_callF G_law_draw (hr.mono (by decide)) (by rfl) pass0 (pa_cons (pv 0) (pa_cons (pe_int) pa_nil)))) (pe_int) (nomark _))) (pss_one (ps_set (i := 5) nd rfl (Or.inl rfl) ((pe_callF G_law_draw (hr.mono (by decide)) (by rfl) pass0 (pa_cons (pv 0) (pa_cons (pe_int) pa_nil)))))) (pss_nil))
      (pss_one (ps_ret ((pe_bm PySem.F.plainAttrs_str PySem.F.slot_str_join PySem.F.type_str_join mt_join (pe_str) (pa_cons ((pe_lc (own := [("k", 7)]) (g := (gName 7)) (tt := tYes) rfl nd ((pi_range1 (by rfl) B.n_range (pa_cons (pv 5) pa_nil))) (blkOk_by (N := (N_law_bent_text : List Str)) (sc := defScope s_law_bent_text) (by decide +kernel)) (fun _ _ _ _ _ => (pg_name (i := 7) nd rfl (Or.inl rfl))) (fun _ _ _ _ _ => pts_nil) (fun _ _ _ _ _ => (pe_callF G_law_sign (hr.mono (by decide)) (by rfl) pass0 (pa_cons (pv 0) pa_nil))))) pa_nil))))))) (pss_nil))
      (pss_cons (ps_if ((pt_cmpR (op_eqU hr.units) (pv 4) (pe_int) (nomark _))) (pss_cons (ps_set (i := 6) nd rfl (Or.inl rfl) ((pe_callTy (call_listTx rfl) (by rfl) B.n_list (by decide +kernel) (pa_cons (pv 1) pa_nil))))
      (pss_cons (ps_asg ((pe_ix ix_seq (pv 1) (pv 3) (fun _ _ => rfl))) (pg_sub (pv 6) (pv 2) set_list))
      (pss_cons (ps_asg ((pe_ix ix_seq (pv 1) (pv 2) (fun _ _ => rfl))) (pg_sub (pv 6) (pv 3) set_list))
      (pss_one (ps_ret ((pe_bm PySem.F.plainAttrs_str PySem.F.slot_str_join PySem.F.type_str_join mt_join (pe_str) (pa_cons (pv 6) pa_nil)))))))) (pss_nil))
      (pss_one (ps_ret (pv 1))))))))))))))
theorem sc_law_no_stage : FnScope N_law_no_stage ["pool"] (defScope s_law_no_stage) := ⟨rfl, rfl, rfl, by decide +kernel, rfl, by decide +kernel, by decide +kernel⟩
theorem ok_law_no_stage (D : At K mg "_law_no_stage" s_law_no_stage) (B : Bn mg) (G_law_draw : Fn P w K mg base CX0 1 "_law_draw" ["pool", "many"] (sp_law_draw K)) : Fn P w K mg base CX0 2 "_law_no_stage" ["pool"] (sp_law_no_stage K) := by
  obtain ⟨f, fd, F, hm⟩ := D
  refine ⟨f, fd, F.ok sc_law_no_stage (fun vs H Q E h => len_law_no_stage h) (fun cdv A outer s H vs Q E hr h => ⟨t_law_no_stage K, ?_, pure_law_no_stage h⟩), hm, F.kp, F.binds fun _ _ _ _ _ _ us hl => match us, hl with | [_], _ => rfl⟩
  have nd := sc_law_no_stage.nd
  exact pss_cons (ps_set (i := 1) nd rfl (Or.inl rfl) ((pe_op op_addU ((pe_op op_mulU ((pe_callF G_law_draw (hr.mono (by decide)) (by rfl) pass0 (pa_cons (pv 0) (pa_cons ((pe_op op_powU (pe_int) (pe_int))) pa_nil)))) ((pe_op op_powU (pe_int) (pe_int))))) ((pe_callF G_law_draw (hr.mono (by decide)) (by rfl) pass0 (pa_cons (pv 0) (pa_cons ((pe_op op_powU (pe_int) (pe_int))) pa_nil)))))))
      (pss_one (ps_ret ((pe_ix ix_seq ((pe_lst (pa_cons (pe_int) (pa_cons (pe_int) (pa_cons ((pe_un un_neg (pv 1))) (pa_cons ((pe_op op_addU (pe_int) (pv 1))) pa_nil)))))) ((pe_callF G_law_draw (hr.mono (by decide)) (by rfl) pass0 (pa_cons (pv 0) (pa_cons (pe_int) pa_nil)))) (fun _ _ => rfl)))))
theorem sc_law_due : FnScope N_law_due ["stage", "text"] (defScope s_law_due) := ⟨rfl, rfl, rfl, by decide +kernel, rfl, by decide +kernel, by decide +kernel⟩
theorem ok_law_due (D : At K mg "_law_due" s_law_due) (B : Bn mg) : Fn P w K mg base CX0 1 "_law_due" ["stage", "text"] (sp_law_due K) := by
  obtain ⟨f, fd, F, hm⟩ := D
  refine ⟨f, fd, F.ok sc_law_due (fun vs H Q E h => len_law_due h) (fun cdv A outer s H vs Q E hr h => ⟨t_law_due K, ?_, pure_law_due h⟩), hm, F.kp, F.binds fun _ _ _ _ _ _ us hl => match us, hl with | [_, _], _ => rfl⟩
  have nd := sc_law_due.nd
  exact pss_cons (ps_if ((PW.pt (pw_or ((pt_cmpR (op_ltU hr.units) (pv 0) (pe_int) (nomark _))) (pw_or1 ((pt_cmpR op_gtU (pv 0) (pe_int) (nomark _))))))) (pss_one (ps_ret ((pe_lst (pa_cons (pe_str) (pa_cons (pe_non) pa_nil)))))) (pss_nil))
      (pss_cons (ps_set (i := 2) nd rfl (Or.inr rfl) ((pe_slice sl_U (pe_str) po_none (po_some (pv 0)))))
      (pss_cons (ps_if ((pt_cmpR (op_neU hr.units) ((pe_callB call_lenU (by rfl) B.n_len (by decide +kernel) (pa_cons (pv 1) pa_nil))) (pv 0) (nomark _))) (pss_one (ps_ret ((pe_lst (pa_cons (pe_str) (pa_cons (pe_non) pa_nil)))))) (pss_nil))
      (pss_cons (ps_for PassesOwn.never rfl (pi_seqU (pv 2)) (pg_name (i := 3) nd rfl (Or.inl rfl)) (pss_one (ps_if ((pt_cmpR (op_neU hr.units) ((pe_bm PySem.F.plainAttrs_str PySem.F.slot_str_count PySem.F.type_str_count mt_count (pv 1) (pa_cons (pv 3) pa_nil))) (pe_int) (nomark _))) (pss_one (ps_ret ((pe_lst (pa_cons (pe_str) (pa_cons (pe_non) pa_nil)))))) (pss_nil))))
      (pss_one (ps_ret ((pe_lst (pa_cons (pe_str) (pa_cons ((pe_tupD (by rfl) B.n_tuple ((pe_lc (own := [("sign", 3)]) (g := (gName 3)) (tt := tYes) rfl nd ((pi_seqU (pv 1))) (blkOk_by (N := (N_law_due : List Str)) (sc := defScope s_law_due) (by decide +kernel)) (fun _ _ _ _ _ => (pg_name (i := 3) nd rfl (Or.inl rfl))) (fun _ _ _ _ _ => pts_nil) (fun _ _ _ _ _ => (pe_op op_addU ((pe_bm PySem.F.plainAttrs_str PySem.F.slot_str_find PySem.F.type_str_find mt_find (pv 2) (pa_cons (pv 3) pa_nil))) (pe_int))))))) pa_nil)))))))))
theorem sc_law_read : FnScope N_law_read ["stage", "text"] (defScope s_law_read) := ⟨rfl, rfl, rfl, by decide +kernel, rfl, by decide +kernel, by decide +kernel⟩
theorem ok_law_read (D : At K mg "_law_read" s_law_read) (B : Bn mg) {ec : Str → Addr} (XS : Exs K ec XN) (EX : ExAt mg ec XN) (G_read_row : Fn P w K mg base (L2.CX P w) 5 "read_row" ["stage", "text"] (sp_read_row K ec)) : Fn P w K mg base CX0 6 "_law_read" ["stage", "text"] (sp_law_read K) := by
  obtain ⟨f, fd, F, hm⟩ := D
  refine ⟨f, fd, F.ok sc_law_read (fun vs H Q E h => len_law_read h) (fun cdv A outer s H vs Q E hr h => ⟨t_law_read K ec, ?_, pure_law_read XS h⟩), hm, F.kp, F.binds fun _ _ _ _ _ _ us hl => match us, hl with | [_, _], _ => rfl⟩
  have nd := sc_law_read.nd
  exact pss_cons (ps_set (i := 2) nd rfl (Or.inl rfl) (pe_str))
      (pss_cons (ps_set (i := 3) nd rfl (Or.inl rfl) (pe_str))
      (pss_cons (ps_set (i := 4) nd rfl (Or.inl rfl) (pe_bl))
      (pss_cons (ps_set (i := 5) nd rfl (Or.inl rfl) (pe_non))
      (pss_cons (ps_tryT rfl rfl nd takes0 (fun W pn xe htk hpo => pss_one (ps_set (i := 5) nd rfl (Or.inl rfl) ((pe_callW htk G_read_row (hr.mono (by decide)) (by rfl) (pa_cons (pv 0) (pa_cons (pv 1) pa_nil)))))) (HdsA.as ⟨rfl, by decide, .inl (EX "BadStage" (by decide))⟩ rfl rfl (fun a oe cls d pn hz hf => pss_cons (ps_set (i := 2) nd rfl (Or.inl rfl) (pe_str))
      (pss_cons (ps_set (i := 3) nd rfl (Or.inl rfl) ((pe_xfA hz hf (pv 6))))
      (pss_one (ps_set (i := 4) nd rfl (Or.inl rfl) ((pe_and ((pe_callB (call_isX hz hf) (by rfl) B.n_isinstance (by decide +kernel) (pa_cons (pv 6) (pa_cons ((pe_glob rfl (EX "ChamberError" (by decide)) rfl)) pa_nil)))) (pe_and ((pe_callB (call_isX hz hf) (by rfl) B.n_isinstance (by decide +kernel) (pa_cons (pv 6) (pa_cons ((pe_bltn (by rfl) B.n_ValueError (by decide +kernel) rfl)) pa_nil)))) (pe_one ((pe_not ((pe_callB (call_isX hz hf) (by rfl) B.n_isinstance (by decide +kernel) (pa_cons (pv 6) (pa_cons ((pe_tup (pa_cons ((pe_glob rfl (EX "BadRow" (by decide)) rfl)) (pa_cons ((pe_glob rfl (EX "Unlike" (by decide)) rfl)) pa_nil)))) pa_nil)))))))))))))) (HdsA.as ⟨rfl, by decide, .inl (EX "BadRow" (by decide))⟩ rfl rfl (fun a oe cls d pn hz hf => pss_cons (ps_set (i := 2) nd rfl (Or.inl rfl) (pe_str))
      (pss_cons (ps_set (i := 3) nd rfl (Or.inl rfl) ((pe_xfA hz hf (pv 6))))
      (pss_one (ps_set (i := 4) nd rfl (Or.inl rfl) ((pe_and ((pe_callB (call_isX hz hf) (by rfl) B.n_isinstance (by decide +kernel) (pa_cons (pv 6) (pa_cons ((pe_glob rfl (EX "ChamberError" (by decide)) rfl)) pa_nil)))) (pe_and ((pe_callB (call_isX hz hf) (by rfl) B.n_isinstance (by decide +kernel) (pa_cons (pv 6) (pa_cons ((pe_bltn (by rfl) B.n_ValueError (by decide +kernel) rfl)) pa_nil)))) (pe_one ((pe_not ((pe_callB (call_isX hz hf) (by rfl) B.n_isinstance (by decide +kernel) (pa_cons (pv 6) (pa_cons ((pe_tup (pa_cons ((pe_glob rfl (EX "BadStage" (by decide)) rfl)) (pa_cons ((pe_glob rfl (EX "Unlike" (by decide)) rfl)) pa_nil)))) pa_nil)))))))))))))) (HdsA.no ⟨rfl, by decide, .inl (EX "ChamberError" (by decide))⟩ (fun a oe cls d pn hz hf => pss_one (ps_set (i := 2) nd rfl (Or.inl rfl) (pe_str))) HdsA.nil))))
      (pss_cons (ps_if ((PW.pt (pw_and ((pt_cmpR (op_neU hr.units) (pv 2) (pe_str) (nomark _))) (pw_and1 ((pt_not ((PW.pt (pw_and ((pt_truU (pv 4) (by intro _; rfl))) (pw_and ((pt_truU ((pe_callB call_isi (by rfl) B.n_isinstance (by decide +kernel) (pa_cons (pv 3) (pa_cons ((pe_bltn (by rfl) B.n_str (by decide +kernel) rfl)) pa_nil)))) (by intro _; rfl))) (pw_and1 ((pt_cmpR (op_eqU hr.units) (pv 3) (pv 2) (nomark _)))))))))))))) (pss_one (ps_set (i := 2) nd rfl (Or.inl rfl) (pe_str))) (pss_nil))
      (pss_one (ps_ret ((pe_lst (pa_cons (pv 2) (pa_cons (pv 5) pa_nil)))))))))))
theorem sc_law_home : FnScope N_law_home ["stage"] (defScope s_law_home) := ⟨rfl, rfl, rfl, by decide +kernel, rfl, by decide +kernel, by decide +kernel⟩
theorem ok_law_home (D : At K mg "_law_home" s_law_home) (B : Bn mg) {ec : Str → Addr} (XS : Exs K ec XN) (EX : ExAt mg ec XN) (G_rounds : Fn P w K mg base (L2.CX P w) 5 "rounds" ["stage"] (sp_rounds K ec)) : Fn P w K mg base CX0 6 "_law_home" ["stage"] (sp_law_home K) := by
  obtain ⟨f, fd, F, hm⟩ := D
  refine ⟨f, fd, F.ok sc_law_home (fun vs H Q E h => len_law_home h) (fun cdv A outer s H vs Q E hr h => ⟨t_law_home K ec, ?_, pure_law_home XS h⟩), hm, F.kp, F.binds fun _ _ _ _ _ _ us hl => match us, hl with | [_], _ => rfl⟩
  have nd := sc_law_home.nd
  exact pss_cons (ps_set (i := 1) nd rfl (Or.inl rfl) (pe_str))
      (pss_cons (ps_set (i := 2) nd rfl (Or.inl rfl) (pe_str))
      (pss_cons (ps_set (i := 3) nd rfl (Or.inl rfl) (pe_bl))
      (pss_cons (ps_set (i := 4) nd rfl (Or.inl rfl) (pe_non))
      (pss_cons (ps_tryT rfl rfl nd takes0 (fun W pn xe htk hpo => pss_one (ps_set (i := 4) nd rfl (Or.inl rfl) ((pe_callW htk G_rounds (hr.mono (by decide)) (by rfl) (pa_cons (pv 0) pa_nil))))) (HdsA.as ⟨rfl, by decide, .inl (EX "BadStage" (by decide))⟩ rfl rfl (fun a oe cls d pn hz hf => pss_cons (ps_set (i := 1) nd rfl (Or.inl rfl) (pe_str))
      (pss_cons (ps_set (i := 2) nd rfl (Or.inl rfl) ((pe_xfA hz hf (pv 5))))
      (pss_one (ps_set (i := 3) nd rfl (Or.inl rfl) ((pe_and ((pe_callB (call_isX hz hf) (by rfl) B.n_isinstance (by decide +kernel) (pa_cons (pv 5) (pa_cons ((pe_glob rfl (EX "ChamberError" (by decide)) rfl)) pa_nil)))) (pe_and ((pe_callB (call_isX hz hf) (by rfl) B.n_isinstance (by decide +kernel) (pa_cons (pv 5) (pa_cons ((pe_bltn (by rfl) B.n_ValueError (by decide +kernel) rfl)) pa_nil)))) (pe_one ((pe_not ((pe_callB (call_isX hz hf) (by rfl) B.n_isinstance (by decide +kernel) (pa_cons (pv 5) (pa_cons ((pe_tup (pa_cons ((pe_glob rfl (EX "BadRow" (by decide)) rfl)) (pa_cons ((pe_glob rfl (EX "Unlike" (by decide)) rfl)) pa_nil)))) pa_nil)))))))))))))) (HdsA.no ⟨rfl, by decide, .inl (EX "ChamberError" (by decide))⟩ (fun a oe cls d pn hz hf => pss_one (ps_set (i := 1) nd rfl (Or.inl rfl) (pe_str))) HdsA.nil)))
      (pss_cons (ps_if ((PW.pt (pw_and ((pt_cmpR (op_neU hr.units) (pv 1) (pe_str) (nomark _))) (pw_and1 ((pt_not ((PW.pt (pw_and ((pt_truU (pv 3) (by intro _; rfl))) (pw_and ((pt_truU ((pe_callB call_isi (by rfl) B.n_isinstance (by decide +kernel) (pa_cons (pv 2) (pa_cons ((pe_bltn (by rfl) B.n_str (by decide +kernel) rfl)) pa_nil)))) (by intro _; rfl))) (pw_and1 ((pt_cmpR (op_eqU hr.units) (pv 2) (pv 1) (nomark _)))))))))))))) (pss_one (ps_set (i := 1) nd rfl (Or.inl rfl) (pe_str))) (pss_nil))
      (pss_one (ps_ret ((pe_lst (pa_cons (pv 1) (pa_cons (pv 4) pa_nil)))))))))))
theorem sc_law_value : FnScope N_law_value ["pool", "row", "text"] (defScope s_law_value) := ⟨rfl, rfl, rfl, by decide +kernel, rfl, by decide +kernel, by decide +kernel⟩
theorem ok_law_value (D : At K mg "_law_value" s_law_value) (B : Bn mg) (G_law_draw : Fn P w K mg base CX0 1 "_law_draw" ["pool", "many"] (sp_law_draw K)) (G_law_bent : Fn P w K mg base CX0 2 "_law_bent" ["pool", "part"] (sp_law_bent K)) : Fn P w K mg base CX0 3 "_law_value" ["pool", "row", "text"] (sp_law_value K) := by
  obtain ⟨f, fd, F, hm⟩ := D
  refine ⟨f, fd, F.ok sc_law_value (fun vs H Q E h => len_law_value h) (fun cdv A outer s H vs Q E hr h => ⟨t_law_value K, ?_, pure_law_value h⟩), hm, F.kp, F.binds fun _ _ _ _ _ _ us hl => match us, hl with | [_, _, _], _ => rfl⟩
  have nd := sc_law_value.nd
  exact pss_cons (ps_set (i := 3) nd rfl (Or.inl rfl) ((pe_callF G_law_draw (hr.mono (by decide)) (by rfl) pass0 (pa_cons (pv 0) (pa_cons ((pe_callB call_lenU (by rfl) B.n_len (by decide +kernel) (pa_cons (pv 1) pa_nil))) pa_nil)))))
      (pss_cons (ps_set (i := 4) nd rfl (Or.inl rfl) ((pe_callF G_law_draw (hr.mono (by decide)) (by rfl) pass0 (pa_cons (pv 0) (pa_cons ((pe_callB call_lenU (by rfl) B.n_len (by decide +kernel) (pa_cons (pv 1) pa_nil))) pa_nil)))))
      (pss_cons (ps_set (i := 5) nd rfl (Or.inl rfl) ((pe_callF G_law_draw (hr.mono (by decide)) (by rfl) pass0 (pa_cons (pv 0) (pa_cons (pe_int) pa_nil)))))
      (pss_cons (ps_if ((pt_cmpR (op_ltU hr.units) (pv 5) (pe_int) (nomark _))) (pss_one (ps_ret ((pe_callF G_law_bent (hr.mono (by decide)) (by rfl) pass0 (pa_cons (pv 0) (pa_cons (pv 1) pa_nil)))))) (pss_nil))
      (pss_cons (ps_set (i := 6) nd rfl (Or.inl rfl) ((pe_callTy call_listU (by rfl) B.n_list (by decide +kernel) (pa_cons (pv 1) pa_nil))))
      (pss_cons (ps_if ((pt_cmpR (op_eqU hr.units) (pv 5) (pe_int) (nomark _))) (pss_one (ps_asg ((pe_callF G_law_bent (hr.mono (by decide)) (by rfl) pass0 (pa_cons (pv 0) (pa_cons ((pe_ix ix_seq (pv 1) (pv 3) (fun _ _ => rfl))) pa_nil)))) (pg_sub (pv 6) (pv 3) set_list))) (pss_nil))
      (pss_cons (ps_if ((pt_cmpR (op_eqU hr.units) (pv 5) (pe_int) (nomark _))) (pss_cons (ps_asg ((pe_op op_addF ((pe_ix ix_seq (pv 6) (pv 3) (fun _ _ => rfl))) (pe_int))) (pg_sub (pv 6) (pv 3) set_list))
      (pss_one (ps_asg ((pe_op op_subU ((pe_ix ix_seq (pv 6) (pv 4) (fun _ _ => rfl))) (pe_int))) (pg_sub (pv 6) (pv 4) set_list)))) (pss_nil))
      (pss_cons (ps_if ((pt_cmpR (op_eqU hr.units) (pv 5) (pe_int) (nomark _))) (pss_one (ps_asg ((pe_ix ix_seq (pv 2) (pv 3) (fun _ _ => rfl))) (pg_sub (pv 6) (pv 3) set_list))) (pss_nil))
      (pss_cons (ps_if ((pt_cmpR (op_eqU hr.units) (pv 5) (pe_int) (nomark _))) (pss_one (ps_asg (pv 1) (pg_sub (pv 6) (pv 3) set_list))) (pss_nil))
      (pss_cons (ps_if ((pt_cmpR (op_eqU hr.units) (pv 5) (pe_int) (nomark _))) (pss_one (ps_asg ((pe_ix ix_seq (pv 1) (pv 4) (fun _ _ => rfl))) (pg_sub (pv 6) (pv 3) set_list))) (pss_nil))
      (pss_cons (ps_if ((pt_cmpR (op_eqU hr.units) (pv 5) (pe_int) (nomark _))) (pss_one (ps_expr ((pe_bm PySem.F.plainAttrs_list PySem.F.slot_list_append PySem.F.type_list_append mt_append (pv 6) (pa_cons ((pe_op op_addF ((pe_callB call_lenU (by rfl) B.n_len (by decide +kernel) (pa_cons (pv 1) pa_nil))) (pe_int))) pa_nil))))) (pss_nil))
      (pss_cons (ps_if ((pt_cmpR (op_eqU hr.units) (pv 5) (pe_int) (nomark _))) (pss_one (ps_set (i := 6) nd rfl (Or.inl rfl) ((pe_listRg rfl (by rfl) B.n_list (prg_2 (by rfl) B.n_range (pe_int) ((pe_op op_addF (pe_int) ((pe_callF G_law_draw (hr.mono (by decide)) (by rfl) pass0 (pa_cons (pv 0) (pa_cons (pe_int) pa_nil))))))))))) (pss_nil))
      (pss_cons (ps_if ((pt_cmpR (op_eqU hr.units) (pv 5) (pe_int) (nomark _))) (pss_one (ps_setLc (i := 6) (own := [("k", 7)]) (g := (gName 7)) (tt := tYes) rfl nd rfl rfl (sw_true rfl rfl rfl (by decide +kernel)) ((pi_range1 (by rfl) B.n_range (pa_cons ((pe_callF G_law_draw (hr.mono (by decide)) (by rfl) pass0 (pa_cons (pv 0) (pa_cons (pe_int) pa_nil)))) pa_nil))) (blkOk_by (N := (N_law_value : List Str)) (sc := defScope s_law_value) (by decide +kernel)) (fun _ _ _ _ _ => (pg_name (i := 7) nd rfl (Or.inl rfl))) (fun _ _ _ _ _ => pts_nil) (fun _ _ _ _ _ => (pe_op op_subU ((pe_callF G_law_draw (hr.mono (by decide)) (by rfl) pass0 (pa_cons (pv 0) (pa_cons (pe_int) pa_nil)))) (pe_int))))) (pss_nil))
      (pss_cons (ps_if ((pt_cmpR (op_eqU hr.units) (pv 5) (pe_int) (nomark _))) (pss_one (ps_ret ((pe_ix ix_seq ((pe_lst (pa_cons (pv 2) (pa_cons ((pe_ix ix_seq (pv 1) (pv 3) (fun _ _ => rfl))) (pa_cons ((pe_tupF (pa_cons (pv 1) pa_nil))) (pa_cons ((pe_tupF pa_nil)) pa_nil)))))) ((pe_callF G_law_draw (hr.mono (by decide)) (by rfl) pass0 (pa_cons (pv 0) (pa_cons (pe_int) pa_nil)))) (fun _ _ => rfl))))) (pss_nil))
      (pss_one (ps_ret ((pe_tupD (by rfl) B.n_tuple (pv 6))))))))))))))))))
theorem sc_law_row_by_count : FnScope N_law_row_by_count ["value"] (defScope s_law_row_by_count) := ⟨rfl, rfl, rfl, by decide +kernel, rfl, by decide +kernel, by decide +kernel⟩
theorem ok_law_row_by_count (D : At K mg "_law_row_by_count" s_law_row_by_count) (B : Bn mg) : Fn P w K mg base CX0 1 "_law_row_by_count" ["value"] (sp_law_row_by_count K) := by
  obtain ⟨f, fd, F, hm⟩ := D
  refine ⟨f, fd, F.ok sc_law_row_by_count (fun vs H Q E h => len_law_row_by_count h) (fun cdv A outer s H vs Q E hr h => ⟨t_law_row_by_count K, ?_, pure_law_row_by_count h⟩), hm, F.kp, F.binds fun _ _ _ _ _ _ us hl => match us, hl with | [_], _ => rfl⟩
  have nd := sc_law_row_by_count.nd
  exact pss_cons (ps_if ((PW.pt (pw_or ((pt_not ((pt_truU ((pe_callB call_isi (by rfl) B.n_isinstance (by decide +kernel) (pa_cons (pv 0) (pa_cons ((pe_bltn (by rfl) B.n_tuple (by decide +kernel) rfl)) pa_nil)))) (by intro _; rfl))))) (pw_or ((pt_cmpR (op_ltU hr.units) ((pe_callB call_lenU (by rfl) B.n_len (by decide +kernel) (pa_cons (pv 0) pa_nil))) (pe_int) (nomark _))) (pw_or1 ((pt_cmpR op_gtU ((pe_callB call_lenU (by rfl) B.n_len (by decide +kernel) (pa_cons (pv 0) pa_nil))) (pe_int) (nomark _)))))))) (pss_one (ps_ret (pe_bl))) (pss_nil))
      (pss_cons (ps_for PassesOwn.never rfl (pi_range2 (by rfl) B.n_range (pa_cons (pe_int) (pa_cons ((pe_op op_addU ((pe_callB call_lenU (by rfl) B.n_len (by decide +kernel) (pa_cons (pv 0) pa_nil))) (pe_int))) pa_nil))) (pg_name (i := 1) nd rfl (Or.inl rfl)) (pss_one (ps_if ((pt_cmpR (op_neU hr.units) ((pe_bmT PySem.F.slot_tuple_count PySem.F.type_tuple_count (mt_countP (hu65 hr)) (pv 0) (pa_cons (pv 1) pa_nil))) (pe_int) (nomark _))) (pss_one (ps_ret (pe_bl))) (pss_nil))))
      (pss_one (ps_ret (pe_bl))))
theorem sc_law : FnScope N_law ["script"] (defScope s_law) := ⟨rfl, rfl, rfl, by decide +kernel, rfl, by decide +kernel, by decide +kernel⟩
theorem ok_lawF {f : Addr} {fd : FuncData} (F : Fun K "law" "law" s_law f fd) (B : Bn mg) (G_law_pool : Fn P w K mg base CX0 2 "_law_pool" ["script", "k"] (sp_law_pool K)) (G_law_draw : Fn P w K mg base CX0 1 "_law_draw" ["pool", "many"] (sp_law_draw K)) (G_law_row_draw : Fn P w K mg base CX0 2 "_law_row_draw" ["pool", "stage"] (sp_law_row_draw K)) (G_law_bent_text : Fn P w K mg base CX0 3 "_law_bent_text" ["pool", "text"] (sp_law_bent_text K)) (G_law_no_stage : Fn P w K mg base CX0 2 "_law_no_stage" ["pool"] (sp_law_no_stage K)) (G_law_due : Fn P w K mg base CX0 1 "_law_due" ["stage", "text"] (sp_law_due K)) (G_law_read : Fn P w K mg base CX0 6 "_law_read" ["stage", "text"] (sp_law_read K)) (G_law_same : Fn P w K mg base CX0 1 "_law_same" ["got", "due"] (sp_law_same K)) (G_write_row : Fn P w K mg base CX0 1 "write_row" ["row"] (sp_write_row K)) (G_law_home : Fn P w K mg base CX0 6 "_law_home" ["stage"] (sp_law_home K)) (G_is_row : Fn P w K mg base CX0 2 "is_row" ["told"] (sp_is_row K)) (G_law_value : Fn P w K mg base CX0 3 "_law_value" ["pool", "row", "text"] (sp_law_value K)) (G_law_row_by_count : Fn P w K mg base CX0 1 "_law_row_by_count" ["value"] (sp_law_row_by_count K)) : FnOk P w K mg base CX0 7 f fd ["script"] (sp_law K) := by
  refine F.ok sc_law (fun vs H Q E h => len_law h) (fun cdv A outer s H vs Q E hr h => ⟨t_law K, ?_, pure_law h⟩)
  have nd := sc_law.nd
  exact pss_cons (ps_set (i := 1) nd rfl (Or.inl rfl) ((pe_callF G_law_pool (hr.mono (by decide)) (by rfl) pass0 (pa_cons (pv 0) (pa_cons (pe_int) pa_nil)))))
      (pss_cons (ps_set (i := 2) nd rfl (Or.inl rfl) ((pe_op op_addU (pe_int) ((pe_callF G_law_draw (hr.mono (by decide)) (by rfl) pass0 (pa_cons (pv 1) (pa_cons (pe_int) pa_nil)))))))
      (pss_cons (ps_set (i := 3) nd rfl (Or.inl rfl) ((pe_callF G_law_row_draw (hr.mono (by decide)) (by rfl) pass0 (pa_cons (pv 1) (pa_cons (pv 2) pa_nil)))))
      (pss_cons (ps_set (i := 4) nd rfl (Or.inl rfl) ((pe_bm PySem.F.plainAttrs_str PySem.F.slot_str_join PySem.F.type_str_join mt_join (pe_str) (pa_cons ((pe_lc (own := [("bell", 17)]) (g := (gName 17)) (tt := tYes) rfl nd ((pi_seqU (pv 3))) (blkOk_by (N := (N_law : List Str)) (sc := defScope s_law) (by decide +kernel)) (fun _ _ _ _ _ => (pg_name (i := 17) nd rfl (Or.inl rfl))) (fun _ _ _ _ _ => pts_nil) (fun _ _ _ _ _ => (pe_ix ix_seq (pe_str) ((pe_op op_subU (pv 17) (pe_int))) (fun _ _ => rfl))))) pa_nil))))
      (pss_cons (ps_set (i := 5) nd rfl (Or.inl rfl) ((pe_callF G_law_pool (hr.mono (by decide)) (by rfl) pass0 (pa_cons (pv 0) (pa_cons (pe_int) pa_nil)))))
      (pss_cons (ps_set (i := 6) nd rfl (Or.inl rfl) ((pe_callF G_law_bent_text (hr.mono (by decide)) (by rfl) pass0 (pa_cons (pv 5) (pa_cons (pv 4) pa_nil)))))
      (pss_cons (ps_set (i := 7) nd rfl (Or.inl rfl) (pv 2))
      (pss_cons (ps_set (i := 8) nd rfl (Or.inl rfl) ((pe_callF G_law_draw (hr.mono (by decide)) (by rfl) pass0 (pa_cons (pv 5) (pa_cons (pe_int) pa_nil)))))
      (pss_cons (ps_if ((pt_cmpR (op_eqU hr.units) (pv 8) (pe_int) (nomark _))) (pss_one (ps_set (i := 7) nd rfl (Or.inl rfl) ((pe_op op_addU (pe_int) ((pe_callF G_law_draw (hr.mono (by decide)) (by rfl) pass0 (pa_cons (pv 5) (pa_cons (pe_int) pa_nil)))))))) (pss_nil))
      (pss_cons (ps_if ((pt_cmpR (op_eqU hr.units) (pv 8) (pe_int) (nomark _))) (pss_one (ps_set (i := 7) nd rfl (Or.inl rfl) ((pe_callF G_law_no_stage (hr.mono (by decide)) (by rfl) pass0 (pa_cons (pv 5) pa_nil))))) (pss_nil))
      (pss_cons (ps_set (i := 9) nd rfl (Or.inl rfl) ((pe_callF G_law_due (hr.mono (by decide)) (by rfl) pass0 (pa_cons (pv 7) (pa_cons (pv 6) pa_nil)))))
      (pss_cons (ps_set (i := 10) nd rfl (Or.inl rfl) ((pe_callF G_law_read (hr.mono (by decide)) (by rfl) pass0 (pa_cons (pv 7) (pa_cons (pv 6) pa_nil)))))
      (pss_cons (ps_if ((PW.pt (pw_or ((pt_cmpR (op_neU hr.units) ((pe_ix ix_seq (pv 10) (pe_int) (fun _ _ => rfl))) ((pe_ix ix_seq (pv 9) (pe_int) (fun _ _ => rfl))) (nomark _))) (pw_or1 ((pt_not ((pt_truU ((pe_callF G_law_same (hr.mono (by decide)) (by rfl) pass0 (pa_cons ((pe_ix ix_seq (pv 10) (pe_int) (fun _ _ => rfl))) (pa_cons ((pe_ix ix_seq (pv 9) (pe_int) (fun _ _ => rfl))) pa_nil)))) (by intro _; rfl))))))))) (pss_one (ps_ret (pe_bl))) (pss_nil))
      (pss_cons (ps_if ((PW.pt (pw_and ((pt_cmpR (op_eqU hr.units) ((pe_ix ix_seq (pv 9) (pe_int) (fun _ _ => rfl))) (pe_str) (nomark _))) (pw_and1 ((pt_not ((pt_truU ((pe_callF G_law_same (hr.mono (by decide)) (by rfl) pass0 (pa_cons ((pe_callF G_write_row (hr.mono (by decide)) (by rfl) pass0 (pa_cons ((pe_ix ix_seq (pv 9) (pe_int) (fun _ _ => rfl))) pa_nil))) (pa_cons (pv 6) pa_nil)))) (by intro _; rfl))))))))) (pss_one (ps_ret (pe_bl))) (pss_nil))
      (pss_cons (ps_set (i := 11) nd rfl (Or.inl rfl) ((pe_callF G_law_read (hr.mono (by decide)) (by rfl) pass0 (pa_cons (pv 2) (pa_cons (pv 4) pa_nil)))))
      (pss_cons (ps_if ((PW.pt (pw_or ((pt_cmpR (op_neU hr.units) ((pe_ix ix_seq (pv 11) (pe_int) (fun _ _ => rfl))) (pe_str) (nomark _))) (pw_or ((pt_not ((pt_truU ((pe_callF G_law_same (hr.mono (by decide)) (by rfl) pass0 (pa_cons ((pe_ix ix_seq (pv 11) (pe_int) (fun _ _ => rfl))) (pa_cons (pv 3) pa_nil)))) (by intro _; rfl))))) (pw_or1 ((pt_not ((pt_truU ((pe_callF G_law_same (hr.mono (by decide)) (by rfl) pass0 (pa_cons ((pe_callF G_write_row (hr.mono (by decide)) (by rfl) pass0 (pa_cons (pv 3) pa_nil))) (pa_cons (pv 4) pa_nil)))) (by intro _; rfl)))))))))) (pss_one (ps_ret (pe_bl))) (pss_nil))
      (pss_cons (ps_set (i := 12) nd rfl (Or.inl rfl) ((pe_callF G_law_home (hr.mono (by decide)) (by rfl) pass0 (pa_cons (pv 7) pa_nil))))
      (pss_cons (ps_if ((PW.pt (pw_or ((pt_cmpR (op_ltU hr.units) (pv 7) (pe_int) (nomark _))) (pw_or1 ((pt_cmpR op_gtU (pv 7) (pe_int) (nomark _))))))) (pss_one (ps_if ((pt_cmpR (op_neU hr.units) ((pe_ix ix_seq (pv 12) (pe_int) (fun _ _ => rfl))) (pe_str) (nomark _))) (pss_one (ps_ret (pe_bl))) (pss_nil))) (pss_one (ps_if ((PW.pt (pw_or ((pt_cmpR (op_neU hr.units) ((pe_ix ix_seq (pv 12) (pe_int) (fun _ _ => rfl))) (pe_str) (nomark _))) (pw_or1 ((pt_not ((pt_truU ((pe_callF G_law_same (hr.mono (by decide)) (by rfl) pass0 (pa_cons ((pe_ix ix_seq (pv 12) (pe_int) (fun _ _ => rfl))) (pa_cons ((pe_tupD (by rfl) B.n_tuple ((pe_listRg rfl (by rfl) B.n_list (prg_2 (by rfl) B.n_range (pe_int) ((pe_op op_addU (pv 7) (pe_int)))))))) pa_nil)))) (by intro _; rfl))))))))) (pss_one (ps_ret (pe_bl))) (pss_nil))))
      (pss_cons (ps_if ((PW.pt (pw_or ((pt_not ((pt_truU ((pe_callF G_law_same (hr.mono (by decide)) (by rfl) pass0 (pa_cons ((pe_glob rfl B.c_SIGNS.choose_spec ⟨_, rfl⟩)) (pa_cons (pe_str) pa_nil)))) (by intro _; rfl))))) (pw_or1 ((pt_not ((pt_truU ((pe_callF G_law_same (hr.mono (by decide)) (by rfl) pass0 (pa_cons ((pe_callF G_is_row (hr.mono (by decide)) (by rfl) pass0 (pa_cons (pv 3) pa_nil))) (pa_cons (pe_bl) pa_nil)))) (by intro _; rfl))))))))) (pss_one (ps_ret (pe_bl))) (pss_nil))
      (pss_cons (ps_set (i := 13) nd rfl (Or.inl rfl) ((pe_callF G_law_pool (hr.mono (by decide)) (by rfl) pass0 (pa_cons (pv 0) (pa_cons (pe_int) pa_nil)))))
      (pss_cons (ps_for PassesOwn.never rfl (pi_range1 (by rfl) B.n_range (pa_cons (pe_int) pa_nil)) (pg_name (i := 14) nd rfl (Or.inl rfl)) (pss_cons (ps_set (i := 15) nd rfl (Or.inl rfl) ((pe_callF G_law_value (hr.mono (by decide)) (by rfl) pass0 (pa_cons (pv 13) (pa_cons (pv 3) (pa_cons (pv 4) pa_nil))))))
      (pss_one (ps_if ((pt_not ((pt_truU ((pe_callF G_law_same (hr.mono (by decide)) (by rfl) pass0 (pa_cons ((pe_callF G_is_row (hr.mono (by decide)) (by rfl) pass0 (pa_cons (pv 15) pa_nil))) (pa_cons ((pe_callF G_law_row_by_count (hr.mono (by decide)) (by rfl) pass0 (pa_cons (pv 15) pa_nil))) pa_nil)))) (by intro _; rfl))))) (pss_one (ps_ret (pe_bl))) (pss_nil)))))
      (pss_cons (ps_set (i := 16) nd rfl (Or.inl rfl) ((pe_callF G_law_read (hr.mono (by decide)) (by rfl) pass0 (pa_cons (pv 7) (pa_cons (pv 6) pa_nil)))))
      (pss_one (ps_ret ((pe_and ((pe_cmpR (op_eqU hr.units) ((pe_ix ix_seq (pv 16) (pe_int) (fun _ _ => rfl))) ((pe_ix ix_seq (pv 9) (pe_int) (fun _ _ => rfl))) (nomark _))) (pe_one ((pe_callF G_law_same (hr.mono (by decide)) (by rfl) pass0 (pa_cons ((pe_ix ix_seq (pv 16) (pe_int) (fun _ _ => rfl))) (pa_cons ((pe_ix ix_seq (pv 9) (pe_int) (fun _ _ => rfl))) pa_nil))))))))))))))))))))))))))))))
end
theorem all_mk {l : PySem.W.OpenLaw} {w : World} {K : PySem.W.Frag} {h : Heap} {mg : Str → Option Value} {fa : Addr} (X : K.In h) (G : h.Ns mainGlobals mg) (hfa : mg "law" = some (.ref fa))
    {f1 : Addr} {od1 an1 : Option Addr} {sl1 : Array (Option Value)} {oc1 kV1 dc1 pm1 cd1 ct1 : Value}
    {f2 : Addr} {od2 an2 : Option Addr} {sl2 : Array (Option Value)} {oc2 kV2 dc2 pm2 cd2 ct2 : Value}
    {f3 : Addr} {od3 an3 : Option Addr} {sl3 : Array (Option Value)} {oc3 kV3 dc3 pm3 cd3 ct3 : Value}
    {f4 : Addr} {od4 an4 : Option Addr} {sl4 : Array (Option Value)} {oc4 kV4 dc4 pm4 cd4 ct4 : Value}
    {f5 : Addr} {od5 an5 : Option Addr} {sl5 : Array (Option Value)} {oc5 kV5 dc5 pm5 cd5 ct5 : Value}
    {f6 : Addr} {od6 an6 : Option Addr} {sl6 : Array (Option Value)} {oc6 kV6 dc6 pm6 cd6 ct6 : Value}
    {f7 : Addr} {od7 an7 : Option Addr} {sl7 : Array (Option Value)} {oc7 kV7 dc7 pm7 cd7 ct7 : Value}
    {f8 : Addr} {od8 an8 : Option Addr} {sl8 : Array (Option Value)} {oc8 kV8 dc8 pm8 cd8 ct8 : Value}
    {f9 : Addr} {od9 an9 : Option Addr} {sl9 : Array (Option Value)} {oc9 kV9 dc9 pm9 cd9 ct9 : Value}
    {f10 : Addr} {od10 an10 : Option Addr} {sl10 : Array (Option Value)} {oc10 kV10 dc10 pm10 cd10 ct10 : Value}
    {f11 : Addr} {od11 an11 : Option Addr} {sl11 : Array (Option Value)} {oc11 kV11 dc11 pm11 cd11 ct11 : Value}
    {f12 : Addr} {od12 an12 : Option Addr} {sl12 : Array (Option Value)} {oc12 kV12 dc12 pm12 cd12 ct12 : Value}
    {f13 : Addr} {od13 an13 : Option Addr} {sl13 : Array (Option Value)} {oc13 kV13 dc13 pm13 cd13 ct13 : Value}
    {f14 : Addr} {od14 an14 : Option Addr} {sl14 : Array (Option Value)} {oc14 kV14 dc14 pm14 cd14 ct14 : Value}
    {f15 : Addr} {od15 an15 : Option Addr} {sl15 : Array (Option Value)} {oc15 kV15 dc15 pm15 cd15 ct15 : Value}
    {f16 : Addr} {od16 an16 : Option Addr} {sl16 : Array (Option Value)} {oc16 kV16 dc16 pm16 cd16 ct16 : Value}
    {f17 : Addr} {od17 an17 : Option Addr} {sl17 : Array (Option Value)} {oc17 kV17 dc17 pm17 cd17 ct17 : Value}
    {f18 : Addr} {od18 an18 : Option Addr} {sl18 : Array (Option Value)} {oc18 kV18 dc18 pm18 cd18 ct18 : Value}
    {f19 : Addr} {od19 an19 : Option Addr} {sl19 : Array (Option Value)} {oc19 kV19 dc19 pm19 cd19 ct19 : Value}
    {f20 : Addr} {od20 an20 : Option Addr} {sl20 : Array (Option Value)} {oc20 kV20 dc20 pm20 cd20 ct20 : Value}
    {f21 : Addr} {od21 an21 : Option Addr} {sl21 : Array (Option Value)} {oc21 kV21 dc21 pm21 cd21 ct21 : Value}
    {C_ChamberError : Addr}
    {C_BadStage : Addr}
    {C_BadRow : Addr}
    {C_Unlike : Addr}
    {fI_ChamberError cc_ChamberError : Addr} {od_ChamberError an_ChamberError cld_ChamberError : Option Addr} {sl_ChamberError csl_ChamberError : Array (Option Value)} {oc_ChamberError kV_ChamberError dc_ChamberError pm_ChamberError cd_ChamberError ct_ChamberError cl_ChamberError : Value}
    {fI_BadStage cc_BadStage : Addr} {od_BadStage an_BadStage cld_BadStage : Option Addr} {sl_BadStage csl_BadStage : Array (Option Value)} {oc_BadStage kV_BadStage dc_BadStage pm_BadStage cd_BadStage ct_BadStage cl_BadStage : Value}
    {fI_BadRow cc_BadRow : Addr} {od_BadRow an_BadRow cld_BadRow : Option Addr} {sl_BadRow csl_BadRow : Array (Option Value)} {oc_BadRow kV_BadRow dc_BadRow pm_BadRow cd_BadRow ct_BadRow cl_BadRow : Value}
    {t_SIGNS : Tok}
    (a1 : PySem.W.nsIn K mainGlobals "check_stage" = some (some (.ref f1))) (l1 : K.lookup f1 = some ⟨oc1, od1, .func (PySem.W.fnOf "check_stage" "check_stage" (defArgs s_check_stage) (defBody s_check_stage) (defScope s_check_stage) .none kV1 dc1 pm1 an1 cd1 ct1), sl1⟩) (c1 : PySem.W.codeIn K cd1 "check_stage" = true) (k1 : PySem.W.keepIn K (.ref f1) = true)
    (a2 : PySem.W.nsIn K mainGlobals "is_number" = some (some (.ref f2))) (l2 : K.lookup f2 = some ⟨oc2, od2, .func (PySem.W.fnOf "is_number" "is_number" (defArgs s_is_number) (defBody s_is_number) (defScope s_is_number) .none kV2 dc2 pm2 an2 cd2 ct2), sl2⟩) (c2 : PySem.W.codeIn K cd2 "is_number" = true) (k2 : PySem.W.keepIn K (.ref f2) = true)
    (a3 : PySem.W.nsIn K mainGlobals "is_row" = some (some (.ref f3))) (l3 : K.lookup f3 = some ⟨oc3, od3, .func (PySem.W.fnOf "is_row" "is_row" (defArgs s_is_row) (defBody s_is_row) (defScope s_is_row) .none kV3 dc3 pm3 an3 cd3 ct3), sl3⟩) (c3 : PySem.W.codeIn K cd3 "is_row" = true) (k3 : PySem.W.keepIn K (.ref f3) = true)
    (a4 : PySem.W.nsIn K mainGlobals "rounds" = some (some (.ref f4))) (l4 : K.lookup f4 = some ⟨oc4, od4, .func (PySem.W.fnOf "rounds" "rounds" (defArgs s_rounds) (defBody s_rounds) (defScope s_rounds) .none kV4 dc4 pm4 an4 cd4 ct4), sl4⟩) (c4 : PySem.W.codeIn K cd4 "rounds" = true) (k4 : PySem.W.keepIn K (.ref f4) = true)
    (a5 : PySem.W.nsIn K mainGlobals "write_row" = some (some (.ref f5))) (l5 : K.lookup f5 = some ⟨oc5, od5, .func (PySem.W.fnOf "write_row" "write_row" (defArgs s_write_row) (defBody s_write_row) (defScope s_write_row) .none kV5 dc5 pm5 an5 cd5 ct5), sl5⟩) (c5 : PySem.W.codeIn K cd5 "write_row" = true) (k5 : PySem.W.keepIn K (.ref f5) = true)
    (a6 : PySem.W.nsIn K mainGlobals "read_row" = some (some (.ref f6))) (l6 : K.lookup f6 = some ⟨oc6, od6, .func (PySem.W.fnOf "read_row" "read_row" (defArgs s_read_row) (defBody s_read_row) (defScope s_read_row) .none kV6 dc6 pm6 an6 cd6 ct6), sl6⟩) (c6 : PySem.W.codeIn K cd6 "read_row" = true) (k6 : PySem.W.keepIn K (.ref f6) = true)
    (a7 : PySem.W.nsIn K mainGlobals "_law_cell" = some (some (.ref f7))) (l7 : K.lookup f7 = some ⟨oc7, od7, .func (PySem.W.fnOf "_law_cell" "_law_cell" (defArgs s_law_cell) (defBody s_law_cell) (defScope s_law_cell) .none kV7 dc7 pm7 an7 cd7 ct7), sl7⟩) (c7 : PySem.W.codeIn K cd7 "_law_cell" = true) (k7 : PySem.W.keepIn K (.ref f7) = true)
    (a8 : PySem.W.nsIn K mainGlobals "_law_pool" = some (some (.ref f8))) (l8 : K.lookup f8 = some ⟨oc8, od8, .func (PySem.W.fnOf "_law_pool" "_law_pool" (defArgs s_law_pool) (defBody s_law_pool) (defScope s_law_pool) .none kV8 dc8 pm8 an8 cd8 ct8), sl8⟩) (c8 : PySem.W.codeIn K cd8 "_law_pool" = true) (k8 : PySem.W.keepIn K (.ref f8) = true)
    (a9 : PySem.W.nsIn K mainGlobals "_law_draw" = some (some (.ref f9))) (l9 : K.lookup f9 = some ⟨oc9, od9, .func (PySem.W.fnOf "_law_draw" "_law_draw" (defArgs s_law_draw) (defBody s_law_draw) (defScope s_law_draw) .none kV9 dc9 pm9 an9 cd9 ct9), sl9⟩) (c9 : PySem.W.codeIn K cd9 "_law_draw" = true) (k9 : PySem.W.keepIn K (.ref f9) = true)
    (a10 : PySem.W.nsIn K mainGlobals "_law_row_draw" = some (some (.ref f10))) (l10 : K.lookup f10 = some ⟨oc10, od10, .func (PySem.W.fnOf "_law_row_draw" "_law_row_draw" (defArgs s_law_row_draw) (defBody s_law_row_draw) (defScope s_law_row_draw) .none kV10 dc10 pm10 an10 cd10 ct10), sl10⟩) (c10 : PySem.W.codeIn K cd10 "_law_row_draw" = true) (k10 : PySem.W.keepIn K (.ref f10) = true)
    (a11 : PySem.W.nsIn K mainGlobals "_law_same" = some (some (.ref f11))) (l11 : K.lookup f11 = some ⟨oc11, od11, .func (PySem.W.fnOf "_law_same" "_law_same" (defArgs s_law_same) (defBody s_law_same) (defScope s_law_same) .none kV11 dc11 pm11 an11 cd11 ct11), sl11⟩) (c11 : PySem.W.codeIn K cd11 "_law_same" = true) (k11 : PySem.W.keepIn K (.ref f11) = true)
    (a12 : PySem.W.nsIn K mainGlobals "_law_bent" = some (some (.ref f12))) (l12 : K.lookup f12 = some ⟨oc12, od12, .func (PySem.W.fnOf "_law_bent" "_law_bent" (defArgs s_law_bent) (defBody s_law_bent) (defScope s_law_bent) .none kV12 dc12 pm12 an12 cd12 ct12), sl12⟩) (c12 : PySem.W.codeIn K cd12 "_law_bent" = true) (k12 : PySem.W.keepIn K (.ref f12) = true)
    (a13 : PySem.W.nsIn K mainGlobals "_law_sign" = some (some (.ref f13))) (l13 : K.lookup f13 = some ⟨oc13, od13, .func (PySem.W.fnOf "_law_sign" "_law_sign" (defArgs s_law_sign) (defBody s_law_sign) (defScope s_law_sign) .none kV13 dc13 pm13 an13 cd13 ct13), sl13⟩) (c13 : PySem.W.codeIn K cd13 "_law_sign" = true) (k13 : PySem.W.keepIn K (.ref f13) = true)
    (a14 : PySem.W.nsIn K mainGlobals "_law_bent_text" = some (some (.ref f14))) (l14 : K.lookup f14 = some ⟨oc14, od14, .func (PySem.W.fnOf "_law_bent_text" "_law_bent_text" (defArgs s_law_bent_text) (defBody s_law_bent_text) (defScope s_law_bent_text) .none kV14 dc14 pm14 an14 cd14 ct14), sl14⟩) (c14 : PySem.W.codeIn K cd14 "_law_bent_text" = true) (k14 : PySem.W.keepIn K (.ref f14) = true)
    (a15 : PySem.W.nsIn K mainGlobals "_law_no_stage" = some (some (.ref f15))) (l15 : K.lookup f15 = some ⟨oc15, od15, .func (PySem.W.fnOf "_law_no_stage" "_law_no_stage" (defArgs s_law_no_stage) (defBody s_law_no_stage) (defScope s_law_no_stage) .none kV15 dc15 pm15 an15 cd15 ct15), sl15⟩) (c15 : PySem.W.codeIn K cd15 "_law_no_stage" = true) (k15 : PySem.W.keepIn K (.ref f15) = true)
    (a16 : PySem.W.nsIn K mainGlobals "_law_due" = some (some (.ref f16))) (l16 : K.lookup f16 = some ⟨oc16, od16, .func (PySem.W.fnOf "_law_due" "_law_due" (defArgs s_law_due) (defBody s_law_due) (defScope s_law_due) .none kV16 dc16 pm16 an16 cd16 ct16), sl16⟩) (c16 : PySem.W.codeIn K cd16 "_law_due" = true) (k16 : PySem.W.keepIn K (.ref f16) = true)
    (a17 : PySem.W.nsIn K mainGlobals "_law_read" = some (some (.ref f17))) (l17 : K.lookup f17 = some ⟨oc17, od17, .func (PySem.W.fnOf "_law_read" "_law_read" (defArgs s_law_read) (defBody s_law_read) (defScope s_law_read) .none kV17 dc17 pm17 an17 cd17 ct17), sl17⟩) (c17 : PySem.W.codeIn K cd17 "_law_read" = true) (k17 : PySem.W.keepIn K (.ref f17) = true)
    (a18 : PySem.W.nsIn K mainGlobals "_law_home" = some (some (.ref f18))) (l18 : K.lookup f18 = some ⟨oc18, od18, .func (PySem.W.fnOf "_law_home" "_law_home" (defArgs s_law_home) (defBody s_law_home) (defScope s_law_home) .none kV18 dc18 pm18 an18 cd18 ct18), sl18⟩) (c18 : PySem.W.codeIn K cd18 "_law_home" = true) (k18 : PySem.W.keepIn K (.ref f18) = true)
    (a19 : PySem.W.nsIn K mainGlobals "_law_value" = some (some (.ref f19))) (l19 : K.lookup f19 = some ⟨oc19, od19, .func (PySem.W.fnOf "_law_value" "_law_value" (defArgs s_law_value) (defBody s_law_value) (defScope s_law_value) .none kV19 dc19 pm19 an19 cd19 ct19), sl19⟩) (c19 : PySem.W.codeIn K cd19 "_law_value" = true) (k19 : PySem.W.keepIn K (.ref f19) = true)
    (a20 : PySem.W.nsIn K mainGlobals "_law_row_by_count" = some (some (.ref f20))) (l20 : K.lookup f20 = some ⟨oc20, od20, .func (PySem.W.fnOf "_law_row_by_count" "_law_row_by_count" (defArgs s_law_row_by_count) (defBody s_law_row_by_count) (defScope s_law_row_by_count) .none kV20 dc20 pm20 an20 cd20 ct20), sl20⟩) (c20 : PySem.W.codeIn K cd20 "_law_row_by_count" = true) (k20 : PySem.W.keepIn K (.ref f20) = true)
    (a21 : PySem.W.nsIn K mainGlobals "law" = some (some (.ref f21))) (l21 : K.lookup f21 = some ⟨oc21, od21, .func (PySem.W.fnOf "law" "law" (defArgs s_law) (defBody s_law) (defScope s_law) .none kV21 dc21 pm21 an21 cd21 ct21), sl21⟩) (c21 : PySem.W.codeIn K cd21 "law" = true) (k21 : PySem.W.keepIn K (.ref f21) = true)
    (z_ValueError : PySem.W.nsIn K mainGlobals "ValueError" = some none)
    (z_abs : PySem.W.nsIn K mainGlobals "abs" = some none)
    (z_bool : PySem.W.nsIn K mainGlobals "bool" = some none)
    (z_int : PySem.W.nsIn K mainGlobals "int" = some none)
    (z_isinstance : PySem.W.nsIn K mainGlobals "isinstance" = some none)
    (z_len : PySem.W.nsIn K mainGlobals "len" = some none)
    (z_list : PySem.W.nsIn K mainGlobals "list" = some none)
    (z_range : PySem.W.nsIn K mainGlobals "range" = some none)
    (z_set : PySem.W.nsIn K mainGlobals "set" = some none)
    (z_str : PySem.W.nsIn K mainGlobals "str" = some none)
    (z_tuple : PySem.W.nsIn K mainGlobals "tuple" = some none)
    (q_SIGNS : PySem.W.nsIn K mainGlobals "SIGNS" = some (some (.str "1234567890ET" t_SIGNS)))
    (e_ChamberError : PySem.W.nsIn K mainGlobals "ChamberError" = some (some (.ref C_ChamberError)))
    (e_BadStage : PySem.W.nsIn K mainGlobals "BadStage" = some (some (.ref C_BadStage)))
    (e_BadRow : PySem.W.nsIn K mainGlobals "BadRow" = some (some (.ref C_BadRow)))
    (e_Unlike : PySem.W.nsIn K mainGlobals "Unlike" = some (some (.ref C_Unlike)))
    (xs : exsB K C_ChamberError [("ChamberError", C_ChamberError), ("BadStage", C_BadStage), ("BadRow", C_BadRow), ("Unlike", C_Unlike)] = true)
    (zsu : PySem.W.nsIn K mainGlobals "super" = some none) (tp : (l.prog.main.scope.names.lookup ("super" : Str)).isSome = false)
    (i1_ChamberError : PySem.W.findIn K (.ref C_ChamberError) "__init__" = some (some (.ref fI_ChamberError))) (i2_ChamberError : PySem.W.typeIn K (.ref fI_ChamberError) = some (.type "function"))
    (i3_ChamberError : K.lookup fI_ChamberError = some ⟨oc_ChamberError, od_ChamberError, .func (PySem.W.ksFn "__init__" "ChamberError.__init__" (defArgs i_ChamberError) (defBody i_ChamberError) (defScope i_ChamberError) .none kV_ChamberError dc_ChamberError pm_ChamberError an_ChamberError cd_ChamberError ct_ChamberError cc_ChamberError), sl_ChamberError⟩)
    (i4_ChamberError : PySem.W.codeIn K cd_ChamberError "ChamberError.__init__" = true) (i5_ChamberError : K.lookup cc_ChamberError = some ⟨cl_ChamberError, cld_ChamberError, .cell (some (.ref C_ChamberError)), csl_ChamberError⟩) (i6_ChamberError : fileB K cd_ChamberError l.prog.main.file = true)
    (i1_BadStage : PySem.W.findIn K (.ref C_BadStage) "__init__" = some (some (.ref fI_BadStage))) (i2_BadStage : PySem.W.typeIn K (.ref fI_BadStage) = some (.type "function"))
    (i3_BadStage : K.lookup fI_BadStage = some ⟨oc_BadStage, od_BadStage, .func (PySem.W.ksFn "__init__" "BadStage.__init__" (defArgs i_BadStage) (defBody i_BadStage) (defScope i_BadStage) .none kV_BadStage dc_BadStage pm_BadStage an_BadStage cd_BadStage ct_BadStage cc_BadStage), sl_BadStage⟩)
    (i4_BadStage : PySem.W.codeIn K cd_BadStage "BadStage.__init__" = true) (i5_BadStage : K.lookup cc_BadStage = some ⟨cl_BadStage, cld_BadStage, .cell (some (.ref C_BadStage)), csl_BadStage⟩) (i6_BadStage : fileB K cd_BadStage l.prog.main.file = true)
    (i7_BadStage : PySem.W.ks_superIn K C_BadStage C_BadStage "__init__" = some (some (.ref fI_ChamberError))) (i8_BadStage : PySem.W.mroIn K C_BadStage (.ref C_BadStage) = some true)
    (i1_BadRow : PySem.W.findIn K (.ref C_BadRow) "__init__" = some (some (.ref fI_BadRow))) (i2_BadRow : PySem.W.typeIn K (.ref fI_BadRow) = some (.type "function"))
    (i3_BadRow : K.lookup fI_BadRow = some ⟨oc_BadRow, od_BadRow, .func (PySem.W.ksFn "__init__" "BadRow.__init__" (defArgs i_BadRow) (defBody i_BadRow) (defScope i_BadRow) .none kV_BadRow dc_BadRow pm_BadRow an_BadRow cd_BadRow ct_BadRow cc_BadRow), sl_BadRow⟩)
    (i4_BadRow : PySem.W.codeIn K cd_BadRow "BadRow.__init__" = true) (i5_BadRow : K.lookup cc_BadRow = some ⟨cl_BadRow, cld_BadRow, .cell (some (.ref C_BadRow)), csl_BadRow⟩) (i6_BadRow : fileB K cd_BadRow l.prog.main.file = true)
    (i7_BadRow : PySem.W.ks_superIn K C_BadRow C_BadRow "__init__" = some (some (.ref fI_ChamberError))) (i8_BadRow : PySem.W.mroIn K C_BadRow (.ref C_BadRow) = some true)
    (kf : PySem.W.fnIn K fI_ChamberError = true)
    : ∃ fd : FuncData, (∀ (s : Shared) (v : Value), BindsTo s fd ⟨[v], []⟩ [("script", v)]) ∧ ∀ base : Heap, K.In base → base.Ns mainGlobals mg → FnOk l.prog w K mg base CX0 7 fa fd ["script"] (sp_law K) := by
  have e := hfa.symm.trans (PySem.W.mg_of X G a21)
  cases e
  have B : Bn mg := ⟨PySem.W.mg_none_of X G z_ValueError, PySem.W.mg_none_of X G z_abs, PySem.W.mg_none_of X G z_bool, PySem.W.mg_none_of X G z_int, PySem.W.mg_none_of X G z_isinstance, PySem.W.mg_none_of X G z_len, PySem.W.mg_none_of X G z_list, PySem.W.mg_none_of X G z_range, PySem.W.mg_none_of X G z_set, PySem.W.mg_none_of X G z_str, PySem.W.mg_none_of X G z_tuple, ⟨_, PySem.W.mg_of X G q_SIGNS⟩⟩
  have D1 : At K mg "check_stage" s_check_stage := ⟨_, _, fun_mk (st := s_check_stage) l1 c1 k1, PySem.W.mg_of X G a1⟩
  have D2 : At K mg "is_number" s_is_number := ⟨_, _, fun_mk (st := s_is_number) l2 c2 k2, PySem.W.mg_of X G a2⟩
  have D3 : At K mg "is_row" s_is_row := ⟨_, _, fun_mk (st := s_is_row) l3 c3 k3, PySem.W.mg_of X G a3⟩
  have D4 : At K mg "rounds" s_rounds := ⟨_, _, fun_mk (st := s_rounds) l4 c4 k4, PySem.W.mg_of X G a4⟩
  have D5 : At K mg "write_row" s_write_row := ⟨_, _, fun_mk (st := s_write_row) l5 c5 k5, PySem.W.mg_of X G a5⟩
  have D6 : At K mg "read_row" s_read_row := ⟨_, _, fun_mk (st := s_read_row) l6 c6 k6, PySem.W.mg_of X G a6⟩
  have D7 : At K mg "_law_cell" s_law_cell := ⟨_, _, fun_mk (st := s_law_cell) l7 c7 k7, PySem.W.mg_of X G a7⟩
  have D8 : At K mg "_law_pool" s_law_pool := ⟨_, _, fun_mk (st := s_law_pool) l8 c8 k8, PySem.W.mg_of X G a8⟩
  have D9 : At K mg "_law_draw" s_law_draw := ⟨_, _, fun_mk (st := s_law_draw) l9 c9 k9, PySem.W.mg_of X G a9⟩
  have D10 : At K mg "_law_row_draw" s_law_row_draw := ⟨_, _, fun_mk (st := s_law_row_draw) l10 c10 k10, PySem.W.mg_of X G a10⟩
  have D11 : At K mg "_law_same" s_law_same := ⟨_, _, fun_mk (st := s_law_same) l11 c11 k11, PySem.W.mg_of X G a11⟩
  have D12 : At K mg "_law_bent" s_law_bent := ⟨_, _, fun_mk (st := s_law_bent) l12 c12 k12, PySem.W.mg_of X G a12⟩
  have D13 : At K mg "_law_sign" s_law_sign := ⟨_, _, fun_mk (st := s_law_sign) l13 c13 k13, PySem.W.mg_of X G a13⟩
  have D14 : At K mg "_law_bent_text" s_law_bent_text := ⟨_, _, fun_mk (st := s_law_bent_text) l14 c14 k14, PySem.W.mg_of X G a14⟩
  have D15 : At K mg "_law_no_stage" s_law_no_stage := ⟨_, _, fun_mk (st := s_law_no_stage) l15 c15 k15, PySem.W.mg_of X G a15⟩
  have D16 : At K mg "_law_due" s_law_due := ⟨_, _, fun_mk (st := s_law_due) l16 c16 k16, PySem.W.mg_of X G a16⟩
  have D17 : At K mg "_law_read" s_law_read := ⟨_, _, fun_mk (st := s_law_read) l17 c17 k17, PySem.W.mg_of X G a17⟩
  have D18 : At K mg "_law_home" s_law_home := ⟨_, _, fun_mk (st := s_law_home) l18 c18 k18, PySem.W.mg_of X G a18⟩
  have D19 : At K mg "_law_value" s_law_value := ⟨_, _, fun_mk (st := s_law_value) l19 c19 k19, PySem.W.mg_of X G a19⟩
  have D20 : At K mg "_law_row_by_count" s_law_row_by_count := ⟨_, _, fun_mk (st := s_law_row_by_count) l20 c20 k20, PySem.W.mg_of X G a20⟩
  have D21 : At K mg "law" s_law := ⟨_, _, fun_mk (st := s_law) l21 c21 k21, PySem.W.mg_of X G a21⟩
  have FL := fun_mk (st := s_law) l21 c21 k21
  have M_ChamberError : mg "ChamberError" = some (.ref C_ChamberError) := PySem.W.mg_of X G e_ChamberError
  have M_BadStage : mg "BadStage" = some (.ref C_BadStage) := PySem.W.mg_of X G e_BadStage
  have M_BadRow : mg "BadRow" = some (.ref C_BadRow) := PySem.W.mg_of X G e_BadRow
  have M_Unlike : mg "Unlike" = some (.ref C_Unlike) := PySem.W.mg_of X G e_Unlike
  have XS : Exs K (ecOf mg) XN := exs_of (l := [("ChamberError", C_ChamberError), ("BadStage", C_BadStage), ("BadRow", C_BadRow), ("Unlike", C_Unlike)]) M_ChamberError (by simp only [List.forall_mem_cons]; exact ⟨M_ChamberError, M_BadStage, M_BadRow, M_Unlike, fun _ h => nomatch h⟩) xs
  have EX : ExAt mg (ecOf mg) XN := by
    unfold ExAt
    simp only [XN, List.forall_mem_cons]
    exact ⟨by rw [ecOf_at M_ChamberError]; exact M_ChamberError, by rw [ecOf_at M_BadStage]; exact M_BadStage, by rw [ecOf_at M_BadRow]; exact M_BadRow, by rw [ecOf_at M_Unlike]; exact M_Unlike, fun _ h => nomatch h⟩
  have BC_ChamberError : Bad K C_ChamberError C_ChamberError := by have z := XS.bad "ChamberError" (by decide); simp only [ecOf_at M_ChamberError, ecOf_at M_ChamberError] at z; exact z
  have BC_BadStage : Bad K C_BadStage C_ChamberError := by have z := XS.bad "BadStage" (by decide); simp only [ecOf_at M_BadStage, ecOf_at M_ChamberError] at z; exact z
  have BC_BadRow : Bad K C_BadRow C_ChamberError := by have z := XS.bad "BadRow" (by decide); simp only [ecOf_at M_BadRow, ecOf_at M_ChamberError] at z; exact z
  have BC_Unlike : Bad K C_Unlike C_ChamberError := by have z := XS.bad "Unlike" (by decide); simp only [ecOf_at M_Unlike, ecOf_at M_ChamberError] at z; exact z
  refine ⟨PySem.W.fnOf "law" "law" (defArgs s_law) (defBody s_law) (defScope s_law) .none kV21 dc21 pm21 an21 cd21 ct21, fun s v => .of_eq rfl, fun base _ _ => ?_⟩
  have FC := ok_CE (w := w) (base := base) (D := C_ChamberError) (S := (⟨⟨_, _, _, _, _, _, _, _, _, _, _, _, _, _, rfl, i3_ChamberError, i4_ChamberError, i5_ChamberError, i6_ChamberError⟩, ⟨rfl, rfl, rfl, by decide +kernel, rfl, by decide +kernel, by decide +kernel, by decide +kernel⟩, rfl, rfl, rfl, ⟨_, rfl, rfl⟩, PySem.W.mg_none_of X G zsu, tp, BC_ChamberError.cls⟩ : SupI l.prog K mg "ChamberError.__init__" i_ChamberError C_ChamberError ["self", "word"] fI_ChamberError _)) rfl ⟨_, fun _ => rfl⟩ rfl
  have BCE : Binds K _ ["self", "word"] [] := Binds.all (fd := PySem.W.ksFn "__init__" "ChamberError.__init__" (defArgs i_ChamberError) (defBody i_ChamberError) (defScope i_ChamberError) .none kV_ChamberError dc_ChamberError pm_ChamberError an_ChamberError cd_ChamberError ct_ChamberError cc_ChamberError) fun us hl => match us, hl with | [_, _], _ => rfl
  have Z_BadRow : Rz0 l.prog w K mg base "BadRow" (ecOf mg "BadRow") := by
    rw [ecOf_at M_BadRow]
    exact ⟨⟨_, _, i1_BadRow, i2_BadRow, ok_B0 (w := w) (base := base) (nm := "BadRow") (S := (⟨⟨_, _, _, _, _, _, _, _, _, _, _, _, _, _, rfl, i3_BadRow, i4_BadRow, i5_BadRow, i6_BadRow⟩, ⟨rfl, rfl, rfl, by decide +kernel, rfl, by decide +kernel, by decide +kernel, by decide +kernel⟩, rfl, rfl, rfl, ⟨_, rfl, rfl⟩, PySem.W.mg_none_of X G zsu, tp, BC_BadRow.cls⟩ : SupI l.prog K mg "BadRow.__init__" i_BadRow C_BadRow ["self"] fI_BadRow _)) rfl ⟨_, fun _ => rfl⟩ FC BCE BC_BadRow i8_BadRow i7_BadRow i2_ChamberError kf, Binds.all fun us hl => match us, hl with | [_], _ => rfl⟩, BC_BadRow.ox, M_BadRow⟩
  have Z_BadStage : Rz0 l.prog w K mg base "BadStage" (ecOf mg "BadStage") := by
    rw [ecOf_at M_BadStage]
    exact ⟨⟨_, _, i1_BadStage, i2_BadStage, ok_B0 (w := w) (base := base) (nm := "BadStage") (S := (⟨⟨_, _, _, _, _, _, _, _, _, _, _, _, _, _, rfl, i3_BadStage, i4_BadStage, i5_BadStage, i6_BadStage⟩, ⟨rfl, rfl, rfl, by decide +kernel, rfl, by decide +kernel, by decide +kernel, by decide +kernel⟩, rfl, rfl, rfl, ⟨_, rfl, rfl⟩, PySem.W.mg_none_of X G zsu, tp, BC_BadStage.cls⟩ : SupI l.prog K mg "BadStage.__init__" i_BadStage C_BadStage ["self"] fI_BadStage _)) rfl ⟨_, fun _ => rfl⟩ FC BCE BC_BadStage i8_BadStage i7_BadStage i2_ChamberError kf, Binds.all fun us hl => match us, hl with | [_], _ => rfl⟩, BC_BadStage.ox, M_BadStage⟩
  have G1 := ok_check_stage (P := l.prog) (w := w) (base := base) D1 B XS EX Z_BadStage
  have G2 := ok_is_number (P := l.prog) (w := w) (base := base) D2 B
  have G3 := ok_is_row (P := l.prog) (w := w) (base := base) D3 B G2
  have G4 := ok_rounds (P := l.prog) (w := w) (base := base) D4 B XS EX G1
  have G5 := ok_write_row (P := l.prog) (w := w) (base := base) D5 B
  have G6 := ok_read_row (P := l.prog) (w := w) (base := base) D6 B XS EX G1 Z_BadRow
  have G7 := ok_law_cell (P := l.prog) (w := w) (base := base) D7 B
  have G8 := ok_law_pool (P := l.prog) (w := w) (base := base) D8 B G7
  have G9 := ok_law_draw (P := l.prog) (w := w) (base := base) D9 B
  have G10 := ok_law_row_draw (P := l.prog) (w := w) (base := base) D10 B G9
  have G11 := ok_law_same (P := l.prog) (w := w) (base := base) D11 B
  have G12 := ok_law_bent (P := l.prog) (w := w) (base := base) D12 B G9
  have G13 := ok_law_sign (P := l.prog) (w := w) (base := base) D13 B G9
  have G14 := ok_law_bent_text (P := l.prog) (w := w) (base := base) D14 B G9 G13
  have G15 := ok_law_no_stage (P := l.prog) (w := w) (base := base) D15 B G9
  have G16 := ok_law_due (P := l.prog) (w := w) (base := base) D16 B
  have G17 := ok_law_read (P := l.prog) (w := w) (base := base) D17 B XS EX G6
  have G18 := ok_law_home (P := l.prog) (w := w) (base := base) D18 B XS EX G4
  have G19 := ok_law_value (P := l.prog) (w := w) (base := base) D19 B G9 G12
  have G20 := ok_law_row_by_count (P := l.prog) (w := w) (base := base) D20 B
  exact ok_lawF FL B G8 G9 G10 G14 G15 G16 G17 G11 G5 G18 G3 G19 G20
end K0
end Kb
open PySem PySem.W PyProof.Rows
set_option maxRecDepth 100000 in
set_option maxHeartbeats 0 in
theorem PySem.Challenge.cw_ringingchamber_k00_rows_read_and_written_holds : PySem.Challenge.rw_ringingchamber_k00_rows_read_and_written.Holds := by
  w_on; o_law; k_head; (case hw => w_witness2)
  k_fill
  refine L2.walk_of (l := PySem.Challenge.rw_ringingchamber_k00_rows_read_and_written) (n := 63) (k := 7) (x := "script") (CX := fun _ => L2.CX0) (sp := fun w => Kb.K0.sp_law _) rfl (by decide) rfl ⟨rfl, by decide, by decide⟩ (fun w h Y => PySem.W.kIn_of Y) ?F (fun _ _ a ns hl _ hS => ⟨a, ns, rfl, hS, hl, fun _ => rfl⟩) (fun _ _ _ _ _ h => h)
  case F =>
    intro w mg fa h KX G hmg
    refine' Kb.K0.all_mk KX G hmg ?a1 ?l1 ?c1 ?k1 ?a2 ?l2 ?c2 ?k2 ?a3 ?l3 ?c3 ?k3 ?a4 ?l4 ?c4 ?k4 ?a5 ?l5 ?c5 ?k5 ?a6 ?l6 ?c6 ?k6 ?a7 ?l7 ?c7 ?k7 ?a8 ?l8 ?c8 ?k8 ?a9 ?l9 ?c9 ?k9 ?a10 ?l10 ?c10 ?k10 ?a11 ?l11 ?c11 ?k11 ?a12 ?l12 ?c12 ?k12 ?a13 ?l13 ?c13 ?k13 ?a14 ?l14 ?c14 ?k14 ?a15 ?l15 ?c15 ?k15 ?a16 ?l16 ?c16 ?k16 ?a17 ?l17 ?c17 ?k17 ?a18 ?l18 ?c18 ?k18 ?a19 ?l19 ?c19 ?k19 ?a20 ?l20 ?c20 ?k20 ?a21 ?l21 ?c21 ?k21 ?z_ValueError ?z_abs ?z_bool ?z_int ?z_isinstance ?z_len ?z_list ?z_range ?z_set ?z_str ?z_tuple ?q_SIGNS ?e_ChamberError ?e_BadStage ?e_BadRow ?e_Unlike ?xs ?zsu ?tp ?i1_ChamberError ?i2_ChamberError ?i3_ChamberError ?i4_ChamberError ?i5_ChamberError ?i6_ChamberError ?i1_BadStage ?i2_BadStage ?i3_BadStage ?i4_BadStage ?i5_BadStage ?i6_BadStage ?i7_BadStage ?i8_BadStage ?i1_BadRow ?i2_BadRow ?i3_BadRow ?i4_BadRow ?i5_BadRow ?i6_BadRow ?i7_BadRow ?i8_BadRow ?kf
    (case a1 => k_is); (case l1 => k_is); (case c1 => k_is); (case k1 => k_is); (case a2 => k_is); (case l2 => k_is); (case c2 => k_is); (case k2 => k_is); (case a3 => k_is); (case l3 => k_is); (case c3 => k_is); (case k3 => k_is); (case a4 => k_is); (case l4 => k_is); (case c4 => k_is); (case k4 => k_is); (case a5 => k_is); (case l5 => k_is); (case c5 => k_is); (case k5 => k_is); (case a6 => k_is); (case l6 => k_is); (case c6 => k_is); (case k6 => k_is); (case a7 => k_is); (case l7 => k_is); (case c7 => k_is); (case k7 => k_is); (case a8 => k_is); (case l8 => k_is); (case c8 => k_is); (case k8 => k_is); (case a9 => k_is); (case l9 => k_is); (case c9 => k_is); (case k9 => k_is); (case a10 => k_is); (case l10 => k_is); (case c10 => k_is); (case k10 => k_is); (case a11 => k_is); (case l11 => k_is); (case c11 => k_is); (case k11 => k_is); (case a12 => k_is); (case l12 => k_is); (case c12 => k_is); (case k12 => k_is); (case a13 => k_is); (case l13 => k_is); (case c13 => k_is); (case k13 => k_is); (case a14 => k_is); (case l14 => k_is); (case c14 => k_is); (case k14 => k_is); (case a15 => k_is); (case l15 => k_is); (case c15 => k_is); (case k15 => k_is); (case a16 => k_is); (case l16 => k_is); (case c16 => k_is); (case k16 => k_is); (case a17 => k_is); (case l17 => k_is); (case c17 => k_is); (case k17 => k_is); (case a18 => k_is); (case l18 => k_is); (case c18 => k_is); (case k18 => k_is); (case a19 => k_is); (case l19 => k_is); (case c19 => k_is); (case k19 => k_is); (case a20 => k_is); (case l20 => k_is); (case c20 => k_is); (case k20 => k_is); (case a21 => k_is); (case l21 => k_is); (case c21 => k_is); (case k21 => k_is); (case z_ValueError => k_is); (case z_abs => k_is); (case z_bool => k_is); (case z_int => k_is); (case z_isinstance => k_is); (case z_len => k_is); (case z_list => k_is); (case z_range => k_is); (case z_set => k_is); (case z_str => k_is); (case z_tuple => k_is); (case q_SIGNS => k_is); (case e_ChamberError => k_is); (case e_BadStage => k_is); (case e_BadRow => k_is); (case e_Unlike => k_is); (case xs => kernel_rfl); (case zsu => k_is); (case tp => decide +kernel); (case i1_ChamberError => k_is); (case i2_ChamberError => k_is); (case i3_ChamberError => k_is); (case i4_ChamberError => k_is); (case i5_ChamberError => k_is); (case i6_ChamberError => kernel_rfl); (case i1_BadStage => k_is); (case i2_BadStage => k_is); (case i3_BadStage => k_is); (case i4_BadStage => k_is); (case i5_BadStage => k_is); (case i6_BadStage => kernel_rfl); (case i7_BadStage => kernel_rfl); (case i8_BadStage => k_is); (case i1_BadRow => k_is); (case i2_BadRow => k_is); (case i3_BadRow => k_is); (case i4_BadRow => k_is); (case i5_BadRow => k_is); (case i6_BadRow => kernel_rfl); (case i7_BadRow => kernel_rfl); (case i8_BadRow => k_is); (case kf => k_is)
