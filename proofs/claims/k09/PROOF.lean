import PyProof.Rows.All
import Wide.All
import OpenK.AllK
import Wide.FinOn
import HandS.ForMost
import HandS.Conv
import HandS.IsInst
import HandS.Wide
import HandS.TupAny
import HandS.TupLe
import HandS.TupMul
import KE.KExcSuper
import KE.KExcIs
import HandS.Exc
import HandS.ExcInit
import HandS.ExcField
import HandS.ExcIs
import HandS.WordsExc
import KE.GoesEnumKw
import HandS.Iter
import HandS.Strs
import HandS.SetFor
import HandS.List
import KE.LtData
import HandS.Style
import HandS.Codes
import HandS.More
import KE.SortData
import PyProof.Rows.StrFirst
import PyProof.SliceStr2
import HandS.Walk
import PySem.Challenge.RW_ringingchamber_k09_texts_of_changes
set_option Elab.async false
set_option linter.all false
set_option maxRecDepth 100000
/-! KbA: operators that take any kind, one reading a construct; the step lemmas of a reading. -/
namespace Kb
open PySem PySem.Spec PyProof.Rows L2

/-! ### operators over several kinds of values -/
section
variable {X : Cx}
def rAddU (K : PySem.W.Frag) : R2 := fun x y H Q => rI0 (fun i j => .int (i + j)) x y H Q ∨
  ((fun x y H Q => ∃ i j, x = V.str i ∧ y = V.str j ∧ i.length + j.length ≤ sizeLine ∧ Q (V.str (i ++ j)) H) x y H Q ∨ (rCat x y H Q ∨ rCatA K x y H Q))
theorem op_addU : OpR X (binaryOp .Add) (rAddU X.K) := OpR.or op_add (OpR.or op_add_str (OpR.or op_cat op_catA))
def rMulU (K : PySem.W.Frag) : R2 := fun x y H Q => rI CMul (fun i j => .int (i * j)) x y H Q ∨ (rI CMulW (fun i j => .int (i * j)) x y H Q ∨ (rRep x y H Q ∨ rRepT K x y H Q))
theorem op_mulU : OpR X (binaryOp .Mult) (rMulU X.K) := OpR.or op_mul (OpR.or op_mulW (OpR.or op_rep op_repT))
def rFdivU : R2 := rI CDivW (fun i j => .int (i / j))
theorem op_fdivU : OpR X (binaryOp .FloorDiv) rFdivU := op_fdivW
def rModU : R2 := rI (fun _ j => 0 < j) (fun i j => .int (i % j))
theorem op_modU : OpR X (binaryOp .Mod) rModU := op_mod
def rSubU : R2 := rI0 (fun i j => .int (i - j))
theorem op_subU : OpR X (binaryOp .Sub) rSubU := op_sub
def rPowU : R2 := rI CPow (fun i j => .int (i ^ j.toNat))
theorem op_powU : OpR X (binaryOp .Pow) rPowU := op_pow
def rEqU (K : PySem.W.Frag) : R2 := fun x y H Q => rEq x y H Q ∨ rEqD K x y H Q
theorem op_eqU (hu : X.A.units + 64 < cLine) : OpR X (compareOp .Eq) (rEqU X.K) := OpR.or op_eq (op_eqD hu)
def rNeU (K : PySem.W.Frag) : R2 := fun x y H Q => rNe x y H Q ∨ rNeD K x y H Q
theorem op_neU (hu : X.A.units + 64 < cLine) : OpR X (compareOp .NotEq) (rNeU X.K) := OpR.or op_ne (op_neD hu)
def rLtU (K : PySem.W.Frag) : R2 := fun x y H Q => rI0 (fun i j => .bl (decide (i < j))) x y H Q ∨
  ((fun x y H Q => ∃ i j, x = V.str i ∧ y = V.str j ∧ Q (V.bl (decide (i.cps.toList < j.cps.toList))) H) x y H Q ∨ rLtT K x y H Q)
theorem op_ltU (hu : X.A.units + 64 < cLine) : OpR X (compareOp .Lt) (rLtU X.K) := OpR.or op_lt (OpR.or op_lt_str (op_ltT (by omega)))
def rLeU (K : PySem.W.Frag) : R2 := fun x y H Q => rI0 (fun i j => .bl (decide (i ≤ j))) x y H Q ∨
  ((fun x y H Q => ∃ i j, x = V.str i ∧ y = V.str j ∧ Q (V.bl (!decide (j.cps.toList < i.cps.toList))) H) x y H Q ∨ rLeT K x y H Q)
theorem op_leU (hu : X.A.units + 64 < cLine) : OpR X (compareOp .LtE) (rLeU X.K) := OpR.or op_le (OpR.or op_le_str (op_leT (by omega)))
def rGtU : R2 := fun x y H Q => rI0 (fun i j => .bl (decide (j < i))) x y H Q ∨
  (fun x y H Q => ∃ i j, x = V.str i ∧ y = V.str j ∧ Q (V.bl (decide (j.cps.toList < i.cps.toList))) H) x y H Q
theorem op_gtU : OpR X (compareOp .Gt) rGtU := OpR.or op_gt op_gt_str
def rGeU : R2 := fun x y H Q => rI0 (fun i j => .bl (decide (j ≤ i))) x y H Q ∨
  (fun x y H Q => ∃ i j, x = V.str i ∧ y = V.str j ∧ Q (V.bl (!decide (i.cps.toList < j.cps.toList))) H) x y H Q
theorem op_geU : OpR X (compareOp .GtE) rGeU := OpR.or op_ge op_ge_str
def rInU (K : PySem.W.Frag) : R2 := fun x y H Q => rIn K false x y H Q ∨
  (fun x y H Q => ∃ (c : Nat) (z : Str), x = V.str ⟨#[c]⟩ ∧ y = V.str z ∧ Q (V.bl (decide (c ∈ z.cps.toList))) H) x y H Q
theorem op_inU : OpR X (compareOp .In) (rInU X.K) := OpR.or op_in_seq op_in_sign
def rNotInU (K : PySem.W.Frag) : R2 := fun x y H Q => rIn K true x y H Q ∨
  (fun x y H Q => ∃ (c : Nat) (z : Str), x = V.str ⟨#[c]⟩ ∧ y = V.str z ∧ Q (V.bl (!decide (c ∈ z.cps.toList))) H) x y H Q
theorem op_notInU : OpR X (compareOp .NotIn) (rNotInU X.K) := OpR.or op_notIn_seq op_notIn_sign
def rIsNU : R2 := fun x y H Q => y = V.non ∧ Q (V.bl (decide (x = V.non))) H
theorem op_isNU : OpR X (compareOp .Is) rIsNU := op_isN
def rNotNU : R2 := fun x y H Q => y = V.non ∧ Q (V.bl (!decide (x = V.non))) H
theorem op_notNU : OpR X (compareOp .IsNot) rNotNU := op_notN
def rSlU (K : PySem.W.Frag) : V → Option Int → Option Int → Hp → VK → Prop := fun x lo hi H Q => rSlL K x lo hi H Q ∨ (rSlA K x lo hi H Q ∨ rSlS x lo hi H Q)
theorem sl_U : SlR X (rSlU X.K) := SlR.or sl_list (SlR.or sl_tupA sl_str)
def rLenU (K : PySem.W.Frag) : List V → Hp → VK → Prop := fun xs H Q => (fun xs H Q => ∃ p ys, xs = [V.ref p] ∧ (SqL K H p ys ∨ SqT K H p ys) ∧ Q (V.int ys.length) H) xs H Q ∨
  ((fun xs H Q => ∃ z, xs = [V.str z] ∧ z.length ≤ sizeLine ∧ Q (V.int z.length) H) xs H Q ∨ (fun xs H Q => ∃ a kvs, xs = [V.ref a] ∧ H a = some (.dK kvs) ∧ Q (.int kvs.length) H) xs H Q)
theorem call_lenU : CallR X (.builtin "len") (rLenU X.K) := CallR.or call_len_seq (CallR.or call_len_str call_lenD)
def rIntU : List V → Hp → VK → Prop := fun xs H Q => ∃ i, xs = [V.int i] ∧ Q (V.int i) H
theorem call_intU : CallR X (.type "int") rIntU := fun pins s σ H xs us Q I r h => call_int1 pins s σ H xs us Q I r (.inl h)
def rAbsU : List V → Hp → VK → Prop := fun xs H Q => ∃ i, xs = [V.int i] ∧ Q (V.int (if i < 0 then -i else i)) H
theorem call_absU : CallR X (.builtin "abs") rAbsU := call_abs
def rListU (K : PySem.W.Frag) : List V → Hp → VK → Prop := fun xs H Q => ∃ p ys, xs = [V.ref p] ∧ (SqL K H p ys ∨ SqT K H p ys) ∧ ∀ l, H l = none → Q (V.ref l) (upd H l (.lst ys))
theorem call_listU : CallR X (.type "list") (rListU X.K) := call_list_of
theorem PI.or {tg e : Expr} {w1 w2 : TI} (h1 : PI X tg e w1) (h2 : PI X tg e w2) : PI X tg e (fun σ H R => w1 σ H R ∨ w2 σ H R) := by
  refine ⟨fun pins s σ H R I h => ?_⟩
  rcases h with h | h
  · exact h1.run pins s σ H R I h
  · exact h2.run pins s σ H R I h
def iSeqU (K : PySem.W.Frag) (te : TE) : TI := fun σ H R => iList K te σ H R ∨ (iTup K te σ H R ∨ iStr te σ H R)
theorem pi_seqU {tg e : Expr} {te : TE} (he : PE X e te) : PI X tg e (iSeqU X.K te) := PI.or (pi_list he) (PI.or (pi_tup he) (pi_str he))
def tTru (K : PySem.W.Frag) (ta : TE) : TT := fun σ H Q => ta σ H fun x H' => ∃ k, TruV K x H' k ∧ Q k H'
theorem pt_truU {a : Expr} {ta : TE} (h : PE X a ta) (hq : ∀ whole, isTrue a X.env whole = (do let v ← whole; standAt a.pos; holding [v] (truthy v))) : PT X a (tTru X.K ta) := pt_truth h hq
/-- a tuple that tuple(..) has made: the object is told, it has no dict (a method may be asked of it) -/
def kTupD (K : PySem.W.Frag) (x : V) (H : Hp) (Q : VK) : Prop :=
  (∃ p xs, x = .ref p ∧ SqL K H p xs ∧ ∀ (q : Addr) (o : Obj), H q = none → o.dict = none → Q (.ref q) (upd H q (.frz o (.tup xs)))) ∨ (∃ p xs, x = .ref p ∧ SqT K H p xs ∧ Q (.ref p) H)
theorem rl_tupD (pins : List (Addr × Obj)) (s : Shared) (σ : L2.St) (H : Hp) (x : V) (v : Value) (Q : VK) (I : Inv X pins σ H s) (r : RelV x v) (h : kTupD X.K x H Q) :
    wpAny (model X.prog X.w) X.A (call (.type "tuple") [v]) (EP X pins σ Q) X.xe s := by
  rcases h with ⟨p, xs, rfl, hs, q⟩ | ⟨p, xs, rfl, hs, q⟩
  · obtain rfl : v = .ref p := r
    obtain ⟨its, rv, pl, hz⟩ := I.list hs
    refine call_tuple_list pl.isList (fun h' hk => ?_) (by rw [List.size_toArray, ← rv.length]; exact hz)
    have I1 : Inv X pins σ H { s with heap := h' } := I.kept (t' := s.toks) hk
    have I2 : Inv X pins σ (upd H h'.objs.size (.frz { cls := .type "tuple", data := .seq its.toArray } (.tup xs))) { s with heap := h'.push { cls := .type "tuple", data := .seq its.toArray } } :=
      I1.laid (t' := s.toks) (fun b o e => Heap.get?_push_of_some _ e) (Nat.le_refl _) (show ObjOk X.prog X.w _ _ _ (.frz _ (.tup xs)) from ⟨Heap.get?_push_size _ rfl, hz, its, rv, IsTup.new _ _⟩)
    exact ⟨.ref h'.objs.size, _, I2, rfl, q _ _ (I1.hok.fresh (Nat.le_refl _)) rfl⟩
  · obtain rfl : v = .ref p := r
    obtain ⟨its, rv, pl, hz⟩ := I.tuple hs
    exact call_tuple_tup pl ⟨.ref p, H, I, rfl, q⟩
theorem pe_tupD {a : Expr} {ta : TE} {p pos : Pos} (hg : Gl X "tuple") (hm : X.mg "tuple" = none) (ha : PE X a ta) (na : starEach [a] X.env = (false, eval a X.env) :: starEach [] X.env := by rfl) :
    PE X (.Call (.Name "tuple" p) [a] [] pos) (tThen ta (kTupD X.K)) := by
  refine ⟨fun pins s σ H Q I h => ?_⟩
  exact Call_ (ld_blt I hg hm boot_tuple (PyProof.Rows.callWith_type1 (one_arg ha I h (fun v s2 x H2 I2 r q => rl_tupD pins s2 σ H2 x v Q I2 r q) na) na))
/-- the object at p is told and has no dict -/
def NoD (H : Hp) (p : Addr) : Prop := ∃ (o : Obj) (u : HO), H p = some (.frz o u) ∧ o.dict = none
def tBMT (K : PySem.W.Frag) (r : V → List V → Hp → VK → Prop) (to : TE) (t : TA) : TE := fun σ H Q => to σ H fun x H1 => (∃ p xs, x = .ref p ∧ SqT K H1 p xs ∧ NoD H1 p) ∧ t σ H1 fun xs H2 => r x xs H2 Q
theorem pe_bmT {o e : Expr} {es : List Expr} {to : TE} {t : TA} {name : Str} {apos cpos : Pos} {id : String} {r : V → List V → Hp → VK → Prop} (slot : Slot "tuple" name id) (hty : typeOf (.builtin id) = pure (.type "method_descriptor")) (hm : MtR X id r) (ho : PE X o to) (ha : PA X (e :: es) t)
    (hbase : attributeBase o name X.env (eval o X.env) = eval o X.env := by rfl)
    (hfew : ((backTo cpos (starEach (e :: es) X.env)).all (fun x => !x.1) && (backToKw cpos (keywordEach [] X.env)).all (fun x => x.1.isSome)
      && decide ((e :: es).length + ([] : List Keyword).length + (if ([] : List Keyword).isEmpty then 0 else 1) < 30)) = true := by rfl)
    (hline : (apos.endLine == cpos.line) = true := by rfl) (hs : starEach (e :: es) X.env = (false, eval e X.env) :: starEach es X.env := by rfl) (hplain : (backTo cpos (starEach es X.env)).any (·.1) = false := by rfl) :
    PE X (.Call (.Attribute o name apos) (e :: es) [] cpos) (tBMT X.K r to t) := by
  refine ⟨fun pins s σ H Q I h => ?_⟩
  refine wpAny_Call_method_late hbase hfew hline rfl (thn (ho.run pins s σ H _ I h) fun v s1 ⟨x, H1, I1, r1, ⟨p, xs, ex, hq, oo, uu, hp, hd⟩, q1⟩ => ?_)
  subst ex
  obtain rfl : v = Value.ref p := r1
  obtain ⟨its, rv, ⟨o1, e1, c1, _⟩, hz⟩ := I1.tuple hq
  have hok : ObjOk X.prog X.w H1 s1.heap p (.frz oo uu) := I1.hok p _ hp
  refine ⟨"tuple", id, PySem.F.plainAttrs_tuple, slot, hty, ⟨o1, e1, c1⟩, fun a ea => ?_, ?_⟩
  · cases ea
    exact ⟨oo, hok.1, hd⟩
  have hA := ha.run cpos pins s1 σ H1 _ I1 q1
  rw [hs] at hA ⊢
  refine Calls.callWith_builtin (by show (false || (backTo cpos (starEach es X.env)).any (·.1)) = false; rw [hplain] <;> rfl) (Calls.evalArgs_plain ?_)
  exact thn hA fun us s2 ⟨vs, H2, I2, r2, q2⟩ => hm pins s2 σ H2 (.ref p) vs (.ref p) us Q I2 rfl r2 q2
end
end Kb

set_option Elab.async false
set_option linter.all false
set_option maxRecDepth 100000
/-! KbB: defs by name; heaps; the step lemmas of readings; the tactic rd. -/
namespace Kb
open PySem PySem.Spec PyProof.Rows L2

/-! ### defs by name -/
structure Fn (P : Program) (w : World) (K : PySem.W.Frag) (mg : Str → Option Value) (base : Heap) (CX : CXT) (k : Nat) (x : Str) (ps : List Str) (sp : Sp) : Prop where
  ex : ∃ f fd, FnOk P w K mg base CX k f fd ps sp ∧ mg x = some (.ref f) ∧ PySem.W.keepIn K (.ref f) = true ∧ Binds K fd ps []
def At (K : PySem.W.Frag) (mg : Str → Option Value) (x : Str) (st : Stmt) : Prop := ∃ f fd, Fun K x x st f fd ∧ mg x = some (.ref f)
section
variable {X : Cx} {CX : CXT} {k : Nat} {ps : List Str} {sp : Sp} {E : XK} {x : Str} {p pos : Pos} {e : Expr} {es : List Expr} {t : TA}
theorem Fn.mk' {P : Program} {w : World} {K : PySem.W.Frag} {mg : Str → Option Value} {base : Heap} {f : Addr} {fd : FuncData} (F : FnOk P w K mg base CX k f fd ps sp) (hm : mg x = some (.ref f)) (hk : PySem.W.keepIn K (.ref f) = true) (hb : Binds K fd ps []) : Fn P w K mg base CX k x ps sp := ⟨f, fd, F, hm, hk, hb⟩
theorem pe_callF (G : Fn X.prog X.w X.K X.mg X.base CX k x ps sp) (hr : Room k X.A) (hg : Gl X x) (hx : Passes CX X E) (ha : PA X (e :: es) t) (hdb : (x == ("__debug__" : Str)) = false := by decide)
    (he : starEach (e :: es) X.env = (false, eval e X.env) :: starEach es X.env := by rfl) (hpl : (backTo pos (starEach es X.env)).any (·.1) = false := by rfl) : PE X (.Call (.Name x p) (e :: es) [] pos) (tCall sp [] E t) := by
  obtain ⟨f, fd, F, hm, hk, hb⟩ := G.ex
  exact pe_call F hr hg hm hk hb .nil hx ha hdb he hpl
theorem pe_callF0 (G : Fn X.prog X.w X.K X.mg X.base CX k x ps sp) (hr : Room k X.A) (hg : Gl X x) (hx : Passes CX X E) (hdb : (x == ("__debug__" : Str)) = false := by decide) : PE X (.Call (.Name x p) [] [] pos) (tCall sp [] E tNil) := by
  obtain ⟨f, fd, F, hm, hk, hb⟩ := G.ex
  exact pe_call0 F hr hg hm hk hb .nil hx hdb
end

/-! ### heaps -/
/-- all but l is as it was -/
def But (l : Addr) (H H' : Hp) : Prop := ∀ b o, b ≠ l → H b = some o → H' b = some o
section
variable {K : PySem.W.Frag} {H H1 H2 H' : Hp} {a l p : Addr} {o u : HO} {xs ys : List V} {ns : List Int}
theorem same_new (h : H p = none) : Same H (upd H p o) := fun b x e => by rw [upd_ne (ne_of_none e h)]; exact e
theorem but_upd : But l H (upd H l o) := fun b x n e => by rw [upd_ne n]; exact e
theorem But.trans (a : But l H H1) (b : But l H1 H2) : But l H H2 := fun c o n h => b c o n (a c o n h)
theorem But.refl : But l H H := fun _ _ _ h => h
theorem Same.but (s : Same H H') : But l H H' := fun b o _ h => s b o h
theorem rd_same (s : Same H H') (h : Rd H a u) : Rd H' a u := by
  rcases h with h | ⟨o, h⟩
  · exact .inl (s _ _ h)
  · exact .inr ⟨o, s _ _ h⟩
theorem sqT_same (s : Same H H') (h : SqT K H a xs) : SqT K H' a xs := by
  rcases h with h | h
  · exact .inl (rd_same s h)
  · exact .inr h
theorem sqL_same (s : Same H H') (h : SqL K H a xs) : SqL K H' a xs := s.seq h
theorem sqT_but (b : But l H H') (hl : H l = some (.lst ys)) (h : SqT K H a xs) : SqT K H' a xs := by
  rcases h with (h | ⟨o, h⟩) | h
  · exact .inl (.inl (b _ _ (ne_of h hl (by intro z; cases z)) h))
  · exact .inl (.inr ⟨o, b _ _ (ne_of h hl (by intro z; cases z)) h⟩)
  · exact .inr h
theorem sqL_but (b : But l H H') (hne : a ≠ l) (h : SqL K H a xs) : SqL K H' a xs := by
  rcases h with (h | ⟨o, h⟩) | h
  · exact .inl (.inl (b _ _ hne h))
  · exact .inl (.inr ⟨o, b _ _ hne h⟩)
  · exact .inr h
theorem at_same (s : Same H H') (h : H a = some o) : H' a = some o := s _ _ h
theorem at_but (b : But l H H') (hne : a ≠ l) (h : H a = some o) : H' a = some o := b _ _ hne h
theorem sqL_of (h : H a = some (.lst xs)) : SqL K H a xs := .inl (.inl h)
theorem sqT_of (h : H a = some (.tup xs)) : SqT K H a xs := .inl (.inl h)
/-- a but of an object that the first heap doesn't know is a same -/
theorem But.same (b : But l H H') (h : H l = none) : Same H H' := fun c o e => b c o (ne_of_none e h) e
theorem same_but (s : Same H H1) (b : But l H1 H2) (h : H l = none) : Same H H2 := fun c o e => b c o (ne_of_none e h) (s c o e)
theorem but_same (b : But l H H1) (s : Same H1 H2) : But l H H2 := fun c o n e => s c o (b c o n e)
end

/-! ### what a reading asks, by names (so that what follows stays an argument) -/
def PB (x : V) (H : Hp) (QB : Bool → Hp → Prop) : Prop := ∃ k, x = .bl k ∧ QB k H
def PIf (x : V) (A B : Prop) : Prop := ∃ c, x = .bl c ∧ if c = true then A else B
def PTr (K : PySem.W.Frag) (x : V) (H : Hp) (QB : Bool → Hp → Prop) : Prop := ∃ k, TruV K x H k ∧ QB k H
def PNew (z : Prop) (o : HO) (H : Hp) (Q : VK) : Prop := z ∧ ∀ p, H p = none → Q (.ref p) (upd H p o)
def PI2 (x y : V) (QR : Int → Int → Prop) : Prop := ∃ i j, x = .int i ∧ y = .int j ∧ QR i j
def PI1 (x : V) (QR : Int → Prop) : Prop := ∃ i, x = .int i ∧ QR i
def PNot (x : V) (H : Hp) (Q : VK) : Prop := ∃ c, x = .bl c ∧ Q (.bl (!c)) H
/-! ### steps of statements -/
section
variable {K : PySem.W.Frag} {D : Ends} {σ : L2.St} {H : Hp} {t u : TS} {te ta tb : TE} {g : TG} {c d : TT} {Q : VK} {QB : Bool → Hp → Prop} {v x y : V} {i j : Nat} {m n : Int} {b : Bool}
theorem r_seq (h : t { D with nx := u D } σ H) : tSeq t u D σ H := h
theorem r_next (h : D.nx σ H) : tNext D σ H := h
theorem r_asg (h : te σ H fun x H1 => g x σ H1 D.nx) : tAsg te g D σ H := h
theorem r_name {N : L2.St → Hp → Prop} (h : N (σ.set i (some v)) H) : gName i v σ H N := h
theorem r_drop (h : te σ H fun _ H1 => D.nx σ H1) : tDrop te D σ H := h
theorem r_ret (h : te σ H D.rt) : tRet te D σ H := h
theorem r_retN (h : D.rt .non H) : tRetN D σ H := h
theorem r_if (h : c σ H fun b H1 => if b = true then t D σ H1 else u D σ H1) : tIfS c t u D σ H := h
theorem r_brk (h : D.bk σ H) : tBreak D σ H := h
theorem r_cont (h : D.ct σ H) : tCont D σ H := h
/-! ### of expressions -/
theorem r_var (h : σ[i]? = some (some v)) (q : Q v H) : tVar i σ H Q := ⟨v, h, q⟩
theorem r_c (q : Q v H) : tC v σ H Q := q
theorem r_op {r : R2} (h : ta σ H fun x H1 => tb σ H1 fun y H2 => r x y H2 Q) : tOp r ta tb σ H Q := h
theorem r_un {r : V → Hp → VK → Prop} (h : ta σ H fun x H1 => r x H1 Q) : tUn r ta σ H Q := h
theorem r_neg (q : Q (.int (-m)) H) : rU (fun i => .int (-i)) (.int m) H Q := ⟨m, rfl, q⟩
theorem r_addI (q : Q (.int (m + n)) H) : rAddU K (.int m) (.int n) H Q := .inl ⟨m, n, rfl, rfl, q⟩
theorem r_addS {z w : Str} (hz : z.length + w.length ≤ sizeLine) (q : Q (.str (z ++ w)) H) : rAddU K (.str z) (.str w) H Q := .inr (.inl ⟨z, w, rfl, rfl, hz, q⟩)
theorem r_subI (q : Q (.int (m - n)) H) : rSubU (.int m) (.int n) H Q := ⟨m, n, rfl, rfl, q⟩
theorem r_mulI (c : CMul m n) (q : Q (.int (m * n)) H) : rMulU K (.int m) (.int n) H Q := .inl ⟨m, n, rfl, rfl, c, q⟩
theorem r_mulL {p : Addr} {xs : List V} (h : H p = some (.lst xs)) (h0 : -(2 ^ 63) ≤ n) (h1 : n < 2 ^ 63) (hz : xs.length * n.toNat ≤ sizeLine) (k : ∀ q H', H q = none → Same H H' → H' q = some (.lst (List.replicate n.toNat xs).flatten) → Q (.ref q) H') :
    rMulU K (.ref p) (.int n) H Q := .inr (.inr (.inl ⟨p, n, xs, rfl, rfl, h, h0, h1, hz, fun q hq => k q _ hq (same_new hq) upd_same⟩))
theorem r_fdiv (h0 : 0 < n) (h1 : n.natAbs.log2 < 9000) (q : Q (.int (m / n)) H) : rFdivU (.int m) (.int n) H Q := ⟨m, n, rfl, rfl, ⟨h0, h1⟩, q⟩
theorem r_mod (h0 : 0 < n) (q : Q (.int (m % n)) H) : rModU (.int m) (.int n) H Q := ⟨m, n, rfl, rfl, h0, q⟩
theorem r_pow (h0 : CPow m n) (q : Q (.int (m ^ n.toNat)) H) : rPowU (.int m) (.int n) H Q := ⟨m, n, rfl, rfl, h0, q⟩
theorem r_eqI (q : Q (.bl (decide (m = n))) H) : rEqU K (.int m) (.int n) H Q := .inl ⟨rfl, by
  have e : decide (V.int m = V.int n) = decide (m = n) := by by_cases h : m = n <;> simp [h]
  rw [e]; exact q⟩
theorem r_neI (q : Q (.bl (!decide (m = n))) H) : rNeU K (.int m) (.int n) H Q := .inl ⟨rfl, by
  have e : decide (V.int m = V.int n) = decide (m = n) := by by_cases h : m = n <;> simp [h]
  rw [e]; exact q⟩
theorem r_ltI (q : Q (.bl (decide (m < n))) H) : rLtU K (.int m) (.int n) H Q := .inl ⟨m, n, rfl, rfl, q⟩
theorem r_leI (q : Q (.bl (decide (m ≤ n))) H) : rLeU K (.int m) (.int n) H Q := .inl ⟨m, n, rfl, rfl, q⟩
theorem r_gtI (q : Q (.bl (decide (n < m))) H) : rGtU (.int m) (.int n) H Q := .inl ⟨m, n, rfl, rfl, q⟩
theorem r_geI (q : Q (.bl (decide (n ≤ m))) H) : rGeU (.int m) (.int n) H Q := .inl ⟨m, n, rfl, rfl, q⟩
theorem r_isN (q : Q (.bl (decide (x = .non))) H) : rIsNU x .non H Q := ⟨rfl, q⟩
theorem r_notN (q : Q (.bl (!decide (x = .non))) H) : rNotNU x .non H Q := ⟨rfl, q⟩
theorem r_test (h : te σ H fun x H' => PB x H' QB) : tTest te σ H QB := h
theorem r_B (h : te σ H fun x H' => PB x H' QB) : tB te σ H QB := h
theorem r_k (q : QB b H) : PB (.bl b) H QB := ⟨b, rfl, q⟩
theorem r_not (h : c σ H fun b H1 => QB (!b) H1) : tNot c σ H QB := h
theorem r_and (h : c σ H fun b H1 => if b = true then d σ H1 QB else QB false H1) : tAnd c d σ H QB := h
theorem r_or (h : c σ H fun b H1 => if b = true then QB true H1 else d σ H1 QB) : tOr c d σ H QB := h
theorem r_andV (h : ta σ H fun x H1 => PIf x (tb σ H1 Q) (Q (.bl false) H1)) : tAndV ta tb σ H Q := h
theorem r_orV (h : ta σ H fun x H1 => PIf x (Q (.bl true) H1) (tb σ H1 Q)) : tOrV ta tb σ H Q := h
theorem r_pif {A B : Prop} (h : if b = true then A else B) : PIf (.bl b) A B := ⟨b, rfl, h⟩
theorem r_notV (h : ta σ H fun x H1 => PNot x H1 Q) : tNotV ta σ H Q := h
theorem r_pnot (q : Q (.bl (!b)) H) : PNot (.bl b) H Q := ⟨b, rfl, q⟩
theorem r_ifE (h : c σ H fun b H1 => if b = true then ta σ H1 Q else tb σ H1 Q) : tIf c ta tb σ H Q := h
theorem r_chain {r r' : R2} {tc : TE} (h : ta σ H fun x H1 => tb σ H1 fun y H2 => r x y H2 fun z H3 => PIf z (tc σ H3 fun w' H4 => r' y w' H4 Q) (Q (.bl false) H3)) : tChain r r' ta tb tc σ H Q := h
theorem r_tru (h : ta σ H fun x H' => PTr K x H' QB) : tTru K ta σ H QB := h
theorem r_truB (q : QB b H) : PTr K (.bl b) H QB := ⟨b, rfl, q⟩
theorem r_truI (q : QB (m != 0) H) : PTr K (.int m) H QB := ⟨_, rfl, q⟩
theorem r_truL {p : Addr} {xs : List V} (h : SqL K H p xs) (q : QB (!xs.isEmpty) H) : PTr K (.ref p) H QB := ⟨_, .inl ⟨xs, h, rfl⟩, q⟩
theorem r_truT {p : Addr} {xs : List V} (h : SqT K H p xs) (q : QB (!xs.isEmpty) H) : PTr K (.ref p) H QB := ⟨_, .inr (.inl ⟨xs, h, rfl⟩), q⟩
theorem r_nil {QA : List V → Hp → Prop} (q : QA [] H) : tNil σ H QA := q
theorem r_cons {tr : TA} {QA : List V → Hp → Prop} (h : ta σ H fun x H1 => tr σ H1 fun xs H2 => QA (x :: xs) H2) : tCons ta tr σ H QA := h
theorem r_CB {r : List V → Hp → VK → Prop} {ts : TA} (h : ts σ H fun vs H1 => r vs H1 Q) : tCB r ts σ H Q := h
theorem r_lenL {p : Addr} {xs : List V} (h : SqL K H p xs) (q : Q (.int (xs.length : Int)) H) : rLenU K [.ref p] H Q := .inl ⟨p, xs, rfl, .inl h, q⟩
theorem r_lenT {p : Addr} {xs : List V} (h : SqT K H p xs) (q : Q (.int (xs.length : Int)) H) : rLenU K [.ref p] H Q := .inl ⟨p, xs, rfl, .inr h, q⟩
theorem r_lenS {z : Str} (h : z.length ≤ sizeLine) (q : Q (.int (z.length : Int)) H) : rLenU K [.str z] H Q := .inr (.inl ⟨z, rfl, h, q⟩)
theorem r_int (q : Q (.int m) H) : rIntU [.int m] H Q := ⟨m, rfl, q⟩
theorem r_abs (q : Q (.int (if m < 0 then -m else m)) H) : rAbsU [.int m] H Q := ⟨m, rfl, q⟩
theorem r_ixL {p : Addr} {xs : List V} (h : SqL K H p xs) (ha : atI xs m = some v) (q : Q v H) : rIx K (.ref p) (.int m) H Q := .inl ⟨p, xs, m, v, rfl, rfl, h, ha, q⟩
theorem r_ixT {p : Addr} {xs : List V} (h : SqT K H p xs) (ha : atI xs m = some v) (q : Q v H) : rIx K (.ref p) (.int m) H Q := .inr (.inl ⟨p, xs, m, v, rfl, rfl, h, ha, q⟩)
theorem r_ixS {z : Str} {c : Nat} (h : z.length ≤ sizeLine) (ha : atI z.cps.toList m = some c) (q : Q (.str ⟨#[c]⟩) H) : rIx K (.str z) (.int m) H Q := .inr (.inr ⟨z, m, c, rfl, rfl, h, ha, q⟩)
theorem r_tup {ts : TA} (h : ts σ H fun xs H1 => PNew (xs.length ≤ sizeLine) (.tup xs) H1 Q) : tTup ts σ H Q := h
theorem r_lst {ts : TA} (h : ts σ H fun xs H1 => PNew (xs.length ≤ sizeLine) (.lst xs) H1 Q) : tLst ts σ H Q := h
theorem r_new {z : Prop} {o : HO} (hz : z) (k : ∀ p H', H p = none → Same H H' → H' p = some o → Q (.ref p) H') : PNew z o H Q := ⟨hz, fun p hp => k p _ hp (same_new hp) upd_same⟩
theorem r_new1 {o : HO} (k : ∀ p H', H p = none → Same H H' → H' p = some o → Q (.ref p) H') : ∀ p, H p = none → Q (.ref p) (upd H p o) := fun p hp => k p _ hp (same_new hp) upd_same
theorem r_call {sp : Sp} {E : XK} {ts : TA} (h : ts σ H fun vs H1 => sp (vs ++ []) H1 Q E) : tCall sp [] E ts σ H Q := h
theorem r_BM {T : String} {r : V → List V → Hp → VK → Prop} {ts : TA} (h : ta σ H fun x H1 => tyV K T x H1 ∧ ts σ H1 fun xs H2 => r x xs H2 Q) : tBM K T r ta ts σ H Q := h
theorem r_BM0 {T : String} {r : V → List V → Hp → VK → Prop} (h : ta σ H fun x H1 => tyV K T x H1 ∧ r x [] H1 Q) : tBM0 K T r ta σ H Q := h
theorem r_tyL {p : Addr} {xs : List V} {A : Prop} (h : SqL K H p xs) (a : A) : tyV K "list" (.ref p) H ∧ A := ⟨Or.inl ⟨rfl, _, h⟩, a⟩
theorem r_tyS {z : Str} {A : Prop} (a : A) : tyV K "str" (.str z) H ∧ A := ⟨rfl, a⟩
theorem r_append {p : Addr} {xs : List V} (h : H p = some (.lst xs)) (hz : xs.length < sizeLine) (k : ∀ H', But p H H' → H' p = some (.lst (xs ++ [y])) → Q .non H') : rAppend (.ref p) [y] H Q := ⟨p, xs, y, rfl, rfl, h, hz, k _ but_upd upd_same⟩
theorem r_pop {p : Addr} {xs : List V} (h : H p = some (.lst (xs ++ [y]))) (k : ∀ H', But p H H' → H' p = some (.lst xs) → Q y H') : rPop (.ref p) [] H Q := by
  refine ⟨p, xs ++ [y], y, rfl, rfl, h, ?_, ?_⟩
  · simp
  · rw [List.dropLast_concat]; exact k _ but_upd upd_same
theorem r_popAt {p : Addr} {xs : List V} {k : Nat} (h : H p = some (.lst xs)) (e : m = (k : Int)) (hk : xs[k]? = some y) (hz : xs.length < 2 ^ 62) (q : ∀ H', But p H H' → H' p = some (.lst (xs.eraseIdx k)) → Q y H') : rPopAt (.ref p) [.int m] H Q := by
  have hl : k < xs.length := (List.getElem?_eq_some_iff.mp hk).1
  refine ⟨p, xs, m, k, y, rfl, rfl, h, by omega, by omega, ?_, hk, q _ but_upd upd_same⟩
  subst e
  obtain ⟨j, hj, hx, _⟩ := atI_get (atI_nat hk)
  have e2 : j = k := by
    unfold seqIndex? at hj
    simp at hj
    omega
  rw [hj, e2]
theorem r_then {kk : V → Hp → VK → Prop} (h : ta σ H fun x H1 => kk x H1 Q) : tThen ta kk σ H Q := h
theorem r_kTupL {p : Addr} {xs : List V} (h : SqL K H p xs) (k : ∀ q H', H q = none → Same H H' → (∃ o : Obj, H' q = some (.frz o (.tup xs)) ∧ o.dict = none) → Q (.ref q) H') : kTupD K (.ref p) H Q := .inl ⟨p, xs, rfl, h, fun q o hq ho => k q _ hq (same_new hq) ⟨o, upd_same, ho⟩⟩
theorem r_kTupT {p : Addr} {xs : List V} (h : SqT K H p xs) (q : Q (.ref p) H) : kTupD K (.ref p) H Q := .inr ⟨p, xs, rfl, h, q⟩
theorem sqT_ofD {q : Addr} {xs : List V} (h : ∃ o : Obj, H q = some (.frz o (.tup xs)) ∧ o.dict = none) : SqT K H q xs := by
  obtain ⟨o, e, _⟩ := h
  exact .inl (.inr ⟨o, e⟩)
theorem noD_of {q : Addr} {xs : List V} (h : ∃ o : Obj, H q = some (.frz o (.tup xs)) ∧ o.dict = none) : NoD H q := by
  obtain ⟨o, e, d⟩ := h
  exact ⟨o, _, e, d⟩
theorem noD_same {H H' : Hp} {q : Addr} (s : Same H H') (h : NoD H q) : NoD H' q := by
  obtain ⟨o, u, e, d⟩ := h
  exact ⟨o, u, s _ _ e, d⟩
theorem r_listL {p : Addr} {xs : List V} (h : SqL K H p xs) (k : ∀ q H', H q = none → Same H H' → H' q = some (.lst xs) → Q (.ref q) H') : rListU K [.ref p] H Q := ⟨p, xs, rfl, .inl h, fun q hq => k q _ hq (same_new hq) upd_same⟩
theorem r_listT {p : Addr} {xs : List V} (h : SqT K H p xs) (k : ∀ q H', H q = none → Same H H' → H' q = some (.lst xs) → Q (.ref q) H') : rListU K [.ref p] H Q := ⟨p, xs, rfl, .inr h, fun q hq => k q _ hq (same_new hq) upd_same⟩
theorem r_lstRg {tr : L2.St → Hp → (Int → Int → Hp → Prop) → Prop} (h : tr σ H fun a b H1 => PNew (RgOk a b) (.lst (rgV a b)) H1 Q) : tLstRg tr σ H Q := h
theorem r_tupRg {tr : L2.St → Hp → (Int → Int → Hp → Prop) → Prop} (h : tr σ H fun a b H1 => PNew (RgOk a b) (.tup (rgV a b)) H1 Q) : tTupRg tr σ H Q := h
theorem r_rg2 {QR : Int → Int → Hp → Prop} (h : ta σ H fun x H1 => tb σ H1 fun y H2 => PI2 x y fun i j => QR i j H2) : tRg2 ta tb σ H QR := h
theorem r_rg1 {QR : Int → Int → Hp → Prop} (h : ta σ H fun x H1 => PI1 x fun n => QR 0 n H1) : tRg1 ta σ H QR := h
theorem r_ii {QR : Int → Int → Prop} (q : QR m n) : PI2 (.int m) (.int n) QR := ⟨m, n, rfl, rfl, q⟩
theorem r_i {QR : Int → Prop} (q : QR m) : PI1 (.int m) QR := ⟨m, rfl, q⟩
theorem r_gsub {ti : TE} {to : TE} {ts : TSet} {N : L2.St → Hp → Prop} (h : to σ H fun o H1 => ti σ H1 fun i H2 => ts o i v H2 fun H3 => N σ H3) : gSub to ti ts v σ H N := h
theorem r_setL {N : Hp → Prop} {p : Addr} {xs : List V} {k : Nat} (h : H p = some (.lst xs)) (hk : ixN xs.length m = some k) (q : ∀ H', But p H H' → H' p = some (.lst (xs.set k v)) → N H') : rSetL (.ref p) (.int m) v H N := ⟨p, xs, m, k, rfl, rfl, h, hk, q _ but_upd upd_same⟩
theorem r_aug {ti : TIp} (h : σ[i]? = some (some x)) (q : te σ H fun y H1 => ti x y H1 fun z H2 => D.nx (σ.set i (some z)) H2) : tAug i te ti D σ H := ⟨x, h, q⟩
theorem r_ipI {f : Int → Int → Int} (q : Q (.int (f m n)) H) : ipI f (.int m) (.int n) H Q := ⟨m, n, rfl, rfl, q⟩
theorem r_noPart {QO : Option Int → Hp → Prop} (q : QO none H) : tNoPart σ H QO := q
theorem r_part {QO : Option Int → Hp → Prop} (h : te σ H fun x H1 => PI1 x fun i => QO (some i) H1) : tPart te σ H QO := h
theorem r_sl {r : V → Option Int → Option Int → Hp → VK → Prop} {tl th : TO} (h : te σ H fun x H1 => tl σ H1 fun l H2 => th σ H2 fun u H3 => r x l u H3 Q) : tSl r te tl th σ H Q := h
theorem r_ite {c : Prop} [Decidable c] {A B : Prop} (h1 : c → A) (h2 : ¬ c → B) : if decide c = true then A else B := by
  by_cases h : c
  · rw [if_pos (decide_eq_true h)]; exact h1 h
  · rw [if_neg (by simp [h])]; exact h2 h
theorem r_iteN {c : Prop} [Decidable c] {A B : Prop} (h1 : ¬ c → A) (h2 : c → B) : if (!decide c) = true then A else B := by
  by_cases h : c
  · rw [if_neg (by simp [h])]; exact h2 h
  · rw [if_pos (by simp [h])]; exact h1 h
theorem r_iteP {c : Prop} [Decidable c] {A B : Prop} (h : c) (a : A) : if decide c = true then A else B := by rw [if_pos (decide_eq_true h)]; exact a
theorem r_iteM {c : Prop} [Decidable c] {A B : Prop} (h : ¬ c) (a : B) : if decide c = true then A else B := by rw [if_neg (by simp [h])]; exact a
theorem r_iteNP {c : Prop} [Decidable c] {A B : Prop} (h : c) (a : B) : if (!decide c) = true then A else B := by rw [if_neg (by simp [h])]; exact a
theorem r_iteNM {c : Prop} [Decidable c] {A B : Prop} (h : ¬ c) (a : A) : if (!decide c) = true then A else B := by rw [if_pos (by simp [h])]; exact a
theorem r_T {A B : Prop} (a : A) : if true = true then A else B := by rw [if_pos rfl]; exact a
theorem r_F {A B : Prop} (a : B) : if false = true then A else B := by rw [if_neg (by decide)]; exact a
theorem r_nT {A B : Prop} (a : B) : if (!true) = true then A else B := r_F a
theorem r_nF {A B : Prop} (a : A) : if (!false) = true then A else B := r_T a
end
end Kb

set_option Elab.async false
set_option linter.all false
set_option maxRecDepth 100000
set_option maxHeartbeats 4000000
namespace Kb
open PySem PySem.Spec PyProof.Rows L2
/-! the tactics: rd walks a reading; tk closes a fact about a heap from those ahead of it -/
local macro_rules | `(tactic| walk_at "tk") => `(tactic| first
  | assumption
  | ((with_reducible refine' sqT_of ?k); (case k => assumption))
  | ((with_reducible refine' sqT_ofD ?k); (case k => assumption))
  | ((with_reducible refine' noD_of ?k); (case k => assumption))
  | ((with_reducible refine' noD_same ?s ?k); (case s => assumption); (case k => walk_at "tk"))
  | ((with_reducible refine' sqL_of ?k); (case k => assumption))
  | ((with_reducible refine' sqT_same ?s ?k); (case s => assumption); (case k => walk_at "tk"))
  | ((with_reducible refine' sqL_same ?s ?k); (case s => assumption); (case k => walk_at "tk"))
  | ((with_reducible refine' sqT_but ?s ?t ?k); (case s => assumption); (case t => walk_at "tk"); (case k => walk_at "tk"))
  | ((with_reducible refine' sqL_but ?s ?t ?k); (case s => assumption); (case t => walk_at "ne"); (case k => walk_at "tk"))
  | ((with_reducible refine' sqL_of ?k); (case k => walk_at "tk"))
  | ((with_reducible refine' sqT_of ?k); (case k => walk_at "tk"))
  | ((with_reducible refine' at_same ?s ?k); (case s => assumption); (case k => walk_at "tk"))
  | ((with_reducible refine' at_but ?s ?t ?k); (case s => assumption); (case t => walk_at "ne"); (case k => walk_at "tk")))
local macro_rules | `(tactic| walk_at "ne") => `(tactic| first
  | assumption
  | (refine Ne.symm ?_; assumption)
  | exact ne_of_none (by assumption) (by assumption)
  | exact (ne_of_none (by assumption) (by assumption)).symm)
local macro_rules | `(tactic| walk_at "side") => `(tactic| first
  | assumption
  | omega
  | (simp only [sizeLine_eq, List.length_cons, List.length_nil, List.length_map]; omega)
  | (show _ ≤ sizeLine; decide))
local macro_rules | `(tactic| walk_at "kit") => `(tactic| first
  | (show kitB _ _ = some true; decide +kernel)
  | (show kitB _ _ = some false; decide +kernel))
local macro_rules | `(tactic| walk_at "rng") => `(tactic| first
  | (refine ⟨by omega, by omega, by omega, by omega⟩)
  | (refine ⟨by omega, by omega⟩)
  | ((simp only [List.length_map]); (refine ⟨by omega, by omega, by omega, by omega⟩))
  | ((simp only [List.length_map]); (refine ⟨by omega, by omega⟩)))
local macro_rules | `(tactic| walk_at "rd1") => `(tactic| first
  | with_reducible refine r_seq ?_
  | ((with_reducible refine' r_var ?k0 ?_); (case k0 => rfl))
  | with_reducible refine r_op ?_
  | with_reducible refine r_c ?_
  | with_reducible refine r_asg ?_
  | with_reducible refine r_name ?_
  | with_reducible refine r_cons ?_
  | with_reducible refine r_nil ?_
  | with_reducible refine r_CB ?_
  | with_reducible refine r_if ?_
  | with_reducible refine r_test ?_
  | with_reducible refine r_k ?_
  | with_reducible refine r_T ?_
  | with_reducible refine r_F ?_
  | with_reducible refine r_nT ?_
  | with_reducible refine r_nF ?_
  | with_reducible refine r_ret ?_
  | with_reducible refine r_drop ?_
  | with_reducible refine r_next ?_
  | with_reducible refine r_call ?_
  | with_reducible refine r_addI ?_
  | with_reducible refine r_subI ?_
  | with_reducible refine r_ltI ?_
  | with_reducible refine r_gtI ?_
  | with_reducible refine r_leI ?_
  | with_reducible refine r_geI ?_
  | with_reducible refine r_eqI ?_
  | with_reducible refine r_neI ?_
  | with_reducible refine r_int ?_
  | with_reducible refine r_abs ?_
  | with_reducible refine r_not ?_
  | with_reducible refine r_and ?_
  | with_reducible refine r_or ?_
  | with_reducible refine r_tru ?_
  | with_reducible refine r_truB ?_
  | with_reducible refine r_lst ?_
  | with_reducible refine r_tup ?_
  | with_reducible refine r_BM ?_
  | with_reducible refine r_BM0 ?_
  | with_reducible refine r_tyS ?_
  | with_reducible refine r_gsub ?_
  | with_reducible refine r_then ?_
  | with_reducible refine r_lstRg ?_
  | with_reducible refine r_tupRg ?_
  | with_reducible refine r_rg2 ?_
  | with_reducible refine r_rg1 ?_
  | with_reducible refine r_ii ?_
  | with_reducible refine r_i ?_
  | with_reducible refine r_ipI ?_
  | with_reducible refine r_un ?_
  | with_reducible refine r_neg ?_
  | with_reducible refine r_isN ?_
  | with_reducible refine r_notN ?_
  | with_reducible refine r_notV ?_
  | with_reducible refine r_pnot ?_
  | with_reducible refine r_pif ?_
  | with_reducible refine r_andV ?_
  | with_reducible refine r_orV ?_
  | with_reducible refine r_ifE ?_
  | with_reducible refine r_chain ?_
  | with_reducible refine r_sl ?_
  | with_reducible refine r_noPart ?_
  | with_reducible refine r_part ?_
  | with_reducible refine r_brk ?_
  | with_reducible refine r_cont ?_
  | with_reducible refine r_retN ?_
  | with_reducible refine r_truI ?_
  | with_reducible refine r_B ?_
  | ((with_reducible refine' r_mod ?k0 ?_); (case k0 => walk_at "side"))
  | ((with_reducible refine' r_mulI ?k0 ?_); (case k0 => first | exact Or.inl ⟨by omega, by omega⟩ | exact Or.inr ⟨by omega, by omega⟩))
  | ((with_reducible refine' r_lenL ?k0 ?_); (case k0 => walk_at "tk"))
  | ((with_reducible refine' r_lenT ?k0 ?_); (case k0 => walk_at "tk"))
  | ((with_reducible refine' r_truL ?k0 ?_); (case k0 => walk_at "tk"))
  | ((with_reducible refine' r_truT ?k0 ?_); (case k0 => walk_at "tk"))
  | ((with_reducible refine' r_ixL ?k0 ?k1 ?_); (case k0 => walk_at "tk"); (case k1 => first | assumption | rfl))
  | ((with_reducible refine' r_ixT ?k0 ?k1 ?_); (case k0 => walk_at "tk"); (case k1 => first | assumption | rfl))
  | ((with_reducible refine' r_new ?k0 ?_); (case k0 => walk_at "side"))
  | ((with_reducible refine' r_tyL ?k0 ?_); (case k0 => walk_at "tk"))
  | ((with_reducible refine' r_append ?k0 ?k1 ?_); (case k0 => walk_at "tk"); (case k1 => walk_at "side"))
  | ((with_reducible refine' r_setL ?k0 ?k1 ?_); (case k0 => walk_at "tk"); (case k1 => first | assumption | rfl))
  | ((with_reducible refine' r_kTupL ?k0 ?_); (case k0 => walk_at "tk"))
  | ((with_reducible refine' r_kTupT ?k0 ?_); (case k0 => walk_at "tk"))
  | ((with_reducible refine' r_listL ?k0 ?_); (case k0 => walk_at "tk"))
  | ((with_reducible refine' r_listT ?k0 ?_); (case k0 => walk_at "tk"))
  | ((with_reducible refine' r_aug ?k0 ?_); (case k0 => rfl))
  | ((with_reducible refine' r_lenS ?k0 ?_); (case k0 => walk_at "side"))
  | ((with_reducible refine' r_pop ?k0 ?_); (case k0 => walk_at "tk")))
local macro_rules | `(tactic| walk_at "rd") => `(tactic| ((repeat (walk_at "rd1")); (try dsimp only)))


/-! ### the law's helpers: cell, pool, draw -/
def sp_law_cell (K : PySem.W.Frag) : Sp := fun vs H Q _ => ∃ (a : Addr) (ns : List Int) (k : Int), vs = [.ref a, .int k] ∧ SqL K H a (ns.map V.int) ∧ ns.length ≤ 63 ∧ 0 ≤ k ∧ ∀ n, Q (.int n) H
def Pl (H : Hp) (p : Addr) : Prop := ∃ x y z, H p = some (.lst [.int x, .int y, .int z])
def sp_law_pool (K : PySem.W.Frag) : Sp := fun vs H Q _ => ∃ (a : Addr) (ns : List Int) (k : Int), vs = [.ref a, .int k] ∧ SqL K H a (ns.map V.int) ∧ ns.length ≤ 63 ∧ 0 ≤ k ∧ ∀ p H', H p = none → Same H H' → Pl H' p → Q (.ref p) H'
def sp_law_draw (K : PySem.W.Frag) : Sp := fun vs H Q _ => ∃ (p : Addr) (m : Int), vs = [.ref p, .int m] ∧ Pl H p ∧ 0 < m ∧ m < 2 ^ 200 ∧ ∀ v H', 0 ≤ v → v < m → But p H H' → Pl H' p → Q (.int v) H'
abbrev N_law_cell : List Str := ["script", "k"]
def t_law_cell (K : PySem.W.Frag) : TS :=
  tSeq (tIfS ((tTest (tOp (rLtU K) (tVar 1) ((tCB (rLenU K) (tCons (tVar 0) tNil)))))) ((tRet ((tCB rAbsU (tCons ((tCB rIntU (tCons ((tOp (rIx K) (tVar 0) (tVar 1))) tNil))) tNil))))) (tNext))
  (tSeq (tIfS ((tTest (tOp (rEqU K) ((tCB (rLenU K) (tCons (tVar 0) tNil))) ((tC (.int 0)))))) ((tRet ((tC (.int 0))))) (tNext))
  ((tRet ((tOp rModU ((tCB rAbsU (tCons ((tCB rIntU (tCons ((tOp (rIx K) (tVar 0) ((tOp rModU ((tCB rIntU (tCons (tVar 1) tNil))) ((tCB (rLenU K) (tCons (tVar 0) tNil))))))) tNil))) tNil))) ((tC (.int 999999999999999989))))))))

abbrev N_law_pool : List Str := ["script", "k", "cell"]
def t_law_pool (K : PySem.W.Frag) : TS :=
  tSeq (tAsg ((tCall (sp_law_cell K) [] E0 (tCons (tVar 0) (tCons (tVar 1) tNil)))) (gName 2))
  (tSeq (tIfS ((tTest (tOp rGeU (tVar 2) ((tOp rPowU ((tC (.int 10))) ((tC (.int 18)))))))) ((tRet ((tLst (tCons ((tOp rSubU (tVar 2) ((tOp rPowU ((tC (.int 10))) ((tC (.int 18))))))) (tCons ((tOp rModU ((tCB rIntU (tCons (tVar 2) tNil))) ((tC (.int 1000003))))) (tCons ((tC (.int 0))) tNil))))))) (tNext))
  ((tRet ((tLst (tCons ((tC (.int 0))) (tCons ((tOp (rAddU K) (tVar 2) ((tOp (rMulU K) ((tC (.int 104729))) ((tOp (rAddU K) (tVar 1) ((tC (.int 1))))))))) (tCons ((tC (.int 0))) tNil))))))))

abbrev N_law_draw : List Str := ["pool", "many", "value", "mixed"]
def t_law_draw (K : PySem.W.Frag) : TS :=
  tSeq (tAsg ((tOp (rAddU K) ((tOp (rIx K) (tVar 0) ((tC (.int 2))))) ((tC (.int 1))))) (gSub (tVar 0) ((tC (.int 2))) rSetL))
  (tSeq (tIfS ((tTest (tOp rGtU ((tOp (rIx K) (tVar 0) ((tC (.int 0))))) ((tC (.int 1)))))) (tSeq (tAsg ((tOp rModU ((tCB rIntU (tCons ((tOp (rIx K) (tVar 0) ((tC (.int 0))))) tNil))) (tVar 1))) (gName 2))
  (tSeq (tAsg ((tOp rFdivU ((tOp (rIx K) (tVar 0) ((tC (.int 0))))) (tVar 1))) (gSub (tVar 0) ((tC (.int 0))) rSetL))
  ((tRet (tVar 2))))) (tNext))
  (tSeq (tAsg ((tOp rModU ((tCB rIntU (tCons ((tOp (rAddU K) ((tOp (rIx K) (tVar 0) ((tC (.int 1))))) ((tOp (rMulU K) ((tC (.int 7919))) ((tOp (rIx K) (tVar 0) ((tC (.int 2))))))))) tNil))) ((tC (.int 1000003))))) (gName 3))
  (tSeq (tAsg ((tOp rModU ((tCB rIntU (tCons ((tOp (rAddU K) ((tOp (rAddU K) ((tOp (rMulU K) (tVar 3) (tVar 3))) ((tOp (rMulU K) ((tC (.int 48271))) ((tOp (rIx K) (tVar 0) ((tC (.int 2))))))))) ((tOp (rIx K) (tVar 0) ((tC (.int 1))))))) tNil))) ((tC (.int 998244353))))) (gName 3))
  (tSeq (tAsg ((tOp rModU ((tCB rIntU (tCons ((tOp (rAddU K) ((tOp (rMulU K) (tVar 3) (tVar 3))) ((tC (.int 69621))))) tNil))) ((tC (.int 2147483647))))) (gName 3))
  ((tRet ((tOp rModU ((tCB rIntU (tCons ((tOp rFdivU (tVar 3) ((tC (.int 7))))) tNil))) (tVar 1)))))))))


theorem len_law_cell {K : PySem.W.Frag} {vs : List V} {H : Hp} {Q : VK} {E : XK} (h : sp_law_cell K vs H Q E) : vs.length = 2 := by
  obtain ⟨a, ns, k, rfl, _⟩ := h; rfl
theorem len_law_pool {K : PySem.W.Frag} {vs : List V} {H : Hp} {Q : VK} {E : XK} (h : sp_law_pool K vs H Q E) : vs.length = 2 := by
  obtain ⟨a, ns, k, rfl, _⟩ := h; rfl
theorem len_law_draw {K : PySem.W.Frag} {vs : List V} {H : Hp} {Q : VK} {E : XK} (h : sp_law_draw K vs H Q E) : vs.length = 2 := by
  obtain ⟨a, m, rfl, _⟩ := h; rfl
abbrev En (Q : VK) : Ends := { nx := fun _ H' => Q .non H', rt := Q }
theorem atI_ints {ns : List Int} {k : Int} (h0 : 0 ≤ k) (h1 : k < (ns.length : Int)) : ∃ n, atI (ns.map V.int) k = some (.int n) ∧ ns[k.toNat]? = some n := by
  have h2 : k.toNat < ns.length := by omega
  refine ⟨ns[k.toNat], ?_, List.getElem?_eq_getElem h2⟩
  have e : ((k.toNat : Nat) : Int) = k := by omega
  have h3 : (ns.map V.int)[k.toNat]? = some (.int ns[k.toNat]) := by rw [List.getElem?_map, List.getElem?_eq_getElem h2]; rfl
  have h4 := atI_nat h3
  rw [e] at h4
  exact h4
theorem pure_law_cell {K : PySem.W.Frag} {vs : List V} {H : Hp} {Q : VK} {E : XK} (h : sp_law_cell K vs H Q E) : t_law_cell K (En Q) (start N_law_cell vs) H := by
  obtain ⟨a, ns, k, rfl, hS, hn, hk, q⟩ := h
  unfold t_law_cell
  walk_at "rd"
  rw [List.length_map]
  refine r_ite (fun hlt => ?_) (fun hge => ?_)
  · obtain ⟨n, e1, _⟩ := atI_ints hk hlt
    walk_at "rd"
    exact q _
  · walk_at "rd"
    rw [List.length_map]
    refine r_ite (fun h0 => ?_) (fun h0 => ?_)
    · walk_at "rd"
      exact q _
    · have hp : (0 : Int) < ((ns.map V.int).length : Int) := by rw [List.length_map]; omega
      walk_at "rd"
      obtain ⟨n, e1, _⟩ := atI_ints (ns := ns) (k := k % ((ns.map V.int).length : Int)) (Int.emod_nonneg _ (by omega)) (by rw [List.length_map] at hp ⊢; exact Int.emod_lt_of_pos _ hp)
      walk_at "rd"
      exact q _
theorem c18 : CPow 10 18 := ⟨by decide, by decide, by decide⟩
theorem pure_law_pool {K : PySem.W.Frag} {vs : List V} {H : Hp} {Q : VK} {E : XK} (h : sp_law_pool K vs H Q E) : t_law_pool K (En Q) (start N_law_pool vs) H := by
  obtain ⟨a, ns, k, rfl, hS, hn, hk, q⟩ := h
  unfold t_law_pool
  walk_at "rd"
  refine ⟨a, ns, k, rfl, hS, hn, hk, fun n => ?_⟩
  walk_at "rd"
  refine r_pow c18 ?_
  walk_at "rd"
  refine r_ite (fun h1 => ?_) (fun h1 => ?_)
  · walk_at "rd"
    refine r_pow c18 ?_
    walk_at "rd"
    intro p H' hp s e
    exact q p H' hp s ⟨_, _, _, e⟩
  · walk_at "rd"
    intro p H' hp s e
    exact q p H' hp s ⟨_, _, _, e⟩
theorem log2_small {m : Int} (h0 : 0 < m) (h1 : m < 2 ^ 200) : m.natAbs.log2 < 9000 := (wide_div (i := 0) h0 (b := 200) (by omega) (by decide) (by decide)).2
theorem pure_law_draw {K : PySem.W.Frag} {vs : List V} {H : Hp} {Q : VK} {E : XK} (h : sp_law_draw K vs H Q E) : t_law_draw K (En Q) (start N_law_draw vs) H := by
  obtain ⟨p, m, rfl, ⟨x, y, z, hp⟩, h0, h1, q⟩ := h
  have hl := log2_small h0 h1
  unfold t_law_draw
  walk_at "rd"
  intro H1 b1 e1
  have e1 : H1 p = some (.lst [.int x, .int y, .int (z + 1)]) := e1
  walk_at "rd"
  refine r_ite (fun hx => ?_) (fun hx => ?_)
  · walk_at "rd"
    refine r_fdiv h0 hl ?_
    walk_at "rd"
    intro H2 b2 e2
    walk_at "rd"
    exact q _ _ (Int.emod_nonneg _ (by omega)) (Int.emod_lt_of_pos _ h0) (b1.trans b2) ⟨_, _, _, e2⟩
  · walk_at "rd"
    refine r_fdiv (by decide) (by decide) ?_
    walk_at "rd"
    exact q _ _ (Int.emod_nonneg _ (by omega)) (Int.emod_lt_of_pos _ h0) b1 ⟨_, _, _, e1⟩
end Kb

set_option Elab.async false
set_option linter.all false
set_option maxRecDepth 100000
set_option maxHeartbeats 4000000
namespace Kb
open PySem PySem.Spec PyProof.Rows L2

/-! ### loops -/
section
variable {K : PySem.W.Frag} {D : Ends} {σ : L2.St} {H : Hp} {tb : TS} {te ta : TE} {g : TG} {c : TT} {i j : Nat} {m n l : Int} {R : It → Hp → Prop}
/-- the body of a while, from a state that holds with the measure m -/
def PBody (W : Nat → L2.St → Hp → Prop) (m : Nat) (tb : TS) (D : Ends) (σ : L2.St) (H : Hp) : Prop := ∃ N : L2.St → Hp → Prop, (∀ σ' H', N σ' H' → ∃ m', m' < m ∧ W m' σ' H') ∧ tb { D with nx := N, ct := N, bk := D.nx } σ H
theorem r_while (W : Nat → L2.St → Hp → Prop) (m : Nat) (h0 : W m σ H)
    (hs : ∀ m σ H, W m σ H → c σ H fun b H1 => if b = true then PBody W m tb D σ H1 else D.nx σ H1) : tWhile c tb D σ H := ⟨W, ⟨m, h0⟩, hs⟩
theorem r_body {W : Nat → L2.St → Hp → Prop} {m : Nat} (h : tb { D with nx := fun σ' H' => ∃ m', m' < m ∧ W m' σ' H', ct := fun σ' H' => ∃ m', m' < m ∧ W m' σ' H', bk := D.nx } σ H) : PBody W m tb D σ H := ⟨_, fun _ _ h => h, h⟩
def PFor (J : It) (g : TG) (tb : TS) (D : Ends) (σ : L2.St) (H : Hp) : Prop := ∃ W : Nat → Nat → L2.St → Hp → Prop, (∃ m, W 0 m σ H) ∧ ∀ i m σ H, W i m σ H →
  (J.stop i H ∧ D.nx σ H) ∨ (J.go i H ∧ ∃ N : L2.St → Hp → Prop, (∀ σ' H', N σ' H' → ∃ m', m' < m ∧ W (i + 1) m' σ' H') ∧ ∀ x H', J.yld i H x H' → g x σ H' fun σ2 H2 => tb { D with nx := N, ct := N, bk := D.nx } σ2 H2)
theorem r_for {wi : TI} (h : wi σ H fun J H1 => PFor J g tb D σ H1) : tFor wi g tb D σ H := h
def PR1 (vs : List V) (R : It → Prop) : Prop := ∃ j : Int, vs = [.int j] ∧ -(2 ^ 62) ≤ j ∧ j < 2 ^ 62 ∧ R (Itr 0 j.toNat)
def PR2 (vs : List V) (R : It → Prop) : Prop := ∃ i j : Int, vs = [.int i, .int j] ∧ (-(2 ^ 62) ≤ i ∧ i < 2 ^ 62 ∧ -(2 ^ 62) ≤ j ∧ j < 2 ^ 62) ∧ R (Itr i (j - i).toNat)
def PR3 (vs : List V) (R : It → Prop) : Prop := ∃ (i j c : Int) (n : Nat), vs = [.int i, .int j, .int c] ∧ RgC i j c n ∧ R (Itc i c n)
theorem r_rng1 {ts : TA} (h : ts σ H fun vs H1 => PR1 vs fun J => R J H1) : iRng1 ts σ H R := h
theorem r_rng2 {ts : TA} (h : ts σ H fun vs H1 => PR2 vs fun J => R J H1) : iRng2 ts σ H R := h
theorem r_rng3 {ts : TA} (h : ts σ H fun vs H1 => PR3 vs fun J => R J H1) : iRng3 ts σ H R := h
theorem r_pr1 {R : It → Prop} (h : -(2 ^ 62) ≤ m ∧ m < 2 ^ 62) (q : R (Itr 0 m.toNat)) : PR1 [.int m] R := ⟨m, rfl, h.1, h.2, q⟩
theorem r_pr2 {R : It → Prop} (h : -(2 ^ 62) ≤ l ∧ l < 2 ^ 62 ∧ -(2 ^ 62) ≤ m ∧ m < 2 ^ 62) (q : R (Itr l (m - l).toNat)) : PR2 [.int l, .int m] R := ⟨l, m, rfl, h, q⟩
theorem r_pr3d {R : It → Prop} (h : -(2 ^ 62) ≤ l ∧ l < 2 ^ 62 ∧ -(2 ^ 62) ≤ m ∧ m < 2 ^ 62) (q : R (Itc l (-1) (l - m).toNat)) : PR3 [.int l, .int m, .int (-1)] R := ⟨l, m, -1, _, rfl, RgC.neg h.1 h.2.1 h.2.2.1 h.2.2.2, q⟩
theorem r_forRange {lo : Int} {n : Nat} (Pv : Nat → L2.St → Hp → Prop) (h0 : Pv 0 σ H)
    (hs : ∀ i σ' H', i < n → Pv i σ' H' → tb { D with nx := Pv (i + 1), ct := Pv (i + 1), bk := D.nx } (σ'.set j (some (.int (lo + (i : Int))))) H')
    (hd : ∀ σ' H', Pv n σ' H' → D.nx σ' H') : PFor (Itr lo n) (gName j) tb D σ H := for_range Pv h0 hs hd
theorem r_forRange0 {n : Nat} (Pv : Nat → L2.St → Hp → Prop) (h0 : Pv 0 σ H)
    (hs : ∀ i σ' H', i < n → Pv i σ' H' → tb { D with nx := Pv (i + 1), ct := Pv (i + 1), bk := D.nx } (σ'.set j (some (.int (i : Int)))) H')
    (hd : ∀ σ' H', Pv n σ' H' → D.nx σ' H') : PFor (Itr 0 n) (gName j) tb D σ H := for_range Pv h0 (fun i σ' H' hi p => by
      show tb _ (σ'.set j (some (.int ((0 : Int) + (i : Int))))) H'
      rw [Int.zero_add]
      exact hs i σ' H' hi p) hd
def PSeqT (K : PySem.W.Frag) (x : V) (H : Hp) (R : It → Hp → Prop) : Prop := ∃ a, x = .ref a ∧ (∃ xs, SqT K H a xs) ∧ R (Itt K a) H
def PSeqL (K : PySem.W.Frag) (x : V) (H : Hp) (R : It → Hp → Prop) : Prop := ∃ a, x = .ref a ∧ (∃ xs, SqL K H a xs) ∧ R (Itl K a) H
def PSeqS (x : V) (H : Hp) (R : It → Hp → Prop) : Prop := ∃ z, x = .str z ∧ R (Its z) H
theorem r_seqT (h : te σ H fun x H1 => PSeqT K x H1 R) : iSeqU K te σ H R := .inr (.inl h)
theorem r_seqL (h : te σ H fun x H1 => PSeqL K x H1 R) : iSeqU K te σ H R := .inl h
theorem r_seqS (h : te σ H fun x H1 => PSeqS x H1 R) : iSeqU K te σ H R := .inr (.inr h)
theorem r_pseqT {a : Addr} {xs : List V} (h : SqT K H a xs) (q : R (Itt K a) H) : PSeqT K (.ref a) H R := ⟨a, rfl, ⟨xs, h⟩, q⟩
theorem r_pseqL {a : Addr} {xs : List V} (h : SqL K H a xs) (q : R (Itl K a) H) : PSeqL K (.ref a) H R := ⟨a, rfl, ⟨xs, h⟩, q⟩
theorem r_pseqS {z : Str} (q : R (Its z) H) : PSeqS (.str z) H R := ⟨z, rfl, q⟩
theorem r_forTup {a : Addr} {xs : List V} (Pv : Nat → L2.St → Hp → Prop) (h0 : Pv 0 σ H) (hl : ∀ i σ' H', i ≤ xs.length → Pv i σ' H' → SqT K H' a xs)
    (hs : ∀ i x σ' H', xs[i]? = some x → Pv i σ' H' → g x σ' H' fun σ2 H2 => tb { D with nx := Pv (i + 1), ct := Pv (i + 1), bk := D.nx } σ2 H2)
    (hd : ∀ σ' H', Pv xs.length σ' H' → D.nx σ' H') : PFor (Itt K a) g tb D σ H := for_tup Pv h0 hl hs hd
theorem r_forLst {a : Addr} {xs : List V} (Pv : Nat → L2.St → Hp → Prop) (h0 : Pv 0 σ H) (hl : ∀ i σ' H', i ≤ xs.length → Pv i σ' H' → SqL K H' a xs)
    (hs : ∀ i x σ' H', xs[i]? = some x → Pv i σ' H' → g x σ' H' fun σ2 H2 => tb { D with nx := Pv (i + 1), ct := Pv (i + 1), bk := D.nx } σ2 H2)
    (hd : ∀ σ' H', Pv xs.length σ' H' → D.nx σ' H') : PFor (Itl K a) g tb D σ H := for_list Pv h0 hl hs hd
/-! ### comprehensions -/
def PLc (J : It) (g : TG) (tt : TT) (te : TE) (vs : List Nat) (σ : L2.St) (H1 : Hp) (Q : VK) : Prop := ∀ D, H1 D = none → ∃ W : Nat → Nat → Hp → Prop, (∃ m, W 0 m (upd H1 D (.lst []))) ∧ ∀ i m H, W i m H →
  (J.stop i H ∧ Q (.ref D) H) ∨ (J.go i H ∧ ∃ Nx : Hp → Prop, (∀ H', Nx H' → ∃ m', m' < m ∧ W (i + 1) m' H') ∧ ∀ x H', J.yld i H x H' → g x (wipe σ vs) H' fun σ2 H2 => wipe σ2 vs = wipe σ vs ∧ tt σ2 H2 fun b H3 =>
    if b = true then te σ2 H3 fun y H4 => ∃ acc, H4 D = some (.lst acc) ∧ acc.length < sizeLine ∧ Nx (upd H4 D (.lst (acc ++ [y]))) else Nx H3)
theorem r_lc {wi : TI} {tt : TT} {vs : List Nat} {Q : VK} (h : wi σ H fun J H1 => PLc J g tt te vs σ H1 Q) : tLc wi g tt te vs σ H Q := h
theorem r_yes {QB : Bool → Hp → Prop} (q : QB true H) : tYes σ H QB := q
/-- the made item goes into the list at D -/
def PAcc (D : Addr) (Nx : Hp → Prop) (y : V) (H : Hp) : Prop := ∃ acc, H D = some (.lst acc) ∧ acc.length < sizeLine ∧ Nx (upd H D (.lst (acc ++ [y])))
theorem r_acc {D : Addr} {Nx : Hp → Prop} {y : V} {acc : List V} (h : H D = some (.lst acc)) (hz : acc.length ≤ 1000000) (k : ∀ H', But D H H' → H' D = some (.lst (acc ++ [y])) → Nx H') : PAcc D Nx y H :=
  ⟨acc, h, by rw [sizeLine_eq]; omega, k _ but_upd upd_same⟩
/-- over a tuple: Pv tells the new list's place, the turn, the heap -/
theorem r_lcT {a : Addr} {xs : List V} {Q : VK} {tt : TT} {vs : List Nat} (Pv : Addr → Nat → Hp → Prop) (hw : ∀ x, wipe ((wipe σ vs).set j (some x)) vs = wipe σ vs)
    (h0 : ∀ D H', H D = none → Same H H' → H' D = some (.lst []) → Pv D 0 H') (hl : ∀ D i H', Pv D i H' → SqT K H' a xs)
    (hs : ∀ D i x H', xs[i]? = some x → Pv D i H' → tt ((wipe σ vs).set j (some x)) H' fun b H3 => if b = true then te ((wipe σ vs).set j (some x)) H3 (fun y H4 => PAcc D (Pv D (i + 1)) y H4) else Pv D (i + 1) H3)
    (hd : ∀ D H', H D = none → Pv D xs.length H' → Q (.ref D) H') : PLc (Itt K a) (gName j) tt te vs σ H Q := by
  intro D hD
  exact lc_tup (xs := xs) (Pv D) (h0 D _ hD (same_new hD) upd_same) (fun i H' _ p => hl D i H' p) (fun i x H' hi p => ⟨hw x, hs D i x H' hi p⟩) (fun H' p => hd D H' hD p)
theorem r_lcL {a : Addr} {xs : List V} {Q : VK} {tt : TT} {vs : List Nat} (Pv : Addr → Nat → Hp → Prop) (hw : ∀ x, wipe ((wipe σ vs).set j (some x)) vs = wipe σ vs)
    (h0 : ∀ D H', H D = none → Same H H' → H' D = some (.lst []) → Pv D 0 H') (hl : ∀ D i H', Pv D i H' → SqL K H' a xs)
    (hs : ∀ D i x H', xs[i]? = some x → Pv D i H' → tt ((wipe σ vs).set j (some x)) H' fun b H3 => if b = true then te ((wipe σ vs).set j (some x)) H3 (fun y H4 => PAcc D (Pv D (i + 1)) y H4) else Pv D (i + 1) H3)
    (hd : ∀ D H', H D = none → Pv D xs.length H' → Q (.ref D) H') : PLc (Itl K a) (gName j) tt te vs σ H Q := by
  intro D hD
  exact lc_list (xs := xs) (Pv D) (h0 D _ hD (same_new hD) upd_same) (fun i H' _ p => hl D i H' p) (fun i x H' hi p => ⟨hw x, hs D i x H' hi p⟩) (fun H' p => hd D H' hD p)
theorem r_lcR {lo : Int} {n : Nat} {Q : VK} {tt : TT} {vs : List Nat} (Pv : Addr → Nat → Hp → Prop) (hw : ∀ x, wipe ((wipe σ vs).set j (some x)) vs = wipe σ vs)
    (h0 : ∀ D H', H D = none → Same H H' → H' D = some (.lst []) → Pv D 0 H')
    (hs : ∀ D i H', i < n → Pv D i H' → tt ((wipe σ vs).set j (some (.int (lo + (i : Int))))) H' fun b H3 => if b = true then te ((wipe σ vs).set j (some (.int (lo + (i : Int))))) H3 (fun y H4 => PAcc D (Pv D (i + 1)) y H4) else Pv D (i + 1) H3)
    (hd : ∀ D H', H D = none → Pv D n H' → Q (.ref D) H') : PLc (Itr lo n) (gName j) tt te vs σ H Q := by
  intro D hD
  exact lc_range (Pv D) (h0 D _ hD (same_new hD) upd_same) (fun i H' hi p => ⟨hw _, hs D i H' hi p⟩) (fun H' p => hd D H' hD p)
/-- the plain case: a tuple's items, each gives a value that its own place and item tell; nothing else is changed -/
theorem r_lcTm {a : Addr} {xs : List V} {Q : VK} {vs : List Nat} (f : Nat → V → V) (hx : SqT K H a xs) (hz : xs.length ≤ 1000000) (hw : ∀ x, wipe ((wipe σ vs).set j (some x)) vs = wipe σ vs)
    (hs : ∀ i x H1 (Q' : VK), xs[i]? = some x → Same H H1 → (∀ H2, Same H1 H2 → Q' (f i x) H2) → te ((wipe σ vs).set j (some x)) H1 Q')
    (hd : ∀ p H', H p = none → Same H H' → H' p = some (.lst ((List.range xs.length).zipWith f xs)) → Q (.ref p) H') : PLc (Itt K a) (gName j) tYes te vs σ H Q := by
  refine r_lcT (xs := xs) (fun D i H' => H D = none ∧ Same H H' ∧ H' D = some (.lst (((List.range xs.length).zipWith f xs).take i))) hw (fun D H' hD s e => ⟨hD, s, by rw [e]; rfl⟩) (fun D i H' p => sqT_same p.2.1 hx) (fun D i x H' hi p => ?_) (fun D H' hD p => ?_)
  · refine r_yes ?_
    refine r_T ?_
    have hil : i < xs.length := (List.getElem?_eq_some_iff.mp hi).1
    refine hs i x H' _ hi p.2.1 (fun H2 s2 => r_acc (s2 _ _ p.2.2) ?_ fun H5 b5 e5 => ⟨p.1, same_but (p.2.1.trans s2) b5 p.1, ?_⟩)
    · rw [List.length_take, List.length_zipWith, List.length_range]; omega
    · rw [e5, List.take_add_one]
      have e : ((List.range xs.length).zipWith f xs)[i]? = some (f i x) := by
        rw [List.getElem?_zipWith, hi, List.getElem?_range hil]
      rw [e]
      rfl
  · refine hd D H' hD p.2.1 ?_
    have e := p.2.2
    rw [List.take_of_length_le (by rw [List.length_zipWith, List.length_range]; omega)] at e
    exact e
end
end Kb

set_option Elab.async false
set_option linter.all false
set_option maxRecDepth 100000
set_option maxHeartbeats 4000000
namespace Kb
open PySem PySem.Spec PyProof.Rows L2

/-! ### data of tuples -/
inductive Dat where | int (i : Int) | bl (b : Bool) | str (s : Str) | non | tup (ds : List Dat)
mutual
def Dat.size : Dat → Nat
  | .tup ds => 1 + Dat.sizes ds
  | _ => 1
def Dat.sizes : List Dat → Nat
  | [] => 0
  | d :: ds => d.size + Dat.sizes ds
end
theorem Dat.size_pos : ∀ d : Dat, 0 < d.size
  | .int _ => by simp [Dat.size]
  | .bl _ => by simp [Dat.size]
  | .str _ => by simp [Dat.size]
  | .non => by simp [Dat.size]
  | .tup _ => by simp [Dat.size]; omega
mutual
inductive Rp (K : PySem.W.Frag) (H : Hp) : V → Dat → Prop
  | int (i : Int) : Rp K H (.int i) (.int i)
  | bl (b : Bool) : Rp K H (.bl b) (.bl b)
  | str (s : Str) : Rp K H (.str s) (.str s)
  | non : Rp K H .non .non
  | tup {a : Addr} {xs : List V} {ds : List Dat} : SqT K H a xs → RpL K H xs ds → Rp K H (.ref a) (.tup ds)
inductive RpL (K : PySem.W.Frag) (H : Hp) : List V → List Dat → Prop
  | nil : RpL K H [] []
  | cons {v : V} {vs : List V} {d : Dat} {ds : List Dat} : Rp K H v d → RpL K H vs ds → RpL K H (v :: vs) (d :: ds)
end
section
variable {K : PySem.W.Frag} {H H' : Hp} {l : Addr} {ys : List V}
/-- tuples stay -/
def TK (K : PySem.W.Frag) (H H' : Hp) : Prop := ∀ a xs, SqT K H a xs → SqT K H' a xs
theorem tk_same (s : Same H H') : TK K H H' := fun _ _ h => sqT_same s h
theorem tk_but (b : But l H H') (hl : H l = some (.lst ys)) : TK K H H' := fun _ _ h => sqT_but b hl h
mutual
theorem rp_keep (k : TK K H H') : ∀ {v : V} {d : Dat}, Rp K H v d → Rp K H' v d
  | _, _, .int i => .int i
  | _, _, .bl b => .bl b
  | _, _, .str s => .str s
  | _, _, .non => .non
  | _, _, .tup h hr => .tup (k _ _ h) (rpL_keep k hr)
theorem rpL_keep (k : TK K H H') : ∀ {vs : List V} {ds : List Dat}, RpL K H vs ds → RpL K H' vs ds
  | _, _, .nil => .nil
  | _, _, .cons h hr => .cons (rp_keep k h) (rpL_keep k hr)
end
theorem rp_same {v : V} {d : Dat} (s : Same H H') (h : Rp K H v d) : Rp K H' v d := rp_keep (tk_same s) h
theorem rp_but {v : V} {d : Dat} (b : But l H H') (hl : H l = some (.lst ys)) (h : Rp K H v d) : Rp K H' v d := rp_keep (tk_but b hl) h
theorem rpL_length : ∀ {vs : List V} {ds : List Dat}, RpL K H vs ds → vs.length = ds.length
  | _, _, .nil => rfl
  | _, _, .cons _ hr => by simp [rpL_length hr]
theorem rpL_get : ∀ {vs : List V} {ds : List Dat} {i : Nat} {d : Dat}, RpL K H vs ds → ds[i]? = some d → ∃ v, vs[i]? = some v ∧ Rp K H v d
  | _, _, _, _, .nil, e => by simp at e
  | _, _, 0, _, .cons h _, e => by simp at e; subst e; exact ⟨_, rfl, h⟩
  | _, _, i + 1, _, .cons _ hr, e => by
    obtain ⟨v, h1, h2⟩ := rpL_get (i := i) hr (by simpa using e)
    exact ⟨v, by simpa using h1, h2⟩
theorem rpL_ints (ns : List Int) : RpL K H (ns.map V.int) (ns.map Dat.int) := by
  induction ns with
  | nil => exact .nil
  | cons n ns ih => exact .cons (.int n) ih
theorem rp_ints {a : Addr} {ns : List Int} (h : SqT K H a (ns.map V.int)) : Rp K H (.ref a) (.tup (ns.map Dat.int)) := .tup h (rpL_ints ns)
end
/-! ### isinstance -/
section
variable {K : PySem.W.Frag} {H : Hp} {Q : VK}
theorem r_isiT {a : Addr} {xs : List V} {b : Bool} {T : String} (h : SqT K H a xs) (hb : kitB "tuple" T = some b) (q : Q (.bl b) H) : rIsi K [.ref a, .ty T] H Q := by
  refine ⟨.ref a, .ty T, .type "tuple", .type T, b, rfl, .ty T, ?_, kit_ty hb, q⟩
  rcases h with (h | ⟨o, h⟩) | h
  · exact .base (.tup h)
  · exact .fTuple h
  · obtain ⟨o, its, n, h1, h2, _⟩ := h
    exact .kTuple h1 h2
theorem r_isiI {i : Int} {b : Bool} {T : String} (hb : kitB "int" T = some b) (q : Q (.bl b) H) : rIsi K [.int i, .ty T] H Q := ⟨_, _, _, _, b, rfl, .ty T, .base (.int i), kit_ty hb, q⟩
theorem r_isiB {i : Bool} {b : Bool} {T : String} (hb : kitB "bool" T = some b) (q : Q (.bl b) H) : rIsi K [.bl i, .ty T] H Q := ⟨_, _, _, _, b, rfl, .ty T, .base (.bl i), kit_ty hb, q⟩
theorem r_isiS {i : Str} {b : Bool} {T : String} (hb : kitB "str" T = some b) (q : Q (.bl b) H) : rIsi K [.str i, .ty T] H Q := ⟨_, _, _, _, b, rfl, .ty T, .base (.str i), kit_ty hb, q⟩
theorem r_isiN {b : Bool} {T : String} (hb : kitB "NoneType" T = some b) (q : Q (.bl b) H) : rIsi K [.non, .ty T] H Q := ⟨_, _, _, _, b, rfl, .ty T, .base .non, kit_ty hb, q⟩
end

/-! the tactics: rd walks a reading; tk closes a fact about a heap from those ahead of it -/
local macro_rules | `(tactic| walk_at "tk") => `(tactic| first
  | assumption
  | ((with_reducible refine' sqT_of ?k); (case k => assumption))
  | ((with_reducible refine' sqT_ofD ?k); (case k => assumption))
  | ((with_reducible refine' noD_of ?k); (case k => assumption))
  | ((with_reducible refine' noD_same ?s ?k); (case s => assumption); (case k => walk_at "tk"))
  | ((with_reducible refine' sqL_of ?k); (case k => assumption))
  | ((with_reducible refine' sqT_same ?s ?k); (case s => assumption); (case k => walk_at "tk"))
  | ((with_reducible refine' sqL_same ?s ?k); (case s => assumption); (case k => walk_at "tk"))
  | ((with_reducible refine' sqT_but ?s ?t ?k); (case s => assumption); (case t => walk_at "tk"); (case k => walk_at "tk"))
  | ((with_reducible refine' sqL_but ?s ?t ?k); (case s => assumption); (case t => walk_at "ne"); (case k => walk_at "tk"))
  | ((with_reducible refine' sqL_of ?k); (case k => walk_at "tk"))
  | ((with_reducible refine' sqT_of ?k); (case k => walk_at "tk"))
  | ((with_reducible refine' at_same ?s ?k); (case s => assumption); (case k => walk_at "tk"))
  | ((with_reducible refine' at_but ?s ?t ?k); (case s => assumption); (case t => walk_at "ne"); (case k => walk_at "tk")))
local macro_rules | `(tactic| walk_at "ne") => `(tactic| first
  | assumption
  | (refine Ne.symm ?_; assumption)
  | exact ne_of_none (by assumption) (by assumption)
  | exact (ne_of_none (by assumption) (by assumption)).symm)
local macro_rules | `(tactic| walk_at "side") => `(tactic| first
  | assumption
  | omega
  | (simp only [sizeLine_eq, List.length_cons, List.length_nil, List.length_map]; omega)
  | (show _ ≤ sizeLine; decide))
local macro_rules | `(tactic| walk_at "kit") => `(tactic| first
  | (show kitB _ _ = some true; decide +kernel)
  | (show kitB _ _ = some false; decide +kernel))
local macro_rules | `(tactic| walk_at "rng") => `(tactic| first
  | (refine ⟨by omega, by omega, by omega, by omega⟩)
  | (refine ⟨by omega, by omega⟩)
  | ((simp only [List.length_map]); (refine ⟨by omega, by omega, by omega, by omega⟩))
  | ((simp only [List.length_map]); (refine ⟨by omega, by omega⟩)))
local macro_rules | `(tactic| walk_at "rd1") => `(tactic| first
  | with_reducible refine r_seq ?_
  | ((with_reducible refine' r_var ?k0 ?_); (case k0 => rfl))
  | with_reducible refine r_op ?_
  | with_reducible refine r_c ?_
  | with_reducible refine r_asg ?_
  | with_reducible refine r_name ?_
  | with_reducible refine r_cons ?_
  | with_reducible refine r_nil ?_
  | with_reducible refine r_CB ?_
  | with_reducible refine r_if ?_
  | with_reducible refine r_test ?_
  | with_reducible refine r_k ?_
  | with_reducible refine r_T ?_
  | with_reducible refine r_F ?_
  | with_reducible refine r_nT ?_
  | with_reducible refine r_nF ?_
  | with_reducible refine r_ret ?_
  | with_reducible refine r_drop ?_
  | with_reducible refine r_next ?_
  | with_reducible refine r_call ?_
  | with_reducible refine r_addI ?_
  | with_reducible refine r_subI ?_
  | with_reducible refine r_ltI ?_
  | with_reducible refine r_gtI ?_
  | with_reducible refine r_leI ?_
  | with_reducible refine r_geI ?_
  | with_reducible refine r_eqI ?_
  | with_reducible refine r_neI ?_
  | with_reducible refine r_int ?_
  | with_reducible refine r_abs ?_
  | with_reducible refine r_not ?_
  | with_reducible refine r_and ?_
  | with_reducible refine r_or ?_
  | with_reducible refine r_tru ?_
  | with_reducible refine r_truB ?_
  | with_reducible refine r_lst ?_
  | with_reducible refine r_tup ?_
  | with_reducible refine r_BM ?_
  | with_reducible refine r_BM0 ?_
  | with_reducible refine r_tyS ?_
  | with_reducible refine r_gsub ?_
  | with_reducible refine r_then ?_
  | with_reducible refine r_lstRg ?_
  | with_reducible refine r_tupRg ?_
  | with_reducible refine r_rg2 ?_
  | with_reducible refine r_rg1 ?_
  | with_reducible refine r_ii ?_
  | with_reducible refine r_i ?_
  | with_reducible refine r_ipI ?_
  | with_reducible refine r_un ?_
  | with_reducible refine r_neg ?_
  | with_reducible refine r_isN ?_
  | with_reducible refine r_notN ?_
  | with_reducible refine r_notV ?_
  | with_reducible refine r_pnot ?_
  | with_reducible refine r_pif ?_
  | with_reducible refine r_andV ?_
  | with_reducible refine r_orV ?_
  | with_reducible refine r_ifE ?_
  | with_reducible refine r_chain ?_
  | with_reducible refine r_sl ?_
  | with_reducible refine r_noPart ?_
  | with_reducible refine r_part ?_
  | with_reducible refine r_brk ?_
  | with_reducible refine r_cont ?_
  | with_reducible refine r_retN ?_
  | with_reducible refine r_truI ?_
  | with_reducible refine r_B ?_
  | with_reducible refine r_for ?_
  | with_reducible refine r_rng1 ?_
  | with_reducible refine r_rng2 ?_
  | with_reducible refine r_rng3 ?_
  | with_reducible refine r_body ?_
  | with_reducible refine r_lc ?_
  | with_reducible refine r_yes ?_
  | ((with_reducible refine' r_mod ?k0 ?_); (case k0 => walk_at "side"))
  | ((with_reducible refine' r_mulI ?k0 ?_); (case k0 => first | exact Or.inl ⟨by omega, by omega⟩ | exact Or.inr ⟨by omega, by omega⟩))
  | ((with_reducible refine' r_lenL ?k0 ?_); (case k0 => walk_at "tk"))
  | ((with_reducible refine' r_lenT ?k0 ?_); (case k0 => walk_at "tk"))
  | ((with_reducible refine' r_truL ?k0 ?_); (case k0 => walk_at "tk"))
  | ((with_reducible refine' r_truT ?k0 ?_); (case k0 => walk_at "tk"))
  | ((with_reducible refine' r_ixL ?k0 ?k1 ?_); (case k0 => walk_at "tk"); (case k1 => first | assumption | rfl))
  | ((with_reducible refine' r_ixT ?k0 ?k1 ?_); (case k0 => walk_at "tk"); (case k1 => first | assumption | rfl))
  | ((with_reducible refine' r_new ?k0 ?_); (case k0 => walk_at "side"))
  | ((with_reducible refine' r_tyL ?k0 ?_); (case k0 => walk_at "tk"))
  | ((with_reducible refine' r_append ?k0 ?k1 ?_); (case k0 => walk_at "tk"); (case k1 => walk_at "side"))
  | ((with_reducible refine' r_setL ?k0 ?k1 ?_); (case k0 => walk_at "tk"); (case k1 => first | assumption | rfl))
  | ((with_reducible refine' r_kTupL ?k0 ?_); (case k0 => walk_at "tk"))
  | ((with_reducible refine' r_kTupT ?k0 ?_); (case k0 => walk_at "tk"))
  | ((with_reducible refine' r_listL ?k0 ?_); (case k0 => walk_at "tk"))
  | ((with_reducible refine' r_listT ?k0 ?_); (case k0 => walk_at "tk"))
  | ((with_reducible refine' r_aug ?k0 ?_); (case k0 => rfl))
  | ((with_reducible refine' r_lenS ?k0 ?_); (case k0 => walk_at "side"))
  | ((with_reducible refine' r_pop ?k0 ?_); (case k0 => walk_at "tk"))
  | ((with_reducible refine' r_pr1 ?k0 ?_); (case k0 => walk_at "rng"))
  | ((with_reducible refine' r_pr2 ?k0 ?_); (case k0 => walk_at "rng"))
  | ((with_reducible refine' r_pr3d ?k0 ?_); (case k0 => walk_at "rng"))
  | ((with_reducible refine' r_isiI ?k0 ?_); (case k0 => walk_at "kit"))
  | ((with_reducible refine' r_isiB ?k0 ?_); (case k0 => walk_at "kit"))
  | ((with_reducible refine' r_isiS ?k0 ?_); (case k0 => walk_at "kit"))
  | ((with_reducible refine' r_isiN ?k0 ?_); (case k0 => walk_at "kit"))
  | ((with_reducible refine' r_isiT ?k0 ?k1 ?_); (case k0 => walk_at "tk"); (case k1 => walk_at "kit"))
  | ((with_reducible refine r_seqT ?_); (repeat (walk_at "rd1")); ((with_reducible refine' r_pseqT ?k0 ?_); (case k0 => walk_at "tk")))
  | ((with_reducible refine r_seqL ?_); (repeat (walk_at "rd1")); ((with_reducible refine' r_pseqL ?k0 ?_); (case k0 => walk_at "tk")))
  | ((with_reducible refine r_seqS ?_); (repeat (walk_at "rd1")); (with_reducible refine r_pseqS ?_)))
local macro_rules | `(tactic| walk_at "rd") => `(tactic| ((repeat (walk_at "rd1")); (try dsimp only)))

/-! ### _law_same: it says True of two values of one datum -/
def sp_law_same (K : PySem.W.Frag) : Sp := fun vs H Q _ => ∃ (x y : V) (d : Dat), vs = [x, y] ∧ Rp K H x d ∧ Rp K H y d ∧ d.size ≤ 1000000 ∧ ∀ H', Same H H' → Q (.bl true) H'
abbrev N_law_same : List Str := ["got", "due", "stack", "pair", "k"]
def t_law_same (K : PySem.W.Frag) : TS :=
  tSeq (tAsg ((tLst (tCons ((tLst (tCons (tVar 0) (tCons (tVar 1) tNil)))) tNil))) (gName 2))
  (tSeq (tWhile ((tTru K (tVar 2))) (tSeq (tAsg ((tBM0 K "list" rPop (tVar 2))) (gName 3))
  ((tIfS ((tTru K ((tCB (rIsi K) (tCons ((tOp (rIx K) (tVar 3) ((tC (.int 1))))) (tCons ((tC (.ty "tuple"))) tNil)))))) (tSeq (tIfS ((tOr ((tNot ((tTru K ((tCB (rIsi K) (tCons ((tOp (rIx K) (tVar 3) ((tC (.int 0))))) (tCons ((tC (.ty "tuple"))) tNil)))))))) ((tTest (tOp (rNeU K) ((tCB (rLenU K) (tCons ((tOp (rIx K) (tVar 3) ((tC (.int 0))))) tNil))) ((tCB (rLenU K) (tCons ((tOp (rIx K) (tVar 3) ((tC (.int 1))))) tNil)))))))) ((tRet ((tC (.bl false))))) (tNext))
  ((tFor (iRng1 (tCons ((tCB (rLenU K) (tCons ((tOp (rIx K) (tVar 3) ((tC (.int 1))))) tNil))) tNil)) (gName 4) ((tDrop ((tBM K "list" rAppend (tVar 2) (tCons ((tLst (tCons ((tOp (rIx K) ((tOp (rIx K) (tVar 3) ((tC (.int 0))))) (tVar 4))) (tCons ((tOp (rIx K) ((tOp (rIx K) (tVar 3) ((tC (.int 1))))) (tVar 4))) tNil)))) tNil)))))))) ((tIfS ((tTru K ((tCB (rIsi K) (tCons ((tOp (rIx K) (tVar 3) ((tC (.int 1))))) (tCons ((tC (.ty "bool"))) tNil)))))) ((tIfS ((tOr ((tNot ((tTru K ((tCB (rIsi K) (tCons ((tOp (rIx K) (tVar 3) ((tC (.int 0))))) (tCons ((tC (.ty "bool"))) tNil)))))))) ((tTest (tOp (rNeU K) ((tOp (rIx K) (tVar 3) ((tC (.int 0))))) ((tOp (rIx K) (tVar 3) ((tC (.int 1)))))))))) ((tRet ((tC (.bl false))))) (tNext))) ((tIfS ((tTru K ((tCB (rIsi K) (tCons ((tOp (rIx K) (tVar 3) ((tC (.int 1))))) (tCons ((tC (.ty "int"))) tNil)))))) ((tIfS ((tOr ((tNot ((tTru K ((tCB (rIsi K) (tCons ((tOp (rIx K) (tVar 3) ((tC (.int 0))))) (tCons ((tC (.ty "int"))) tNil)))))))) ((tOr ((tTru K ((tCB (rIsi K) (tCons ((tOp (rIx K) (tVar 3) ((tC (.int 0))))) (tCons ((tC (.ty "bool"))) tNil)))))) ((tTest (tOp (rNeU K) ((tOp (rIx K) (tVar 3) ((tC (.int 0))))) ((tOp (rIx K) (tVar 3) ((tC (.int 1)))))))))))) ((tRet ((tC (.bl false))))) (tNext))) ((tIfS ((tTru K ((tCB (rIsi K) (tCons ((tOp (rIx K) (tVar 3) ((tC (.int 1))))) (tCons ((tC (.ty "str"))) tNil)))))) ((tIfS ((tOr ((tNot ((tTru K ((tCB (rIsi K) (tCons ((tOp (rIx K) (tVar 3) ((tC (.int 0))))) (tCons ((tC (.ty "str"))) tNil)))))))) ((tTest (tOp (rNeU K) ((tOp (rIx K) (tVar 3) ((tC (.int 0))))) ((tOp (rIx K) (tVar 3) ((tC (.int 1)))))))))) ((tRet ((tC (.bl false))))) (tNext))) ((tIfS ((tTest (tOp rNotNU ((tOp (rIx K) (tVar 3) ((tC (.int 0))))) ((tC .non))))) ((tRet ((tC (.bl false))))) (tNext)))))))))))))
  ((tRet ((tC (.bl true))))))


theorem len_law_same {K : PySem.W.Frag} {vs : List V} {H : Hp} {Q : VK} {E : XK} (h : sp_law_same K vs H Q E) : vs.length = 2 := by
  obtain ⟨x, y, d, rfl, _⟩ := h; rfl
theorem r_neSame {K : PySem.W.Frag} {x : V} {H : Hp} {Q : VK} (h : scal x x = true) (q : Q (.bl false) H) : rNeU K x x H Q := .inl ⟨h, by rw [decide_eq_true rfl]; exact q⟩
structure Item where
  q : Addr
  x : V
  y : V
  d : Dat
def Items (K : PySem.W.Frag) (H : Hp) (s : Addr) (its : List Item) : Prop := ∀ it ∈ its, it.q ≠ s ∧ H it.q = some (.lst [it.x, it.y]) ∧ Rp K H it.x it.d ∧ Rp K H it.y it.d
theorem Items.same {K : PySem.W.Frag} {H H' : Hp} {s : Addr} {its : List Item} (h : Items K H s its) (e : Same H H') : Items K H' s its := fun it hi =>
  let ⟨a, b, c, d⟩ := h it hi
  ⟨a, e _ _ b, rp_same e c, rp_same e d⟩
theorem Items.but {K : PySem.W.Frag} {H H' : Hp} {s : Addr} {its : List Item} {ys : List V} (h : Items K H s its) (e : But s H H') (hs : H s = some (.lst ys)) : Items K H' s its := fun it hi =>
  let ⟨a, b, c, d⟩ := h it hi
  ⟨a, e _ _ a b, rp_but e hs c, rp_but e hs d⟩
def total (its : List Item) : Nat := (its.map fun it => it.d.size).sum
def refs (its : List Item) : List V := its.map fun it => .ref it.q
theorem total_append (a b : List Item) : total (a ++ b) = total a + total b := by simp [total]
theorem refs_append (a b : List Item) : refs (a ++ b) = refs a ++ refs b := by simp [refs]
theorem length_le_total : ∀ its : List Item, its.length ≤ total its
  | [] => Nat.le_refl _
  | it :: r => by
    have h1 := length_le_total r
    have h2 := it.d.size_pos
    show r.length + 1 ≤ total ([it] ++ r)
    rw [total_append]
    simp [total] at *
    omega
theorem sizes_take : ∀ (ds : List Dat) (i : Nat) (d : Dat), ds[i]? = some d → Dat.sizes (ds.take (i + 1)) = Dat.sizes (ds.take i) + d.size
  | [], _, _, h => by simp at h
  | e :: r, 0, d, h => by simp at h; subst h; simp [Dat.sizes]
  | e :: r, i + 1, d, h => by
    have := sizes_take r i d (by simpa using h)
    simp only [List.take_succ_cons, Dat.sizes, this]
    omega
theorem sizes_take_le : ∀ (ds : List Dat) (i : Nat), Dat.sizes (ds.take i) ≤ Dat.sizes ds
  | [], i => by simp [Dat.sizes]
  | e :: r, 0 => by simp [Dat.sizes]
  | e :: r, i + 1 => by
    have := sizes_take_le r i
    simp only [List.take_succ_cons, Dat.sizes]
    omega
theorem len_sizes : ∀ (ds : List Dat), ds.length ≤ Dat.sizes ds
  | [] => by simp [Dat.sizes]
  | e :: r => by
    have := len_sizes r
    have := e.size_pos
    simp only [List.length_cons, Dat.sizes]
    omega
theorem pure_law_same {K : PySem.W.Frag} {vs : List V} {H : Hp} {Q : VK} {E : XK} (h : sp_law_same K vs H Q E) : t_law_same K (En Q) (start N_law_same vs) H := by
  obtain ⟨x0, y0, d0, rfl, hx0, hy0, hd0, q⟩ := h
  unfold t_law_same
  walk_at "rd"
  intro p1 H1 np1 s1 e1
  walk_at "rd"
  intro st H2 nst s2 e2
  walk_at "rd"
  have hne : p1 ≠ st := ne_of_none e1 nst
  refine r_while (fun m σ H' => ∃ (its : List Item) (z3 z4 : Option V), σ = [some x0, some y0, some (.ref st), z3, z4] ∧ Same H H' ∧ H st = none ∧ H' st = some (.lst (refs its)) ∧ Items K H' st its ∧ m = total its ∧ m ≤ 1000000) d0.size
    ⟨[⟨p1, x0, y0, d0⟩], none, none, rfl, s1.trans s2, s1.free nst, e2, ?_, ?_, hd0⟩ (fun m σ H' hW => ?_)
  · intro it hi
    rw [List.mem_singleton] at hi
    subst hi
    exact ⟨hne, s2 _ _ e1, rp_same (s1.trans s2) hx0, rp_same (s1.trans s2) hy0⟩
  · simp [total]
  obtain ⟨its, z3, z4, rfl, s3, nst0, e3, hI, rfl, hm⟩ := hW
  walk_at "rd"
  rcases List.eq_nil_or_concat its with rfl | ⟨rest, it, rfl⟩
  · -- the stack is empty
    refine r_F ?_
    walk_at "rd"
    exact q _ s3
  · rw [List.concat_eq_append] at *
    have hb : (!(refs (rest ++ [it])).isEmpty) = true := by rw [refs_append]; simp [refs]
    rw [if_pos hb]
    have e3' : H' st = some (.lst (refs rest ++ [.ref it.q])) := by rw [e3, refs_append]; rfl
    obtain ⟨hq, eq, hx, hy⟩ := hI it (by simp)
    have hR : Items K H' st rest := fun i hi => hI i (by simp [hi])
    obtain ⟨q0, x, y, d⟩ := it
    dsimp only at hq eq hx hy e3'
    have ht : total (rest ++ [⟨q0, x, y, d⟩]) = total rest + d.size := by rw [total_append]; simp [total]
    rw [ht] at hm ⊢
    walk_at "rd"
    intro H4 b4 e4
    have eq4 : H4 q0 = some (.lst [x, y]) := b4 _ _ hq eq
    have hx4 := rp_but b4 e3' hx
    have hy4 := rp_but b4 e3' hy
    have hR4 := hR.but b4 e3'
    have s4 : Same H H4 := same_but s3 b4 nst0
    have dp := d.size_pos
    have fin : ∃ m', m' < total rest + d.size ∧ ∃ (its : List Item) (y3 y4 : Option V), ([some x0, some y0, some (.ref st), some (.ref q0), z4] : L2.St) = [some x0, some y0, some (.ref st), y3, y4] ∧ Same H H4 ∧ H st = none ∧ H4 st = some (.lst (refs its)) ∧ Items K H4 st its ∧ m' = total its ∧ m' ≤ 1000000 :=
      ⟨total rest, by omega, rest, _, _, rfl, s4, nst0, e4, hR4, rfl, by omega⟩
    walk_at "rd"
    cases hy4 with
    | @tup b ys ds hbt hrb =>
      cases hx4 with
      | @tup a xs _ ha hra =>
        have lx := rpL_length hra
        have ly := rpL_length hrb
        walk_at "rd"
        rw [lx, ly]
        refine r_iteNP rfl ?_
        walk_at "rd"
        have hl := len_sizes ds
        have hs : (Dat.tup ds).size = 1 + Dat.sizes ds := by simp [Dat.size]
        refine r_pr1 ⟨by omega, by omega⟩ ?_
        rw [Int.toNat_natCast, ly]
        refine r_forRange0 (fun i σ' H' => ∃ (its : List Item) (z : Option V), σ' = [some x0, some y0, some (.ref st), some (.ref q0), z] ∧ Same H H' ∧ H' st = some (.lst (refs its)) ∧ Items K H' st its ∧ total its = total rest + Dat.sizes (ds.take i) ∧
          H' q0 = some (.lst [.ref a, .ref b]) ∧ SqT K H' a xs ∧ SqT K H' b ys ∧ RpL K H' xs ds ∧ RpL K H' ys ds)
          ⟨rest, _, rfl, s4, e4, hR4, by simp [Dat.sizes], eq4, ha, hbt, hra, hrb⟩ (fun i σ' H5 hi hP => ?_) (fun σ' H5 hP => ?_)
        · obtain ⟨its, z, rfl, s5, e5, hI5, ht5, eq5, ha5, hb5, hra5, hrb5⟩ := hP
          have hd : ds[i]? = some ds[i] := List.getElem?_eq_getElem hi
          obtain ⟨vx, gx, rx⟩ := rpL_get hra5 hd
          obtain ⟨vy, gy, ry⟩ := rpL_get hrb5 hd
          have gx' := atI_nat gx
          have gy' := atI_nat gy
          walk_at "rd"
          intro p H6 np s6 e6
          have hpq : p ≠ st := (ne_of_none e5 np).symm
          have e56 := s6 _ _ e5
          have hle : Dat.sizes (ds.take (i + 1)) ≤ Dat.sizes ds := sizes_take_le ds _
          have h1 := sizes_take ds i _ hd
          have h2 := (ds[i]).size_pos
          have hz : (refs its).length ≤ total its := by rw [show (refs its).length = its.length by simp [refs]]; exact length_le_total its
          walk_at "rd"
          intro H7 b7 e7
          walk_at "rd"
          refine ⟨its ++ [⟨p, vx, vy, ds[i]⟩], _, rfl, same_but (s5.trans s6) b7 nst0, by rw [e7, refs_append]; rfl, ?_, ?_, b7 _ _ hq (s6 _ _ eq5), sqT_but b7 e56 (sqT_same s6 ha5), sqT_but b7 e56 (sqT_same s6 hb5), rpL_keep (tk_but b7 e56) (rpL_keep (tk_same s6) hra5), rpL_keep (tk_but b7 e56) (rpL_keep (tk_same s6) hrb5)⟩
          · intro it hit
            rcases List.mem_append.mp hit with hit | hit
            · exact ((hI5.same s6).but b7 e56) it hit
            · rw [List.mem_singleton] at hit
              subst hit
              exact ⟨hpq, b7 _ _ hpq e6, rp_but b7 e56 (rp_same s6 rx), rp_but b7 e56 (rp_same s6 ry)⟩
          · rw [total_append, ht5, h1]
            simp [total]
            omega
        · obtain ⟨its, z, rfl, s5, e5, hI5, ht5, eq5, ha5, hb5, hra5, hrb5⟩ := hP
          rw [List.take_length] at ht5
          exact ⟨total its, by omega, its, _, _, rfl, s5, nst0, e5, hI5, rfl, by omega⟩
    | bl c =>
      cases hx4 with
      | bl _ =>
        walk_at "rd"
        refine r_neSame rfl ?_
        walk_at "rd"
        exact fin
    | int c =>
      cases hx4 with
      | int _ =>
        walk_at "rd"
        refine r_iteNP rfl ?_
        walk_at "rd"
        exact fin
    | str c =>
      cases hx4 with
      | str _ =>
        walk_at "rd"
        refine r_neSame rfl ?_
        walk_at "rd"
        exact fin
    | non =>
      cases hx4 with
      | non =>
        walk_at "rd"
        refine r_iteNP rfl ?_
        walk_at "rd"
        exact fin
end Kb

/-! M03: rows as lists of ints: walks, their least bells, order, inversions. Plain Lean. -/
set_option maxRecDepth 100000
set_option linter.all false
namespace Kb
def IsRow (r : List Int) (n : Nat) : Prop := r.length = n ∧ r.Nodup ∧ ∀ x ∈ r, 1 ≤ x ∧ x ≤ (n : Int)
def mulR (x y : List Int) : List Int := y.map fun b => x.getD (b - 1).toNat 0
def roundsR (n : Nat) : List Int := (List.range n).map fun (i : Nat) => 1 + (i : Int)
def nx (r : List Int) (b : Int) : Int := r.getD (b - 1).toNat 0
def itr (r : List Int) : Nat → Int → Int
  | 0, b => b
  | k + 1, b => nx r (itr r k b)
def per (r : List Int) (b : Int) : Nat := ((List.range r.length).find? fun k => decide (itr r (k + 1) b = b)).getD 0 + 1
def orbit (r : List Int) (b : Int) : List Int := (List.range (per r b)).map fun k => itr r k b
def isMin (r : List Int) (b : Int) : Bool := (orbit r b).all fun x => decide (b ≤ x)
def cyc (r : List Int) : List (List Int) := ((roundsR r.length).filter (isMin r)).map (orbit r)
def ordL (cs : List (List Int)) : Nat := cs.foldl (fun a c => Nat.lcm a c.length) 1
def inv : List Int → Nat
  | [] => 0
  | x :: w => (w.filter fun y => decide (y < x)).length + inv w

/-! ### pigeonhole -/
theorem nodup_inj {α : Type} {l : List α} (nd : l.Nodup) {i j : Nat} {hi : i < l.length} {hj : j < l.length} (e : l[i] = l[j]) : i = j := by
  rw [List.nodup_iff_pairwise_ne, List.pairwise_iff_getElem] at nd
  rcases Nat.lt_trichotomy i j with h | h | h
  · exact absurd e (nd i j hi hj h)
  · exact h
  · exact absurd e.symm (nd j i hj hi h)
theorem nodup_erase_len {α : Type} [DecidableEq α] {l : List α} {x : α} (h : x ∈ l) : (l.erase x).length + 1 = l.length := by
  rw [List.length_erase_of_mem h]
  have := List.length_pos_of_mem h
  omega
theorem nodup_le : ∀ (n : Nat) (l : List Int), l.Nodup → (∀ x ∈ l, 1 ≤ x ∧ x ≤ (n : Int)) → l.length ≤ n
  | 0, l, _, h => by
    cases l with
    | nil => exact Nat.le_refl _
    | cons x r => have := h x List.mem_cons_self; omega
  | n + 1, l, nd, h => by
    by_cases hm : ((n : Int) + 1) ∈ l
    · have h1 := nodup_le n (l.erase ((n : Int) + 1)) (nd.erase _) (fun x hx => by
        have h2 := h x (List.mem_of_mem_erase hx)
        have h3 : x ≠ (n : Int) + 1 := fun e => by
          subst e
          exact (List.Nodup.mem_erase_iff nd).mp hx |>.1 rfl
        omega)
      have := nodup_erase_len hm
      omega
    · have := nodup_le n l nd (fun x hx => by
        have h2 := h x hx
        have h3 : x ≠ (n : Int) + 1 := fun e => hm (e ▸ hx)
        omega)
      omega
/-- a row holds every bell -/
theorem row_mem {r : List Int} {n : Nat} (h : IsRow r n) {b : Int} (h1 : 1 ≤ b) (h2 : b ≤ n) : b ∈ r := by
  refine Decidable.byContradiction fun hm => ?_
  have := nodup_le n (b :: r) (List.nodup_cons.mpr ⟨hm, h.2.1⟩) (fun x hx => by
    rcases List.mem_cons.mp hx with rfl | hx
    · exact ⟨h1, h2⟩
    · exact h.2.2 x hx)
  rw [List.length_cons, h.1] at this
  omega
section
variable {r : List Int} {n : Nat} (h : IsRow r n)
include h
theorem nx_get {b : Int} (h1 : 1 ≤ b) (h2 : b ≤ n) : ∃ hl : (b - 1).toNat < r.length, nx r b = r[(b - 1).toNat] := by
  have hl : (b - 1).toNat < r.length := by rw [h.1]; omega
  exact ⟨hl, by unfold nx; rw [List.getD_eq_getElem?_getD, List.getElem?_eq_getElem hl]; rfl⟩
theorem nx_mem {b : Int} (h1 : 1 ≤ b) (h2 : b ≤ n) : 1 ≤ nx r b ∧ nx r b ≤ n := by
  obtain ⟨hl, e⟩ := nx_get h h1 h2
  rw [e]
  exact h.2.2 _ (List.getElem_mem hl)
theorem nx_inj {a b : Int} (ha1 : 1 ≤ a) (ha2 : a ≤ n) (h1 : 1 ≤ b) (h2 : b ≤ n) (e : nx r a = nx r b) : a = b := by
  obtain ⟨hl, e1⟩ := nx_get h h1 h2
  obtain ⟨ha, e2⟩ := nx_get h ha1 ha2
  rw [e1, e2] at e
  have := nodup_inj h.2.1 e
  omega
theorem itr_mem {b : Int} (h1 : 1 ≤ b) (h2 : b ≤ n) : ∀ k, 1 ≤ itr r k b ∧ itr r k b ≤ n
  | 0 => ⟨h1, h2⟩
  | k + 1 => by
    have := itr_mem h1 h2 k
    exact nx_mem h this.1 this.2
omit h in
theorem itr_add (b : Int) (j : Nat) : ∀ k, itr r (j + k) b = itr r k (itr r j b)
  | 0 => rfl
  | k + 1 => by
    show nx r (itr r (j + k) b) = nx r (itr r k (itr r j b))
    rw [itr_add b j k]
theorem itr_inj {a b : Int} (ha1 : 1 ≤ a) (ha2 : a ≤ n) (h1 : 1 ≤ b) (h2 : b ≤ n) : ∀ k, itr r k a = itr r k b → a = b
  | 0, e => e
  | k + 1, e => by
    have x := itr_mem h ha1 ha2 k
    have y := itr_mem h h1 h2 k
    exact itr_inj ha1 ha2 h1 h2 k (nx_inj h x.1 x.2 y.1 y.2 e)
/-- some return within n steps -/
theorem returns {b : Int} (h1 : 1 ≤ b) (h2 : b ≤ n) : ∃ k, k < n ∧ itr r (k + 1) b = b := by
  refine Decidable.byContradiction fun hn => ?_
  have hno : ∀ k, k < n → itr r (k + 1) b ≠ b := fun k hk e => hn ⟨k, hk, e⟩
  have nd : ((List.range (n + 1)).map fun k => itr r k b).Nodup := by
    rw [List.nodup_iff_pairwise_ne, List.pairwise_map]
    refine (List.pairwise_lt_range (n := n + 1)).imp_of_mem (fun {i j} hi hj hij e => ?_)
    rw [List.mem_range] at hi hj
    have e2 : itr r j b = itr r i (itr r (j - i) b) := by
      have := itr_add (r := r) b (j - i) i
      rw [show j - i + i = j by omega] at this
      exact this
    rw [e2] at e
    have hm := itr_mem h h1 h2 (j - i)
    have := itr_inj h h1 h2 hm.1 hm.2 i e
    refine hno (j - i - 1) (by omega) ?_
    rw [show j - i - 1 + 1 = j - i by omega]
    exact this.symm
  have := nodup_le n _ nd (fun x hx => by
    obtain ⟨k, _, rfl⟩ := List.mem_map.mp hx
    exact itr_mem h h1 h2 k)
  simp at this
  omega
theorem per_spec {b : Int} (h1 : 1 ≤ b) (h2 : b ≤ n) : 0 < per r b ∧ per r b ≤ n ∧ itr r (per r b) b = b ∧ ∀ k, 0 < k → k < per r b → itr r k b ≠ b := by
  obtain ⟨k, hk, ek⟩ := returns h h1 h2
  unfold per
  rw [h.1]
  cases e : (List.range n).find? (fun k => decide (itr r (k + 1) b = b)) with
  | none =>
    rw [List.find?_eq_none] at e
    exact absurd (decide_eq_true ek) (e k (List.mem_range.mpr hk))
  | some m =>
    have hm := List.find?_some e
    have hr := List.mem_range.mp (List.mem_of_find?_eq_some e)
    refine ⟨Nat.succ_pos _, hr, of_decide_eq_true hm, fun j hj hl ej => ?_⟩
    have hl : j < m + 1 := hl
    rw [List.find?_range_eq_some] at e
    have := e.2.2 (j - 1) (by omega)
    rw [show j - 1 + 1 = j by omega] at this
    simp [ej] at this
theorem itr_per {b : Int} (h1 : 1 ≤ b) (h2 : b ≤ n) : ∀ q k, itr r (per r b * q + k) b = itr r k b
  | 0, k => by rw [Nat.mul_zero, Nat.zero_add]
  | q + 1, k => by
    rw [show per r b * (q + 1) + k = per r b + (per r b * q + k) by rw [Nat.mul_succ]; omega, itr_add, (per_spec h h1 h2).2.2.1, itr_per h1 h2 q k]
/-- the walk is back exactly at the multiples of its length -/
theorem back_iff {b : Int} (h1 : 1 ≤ b) (h2 : b ≤ n) (m : Nat) : itr r m b = b ↔ per r b ∣ m := by
  have p := per_spec h h1 h2
  constructor
  · intro e
    have e2 := itr_per h h1 h2 (m / per r b) (m % per r b)
    rw [Nat.div_add_mod] at e2
    rw [e] at e2
    refine Nat.dvd_of_mod_eq_zero (Decidable.byContradiction fun hz => ?_)
    exact p.2.2.2 (m % per r b) (Nat.pos_of_ne_zero hz) (Nat.mod_lt _ p.1) e2.symm
  · rintro ⟨q, rfl⟩
    have := itr_per h h1 h2 q 0
    exact this
theorem mem_orbit {b x : Int} (h1 : 1 ≤ b) (h2 : b ≤ n) : x ∈ orbit r b ↔ ∃ k, itr r k b = x := by
  have p := per_spec h h1 h2
  unfold orbit
  rw [List.mem_map]
  constructor
  · rintro ⟨k, _, e⟩
    exact ⟨k, e⟩
  · rintro ⟨k, e⟩
    refine ⟨k % per r b, List.mem_range.mpr (Nat.mod_lt _ p.1), ?_⟩
    have := itr_per h h1 h2 (k / per r b) (k % per r b)
    rw [Nat.div_add_mod] at this
    rw [← this, e]
theorem isMin_iff {b : Int} (h1 : 1 ≤ b) (h2 : b ≤ n) : isMin r b = true ↔ ∀ k, b ≤ itr r k b := by
  unfold isMin
  rw [List.all_eq_true]
  constructor
  · intro q k
    exact of_decide_eq_true (q _ ((mem_orbit h h1 h2).mpr ⟨k, rfl⟩))
  · intro q x hx
    obtain ⟨k, rfl⟩ := (mem_orbit h h1 h2).mp hx
    exact decide_eq_true (q k)
/-- being on one walk -/
theorem orbit_symm {a b : Int} (h1 : 1 ≤ a) (h2 : a ≤ n) {k : Nat} (e : itr r k a = b) : ∃ j, itr r j b = a := by
  have p := per_spec h h1 h2
  refine ⟨per r a * k - k, ?_⟩
  rw [← e, ← itr_add]
  have hle : k ≤ per r a * k := Nat.le_mul_of_pos_left k p.1
  rw [show k + (per r a * k - k) = per r a * k + 0 by omega, itr_per h h1 h2]
  rfl
theorem orbit_nodup {b : Int} (h1 : 1 ≤ b) (h2 : b ≤ n) : (orbit r b).Nodup := by
  have p := per_spec h h1 h2
  unfold orbit
  rw [List.nodup_iff_pairwise_ne, List.pairwise_map]
  refine (List.pairwise_lt_range (n := per r b)).imp_of_mem (fun {i j} hi hj hij e => ?_)
  rw [List.mem_range] at hi hj
  have e2 : itr r j b = itr r i (itr r (j - i) b) := by
    have := itr_add (r := r) b (j - i) i
    rw [show j - i + i = j by omega] at this
    exact this
  rw [e2] at e
  have hm := itr_mem h h1 h2 (j - i)
  have := itr_inj h h1 h2 hm.1 hm.2 i e
  exact p.2.2.2 (j - i) (by omega) (by omega) this.symm
/-- a walk's bell is 1 to i at some step -/
def Seen (r : List Int) (i : Nat) (x : Int) : Prop := ∃ k, itr r k x ≤ (i : Int)
omit h in
theorem seen_zero {x : Int} (hx : IsRow r n) (h1 : 1 ≤ x) (h2 : x ≤ n) : ¬ Seen r 0 x := fun ⟨k, e⟩ => by
  have := itr_mem hx h1 h2 k
  omega
theorem seen_min {i : Nat} (h2 : 1 + (i : Int) ≤ n) : isMin r (1 + (i : Int)) = true ↔ ¬ Seen r i (1 + (i : Int)) := by
  rw [isMin_iff h (by omega) h2]
  constructor
  · rintro q ⟨k, e⟩
    have := q k
    omega
  · intro q k
    refine Decidable.byContradiction fun hc => q ⟨k, by omega⟩
theorem seen_succ_no {i : Nat} {x : Int} (hs : Seen r i (1 + (i : Int))) : Seen r (i + 1) x ↔ Seen r i x := by
  constructor
  · rintro ⟨k, e⟩
    by_cases hk : itr r k x = 1 + (i : Int)
    · obtain ⟨j, ej⟩ := hs
      refine ⟨k + j, ?_⟩
      rw [itr_add, hk]
      exact ej
    · exact ⟨k, by omega⟩
  · rintro ⟨k, e⟩
    exact ⟨k, by omega⟩
theorem seen_succ_yes {i : Nat} {x : Int} (h2 : 1 + (i : Int) ≤ n) (hx1 : 1 ≤ x) (hx2 : x ≤ n) : Seen r (i + 1) x ↔ Seen r i x ∨ ∃ k, k < per r (1 + (i : Int)) ∧ itr r k (1 + (i : Int)) = x := by
  have p := per_spec h (by omega) h2
  constructor
  · rintro ⟨k, e⟩
    by_cases hk : itr r k x = 1 + (i : Int)
    · obtain ⟨j, ej⟩ := orbit_symm h hx1 hx2 hk
      have hm : x ∈ orbit r (1 + (i : Int)) := (mem_orbit h (by omega) h2).mpr ⟨j, ej⟩
      unfold orbit at hm
      obtain ⟨k', hk', e'⟩ := List.mem_map.mp hm
      exact .inr ⟨k', List.mem_range.mp hk', e'⟩
    · exact .inl ⟨k, by omega⟩
  · rintro (⟨k, e⟩ | ⟨k, _, e⟩)
    · exact ⟨k, by omega⟩
    · obtain ⟨j, ej⟩ := orbit_symm h (by omega) h2 e
      exact ⟨j, by omega⟩
theorem fresh_step {i j : Nat} (h2 : 1 + (i : Int) ≤ n) (hm : ¬ Seen r i (1 + (i : Int))) (hj : j < per r (1 + (i : Int))) : ¬ (Seen r i (itr r j (1 + (i : Int))) ∨ ∃ k, k < j ∧ itr r k (1 + (i : Int)) = itr r j (1 + (i : Int))) := by
  have p := per_spec h (by omega) h2
  rintro (⟨k, e⟩ | ⟨k, hk, e⟩)
  · exact hm ⟨j + k, by rw [itr_add]; exact e⟩
  · have nd := orbit_nodup h (by omega : (1 : Int) ≤ 1 + (i : Int)) h2
    unfold orbit at nd
    rw [List.nodup_iff_pairwise_ne, List.pairwise_map] at nd
    have := List.pairwise_iff_getElem.mp nd k j (by rw [List.length_range]; omega) (by rw [List.length_range]; omega) hk
    rw [List.getElem_range, List.getElem_range] at this
    exact this e
end

/-! ### the order -/
theorem lcm_room {o l M : Nat} (ho : 0 < o) (hd : o ∣ M) (hle : M ≤ Nat.lcm o l) (hz : ¬ M % l = 0) : M + o ≤ Nat.lcm o l := by
  obtain ⟨c, hc⟩ := hd
  obtain ⟨e, he⟩ := Nat.dvd_lcm_left o l
  have hne : M ≠ Nat.lcm o l := fun h => hz (by rw [h]; exact Nat.mod_eq_zero_of_dvd (Nat.dvd_lcm_right o l))
  subst hc
  rw [he] at hle hne ⊢
  have h1 : c < e := by
    refine Decidable.byContradiction fun hn => ?_
    have : o * e ≤ o * c := Nat.mul_le_mul_left o (by omega)
    exact hne (Nat.le_antisymm hle this)
  have h2 : o * (c + 1) ≤ o * e := Nat.mul_le_mul_left o h1
  rw [Nat.mul_succ] at h2
  exact h2
theorem mem_rounds {n : Nat} {x : Int} : x ∈ roundsR n ↔ 1 ≤ x ∧ x ≤ (n : Int) := by
  unfold roundsR
  rw [List.mem_map]
  constructor
  · rintro ⟨i, hi, rfl⟩
    rw [List.mem_range] at hi
    omega
  · rintro ⟨h1, h2⟩
    exact ⟨(x - 1).toNat, List.mem_range.mpr (by omega), by omega⟩
theorem cyc_mem {r : List Int} {n : Nat} (h : IsRow r n) {c : List Int} (hc : c ∈ cyc r) : ∃ b : Int, 1 ≤ b ∧ b ≤ n ∧ isMin r b = true ∧ c = orbit r b := by
  unfold cyc at hc
  obtain ⟨b, hb, rfl⟩ := List.mem_map.mp hc
  rw [List.mem_filter, h.1, mem_rounds] at hb
  exact ⟨b, hb.1.1, hb.1.2, hb.2, rfl⟩
theorem orbit_len (r : List Int) (b : Int) : (orbit r b).length = per r b := by unfold orbit; rw [List.length_map, List.length_range]
theorem cyc_pos {r : List Int} {n : Nat} (h : IsRow r n) (c : List Int) (hc : c ∈ cyc r) : 0 < c.length := by
  obtain ⟨b, h1, h2, _, rfl⟩ := cyc_mem h hc
  rw [orbit_len]
  exact (per_spec h h1 h2).1
theorem foldl_lcm_pos : ∀ (cs : List (List Int)) (a : Nat), 0 < a → (∀ c ∈ cs, 0 < c.length) → 0 < cs.foldl (fun a c => Nat.lcm a c.length) a
  | [], _, h, _ => h
  | c :: cs, a, h, hc => foldl_lcm_pos cs _ (Nat.lcm_pos h (hc c List.mem_cons_self)) fun d hd => hc d (List.mem_cons_of_mem _ hd)
theorem ordL_pos {r : List Int} {n : Nat} (h : IsRow r n) (i : Nat) : 0 < ordL ((cyc r).take i) :=
  foldl_lcm_pos _ 1 Nat.one_pos fun c hc => cyc_pos h c (List.mem_of_mem_take hc)
theorem foldl_lcm_dvd (m : Nat) : ∀ (cs : List (List Int)) (a : Nat), cs.foldl (fun a c => Nat.lcm a c.length) a ∣ m ↔ a ∣ m ∧ ∀ c ∈ cs, c.length ∣ m
  | [], a => by simp
  | c :: cs, a => by
    show cs.foldl _ (Nat.lcm a c.length) ∣ m ↔ _
    rw [foldl_lcm_dvd m cs]
    constructor
    · rintro ⟨h1, h2⟩
      refine ⟨Nat.dvd_trans (Nat.dvd_lcm_left _ _) h1, fun d hd => ?_⟩
      rcases List.mem_cons.mp hd with rfl | hd
      · exact Nat.dvd_trans (Nat.dvd_lcm_right _ _) h1
      · exact h2 d hd
    · rintro ⟨h1, h2⟩
      exact ⟨Nat.lcm_dvd h1 (h2 c List.mem_cons_self), fun d hd => h2 d (List.mem_cons_of_mem _ hd)⟩

/-! ### powers: pw r m is the product of m + 1 copies -/
def pw (r : List Int) : Nat → List Int
  | 0 => r
  | m + 1 => mulR (pw r m) r
theorem mulR_len (x y : List Int) : (mulR x y).length = y.length := by unfold mulR; rw [List.length_map]
theorem nx_mul {x y : List Int} {n : Nat} (hy : IsRow y n) {b : Int} (h1 : 1 ≤ b) (h2 : b ≤ n) : nx (mulR x y) b = nx x (nx y b) := by
  obtain ⟨hl, e⟩ := nx_get hy h1 h2
  rw [e]
  unfold nx mulR
  rw [List.getD_eq_getElem?_getD, List.getElem?_map, List.getElem?_eq_getElem hl]
  rfl
theorem mulR_row' {x y : List Int} {n : Nat} (hx : IsRow x n) (hy : IsRow y n) : IsRow (mulR x y) n := by
  refine ⟨by rw [mulR_len]; exact hy.1, ?_, ?_⟩
  · unfold mulR
    rw [List.nodup_iff_pairwise_ne, List.pairwise_map]
    refine (List.nodup_iff_pairwise_ne.mp hy.2.1).imp_of_mem (fun {a b} ha hb hne e => hne ?_)
    have h1 := hy.2.2 a ha
    have h2 := hy.2.2 b hb
    exact nx_inj hx h1.1 h1.2 h2.1 h2.2 e
  · intro b hb
    unfold mulR at hb
    obtain ⟨c, hc, rfl⟩ := List.mem_map.mp hb
    have h1 := hy.2.2 c hc
    exact nx_mem hx h1.1 h1.2
theorem pw_row {r : List Int} {n : Nat} (h : IsRow r n) : ∀ m, IsRow (pw r m) n
  | 0 => h
  | m + 1 => mulR_row' (pw_row h m) h
theorem nx_pw {r : List Int} {n : Nat} (h : IsRow r n) {b : Int} (h1 : 1 ≤ b) (h2 : b ≤ n) : ∀ m, nx (pw r m) b = itr r (m + 1) b
  | 0 => rfl
  | m + 1 => by
    have hm := nx_mem h h1 h2
    show nx (mulR (pw r m) r) b = _
    rw [nx_mul h h1 h2]
    have key : ∀ {c : Int}, 1 ≤ c → c ≤ n → nx (pw r m) c = itr r (m + 1) c := fun c1 c2 => nx_pw h c1 c2 m
    rw [key hm.1 hm.2, show itr r (m + 1 + 1) b = itr r (m + 1) (itr r 1 b) by rw [← itr_add, Nat.add_comm 1 (m + 1)]]
    rfl
theorem roundsR_row' (n : Nat) : IsRow (roundsR n) n := by
  refine ⟨by simp [roundsR], ?_, fun x hx => mem_rounds.mp hx⟩
  unfold roundsR
  rw [List.nodup_iff_pairwise_ne, List.pairwise_map]
  exact List.nodup_range.imp fun h e => h (by omega)
theorem nx_rounds {n : Nat} {b : Int} (h1 : 1 ≤ b) (h2 : b ≤ n) : nx (roundsR n) b = b := by
  unfold nx roundsR
  rw [List.getD_eq_getElem?_getD, List.getElem?_map, List.getElem?_range (by omega)]
  show 1 + (((b - 1).toNat : Nat) : Int) = b
  omega
/-- rows are told by their bells -/
theorem row_ext {x y : List Int} {n : Nat} (hx : IsRow x n) (hy : IsRow y n) (e : ∀ b : Int, 1 ≤ b → b ≤ n → nx x b = nx y b) : x = y := by
  refine List.ext_getElem (hx.1.trans hy.1.symm) fun i h1 h2 => ?_
  have hi : i < n := by rw [← hx.1]; exact h1
  have := e (1 + (i : Int)) (by omega) (by omega)
  unfold nx at this
  rw [show (1 + (i : Int) - 1).toNat = i by omega] at this
  rw [List.getD_eq_getElem?_getD, List.getD_eq_getElem?_getD, List.getElem?_eq_getElem h1, List.getElem?_eq_getElem h2] at this
  exact this
/-- a walk's least bell -/
theorem has_min {r : List Int} {n : Nat} (h : IsRow r n) : ∀ (m : Nat) (b : Int), 1 ≤ b → b ≤ n → b ≤ (m : Int) → ∃ k, isMin r (itr r k b) = true
  | 0, b, h1, _, hm => by omega
  | m + 1, b, h1, h2, hm => by
    by_cases hb : isMin r b = true
    · exact ⟨0, hb⟩
    · have : ∃ k, itr r k b < b := by
        refine Classical.byContradiction fun hc => hb ((isMin_iff h h1 h2).mpr fun k => ?_)
        refine Decidable.byContradiction fun hk => hc ⟨k, by omega⟩
      obtain ⟨k, hk⟩ := this
      have hmem := itr_mem h h1 h2 k
      obtain ⟨j, hj⟩ := has_min h m (itr r k b) hmem.1 hmem.2 (by omega)
      exact ⟨k + j, by rw [itr_add]; exact hj⟩
theorem pw_round {r : List Int} {n : Nat} (h : IsRow r n) (m : Nat) : pw r m = roundsR n ↔ ordL (cyc r) ∣ m + 1 := by
  unfold ordL
  rw [foldl_lcm_dvd]
  constructor
  · intro e
    refine ⟨Nat.one_dvd _, fun c hc => ?_⟩
    obtain ⟨b, h1, h2, _, rfl⟩ := cyc_mem h hc
    rw [orbit_len, ← back_iff h h1 h2, ← nx_pw h h1 h2, e, nx_rounds h1 h2]
  · rintro ⟨_, hd⟩
    refine row_ext (pw_row h m) (roundsR_row' n) fun b h1 h2 => ?_
    rw [nx_pw h h1 h2, nx_rounds h1 h2]
    obtain ⟨k, hk⟩ := has_min h n b h1 h2 h2
    have hm := itr_mem h h1 h2 k
    have hc : orbit r (itr r k b) ∈ cyc r := by
      unfold cyc
      refine List.mem_map.mpr ⟨itr r k b, ?_, rfl⟩
      rw [List.mem_filter, h.1, mem_rounds]
      exact ⟨hm, hk⟩
    have := hd _ hc
    rw [orbit_len, ← back_iff h hm.1 hm.2] at this
    obtain ⟨j, hj⟩ := orbit_symm h h1 h2 (k := k) rfl
    rw [← hj]
    rw [← itr_add, Nat.add_comm, itr_add, this]
/-! ### no order is above 60 up to 12 bells -/
theorem cyc_sum {r : List Int} {n : Nat} (h : IsRow r n) : ((cyc r).map List.length).sum ≤ n := by
  rw [← List.length_flatten]
  refine nodup_le n _ ?_ ?_
  · rw [List.nodup_iff_pairwise_ne, List.pairwise_flatten]
    refine ⟨fun c hc => ?_, ?_⟩
    · obtain ⟨b, h1, h2, _, rfl⟩ := cyc_mem h hc
      exact List.nodup_iff_pairwise_ne.mp (orbit_nodup h h1 h2)
    · unfold cyc
      rw [List.pairwise_map]
      have hlt : (roundsR r.length).Pairwise (· < ·) := by
        unfold roundsR
        rw [List.pairwise_map]
        exact List.pairwise_lt_range.imp fun hab => by omega
      refine (hlt.filter _).imp_of_mem (fun {b c} hb hc hbc x hx y hy e => ?_)
      subst e
      rw [List.mem_filter, h.1, mem_rounds] at hb hc
      obtain ⟨k, hk⟩ := (mem_orbit h hb.1.1 hb.1.2).mp hx
      obtain ⟨k', hk'⟩ := (mem_orbit h hc.1.1 hc.1.2).mp hy
      obtain ⟨j, hj⟩ := orbit_symm h hb.1.1 hb.1.2 hk
      have h3 := (isMin_iff h hc.1.1 hc.1.2).mp hc.2 (k' + j)
      rw [itr_add, hk', hj] at h3
      omega
  · intro x hx
    obtain ⟨c, hc, hxc⟩ := List.mem_flatten.mp hx
    obtain ⟨b, h1, h2, _, rfl⟩ := cyc_mem h hc
    obtain ⟨k, rfl⟩ := (mem_orbit h h1 h2).mp hxc
    exact itr_mem h h1 h2 k
def chk : Nat → Nat → Nat → Bool
  | 0, a, _ => decide (a ≤ 60)
  | f + 1, a, s => decide (a ≤ 60) && (List.range s).all fun l => chk f (Nat.lcm a (l + 1)) (s - (l + 1))
theorem chk_le : ∀ (f a s : Nat), chk f a s = true → a ≤ 60
  | 0, a, s, h => of_decide_eq_true h
  | f + 1, a, s, h => of_decide_eq_true (Bool.and_eq_true_iff.mp h).1
theorem chk_ok : ∀ (cs : List (List Int)) (f a s : Nat), chk f a s = true → (∀ c ∈ cs, 0 < c.length) → (cs.map List.length).sum ≤ s → cs.length ≤ f → cs.foldl (fun a c => Nat.lcm a c.length) a ≤ 60
  | [], f, a, s, h, _, _, _ => chk_le f a s h
  | c :: cs, 0, a, s, h, _, _, hl => by simp at hl
  | c :: cs, f + 1, a, s, h, hp, hs, hl => by
    have hc := hp c List.mem_cons_self
    rw [List.map_cons, List.sum_cons] at hs
    have h2 := (Bool.and_eq_true_iff.mp h).2
    rw [List.all_eq_true] at h2
    have h3 := h2 (c.length - 1) (List.mem_range.mpr (by omega))
    rw [show c.length - 1 + 1 = c.length by omega] at h3
    exact chk_ok cs f _ _ h3 (fun d hd => hp d (List.mem_cons_of_mem _ hd)) (by omega) (by simpa using hl)
theorem chk_mono : ∀ (f a s s' : Nat), s' ≤ s → chk f a s = true → chk f a s' = true
  | 0, _, _, _, _, h => h
  | f + 1, a, s, s', hs, h => by
    have h2 := Bool.and_eq_true_iff.mp h
    refine Bool.and_eq_true_iff.mpr ⟨h2.1, ?_⟩
    rw [List.all_eq_true] at h2 ⊢
    intro l hl
    rw [List.mem_range] at hl
    exact chk_mono f _ _ _ (by omega) (h2.2 l (List.mem_range.mpr (by omega)))
theorem chk12 : chk 12 1 12 = true := by decide +kernel
theorem ord_le {r : List Int} {n : Nat} (h : IsRow r n) (hn : n ≤ 12) : ordL (cyc r) ≤ 60 := by
  have hs := cyc_sum h
  refine chk_ok (cyc r) 12 1 12 chk12 (fun c hc => cyc_pos h c hc) (by omega) ?_
  have : ∀ cs : List (List Int), (∀ c ∈ cs, 0 < c.length) → cs.length ≤ (cs.map List.length).sum := by
    intro cs
    induction cs with
    | nil => intro _; exact Nat.le_refl _
    | cons c cs ih =>
      intro hp
      have h1 := ih fun d hd => hp d (List.mem_cons_of_mem _ hd)
      have h2 := hp c List.mem_cons_self
      rw [List.map_cons, List.sum_cons, List.length_cons]
      omega
  have := this (cyc r) fun c hc => cyc_pos h c hc
  omega
/-! ### crossings -/
def cnt (x : Int) (l : List Int) : Nat := (l.filter fun y => decide (y < x)).length
theorem inv_cons (x : Int) (l : List Int) : inv (x :: l) = cnt x l + inv l := rfl
theorem cnt_append (x : Int) (a b : List Int) : cnt x (a ++ b) = cnt x a + cnt x b := by unfold cnt; rw [List.filter_append, List.length_append]
theorem cnt_cons (x y : Int) (l : List Int) : cnt x (y :: l) = (if y < x then 1 else 0) + cnt x l := by
  unfold cnt
  by_cases h : y < x
  · rw [List.filter_cons_of_pos (by simpa using h), if_pos h, List.length_cons]; omega
  · rw [List.filter_cons_of_neg (by simpa using h), if_neg h]; omega
theorem cnt_perm {x : Int} {a b : List Int} (h : a.Perm b) : cnt x a = cnt x b := (h.filter _).length_eq
theorem inv_adj {a b : Int} (h : a ≠ b) (w : List Int) : ∀ u : List Int, (inv (u ++ a :: b :: w) + inv (u ++ b :: a :: w)) % 2 = 1
  | [] => by
    simp only [List.nil_append, inv_cons, cnt_cons]
    by_cases h1 : a < b
    · rw [if_pos h1, if_neg (by omega : ¬ b < a)]; omega
    · rw [if_neg h1, if_pos (by omega : b < a)]; omega
  | x :: u => by
    have ih := inv_adj h w u
    have e : cnt x (u ++ a :: b :: w) = cnt x (u ++ b :: a :: w) := cnt_perm ((List.Perm.swap b a w).append_left u)
    simp only [List.cons_append, inv_cons, e]
    omega
theorem inv_move {b : Int} (w : List Int) : ∀ (v u : List Int), b ∉ v → inv (u ++ v ++ b :: w) % 2 = (inv (u ++ b :: (v ++ w)) + v.length) % 2
  | [], u, _ => by simp
  | c :: v, u, h => by
    have h1 : c ≠ b := fun e => h (e ▸ List.mem_cons_self)
    have ih := inv_move w v (u ++ [c]) fun hm => h (List.mem_cons_of_mem _ hm)
    have h2 := inv_adj h1 (v ++ w) u
    have e1 : u ++ c :: v ++ b :: w = u ++ [c] ++ v ++ b :: w := by simp
    have e2 : u ++ [c] ++ b :: (v ++ w) = u ++ c :: b :: (v ++ w) := by simp
    rw [e1, ih, e2, List.length_cons, List.cons_append]
    omega
theorem inv_swap {a b : Int} (u v w : List Int) (hab : a ≠ b) (ha : a ∉ v) (hb : b ∉ v) : (inv (u ++ a :: (v ++ b :: w)) + inv (u ++ b :: (v ++ a :: w))) % 2 = 1 := by
  have h1 := inv_move (b := b) w (a :: v) u (fun hm => by
    rcases List.mem_cons.mp hm with e | hm
    · exact hab e.symm
    · exact hb hm)
  have h2 := inv_move (b := a) w v (u ++ [b]) ha
  have e1 : u ++ a :: v ++ b :: w = u ++ a :: (v ++ b :: w) := by simp
  have e2 : u ++ [b] ++ v ++ a :: w = u ++ b :: (v ++ a :: w) := by simp
  have e3 : u ++ [b] ++ a :: (v ++ w) = u ++ b :: (a :: v ++ w) := by simp
  rw [e1, List.length_cons] at h1
  rw [e2, e3] at h2
  omega
theorem inv_perm_map {f : Int → Int} {a b : List Int} (h : a.Perm b) (nd : a.Nodup) (inj : ∀ x ∈ a, ∀ y ∈ a, f x = f y → x = y) : (inv a + inv (a.map f)) % 2 = (inv b + inv (b.map f)) % 2 := by
  induction h with
  | nil => rfl
  | cons x h ih =>
    have := ih (List.nodup_cons.mp nd).2 fun y hy z hz => inj y (List.mem_cons_of_mem _ hy) z (List.mem_cons_of_mem _ hz)
    simp only [List.map_cons, inv_cons, cnt_perm h, cnt_perm (h.map f)]
    omega
  | swap x y l =>
    have hxy : y ≠ x := fun e => by subst e; simp at nd
    have hf : f y ≠ f x := fun e => hxy (inj y List.mem_cons_self x (List.mem_cons_of_mem _ List.mem_cons_self) e)
    have h1 := inv_adj hxy l []
    have h2 := inv_adj hf (l.map f) []
    simp only [List.nil_append] at h1 h2
    simp only [List.map_cons]
    omega
  | trans h1 h2 ih1 ih2 =>
    rw [ih1 nd inj]
    exact ih2 (h1.nodup_iff.mp nd) fun x hx y hy => inj x (h1.mem_iff.mpr hx) y (h1.mem_iff.mpr hy)
theorem inv_sorted : ∀ l : List Int, l.Pairwise (· < ·) → inv l = 0
  | [], _ => rfl
  | x :: l, h => by
    rw [List.pairwise_cons] at h
    rw [inv_cons, inv_sorted l h.2]
    unfold cnt
    rw [Nat.add_zero, List.length_eq_zero_iff, List.filter_eq_nil_iff]
    intro y hy
    have := h.1 y hy
    simp
    omega
theorem rounds_lt (n : Nat) : (roundsR n).Pairwise (· < ·) := by
  unfold roundsR
  rw [List.pairwise_map]
  exact List.pairwise_lt_range.imp fun hab => by omega
theorem row_perm {r : List Int} {n : Nat} (h : IsRow r n) : r.Perm (roundsR n) := by
  rw [List.perm_ext_iff_of_nodup h.2.1 (roundsR_row' n).2.1]
  intro x
  rw [mem_rounds]
  exact ⟨h.2.2 x, fun hx => row_mem h hx.1 hx.2⟩
theorem map_rounds {x : List Int} {n : Nat} (hx : IsRow x n) : (roundsR n).map (nx x) = x := by
  refine List.ext_getElem (by rw [List.length_map, hx.1]; simp [roundsR]) fun i h1 h2 => ?_
  have hi : i < n := by rw [← hx.1]; exact h2
  rw [List.getElem_map]
  unfold roundsR nx
  rw [List.getElem_map, List.getElem_range, show (1 + (i : Int) - 1).toNat = i by omega, List.getD_eq_getElem?_getD, List.getElem?_eq_getElem h2]
  rfl
theorem inv_mul {x y : List Int} {n : Nat} (hx : IsRow x n) (hy : IsRow y n) : inv (mulR x y) % 2 = (inv x + inv y) % 2 := by
  have h := inv_perm_map (f := nx x) (row_perm hy) hy.2.1 (fun a ha b hb e => by
    have h1 := hy.2.2 a ha
    have h2 := hy.2.2 b hb
    exact nx_inj hx h1.1 h1.2 h2.1 h2.2 e)
  rw [map_rounds hx, inv_sorted _ (rounds_lt n)] at h
  have e : mulR x y = y.map (nx x) := rfl
  rw [e]
  omega
/-! ### walks when the greatest bell is taken out -/
section
variable {r r' : List Int} {n : Nat} (h : IsRow r (n + 1)) (h' : IsRow r' n) (hrel : ∀ b : Int, 1 ≤ b → b ≤ n → nx r' b = if nx r b = (n : Int) + 1 then nx r ((n : Int) + 1) else nx r b)
include h h' hrel
theorem out_fwd {b : Int} (h1 : 1 ≤ b) (h2 : b ≤ n) : ∀ k, ∃ j, itr r' k b = itr r j b
  | 0 => ⟨0, rfl⟩
  | k + 1 => by
    obtain ⟨j, hj⟩ := out_fwd h1 h2 k
    have hm := itr_mem h' h1 h2 k
    have e := hrel _ hm.1 hm.2
    show ∃ j, nx r' (itr r' k b) = itr r j b
    rw [e]
    by_cases hc : nx r (itr r' k b) = (n : Int) + 1
    · rw [if_pos hc]
      refine ⟨j + 2, ?_⟩
      show _ = nx r (nx r (itr r j b))
      rw [← hj, hc]
    · rw [if_neg hc]
      refine ⟨j + 1, ?_⟩
      show _ = nx r (itr r j b)
      rw [hj]
theorem out_back {b : Int} (h1 : 1 ≤ b) (h2 : b ≤ n) : ∀ k, (∃ j, itr r' j b = itr r k b) ∨ (itr r k b = (n : Int) + 1 ∧ ∃ j, itr r' j b = nx r ((n : Int) + 1))
  | 0 => .inl ⟨0, rfl⟩
  | k + 1 => by
    rcases out_back h1 h2 k with ⟨j, hj⟩ | ⟨he, j, hj⟩
    · have hm := itr_mem h' h1 h2 j
      have e := hrel _ hm.1 hm.2
      by_cases hc : nx r (itr r' j b) = (n : Int) + 1
      · rw [if_pos hc] at e
        refine .inr ⟨?_, j + 1, e⟩
        show nx r (itr r k b) = _
        rw [← hj, hc]
      · rw [if_neg hc] at e
        refine .inl ⟨j + 1, ?_⟩
        show nx r' (itr r' j b) = nx r (itr r k b)
        rw [e, hj]
    · refine .inl ⟨j, ?_⟩
      show _ = nx r (itr r k b)
      rw [he, hj]
theorem out_min {b : Int} (h1 : 1 ≤ b) (h2 : b ≤ n) : isMin r b = isMin r' b := by
  have i1 := isMin_iff h h1 (by omega : b ≤ ((n + 1 : Nat) : Int))
  have i2 := isMin_iff h' h1 h2
  rw [Bool.eq_iff_iff, i1, i2]
  constructor
  · intro q k
    obtain ⟨j, hj⟩ := out_fwd h h' hrel h1 h2 k
    rw [hj]
    exact q j
  · intro q k
    rcases out_back h h' hrel h1 h2 k with ⟨j, hj⟩ | ⟨he, _⟩
    · rw [← hj]
      exact q j
    · omega
theorem out_cyc : (cyc r).length = (cyc r').length + (if nx r ((n : Int) + 1) = (n : Int) + 1 then 1 else 0) := by
  unfold cyc
  rw [List.length_map, List.length_map, h.1, h'.1]
  have e1 : roundsR (n + 1) = roundsR n ++ [1 + (n : Int)] := by
    unfold roundsR
    rw [List.range_succ, List.map_append]
    rfl
  have e2 : (roundsR n).filter (isMin r) = (roundsR n).filter (isMin r') := List.filter_congr fun b hb => by
    have := mem_rounds.mp hb
    exact out_min h h' hrel this.1 this.2
  rw [e1, List.filter_append, List.length_append, e2]
  congr 1
  have hn1 : (1 : Int) ≤ 1 + (n : Int) := by omega
  have hn2 : 1 + (n : Int) ≤ ((n + 1 : Nat) : Int) := by omega
  have hi := isMin_iff h hn1 hn2
  have ec : (1 : Int) + (n : Int) = (n : Int) + 1 := by omega
  by_cases hc : nx r ((n : Int) + 1) = (n : Int) + 1
  · rw [if_pos hc]
    have hall : ∀ k, itr r k (1 + (n : Int)) = 1 + (n : Int) := by
      intro k
      induction k with
      | zero => rfl
      | succ k ih =>
        show nx r (itr r k (1 + (n : Int))) = _
        rw [ih, ec]
        exact hc
    have : isMin r (1 + (n : Int)) = true := hi.mpr fun k => by rw [hall k]; exact Int.le_refl _
    rw [List.filter_cons_of_pos this]
    rfl
  · rw [if_neg hc]
    have : ¬ isMin r (1 + (n : Int)) = true := fun hm => by
      have h3 := hi.mp hm 1
      have h4 := nx_mem h hn1 hn2
      have e : itr r 1 (1 + (n : Int)) = nx r (1 + (n : Int)) := rfl
      rw [e] at h3
      refine hc ?_
      rw [← ec]
      omega
    rw [List.filter_cons_of_neg this]
    rfl
end
theorem nx_append {u w : List Int} {x : Int} {b : Int} (h1 : 1 ≤ b) : nx (u ++ x :: w) b = if (b - 1).toNat < u.length then nx u b else if (b - 1).toNat = u.length then x else w.getD ((b - 1).toNat - u.length - 1) 0 := by
  unfold nx
  rw [List.getD_eq_getElem?_getD, List.getElem?_append]
  by_cases h : (b - 1).toNat < u.length
  · rw [if_pos h, if_pos h, List.getD_eq_getElem?_getD]
  · rw [if_neg h, if_neg h]
    by_cases he : (b - 1).toNat = u.length
    · rw [if_pos he, he, Nat.sub_self]
      rfl
    · rw [if_neg he, List.getD_eq_getElem?_getD]
      obtain ⟨m, hm⟩ : ∃ m, (b - 1).toNat - u.length = m + 1 := ⟨(b - 1).toNat - u.length - 1, by omega⟩
      rw [hm]
      rfl
theorem parity_eq : ∀ {n : Nat} {r : List Int}, IsRow r n → ((n : Int) - ((cyc r).length : Int)) % 2 = (inv r : Int) % 2
  | 0, r, h => by
    have : r = [] := List.length_eq_zero_iff.mp h.1
    subst this
    rfl
  | n + 1, r, h => by
    have hm : ((n : Int) + 1) ∈ r := row_mem h (by omega) (by omega)
    obtain ⟨u, v, rfl⟩ := List.append_of_mem hm
    have hlen := h.1
    rw [List.length_append, List.length_cons] at hlen
    have nd := h.2.1
    rw [List.nodup_append] at nd
    obtain ⟨ndu, ndv, huv⟩ := nd
    rw [List.nodup_cons] at ndv
    have hbu : ∀ x ∈ u, 1 ≤ x ∧ x ≤ (n : Int) := fun x hx => by
      have := h.2.2 x (List.mem_append_left _ hx)
      have h3 : x ≠ (n : Int) + 1 := huv x hx _ List.mem_cons_self
      omega
    have hbv : ∀ x ∈ v, 1 ≤ x ∧ x ≤ (n : Int) := fun x hx => by
      have := h.2.2 x (List.mem_append_right _ (List.mem_cons_of_mem _ hx))
      have h3 : x ≠ (n : Int) + 1 := fun e => ndv.1 (e ▸ hx)
      omega
    rcases List.eq_nil_or_concat v with rfl | ⟨v, q, rfl⟩
    · -- the greatest bell is last
      have hul : u.length = n := by simpa using hlen
      have h' : IsRow u n := ⟨hul, ndu, hbu⟩
      have hq : nx (u ++ [(n : Int) + 1]) ((n : Int) + 1) = (n : Int) + 1 := by
        rw [nx_append (by omega), if_neg (by omega), if_pos (by omega)]
      have hrel : ∀ b : Int, 1 ≤ b → b ≤ n → nx u b = if nx (u ++ [(n : Int) + 1]) b = (n : Int) + 1 then nx (u ++ [(n : Int) + 1]) ((n : Int) + 1) else nx (u ++ [(n : Int) + 1]) b := by
        intro b h1 h2
        have e : nx (u ++ [(n : Int) + 1]) b = nx u b := by rw [nx_append h1, if_pos (by omega)]
        rw [e, if_neg (by have := nx_mem h' h1 h2; omega)]
      have hc := out_cyc h h' hrel
      rw [if_pos hq] at hc
      have ih := parity_eq h'
      have hi : inv (u ++ [(n : Int) + 1]) = inv u := by
        clear hc ih hrel hq h' hul huv hlen h hm
        induction u with
        | nil => rfl
        | cons x u ihu =>
          rw [List.cons_append, inv_cons, inv_cons, ihu (List.nodup_cons.mp ndu).2 fun y hy => hbu y (List.mem_cons_of_mem _ hy), cnt_append, cnt_cons, if_neg (by have := hbu x List.mem_cons_self; omega)]
          rfl
      rw [hi, hc]
      omega
    · rw [List.concat_eq_append] at *
      have hvl : u.length + 1 + v.length = n := by rw [List.length_append, List.length_singleton] at hlen; omega
      have ndq := ndv.2
      rw [List.nodup_append] at ndq
      have hqv : q ∉ v := fun hx => ndq.2.2 q hx q List.mem_cons_self rfl
      have hqb := hbv q (List.mem_append_right _ List.mem_cons_self)
      have h' : IsRow (u ++ q :: v) n := by
        refine ⟨by rw [List.length_append, List.length_cons]; omega, ?_, ?_⟩
        · rw [List.nodup_append]
          refine ⟨ndu, List.nodup_cons.mpr ⟨hqv, ndq.1⟩, fun a ha b hb => ?_⟩
          refine huv a ha b (List.mem_cons_of_mem _ ?_)
          rcases List.mem_cons.mp hb with rfl | hb
          · exact List.mem_append_right _ List.mem_cons_self
          · exact List.mem_append_left _ hb
        · intro x hx
          rcases List.mem_append.mp hx with hx | hx
          · exact hbu x hx
          · rcases List.mem_cons.mp hx with rfl | hx
            · exact hqb
            · exact hbv x (List.mem_append_left _ hx)
      have hq : nx (u ++ ((n : Int) + 1) :: (v ++ [q])) ((n : Int) + 1) = q := by
        rw [nx_append (by omega), if_neg (by omega), if_neg (by omega), List.getD_eq_getElem?_getD, List.getElem?_append_right (by omega)]
        rw [show ((n : Int) + 1 - 1).toNat - u.length - 1 - v.length = 0 by omega]
        rfl
      have hrel : ∀ b : Int, 1 ≤ b → b ≤ n → nx (u ++ q :: v) b = if nx (u ++ ((n : Int) + 1) :: (v ++ [q])) b = (n : Int) + 1 then nx (u ++ ((n : Int) + 1) :: (v ++ [q])) ((n : Int) + 1) else nx (u ++ ((n : Int) + 1) :: (v ++ [q])) b := by
        intro b h1 h2
        rw [hq]
        have hb := nx_mem h' h1 h2
        rw [nx_append h1] at hb ⊢
        rw [nx_append h1]
        by_cases hc : (b - 1).toNat < u.length
        · rw [if_pos hc] at hb ⊢
          rw [if_pos hc, if_neg (by omega)]
        · rw [if_neg hc] at hb ⊢
          rw [if_neg hc]
          by_cases he : (b - 1).toNat = u.length
          · rw [if_pos he, if_pos he, if_pos rfl]
          · rw [if_neg he] at hb ⊢
            rw [if_neg he]
            have e : (v ++ [q]).getD ((b - 1).toNat - u.length - 1) 0 = v.getD ((b - 1).toNat - u.length - 1) 0 := by
              rw [List.getD_eq_getElem?_getD, List.getElem?_append_left (by omega), List.getD_eq_getElem?_getD]
            rw [e, if_neg (by omega)]
      have hc := out_cyc h h' hrel
      rw [hq, if_neg (by omega)] at hc
      have ih := parity_eq h'
      have hs := inv_swap (a := (n : Int) + 1) (b := q) u v [] (by omega) (fun hx => ndv.1 (List.mem_append_left _ hx)) hqv
      have hi : inv (u ++ q :: (v ++ [(n : Int) + 1])) = inv (u ++ q :: v) := by
        have key : ∀ l : List Int, (∀ x ∈ l, x ≤ (n : Int)) → inv (l ++ [(n : Int) + 1]) = inv l := by
          intro l
          induction l with
          | nil => intro _; rfl
          | cons x l ihl =>
            intro hx
            rw [List.cons_append, inv_cons, inv_cons, ihl fun y hy => hx y (List.mem_cons_of_mem _ hy), cnt_append, cnt_cons, if_neg (by have := hx x List.mem_cons_self; omega)]
            rfl
        have := key (u ++ q :: v) fun x hx => (h'.2.2 x hx).2
        rw [← this]
        simp
      rw [hi] at hs
      rw [hc]
      omega
end Kb

set_option Elab.async false
set_option linter.all false
set_option maxRecDepth 100000
set_option maxHeartbeats 4000000
namespace Kb
open PySem PySem.Spec PyProof.Rows L2
/-! the tactics: rd walks a reading; tk closes a fact about a heap from those ahead of it -/
local macro_rules | `(tactic| walk_at "tk") => `(tactic| first
  | assumption
  | ((with_reducible refine' sqT_of ?k); (case k => assumption))
  | ((with_reducible refine' sqT_ofD ?k); (case k => assumption))
  | ((with_reducible refine' noD_of ?k); (case k => assumption))
  | ((with_reducible refine' noD_same ?s ?k); (case s => assumption); (case k => walk_at "tk"))
  | ((with_reducible refine' sqL_of ?k); (case k => assumption))
  | ((with_reducible refine' sqT_same ?s ?k); (case s => assumption); (case k => walk_at "tk"))
  | ((with_reducible refine' sqL_same ?s ?k); (case s => assumption); (case k => walk_at "tk"))
  | ((with_reducible refine' sqT_but ?s ?t ?k); (case s => assumption); (case t => walk_at "tk"); (case k => walk_at "tk"))
  | ((with_reducible refine' sqL_but ?s ?t ?k); (case s => assumption); (case t => walk_at "ne"); (case k => walk_at "tk"))
  | ((with_reducible refine' sqL_of ?k); (case k => walk_at "tk"))
  | ((with_reducible refine' sqT_of ?k); (case k => walk_at "tk"))
  | ((with_reducible refine' at_same ?s ?k); (case s => assumption); (case k => walk_at "tk"))
  | ((with_reducible refine' at_but ?s ?t ?k); (case s => assumption); (case t => walk_at "ne"); (case k => walk_at "tk")))
local macro_rules | `(tactic| walk_at "ne") => `(tactic| first
  | assumption
  | (refine Ne.symm ?_; assumption)
  | exact ne_of_none (by assumption) (by assumption)
  | exact (ne_of_none (by assumption) (by assumption)).symm)
local macro_rules | `(tactic| walk_at "side") => `(tactic| first
  | assumption
  | omega
  | (simp only [sizeLine_eq, List.length_cons, List.length_nil, List.length_map]; omega)
  | (show _ ≤ sizeLine; decide))
local macro_rules | `(tactic| walk_at "kit") => `(tactic| first
  | (show kitB _ _ = some true; decide +kernel)
  | (show kitB _ _ = some false; decide +kernel))
local macro_rules | `(tactic| walk_at "rng") => `(tactic| first
  | (refine ⟨by omega, by omega, by omega, by omega⟩)
  | (refine ⟨by omega, by omega⟩)
  | ((simp only [List.length_map]); (refine ⟨by omega, by omega, by omega, by omega⟩))
  | ((simp only [List.length_map]); (refine ⟨by omega, by omega⟩)))
local macro_rules | `(tactic| walk_at "rd1") => `(tactic| first
  | with_reducible refine r_seq ?_
  | ((with_reducible refine' r_var ?k0 ?_); (case k0 => rfl))
  | with_reducible refine r_op ?_
  | with_reducible refine r_c ?_
  | with_reducible refine r_asg ?_
  | with_reducible refine r_name ?_
  | with_reducible refine r_cons ?_
  | with_reducible refine r_nil ?_
  | with_reducible refine r_CB ?_
  | with_reducible refine r_if ?_
  | with_reducible refine r_test ?_
  | with_reducible refine r_k ?_
  | with_reducible refine r_T ?_
  | with_reducible refine r_F ?_
  | with_reducible refine r_nT ?_
  | with_reducible refine r_nF ?_
  | with_reducible refine r_ret ?_
  | with_reducible refine r_drop ?_
  | with_reducible refine r_next ?_
  | with_reducible refine r_call ?_
  | with_reducible refine r_addI ?_
  | with_reducible refine r_subI ?_
  | with_reducible refine r_ltI ?_
  | with_reducible refine r_gtI ?_
  | with_reducible refine r_leI ?_
  | with_reducible refine r_geI ?_
  | with_reducible refine r_eqI ?_
  | with_reducible refine r_neI ?_
  | with_reducible refine r_int ?_
  | with_reducible refine r_abs ?_
  | with_reducible refine r_not ?_
  | with_reducible refine r_and ?_
  | with_reducible refine r_or ?_
  | with_reducible refine r_tru ?_
  | with_reducible refine r_truB ?_
  | with_reducible refine r_lst ?_
  | with_reducible refine r_tup ?_
  | with_reducible refine r_BM ?_
  | with_reducible refine r_BM0 ?_
  | with_reducible refine r_tyS ?_
  | with_reducible refine r_gsub ?_
  | with_reducible refine r_then ?_
  | with_reducible refine r_lstRg ?_
  | with_reducible refine r_tupRg ?_
  | with_reducible refine r_rg2 ?_
  | with_reducible refine r_rg1 ?_
  | with_reducible refine r_ii ?_
  | with_reducible refine r_i ?_
  | with_reducible refine r_ipI ?_
  | with_reducible refine r_un ?_
  | with_reducible refine r_neg ?_
  | with_reducible refine r_isN ?_
  | with_reducible refine r_notN ?_
  | with_reducible refine r_notV ?_
  | with_reducible refine r_pnot ?_
  | with_reducible refine r_pif ?_
  | with_reducible refine r_andV ?_
  | with_reducible refine r_orV ?_
  | with_reducible refine r_ifE ?_
  | with_reducible refine r_chain ?_
  | with_reducible refine r_sl ?_
  | with_reducible refine r_noPart ?_
  | with_reducible refine r_part ?_
  | with_reducible refine r_brk ?_
  | with_reducible refine r_cont ?_
  | with_reducible refine r_retN ?_
  | with_reducible refine r_truI ?_
  | with_reducible refine r_B ?_
  | with_reducible refine r_for ?_
  | with_reducible refine r_rng1 ?_
  | with_reducible refine r_rng2 ?_
  | with_reducible refine r_rng3 ?_
  | with_reducible refine r_body ?_
  | with_reducible refine r_lc ?_
  | with_reducible refine r_yes ?_
  | ((with_reducible refine' r_mod ?k0 ?_); (case k0 => walk_at "side"))
  | ((with_reducible refine' r_mulI ?k0 ?_); (case k0 => first | exact Or.inl ⟨by omega, by omega⟩ | exact Or.inr ⟨by omega, by omega⟩))
  | ((with_reducible refine' r_lenL ?k0 ?_); (case k0 => walk_at "tk"))
  | ((with_reducible refine' r_lenT ?k0 ?_); (case k0 => walk_at "tk"))
  | ((with_reducible refine' r_truL ?k0 ?_); (case k0 => walk_at "tk"))
  | ((with_reducible refine' r_truT ?k0 ?_); (case k0 => walk_at "tk"))
  | ((with_reducible refine' r_ixL ?k0 ?k1 ?_); (case k0 => walk_at "tk"); (case k1 => first | assumption | rfl))
  | ((with_reducible refine' r_ixT ?k0 ?k1 ?_); (case k0 => walk_at "tk"); (case k1 => first | assumption | rfl))
  | ((with_reducible refine' r_new ?k0 ?_); (case k0 => walk_at "side"))
  | ((with_reducible refine' r_tyL ?k0 ?_); (case k0 => walk_at "tk"))
  | ((with_reducible refine' r_append ?k0 ?k1 ?_); (case k0 => walk_at "tk"); (case k1 => walk_at "side"))
  | ((with_reducible refine' r_setL ?k0 ?k1 ?_); (case k0 => walk_at "tk"); (case k1 => first | assumption | rfl))
  | ((with_reducible refine' r_kTupL ?k0 ?_); (case k0 => walk_at "tk"))
  | ((with_reducible refine' r_kTupT ?k0 ?_); (case k0 => walk_at "tk"))
  | ((with_reducible refine' r_listL ?k0 ?_); (case k0 => walk_at "tk"))
  | ((with_reducible refine' r_listT ?k0 ?_); (case k0 => walk_at "tk"))
  | ((with_reducible refine' r_aug ?k0 ?_); (case k0 => rfl))
  | ((with_reducible refine' r_lenS ?k0 ?_); (case k0 => walk_at "side"))
  | ((with_reducible refine' r_pop ?k0 ?_); (case k0 => walk_at "tk"))
  | ((with_reducible refine' r_pr1 ?k0 ?_); (case k0 => walk_at "rng"))
  | ((with_reducible refine' r_pr2 ?k0 ?_); (case k0 => walk_at "rng"))
  | ((with_reducible refine' r_pr3d ?k0 ?_); (case k0 => walk_at "rng"))
  | ((with_reducible refine' r_isiI ?k0 ?_); (case k0 => walk_at "kit"))
  | ((with_reducible refine' r_isiB ?k0 ?_); (case k0 => walk_at "kit"))
  | ((with_reducible refine' r_isiS ?k0 ?_); (case k0 => walk_at "kit"))
  | ((with_reducible refine' r_isiN ?k0 ?_); (case k0 => walk_at "kit"))
  | ((with_reducible refine' r_isiT ?k0 ?k1 ?_); (case k0 => walk_at "tk"); (case k1 => walk_at "kit"))
  | ((with_reducible refine r_seqT ?_); (repeat (walk_at "rd1")); ((with_reducible refine' r_pseqT ?k0 ?_); (case k0 => walk_at "tk")))
  | ((with_reducible refine r_seqL ?_); (repeat (walk_at "rd1")); ((with_reducible refine' r_pseqL ?k0 ?_); (case k0 => walk_at "tk")))
  | ((with_reducible refine r_seqS ?_); (repeat (walk_at "rd1")); (with_reducible refine r_pseqS ?_)))
local macro_rules | `(tactic| walk_at "rd") => `(tactic| ((repeat (walk_at "rd1")); (try dsimp only)))


/-! ### comprehensions over ints -/
section
variable {K : PySem.W.Frag} {σ : L2.St} {H : Hp} {te : TE} {tt : TT} {j : Nat} {vs : List Nat} {Q : VK} {a : Addr} {ns : List Int}
theorem filter_take {p : Int → Bool} {f : Int → Int} {i : Nat} {x : Int} (h : ns[i]? = some x) : ((ns.take (i + 1)).filter p).map (fun y => V.int (f y)) = ((ns.take i).filter p).map (fun y => V.int (f y)) ++ (if p x = true then [V.int (f x)] else []) := by
  rw [List.take_add_one, h, List.filter_append, List.map_append]
  congr 1
  show List.map _ (List.filter p [x]) = _
  by_cases hp : p x = true
  · rw [List.filter_cons_of_pos hp, if_pos hp]; rfl
  · rw [List.filter_cons_of_neg hp, if_neg hp]; rfl
theorem r_lcLf (p : Int → Bool) (f : Int → Int) (hx : SqL K H a (ns.map V.int)) (hz : ns.length ≤ 1000000) (hw : ∀ x, wipe ((wipe σ vs).set j (some x)) vs = wipe σ vs)
    (ht : ∀ x H1 (QB : Bool → Hp → Prop), x ∈ ns → Same H H1 → QB (p x) H1 → tt ((wipe σ vs).set j (some (.int x))) H1 QB)
    (he : ∀ x H1 (Q' : VK), x ∈ ns → Same H H1 → p x = true → Q' (.int (f x)) H1 → te ((wipe σ vs).set j (some (.int x))) H1 Q')
    (hd : ∀ q H', H q = none → Same H H' → H' q = some (.lst ((ns.filter p).map fun y => V.int (f y))) → Q (.ref q) H') : PLc (Itl K a) (gName j) tt te vs σ H Q := by
  refine r_lcL (xs := ns.map V.int) (fun D i H' => H D = none ∧ Same H H' ∧ H' D = some (.lst (((ns.take i).filter p).map fun y => V.int (f y)))) hw (fun D H' hD s e => ⟨hD, s, by rw [e]; rfl⟩) (fun D i H' q => sqL_same q.2.1 hx) (fun D i x H' hi q => ?_) (fun D H' hD q => ?_)
  · obtain ⟨hD, s, e⟩ := q
    rw [List.getElem?_map] at hi
    obtain ⟨y, hy, rfl⟩ := Option.map_eq_some_iff.mp hi
    have hm := List.mem_of_getElem? hy
    refine ht y H' _ hm s ?_
    by_cases hp : p y = true
    · rw [hp]
      refine r_T ?_
      refine he y H' _ hm s hp ?_
      refine r_acc e ?_ (fun H5 b5 e5 => ⟨hD, same_but s b5 hD, ?_⟩)
      · rw [List.length_map]
        have h1 := List.length_filter_le p (ns.take i)
        have h2 := List.length_take_le i ns
        have h3 : (ns.take i).length ≤ ns.length := by rw [List.length_take]; omega
        omega
      · rw [e5, filter_take hy, if_pos hp]
    · rw [Bool.eq_false_iff.mpr hp]
      refine r_F ⟨hD, s, ?_⟩
      rw [e, filter_take hy, if_neg hp, List.append_nil]
  · obtain ⟨_, s, e⟩ := q
    rw [List.length_map, List.take_length] at e
    exact hd D H' hD s e
theorem r_lcTf (p : Int → Bool) (f : Int → Int) (hx : SqT K H a (ns.map V.int)) (hz : ns.length ≤ 1000000) (hw : ∀ x, wipe ((wipe σ vs).set j (some x)) vs = wipe σ vs)
    (ht : ∀ x H1 (QB : Bool → Hp → Prop), x ∈ ns → Same H H1 → QB (p x) H1 → tt ((wipe σ vs).set j (some (.int x))) H1 QB)
    (he : ∀ x H1 (Q' : VK), x ∈ ns → Same H H1 → p x = true → Q' (.int (f x)) H1 → te ((wipe σ vs).set j (some (.int x))) H1 Q')
    (hd : ∀ q H', H q = none → Same H H' → H' q = some (.lst ((ns.filter p).map fun y => V.int (f y))) → Q (.ref q) H') : PLc (Itt K a) (gName j) tt te vs σ H Q := by
  refine r_lcT (xs := ns.map V.int) (fun D i H' => H D = none ∧ Same H H' ∧ H' D = some (.lst (((ns.take i).filter p).map fun y => V.int (f y)))) hw (fun D H' hD s e => ⟨hD, s, by rw [e]; rfl⟩) (fun D i H' q => sqT_same q.2.1 hx) (fun D i x H' hi q => ?_) (fun D H' hD q => ?_)
  · obtain ⟨hD, s, e⟩ := q
    rw [List.getElem?_map] at hi
    obtain ⟨y, hy, rfl⟩ := Option.map_eq_some_iff.mp hi
    have hm := List.mem_of_getElem? hy
    refine ht y H' _ hm s ?_
    by_cases hp : p y = true
    · rw [hp]
      refine r_T ?_
      refine he y H' _ hm s hp ?_
      refine r_acc e ?_ (fun H5 b5 e5 => ⟨hD, same_but s b5 hD, ?_⟩)
      · rw [List.length_map]
        have h1 := List.length_filter_le p (ns.take i)
        have h3 : (ns.take i).length ≤ ns.length := by rw [List.length_take]; omega
        omega
      · rw [e5, filter_take hy, if_pos hp]
    · rw [Bool.eq_false_iff.mpr hp]
      refine r_F ⟨hD, s, ?_⟩
      rw [e, filter_take hy, if_neg hp, List.append_nil]
  · obtain ⟨_, s, e⟩ := q
    rw [List.length_map, List.take_length] at e
    exact hd D H' hD s e
end
/-! ### tuples of ints compared -/
theorem eqvAll_ints : ∀ ns ms : List Int, PyData.eqvAll (ns.map PyData.int) (ms.map PyData.int) = decide (ns = ms)
  | [], [] => by simp [PyData.eqvAll]
  | [], _ :: _ => by simp [PyData.eqvAll]
  | _ :: _, [] => by simp [PyData.eqvAll]
  | a :: r, b :: t => by
    simp only [List.map_cons, PyData.eqvAll, PyData.eqv, eqvAll_ints r t]
    by_cases h : a = b <;> by_cases h' : r = t <;> simp [h, h']
theorem shaped_ints (ns : List Int) : SeqAt.shaped (.tuple (ns.map PyData.int)) = true := by
  simp [SeqAt.shaped, PyData.canLay0, PyData.depth, PySem.W.ke_canLayAll0, PySem.W.ke_depthAll]
section
variable {K : PySem.W.Frag} {H : Hp} {Q : VK} {a b : Addr} {ns ms : List Int}
theorem dpAll_ints : ∀ ns : List Int, DpAll K H (ns.map V.int) (ns.map PyData.int)
  | [] => .nil
  | n :: r => .cons (.int n) (dpAll_ints r)
theorem r_neT (h1 : SqT K H a (ns.map V.int)) (h2 : SqT K H b (ms.map V.int)) (q : Q (.bl (!decide (ns = ms))) H) : rNeU K (.ref a) (.ref b) H Q :=
  .inr ⟨_, _, .tup h1 (dpAll_ints ns), .tup h2 (dpAll_ints ms), shaped_ints ns, shaped_ints ms, by
    show Q (.bl (!PyData.eqvAll _ _)) H
    rw [eqvAll_ints]; exact q⟩
theorem r_eqT (h1 : SqT K H a (ns.map V.int)) (h2 : SqT K H b (ms.map V.int)) (q : Q (.bl (decide (ns = ms))) H) : rEqU K (.ref a) (.ref b) H Q :=
  .inr ⟨_, _, .tup h1 (dpAll_ints ns), .tup h2 (dpAll_ints ms), shaped_ints ns, shaped_ints ms, by
    show Q (.bl (PyData.eqvAll _ _)) H
    rw [eqvAll_ints]; exact q⟩
end
/-! ### slices of tuples -/
section
variable {K : PySem.W.Frag} {H : Hp} {Q : VK} {a : Addr} {xs : List V}
theorem cutV_drop (xs : List V) (k : Nat) : cutV xs (some (k : Int)) none = xs.drop k := by
  unfold cutV
  rw [HT.sIx_nat, HT.sIx_none]
  by_cases h : k ≤ xs.length
  · rw [Nat.min_eq_left h, List.take_of_length_le (by rw [List.length_drop]; omega)]
  · rw [Nat.min_eq_right (by omega), List.drop_eq_nil_of_le (by omega : xs.length ≤ k), List.drop_length]; simp
/-- t[k:] of a tuple, k > 0, the tuple not empty: a new tuple -/
theorem r_slDrop {k : Nat} {m : Int} (h : SqT K H a xs) (e : m = (k : Int)) (hk : 0 < k) (hx : 0 < xs.length) (q : ∀ p H', H p = none → Same H H' → H' p = some (.tup (xs.drop k)) → Q (.ref p) H') : rSlU K (.ref a) (some m) none H Q := by
  subst e
  refine .inr (.inl ⟨a, xs, rfl, h, fun z => ?_, fun _ p hp => ?_⟩)
  · rw [HT.sIx_nat] at z
    have := z.1
    omega
  · rw [cutV_drop]
    exact q p _ hp (same_new hp) upd_same
end
/-! ### rows -/
theorem atI_row {r : List Int} {n : Nat} (h : IsRow r n) {b : Int} (h1 : 1 ≤ b) (h2 : b ≤ n) : atI (r.map V.int) (b - 1) = some (.int (r.getD (b - 1).toNat 0)) := by
  have hl : (b - 1).toNat < r.length := by rw [h.1]; omega
  have e : (((b - 1).toNat : Nat) : Int) = b - 1 := by omega
  have h4 := atI_nat (xs := r.map V.int) (j := (b - 1).toNat) (v := .int (r.getD (b - 1).toNat 0)) (by rw [List.getElem?_map, List.getElem?_eq_getElem hl, List.getD_eq_getElem?_getD, List.getElem?_eq_getElem hl]; rfl)
  rw [e] at h4
  exact h4
/-- a promise that gives a row -/
def sp_law_rounds (K : PySem.W.Frag) : Sp := fun vs H Q _ => ∃ n : Nat, vs = [.int (n : Int)] ∧ n ≤ 1000 ∧ ∀ p H', H p = none → Same H H' → SqT K H' p ((roundsR n).map V.int) → NoD H' p → Q (.ref p) H'
def sp_law_times (K : PySem.W.Frag) : Sp := fun vs H Q _ => ∃ (a b : Addr) (x y : List Int) (n : Nat), vs = [.ref a, .ref b] ∧ SqT K H a (x.map V.int) ∧ SqT K H b (y.map V.int) ∧ IsRow x n ∧ IsRow y n ∧ n ≤ 1000 ∧ ∀ p H', H p = none → Same H H' → SqT K H' p ((mulR x y).map V.int) → NoD H' p → Q (.ref p) H'
def sp_law_row_draw (K : PySem.W.Frag) : Sp := fun vs H Q _ => ∃ (p : Addr) (n : Nat), vs = [.ref p, .int (n : Int)] ∧ Pl H p ∧ n ≤ 1000 ∧ ∀ a H' r, H a = none → But p H H' → Pl H' p → SqT K H' a (r.map V.int) → IsRow r n → NoD H' a → Q (.ref a) H'
abbrev N_law_rounds : List Str := ["stage"]
def t_law_rounds (K : PySem.W.Frag) : TS :=
  (tRet ((tThen ((tLstRg (tRg2 ((tC (.int 1))) ((tOp (rAddU K) (tVar 0) ((tC (.int 1)))))))) (kTupD K))))

abbrev N_law_times : List Str := ["first", "second", "bell"]
def t_law_times (K : PySem.W.Frag) : TS :=
  (tRet ((tThen ((tLc ((iSeqU K (tVar 1))) ((gName 2)) (tYes) ((tOp (rIx K) (tVar 0) ((tOp rSubU (tVar 2) ((tC (.int 1))))))) [2])) (kTupD K))))

abbrev N_law_row_draw : List Str := ["pool", "stage", "left", "out", "k"]
def t_law_row_draw (K : PySem.W.Frag) : TS :=
  tSeq (tAsg ((tLstRg (tRg2 ((tC (.int 1))) ((tOp (rAddU K) (tVar 1) ((tC (.int 1)))))))) (gName 2))
  (tSeq (tAsg ((tLst tNil)) (gName 3))
  (tSeq (tFor (iRng1 (tCons (tVar 1) tNil)) (gName 4) ((tDrop ((tBM K "list" rAppend (tVar 3) (tCons ((tBM K "list" rPopAt (tVar 2) (tCons ((tCall (sp_law_draw K) [] E0 (tCons (tVar 0) (tCons ((tCB (rLenU K) (tCons (tVar 2) tNil))) tNil)))) tNil))) tNil))))))
  ((tRet ((tThen (tVar 3) (kTupD K)))))))


section
variable {K : PySem.W.Frag} {vs : List V} {H : Hp} {Q : VK} {E : XK}
theorem len_law_rounds (h : sp_law_rounds K vs H Q E) : vs.length = 1 := by
  obtain ⟨n, rfl, _⟩ := h; rfl
theorem len_law_times (h : sp_law_times K vs H Q E) : vs.length = 2 := by
  obtain ⟨a, b, x, y, n, rfl, _⟩ := h; rfl
theorem len_law_row_draw (h : sp_law_row_draw K vs H Q E) : vs.length = 2 := by
  obtain ⟨p, n, rfl, _⟩ := h; rfl
theorem rgV_rounds (n : Nat) : rgV 1 ((n : Int) + 1) = (roundsR n).map V.int := by
  unfold rgV roundsR
  rw [List.map_map, show ((n : Int) + 1 - 1).toNat = n by omega]
  rfl
theorem pure_law_rounds (h : sp_law_rounds K vs H Q E) : t_law_rounds K (En Q) (start N_law_rounds vs) H := by
  obtain ⟨n, rfl, hn, q⟩ := h
  unfold t_law_rounds
  walk_at "rd"
  refine r_new (RgOk.of_le (by omega) (by omega) (by omega) (by omega)) ?_
  intro p H1 np s e
  rw [rgV_rounds] at e
  walk_at "rd"
  intro p2 H2 np2 s2 e2
  exact q p2 H2 (s.free np2) (s.trans s2) (sqT_ofD e2) (noD_of e2)
theorem pure_law_times (h : sp_law_times K vs H Q E) : t_law_times K (En Q) (start N_law_times vs) H := by
  obtain ⟨a, b, x, y, n, rfl, hx, hy, rx, ry, hn, q⟩ := h
  unfold t_law_times
  walk_at "rd"
  refine r_lcTm (fun i v => match v with | .int b => .int (x.getD (b - 1).toNat 0) | _ => .non) hy (by rw [List.length_map, ry.1]; omega) (fun _ => rfl) (fun i v H1 Q' hi s k => ?_) (fun p H' np s e => ?_)
  · rw [List.getElem?_map] at hi
    obtain ⟨b', hb, rfl⟩ := Option.map_eq_some_iff.mp hi
    have hm := ry.2.2 b' (List.mem_of_getElem? hb)
    have ha := atI_row rx hm.1 hm.2
    walk_at "rd"
    exact k H1 (Same.refl _)
  · have ee : (List.range (y.map V.int).length).zipWith (fun (i : Nat) v => match v with | .int b => V.int (x.getD (b - 1).toNat 0) | _ => .non) (y.map V.int) = (mulR x y).map V.int := by
      apply List.ext_getElem?
      intro i
      rw [List.getElem?_zipWith, List.getElem?_map, List.length_map]
      unfold mulR
      rw [List.getElem?_map, List.getElem?_map]
      by_cases hi : i < y.length
      · rw [List.getElem?_range hi, List.getElem?_eq_getElem hi]; rfl
      · rw [List.getElem?_eq_none (by omega : y.length ≤ i)]
        simp
    rw [ee] at e
    walk_at "rd"
    intro p2 H2 np2 s2 e2
    exact q p2 H2 (s.free np2) (s.trans s2) (sqT_ofD e2) (noD_of e2)
theorem roundsR_row (n : Nat) : IsRow (roundsR n) n := by
  refine ⟨by simp [roundsR], ?_, ?_⟩
  · unfold roundsR
    rw [List.nodup_iff_pairwise_ne, List.pairwise_map]
    exact List.nodup_range.imp fun h e => h (by omega)
  · intro x hx
    obtain ⟨i, hi, rfl⟩ := List.mem_map.mp hx
    rw [List.mem_range] at hi
    omega
theorem pop_perm {os ls : List Int} {k : Nat} {v : Int} (h : ls[k]? = some v) : ((os ++ [v]) ++ ls.eraseIdx k).Perm (os ++ ls) := by
  rw [List.append_assoc]
  refine List.Perm.append_left os ?_
  have hk : k < ls.length := (List.getElem?_eq_some_iff.mp h).1
  have e : v = ls[k] := by rw [List.getElem?_eq_getElem hk] at h; exact (Option.some.inj h).symm
  subst e
  rw [List.eraseIdx_eq_take_drop_succ]
  have e2 : ls = ls.take k ++ ls[k] :: ls.drop (k + 1) := by
    rw [List.getElem_cons_drop]
    exact (List.take_append_drop k ls).symm
  conv => rhs; rw [e2]
  exact List.Perm.symm (List.perm_middle (a := ls[k]) (l₁ := ls.take k) (l₂ := ls.drop (k + 1)))
theorem IsRow.perm {a b : List Int} {n : Nat} (h : a.Perm b) (r : IsRow b n) : IsRow a n :=
  ⟨h.length_eq.trans r.1, h.nodup_iff.mpr r.2.1, fun x hx => r.2.2 x (h.mem_iff.mp hx)⟩
theorem mulR_row {x y : List Int} {n : Nat} (hx : IsRow x n) (hy : IsRow y n) : IsRow (mulR x y) n := by
  refine ⟨by unfold mulR; rw [List.length_map]; exact hy.1, ?_, ?_⟩
  · unfold mulR
    rw [List.nodup_iff_pairwise_ne, List.pairwise_map]
    refine (List.nodup_iff_pairwise_ne.mp hy.2.1).imp_of_mem (fun {a b} ha hb hne e => hne ?_)
    have h1 := hy.2.2 a ha
    have h2 := hy.2.2 b hb
    exact nx_inj hx h1.1 h1.2 h2.1 h2.2 e
  · intro b hb
    unfold mulR at hb
    obtain ⟨c, hc, rfl⟩ := List.mem_map.mp hb
    have h1 := hy.2.2 c hc
    exact nx_mem hx h1.1 h1.2
theorem map_eraseIdx {α β : Type} (f : α → β) : ∀ (l : List α) (k : Nat), (l.map f).eraseIdx k = (l.eraseIdx k).map f
  | [], _ => rfl
  | _ :: _, 0 => rfl
  | x :: r, k + 1 => by simp [List.eraseIdx_cons_succ, map_eraseIdx f r k]
theorem but_via {p l : Addr} {H H1 H2 : Hp} (a : But p H H1) (b : But l H1 H2) (h : H l = none) : But p H H2 := fun c o n e => b c o (ne_of_none e h) (a c o n e)
theorem pure_law_row_draw (h : sp_law_row_draw K vs H Q E) : t_law_row_draw K (En Q) (start N_law_row_draw vs) H := by
  obtain ⟨p, n, rfl, hP, hn, q⟩ := h
  unfold t_law_row_draw
  walk_at "rd"
  refine r_new (RgOk.of_le (by omega) (by omega) (by omega) (by omega)) ?_
  intro l H1 nl s1 e1
  rw [rgV_rounds] at e1
  walk_at "rd"
  intro o H2 no s2 e2
  have hpl : p ≠ l := by obtain ⟨x, y, z, hp⟩ := hP; exact ne_of_none hp nl
  have hpo : p ≠ o := by obtain ⟨x, y, z, hp⟩ := hP; exact ne_of_none (s1 _ _ hp) no
  have hlo : l ≠ o := ne_of_none e1 no
  walk_at "rd"
  rw [Int.toNat_natCast]
  refine r_forRange0 (fun i σ' H' => ∃ (os ls : List Int) (z : Option V), σ' = [some (.ref p), some (.int (n : Int)), some (.ref l), some (.ref o), z] ∧ But p H H' ∧ Pl H' p ∧ H' l = some (.lst (ls.map V.int)) ∧ H' o = some (.lst (os.map V.int)) ∧ IsRow (os ++ ls) n ∧ os.length = i)
    ⟨[], roundsR n, none, rfl, (Same.but s1).trans (Same.but s2), ?_, s2 _ _ e1, e2, roundsR_row n, rfl⟩ (fun i σ' H' hi hW => ?_) (fun σ' H' hW => ?_)
  · obtain ⟨x, y, z, hp⟩ := hP
    exact ⟨x, y, z, s2 _ _ (s1 _ _ hp)⟩
  · obtain ⟨os, ls, z, rfl, b, hP', el, eo, hr, ho⟩ := hW
    have hll : ls.length = n - i := by have := hr.1; rw [List.length_append] at this; omega
    walk_at "rd"
    refine ⟨p, _, rfl, hP', by rw [List.length_map]; omega, by rw [List.length_map]; omega, fun v H5 hv0 hv1 b5 hP5 => ?_⟩
    rw [List.length_map] at hv1
    have hk : v.toNat < ls.length := by omega
    have hl5 : H5 l = some (.lst (ls.map V.int)) := b5 _ _ hpl.symm el
    have ho5 : H5 o = some (.lst (os.map V.int)) := b5 _ _ hpo.symm eo
    walk_at "rd"
    refine r_popAt (k := v.toNat) (y := .int ls[v.toNat]) hl5 (by omega) (by rw [List.getElem?_map, List.getElem?_eq_getElem hk]; rfl) (by rw [List.length_map]; omega) ?_
    intro H6 b6 e6
    have ho6 := b6 _ _ hlo.symm ho5
    walk_at "rd"
    intro H7 b7 e7
    walk_at "rd"
    have hpk : ((os ++ [ls[v.toNat]]) ++ ls.eraseIdx v.toNat).Perm (os ++ ls) := pop_perm (List.getElem?_eq_getElem hk)
    refine ⟨os ++ [ls[v.toNat]], ls.eraseIdx v.toNat, _, rfl, but_via (but_via (b.trans b5) b6 nl) b7 (s1.free no), ?_, ?_, ?_, IsRow.perm hpk hr, by rw [List.length_append, ho]; rfl⟩
    · obtain ⟨x, y, z, hp⟩ := hP5
      exact ⟨x, y, z, b7 _ _ hpo (b6 _ _ hpl hp)⟩
    · rw [b7 _ _ hlo e6, map_eraseIdx]
    · rw [e7, List.map_append]; rfl
  · obtain ⟨os, ls, z, rfl, b, hP', el, eo, hr, ho⟩ := hW
    have hll : ls = [] := List.length_eq_zero_iff.mp (by have := hr.1; rw [List.length_append] at this; omega)
    subst hll
    rw [List.append_nil] at hr
    walk_at "rd"
    intro a H3 na s3 e3
    have hna : H a = none := by
      cases e : H a with
      | none => rfl
      | some u =>
        by_cases hap : a = p
        · subst hap
          obtain ⟨x, y, z, hp⟩ := hP'
          rw [hp] at na
          cases na
        · rw [b _ _ hap e] at na
          cases na
    refine q a H3 os hna (b.trans (Same.but s3)) ?_ (sqT_ofD e3) hr (noD_of e3)
    obtain ⟨x, y, z, hp⟩ := hP'
    exact ⟨x, y, z, s3 _ _ hp⟩
end
end Kb

set_option Elab.async false
set_option linter.all false
set_option maxRecDepth 100000
set_option maxHeartbeats 4000000
/-! exceptions: __init__ defs that say super().__init__(..) -/
namespace Kb
open PySem PySem.Spec PyProof.Rows L2

/-- what the frame of an __init__ that says super() must say; D: the class that its body stands in -/
structure SupK (X : Cx) (D : Addr) : Prop where
  gs : Gl X "super"
  kc : X.env.kindOf "__class__" = some .free
  ks : X.env.kindOf "self" = some .local
  fn : ∃ (f : Addr) (oc : Value) (od : Option Addr) (fd : FuncData) (osl : Array (Option Value)) (ar : Arg), X.env.func = some f ∧ X.K.lookup f = some ⟨oc, od, .func fd, osl⟩ ∧ (fd.params.posonlyargs ++ fd.params.args).head? = some ar ∧ ar.arg = "self"
  cd : ∃ (cda : Addr) (ccl : Value) (cdd : Option Addr) (vs : Array Value) (ccs : Array (Option Value)) (file : Str) (tf : Tok), X.env.code = .ref cda ∧ X.K.lookup cda = some ⟨ccl, cdd, .fields vs, ccs⟩ ∧ vs[2]? = some (.str file tf) ∧ ((X.prog.main.file : Str) == file) = true
  cl : ∃ (cc : Addr) (cl : Value) (cld : Option Addr) (csl : Array (Option Value)), X.env.cells.lookup ("__class__" : Str) = some cc ∧ X.K.lookup cc = some ⟨cl, cld, .cell (some (.ref D)), csl⟩
  su : X.mg "super" = none
  tp : (X.prog.main.scope.names.lookup ("super" : Str)).isSome = false
  dc : ∃ cdD, PySem.W.clsIn X.K D = some cdD

section
variable {X : Cx} {pins : List (Addr × Obj)} {σ : L2.St} {H : Hp} {s : Shared} {a C D : Addr}

theorem exo_ne (T : OexC X.K C) (I : Inv X pins σ H s) (ea : H a = some (exo a C none)) : a ≠ C := by
  rintro rfl
  obtain ⟨nm, q, N, bs, bm, sn, sub, ab, col, dd, k0, k1, k2, k3, k5, hC, hbm⟩ := T.cls
  obtain ⟨t1, ho⟩ := exo_at I.hok ea
  have e := I.kIn _ _ hC
  rw [ho] at e
  cases e

theorem boot_super : bootBuiltins "super" = some (.type "super") := by first | boot_by_name | rfl | kernel_rfl

/-- a new object that is pinned -/
theorem pin_new {h' : Heap} {t' : Nat} {o : Obj} (I : Inv X pins σ H s) (k : ∀ b u, s.heap.get? b = some u → h'.get? b = some u) (e : h'.get? s.heap.objs.size = some o) (hn : ∀ v, o.data ≠ .cell v) :
    Inv X ((s.heap.objs.size, o) :: pins) σ H { s with heap := h', toks := t' } := by
  have J := I.kept (t' := t') k
  refine J.pins_of fun p hp => ?_
  rcases List.mem_cons.mp hp with rfl | hp
  · exact ⟨e, I.hok.fresh (Nat.le_refl _), Nat.ne_of_gt I.lt, I.nofs (Nat.le_refl _), hn⟩
  · exact J.pin p (List.mem_append_right _ hp)

theorem sup_base {body : List Stmt} {p0 p1 : Pos} {attr : Str} {whole : Sem Value} {Q : Value → Shared → Prop} {E : Value → Shared → Prop} (S : SupK X D) (I : Inv X pins σ H s) (hN : X.N[0]? = some ("self" : Str)) (hs : σ[0]? = some (some (V.ref a)))
    (T : OexC X.K C) (ea : H a = some (exo a C none)) (sub : PySem.W.mroIn X.K C (.ref D) = some true) (hat : (attr == ("__class__" : Str)) = false)
    (h : ∀ so s', Inv X ((so, PySem.W.ks_superObj D a C) :: pins) σ H s' → Q (.ref so) s') :
    _root_.PySem.wpAt (model X.prog X.w) X.A (.func body X.env) (attributeBase (.Call (.Name "super" p0) [] [] p1) attr X.env whole) Q E s := by
  obtain ⟨f, oc, od, fd, osl, ar, hfu, hf, hp, har⟩ := S.fn
  obtain ⟨cda, ccl, cdd, vs, ccs, file, tf, hco, hcode, hvs, hfile⟩ := S.cd
  obtain ⟨cc, cl, cld, csl, hcc, hcell⟩ := S.cl
  obtain ⟨cdD, hD⟩ := S.dc
  have KX := I.kIn
  have hg : X.env.globals = mainGlobals := I.ok.glob
  obtain ⟨m, hn, hlk⟩ := id I.loc
  obtain ⟨u, ru, lu⟩ := hlk 0 "self" (.ref a) hN hs (.inl S.ks)
  obtain rfl : u = Value.ref a := ru
  have hv : m "self" = some (.ref a) := by
    rcases lu with ⟨_, e⟩ | ⟨k, _⟩
    · exact e
    · rw [S.ks] at k
      rcases k with k | k <;> cases k
  obtain ⟨t1, ho⟩ := exo_at I.hok ea
  obtain ⟨oD, hD1, hD2⟩ : ∃ oD, s.heap.get? D = some oD ∧ oD.data = .cls cdD := by
    unfold PySem.W.clsIn at hD
    split at hD
    · rename_i c d cd' sl ho
      cases hD
      exact ⟨_, KX _ _ ho, rfl⟩
    · cases hD
  obtain ⟨hh, g, d, t, os⟩ := s
  refine ks_wpAt_super_base (env := X.env) S.gs S.kc hat hfu (KX _ _ hf) rfl hp hco (KX _ _ hcode) rfl hvs hfile S.tp ?_
  obtain ⟨mb, b1, b2⟩ := I.mod.blt
  refine PySem.W.ks_loadName_global I.ok.kind S.gs (Calls.loadGlobal_builtin (by rw [I.ok.glob]; exact I.mod.glob.keeps I.bk) S.su (by rw [I.ok.blt]; exact b1.keeps I.bk) ((b2 _ (by decide)).trans boot_super) ⟨rfl, ?_⟩)
  refine wpAny_loadName_free I.ok.kind S.kc hcc ⟨_, KX _ _ hcell, rfl⟩ ?_
  rw [har]
  refine wpAny_loadName_local I.ok.kind S.ks hn hv ?_
  refine ks_wpAny_isType_cls hD1 hD2 ⟨rfl, ?_⟩
  refine ks_wpAny_call_super hD1 hD2 ho rfl (fun c e => by cases e) (PySem.W.looks_mroIn KX sub) (fun h' e k => ?_)
  exact h _ _ (pin_new (s := ⟨hh, g, d, t, os⟩) (t' := t) I k e (fun v z => by cases z))

/-- super().__init__(e, ..), the next class ValueError: nothing of it is told -/
def tSupV (K : PySem.W.Frag) (D : Addr) (ta : TA) : TS := fun R σ H => ∃ a C : Addr, σ[0]? = some (some (V.ref a)) ∧ H a = some (exo a C none) ∧ OexC K C ∧ PySem.W.mroIn K C (.ref D) = some true ∧
  PySem.W.nsIn K PySem.cStatics "thirdparty.any" = some none ∧ PySem.W.ks_superIn K C D "__init__" = some (some (.builtin "ValueError.__init__")) ∧ PySem.W.subIn K (.ref C) (.type "ValueError") = some true ∧
  ta σ H fun vs H1 => vs.length ≤ 1000 ∧ H1 a = some (exo a C none) ∧ R.nx σ H1

/-- a statement that is run in its own frame -/
def PSat (X : Cx) (body : List Stmt) (st : Stmt) (t : TS) : Prop := ∀ (pins : List (Addr × Obj)) (s : Shared) (σ : L2.St) (H : Hp) (R : Ends), Inv X pins σ H s → t R σ H →
  _root_.PySem.wpAt (model X.prog X.w) X.A (.func body X.env) (exec st X.env) (SP X pins R) X.xe s

theorem sup_method {Q : Value × List Value → Shared → Prop} {E : Value → Shared → Prop} {A : Around} {pl : Sem Bool} {B i : String} {so : Addr} (KF : PySem.W.KxsFacts B i) (I : Inv X ((so, PySem.W.ks_superObj D a C) :: pins) σ H s) (T : OexC X.K C) (ea : H a = some (exo a C none))
    (opq : PySem.W.nsIn X.K PySem.cStatics "thirdparty.any" = some none) (hm : PySem.W.ks_superIn X.K C D "__init__" = some (some (.builtin i))) (hB : PySem.W.subIn X.K (.ref C) (.type B) = some true)
    (h : ∀ u s', Inv X ((u, PySem.W.kxs_mw i a) :: pins) σ H s' → Q (.ref u, []) s') : wpAny (model X.prog X.w) A (getMethod (.ref so) "__init__" pl) Q E s := by
  have KX := I.kIn
  obtain ⟨hso, _⟩ := I.pin _ (List.mem_append_right _ List.mem_cons_self)
  obtain ⟨t1, ho⟩ := exo_at I.hok ea
  have IA : PySem.W.InstAt s.heap a _ C none := ⟨ho, rfl, rfl, trivial⟩
  have hI : PySem.W.Looks (model X.prog X.w) s.heap (isInstance (.ref a) (.type B)) true := IA.type.andThen (PySem.W.looks_subIn KX hB)
  have hne := exo_ne T I ea
  obtain ⟨hh, g, d, t, os⟩ := s
  cases hc : PySem.W.clsIn X.K C with
  | none => unfold PySem.W.ks_superIn at hm; rw [hc] at hm; cases hm
  | some cd =>
    unfold PySem.W.ks_superIn at hm
    rw [hc] at hm
    refine PySem.W.kxs_getMethod KF hso (PySem.W.looks_opaque KX opq) (l₀ := cd.mro) (fun A Q E s k q => wpAny_bind ((PySem.W.looks_clsIn KX hc) A _ E s k (wpAny_pure q))) rfl KX hm hI hne (by decide) ?_
    have J := pin_new (s := ⟨hh, g, d, t, os⟩) (t' := t + 1) (o := PySem.W.kxs_mw i a) I (fun b o e => Heap.get?_push_of_some _ e) (Heap.get?_push_at rfl rfl) (fun v z => by cases z)
    exact h _ _ (J.pins_of fun p hp => J.pin p (List.mem_append_right _ (by
      rcases List.mem_cons.mp hp with rfl | hp
      · exact List.mem_cons_self
      · exact List.mem_cons_of_mem _ (List.mem_cons_of_mem _ hp))))

theorem sup_wrapper {u : Addr} {us : List Value} {Q : Value → Shared → Prop} {E : Value → Shared → Prop} {A : Around} (I : Inv X ((u, PySem.W.kxs_mw "ValueError.__init__" a) :: pins) σ H s) (T : OexC X.K C) (ea : H a = some (exo a C none)) (hl : us.length ≤ sizeLine)
    (h : ∀ s', Inv X pins σ H s' → Q .none s') : wpAny (model X.prog X.w) A (call (.ref u) us) Q E s := by
  obtain ⟨hu, _⟩ := I.pin _ (List.mem_append_right _ List.mem_cons_self)
  obtain ⟨nm, q, N, bs, bm, sn, sub, ab, col, dd, k0, k1, k2, k3, k5, hC, hbm⟩ := T.cls
  obtain ⟨t1, ho⟩ := exo_at I.hok ea
  obtain ⟨hp, g, d, t, os⟩ := s
  refine wpAny_call (codeAny_of_tree ?_)
  show wpAny _ A.in1 (callAny (.ref u) ⟨us, []⟩) _ _ _
  simp only [callAny]
  refine wpAny_bind (wpAny_load hu ?_)
  simp only [PySem.W.kxs_mw, show (Value.type "method-wrapper" == Value.type "method" || Value.type "method-wrapper" == Value.type "builtin_function_or_method" || Value.type "method-wrapper" == Value.type "method-wrapper") = true by decide, if_true]
  refine PySem.W.KFB.if_so (by decide) ?_
  refine wpAny_bind (PySem.W.check_bound_init F.excBase_ValueError.toExcCallFacts (I.kIn _ _ hC) ho rfl ?_)
  refine wpAny_bind (wpAny_pure (wpAny_pure ?_))
  refine ⟨plainId_quiet F.excBase_ValueError.init.plain _, codeAny_builtin F.excBase_ValueError.initEntry ?_⟩
  refine PySem.W.exc_init_tree (cls := .ref C) (t0 := t1) (dv := none) (c2 := .none) (c3 := .none) (b4 := .bool false) ho hl fun h' k hx _ => ?_
  have I0 : Inv X pins σ H ⟨hp, g, d, t, os⟩ := I.pins_of fun p hp => I.pin p (List.mem_append_right _ (List.mem_cons_of_mem _ hp))
  have J := I0.write (t' := t) (x := a) (e := a) (o := exo a C none) (by rw [ea]; exact True.intro) (.inl rfl) k ⟨_, hx⟩ (exo_ok hx)
  have eu : upd H a (exo a C none) = H := by
    funext b
    by_cases hb : b = a
    · rw [hb, upd_same, ea]
    · rw [upd_ne hb]
  rw [eu] at J
  exact h _ J
end

section
variable {M : Model} {A : Around} {E : Value → Shared → Prop} {s : Shared} {u x g : Addr} {i : String} {pos : Pos} {env : Env} {e : Expr} {rest : List Expr} {Q : Value → Shared → Prop} {K : PySem.W.Frag}
theorem cw_wrap (h : wpAny M A (spliced (backTo pos (starEach (e :: rest) env))) (fun vs s₁ => PySem.W.KxsAt i u x s₁.heap ∧ wpAny M A (call (.ref u) vs) Q E s₁) E s)
    (he : starEach (e :: rest) env = (false, eval e env) :: starEach rest env) (hplain : (backTo pos (starEach rest env)).any (·.1) = false) :
    wpAny M A (callWith pos (.ref u) [] (backTo pos (starEach (e :: rest) env)) []) Q E s := by
  rw [he] at h ⊢
  refine PySem.W.kxs_callWith (i := i) (x := x) (by show (false || (backTo pos (starEach rest env)).any (·.1)) = false; rw [hplain]; rfl) ?_
  exact PySem.Calls.evalArgs_plain h
theorem cw_meth {self : Value} (hf : PySem.W.fnIn K g = true) (h : wpAny M A (spliced (backTo pos (starEach (e :: rest) env))) (fun vs s₁ => PySem.W.MethP K u g self s₁.heap ∧ wpAny M A (call (.ref u) vs) Q E s₁) E s)
    (he : starEach (e :: rest) env = (false, eval e env) :: starEach rest env) (hplain : (backTo pos (starEach rest env)).any (·.1) = false) :
    wpAny M A (callWith pos (.ref u) [] (backTo pos (starEach (e :: rest) env)) []) Q E s := by
  rw [he] at h ⊢
  exact PySem.W.callWith_of (by show ((false || (backTo pos (starEach rest env)).any (·.1)) || false) = false; rw [hplain]; rfl) (PySem.W.keeps_M hf) (PySem.Calls.evalArgs_plain h)
end
section
variable {X : Cx} {D : Addr} {body : List Stmt} {e : Expr} {es : List Expr} {ta : TA} {p0 p1 p2 p3 p4 : Pos}
abbrev supStmt (e : Expr) (es : List Expr) (p0 p1 p2 p3 p4 : Pos) : Stmt := .Expr (.Call (.Attribute (.Call (.Name "super" p0) [] [] p1) "__init__" p2) (e :: es) [] p3) p4
theorem pst_supV {pl : Sem Bool} (S : SupK X D) (hN : X.N[0]? = some ("self" : Str)) (ha : PA X (e :: es) ta)
    (hc : eval (.Call (.Attribute (.Call (.Name "super" p0) [] [] p1) "__init__" p2) (e :: es) [] p3) X.env = (do
      let ov ← attributeBase (.Call (.Name "super" p0) [] [] p1) "__init__" X.env (eval (.Call (.Name "super" p0) [] [] p1) X.env)
      standAt p2.atName
      let (f, first) ← holding [ov] (getMethod ov "__init__" pl)
      callWith p3 f first (backTo p3 (starEach (e :: es) X.env)) []) := by rfl) (hsw : swapsWith (.Call (.Attribute (.Call (.Name "super" p0) [] [] p1) "__init__" p2) (e :: es) [] p3) none p4.line X.env = pure false := by rfl)
    (he : starEach (e :: es) X.env = (false, eval e X.env) :: starEach es X.env := by rfl) (hpl : (backTo p3 (starEach es X.env)).any (·.1) = false := by rfl) :
    PSat X body (supStmt e es p0 p1 p2 p3 p4) (tSupV X.K D ta) := by
  intro pins s σ H R I h
  obtain ⟨a, C, hs, ea, T, sub, opq, hm, hB, h⟩ := h
  refine ks_wpAt_Expr_any (ks_wpAt_MethodCall (pl := pl) ?_ hc) I.quiet hsw
  · refine sup_base S I hN hs T ea sub (by decide) fun so s1 I1 => ?_
    refine sup_method PySem.W.kxs_ValueError I1 T ea opq hm hB fun u s2 I2 => ?_
    show wpAny _ _ (callWith p3 (.ref u) [] (backTo p3 (starEach (e :: es) X.env)) []) _ _ _
    refine cw_wrap (i := "ValueError.__init__") (x := a) (thn (ha.run p3 _ s2 σ H _ I2 h) fun us s3 ⟨vs, H1, I3, r1, hl, ea1, q⟩ => ⟨?_, ?_⟩) he hpl
    · exact (I3.pin _ (List.mem_append_right _ List.mem_cons_self)).1
    · refine sup_wrapper I3 T ea1 ?_ fun s4 I4 => ⟨σ, H1, I4, q⟩
      rw [← Paired.length r1, sizeLine_eq]
      omega

/-- super().__init__(e, ..), the next class's own __init__ keeping sp -/
def tSupF (K : PySem.W.Frag) (D f2 : Addr) (sp : Sp) (ta : TA) : TS := fun R σ H => ∃ a C : Addr, σ[0]? = some (some (V.ref a)) ∧ H a = some (exo a C none) ∧ OexC K C ∧ PySem.W.mroIn K C (.ref D) = some true ∧
  PySem.W.nsIn K PySem.cStatics "thirdparty.any" = some none ∧ PySem.W.ks_superIn K C D "__init__" = some (some (.ref f2)) ∧
  ta σ H fun vs H1 => sp (.ref a :: vs) H1 (fun _ H2 => R.nx σ H2) (fun _ _ _ => False)

theorem sup_methodF {pins : List (Addr × Obj)} {σ : L2.St} {H : Hp} {s : Shared} {a C f2 so : Addr} {Q : Value × List Value → Shared → Prop} {E : Value → Shared → Prop} {A : Around} {pl : Sem Bool} (I : Inv X ((so, PySem.W.ks_superObj D a C) :: pins) σ H s) (T : OexC X.K C) (ea : H a = some (exo a C none))
    (opq : PySem.W.nsIn X.K PySem.cStatics "thirdparty.any" = some none) (hm : PySem.W.ks_superIn X.K C D "__init__" = some (some (.ref f2))) (ht : PySem.W.typeIn X.K (.ref f2) = some (.type "function"))
    (h : ∀ u s', Inv X ((u, PySem.W.methodObj (.ref f2) (.ref a)) :: pins) σ H s' → Q (.ref u, []) s') : wpAny (model X.prog X.w) A (getMethod (.ref so) "__init__" pl) Q E s := by
  have KX := I.kIn
  obtain ⟨hso, _⟩ := I.pin _ (List.mem_append_right _ List.mem_cons_self)
  have hne := exo_ne T I ea
  obtain ⟨hh, g, d, t, os⟩ := s
  cases hc : PySem.W.clsIn X.K C with
  | none => unfold PySem.W.ks_superIn at hm; rw [hc] at hm; cases hm
  | some cd =>
    unfold PySem.W.ks_superIn at hm
    rw [hc] at hm
    obtain ⟨of, hof, hofc⟩ : ∃ of, hh.get? f2 = some of ∧ of.cls = .type "function" := by
      have ht' : (X.K.lookup f2).map (·.cls) = some (.type "function") := ht
      cases z : X.K.lookup f2 with
      | none => rw [z] at ht'; cases ht'
      | some of => rw [z] at ht'; exact ⟨of, KX _ _ z, Option.some.inj ht'⟩
    refine ks_wpAny_getMethod_super hso (PySem.W.looks_opaque KX opq) (l₀ := cd.mro) (fun A Q E s k q => wpAny_bind ((PySem.W.looks_clsIn KX hc) A _ E s k (wpAny_pure q))) rfl KX hm hof hofc hne (by decide) ?_
    have J := pin_new (s := ⟨hh, g, d, t, os⟩) (t' := t + 1) (o := PySem.W.methodObj (.ref f2) (.ref a)) I (fun b o e => Heap.get?_push_of_some _ e) (Heap.get?_push_at rfl rfl) (fun v z => by cases z)
    exact h _ _ (J.pins_of fun p hp => J.pin p (List.mem_append_right _ (by
      rcases List.mem_cons.mp hp with rfl | hp
      · exact List.mem_cons_self
      · exact List.mem_cons_of_mem _ (List.mem_cons_of_mem _ hp))))

theorem pst_supF {pl : Sem Bool} {CX : CXT} {k : Nat} {f2 : Addr} {fd : FuncData} {ps : List Str} {sp : Sp} (S : SupK X D) (hN : X.N[0]? = some ("self" : Str)) (F1 : FnOk X.prog X.w X.K X.mg X.base CX k f2 fd ps sp) (hr : Room k X.A) (hb : Binds X.K fd ps [])
    (hx : Passes CX X (fun _ _ _ => False)) (ht : PySem.W.typeIn X.K (.ref f2) = some (.type "function")) (hf : PySem.W.fnIn X.K f2 = true) (ha : PA X (e :: es) ta)
    (hc : eval (.Call (.Attribute (.Call (.Name "super" p0) [] [] p1) "__init__" p2) (e :: es) [] p3) X.env = (do
      let ov ← attributeBase (.Call (.Name "super" p0) [] [] p1) "__init__" X.env (eval (.Call (.Name "super" p0) [] [] p1) X.env)
      standAt p2.atName
      let (f, first) ← holding [ov] (getMethod ov "__init__" pl)
      callWith p3 f first (backTo p3 (starEach (e :: es) X.env)) []) := by rfl) (hsw : swapsWith (.Call (.Attribute (.Call (.Name "super" p0) [] [] p1) "__init__" p2) (e :: es) [] p3) none p4.line X.env = pure false := by rfl)
    (he : starEach (e :: es) X.env = (false, eval e X.env) :: starEach es X.env := by rfl) (hpl : (backTo p3 (starEach es X.env)).any (·.1) = false := by rfl) :
    PSat X body (supStmt e es p0 p1 p2 p3 p4) (tSupF X.K D f2 sp ta) := by
  intro pins s σ H R I h
  obtain ⟨a, C, hs, ea, T, sub, opq, hm, h⟩ := h
  refine ks_wpAt_Expr_any (ks_wpAt_MethodCall (pl := pl) ?_ hc) I.quiet hsw
  · refine sup_base S I hN hs T ea sub (by decide) fun so s1 I1 => ?_
    refine sup_methodF I1 T ea opq hm ht fun u s2 I2 => ?_
    show wpAny _ _ (callWith p3 (.ref u) [] (backTo p3 (starEach (e :: es) X.env)) []) _ _ _
    refine cw_meth (g := f2) (self := .ref a) hf (thn (ha.run p3 _ s2 σ H _ I2 h) fun us s3 ⟨vs, H1, I3, r1, q⟩ => ⟨⟨?_, I3.kIn⟩, ?_⟩) he hpl
    · exact (I3.pin _ (List.mem_append_right _ List.mem_cons_self)).1
    · have hu := (I3.pin _ (List.mem_append_right _ List.mem_cons_self)).1
      have I4 : Inv X pins σ H1 s3 := I3.pins_of fun p hp => I3.pin p (List.mem_append_right _ (List.mem_cons_of_mem _ hp))
      have r2 : Vals (V.ref a :: vs) (Value.ref a :: us) := .cons rfl r1
      have hl : (Value.ref a :: us).length = ps.length := by
        rw [← r2.length]
        exact F1.len _ _ _ _ q
      refine wpAny_call (ks_codeAny_call_bound hu (codeAny_mono (F1.run _ X.stack _ _ ⟨Value.ref a :: us, []⟩ (Value.ref a :: us) _ _ (fun _ _ _ => False) hr I4.env0 (by have z := hb s3 (Value.ref a :: us) I4.kIn (by simpa using hl); rw [List.append_nil] at z; exact z) r2 q) fun r s' hq' => ?_))
      cases r with
      | error er => exact hx pins σ _ _ er s' I4 hq'
      | ok fl =>
        cases fl with
        | ret u2 =>
          obtain ⟨v, H', I5, rv, q5⟩ := I4.after hq'
          exact ⟨σ, H', I5, q5⟩
        | next => exact False.elim hq'
        | brk => exact False.elim hq'
        | cont => exact False.elim hq'
end
end Kb

set_option Elab.async false
set_option linter.all false
set_option maxRecDepth 100000
set_option maxHeartbeats 4000000
namespace Kb
open PySem PySem.Spec PyProof.Rows L2

theorem lookup_nodup {y : Str} {u : Value} : ∀ {l : List (Str × Value)}, (l.map (·.1)).Nodup → (y, u) ∈ l → l.lookup y = some u
  | [], _, h => by cases h
  | (z, w) :: r, nd, h => by
    rw [List.map_cons, List.nodup_cons] at nd
    rcases List.mem_cons.mp h with h | h
    · obtain ⟨rfl, rfl⟩ := Prod.mk.inj h
      simp [List.lookup]
    · have ne : (y == z) = false := by
        refine beq_eq_false_iff_ne.mpr fun e => nd.1 ?_
        rw [← e]
        exact List.mem_map.mpr ⟨(y, u), h, rfl⟩
      rw [List.lookup, ne]
      exact lookup_nodup nd.2 h

/-- the scope of an __init__ that says super() -/
structure SupScope (N P : List Str) (sc : Scope) : Prop where
  kind : sc.kind = .function
  co : sc.isCoroutine = false
  gen : sc.isGenerator = false
  nd : N.Nodup
  pre : N.take P.length = P
  par : ∀ x ∈ P, sc.names.lookup x = some .local
  nocell : ∀ y ∈ sc.names, y.2 ≠ .cell
  free : ∀ y ∈ sc.names, y.2 = .free → y.1 = "__class__"

/-- the context of its body -/
def cxS (P : Program) (w : World) (K : PySem.W.Frag) (mg : Str → Option Value) (base : Heap) (N : List Str) (qual : Str) (scope : Scope) (f : Addr) (cd : Value) (cc : Addr) (A : Around) (outer : List Env) (s : Shared) (H : Hp) : Cx where
  prog := P
  w := w
  K := K
  mg := mg
  base := base
  A := A.deeper (PySem.W.ksEnv qual scope s.heap.objs.size f cd cc)
  N := N
  s_0 := s
  H_0 := H
  env := PySem.W.ksEnv qual scope s.heap.objs.size f cd cc
  outer := outer
  stack := PySem.W.ksEnv qual scope s.heap.objs.size f cd cc :: outer
  ex := []
  calm := true
  fn := fun _ => false
  pn := []
  xe := fun _ _ => False

theorem inv_startS {P : Program} {w : World} {K : PySem.W.Frag} {mg : Str → Option Value} {base : Heap} {N ps : List Str} {qual : Str} {scope : Scope} {f : Addr} {cd : Value} {cc : Addr} {A : Around} {outer : List Env} {s : Shared} {H : Hp} {us : List Value} {vs : List V} {h₁ : Heap} {t' : Nat} {cl : Value} {cld : Option Addr} {v0 : Option Value} {csl : Array (Option Value)}
    (S : SupScope N ps scope) (hd : A.handled = none) (e0 : Env0 P w K mg base A outer s H) (hl : vs.length = ps.length) (r : Vals vs us) (hcell : K.lookup cc = some ⟨cl, cld, .cell v0, csl⟩)
    (hn : h₁.Ns s.heap.objs.size (fun x => (ps.zip us).reverse.lookup x)) (k : ∀ b o, s.heap.get? b = some o → h₁.get? b = some o) :
    Inv (cxS P w K mg base N qual scope f cd cc A outer s H) [] (start N vs) H { s with heap := h₁, toks := t' } := by
  have hpl : ps.length ≤ N.length := by have := congrArg List.length S.pre; rw [List.length_take] at this; omega
  have noA : ∀ b : Addr, b ∉ (cxS P w K mg base N qual scope f cd cc A outer s H).ex := fun b z => absurd (show b ∈ ([] : List Addr) from z) (by simp)
  have hb := e0.bs cc _ (e0.mod.kin _ _ hcell)
  have cell1 : ∀ y c, (cxS P w K mg base N qual scope f cd cc A outer s H).env.cells.lookup y = some c → y = ("__class__" : Str) ∧ c = cc := fun y c h => by
    have h : List.lookup y [(("__class__" : Str), cc)] = some c := h
    rw [List.lookup] at h
    split at h
    · rename_i z
      exact ⟨beq_iff_eq.mp z, (Option.some.inj h).symm⟩
    · cases h
  refine ⟨⟨e0.mod, S.kind, rfl, rfl, Nat.le_refl _, fun y z c h1 h2 => (cell1 y c h1).1.trans (cell1 z c h2).1.symm, fun y hy => ?_, fun y c z h => Bool.noConfusion z, fun _ => hd, Around.frames_deeper e0.frames, .inr ⟨rfl, rfl⟩, fun b z => absurd z (noA b), e0.bs, e0.bsz, fun b _ _ => noA b, fun b z => absurd z (noA b), e0.funs, e0.frf⟩,
    rfl, e0.bare, Un.kept k, ⟨_, hn, fun i y v h1 h2 h3 => ?_⟩, fun y c h => ⟨v0, ⟨cl, cld, .cell v0, csl⟩, k _ _ (by obtain ⟨_, e⟩ := cell1 y c h; subst e; exact hb.1), rfl⟩, e0.hok.fresh (Nat.le_refl _), fun y c h => by obtain ⟨_, e⟩ := cell1 y c h; subst e; exact hb.2, fun p hp => absurd (show p ∈ ([] : List (Addr × Obj)) from hp) (by simp), e0.hok.kept k, ?_⟩
  · have hy : scope.names.lookup y = some .cell ∨ scope.names.lookup y = some .free := hy
    rcases hy with hy | hy
    · exact absurd rfl (S.nocell _ (PySem.mem_of_lookup hy))
    · have e : y = ("__class__" : Str) := S.free _ (PySem.mem_of_lookup hy) rfl
      subst e
      exact ⟨cc, by show List.lookup ("__class__" : Str) [(("__class__" : Str), cc)] = some cc; simp [List.lookup]⟩
  · have hi : i < vs.length := by
      unfold L2.start at h2
      by_cases hi : i < vs.length
      · exact hi
      · rw [List.getElem?_append_right (by simpa using hi)] at h2
        rw [List.getElem?_replicate] at h2
        split at h2 <;> cases h2
    have ha : vs[i]? = some v := by
      unfold L2.start at h2
      rw [List.getElem?_append_left (by simpa using hi), List.getElem?_map] at h2
      cases e : vs[i]? with
      | none => rw [e] at h2; cases h2
      | some a => rw [e] at h2; cases h2; rfl
    obtain ⟨u, hu, rv⟩ := r.get ha
    have hp : ps[i]? = some y := by
      rw [← S.pre, List.getElem?_take_of_lt (by omega)]; exact h1
    have ndP : ps.Nodup := by rw [← S.pre]; exact S.nd.sublist (List.take_sublist _ _)
    refine ⟨u, rv, .inl ⟨S.par y (List.mem_of_getElem? hp), ?_⟩⟩
    have hlen : us.length = ps.length := by rw [← r.length]; exact hl
    refine lookup_nodup ?_ ?_
    · rw [List.map_reverse, List.map_fst_zip (by omega)]
      exact (List.reverse_perm ps).nodup_iff.mpr ndP
    · rw [List.mem_reverse]
      exact List.mem_of_getElem? (i := i) (by rw [List.getElem?_zip_eq_some]; exact ⟨hp, hu⟩)
  · unfold L2.start
    show _ = N.length
    rw [List.length_append, List.length_map, List.length_replicate]
    omega

/-- THE RULE: an __init__ that says super() first, by its body -/
theorem fn_sup {P : Program} {w : World} {K : PySem.W.Frag} {mg : Str → Option Value} {base : Heap} {k : Nat} {f : Addr} {name qual : Str} {params : Arguments} {b0 : Stmt} {body : List Stmt} {scope : Scope} {dV kV doc pm cdv ct oc : Value} {an od : Option Addr} {cc : Addr}
    {osl : Array (Option Value)} {N ps : List Str} {sp : Sp} {cl : Value} {cld : Option Addr} {v0 : Option Value} {csl : Array (Option Value)}
    (lk : K.lookup f = some ⟨oc, od, .func (PySem.W.ksFn name qual params (b0 :: body) scope dV kV doc pm an cdv ct cc), osl⟩) (hcd : PySem.W.codeIn K cdv qual = true) (hcell : K.lookup cc = some ⟨cl, cld, .cell v0, csl⟩) (S : SupScope N ps scope)
    (len : ∀ vs H Q E, sp vs H Q E → vs.length = ps.length)
    (hbody : ∀ (A : Around) (outer : List Env) (s : Shared) (H : Hp) (vs : List V) (Q : VK) (E : XK), Room k (A.deeper (PySem.W.ksEnv qual scope s.heap.objs.size f cdv cc)) → sp vs H Q E →
      ∃ t u, PSat (cxS P w K mg base N qual scope f cdv cc A outer s H) (b0 :: body) b0 t ∧ PSs (cxS P w K mg base N qual scope f cdv cc A outer s H) body u ∧ t { nx := fun σ' H' => u { nx := fun _ H' => Q .non H', rt := Q } σ' H', rt := Q } (start N vs) H) :
    FnOk P w K mg base CX0 (k + 1) f (PySem.W.ksFn name qual params (b0 :: body) scope dV kV doc pm an cdv ct cc) ps sp := by
  refine ⟨len, fun A outer s H args us vs Q E hr e0 hb r hsp => ?_⟩
  have hl := len _ _ _ _ hsp
  have KX : K.In s.heap := e0.mod.kin.keeps fun b o e => (e0.bs b o e).1
  have lim : s.heap.NoLimit := e0.mod.nolimit.keeps fun b o e => (e0.bs b o e).1
  refine ks_codeAny_call_defAt (body := b0 :: body) (binds := ps.zip us) hr.depth (KX _ _ lk) rfl lim (PySem.W.codeRec_of KX hcd) rfl hb S.nocell (fun y hy => S.par y.1 (List.of_mem_zip (show (y.1, y.2) ∈ ps.zip us from hy)).1) (fun h₁ hns hk => ?_) S.co S.gen S.kind
  obtain ⟨t, u, ht, hu, hq⟩ := hbody A outer s H vs Q E (hr.deeper _) hsp
  have I : Inv (cxS P w K mg base N qual scope f cdv cc A outer s H) [] (start N vs) H { s with heap := h₁, toks := s.toks + (ps.zip us).length } := inv_startS S hr.hd e0 hl r hcell hns hk
  have fin : ∀ {s' : Shared} {σ' : L2.St} {H' : Hp} {v : V} {u : Value}, Inv (cxS P w K mg base N qual scope f cdv cc A outer s H) [] σ' H' s' → RelV v u → Q v H' → CE outer P w H s Q u s' :=
    fun {s' σ' H' v u} J rv q => ⟨v, H', J.os, J.bare, J.base, J.hok, rv, q⟩
  have last : ∀ (fl : Flow) (s' : Shared), SP (cxS P w K mg base N qual scope f cdv cc A outer s H) [] { nx := fun _ H' => Q .non H', rt := Q } fl s' → CR CX0 outer P w H s Q E (.ok (.ret (match fl with | .ret v => v | _ => .none))) s' := by
    intro fl s' hs
    cases fl with
    | ret u =>
      obtain ⟨v, σ', H', J, rv, q⟩ := hs
      exact fin J rv q
    | next =>
      obtain ⟨σ', H', J, q⟩ := hs
      exact fin (v := V.non) (u := Value.none) J rfl q
    | brk =>
      obtain ⟨_, _, _, q⟩ := hs
      exact False.elim q
    | cont =>
      obtain ⟨_, _, _, q⟩ := hs
      exact False.elim q
  show _root_.PySem.wpAt (model P w) (A.deeper (PySem.W.ksEnv qual scope s.heap.objs.size f cdv cc)) (.func (b0 :: body) (PySem.W.ksEnv qual scope s.heap.objs.size f cdv cc)) (execs (b0 :: body) (PySem.W.ksEnv qual scope s.heap.objs.size f cdv cc)) _ _ _
  refine ks_wpAt_execs_cons (ks_wpAt_mono (ht [] _ _ _ _ I hq) (fun fl s' hs => ?_) fun e s' hs => False.elim hs)
  cases fl with
  | next =>
    obtain ⟨σ', H', J, q⟩ := hs
    exact wpAt_of_wpAny (wpAny_mono (hu.run [] s' σ' H' _ J q) (fun fl s2 hs => last fl s2 hs) fun e s' hs => False.elim hs)
  | ret u => exact last (.ret u) s' hs
  | brk =>
    obtain ⟨_, _, _, q⟩ := hs
    exact False.elim q
  | cont =>
    obtain ⟨_, _, _, q⟩ := hs
    exact False.elim q
end Kb

set_option Elab.async false
set_option linter.all false
set_option maxRecDepth 100000
set_option maxHeartbeats 4000000
namespace Kb
open PySem PySem.Spec PyProof.Rows L2

/-! ### what the written part says of an error class -/
def oexB (K : PySem.W.Frag) (C : Addr) : Bool := match K.lookup C with
  | some ⟨.type "type", _, .cls cd, sl⟩ => (match cd.mro, sl.toList with
    | .ref C' :: bm, [_, _, _, _, some (.builtin n), _] => C' == C && n == "ValueError.__new__" && !cd.hasDel && cd.hasDict && PySem.HandSPX.refsVE bm
    | _, _ => false)
  | _ => false
theorem oexB_ok {K : PySem.W.Frag} {C : Addr} (q : oexB K C = true) : ∃ nm q N bs bm sn sub ab col dd k0 k1 k2 k3 k5, K.lookup C = some (excClassObj nm q C N bs bm true sn sub ab col dd k0 k1 k2 k3 k5 "ValueError.__new__") ∧ PySem.HandSPX.refsVE bm = true := by
  unfold oexB at q
  split at q
  · rename_i dd cd sl ho
    split at q
    · rename_i C' bm k0 k1 k2 k3 n k5 hm hs
      simp only [Bool.and_eq_true, beq_iff_eq, Bool.not_eq_true'] at q
      obtain ⟨⟨⟨⟨rfl, rfl⟩, hdel⟩, hdict⟩, ht⟩ := q
      obtain ⟨nm, bs, mro, ns, qn, hd, sn, sub, ab, col, del⟩ := cd
      dsimp only at hm hdel hdict
      subst hm hdel hdict
      have hsl : sl = #[k0, k1, k2, k3, some (.builtin "ValueError.__new__"), k5] := by
        obtain ⟨l⟩ := sl
        simp only at hs
        rw [hs]
      subst hsl
      exact ⟨nm, qn, ns, bs, bm, sn, sub, ab, col, dd, k0, k1, k2, k3, k5, ho, ht⟩
    · cases q
  · cases q
/-- the fields that errors have beside their word -/
abbrev errFlds : List Str := ["column", "first", "letter", "most", "name", "number", "second", "sign"]
/-- C, an error class below D (or D itself) -/
structure Bad (K : PySem.W.Frag) (C D : Addr) : Prop where
  ox : OexC K C
  sub : PySem.W.mroIn K C (.ref D) = some true
  opq : PySem.W.nsIn K PySem.cStatics "thirdparty.any" = some none
  sV : PySem.W.subIn K (.ref C) (.type "ValueError") = some true
  smV : PySem.W.ks_superIn K C D "__init__" = some (some (.builtin "ValueError.__init__"))
  ex : ExcC K C
  nw : PySem.W.findIn K (.ref C) "word" = some none
  nf : ∀ f ∈ errFlds, PySem.W.findIn K (.ref C) f = some none
def badL (K : PySem.W.Frag) (C D : Addr) : List Bool :=
  [oexB K C, decide (PySem.W.findIn K (.ref C) "__setattr__" = some (some (.builtin "object.__setattr__"))), decide (PySem.W.subIn K (.ref C) (.type "BaseException") = some true), decide (PySem.W.typeIn K (.ref C) = some (.type "type")), PySem.W.keepIn K (.ref C),
   decide (PySem.W.mroIn K C (.ref D) = some true), decide (PySem.W.nsIn K PySem.cStatics "thirdparty.any" = some none), decide (PySem.W.subIn K (.ref C) (.type "ValueError") = some true), decide (PySem.W.ks_superIn K C D "__init__" = some (some (.builtin "ValueError.__init__"))),
   decide (PySem.W.findIn K (.ref C) "__getattribute__" = some (some (.builtin "BaseException.__getattribute__"))), decide (PySem.W.findIn K (.ref C) "__getattr__" = some none), PySem.W.hasDictIn K C, decide (PySem.W.findIn K (.ref C) "__class__" = some (some (.builtin "object.__class__"))),
   decide (PySem.W.specialIn K (.builtin "object.__class__") "__get__" = some (some (.builtin "getset_descriptor.__get__"))), decide (PySem.W.takesIn K (.builtin "object.__class__") = some true), decide (PySem.W.mroIn K C (.type "object") = some true), decide (PySem.W.findIn K (.ref C) "word" = some none),
   errFlds.all fun f => decide (PySem.W.findIn K (.ref C) f = some none)]
def badB (K : PySem.W.Frag) (C D : Addr) : Bool := (badL K C D).all id
theorem bad_of {K : PySem.W.Frag} {C D : Addr} (h : badB K C D = true) : Bad K C D := by
  unfold badB badL at h
  rw [List.all_cons, List.all_cons, List.all_cons, List.all_cons, List.all_cons, List.all_cons, List.all_cons, List.all_cons, List.all_cons, List.all_cons, List.all_cons, List.all_cons, List.all_cons, List.all_cons, List.all_cons, List.all_cons, List.all_cons, List.all_cons, List.all_nil] at h
  simp only [id_eq, Bool.and_true, Bool.and_eq_true, decide_eq_true_eq] at h
  obtain ⟨h1, h2, h3, h4, h5, h6, h7, h8, h9, h10, h11, h12, h13, h14, h15, h16, h17, h18⟩ := h
  exact ⟨⟨oexB_ok h1, h2, h3, h4, h5⟩, h6, h7, h8, h9, ⟨h10, h11, h3, h12, h13, h14, h15, h16⟩, h17, fun f hf => of_decide_eq_true (List.all_eq_true.mp h18 f hf)⟩
theorem Bad.xf {K : PySem.W.Frag} {C D : Addr} (B : Bad K C D) : XfC K C := ⟨B.ex.hg, B.ex.hk, B.ex.hs, B.ex.hd⟩
theorem Bad.cls {K : PySem.W.Frag} {C D : Addr} (B : Bad K C D) : ∃ cd, PySem.W.clsIn K C = some cd := by
  obtain ⟨nm, q, N, bs, bm, sn, sub, ab, col, dd, k0, k1, k2, k3, k5, hC, hbm⟩ := B.ox.cls
  exact ⟨_, by unfold PySem.W.clsIn; rw [hC] <;> rfl⟩
def fileB (K : PySem.W.Frag) (cd : Value) (file : Str) : Bool := match cd with
  | .ref c => (match K.lookup c with
    | some ⟨_, _, .fields vs, _⟩ => (match (vs[2]? : Option Value) with
      | some (Value.str f _) => file == f
      | _ => false)
    | _ => false)
  | _ => false
theorem fileB_ok {K : PySem.W.Frag} {cd : Value} {file : Str} (h : fileB K cd file = true) : ∃ (cda : Addr) (ccl : Value) (cdd : Option Addr) (vs : Array Value) (ccs : Array (Option Value)) (f : Str) (tf : Tok), cd = .ref cda ∧ K.lookup cda = some ⟨ccl, cdd, .fields vs, ccs⟩ ∧ vs[2]? = some (.str f tf) ∧ (file == f) = true := by
  unfold fileB at h
  split at h
  · split at h
    · rename_i hl
      split at h
      · rename_i hv
        exact ⟨_, _, _, _, _, _, _, rfl, hl, hv, h⟩
      · cases h
    · cases h
  · cases h

/-! ### the __init__ defs -/
def sp_CE (K : PySem.W.Frag) (D : Addr) : Sp := fun vs H Q E => ∃ (a C : Addr) (v : V), vs = [.ref a, v] ∧ Bad K C D ∧ H a = some (exo a C none) ∧
  ∀ dx, H dx = none → dx ≠ a → Q .non (upd (upd H dx (exd dx [("word", v)])) a (exo a C (some dx)))
def sp_B0 (C : Addr) (nm : Str) : Sp := fun vs H Q E => ∃ (a : Addr), vs = [.ref a] ∧ H a = some (exo a C none) ∧
  ∀ dx, H dx = none → dx ≠ a → Q .non (upd (upd H dx (exd dx [("word", .str nm)])) a (exo a C (some dx)))
def sp_B1 (C : Addr) (nm at1 : Str) : Sp := fun vs H Q E => ∃ (a : Addr) (v : V), vs = [.ref a, v] ∧ H a = some (exo a C none) ∧
  ∀ dx, H dx = none → dx ≠ a → Q .non (upd (upd (upd H dx (exd dx [("word", .str nm)])) a (exo a C (some dx))) dx (exd dx [(at1, v), ("word", .str nm)]))

section
variable {P : Program} {w : World} {K : PySem.W.Frag} {mg : Str → Option Value} {base : Heap}
/-- an __init__ of the text that says super() -/
structure SupI (P : Program) (K : PySem.W.Frag) (mg : Str → Option Value) (qual : Str) (s : Stmt) (D : Addr) (N : List Str) (f : Addr) (fd : FuncData) : Prop where
  ex : ∃ (oc : Value) (od : Option Addr) (dV kV doc pm : Value) (an : Option Addr) (cdv ct : Value) (osl : Array (Option Value)) (cc : Addr) (cl : Value) (cld : Option Addr) (csl : Array (Option Value)),
    fd = PySem.W.ksFn "__init__" qual (defArgs s) (defBody s) (defScope s) dV kV doc pm an cdv ct cc ∧ K.lookup f = some ⟨oc, od, .func fd, osl⟩ ∧ PySem.W.codeIn K cdv qual = true ∧ K.lookup cc = some ⟨cl, cld, .cell (some (.ref D)), csl⟩ ∧ fileB K cdv P.main.file = true
  sc : SupScope N N (defScope s)
  hs : (defScope s).names.lookup ("super" : Str) = some .globalImplicit
  hc : (defScope s).names.lookup ("__class__" : Str) = some .free
  hl : (defScope s).names.lookup ("self" : Str) = some .local
  ar : ∃ ar : Arg, ((defArgs s).posonlyargs ++ (defArgs s).args).head? = some ar ∧ ar.arg = "self"
  su : mg "super" = none
  tp : (P.main.scope.names.lookup ("super" : Str)).isSome = false
  dc : ∃ cd, PySem.W.clsIn K D = some cd

theorem SupI.supK {qual : Str} {s : Stmt} {D f : Addr} {fd : FuncData} {N : List Str} (S : SupI P K mg qual s D N f fd) {oc : Value} {od : Option Addr} {dV kV doc pm : Value} {an : Option Addr} {cdv ct : Value} {osl : Array (Option Value)} {cc : Addr} {cl : Value} {cld : Option Addr} {csl : Array (Option Value)}
    (hfd : fd = PySem.W.ksFn "__init__" qual (defArgs s) (defBody s) (defScope s) dV kV doc pm an cdv ct cc) (lk : K.lookup f = some ⟨oc, od, .func fd, osl⟩) (lc : K.lookup cc = some ⟨cl, cld, .cell (some (.ref D)), csl⟩) (hf : fileB K cdv P.main.file = true)
    (A : Around) (outer : List Env) (sh : Shared) (H : Hp) : SupK (cxS P w K mg base N qual (defScope s) f cdv cc A outer sh H) D := by
  obtain ⟨ar, h1, h2⟩ := S.ar
  obtain ⟨cda, ccl, cdd, vs, ccs, fl, tf, e, l, v, b⟩ := fileB_ok hf
  exact ⟨S.hs, S.hc, S.hl, ⟨f, oc, od, fd, osl, ar, rfl, lk, by subst hfd; exact h1, h2⟩, ⟨cda, ccl, cdd, vs, ccs, fl, tf, e, l, v, b⟩, ⟨cc, cl, cld, csl, by show List.lookup ("__class__" : Str) [(("__class__" : Str), cc)] = some cc; simp [List.lookup], lc⟩, S.su, S.tp, S.dc⟩

/-- super().__init__(e, ..) is a call of a method as it stands on one line -/
def SupEv (e : Expr) (es : List Expr) (p0 p1 p2 p3 p4 : Pos) : Prop := ∃ pl : Sem Bool, ∀ env : Env, eval (.Call (.Attribute (.Call (.Name "super" p0) [] [] p1) "__init__" p2) (e :: es) [] p3) env = (do
      let ov ← attributeBase (.Call (.Name "super" p0) [] [] p1) "__init__" env (eval (.Call (.Name "super" p0) [] [] p1) env)
      standAt p2.atName
      let (f, first) ← holding [ov] (getMethod ov "__init__" pl)
      callWith p3 f first (backTo p3 (starEach (e :: es) env)) [])
theorem ok_CE {s : Stmt} {D f : Addr} {fd : FuncData} {p0 p1 p2 p3 p4 q0 q1 q2 q3 q4 : Pos} (S : SupI P K mg "ChamberError.__init__" s D ["self", "word"] f fd)
    (hb : defBody s = [supStmt (.Name "word" q0) [] p0 p1 p2 p3 p4, .Assign [.Attribute (.Name "self" q1) "word" q2] (.Name "word" q3) q4])
    (ev : SupEv (.Name "word" q0) [] p0 p1 p2 p3 p4) (hw : (defScope s).names.lookup ("word" : Str) = some .local) : FnOk P w K mg base CX0 1 f fd ["self", "word"] (sp_CE K D) := by
  obtain ⟨oc, od, dV, kV, doc, pm, an, cdv, ct, osl, cc, cl, cld, csl, hfd, lk, hcd, lc, hf⟩ := S.ex
  have hfd' := hfd
  rw [hb] at hfd
  have lk' := lk
  subst hfd
  refine fn_sup lk' hcd lc S.sc (fun vs H Q E ⟨a, C, v, e, _⟩ => by rw [e]; rfl) fun A outer sh H vs Q E hr hsp => ?_
  have SK := S.supK (w := w) (base := base) hfd' lk lc hf A outer sh H
  have nd := S.sc.nd
  refine ⟨_, _, pst_supV SK rfl (pa_cons (pe_var (i := 1) rfl (.inl hw)) pa_nil) (hc := ev.choose_spec _), pss_one (ps_ost (pe_var (i := 0) rfl (.inl S.hl)) (pe_var (i := 1) rfl (.inl hw))), ?_⟩
  obtain ⟨a, C, v, rfl, B, ea, hq⟩ := hsp
  refine ⟨a, C, rfl, ea, B.ox, B.sub, B.opq, B.smV, B.sV, ?_⟩
  refine ⟨v, rfl, by simp, ea, ?_⟩
  exact ⟨v, rfl, .ref a, rfl, a, C, rfl, B.ox, B.nw, .inl ⟨ea, fun dx n ne => hq dx n ne⟩⟩
theorem ok_B0 {s : Stmt} {C D f f2 : Addr} {qual nm : Str} {fd fd2 : FuncData} {jc : Nat} {p0 p1 p2 p3 p4 q0 : Pos} (S : SupI P K mg qual s C ["self"] f fd)
    (hb : defBody s = [supStmt (.Constant (.str nm) jc q0) [] p0 p1 p2 p3 p4]) (ev : SupEv (.Constant (.str nm) jc q0) [] p0 p1 p2 p3 p4)
    (F1 : FnOk P w K mg base CX0 1 f2 fd2 ["self", "word"] (sp_CE K D)) (hbs : Binds K fd2 ["self", "word"] []) (B : Bad K C D) (sub : PySem.W.mroIn K C (.ref C) = some true) (sm : PySem.W.ks_superIn K C C "__init__" = some (some (.ref f2)))
    (ht : PySem.W.typeIn K (.ref f2) = some (.type "function")) (hf2 : PySem.W.fnIn K f2 = true) : FnOk P w K mg base CX0 2 f fd ["self"] (sp_B0 C nm) := by
  obtain ⟨oc, od, dV, kV, doc, pm, an, cdv, ct, osl, cc, cl, cld, csl, hfd, lk, hcd, lc, hf⟩ := S.ex
  have hfd' := hfd
  rw [hb] at hfd
  have lk' := lk
  subst hfd
  refine fn_sup lk' hcd lc S.sc (fun vs H Q E ⟨a, e, _⟩ => by rw [e]; rfl) fun A outer sh H vs Q E hr hsp => ?_
  have SK := S.supK (w := w) (base := base) hfd' lk lc hf A outer sh H
  refine ⟨_, _, pst_supF SK rfl F1 hr hbs pass0 ht hf2 (pa_cons pe_str pa_nil) (hc := ev.choose_spec _), pss_nil, ?_⟩
  obtain ⟨a, rfl, ea, hq⟩ := hsp
  refine ⟨a, C, rfl, ea, B.ox, sub, B.opq, sm, ?_⟩
  exact ⟨a, C, .str nm, rfl, B, ea, fun dx n ne => hq dx n ne⟩
theorem ok_B1 {s : Stmt} {C D f f2 : Addr} {qual nm at1 : Str} {fd fd2 : FuncData} {jc : Nat} {p0 p1 p2 p3 p4 q0 q1 q2 q3 q4 : Pos} (S : SupI P K mg qual s C ["self", at1] f fd)
    (hb : defBody s = [supStmt (.Constant (.str nm) jc q0) [] p0 p1 p2 p3 p4, .Assign [.Attribute (.Name "self" q1) at1 q2] (.Name at1 q3) q4]) (ev : SupEv (.Constant (.str nm) jc q0) [] p0 p1 p2 p3 p4)
    (hw : (defScope s).names.lookup at1 = some .local) (hd1 : (at1 == ("__debug__" : Str)) = false) (hd2 : (at1 == ("__classdict__" : Str)) = false) (na : PySem.W.findIn K (.ref C) at1 = some none)
    (F1 : FnOk P w K mg base CX0 1 f2 fd2 ["self", "word"] (sp_CE K D)) (hbs : Binds K fd2 ["self", "word"] []) (B : Bad K C D) (sub : PySem.W.mroIn K C (.ref C) = some true) (sm : PySem.W.ks_superIn K C C "__init__" = some (some (.ref f2)))
    (ht : PySem.W.typeIn K (.ref f2) = some (.type "function")) (hf2 : PySem.W.fnIn K f2 = true) : FnOk P w K mg base CX0 2 f fd ["self", at1] (sp_B1 C nm at1) := by
  obtain ⟨oc, od, dV, kV, doc, pm, an, cdv, ct, osl, cc, cl, cld, csl, hfd, lk, hcd, lc, hf⟩ := S.ex
  have hfd' := hfd
  rw [hb] at hfd
  have lk' := lk
  subst hfd
  refine fn_sup lk' hcd lc S.sc (fun vs H Q E ⟨a, v, e, _⟩ => by rw [e]; rfl) fun A outer sh H vs Q E hr hsp => ?_
  have SK := S.supK (w := w) (base := base) hfd' lk lc hf A outer sh H
  refine ⟨_, _, pst_supF SK rfl F1 hr hbs pass0 ht hf2 (pa_cons pe_str pa_nil) (hc := ev.choose_spec _), pss_one (ps_ost (pe_var (i := 0) rfl (.inl S.hl)) (pe_var (i := 1) rfl (.inl hw) hd1 hd2)), ?_⟩
  obtain ⟨a, v, rfl, ea, hq⟩ := hsp
  refine ⟨a, C, rfl, ea, B.ox, sub, B.opq, sm, ?_⟩
  refine ⟨a, C, .str nm, rfl, B, ea, fun dx n ne => ?_⟩
  refine ⟨v, rfl, .ref a, rfl, a, C, rfl, B.ox, na, .inr ⟨dx, [("word", .str nm)], upd_same, ?_, by simp, hq dx n ne⟩⟩
  rw [upd_ne ne, upd_same]
end

/-! ### C(..) in a raise -/
def tBad (C : Addr) (nm : Str) : L2.St → Hp → XK → Prop := fun σ H Q => ∀ d, H d = none → Q (.ref C) (some d) (upd H d (.xd [("word", .str nm)]))
def tBad1 (C : Addr) (nm at1 : Str) (te : TE) : L2.St → Hp → XK → Prop := tMkO C (sp_B1 C nm at1) [] (tCons te tNil)
theorem heap_end {H : Hp} {a dx : Addr} {o1 o2 o3 : HO} {fs : List (Str × V)} (n : H a = none) (ne : dx ≠ a) : upd (del (upd (upd (upd H a o1) dx o2) a o3) a) dx (.xd fs) = upd H dx (.xd fs) := by
  funext b
  by_cases h1 : b = dx
  · rw [h1, upd_same, upd_same]
  · rw [upd_ne h1, upd_ne h1]
    by_cases h2 : b = a
    · rw [h2, del_same, n]
    · rw [del_ne h2, upd_ne h2, upd_ne h1, upd_ne h2]
theorem heap_end1 {H : Hp} {a dx : Addr} {o1 o2 o3 o4 : HO} {fs : List (Str × V)} (n : H a = none) (ne : dx ≠ a) : upd (del (upd (upd (upd (upd H a o1) dx o2) a o3) dx o4) a) dx (.xd fs) = upd H dx (.xd fs) := by
  funext b
  by_cases h1 : b = dx
  · rw [h1, upd_same, upd_same]
  · rw [upd_ne h1, upd_ne h1]
    by_cases h2 : b = a
    · rw [h2, del_same, n]
    · rw [del_ne h2, upd_ne h1, upd_ne h2, upd_ne h1, upd_ne h2]
section
variable {X : Cx} {x : Str} {C fI : Addr} {k : Nat} {fd : FuncData} {p pos : Pos}
theorem run_bad {ps : List Str} {sp : Sp} (T : OexC X.K C) (iC : PySem.W.findIn X.K (.ref C) "__init__" = some (some (.ref fI))) (tI : PySem.W.typeIn X.K (.ref fI) = some (.type "function"))
    (F1 : FnOk X.prog X.w X.K X.mg X.base CX0 k fI fd ps sp) (hr : Room (k + 1) X.A) (hb : Binds X.K fd ps []) {pins : List (Addr × Obj)} {σ : L2.St} {H : Hp} {s : Shared} {Q : XK} (I : Inv X pins σ H s)
    (h : ∀ a, H a = none → sp [.ref a] (upd H a (exo a C none)) (fun v H2 => v = .non ∧ ∃ (d : Addr) (fs : List (Str × V)), H2 a = some (exo a C (some d)) ∧ H2 d = some (exd d fs) ∧ H d = none ∧ Q (.ref C) (some d) (upd (del H2 a) d (.xd fs))) (fun _ _ _ => False)) :
    wpAny (model X.prog X.w) X.A (call (.ref C) []) (MkP X pins σ Q) X.xe s := by
  obtain ⟨nm, q, N, bs, bm, sn, sub, ab, col, dd, k0, k1, k2, k3, k5, hC, hbm⟩ := T.cls
  obtain ⟨hp, g, dr, tk, os⟩ := s
  have hsz : hp.objs.size ≤ hp.objs.size + 1 := Nat.le_succ _
  have hn : H (hp.objs.size + 1) = none := I.hok.fresh hsz
  have hq := h (hp.objs.size + 1) hn
  have kk : ∀ b o, hp.get? b = some o → ((hp.push (PySem.W.kdv_tup [])).push (PySem.HandSPX.excO C hp.objs.size)).get? b = some o := fun b o e => Heap.get?_push_of_some _ (Heap.get?_push_of_some _ e)
  have hget : ((hp.push (PySem.W.kdv_tup [])).push (PySem.HandSPX.excO C hp.objs.size)).get? (hp.objs.size + 1) = some (PySem.HandSPX.excO C hp.objs.size) := by heap_get
  have I2 : Inv X pins σ (upd H (hp.objs.size + 1) (exo (hp.objs.size + 1) C none)) ⟨(hp.push (PySem.W.kdv_tup [])).push (PySem.HandSPX.excO C hp.objs.size), g, dr, tk, os⟩ :=
    I.laid (t' := tk) (a := hp.objs.size + 1) (o := exo (hp.objs.size + 1) C none) (h' := (hp.push (PySem.W.kdv_tup [])).push (PySem.HandSPX.excO C hp.objs.size)) kk hsz (exo_ok hget)
  have r2 : Vals [V.ref (hp.objs.size + 1)] [Value.ref (hp.objs.size + 1)] := .cons rfl .nil
  have hl : ([Value.ref (hp.objs.size + 1)] ++ []).length = ps.length := by
    have e := r2.length
    rw [F1.len _ _ _ _ hq] at e
    exact e.symm
  refine wpAny_call (PySem.HandSPX.call_own (rest := []) F.excBase_ValueError (fun Y => PySem.HandSPX.refsVE_contains Y bm hbm) (I.kIn _ _ hC) (PySem.W.looks_findIn I.kIn iC) (fun self => PySem.W.bind_fn I.kIn self tI) (Nat.zero_le _)
    (codeAny_mono (F1.run _ X.stack _ _ ⟨[Value.ref (hp.objs.size + 1)], []⟩ ([Value.ref (hp.objs.size + 1)] ++ []) _ _ (fun _ _ _ => False) (hr.make C [] []) (I2.env0.make C [] []) (hb _ [Value.ref (hp.objs.size + 1)] I2.kIn hl) r2 hq) fun r s' hq' => ?_))
  cases r with
  | error er => exact False.elim hq'
  | ok fl =>
    cases fl with
    | ret u =>
      obtain ⟨v, H2, os2, bare2, un2, hok2, rv, ev, d, fs, ea, ed, hd1, q2⟩ := hq'
      subst ev
      obtain ⟨h2, g2, d2, t2, os'⟩ := s'
      exact ⟨rv, mk_end (raises_own T.exC T.tyC) I hsz kk un2 hok2 os2 bare2 ea ed hd1 q2⟩
    | next => exact False.elim hq'
    | brk => exact False.elim hq'
    | cont => exact False.elim hq'
theorem pmk_bad0 {nm : Str} (T : OexC X.K C) (iC : PySem.W.findIn X.K (.ref C) "__init__" = some (some (.ref fI))) (tI : PySem.W.typeIn X.K (.ref fI) = some (.type "function"))
    (F1 : FnOk X.prog X.w X.K X.mg X.base CX0 k fI fd ["self"] (sp_B0 C nm)) (hr : Room (k + 1) X.A) (hb : Binds X.K fd ["self"] []) (hg : Gl X x) (hm : X.mg x = some (.ref C)) (hdb : (x == ("__debug__" : Str)) = false := by decide) :
    PMk X (.Call (.Name x p) [] [] pos) (tBad C nm) := by
  intro pins s σ H Q I h
  refine wpAny_Call_Name_kw (ld_glob I hg hm ?_ hdb)
  refine PySem.W.callWith_K0 I.kIn T.kC ?_
  refine run_bad T iC tI F1 hr hb I fun a na => ⟨a, rfl, upd_same, fun dx nx ne => ?_⟩
  have nx0 : H dx = none := by rw [upd_ne ne] at nx; exact nx
  refine ⟨rfl, dx, _, upd_same, by rw [upd_ne ne, upd_same], nx0, ?_⟩
  rw [heap_end na ne]
  exact h dx nx0
theorem pmk_bad1 {nm at1 : Str} {e : Expr} {te : TE} (T : OexC X.K C) (iC : PySem.W.findIn X.K (.ref C) "__init__" = some (some (.ref fI))) (tI : PySem.W.typeIn X.K (.ref fI) = some (.type "function"))
    (F1 : FnOk X.prog X.w X.K X.mg X.base CX0 k fI fd ["self", at1] (sp_B1 C nm at1)) (hr : Room (k + 1) X.A) (hb : Binds X.K fd ["self", at1] []) (hg : Gl X x) (hm : X.mg x = some (.ref C)) (ha : PE X e te) (hdb : (x == ("__debug__" : Str)) = false := by decide)
    (he : starEach [e] X.env = (false, eval e X.env) :: starEach [] X.env := by rfl) (hpl : (backTo pos (starEach [] X.env)).any (·.1) = false := by rfl) :
    PMk X (.Call (.Name x p) [e] [] pos) (tBad1 C nm at1 te) :=
  pmk_oex (CX := CX0) (dvs := []) (ds := []) (ta := tCons te tNil) T iC tI F1 hr hb .nil pass0 hg hm (pa_cons ha pa_nil he) hdb he hpl
end
/-- the question that tBad1 leaves behind its argument -/
theorem mk_bad1 {C : Addr} {nm at1 : Str} {v : V} {H1 : Hp} {Q : XK} (h : ∀ d, H1 d = none → Q (.ref C) (some d) (upd H1 d (.xd [(at1, v), ("word", .str nm)]))) :
    [v].length ≤ 1000 ∧ ∀ a, H1 a = none → sp_B1 C nm at1 (.ref a :: ([v] ++ [])) (upd H1 a (exo a C none)) (fun v H2 => v = .non ∧ ∃ (d : Addr) (fs : List (Str × V)), H2 a = some (exo a C (some d)) ∧ H2 d = some (exd d fs) ∧ H1 d = none ∧ Q (.ref C) (some d) (upd (del H2 a) d (.xd fs))) (fun _ _ _ => False) := by
  refine ⟨by simp, fun a na => ⟨a, v, rfl, upd_same, fun dx nx ne => ?_⟩⟩
  have nx0 : H1 dx = none := by rw [upd_ne ne] at nx; exact nx
  refine ⟨rfl, dx, _, ?_, upd_same, nx0, ?_⟩
  · rw [upd_ne (Ne.symm ne), upd_same]
  · rw [heap_end1 na ne]
    exact h dx nx0
end Kb

set_option Elab.async false
set_option linter.all false
set_option maxRecDepth 100000
set_option maxHeartbeats 4000000
namespace Kb
open PySem PySem.Spec PyProof.Rows L2

/-! ### except clauses, with and without 'as' -/
structure Cl where
  c : Value
  slot : Option Nat
  ts : Addr → Value → Option Addr → TS
def endsOf (D : Ends) : Option Nat → Ends
  | none => D
  | some i => { nx := fun σ' H' => D.nx (σ'.set i none) H', rt := D.rt, bk := fun σ' H' => D.bk (σ'.set i none) H', ct := fun σ' H' => D.ct (σ'.set i none) H' }
def setOf (σ : L2.St) (a : Addr) : Option Nat → L2.St
  | none => σ
  | some i => σ.set i (some (.ref a))
/-- what the clauses wish of an exception of the body, one after the other -/
def wAll (K : PySem.W.Frag) (Wout : WX) (D : Ends) : List Cl → WX
  | [] => Wout
  | q :: r => fun cls d σ H => ∃ b, PySem.W.exmOne K cls q.c = some b ∧ (b = true → ∀ a, H a = none → q.ts a cls d (endsOf D q.slot) (setOf σ a q.slot) H) ∧ (b = false → wAll K Wout D r cls d σ H)
inductive HdsA (X : Cx) : List ExceptHandler → List Cl → Prop
  | nil : HdsA X [] []
  | no {x : Str} {c : Value} {ts : Addr → Value → Option Addr → TS} {b₀ : Stmt} {suite : List Stmt} {np pos' : Pos} {hds : List ExceptHandler} {l : List Cl} (hc : Names X x c)
      (hsu : ∀ (a : Addr) (oe : Obj) (cls : Value) (d : Option Addr) (pn : List (Addr × Obj)), Zc cls d oe → (∃ vs, oe.data = .fields vs) → PSs (X.suite a ((a, oe) :: pn)) (b₀ :: suite) (ts a cls d)) (r : HdsA X hds l) :
      HdsA X (.ExceptHandler (some (.Name x np)) none (b₀ :: suite) pos' :: hds) (⟨c, none, ts⟩ :: l)
  | as {x n : Str} {i : Nat} {c : Value} {ts : Addr → Value → Option Addr → TS} {b₀ : Stmt} {suite : List Stmt} {np pos' : Pos} {hds : List ExceptHandler} {l : List Cl} (hc : Names X x c) (hi : X.N[i]? = some n) (hln : X.env.kindOf n = some .local)
      (hsu : ∀ (a : Addr) (oe : Obj) (cls : Value) (d : Option Addr) (pn : List (Addr × Obj)), Zc cls d oe → (∃ vs, oe.data = .fields vs) → PSs (X.suite a ((a, oe) :: pn)) (b₀ :: suite) (ts a cls d)) (r : HdsA X hds l) :
      HdsA X (.ExceptHandler (some (.Name x np)) (some n) (b₀ :: suite) pos' :: hds) (⟨c, some i, ts⟩ :: l)
section
variable {X : Cx} {body : List Stmt} {h₀ : ExceptHandler} {hds : List ExceptHandler} {l : List Cl} {pos : Pos} {tb : WX → TS} {Wout : WX}
theorem ps_try_all (hs : X.stack = X.env :: X.outer) (hf : X.env.frame = some X.env.locals) (hN : X.N.Nodup) (tk : Takes X Wout)
    (hb : ∀ (W : WX) (pn : List (Addr × Obj)) (xe : Value → Shared → Prop), Takes (X.tr pn xe) W → PassesOwn (model X.prog X.w) X.A X.env xe → PSs (X.tr pn xe) body (tb W))
    (hh : HdsA X (h₀ :: hds) l) : PS X (.Try body (h₀ :: hds) [] [] pos) (fun D σ H => tb (wAll X.K Wout D l) D σ H) := by
  refine ⟨fun pins s σ H D I h => ?_⟩
  have ok := I.ok
  have hfr : X.A.frames = some (X.env :: X.outer) := by rw [ok.frames, hs]
  refine wpAny_Try_except ?_
  refine wpAny_mono ((hb (wAll X.K Wout D l) (X.pn ++ pins) (fun e s₁ => wpAny (model X.prog X.w) X.A (noteFrame e X.env) (fun _ s₂ => wpAny (model X.prog X.w) X.A (setFlight e none) (fun _ s₃ =>
    wpAny (model X.prog X.w) X.A (handleBy e X.env (h₀ :: hds)) (SP X pins D) X.xe s₃) X.xe s₂) X.xe s₁) (fun u s' xx => ?_) PassesOwn.looking).run [] s σ H D (I.toTry _) h) (fun f s1 hsp => ?_) (fun e s1 he => he)
  · obtain ⟨a, B, sI, pins', σ', H', cls, d, rfl, J', nb, up, sky, na, os, ag, w⟩ := xx
    have J : Inv X pins σ' H' sI := J'.ofTry ok
    have sky' : Sky B (X.env :: X.outer) a (Zc cls d) X.env.locals s'.heap := by rw [← hs]; exact sky
    show wpAny (model X.prog X.w) X.A (noteFrame (.ref a) X.env) _ _ _
    refine Sky.land Zc.steady hfr hf sky' fun h3 fl3 up3 => ?_
    have J3 : Inv X pins σ' H' { s' with heap := h3 } := J.landed nb fl3.1 (up.trans up3) os ag
    obtain ⟨oe3, vs3, he3, hz3, hd3⟩ := fl3.there
    have notFr : ∀ {h : Heap} {o : Obj} {vs : Array Value}, h.FunFrames B (X.env :: X.outer) → h.get? a = some o → o.data = .fields vs → a ∉ frs (X.env :: X.outer) := fun {h o vs} ff e dd hm => by
      obtain ⟨_, o', e', hnf⟩ := ff.mem hm
      rw [e] at e'; cases e'
      exact hnf _ dd
    have nfr := notFr fl3.2.2.1 he3 hd3
    have nL : a ≠ X.env.locals := fun z => nfr (List.mem_filterMap.mpr ⟨X.env, List.mem_cons_self, by rw [hf, z]⟩)
    have nF : a ∉ X.fs := fun hm => by
      obtain ⟨e, he, q⟩ := List.mem_filterMap.mp hm
      exact nfr (List.mem_filterMap.mpr ⟨e, List.mem_cons_of_mem _ he, q⟩)
    have S3 := J3.suite he3 hd3 na nL nF
    have test : ∀ {x : Str} {c : Value} {np : Pos}, Names X x c → ∀ {Q : Value → Shared → Prop} {E : Value → Shared → Prop}, Q c { s' with heap := h3 } → wpAny (model X.prog X.w) (X.A.mark (some (.ref a))) (eval (.Name x np) X.env) Q E { s' with heap := h3 } := fun {x c np} hc {Q E} q => by
      obtain ⟨hg, hdbg, hm | ⟨hm, hv, hnn⟩⟩ := hc
      · exact ld_glob (X := X.suite a ((a, oe3) :: (X.pn ++ pins))) S3 hg hm q hdbg
      · exact ld_blt (X := X.suite a ((a, oe3) :: (X.pn ++ pins))) S3 hg hm hv q hnn hdbg
    have LT : PySem.W.Looks (model X.prog X.w) h3 (typeOf (.ref a)) cls := fun A Q E s k q => wpAny_typeOf_ref (k _ _ he3) (by rw [hz3.1]; exact q)
    have go : ∀ {hds' : List ExceptHandler} {l' : List Cl}, HdsA X hds' l' → wAll X.K Wout D l' cls d σ' H' →
        wpAny (model X.prog X.w) X.A (handleBy (.ref a) X.env hds') (SP X pins D) X.xe { s' with heap := h3 } := by
      intro hds' l' hk
      induction hk with
      | nil =>
        intro w
        refine wpAny_handleBy_nil ?_
        obtain ⟨k1, k2, k3, oe, vs, T, oT, ts', he, hz, hd, h1, hr⟩ := id fl3
        unfold PySem.passOn
        refine wpAny_bind (wpAny_field he hd h1 ?_)
        rw [if_neg (show ¬ ((Value.ref T == Value.none) = true) from by simp)]
        have fin : wpAny (model X.prog X.w) X.A (setFlight (.ref a) X.env.frame) (fun _ s4 => wpAny (model X.prog X.w) X.A (throw (.ref a) : Sem Flow) (SP X pins D) X.xe s4) X.xe { s' with heap := h3 } := by
          rw [hf]
          refine HandSPX.setFlight_upZ fl3 fun h4 hh4 up4 => wpAny_throw (tk _ _ ?_)
          exact ⟨a, B, sI, pins, σ', H', cls, d, rfl, J, nb, (up.trans up3).trans up4, .inr (.inr (by rw [hs]; exact hh4)), na, os, ag, w⟩
        first
          | exact wpAny_bind (wpAny_pure (wpAny_bind fin))
          | exact wpAny_bind fin
      | @no x c ts b₀ suite np pos' hds2 l2 hc hsu r ih =>
        intro w
        obtain ⟨b, hb1, hyes, hno⟩ := w
        refine wpAny_handleBy_cons (codeAny_handlers_test ?_) (by intro q; cases q)
        refine test hc ((PySem.W.exm_one (M := model X.prog X.w) (J3.kIn) LT hb1).here ?_)
        cases b with
        | true =>
          refine codeAny_handlers_suite ?_
          refine HandSPX.lands_againZ fl3 fun h4 fl4 up4 => ?_
          have J4 : Inv X pins σ' H' { s' with heap := h4 } := J.landed nb fl4.1 ((up.trans up3).trans up4) os ag
          obtain ⟨oe4, vs4, he4, hz4, hd4⟩ := fl4.there
          have S4 := J4.suite he4 hd4 na nL nF
          refine wpAny_mono ((hsu a oe4 cls d (X.pn ++ pins) hz4 ⟨_, hd4⟩).run [] _ _ H' _ S4 (hyes rfl a na)) (fun f s6 hsp => ?_) (fun _ _ z => False.elim z)
          cases f with
          | next =>
            obtain ⟨σ6, H6, S6, q6⟩ := hsp
            exact ⟨_, _, S6.unsuite ok, q6⟩
          | brk =>
            obtain ⟨σ6, H6, S6, q6⟩ := hsp
            exact ⟨_, _, S6.unsuite ok, q6⟩
          | cont =>
            obtain ⟨σ6, H6, S6, q6⟩ := hsp
            exact ⟨_, _, S6.unsuite ok, q6⟩
          | ret u =>
            obtain ⟨v6, σ6, H6, S6, r6, q6⟩ := hsp
            exact ⟨_, _, _, S6.unsuite ok, r6, q6⟩
        | false =>
          show wpAny _ X.A (handleBy (.ref a) X.env hds2) _ _ _
          exact ih (hno rfl)
      | @as x n i c ts b₀ suite np pos' hds2 l2 hc hi hln hsu r ih =>
        intro w
        obtain ⟨b, hb1, hyes, hno⟩ := w
        have hloc : Loc X.env.scope n := .inl hln
        refine wpAny_handleBy_cons (codeAny_handlers_test ?_) (by intro q; cases q)
        refine test hc ((PySem.W.exm_one (M := model X.prog X.w) (J3.kIn) LT hb1).here ?_)
        cases b with
        | true =>
          refine codeAny_handlers_suite_as ?_
          refine HandSPX.lands_againZ fl3 fun h4 fl4 up4 => ?_
          have J4 : Inv X pins σ' H' { s' with heap := h4 } := J.landed nb fl4.1 ((up.trans up3).trans up4) os ag
          obtain ⟨oe4, vs4, he4, hz4, hd4⟩ := fl4.there
          have S4 := J4.suite he4 hd4 na nL nF
          refine store_ok (X := X.suite a ((a, oe4) :: (X.pn ++ pins))) (v := .ref a) S4 hN hi hloc rfl (fun s5 S5 => ?_) (.inr hln)
          refine wpAny_mono ((hsu a oe4 cls d (X.pn ++ pins) hz4 ⟨_, hd4⟩).run [] s5 _ H' _ S5 (hyes rfl a na)) (fun f s6 hsp => ?_) (fun _ _ z => False.elim z)
          have end_ : ∀ {σ6 : L2.St} {H6 : Hp} {Q : Shared → Prop}, Inv (X.suite a ((a, oe4) :: (X.pn ++ pins))) [] σ6 H6 s6 → (∀ s7, Inv X pins (σ6.set i none) H6 s7 → Q s7) →
              wpAny (model X.prog X.w) X.A (do bindName X.env n .none; unbindBehindTheSuite X.env n pos') (fun _ s7 => Q s7) X.xe s6 := fun {σ6 H6 Q} S6 hq => gone_ok (S6.unsuite ok) hN hi hln hq
          cases f with
          | next =>
            obtain ⟨σ6, H6, S6, q6⟩ := hsp
            exact end_ S6 fun s7 J7 => ⟨_, _, J7, q6⟩
          | brk =>
            obtain ⟨σ6, H6, S6, q6⟩ := hsp
            exact end_ S6 fun s7 J7 => ⟨_, _, J7, q6⟩
          | cont =>
            obtain ⟨σ6, H6, S6, q6⟩ := hsp
            exact end_ S6 fun s7 J7 => ⟨_, _, J7, q6⟩
          | ret u =>
            obtain ⟨v6, σ6, H6, S6, r6, q6⟩ := hsp
            exact end_ S6 fun s7 J7 => ⟨_, _, _, J7, r6, q6⟩
        | false =>
          show wpAny _ X.A (handleBy (.ref a) X.env hds2) _ _ _
          exact ih (hno rfl)
    exact go hh w
  · cases f with
    | next =>
      obtain ⟨σ', H', J', q⟩ := hsp
      exact wpAny_execs_nil ⟨σ', H', J'.ofTry ok, q⟩
    | brk =>
      obtain ⟨σ', H', J', q⟩ := hsp
      exact ⟨σ', H', J'.ofTry ok, q⟩
    | cont =>
      obtain ⟨σ', H', J', q⟩ := hsp
      exact ⟨σ', H', J'.ofTry ok, q⟩
    | ret u =>
      obtain ⟨v, σ', H', J', r, q⟩ := hsp
      exact ⟨v, σ', H', J'.ofTry ok, r, q⟩
end

/-! ### a call that may raise, the locals kept -/
def tCallW (sp : Sp) (W : WX) (t : TA) : TE := fun σ H Q => t σ H fun vs H1 => sp vs H1 Q (fun cls d H' => W cls d σ H')
section
variable {X : Cx} {k : Nat} {ps : List Str} {sp : Sp} {x : Str} {p pos : Pos} {e : Expr} {es : List Expr} {t : TA} {W : WX}
theorem pe_callW (tk : Takes X W) (G : Fn X.prog X.w X.K X.mg X.base (L2.CX X.prog X.w) k x ps sp) (hr : Room k X.A) (hg : Gl X x) (ha : PA X (e :: es) t) (hdb : (x == ("__debug__" : Str)) = false := by decide)
    (he : starEach (e :: es) X.env = (false, eval e X.env) :: starEach es X.env := by rfl) (hpl : (backTo pos (starEach es X.env)).any (·.1) = false := by rfl) : PE X (.Call (.Name x p) (e :: es) [] pos) (tCallW sp W t) := by
  obtain ⟨f, fd, F, hm, hk, hb⟩ := G.ex
  refine ⟨fun pins s σ H Q I h => ?_⟩
  refine wpAny_Call_Name_kw (ld_glob I hg hm ?_ hdb)
  refine PySem.W.callWith_K (h₀ := X.base) I.ok.mod.kin hk (thn (ha.run pos pins s σ H _ I h) fun us s1 ⟨vs, H1, I1, r, q⟩ => ⟨I1.kIn, ?_⟩) he hpl
  show wpAny _ _ (call (.ref f) us) _ _ _
  have hl : (us ++ []).length = ps.length := by rw [List.append_nil, ← r.length]; exact F.len _ _ _ _ q
  have hbs := hb s1 us I1.kIn hl
  rw [List.append_nil] at hbs
  refine wpAny_call (codeAny_mono (F.run X.A X.stack s1 H1 ⟨us, []⟩ us vs Q (fun cls d H' => W cls d σ H') hr I1.env0 hbs r q) fun r s' hq => ?_)
  cases r with
  | error e => exact tk e s' (XE.of_call I1 (fun cls d H' h => h) hq)
  | ok fl =>
    cases fl with
    | ret u => exact I1.after hq
    | next => exact False.elim hq
    | brk => exact False.elim hq
    | cont => exact False.elim hq
end

/-! ### in a suite: e.f, isinstance(e, ..) -/
/-- e.f -/
def tXfA (K : PySem.W.Frag) (a : Addr) (cls : Value) (d : Option Addr) (n : Str) (te : TE) : TE := fun σ H Q => ∃ C : Addr, cls = .ref C ∧ XfC K C ∧ PySem.W.findIn K (.ref C) n = some none ∧ tXf a cls d C n te σ H Q
/-- what isinstance's second says -/
def IsOf (K : PySem.W.Frag) (H : Hp) (C : Addr) (c : V) (b : Bool) : Prop :=
  (∃ cv, (∀ u, RelV c u → u = cv) ∧ PySem.W.kitOne K (.ref C) cv = some b) ∨ ∃ (tp : Addr) (cs : List V) (its : List Value), c = .ref tp ∧ SqT K H tp cs ∧ (∀ us, Vals cs us → us = its) ∧ PySem.W.kitAny K (.ref C) its = some b
def rIsX (K : PySem.W.Frag) (a : Addr) (cls : Value) (d : Option Addr) : List V → Hp → VK → Prop := fun xs H Q =>
  ∃ (c : V) (C dd : Addr) (fs : List (Str × V)) (b : Bool), xs = [.ref a, c] ∧ cls = .ref C ∧ d = some dd ∧ H dd = some (.xd fs) ∧ ExcC K C ∧ IsOf K H C c b ∧ Q (.bl b) H
section
variable {X : Cx} {a : Addr} {oe : Obj} {cls : Value} {d : Option Addr} {pn : List (Addr × Obj)} {e : Expr} {te : TE} {pos : Pos} {n : Str}
theorem pe_xfA (hz : Zc cls d oe) (hf : ∃ vs, oe.data = .fields vs) (he : PE (X.suite a ((a, oe) :: pn)) e te) (hb : attributeBase e n X.env (eval e X.env) = eval e X.env := by rfl) :
    PE (X.suite a ((a, oe) :: pn)) (.Attribute e n pos) (tXfA X.K a cls d n te) := by
  refine ⟨fun pins s σ H Q I h => ?_⟩
  obtain ⟨C, ec, T, hno, h⟩ := h
  exact (pe_xf T hno hz hf he hb).run pins s σ H Q I h
theorem call_isX (hz : Zc cls d oe) (hf : ∃ vs, oe.data = .fields vs) : CallR (X.suite a ((a, oe) :: pn)) (.builtin "isinstance") (rIsX X.K a cls d) := by
  intro pins s σ H xs us Q I r h
  obtain ⟨c, C, dd, fs, b, rfl, ec, ed, hdd, E, io, q⟩ := h
  subst ec
  subst ed
  cases r with
  | cons rx rr =>
    cases rr with
    | cons rt rr =>
      cases rr
      cases rx
      obtain ⟨hget, _⟩ := I.pin (a, oe) (List.mem_append.mpr (.inl List.mem_cons_self))
      obtain ⟨vs, hv⟩ := hf
      have hx : ObjOk X.prog X.w H s.heap dd (.xd fs) := I.hok dd _ hdd
      obtain ⟨od, hod⟩ : ∃ od, s.heap.get? dd = some od := by
        obtain ⟨mA, ⟨o, es, ep, e1, _⟩, _⟩ := hx
        exact ⟨o, e1⟩
      have J : PySem.W.InstAt s.heap a oe C (some od) := by
        obtain ⟨oc, od', oda, osl⟩ := oe
        obtain ⟨h1, h2⟩ := hz
        dsimp only at h1 h2 hv
        subst h1 h2 hv
        exact ⟨hget, rfl, rfl, hod⟩
      obtain ⟨cd, hcd, _⟩ := PySem.W.any_some E.hd
      have KT := PySem.W.kitx_exc (x := a) (ox := oe) (od := some od) (by rw [hcd]; rfl) E.hg E.hk E.hs E.ha E.hn E.ht E.hm
      rcases io with ⟨cv, hcv, e⟩ | ⟨tp, cs, its, rfl, htp, hits, e⟩
      · have ec := hcv _ rt
        subst ec
        exact PySem.W.kia_one KT I.kIn J e (fun z => nomatch z) fun tk => ⟨.bl b, H, I.kept (t' := tk) fun _ _ z => z, rfl, q⟩
      · obtain ⟨its', r', ⟨o, eo, oc, nn, dt⟩, _⟩ := I.tuple htp
        have e2 := hits _ r'
        subst e2
        cases rt
        obtain ⟨o1, o2, o3, o4⟩ := o
        dsimp only at oc dt
        subst oc
        subst dt
        exact PySem.W.kia_tup KT I.kIn J (its := its') eo e (fun z => nomatch z) fun tk => ⟨.bl b, H, I.kept (t' := tk) fun _ _ z => z, rfl, q⟩
end
end Kb

set_option Elab.async false
set_option linter.all false
set_option maxRecDepth 100000
set_option maxHeartbeats 4000000
/-! enumerate of a tuple, from any count -/
namespace Kb
open PySem PySem.Spec PyProof.Rows L2

def IteT (K : PySem.W.Frag) (a : Addr) (k : Int) : It :=
  ⟨fun i H => ∃ (xs : List V) (x : V), SqT K H a xs ∧ xs[i]? = some x, fun i H v H' => ∃ T x, v = .ref T ∧ H T = none ∧ H' = upd H T (.tup [.int (k + (i : Nat)), x]) ∧ ∀ xs, SqT K H a xs → xs[i]? = some x, fun i H => ∃ xs : List V, SqT K H a xs ∧ xs.length = i⟩
theorem turn_enumT {P : Program} {w : World} {K : PySem.W.Frag} {elts : List Expr} {kk : Nat} {tpos : Pos} (a e it : Addr) (k : Int) (hal : e ≠ it) :
    Turn P w K (.Tuple elts kk tpos) (IteT K a k) [e, it] e (fun i h => (∃ old, IsEnum h e it (k + ((i : Nat) : Int)) old) ∧ h.IsTupleIter it a i) where
  mem := by simp
  obj := fun i h st b hb => by
    obtain ⟨⟨old, he⟩, ⟨o, ho, hc, hd⟩⟩ := st
    have e' : b = e ∨ b = it := by simpa using hb
    rcases e' with z | z
    · rw [z]; exact ⟨_, he, fun v q => nomatch q⟩
    · rw [z]; exact ⟨o, ho, fun v q => by rw [hd] at q; cases q⟩
  keep := fun i h h' st k => let ⟨⟨old, he⟩, hi⟩ := st; ⟨⟨old, k e (by simp) _ he⟩, hi.at fun o q => k it (by simp) o q⟩
  item := by
    intro X hP hw hK hc i pins s σ H E I hf st hg
    subst hP hw hK
    obtain ⟨⟨old, he⟩, hit⟩ := st
    obtain ⟨xs, x, hq, hx⟩ := hg
    obtain ⟨its, rv, p, hz⟩ := I.tuple hq
    obtain ⟨u, hu, ru⟩ := rv.get hx
    have hel : e < s.heap.objs.size := Heap.lt_size he
    have hil : it < s.heap.objs.size := by obtain ⟨_, q, _⟩ := hit; exact Heap.lt_size q
    have hne2 : a ≠ it := by
      rintro rfl
      obtain ⟨o1, e1, c1, d1⟩ := hit
      obtain ⟨o2, e2, c2, _⟩ := p
      rw [e1] at e2; cases e2
      rw [c1] at c2; exact absurd c2 (by decide)
    have hne3 : e ≠ a := by
      rintro rfl
      obtain ⟨o2, e2, c2, _⟩ := p
      rw [he] at e2; cases e2
      exact absurd (show (Value.type "enumerate") = .type "tuple" from c2) (by decide)
    have hil2 : i < its.toArray.size := by
      have := (List.getElem?_eq_some_iff.mp hu).1
      simpa using this
    refine wpAny_pyNext_enum_itemC (Draws.tuple (A := X.A.in1) (I.ok.hd hc) it a hne2 its.toArray) he ⟨hit, p⟩ hil2 hal (by simp [hal, hne3]) fun x' h' tk hx' ho hs' hT hsz hk => ?_
    have hxx : its.toArray[i]? = some x' := hx'
    have eux : u = x' := by
      have z : its[i]? = some x' := by simpa using hxx
      rw [hu] at z
      exact Option.some.inj z
    subst eux
    refine ⟨_, rfl, wpAny_letOwnedTupleGo_enum (s := { s with heap := h', toks := tk + 1 }) ho fun h'' he' sb => ?_⟩
    have hT2 : h''.get? s.heap.objs.size = some { cls := .type "tuple", data := .seq #[.int (k + (i : Nat)) tk, u] } := (sb.2 _ (Nat.ne_of_gt hel)).trans hT
    have new : ObjOk X.prog X.w (upd H s.heap.objs.size (.tup [.int (k + (i : Nat)), x])) h'' s.heap.objs.size (.tup [.int (k + (i : Nat)), x]) :=
      ⟨by show 2 ≤ sizeLine; decide, [.int (k + (i : Nat)) tk, u], .cons ⟨_, rfl⟩ (.cons ru .nil), ⟨_, hT2, rfl, _, rfl⟩⟩
    have I1 : Inv X pins σ (upd H s.heap.objs.size (.tup [.int (k + (i : Nat)), x])) { s with heap := h'', toks := tk + 1 } :=
      I.turnedNew (ch := [e, it]) (fun b ob hb q => (sb.2 b (fun z => hb (by simp [z]))).trans (hk b ob (fun z => hb (by simp [z])) (fun z => hb (by simp [z])) q)) hf (Nat.le_refl _) new
    refine ⟨.ref s.heap.objs.size, _, I1, rfl, ⟨_, x, rfl, I.hok.fresh (Nat.le_refl _), rfl, fun ys hy => by rw [I.tuple_inj hy hq]; exact hx⟩, ⟨⟨u, ?_⟩, hs'.1.at fun o q => (sb.2 it (Ne.symm hal)).trans q⟩, fun b hb => ?_⟩
    · have e1 : (k + ((i + 1 : Nat) : Int)) = k + (i : Int) + 1 := by omega
      rw [e1]; exact he'
    · have hb' : b < s.heap.objs.size := by
        have e' : b = e ∨ b = it := by simpa using hb
        rcases e' with z | z
        · rw [z]; exact hel
        · rw [z]; exact hil
      rw [upd_ne (Nat.ne_of_lt hb')]
      exact (hf b hb).1
  done := by
    intro X hP hw hK hc i pins s σ H E I hf st hg
    subst hP hw hK
    obtain ⟨⟨old, he⟩, hit⟩ := st
    obtain ⟨xs, hq, hx⟩ := hg
    obtain ⟨its, rv, p, hz⟩ := I.tuple hq
    obtain ⟨f0, f1, f2, f3, f4, f5⟩ := hf it (by simp)
    have hl := rv.length
    have hne2 : a ≠ it := by
      rintro rfl
      obtain ⟨o1, e1, c1, d1⟩ := hit
      obtain ⟨o2, e2, c2, _⟩ := p
      rw [e1] at e2; cases e2
      rw [c1] at c2; exact absurd c2 (by decide)
    have en : i = its.toArray.size := by simp; omega
    subst en
    exact wpAny_pyNext_enum_endD (Draws.tuple (A := X.A.in1) (I.ok.hd hc) it a hne2 its.toArray) he ⟨hit, p⟩ fun h' eb => ⟨rfl, I.turned (t' := s.toks) (fun b o hb q => eb b o hb q) f0 f1 f3 f4 f5⟩
  self := fun A i s Q E st h => let ⟨⟨_, he⟩, _⟩ := st; wpAny_pyIter_enum he h

set_option maxHeartbeats 1000000 in
theorem meets_enum1 {v : Value} {o : Obj} {H : Heap → Prop} (B : Begins v o H) :
    Meets (Builtin.«enumerate.__new__» ⟨[.type "enumerate", v], []⟩) (fun _ R s => H s.heap ∧
      R (.ok (.ret (.ref (s.heap.push o).objs.size))) { s with heap := (s.heap.push o).push { cls := .type "enumerate", data := .fields #[.none, .bool false, .ref s.heap.objs.size, rawInt 0, .none, .none] } }) :=
  .of_wp fun prog w A R s h => by
    obtain ⟨hp, g, d, tk, os⟩ := s; obtain ⟨h1, h⟩ := h
    have hsub := sub_enumerate
    have q1 : ∀ {A' : Around} {E : Value → Shared → Prop} {Q : Value → Shared → Prop}, Q (.ref hp.objs.size) ⟨hp.push o, g, d, tk, os⟩ → wpAny (model prog w) A' (pyIter v) Q E ⟨hp, g, d, tk, os⟩ :=
      fun q => B.iter prog w _ _ ⟨hp, g, d, tk, os⟩ _ h1 q
    wp_walk using q1
    refine wpAny_stack_any fun st => wpAny_pure ?_
    split
    · rename_i c _ _ _ _ _
      cases (c == Value.type "enumerate")
      · wp_walk using q1
        exact ⟨_, rfl, h⟩
      · wp_walk using q1
        exact ⟨_, rfl, h⟩
    · wp_walk using q1
      exact ⟨_, rfl, h⟩
theorem enum_begins1 {prog : Program} {w : World} {A : Around} {E : Value → Shared → Prop} {s : Shared} {v : Value} {o : Obj} {H : Heap → Prop} {Q : Value → Shared → Prop} (B : Begins v o H) (h1 : H s.heap)
    (h : ∀ h', IsEnum h' (s.heap.objs.size + 1) s.heap.objs.size 0 .none → h'.get? s.heap.objs.size = some o → h'.objs.size = s.heap.objs.size + 2 →
      (∀ b o, s.heap.get? b = some o → h'.get? b = some o) → Q (.ref (s.heap.objs.size + 1)) { s with heap := h' }) :
    wpAny (model prog w) A (call (.type "enumerate") [v]) Q E s := by
  refine callType_new F.called_enumerate (by decide) (F.typeCall_enumerate_1 _) (F.newCall_enumerate_1 _) (fun obj => F.args_object_init_2 obj _) F.entry_enumerate_new
    (meets_enum1 B) ⟨h1, ?_⟩
  have hz : (s.heap.push o).objs.size = s.heap.objs.size + 1 := Heap.size_push ..
  show _ ∧ _
  rw [hz]
  have he : IsEnum ((s.heap.push o).push { cls := .type "enumerate", data := .fields #[.none, .bool false, .ref s.heap.objs.size, rawInt 0, .none, .none] }) (s.heap.objs.size + 1) s.heap.objs.size 0 .none := by
    have := Heap.get?_push_size (s.heap.push o) (o := { cls := .type "enumerate", data := .fields #[.none, .bool false, .ref s.heap.objs.size, rawInt 0, .none, .none] }) rfl
    rw [hz] at this; exact this
  refine ⟨⟨_, he, rfl⟩, h _ he (Heap.get?_push_of_some _ (Heap.get?_push_size _ B.free)) (by rw [Heap.size_push, hz]) fun b o x => Heap.get?_push_of_some _ (Heap.get?_push_of_some _ x)⟩
/-- enumerate(t), enumerate(t, start=k): t a tuple -/
def iEnT (K : PySem.W.Frag) (k : Int) (ta : TA) : TI := fun σ H R => ta σ H fun vs H1 => ∃ a xs, vs = [.ref a] ∧ SqT K H1 a xs ∧ R (IteT K a k) H1
theorem callWith_tyKw {M : Model} {A : Around} {E : Value → Shared → Prop} {s : Shared} {pos : Pos} {T : String} {env : Env} {e : Expr} {rest : List Expr} {kws : List Keyword} {Q : Value → Shared → Prop}
    (h : wpAny M A (spliced (backTo pos (starEach (e :: rest) env))) (fun vs s₁ => wpAny M A (evalAll ((backToKw pos (keywordEach kws env)).map (·.2)))
      (fun kvs s₂ => wpAny M A (call (.type T) vs (((backToKw pos (keywordEach kws env)).filterMap (·.1)).zip kvs)) Q E s₂) E s₁) E s)
    (hall : (backToKw pos (keywordEach kws env)).all (·.1.isSome) = true) (hplain : ((backTo pos (starEach (e :: rest) env)).any (·.1) || (backToKw pos (keywordEach kws env)).any (·.1.isNone)) = false) (he : starEach (e :: rest) env = (false, eval e env) :: starEach rest env) :
    wpAny M A (callWith pos (.type T) [] (backTo pos (starEach (e :: rest) env)) (backToKw pos (keywordEach kws env))) Q E s :=
  PySem.W.callWith_of (P := fun _ => True) hplain (fun h _ => ⟨.machine, .inr (.inl rfl), PySem.W.Looks.now⟩) (PyProof.Rows.evalArgs_kw2 hall (thn h fun vs s1 h1 => thn h1 fun ks s2 h2 => ⟨trivial, h2⟩) he)
section
variable {X : Cx} {e : Expr} {ta : TA} {p pos tpos kp cp : Pos} {elts : List Expr} {kk j : Nat} {k : Int}
theorem enumT_end {pins : List (Addr × Obj)} {σ : L2.St} {H1 : Hp} {s1 : Shared} {R : It → Hp → Prop} {a : Addr} {h' : Heap} {t' : Nat} (I1 : Inv X pins σ H1 s1) (he : IsEnum h' (s1.heap.objs.size + 1) s1.heap.objs.size k .none)
    (hit : h'.get? s1.heap.objs.size = some { cls := .type "tuple_iterator", data := .fields #[.ref a, .int 0 0] }) (hk : ∀ b o, s1.heap.get? b = some o → h'.get? b = some o) (q : R (IteT X.K a k) H1) :
    wpAny (model X.prog X.w) X.A (pyIter (.ref (s1.heap.objs.size + 1))) (PIE X pins σ (.Tuple elts kk tpos) R) X.xe { s1 with heap := h', toks := t' } := by
  refine wpAny_pyIter_enum he ?_
  have I2 : Inv X pins σ H1 { s1 with heap := h', toks := t' } := I1.kept (t' := t') hk
  refine ⟨s1.heap.objs.size + 1, [s1.heap.objs.size + 1, s1.heap.objs.size], _, _, H1, rfl, I2, turn_enumT a (s1.heap.objs.size + 1) s1.heap.objs.size k (Nat.succ_ne_self _), ⟨⟨.none, by simpa using he⟩, ⟨_, hit, rfl, rfl⟩⟩, fun b hb => ?_, q⟩
  have e' : b = s1.heap.objs.size + 1 ∨ b = s1.heap.objs.size := by simpa using hb
  have hle : s1.heap.objs.size ≤ b := by
    rcases e' with z | z
    · rw [z]; exact Nat.le_add_right _ _
    · rw [z]; exact Nat.le_refl _
  exact I1.fpOk hle (I1.hok.fresh hle)
theorem pi_enumT (hg : Gl X "enumerate") (hm : X.mg "enumerate" = none) (ha : PA X [e] ta) (hs : starEach [e] X.env = [(false, eval e X.env)] := by rfl) :
    PI X (.Tuple elts kk tpos) (.Call (.Name "enumerate" p) [e] [] pos) (iEnT X.K 0 ta) := by
  refine ⟨fun pins s σ H R I h => ?_⟩
  refine Call_ (ld_blt I hg hm boot_enumerate (PyProof.Rows.callWith_type1 (thn (ha.run pos pins s σ H _ I h) fun us s1 ⟨vs, H1, I1, r1, q1⟩ => ?_) hs rfl))
  obtain ⟨a, xs, ex, hq, q⟩ := q1
  subst ex
  cases r1 with
  | cons r rr =>
    cases rr
    cases r
    obtain ⟨its, rv, p', hz⟩ := I1.tuple hq
    refine enum_begins1 (begins_tuple a its.toArray) p' fun h' he hit hsz hk => ?_
    exact enumT_end (t' := s1.toks) I1 he hit hk q
theorem pi_enumS (hg : Gl X "enumerate") (hm : X.mg "enumerate" = none) (ha : PA X [e] ta) (h0 : -(2 ^ 63) ≤ k) (h1 : k < 2 ^ 63) (hs : starEach [e] X.env = [(false, eval e X.env)] := by rfl)
    (hc : eval (.Call (.Name "enumerate" p) [e] [⟨some "start", .Constant (.int k) j cp, kp⟩] pos) X.env = (do
      callWith pos (← eval (.Name "enumerate" p) X.env) [] (backTo pos (starEach [e] X.env)) (backToKw pos (keywordEach [⟨some "start", .Constant (.int k) j cp, kp⟩] X.env))) := by rfl) :
    PI X (.Tuple elts kk tpos) (.Call (.Name "enumerate" p) [e] [⟨some "start", .Constant (.int k) j cp, kp⟩] pos) (iEnT X.K k ta) := by
  refine ⟨fun pins s σ H R I h => ?_⟩
  rw [hc]
  refine wpAny_bind (ld_blt I hg hm boot_enumerate (callWith_tyKw (thn (ha.run pos pins s σ H _ I h) fun us s1 ⟨vs, H1, I1, r1, q1⟩ => ?_) rfl (by rw [hs] <;> rfl) hs))
  refine thn ((pk_cons (nm := some "start") (kpos := kp) (pe_int (j := j) (pos := cp)) pk_nil).run pos pins s1 σ H1 (fun ws H2 => ws = [.int k] ∧ H2 = H1) I1 ⟨rfl, rfl⟩) fun ks s2 ⟨ws, H2, I2, r2, ew, eH⟩ => ?_
  subst ew
  subst eH
  obtain ⟨a, xs, ex, hq, q⟩ := q1
  subst ex
  cases r1 with
  | cons r rr =>
    cases rr
    cases r
    cases r2 with
    | cons r3 rr =>
      cases rr
      obtain ⟨t3, rfl⟩ := r3
      obtain ⟨its, rv, p', hz⟩ := I2.tuple hq
      refine PySem.enum_begins_start (begins_tuple a its.toArray) p' h0 h1 fun h' he hit hsz hk => ?_
      exact enumT_end (t' := s2.toks) I2 he hit hk q
end
end Kb

set_option Elab.async false
set_option linter.all false
set_option maxRecDepth 100000
set_option maxHeartbeats 4000000
namespace Kb
open PySem PySem.Spec PyProof.Rows L2

/-- for i, x in enumerate(t, k): the pair is a new tuple each time -/
theorem r_forEnum {K : PySem.W.Frag} {D : Ends} {σ : L2.St} {H : Hp} {tb : TS} {a : Addr} {xs : List V} {k : Int} {p q : Nat} (Pv : Nat → L2.St → Hp → Prop) (h0 : Pv 0 σ H) (hl : ∀ i σ' H', i ≤ xs.length → Pv i σ' H' → SqT K H' a xs)
    (hs : ∀ i x σ' H' H2, xs[i]? = some x → Pv i σ' H' → Same H' H2 → tb { D with nx := Pv (i + 1), ct := Pv (i + 1), bk := D.nx } ((σ'.set p (some (.int (k + (i : Nat))))).set q (some x)) H2)
    (hd : ∀ σ' H', Pv xs.length σ' H' → D.nx σ' H') : PFor (IteT K a k) (gTup K 2 (gCons (gName p) (gCons (gName q) gNil))) tb D σ H := by
  refine ⟨fun i m σ H => m = xs.length - i ∧ i ≤ xs.length ∧ Pv i σ H, ⟨xs.length, by simp, Nat.zero_le _, h0⟩, ?_⟩
  rintro i m σ H ⟨rfl, hi, pv⟩
  have q0 := hl i σ H hi pv
  by_cases hlt : i < xs.length
  · refine .inr ⟨⟨xs, xs[i], q0, by simp [hlt]⟩, Pv (i + 1), fun σ' H' p' => ⟨xs.length - (i + 1), by omega, rfl, hlt, p'⟩, fun x H' y => ?_⟩
    obtain ⟨T, x0, rfl, nT, rfl, hx⟩ := y
    refine ⟨T, [.int (k + (i : Nat)), x0], rfl, .inl (.inl upd_same), rfl, ?_⟩
    refine ⟨_, _, rfl, _, _, rfl, rfl, ?_⟩
    exact hs i x0 σ H _ (hx xs q0) pv (same_new nT)
  · have e : i = xs.length := by omega
    subst e
    exact .inl ⟨⟨xs, q0, rfl⟩, hd σ H pv⟩

section
variable {X : Cx}
theorem flat_ints (ys : List Int) : (ys.map V.int).all flatV = true := by
  rw [List.all_map]
  exact List.all_eq_true.mpr fun _ _ => rfl
/-- t.index(x), ints: the first place -/
def rIndexT (K : PySem.W.Frag) : V → List V → Hp → VK → Prop := fun x xs H Q => ∃ p, ∃ ys : List Int, ∃ z j, x = .ref p ∧ xs = [.int z] ∧ SqT K H p (ys.map V.int) ∧ ys[j]? = some z ∧ (∀ m, m < j → ys[m]? ≠ some z) ∧ Q (.int (j : Nat)) H
theorem mt_indexT : MtR X "tuple.index" (rIndexT X.K) := by
  intro pins s σ H x xs v us Q I rx rs h
  obtain ⟨p, ys, z, j, rfl, rfl, hq, hy, hno, q⟩ := h
  cases rx
  obtain ⟨u, rfl, t, rfl⟩ := vals1 rs
  obtain ⟨its, r, pl, hz⟩ := I.tuple hq
  obtain ⟨⟨cls, dd, dt, sl⟩, ho, hc, n, hd⟩ := pl
  simp only at hc hd
  subst hc
  subst hd
  have hl : its.toArray.size = ys.length := by rw [List.size_toArray, ← r.length, List.length_map]
  have hj : j < its.toArray.size := by rw [hl]; exact (List.getElem?_eq_some_iff.mp hy).1
  have at' : ∀ (m : Nat) (hm : m < its.toArray.size), ∃ y t', ys[m]? = some y ∧ its.toArray[m] = Value.int y t' := fun m hm => by
    have hm' : m < ys.length := by rw [← hl]; exact hm
    obtain ⟨w, hw, t', hw'⟩ := r.get (i := m) (x := .int ys[m]) (by simp [hm'])
    refine ⟨ys[m], t', List.getElem?_eq_getElem hm', ?_⟩
    have e := (List.getElem?_eq_some_iff.mp hw).2
    rw [← hw', ← e]
    simp
  refine call_meets PySem.F.slot_tuple_index ⟨_, ho, rfl⟩ PySem.F.entry_tuple_index (PySem.F.args_tuple_index_2 _ _) (TI.tuple_indexAt p its.toArray n dd sl (.int z t) (eqU (.int z)) j hj ?_ ?_)
    ⟨ho, fun w hw => mem_eqAt (x := .int z) ⟨t, rfl⟩ rfl r (flat_ints ys) w (by simpa using hw), ⟨.int (j : Nat), H, I.tok _, ⟨_, rfl⟩, q⟩⟩
  · obtain ⟨y, t', h1, h2⟩ := at' j hj
    rw [hy] at h1
    cases h1
    rw [h2]
    show (z == z) = true
    exact beq_self_eq_true z
  · intro m hm hmj
    obtain ⟨y, t', h1, h2⟩ := at' m hm
    rw [h2]
    show (y == z) = false
    refine beq_eq_false_iff_ne.mpr fun e => hno m hmj ?_
    rw [h1, e]
/-- xs.index(x), ints, xs a list -/
def rIndexL (K : PySem.W.Frag) : V → List V → Hp → VK → Prop := fun x xs H Q => ∃ p, ∃ ys : List Int, ∃ z j, x = .ref p ∧ xs = [.int z] ∧ SqL K H p (ys.map V.int) ∧ ys[j]? = some z ∧ (∀ m, m < j → ys[m]? ≠ some z) ∧ Q (.int (j : Nat)) H
theorem mt_indexL : MtR X "list.index" (rIndexL X.K) := by
  intro pins s σ H x xs v us Q I rx rs h
  obtain ⟨p, ys, z, j, rfl, rfl, hq, hy, hno, q⟩ := h
  refine mt_index pins s σ H _ _ v us Q I rx rs ⟨p, ys.map V.int, .int z, j, .int z, rfl, rfl, hq, rfl, flat_ints ys, by rw [List.getElem?_map, hy]; rfl, beq_self_eq_true z, fun m z' hm hz' => ?_, q⟩
  rw [List.getElem?_map] at hz'
  cases hh : ys[m]? with
  | none => rw [hh] at hz'; cases hz'
  | some y =>
    rw [hh] at hz'
    cases hz'
    show (y == z) = false
    exact beq_eq_false_iff_ne.mpr fun e => hno m hm (by rw [hh, e])
/-- t.count(x), ints -/
def rCntT (K : PySem.W.Frag) : V → List V → Hp → VK → Prop := fun x xs H Q => ∃ (p : Addr) (ns : List Int) (k : Int), x = .ref p ∧ xs = [.int k] ∧ SqT K H p (ns.map V.int) ∧ Q (.int (ns.count k : Nat)) H
theorem mt_tcount : MtR X "tuple.count" (rCntT X.K) := by
  intro pins s σ H x xs v us Q I rx rxs h
  obtain ⟨p, ns, k, rfl, rfl, hs, q⟩ := h
  cases rx
  obtain ⟨u, rfl, ru⟩ := rxs.one
  obtain ⟨t, rfl⟩ := ru
  obtain ⟨its, rv, pl, hlen⟩ := I.tuple hs
  obtain ⟨⟨cls, dd, dt, sl⟩, ho, hc, n, hd⟩ := pl
  simp only at hc hd
  subst hc hd
  have hi := ints_of_vals rv
  refine call_meets PySem.F.slot_tuple_count ⟨_, ho, rfl⟩ PySem.F.entry_tuple_count (PySem.F.args_tuple_count_2 _ _)
    (PySem.SeqAt.tuple_countAt p its.toArray n dd sl (.int k t) (eqk k)) ⟨ho, fun y hy => (eqk_gives hi y (by simpa using hy)).at _ _, ?_⟩
  have ec : its.toArray.toList.countP (eqk k) = ns.count k := eqk_count hi
  refine ⟨.int (ns.count k : Nat), H, I.tok _, ⟨s.toks, ?_⟩, q⟩
  show Value.int ((its.toArray.toList.countP (eqk k) : Nat) : Int) s.toks = Value.int ((ns.count k : Nat) : Int) s.toks
  rw [ec]
end
end Kb

set_option Elab.async false
set_option linter.all false
set_option maxRecDepth 100000
set_option maxHeartbeats 4000000
namespace Kb
open PySem PySem.Spec PyProof.Rows L2

/-! ### a law's error classes by their names -/
structure Exs (K : PySem.W.Frag) (ec : Str → Addr) (ns : List Str) : Prop where
  bad : ∀ x ∈ ns, Bad K (ec x) (ec "ChamberError")
  kitV : ∀ x ∈ ns, PySem.W.kitOne K (.ref (ec x)) (.type "ValueError") = some true
  kit : ∀ x ∈ ns, ∀ y ∈ ns, PySem.W.kitOne K (.ref (ec x)) (.ref (ec y)) = some (x == y || y == "ChamberError")
  exm : ∀ x ∈ ns, ∀ y ∈ ns, PySem.W.exmOne K (.ref (ec x)) (.ref (ec y)) = some (x == y || y == "ChamberError")
def exsB (K : PySem.W.Frag) (D : Addr) (l : List (Str × Addr)) : Bool :=
  l.all fun p => badB K p.2 D && (PySem.W.kitOne K (.ref p.2) (.type "ValueError") == some true && l.all fun q =>
    PySem.W.kitOne K (.ref p.2) (.ref q.2) == some (p.1 == q.1 || q.1 == "ChamberError") && PySem.W.exmOne K (.ref p.2) (.ref q.2) == some (p.1 == q.1 || q.1 == "ChamberError"))
def ecOf (mg : Str → Option Value) : Str → Addr := fun x => match mg x with
  | some (.ref a) => a
  | _ => 0
theorem ecOf_at {mg : Str → Option Value} {x : Str} {a : Addr} (h : mg x = some (.ref a)) : ecOf mg x = a := by unfold ecOf; rw [h]
theorem exs_of {K : PySem.W.Frag} {mg : Str → Option Value} {D : Addr} {l : List (Str × Addr)} (hD : mg "ChamberError" = some (.ref D)) (hl : ∀ p ∈ l, mg p.1 = some (.ref p.2)) (h : exsB K D l = true) : Exs K (ecOf mg) (l.map (·.1)) := by
  have key : ∀ x ∈ l.map (·.1), ∃ a, (x, a) ∈ l ∧ ecOf mg x = a := by
    intro x hx
    obtain ⟨p, hp, rfl⟩ := List.mem_map.mp hx
    exact ⟨p.2, hp, ecOf_at (hl p hp)⟩
  unfold exsB at h
  rw [List.all_eq_true] at h
  refine ⟨fun x hx => ?_, fun x hx => ?_, fun x hx y hy => ?_, fun x hx y hy => ?_⟩
  · obtain ⟨a, ha, e⟩ := key x hx
    have z := h _ ha
    simp only [Bool.and_eq_true] at z
    rw [e, ecOf_at hD]
    exact bad_of z.1
  · obtain ⟨a, ha, e⟩ := key x hx
    have z := h _ ha
    simp only [Bool.and_eq_true, beq_iff_eq] at z
    rw [e]
    exact z.2.1
  · obtain ⟨a, ha, e⟩ := key x hx
    obtain ⟨b, hb, e2⟩ := key y hy
    have z := h _ ha
    simp only [Bool.and_eq_true] at z
    have z2 := List.all_eq_true.mp z.2.2 _ hb
    simp only [Bool.and_eq_true] at z2
    rw [e, e2]
    exact beq_iff_eq.mp z2.1
  · obtain ⟨a, ha, e⟩ := key x hx
    obtain ⟨b, hb, e2⟩ := key y hy
    have z := h _ ha
    simp only [Bool.and_eq_true] at z
    have z2 := List.all_eq_true.mp z.2.2 _ hb
    simp only [Bool.and_eq_true] at z2
    rw [e, e2]
    exact beq_iff_eq.mp z2.2
def ExAt (mg : Str → Option Value) (ec : Str → Addr) (ns : List Str) : Prop := ∀ x ∈ ns, mg x = some (.ref (ec x))

/-- a class that is raised, its __init__ kept -/
structure Rz0 (P : Program) (w : World) (K : PySem.W.Frag) (mg : Str → Option Value) (base : Heap) (x : Str) (C : Addr) : Prop where
  ex : ∃ (fI : Addr) (fd : FuncData), PySem.W.findIn K (.ref C) "__init__" = some (some (.ref fI)) ∧ PySem.W.typeIn K (.ref fI) = some (.type "function") ∧ FnOk P w K mg base CX0 2 fI fd ["self"] (sp_B0 C x) ∧ Binds K fd ["self"] []
  ox : OexC K C
  at_ : mg x = some (.ref C)
structure Rz1 (P : Program) (w : World) (K : PySem.W.Frag) (mg : Str → Option Value) (base : Heap) (x at1 : Str) (C : Addr) : Prop where
  ex : ∃ (fI : Addr) (fd : FuncData), PySem.W.findIn K (.ref C) "__init__" = some (some (.ref fI)) ∧ PySem.W.typeIn K (.ref fI) = some (.type "function") ∧ FnOk P w K mg base CX0 2 fI fd ["self", at1] (sp_B1 C x at1) ∧ Binds K fd ["self", at1] []
  ox : OexC K C
  at_ : mg x = some (.ref C)
/-- raise .. -/
def sRaise (W : WX) (t : L2.St → Hp → XK → Prop) : TS := fun _ σ H => t σ H fun cls d H' => W cls d σ H'
def tTry (K : PySem.W.Frag) (Wout : WX) (l : List Cl) (tb : WX → TS) : TS := fun D σ H => tb (wAll K Wout D l) D σ H
abbrev W0 : WX := fun _ _ _ _ => False
section
variable {X : Cx} {x at1 : Str} {C : Addr} {p pos pos' : Pos} {W : WX} {e : Expr} {te : TE}
theorem ps_rz0 (hc : X.calm = true) (tk : Takes X W) (R : Rz0 X.prog X.w X.K X.mg X.base x C) (hr : Room 3 X.A) (hg : Gl X x) (hdb : (x == ("__debug__" : Str)) = false := by decide) :
    PS X (.Raise (some (.Call (.Name x p) [] [] pos)) none pos') (sRaise W (tBad C x)) := by
  obtain ⟨fI, fd, h1, h2, h3, h4⟩ := R.ex
  exact ps_raise hc tk (pmk_bad0 R.ox h1 h2 h3 hr h4 hg R.at_ hdb)
theorem ps_rz1 (hc : X.calm = true) (tk : Takes X W) (R : Rz1 X.prog X.w X.K X.mg X.base x at1 C) (hr : Room 3 X.A) (hg : Gl X x) (ha : PE X e te) (hdb : (x == ("__debug__" : Str)) = false := by decide)
    (he : starEach [e] X.env = (false, eval e X.env) :: starEach [] X.env := by rfl) (hpl : (backTo pos (starEach [] X.env)).any (·.1) = false := by rfl) :
    PS X (.Raise (some (.Call (.Name x p) [e] [] pos)) none pos') (sRaise W (tBad1 C x at1 te)) := by
  obtain ⟨fI, fd, h1, h2, h3, h4⟩ := R.ex
  exact ps_raise hc tk (pmk_bad1 R.ox h1 h2 h3 hr h4 hg R.at_ ha hdb he hpl)
theorem ps_tryT {body : List Stmt} {h₀ : ExceptHandler} {hds : List ExceptHandler} {l : List Cl} {tb : WX → TS} {Wout : WX} (hs : X.stack = X.env :: X.outer) (hf : X.env.frame = some X.env.locals) (hN : X.N.Nodup) (tk : Takes X Wout)
    (hb : ∀ (W : WX) (pn : List (Addr × Obj)) (xe : Value → Shared → Prop), Takes (X.tr pn xe) W → PassesOwn (model X.prog X.w) X.A X.env xe → PSs (X.tr pn xe) body (tb W))
    (hh : HdsA X (h₀ :: hds) l) : PS X (.Try body (h₀ :: hds) [] [] pos) (tTry X.K Wout l tb) := ps_try_all hs hf hN tk hb hh
end

/-! ### the pure side of raise and try -/
section
variable {K : PySem.W.Frag} {ec : Str → Addr} {ns : List Str} {W : WX} {D : Ends} {σ : L2.St} {H : Hp} {C : Addr} {x at1 : Str}
theorem r_raise (h : ∀ d H', Same H H' → H d = none → H' d = some (.xd [("word", .str x)]) → W (.ref C) (some d) σ H') : sRaise W (tBad C x) D σ H := fun d nd => h d _ (same_new nd) nd upd_same
/-- behind the argument of C(e) in a raise -/
def PRz1 (W : WX) (σ : L2.St) (C : Addr) (x at1 : Str) (v : V) (H1 : Hp) : Prop := [v].length ≤ 1000 ∧ ∀ a, H1 a = none → sp_B1 C x at1 (.ref a :: ([v] ++ [])) (upd H1 a (exo a C none)) (fun v H2 => v = .non ∧ ∃ (d : Addr) (fs : List (Str × V)), H2 a = some (exo a C (some d)) ∧ H2 d = some (exd d fs) ∧ H1 d = none ∧ W (.ref C) (some d) σ (upd (del H2 a) d (.xd fs))) (fun _ _ _ => False)
theorem r_raise1 {te : TE} (h : te σ H fun v H1 => PRz1 W σ C x at1 v H1) : sRaise W (tBad1 C x at1 te) D σ H := h
theorem r_prz1 {v : V} (h : ∀ d H', Same H H' → H d = none → H' d = some (.xd [(at1, v), ("word", .str x)]) → W (.ref C) (some d) σ H') : PRz1 W σ C x at1 v H := mk_bad1 (Q := fun cls d H' => W cls d σ H') fun d nd => h d _ (same_new nd) nd upd_same
theorem r_try {Wout : WX} {l : List Cl} {tb : WX → TS} (h : tb (wAll K Wout D l) D σ H) : tTry K Wout l tb D σ H := h
/-- the clause is taken -/
theorem w_yes {Wout : WX} {q : Cl} {r : List Cl} {d : Option Addr} {cls : Value} (e : PySem.W.exmOne K cls q.c = some true) (h : ∀ a, H a = none → q.ts a cls d (endsOf D q.slot) (setOf σ a q.slot) H) : wAll K Wout D (q :: r) cls d σ H :=
  ⟨true, e, fun _ => h, fun z => nomatch z⟩
theorem w_no {Wout : WX} {q : Cl} {r : List Cl} {d : Option Addr} {cls : Value} (e : PySem.W.exmOne K cls q.c = some false) (h : wAll K Wout D r cls d σ H) : wAll K Wout D (q :: r) cls d σ H :=
  ⟨false, e, (fun z => nomatch z), fun _ => h⟩
/-- e.f of the caught -/
theorem r_xfV {a : Addr} {d : Addr} {n : Str} {i : Nat} {Q : VK} {fs : List (Str × V)} {v : V} (XF : XfC K C) (hn : PySem.W.findIn K (.ref C) n = some none) (hσ : σ[i]? = some (some (.ref a))) (hd : H d = some (.xd fs)) (hl : fs.lookup n = some v) (q : Q v H) : tXfA K a (.ref C) (some d) n (tVar i) σ H Q :=
  ⟨C, rfl, XF, hn, .ref a, hσ, rfl, rfl, d, fs, v, rfl, hd, hl, q⟩
/-- isinstance(e, c) -/
theorem r_isX {a d : Addr} {c : V} {b : Bool} {fs : List (Str × V)} {Q : VK} (hd : H d = some (.xd fs)) (E : ExcC K C) (io : IsOf K H C c b) (q : Q (.bl b) H) : rIsX K a (.ref C) (some d) [.ref a, c] H Q := ⟨c, C, d, fs, b, rfl, rfl, rfl, hd, E, io, q⟩
theorem is_cls (XS : Exs K ec ns) {y : Str} (hx : x ∈ ns) (hy : y ∈ ns) : IsOf K H (ec x) (.ref (ec y)) (x == y || y == "ChamberError") := .inl ⟨_, fun u r => r, XS.kit x hx y hy⟩
theorem is_VE (XS : Exs K ec ns) (hx : x ∈ ns) : IsOf K H (ec x) (.ty "ValueError") true := .inl ⟨_, fun u r => r, XS.kitV x hx⟩
theorem vals_refs : ∀ {cs : List Addr} {us : List Value}, Vals (cs.map V.ref) us → us = cs.map Value.ref
  | [], _, r => by cases r; rfl
  | c :: cs, _, r => by
    cases r with
    | cons h r =>
      rw [vals_refs r]
      have h : _ = Value.ref c := h
      rw [h]
      rfl
theorem kitAny_names (XS : Exs K ec ns) (hx : x ∈ ns) : ∀ {ys : List Str}, (∀ y ∈ ys, y ∈ ns) → PySem.W.kitAny K (.ref (ec x)) ((ys.map ec).map Value.ref) = some (ys.any fun y => x == y || y == "ChamberError")
  | [], _ => rfl
  | y :: ys, h => by
    have e := XS.kit x hx y (h y List.mem_cons_self)
    have r := kitAny_names XS hx (ys := ys) fun z hz => h z (List.mem_cons_of_mem _ hz)
    rw [List.map_cons, List.map_cons, List.any_cons]
    unfold PySem.W.kitAny
    rw [e]
    cases (x == y || y == "ChamberError") with
    | true => rfl
    | false => rw [Bool.false_or]; exact r
theorem is_tup (XS : Exs K ec ns) (hx : x ∈ ns) {tp : Addr} {ys : List Str} (hy : ∀ y ∈ ys, y ∈ ns) (ht : SqT K H tp ((ys.map ec).map V.ref)) : IsOf K H (ec x) (.ref tp) (ys.any fun y => x == y || y == "ChamberError") :=
  .inr ⟨tp, _, _, rfl, ht, fun us r => vals_refs r, kitAny_names XS hx hy⟩
end
theorem r_callW {sp : Sp} {W : WX} {t : TA} {σ : L2.St} {H : Hp} {Q : VK} (h : t σ H fun vs H1 => sp vs H1 Q (fun cls d H' => W cls d σ H')) : tCallW sp W t σ H Q := h
def PEn (K : PySem.W.Frag) (k : Int) (vs : List V) (H1 : Hp) (R : It → Hp → Prop) : Prop := ∃ a xs, vs = [.ref a] ∧ SqT K H1 a xs ∧ R (IteT K a k) H1
theorem r_enT {K : PySem.W.Frag} {k : Int} {ta : TA} {σ : L2.St} {H : Hp} {R : It → Hp → Prop} (h : ta σ H fun vs H1 => PEn K k vs H1 R) : iEnT K k ta σ H R := h
theorem r_pen {K : PySem.W.Frag} {k : Int} {a : Addr} {xs : List V} {H : Hp} {R : It → Hp → Prop} (h : SqT K H a xs) (q : R (IteT K a k) H) : PEn K k [.ref a] H R := ⟨a, xs, rfl, h, q⟩
theorem r_idxT {K : PySem.W.Frag} {p : Addr} {ys : List Int} {z : Int} {j : Nat} {H : Hp} {Q : VK} (h : SqT K H p (ys.map V.int)) (hy : ys[j]? = some z) (hno : ∀ m, m < j → ys[m]? ≠ some z) (q : Q (.int (j : Nat)) H) : rIndexT K (.ref p) [.int z] H Q := ⟨p, ys, z, j, rfl, rfl, h, hy, hno, q⟩
theorem r_idxL {K : PySem.W.Frag} {p : Addr} {ys : List Int} {z : Int} {j : Nat} {H : Hp} {Q : VK} (h : SqL K H p (ys.map V.int)) (hy : ys[j]? = some z) (hno : ∀ m, m < j → ys[m]? ≠ some z) (q : Q (.int (j : Nat)) H) : rIndexL K (.ref p) [.int z] H Q := ⟨p, ys, z, j, rfl, rfl, h, hy, hno, q⟩
theorem r_cntT {K : PySem.W.Frag} {p : Addr} {ys : List Int} {z : Int} {H : Hp} {Q : VK} (h : SqT K H p (ys.map V.int)) (q : Q (.int (ys.count z : Nat)) H) : rCntT K (.ref p) [.int z] H Q := ⟨p, ys, z, rfl, rfl, h, q⟩
theorem r_eqS {K : PySem.W.Frag} {x y : Str} {H : Hp} {Q : VK} (q : Q (.bl (decide (x = y))) H) : rEqU K (.str x) (.str y) H Q := .inl ⟨rfl, by
  have e : decide (V.str x = V.str y) = decide (x = y) := by by_cases h : x = y <;> simp [h]
  rw [e]; exact q⟩
theorem r_neS {K : PySem.W.Frag} {x y : Str} {H : Hp} {Q : VK} (q : Q (.bl (!decide (x = y))) H) : rNeU K (.str x) (.str y) H Q := .inl ⟨rfl, by
  have e : decide (V.str x = V.str y) = decide (x = y) := by by_cases h : x = y <;> simp [h]
  rw [e]; exact q⟩
theorem r_endsAs {D : Ends} {i : Nat} {σ : L2.St} {H : Hp} (h : D.nx (σ.set i none) H) : (endsOf D (some i)).nx σ H := h
theorem r_endsNo {D : Ends} {σ : L2.St} {H : Hp} (h : D.nx σ H) : (endsOf D none).nx σ H := h
def PTp (K : PySem.W.Frag) (x : V) (H1 : Hp) : Prop := ∃ p xs, x = .ref p ∧ SqT K H1 p xs ∧ NoD H1 p
theorem r_BMT {K : PySem.W.Frag} {r : V → List V → Hp → VK → Prop} {to : TE} {t : TA} {σ : L2.St} {H : Hp} {Q : VK} (h : to σ H fun x H1 => PTp K x H1 ∧ t σ H1 fun xs H2 => r x xs H2 Q) : tBMT K r to t σ H Q := h
theorem r_ptp {K : PySem.W.Frag} {p : Addr} {xs : List V} {H : Hp} {A : Prop} (h : SqT K H p xs) (d : NoD H p) (a : A) : PTp K (.ref p) H ∧ A := ⟨⟨p, xs, rfl, h, d⟩, a⟩
theorem ixN_r {n : Nat} {y : Int} (h1 : 1 ≤ y) (h2 : y ≤ n) : ixN n (y - 1) = some (y - 1).toNat := by
  unfold ixN
  rw [if_pos (by omega), if_pos (by omega)]
theorem ixN_n {n k : Nat} (h : k < n) : ixN n (k : Int) = some k := by
  unfold ixN
  rw [if_pos (by omega), if_pos (by omega)]
  rfl
theorem map_set {bs : List Int} {k : Nat} {x : Int} : (bs.map V.int).set k (.int x) = (bs.set k x).map V.int := by rw [List.map_set]
/-- a list that is filled place by place -/
theorem fill_step {bs : List Int} {n i : Nat} {k : Nat → Nat} {v : Nat → Int} (hl : bs.length = n) (h : ∀ j, j < i → bs[k j]? = some (v j)) (hk : k i < n) (inj : ∀ j, j < i → k j ≠ k i) :
    (bs.set (k i) (v i)).length = n ∧ ∀ j, j < i + 1 → (bs.set (k i) (v i))[k j]? = some (v j) := by
  refine ⟨by rw [List.length_set]; exact hl, fun j hj => ?_⟩
  by_cases e : j = i
  · subst e
    rw [List.getElem?_set_self (by omega)]
  · rw [List.getElem?_set_ne (Ne.symm (inj j (by omega)))]
    exact h j (by omega)
section
/-! the tactics: rd walks a reading; tk closes a fact about a heap from those ahead of it -/
local macro_rules | `(tactic| walk_at "tk") => `(tactic| first
  | assumption
  | ((with_reducible refine' sqT_of ?k); (case k => assumption))
  | ((with_reducible refine' sqT_ofD ?k); (case k => assumption))
  | ((with_reducible refine' noD_of ?k); (case k => assumption))
  | ((with_reducible refine' noD_same ?s ?k); (case s => assumption); (case k => walk_at "tk"))
  | ((with_reducible refine' sqL_of ?k); (case k => assumption))
  | ((with_reducible refine' sqT_same ?s ?k); (case s => assumption); (case k => walk_at "tk"))
  | ((with_reducible refine' sqL_same ?s ?k); (case s => assumption); (case k => walk_at "tk"))
  | ((with_reducible refine' sqT_but ?s ?t ?k); (case s => assumption); (case t => walk_at "tk"); (case k => walk_at "tk"))
  | ((with_reducible refine' sqL_but ?s ?t ?k); (case s => assumption); (case t => walk_at "ne"); (case k => walk_at "tk"))
  | ((with_reducible refine' sqL_of ?k); (case k => walk_at "tk"))
  | ((with_reducible refine' sqT_of ?k); (case k => walk_at "tk"))
  | ((with_reducible refine' at_same ?s ?k); (case s => assumption); (case k => walk_at "tk"))
  | ((with_reducible refine' at_but ?s ?t ?k); (case s => assumption); (case t => walk_at "ne"); (case k => walk_at "tk")))
local macro_rules | `(tactic| walk_at "ne") => `(tactic| first
  | assumption
  | (refine Ne.symm ?_; assumption)
  | exact ne_of_none (by assumption) (by assumption)
  | exact (ne_of_none (by assumption) (by assumption)).symm)
local macro_rules | `(tactic| walk_at "side") => `(tactic| first
  | assumption
  | omega
  | (simp only [sizeLine_eq, List.length_cons, List.length_nil, List.length_map]; omega)
  | (show _ ≤ sizeLine; decide))
local macro_rules | `(tactic| walk_at "kit") => `(tactic| first
  | (show kitB _ _ = some true; decide +kernel)
  | (show kitB _ _ = some false; decide +kernel))
local macro_rules | `(tactic| walk_at "rng") => `(tactic| first
  | (refine ⟨by omega, by omega, by omega, by omega⟩)
  | (refine ⟨by omega, by omega⟩)
  | ((simp only [List.length_map]); (refine ⟨by omega, by omega, by omega, by omega⟩))
  | ((simp only [List.length_map]); (refine ⟨by omega, by omega⟩)))
local macro_rules | `(tactic| walk_at "rd1") => `(tactic| first
  | with_reducible refine r_seq ?_
  | ((with_reducible refine' r_var ?k0 ?_); (case k0 => rfl))
  | with_reducible refine r_op ?_
  | with_reducible refine r_c ?_
  | with_reducible refine r_asg ?_
  | with_reducible refine r_name ?_
  | with_reducible refine r_cons ?_
  | with_reducible refine r_nil ?_
  | with_reducible refine r_CB ?_
  | with_reducible refine r_if ?_
  | with_reducible refine r_test ?_
  | with_reducible refine r_k ?_
  | with_reducible refine r_T ?_
  | with_reducible refine r_F ?_
  | with_reducible refine r_nT ?_
  | with_reducible refine r_nF ?_
  | with_reducible refine r_ret ?_
  | with_reducible refine r_drop ?_
  | with_reducible refine r_next ?_
  | with_reducible refine r_call ?_
  | with_reducible refine r_addI ?_
  | with_reducible refine r_subI ?_
  | with_reducible refine r_ltI ?_
  | with_reducible refine r_gtI ?_
  | with_reducible refine r_leI ?_
  | with_reducible refine r_geI ?_
  | with_reducible refine r_eqI ?_
  | with_reducible refine r_neI ?_
  | with_reducible refine r_int ?_
  | with_reducible refine r_abs ?_
  | with_reducible refine r_not ?_
  | with_reducible refine r_and ?_
  | with_reducible refine r_or ?_
  | with_reducible refine r_tru ?_
  | with_reducible refine r_truB ?_
  | with_reducible refine r_lst ?_
  | with_reducible refine r_tup ?_
  | with_reducible refine r_BM ?_
  | with_reducible refine r_BM0 ?_
  | with_reducible refine r_tyS ?_
  | with_reducible refine r_gsub ?_
  | with_reducible refine r_then ?_
  | with_reducible refine r_lstRg ?_
  | with_reducible refine r_tupRg ?_
  | with_reducible refine r_rg2 ?_
  | with_reducible refine r_rg1 ?_
  | with_reducible refine r_ii ?_
  | with_reducible refine r_i ?_
  | with_reducible refine r_ipI ?_
  | with_reducible refine r_un ?_
  | with_reducible refine r_neg ?_
  | with_reducible refine r_isN ?_
  | with_reducible refine r_notN ?_
  | with_reducible refine r_notV ?_
  | with_reducible refine r_pnot ?_
  | with_reducible refine r_pif ?_
  | with_reducible refine r_andV ?_
  | with_reducible refine r_orV ?_
  | with_reducible refine r_ifE ?_
  | with_reducible refine r_chain ?_
  | with_reducible refine r_sl ?_
  | with_reducible refine r_noPart ?_
  | with_reducible refine r_part ?_
  | with_reducible refine r_brk ?_
  | with_reducible refine r_cont ?_
  | with_reducible refine r_retN ?_
  | with_reducible refine r_truI ?_
  | with_reducible refine r_B ?_
  | with_reducible refine r_for ?_
  | with_reducible refine r_rng1 ?_
  | with_reducible refine r_rng2 ?_
  | with_reducible refine r_rng3 ?_
  | with_reducible refine r_body ?_
  | with_reducible refine r_lc ?_
  | with_reducible refine r_yes ?_
  | ((with_reducible refine' r_mod ?k0 ?_); (case k0 => walk_at "side"))
  | ((with_reducible refine' r_mulI ?k0 ?_); (case k0 => first | exact Or.inl ⟨by omega, by omega⟩ | exact Or.inr ⟨by omega, by omega⟩))
  | ((with_reducible refine' r_lenL ?k0 ?_); (case k0 => walk_at "tk"))
  | ((with_reducible refine' r_lenT ?k0 ?_); (case k0 => walk_at "tk"))
  | ((with_reducible refine' r_truL ?k0 ?_); (case k0 => walk_at "tk"))
  | ((with_reducible refine' r_truT ?k0 ?_); (case k0 => walk_at "tk"))
  | ((with_reducible refine' r_ixL ?k0 ?k1 ?_); (case k0 => walk_at "tk"); (case k1 => first | assumption | rfl))
  | ((with_reducible refine' r_ixT ?k0 ?k1 ?_); (case k0 => walk_at "tk"); (case k1 => first | assumption | rfl))
  | ((with_reducible refine' r_new ?k0 ?_); (case k0 => walk_at "side"))
  | ((with_reducible refine' r_tyL ?k0 ?_); (case k0 => walk_at "tk"))
  | ((with_reducible refine' r_append ?k0 ?k1 ?_); (case k0 => walk_at "tk"); (case k1 => walk_at "side"))
  | ((with_reducible refine' r_setL ?k0 ?k1 ?_); (case k0 => walk_at "tk"); (case k1 => first | assumption | rfl))
  | ((with_reducible refine' r_kTupL ?k0 ?_); (case k0 => walk_at "tk"))
  | ((with_reducible refine' r_kTupT ?k0 ?_); (case k0 => walk_at "tk"))
  | ((with_reducible refine' r_listL ?k0 ?_); (case k0 => walk_at "tk"))
  | ((with_reducible refine' r_listT ?k0 ?_); (case k0 => walk_at "tk"))
  | ((with_reducible refine' r_aug ?k0 ?_); (case k0 => rfl))
  | ((with_reducible refine' r_lenS ?k0 ?_); (case k0 => walk_at "side"))
  | ((with_reducible refine' r_pop ?k0 ?_); (case k0 => walk_at "tk"))
  | ((with_reducible refine' r_pr1 ?k0 ?_); (case k0 => walk_at "rng"))
  | ((with_reducible refine' r_pr2 ?k0 ?_); (case k0 => walk_at "rng"))
  | ((with_reducible refine' r_pr3d ?k0 ?_); (case k0 => walk_at "rng"))
  | ((with_reducible refine' r_isiI ?k0 ?_); (case k0 => walk_at "kit"))
  | ((with_reducible refine' r_isiB ?k0 ?_); (case k0 => walk_at "kit"))
  | ((with_reducible refine' r_isiS ?k0 ?_); (case k0 => walk_at "kit"))
  | ((with_reducible refine' r_isiN ?k0 ?_); (case k0 => walk_at "kit"))
  | ((with_reducible refine' r_isiT ?k0 ?k1 ?_); (case k0 => walk_at "tk"); (case k1 => walk_at "kit"))
  | ((with_reducible refine r_seqT ?_); (repeat (walk_at "rd1")); ((with_reducible refine' r_pseqT ?k0 ?_); (case k0 => walk_at "tk")))
  | ((with_reducible refine r_seqL ?_); (repeat (walk_at "rd1")); ((with_reducible refine' r_pseqL ?k0 ?_); (case k0 => walk_at "tk")))
  | ((with_reducible refine r_seqS ?_); (repeat (walk_at "rd1")); (with_reducible refine r_pseqS ?_)))
local macro_rules | `(tactic| walk_at "rd") => `(tactic| ((repeat (walk_at "rd1")); (try dsimp only)))

/-- alone = isinstance(e, ChamberError) and isinstance(e, ValueError) and not isinstance(e, (A, B)) -/
theorem r_alone {K : PySem.W.Frag} {ec : Str → Addr} {ns : List Str} {σ : L2.St} {H : Hp} {Q : VK} {i : Nat} {a d : Addr} {x A B : Str} {fs : List (Str × V)} (XS : Exs K ec ns) (hx : x ∈ ns) (hC : ("ChamberError" : Str) ∈ ns) (hA : A ∈ ns) (hB : B ∈ ns)
    (nA : (x == A || A == "ChamberError") = false) (nB : (x == B || B == "ChamberError") = false) (hσ : σ[i]? = some (some (V.ref a))) (e : H d = some (.xd fs)) (q : ∀ H', Same H H' → Q (.bl true) H') :
    tAndV (tCB (rIsX K a (.ref (ec x)) (some d)) (tCons (tVar i) (tCons (tC (.ref (ec "ChamberError"))) tNil))) (tAndV (tCB (rIsX K a (.ref (ec x)) (some d)) (tCons (tVar i) (tCons (tC (.ty "ValueError")) tNil)))
      (tNotV (tCB (rIsX K a (.ref (ec x)) (some d)) (tCons (tVar i) (tCons (tTup (tCons (tC (.ref (ec A))) (tCons (tC (.ref (ec B))) tNil))) tNil))))) σ H Q := by
  have BX := XS.bad x hx
  refine r_andV (r_CB (r_cons (r_var hσ (r_cons (r_c (r_nil ?_)))))) 
  refine r_isX (b := true) e BX.ex ?_ ?_
  · have z := is_cls (H := H) XS hx hC
    rw [show (x == "ChamberError" || ("ChamberError" : Str) == "ChamberError") = true by rw [show (("ChamberError" : Str) == "ChamberError") = true by decide, Bool.or_true]] at z
    exact z
  refine r_pif (r_T ?_)
  refine r_andV (r_CB (r_cons (r_var hσ (r_cons (r_c (r_nil ?_))))))
  refine r_isX (b := true) e BX.ex (is_VE XS hx) ?_
  refine r_pif (r_T ?_)
  refine r_notV (r_CB (r_cons (r_var hσ (r_cons ?_))))
  walk_at "rd"
  intro tp H1 ntp s1 e1
  walk_at "rd"
  refine r_isX (b := false) (s1 _ _ e) BX.ex ?_ ?_
  · have z := is_tup (H := H1) XS hx (tp := tp) (ys := [A, B]) (by intro y hy; rcases List.mem_cons.mp hy with rfl | hy; exact hA; rcases List.mem_cons.mp hy with rfl | hy; exact hB; cases hy) (sqT_of e1)
    rw [show ([A, B].any fun y => x == y || y == "ChamberError") = false by simp only [List.any_cons, List.any_nil, nA, nB, Bool.or_false]] at z
    exact z
  exact r_pnot (q H1 s1)
end
end Kb

set_option Elab.async false
set_option linter.all false
set_option maxRecDepth 100000
set_option maxHeartbeats 4000000
namespace Kb
open PySem PySem.Spec PyProof.Rows L2
section
variable {K : PySem.W.Frag} {H : Hp} {Q : VK} {E : XK}
theorem pl_same {H H' : Hp} {p : Addr} (s : Same H H') (h : Pl H p) : Pl H' p := by
  obtain ⟨x, y, z, e⟩ := h
  exact ⟨x, y, z, s _ _ e⟩
theorem noD_but {H H' : Hp} {l q : Addr} {ys : List V} (b : But l H H') (hl : H l = some (.lst ys)) (h : NoD H q) : NoD H' q := by
  obtain ⟨o, u, e, d⟩ := h
  exact ⟨o, u, b _ _ (fun z => by rw [z, hl] at e; cases e) e, d⟩
theorem size_ints : ∀ r : List Int, Dat.sizes (r.map Dat.int) = r.length
  | [] => rfl
  | x :: r => by
    rw [List.map_cons]
    show Dat.size (.int x) + Dat.sizes (r.map Dat.int) = _
    rw [size_ints r, List.length_cons, show Dat.size (.int x) = 1 from rfl, Nat.add_comm]
theorem sm {a b : Addr} {r : List Int} {n : Nat} (h1 : SqT K H a (r.map V.int)) (h2 : SqT K H b (r.map V.int)) (hR : IsRow r n) (hn : n ≤ 12) (q : ∀ H', Same H H' → Q (.bl true) H') : sp_law_same K [.ref a, .ref b] H Q E :=
  ⟨_, _, .tup (r.map .int), rfl, rp_ints h1, rp_ints h2, by show 1 + Dat.sizes (r.map Dat.int) ≤ _; rw [size_ints, hR.1]; omega, q⟩
end
end Kb

set_option Elab.async false
set_option linter.all false
set_option maxRecDepth 100000
set_option maxHeartbeats 4000000
/-! t[::-1], t a tuple -/
namespace Kb
open PySem PySem.Spec PyProof.Rows L2
section
variable {prog : Program} {w : World} {A : Around} {E : Value → Shared → Prop} {s : Shared}
theorem sliceApplied_rev {sl : Addr} {vk : Value} {n : Nat} {Q : Int × Int × Nat → Shared → Prop} (hs : s.heap.IsSliceOf sl .none .none vk) (pk : IsPart vk (some (-1)))
    (h : Q ((n : Int) - 1, -1, n) s) : wpAny (model prog w) A (Builtin.Slice.sliceApplied (.ref sl) (pure (n : Int))) Q E s := by
  obtain ⟨os, hos, hcs, hds⟩ := id hs
  unfold Builtin.Slice.sliceApplied Builtin.Slice.sliceFields
  refine wpAny_bind (wpAny_bind (wpAny_field hos hds (x := .none) rfl (wpAny_bind (wpAny_field hos hds (x := .none) rfl (wpAny_bind (wpAny_field hos hds (x := vk) rfl (wpAny_pure ?_)))))))
  refine wpAny_bind (HT.slicePart_ pk ?_)
  show wpAny _ _ (if ((-1 : Int) == 0) = true then _ else _) _ _ s
  rw [if_neg (by decide)]
  refine wpAny_bind (HT.slicePart_ .none (wpAny_bind (HT.slicePart_ .none (wpAny_bind (wpAny_pure ?_)))))
  show wpAny _ _ (pure ((n : Int) - 1, (-1 : Int), Builtin.Slice.slicePlaces ((n : Int) - 1) (-1) (-1))) _ _ s
  have e : Builtin.Slice.slicePlaces ((n : Int) - 1) (-1) (-1) = n := by
    unfold Builtin.Slice.slicePlaces
    rw [if_neg (by decide)]
    split
    · rw [show (-(-1) : Int) = 1 by decide, Int.ediv_one]; omega
    · omega
  rw [e]
  exact wpAny_pure h
theorem fm_congr {α β : Type} {f g : α → Option β} : ∀ {l : List α}, (∀ x ∈ l, f x = g x) → l.filterMap f = l.filterMap g
  | [], _ => rfl
  | a :: l, h => by
    rw [List.filterMap_cons, List.filterMap_cons, h a List.mem_cons_self, fm_congr fun x hx => h x (List.mem_cons_of_mem _ hx)]
theorem pick_rev (xs : Array Value) : ((List.range xs.size).filterMap fun (m : Nat) => xs[(((xs.size : Int) - 1) + (m : Int) * (-1)).toNat]?).toArray = xs.toList.reverse.toArray := by
  congr 1
  have e : ∀ m ∈ List.range xs.size, xs[(((xs.size : Int) - 1) + (m : Int) * (-1)).toNat]? = xs.toList.reverse[m]? := fun m hm => by
    rw [List.mem_range] at hm
    rw [List.getElem?_reverse (by rw [Array.length_toList]; exact hm), Array.length_toList, Array.getElem?_toList]
    congr 1
    omega
  rw [fm_congr e]
  have key : ∀ l : List Value, (List.range l.length).filterMap (fun m => l[m]?) = l := fun l => by
    induction l with
    | nil => rfl
    | cons a l ih =>
      rw [List.length_cons, List.range_succ_eq_map, List.filterMap_cons]
      simp only [List.getElem?_cons_zero, List.filterMap_map]
      congr 1
  have := key xs.toList.reverse
  rw [List.length_reverse, Array.length_toList] at this
  exact this
theorem getItem_tuple_rev {t sl : Addr} {items : Array Value} {vk : Value} {Q : Value → Shared → Prop} (ht : IsTup s.heap t items) (hs : s.heap.IsSliceOf sl .none .none vk) (pk : IsPart vk (some (-1)))
    (h : Q (.ref s.heap.objs.size) { s with heap := s.heap.push { cls := .type "tuple", data := .seq items.toList.reverse.toArray } })
    (hsz : items.size ≤ sizeLine) : wpAny (model prog w) A (getItem (.ref t) (.ref sl)) Q E s := by
  have htake : sizeOk (.seq items.toList.reverse.toArray) := by
    show items.toList.reverse.toArray.size ≤ sizeLine
    rw [List.size_toArray, List.length_reverse, Array.length_toList]
    exact hsz
  obtain ⟨os, hos, hcs, hds⟩ := id hs
  have hTs : s.TypeIs (.ref sl) "slice" := ⟨os, hos, hcs⟩
  unfold getItem
  try with_reducible refine wpAny_holding ?_
  first | refine wpAny_bind (wpAny_pure ?_) | skip
  refine wpAny_bind (wpAny_sequenceKey ht.typeIs (by decide) ?_)
  refine wpAny_bind (wpAny_callSpecial?_slot (name := Str.ofString "__getitem__") ht.typeIs PyProof.Rows.slot_tuple_getitem
    (wpAny_call_entry PyProof.Rows.slot_tuple_getitem ht.typeIs entry_tuple_getitem ?_ (args_tuple_getitem _ _)))
  show wpAny _ _ (Builtin.Tuple.tupleItemsOf (.ref t) >>= _) _ _ s
  refine wpAny_bind (tupleItemsOf_ ht ?_)
  refine wpAny_bind (wpAny_typeOf hTs ?_)
  rw [if_pos (by decide)]
  refine wpAny_bind (sliceApplied_rev hs pk ?_)
  show wpAny _ _ (if ((items.size : Int) - 1 == 0 && (-1 : Int) == 1 && items.size == items.size) = true then _ else _) _ _ s
  rw [if_neg (by rw [show ((-1 : Int) == 1) = false by decide, Bool.and_false, Bool.false_and]; decide), pick_rev]
  first
    | exact wpAny_bind (m := Builtin.Tuple.tupleExact _) (wpAny_newObj_type (wpAny_pure ⟨_, rfl, wpAny_pure h⟩) htake)
    | exact wpAny_bind (m := Builtin.Tuple.tupleExact _) (wpAny_newObj_type (wpAny_bind (wpAny_pure (wpAny_pure ⟨_, rfl, wpAny_pure h⟩))) htake)
    | exact wpAny_bind (wpAny_bind (m := Builtin.Tuple.tupleExact _) (wpAny_newObj_type (wpAny_pure (wpAny_pure ⟨_, rfl, wpAny_pure h⟩)) htake))
    | exact wpAny_bind (wpAny_bind (m := Builtin.Tuple.tupleExact _) (wpAny_newObj_type (wpAny_pure ⟨_, rfl, wpAny_pure h⟩) htake))
end
/-- t[::k], k being -1 -/
def PRev (K : PySem.W.Frag) (x : V) (k : Option Int) (H : Hp) (Q : VK) : Prop := k = some (-1) ∧ ∃ a xs, x = .ref a ∧ SqT K H a xs ∧ ∀ p, H p = none → Q (.ref p) (upd H p (.tup xs.reverse))
def tRevU (K : PySem.W.Frag) (te : TE) (tk : TO) : TE := fun σ H Q => te σ H fun x H1 => tk σ H1 fun k H2 => PRev K x k H2 Q
theorem vals_rev : ∀ {xs : List V} {us : List Value}, Vals xs us → Vals xs.reverse us.reverse
  | _, _, .nil => .nil
  | _, _, .cons h r => by
    rw [List.reverse_cons, List.reverse_cons]
    exact (vals_rev r).append (.cons h .nil)
section
variable {X : Cx} {e : Expr} {te : TE} {st : Expr} {tk : TO} {pos p2 : Pos}
theorem pe_revU (he : PE X e te) (hk : PO X (some st) tk) : PE X (.Subscript e (.Slice none none (some st) p2) pos) (tRevU X.K te tk) := by
  refine ⟨fun pins s σ H Q I h => ?_⟩
  refine Subscript_ (thn (he.run pins s σ H _ I h) fun v s1 ⟨x, H1, I1, r1, q1⟩ => ?_)
  refine wpAny_Slice ?_
  rw [evalPart_none]
  refine wpAny_pure (wpAny_pure ?_)
  refine thn (hk.run pins s1 σ H1 _ I1 q1) fun vk s2 ⟨k, H2, I2, pk, q2⟩ => ?_
  obtain ⟨rfl, a, xs, rfl, hx, q⟩ := q2
  cases r1
  have I4 : Inv X pins σ H2 { s2 with heap := s2.heap.push { cls := .type "slice", data := .fields #[.none, .none, vk] } } := I2.kept (t' := s2.toks) fun b ob q => Heap.get?_push_of_some _ q
  obtain ⟨its, r, ht, hz⟩ := I4.tuple hx
  have hlen : its.toArray.size = xs.length := by rw [List.size_toArray]; exact r.length.symm
  show wpAny (model X.prog X.w) X.A (subscriptTail e (.Slice none none (some st) p2) (.ref a) (.ref s2.heap.objs.size)) (EP X pins σ Q) X.xe { s2 with heap := s2.heap.push { cls := .type "slice", data := .fields #[.none, .none, vk] } }
  refine tail_any ht.typeIs PyProof.Rows.slot_tuple_getitem.lookup ?_ (by with_unfolding_all rfl)
  refine getItem_tuple_rev ht (Heap.IsSliceOf.new ..) pk ?_ (by rw [hlen]; exact hz)
  refine ⟨.ref _, _, I4.laid (t' := s2.toks) (o := .tup xs.reverse) (fun b ob q => Heap.get?_push_of_some _ q) (Nat.le_refl _) ?_, rfl, q _ (I4.hok.fresh (Nat.le_refl _))⟩
  exact ⟨by rw [List.length_reverse]; exact hz, _, vals_rev r, IsTup.new _ _⟩
end
/-- x, y = a, b -/
def PPar (vs : List V) (R : V → V → Prop) : Prop := ∃ v w, vs = [v, w] ∧ R v w
theorem r_par {D : Ends} {σ : L2.St} {H : Hp} {i j : Nat} {ta : TA} (h : ta σ H fun vs H1 => PPar vs fun v w => D.nx ((σ.set i (some v)).set j (some w)) H1) : tPar i j ta D σ H := h
theorem r_parV {v w : V} {R : V → V → Prop} (q : R v w) : PPar [v, w] R := ⟨v, w, rfl, q⟩
theorem r_revU {K : PySem.W.Frag} {te : TE} {tk : TO} {σ : L2.St} {H : Hp} {Q : VK} (h : te σ H fun x H1 => tk σ H1 fun k H2 => PRev K x k H2 Q) : tRevU K te tk σ H Q := h
theorem r_prev {K : PySem.W.Frag} {a : Addr} {xs : List V} {H : Hp} {Q : VK} (h : SqT K H a xs) (q : ∀ p H', H p = none → Same H H' → H' p = some (.tup xs.reverse) → Q (.ref p) H') : PRev K (.ref a) (some (-1)) H Q :=
  ⟨rfl, a, xs, rfl, h, fun p np => q p _ np (same_new np) upd_same⟩
theorem ip_mulU {X : Cx} : PIp X .Mult (fun x y H Q => ∃ i j, x = .int i ∧ y = .int j ∧ CMul i j ∧ Q (.int (i * j)) H) := by
  intro pins s σ H x y v u Q I r1 r2 h
  obtain ⟨i, j, e1, e2, c, q⟩ := h
  subst e1; subst e2
  obtain ⟨t, rfl⟩ := r1
  obtain ⟨t', rfl⟩ := r2
  exact imul_int ⟨.int _, H, I.tok _, ⟨_, rfl⟩, q⟩ c.ok
/-- x *= y, ints -/
def ipMulU : TIp := fun x y H Q => ∃ i j, x = .int i ∧ y = .int j ∧ CMul i j ∧ Q (.int (i * j)) H
theorem r_ipMul {m n : Int} {H : Hp} {Q : VK} (c : CMul m n) (q : Q (.int (m * n)) H) : ipMulU (.int m) (.int n) H Q := ⟨m, n, rfl, rfl, c, q⟩
end Kb

set_option Elab.async false
set_option linter.all false
set_option maxRecDepth 100000
/-! counts of methods by their rotations; plain Lean, finite -/
namespace Kb
def ccP : Nat → Nat × Nat
  | 0 => (1, 1)
  | n + 1 => ((ccP n).2, (ccP n).1 + (ccP n).2)
def ccN (s : Nat) : Nat := (ccP (s - 1)).2
def waysN (s p : Nat) : Nat → Nat
  | 0 => 1
  | k + 1 => waysN s p k * (s - p - k) / (k + 1)
def chgN (s : Nat) : Nat → Nat
  | 0 => 0
  | p + 1 => chgN s p + waysN s p p
def cop (n : Nat) : Nat := ((List.range n).filter fun k => Nat.gcd (k + 1) n == 1).length
def rotS (c L : Nat) : Nat → Nat
  | 0 => 0
  | d + 1 => if L % (d + 1) = 0 then rotS c L d + cop (d + 1) * c ^ (L / (d + 1)) else rotS c L d
def rotN (c L : Nat) : Nat := rotS c L L / L
def mirN (c L : Nat) : Nat := if L % 2 = 1 then (rotN c L + c ^ ((L + 1) / 2)) / 2 else (rotN c L + (c ^ (L / 2) + c ^ (L / 2 + 1)) / 2) / 2
def stepN (L s : Nat) (neg : Bool) (a : Nat) : Nat := cond neg ((s + L - a) % L) ((s + a) % L)
/-- the keys as bits of a number -/
def walkB (L s : Nat) (neg : Bool) : Nat → Nat → Nat → Nat
  | 0, _, m => m
  | f + 1, a, m => cond (m.testBit a) m (walkB L s neg f (stepN L s neg a) (m ||| (1 <<< a)))
def orbB (L s : Nat) (neg : Bool) : Nat → Nat → Nat → Nat → Nat
  | 0, _, many, _ => many
  | k + 1, f, many, m => orbB L s neg k (f + 1) (cond (m.testBit f) many (many + 1)) (walkB L s neg L f m)
def reflN (L s : Nat) : Nat := if L % 2 = 1 then (L + 1) / 2 else if s % 2 = 0 then L / 2 + 1 else L / 2
def okO (L : Nat) : Bool := (List.range L).all fun s => orbB L s false L 0 0 0 == Nat.gcd L s && orbB L s true L 0 0 0 == reflN L s
theorem orb1 : (List.range 25).all okO = true := by decide +kernel
theorem orb2 : (List.range 9).all (fun k => okO (25 + k)) = true := by decide +kernel
theorem orb3 : (List.range 6).all (fun k => okO (34 + k)) = true := by decide +kernel
theorem orb4 : (List.range 5).all (fun k => okO (40 + k)) = true := by decide +kernel
theorem orb5 : (List.range 4).all (fun k => okO (45 + k)) = true := by decide +kernel
theorem orb_ok {L s : Nat} (hL : L ≤ 48) (hs : s < L) : orbB L s false L 0 0 0 = Nat.gcd L s ∧ orbB L s true L 0 0 0 = reflN L s := by
  have key : okO L = true := by
    by_cases h1 : L < 25
    · exact List.all_eq_true.mp orb1 L (List.mem_range.mpr h1)
    by_cases h2 : L < 34
    · have := List.all_eq_true.mp orb2 (L - 25) (List.mem_range.mpr (by omega)); rwa [show 25 + (L - 25) = L by omega] at this
    by_cases h3 : L < 40
    · have := List.all_eq_true.mp orb3 (L - 34) (List.mem_range.mpr (by omega)); rwa [show 34 + (L - 34) = L by omega] at this
    by_cases h4 : L < 45
    · have := List.all_eq_true.mp orb4 (L - 40) (List.mem_range.mpr (by omega)); rwa [show 40 + (L - 40) = L by omega] at this
    · have := List.all_eq_true.mp orb5 (L - 45) (List.mem_range.mpr (by omega)); rwa [show 45 + (L - 45) = L by omega] at this
  have := List.all_eq_true.mp key s (List.mem_range.mpr hs)
  rw [Bool.and_eq_true] at this
  exact ⟨beq_iff_eq.mp this.1, beq_iff_eq.mp this.2⟩
def turnsN (c L : Nat) : Nat := ((List.range L).map fun s => c ^ Nat.gcd L s).sum
def backsN (c L : Nat) : Nat := ((List.range L).map fun s => c ^ reflN L s).sum
theorem due_ok : (List.range 13).all (fun s => (List.range 49).all fun L => s == 0 || (L == 0 || (turnsN (ccN s) L / L == rotN (ccN s) L && (turnsN (ccN s) L + backsN (ccN s) L) / (2 * L) == mirN (ccN s) L))) = true := by decide +kernel
theorem cc_ok : (List.range 13).all (fun s => s == 0 || ccN s == chgN s (s / 2 + 1)) = true := by decide +kernel
end Kb

set_option Elab.async false
set_option linter.all false
set_option maxRecDepth 100000
set_option maxHeartbeats 4000000
/-! defs of the program that many laws call: check_stage, change_count -/
namespace Kb
open PySem PySem.Spec PyProof.Rows L2
/-! the tactics: rd walks a reading; tk closes a fact about a heap from those ahead of it -/
local macro_rules | `(tactic| walk_at "tk") => `(tactic| first
  | assumption
  | ((with_reducible refine' sqT_of ?k); (case k => assumption))
  | ((with_reducible refine' sqT_ofD ?k); (case k => assumption))
  | ((with_reducible refine' noD_of ?k); (case k => assumption))
  | ((with_reducible refine' noD_same ?s ?k); (case s => assumption); (case k => walk_at "tk"))
  | ((with_reducible refine' sqL_of ?k); (case k => assumption))
  | ((with_reducible refine' sqT_same ?s ?k); (case s => assumption); (case k => walk_at "tk"))
  | ((with_reducible refine' sqL_same ?s ?k); (case s => assumption); (case k => walk_at "tk"))
  | ((with_reducible refine' sqT_but ?s ?t ?k); (case s => assumption); (case t => walk_at "tk"); (case k => walk_at "tk"))
  | ((with_reducible refine' sqL_but ?s ?t ?k); (case s => assumption); (case t => walk_at "ne"); (case k => walk_at "tk"))
  | ((with_reducible refine' sqL_of ?k); (case k => walk_at "tk"))
  | ((with_reducible refine' sqT_of ?k); (case k => walk_at "tk"))
  | ((with_reducible refine' at_same ?s ?k); (case s => assumption); (case k => walk_at "tk"))
  | ((with_reducible refine' at_but ?s ?t ?k); (case s => assumption); (case t => walk_at "ne"); (case k => walk_at "tk")))
local macro_rules | `(tactic| walk_at "ne") => `(tactic| first
  | assumption
  | (refine Ne.symm ?_; assumption)
  | exact ne_of_none (by assumption) (by assumption)
  | exact (ne_of_none (by assumption) (by assumption)).symm)
local macro_rules | `(tactic| walk_at "side") => `(tactic| first
  | assumption
  | omega
  | (simp only [sizeLine_eq, List.length_cons, List.length_nil, List.length_map]; omega)
  | (show _ ≤ sizeLine; decide))
local macro_rules | `(tactic| walk_at "kit") => `(tactic| first
  | (show kitB _ _ = some true; decide +kernel)
  | (show kitB _ _ = some false; decide +kernel))
local macro_rules | `(tactic| walk_at "rng") => `(tactic| first
  | (refine ⟨by omega, by omega, by omega, by omega⟩)
  | (refine ⟨by omega, by omega⟩)
  | ((simp only [List.length_map]); (refine ⟨by omega, by omega, by omega, by omega⟩))
  | ((simp only [List.length_map]); (refine ⟨by omega, by omega⟩)))
local macro_rules | `(tactic| walk_at "rd1") => `(tactic| first
  | with_reducible refine r_seq ?_
  | ((with_reducible refine' r_var ?k0 ?_); (case k0 => rfl))
  | with_reducible refine r_op ?_
  | with_reducible refine r_c ?_
  | with_reducible refine r_asg ?_
  | with_reducible refine r_name ?_
  | with_reducible refine r_cons ?_
  | with_reducible refine r_nil ?_
  | with_reducible refine r_CB ?_
  | with_reducible refine r_if ?_
  | with_reducible refine r_test ?_
  | with_reducible refine r_k ?_
  | with_reducible refine r_T ?_
  | with_reducible refine r_F ?_
  | with_reducible refine r_nT ?_
  | with_reducible refine r_nF ?_
  | with_reducible refine r_ret ?_
  | with_reducible refine r_drop ?_
  | with_reducible refine r_next ?_
  | with_reducible refine r_call ?_
  | with_reducible refine r_addI ?_
  | with_reducible refine r_subI ?_
  | with_reducible refine r_ltI ?_
  | with_reducible refine r_gtI ?_
  | with_reducible refine r_leI ?_
  | with_reducible refine r_geI ?_
  | with_reducible refine r_eqI ?_
  | with_reducible refine r_neI ?_
  | with_reducible refine r_int ?_
  | with_reducible refine r_abs ?_
  | with_reducible refine r_not ?_
  | with_reducible refine r_and ?_
  | with_reducible refine r_or ?_
  | with_reducible refine r_tru ?_
  | with_reducible refine r_truB ?_
  | with_reducible refine r_lst ?_
  | with_reducible refine r_tup ?_
  | with_reducible refine r_BM ?_
  | with_reducible refine r_BM0 ?_
  | with_reducible refine r_tyS ?_
  | with_reducible refine r_gsub ?_
  | with_reducible refine r_then ?_
  | with_reducible refine r_lstRg ?_
  | with_reducible refine r_tupRg ?_
  | with_reducible refine r_rg2 ?_
  | with_reducible refine r_rg1 ?_
  | with_reducible refine r_ii ?_
  | with_reducible refine r_i ?_
  | with_reducible refine r_ipI ?_
  | with_reducible refine r_un ?_
  | with_reducible refine r_neg ?_
  | with_reducible refine r_isN ?_
  | with_reducible refine r_notN ?_
  | with_reducible refine r_notV ?_
  | with_reducible refine r_pnot ?_
  | with_reducible refine r_pif ?_
  | with_reducible refine r_andV ?_
  | with_reducible refine r_orV ?_
  | with_reducible refine r_ifE ?_
  | with_reducible refine r_chain ?_
  | with_reducible refine r_sl ?_
  | with_reducible refine r_noPart ?_
  | with_reducible refine r_part ?_
  | with_reducible refine r_brk ?_
  | with_reducible refine r_cont ?_
  | with_reducible refine r_retN ?_
  | with_reducible refine r_truI ?_
  | with_reducible refine r_B ?_
  | with_reducible refine r_for ?_
  | with_reducible refine r_rng1 ?_
  | with_reducible refine r_rng2 ?_
  | with_reducible refine r_rng3 ?_
  | with_reducible refine r_body ?_
  | with_reducible refine r_lc ?_
  | with_reducible refine r_yes ?_
  | ((with_reducible refine' r_mod ?k0 ?_); (case k0 => walk_at "side"))
  | ((with_reducible refine' r_mulI ?k0 ?_); (case k0 => first | exact Or.inl ⟨by omega, by omega⟩ | exact Or.inr ⟨by omega, by omega⟩))
  | ((with_reducible refine' r_lenL ?k0 ?_); (case k0 => walk_at "tk"))
  | ((with_reducible refine' r_lenT ?k0 ?_); (case k0 => walk_at "tk"))
  | ((with_reducible refine' r_truL ?k0 ?_); (case k0 => walk_at "tk"))
  | ((with_reducible refine' r_truT ?k0 ?_); (case k0 => walk_at "tk"))
  | ((with_reducible refine' r_ixL ?k0 ?k1 ?_); (case k0 => walk_at "tk"); (case k1 => first | assumption | rfl))
  | ((with_reducible refine' r_ixT ?k0 ?k1 ?_); (case k0 => walk_at "tk"); (case k1 => first | assumption | rfl))
  | ((with_reducible refine' r_new ?k0 ?_); (case k0 => walk_at "side"))
  | ((with_reducible refine' r_tyL ?k0 ?_); (case k0 => walk_at "tk"))
  | ((with_reducible refine' r_append ?k0 ?k1 ?_); (case k0 => walk_at "tk"); (case k1 => walk_at "side"))
  | ((with_reducible refine' r_setL ?k0 ?k1 ?_); (case k0 => walk_at "tk"); (case k1 => first | assumption | rfl))
  | ((with_reducible refine' r_kTupL ?k0 ?_); (case k0 => walk_at "tk"))
  | ((with_reducible refine' r_kTupT ?k0 ?_); (case k0 => walk_at "tk"))
  | ((with_reducible refine' r_listL ?k0 ?_); (case k0 => walk_at "tk"))
  | ((with_reducible refine' r_listT ?k0 ?_); (case k0 => walk_at "tk"))
  | ((with_reducible refine' r_aug ?k0 ?_); (case k0 => rfl))
  | ((with_reducible refine' r_lenS ?k0 ?_); (case k0 => walk_at "side"))
  | ((with_reducible refine' r_pop ?k0 ?_); (case k0 => walk_at "tk"))
  | ((with_reducible refine' r_pr1 ?k0 ?_); (case k0 => walk_at "rng"))
  | ((with_reducible refine' r_pr2 ?k0 ?_); (case k0 => walk_at "rng"))
  | ((with_reducible refine' r_pr3d ?k0 ?_); (case k0 => walk_at "rng"))
  | ((with_reducible refine' r_isiI ?k0 ?_); (case k0 => walk_at "kit"))
  | ((with_reducible refine' r_isiB ?k0 ?_); (case k0 => walk_at "kit"))
  | ((with_reducible refine' r_isiS ?k0 ?_); (case k0 => walk_at "kit"))
  | ((with_reducible refine' r_isiN ?k0 ?_); (case k0 => walk_at "kit"))
  | ((with_reducible refine' r_isiT ?k0 ?k1 ?_); (case k0 => walk_at "tk"); (case k1 => walk_at "kit"))
  | ((with_reducible refine r_seqT ?_); (repeat (walk_at "rd1")); ((with_reducible refine' r_pseqT ?k0 ?_); (case k0 => walk_at "tk")))
  | ((with_reducible refine r_seqL ?_); (repeat (walk_at "rd1")); ((with_reducible refine' r_pseqL ?k0 ?_); (case k0 => walk_at "tk")))
  | ((with_reducible refine r_seqS ?_); (repeat (walk_at "rd1")); (with_reducible refine r_pseqS ?_)))
local macro_rules | `(tactic| walk_at "rd") => `(tactic| ((repeat (walk_at "rd1")); (try dsimp only)))

local macro_rules | `(tactic| walk_at "rd1") => `(tactic| first
  | with_reducible refine r_BMT ?_
  | with_reducible refine r_par ?_
  | with_reducible refine r_parV ?_
  | ((with_reducible refine' r_ptp ?k0 ?k1 ?_); (case k0 => walk_at "tk"); (case k1 => walk_at "tk"))
  | with_reducible refine r_eqS ?_
  | with_reducible refine r_neS ?_
  | with_reducible refine r_callW ?_
  | with_reducible refine r_try ?_
  | with_reducible refine r_enT ?_
  | ((with_reducible refine' r_pen ?k0 ?_); (case k0 => walk_at "tk")))

theorem r_gTup2 {K : PySem.W.Frag} {a : Addr} {x y : V} {i j : Nat} {σ : L2.St} {H : Hp} {Q : L2.St → Hp → Prop} (h : SqT K H a [x, y]) (q : Q ((σ.set i (some x)).set j (some y)) H) : gTup K 2 (gCons (gName i) (gCons (gName j) gNil)) (.ref a) σ H Q :=
  ⟨a, [x, y], rfl, h, rfl, _, _, rfl, _, _, rfl, rfl, q⟩
def sp_check_stage (K : PySem.W.Frag) (ec : Str → Addr) : Sp := fun vs H Q E => ∃ (s : Int), vs = [.int s] ∧ (1 ≤ s ∧ s ≤ 12 → Q .non H) ∧
  (¬ (1 ≤ s ∧ s ≤ 12) → ∀ d H', Same H H' → H d = none → H' d = some (.xd [("word", .str "BadStage")]) → E (.ref (ec "BadStage")) (some d) H')
def sp_change_count (K : PySem.W.Frag) (ec : Str → Addr) : Sp := fun vs H Q E => ∃ (s : Int), vs = [.int s] ∧ (1 ≤ s ∧ s ≤ 12 → ∀ H', Same H H' → Q (.int (ccN s.toNat : Nat)) H') ∧
  (¬ (1 ≤ s ∧ s ≤ 12) → ∀ d H', Same H H' → H d = none → H' d = some (.xd [("word", .str "BadStage")]) → E (.ref (ec "BadStage")) (some d) H')
abbrev N_check_stage : List Str := ["stage"]
def t_check_stage (K : PySem.W.Frag) (ec : Str → Addr) (E : XK) : TS :=
  (tIfS ((tNot ((tTest (tChain (rLeU K) (rLeU K) ((tC (.int 1))) (tVar 0) ((tCB (rLenU K) (tCons ((tC (.str "1234567890ET"))) tNil)))))))) ((sRaise (fun cls d _ H => E cls d H) (tBad (ec "BadStage") "BadStage"))) (tNext))

abbrev N_change_count : List Str := ["stage", "before", "count", "_"]
def t_change_count (K : PySem.W.Frag) (ec : Str → Addr) (E : XK) : TS :=
  tSeq (tDrop ((tCallW (sp_check_stage K ec) (fun cls d _ H => E cls d H) (tCons (tVar 0) tNil))))
  (tSeq (tAsg ((tC (.int 1))) (gName 1))
  (tSeq (tAsg ((tC (.int 1))) (gName 2))
  (tSeq (tFor (iRng1 (tCons ((tOp rSubU (tVar 0) ((tC (.int 1))))) tNil)) (gName 3) ((tPar 1 2 (tCons (tVar 2) (tCons ((tOp (rAddU K) (tVar 1) (tVar 2))) tNil)))))
  ((tRet (tVar 2))))))


section
variable {K : PySem.W.Frag} {ec : Str → Addr} {ns : List Str} {vs : List V} {H : Hp} {Q : VK} {E : XK}
theorem len_check_stage (h : sp_check_stage K ec vs H Q E) : vs.length = 1 := by obtain ⟨s, rfl, _⟩ := h; rfl
theorem len_change_count (h : sp_change_count K ec vs H Q E) : vs.length = 1 := by obtain ⟨s, rfl, _⟩ := h; rfl
theorem signs_len : (("1234567890ET" : Str).length : Int) = 12 := by decide
theorem pure_check_stage (XS : Exs K ec ns) (h : sp_check_stage K ec vs H Q E) : t_check_stage K ec E (En Q) (start N_check_stage vs) H := by
  obtain ⟨s, rfl, q, qE⟩ := h
  unfold t_check_stage
  walk_at "rd"
  refine r_ite (fun h1 => ?_) (fun h1 => ?_)
  · walk_at "rd"
    rw [signs_len]
    refine r_iteN (fun h2 => ?_) (fun h2 => ?_)
    · exact r_raise fun d H' s nd e => qE (fun z => h2 z.2) d H' s nd e
    · walk_at "rd"
      exact q ⟨h1, h2⟩
  · walk_at "rd"
    exact r_raise fun d H' s nd e => qE (fun z => h1 z.1) d H' s nd e
theorem pure_change_count (XS : Exs K ec ns) (h : sp_change_count K ec vs H Q E) : t_change_count K ec E (En Q) (start N_change_count vs) H := by
  obtain ⟨s, rfl, q, qE⟩ := h
  unfold t_change_count
  walk_at "rd"
  refine ⟨s, rfl, fun hs => ?_, fun hns d H' s' nd e => qE hns d H' s' nd e⟩
  walk_at "rd"
  refine r_forRange0 (fun i σ' H' => ∃ (z3 : Option V), σ' = [some (.int s), some (.int ((ccP i).1 : Nat)), some (.int ((ccP i).2 : Nat)), z3] ∧ Same H H')
    ⟨none, rfl, Same.refl _⟩ (fun i σ' H' hi hW => ?_) (fun σ' H' hW => ?_)
  · obtain ⟨z3, rfl, s1⟩ := hW
    walk_at "rd"
    exact ⟨_, rfl, s1⟩
  · obtain ⟨z3, rfl, s1⟩ := hW
    walk_at "rd"
    rw [show (s - 1).toNat = s.toNat - 1 by omega]
    exact q hs _ s1
end
end Kb

set_option Elab.async false
set_option linter.all false
set_option maxRecDepth 100000
set_option maxHeartbeats 4000000
/-! dicts whose keys are whole numbers, as sets -/
namespace Kb
open PySem PySem.Spec PyProof.Rows L2
/-- a dict with the bits of m as its keys -/
def DB (H : Hp) (p : Addr) (m n : Nat) : Prop := ∃ kvs : List (Key × V), H p = some (.dK kvs) ∧ kvs.length ≤ n ∧ ∀ a : Nat, (valV kvs (.inl (a : Int))).isSome = m.testBit a
def PDIn (x y : V) (H : Hp) (Q : VK) : Prop := ∃ a o, x = .ref a ∧ DGet H a y o ∧ Q (.bl o.isSome) H
def PDNo (x y : V) (H : Hp) (Q : VK) : Prop := ∃ a o, x = .ref a ∧ DGet H a y o ∧ Q (.bl (!o.isSome)) H
def PDPut (x y v : V) (H : Hp) (N : Hp → Prop) : Prop := ∃ a H4, x = .ref a ∧ DPut H a y v H4 ∧ N H4
def PDGet (x y : V) (H : Hp) (Q : VK) : Prop := ∃ a v, x = .ref a ∧ DGet H a y (some v) ∧ Q v H
section
variable {K : PySem.W.Frag} {D : Ends} {σ : L2.St} {H : Hp} {td ty tv : TE} {Q : VK} {N : Hp → Prop} {v x y : V} {p : Addr} {m n a : Nat}
theorem r_dNewK (k : ∀ p H', H p = none → Same H H' → H' p = some (.dK []) → Q (.ref p) H') : tDNewK σ H Q := fun p hp => k p _ hp (same_new hp) upd_same
theorem r_dIn (h : ty σ H fun y H1 => td σ H1 fun x H2 => PDIn x y H2 Q) : tDIn ty td σ H Q := h
theorem r_dNo (h : ty σ H fun y H1 => td σ H1 fun x H2 => PDNo x y H2 Q) : tDNotIn ty td σ H Q := h
theorem r_dPut (h : tv σ H fun v H1 => td σ H1 fun x H2 => ty σ H2 fun y H3 => PDPut x y v H3 fun H4 => D.nx σ H4) : sDPut td ty tv D σ H := h
theorem r_dGet (h : td σ H fun x H1 => ty σ H1 fun y H2 => PDGet x y H2 Q) : tDGet td ty σ H Q := h
theorem db_new (e : H p = some (.dK [])) : DB H p 0 0 := ⟨[], e, Nat.le_refl _, fun a => by rw [Nat.zero_testBit]; rfl⟩
theorem r_dbIn (h : DB H p m n) (q : Q (.bl (m.testBit a)) H) : PDIn (.ref p) (.int (a : Int)) H Q := by
  obtain ⟨kvs, e, _, hb⟩ := h
  refine ⟨p, valV kvs (.inl (a : Int)), rfl, .inl ⟨kvs, .inl (a : Int), .inl e, rfl, rfl⟩, ?_⟩
  rw [hb a]
  exact q
theorem r_dbNo (h : DB H p m n) (q : Q (.bl (!m.testBit a)) H) : PDNo (.ref p) (.int (a : Int)) H Q := by
  obtain ⟨kvs, e, _, hb⟩ := h
  refine ⟨p, valV kvs (.inl (a : Int)), rfl, .inl ⟨kvs, .inl (a : Int), .inl e, rfl, rfl⟩, ?_⟩
  rw [hb a]
  exact q
theorem r_dbPut (h : DB H p m n) (hn : n < sizeLine) (k : ∀ H', But p H H' → DB H' p (m ||| (1 <<< a)) (n + 1) → N H') : PDPut (.ref p) (.int (a : Int)) v H N := by
  obtain ⟨kvs, e, hl, hb⟩ := h
  refine ⟨p, _, rfl, DPut.k (k := .inl (a : Int)) e (by omega), k _ but_upd ⟨_, upd_same, ?_, fun b => ?_⟩⟩
  · have := length_putK kvs (.inl (a : Int)) v
    omega
  · rw [valV_put]
    rw [Nat.testBit_or, Nat.one_shiftLeft, Nat.testBit_two_pow]
    by_cases hab : a = b
    · subst hab
      rw [if_pos rfl]
      simp
    · rw [if_neg (fun z => hab (by have := Sum.inl.inj z; omega)), hb b]
      simp [hab]
end
end Kb

set_option Elab.async false
set_option linter.all false
set_option maxRecDepth 100000
set_option maxHeartbeats 4000000
/-! lists of whole numbers: l < m, l[::-1], slices and sums of lists -/
namespace Kb
open PySem PySem.Spec PyProof.Rows L2 PySem.SeqAt
theorem first_lex : ∀ ns ms : List Int, firstLt (fun j => ns.getD j 0 == ms.getD j 0) (fun j => decide (ns.getD j 0 < ms.getD j 0)) (decide (ns.length < ms.length)) (List.range (min ns.length ms.length)) = HT.lexLt ns ms
  | [], [] => rfl
  | [], y :: ys => by
    rw [HT.lexLt_nil_cons]
    show firstLt _ _ _ (List.range (min 0 _)) = true
    rw [Nat.zero_min]
    exact decide_eq_true (by simp)
  | x :: xs, [] => by
    rw [HT.lexLt_cons_nil]
    show firstLt _ _ _ (List.range (min _ 0)) = false
    rw [Nat.min_zero]
    exact decide_eq_false (by simp)
  | x :: xs, y :: ys => by
    have ih := first_lex xs ys
    rw [HT.lexLt_cons, List.length_cons, List.length_cons, Nat.succ_min_succ, List.range_succ_eq_map]
    by_cases h : x = y
    · rw [if_pos h, firstLt_yes (by simpa using h), PySem.W.firstLt_map, ← ih]
      have e1 : decide (xs.length + 1 < ys.length + 1) = decide (xs.length < ys.length) := by simp
      rw [e1]
      rfl
    · rw [if_neg h, firstLt_no (by simpa using h)]
      rfl
theorem ints_at {us : List Value} {ns : List Int} (h : IntsAre us ns) : us.length = ns.length ∧ ∀ j (hj : j < us.length), ∃ t, us[j] = .int (ns.getD j 0) t := by
  induction h with
  | nil => exact ⟨rfl, fun j hj => by cases hj⟩
  | cons n t _ ih =>
    refine ⟨by rw [List.length_cons, List.length_cons, ih.1], fun j hj => ?_⟩
    cases j with
    | zero => exact ⟨t, rfl⟩
    | succ j => exact ih.2 j (by rw [List.length_cons] at hj; omega)
theorem lt_lstInts {prog : Program} {w : World} {A : Around} {s : Shared} {E : Value → Shared → Prop} {l b : Addr} {its its2 : List Value} {ns ms : List Int} {Q : Value → Shared → Prop} (hl : s.heap.IsList l its.toArray) (hb : s.heap.IsList b its2.toArray) (hi : IntsAre its ns) (hj : IntsAre its2 ms)
    (hu : A.units < cLine) (h : Q (.bool (HT.lexLt ns ms)) s) : wpAny (model prog w) A (compareOp .Lt (.ref l) (.ref b)) Q E s := by
  obtain ⟨e1, g1⟩ := ints_at hi
  obtain ⟨e2, g2⟩ := ints_at hj
  refine RcLt.lists (e := fun j => ns.getD j 0 == ms.getD j 0) (r := fun j => decide (ns.getD j 0 < ms.getD j 0)) hl hb hu (fun j h1 h2 => ?_) (fun j h1 h2 _ => ?_) prog w E Q ?_
  · rw [List.size_toArray] at h1 h2
    obtain ⟨t, ht⟩ := g1 j h1
    obtain ⟨u, hu'⟩ := g2 j h2
    rw [List.getElem_toArray, List.getElem_toArray, ht, hu']
    exact EqAt.int_int _ _ _ _
  · rw [List.size_toArray] at h1 h2
    obtain ⟨t, ht⟩ := g1 j h1
    obtain ⟨u, hu'⟩ := g2 j h2
    rw [List.getElem_toArray, List.getElem_toArray, ht, hu']
    exact fun prog w E Q h => HT.rcLt_int _ _ _ _ _ _ prog w E Q h
  · rw [List.size_toArray, List.size_toArray, e1, e2, first_lex]
    exact h
def rLtL (K : PySem.W.Frag) : R2 := fun x y H Q => ∃ a b ns ms, x = .ref a ∧ y = .ref b ∧ SqL K H a (ns.map V.int) ∧ SqL K H b (ms.map V.int) ∧ Q (.bl (HT.lexLt ns ms)) H
theorem op_ltL {X : Cx} (hu : X.A.units + 64 < cLine) : OpR X (compareOp .Lt) (rLtL X.K) := by
  intro pins s σ H x y v u Q I rx ry h
  obtain ⟨a, b, ns, ms, rfl, rfl, ha, hb, q⟩ := h
  cases rx
  cases ry
  obtain ⟨its, r1, p1, _⟩ := I.list ha
  obtain ⟨its2, r2, p2, _⟩ := I.list hb
  exact lt_lstInts p1.isList p2.isList (intsAre_of r1) (intsAre_of r2) (by omega) ⟨.bl (HT.lexLt ns ms), H, I, rfl, q⟩
section
variable {K : PySem.W.Frag} {σ : L2.St} {H : Hp} {te : TE} {Q : VK} {a b : Addr}
theorem r_ltL {ns ms : List Int} (ha : SqL K H a (ns.map V.int)) (hb : SqL K H b (ms.map V.int)) (q : Q (.bl (HT.lexLt ns ms)) H) : rLtL K (.ref a) (.ref b) H Q := ⟨a, b, ns, ms, rfl, rfl, ha, hb, q⟩
def PRevL (K : PySem.W.Frag) (x : V) (H : Hp) (Q : VK) : Prop := ∃ a xs, x = .ref a ∧ SqL K H a xs ∧ ∀ p, H p = none → Q (.ref p) (upd H p (.lst xs.reverse))
theorem r_revL (h : te σ H fun x H1 => PRevL K x H1 Q) : tRevL K te σ H Q := h
theorem r_prevL {xs : List V} (h : SqL K H a xs) (k : ∀ p H', H p = none → Same H H' → H' p = some (.lst xs.reverse) → Q (.ref p) H') : PRevL K (.ref a) H Q := ⟨a, xs, rfl, h, fun p hp => k p _ hp (same_new hp) upd_same⟩
theorem r_slLL {xs : List V} {lo hi : Option Int} (h : SqL K H a xs) (k : ∀ p H', H p = none → Same H H' → H' p = some (.lst (cutV xs lo hi)) → Q (.ref p) H') : rSlU K (.ref a) lo hi H Q := .inl ⟨a, xs, rfl, h, fun p hp => k p _ hp (same_new hp) upd_same⟩
theorem r_catL {xs ys : List V} (h1 : H a = some (.lst xs)) (h2 : H b = some (.lst ys)) (hz : xs.length + ys.length ≤ sizeLine) (k : ∀ p H', H p = none → Same H H' → H' p = some (.lst (xs ++ ys)) → Q (.ref p) H') : rAddU K (.ref a) (.ref b) H Q :=
  .inr (.inr (.inl ⟨a, b, xs, ys, rfl, rfl, h1, h2, hz, fun p hp => k p _ hp (same_new hp) upd_same⟩))
theorem cut_from {xs : List V} {k : Nat} (h : k ≤ xs.length) : cutV xs (some (k : Int)) none = xs.drop k := by
  have e : HT.sIx xs.length 0 (some (k : Int)) = k := by rw [HT.sIx_nat]; omega
  have e2 : HT.sIx xs.length xs.length none = xs.length := rfl
  unfold cutV
  rw [e, e2]
  exact List.take_of_length_le (by rw [List.length_drop]; omega)
theorem cut_to {xs : List V} {k : Nat} (h : k ≤ xs.length) : cutV xs none (some (k : Int)) = xs.take k := by
  have e : HT.sIx xs.length 0 none = 0 := rfl
  have e2 : HT.sIx xs.length xs.length (some (k : Int)) = k := by rw [HT.sIx_nat]; omega
  unfold cutV
  rw [e, e2]
  rfl
end
end Kb

set_option Elab.async false
set_option linter.all false
set_option maxRecDepth 100000
set_option maxHeartbeats 4000000
/-! texts: enumerate, find, join, insert; sorted of rows -/
namespace Kb
open PySem PySem.Spec PyProof.Rows L2 SX PySem.Builtin.Str
/-! ### enumerate(text), enumerate(text, start=k) -/
def IteS (z : Str) (k : Int) : It :=
  ⟨fun i H => i < z.cps.size, fun i H v H' => ∃ T c, v = .ref T ∧ H T = none ∧ H' = upd H T (.tup [.int (k + (i : Nat)), .str ⟨#[c]⟩]) ∧ z.cps[i]? = some c, fun i H => z.cps.size = i⟩
theorem turn_enumS {P : Program} {w : World} {K : PySem.W.Frag} {elts : List Expr} {kk : Nat} {tpos : Pos} (z : Str) (tz : Tok) (e it : Addr) (k : Int) (hal : e ≠ it) :
    Turn P w K (.Tuple elts kk tpos) (IteS z k) [e, it] e (fun i h => (∃ old, IsEnum h e it (k + ((i : Nat) : Int)) old) ∧ h.IsStrIter it (strIterType z) z tz i) where
  mem := by simp
  obj := fun i h st b hb => by
    obtain ⟨⟨old, he⟩, ⟨o, ho, hc, hd⟩⟩ := st
    have e' : b = e ∨ b = it := by simpa using hb
    rcases e' with q | q
    · rw [q]; exact ⟨_, he, fun v q => nomatch q⟩
    · rw [q]; exact ⟨o, ho, fun v q => by rw [hd] at q; cases q⟩
  keep := fun i h h' st k => let ⟨⟨old, he⟩, hi⟩ := st; ⟨⟨old, k e (by simp) _ he⟩, let ⟨o, q, r⟩ := hi; ⟨o, k it (by simp) o q, r⟩⟩
  item := by
    intro X hP hw hK hc i pins s σ H E I hf st hg
    subst hP hw hK
    obtain ⟨⟨old, he⟩, hit⟩ := st
    have hel : e < s.heap.objs.size := Heap.lt_size he
    have hil : it < s.heap.objs.size := by obtain ⟨_, q, _⟩ := hit; exact Heap.lt_size q
    refine wpAny_pyNext_enum_itemC (Draws.text (A := X.A.in1) (I.ok.hd hc) it z tz) he hit hg hal (by simp [hal]) fun x' h' tk hx' ho hs' hT hsz hk => ?_
    obtain ⟨c, u, hcx, rfl⟩ := hx'
    refine ⟨_, rfl, wpAny_letOwnedTupleGo_enum (s := { s with heap := h', toks := tk + 1 }) ho fun h'' he' sb => ?_⟩
    have hT2 : h''.get? s.heap.objs.size = some { cls := .type "tuple", data := .seq #[.int (k + (i : Nat)) tk, .str ⟨#[c]⟩ u] } := (sb.2 _ (Nat.ne_of_gt hel)).trans hT
    have new : ObjOk X.prog X.w (upd H s.heap.objs.size (.tup [.int (k + (i : Nat)), .str ⟨#[c]⟩])) h'' s.heap.objs.size (.tup [.int (k + (i : Nat)), .str ⟨#[c]⟩]) :=
      ⟨by show 2 ≤ sizeLine; decide, [.int (k + (i : Nat)) tk, .str ⟨#[c]⟩ u], .cons ⟨_, rfl⟩ (.cons ⟨_, rfl⟩ .nil), ⟨_, hT2, rfl, _, rfl⟩⟩
    have I1 : Inv X pins σ (upd H s.heap.objs.size (.tup [.int (k + (i : Nat)), .str ⟨#[c]⟩])) { s with heap := h'', toks := tk + 1 } :=
      I.turnedNew (ch := [e, it]) (fun b ob hb q => (sb.2 b (fun z => hb (by simp [z]))).trans (hk b ob (fun z => hb (by simp [z])) (fun z => hb (by simp [z])) q)) hf (Nat.le_refl _) new
    refine ⟨.ref s.heap.objs.size, _, I1, rfl, ⟨_, c, rfl, I.hok.fresh (Nat.le_refl _), rfl, hcx⟩, ⟨⟨.str ⟨#[c]⟩ u, ?_⟩, let ⟨o, q, r⟩ := hs'; ⟨o, (sb.2 it (Ne.symm hal)).trans q, r⟩⟩, fun b hb => ?_⟩
    · have e1 : (k + ((i + 1 : Nat) : Int)) = k + (i : Int) + 1 := by omega
      rw [e1]; exact he'
    · have hb' : b < s.heap.objs.size := by
        have e' : b = e ∨ b = it := by simpa using hb
        rcases e' with q | q
        · rw [q]; exact hel
        · rw [q]; exact hil
      rw [upd_ne (Nat.ne_of_lt hb')]
      exact (hf b hb).1
  done := by
    intro X hP hw hK hc i pins s σ H E I hf st hg
    subst hP hw hK
    obtain ⟨⟨old, he⟩, hit⟩ := st
    have hg : z.cps.size = i := hg
    subst hg
    obtain ⟨f0, f1, f2, f3, f4, f5⟩ := hf it (by simp)
    exact wpAny_pyNext_enum_endD (Draws.text (A := X.A.in1) (I.ok.hd hc) it z tz) he hit fun h' eb => ⟨rfl, I.turned (t' := s.toks) (fun b o hb q => eb b o hb q) f0 f1 f3 f4 f5⟩
  self := fun A i s Q E st h => let ⟨⟨_, he⟩, _⟩ := st; wpAny_pyIter_enum he h
def iEnS (k : Int) (ta : TA) : TI := fun σ H R => ta σ H fun vs H1 => ∃ z, vs = [.str z] ∧ R (IteS z k) H1
section
variable {X : Cx} {e : Expr} {ta : TA} {p pos tpos kp cp : Pos} {elts : List Expr} {kk j : Nat} {k : Int}
theorem enumS_end {pins : List (Addr × Obj)} {σ : L2.St} {H1 : Hp} {s1 : Shared} {R : It → Hp → Prop} {z : Str} {tz : Tok} {h' : Heap} {t' : Nat} (I1 : Inv X pins σ H1 s1) (he : IsEnum h' (s1.heap.objs.size + 1) s1.heap.objs.size k .none)
    (hit : h'.get? s1.heap.objs.size = some { cls := .type (strIterType z), data := .fields #[.str z tz, .int 0 0] }) (hk : ∀ b o, s1.heap.get? b = some o → h'.get? b = some o) (q : R (IteS z k) H1) :
    wpAny (model X.prog X.w) X.A (pyIter (.ref (s1.heap.objs.size + 1))) (PIE X pins σ (.Tuple elts kk tpos) R) X.xe { s1 with heap := h', toks := t' } := by
  refine wpAny_pyIter_enum he ?_
  have I2 : Inv X pins σ H1 { s1 with heap := h', toks := t' } := I1.kept (t' := t') hk
  refine ⟨s1.heap.objs.size + 1, [s1.heap.objs.size + 1, s1.heap.objs.size], _, _, H1, rfl, I2, turn_enumS z tz (s1.heap.objs.size + 1) s1.heap.objs.size k (Nat.succ_ne_self _), ⟨⟨.none, by simpa using he⟩, ⟨_, hit, rfl, rfl⟩⟩, fun b hb => ?_, q⟩
  have e' : b = s1.heap.objs.size + 1 ∨ b = s1.heap.objs.size := by simpa using hb
  have hle : s1.heap.objs.size ≤ b := by
    rcases e' with z | z
    · rw [z]; exact Nat.le_add_right _ _
    · rw [z]; exact Nat.le_refl _
  exact I1.fpOk hle (I1.hok.fresh hle)
theorem pi_enumTx (hg : Gl X "enumerate") (hm : X.mg "enumerate" = none) (ha : PA X [e] ta) (hs : starEach [e] X.env = [(false, eval e X.env)] := by rfl) :
    PI X (.Tuple elts kk tpos) (.Call (.Name "enumerate" p) [e] [] pos) (iEnS 0 ta) := by
  refine ⟨fun pins s σ H R I h => ?_⟩
  refine Call_ (ld_blt I hg hm boot_enumerate (PyProof.Rows.callWith_type1 (thn (ha.run pos pins s σ H _ I h) fun us s1 ⟨vs, H1, I1, r1, q1⟩ => ?_) hs rfl))
  obtain ⟨z, ex, q⟩ := q1
  subst ex
  cases r1 with
  | cons r rr =>
    cases rr
    obtain ⟨t, rfl⟩ := r
    refine enum_begins1 (begins_text z t) trivial fun h' he hit hsz hk => ?_
    exact enumS_end (t' := s1.toks) I1 he hit hk q
theorem pi_enumTxS (hg : Gl X "enumerate") (hm : X.mg "enumerate" = none) (ha : PA X [e] ta) (h0 : -(2 ^ 63) ≤ k) (h1 : k < 2 ^ 63) (hs : starEach [e] X.env = [(false, eval e X.env)] := by rfl)
    (hc : eval (.Call (.Name "enumerate" p) [e] [⟨some "start", .Constant (.int k) j cp, kp⟩] pos) X.env = (do
      callWith pos (← eval (.Name "enumerate" p) X.env) [] (backTo pos (starEach [e] X.env)) (backToKw pos (keywordEach [⟨some "start", .Constant (.int k) j cp, kp⟩] X.env))) := by rfl) :
    PI X (.Tuple elts kk tpos) (.Call (.Name "enumerate" p) [e] [⟨some "start", .Constant (.int k) j cp, kp⟩] pos) (iEnS k ta) := by
  refine ⟨fun pins s σ H R I h => ?_⟩
  rw [hc]
  refine wpAny_bind (ld_blt I hg hm boot_enumerate (callWith_tyKw (thn (ha.run pos pins s σ H _ I h) fun us s1 ⟨vs, H1, I1, r1, q1⟩ => ?_) rfl (by rw [hs] <;> rfl) hs))
  refine thn ((pk_cons (nm := some "start") (kpos := kp) (pe_int (j := j) (pos := cp)) pk_nil).run pos pins s1 σ H1 (fun ws H2 => ws = [.int k] ∧ H2 = H1) I1 ⟨rfl, rfl⟩) fun ks s2 ⟨ws, H2, I2, r2, ew, eH⟩ => ?_
  subst ew
  subst eH
  obtain ⟨z, ex, q⟩ := q1
  subst ex
  cases r1 with
  | cons r rr =>
    cases rr
    obtain ⟨t, rfl⟩ := r
    cases r2 with
    | cons r3 rr =>
      cases rr
      obtain ⟨t3, rfl⟩ := r3
      refine PySem.enum_begins_start (begins_text z t) trivial h0 h1 fun h' he hit hsz hk => ?_
      exact enumS_end (t' := s2.toks) I2 he hit hk q
end
def PEnS (k : Int) (vs : List V) (H : Hp) (R : It → Hp → Prop) : Prop := ∃ z, vs = [.str z] ∧ R (IteS z k) H
section
variable {K : PySem.W.Frag} {D : Ends} {σ : L2.St} {H : Hp} {ta : TA} {te : TE} {tb : TS} {R : It → Hp → Prop} {Q : VK} {z w : Str} {k : Int} {i j : Nat}
theorem r_enS (h : ta σ H fun vs H1 => PEnS k vs H1 R) : iEnS k ta σ H R := h
theorem r_penS (q : R (IteS z k) H) : PEnS k [.str z] H R := ⟨z, rfl, q⟩
/-- for i, c in enumerate(text) -/
theorem r_forEnS (Pv : Nat → L2.St → Hp → Prop) (h0 : Pv 0 σ H)
    (hs : ∀ n c σ' H' H2, z.cps.toList[n]? = some c → Pv n σ' H' → Same H' H2 → tb { D with nx := Pv (n + 1), ct := Pv (n + 1), bk := D.nx } ((σ'.set i (some (.int (k + (n : Int))))).set j (some (.str ⟨#[c]⟩))) H2)
    (hd : ∀ σ' H', Pv z.cps.toList.length σ' H' → D.nx σ' H') : PFor (IteS z k) (gTup K 2 (gCons (gName i) (gCons (gName j) gNil))) tb D σ H := by
  refine ⟨fun n m σ' H' => m = z.cps.size - n ∧ n ≤ z.cps.size ∧ Pv n σ' H', ⟨_, rfl, Nat.zero_le _, h0⟩, ?_⟩
  rintro n m σ' H' ⟨rfl, hn, p⟩
  by_cases hlt : n < z.cps.size
  · refine .inr ⟨hlt, Pv (n + 1), fun σ2 H2 p2 => ⟨_, by omega, rfl, hlt, p2⟩, ?_⟩
    rintro x H2 ⟨T, c, rfl, hT, rfl, hc⟩
    refine ⟨T, [.int (k + (n : Int)), .str ⟨#[c]⟩], rfl, sqT_of upd_same, rfl, ?_⟩
    exact ⟨_, _, rfl, _, _, rfl, rfl, hs n c σ' H' _ (by rw [Array.getElem?_toList]; exact hc) p (same_new hT)⟩
  · have e : n = z.cps.size := by omega
    subst e
    exact .inl ⟨rfl, hd σ' H' (by rw [Array.length_toList]; exact p)⟩
/-- for c in text -/
theorem r_forStr (Pv : Nat → L2.St → Hp → Prop) (h0 : Pv 0 σ H)
    (hs : ∀ n c σ' H', z.cps.toList[n]? = some c → Pv n σ' H' → tb { D with nx := Pv (n + 1), ct := Pv (n + 1), bk := D.nx } (σ'.set j (some (.str ⟨#[c]⟩))) H')
    (hd : ∀ σ' H', Pv z.cps.toList.length σ' H' → D.nx σ' H') : PFor (Its z) (gName j) tb D σ H := by
  refine ⟨fun n m σ' H' => m = z.cps.size - n ∧ n ≤ z.cps.size ∧ Pv n σ' H', ⟨_, rfl, Nat.zero_le _, h0⟩, ?_⟩
  rintro n m σ' H' ⟨rfl, hn, p⟩
  by_cases hlt : n < z.cps.size
  · refine .inr ⟨hlt, Pv (n + 1), fun σ2 H2 p2 => ⟨_, by omega, rfl, hlt, p2⟩, ?_⟩
    rintro x H2 ⟨rfl, c, hc, rfl⟩
    exact hs n c σ' _ (by rw [Array.getElem?_toList]; exact hc) p
  · have e : n = z.cps.size := by omega
    subst e
    exact .inl ⟨Nat.le_refl _, hd σ' H' (by rw [Array.length_toList]; exact p)⟩
end
/-! ### methods of texts and lists -/
def rFind : V → List V → Hp → VK → Prop := fun x xs H Q => ∃ a b, x = .str a ∧ xs = [.str b] ∧ Q (.int (Txt.find a b)) H
def rJoin (K : PySem.W.Frag) : V → List V → Hp → VK → Prop := fun x xs H Q => ∃ a p, ∃ ys : List Str, x = .str a ∧ xs = [.ref p] ∧ (SqL K H p (ys.map V.str) ∨ SqT K H p (ys.map V.str)) ∧ (ys.map (·.length)).sum + ys.length * a.length ≤ 16777216 ∧ Q (.str (Txt.join a ys)) H
def rInsert : V → List V → Hp → VK → Prop := fun x vs H Q => ∃ (l : Addr) (xs : List V) (i : Int) (y : V), x = .ref l ∧ vs = [.int i, y] ∧ H l = some (.lst xs) ∧ xs.length < sizeLine ∧ 0 ≤ i ∧ i < 2 ^ 63 ∧ Q .non (upd H l (.lst (xs.take i.toNat ++ [y] ++ xs.drop i.toNat)))
def rStartsw : V → List V → Hp → VK → Prop := fun x xs H Q => ∃ a b, x = .str a ∧ xs = [.str b] ∧ Q (.bl (Txt.startswith a b)) H
def rLower : V → List V → Hp → VK → Prop := fun x xs H Q => ∃ a, x = .str a ∧ xs = [] ∧ a.length ≤ 5592405 ∧ Q (.str (Txt.lower a)) H
def rUpper : V → List V → Hp → VK → Prop := fun x xs H Q => ∃ a, x = .str a ∧ xs = [] ∧ a.length ≤ 5592405 ∧ Q (.str (Txt.upper a)) H
def rCountS : V → List V → Hp → VK → Prop := fun x xs H Q => ∃ a b, x = .str a ∧ xs = [.str b] ∧ Q (.int (Txt.count a b)) H
def rStrI : List V → Hp → VK → Prop := fun xs H Q => ∃ i, xs = [.int i] ∧ i.natAbs.log2 < 1920 ∧ Q (.str (toString i)) H
section
variable {K : PySem.W.Frag} {H : Hp} {Q : VK} {a : Addr} {z w : Str} {y : V}
/-- where the sign c stands in l, or -1 -/
def fnd (l : List Nat) (c : Nat) : Int := match l.findIdx? (· == c) with | some i => (i : Int) | none => -1
theorem sub_sign {l : List Nat} {c i : Nat} (h : i < l.length) : subAt (S l) (S [c]) i = true ↔ l[i]? = some c := by
  rw [List.getElem?_eq_getElem h]
  simp [subAt, S, Str.length]
  rw [List.drop_eq_getElem_cons h, List.take_succ_cons, List.take_zero]
  simp
theorem find_S (l : List Nat) (c : Nat) : Txt.find (S l) ⟨#[c]⟩ = fnd l c := by
  have L1 : (S [c]).length = 1 := rfl
  have L2 : (S l).length = l.length := S_len l
  rcases find_whole (S l) (S [c]) with ⟨e, hn⟩ | ⟨i, e, hi, hn⟩
  · rw [show Txt.find (S l) ⟨#[c]⟩ = -1 from e]
    unfold fnd
    have : l.findIdx? (· == c) = none := by
      rw [List.findIdx?_eq_none_iff]
      intro x hx
      by_cases z : x = c
      · subst z
        obtain ⟨j, hj, rfl⟩ := List.mem_iff_getElem.mp hx
        exact absurd ⟨by rw [L1, L2]; omega, (sub_sign hj).mpr (List.getElem?_eq_getElem hj)⟩ (hn j)
      · simpa using z
    rw [this]
  · rw [show Txt.find (S l) ⟨#[c]⟩ = (i : Int) from e]
    unfold fnd
    have hil : i < l.length := by have := hi.1; rw [L1, L2] at this; omega
    have : l.findIdx? (· == c) = some i := by
      rw [List.findIdx?_eq_some_iff_getElem]
      have e2 := (sub_sign hil).mp hi.2
      rw [List.getElem?_eq_getElem hil] at e2
      refine ⟨hil, by simpa using e2, fun j hj => ?_⟩
      have hjl : j < l.length := by omega
      by_cases z : l[j] = c
      · exact absurd ⟨by rw [L1, L2]; omega, (sub_sign hjl).mpr (by rw [List.getElem?_eq_getElem hjl, z])⟩ (hn j hj)
      · simpa using z
    rw [this]
theorem r_find {l : List Nat} {c : Nat} (e : z.cps.toList = l) (q : Q (.int (fnd l c)) H) : rFind (.str z) [.str ⟨#[c]⟩] H Q := by
  refine ⟨z, _, rfl, rfl, ?_⟩
  subst e
  have := find_S z.cps.toList c
  rw [S_tl] at this
  rw [this]
  exact q
theorem joinL_nil : ∀ ys : List (List Nat), TL.joinL [] ys = ys.flatten
  | [] => rfl
  | [a] => by simp [TL.joinL]
  | a :: b :: r => by
    have := joinL_nil (b :: r)
    simp only [TL.joinL, List.flatten_cons] at *
    rw [this]
    simp
/-- ''.join of a list of texts -/
theorem r_join {ys : List (List Nat)} (h : SqL K H a (ys.map fun y => V.str (S y))) (hz : ys.flatten.length ≤ 16777216) (q : Q (.str (S ys.flatten)) H) : rJoin K (.str ⟨#[]⟩) [.ref a] H Q := by
  refine ⟨_, a, ys.map S, rfl, rfl, .inl (by rw [List.map_map]; exact h), ?_, ?_⟩
  · rw [lens, show (⟨#[]⟩ : Str).length = 0 from rfl, Nat.mul_zero, Nat.add_zero]
    rw [List.length_flatten] at hz
    exact hz
  · have := join_S [] ys
    rw [joinL_nil] at this
    rw [show (⟨#[]⟩ : Str) = S [] from rfl, this]
    exact q
theorem r_insert0 {xs : List V} (h : H a = some (.lst xs)) (hz : xs.length < sizeLine) (k : ∀ H', But a H H' → H' a = some (.lst (y :: xs)) → Q .non H') : rInsert (.ref a) [.int 0, y] H Q :=
  ⟨a, xs, 0, y, rfl, rfl, h, hz, by decide, by decide, k _ but_upd upd_same⟩
end
end Kb

set_option Elab.async false
set_option linter.all false
set_option maxRecDepth 100000
set_option maxHeartbeats 4000000
/-! draws, slices and sums of tuples, as steps; heaps that come from one another -/
namespace Kb
open PySem PySem.Spec PyProof.Rows L2 SX
def cutA {α : Type} (xs : List α) (lo hi : Option Int) : List α := (xs.drop (HT.sIx xs.length 0 lo)).take (HT.sIx xs.length xs.length hi - HT.sIx xs.length 0 lo)
section
variable {K : PySem.W.Frag} {H H' : Hp} {Q : VK} {E : XK} {p a b l : Addr} {m : Int} {ns ms : List Int} {xs ys : List V} {lo hi : Option Int}
theorem cut_map {α : Type} (f : α → V) (ns : List α) : cutV (ns.map f) lo hi = (cutA ns lo hi).map f := by
  unfold cutV cutA
  rw [List.length_map, List.map_take, List.map_drop]
theorem cutA_len {α : Type} (ns : List α) : (cutA ns lo hi).length ≤ ns.length := by
  unfold cutA
  rw [List.length_take, List.length_drop]; omega
theorem cutA_whole {α : Type} {ns : List α} (h : HT.sIx ns.length 0 lo = 0 ∧ HT.sIx ns.length ns.length hi = ns.length) : cutA ns lo hi = ns := by
  unfold cutA
  rw [h.1, h.2, List.drop_zero, Nat.sub_zero, List.take_length]
theorem cutA_to {α : Type} {ns : List α} {k : Nat} (h : k ≤ ns.length) : cutA ns none (some (k : Int)) = ns.take k := by
  unfold cutA
  rw [HT.sIx_nat, HT.sIx_none, List.drop_zero, Nat.sub_zero, Nat.min_eq_left h]
theorem cutA_from {α : Type} {ns : List α} {k : Nat} (h : k ≤ ns.length) : cutA ns (some (k : Int)) none = ns.drop k := by
  unfold cutA
  rw [HT.sIx_nat, HT.sIx_none, Nat.min_eq_left h, List.take_of_length_le (by rw [List.length_drop]; omega)]
/-- a slice of a tuple: the tuple itself or a new one -/
theorem r_slT (h : SqT K H a xs) (q : ∀ p H', Same H H' → SqT K H' p (cutA xs lo hi) → Q (.ref p) H') : rSlU K (.ref a) lo hi H Q := by
  refine .inr (.inl ⟨a, xs, rfl, h, fun z => q a H (Same.refl _) (by rw [cutA_whole z]; exact h), fun _ p hp => q p _ (same_new hp) (sqT_of ?_)⟩)
  rw [upd_same]
  have := cut_map (lo := lo) (hi := hi) id xs
  rw [List.map_id, List.map_id] at this
  rw [this]
theorem r_slI (h : SqT K H a (ns.map V.int)) (q : ∀ p H', Same H H' → SqT K H' p ((cutA ns lo hi).map V.int) → Q (.ref p) H') : rSlU K (.ref a) lo hi H Q :=
  r_slT h fun p H' s e => q p H' s (by rw [← cut_map]; have := cut_map (lo := lo) (hi := hi) id (ns.map V.int); rw [List.map_id, List.map_id] at this; rw [this]; exact e)
theorem r_catTT (h1 : SqT K H a xs) (h2 : SqT K H b ys) (hz : xs.length + ys.length ≤ sizeLine) (q : ∀ p H', Same H H' → SqT K H' p (xs ++ ys) → Q (.ref p) H') : rAddU K (.ref a) (.ref b) H Q := by
  refine .inr (.inr (.inr ⟨a, b, xs, ys, rfl, rfl, h1, h2, hz, fun e => ?_, fun _ e => ?_, fun _ _ p hp => ?_⟩))
  · exact q b H (Same.refl _) (by rw [e]; exact h2)
  · exact q a H (Same.refl _) (by rw [e, List.append_nil]; exact h1)
  · exact q p _ (same_new hp) (sqT_of upd_same)
theorem r_catII (h1 : SqT K H a (ns.map V.int)) (h2 : SqT K H b (ms.map V.int)) (hz : ns.length + ms.length ≤ 16000000) (q : ∀ p H', Same H H' → SqT K H' p ((ns ++ ms).map V.int) → Q (.ref p) H') : rAddU K (.ref a) (.ref b) H Q :=
  r_catTT h1 h2 (by rw [List.length_map, List.length_map, sizeLine_eq]; omega) fun p H' s e => q p H' s (by rw [List.map_append]; exact e)
theorem r_draw (hp : Pl H p) (h0 : 0 < m) (h1 : m < 2 ^ 200) (q : ∀ v H', 0 ≤ v → v < m → But p H H' → Pl H' p → Q (.int v) H') : sp_law_draw K ([.ref p, .int m] ++ []) H Q E := ⟨p, m, rfl, hp, h0, h1, q⟩
theorem sqT_pl (b : But p H H') (hp : Pl H p) (h : SqT K H a xs) : SqT K H' a xs := by
  obtain ⟨x, y, z, e⟩ := hp
  exact sqT_but b e h
theorem ne_pl (hn : H l = none) (hp : Pl H p) : l ≠ p := by
  obtain ⟨x, y, z, e⟩ := hp
  exact (ne_of_none e hn).symm
theorem pl_butL (b : But l H H') (n : p ≠ l) (h : Pl H p) : Pl H' p := by
  obtain ⟨x, y, z, e⟩ := h
  exact ⟨x, y, z, b _ _ n e⟩
theorem free_but (b : But p H H') (n : a ≠ p) (h : H' a = none) : H a = none := by
  cases e : H a with
  | none => rfl
  | some u => rw [b _ _ n e] at h; cases h
theorem rp_pl {v : V} {d : Dat} (b : But p H H') (hp : Pl H p) (h : Rp K H v d) : Rp K H' v d := by
  obtain ⟨x, y, z, e⟩ := hp
  exact rp_but b e h
theorem sqI_of (h : H a = some (.tup (ns.map V.int))) : SqT K H a (ns.map V.int) := sqT_of h
theorem sqI_0 (h : H a = some (.tup [])) : SqT K H a (([] : List Int).map V.int) := sqT_of h
theorem sqI_1 {i : Int} (h : H a = some (.tup [.int i])) : SqT K H a ([i].map V.int) := sqT_of h
theorem sqI_D (h : ∃ o : Obj, H a = some (.frz o (.tup (ns.map V.int))) ∧ o.dict = none) : SqT K H a (ns.map V.int) := sqT_ofD h
theorem S_eqD {a : List Nat} {z : Str} : decide (S a = z) = decide (a = z.cps.toList) := by
  have : S a = z ↔ a = z.cps.toList := ⟨fun h => by rw [← h], fun h => by rw [h]⟩
  exact decide_eq_decide.mpr this
theorem cutS_S (l : List Nat) : cutS (S l) lo hi = S (cutA l lo hi) := by
  unfold cutS cutA
  rw [S_len]
theorem r_slS {l : List Nat} (hz : l.length ≤ 16000000) (q : Q (.str (S (cutA l lo hi))) H) : rSlU K (.str (S l)) lo hi H Q :=
  .inr (.inr ⟨S l, rfl, by rw [S_len, sizeLine_eq]; omega, by rw [cutS_S]; exact q⟩)
theorem cutA_take {α : Type} {ns : List α} {k : Nat} : cutA ns none (some (k : Int)) = ns.take k := by
  unfold cutA
  rw [HT.sIx_nat, HT.sIx_none, List.drop_zero, Nat.sub_zero]
  by_cases h : k ≤ ns.length
  · rw [Nat.min_eq_left h]
  · rw [Nat.min_eq_right (by omega), List.take_of_length_le (Nat.le_refl _), List.take_of_length_le (by omega)]
theorem cutA_drop {α : Type} {ns : List α} {k : Nat} : cutA ns (some (k : Int)) none = ns.drop k := by
  unfold cutA
  rw [HT.sIx_nat, HT.sIx_none]
  by_cases h : k ≤ ns.length
  · rw [Nat.min_eq_left h, List.take_of_length_le (by rw [List.length_drop]; omega)]
  · rw [Nat.min_eq_right (by omega), List.drop_eq_nil_of_le (by omega : ns.length ≤ k), List.drop_length]; simp
theorem r_eqSS {a : List Nat} {z : Str} (q : Q (.bl (decide (a = z.cps.toList))) H) : rEqU K (.str (S a)) (.str z) H Q := r_eqS (by rw [S_eqD]; exact q)
theorem r_neSS {a : List Nat} {z : Str} (q : Q (.bl (!decide (a = z.cps.toList))) H) : rNeU K (.str (S a)) (.str z) H Q := r_neS (by rw [S_eqD]; exact q)
theorem r_lenSS {l : List Nat} (hz : l.length ≤ 16000000) (q : Q (.int (l.length : Int)) H) : rLenU K [.str (S l)] H Q := r_lenS (by rw [S_len, sizeLine_eq]; omega) (by rw [S_len]; exact q)
theorem r_addSS {a b : List Nat} (hz : a.length + b.length ≤ 16000000) (q : Q (.str (S (a ++ b))) H) : rAddU K (.str (S a)) (.str (S b)) H Q := r_addS (by rw [S_len, S_len, sizeLine_eq]; omega) (by rw [S_cat]; exact q)
theorem r_ixSS {l : List Nat} {c : Nat} (hz : l.length ≤ 16000000) (ha : atI l m = some c) (q : Q (.str (S [c])) H) : rIx K (.str (S l)) (.int m) H Q := r_ixS (by rw [S_len, sizeLine_eq]; omega) ha q
end
end Kb

set_option linter.all false
/-! changes of a stage: the mathematics; no program here -/
namespace Kb
/-- the rest of a change of n behind the place last -/
def isC (n last : Int) : List Int → Bool
  | [] => decide ((n - last) % 2 = 0)
  | p :: r => decide (last < p) && (decide (p ≤ n) && (!decide ((p - last) % 2 = 0) && isC n p r))
def Chg (n : Int) (cs : List Int) : Prop := isC n 0 cs = true
theorem isC_cons {n last p : Int} {r : List Int} : isC n last (p :: r) = true ↔ last < p ∧ p ≤ n ∧ ¬ (p - last) % 2 = 0 ∧ isC n p r = true := by
  simp [isC]
/-- behind the members of cs, one by one -/
def okC (n : Int) (last : Int) : List Int → Bool
  | [] => true
  | p :: r => decide (last < p) && (decide (p ≤ n) && (!decide ((p - last) % 2 = 0) && okC n p r))
def lastC (last : Int) : List Int → Int
  | [] => last
  | p :: r => lastC p r
theorem isC_iff {n : Int} : ∀ {cs : List Int} {last : Int}, isC n last cs = true ↔ okC n last cs = true ∧ (n - lastC last cs) % 2 = 0
  | [], last => by simp [isC, okC, lastC]
  | p :: r, last => by
    have := isC_iff (n := n) (cs := r) (last := p)
    simp only [isC, okC, lastC, Bool.and_eq_true]
    rw [this]
    constructor
    · rintro ⟨a, b, c, d, e⟩; exact ⟨⟨a, b, c, d⟩, e⟩
    · rintro ⟨⟨a, b, c, d⟩, e⟩; exact ⟨a, b, c, d, e⟩
theorem okC_snoc {n : Int} {x : Int} : ∀ {cs : List Int} {last : Int}, okC n last (cs ++ [x]) = true ↔ okC n last cs = true ∧ lastC last cs < x ∧ x ≤ n ∧ ¬ (x - lastC last cs) % 2 = 0
  | [], last => by simp [okC, lastC]
  | p :: r, last => by
    have := okC_snoc (n := n) (x := x) (cs := r) (last := p)
    simp only [List.cons_append, okC, lastC, Bool.and_eq_true]
    rw [this]
    constructor
    · rintro ⟨a, b, c, d, e⟩; exact ⟨⟨a, b, c, d⟩, e⟩
    · rintro ⟨⟨a, b, c, d⟩, e⟩; exact ⟨a, b, c, d, e⟩
theorem lastC_snoc {x : Int} : ∀ {cs : List Int} {last : Int}, lastC last (cs ++ [x]) = x
  | [], _ => rfl
  | p :: r, _ => lastC_snoc (cs := r) (last := p)
theorem okC_mem {n : Int} : ∀ {cs : List Int} {last : Int}, okC n last cs = true → ∀ x ∈ cs, last < x ∧ x ≤ n
  | [], _, _, x, hx => nomatch hx
  | p :: r, last, h, x, hx => by
    simp only [okC, Bool.and_eq_true, decide_eq_true_eq] at h
    rcases List.mem_cons.mp hx with rfl | hx
    · exact ⟨h.1, h.2.1⟩
    · have := okC_mem h.2.2.2 x hx
      omega
theorem okC_len {n : Int} : ∀ {cs : List Int} {last : Int}, 0 ≤ last → last ≤ n → okC n last cs = true → (cs.length : Int) + last ≤ n
  | [], _, _, h, _ => by simpa using h
  | p :: r, last, h0, _, h => by
    simp only [okC, Bool.and_eq_true, decide_eq_true_eq] at h
    have := okC_len (cs := r) (last := p) (by omega) h.2.1 h.2.2.2
    simp only [List.length_cons]
    omega
theorem Chg.mem {n : Int} {cs : List Int} (h : Chg n cs) : ∀ x ∈ cs, 1 ≤ x ∧ x ≤ n := fun x hx => by
  have := okC_mem (isC_iff.mp h).1 x hx
  omega
theorem Chg.len {n : Int} {cs : List Int} (h : Chg n cs) (hn : 0 ≤ n) : (cs.length : Int) ≤ n := by
  have := okC_len (Int.le_refl 0) hn (isC_iff.mp h).1
  omega
/-! the law's own test: even gaps -/
def evG (last : Int) : List Int → Bool
  | [] => true
  | p :: r => decide (last < p) && (!decide ((p - last) % 2 = 0) && evG p r)
theorem evG_mono : ∀ {cs : List Int} {last m : Int}, evG last (cs ++ [m]) = true → last < m ∧ ∀ x ∈ cs, x < m
  | [], last, m, h => by simp [evG] at h; exact ⟨h.1, fun x hx => nomatch hx⟩
  | p :: r, last, m, h => by
    simp only [List.cons_append, evG, Bool.and_eq_true, decide_eq_true_eq] at h
    obtain ⟨h1, h2⟩ := evG_mono (cs := r) h.2.2
    refine ⟨by omega, fun x hx => ?_⟩
    rcases List.mem_cons.mp hx with rfl | hx
    · exact h1
    · exact h2 x hx
theorem evG_isC {n : Int} : ∀ {cs : List Int} {last : Int}, evG last (cs ++ [n + 1]) = true ↔ last ≤ n ∧ isC n last cs = true
  | [], last => by
    simp only [List.nil_append, evG, isC, Bool.and_eq_true, decide_eq_true_eq, Bool.not_eq_true', decide_eq_false_iff_not, and_true]
    omega
  | p :: r, last => by
    have ih := evG_isC (n := n) (cs := r) (last := p)
    simp only [List.cons_append, evG, isC, Bool.and_eq_true, decide_eq_true_eq]
    rw [ih]
    constructor
    · rintro ⟨a, b, c, d⟩; exact ⟨by omega, a, c, b, d⟩
    · rintro ⟨a, b, c, d, e⟩; exact ⟨b, d, c, e⟩
theorem even_gaps {n : Int} (hn : 0 ≤ n) {cs : List Int} : evG 0 (cs ++ [n + 1]) = true ↔ Chg n cs := by
  rw [evG_isC]
  exact ⟨fun h => h.2, fun h => ⟨hn, h⟩⟩
/-! all changes of a stage -/
def genC : Nat → Nat → Nat → List (List Int)
  | 0, _, _ => []
  | f + 1, n, last => (if (n - last) % 2 = 0 then [[]] else []) ++ ((List.range (n + 1)).filter fun p => decide (last < p) && decide ((p - last) % 2 = 1)).flatMap fun p => (genC f n p).map ((p : Int) :: ·)
theorem genC_mem {n : Nat} : ∀ {f : Nat} {cs : List Int} {last : Nat}, last ≤ n → n < f + last → isC n last cs = true → cs ∈ genC f n last
  | 0, _, _, h1, h2, _ => absurd h1 (by omega)
  | f + 1, [], last, h1, _, h => by
    simp only [isC, decide_eq_true_eq] at h
    unfold genC
    rw [if_pos (by omega)]
    simp
  | f + 1, p :: r, last, h1, h2, h => by
    obtain ⟨a, b, c, d⟩ := isC_cons.mp h
    obtain ⟨q, rfl⟩ : ∃ q : Nat, p = (q : Int) := ⟨p.toNat, by omega⟩
    unfold genC
    refine List.mem_append.mpr (.inr (List.mem_flatMap.mpr ⟨q, List.mem_filter.mpr ⟨List.mem_range.mpr (by omega), ?_⟩, List.mem_map.mpr ⟨r, genC_mem (by omega) (by omega) d, rfl⟩⟩))
    rw [Bool.and_eq_true, decide_eq_true_eq, decide_eq_true_eq]
    omega
theorem chg_all {n : Nat} {cs : List Int} (h : Chg n cs) : cs ∈ genC (n + 1) n 0 := genC_mem (Nat.zero_le _) (by omega) h
/-- what a finite look at all changes of all stages tells -/
theorem chg_check {p : Nat → List Int → Bool} (h : ((List.range 13).all fun n => (genC (n + 1) n 0).all (p n)) = true) {n : Nat} {cs : List Int} (hn : n ≤ 12) (hc : Chg n cs) : p n cs = true :=
  List.all_eq_true.mp (List.all_eq_true.mp h n (List.mem_range.mpr (by omega))) cs (chg_all hc)
/-! signs -/
def signsL : List Nat := [49, 50, 51, 52, 53, 54, 55, 56, 57, 48, 69, 84]
def sgAt (p : Int) : Nat := signsL.getD (p - 1).toNat 0
end Kb

set_option Elab.async false
set_option linter.all false
set_option maxRecDepth 100000
set_option maxHeartbeats 4000000
/-! changes: is_number, is_change, check_change, place_of, may_follow, change_of, read_change -/
namespace Kb
open PySem PySem.Spec PyProof.Rows L2 SX
/-! the tactics: rd walks a reading; tk closes a fact about a heap from those ahead of it -/
local macro_rules | `(tactic| walk_at "tk") => `(tactic| first
  | assumption
  | ((with_reducible refine' sqT_of ?k); (case k => assumption))
  | ((with_reducible refine' sqT_ofD ?k); (case k => assumption))
  | ((with_reducible refine' noD_of ?k); (case k => assumption))
  | ((with_reducible refine' noD_same ?s ?k); (case s => assumption); (case k => walk_at "tk"))
  | ((with_reducible refine' sqL_of ?k); (case k => assumption))
  | ((with_reducible refine' sqT_same ?s ?k); (case s => assumption); (case k => walk_at "tk"))
  | ((with_reducible refine' sqL_same ?s ?k); (case s => assumption); (case k => walk_at "tk"))
  | ((with_reducible refine' sqT_but ?s ?t ?k); (case s => assumption); (case t => walk_at "tk"); (case k => walk_at "tk"))
  | ((with_reducible refine' sqL_but ?s ?t ?k); (case s => assumption); (case t => walk_at "ne"); (case k => walk_at "tk"))
  | ((with_reducible refine' sqL_of ?k); (case k => walk_at "tk"))
  | ((with_reducible refine' sqT_of ?k); (case k => walk_at "tk"))
  | ((with_reducible refine' at_same ?s ?k); (case s => assumption); (case k => walk_at "tk"))
  | ((with_reducible refine' at_but ?s ?t ?k); (case s => assumption); (case t => walk_at "ne"); (case k => walk_at "tk")))
local macro_rules | `(tactic| walk_at "ne") => `(tactic| first
  | assumption
  | (refine Ne.symm ?_; assumption)
  | exact ne_of_none (by assumption) (by assumption)
  | exact (ne_of_none (by assumption) (by assumption)).symm)
local macro_rules | `(tactic| walk_at "side") => `(tactic| first
  | assumption
  | omega
  | (simp only [sizeLine_eq, List.length_cons, List.length_nil, List.length_map]; omega)
  | (show _ ≤ sizeLine; decide))
local macro_rules | `(tactic| walk_at "kit") => `(tactic| first
  | (show kitB _ _ = some true; decide +kernel)
  | (show kitB _ _ = some false; decide +kernel))
local macro_rules | `(tactic| walk_at "rng") => `(tactic| first
  | (refine ⟨by omega, by omega, by omega, by omega⟩)
  | (refine ⟨by omega, by omega⟩)
  | ((simp only [List.length_map]); (refine ⟨by omega, by omega, by omega, by omega⟩))
  | ((simp only [List.length_map]); (refine ⟨by omega, by omega⟩)))
local macro_rules | `(tactic| walk_at "rd1") => `(tactic| first
  | with_reducible refine r_seq ?_
  | ((with_reducible refine' r_var ?k0 ?_); (case k0 => rfl))
  | with_reducible refine r_op ?_
  | with_reducible refine r_c ?_
  | with_reducible refine r_asg ?_
  | with_reducible refine r_name ?_
  | with_reducible refine r_cons ?_
  | with_reducible refine r_nil ?_
  | with_reducible refine r_CB ?_
  | with_reducible refine r_if ?_
  | with_reducible refine r_test ?_
  | with_reducible refine r_k ?_
  | with_reducible refine r_T ?_
  | with_reducible refine r_F ?_
  | with_reducible refine r_nT ?_
  | with_reducible refine r_nF ?_
  | with_reducible refine r_ret ?_
  | with_reducible refine r_drop ?_
  | with_reducible refine r_next ?_
  | with_reducible refine r_call ?_
  | with_reducible refine r_addI ?_
  | with_reducible refine r_subI ?_
  | with_reducible refine r_ltI ?_
  | with_reducible refine r_gtI ?_
  | with_reducible refine r_leI ?_
  | with_reducible refine r_geI ?_
  | with_reducible refine r_eqI ?_
  | with_reducible refine r_neI ?_
  | with_reducible refine r_int ?_
  | with_reducible refine r_abs ?_
  | with_reducible refine r_not ?_
  | with_reducible refine r_and ?_
  | with_reducible refine r_or ?_
  | with_reducible refine r_tru ?_
  | with_reducible refine r_truB ?_
  | with_reducible refine r_lst ?_
  | with_reducible refine r_tup ?_
  | with_reducible refine r_BM ?_
  | with_reducible refine r_BM0 ?_
  | with_reducible refine r_tyS ?_
  | with_reducible refine r_gsub ?_
  | with_reducible refine r_then ?_
  | with_reducible refine r_lstRg ?_
  | with_reducible refine r_tupRg ?_
  | with_reducible refine r_rg2 ?_
  | with_reducible refine r_rg1 ?_
  | with_reducible refine r_ii ?_
  | with_reducible refine r_i ?_
  | with_reducible refine r_ipI ?_
  | with_reducible refine r_un ?_
  | with_reducible refine r_neg ?_
  | with_reducible refine r_isN ?_
  | with_reducible refine r_notN ?_
  | with_reducible refine r_notV ?_
  | with_reducible refine r_pnot ?_
  | with_reducible refine r_pif ?_
  | with_reducible refine r_andV ?_
  | with_reducible refine r_orV ?_
  | with_reducible refine r_ifE ?_
  | with_reducible refine r_chain ?_
  | with_reducible refine r_sl ?_
  | with_reducible refine r_noPart ?_
  | with_reducible refine r_part ?_
  | with_reducible refine r_brk ?_
  | with_reducible refine r_cont ?_
  | with_reducible refine r_retN ?_
  | with_reducible refine r_truI ?_
  | with_reducible refine r_B ?_
  | with_reducible refine r_for ?_
  | with_reducible refine r_rng1 ?_
  | with_reducible refine r_rng2 ?_
  | with_reducible refine r_rng3 ?_
  | with_reducible refine r_body ?_
  | with_reducible refine r_lc ?_
  | with_reducible refine r_yes ?_
  | ((with_reducible refine' r_mod ?k0 ?_); (case k0 => walk_at "side"))
  | ((with_reducible refine' r_mulI ?k0 ?_); (case k0 => first | exact Or.inl ⟨by omega, by omega⟩ | exact Or.inr ⟨by omega, by omega⟩))
  | ((with_reducible refine' r_lenL ?k0 ?_); (case k0 => walk_at "tk"))
  | ((with_reducible refine' r_lenT ?k0 ?_); (case k0 => walk_at "tk"))
  | ((with_reducible refine' r_truL ?k0 ?_); (case k0 => walk_at "tk"))
  | ((with_reducible refine' r_truT ?k0 ?_); (case k0 => walk_at "tk"))
  | ((with_reducible refine' r_ixL ?k0 ?k1 ?_); (case k0 => walk_at "tk"); (case k1 => first | assumption | rfl))
  | ((with_reducible refine' r_ixT ?k0 ?k1 ?_); (case k0 => walk_at "tk"); (case k1 => first | assumption | rfl))
  | ((with_reducible refine' r_new ?k0 ?_); (case k0 => walk_at "side"))
  | ((with_reducible refine' r_tyL ?k0 ?_); (case k0 => walk_at "tk"))
  | ((with_reducible refine' r_append ?k0 ?k1 ?_); (case k0 => walk_at "tk"); (case k1 => walk_at "side"))
  | ((with_reducible refine' r_setL ?k0 ?k1 ?_); (case k0 => walk_at "tk"); (case k1 => first | assumption | rfl))
  | ((with_reducible refine' r_kTupL ?k0 ?_); (case k0 => walk_at "tk"))
  | ((with_reducible refine' r_kTupT ?k0 ?_); (case k0 => walk_at "tk"))
  | ((with_reducible refine' r_listL ?k0 ?_); (case k0 => walk_at "tk"))
  | ((with_reducible refine' r_listT ?k0 ?_); (case k0 => walk_at "tk"))
  | ((with_reducible refine' r_aug ?k0 ?_); (case k0 => rfl))
  | ((with_reducible refine' r_lenS ?k0 ?_); (case k0 => walk_at "side"))
  | ((with_reducible refine' r_pop ?k0 ?_); (case k0 => walk_at "tk"))
  | ((with_reducible refine' r_pr1 ?k0 ?_); (case k0 => walk_at "rng"))
  | ((with_reducible refine' r_pr2 ?k0 ?_); (case k0 => walk_at "rng"))
  | ((with_reducible refine' r_pr3d ?k0 ?_); (case k0 => walk_at "rng"))
  | ((with_reducible refine' r_isiI ?k0 ?_); (case k0 => walk_at "kit"))
  | ((with_reducible refine' r_isiB ?k0 ?_); (case k0 => walk_at "kit"))
  | ((with_reducible refine' r_isiS ?k0 ?_); (case k0 => walk_at "kit"))
  | ((with_reducible refine' r_isiN ?k0 ?_); (case k0 => walk_at "kit"))
  | ((with_reducible refine' r_isiT ?k0 ?k1 ?_); (case k0 => walk_at "tk"); (case k1 => walk_at "kit"))
  | ((with_reducible refine r_seqT ?_); (repeat (walk_at "rd1")); ((with_reducible refine' r_pseqT ?k0 ?_); (case k0 => walk_at "tk")))
  | ((with_reducible refine r_seqL ?_); (repeat (walk_at "rd1")); ((with_reducible refine' r_pseqL ?k0 ?_); (case k0 => walk_at "tk")))
  | ((with_reducible refine r_seqS ?_); (repeat (walk_at "rd1")); (with_reducible refine r_pseqS ?_)))
local macro_rules | `(tactic| walk_at "rd") => `(tactic| ((repeat (walk_at "rd1")); (try dsimp only)))

local macro_rules | `(tactic| walk_at "rd1") => `(tactic| first
  | with_reducible refine r_BMT ?_
  | with_reducible refine r_par ?_
  | with_reducible refine r_parV ?_
  | ((with_reducible refine' r_ptp ?k0 ?k1 ?_); (case k0 => walk_at "tk"); (case k1 => walk_at "tk"))
  | with_reducible refine r_eqS ?_
  | with_reducible refine r_neS ?_
  | with_reducible refine r_callW ?_
  | with_reducible refine r_try ?_
  | with_reducible refine r_enT ?_
  | ((with_reducible refine' r_pen ?k0 ?_); (case k0 => walk_at "tk")))

local macro_rules | `(tactic| walk_at "pl0") => `(tactic| first
  | assumption
  | exact pl_same (by assumption) (by assumption)
  | exact pl_same (by assumption) (pl_same (by assumption) (by assumption))
  | exact pl_same (by assumption) (pl_same (by assumption) (pl_same (by assumption) (by assumption))))
local macro_rules | `(tactic| walk_at "pl") => `(tactic| first
  | walk_at "pl0"
  | ((with_reducible refine' pl_butL ?s ?n ?k); (case s => assumption); (case n => walk_at "ne"); (case k => walk_at "pl"))
  | ((with_reducible refine' pl_same ?s ?k); (case s => assumption); (case k => walk_at "pl")))
local macro_rules | `(tactic| walk_at "ne") => `(tactic| first
  | exact ne_pl (by assumption) (by walk_at "pl0")
  | exact (ne_pl (by assumption) (by walk_at "pl0")).symm)
local macro_rules | `(tactic| walk_at "fr") => `(tactic| first
  | assumption
  | ((with_reducible refine' free_but ?b ?n ?h); (case h => assumption); (case n => walk_at "ne"); (case b => walk_at "but"))
  | ((with_reducible refine' Same.free ?b ?h); (case h => assumption); (case b => walk_at "same")))
local macro_rules | `(tactic| walk_at "but") => `(tactic| first
  | assumption
  | exact But.refl
  | ((with_reducible refine' But.trans ?a ?b); (case b => assumption); (case a => walk_at "but"))
  | ((with_reducible refine' But.trans ?a (Same.but ?b)); (case b => assumption); (case a => walk_at "but"))
  | ((with_reducible refine' but_via ?a ?b ?c); (case b => assumption); (case c => walk_at "fr"); (case a => walk_at "but")))
local macro_rules | `(tactic| walk_at "same") => `(tactic| first
  | assumption
  | exact Same.refl _
  | ((with_reducible refine' Same.trans ?a ?b); (case b => assumption); (case a => walk_at "same"))
  | ((with_reducible refine' same_but ?a ?b ?c); (case b => assumption); (case c => walk_at "fr"); (case a => walk_at "same")))
local macro_rules | `(tactic| walk_at "tk") => `(tactic| first
  | ((with_reducible refine' sqT_pl ?s ?t ?k); (case s => assumption); (case t => walk_at "pl0"); (case k => walk_at "tk"))
  | ((with_reducible refine' rp_same ?s ?k); (case s => assumption); (case k => walk_at "tk"))
  | ((with_reducible refine' rp_pl ?s ?t ?k); (case s => assumption); (case t => walk_at "pl0"); (case k => walk_at "tk")))
local macro_rules | `(tactic| walk_at "it") => `(tactic| first
  | assumption
  | ((with_reducible refine' sqI_1 ?k); (case k => assumption))
  | ((with_reducible refine' sqI_0 ?k); (case k => assumption))
  | ((with_reducible refine' sqI_of ?k); (case k => assumption))
  | ((with_reducible refine' sqI_D ?k); (case k => assumption))
  | ((with_reducible refine' sqT_same ?s ?k); (case s => assumption); (case k => walk_at "it"))
  | ((with_reducible refine' sqT_but ?s ?t ?k); (case s => assumption); (case t => assumption); (case k => walk_at "it"))
  | ((with_reducible refine' sqT_pl ?s ?t ?k); (case s => assumption); (case t => walk_at "pl0"); (case k => walk_at "it")))
local macro_rules | `(tactic| walk_at "sz") => `(tactic| first | omega | ((try simp only [List.length_cons, List.length_nil] at *); omega))
/-! a straight piece of a law's generator: draws, slices, sums, ifs -/
local macro_rules | `(tactic| walk_at "au1") => `(tactic| first
  | walk_at "rd1"
  | ((with_reducible refine' r_draw ?k0 ?k1 ?k2 ?_); (case k0 => walk_at "pl"); (case k1 => omega); (case k2 => omega); (intro _ _ _ _ _ _))
  | ((with_reducible refine' r_slN ?k0 ?_); (case k0 => walk_at "it"); (intro _ _ _ _ _ _))
  | ((with_reducible refine' r_catN ?k0 ?k1 ?k2 ?_); (case k0 => walk_at "it"); (case k1 => walk_at "it"); (case k2 => walk_at "sz"); (intro _ _ _ _ _ _))
  | ((with_reducible refine' r_pow ?k0 ?_); (case k0 => exact ⟨by decide, by decide, by decide⟩))
  | ((with_reducible refine' r_ixI ?k0 ?k1 ?k2 ?_); (case k0 => walk_at "it"); (case k1 => omega); (case k2 => omega); (intro _ _))
  | ((with_reducible refine' r_setI ?k0 ?k1 ?k2 ?_); (case k0 => walk_at "tk"); (case k1 => omega); (case k2 => omega); (intro _ _ _ _ _))
  | ((with_reducible refine' r_kTupI ?k0 ?_); (case k0 => walk_at "tk"); (intro _ _ _ _ _))
  | ((with_reducible refine' r_listI ?k0 ?_); (case k0 => walk_at "it"); (intro _ _ _ _ _))
  | (with_reducible refine r_revU ?_)
  | ((with_reducible refine' r_prevN ?k0 ?_); (case k0 => walk_at "it"); (intro _ _ _ _ _ _))
  | (intro _ _ _ _ _))
local macro_rules | `(tactic| walk_at "go") => `(tactic| ((repeat (walk_at "au1")); (first
  | ((with_reducible refine r_ite (fun _ => ?_) (fun _ => ?_)) <;> (walk_at "go"))
  | ((with_reducible refine r_iteN (fun _ => ?_) (fun _ => ?_)) <;> (walk_at "go"))
  | dsimp only
  | skip)))

def isNum : Dat → Bool
  | .int _ => true
  | _ => false
def chD (n last : Int) : List Dat → Bool
  | [] => decide ((n - last) % 2 = 0)
  | .int p :: r => decide (last < p) && (decide (p ≤ n) && (!decide ((p - last) % 2 = 0) && chD n p r))
  | _ :: _ => false
def isChD (n : Int) : Dat → Bool
  | .tup ds => chD n 0 ds
  | _ => false
theorem chD_ints {n : Int} : ∀ {cs : List Int} {last : Int}, chD n last (cs.map Dat.int) = isC n last cs
  | [], _ => rfl
  | p :: r, last => by
    show (decide (last < p) && (decide (p ≤ n) && (!decide ((p - last) % 2 = 0) && chD n p (r.map Dat.int)))) = _
    rw [chD_ints]; rfl
def noStage (ec : Str → Addr) (H : Hp) (E : XK) : Prop := ∀ d H', Same H H' → H d = none → H' d = some (.xd [("word", .str "BadStage")]) → E (.ref (ec "BadStage")) (some d) H'
def noChange (ec : Str → Addr) (H : Hp) (E : XK) : Prop := ∀ d H', Same H H' → H d = none → H' d = some (.xd [("word", .str "BadChange")]) → E (.ref (ec "BadChange")) (some d) H'
def noNote (ec : Str → Addr) (c : Int) (H : Hp) (E : XK) : Prop := ∀ d H', Same H H' → H d = none → H' d = some (.xd [("column", .int c), ("word", .str "BadNotation")]) → E (.ref (ec "BadNotation")) (some d) H'
def Stg (s : Int) : Prop := 1 ≤ s ∧ s ≤ 12
def sp_is_number (K : PySem.W.Frag) : Sp := fun vs H Q _ => ∃ (v : V) (d : Dat), vs = [v] ∧ Rp K H v d ∧ Q (.bl (isNum d)) H
def sp_is_change (K : PySem.W.Frag) (ec : Str → Addr) : Sp := fun vs H Q E => ∃ (s : Int) (v : V) (d : Dat), vs = [.int s, v] ∧ Rp K H v d ∧ d.size ≤ 1000000 ∧ (Stg s → ∀ H', Same H H' → Q (.bl (isChD s d)) H') ∧ (¬ Stg s → noStage ec H E)
def sp_check_change (K : PySem.W.Frag) (ec : Str → Addr) : Sp := fun vs H Q E => ∃ (s : Int) (v : V) (d : Dat), vs = [.int s, v] ∧ Rp K H v d ∧ d.size ≤ 1000000 ∧ (Stg s → isChD s d = true → ∀ H', Same H H' → Q .non H') ∧ (¬ Stg s → noStage ec H E) ∧ (Stg s → isChD s d = false → noChange ec H E)
def plC (n : Int) (c : Nat) : Int := if fnd signsL c + 1 > n then 0 else fnd signsL c + 1
def sp_place_of (K : PySem.W.Frag) : Sp := fun vs H Q _ => ∃ (s : Int) (c : Nat), vs = [.int s, .str ⟨#[c]⟩] ∧ Q (.int (plC s c)) H
def folC (l p : Int) : Bool := decide (l < p) && decide ((p - l) % 2 = 1)
def sp_may_follow (K : PySem.W.Frag) : Sp := fun vs H Q _ => ∃ (l p : Int), vs = [.int l, .int p] ∧ Q (.bl (folC l p)) H
def chOf1 (ps : List Int) : List Int := match ps with | p :: r => if p % 2 = 0 then 1 :: p :: r else p :: r | [] => []
def chOf (n : Int) (ps : List Int) : List Int := if chOf1 ps ≠ [] ∧ (n - lastC 0 (chOf1 ps)) % 2 = 1 then chOf1 ps ++ [n] else chOf1 ps
def sp_change_of (K : PySem.W.Frag) : Sp := fun vs H Q _ => ∃ (s : Int) (a : Addr) (ps : List Int), vs = [.int s, .ref a] ∧ SqL K H a (ps.map V.int) ∧ ps.length ≤ 100000 ∧ ∀ p H', H p = none → Same H H' → SqT K H' p ((chOf s ps).map V.int) → NoD H' p → Q (.ref p) H'
/-- the sign at j of a text of places is wrong -/
def badC (n : Int) (z : List Nat) (j : Nat) : Bool := decide (plC n (z.getD j 0) = 0) || (decide (0 < j) && !folC (plC n (z.getD (j - 1) 0)) (plC n (z.getD j 0)))
def rdC (n : Int) (z : List Nat) : Sum Nat (List Int) :=
  if z.take 1 = [120] ∧ n % 2 = 0 then (if 1 < z.length then .inl 2 else .inr [])
  else match (List.range z.length).find? (badC n z) with
    | some j => .inl (j + 1)
    | none => if z = [] then .inl 1 else .inr (chOf n (z.map (plC n)))
def sp_read_change (K : PySem.W.Frag) (ec : Str → Addr) : Sp := fun vs H Q E => ∃ (s : Int) (l : List Nat), vs = [.int s, .str (S l)] ∧ l.length ≤ 100000 ∧ (¬ Stg s → noStage ec H E) ∧
  (∀ c, Stg s → rdC s l = .inl c → noNote ec c H E) ∧ (∀ cs, Stg s → rdC s l = .inr cs → ∀ p H', H p = none → Same H H' → SqT K H' p (cs.map V.int) → Q (.ref p) H')
abbrev N_is_number : List Str := ["told"]
def t_is_number (K : PySem.W.Frag) : TS :=
  (tRet ((tAndV ((tCB (rIsi K) (tCons (tVar 0) (tCons ((tC (.ty "int"))) tNil)))) ((tNotV ((tCB (rIsi K) (tCons (tVar 0) (tCons ((tC (.ty "bool"))) tNil)))))))))

abbrev N_is_change : List Str := ["stage", "told", "last", "place"]
def t_is_change (K : PySem.W.Frag) (ec : Str → Addr) (E : XK) : TS :=
  tSeq (tDrop ((tCallW (sp_check_stage K ec) (fun cls d _ H => E cls d H) (tCons (tVar 0) tNil))))
  (tSeq (tIfS ((tNot ((tTru K ((tCB (rIsi K) (tCons (tVar 1) (tCons ((tC (.ty "tuple"))) tNil)))))))) ((tRet ((tC (.bl false))))) (tNext))
  (tSeq (tAsg ((tC (.int 0))) (gName 2))
  (tSeq (tFor (iSeqU K (tVar 1)) (gName 3) (tSeq (tIfS ((tOr ((tNot ((tTru K ((tCall (sp_is_number K) [] E0 (tCons (tVar 3) tNil))))))) ((tNot ((tTest (tChain (rLtU K) (rLeU K) (tVar 2) (tVar 3) (tVar 0)))))))) ((tRet ((tC (.bl false))))) (tNext))
  (tSeq (tIfS ((tTest (tOp (rEqU K) ((tOp rModU ((tOp rSubU (tVar 3) (tVar 2))) ((tC (.int 2))))) ((tC (.int 0)))))) ((tRet ((tC (.bl false))))) (tNext))
  ((tAsg (tVar 3) (gName 2))))))
  ((tRet ((tOp (rEqU K) ((tOp rModU ((tOp rSubU (tVar 0) (tVar 2))) ((tC (.int 2))))) ((tC (.int 0))))))))))

abbrev N_check_change : List Str := ["stage", "change"]
def t_check_change (K : PySem.W.Frag) (ec : Str → Addr) (E : XK) : TS :=
  (tIfS ((tNot ((tTru K ((tCallW (sp_is_change K ec) (fun cls d _ H => E cls d H) (tCons (tVar 0) (tCons (tVar 1) tNil)))))))) ((sRaise (fun cls d _ H => E cls d H) (tBad (ec "BadChange") "BadChange"))) (tNext))

abbrev N_place_of : List Str := ["stage", "sign", "place"]
def t_place_of (K : PySem.W.Frag) : TS :=
  tSeq (tAsg ((tOp (rAddU K) ((tBM K "str" rFind ((tC (.str "1234567890ET"))) (tCons (tVar 1) tNil))) ((tC (.int 1))))) (gName 2))
  (tSeq (tIfS ((tTest (tOp rGtU (tVar 2) (tVar 0)))) ((tRet ((tC (.int 0))))) (tNext))
  ((tRet (tVar 2))))

abbrev N_may_follow : List Str := ["last", "place"]
def t_may_follow (K : PySem.W.Frag) : TS :=
  (tRet ((tAndV ((tOp rGtU (tVar 1) (tVar 0))) ((tOp (rEqU K) ((tOp rModU ((tOp rSubU (tVar 1) (tVar 0))) ((tC (.int 2))))) ((tC (.int 1))))))))

abbrev N_change_of : List Str := ["stage", "places", "change"]
def t_change_of (K : PySem.W.Frag) : TS :=
  tSeq (tAsg ((tCB (rListU K) (tCons (tVar 1) tNil))) (gName 2))
  (tSeq (tIfS ((tAnd ((tTest (tOp rGtU ((tCB (rLenU K) (tCons (tVar 2) tNil))) ((tC (.int 0)))))) ((tTest (tOp (rEqU K) ((tOp rModU ((tOp (rIx K) (tVar 2) ((tC (.int 0))))) ((tC (.int 2))))) ((tC (.int 0)))))))) ((tDrop ((tBM K "list" rInsert (tVar 2) (tCons ((tC (.int 0))) (tCons ((tC (.int 1))) tNil)))))) (tNext))
  (tSeq (tIfS ((tAnd ((tTest (tOp rGtU ((tCB (rLenU K) (tCons (tVar 2) tNil))) ((tC (.int 0)))))) ((tTest (tOp (rEqU K) ((tOp rModU ((tOp rSubU (tVar 0) ((tOp (rIx K) (tVar 2) ((tUn (rU fun i => .int (-i)) ((tC (.int 1))))))))) ((tC (.int 2))))) ((tC (.int 1)))))))) ((tDrop ((tBM K "list" rAppend (tVar 2) (tCons (tVar 0) tNil))))) (tNext))
  ((tRet ((tThen (tVar 2) (kTupD K)))))))

abbrev N_read_change : List Str := ["stage", "text", "places", "column", "sign", "place"]
def t_read_change (K : PySem.W.Frag) (ec : Str → Addr) (E : XK) : TS :=
  tSeq (tDrop ((tCallW (sp_check_stage K ec) (fun cls d _ H => E cls d H) (tCons (tVar 0) tNil))))
  (tSeq (tIfS ((tAnd ((tTest (tOp (rEqU K) ((tSl (rSlU K) (tVar 1) tNoPart (tPart ((tC (.int 1)))))) ((tC (.str "x")))))) ((tTest (tOp (rEqU K) ((tOp rModU (tVar 0) ((tC (.int 2))))) ((tC (.int 0)))))))) (tSeq (tIfS ((tTest (tOp rGtU ((tCB (rLenU K) (tCons (tVar 1) tNil))) ((tC (.int 1)))))) ((sRaise (fun cls d _ H => E cls d H) (tBad1 (ec "BadNotation") "BadNotation" "column" ((tC (.int 2)))))) (tNext))
  ((tRet ((tTup tNil))))) (tNext))
  (tSeq (tAsg ((tLst tNil)) (gName 2))
  (tSeq (tFor (iEnS 1 (tCons (tVar 1) tNil)) (gTup K 2 (gCons (gName 3) (gCons (gName 4) gNil))) (tSeq (tAsg ((tCall (sp_place_of K) [] E0 (tCons (tVar 0) (tCons (tVar 4) tNil)))) (gName 5))
  (tSeq (tIfS ((tOr ((tTest (tOp (rEqU K) (tVar 5) ((tC (.int 0)))))) ((tAnd ((tTest (tOp rGtU ((tCB (rLenU K) (tCons (tVar 2) tNil))) ((tC (.int 0)))))) ((tNot ((tTru K ((tCall (sp_may_follow K) [] E0 (tCons ((tOp (rIx K) (tVar 2) ((tUn (rU fun i => .int (-i)) ((tC (.int 1))))))) (tCons (tVar 5) tNil)))))))))))) ((sRaise (fun cls d _ H => E cls d H) (tBad1 (ec "BadNotation") "BadNotation" "column" (tVar 3)))) (tNext))
  ((tDrop ((tBM K "list" rAppend (tVar 2) (tCons (tVar 5) tNil))))))))
  (tSeq (tIfS ((tTest (tOp (rEqU K) ((tCB (rLenU K) (tCons (tVar 2) tNil))) ((tC (.int 0)))))) ((sRaise (fun cls d _ H => E cls d H) (tBad1 (ec "BadNotation") "BadNotation" "column" ((tC (.int 1)))))) (tNext))
  ((tRet ((tCall (sp_change_of K) [] E0 (tCons (tVar 0) (tCons (tVar 2) tNil))))))))))


section
variable {K : PySem.W.Frag} {ec : Str → Addr} {ns : List Str} {vs : List V} {H : Hp} {Q : VK} {E : XK}
theorem len_is_number (h : sp_is_number K vs H Q E) : vs.length = 1 := by obtain ⟨s, d, rfl, _⟩ := h; rfl
theorem len_is_change (h : sp_is_change K ec vs H Q E) : vs.length = 2 := by obtain ⟨s, v, d, rfl, _⟩ := h; rfl
theorem len_check_change (h : sp_check_change K ec vs H Q E) : vs.length = 2 := by obtain ⟨s, v, d, rfl, _⟩ := h; rfl
theorem len_place_of (h : sp_place_of K vs H Q E) : vs.length = 2 := by obtain ⟨s, v, rfl, _⟩ := h; rfl
theorem len_may_follow (h : sp_may_follow K vs H Q E) : vs.length = 2 := by obtain ⟨s, v, rfl, _⟩ := h; rfl
theorem len_change_of (h : sp_change_of K vs H Q E) : vs.length = 2 := by obtain ⟨s, v, d, rfl, _⟩ := h; rfl
theorem len_read_change (h : sp_read_change K ec vs H Q E) : vs.length = 2 := by obtain ⟨s, v, rfl, _⟩ := h; rfl
theorem noStage.same {H' : Hp} (h : noStage ec H E) (s : Same H H') : noStage ec H' E := fun d H2 s2 nd e => h d H2 (s.trans s2) (s.free nd) e
theorem r_noStage {W : WX} {σ : L2.St} {D : Ends} (h : noStage ec H (fun cls d H' => W cls d σ H')) : sRaise W (tBad (ec "BadStage") "BadStage") D σ H := r_raise fun d H' s nd e => h d H' s nd e
theorem pure_is_number (h : sp_is_number K vs H Q E) : t_is_number K (En Q) (start N_is_number vs) H := by
  obtain ⟨v, d, rfl, hr, q⟩ := h
  unfold t_is_number
  cases hr with
  | int i => walk_at "rd"; exact q
  | bl b => walk_at "rd"; exact q
  | str z => walk_at "rd"; exact q
  | non => walk_at "rd"; exact q
  | tup ht hd => walk_at "rd"; exact q
theorem r_iteB' {b : Bool} {A B : Prop} (h1 : b = true → A) (h2 : b = false → B) : if b = true then A else B := by
  cases b with
  | true => exact r_T (h1 rfl)
  | false => exact r_F (h2 rfl)
theorem pure_is_change (XS : Exs K ec ns) (h : sp_is_change K ec vs H Q E) : t_is_change K ec E (En Q) (start N_is_change vs) H := by
  obtain ⟨s, v, d, rfl, hr, hz, q, qE⟩ := h
  unfold t_is_change
  walk_at "rd"
  refine ⟨s, rfl, fun hs => ?_, fun hs => qE hs⟩
  cases hr with
  | int i => walk_at "rd"; exact q hs H (Same.refl _)
  | bl b => walk_at "rd"; exact q hs H (Same.refl _)
  | str z => walk_at "rd"; exact q hs H (Same.refl _)
  | non => walk_at "rd"; exact q hs H (Same.refl _)
  | @tup a xs ds ht hd =>
    have hlen := rpL_length hd
    walk_at "rd"
    refine r_forTup (xs := xs) (fun i σ' H' => ∃ (last : Int) (z3 : Option V), σ' = [some (.int s), some (.ref a), some (.int last), z3] ∧ H' = H ∧ chD s 0 ds = chD s last (ds.drop i))
      ⟨0, none, rfl, rfl, rfl⟩ (fun i σ' H' _ hW => ?_) (fun i x σ' H' hi hW => ?_) (fun σ' H' hW => ?_)
    · obtain ⟨last, z3, rfl, rfl, _⟩ := hW
      exact ht
    · obtain ⟨last, z3, rfl, rfl, hc⟩ := hW
      have hil : i < ds.length := by rw [← hlen]; exact (List.getElem?_eq_some_iff.mp hi).1
      obtain ⟨y, hy, ry⟩ := rpL_get hd (List.getElem?_eq_getElem hil)
      rw [hi] at hy
      obtain rfl := Option.some.inj hy
      rw [List.drop_eq_getElem_cons hil] at hc
      have hq := q hs H' (Same.refl _)
      have hq' : Q (.bl (chD s 0 ds)) H' := hq
      rw [hc] at hq'
      obtain ⟨d', hd'⟩ : ∃ d', ds[i] = d' := ⟨_, rfl⟩
      rw [hd'] at ry hq' hc
      walk_at "rd"
      refine ⟨x, d', rfl, ry, ?_⟩
      cases d' with
      | int p =>
        cases ry
        dsimp only [isNum]
        walk_at "rd"
        refine r_ite (fun h1 => ?_) (fun h1 => ?_)
        · walk_at "rd"
          refine r_iteN (fun h2 => ?_) (fun h2 => ?_)
          · walk_at "rd"
            have : chD s last (.int p :: ds.drop (i + 1)) = false := by simp [chD, h2]
            rw [this] at hq'; exact hq'
          · walk_at "rd"
            refine r_ite (fun h3 => ?_) (fun h3 => ?_)
            · walk_at "rd"
              have : chD s last (.int p :: ds.drop (i + 1)) = false := by simp [chD, h3]
              rw [this] at hq'; exact hq'
            · walk_at "rd"
              refine ⟨p, _, rfl, rfl, ?_⟩
              rw [hc]
              simp [chD, h1, h2, h3]
        · walk_at "rd"
          have : chD s last (.int p :: ds.drop (i + 1)) = false := by simp [chD, h1]
          rw [this] at hq'; exact hq'
      | bl b => dsimp only [isNum]; walk_at "rd"; exact hq'
      | str b => dsimp only [isNum]; walk_at "rd"; exact hq'
      | non => dsimp only [isNum]; walk_at "rd"; exact hq'
      | tup b => dsimp only [isNum]; walk_at "rd"; exact hq'
    · obtain ⟨last, z3, rfl, rfl, hc⟩ := hW
      walk_at "rd"
      rw [hlen, List.drop_length] at hc
      have hq' : Q (.bl (chD s 0 ds)) H' := q hs H' (Same.refl _)
      rw [hc] at hq'
      exact hq'
theorem pure_check_change (XS : Exs K ec ns) (h : sp_check_change K ec vs H Q E) : t_check_change K ec E (En Q) (start N_check_change vs) H := by
  obtain ⟨s, v, d, rfl, hr, hz, q, qE, qC⟩ := h
  unfold t_check_change
  walk_at "rd"
  refine ⟨s, v, d, rfl, hr, hz, fun hs H1 s1 => ?_, fun hs => qE hs⟩
  walk_at "rd"
  refine r_iteB' (fun hb => ?_) (fun hb => ?_)
  · exact r_raise fun dd H' s' nd e => qC hs (by simpa using hb) dd H' (s1.trans s') (s1.free nd) e
  · walk_at "rd"
    exact q hs (by simpa using hb) H1 s1
theorem signs_tl : (("1234567890ET" : Str).cps.toList) = signsL := by decide
theorem pure_place_of (h : sp_place_of K vs H Q E) : t_place_of K (En Q) (start N_place_of vs) H := by
  obtain ⟨s, c, rfl, q⟩ := h
  unfold t_place_of
  walk_at "rd"
  refine r_find signs_tl ?_
  walk_at "rd"
  unfold plC at q
  refine r_ite (fun h1 => ?_) (fun h1 => ?_)
  · walk_at "rd"
    rw [if_pos (by omega)] at q
    exact q
  · walk_at "rd"
    rw [if_neg (by omega)] at q
    exact q
theorem pure_may_follow (h : sp_may_follow K vs H Q E) : t_may_follow K (En Q) (start N_may_follow vs) H := by
  obtain ⟨l, p, rfl, q⟩ := h
  unfold t_may_follow
  unfold folC at q
  walk_at "rd"
  refine r_ite (fun h1 => ?_) (fun h1 => ?_)
  · walk_at "rd"
    rw [decide_eq_true h1, Bool.true_and] at q
    exact q
  · rw [decide_eq_false h1, Bool.false_and] at q
    exact q
theorem at_last {cs : List Int} (h : cs ≠ []) : atI (cs.map V.int) (-1) = some (.int (lastC 0 cs)) := by
  rcases List.eq_nil_or_concat cs with z | ⟨r, x, rfl⟩
  · exact absurd z h
  · rw [List.concat_eq_append, lastC_snoc]
    have e : ixN ((r ++ [x]).map V.int).length (-1) = some r.length := by
      unfold ixN
      rw [List.length_map, List.length_append, List.length_singleton, if_neg (by omega), if_pos (by omega)]
      congr 1
      omega
    unfold atI
    rw [e]
    show ((r ++ [x]).map V.int)[r.length]? = _
    rw [List.getElem?_map, List.getElem?_append_right (Nat.le_refl _), Nat.sub_self]
    rfl
theorem at_first {p : Int} {r : List Int} : atI ((p :: r).map V.int) 0 = some (.int p) := by
  have := atI_nat (xs := (p :: r).map V.int) (j := 0) (v := .int p) rfl
  exact this
theorem change_end {s : Int} {a q : Addr} {cs : List Int} {H : Hp} {Q : VK} (e : H q = some (.lst (cs.map V.int))) (hl : cs.length ≤ 200000)
    (k : ∀ p H', H p = none → (∀ b, b ≠ q → ∀ o, H b = some o → H' b = some o) → SqT K H' p ((if cs ≠ [] ∧ (s - lastC 0 cs) % 2 = 1 then cs ++ [s] else cs).map V.int) → NoD H' p → Q (.ref p) H') :
    tSeq (tIfS ((tAnd ((tTest (tOp rGtU ((tCB (rLenU K) (tCons (tVar 2) tNil))) ((tC (.int 0)))))) ((tTest (tOp (rEqU K) ((tOp rModU ((tOp rSubU (tVar 0) ((tOp (rIx K) (tVar 2) ((tUn (rU fun i => .int (-i)) ((tC (.int 1))))))))) ((tC (.int 2))))) ((tC (.int 1)))))))) ((tDrop ((tBM K "list" rAppend (tVar 2) (tCons (tVar 0) tNil))))) (tNext))
      ((tRet ((tThen (tVar 2) (kTupD K))))) (En Q) [some (.int s), some (.ref a), some (.ref q)] H := by
  walk_at "rd"
  rw [List.length_map]
  refine r_ite (fun h0 => ?_) (fun h0 => ?_)
  · have hne : cs ≠ [] := fun z => by subst z; simp at h0
    have ha := at_last hne
    walk_at "rd"
    refine r_ite (fun h1 => ?_) (fun h1 => ?_)
    · walk_at "rd"
      intro H2 b2 e2
      have e3 : H2 q = some (.lst ((cs ++ [s]).map V.int)) := by rw [e2, List.map_append]; rfl
      walk_at "rd"
      intro p H3 np s3 e4
      refine k p H3 ?_ (fun b hb o eo => s3 _ _ (b2 _ _ hb eo)) ?_ (noD_of e4)
      · have pq : p ≠ q := (ne_of_none e3 np).symm
        cases eH : H p with
        | none => rfl
        | some u => rw [b2 _ _ pq eH] at np; cases np
      · rw [if_pos ⟨hne, h1⟩]; exact sqT_ofD e4
    · walk_at "rd"
      intro p H3 np s3 e4
      refine k p H3 np (fun b hb o eo => s3 _ _ eo) ?_ (noD_of e4)
      rw [if_neg (fun z => h1 z.2)]; exact sqT_ofD e4
  · have hne : cs = [] := List.length_eq_zero_iff.mp (by omega)
    walk_at "rd"
    intro p H3 np s3 e4
    refine k p H3 np (fun b hb o eo => s3 _ _ eo) ?_ (noD_of e4)
    rw [if_neg (fun z => z.1 hne)]; exact sqT_ofD e4
theorem pure_change_of (h : sp_change_of K vs H Q E) : t_change_of K (En Q) (start N_change_of vs) H := by
  obtain ⟨s, a, ps, rfl, ha, hl, q⟩ := h
  unfold t_change_of
  walk_at "rd"
  intro l H1 nl s1 e1
  have fin : ∀ (H2 : Hp), But l H1 H2 → H2 l = some (.lst ((chOf1 ps).map V.int)) → tSeq (tIfS ((tAnd ((tTest (tOp rGtU ((tCB (rLenU K) (tCons (tVar 2) tNil))) ((tC (.int 0)))))) ((tTest (tOp (rEqU K) ((tOp rModU ((tOp rSubU (tVar 0) ((tOp (rIx K) (tVar 2) ((tUn (rU fun i => .int (-i)) ((tC (.int 1))))))))) ((tC (.int 2))))) ((tC (.int 1)))))))) ((tDrop ((tBM K "list" rAppend (tVar 2) (tCons (tVar 0) tNil))))) (tNext))
      ((tRet ((tThen (tVar 2) (kTupD K))))) (En Q) [some (.int s), some (.ref a), some (.ref l)] H2 := fun H2 b2 e2 => by
    refine change_end e2 ?_ fun p H3 np k3 e3 n3 => q p H3 ?_ ?_ e3 n3
    · have : (chOf1 ps).length ≤ ps.length + 1 := by
        unfold chOf1
        split
        · split <;> simp
        · simp
      omega
    · have pl : p ≠ l := (ne_of_none e2 np).symm
      cases eH : H p with
      | none => rfl
      | some u => rw [b2 _ _ pl (s1 _ _ eH)] at np; cases np
    · intro b o eo
      have bl : b ≠ l := ne_of_none eo nl
      exact k3 _ bl _ (b2 _ _ bl (s1 _ _ eo))
  cases ps with
  | nil =>
    walk_at "rd"
    refine r_iteM (by simp) ?_
    refine r_F (r_next ?_)
    exact fin H1 But.refl e1
  | cons p r =>
    walk_at "rd"
    refine r_iteP (by simp) ?_
    walk_at "rd"
    refine r_ixL (sqL_of e1) at_first ?_
    walk_at "rd"
    refine r_ite (fun h1 => ?_) (fun h1 => ?_)
    · walk_at "rd"
      refine r_insert0 e1 (by rw [List.length_map, sizeLine_eq]; omega) fun H2 b2 e2 => ?_
      refine fin H2 b2 ?_
      show H2 l = some (.lst ((if p % 2 = 0 then 1 :: p :: r else p :: r).map V.int))
      rw [if_pos h1]; exact e2
    · refine r_next ?_
      refine fin H1 But.refl ?_
      show H1 l = some (.lst ((if p % 2 = 0 then 1 :: p :: r else p :: r).map V.int))
      rw [if_neg h1]; exact e1
theorem last_map {f : Nat → Int} {l : List Nat} {i : Nat} (h0 : 0 < i) (h1 : i ≤ l.length) : lastC 0 ((l.take i).map f) = f (l.getD (i - 1) 0) := by
  obtain ⟨j, rfl⟩ : ∃ j, i = j + 1 := ⟨i - 1, by omega⟩
  have hj : j < l.length := by omega
  rw [List.take_add_one, List.getElem?_eq_getElem hj, List.map_append, Nat.add_sub_cancel, List.getD_eq_getElem?_getD, List.getElem?_eq_getElem hj]
  exact lastC_snoc
theorem read_hit {s : Int} {l : List Nat} {i : Nat} (hx : ¬ (l.take 1 = [120] ∧ s % 2 = 0)) (hi : i < l.length) (hg : ∀ j, j < i → badC s l j = false) (hb : badC s l i = true) : rdC s l = .inl (i + 1) := by
  have : (List.range l.length).find? (badC s l) = some i := by
    rw [List.find?_range_eq_some]
    exact ⟨hb, List.mem_range.mpr hi, fun j hj => by rw [hg j hj]; rfl⟩
  unfold rdC
  rw [if_neg hx, this]
theorem pure_read_change (XS : Exs K ec ns) (h : sp_read_change K ec vs H Q E) : t_read_change K ec E (En Q) (start N_read_change vs) H := by
  obtain ⟨s, l, rfl, hl, qS, qN, q⟩ := h
  unfold t_read_change
  walk_at "rd"
  refine ⟨s, rfl, fun hs => ?_, fun hs => qS hs⟩
  walk_at "rd"
  refine r_slS (by omega) ?_
  rw [show (some (1 : Int)) = some ((1 : Nat) : Int) from rfl, cutA_take]
  refine r_eqSS ?_
  rw [show ("x" : Str).cps.toList = [120] by decide]
  walk_at "rd"
  have main : ¬ (l.take 1 = [120] ∧ s % 2 = 0) → tSeq (tAsg ((tLst tNil)) (gName 2))
      (tSeq (tFor (iEnS 1 (tCons (tVar 1) tNil)) (gTup K 2 (gCons (gName 3) (gCons (gName 4) gNil))) (tSeq (tAsg ((tCall (sp_place_of K) [] E0 (tCons (tVar 0) (tCons (tVar 4) tNil)))) (gName 5))
      (tSeq (tIfS ((tOr ((tTest (tOp (rEqU K) (tVar 5) ((tC (.int 0)))))) ((tAnd ((tTest (tOp rGtU ((tCB (rLenU K) (tCons (tVar 2) tNil))) ((tC (.int 0)))))) ((tNot ((tTru K ((tCall (sp_may_follow K) [] E0 (tCons ((tOp (rIx K) (tVar 2) ((tUn (rU fun i => .int (-i)) ((tC (.int 1))))))) (tCons (tVar 5) tNil)))))))))))) ((sRaise (fun cls d _ H => E cls d H) (tBad1 (ec "BadNotation") "BadNotation" "column" (tVar 3)))) (tNext))
      ((tDrop ((tBM K "list" rAppend (tVar 2) (tCons (tVar 5) tNil))))))))
      (tSeq (tIfS ((tTest (tOp (rEqU K) ((tCB (rLenU K) (tCons (tVar 2) tNil))) ((tC (.int 0)))))) ((sRaise (fun cls d _ H => E cls d H) (tBad1 (ec "BadNotation") "BadNotation" "column" ((tC (.int 1)))))) (tNext))
      ((tRet ((tCall (sp_change_of K) [] E0 (tCons (tVar 0) (tCons (tVar 2) tNil)))))))) (En Q) [some (.int s), some (.str (S l)), none, none, none, none] H := fun hx => by
    walk_at "rd"
    intro q1 H1 nq s1 e1
    walk_at "rd"
    refine r_enS ?_
    walk_at "rd"
    refine r_penS ?_
    refine r_forEnS (fun i σ' H' => ∃ (z3 z4 z5 : Option V), σ' = [some (.int s), some (.str (S l)), some (.ref q1), z3, z4, z5] ∧ Same H H' ∧ H' q1 = some (.lst (((l.take i).map (plC s)).map V.int)) ∧ ∀ j, j < i → badC s l j = false)
      ⟨none, none, none, rfl, s1, e1, fun j hj => absurd hj (Nat.not_lt_zero _)⟩ (fun i c σ' H' H2 hc hW s2 => ?_) (fun σ' H' hW => ?_)
    · obtain ⟨z3, z4, z5, rfl, st, el, hg⟩ := hW
      have hc : l[i]? = some c := hc
      have hi : i < l.length := (List.getElem?_eq_some_iff.mp hc).1
      have hcd : l.getD i 0 = c := by rw [List.getD_eq_getElem?_getD, hc]; rfl
      have el2 := s2 _ _ el
      have lenP : (((l.take i).map (plC s)).map V.int).length = i := by rw [List.length_map, List.length_map, List.length_take]; omega
      have raise : badC s l i = true → sRaise (fun cls d _ H => E cls d H) (tBad1 (ec "BadNotation") "BadNotation" "column" (tVar 3)) { nx := fun _ _ => True, rt := Q } [some (.int s), some (.str (S l)), some (.ref q1), some (.int (1 + (i : Int))), some (.str ⟨#[c]⟩), some (.int (plC s c))] H2 := fun hb => by
        refine r_raise1 ?_
        walk_at "rd"
        refine r_prz1 fun d H3 s3 nd e3 => ?_
        have := qN _ hs (read_hit hx hi hg hb) d H3 ((st.trans s2).trans s3) ((st.trans s2).free nd)
        rw [show (((i + 1 : Nat) : Int)) = 1 + (i : Int) by omega] at this
        exact this e3
      walk_at "rd"
      refine ⟨s, c, rfl, ?_⟩
      walk_at "rd"
      refine r_ite (fun h0 => ?_) (fun h0 => ?_)
      · refine r_T ?_
        exact raise (by unfold badC; rw [hcd, decide_eq_true h0]; rfl)
      · walk_at "rd"
        rw [lenP]
        refine r_ite (fun h1 => ?_) (fun h1 => ?_)
        · have hp : 0 < i := by have := lenP; omega
          have hne : (l.take i).map (plC s) ≠ [] := fun z => by
            have := congrArg List.length z
            rw [List.length_map, List.length_take, List.length_nil] at this
            have := lenP; omega
          have ha := at_last hne
          rw [last_map hp (by omega)] at ha
          walk_at "rd"
          refine ⟨_, _, rfl, ?_⟩
          walk_at "rd"
          have hbad : badC s l i = !folC (plC s (l.getD (i - 1) 0)) (plC s c) := by
            unfold badC
            rw [hcd, decide_eq_false h0, decide_eq_true hp, Bool.false_or, Bool.true_and]
          refine r_iteB' (fun h2 => ?_) (fun h2 => ?_)
          · exact raise (by rw [hbad]; exact h2)
          · walk_at "rd"
            refine r_append el2 (by rw [lenP, sizeLine_eq]; omega) fun H3 b3 e3 => ?_
            refine ⟨_, _, _, rfl, same_but (st.trans s2) b3 nq, ?_, fun j hj => ?_⟩
            · rw [e3, List.take_add_one, hc, List.map_append, List.map_append]; rfl
            · by_cases z : j = i
              · subst z; rw [hbad]; exact h2
              · exact hg j (by omega)
        · have hp : i = 0 := by have := lenP; omega
          subst hp
          have hbad : badC s l 0 = false := by
            unfold badC
            rw [hcd, decide_eq_false h0, decide_eq_false (by omega)]; rfl
          walk_at "rd"
          refine r_append el2 (by rw [lenP, sizeLine_eq]; omega) fun H3 b3 e3 => ?_
          refine ⟨_, _, _, rfl, same_but (st.trans s2) b3 nq, ?_, fun j hj => ?_⟩
          · rw [e3, List.take_add_one, hc, List.map_append, List.map_append]; rfl
          · obtain rfl : j = 0 := by omega
            exact hbad
    · obtain ⟨z3, z4, z5, rfl, st, el, hg⟩ := hW
      have hg : ∀ j, j < l.length → badC s l j = false := hg
      have el : H' q1 = some (.lst (((l.take l.length).map (plC s)).map V.int)) := el
      rw [List.take_length] at el
      have hf : (List.range l.length).find? (badC s l) = none := by
        rw [List.find?_eq_none]
        intro j hj
        rw [hg j (List.mem_range.mp hj)]; decide
      have hr : rdC s l = if l = [] then .inl 1 else .inr (chOf s (l.map (plC s))) := by
        unfold rdC
        rw [if_neg hx, hf]
      walk_at "rd"
      rw [List.length_map, List.length_map]
      refine r_ite (fun h0 => ?_) (fun h0 => ?_)
      · have hn : l = [] := List.length_eq_zero_iff.mp (by omega)
        rw [if_pos hn] at hr
        refine r_raise1 ?_
        walk_at "rd"
        refine r_prz1 fun d H3 s3 nd e3 => ?_
        exact qN 1 hs hr d H3 (st.trans s3) (st.free nd) e3
      · have hn : l ≠ [] := fun z => h0 (by rw [z]; rfl)
        rw [if_neg hn] at hr
        walk_at "rd"
        refine ⟨s, q1, l.map (plC s), rfl, sqL_of el, by rw [List.length_map]; exact hl, fun p H3 np s3 e3 n3 => ?_⟩
        exact q _ hs hr p H3 (st.free np) (st.trans s3) e3
  refine r_ite (fun h1 => ?_) (fun h1 => ?_)
  · walk_at "rd"
    refine r_ite (fun h2 => ?_) (fun h2 => ?_)
    · walk_at "rd"
      refine r_lenSS (by omega) ?_
      walk_at "rd"
      refine r_ite (fun h3 => ?_) (fun h3 => ?_)
      · have hr : rdC s l = .inl 2 := by unfold rdC; rw [if_pos ⟨h1, h2⟩, if_pos (by omega)]
        refine r_raise1 ?_
        walk_at "rd"
        exact r_prz1 fun d H3 s3 nd e3 => qN 2 hs hr d H3 s3 nd e3
      · have hr : rdC s l = .inr [] := by unfold rdC; rw [if_pos ⟨h1, h2⟩, if_neg (by omega)]
        walk_at "rd"
        intro p H3 np s3 e3
        exact q _ hs hr p H3 np s3 (sqT_of e3)
    · exact r_next (main (fun z => h2 z.2))
  · exact r_F (r_next (main (fun z => h1 z.1)))
end
end Kb

set_option linter.all false
/-! the texts of changes; no program here, but the hand layer's finite look-ups -/
namespace Kb
def wrA (n : Int) (cs : List Int) : List Int := if 1 < cs.length ∧ lastC 0 cs = n then cs.dropLast else cs
def wrB (a : List Int) : List Int := if 1 < a.length ∧ a.getD 0 0 = 1 then a.drop 1 else a
def wrP (n : Int) (cs : List Int) : List Int := wrB (wrA n cs)
def wrC (n : Int) (cs : List Int) : List Nat := if cs = [] then [120] else (wrP n cs).map sgAt
def raI (n : Int) (ps : List Int) : List Int :=
  let a := if (ps.getD 0 0 - 1) % 2 = 1 then 1 :: ps else ps
  if (n - lastC 0 ps) % 2 = 1 then a ++ [n] else a
def shPl (cs : List Int) (a b : Nat) : List Int := (cs.take (cs.length - b)).drop a
def shB (n : Int) (cs best : List Int) (a b : Nat) : List Int :=
  if 0 < (shPl cs a b).length ∧ raI n (shPl cs a b) = cs then (if (shPl cs a b).length < best.length ∨ ((shPl cs a b).length = best.length ∧ (shPl cs a b).getD 0 0 < best.getD 0 0) then shPl cs a b else best) else best
def shI (n : Int) (cs best : List Int) (a : Nat) : Nat → List Int
  | 0 => best
  | b + 1 => shB n cs (shI n cs best a b) a b
def shO (n : Int) (cs : List Int) : Nat → List Int
  | 0 => cs
  | a + 1 => shI n cs (shO n cs a) a 2
def shL (n : Int) (cs : List Int) : List Int := shO n cs 2
def shC (n : Int) (cs : List Int) : List Nat := if cs = [] then [120] else (shL n cs).map sgAt
theorem short_ok : ((List.range 13).all fun n => (genC (n + 1) n 0).all fun cs => decide (wrC n cs = shC n cs)) = true := by decide +kernel
theorem short_eq {n : Nat} {cs : List Int} (hn : n ≤ 12) (h : Chg n cs) : wrC n cs = shC n cs := of_decide_eq_true (chg_check (p := fun n cs => decide (wrC n cs = shC n cs)) short_ok hn h)
theorem wrA_sub {n : Int} {cs : List Int} : ∀ x ∈ wrA n cs, x ∈ cs := fun x hx => by
  unfold wrA at hx
  split at hx
  · exact (List.dropLast_sublist cs).subset hx
  · exact hx
theorem wrB_sub {a : List Int} : ∀ x ∈ wrB a, x ∈ a := fun x hx => by
  unfold wrB at hx
  split at hx
  · exact List.mem_of_mem_drop hx
  · exact hx
theorem wrP_sub {n : Int} {cs : List Int} : ∀ x ∈ wrP n cs, x ∈ cs := fun x hx => wrA_sub x (wrB_sub x hx)
theorem shPl_sub {cs : List Int} {a b : Nat} : ∀ x ∈ shPl cs a b, x ∈ cs := fun x hx => List.mem_of_mem_take (List.mem_of_mem_drop hx)
theorem shB_or (n : Int) (cs best : List Int) (a b : Nat) : shB n cs best a b = best ∨ (shB n cs best a b = shPl cs a b ∧ 0 < (shPl cs a b).length) := by
  unfold shB
  split
  · rename_i h
    split
    · exact .inr ⟨rfl, h.1⟩
    · exact .inl rfl
  · exact .inl rfl
theorem shI_ok {n : Int} {cs best : List Int} {a : Nat} (h : best ≠ [] ∧ ∀ x ∈ best, x ∈ cs) : ∀ b, shI n cs best a b ≠ [] ∧ ∀ x ∈ shI n cs best a b, x ∈ cs
  | 0 => h
  | b + 1 => by
    have ih := shI_ok (n := n) (a := a) h b
    show shB n cs _ a b ≠ [] ∧ _
    rcases shB_or n cs (shI n cs best a b) a b with e | ⟨e, hp⟩
    · rw [shI, e]; exact ih
    · rw [shI, e]; exact ⟨fun z => by rw [z] at hp; exact absurd hp (Nat.lt_irrefl _), shPl_sub⟩
theorem shO_ok {n : Int} {cs : List Int} (h : cs ≠ []) : ∀ a, shO n cs a ≠ [] ∧ ∀ x ∈ shO n cs a, x ∈ cs
  | 0 => ⟨h, fun _ hx => hx⟩
  | a + 1 => shI_ok (shO_ok h a) 2
end Kb

set_option Elab.async false
set_option linter.all false
set_option maxRecDepth 100000
set_option maxHeartbeats 4000000
/-! write_change; a drawn change -/
namespace Kb
open PySem PySem.Spec PyProof.Rows L2 SX
/-! the tactics: rd walks a reading; tk closes a fact about a heap from those ahead of it -/
local macro_rules | `(tactic| walk_at "tk") => `(tactic| first
  | assumption
  | ((with_reducible refine' sqT_of ?k); (case k => assumption))
  | ((with_reducible refine' sqT_ofD ?k); (case k => assumption))
  | ((with_reducible refine' noD_of ?k); (case k => assumption))
  | ((with_reducible refine' noD_same ?s ?k); (case s => assumption); (case k => walk_at "tk"))
  | ((with_reducible refine' sqL_of ?k); (case k => assumption))
  | ((with_reducible refine' sqT_same ?s ?k); (case s => assumption); (case k => walk_at "tk"))
  | ((with_reducible refine' sqL_same ?s ?k); (case s => assumption); (case k => walk_at "tk"))
  | ((with_reducible refine' sqT_but ?s ?t ?k); (case s => assumption); (case t => walk_at "tk"); (case k => walk_at "tk"))
  | ((with_reducible refine' sqL_but ?s ?t ?k); (case s => assumption); (case t => walk_at "ne"); (case k => walk_at "tk"))
  | ((with_reducible refine' sqL_of ?k); (case k => walk_at "tk"))
  | ((with_reducible refine' sqT_of ?k); (case k => walk_at "tk"))
  | ((with_reducible refine' at_same ?s ?k); (case s => assumption); (case k => walk_at "tk"))
  | ((with_reducible refine' at_but ?s ?t ?k); (case s => assumption); (case t => walk_at "ne"); (case k => walk_at "tk")))
local macro_rules | `(tactic| walk_at "ne") => `(tactic| first
  | assumption
  | (refine Ne.symm ?_; assumption)
  | exact ne_of_none (by assumption) (by assumption)
  | exact (ne_of_none (by assumption) (by assumption)).symm)
local macro_rules | `(tactic| walk_at "side") => `(tactic| first
  | assumption
  | omega
  | (simp only [sizeLine_eq, List.length_cons, List.length_nil, List.length_map]; omega)
  | (show _ ≤ sizeLine; decide))
local macro_rules | `(tactic| walk_at "kit") => `(tactic| first
  | (show kitB _ _ = some true; decide +kernel)
  | (show kitB _ _ = some false; decide +kernel))
local macro_rules | `(tactic| walk_at "rng") => `(tactic| first
  | (refine ⟨by omega, by omega, by omega, by omega⟩)
  | (refine ⟨by omega, by omega⟩)
  | ((simp only [List.length_map]); (refine ⟨by omega, by omega, by omega, by omega⟩))
  | ((simp only [List.length_map]); (refine ⟨by omega, by omega⟩)))
local macro_rules | `(tactic| walk_at "rd1") => `(tactic| first
  | with_reducible refine r_seq ?_
  | ((with_reducible refine' r_var ?k0 ?_); (case k0 => rfl))
  | with_reducible refine r_op ?_
  | with_reducible refine r_c ?_
  | with_reducible refine r_asg ?_
  | with_reducible refine r_name ?_
  | with_reducible refine r_cons ?_
  | with_reducible refine r_nil ?_
  | with_reducible refine r_CB ?_
  | with_reducible refine r_if ?_
  | with_reducible refine r_test ?_
  | with_reducible refine r_k ?_
  | with_reducible refine r_T ?_
  | with_reducible refine r_F ?_
  | with_reducible refine r_nT ?_
  | with_reducible refine r_nF ?_
  | with_reducible refine r_ret ?_
  | with_reducible refine r_drop ?_
  | with_reducible refine r_next ?_
  | with_reducible refine r_call ?_
  | with_reducible refine r_addI ?_
  | with_reducible refine r_subI ?_
  | with_reducible refine r_ltI ?_
  | with_reducible refine r_gtI ?_
  | with_reducible refine r_leI ?_
  | with_reducible refine r_geI ?_
  | with_reducible refine r_eqI ?_
  | with_reducible refine r_neI ?_
  | with_reducible refine r_int ?_
  | with_reducible refine r_abs ?_
  | with_reducible refine r_not ?_
  | with_reducible refine r_and ?_
  | with_reducible refine r_or ?_
  | with_reducible refine r_tru ?_
  | with_reducible refine r_truB ?_
  | with_reducible refine r_lst ?_
  | with_reducible refine r_tup ?_
  | with_reducible refine r_BM ?_
  | with_reducible refine r_BM0 ?_
  | with_reducible refine r_tyS ?_
  | with_reducible refine r_gsub ?_
  | with_reducible refine r_then ?_
  | with_reducible refine r_lstRg ?_
  | with_reducible refine r_tupRg ?_
  | with_reducible refine r_rg2 ?_
  | with_reducible refine r_rg1 ?_
  | with_reducible refine r_ii ?_
  | with_reducible refine r_i ?_
  | with_reducible refine r_ipI ?_
  | with_reducible refine r_un ?_
  | with_reducible refine r_neg ?_
  | with_reducible refine r_isN ?_
  | with_reducible refine r_notN ?_
  | with_reducible refine r_notV ?_
  | with_reducible refine r_pnot ?_
  | with_reducible refine r_pif ?_
  | with_reducible refine r_andV ?_
  | with_reducible refine r_orV ?_
  | with_reducible refine r_ifE ?_
  | with_reducible refine r_chain ?_
  | with_reducible refine r_sl ?_
  | with_reducible refine r_noPart ?_
  | with_reducible refine r_part ?_
  | with_reducible refine r_brk ?_
  | with_reducible refine r_cont ?_
  | with_reducible refine r_retN ?_
  | with_reducible refine r_truI ?_
  | with_reducible refine r_B ?_
  | with_reducible refine r_for ?_
  | with_reducible refine r_rng1 ?_
  | with_reducible refine r_rng2 ?_
  | with_reducible refine r_rng3 ?_
  | with_reducible refine r_body ?_
  | with_reducible refine r_lc ?_
  | with_reducible refine r_yes ?_
  | ((with_reducible refine' r_mod ?k0 ?_); (case k0 => walk_at "side"))
  | ((with_reducible refine' r_mulI ?k0 ?_); (case k0 => first | exact Or.inl ⟨by omega, by omega⟩ | exact Or.inr ⟨by omega, by omega⟩))
  | ((with_reducible refine' r_lenL ?k0 ?_); (case k0 => walk_at "tk"))
  | ((with_reducible refine' r_lenT ?k0 ?_); (case k0 => walk_at "tk"))
  | ((with_reducible refine' r_truL ?k0 ?_); (case k0 => walk_at "tk"))
  | ((with_reducible refine' r_truT ?k0 ?_); (case k0 => walk_at "tk"))
  | ((with_reducible refine' r_ixL ?k0 ?k1 ?_); (case k0 => walk_at "tk"); (case k1 => first | assumption | rfl))
  | ((with_reducible refine' r_ixT ?k0 ?k1 ?_); (case k0 => walk_at "tk"); (case k1 => first | assumption | rfl))
  | ((with_reducible refine' r_new ?k0 ?_); (case k0 => walk_at "side"))
  | ((with_reducible refine' r_tyL ?k0 ?_); (case k0 => walk_at "tk"))
  | ((with_reducible refine' r_append ?k0 ?k1 ?_); (case k0 => walk_at "tk"); (case k1 => walk_at "side"))
  | ((with_reducible refine' r_setL ?k0 ?k1 ?_); (case k0 => walk_at "tk"); (case k1 => first | assumption | rfl))
  | ((with_reducible refine' r_kTupL ?k0 ?_); (case k0 => walk_at "tk"))
  | ((with_reducible refine' r_kTupT ?k0 ?_); (case k0 => walk_at "tk"))
  | ((with_reducible refine' r_listL ?k0 ?_); (case k0 => walk_at "tk"))
  | ((with_reducible refine' r_listT ?k0 ?_); (case k0 => walk_at "tk"))
  | ((with_reducible refine' r_aug ?k0 ?_); (case k0 => rfl))
  | ((with_reducible refine' r_lenS ?k0 ?_); (case k0 => walk_at "side"))
  | ((with_reducible refine' r_pop ?k0 ?_); (case k0 => walk_at "tk"))
  | ((with_reducible refine' r_pr1 ?k0 ?_); (case k0 => walk_at "rng"))
  | ((with_reducible refine' r_pr2 ?k0 ?_); (case k0 => walk_at "rng"))
  | ((with_reducible refine' r_pr3d ?k0 ?_); (case k0 => walk_at "rng"))
  | ((with_reducible refine' r_isiI ?k0 ?_); (case k0 => walk_at "kit"))
  | ((with_reducible refine' r_isiB ?k0 ?_); (case k0 => walk_at "kit"))
  | ((with_reducible refine' r_isiS ?k0 ?_); (case k0 => walk_at "kit"))
  | ((with_reducible refine' r_isiN ?k0 ?_); (case k0 => walk_at "kit"))
  | ((with_reducible refine' r_isiT ?k0 ?k1 ?_); (case k0 => walk_at "tk"); (case k1 => walk_at "kit"))
  | ((with_reducible refine r_seqT ?_); (repeat (walk_at "rd1")); ((with_reducible refine' r_pseqT ?k0 ?_); (case k0 => walk_at "tk")))
  | ((with_reducible refine r_seqL ?_); (repeat (walk_at "rd1")); ((with_reducible refine' r_pseqL ?k0 ?_); (case k0 => walk_at "tk")))
  | ((with_reducible refine r_seqS ?_); (repeat (walk_at "rd1")); (with_reducible refine r_pseqS ?_)))
local macro_rules | `(tactic| walk_at "rd") => `(tactic| ((repeat (walk_at "rd1")); (try dsimp only)))

local macro_rules | `(tactic| walk_at "rd1") => `(tactic| first
  | with_reducible refine r_BMT ?_
  | with_reducible refine r_par ?_
  | with_reducible refine r_parV ?_
  | ((with_reducible refine' r_ptp ?k0 ?k1 ?_); (case k0 => walk_at "tk"); (case k1 => walk_at "tk"))
  | with_reducible refine r_eqS ?_
  | with_reducible refine r_neS ?_
  | with_reducible refine r_callW ?_
  | with_reducible refine r_try ?_
  | with_reducible refine r_enT ?_
  | ((with_reducible refine' r_pen ?k0 ?_); (case k0 => walk_at "tk")))

local macro_rules | `(tactic| walk_at "pl0") => `(tactic| first
  | assumption
  | exact pl_same (by assumption) (by assumption)
  | exact pl_same (by assumption) (pl_same (by assumption) (by assumption))
  | exact pl_same (by assumption) (pl_same (by assumption) (pl_same (by assumption) (by assumption))))
local macro_rules | `(tactic| walk_at "pl") => `(tactic| first
  | walk_at "pl0"
  | ((with_reducible refine' pl_butL ?s ?n ?k); (case s => assumption); (case n => walk_at "ne"); (case k => walk_at "pl"))
  | ((with_reducible refine' pl_same ?s ?k); (case s => assumption); (case k => walk_at "pl")))
local macro_rules | `(tactic| walk_at "ne") => `(tactic| first
  | exact ne_pl (by assumption) (by walk_at "pl0")
  | exact (ne_pl (by assumption) (by walk_at "pl0")).symm)
local macro_rules | `(tactic| walk_at "fr") => `(tactic| first
  | assumption
  | ((with_reducible refine' free_but ?b ?n ?h); (case h => assumption); (case n => walk_at "ne"); (case b => walk_at "but"))
  | ((with_reducible refine' Same.free ?b ?h); (case h => assumption); (case b => walk_at "same")))
local macro_rules | `(tactic| walk_at "but") => `(tactic| first
  | assumption
  | exact But.refl
  | ((with_reducible refine' But.trans ?a ?b); (case b => assumption); (case a => walk_at "but"))
  | ((with_reducible refine' But.trans ?a (Same.but ?b)); (case b => assumption); (case a => walk_at "but"))
  | ((with_reducible refine' but_via ?a ?b ?c); (case b => assumption); (case c => walk_at "fr"); (case a => walk_at "but")))
local macro_rules | `(tactic| walk_at "same") => `(tactic| first
  | assumption
  | exact Same.refl _
  | ((with_reducible refine' Same.trans ?a ?b); (case b => assumption); (case a => walk_at "same"))
  | ((with_reducible refine' same_but ?a ?b ?c); (case b => assumption); (case c => walk_at "fr"); (case a => walk_at "same")))
local macro_rules | `(tactic| walk_at "tk") => `(tactic| first
  | ((with_reducible refine' sqT_pl ?s ?t ?k); (case s => assumption); (case t => walk_at "pl0"); (case k => walk_at "tk"))
  | ((with_reducible refine' rp_same ?s ?k); (case s => assumption); (case k => walk_at "tk"))
  | ((with_reducible refine' rp_pl ?s ?t ?k); (case s => assumption); (case t => walk_at "pl0"); (case k => walk_at "tk")))
local macro_rules | `(tactic| walk_at "it") => `(tactic| first
  | assumption
  | ((with_reducible refine' sqI_1 ?k); (case k => assumption))
  | ((with_reducible refine' sqI_0 ?k); (case k => assumption))
  | ((with_reducible refine' sqI_of ?k); (case k => assumption))
  | ((with_reducible refine' sqI_D ?k); (case k => assumption))
  | ((with_reducible refine' sqT_same ?s ?k); (case s => assumption); (case k => walk_at "it"))
  | ((with_reducible refine' sqT_but ?s ?t ?k); (case s => assumption); (case t => assumption); (case k => walk_at "it"))
  | ((with_reducible refine' sqT_pl ?s ?t ?k); (case s => assumption); (case t => walk_at "pl0"); (case k => walk_at "it")))
local macro_rules | `(tactic| walk_at "sz") => `(tactic| first | omega | ((try simp only [List.length_cons, List.length_nil] at *); omega))
/-! a straight piece of a law's generator: draws, slices, sums, ifs -/
local macro_rules | `(tactic| walk_at "au1") => `(tactic| first
  | walk_at "rd1"
  | ((with_reducible refine' r_draw ?k0 ?k1 ?k2 ?_); (case k0 => walk_at "pl"); (case k1 => omega); (case k2 => omega); (intro _ _ _ _ _ _))
  | ((with_reducible refine' r_slN ?k0 ?_); (case k0 => walk_at "it"); (intro _ _ _ _ _ _))
  | ((with_reducible refine' r_catN ?k0 ?k1 ?k2 ?_); (case k0 => walk_at "it"); (case k1 => walk_at "it"); (case k2 => walk_at "sz"); (intro _ _ _ _ _ _))
  | ((with_reducible refine' r_pow ?k0 ?_); (case k0 => exact ⟨by decide, by decide, by decide⟩))
  | ((with_reducible refine' r_ixI ?k0 ?k1 ?k2 ?_); (case k0 => walk_at "it"); (case k1 => omega); (case k2 => omega); (intro _ _))
  | ((with_reducible refine' r_setI ?k0 ?k1 ?k2 ?_); (case k0 => walk_at "tk"); (case k1 => omega); (case k2 => omega); (intro _ _ _ _ _))
  | ((with_reducible refine' r_kTupI ?k0 ?_); (case k0 => walk_at "tk"); (intro _ _ _ _ _))
  | ((with_reducible refine' r_listI ?k0 ?_); (case k0 => walk_at "it"); (intro _ _ _ _ _))
  | (with_reducible refine r_revU ?_)
  | ((with_reducible refine' r_prevN ?k0 ?_); (case k0 => walk_at "it"); (intro _ _ _ _ _ _))
  | (intro _ _ _ _ _))
local macro_rules | `(tactic| walk_at "go") => `(tactic| ((repeat (walk_at "au1")); (first
  | ((with_reducible refine r_ite (fun _ => ?_) (fun _ => ?_)) <;> (walk_at "go"))
  | ((with_reducible refine r_iteN (fun _ => ?_) (fun _ => ?_)) <;> (walk_at "go"))
  | dsimp only
  | skip)))

def sp_write_change (K : PySem.W.Frag) (ec : Str → Addr) : Sp := fun vs H Q E => ∃ (s : Int) (a : Addr) (cs : List Int), vs = [.int s, .ref a] ∧ SqT K H a (cs.map V.int) ∧ cs.length ≤ 1000 ∧ (¬ Stg s → noStage ec H E) ∧ (Stg s → ¬ Chg s cs → noChange ec H E) ∧
  (Stg s → Chg s cs → ∀ H', Same H H' → Q (.str (S (wrC s cs))) H')
def sp_law_change_draw (K : PySem.W.Frag) : Sp := fun vs H Q _ => ∃ (p : Addr) (n : Nat), vs = [.ref p, .int (n : Int)] ∧ Pl H p ∧ 1 ≤ n ∧ n ≤ 12 ∧ ∀ a H' cs, H a = none → But p H H' → Pl H' p → SqT K H' a (cs.map V.int) → Chg n cs → Q (.ref a) H'
abbrev N_write_change : List Str := ["stage", "change", "places", "place"]
def t_write_change (K : PySem.W.Frag) (ec : Str → Addr) (E : XK) : TS :=
  tSeq (tDrop ((tCallW (sp_check_change K ec) (fun cls d _ H => E cls d H) (tCons (tVar 0) (tCons (tVar 1) tNil)))))
  (tSeq (tIfS ((tTest (tOp (rEqU K) ((tCB (rLenU K) (tCons (tVar 1) tNil))) ((tC (.int 0)))))) ((tRet ((tC (.str "x"))))) (tNext))
  (tSeq (tAsg ((tCB (rListU K) (tCons (tVar 1) tNil))) (gName 2))
  (tSeq (tIfS ((tAnd ((tTest (tOp rGtU ((tCB (rLenU K) (tCons (tVar 2) tNil))) ((tC (.int 1)))))) ((tTest (tOp (rEqU K) ((tOp (rIx K) (tVar 2) ((tUn (rU fun i => .int (-i)) ((tC (.int 1))))))) (tVar 0)))))) ((tDrop ((tBM0 K "list" rPop (tVar 2))))) (tNext))
  (tSeq (tIfS ((tAnd ((tTest (tOp rGtU ((tCB (rLenU K) (tCons (tVar 2) tNil))) ((tC (.int 1)))))) ((tTest (tOp (rEqU K) ((tOp (rIx K) (tVar 2) ((tC (.int 0))))) ((tC (.int 1)))))))) ((tAsg ((tSl (rSlU K) (tVar 2) (tPart ((tC (.int 1)))) tNoPart)) (gName 2))) (tNext))
  ((tRet ((tBM K "str" (rJoin K) ((tC (.str ""))) (tCons ((tLc ((iSeqU K (tVar 2))) ((gName 3)) (tYes) ((tOp (rIx K) ((tC (.str "1234567890ET"))) ((tOp rSubU (tVar 3) ((tC (.int 1))))))) [3])) tNil)))))))))

abbrev N_law_change_draw : List Str := ["pool", "stage", "out", "place", "k"]
def t_law_change_draw (K : PySem.W.Frag) : TS :=
  tSeq (tAsg ((tLst tNil)) (gName 2))
  (tSeq (tAsg ((tC (.int 1))) (gName 3))
  (tSeq (tFor (iRng1 (tCons (tVar 1) tNil)) (gName 4) ((tIfS ((tTest (tOp (rEqU K) (tVar 3) (tVar 1)))) (tSeq (tDrop ((tBM K "list" rAppend (tVar 2) (tCons (tVar 3) tNil))))
  ((tAsg ((tOp (rAddU K) (tVar 3) ((tC (.int 1))))) (gName 3)))) ((tIfS ((tTest (tOp (rLtU K) (tVar 3) (tVar 1)))) ((tIfS ((tTest (tOp (rEqU K) ((tCall (sp_law_draw K) [] E0 (tCons (tVar 0) (tCons ((tC (.int 2))) tNil)))) ((tC (.int 0)))))) (tSeq (tDrop ((tBM K "list" rAppend (tVar 2) (tCons (tVar 3) tNil))))
  ((tAsg ((tOp (rAddU K) (tVar 3) ((tC (.int 1))))) (gName 3)))) ((tAsg ((tOp (rAddU K) (tVar 3) ((tC (.int 2))))) (gName 3))))) (tNext))))))
  ((tRet ((tThen (tVar 2) (kTupD K)))))))


section
variable {K : PySem.W.Frag} {ec : Str → Addr} {ns : List Str} {vs : List V} {H : Hp} {Q : VK} {E : XK}
theorem len_write_change (h : sp_write_change K ec vs H Q E) : vs.length = 2 := by obtain ⟨s, d, cs, rfl, _⟩ := h; rfl
theorem len_law_change_draw (h : sp_law_change_draw K vs H Q E) : vs.length = 2 := by obtain ⟨s, d, rfl, _⟩ := h; rfl
theorem sizes_ints : ∀ cs : List Int, Dat.sizes (cs.map Dat.int) = cs.length
  | [] => rfl
  | c :: r => by
    show (Dat.int c).size + Dat.sizes (r.map Dat.int) = _
    rw [sizes_ints r, List.length_cons]
    show 1 + _ = _
    omega
theorem size_row (cs : List Int) : (Dat.tup (cs.map Dat.int)).size = cs.length + 1 := by
  show 1 + Dat.sizes (cs.map Dat.int) = _
  rw [sizes_ints]; omega
theorem sgn_at {x : Int} (h1 : 1 ≤ x) (h2 : x ≤ 12) : atI signsL (x - 1) = some (sgAt x) := by
  have hl : (x - 1).toNat < signsL.length := by show _ < 12; omega
  have := atI_nat (xs := signsL) (j := (x - 1).toNat) (v := sgAt x) (by unfold sgAt; rw [List.getD_eq_getElem?_getD, List.getElem?_eq_getElem hl]; rfl)
  rw [show (((x - 1).toNat : Nat) : Int) = x - 1 by omega] at this
  exact this
theorem signs_S : ("1234567890ET" : Str) = S signsL := by
  have := S_tl ("1234567890ET" : Str)
  rw [signs_tl] at this
  exact this.symm
theorem elt_sign {σ : L2.St} {j : Nat} {x : Int} {H : Hp} {Q : VK} (hσ : σ[j]? = some (some (.int x))) (h1 : 1 ≤ x) (h2 : x ≤ 12) (q : Q (.str (S [sgAt x])) H) :
    (tOp (rIx K) (tC (.str "1234567890ET")) (tOp rSubU (tVar j) (tC (.int 1)))) σ H Q := by
  refine r_op (r_c (r_op (r_var hσ (r_c (r_subI ?_)))))
  rw [signs_S]
  exact r_ixSS (by decide) (sgn_at h1 h2) q
/-- [SIGNS[place - 1] for place in ..] of a list -/
theorem lc_signsL {σ : L2.St} {j : Nat} {a : Addr} {cs : List Int} {H : Hp} {Q : VK} (hj : j < σ.length) (h : SqL K H a (cs.map V.int)) (hm : ∀ x ∈ cs, 1 ≤ x ∧ x ≤ 12) (hl : cs.length ≤ 1000)
    (hd : ∀ p H', H p = none → Same H H' → H' p = some (.lst (cs.map fun x => V.str (S [sgAt x]))) → Q (.ref p) H') : PLc (Itl K a) (gName j) tYes (tOp (rIx K) (tC (.str "1234567890ET")) (tOp rSubU (tVar j) (tC (.int 1)))) [j] σ H Q := by
  refine r_lcL (xs := cs.map V.int) (fun D i H' => H D = none ∧ Same H H' ∧ H' D = some (.lst ((cs.take i).map fun x => V.str (S [sgAt x]))))
    (fun x => by show ((σ.set j none).set j (some x)).set j none = σ.set j none; rw [List.set_set, List.set_set]) (fun D H' hD s e => ⟨hD, s, e⟩) (fun D i H' q => sqL_same q.2.1 h) (fun D i x H' hi q => ?_) (fun D H' hD q => ?_)
  · obtain ⟨hD, s, e⟩ := q
    rw [List.getElem?_map] at hi
    obtain ⟨y, hy, rfl⟩ := Option.map_eq_some_iff.mp hi
    have hy2 := hm y (List.mem_of_getElem? hy)
    refine r_yes (r_T ?_)
    refine elt_sign (x := y) (List.getElem?_set_self (by show j < (σ.set j none).length; rw [List.length_set]; exact hj)) hy2.1 hy2.2 ?_
    refine r_acc e (by rw [List.length_map, List.length_take]; omega) fun H5 b5 e5 => ⟨hD, same_but s b5 hD, ?_⟩
    rw [e5, List.take_add_one, hy, List.map_append]
    rfl
  · obtain ⟨_, s, e⟩ := q
    rw [List.length_map, List.take_length] at e
    exact hd D H' hD s e
theorem lc_signsT {σ : L2.St} {j : Nat} {a : Addr} {cs : List Int} {H : Hp} {Q : VK} (hj : j < σ.length) (h : SqT K H a (cs.map V.int)) (hm : ∀ x ∈ cs, 1 ≤ x ∧ x ≤ 12) (hl : cs.length ≤ 1000)
    (hd : ∀ p H', H p = none → Same H H' → H' p = some (.lst (cs.map fun x => V.str (S [sgAt x]))) → Q (.ref p) H') : PLc (Itt K a) (gName j) tYes (tOp (rIx K) (tC (.str "1234567890ET")) (tOp rSubU (tVar j) (tC (.int 1)))) [j] σ H Q := by
  refine r_lcT (xs := cs.map V.int) (fun D i H' => H D = none ∧ Same H H' ∧ H' D = some (.lst ((cs.take i).map fun x => V.str (S [sgAt x]))))
    (fun x => by show ((σ.set j none).set j (some x)).set j none = σ.set j none; rw [List.set_set, List.set_set]) (fun D H' hD s e => ⟨hD, s, e⟩) (fun D i H' q => sqT_same q.2.1 h) (fun D i x H' hi q => ?_) (fun D H' hD q => ?_)
  · obtain ⟨hD, s, e⟩ := q
    rw [List.getElem?_map] at hi
    obtain ⟨y, hy, rfl⟩ := Option.map_eq_some_iff.mp hi
    have hy2 := hm y (List.mem_of_getElem? hy)
    refine r_yes (r_T ?_)
    refine elt_sign (x := y) (List.getElem?_set_self (by show j < (σ.set j none).length; rw [List.length_set]; exact hj)) hy2.1 hy2.2 ?_
    refine r_acc e (by rw [List.length_map, List.length_take]; omega) fun H5 b5 e5 => ⟨hD, same_but s b5 hD, ?_⟩
    rw [e5, List.take_add_one, hy, List.map_append]
    rfl
  · obtain ⟨_, s, e⟩ := q
    rw [List.length_map, List.take_length] at e
    exact hd D H' hD s e
theorem flat_one {α : Type} (f : Int → α) : ∀ cs : List Int, (cs.map fun x => [f x]).flatten = cs.map f
  | [] => rfl
  | c :: r => by rw [List.map_cons, List.flatten_cons, flat_one f r]; rfl
theorem join_signs {a : Addr} {cs : List Int} {H : Hp} {Q : VK} (h : H a = some (.lst (cs.map fun x => V.str (S [sgAt x])))) (hl : cs.length ≤ 1000) (q : Q (.str (S (cs.map sgAt))) H) : rJoin K (.str "") [.ref a] H Q := by
  have e : ((cs.map fun x => [sgAt x]).map fun y => V.str (S y)) = cs.map fun x => V.str (S [sgAt x]) := by rw [List.map_map]; rfl
  refine r_join (ys := cs.map fun x => [sgAt x]) (sqL_of (by rw [e]; exact h)) ?_ ?_
  · rw [flat_one, List.length_map]; omega
  · rw [flat_one]; exact q
/-- the end of write_change: from a list of places on -/
theorem write_end {s : Int} {a l : Addr} {cs : List Int} {H : Hp} {Q : VK} (e : SqL K H l (cs.map V.int)) (hm : ∀ x ∈ cs, 1 ≤ x ∧ x ≤ 12) (hl : cs.length ≤ 1000) (q : ∀ H', Same H H' → Q (.str (S ((wrB cs).map sgAt))) H') :
    tSeq (tIfS ((tAnd ((tTest (tOp rGtU ((tCB (rLenU K) (tCons (tVar 2) tNil))) ((tC (.int 1)))))) ((tTest (tOp (rEqU K) ((tOp (rIx K) (tVar 2) ((tC (.int 0))))) ((tC (.int 1)))))))) ((tAsg ((tSl (rSlU K) (tVar 2) (tPart ((tC (.int 1)))) tNoPart)) (gName 2))) (tNext))
      ((tRet ((tBM K "str" (rJoin K) ((tC (.str ""))) (tCons ((tLc ((iSeqU K (tVar 2))) ((gName 3)) (tYes) ((tOp (rIx K) ((tC (.str "1234567890ET"))) ((tOp rSubU (tVar 3) ((tC (.int 1))))))) [3])) tNil))))) (En Q) [some (.int s), some (.ref a), some (.ref l), none] H := by
  have fin : ∀ (l2 : Addr) (ps : List Int) (H2 : Hp), Same H H2 → SqL K H2 l2 (ps.map V.int) → (∀ x ∈ ps, x ∈ cs) → ps.length ≤ 1000 → ps = wrB cs →
      ((tRet ((tBM K "str" (rJoin K) ((tC (.str ""))) (tCons ((tLc ((iSeqU K (tVar 2))) ((gName 3)) (tYes) ((tOp (rIx K) ((tC (.str "1234567890ET"))) ((tOp rSubU (tVar 3) ((tC (.int 1))))))) [3])) tNil))))) (En Q) [some (.int s), some (.ref a), some (.ref l2), none] H2 := fun l2 ps H2 s2 e2 hp hl2 ew => by
    walk_at "rd"
    refine lc_signsL (by show 3 < 4; decide) e2 (fun x hx => hm x (hp x hx)) hl2 fun p H3 np s3 e3 => ?_
    walk_at "rd"
    refine join_signs e3 hl2 ?_
    rw [ew]
    exact q H3 (s2.trans s3)
  walk_at "rd"
  rw [List.length_map]
  refine r_ite (fun h0 => ?_) (fun h0 => ?_)
  · have hne : ∃ p r, cs = p :: r := by
      cases cs with
      | nil => simp at h0
      | cons p r => exact ⟨p, r, rfl⟩
    obtain ⟨p, r, rfl⟩ := hne
    have ha : atI ((p :: r).map V.int) 0 = some (.int p) := at_first
    walk_at "rd"
    refine r_ite (fun h1 => ?_) (fun h1 => ?_)
    · have ew : r = wrB (p :: r) := by
        unfold wrB
        rw [if_pos ⟨by omega, h1⟩]; rfl
      walk_at "rd"
      refine r_slLL e fun q2 H2 nq s2 e2 => ?_
      rw [show (some (1 : Int)) = some ((1 : Nat) : Int) from rfl, cut_from (by simp)] at e2
      exact fin q2 r H2 s2 (sqL_of e2) (fun x hx => by simp [hx]) (by simp at hl; omega) ew
    · have ew : p :: r = wrB (p :: r) := by
        unfold wrB
        rw [if_neg (fun z => h1 z.2)]
      refine r_next ?_
      exact fin l (p :: r) H (Same.refl _) e (fun x hx => hx) hl ew
  · have ew : cs = wrB cs := by
      unfold wrB
      rw [if_neg (fun z => h0 (by omega))]
    refine r_F (r_next ?_)
    exact fin l cs H (Same.refl _) e (fun x hx => hx) hl ew
theorem pure_write_change (XS : Exs K ec ns) (h : sp_write_change K ec vs H Q E) : t_write_change K ec E (En Q) (start N_write_change vs) H := by
  obtain ⟨s, a, cs, rfl, ha, hl, qS, qC, q⟩ := h
  have hD : isChD s (.tup (cs.map Dat.int)) = isC s 0 cs := chD_ints
  unfold t_write_change
  walk_at "rd"
  refine ⟨s, .ref a, .tup (cs.map Dat.int), rfl, rp_ints ha, by rw [size_row]; omega, fun hs hb H1 s1 => ?_, fun hs => qS hs, fun hs hb => qC hs fun z => by rw [hD] at hb; rw [Chg, hb] at z; cases z⟩
  have hc : Chg s cs := by rw [hD] at hb; exact hb
  have ha1 := sqT_same s1 ha
  have hq := q hs hc
  walk_at "rd"
  rw [List.length_map]
  refine r_ite (fun h0 => ?_) (fun h0 => ?_)
  · have : cs = [] := List.length_eq_zero_iff.mp (by omega)
    walk_at "rd"
    have := hq H1 s1
    unfold wrC at this
    rw [if_pos ‹cs = []›] at this
    exact this
  · have hne : cs ≠ [] := fun z => h0 (by rw [z]; rfl)
    have hq' : ∀ H', Same H H' → Q (.str (S ((wrB (wrA s cs)).map sgAt))) H' := fun H' s' => by
      have := hq H' s'
      unfold wrC at this
      rw [if_neg hne] at this
      exact this
    have hm : ∀ x ∈ cs, 1 ≤ x ∧ x ≤ 12 := fun x hx => by have := hc.mem x hx; have := hs.2; omega
    walk_at "rd"
    intro l H2 nl s2 e2
    walk_at "rd"
    rw [List.length_map]
    refine r_ite (fun h1 => ?_) (fun h1 => ?_)
    · have hla := at_last hne
      walk_at "rd"
      refine r_ite (fun h2 => ?_) (fun h2 => ?_)
      · have eA : wrA s cs = cs.dropLast := by unfold wrA; rw [if_pos ⟨by omega, h2⟩]
        rw [eA] at hq'
        obtain ⟨r, x, rfl⟩ : ∃ r x, cs = r ++ [x] := by
          rcases List.eq_nil_or_concat cs with z | ⟨r, x, z⟩
          · exact absurd z hne
          · exact ⟨r, x, by rw [z, List.concat_eq_append]⟩
        rw [List.dropLast_concat] at hq'
        refine r_drop (r_BM0 (r_var rfl (r_tyL (sqL_of e2) ?_)))
        refine r_pop (xs := r.map V.int) (y := .int x) (by rw [e2, List.map_append]; rfl) fun H3 b3 e3 => ?_
        exact write_end (sqL_of e3) (fun y hy => hm y (by simp [hy])) (by simp at hl; omega) fun H4 s4 => hq' H4 ((same_but (s1.trans s2) b3 (s1.free nl)).trans s4)
      · have eA : wrA s cs = cs := by unfold wrA; rw [if_neg (fun z => h2 z.2)]
        rw [eA] at hq'
        refine r_next ?_
        exact write_end (sqL_of e2) hm hl fun H4 s4 => hq' H4 ((s1.trans s2).trans s4)
    · have eA : wrA s cs = cs := by unfold wrA; rw [if_neg (fun z => h1 (by omega))]
      rw [eA] at hq'
      refine r_F (r_next ?_)
      exact write_end (sqL_of e2) hm hl fun H4 s4 => hq' H4 ((s1.trans s2).trans s4)
theorem pure_law_change_draw (h : sp_law_change_draw K vs H Q E) : t_law_change_draw K (En Q) (start N_law_change_draw vs) H := by
  obtain ⟨p, n, rfl, hp, h1, h2, q⟩ := h
  unfold t_law_change_draw
  walk_at "rd"
  intro o H1 no s1 e1
  have po : o ≠ p := ne_pl no hp
  walk_at "rd"
  rw [Int.toNat_natCast]
  refine r_forRange0 (fun i σ' H' => ∃ (cs : List Int) (P : Int) (z4 : Option V), σ' = [some (.ref p), some (.int (n : Int)), some (.ref o), some (.int P), z4] ∧ But p H H' ∧ Pl H' p ∧ H' o = some (.lst (cs.map V.int)) ∧ okC n 0 cs = true ∧ lastC 0 cs < P ∧ P ≤ n + 1 ∧ (P - 1 - lastC 0 cs) % 2 = 0 ∧ (i : Int) + 1 ≤ P ∧ cs.length ≤ i)
    ⟨[], 1, none, rfl, Same.but s1, pl_same s1 hp, e1, rfl, by show (0 : Int) < 1; decide, by omega, rfl, by omega, Nat.le_refl _⟩ (fun i σ' H' hi hW => ?_) (fun σ' H' hW => ?_)
  · obtain ⟨cs, P, z4, rfl, bt, hp', eo, ok, c1, c2, c3, c4, c5⟩ := hW
    have nH : H o = none := no
    have app : ∀ (H2 : Hp), But p H' H2 → Pl H2 p → P ≤ n → ∀ H3, But o H2 H3 → H3 o = some (.lst (cs.map V.int ++ [.int P])) → ∃ (cs : List Int) (P' : Int) (z4 : Option V), ([some (.ref p), some (.int (n : Int)), some (.ref o), some (.int (P + 1)), some (.int (i : Int))] : L2.St) = [some (.ref p), some (.int (n : Int)), some (.ref o), some (.int P'), z4] ∧ But p H H3 ∧ Pl H3 p ∧ H3 o = some (.lst (cs.map V.int)) ∧ okC n 0 cs = true ∧ lastC 0 cs < P' ∧ P' ≤ n + 1 ∧ (P' - 1 - lastC 0 cs) % 2 = 0 ∧ ((i + 1 : Nat) : Int) + 1 ≤ P' ∧ cs.length ≤ i + 1 := by
      intro H2 b2 hp2 hP H3 b3 e3
      refine ⟨cs ++ [P], P + 1, _, rfl, but_via (bt.trans b2) b3 nH, pl_butL b3 po.symm hp2, by rw [e3, List.map_append]; rfl, okC_snoc.mpr ⟨ok, c1, hP, by omega⟩, ?_, by omega, ?_, by omega, by rw [List.length_append]; simp; exact c5⟩
      · rw [lastC_snoc]; omega
      · rw [lastC_snoc]; omega
    walk_at "rd"
    refine r_ite (fun h0 => ?_) (fun h0 => ?_)
    · walk_at "rd"
      intro H3 b3 e3
      walk_at "rd"
      exact app H' But.refl hp' (by omega) H3 b3 e3
    · walk_at "rd"
      refine r_ite (fun h3 => ?_) (fun h3 => ?_)
      · walk_at "rd"
        refine r_draw hp' (by omega) (by omega) fun v H2 v0 v1 b2 hp2 => ?_
        have eo2 := b2 _ _ po eo
        walk_at "rd"
        refine r_ite (fun h4 => ?_) (fun h4 => ?_)
        · walk_at "rd"
          intro H3 b3 e3
          walk_at "rd"
          exact app H2 b2 hp2 (by omega) H3 b3 e3
        · walk_at "rd"
          exact ⟨cs, P + 2, _, rfl, bt.trans b2, hp2, eo2, ok, by omega, by omega, by omega, by omega, by omega⟩
      · walk_at "rd"
        exact ⟨cs, P, _, rfl, bt, hp', eo, ok, c1, c2, c3, by omega, by omega⟩
  · obtain ⟨cs, P, z4, rfl, bt, hp', eo, ok, c1, c2, c3, c4, c5⟩ := hW
    walk_at "rd"
    intro t H3 nt s3 e3
    have tp : t ≠ p := ne_pl nt hp'
    refine q t H3 cs (free_but bt tp nt) (bt.trans (Same.but s3)) (pl_same s3 hp') (sqT_ofD e3) (isC_iff.mpr ⟨ok, ?_⟩)
    omega
end
end Kb

set_option Elab.async false
set_option linter.all false
set_option maxRecDepth 100000
set_option maxHeartbeats 4000000
/-! lengths; a tuple's parts -/
namespace Kb
open PySem PySem.Spec PyProof.Rows L2 SX
section
variable {K : PySem.W.Frag} {H H' : Hp} {Q : VK} {E : XK} {p a b l : Addr} {m : Int} {xs ys : List V} {lo hi : Option Int}
variable {ns ms : List Int} {j k : Nat}
theorem len_cut (h : ns.length ≤ k) : (cutA ns lo hi).length ≤ k := Nat.le_trans (cutA_len ns) h
theorem len_app (h : ns.length ≤ j) (h' : ms.length ≤ k) : (ns ++ ms).length ≤ j + k := by rw [List.length_append]; omega
theorem len_rev (h : ns.length ≤ k) : ns.reverse.length ≤ k := by rw [List.length_reverse]; exact h
theorem len_one {i : Int} : [i].length ≤ 1 := Nat.le_refl _
theorem len_nil : ([] : List Int).length ≤ 0 := Nat.le_refl _
theorem len_fin (h : ns.length ≤ j) (e : j ≤ k) : ns.length ≤ k := Nat.le_trans h e
theorem len_two (h : ns.length ≤ j) (h' : ms.length ≤ k) (e : j + k ≤ 16000000) : ns.length + ms.length ≤ 16000000 := by omega
theorem r_slN (h : SqT K H a (ns.map V.int)) (q : ∀ p H' (ms : List Int), Same H H' → SqT K H' p (ms.map V.int) → ms.length ≤ ns.length → Q (.ref p) H') : rSlU K (.ref a) lo hi H Q :=
  r_slI h fun p H' s e => q p H' _ s e (cutA_len ns)
theorem r_catN (h1 : SqT K H a (ns.map V.int)) (h2 : SqT K H b (ms.map V.int)) (hz : ns.length + ms.length ≤ 16000000) (q : ∀ p H' (us : List Int), Same H H' → SqT K H' p (us.map V.int) → us.length = ns.length + ms.length → Q (.ref p) H') : rAddU K (.ref a) (.ref b) H Q :=
  r_catII h1 h2 hz fun p H' s e => q p H' _ s e (List.length_append ..)
theorem r_prevN (h : SqT K H a (ns.map V.int)) (q : ∀ p H' (ms : List Int), Same H H' → SqT K H' p (ms.map V.int) → ms.length = ns.length → Q (.ref p) H') : PRev K (.ref a) (some (-1)) H Q :=
  r_prev h fun p H' np s e => q p H' ns.reverse s (by rw [List.map_reverse]; exact sqT_of e) (List.length_reverse ..)
theorem r_prevI (h : SqT K H a (ns.map V.int)) (q : ∀ p H', Same H H' → SqT K H' p (ns.reverse.map V.int) → Q (.ref p) H') : PRev K (.ref a) (some (-1)) H Q :=
  r_prev h fun p H' np s e => q p H' s (by rw [List.map_reverse]; exact sqT_of e)
/-- t[m] of a tuple of ints, somewhere in it -/
theorem r_ixI (h : SqT K H a (ns.map V.int)) (h0 : 0 ≤ m) (h1 : m < (ns.length : Int)) (q : ∀ i, ns[m.toNat]? = some i → Q (.int i) H) : rIx K (.ref a) (.int m) H Q := by
  obtain ⟨n, e1, e2⟩ := atI_ints h0 h1
  exact r_ixT h e1 (q n e2)
theorem r_setI {N : Hp → Prop} {i : Int} (h : H p = some (.lst (ns.map V.int))) (h0 : 0 ≤ m) (h1 : m < (ns.length : Int)) (q : ∀ H' ns', But p H H' → H' p = some (.lst ((ns' : List Int).map V.int)) → ns'.length = ns.length → N H') : rSetL (.ref p) (.int m) (.int i) H N := by
  refine r_setL (k := m.toNat) h ?_ fun H' b e => q H' (ns.set m.toNat i) b (by rw [e, List.map_set]) (List.length_set ..)
  rw [List.length_map]
  have := ixN_n (n := ns.length) (k := m.toNat) (by omega)
  rw [show ((m.toNat : Nat) : Int) = m by omega] at this
  exact this
theorem r_kTupI (h : H p = some (.lst (ns.map V.int))) (q : ∀ a H', H a = none → Same H H' → SqT K H' a (ns.map V.int) → Q (.ref a) H') : kTupD K (.ref p) H Q := r_kTupL (sqL_of h) fun a H' na s e => q a H' na s (sqT_ofD e)
theorem r_listI (h : SqT K H p (ns.map V.int)) (q : ∀ a H', H a = none → Same H H' → H' a = some (.lst (ns.map V.int)) → Q (.ref a) H') : rListU K [.ref p] H Q := r_listT h q
/-- [f(x) for x in t] with whole numbers, whichever -/
theorem r_lcN {σ : L2.St} {te : TE} {j : Nat} (h : SqT K H a (ns.map V.int)) (hz : ns.length ≤ 1000000) (he : ∀ x, ∃ i : Int, ∀ H1 (Q' : VK), Q' (.int i) H1 → te ((σ.set j none).set j (some (.int x))) H1 Q')
    (hd : ∀ q H' (ms : List Int), H q = none → Same H H' → H' q = some (.lst (ms.map V.int)) → ms.length = ns.length → Q (.ref q) H') : PLc (Itt K a) (gName j) tYes te [j] σ H Q := by
  refine r_lcT (xs := ns.map V.int) (fun D i H' => H D = none ∧ Same H H' ∧ ∃ ms : List Int, H' D = some (.lst (ms.map V.int)) ∧ ms.length = i)
    (fun x => by show ((σ.set j none).set j (some x)).set j none = σ.set j none; rw [List.set_set, List.set_set]) (fun D H' hD s e => ⟨hD, s, [], e, rfl⟩) (fun D i H' q => sqT_same q.2.1 h) (fun D i x H' hi q => ?_) (fun D H' hD q => ?_)
  · obtain ⟨hD, s, ms, e, hl⟩ := q
    have hil : i < (ns.map V.int).length := (List.getElem?_eq_some_iff.mp hi).1
    rw [List.length_map] at hil
    rw [List.getElem?_map] at hi
    obtain ⟨y, hy, rfl⟩ := Option.map_eq_some_iff.mp hi
    obtain ⟨v, hv⟩ := he y
    refine r_yes (r_T (hv H' _ ?_))
    refine r_acc e (by rw [List.length_map]; omega) fun H5 b5 e5 => ⟨hD, same_but s b5 hD, ms ++ [v], by rw [e5, List.map_append]; rfl, by rw [List.length_append, hl]; rfl⟩
  · obtain ⟨hD, s, ms, e, hl⟩ := q
    rw [List.length_map] at hl
    exact hd D H' ms hD s e hl
/-- [f() for k in range(n)] with whole numbers that are drawn -/
theorem r_lcDr {σ : L2.St} {te : TE} {j n : Nat} {lo : Int} (hp : Pl H p) (hz : n ≤ 1000000) (he : ∀ (x : Int) H1 (Q' : VK), But p H H1 → Pl H1 p → (∀ i H2, But p H1 H2 → Pl H2 p → Q' (.int i) H2) → te ((σ.set j none).set j (some (.int x))) H1 Q')
    (hd : ∀ q H' (ms : List Int), H q = none → But p H H' → Pl H' p → H' q = some (.lst (ms.map V.int)) → ms.length = n → Q (.ref q) H') : PLc (Itr lo n) (gName j) tYes te [j] σ H Q := by
  refine r_lcR (fun D i H' => H D = none ∧ D ≠ p ∧ But p H H' ∧ Pl H' p ∧ ∃ ms : List Int, H' D = some (.lst (ms.map V.int)) ∧ ms.length = i)
    (fun x => by show ((σ.set j none).set j (some x)).set j none = σ.set j none; rw [List.set_set, List.set_set]) (fun D H' hD s e => ⟨hD, ne_pl hD hp, Same.but s, pl_same s hp, [], e, rfl⟩) (fun D i H' hi q => ?_) (fun D H' hD q => ?_)
  · obtain ⟨hD, hne, b, hp', ms, e, hl⟩ := q
    refine r_yes (r_T (he _ H' _ b hp' fun v H2 b2 hp2 => ?_))
    refine r_acc (b2 _ _ hne e) (by rw [List.length_map]; omega) fun H5 b5 e5 => ⟨hD, hne, but_via (b.trans b2) b5 hD, pl_butL b5 hne.symm hp2, ms ++ [v], by rw [e5, List.map_append]; rfl, by rw [List.length_append, hl]; rfl⟩
  · obtain ⟨hD, hne, b, hp', ms, e, hl⟩ := q
    exact hd D H' ms hD b hp' e hl
/-- a list that stood before p was made -/
theorem sqL_via (np : H p = none) (b : But p H H') (h : SqL K H a xs) : SqL K H' a xs := by
  rcases h with (h | ⟨o, h⟩) | h
  · exact .inl (.inl (b _ _ (ne_of_none h np) h))
  · exact .inl (.inr ⟨o, b _ _ (ne_of_none h np) h⟩)
  · exact .inr h
end
end Kb

set_option Elab.async false
set_option linter.all false
set_option maxRecDepth 100000
set_option maxHeartbeats 4000000
/-! text[::-1]; texts whose signs don't matter -/
namespace Kb
open PySem PySem.Spec PyProof.Rows L2 SX PySem.Builtin.Str
def PRevS (x : V) (k : Option Int) (H : Hp) (Q : VK) : Prop := k = some (-1) ∧ ∃ z : Str, x = .str z ∧ z.length ≤ sizeLine ∧ Q (.str ⟨z.cps.toList.reverse.toArray⟩) H
def tRevS (te : TE) (tk : TO) : TE := fun σ H Q => te σ H fun x H1 => tk σ H1 fun k H2 => PRevS x k H2 Q
theorem idx_rev (n : Nat) : strSliceIndices none none (-1) n = (List.range n).reverse := by
  have e : strSliceIndices none none (-1) n = (List.range n).map fun (k : Nat) => ((n : Int) - 1 + (-1) * (k : Int)).toNat := by
    have h : (sliceRange ((n : Int) - 1) (-1) (-1)) = (List.range n).map fun (k : Nat) => ((n : Int) - 1 + (-1) * (k : Int)).toNat := by
      unfold sliceRange
      have : (if (-1 : Int) > 0 then (if (n : Int) - 1 < -1 then (-1 - ((n : Int) - 1) + -1 - 1) / -1 else 0) else (if (n : Int) - 1 > -1 then ((n : Int) - 1 - -1 - -1 - 1) / (- -1) else 0)) = (n : Int) := by
        rw [if_neg (by decide)]
        split
        · rw [show (- -1 : Int) = 1 by decide, Int.ediv_one]; omega
        · omega
      dsimp only
      rw [this, Int.toNat_natCast]
    exact h
  rw [e]
  apply List.ext_getElem?
  intro i
  rw [List.getElem?_map]
  by_cases hi : i < n
  · rw [List.getElem?_range hi, List.getElem?_reverse (by simpa using hi), List.length_range, List.getElem?_range (by omega)]
    show some ((n : Int) - 1 + (-1) * (i : Int)).toNat = some _
    congr 1
    omega
  · rw [List.getElem?_eq_none (by simp; omega), List.getElem?_eq_none (by simp; omega)]; rfl
theorem pick_up : ∀ l : List Nat, (List.range l.length).filterMap (fun i => l[i]?) = l
  | [] => rfl
  | a :: l => by
    rw [List.length_cons, List.range_succ_eq_map, List.filterMap_cons]
    simp only [List.getElem?_cons_zero, List.filterMap_map]
    congr 1
    exact pick_up l
theorem pick_all (l : List Nat) : (List.range l.length).reverse.filterMap (fun i => l[i]?) = l.reverse := by
  rw [List.filterMap_reverse, pick_up]
section
variable {X : Cx} {e : Expr} {te : TE} {st : Expr} {tk : TO} {pos p2 : Pos}
theorem pe_revS (he : PE X e te) (hk : PO X (some st) tk) : PE X (.Subscript e (.Slice none none (some st) p2) pos) (tRevS te tk) := by
  refine ⟨fun pins s σ H Q I h => ?_⟩
  refine Subscript_ (thn (he.run pins s σ H _ I h) fun v s1 ⟨x, H1, I1, r1, q1⟩ => ?_)
  refine wpAny_Slice ?_
  rw [evalPart_none]
  refine wpAny_pure (wpAny_pure ?_)
  refine thn (hk.run pins s1 σ H1 _ I1 q1) fun vk s2 ⟨k, H2, I2, pk, q2⟩ => ?_
  obtain ⟨rfl, z, rfl, hz, q⟩ := q2
  obtain ⟨t, rfl⟩ := r1
  have I4 : Inv X pins σ H2 { s2 with heap := s2.heap.push { cls := .type "slice", data := .fields #[.none, .none, vk] } } := I2.kept (t' := s2.toks) fun b ob q => Heap.get?_push_of_some _ q
  show wpAny (model X.prog X.w) X.A (subscriptTail e (.Slice none none (some st) p2) (.str z t) (.ref s2.heap.objs.size)) (EP X pins σ Q) X.xe { s2 with heap := s2.heap.push { cls := .type "slice", data := .fields #[.none, .none, vk] } }
  refine tail_any (typeIs_str _ _ _) F.slot_str_getitem.lookup ?_ (by with_unfolding_all rfl)
  obtain ⟨u, rfl, eu⟩ := IsPart.raw pk
  have hu : (u.map (·.1)) = some (-1) := eu
  refine wpAny_getItem_str_slice (l := none) (u := none) (st := u) ⟨_, Heap.get?_push_size _ rfl, rfl, rfl⟩ (by rw [hu]; rfl) ?_
  have em : sliceMade z t none none u = .str ⟨z.cps.toList.reverse.toArray⟩ := by
    unfold sliceMade slicePicked
    rw [hu]
    show (if ((-1 : Int) == 1 && _) = true then _ else Made.str ⟨((strSliceIndices none none (-1) z.length).filterMap (z.cps[·]?)).toArray⟩) = _
    rw [if_neg (by rw [show ((-1 : Int) == 1) = false by decide, Bool.false_and]; decide), idx_rev]
    have : (List.range z.length).reverse.filterMap (z.cps[·]?) = z.cps.toList.reverse := by
      have := pick_all z.cps.toList
      rw [Array.length_toList] at this
      rw [← this]
      congr 1
      funext i
      rw [Array.getElem?_toList]
    rw [this]
  rw [em]
  have hl : (⟨z.cps.toList.reverse.toArray⟩ : Str).length ≤ sizeLine := by
    show z.cps.toList.reverse.toArray.size ≤ sizeLine
    rw [List.size_toArray, List.length_reverse, Array.length_toList]
    exact hz
  exact ⟨hl, .str _, H2, I4.tok _, ⟨_, rfl⟩, q⟩
end
section
variable {K : PySem.W.Frag} {H H' : Hp} {Q : VK} {E : XK} {p a b l : Addr} {m : Int} {lo hi : Option Int} {as bs : List Nat} {te : TE} {tk : TO} {σ : L2.St}
theorem r_revS (h : te σ H fun x H1 => tk σ H1 fun k H2 => PRevS x k H2 Q) : tRevS te tk σ H Q := h
theorem r_prevS (hz : as.length ≤ 16000000) (q : Q (.str (S as.reverse)) H) : PRevS (.str (S as)) (some (-1)) H Q := ⟨rfl, S as, rfl, by rw [S_len, sizeLine_eq]; omega, q⟩
/-! texts of which the length alone is told -/
theorem r_slSN (hz : as.length ≤ 16000000) (q : ∀ bs : List Nat, bs.length ≤ as.length → Q (.str (S bs)) H) : rSlU K (.str (S as)) lo hi H Q := r_slS hz (q _ (cutA_len as))
theorem r_catSN (hz : as.length + bs.length ≤ 16000000) (q : ∀ cs : List Nat, cs.length = as.length + bs.length → Q (.str (S cs)) H) : rAddU K (.str (S as)) (.str (S bs)) H Q := r_addSS hz (q _ (List.length_append ..))
theorem r_prevSN (hz : as.length ≤ 16000000) (q : ∀ bs : List Nat, bs.length = as.length → Q (.str (S bs)) H) : PRevS (.str (S as)) (some (-1)) H Q := r_prevS hz (q _ (List.length_reverse ..))
theorem r_ixSN (hz : as.length ≤ 16000000) (h0 : 0 ≤ m) (h1 : m < (as.length : Int)) (q : ∀ c, as[m.toNat]? = some c → Q (.str (S [c])) H) : rIx K (.str (S as)) (.int m) H Q := by
  have hk : m.toNat < as.length := by omega
  have := atI_nat (xs := as) (j := m.toNat) (v := as[m.toNat]) (List.getElem?_eq_getElem hk)
  rw [show ((m.toNat : Nat) : Int) = m by omega] at this
  exact r_ixSS hz this (q _ (List.getElem?_eq_getElem hk))
/-- a sign of a written text -/
theorem r_ixC {z : Str} {k : Nat} (hk : z.cps.toList.length = k) (hz : k ≤ 1000) (h0 : 0 ≤ m) (h1 : m < (k : Int)) (q : ∀ c, Q (.str (S [c])) H) : rIx K (.str z) (.int m) H Q := by
  have e : z = S z.cps.toList := (S_tl z).symm
  rw [e]
  exact r_ixSN (by omega) h0 (by omega) fun c _ => q c
/-- [f() for k in range(n)] with one sign each, drawn -/
theorem r_lcDrS {j n : Nat} {lo : Int} (hp : Pl H p) (hz : n ≤ 1000000) (he : ∀ (x : Int) H1 (Q' : VK), But p H H1 → Pl H1 p → (∀ c H2, But p H1 H2 → Pl H2 p → Q' (.str (S [c])) H2) → te ((σ.set j none).set j (some (.int x))) H1 Q')
    (hd : ∀ q H' (ms : List Nat), H q = none → But p H H' → Pl H' p → H' q = some (.lst (ms.map fun c => V.str (S [c]))) → ms.length = n → Q (.ref q) H') : PLc (Itr lo n) (gName j) tYes te [j] σ H Q := by
  refine r_lcR (fun D i H' => H D = none ∧ D ≠ p ∧ But p H H' ∧ Pl H' p ∧ ∃ ms : List Nat, H' D = some (.lst (ms.map fun c => V.str (S [c]))) ∧ ms.length = i)
    (fun x => by show ((σ.set j none).set j (some x)).set j none = σ.set j none; rw [List.set_set, List.set_set]) (fun D H' hD s e => ⟨hD, ne_pl hD hp, Same.but s, pl_same s hp, [], e, rfl⟩) (fun D i H' hi q => ?_) (fun D H' hD q => ?_)
  · obtain ⟨hD, hne, b, hp', ms, e, hl⟩ := q
    refine r_yes (r_T (he _ H' _ b hp' fun v H2 b2 hp2 => ?_))
    refine r_acc (b2 _ _ hne e) (by rw [List.length_map]; omega) fun H5 b5 e5 => ⟨hD, hne, but_via (b.trans b2) b5 hD, pl_butL b5 hne.symm hp2, ms ++ [v], by rw [e5, List.map_append]; rfl, by rw [List.length_append, hl]; rfl⟩
  · obtain ⟨hD, hne, b, hp', ms, e, hl⟩ := q
    exact hd D H' ms hD b hp' e hl
theorem flat_oneN : ∀ cs : List Nat, (cs.map fun x => [x]).flatten = cs
  | [] => rfl
  | c :: r => by rw [List.map_cons, List.flatten_cons, flat_oneN r]; rfl
theorem join_ones {cs : List Nat} (h : H a = some (.lst (cs.map fun c => V.str (S [c])))) (hl : cs.length ≤ 1000000) (q : Q (.str (S cs)) H) : rJoin K (.str "") [.ref a] H Q := by
  have e : ((cs.map fun x => [x]).map fun y => V.str (S y)) = cs.map fun x => V.str (S [x]) := by rw [List.map_map]; rfl
  refine r_join (ys := cs.map fun x => [x]) (sqL_of (by rw [e]; exact h)) ?_ ?_
  · rw [flat_oneN]; omega
  · rw [flat_oneN]; exact q
end
end Kb

set_option Elab.async false
set_option linter.all false
set_option maxRecDepth 100000
set_option maxHeartbeats 4000000
/-! the law's drawn texts -/
namespace Kb
open PySem PySem.Spec PyProof.Rows L2 SX
/-! the tactics: rd walks a reading; tk closes a fact about a heap from those ahead of it -/
local macro_rules | `(tactic| walk_at "tk") => `(tactic| first
  | assumption
  | ((with_reducible refine' sqT_of ?k); (case k => assumption))
  | ((with_reducible refine' sqT_ofD ?k); (case k => assumption))
  | ((with_reducible refine' noD_of ?k); (case k => assumption))
  | ((with_reducible refine' noD_same ?s ?k); (case s => assumption); (case k => walk_at "tk"))
  | ((with_reducible refine' sqL_of ?k); (case k => assumption))
  | ((with_reducible refine' sqT_same ?s ?k); (case s => assumption); (case k => walk_at "tk"))
  | ((with_reducible refine' sqL_same ?s ?k); (case s => assumption); (case k => walk_at "tk"))
  | ((with_reducible refine' sqT_but ?s ?t ?k); (case s => assumption); (case t => walk_at "tk"); (case k => walk_at "tk"))
  | ((with_reducible refine' sqL_but ?s ?t ?k); (case s => assumption); (case t => walk_at "ne"); (case k => walk_at "tk"))
  | ((with_reducible refine' sqL_of ?k); (case k => walk_at "tk"))
  | ((with_reducible refine' sqT_of ?k); (case k => walk_at "tk"))
  | ((with_reducible refine' at_same ?s ?k); (case s => assumption); (case k => walk_at "tk"))
  | ((with_reducible refine' at_but ?s ?t ?k); (case s => assumption); (case t => walk_at "ne"); (case k => walk_at "tk")))
local macro_rules | `(tactic| walk_at "ne") => `(tactic| first
  | assumption
  | (refine Ne.symm ?_; assumption)
  | exact ne_of_none (by assumption) (by assumption)
  | exact (ne_of_none (by assumption) (by assumption)).symm)
local macro_rules | `(tactic| walk_at "side") => `(tactic| first
  | assumption
  | omega
  | (simp only [sizeLine_eq, List.length_cons, List.length_nil, List.length_map]; omega)
  | (show _ ≤ sizeLine; decide))
local macro_rules | `(tactic| walk_at "kit") => `(tactic| first
  | (show kitB _ _ = some true; decide +kernel)
  | (show kitB _ _ = some false; decide +kernel))
local macro_rules | `(tactic| walk_at "rng") => `(tactic| first
  | (refine ⟨by omega, by omega, by omega, by omega⟩)
  | (refine ⟨by omega, by omega⟩)
  | ((simp only [List.length_map]); (refine ⟨by omega, by omega, by omega, by omega⟩))
  | ((simp only [List.length_map]); (refine ⟨by omega, by omega⟩)))
local macro_rules | `(tactic| walk_at "rd1") => `(tactic| first
  | with_reducible refine r_seq ?_
  | ((with_reducible refine' r_var ?k0 ?_); (case k0 => rfl))
  | with_reducible refine r_op ?_
  | with_reducible refine r_c ?_
  | with_reducible refine r_asg ?_
  | with_reducible refine r_name ?_
  | with_reducible refine r_cons ?_
  | with_reducible refine r_nil ?_
  | with_reducible refine r_CB ?_
  | with_reducible refine r_if ?_
  | with_reducible refine r_test ?_
  | with_reducible refine r_k ?_
  | with_reducible refine r_T ?_
  | with_reducible refine r_F ?_
  | with_reducible refine r_nT ?_
  | with_reducible refine r_nF ?_
  | with_reducible refine r_ret ?_
  | with_reducible refine r_drop ?_
  | with_reducible refine r_next ?_
  | with_reducible refine r_call ?_
  | with_reducible refine r_addI ?_
  | with_reducible refine r_subI ?_
  | with_reducible refine r_ltI ?_
  | with_reducible refine r_gtI ?_
  | with_reducible refine r_leI ?_
  | with_reducible refine r_geI ?_
  | with_reducible refine r_eqI ?_
  | with_reducible refine r_neI ?_
  | with_reducible refine r_int ?_
  | with_reducible refine r_abs ?_
  | with_reducible refine r_not ?_
  | with_reducible refine r_and ?_
  | with_reducible refine r_or ?_
  | with_reducible refine r_tru ?_
  | with_reducible refine r_truB ?_
  | with_reducible refine r_lst ?_
  | with_reducible refine r_tup ?_
  | with_reducible refine r_BM ?_
  | with_reducible refine r_BM0 ?_
  | with_reducible refine r_tyS ?_
  | with_reducible refine r_gsub ?_
  | with_reducible refine r_then ?_
  | with_reducible refine r_lstRg ?_
  | with_reducible refine r_tupRg ?_
  | with_reducible refine r_rg2 ?_
  | with_reducible refine r_rg1 ?_
  | with_reducible refine r_ii ?_
  | with_reducible refine r_i ?_
  | with_reducible refine r_ipI ?_
  | with_reducible refine r_un ?_
  | with_reducible refine r_neg ?_
  | with_reducible refine r_isN ?_
  | with_reducible refine r_notN ?_
  | with_reducible refine r_notV ?_
  | with_reducible refine r_pnot ?_
  | with_reducible refine r_pif ?_
  | with_reducible refine r_andV ?_
  | with_reducible refine r_orV ?_
  | with_reducible refine r_ifE ?_
  | with_reducible refine r_chain ?_
  | with_reducible refine r_sl ?_
  | with_reducible refine r_noPart ?_
  | with_reducible refine r_part ?_
  | with_reducible refine r_brk ?_
  | with_reducible refine r_cont ?_
  | with_reducible refine r_retN ?_
  | with_reducible refine r_truI ?_
  | with_reducible refine r_B ?_
  | with_reducible refine r_for ?_
  | with_reducible refine r_rng1 ?_
  | with_reducible refine r_rng2 ?_
  | with_reducible refine r_rng3 ?_
  | with_reducible refine r_body ?_
  | with_reducible refine r_lc ?_
  | with_reducible refine r_yes ?_
  | ((with_reducible refine' r_mod ?k0 ?_); (case k0 => walk_at "side"))
  | ((with_reducible refine' r_mulI ?k0 ?_); (case k0 => first | exact Or.inl ⟨by omega, by omega⟩ | exact Or.inr ⟨by omega, by omega⟩))
  | ((with_reducible refine' r_lenL ?k0 ?_); (case k0 => walk_at "tk"))
  | ((with_reducible refine' r_lenT ?k0 ?_); (case k0 => walk_at "tk"))
  | ((with_reducible refine' r_truL ?k0 ?_); (case k0 => walk_at "tk"))
  | ((with_reducible refine' r_truT ?k0 ?_); (case k0 => walk_at "tk"))
  | ((with_reducible refine' r_ixL ?k0 ?k1 ?_); (case k0 => walk_at "tk"); (case k1 => first | assumption | rfl))
  | ((with_reducible refine' r_ixT ?k0 ?k1 ?_); (case k0 => walk_at "tk"); (case k1 => first | assumption | rfl))
  | ((with_reducible refine' r_new ?k0 ?_); (case k0 => walk_at "side"))
  | ((with_reducible refine' r_tyL ?k0 ?_); (case k0 => walk_at "tk"))
  | ((with_reducible refine' r_append ?k0 ?k1 ?_); (case k0 => walk_at "tk"); (case k1 => walk_at "side"))
  | ((with_reducible refine' r_setL ?k0 ?k1 ?_); (case k0 => walk_at "tk"); (case k1 => first | assumption | rfl))
  | ((with_reducible refine' r_kTupL ?k0 ?_); (case k0 => walk_at "tk"))
  | ((with_reducible refine' r_kTupT ?k0 ?_); (case k0 => walk_at "tk"))
  | ((with_reducible refine' r_listL ?k0 ?_); (case k0 => walk_at "tk"))
  | ((with_reducible refine' r_listT ?k0 ?_); (case k0 => walk_at "tk"))
  | ((with_reducible refine' r_aug ?k0 ?_); (case k0 => rfl))
  | ((with_reducible refine' r_lenS ?k0 ?_); (case k0 => walk_at "side"))
  | ((with_reducible refine' r_pop ?k0 ?_); (case k0 => walk_at "tk"))
  | ((with_reducible refine' r_pr1 ?k0 ?_); (case k0 => walk_at "rng"))
  | ((with_reducible refine' r_pr2 ?k0 ?_); (case k0 => walk_at "rng"))
  | ((with_reducible refine' r_pr3d ?k0 ?_); (case k0 => walk_at "rng"))
  | ((with_reducible refine' r_isiI ?k0 ?_); (case k0 => walk_at "kit"))
  | ((with_reducible refine' r_isiB ?k0 ?_); (case k0 => walk_at "kit"))
  | ((with_reducible refine' r_isiS ?k0 ?_); (case k0 => walk_at "kit"))
  | ((with_reducible refine' r_isiN ?k0 ?_); (case k0 => walk_at "kit"))
  | ((with_reducible refine' r_isiT ?k0 ?k1 ?_); (case k0 => walk_at "tk"); (case k1 => walk_at "kit"))
  | ((with_reducible refine r_seqT ?_); (repeat (walk_at "rd1")); ((with_reducible refine' r_pseqT ?k0 ?_); (case k0 => walk_at "tk")))
  | ((with_reducible refine r_seqL ?_); (repeat (walk_at "rd1")); ((with_reducible refine' r_pseqL ?k0 ?_); (case k0 => walk_at "tk")))
  | ((with_reducible refine r_seqS ?_); (repeat (walk_at "rd1")); (with_reducible refine r_pseqS ?_)))
local macro_rules | `(tactic| walk_at "rd") => `(tactic| ((repeat (walk_at "rd1")); (try dsimp only)))

local macro_rules | `(tactic| walk_at "rd1") => `(tactic| first
  | with_reducible refine r_BMT ?_
  | with_reducible refine r_par ?_
  | with_reducible refine r_parV ?_
  | ((with_reducible refine' r_ptp ?k0 ?k1 ?_); (case k0 => walk_at "tk"); (case k1 => walk_at "tk"))
  | with_reducible refine r_eqS ?_
  | with_reducible refine r_neS ?_
  | with_reducible refine r_callW ?_
  | with_reducible refine r_try ?_
  | with_reducible refine r_enT ?_
  | ((with_reducible refine' r_pen ?k0 ?_); (case k0 => walk_at "tk")))

local macro_rules | `(tactic| walk_at "pl0") => `(tactic| first
  | assumption
  | exact pl_same (by assumption) (by assumption)
  | exact pl_same (by assumption) (pl_same (by assumption) (by assumption))
  | exact pl_same (by assumption) (pl_same (by assumption) (pl_same (by assumption) (by assumption))))
local macro_rules | `(tactic| walk_at "pl") => `(tactic| first
  | walk_at "pl0"
  | ((with_reducible refine' pl_butL ?s ?n ?k); (case s => assumption); (case n => walk_at "ne"); (case k => walk_at "pl"))
  | ((with_reducible refine' pl_same ?s ?k); (case s => assumption); (case k => walk_at "pl")))
local macro_rules | `(tactic| walk_at "ne") => `(tactic| first
  | exact ne_pl (by assumption) (by walk_at "pl0")
  | exact (ne_pl (by assumption) (by walk_at "pl0")).symm)
local macro_rules | `(tactic| walk_at "fr") => `(tactic| first
  | assumption
  | ((with_reducible refine' free_but ?b ?n ?h); (case h => assumption); (case n => walk_at "ne"); (case b => walk_at "but"))
  | ((with_reducible refine' Same.free ?b ?h); (case h => assumption); (case b => walk_at "same")))
local macro_rules | `(tactic| walk_at "but") => `(tactic| first
  | assumption
  | exact But.refl
  | ((with_reducible refine' But.trans ?a ?b); (case b => assumption); (case a => walk_at "but"))
  | ((with_reducible refine' But.trans ?a (Same.but ?b)); (case b => assumption); (case a => walk_at "but"))
  | ((with_reducible refine' but_via ?a ?b ?c); (case b => assumption); (case c => walk_at "fr"); (case a => walk_at "but")))
local macro_rules | `(tactic| walk_at "same") => `(tactic| first
  | assumption
  | exact Same.refl _
  | ((with_reducible refine' Same.trans ?a ?b); (case b => assumption); (case a => walk_at "same"))
  | ((with_reducible refine' same_but ?a ?b ?c); (case b => assumption); (case c => walk_at "fr"); (case a => walk_at "same")))
local macro_rules | `(tactic| walk_at "tk") => `(tactic| first
  | ((with_reducible refine' sqT_pl ?s ?t ?k); (case s => assumption); (case t => walk_at "pl0"); (case k => walk_at "tk"))
  | ((with_reducible refine' rp_same ?s ?k); (case s => assumption); (case k => walk_at "tk"))
  | ((with_reducible refine' rp_pl ?s ?t ?k); (case s => assumption); (case t => walk_at "pl0"); (case k => walk_at "tk")))
local macro_rules | `(tactic| walk_at "it") => `(tactic| first
  | assumption
  | ((with_reducible refine' sqI_1 ?k); (case k => assumption))
  | ((with_reducible refine' sqI_0 ?k); (case k => assumption))
  | ((with_reducible refine' sqI_of ?k); (case k => assumption))
  | ((with_reducible refine' sqI_D ?k); (case k => assumption))
  | ((with_reducible refine' sqT_same ?s ?k); (case s => assumption); (case k => walk_at "it"))
  | ((with_reducible refine' sqT_but ?s ?t ?k); (case s => assumption); (case t => assumption); (case k => walk_at "it"))
  | ((with_reducible refine' sqT_pl ?s ?t ?k); (case s => assumption); (case t => walk_at "pl0"); (case k => walk_at "it")))
local macro_rules | `(tactic| walk_at "sz") => `(tactic| first | omega | ((try simp only [List.length_cons, List.length_nil] at *); omega))
/-! a straight piece of a law's generator: draws, slices, sums, ifs -/
local macro_rules | `(tactic| walk_at "au1") => `(tactic| first
  | walk_at "rd1"
  | ((with_reducible refine' r_draw ?k0 ?k1 ?k2 ?_); (case k0 => walk_at "pl"); (case k1 => omega); (case k2 => omega); (intro _ _ _ _ _ _))
  | ((with_reducible refine' r_slN ?k0 ?_); (case k0 => walk_at "it"); (intro _ _ _ _ _ _))
  | ((with_reducible refine' r_catN ?k0 ?k1 ?k2 ?_); (case k0 => walk_at "it"); (case k1 => walk_at "it"); (case k2 => walk_at "sz"); (intro _ _ _ _ _ _))
  | ((with_reducible refine' r_pow ?k0 ?_); (case k0 => exact ⟨by decide, by decide, by decide⟩))
  | ((with_reducible refine' r_ixI ?k0 ?k1 ?k2 ?_); (case k0 => walk_at "it"); (case k1 => omega); (case k2 => omega); (intro _ _))
  | ((with_reducible refine' r_setI ?k0 ?k1 ?k2 ?_); (case k0 => walk_at "tk"); (case k1 => omega); (case k2 => omega); (intro _ _ _ _ _))
  | ((with_reducible refine' r_kTupI ?k0 ?_); (case k0 => walk_at "tk"); (intro _ _ _ _ _))
  | ((with_reducible refine' r_listI ?k0 ?_); (case k0 => walk_at "it"); (intro _ _ _ _ _))
  | (with_reducible refine r_revU ?_)
  | ((with_reducible refine' r_prevN ?k0 ?_); (case k0 => walk_at "it"); (intro _ _ _ _ _ _))
  | (intro _ _ _ _ _))
local macro_rules | `(tactic| walk_at "go") => `(tactic| ((repeat (walk_at "au1")); (first
  | ((with_reducible refine r_ite (fun _ => ?_) (fun _ => ?_)) <;> (walk_at "go"))
  | ((with_reducible refine r_iteN (fun _ => ?_) (fun _ => ?_)) <;> (walk_at "go"))
  | dsimp only
  | skip)))

local macro_rules | `(tactic| walk_at "au1") => `(tactic| first
  | with_reducible refine r_revS ?_
  | ((with_reducible refine' r_prevSN ?k0 ?_); (case k0 => walk_at "sz"); (intro _ _))
  | ((with_reducible refine' r_slSN ?k0 ?_); (case k0 => walk_at "sz"); (intro _ _))
  | ((with_reducible refine' r_catSN ?k0 ?_); (case k0 => walk_at "sz"); (intro _ _))
  | ((with_reducible refine' r_lenSS ?k0 ?_); (case k0 => walk_at "sz")))

def sp_law_sign (K : PySem.W.Frag) : Sp := fun vs H Q _ => ∃ (p : Addr), vs = [.ref p] ∧ Pl H p ∧ ∀ c H', But p H H' → Pl H' p → Q (.str (S [c])) H'
def sp_law_text (K : PySem.W.Frag) : Sp := fun vs H Q _ => ∃ (p : Addr) (n : Nat), vs = [.ref p, .int (n : Int)] ∧ Pl H p ∧ 1 ≤ n ∧ n ≤ 12 ∧ ∀ l H', But p H H' → Pl H' p → l.length ≤ 5000 → Q (.str (S l)) H'
def sp_law_bent_text (K : PySem.W.Frag) : Sp := fun vs H Q _ => ∃ (p : Addr) (l : List Nat), vs = [.ref p, .str (S l)] ∧ Pl H p ∧ l.length ≤ 5000 ∧ ∀ m H', But p H H' → Pl H' p → m.length ≤ 20000 → Q (.str (S m)) H'
abbrev N_law_sign : List Str := ["pool", "signs"]
def t_law_sign (K : PySem.W.Frag) : TS :=
  tSeq (tIfS ((tTest (tOp (rEqU K) ((tCall (sp_law_draw K) [] E0 (tCons (tVar 0) (tCons ((tC (.int 2))) tNil)))) ((tC (.int 0)))))) ((tRet ((tOp (rIx K) ((tC (.str "x.1234567890ET&,e "))) ((tCall (sp_law_draw K) [] E0 (tCons (tVar 0) (tCons ((tC (.int 18))) tNil)))))))) (tNext))
  (tSeq (tAsg ((tC (.str " !\"#$&'()*+,-./0123456789:;<=>?@ABCDEFGHIJKLMNOPQRSTUVWXYZ[\\]^_`"))) (gName 1))
  (tSeq (tAsg ((tOp (rAddU K) (tVar 1) ((tC (.str "abcdefghijklmnopqrstuvwxyz{|}~"))))) (gName 1))
  ((tRet ((tOp (rIx K) (tVar 1) ((tCall (sp_law_draw K) [] E0 (tCons (tVar 0) (tCons ((tC (.int 94))) tNil))))))))))

abbrev N_law_text : List Str := ["pool", "stage", "way", "size", "change", "k", "place"]
def t_law_text (K : PySem.W.Frag) : TS :=
  tSeq (tAsg ((tCall (sp_law_draw K) [] E0 (tCons (tVar 0) (tCons ((tC (.int 6))) tNil)))) (gName 2))
  (tSeq (tIfS ((tTest (tOp (rEqU K) (tVar 2) ((tC (.int 0)))))) ((tRet ((tBM K "str" (rJoin K) ((tC (.str ""))) (tCons ((tLc ((iRng1 (tCons ((tCall (sp_law_draw K) [] E0 (tCons (tVar 0) (tCons ((tC (.int 9))) tNil)))) tNil))) ((gName 5)) (tYes) ((tOp (rIx K) ((tC (.str "x.1234567890ET&,e "))) ((tCall (sp_law_draw K) [] E0 (tCons (tVar 0) (tCons ((tC (.int 18))) tNil)))))) [5])) tNil))))) (tNext))
  (tSeq (tIfS ((tTest (tOp (rEqU K) (tVar 2) ((tC (.int 1)))))) (tSeq (tAsg ((tCall (sp_law_draw K) [] E0 (tCons (tVar 0) (tCons ((tC (.int 15))) tNil)))) (gName 3))
  (tSeq (tIfS ((tTest (tOp (rEqU K) ((tCall (sp_law_draw K) [] E0 (tCons (tVar 0) (tCons ((tC (.int 8))) tNil)))) ((tC (.int 0)))))) ((tAsg ((tCall (sp_law_draw K) [] E0 (tCons (tVar 0) (tCons ((tC (.int 5000))) tNil)))) (gName 3))) (tNext))
  ((tRet ((tBM K "str" (rJoin K) ((tC (.str ""))) (tCons ((tLc ((iRng1 (tCons (tVar 3) tNil))) ((gName 5)) (tYes) ((tCall (sp_law_sign K) [] E0 (tCons (tVar 0) tNil))) [5])) tNil))))))) (tNext))
  (tSeq (tAsg ((tCall (sp_law_change_draw K) [] E0 (tCons (tVar 0) (tCons (tVar 1) tNil)))) (gName 4))
  (tSeq (tIfS ((tTest (tOp (rEqU K) ((tCB (rLenU K) (tCons (tVar 4) tNil))) ((tC (.int 0)))))) ((tRet ((tC (.str "x"))))) (tNext))
  ((tRet ((tBM K "str" (rJoin K) ((tC (.str ""))) (tCons ((tLc ((iSeqU K (tVar 4))) ((gName 6)) ((tTest (tOp rGtU ((tCall (sp_law_draw K) [] E0 (tCons (tVar 0) (tCons ((tC (.int 4))) tNil)))) ((tC (.int 0)))))) ((tOp (rIx K) ((tC (.str "1234567890ET"))) ((tOp rSubU (tVar 6) ((tC (.int 1))))))) [6])) tNil)))))))))

abbrev N_law_bent_text : List Str := ["pool", "text", "at", "to", "sign", "way"]
def t_law_bent_text (K : PySem.W.Frag) : TS :=
  tSeq (tAsg ((tCall (sp_law_draw K) [] E0 (tCons (tVar 0) (tCons ((tOp (rAddU K) ((tCB (rLenU K) (tCons (tVar 1) tNil))) ((tC (.int 1))))) tNil)))) (gName 2))
  (tSeq (tAsg ((tCall (sp_law_draw K) [] E0 (tCons (tVar 0) (tCons ((tOp (rAddU K) ((tCB (rLenU K) (tCons (tVar 1) tNil))) ((tC (.int 1))))) tNil)))) (gName 3))
  (tSeq (tAsg ((tCall (sp_law_sign K) [] E0 (tCons (tVar 0) tNil))) (gName 4))
  (tSeq (tAsg ((tCall (sp_law_draw K) [] E0 (tCons (tVar 0) (tCons ((tC (.int 10))) tNil)))) (gName 5))
  (tSeq (tIfS ((tTest (tOp (rEqU K) (tVar 5) ((tC (.int 0)))))) ((tRet ((tOp (rAddU K) ((tSl (rSlU K) (tVar 1) tNoPart (tPart (tVar 2)))) ((tSl (rSlU K) (tVar 1) (tPart ((tOp (rAddU K) (tVar 2) ((tC (.int 1)))))) tNoPart)))))) (tNext))
  (tSeq (tIfS ((tTest (tOp (rEqU K) (tVar 5) ((tC (.int 1)))))) ((tRet ((tOp (rAddU K) ((tOp (rAddU K) ((tSl (rSlU K) (tVar 1) tNoPart (tPart (tVar 2)))) (tVar 4))) ((tSl (rSlU K) (tVar 1) (tPart (tVar 2)) tNoPart)))))) (tNext))
  (tSeq (tIfS ((tTest (tOp (rEqU K) (tVar 5) ((tC (.int 2)))))) ((tRet ((tOp (rAddU K) ((tOp (rAddU K) ((tSl (rSlU K) (tVar 1) tNoPart (tPart (tVar 2)))) (tVar 4))) ((tSl (rSlU K) (tVar 1) (tPart ((tOp (rAddU K) (tVar 2) ((tC (.int 1)))))) tNoPart)))))) (tNext))
  (tSeq (tIfS ((tTest (tOp (rEqU K) (tVar 5) ((tC (.int 3)))))) ((tRet ((tOp (rAddU K) (tVar 1) (tVar 4))))) (tNext))
  (tSeq (tIfS ((tTest (tOp (rEqU K) (tVar 5) ((tC (.int 4)))))) ((tRet ((tOp (rAddU K) (tVar 4) (tVar 1))))) (tNext))
  (tSeq (tIfS ((tTest (tOp (rEqU K) (tVar 5) ((tC (.int 5)))))) ((tRet ((tSl (rSlU K) ((tOp (rAddU K) ((tSl (rSlU K) (tVar 1) tNoPart (tPart (tVar 2)))) ((tSl (rSlU K) (tVar 1) (tPart (tVar 3)) tNoPart)))) tNoPart (tPart ((tC (.int 5000)))))))) (tNext))
  (tSeq (tIfS ((tTest (tOp (rEqU K) (tVar 5) ((tC (.int 6)))))) ((tRet ((tRevS (tVar 1) (tPart ((tUn (rU fun i => .int (-i)) ((tC (.int 1)))))))))) (tNext))
  ((tRet (tVar 1)))))))))))))


section
variable {K : PySem.W.Frag} {ec : Str → Addr} {vs : List V} {H : Hp} {Q : VK} {E : XK}
theorem len_law_sign (h : sp_law_sign K vs H Q E) : vs.length = 1 := by obtain ⟨s, rfl, _⟩ := h; rfl
theorem len_law_text (h : sp_law_text K vs H Q E) : vs.length = 2 := by obtain ⟨s, d, rfl, _⟩ := h; rfl
theorem len_law_bent_text (h : sp_law_bent_text K vs H Q E) : vs.length = 2 := by obtain ⟨s, d, rfl, _⟩ := h; rfl
theorem pure_law_sign (h : sp_law_sign K vs H Q E) : t_law_sign K (En Q) (start N_law_sign vs) H := by
  obtain ⟨p, rfl, hp, q⟩ := h
  unfold t_law_sign
  walk_at "rd"
  refine r_draw hp (by omega) (by omega) fun v H1 v0 v1 b1 p1 => ?_
  walk_at "rd"
  refine r_ite (fun h0 => ?_) (fun h0 => ?_)
  · walk_at "rd"
    refine r_draw p1 (by omega) (by omega) fun u H2 u0 u1 b2 p2 => ?_
    refine r_ixC (k := 18) (by decide) (by decide) u0 u1 fun c => ?_
    exact q c H2 (b1.trans b2) p2
  · walk_at "rd"
    refine r_addS (by rw [sizeLine_eq]; decide) ?_
    walk_at "rd"
    refine r_draw p1 (by omega) (by omega) fun u H2 u0 u1 b2 p2 => ?_
    refine r_ixC (k := 94) (by decide) (by decide) u0 u1 fun c => ?_
    exact q c H2 (b1.trans b2) p2
theorem x_S : ("x" : Str) = S [120] := by decide
theorem pure_law_text (h : sp_law_text K vs H Q E) : t_law_text K (En Q) (start N_law_text vs) H := by
  obtain ⟨p, n, rfl, hp, h1, h2, q⟩ := h
  unfold t_law_text
  walk_at "rd"
  refine r_draw hp (by omega) (by omega) fun way H1 w0 w1 b1 p1 => ?_
  walk_at "rd"
  refine r_ite (fun h0 => ?_) (fun h0 => ?_)
  · walk_at "rd"
    refine r_draw p1 (by omega) (by omega) fun u H2 u0 u1 b2 p2 => ?_
    walk_at "rd"
    refine r_lcDrS p2 (by omega) (fun x H3 Q' b3 p3 k => ?_) fun t H3 ms nt b3 p3 e3 hl => ?_
    · walk_at "rd"
      refine r_draw p3 (by omega) (by omega) fun w H4 w0 w1 b4 p4 => ?_
      refine r_ixC (k := 18) (by decide) (by decide) w0 w1 fun c => ?_
      exact k c H4 b4 p4
    · walk_at "rd"
      refine join_ones e3 (by omega) ?_
      exact q ms H3 (by walk_at "but") p3 (by omega)
  walk_at "rd"
  refine r_ite (fun h3 => ?_) (fun h3 => ?_)
  · have fin : ∀ (size : Int) (H4 : Hp), 0 ≤ size → size < 5000 → But p H H4 → Pl H4 p → (tRet ((tBM K "str" (rJoin K) ((tC (.str ""))) (tCons ((tLc ((iRng1 (tCons (tVar 3) tNil))) ((gName 5)) (tYes) ((tCall (sp_law_sign K) [] E0 (tCons (tVar 0) tNil))) [5])) tNil)))) (En Q) [some (.ref p), some (.int (n : Int)), some (.int way), some (.int size), none, none, none] H4 := fun size H4 s0 s1 b4 p4 => by
      walk_at "rd"
      refine r_lcDrS p4 (by omega) (fun x H5 Q' b5 p5 k => ?_) fun t H5 ms nt b5 p5 e5 hl => ?_
      · walk_at "rd"
        exact ⟨p, rfl, p5, fun c H6 b6 p6 => k c H6 b6 p6⟩
      · walk_at "rd"
        refine join_ones e5 (by omega) ?_
        exact q ms H5 (b4.trans b5) p5 (by omega)
    walk_at "rd"
    refine r_draw p1 (by omega) (by omega) fun u H2 u0 u1 b2 p2 => ?_
    walk_at "rd"
    refine r_draw p2 (by omega) (by omega) fun w H3 w2 w3 b3 p3 => ?_
    walk_at "rd"
    refine r_ite (fun h4 => ?_) (fun h4 => ?_)
    · walk_at "rd"
      refine r_draw p3 (by omega) (by omega) fun z H4 z0 z1 b4 p4 => ?_
      refine r_name ?_
      exact fin z H4 z0 z1 (by walk_at "but") p4
    · refine r_next ?_
      exact fin u H3 u0 (by omega) (by walk_at "but") p3
  walk_at "rd"
  refine ⟨p, n, rfl, p1, h1, h2, fun a H2 cs na b2 p2 e2 hc => ?_⟩
  have cl := hc.len (by omega)
  walk_at "rd"
  refine r_ite (fun h4 => ?_) (fun h4 => ?_)
  · walk_at "rd"
    rw [x_S]
    exact q [120] H2 (by walk_at "but") p2 (by decide)
  walk_at "rd"
  refine r_lcT (xs := cs.map V.int) (fun D i H' => H2 D = none ∧ D ≠ p ∧ But p H2 H' ∧ Pl H' p ∧ SqT K H' a (cs.map V.int) ∧ ∃ ms : List Nat, H' D = some (.lst (ms.map fun c => V.str (S [c]))) ∧ ms.length ≤ i)
    (fun _ => rfl) (fun D H' hD s e => ⟨hD, ne_pl hD p2, Same.but s, pl_same s p2, sqT_same s e2, [], e, Nat.le_refl _⟩) (fun D i H' P => P.2.2.2.2.1) (fun D i x H' hi P => ?_) (fun D H' hD P => ?_)
  · obtain ⟨nD, dp, b, hp', ha', ms, e, hl⟩ := P
    have hil := (List.getElem?_eq_some_iff.mp hi).1
    rw [List.length_map] at hil
    rw [List.getElem?_map] at hi
    obtain ⟨y, hy, rfl⟩ := Option.map_eq_some_iff.mp hi
    have hy2 := hc.mem y (List.mem_of_getElem? hy)
    walk_at "rd"
    refine r_draw hp' (by omega) (by omega) fun w H3 w2 w3 b3 p3 => ?_
    walk_at "rd"
    refine r_ite (fun h5 => ?_) (fun h5 => ?_)
    · refine elt_sign (x := y) rfl hy2.1 (by omega) ?_
      have e3 := b3 _ _ dp e
      refine r_acc e3 (by rw [List.length_map]; omega) fun H5 b5 e5 => ⟨nD, dp, but_via (b.trans b3) b5 nD, pl_butL b5 dp.symm p3, sqT_but b5 e3 (sqT_pl b3 hp' ha'), ms ++ [sgAt y], by rw [e5, List.map_append]; rfl, by rw [List.length_append]; simp; omega⟩
    · exact ⟨nD, dp, b.trans b3, p3, sqT_pl b3 hp' ha', ms, b3 _ _ dp e, by omega⟩
  · obtain ⟨nD, dp, b, hp', ha', ms, e, hl⟩ := P
    rw [List.length_map] at hl
    walk_at "rd"
    refine join_ones e (by omega) ?_
    exact q ms H' ((b1.trans b2).trans b) hp' (by omega)
theorem pure_law_bent_text (h : sp_law_bent_text K vs H Q E) : t_law_bent_text K (En Q) (start N_law_bent_text vs) H := by
  obtain ⟨p, l, rfl, hp, hl, q⟩ := h
  unfold t_law_bent_text
  walk_at "rd"
  refine r_lenSS (by omega) ?_
  walk_at "rd"
  refine r_draw hp (by omega) (by omega) fun v1 H1 a0 a1 b1 p1 => ?_
  walk_at "rd"
  refine r_lenSS (by omega) ?_
  walk_at "rd"
  refine r_draw p1 (by omega) (by omega) fun v2 H2 c0 c1 b2 p2 => ?_
  walk_at "rd"
  refine ⟨p, rfl, p2, fun c H3 b3 p3 => ?_⟩
  refine r_name ?_
  walk_at "go"
  all_goals exact q _ _ (by walk_at "but") (by walk_at "pl") (by walk_at "sz")
end
end Kb

set_option Elab.async false
set_option linter.all false
set_option maxRecDepth 100000
set_option maxHeartbeats 4000000
/-! the law's own reading of texts of changes -/
namespace Kb
open PySem PySem.Spec PyProof.Rows L2 SX
/-! the tactics: rd walks a reading; tk closes a fact about a heap from those ahead of it -/
local macro_rules | `(tactic| walk_at "tk") => `(tactic| first
  | assumption
  | ((with_reducible refine' sqT_of ?k); (case k => assumption))
  | ((with_reducible refine' sqT_ofD ?k); (case k => assumption))
  | ((with_reducible refine' noD_of ?k); (case k => assumption))
  | ((with_reducible refine' noD_same ?s ?k); (case s => assumption); (case k => walk_at "tk"))
  | ((with_reducible refine' sqL_of ?k); (case k => assumption))
  | ((with_reducible refine' sqT_same ?s ?k); (case s => assumption); (case k => walk_at "tk"))
  | ((with_reducible refine' sqL_same ?s ?k); (case s => assumption); (case k => walk_at "tk"))
  | ((with_reducible refine' sqT_but ?s ?t ?k); (case s => assumption); (case t => walk_at "tk"); (case k => walk_at "tk"))
  | ((with_reducible refine' sqL_but ?s ?t ?k); (case s => assumption); (case t => walk_at "ne"); (case k => walk_at "tk"))
  | ((with_reducible refine' sqL_of ?k); (case k => walk_at "tk"))
  | ((with_reducible refine' sqT_of ?k); (case k => walk_at "tk"))
  | ((with_reducible refine' at_same ?s ?k); (case s => assumption); (case k => walk_at "tk"))
  | ((with_reducible refine' at_but ?s ?t ?k); (case s => assumption); (case t => walk_at "ne"); (case k => walk_at "tk")))
local macro_rules | `(tactic| walk_at "ne") => `(tactic| first
  | assumption
  | (refine Ne.symm ?_; assumption)
  | exact ne_of_none (by assumption) (by assumption)
  | exact (ne_of_none (by assumption) (by assumption)).symm)
local macro_rules | `(tactic| walk_at "side") => `(tactic| first
  | assumption
  | omega
  | (simp only [sizeLine_eq, List.length_cons, List.length_nil, List.length_map]; omega)
  | (show _ ≤ sizeLine; decide))
local macro_rules | `(tactic| walk_at "kit") => `(tactic| first
  | (show kitB _ _ = some true; decide +kernel)
  | (show kitB _ _ = some false; decide +kernel))
local macro_rules | `(tactic| walk_at "rng") => `(tactic| first
  | (refine ⟨by omega, by omega, by omega, by omega⟩)
  | (refine ⟨by omega, by omega⟩)
  | ((simp only [List.length_map]); (refine ⟨by omega, by omega, by omega, by omega⟩))
  | ((simp only [List.length_map]); (refine ⟨by omega, by omega⟩)))
local macro_rules | `(tactic| walk_at "rd1") => `(tactic| first
  | with_reducible refine r_seq ?_
  | ((with_reducible refine' r_var ?k0 ?_); (case k0 => rfl))
  | with_reducible refine r_op ?_
  | with_reducible refine r_c ?_
  | with_reducible refine r_asg ?_
  | with_reducible refine r_name ?_
  | with_reducible refine r_cons ?_
  | with_reducible refine r_nil ?_
  | with_reducible refine r_CB ?_
  | with_reducible refine r_if ?_
  | with_reducible refine r_test ?_
  | with_reducible refine r_k ?_
  | with_reducible refine r_T ?_
  | with_reducible refine r_F ?_
  | with_reducible refine r_nT ?_
  | with_reducible refine r_nF ?_
  | with_reducible refine r_ret ?_
  | with_reducible refine r_drop ?_
  | with_reducible refine r_next ?_
  | with_reducible refine r_call ?_
  | with_reducible refine r_addI ?_
  | with_reducible refine r_subI ?_
  | with_reducible refine r_ltI ?_
  | with_reducible refine r_gtI ?_
  | with_reducible refine r_leI ?_
  | with_reducible refine r_geI ?_
  | with_reducible refine r_eqI ?_
  | with_reducible refine r_neI ?_
  | with_reducible refine r_int ?_
  | with_reducible refine r_abs ?_
  | with_reducible refine r_not ?_
  | with_reducible refine r_and ?_
  | with_reducible refine r_or ?_
  | with_reducible refine r_tru ?_
  | with_reducible refine r_truB ?_
  | with_reducible refine r_lst ?_
  | with_reducible refine r_tup ?_
  | with_reducible refine r_BM ?_
  | with_reducible refine r_BM0 ?_
  | with_reducible refine r_tyS ?_
  | with_reducible refine r_gsub ?_
  | with_reducible refine r_then ?_
  | with_reducible refine r_lstRg ?_
  | with_reducible refine r_tupRg ?_
  | with_reducible refine r_rg2 ?_
  | with_reducible refine r_rg1 ?_
  | with_reducible refine r_ii ?_
  | with_reducible refine r_i ?_
  | with_reducible refine r_ipI ?_
  | with_reducible refine r_un ?_
  | with_reducible refine r_neg ?_
  | with_reducible refine r_isN ?_
  | with_reducible refine r_notN ?_
  | with_reducible refine r_notV ?_
  | with_reducible refine r_pnot ?_
  | with_reducible refine r_pif ?_
  | with_reducible refine r_andV ?_
  | with_reducible refine r_orV ?_
  | with_reducible refine r_ifE ?_
  | with_reducible refine r_chain ?_
  | with_reducible refine r_sl ?_
  | with_reducible refine r_noPart ?_
  | with_reducible refine r_part ?_
  | with_reducible refine r_brk ?_
  | with_reducible refine r_cont ?_
  | with_reducible refine r_retN ?_
  | with_reducible refine r_truI ?_
  | with_reducible refine r_B ?_
  | with_reducible refine r_for ?_
  | with_reducible refine r_rng1 ?_
  | with_reducible refine r_rng2 ?_
  | with_reducible refine r_rng3 ?_
  | with_reducible refine r_body ?_
  | with_reducible refine r_lc ?_
  | with_reducible refine r_yes ?_
  | ((with_reducible refine' r_mod ?k0 ?_); (case k0 => walk_at "side"))
  | ((with_reducible refine' r_mulI ?k0 ?_); (case k0 => first | exact Or.inl ⟨by omega, by omega⟩ | exact Or.inr ⟨by omega, by omega⟩))
  | ((with_reducible refine' r_lenL ?k0 ?_); (case k0 => walk_at "tk"))
  | ((with_reducible refine' r_lenT ?k0 ?_); (case k0 => walk_at "tk"))
  | ((with_reducible refine' r_truL ?k0 ?_); (case k0 => walk_at "tk"))
  | ((with_reducible refine' r_truT ?k0 ?_); (case k0 => walk_at "tk"))
  | ((with_reducible refine' r_ixL ?k0 ?k1 ?_); (case k0 => walk_at "tk"); (case k1 => first | assumption | rfl))
  | ((with_reducible refine' r_ixT ?k0 ?k1 ?_); (case k0 => walk_at "tk"); (case k1 => first | assumption | rfl))
  | ((with_reducible refine' r_new ?k0 ?_); (case k0 => walk_at "side"))
  | ((with_reducible refine' r_tyL ?k0 ?_); (case k0 => walk_at "tk"))
  | ((with_reducible refine' r_append ?k0 ?k1 ?_); (case k0 => walk_at "tk"); (case k1 => walk_at "side"))
  | ((with_reducible refine' r_setL ?k0 ?k1 ?_); (case k0 => walk_at "tk"); (case k1 => first | assumption | rfl))
  | ((with_reducible refine' r_kTupL ?k0 ?_); (case k0 => walk_at "tk"))
  | ((with_reducible refine' r_kTupT ?k0 ?_); (case k0 => walk_at "tk"))
  | ((with_reducible refine' r_listL ?k0 ?_); (case k0 => walk_at "tk"))
  | ((with_reducible refine' r_listT ?k0 ?_); (case k0 => walk_at "tk"))
  | ((with_reducible refine' r_aug ?k0 ?_); (case k0 => rfl))
  | ((with_reducible refine' r_lenS ?k0 ?_); (case k0 => walk_at "side"))
  | ((with_reducible refine' r_pop ?k0 ?_); (case k0 => walk_at "tk"))
  | ((with_reducible refine' r_pr1 ?k0 ?_); (case k0 => walk_at "rng"))
  | ((with_reducible refine' r_pr2 ?k0 ?_); (case k0 => walk_at "rng"))
  | ((with_reducible refine' r_pr3d ?k0 ?_); (case k0 => walk_at "rng"))
  | ((with_reducible refine' r_isiI ?k0 ?_); (case k0 => walk_at "kit"))
  | ((with_reducible refine' r_isiB ?k0 ?_); (case k0 => walk_at "kit"))
  | ((with_reducible refine' r_isiS ?k0 ?_); (case k0 => walk_at "kit"))
  | ((with_reducible refine' r_isiN ?k0 ?_); (case k0 => walk_at "kit"))
  | ((with_reducible refine' r_isiT ?k0 ?k1 ?_); (case k0 => walk_at "tk"); (case k1 => walk_at "kit"))
  | ((with_reducible refine r_seqT ?_); (repeat (walk_at "rd1")); ((with_reducible refine' r_pseqT ?k0 ?_); (case k0 => walk_at "tk")))
  | ((with_reducible refine r_seqL ?_); (repeat (walk_at "rd1")); ((with_reducible refine' r_pseqL ?k0 ?_); (case k0 => walk_at "tk")))
  | ((with_reducible refine r_seqS ?_); (repeat (walk_at "rd1")); (with_reducible refine r_pseqS ?_)))
local macro_rules | `(tactic| walk_at "rd") => `(tactic| ((repeat (walk_at "rd1")); (try dsimp only)))

local macro_rules | `(tactic| walk_at "rd1") => `(tactic| first
  | with_reducible refine r_BMT ?_
  | with_reducible refine r_par ?_
  | with_reducible refine r_parV ?_
  | ((with_reducible refine' r_ptp ?k0 ?k1 ?_); (case k0 => walk_at "tk"); (case k1 => walk_at "tk"))
  | with_reducible refine r_eqS ?_
  | with_reducible refine r_neS ?_
  | with_reducible refine r_callW ?_
  | with_reducible refine r_try ?_
  | with_reducible refine r_enT ?_
  | ((with_reducible refine' r_pen ?k0 ?_); (case k0 => walk_at "tk")))

local macro_rules | `(tactic| walk_at "pl0") => `(tactic| first
  | assumption
  | exact pl_same (by assumption) (by assumption)
  | exact pl_same (by assumption) (pl_same (by assumption) (by assumption))
  | exact pl_same (by assumption) (pl_same (by assumption) (pl_same (by assumption) (by assumption))))
local macro_rules | `(tactic| walk_at "pl") => `(tactic| first
  | walk_at "pl0"
  | ((with_reducible refine' pl_butL ?s ?n ?k); (case s => assumption); (case n => walk_at "ne"); (case k => walk_at "pl"))
  | ((with_reducible refine' pl_same ?s ?k); (case s => assumption); (case k => walk_at "pl")))
local macro_rules | `(tactic| walk_at "ne") => `(tactic| first
  | exact ne_pl (by assumption) (by walk_at "pl0")
  | exact (ne_pl (by assumption) (by walk_at "pl0")).symm)
local macro_rules | `(tactic| walk_at "fr") => `(tactic| first
  | assumption
  | ((with_reducible refine' free_but ?b ?n ?h); (case h => assumption); (case n => walk_at "ne"); (case b => walk_at "but"))
  | ((with_reducible refine' Same.free ?b ?h); (case h => assumption); (case b => walk_at "same")))
local macro_rules | `(tactic| walk_at "but") => `(tactic| first
  | assumption
  | exact But.refl
  | ((with_reducible refine' But.trans ?a ?b); (case b => assumption); (case a => walk_at "but"))
  | ((with_reducible refine' But.trans ?a (Same.but ?b)); (case b => assumption); (case a => walk_at "but"))
  | ((with_reducible refine' but_via ?a ?b ?c); (case b => assumption); (case c => walk_at "fr"); (case a => walk_at "but")))
local macro_rules | `(tactic| walk_at "same") => `(tactic| first
  | assumption
  | exact Same.refl _
  | ((with_reducible refine' Same.trans ?a ?b); (case b => assumption); (case a => walk_at "same"))
  | ((with_reducible refine' same_but ?a ?b ?c); (case b => assumption); (case c => walk_at "fr"); (case a => walk_at "same")))
local macro_rules | `(tactic| walk_at "tk") => `(tactic| first
  | ((with_reducible refine' sqT_pl ?s ?t ?k); (case s => assumption); (case t => walk_at "pl0"); (case k => walk_at "tk"))
  | ((with_reducible refine' rp_same ?s ?k); (case s => assumption); (case k => walk_at "tk"))
  | ((with_reducible refine' rp_pl ?s ?t ?k); (case s => assumption); (case t => walk_at "pl0"); (case k => walk_at "tk")))
local macro_rules | `(tactic| walk_at "it") => `(tactic| first
  | assumption
  | ((with_reducible refine' sqI_1 ?k); (case k => assumption))
  | ((with_reducible refine' sqI_0 ?k); (case k => assumption))
  | ((with_reducible refine' sqI_of ?k); (case k => assumption))
  | ((with_reducible refine' sqI_D ?k); (case k => assumption))
  | ((with_reducible refine' sqT_same ?s ?k); (case s => assumption); (case k => walk_at "it"))
  | ((with_reducible refine' sqT_but ?s ?t ?k); (case s => assumption); (case t => assumption); (case k => walk_at "it"))
  | ((with_reducible refine' sqT_pl ?s ?t ?k); (case s => assumption); (case t => walk_at "pl0"); (case k => walk_at "it")))
local macro_rules | `(tactic| walk_at "sz") => `(tactic| first | omega | ((try simp only [List.length_cons, List.length_nil] at *); omega))
/-! a straight piece of a law's generator: draws, slices, sums, ifs -/
local macro_rules | `(tactic| walk_at "au1") => `(tactic| first
  | walk_at "rd1"
  | ((with_reducible refine' r_draw ?k0 ?k1 ?k2 ?_); (case k0 => walk_at "pl"); (case k1 => omega); (case k2 => omega); (intro _ _ _ _ _ _))
  | ((with_reducible refine' r_slN ?k0 ?_); (case k0 => walk_at "it"); (intro _ _ _ _ _ _))
  | ((with_reducible refine' r_catN ?k0 ?k1 ?k2 ?_); (case k0 => walk_at "it"); (case k1 => walk_at "it"); (case k2 => walk_at "sz"); (intro _ _ _ _ _ _))
  | ((with_reducible refine' r_pow ?k0 ?_); (case k0 => exact ⟨by decide, by decide, by decide⟩))
  | ((with_reducible refine' r_ixI ?k0 ?k1 ?k2 ?_); (case k0 => walk_at "it"); (case k1 => omega); (case k2 => omega); (intro _ _))
  | ((with_reducible refine' r_setI ?k0 ?k1 ?k2 ?_); (case k0 => walk_at "tk"); (case k1 => omega); (case k2 => omega); (intro _ _ _ _ _))
  | ((with_reducible refine' r_kTupI ?k0 ?_); (case k0 => walk_at "tk"); (intro _ _ _ _ _))
  | ((with_reducible refine' r_listI ?k0 ?_); (case k0 => walk_at "it"); (intro _ _ _ _ _))
  | (with_reducible refine r_revU ?_)
  | ((with_reducible refine' r_prevN ?k0 ?_); (case k0 => walk_at "it"); (intro _ _ _ _ _ _))
  | (intro _ _ _ _ _))
local macro_rules | `(tactic| walk_at "go") => `(tactic| ((repeat (walk_at "au1")); (first
  | ((with_reducible refine r_ite (fun _ => ?_) (fun _ => ?_)) <;> (walk_at "go"))
  | ((with_reducible refine r_iteN (fun _ => ?_) (fun _ => ?_)) <;> (walk_at "go"))
  | dsimp only
  | skip)))

local macro_rules | `(tactic| walk_at "au1") => `(tactic| first
  | with_reducible refine r_revS ?_
  | ((with_reducible refine' r_prevSN ?k0 ?_); (case k0 => walk_at "sz"); (intro _ _))
  | ((with_reducible refine' r_slSN ?k0 ?_); (case k0 => walk_at "sz"); (intro _ _))
  | ((with_reducible refine' r_catSN ?k0 ?_); (case k0 => walk_at "sz"); (intro _ _))
  | ((with_reducible refine' r_lenSS ?k0 ?_); (case k0 => walk_at "sz")))

def pF (c : Nat) : Int := fnd signsL c + 1
def okS (n last : Int) (c : Nat) : Bool := decide (1 ≤ pF c) && (decide (pF c ≤ n) && (decide (last < pF c) && !(decide (0 < last) && decide ((pF c - last - 1) % 2 = 1))))
def valL (n last : Int) : List Nat → Bool
  | [] => true
  | c :: r => okS n last c && valL n (pF c) r
def lastP (last : Int) : List Nat → Int
  | [] => last
  | c :: r => lastP (pF c) r
theorem lastP_snoc (c : Nat) : ∀ (l : List Nat) (last : Int), lastP last (l ++ [c]) = pF c
  | [], _ => rfl
  | d :: r, _ => lastP_snoc c r (pF d)
theorem valL_snoc (n : Int) (c : Nat) : ∀ (l : List Nat) (last : Int), valL n last (l ++ [c]) = (valL n last l && okS n (lastP last l) c)
  | [], last => by simp [valL, lastP]
  | d :: r, last => by
    have := valL_snoc n c r (pF d)
    simp only [List.cons_append, valL, lastP]
    rw [this, Bool.and_assoc]
theorem fnd_ge (l : List Nat) (c : Nat) : -1 ≤ fnd l c := by
  unfold fnd
  split <;> omega
theorem plC_pF (n : Int) (c : Nat) : plC n c = if pF c > n then 0 else pF c := rfl
theorem okS_bad {n : Int} (hn : 0 ≤ n) {l : List Nat} {k : Nat} (hk : k < l.length) (hg : ∀ j, j < k → badC n l j = false) : okS n (lastP 0 (l.take k)) (l.getD k 0) = !badC n l k := by
  have g0 : ∀ c, 0 ≤ pF c := fun c => by have := fnd_ge signsL c; unfold pF; omega
  have gc := g0 (l.getD k 0)
  cases k with
  | zero =>
    have e0 : lastP 0 (l.take 0) = 0 := rfl
    rw [e0]
    unfold okS badC
    rw [plC_pF]
    generalize pF (l.getD 0 0) = p at gc ⊢
    rw [decide_eq_false (show ¬ (0 : Int) < 0 by omega), decide_eq_false (show ¬ (0 : Nat) < 0 by omega)]
    by_cases h : p > n
    · rw [if_pos h, decide_eq_false (show ¬ p ≤ n by omega)]; simp
    · rw [if_neg h, decide_eq_true (show p ≤ n by omega)]
      by_cases h2 : p = 0
      · subst h2; simp
      · rw [decide_eq_true (show 1 ≤ p by omega), decide_eq_true (show 0 < p by omega), decide_eq_false h2]; simp
  | succ j =>
    have hj : j < l.length := by omega
    have hb := hg j (by omega)
    have eL : lastP 0 (l.take (j + 1)) = pF (l.getD j 0) := by
      rw [List.take_add_one, List.getElem?_eq_getElem hj, List.getD_eq_getElem?_getD, List.getElem?_eq_getElem hj]
      exact lastP_snoc _ _ _
    have gl := g0 (l.getD j 0)
    have hl : pF (l.getD j 0) ≤ n ∧ 1 ≤ pF (l.getD j 0) := by
      unfold badC at hb
      rw [Bool.or_eq_false_iff] at hb
      have := of_decide_eq_false hb.1
      rw [plC_pF] at this
      by_cases h : pF (l.getD j 0) > n
      · rw [if_pos h] at this; exact absurd rfl this
      · rw [if_neg h] at this; omega
    rw [eL]
    unfold okS badC folC
    rw [plC_pF, plC_pF, Nat.add_sub_cancel, if_neg (show ¬ pF (l.getD j 0) > n by omega)]
    generalize pF (l.getD (j + 1) 0) = p at gc ⊢
    generalize pF (l.getD j 0) = m at gl hl ⊢
    rw [decide_eq_true (show 0 < m by omega), decide_eq_true (show 0 < j + 1 by omega)]
    by_cases h : p > n
    · rw [if_pos h, decide_eq_false (show ¬ p ≤ n by omega)]; simp
    · rw [if_neg h, decide_eq_true (show p ≤ n by omega)]
      by_cases h2 : m < p
      · rw [decide_eq_true h2, decide_eq_true (show 1 ≤ p by omega), decide_eq_false (show ¬ p = 0 by omega)]
        by_cases h3 : (p - m) % 2 = 1
        · rw [decide_eq_true h3, decide_eq_false (show ¬ (p - m - 1) % 2 = 1 by omega)]; rfl
        · rw [decide_eq_false h3, decide_eq_true (show (p - m - 1) % 2 = 1 by omega)]; rfl
      · rw [decide_eq_false h2]; simp
theorem valL_take {n : Int} (hn : 0 ≤ n) {l : List Nat} : ∀ {k : Nat}, k ≤ l.length → (∀ j, j + 1 < k → badC n l j = false) → valL n 0 (l.take k) = (k == 0 || !badC n l (k - 1))
  | 0, _, _ => rfl
  | k + 1, hk, hg => by
    have hk' : k < l.length := by omega
    have e : l.take (k + 1) = l.take k ++ [l.getD k 0] := by
      rw [List.take_add_one, List.getElem?_eq_getElem hk', List.getD_eq_getElem?_getD, List.getElem?_eq_getElem hk']; rfl
    rw [e, valL_snoc, okS_bad hn hk' (fun j hj => hg j (by omega)), valL_take hn (by omega) (fun j hj => hg j (by omega))]
    rw [show (k + 1 == 0) = false from rfl, Bool.false_or, Nat.add_sub_cancel]
    cases k with
    | zero => rfl
    | succ j =>
      rw [show (j + 1 == 0) = false from rfl, Bool.false_or, Nat.add_sub_cancel, hg j (by omega)]; rfl
def valN (n : Int) (l : List Nat) : Bool := if l = [120] then decide (n % 2 = 0) else valL n 0 l && decide (l ≠ [])
theorem pF_x : pF 120 = 0 := by decide
/-- the prefix of k signs, where no x opens an even stage -/
theorem valN_take {n : Int} (hn : 0 ≤ n) {l : List Nat} {k : Nat} (hx : ¬ (l.take 1 = [120] ∧ n % 2 = 0)) (h1 : 1 ≤ k) (hk : k ≤ l.length) (hg : ∀ j, j + 1 < k → badC n l j = false) : valN n (l.take k) = !badC n l (k - 1) := by
  have e := valL_take hn hk hg
  rw [show (k == 0) = false by rw [beq_eq_false_iff_ne]; omega, Bool.false_or] at e
  unfold valN
  split
  · rename_i hl
    have hk1 : k = 1 := by
      have := congrArg List.length hl
      rw [List.length_take] at this
      have e1 : ([120] : List Nat).length = 1 := rfl
      omega
    subst hk1
    rw [hl] at e
    rw [← e]
    have : valL n 0 [120] = false := by simp [valL, okS, pF_x]
    rw [this]
    have : ¬ n % 2 = 0 := fun z => hx ⟨hl, z⟩
    rw [decide_eq_false this]
  · have : l.take k ≠ [] := fun z => by
      have := congrArg List.length z
      rw [List.length_take] at this
      have e1 : ([] : List Nat).length = 0 := rfl
      omega
    rw [decide_eq_true this, Bool.and_true, e]
theorem chOf_ra {n : Int} {ps : List Int} (h : ps ≠ []) : chOf n ps = raI n ps := by
  obtain ⟨p, r, rfl⟩ : ∃ p r, ps = p :: r := by
    cases ps with
    | nil => exact absurd rfl h
    | cons p r => exact ⟨p, r, rfl⟩
  have e1 : chOf1 (p :: r) = if (p - 1) % 2 = 1 then 1 :: p :: r else p :: r := by
    show (if p % 2 = 0 then 1 :: p :: r else p :: r) = _
    by_cases z : p % 2 = 0
    · rw [if_pos z, if_pos (by omega)]
    · rw [if_neg z, if_neg (by omega)]
  have e2 : lastC 0 (chOf1 (p :: r)) = lastC 0 (p :: r) := by
    rw [e1]
    split <;> rfl
  have e3 : chOf1 (p :: r) ≠ [] := by rw [e1]; split <;> simp
  unfold chOf raI
  rw [e2]
  show (if _ then chOf1 (p :: r) ++ [n] else chOf1 (p :: r)) = (if (n - lastC 0 (p :: r)) % 2 = 1 then (if (p - 1) % 2 = 1 then 1 :: p :: r else p :: r) ++ [n] else _)
  rw [← e1]
  by_cases z : (n - lastC 0 (p :: r)) % 2 = 1
  · rw [if_pos ⟨e3, z⟩, if_pos z]
  · rw [if_neg (fun y => z y.2), if_neg z]
    show chOf1 (p :: r) = if (p - 1) % 2 = 1 then _ else _
    rw [e1]
def sp_law_valid (K : PySem.W.Frag) : Sp := fun vs H Q _ => ∃ (n : Int) (l : List Nat), vs = [.int n, .str (S l)] ∧ l.length ≤ 100000 ∧ Q (.bl (valN n l)) H
def dueT (s : Int) (l : List Nat) : Str × Nat × Dat := if 1 ≤ s ∧ s ≤ 12 then (match rdC s l with | .inl c => ("BadNotation", c, .non) | .inr cs => ("", 0, .tup (cs.map Dat.int))) else ("BadStage", 0, .non)
def sp_told3 (K : PySem.W.Frag) : Sp := fun vs H Q _ => ∃ (s : Int) (l : List Nat), vs = [.int s, .str (S l)] ∧ l.length ≤ 100000 ∧ ∀ p H' v, Same H H' → H' p = some (.lst [.str (dueT s l).1, .int ((dueT s l).2.1 : Nat), v]) → Rp K H' v (dueT s l).2.2 → Q (.ref p) H'
def sp_law_due (K : PySem.W.Frag) : Sp := sp_told3 K
abbrev N_law_valid : List Str := ["stage", "text", "last", "sign", "place"]
def t_law_valid (K : PySem.W.Frag) : TS :=
  tSeq (tIfS ((tTest (tOp (rEqU K) (tVar 1) ((tC (.str "x")))))) ((tRet ((tOp (rEqU K) ((tOp rModU ((tCB rIntU (tCons (tVar 0) tNil))) ((tC (.int 2))))) ((tC (.int 0))))))) (tNext))
  (tSeq (tAsg ((tC (.int 0))) (gName 2))
  (tSeq (tFor (iSeqU K (tVar 1)) (gName 3) (tSeq (tAsg ((tOp (rAddU K) ((tBM K "str" rFind ((tC (.str "1234567890ET"))) (tCons (tVar 3) tNil))) ((tC (.int 1))))) (gName 4))
  (tSeq (tIfS ((tOr ((tTest (tOp (rLtU K) (tVar 4) ((tC (.int 1)))))) ((tOr ((tTest (tOp rGtU (tVar 4) (tVar 0)))) ((tTest (tOp (rLeU K) (tVar 4) (tVar 2)))))))) ((tRet ((tC (.bl false))))) (tNext))
  (tSeq (tIfS ((tAnd ((tTest (tOp rGtU (tVar 2) ((tC (.int 0)))))) ((tTest (tOp (rEqU K) ((tOp rModU ((tCB rIntU (tCons ((tOp rSubU ((tOp rSubU (tVar 4) (tVar 2))) ((tC (.int 1))))) tNil))) ((tC (.int 2))))) ((tC (.int 1)))))))) ((tRet ((tC (.bl false))))) (tNext))
  ((tAsg (tVar 4) (gName 2)))))))
  ((tRet ((tOp (rNeU K) (tVar 1) ((tC (.str "")))))))))

abbrev N_law_due : List Str := ["stage", "text", "k", "places", "ahead", "behind", "sign"]
def t_law_due (K : PySem.W.Frag) : TS :=
  tSeq (tIfS ((tOr ((tTest (tOp (rLtU K) (tVar 0) ((tC (.int 1)))))) ((tTest (tOp rGtU (tVar 0) ((tC (.int 12)))))))) ((tRet ((tLst (tCons ((tC (.str "BadStage"))) (tCons ((tC (.int 0))) (tCons ((tC .non)) tNil))))))) (tNext))
  (tSeq (tFor (iRng2 (tCons ((tC (.int 1))) (tCons ((tOp (rAddU K) ((tCB (rLenU K) (tCons (tVar 1) tNil))) ((tC (.int 1))))) tNil))) (gName 2) ((tIfS ((tNot ((tTru K ((tCall (sp_law_valid K) [] E0 (tCons (tVar 0) (tCons ((tSl (rSlU K) (tVar 1) tNoPart (tPart (tVar 2)))) tNil)))))))) ((tRet ((tLst (tCons ((tC (.str "BadNotation"))) (tCons (tVar 2) (tCons ((tC .non)) tNil))))))) (tNext))))
  (tSeq (tIfS ((tTest (tOp (rEqU K) (tVar 1) ((tC (.str "")))))) ((tRet ((tLst (tCons ((tC (.str "BadNotation"))) (tCons ((tC (.int 1))) (tCons ((tC .non)) tNil))))))) (tNext))
  (tSeq (tIfS ((tTest (tOp (rEqU K) (tVar 1) ((tC (.str "x")))))) ((tRet ((tLst (tCons ((tC (.str ""))) (tCons ((tC (.int 0))) (tCons ((tTup tNil)) tNil))))))) (tNext))
  (tSeq (tAsg (tLc ((iSeqU K (tVar 1))) ((gName 6)) (tYes) ((tOp (rAddU K) ((tBM K "str" rFind ((tC (.str "1234567890ET"))) (tCons (tVar 6) tNil))) ((tC (.int 1))))) [6]) (gName 3))
  (tSeq (tAsg ((tOp rSubU ((tOp (rIx K) (tVar 3) ((tC (.int 0))))) ((tC (.int 1))))) (gName 4))
  (tSeq (tAsg ((tOp rSubU (tVar 0) ((tOp (rIx K) (tVar 3) ((tUn (rU fun i => .int (-i)) ((tC (.int 1))))))))) (gName 5))
  (tSeq (tIfS ((tTest (tOp (rEqU K) ((tOp rModU ((tCB rIntU (tCons (tVar 4) tNil))) ((tC (.int 2))))) ((tC (.int 1)))))) ((tAsg ((tOp (rAddU K) ((tLst (tCons ((tC (.int 1))) tNil))) (tVar 3))) (gName 3))) (tNext))
  (tSeq (tIfS ((tTest (tOp (rEqU K) ((tOp rModU ((tCB rIntU (tCons (tVar 5) tNil))) ((tC (.int 2))))) ((tC (.int 1)))))) ((tAsg ((tOp (rAddU K) (tVar 3) ((tLst (tCons (tVar 0) tNil))))) (gName 3))) (tNext))
  ((tRet ((tLst (tCons ((tC (.str ""))) (tCons ((tC (.int 0))) (tCons ((tThen (tVar 3) (kTupD K))) tNil)))))))))))))))


section
variable {K : PySem.W.Frag} {ec : Str → Addr} {vs : List V} {H : Hp} {Q : VK} {E : XK}
theorem len_law_valid (h : sp_law_valid K vs H Q E) : vs.length = 2 := by obtain ⟨s, d, rfl, _⟩ := h; rfl
theorem len_law_due (h : sp_law_due K vs H Q E) : vs.length = 2 := by obtain ⟨s, d, rfl, _⟩ := h; rfl
theorem pure_law_valid (h : sp_law_valid K vs H Q E) : t_law_valid K (En Q) (start N_law_valid vs) H := by
  obtain ⟨n, l, rfl, hl, q⟩ := h
  unfold t_law_valid
  walk_at "rd"
  rw [S_eqD, show ("x" : Str).cps.toList = [120] by decide]
  unfold valN at q
  refine r_ite (fun h0 => ?_) (fun h0 => ?_)
  · rw [if_pos h0] at q
    walk_at "rd"
    exact q
  rw [if_neg h0] at q
  walk_at "rd"
  refine r_forStr (fun i σ' H' => ∃ (last : Int) (z3 z4 : Option V), σ' = [some (.int n), some (.str (S l)), some (.int last), z3, z4] ∧ H' = H ∧ valL n 0 l = valL n last (l.drop i))
    ⟨0, none, none, rfl, rfl, rfl⟩ (fun i c σ' H' hc hW => ?_) (fun σ' H' hW => ?_)
  · obtain ⟨last, z3, z4, rfl, rfl, hv⟩ := hW
    have hc : l[i]? = some c := hc
    have hil := (List.getElem?_eq_some_iff.mp hc).1
    have ec : l[i] = c := by rw [List.getElem?_eq_getElem hil] at hc; exact Option.some.inj hc
    rw [List.drop_eq_getElem_cons hil, ec] at hv
    have bad : okS n last c = false → Q (.bl false) H' := fun z => by
      have : valL n last (c :: l.drop (i + 1)) = false := by
        show (okS n last c && _) = false
        rw [z]; rfl
      rw [hv, this] at q
      exact q
    walk_at "rd"
    refine r_find signs_tl ?_
    walk_at "rd"
    show if decide (pF c < 1) = true then _ else _
    refine r_ite (fun c1 => ?_) (fun c1 => ?_)
    · refine r_T ?_
      walk_at "rd"
      exact bad (by unfold okS; rw [decide_eq_false (show ¬ 1 ≤ pF c by omega)]; rfl)
    · walk_at "rd"
      refine r_ite (fun c2 => ?_) (fun c2 => ?_)
      · have c2 : n < pF c := c2
        refine r_T ?_
        walk_at "rd"
        exact bad (by unfold okS; rw [decide_eq_false (show ¬ pF c ≤ n by omega)]; simp)
      · have c2 : ¬ n < pF c := c2
        walk_at "rd"
        refine r_ite (fun c3 => ?_) (fun c3 => ?_)
        · have c3 : pF c ≤ last := c3
          walk_at "rd"
          exact bad (by unfold okS; rw [decide_eq_false (show ¬ last < pF c by omega)]; simp)
        · have c3 : ¬ pF c ≤ last := c3
          walk_at "rd"
          refine r_ite (fun c4 => ?_) (fun c4 => ?_)
          · walk_at "rd"
            refine r_ite (fun c5 => ?_) (fun c5 => ?_)
            · have c5 : (pF c - last - 1) % 2 = 1 := c5
              walk_at "rd"
              exact bad (by unfold okS; rw [decide_eq_true c4, decide_eq_true c5]; simp)
            · have c5 : ¬ (pF c - last - 1) % 2 = 1 := c5
              walk_at "rd"
              refine ⟨pF c, _, _, rfl, rfl, ?_⟩
              rw [hv]
              show (okS n last c && _) = _
              have : okS n last c = true := by
                unfold okS
                rw [decide_eq_true (show 1 ≤ pF c by omega), decide_eq_true (show pF c ≤ n by omega), decide_eq_true (show last < pF c by omega), decide_eq_false c5]; simp
              rw [this]; rfl
          · walk_at "rd"
            refine ⟨pF c, _, _, rfl, rfl, ?_⟩
            rw [hv]
            show (okS n last c && _) = _
            have : okS n last c = true := by
              unfold okS
              rw [decide_eq_true (show 1 ≤ pF c by omega), decide_eq_true (show pF c ≤ n by omega), decide_eq_true (show last < pF c by omega), decide_eq_false c4]; simp
            rw [this]; rfl
  · obtain ⟨last, z3, z4, rfl, rfl, hv⟩ := hW
    have hv : valL n 0 l = valL n last (l.drop l.length) := hv
    rw [List.drop_length] at hv
    rw [hv] at q
    walk_at "rd"
    have : (("" : Str).cps.toList) = [] := by decide
    rw [S_eqD, this]
    have e : (valL n last [] && decide (l ≠ [])) = !decide (l = []) := by simp [valL]
    rw [e] at q
    exact q
end
end Kb

set_option Elab.async false
set_option linter.all false
set_option maxRecDepth 100000
set_option maxHeartbeats 4000000
namespace Kb
open PySem PySem.Spec PyProof.Rows L2 SX
/-! the tactics: rd walks a reading; tk closes a fact about a heap from those ahead of it -/
local macro_rules | `(tactic| walk_at "tk") => `(tactic| first
  | assumption
  | ((with_reducible refine' sqT_of ?k); (case k => assumption))
  | ((with_reducible refine' sqT_ofD ?k); (case k => assumption))
  | ((with_reducible refine' noD_of ?k); (case k => assumption))
  | ((with_reducible refine' noD_same ?s ?k); (case s => assumption); (case k => walk_at "tk"))
  | ((with_reducible refine' sqL_of ?k); (case k => assumption))
  | ((with_reducible refine' sqT_same ?s ?k); (case s => assumption); (case k => walk_at "tk"))
  | ((with_reducible refine' sqL_same ?s ?k); (case s => assumption); (case k => walk_at "tk"))
  | ((with_reducible refine' sqT_but ?s ?t ?k); (case s => assumption); (case t => walk_at "tk"); (case k => walk_at "tk"))
  | ((with_reducible refine' sqL_but ?s ?t ?k); (case s => assumption); (case t => walk_at "ne"); (case k => walk_at "tk"))
  | ((with_reducible refine' sqL_of ?k); (case k => walk_at "tk"))
  | ((with_reducible refine' sqT_of ?k); (case k => walk_at "tk"))
  | ((with_reducible refine' at_same ?s ?k); (case s => assumption); (case k => walk_at "tk"))
  | ((with_reducible refine' at_but ?s ?t ?k); (case s => assumption); (case t => walk_at "ne"); (case k => walk_at "tk")))
local macro_rules | `(tactic| walk_at "ne") => `(tactic| first
  | assumption
  | (refine Ne.symm ?_; assumption)
  | exact ne_of_none (by assumption) (by assumption)
  | exact (ne_of_none (by assumption) (by assumption)).symm)
local macro_rules | `(tactic| walk_at "side") => `(tactic| first
  | assumption
  | omega
  | (simp only [sizeLine_eq, List.length_cons, List.length_nil, List.length_map]; omega)
  | (show _ ≤ sizeLine; decide))
local macro_rules | `(tactic| walk_at "kit") => `(tactic| first
  | (show kitB _ _ = some true; decide +kernel)
  | (show kitB _ _ = some false; decide +kernel))
local macro_rules | `(tactic| walk_at "rng") => `(tactic| first
  | (refine ⟨by omega, by omega, by omega, by omega⟩)
  | (refine ⟨by omega, by omega⟩)
  | ((simp only [List.length_map]); (refine ⟨by omega, by omega, by omega, by omega⟩))
  | ((simp only [List.length_map]); (refine ⟨by omega, by omega⟩)))
local macro_rules | `(tactic| walk_at "rd1") => `(tactic| first
  | with_reducible refine r_seq ?_
  | ((with_reducible refine' r_var ?k0 ?_); (case k0 => rfl))
  | with_reducible refine r_op ?_
  | with_reducible refine r_c ?_
  | with_reducible refine r_asg ?_
  | with_reducible refine r_name ?_
  | with_reducible refine r_cons ?_
  | with_reducible refine r_nil ?_
  | with_reducible refine r_CB ?_
  | with_reducible refine r_if ?_
  | with_reducible refine r_test ?_
  | with_reducible refine r_k ?_
  | with_reducible refine r_T ?_
  | with_reducible refine r_F ?_
  | with_reducible refine r_nT ?_
  | with_reducible refine r_nF ?_
  | with_reducible refine r_ret ?_
  | with_reducible refine r_drop ?_
  | with_reducible refine r_next ?_
  | with_reducible refine r_call ?_
  | with_reducible refine r_addI ?_
  | with_reducible refine r_subI ?_
  | with_reducible refine r_ltI ?_
  | with_reducible refine r_gtI ?_
  | with_reducible refine r_leI ?_
  | with_reducible refine r_geI ?_
  | with_reducible refine r_eqI ?_
  | with_reducible refine r_neI ?_
  | with_reducible refine r_int ?_
  | with_reducible refine r_abs ?_
  | with_reducible refine r_not ?_
  | with_reducible refine r_and ?_
  | with_reducible refine r_or ?_
  | with_reducible refine r_tru ?_
  | with_reducible refine r_truB ?_
  | with_reducible refine r_lst ?_
  | with_reducible refine r_tup ?_
  | with_reducible refine r_BM ?_
  | with_reducible refine r_BM0 ?_
  | with_reducible refine r_tyS ?_
  | with_reducible refine r_gsub ?_
  | with_reducible refine r_then ?_
  | with_reducible refine r_lstRg ?_
  | with_reducible refine r_tupRg ?_
  | with_reducible refine r_rg2 ?_
  | with_reducible refine r_rg1 ?_
  | with_reducible refine r_ii ?_
  | with_reducible refine r_i ?_
  | with_reducible refine r_ipI ?_
  | with_reducible refine r_un ?_
  | with_reducible refine r_neg ?_
  | with_reducible refine r_isN ?_
  | with_reducible refine r_notN ?_
  | with_reducible refine r_notV ?_
  | with_reducible refine r_pnot ?_
  | with_reducible refine r_pif ?_
  | with_reducible refine r_andV ?_
  | with_reducible refine r_orV ?_
  | with_reducible refine r_ifE ?_
  | with_reducible refine r_chain ?_
  | with_reducible refine r_sl ?_
  | with_reducible refine r_noPart ?_
  | with_reducible refine r_part ?_
  | with_reducible refine r_brk ?_
  | with_reducible refine r_cont ?_
  | with_reducible refine r_retN ?_
  | with_reducible refine r_truI ?_
  | with_reducible refine r_B ?_
  | with_reducible refine r_for ?_
  | with_reducible refine r_rng1 ?_
  | with_reducible refine r_rng2 ?_
  | with_reducible refine r_rng3 ?_
  | with_reducible refine r_body ?_
  | with_reducible refine r_lc ?_
  | with_reducible refine r_yes ?_
  | ((with_reducible refine' r_mod ?k0 ?_); (case k0 => walk_at "side"))
  | ((with_reducible refine' r_mulI ?k0 ?_); (case k0 => first | exact Or.inl ⟨by omega, by omega⟩ | exact Or.inr ⟨by omega, by omega⟩))
  | ((with_reducible refine' r_lenL ?k0 ?_); (case k0 => walk_at "tk"))
  | ((with_reducible refine' r_lenT ?k0 ?_); (case k0 => walk_at "tk"))
  | ((with_reducible refine' r_truL ?k0 ?_); (case k0 => walk_at "tk"))
  | ((with_reducible refine' r_truT ?k0 ?_); (case k0 => walk_at "tk"))
  | ((with_reducible refine' r_ixL ?k0 ?k1 ?_); (case k0 => walk_at "tk"); (case k1 => first | assumption | rfl))
  | ((with_reducible refine' r_ixT ?k0 ?k1 ?_); (case k0 => walk_at "tk"); (case k1 => first | assumption | rfl))
  | ((with_reducible refine' r_new ?k0 ?_); (case k0 => walk_at "side"))
  | ((with_reducible refine' r_tyL ?k0 ?_); (case k0 => walk_at "tk"))
  | ((with_reducible refine' r_append ?k0 ?k1 ?_); (case k0 => walk_at "tk"); (case k1 => walk_at "side"))
  | ((with_reducible refine' r_setL ?k0 ?k1 ?_); (case k0 => walk_at "tk"); (case k1 => first | assumption | rfl))
  | ((with_reducible refine' r_kTupL ?k0 ?_); (case k0 => walk_at "tk"))
  | ((with_reducible refine' r_kTupT ?k0 ?_); (case k0 => walk_at "tk"))
  | ((with_reducible refine' r_listL ?k0 ?_); (case k0 => walk_at "tk"))
  | ((with_reducible refine' r_listT ?k0 ?_); (case k0 => walk_at "tk"))
  | ((with_reducible refine' r_aug ?k0 ?_); (case k0 => rfl))
  | ((with_reducible refine' r_lenS ?k0 ?_); (case k0 => walk_at "side"))
  | ((with_reducible refine' r_pop ?k0 ?_); (case k0 => walk_at "tk"))
  | ((with_reducible refine' r_pr1 ?k0 ?_); (case k0 => walk_at "rng"))
  | ((with_reducible refine' r_pr2 ?k0 ?_); (case k0 => walk_at "rng"))
  | ((with_reducible refine' r_pr3d ?k0 ?_); (case k0 => walk_at "rng"))
  | ((with_reducible refine' r_isiI ?k0 ?_); (case k0 => walk_at "kit"))
  | ((with_reducible refine' r_isiB ?k0 ?_); (case k0 => walk_at "kit"))
  | ((with_reducible refine' r_isiS ?k0 ?_); (case k0 => walk_at "kit"))
  | ((with_reducible refine' r_isiN ?k0 ?_); (case k0 => walk_at "kit"))
  | ((with_reducible refine' r_isiT ?k0 ?k1 ?_); (case k0 => walk_at "tk"); (case k1 => walk_at "kit"))
  | ((with_reducible refine r_seqT ?_); (repeat (walk_at "rd1")); ((with_reducible refine' r_pseqT ?k0 ?_); (case k0 => walk_at "tk")))
  | ((with_reducible refine r_seqL ?_); (repeat (walk_at "rd1")); ((with_reducible refine' r_pseqL ?k0 ?_); (case k0 => walk_at "tk")))
  | ((with_reducible refine r_seqS ?_); (repeat (walk_at "rd1")); (with_reducible refine r_pseqS ?_)))
local macro_rules | `(tactic| walk_at "rd") => `(tactic| ((repeat (walk_at "rd1")); (try dsimp only)))

local macro_rules | `(tactic| walk_at "rd1") => `(tactic| first
  | with_reducible refine r_BMT ?_
  | with_reducible refine r_par ?_
  | with_reducible refine r_parV ?_
  | ((with_reducible refine' r_ptp ?k0 ?k1 ?_); (case k0 => walk_at "tk"); (case k1 => walk_at "tk"))
  | with_reducible refine r_eqS ?_
  | with_reducible refine r_neS ?_
  | with_reducible refine r_callW ?_
  | with_reducible refine r_try ?_
  | with_reducible refine r_enT ?_
  | ((with_reducible refine' r_pen ?k0 ?_); (case k0 => walk_at "tk")))

local macro_rules | `(tactic| walk_at "pl0") => `(tactic| first
  | assumption
  | exact pl_same (by assumption) (by assumption)
  | exact pl_same (by assumption) (pl_same (by assumption) (by assumption))
  | exact pl_same (by assumption) (pl_same (by assumption) (pl_same (by assumption) (by assumption))))
local macro_rules | `(tactic| walk_at "pl") => `(tactic| first
  | walk_at "pl0"
  | ((with_reducible refine' pl_butL ?s ?n ?k); (case s => assumption); (case n => walk_at "ne"); (case k => walk_at "pl"))
  | ((with_reducible refine' pl_same ?s ?k); (case s => assumption); (case k => walk_at "pl")))
local macro_rules | `(tactic| walk_at "ne") => `(tactic| first
  | exact ne_pl (by assumption) (by walk_at "pl0")
  | exact (ne_pl (by assumption) (by walk_at "pl0")).symm)
local macro_rules | `(tactic| walk_at "fr") => `(tactic| first
  | assumption
  | ((with_reducible refine' free_but ?b ?n ?h); (case h => assumption); (case n => walk_at "ne"); (case b => walk_at "but"))
  | ((with_reducible refine' Same.free ?b ?h); (case h => assumption); (case b => walk_at "same")))
local macro_rules | `(tactic| walk_at "but") => `(tactic| first
  | assumption
  | exact But.refl
  | ((with_reducible refine' But.trans ?a ?b); (case b => assumption); (case a => walk_at "but"))
  | ((with_reducible refine' But.trans ?a (Same.but ?b)); (case b => assumption); (case a => walk_at "but"))
  | ((with_reducible refine' but_via ?a ?b ?c); (case b => assumption); (case c => walk_at "fr"); (case a => walk_at "but")))
local macro_rules | `(tactic| walk_at "same") => `(tactic| first
  | assumption
  | exact Same.refl _
  | ((with_reducible refine' Same.trans ?a ?b); (case b => assumption); (case a => walk_at "same"))
  | ((with_reducible refine' same_but ?a ?b ?c); (case b => assumption); (case c => walk_at "fr"); (case a => walk_at "same")))
local macro_rules | `(tactic| walk_at "tk") => `(tactic| first
  | ((with_reducible refine' sqT_pl ?s ?t ?k); (case s => assumption); (case t => walk_at "pl0"); (case k => walk_at "tk"))
  | ((with_reducible refine' rp_same ?s ?k); (case s => assumption); (case k => walk_at "tk"))
  | ((with_reducible refine' rp_pl ?s ?t ?k); (case s => assumption); (case t => walk_at "pl0"); (case k => walk_at "tk")))
local macro_rules | `(tactic| walk_at "it") => `(tactic| first
  | assumption
  | ((with_reducible refine' sqI_1 ?k); (case k => assumption))
  | ((with_reducible refine' sqI_0 ?k); (case k => assumption))
  | ((with_reducible refine' sqI_of ?k); (case k => assumption))
  | ((with_reducible refine' sqI_D ?k); (case k => assumption))
  | ((with_reducible refine' sqT_same ?s ?k); (case s => assumption); (case k => walk_at "it"))
  | ((with_reducible refine' sqT_but ?s ?t ?k); (case s => assumption); (case t => assumption); (case k => walk_at "it"))
  | ((with_reducible refine' sqT_pl ?s ?t ?k); (case s => assumption); (case t => walk_at "pl0"); (case k => walk_at "it")))
local macro_rules | `(tactic| walk_at "sz") => `(tactic| first | omega | ((try simp only [List.length_cons, List.length_nil] at *); omega))
/-! a straight piece of a law's generator: draws, slices, sums, ifs -/
local macro_rules | `(tactic| walk_at "au1") => `(tactic| first
  | walk_at "rd1"
  | ((with_reducible refine' r_draw ?k0 ?k1 ?k2 ?_); (case k0 => walk_at "pl"); (case k1 => omega); (case k2 => omega); (intro _ _ _ _ _ _))
  | ((with_reducible refine' r_slN ?k0 ?_); (case k0 => walk_at "it"); (intro _ _ _ _ _ _))
  | ((with_reducible refine' r_catN ?k0 ?k1 ?k2 ?_); (case k0 => walk_at "it"); (case k1 => walk_at "it"); (case k2 => walk_at "sz"); (intro _ _ _ _ _ _))
  | ((with_reducible refine' r_pow ?k0 ?_); (case k0 => exact ⟨by decide, by decide, by decide⟩))
  | ((with_reducible refine' r_ixI ?k0 ?k1 ?k2 ?_); (case k0 => walk_at "it"); (case k1 => omega); (case k2 => omega); (intro _ _))
  | ((with_reducible refine' r_setI ?k0 ?k1 ?k2 ?_); (case k0 => walk_at "tk"); (case k1 => omega); (case k2 => omega); (intro _ _ _ _ _))
  | ((with_reducible refine' r_kTupI ?k0 ?_); (case k0 => walk_at "tk"); (intro _ _ _ _ _))
  | ((with_reducible refine' r_listI ?k0 ?_); (case k0 => walk_at "it"); (intro _ _ _ _ _))
  | (with_reducible refine r_revU ?_)
  | ((with_reducible refine' r_prevN ?k0 ?_); (case k0 => walk_at "it"); (intro _ _ _ _ _ _))
  | (intro _ _ _ _ _))
local macro_rules | `(tactic| walk_at "go") => `(tactic| ((repeat (walk_at "au1")); (first
  | ((with_reducible refine r_ite (fun _ => ?_) (fun _ => ?_)) <;> (walk_at "go"))
  | ((with_reducible refine r_iteN (fun _ => ?_) (fun _ => ?_)) <;> (walk_at "go"))
  | dsimp only
  | skip)))

local macro_rules | `(tactic| walk_at "au1") => `(tactic| first
  | with_reducible refine r_revS ?_
  | ((with_reducible refine' r_prevSN ?k0 ?_); (case k0 => walk_at "sz"); (intro _ _))
  | ((with_reducible refine' r_slSN ?k0 ?_); (case k0 => walk_at "sz"); (intro _ _))
  | ((with_reducible refine' r_catSN ?k0 ?_); (case k0 => walk_at "sz"); (intro _ _))
  | ((with_reducible refine' r_lenSS ?k0 ?_); (case k0 => walk_at "sz")))

abbrev XN : List Str := ["ChamberError", "BadStage", "BadChange", "BadNotation", "BadPositions"]
def sp_law_read (K : PySem.W.Frag) : Sp := sp_told3 K
def sp_law_answered (K : PySem.W.Frag) : Sp := fun vs H Q _ => ∃ (s : Int) (l : List Nat), vs = [.int s, .str (S l)] ∧ l.length ≤ 100000 ∧ ∀ H', Same H H' → Q (.bl true) H'
abbrev N_law_read : List Str := ["stage", "text", "kind", "word", "column", "alone", "told", "e"]
def t_law_read (K : PySem.W.Frag) (ec : Str → Addr) : TS :=
  tSeq (tAsg ((tC (.str ""))) (gName 2))
  (tSeq (tAsg ((tC (.str ""))) (gName 3))
  (tSeq (tAsg ((tC (.int 0))) (gName 4))
  (tSeq (tAsg ((tC (.bl true))) (gName 5))
  (tSeq (tAsg ((tC .non)) (gName 6))
  (tSeq (tTry K W0 [⟨.ref (ec "BadStage"), some 7, fun a cls d => tSeq (tAsg ((tC (.str "BadStage"))) (gName 2))
  (tSeq (tAsg ((tXfA K a cls d "word" (tVar 7))) (gName 3))
  ((tAsg ((tAndV ((tCB (rIsX K a cls d) (tCons (tVar 7) (tCons ((tC (.ref (ec "ChamberError")))) tNil)))) ((tAndV ((tCB (rIsX K a cls d) (tCons (tVar 7) (tCons ((tC (.ty "ValueError"))) tNil)))) ((tNotV ((tCB (rIsX K a cls d) (tCons (tVar 7) (tCons ((tTup (tCons ((tC (.ref (ec "BadNotation")))) (tCons ((tC (.ref (ec "BadChange")))) tNil)))) tNil)))))))))) (gName 5))))⟩, ⟨.ref (ec "BadNotation"), some 7, fun a cls d => tSeq (tAsg ((tC (.str "BadNotation"))) (gName 2))
  (tSeq (tAsg ((tXfA K a cls d "word" (tVar 7))) (gName 3))
  (tSeq (tAsg ((tXfA K a cls d "column" (tVar 7))) (gName 4))
  ((tAsg ((tAndV ((tCB (rIsX K a cls d) (tCons (tVar 7) (tCons ((tC (.ref (ec "ChamberError")))) tNil)))) ((tAndV ((tCB (rIsX K a cls d) (tCons (tVar 7) (tCons ((tC (.ty "ValueError"))) tNil)))) ((tNotV ((tCB (rIsX K a cls d) (tCons (tVar 7) (tCons ((tTup (tCons ((tC (.ref (ec "BadPositions")))) (tCons ((tC (.ref (ec "BadChange")))) tNil)))) tNil)))))))))) (gName 5)))))⟩, ⟨.ref (ec "ChamberError"), none, fun a cls d => (tAsg ((tC (.str "another"))) (gName 2))⟩] (fun W => (tAsg ((tCallW (sp_read_change K ec) W (tCons (tVar 0) (tCons (tVar 1) tNil)))) (gName 6))))
  (tSeq (tIfS ((tAnd ((tTest (tOp (rNeU K) (tVar 2) ((tC (.str "")))))) ((tNot ((tAnd ((tTru K (tVar 5))) ((tTru K ((tCall (sp_law_same K) [] E0 (tCons (tVar 3) (tCons (tVar 2) tNil)))))))))))) ((tAsg ((tC (.str "another"))) (gName 2))) (tNext))
  ((tRet ((tLst (tCons (tVar 2) (tCons (tVar 4) (tCons (tVar 6) tNil)))))))))))))

abbrev N_law_answered : List Str := ["stage", "text", "due", "told"]
def t_law_answered (K : PySem.W.Frag) : TS :=
  tSeq (tAsg ((tCall (sp_law_due K) [] E0 (tCons (tVar 0) (tCons (tVar 1) tNil)))) (gName 2))
  (tSeq (tAsg ((tCall (sp_law_read K) [] E0 (tCons (tVar 0) (tCons (tVar 1) tNil)))) (gName 3))
  ((tRet ((tAndV ((tOp (rEqU K) ((tOp (rIx K) (tVar 3) ((tC (.int 0))))) ((tOp (rIx K) (tVar 2) ((tC (.int 0))))))) ((tAndV ((tCall (sp_law_same K) [] E0 (tCons ((tOp (rIx K) (tVar 3) ((tC (.int 1))))) (tCons ((tOp (rIx K) (tVar 2) ((tC (.int 1))))) tNil)))) ((tCall (sp_law_same K) [] E0 (tCons ((tOp (rIx K) (tVar 3) ((tC (.int 2))))) (tCons ((tOp (rIx K) (tVar 2) ((tC (.int 2))))) tNil)))))))))))


theorem val2 {n : Int} {l : List Nat} (hx : l.take 1 = [120]) (h2 : 2 ≤ l.length) : valN n (l.take 2) = false := by
  obtain ⟨a, b, r, rfl⟩ : ∃ a b r, l = a :: b :: r := by
    cases l with
    | nil => simp at h2
    | cons a l => cases l with
      | nil => simp at h2
      | cons b r => exact ⟨a, b, r, rfl⟩
  have ha : a = 120 := by simpa using hx
  subst ha
  show valN n [120, b] = false
  have : valL n 0 [120, b] = false := by
    show (okS n 0 120 && _) = false
    have : okS n 0 120 = false := by unfold okS; rw [pF_x]; rfl
    rw [this]; rfl
  unfold valN
  rw [if_neg (by simp), this]; rfl
theorem goods {n : Int} (hn : 0 ≤ n) {l : List Nat} (hx : ¬ (l.take 1 = [120] ∧ n % 2 = 0)) {i : Nat} (hi : i ≤ l.length) (hv : ∀ k, 1 ≤ k → k ≤ i → valN n (l.take k) = true) : ∀ m, m ≤ i → ∀ j, j < m → badC n l j = false
  | 0, _, j, hj => absurd hj (Nat.not_lt_zero _)
  | m + 1, hm, j, hj => by
    have ih := goods hn hx hi hv m (by omega)
    by_cases z : j = m
    · subst z
      have e := valN_take hn hx (k := j + 1) (by omega) (by omega) (fun t ht => ih t (by omega))
      rw [hv (j + 1) (by omega) hm, Nat.add_sub_cancel] at e
      simpa using e
    · exact ih j (by omega)
theorem rd_first {n : Int} (hn : 0 ≤ n) {l : List Nat} {i : Nat} (hi : i < l.length) (hv : ∀ k, 1 ≤ k → k ≤ i → valN n (l.take k) = true) (hb : valN n (l.take (i + 1)) = false) : rdC n l = .inl (i + 1) := by
  by_cases hx : l.take 1 = [120] ∧ n % 2 = 0
  · have i1 : i = 1 := by
      rcases Nat.lt_trichotomy i 1 with z | z | z
      · obtain rfl : i = 0 := by omega
        rw [hx.1] at hb
        unfold valN at hb
        rw [if_pos rfl, decide_eq_true hx.2] at hb
        cases hb
      · exact z
      · have := hv 2 (by omega) (by omega)
        rw [val2 hx.1 (by omega)] at this
        cases this
    subst i1
    unfold rdC
    rw [if_pos hx, if_pos (by omega)]
  · have hg := goods hn hx (by omega : i ≤ l.length) hv i (Nat.le_refl _)
    have e := valN_take hn hx (k := i + 1) (by omega) (by omega) (fun j hj => hg j (by omega))
    rw [hb, Nat.add_sub_cancel] at e
    exact read_hit hx hi hg (by simpa using e.symm)
theorem rd_all {n : Int} (hn : 0 ≤ n) {l : List Nat} (hv : ∀ k, 1 ≤ k → k ≤ l.length → valN n (l.take k) = true) : rdC n l = if l = [] then .inl 1 else if l = [120] then .inr [] else .inr (raI n (l.map pF)) := by
  by_cases hx : l.take 1 = [120] ∧ n % 2 = 0
  · have h1 : ¬ 1 < l.length := fun z => by
      have := hv 2 (by omega) (by omega)
      rw [val2 hx.1 (by omega)] at this
      cases this
    have e : l = [120] := by rw [← hx.1, List.take_of_length_le (by omega)]
    unfold rdC
    rw [if_pos hx, if_neg h1, if_neg (by rw [e]; simp), if_pos e]
  · have hg := goods hn hx (Nat.le_refl _) hv l.length (Nat.le_refl _)
    have hf : (List.range l.length).find? (badC n l) = none := by
      rw [List.find?_eq_none]
      intro j hj
      rw [hg j (List.mem_range.mp hj)]; decide
    have e1 : rdC n l = if l = [] then .inl 1 else .inr (chOf n (l.map (plC n))) := by
      unfold rdC
      rw [if_neg hx, hf]
    rw [e1]
    by_cases h0 : l = []
    · rw [if_pos h0, if_pos h0]
    · have hp : l.map (plC n) = l.map pF := by
        apply List.map_congr_left
        intro c hc
        obtain ⟨j, hj, rfl⟩ := List.mem_iff_getElem.mp hc
        have := hg j hj
        unfold badC at this
        rw [Bool.or_eq_false_iff, List.getD_eq_getElem?_getD, List.getElem?_eq_getElem hj] at this
        have := of_decide_eq_false this.1
        have this : ¬ plC n l[j] = 0 := this
        rw [plC_pF] at this ⊢
        by_cases z : pF l[j] > n
        · rw [if_pos z] at this; exact absurd rfl this
        · rw [if_neg z]
      rw [if_neg h0, if_neg h0, hp, chOf_ra (by simpa using h0)]
      by_cases hl : l = [120]
      · exfalso
        have := hv 1 (by omega) (by rw [hl]; decide)
        rw [hl] at this
        unfold valN at this
        rw [show ([120] : List Nat).take 1 = [120] from rfl, if_pos rfl] at this
        exact hx ⟨by rw [hl]; rfl, of_decide_eq_true this⟩
      · rw [if_neg hl]
section
variable {K : PySem.W.Frag} {ec : Str → Addr} {vs : List V} {H : Hp} {Q : VK} {E : XK}
theorem len_law_read (h : sp_law_read K vs H Q E) : vs.length = 2 := by obtain ⟨s, d, rfl, _⟩ := h; rfl
theorem len_law_answered (h : sp_law_answered K vs H Q E) : vs.length = 2 := by obtain ⟨s, d, rfl, _⟩ := h; rfl
theorem due_st {s : Int} {l : List Nat} (h : ¬ Stg s) : dueT s l = (("BadStage" : Str), 0, Dat.non) := by unfold dueT; rw [if_neg (show ¬ (1 ≤ s ∧ s ≤ 12) from h)]
theorem due_no {s : Int} {l : List Nat} {c : Nat} (h : Stg s) (e : rdC s l = .inl c) : dueT s l = (("BadNotation" : Str), c, Dat.non) := by unfold dueT; rw [if_pos (show 1 ≤ s ∧ s ≤ 12 from h), e]
theorem due_yes {s : Int} {l : List Nat} {cs : List Int} (h : Stg s) (e : rdC s l = .inr cs) : dueT s l = (("" : Str), 0, Dat.tup (cs.map Dat.int)) := by unfold dueT; rw [if_pos (show 1 ≤ s ∧ s ≤ 12 from h), e]
/-- [f(c) for c in text], whole numbers -/
theorem r_lcStr {σ : L2.St} {te : TE} {j : Nat} {l : List Nat} (f : Nat → Int) (hz : l.length ≤ 1000000) (he : ∀ c H1 (Q' : VK), Q' (.int (f c)) H1 → te ((σ.set j none).set j (some (.str (S [c])))) H1 Q')
    (hd : ∀ q H', H q = none → Same H H' → H' q = some (.lst ((l.map f).map V.int)) → Q (.ref q) H') : PLc (Its (S l)) (gName j) tYes te [j] σ H Q := by
  intro D hD
  refine lc_it (n := l.length) (Y := fun i H x H' => H' = H ∧ ∃ c, l[i]? = some c ∧ x = .str (S [c])) (G := fun _ => True) (J := Its (S l))
    ⟨fun i H hi _ => by show i < (S l).cps.size; simpa using hi, fun H _ => by show (S l).cps.size ≤ l.length; simp, fun i H x H' hi _ y => by
      obtain ⟨rfl, c, hc, rfl⟩ := y
      exact ⟨rfl, c, by simpa using hc, rfl⟩⟩
    (fun i H' => Same H H' ∧ H' D = some (.lst (((l.take i).map f).map V.int))) ⟨same_new hD, upd_same⟩ (fun _ _ _ _ => trivial) (fun i x H1 H2 hi P y => ?_) (fun H' P => ?_)
  · obtain ⟨rfl, c, hc, rfl⟩ := y
    obtain ⟨s, e⟩ := P
    refine ⟨by show ((σ.set j none).set j _).set j none = σ.set j none; rw [List.set_set, List.set_set], ?_⟩
    refine r_yes (r_T (he c H2 _ ?_))
    refine ⟨_, e, by rw [List.length_map, List.length_map, List.length_take, sizeLine_eq]; omega, same_but s but_upd hD, ?_⟩
    rw [upd_same, List.take_add_one, hc, List.map_append, List.map_append]
    rfl
  · have e := P.2
    rw [List.take_length] at e
    exact hd D H' hD P.1 e
theorem at_hd {cs : List Int} (h : cs ≠ []) : atI (cs.map V.int) 0 = some (.int (cs.getD 0 0)) := by
  cases cs with
  | nil => exact absurd rfl h
  | cons p r => exact at_first
theorem pure_law_due (h : sp_law_due K vs H Q E) : t_law_due K (En Q) (start N_law_due vs) H := by
  obtain ⟨s, l, rfl, hl, q⟩ := h
  have bad : ¬ Stg s → ∀ (σ : L2.St) (D : Ends), D.rt = Q → (tRet (tLst (tCons (tC (.str "BadStage")) (tCons (tC (.int 0)) (tCons (tC .non) tNil))))) D σ H := fun hs σ D hD => by
    walk_at "rd"
    intro p H1 np s1 e1
    rw [hD]
    rw [due_st hs] at q
    exact q p H1 _ s1 e1 .non
  unfold t_law_due
  walk_at "rd"
  refine r_ite (fun c1 => ?_) (fun c1 => ?_)
  · exact r_T (bad (fun z => by have := z.1; omega) _ _ rfl)
  walk_at "rd"
  refine r_ite (fun c2 => ?_) (fun c2 => ?_)
  · exact bad (fun z => by have := z.2; omega) _ _ rfl
  have hs : Stg s := ⟨by omega, by omega⟩
  walk_at "rd"
  refine r_lenSS (by omega) ?_
  walk_at "rd"
  rw [show ((l.length : Int) + 1 - 1).toNat = l.length by omega]
  refine r_forRange (fun i σ' H' => ∃ (z2 : Option V), σ' = [some (.int s), some (.str (S l)), z2, none, none, none, none] ∧ H' = H ∧ ∀ k, 1 ≤ k → k ≤ i → valN s (l.take k) = true)
    ⟨none, rfl, rfl, fun k h1 h2 => by omega⟩ (fun i σ' H' hi hW => ?_) (fun σ' H' hW => ?_)
  · obtain ⟨z2, rfl, rfl, hv⟩ := hW
    walk_at "rd"
    refine r_slS (by omega) ?_
    rw [show (1 + (i : Int)) = ((i + 1 : Nat) : Int) by omega, cutA_take]
    walk_at "rd"
    refine ⟨s, l.take (i + 1), rfl, by rw [List.length_take]; omega, ?_⟩
    walk_at "rd"
    refine r_iteB' (fun hb => ?_) (fun hb => ?_)
    · have hb : valN s (l.take (i + 1)) = false := by simpa using hb
      walk_at "rd"
      intro p H1 np s1 e1
      rw [due_no hs (rd_first (by have := hs.1; omega) hi hv hb)] at q
      exact q p H1 _ s1 e1 .non
    · have hb : valN s (l.take (i + 1)) = true := by simpa using hb
      refine r_next ⟨_, rfl, rfl, fun k h1 h2 => ?_⟩
      by_cases z : k = i + 1
      · subst z; exact hb
      · exact hv k h1 (by omega)
  · obtain ⟨z2, rfl, rfl, hv⟩ := hW
    have hr := rd_all (by have := hs.1; omega) hv
    walk_at "rd"
    rw [S_eqD, show ("" : Str).cps.toList = [] by decide]
    refine r_ite (fun h0 => ?_) (fun h0 => ?_)
    · rw [if_pos h0] at hr
      rw [due_no hs hr] at q
      walk_at "rd"
      intro p H1 np s1 e1
      exact q p H1 _ s1 e1 .non
    rw [if_neg h0] at hr
    walk_at "rd"
    rw [S_eqD, show ("x" : Str).cps.toList = [120] by decide]
    refine r_ite (fun h1 => ?_) (fun h1 => ?_)
    · rw [if_pos h1] at hr
      rw [due_yes hs hr] at q
      walk_at "rd"
      intro t H1 nt s1 e1
      walk_at "rd"
      intro p H2 np s2 e2
      exact q p H2 _ (s1.trans s2) e2 (rp_same s2 (rp_ints (ns := []) (sqT_of e1)))
    rw [if_neg h1] at hr
    rw [due_yes hs hr] at q
    have hne : l.map pF ≠ [] := by simpa using h0
    walk_at "rd"
    refine r_lcStr pF (by omega) (fun c H1 Q' k => ?_) fun t H1 nt s1 e1 => ?_
    · walk_at "rd"
      refine r_find signs_tl ?_
      walk_at "rd"
      exact k
    have a0 := at_hd hne
    have a1 := at_last hne
    walk_at "rd"
    have fin : ∀ (t : Addr) (ds : List Int) (H2 : Hp), Same H' H2 → H2 t = some (.lst (ds.map V.int)) → ds.length ≤ 200000 → ds = (if ((l.map pF).getD 0 0 - 1) % 2 = 1 then 1 :: l.map pF else l.map pF) → ∀ z6 : Option V,
        tSeq (tIfS ((tTest (tOp (rEqU K) ((tOp rModU ((tCB rIntU (tCons (tVar 5) tNil))) ((tC (.int 2))))) ((tC (.int 1)))))) ((tAsg ((tOp (rAddU K) (tVar 3) ((tLst (tCons (tVar 0) tNil))))) (gName 3))) (tNext))
        ((tRet ((tLst (tCons ((tC (.str ""))) (tCons ((tC (.int 0))) (tCons ((tThen (tVar 3) (kTupD K))) tNil))))))) (En Q) [some (.int s), some (.str (S l)), z2, some (.ref t), some (.int ((l.map pF).getD 0 0 - 1)), some (.int (s - lastC 0 (l.map pF))), z6] H2 := fun t ds H2 s2 e2 hl2 ed z6 => by
      have out : ∀ (t : Addr) (us : List Int) (H3 : Hp), Same H' H3 → H3 t = some (.lst (us.map V.int)) → us = raI s (l.map pF) → ((tRet ((tLst (tCons ((tC (.str ""))) (tCons ((tC (.int 0))) (tCons ((tThen (tVar 3) (kTupD K))) tNil))))))) (En Q) [some (.int s), some (.str (S l)), z2, some (.ref t), some (.int ((l.map pF).getD 0 0 - 1)), some (.int (s - lastC 0 (l.map pF))), z6] H3 := fun t us H3 s3 e3 eu => by
        walk_at "rd"
        intro w H4 nw s4 e4
        walk_at "rd"
        intro p H5 np s5 e5
        refine q p H5 _ ((s3.trans s4).trans s5) e5 (rp_same s5 ?_)
        rw [← eu]
        exact rp_ints (sqT_ofD e4)
      walk_at "rd"
      refine r_ite (fun c => ?_) (fun c => ?_)
      · walk_at "rd"
        intro w H3 nw s3 e3
        refine r_catL (s3 _ _ e2) e3 (by rw [List.length_map, sizeLine_eq]; simp; omega) fun u H4 nu s4 e4 => ?_
        refine r_name ?_
        refine out u (ds ++ [s]) H4 ((s2.trans s3).trans s4) (by rw [e4, List.map_append]; rfl) ?_
        unfold raI
        rw [if_pos c, ← ed]
      · refine r_next ?_
        refine out t ds H2 s2 e2 ?_
        unfold raI
        rw [if_neg c, ← ed]
    refine r_ite (fun c => ?_) (fun c => ?_)
    · walk_at "rd"
      intro w H3 nw s3 e3
      walk_at "rd"
      refine r_catL e3 (s3 _ _ e1) (by rw [List.length_map, List.length_map, sizeLine_eq]; simp; omega) fun u H4 nu s4 e4 => ?_
      refine r_name ?_
      exact fin u (1 :: l.map pF) H4 ((s1.trans s3).trans s4) e4 (by rw [List.length_cons, List.length_map]; omega) (by rw [if_pos c]) _
    · refine r_next ?_
      exact fin t (l.map pF) H1 s1 e1 (by rw [List.length_map]; omega) (by rw [if_neg c]) _
theorem pure_law_read (XS : Exs K ec XN) (h : sp_law_read K vs H Q E) : t_law_read K ec (En Q) (start N_law_read vs) H := by
  obtain ⟨s, l, rfl, hl, q⟩ := h
  unfold t_law_read
  walk_at "rd"
  refine ⟨s, l, rfl, hl, fun hs d H' s' nd e => ?_, fun c hs hr d H' s' nd e => ?_, fun cs hs hr t H1 nt s1 e1 => ?_⟩
  · have BU := XS.bad "BadStage" (by decide)
    refine w_yes (by rw [XS.exm "BadStage" (by decide) "BadStage" (by decide)]; rfl) fun ea na => ?_
    dsimp only
    refine r_seq (r_asg (r_c (r_name ?_)))
    dsimp only
    refine r_seq (r_asg ?_)
    refine r_xfV (v := .str "BadStage") BU.xf BU.nw rfl e rfl ?_
    refine r_name ?_
    dsimp only
    refine r_asg ?_
    refine r_alone XS (x := "BadStage") (by decide) (by decide) (by decide) (by decide) (by decide) (by decide) rfl e fun H2 s2 => ?_
    refine r_name (r_endsAs ?_)
    dsimp only
    walk_at "rd"
    refine r_iteNM (by decide) ?_
    walk_at "rd"
    refine ⟨.str "BadStage", .str "BadStage", .str "BadStage", rfl, .str _, .str _, by decide, fun H3 s3 => ?_⟩
    walk_at "rd"
    intro p H4 np s4 e4
    rw [due_st hs] at q
    exact q p H4 _ (((s'.trans s2).trans s3).trans s4) e4 .non
  · have BU := XS.bad "BadNotation" (by decide)
    refine w_no (by rw [XS.exm "BadNotation" (by decide) "BadStage" (by decide)]; rfl) ?_
    refine w_yes (by rw [XS.exm "BadNotation" (by decide) "BadNotation" (by decide)]; rfl) fun ea na => ?_
    dsimp only
    refine r_seq (r_asg (r_c (r_name ?_)))
    dsimp only
    refine r_seq (r_asg ?_)
    refine r_xfV (v := .str "BadNotation") BU.xf BU.nw rfl e rfl ?_
    refine r_name ?_
    dsimp only
    refine r_seq (r_asg ?_)
    refine r_xfV (v := .int (c : Int)) BU.xf (BU.nf "column" (by decide)) rfl e rfl ?_
    refine r_name ?_
    dsimp only
    refine r_asg ?_
    refine r_alone XS (x := "BadNotation") (by decide) (by decide) (by decide) (by decide) (by decide) (by decide) rfl e fun H2 s2 => ?_
    refine r_name (r_endsAs ?_)
    dsimp only
    walk_at "rd"
    refine r_iteNM (by decide) ?_
    walk_at "rd"
    refine ⟨.str "BadNotation", .str "BadNotation", .str "BadNotation", rfl, .str _, .str _, by decide, fun H3 s3 => ?_⟩
    walk_at "rd"
    intro p H4 np s4 e4
    rw [due_no hs hr] at q
    exact q p H4 _ (((s'.trans s2).trans s3).trans s4) e4 .non
  · walk_at "rd"
    refine r_iteNP rfl ?_
    refine r_F (r_next ?_)
    walk_at "rd"
    intro p H4 np s4 e4
    rw [due_yes hs hr] at q
    exact q p H4 _ (s1.trans s4) e4 (rp_same s4 (rp_ints e1))
theorem ra_len (n : Int) (ps : List Int) : (raI n ps).length ≤ ps.length + 2 := by
  have a : (if (ps.getD 0 0 - 1) % 2 = 1 then 1 :: ps else ps).length ≤ ps.length + 1 := by split <;> simp
  unfold raI
  dsimp only
  split
  · rw [List.length_append]; simp only [List.length_singleton]; omega
  · omega
theorem ch_len (n : Int) (ps : List Int) : (chOf n ps).length ≤ ps.length + 2 := by
  by_cases h : ps = []
  · subst h
    unfold chOf
    rw [if_neg (fun z => z.1 rfl)]
    exact Nat.zero_le _
  · rw [chOf_ra h]; exact ra_len n ps
theorem rd_len {n : Int} {l : List Nat} {cs : List Int} (h : rdC n l = .inr cs) : cs.length ≤ l.length + 2 := by
  unfold rdC at h
  split at h
  · split at h
    · cases h
    · cases h; simp
  · split at h
    · cases h
    · split at h
      · cases h
      · cases h
        have := ch_len n (l.map (plC n))
        rw [List.length_map] at this
        exact this
theorem due_size {s : Int} {l : List Nat} (hl : l.length ≤ 100000) : (dueT s l).2.2.size ≤ 1000000 := by
  unfold dueT
  split
  · split
    · show 1 ≤ 1000000; decide
    · rename_i cs e
      show (Dat.tup (cs.map Dat.int)).size ≤ 1000000
      rw [size_row]
      have := rd_len e
      omega
  · show 1 ≤ 1000000; decide
theorem pure_law_answered (h : sp_law_answered K vs H Q E) : t_law_answered K (En Q) (start N_law_answered vs) H := by
  obtain ⟨s, l, rfl, hl, q⟩ := h
  unfold t_law_answered
  walk_at "rd"
  refine ⟨s, l, rfl, hl, fun a H1 v s1 e1 r1 => ?_⟩
  refine r_name ?_
  walk_at "rd"
  refine ⟨s, l, rfl, hl, fun b H2 w s2 e2 r2 => ?_⟩
  have e1' := s2 _ _ e1
  refine r_name ?_
  walk_at "rd"
  refine r_iteP rfl ?_
  walk_at "rd"
  refine ⟨_, _, .int _, rfl, .int _, .int _, by show 1 ≤ 1000000; decide, fun H3 s3 => ?_⟩
  have e1'' := s3 _ _ e1'
  have e2'' := s3 _ _ e2
  walk_at "rd"
  refine ⟨_, _, _, rfl, rp_same s3 r2, rp_same s3 (rp_same s2 r1), due_size hl, fun H4 s4 => ?_⟩
  exact q H4 (((s1.trans s2).trans s3).trans s4)
end
end Kb

set_option Elab.async false
set_option linter.all false
set_option maxRecDepth 100000
set_option maxHeartbeats 4000000
namespace Kb
open PySem PySem.Spec PyProof.Rows L2 SX
/-! the tactics: rd walks a reading; tk closes a fact about a heap from those ahead of it -/
local macro_rules | `(tactic| walk_at "tk") => `(tactic| first
  | assumption
  | ((with_reducible refine' sqT_of ?k); (case k => assumption))
  | ((with_reducible refine' sqT_ofD ?k); (case k => assumption))
  | ((with_reducible refine' noD_of ?k); (case k => assumption))
  | ((with_reducible refine' noD_same ?s ?k); (case s => assumption); (case k => walk_at "tk"))
  | ((with_reducible refine' sqL_of ?k); (case k => assumption))
  | ((with_reducible refine' sqT_same ?s ?k); (case s => assumption); (case k => walk_at "tk"))
  | ((with_reducible refine' sqL_same ?s ?k); (case s => assumption); (case k => walk_at "tk"))
  | ((with_reducible refine' sqT_but ?s ?t ?k); (case s => assumption); (case t => walk_at "tk"); (case k => walk_at "tk"))
  | ((with_reducible refine' sqL_but ?s ?t ?k); (case s => assumption); (case t => walk_at "ne"); (case k => walk_at "tk"))
  | ((with_reducible refine' sqL_of ?k); (case k => walk_at "tk"))
  | ((with_reducible refine' sqT_of ?k); (case k => walk_at "tk"))
  | ((with_reducible refine' at_same ?s ?k); (case s => assumption); (case k => walk_at "tk"))
  | ((with_reducible refine' at_but ?s ?t ?k); (case s => assumption); (case t => walk_at "ne"); (case k => walk_at "tk")))
local macro_rules | `(tactic| walk_at "ne") => `(tactic| first
  | assumption
  | (refine Ne.symm ?_; assumption)
  | exact ne_of_none (by assumption) (by assumption)
  | exact (ne_of_none (by assumption) (by assumption)).symm)
local macro_rules | `(tactic| walk_at "side") => `(tactic| first
  | assumption
  | omega
  | (simp only [sizeLine_eq, List.length_cons, List.length_nil, List.length_map]; omega)
  | (show _ ≤ sizeLine; decide))
local macro_rules | `(tactic| walk_at "kit") => `(tactic| first
  | (show kitB _ _ = some true; decide +kernel)
  | (show kitB _ _ = some false; decide +kernel))
local macro_rules | `(tactic| walk_at "rng") => `(tactic| first
  | (refine ⟨by omega, by omega, by omega, by omega⟩)
  | (refine ⟨by omega, by omega⟩)
  | ((simp only [List.length_map]); (refine ⟨by omega, by omega, by omega, by omega⟩))
  | ((simp only [List.length_map]); (refine ⟨by omega, by omega⟩)))
local macro_rules | `(tactic| walk_at "rd1") => `(tactic| first
  | with_reducible refine r_seq ?_
  | ((with_reducible refine' r_var ?k0 ?_); (case k0 => rfl))
  | with_reducible refine r_op ?_
  | with_reducible refine r_c ?_
  | with_reducible refine r_asg ?_
  | with_reducible refine r_name ?_
  | with_reducible refine r_cons ?_
  | with_reducible refine r_nil ?_
  | with_reducible refine r_CB ?_
  | with_reducible refine r_if ?_
  | with_reducible refine r_test ?_
  | with_reducible refine r_k ?_
  | with_reducible refine r_T ?_
  | with_reducible refine r_F ?_
  | with_reducible refine r_nT ?_
  | with_reducible refine r_nF ?_
  | with_reducible refine r_ret ?_
  | with_reducible refine r_drop ?_
  | with_reducible refine r_next ?_
  | with_reducible refine r_call ?_
  | with_reducible refine r_addI ?_
  | with_reducible refine r_subI ?_
  | with_reducible refine r_ltI ?_
  | with_reducible refine r_gtI ?_
  | with_reducible refine r_leI ?_
  | with_reducible refine r_geI ?_
  | with_reducible refine r_eqI ?_
  | with_reducible refine r_neI ?_
  | with_reducible refine r_int ?_
  | with_reducible refine r_abs ?_
  | with_reducible refine r_not ?_
  | with_reducible refine r_and ?_
  | with_reducible refine r_or ?_
  | with_reducible refine r_tru ?_
  | with_reducible refine r_truB ?_
  | with_reducible refine r_lst ?_
  | with_reducible refine r_tup ?_
  | with_reducible refine r_BM ?_
  | with_reducible refine r_BM0 ?_
  | with_reducible refine r_tyS ?_
  | with_reducible refine r_gsub ?_
  | with_reducible refine r_then ?_
  | with_reducible refine r_lstRg ?_
  | with_reducible refine r_tupRg ?_
  | with_reducible refine r_rg2 ?_
  | with_reducible refine r_rg1 ?_
  | with_reducible refine r_ii ?_
  | with_reducible refine r_i ?_
  | with_reducible refine r_ipI ?_
  | with_reducible refine r_un ?_
  | with_reducible refine r_neg ?_
  | with_reducible refine r_isN ?_
  | with_reducible refine r_notN ?_
  | with_reducible refine r_notV ?_
  | with_reducible refine r_pnot ?_
  | with_reducible refine r_pif ?_
  | with_reducible refine r_andV ?_
  | with_reducible refine r_orV ?_
  | with_reducible refine r_ifE ?_
  | with_reducible refine r_chain ?_
  | with_reducible refine r_sl ?_
  | with_reducible refine r_noPart ?_
  | with_reducible refine r_part ?_
  | with_reducible refine r_brk ?_
  | with_reducible refine r_cont ?_
  | with_reducible refine r_retN ?_
  | with_reducible refine r_truI ?_
  | with_reducible refine r_B ?_
  | with_reducible refine r_for ?_
  | with_reducible refine r_rng1 ?_
  | with_reducible refine r_rng2 ?_
  | with_reducible refine r_rng3 ?_
  | with_reducible refine r_body ?_
  | with_reducible refine r_lc ?_
  | with_reducible refine r_yes ?_
  | ((with_reducible refine' r_mod ?k0 ?_); (case k0 => walk_at "side"))
  | ((with_reducible refine' r_mulI ?k0 ?_); (case k0 => first | exact Or.inl ⟨by omega, by omega⟩ | exact Or.inr ⟨by omega, by omega⟩))
  | ((with_reducible refine' r_lenL ?k0 ?_); (case k0 => walk_at "tk"))
  | ((with_reducible refine' r_lenT ?k0 ?_); (case k0 => walk_at "tk"))
  | ((with_reducible refine' r_truL ?k0 ?_); (case k0 => walk_at "tk"))
  | ((with_reducible refine' r_truT ?k0 ?_); (case k0 => walk_at "tk"))
  | ((with_reducible refine' r_ixL ?k0 ?k1 ?_); (case k0 => walk_at "tk"); (case k1 => first | assumption | rfl))
  | ((with_reducible refine' r_ixT ?k0 ?k1 ?_); (case k0 => walk_at "tk"); (case k1 => first | assumption | rfl))
  | ((with_reducible refine' r_new ?k0 ?_); (case k0 => walk_at "side"))
  | ((with_reducible refine' r_tyL ?k0 ?_); (case k0 => walk_at "tk"))
  | ((with_reducible refine' r_append ?k0 ?k1 ?_); (case k0 => walk_at "tk"); (case k1 => walk_at "side"))
  | ((with_reducible refine' r_setL ?k0 ?k1 ?_); (case k0 => walk_at "tk"); (case k1 => first | assumption | rfl))
  | ((with_reducible refine' r_kTupL ?k0 ?_); (case k0 => walk_at "tk"))
  | ((with_reducible refine' r_kTupT ?k0 ?_); (case k0 => walk_at "tk"))
  | ((with_reducible refine' r_listL ?k0 ?_); (case k0 => walk_at "tk"))
  | ((with_reducible refine' r_listT ?k0 ?_); (case k0 => walk_at "tk"))
  | ((with_reducible refine' r_aug ?k0 ?_); (case k0 => rfl))
  | ((with_reducible refine' r_lenS ?k0 ?_); (case k0 => walk_at "side"))
  | ((with_reducible refine' r_pop ?k0 ?_); (case k0 => walk_at "tk"))
  | ((with_reducible refine' r_pr1 ?k0 ?_); (case k0 => walk_at "rng"))
  | ((with_reducible refine' r_pr2 ?k0 ?_); (case k0 => walk_at "rng"))
  | ((with_reducible refine' r_pr3d ?k0 ?_); (case k0 => walk_at "rng"))
  | ((with_reducible refine' r_isiI ?k0 ?_); (case k0 => walk_at "kit"))
  | ((with_reducible refine' r_isiB ?k0 ?_); (case k0 => walk_at "kit"))
  | ((with_reducible refine' r_isiS ?k0 ?_); (case k0 => walk_at "kit"))
  | ((with_reducible refine' r_isiN ?k0 ?_); (case k0 => walk_at "kit"))
  | ((with_reducible refine' r_isiT ?k0 ?k1 ?_); (case k0 => walk_at "tk"); (case k1 => walk_at "kit"))
  | ((with_reducible refine r_seqT ?_); (repeat (walk_at "rd1")); ((with_reducible refine' r_pseqT ?k0 ?_); (case k0 => walk_at "tk")))
  | ((with_reducible refine r_seqL ?_); (repeat (walk_at "rd1")); ((with_reducible refine' r_pseqL ?k0 ?_); (case k0 => walk_at "tk")))
  | ((with_reducible refine r_seqS ?_); (repeat (walk_at "rd1")); (with_reducible refine r_pseqS ?_)))
local macro_rules | `(tactic| walk_at "rd") => `(tactic| ((repeat (walk_at "rd1")); (try dsimp only)))

local macro_rules | `(tactic| walk_at "rd1") => `(tactic| first
  | with_reducible refine r_BMT ?_
  | with_reducible refine r_par ?_
  | with_reducible refine r_parV ?_
  | ((with_reducible refine' r_ptp ?k0 ?k1 ?_); (case k0 => walk_at "tk"); (case k1 => walk_at "tk"))
  | with_reducible refine r_eqS ?_
  | with_reducible refine r_neS ?_
  | with_reducible refine r_callW ?_
  | with_reducible refine r_try ?_
  | with_reducible refine r_enT ?_
  | ((with_reducible refine' r_pen ?k0 ?_); (case k0 => walk_at "tk")))

local macro_rules | `(tactic| walk_at "pl0") => `(tactic| first
  | assumption
  | exact pl_same (by assumption) (by assumption)
  | exact pl_same (by assumption) (pl_same (by assumption) (by assumption))
  | exact pl_same (by assumption) (pl_same (by assumption) (pl_same (by assumption) (by assumption))))
local macro_rules | `(tactic| walk_at "pl") => `(tactic| first
  | walk_at "pl0"
  | ((with_reducible refine' pl_butL ?s ?n ?k); (case s => assumption); (case n => walk_at "ne"); (case k => walk_at "pl"))
  | ((with_reducible refine' pl_same ?s ?k); (case s => assumption); (case k => walk_at "pl")))
local macro_rules | `(tactic| walk_at "ne") => `(tactic| first
  | exact ne_pl (by assumption) (by walk_at "pl0")
  | exact (ne_pl (by assumption) (by walk_at "pl0")).symm)
local macro_rules | `(tactic| walk_at "fr") => `(tactic| first
  | assumption
  | ((with_reducible refine' free_but ?b ?n ?h); (case h => assumption); (case n => walk_at "ne"); (case b => walk_at "but"))
  | ((with_reducible refine' Same.free ?b ?h); (case h => assumption); (case b => walk_at "same")))
local macro_rules | `(tactic| walk_at "but") => `(tactic| first
  | assumption
  | exact But.refl
  | ((with_reducible refine' But.trans ?a ?b); (case b => assumption); (case a => walk_at "but"))
  | ((with_reducible refine' But.trans ?a (Same.but ?b)); (case b => assumption); (case a => walk_at "but"))
  | ((with_reducible refine' but_via ?a ?b ?c); (case b => assumption); (case c => walk_at "fr"); (case a => walk_at "but")))
local macro_rules | `(tactic| walk_at "same") => `(tactic| first
  | assumption
  | exact Same.refl _
  | ((with_reducible refine' Same.trans ?a ?b); (case b => assumption); (case a => walk_at "same"))
  | ((with_reducible refine' same_but ?a ?b ?c); (case b => assumption); (case c => walk_at "fr"); (case a => walk_at "same")))
local macro_rules | `(tactic| walk_at "tk") => `(tactic| first
  | ((with_reducible refine' sqT_pl ?s ?t ?k); (case s => assumption); (case t => walk_at "pl0"); (case k => walk_at "tk"))
  | ((with_reducible refine' rp_same ?s ?k); (case s => assumption); (case k => walk_at "tk"))
  | ((with_reducible refine' rp_pl ?s ?t ?k); (case s => assumption); (case t => walk_at "pl0"); (case k => walk_at "tk")))
local macro_rules | `(tactic| walk_at "it") => `(tactic| first
  | assumption
  | ((with_reducible refine' sqI_1 ?k); (case k => assumption))
  | ((with_reducible refine' sqI_0 ?k); (case k => assumption))
  | ((with_reducible refine' sqI_of ?k); (case k => assumption))
  | ((with_reducible refine' sqI_D ?k); (case k => assumption))
  | ((with_reducible refine' sqT_same ?s ?k); (case s => assumption); (case k => walk_at "it"))
  | ((with_reducible refine' sqT_but ?s ?t ?k); (case s => assumption); (case t => assumption); (case k => walk_at "it"))
  | ((with_reducible refine' sqT_pl ?s ?t ?k); (case s => assumption); (case t => walk_at "pl0"); (case k => walk_at "it")))
local macro_rules | `(tactic| walk_at "sz") => `(tactic| first | omega | ((try simp only [List.length_cons, List.length_nil] at *); omega))
/-! a straight piece of a law's generator: draws, slices, sums, ifs -/
local macro_rules | `(tactic| walk_at "au1") => `(tactic| first
  | walk_at "rd1"
  | ((with_reducible refine' r_draw ?k0 ?k1 ?k2 ?_); (case k0 => walk_at "pl"); (case k1 => omega); (case k2 => omega); (intro _ _ _ _ _ _))
  | ((with_reducible refine' r_slN ?k0 ?_); (case k0 => walk_at "it"); (intro _ _ _ _ _ _))
  | ((with_reducible refine' r_catN ?k0 ?k1 ?k2 ?_); (case k0 => walk_at "it"); (case k1 => walk_at "it"); (case k2 => walk_at "sz"); (intro _ _ _ _ _ _))
  | ((with_reducible refine' r_pow ?k0 ?_); (case k0 => exact ⟨by decide, by decide, by decide⟩))
  | ((with_reducible refine' r_ixI ?k0 ?k1 ?k2 ?_); (case k0 => walk_at "it"); (case k1 => omega); (case k2 => omega); (intro _ _))
  | ((with_reducible refine' r_setI ?k0 ?k1 ?k2 ?_); (case k0 => walk_at "tk"); (case k1 => omega); (case k2 => omega); (intro _ _ _ _ _))
  | ((with_reducible refine' r_kTupI ?k0 ?_); (case k0 => walk_at "tk"); (intro _ _ _ _ _))
  | ((with_reducible refine' r_listI ?k0 ?_); (case k0 => walk_at "it"); (intro _ _ _ _ _))
  | (with_reducible refine r_revU ?_)
  | ((with_reducible refine' r_prevN ?k0 ?_); (case k0 => walk_at "it"); (intro _ _ _ _ _ _))
  | (intro _ _ _ _ _))
local macro_rules | `(tactic| walk_at "go") => `(tactic| ((repeat (walk_at "au1")); (first
  | ((with_reducible refine r_ite (fun _ => ?_) (fun _ => ?_)) <;> (walk_at "go"))
  | ((with_reducible refine r_iteN (fun _ => ?_) (fun _ => ?_)) <;> (walk_at "go"))
  | dsimp only
  | skip)))

local macro_rules | `(tactic| walk_at "au1") => `(tactic| first
  | with_reducible refine r_revS ?_
  | ((with_reducible refine' r_prevSN ?k0 ?_); (case k0 => walk_at "sz"); (intro _ _))
  | ((with_reducible refine' r_slSN ?k0 ?_); (case k0 => walk_at "sz"); (intro _ _))
  | ((with_reducible refine' r_catSN ?k0 ?_); (case k0 => walk_at "sz"); (intro _ _))
  | ((with_reducible refine' r_lenSS ?k0 ?_); (case k0 => walk_at "sz")))

def sp_law (K : PySem.W.Frag) : Sp := fun vs H Q _ => ∃ (a : Addr) (ns : List Int), vs = [.ref a] ∧ SqL K H a (ns.map V.int) ∧ ns.length ≤ 63 ∧ ∀ H', Q (.bl true) H'
abbrev N_law : List Str := ["script", "pool", "stage", "text", "more", "other", "change", "full", "told", "far", "strange", "k", "at", "sign", "place"]
def t_law (K : PySem.W.Frag) : TS :=
  tSeq (tAsg ((tCall (sp_law_pool K) [] E0 (tCons (tVar 0) (tCons ((tC (.int 0))) tNil)))) (gName 1))
  (tSeq (tAsg ((tOp (rAddU K) ((tC (.int 1))) ((tCall (sp_law_draw K) [] E0 (tCons (tVar 1) (tCons ((tC (.int 12))) tNil)))))) (gName 2))
  (tSeq (tAsg ((tCall (sp_law_bent_text K) [] E0 (tCons ((tCall (sp_law_pool K) [] E0 (tCons (tVar 0) (tCons ((tC (.int 1))) tNil)))) (tCons ((tCall (sp_law_text K) [] E0 (tCons (tVar 1) (tCons (tVar 2) tNil)))) tNil)))) (gName 3))
  (tSeq (tIfS ((tNot ((tTru K ((tCall (sp_law_answered K) [] E0 (tCons (tVar 2) (tCons (tVar 3) tNil)))))))) ((tRet ((tC (.bl false))))) (tNext))
  (tSeq (tAsg ((tCall (sp_law_pool K) [] E0 (tCons (tVar 0) (tCons ((tC (.int 2))) tNil)))) (gName 4))
  (tSeq (tAsg ((tOp (rAddU K) ((tC (.int 1))) ((tCall (sp_law_draw K) [] E0 (tCons (tVar 4) (tCons ((tC (.int 12))) tNil)))))) (gName 5))
  (tSeq (tAsg ((tCall (sp_law_change_draw K) [] E0 (tCons (tVar 4) (tCons (tVar 2) tNil)))) (gName 6))
  (tSeq (tAsg ((tBM K "str" (rJoin K) ((tC (.str ""))) (tCons ((tLc ((iSeqU K (tVar 6))) ((gName 14)) (tYes) ((tOp (rIx K) ((tC (.str "1234567890ET"))) ((tOp rSubU (tVar 14) ((tC (.int 1))))))) [14])) tNil))) (gName 7))
  (tSeq (tIfS ((tTest (tOp (rEqU K) (tVar 7) ((tC (.str "")))))) ((tAsg ((tC (.str "x"))) (gName 7))) (tNext))
  (tSeq (tAsg ((tCall (sp_law_read K) [] E0 (tCons (tVar 2) (tCons (tVar 7) tNil)))) (gName 8))
  (tSeq (tIfS ((tOr ((tTest (tOp (rNeU K) ((tOp (rIx K) (tVar 8) ((tC (.int 0))))) ((tC (.str "")))))) ((tNot ((tTru K ((tCall (sp_law_same K) [] E0 (tCons ((tOp (rIx K) (tVar 8) ((tC (.int 2))))) (tCons (tVar 6) tNil)))))))))) ((tRet ((tC (.bl false))))) (tNext))
  (tSeq (tIfS ((tOr ((tNot ((tTru K ((tCall (sp_law_answered K) [] E0 (tCons (tVar 5) (tCons (tVar 3) tNil)))))))) ((tNot ((tTru K ((tCall (sp_law_answered K) [] E0 (tCons (tVar 5) (tCons (tVar 7) tNil)))))))))) ((tRet ((tC (.bl false))))) (tNext))
  (tSeq (tIfS ((tOr ((tNot ((tTru K ((tCall (sp_law_answered K) [] E0 (tCons (tVar 2) (tCons ((tC (.str ""))) tNil)))))))) ((tNot ((tTru K ((tCall (sp_law_answered K) [] E0 (tCons (tVar 2) (tCons ((tC (.str "x"))) tNil)))))))))) ((tRet ((tC (.bl false))))) (tNext))
  (tSeq (tAsg ((tOp (rAddU K) ((tOp (rMulU K) ((tCall (sp_law_draw K) [] E0 (tCons (tVar 4) (tCons ((tOp rPowU ((tC (.int 10))) ((tC (.int 8))))) tNil)))) ((tOp rPowU ((tC (.int 10))) ((tC (.int 8))))))) ((tCall (sp_law_draw K) [] E0 (tCons (tVar 4) (tCons ((tOp rPowU ((tC (.int 10))) ((tC (.int 8))))) tNil)))))) (gName 9))
  (tSeq (tAsg ((tOp (rIx K) ((tLst (tCons ((tC (.int 0))) (tCons ((tC (.int 13))) (tCons ((tUn (rU fun i => .int (-i)) (tVar 9))) (tCons ((tOp (rAddU K) ((tC (.int 13))) (tVar 9))) tNil)))))) ((tCall (sp_law_draw K) [] E0 (tCons (tVar 4) (tCons ((tC (.int 4))) tNil)))))) (gName 10))
  (tSeq (tIfS ((tOr ((tNot ((tTru K ((tCall (sp_law_answered K) [] E0 (tCons (tVar 10) (tCons (tVar 3) tNil)))))))) ((tNot ((tTru K ((tCall (sp_law_answered K) [] E0 (tCons (tVar 10) (tCons (tVar 7) tNil)))))))))) ((tRet ((tC (.bl false))))) (tNext))
  (tSeq (tFor (iRng1 (tCons ((tC (.int 3))) tNil)) (gName 11) (tSeq (tAsg ((tCall (sp_law_draw K) [] E0 (tCons (tVar 4) (tCons ((tOp (rAddU K) ((tCB (rLenU K) (tCons (tVar 7) tNil))) ((tC (.int 1))))) tNil)))) (gName 12))
  (tSeq (tAsg ((tOp (rIx K) ((tC (.str "1234567890ETx"))) ((tCall (sp_law_draw K) [] E0 (tCons (tVar 4) (tCons ((tC (.int 13))) tNil)))))) (gName 13))
  (tSeq (tIfS ((tNot ((tTru K ((tCall (sp_law_answered K) [] E0 (tCons (tVar 2) (tCons ((tOp (rAddU K) ((tOp (rAddU K) ((tSl (rSlU K) (tVar 7) tNoPart (tPart (tVar 12)))) (tVar 13))) ((tSl (rSlU K) (tVar 7) (tPart (tVar 12)) tNoPart)))) tNil)))))))) ((tRet ((tC (.bl false))))) (tNext))
  ((tIfS ((tNot ((tTru K ((tCall (sp_law_answered K) [] E0 (tCons (tVar 2) (tCons ((tOp (rAddU K) ((tSl (rSlU K) (tVar 7) tNoPart (tPart (tVar 12)))) ((tSl (rSlU K) (tVar 7) (tPart ((tOp (rAddU K) (tVar 12) ((tC (.int 1)))))) tNoPart)))) tNil)))))))) ((tRet ((tC (.bl false))))) (tNext)))))))
  ((tRet ((tCall (sp_law_answered K) [] E0 (tCons (tVar 2) (tCons (tVar 3) tNil))))))))))))))))))))))


def fullC (cs : List Int) : List Nat := if cs = [] then [120] else cs.map sgAt
theorem full_ok : ((List.range 13).all fun n => n == 0 || (genC (n + 1) n 0).all fun cs => decide (rdC n (fullC cs) = .inr cs)) = true := by decide +kernel
theorem full_eq {n : Nat} {cs : List Int} (h1 : 1 ≤ n) (hn : n ≤ 12) (h : Chg n cs) : rdC n (fullC cs) = .inr cs := by
  have := List.all_eq_true.mp full_ok n (List.mem_range.mpr (by omega))
  rw [Bool.or_eq_true] at this
  rcases this with z | z
  · have := beq_iff_eq.mp z; omega
  · exact of_decide_eq_true (List.all_eq_true.mp z cs (chg_all h))
section
variable {K : PySem.W.Frag} {ec : Str → Addr} {vs : List V} {H : Hp} {Q : VK} {E : XK}
theorem len_law (h : sp_law K vs H Q E) : vs.length = 1 := by obtain ⟨a, r, rfl, _⟩ := h; rfl
theorem far4 {v f : Int} (h0 : 0 ≤ v) (h1 : v < 4) (hf : 0 ≤ f) : ∃ s : Int, atI [V.int 0, .int 13, .int (-f), .int (13 + f)] v = some (.int s) := by
  have : v = 0 ∨ v = 1 ∨ v = 2 ∨ v = 3 := by omega
  rcases this with rfl | rfl | rfl | rfl
  · exact ⟨0, rfl⟩
  · exact ⟨13, rfl⟩
  · exact ⟨-f, rfl⟩
  · exact ⟨13 + f, rfl⟩
theorem p8 : (10 : Int) ^ (8 : Int).toNat = 100000000 := by decide
theorem e_S : ("" : Str) = S [] := by decide
theorem sqL_two {p p2 a : Addr} {xs : List V} {H H' : Hp} (np : H p = none) (np2 : H p2 = none) (b : ∀ c o, c ≠ p → c ≠ p2 → H c = some o → H' c = some o) (h : SqL K H a xs) : SqL K H' a xs := by
  rcases h with (h | ⟨o, h⟩) | h
  · exact .inl (.inl (b _ _ (ne_of_none h np) (ne_of_none h np2) h))
  · exact .inl (.inr ⟨o, b _ _ (ne_of_none h np) (ne_of_none h np2) h⟩)
  · exact .inr h
theorem full_if {R : TS} {D : Ends} {a p : Addr} {cs : List Int} {z2 z3 z4 z5 z6 z8 z9 z10 z11 z12 z13 z14 : Option V} {H : Hp}
    (rest : R D [some (.ref a), some (.ref p), z2, z3, z4, z5, z6, some (.str (S (fullC cs))), z8, z9, z10, z11, z12, z13, z14] H) :
    tSeq (tIfS ((tTest (tOp (rEqU K) (tVar 7) ((tC (.str "")))))) ((tAsg ((tC (.str "x"))) (gName 7))) (tNext)) R D [some (.ref a), some (.ref p), z2, z3, z4, z5, z6, some (.str (S (cs.map sgAt))), z8, z9, z10, z11, z12, z13, z14] H := by
  walk_at "rd"
  rw [S_eqD, show ("" : Str).cps.toList = [] by decide]
  refine r_ite (fun h => ?_) (fun h => ?_)
  · have : cs = [] := by simpa using h
    subst this
    walk_at "rd"
    rw [x_S]
    exact rest
  · have hne : cs ≠ [] := fun z => h (by rw [z]; rfl)
    refine r_next ?_
    unfold fullC at rest
    rw [if_neg hne] at rest
    exact rest
theorem pure_law (h : sp_law K vs H Q E) : t_law K (En Q) (start N_law vs) H := by
  obtain ⟨a, ns, rfl, hA, hn, q⟩ := h
  unfold t_law
  walk_at "rd"
  refine ⟨a, ns, 0, rfl, hA, hn, by omega, fun p H1 np s1 hp1 => ?_⟩
  walk_at "rd"
  refine r_draw hp1 (by omega) (by omega) fun v H2 v0 v1 b2 hp2 => ?_
  obtain ⟨n, en⟩ : ∃ n : Nat, 1 + v = (n : Int) := ⟨(1 + v).toNat, by omega⟩
  have hn1 : 1 ≤ n := by omega
  have hn2 : n ≤ 12 := by omega
  have hS : Stg (n : Int) := ⟨by omega, by omega⟩
  have hA2 : SqL K H2 a (ns.map V.int) := sqL_via np (by walk_at "but") hA
  walk_at "rd"
  rw [en]
  refine ⟨a, ns, 1, rfl, hA2, hn, by omega, fun p2 H3 np2 s3 hp3 => ?_⟩
  have hpp3 := pl_same s3 hp2
  walk_at "rd"
  refine ⟨p, n, rfl, hpp3, hn1, hn2, fun l0 H4 b4 hp4 ll0 => ?_⟩
  have pne : p ≠ p2 := (ne_pl np2 hp2).symm
  have hq4 : Pl H4 p2 := pl_butL b4 pne.symm hp3
  walk_at "rd"
  refine ⟨p2, l0, rfl, hq4, ll0, fun l H5 b5 hq5 ll => ?_⟩
  have npH : H p2 = none := by
    cases e : H p2 with
    | none => rfl
    | some u => rw [b2 _ _ pne.symm (s1 _ _ e)] at np2; cases np2
  have hA5 : SqL K H5 a (ns.map V.int) := sqL_two np npH (fun c o n1 n2 e => b5 _ _ n2 (b4 _ _ n1 (s3 _ _ (b2 _ _ n1 (s1 _ _ e))))) hA
  refine r_name ?_
  walk_at "rd"
  refine ⟨n, l, rfl, by omega, fun H6 s6 => ?_⟩
  walk_at "rd"
  refine ⟨a, ns, 2, rfl, sqL_same s6 hA5, hn, by omega, fun m H7 nm s7 hm7 => ?_⟩
  walk_at "rd"
  refine r_draw hm7 (by omega) (by omega) fun w H8 w0 w1 b8 hm8 => ?_
  walk_at "rd"
  refine ⟨m, n, rfl, hm8, hn1, hn2, fun f H9 cs nf b9 hm9 ef hc => ?_⟩
  have clen := hc.len (by omega)
  have flen : (fullC cs).length ≤ 12 := by
    unfold fullC
    split
    · decide
    · rw [List.length_map]; omega
  walk_at "rd"
  refine lc_signsT (by show 14 < 15; decide) ef (fun x hx => by have := hc.mem x hx; omega) (by omega) fun q1 H10 nq1 s10 e10 => ?_
  walk_at "rd"
  refine join_signs e10 (by omega) ?_
  refine r_name ?_
  refine full_if ?_
  have ef10 := sqT_same s10 ef
  have hm10 := pl_same s10 hm9
  have hd : dueT n (fullC cs) = (("" : Str), 0, Dat.tup (cs.map Dat.int)) := due_yes hS (full_eq hn1 hn2 hc)
  walk_at "rd"
  refine ⟨n, fullC cs, rfl, by omega, fun o H11 v11 s11 e11 r11 => ?_⟩
  rw [hd] at e11 r11
  have ef11 := sqT_same s11 ef10
  refine r_name ?_
  walk_at "rd"
  refine r_iteNP rfl ?_
  walk_at "rd"
  refine ⟨_, _, _, rfl, r11, rp_ints ef11, by rw [size_row]; omega, fun H12 s12 => ?_⟩
  walk_at "rd"
  refine ⟨_, l, rfl, by omega, fun H13 s13 => ?_⟩
  walk_at "rd"
  refine ⟨_, fullC cs, rfl, by omega, fun H14 s14 => ?_⟩
  walk_at "rd"
  refine ⟨n, [], by rw [← e_S]; rfl, by simp, fun H15 s15 => ?_⟩
  walk_at "rd"
  refine ⟨n, [120], by rw [← x_S]; rfl, by simp, fun H16 s16 => ?_⟩
  have hm16 : Pl H16 m := pl_same s16 (pl_same s15 (pl_same s14 (pl_same s13 (pl_same s12 (pl_same s11 hm10)))))
  walk_at "rd"
  refine r_pow ⟨by decide, by decide, by decide⟩ ?_
  rw [p8]
  walk_at "rd"
  refine r_draw hm16 (by omega) (by omega) fun f1 H17 c0 c1 b17 hm17 => ?_
  walk_at "rd"
  refine r_pow ⟨by decide, by decide, by decide⟩ ?_
  rw [p8]
  walk_at "rd"
  refine r_pow ⟨by decide, by decide, by decide⟩ ?_
  rw [p8]
  walk_at "rd"
  refine r_draw hm17 (by omega) (by omega) fun f2 H18 c2 c3 b18 hm18 => ?_
  walk_at "rd"
  intro o2 H19 no2 s19 e19
  have hm19 := pl_same s19 hm18
  walk_at "rd"
  refine r_draw hm19 (by omega) (by omega) fun f3 H20 c4 c5 b20 hm20 => ?_
  have e20 := b20 _ _ (ne_pl no2 hm18) e19
  obtain ⟨st, es⟩ := far4 (f := f1 * 100000000 + f2) c4 c5 (by omega)
  refine r_ixL (sqL_of e20) es ?_
  walk_at "rd"
  refine ⟨st, l, rfl, by omega, fun H21 s21 => ?_⟩
  walk_at "rd"
  refine ⟨st, fullC cs, rfl, by omega, fun H22 s22 => ?_⟩
  have hm22 : Pl H22 m := pl_same s22 (pl_same s21 hm20)
  walk_at "rd"
  refine r_forRange0 (fun i σ' H' => ∃ (z11 z12 z13 z14 : Option V), σ' = [some (.ref a), some (.ref p), some (.int (n : Int)), some (.str (S l)), some (.ref m), some (.int (1 + w)), some (.ref f), some (.str (S (fullC cs))), some (.ref o), some (.int (f1 * 100000000 + f2)), some (.int st), z11, z12, z13, z14] ∧ Pl H' m)
    ⟨_, _, _, _, rfl, hm22⟩ (fun i σ' H' hi hW => ?_) (fun σ' H' hW => ?_)
  · obtain ⟨z11, z12, z13, z14, rfl, hm⟩ := hW
    walk_at "rd"
    refine r_lenSS (by omega) ?_
    walk_at "rd"
    refine r_draw hm (by omega) (by omega) fun at' H23 d0 d1 b23 hm23 => ?_
    walk_at "rd"
    refine r_draw hm23 (by omega) (by omega) fun u H24 d2 d3 b24 hm24 => ?_
    refine r_ixC (k := 13) (by decide) (by decide) d2 d3 fun c => ?_
    walk_at "rd"
    refine r_slSN (by omega) fun x1 l1 => ?_
    walk_at "rd"
    refine r_catSN (by simp; omega) fun x2 l2 => ?_
    walk_at "rd"
    refine r_slSN (by omega) fun x3 l3 => ?_
    have l2' : x2.length = x1.length + 1 := l2
    refine r_catSN (by omega) fun x4 l4 => ?_
    walk_at "rd"
    refine ⟨n, x4, rfl, by omega, fun H25 s25 => ?_⟩
    walk_at "rd"
    refine r_slSN (by omega) fun x5 l5 => ?_
    walk_at "rd"
    refine r_slSN (by omega) fun x6 l6 => ?_
    refine r_catSN (by omega) fun x7 l7 => ?_
    walk_at "rd"
    refine ⟨n, x7, rfl, by omega, fun H26 s26 => ?_⟩
    walk_at "rd"
    exact ⟨_, _, _, _, rfl, pl_same s26 (pl_same s25 hm24)⟩
  · obtain ⟨z11, z12, z13, z14, rfl, hm⟩ := hW
    walk_at "rd"
    exact ⟨n, l, rfl, by omega, fun H27 s27 => q H27⟩
end
end Kb

set_option Elab.async false
set_option linter.all false
set_option maxRecDepth 100000
set_option maxHeartbeats 4000000
namespace Kb
open PySem PySem.Spec PyProof.Rows L2
def top (i : Nat) : Stmt := PySem.Challenge.pw_ringingchamber_k09_texts_of_changes.main.body.getD i (.Pass ⟨0, 0, 0, 0⟩)
abbrev s_check_stage : Stmt := top 8
abbrev s_place_of : Stmt := top 10
abbrev s_may_follow : Stmt := top 11
abbrev s_change_of : Stmt := top 12
abbrev s_read_change : Stmt := top 13
abbrev s_law_cell : Stmt := top 15
abbrev s_law_pool : Stmt := top 16
abbrev s_law_draw : Stmt := top 17
abbrev s_law_change_draw : Stmt := top 18
abbrev s_law_same : Stmt := top 19
abbrev s_law_sign : Stmt := top 20
abbrev s_law_text : Stmt := top 21
abbrev s_law_bent_text : Stmt := top 22
abbrev s_law_valid : Stmt := top 23
abbrev s_law_due : Stmt := top 24
abbrev s_law_read : Stmt := top 25
abbrev s_law_answered : Stmt := top 26
abbrev s_law : Stmt := top 27
structure Bn (mg : Str → Option Value) : Prop where
  n_ValueError : mg "ValueError" = none
  n_abs : mg "abs" = none
  n_bool : mg "bool" = none
  n_enumerate : mg "enumerate" = none
  n_int : mg "int" = none
  n_isinstance : mg "isinstance" = none
  n_len : mg "len" = none
  n_list : mg "list" = none
  n_range : mg "range" = none
  n_str : mg "str" = none
  n_tuple : mg "tuple" = none
  c_SIGNS : ∃ t, mg "SIGNS" = some (.str "1234567890ET" t)
abbrev i_ChamberError : Stmt := inClass (top 1) 0
abbrev i_BadStage : Stmt := inClass (top 2) 0
abbrev i_BadNotation : Stmt := inClass (top 4) 0
section
variable {P : Program} {w : World} {K : PySem.W.Frag} {mg : Str → Option Value} {base : Heap}
theorem sc_check_stage : FnScope N_check_stage ["stage"] (defScope s_check_stage) := ⟨rfl, rfl, rfl, by decide +kernel, rfl, by decide +kernel, by decide +kernel⟩
theorem ok_check_stage (D : At K mg "check_stage" s_check_stage) (B : Bn mg) {ec : Str → Addr} (XS : Exs K ec XN) (EX : ExAt mg ec XN) (Z_BadStage : Rz0 P w K mg base "BadStage" (ec "BadStage")) : Fn P w K mg base (L2.CX P w) 4 "check_stage" ["stage"] (sp_check_stage K ec) := by
  obtain ⟨f, fd, F, hm⟩ := D
  refine ⟨f, fd, F.okX sc_check_stage (fun vs H Q E h => len_check_stage h) (fun cdv A outer s H vs Q E hr h => ⟨t_check_stage K ec E, ?_, pure_check_stage XS h⟩), hm, F.kp, F.binds fun _ _ _ _ _ _ us hl => match us, hl with | [_], _ => rfl⟩
  have nd := sc_check_stage.nd
  exact pss_one (ps_if ((pt_not ((pt_chain (op_leU hr.units) (op_leU hr.units) (pe_int) (pv 0) ((pe_callB call_lenU (by rfl) B.n_len (by decide +kernel) (pa_cons ((pe_glob rfl B.c_SIGNS.choose_spec ⟨_, rfl⟩)) pa_nil))))))) (pss_one (ps_rz0 rfl (takes_of rfl rfl rfl rfl) Z_BadStage (hr.mono (by decide)) (by rfl))) (pss_nil))

theorem sc_place_of : FnScope N_place_of ["stage", "sign"] (defScope s_place_of) := ⟨rfl, rfl, rfl, by decide +kernel, rfl, by decide +kernel, by decide +kernel⟩
theorem ok_place_of (D : At K mg "place_of" s_place_of) (B : Bn mg) : Fn P w K mg base CX0 1 "place_of" ["stage", "sign"] (sp_place_of K) := by
  obtain ⟨f, fd, F, hm⟩ := D
  refine ⟨f, fd, F.ok sc_place_of (fun vs H Q E h => len_place_of h) (fun cdv A outer s H vs Q E hr h => ⟨t_place_of K, ?_, pure_place_of h⟩), hm, F.kp, F.binds fun _ _ _ _ _ _ us hl => match us, hl with | [_, _], _ => rfl⟩
  have nd := sc_place_of.nd
  exact pss_cons (ps_set (i := 2) nd rfl (Or.inl rfl) ((pe_op op_addU ((pe_bm PySem.F.plainAttrs_str PySem.F.slot_str_find PySem.F.type_str_find mt_find ((pe_glob rfl B.c_SIGNS.choose_spec ⟨_, rfl⟩)) (pa_cons (pv 1) pa_nil))) (pe_int))))
      (pss_cons (ps_if ((pt_cmpR op_gtU (pv 2) (pv 0) (nomark _))) (pss_one (ps_ret (pe_int))) (pss_nil))
      (pss_one (ps_ret (pv 2))))

theorem sc_may_follow : FnScope N_may_follow ["last", "place"] (defScope s_may_follow) := ⟨rfl, rfl, rfl, by decide +kernel, rfl, by decide +kernel, by decide +kernel⟩
theorem ok_may_follow (D : At K mg "may_follow" s_may_follow) (B : Bn mg) : Fn P w K mg base CX0 1 "may_follow" ["last", "place"] (sp_may_follow K) := by
  obtain ⟨f, fd, F, hm⟩ := D
  refine ⟨f, fd, F.ok sc_may_follow (fun vs H Q E h => len_may_follow h) (fun cdv A outer s H vs Q E hr h => ⟨t_may_follow K, ?_, pure_may_follow h⟩), hm, F.kp, F.binds fun _ _ _ _ _ _ us hl => match us, hl with | [_, _], _ => rfl⟩
  have nd := sc_may_follow.nd
  exact pss_one (ps_ret ((pe_and ((pe_cmpR op_gtU (pv 1) (pv 0) (nomark _))) (pe_one ((pe_cmpR (op_eqU hr.units) ((pe_op op_modU ((pe_op op_subU (pv 1) (pv 0))) (pe_int))) (pe_int) (nomark _)))))))

theorem sc_change_of : FnScope N_change_of ["stage", "places"] (defScope s_change_of) := ⟨rfl, rfl, rfl, by decide +kernel, rfl, by decide +kernel, by decide +kernel⟩
theorem ok_change_of (D : At K mg "change_of" s_change_of) (B : Bn mg) : Fn P w K mg base CX0 1 "change_of" ["stage", "places"] (sp_change_of K) := by
  obtain ⟨f, fd, F, hm⟩ := D
  refine ⟨f, fd, F.ok sc_change_of (fun vs H Q E h => len_change_of h) (fun cdv A outer s H vs Q E hr h => ⟨t_change_of K, ?_, pure_change_of h⟩), hm, F.kp, F.binds fun _ _ _ _ _ _ us hl => match us, hl with | [_, _], _ => rfl⟩
  have nd := sc_change_of.nd
  exact pss_cons (ps_set (i := 2) nd rfl (Or.inl rfl) ((pe_callTy call_listU (by rfl) B.n_list (by decide +kernel) (pa_cons (pv 1) pa_nil))))
      (pss_cons (ps_if ((PW.pt (pw_and ((pt_cmpR op_gtU ((pe_callB call_lenU (by rfl) B.n_len (by decide +kernel) (pa_cons (pv 2) pa_nil))) (pe_int) (nomark _))) (pw_and1 ((pt_cmpR (op_eqU hr.units) ((pe_op op_modU ((pe_ix ix_seq (pv 2) (pe_int) (fun _ _ => rfl))) (pe_int))) (pe_int) (nomark _))))))) (pss_one (ps_expr ((pe_bm PySem.F.plainAttrs_list PySem.F.slot_list_insert PySem.F.type_list_insert mt_insert (pv 2) (pa_cons (pe_int) (pa_cons (pe_int) pa_nil)))))) (pss_nil))
      (pss_cons (ps_if ((PW.pt (pw_and ((pt_cmpR op_gtU ((pe_callB call_lenU (by rfl) B.n_len (by decide +kernel) (pa_cons (pv 2) pa_nil))) (pe_int) (nomark _))) (pw_and1 ((pt_cmpR (op_eqU hr.units) ((pe_op op_modU ((pe_op op_subU (pv 0) ((pe_ix ix_seq (pv 2) ((pe_un un_neg (pe_int))) (fun _ _ => rfl))))) (pe_int))) (pe_int) (nomark _))))))) (pss_one (ps_expr ((pe_bm PySem.F.plainAttrs_list PySem.F.slot_list_append PySem.F.type_list_append mt_append (pv 2) (pa_cons (pv 0) pa_nil))))) (pss_nil))
      (pss_one (ps_ret ((pe_tupD (by rfl) B.n_tuple (pv 2)))))))

theorem sc_read_change : FnScope N_read_change ["stage", "text"] (defScope s_read_change) := ⟨rfl, rfl, rfl, by decide +kernel, rfl, by decide +kernel, by decide +kernel⟩
theorem ok_read_change (D : At K mg "read_change" s_read_change) (B : Bn mg) {ec : Str → Addr} (XS : Exs K ec XN) (EX : ExAt mg ec XN) (G_check_stage : Fn P w K mg base (L2.CX P w) 4 "check_stage" ["stage"] (sp_check_stage K ec)) (G_place_of : Fn P w K mg base CX0 1 "place_of" ["stage", "sign"] (sp_place_of K)) (G_may_follow : Fn P w K mg base CX0 1 "may_follow" ["last", "place"] (sp_may_follow K)) (G_change_of : Fn P w K mg base CX0 1 "change_of" ["stage", "places"] (sp_change_of K)) (Z_BadNotation : Rz1 P w K mg base "BadNotation" "column" (ec "BadNotation")) : Fn P w K mg base (L2.CX P w) 5 "read_change" ["stage", "text"] (sp_read_change K ec) := by
  obtain ⟨f, fd, F, hm⟩ := D
  refine ⟨f, fd, F.okX sc_read_change (fun vs H Q E h => len_read_change h) (fun cdv A outer s H vs Q E hr h => ⟨t_read_change K ec E, ?_, pure_read_change XS h⟩), hm, F.kp, F.binds fun _ _ _ _ _ _ us hl => match us, hl with | [_, _], _ => rfl⟩
  have nd := sc_read_change.nd
  exact pss_cons (ps_expr ((pe_callW (takes_of rfl rfl rfl rfl) G_check_stage (hr.mono (by decide)) (by rfl) (pa_cons (pv 0) pa_nil))))
      (pss_cons (ps_if ((PW.pt (pw_and ((pt_cmpR (op_eqU hr.units) ((pe_slice sl_U (pv 1) po_none (po_some (pe_int)))) (pe_str) (nomark _))) (pw_and1 ((pt_cmpR (op_eqU hr.units) ((pe_op op_modU (pv 0) (pe_int))) (pe_int) (nomark _))))))) (pss_cons (ps_if ((pt_cmpR op_gtU ((pe_callB call_lenU (by rfl) B.n_len (by decide +kernel) (pa_cons (pv 1) pa_nil))) (pe_int) (nomark _))) (pss_one (ps_rz1 rfl (takes_of rfl rfl rfl rfl) Z_BadNotation (hr.mono (by decide)) (by rfl) (pe_int))) (pss_nil))
      (pss_one (ps_ret ((pe_tup pa_nil))))) (pss_nil))
      (pss_cons (ps_set (i := 2) nd rfl (Or.inl rfl) ((pe_lst pa_nil)))
      (pss_cons (ps_for (passes_of rfl) rfl (pi_enumTxS (by rfl) B.n_enumerate (pa_cons (pv 1) pa_nil) (by decide) (by decide)) (pg_tup rfl (pgs_cons (pg_name (i := 3) nd rfl (Or.inl rfl)) (pgs_cons (pg_name (i := 4) nd rfl (Or.inl rfl)) pgs_nil))) (pss_cons (ps_set (i := 5) nd rfl (Or.inl rfl) ((pe_callF G_place_of (hr.mono (by decide)) (by rfl) pass0 (pa_cons (pv 0) (pa_cons (pv 4) pa_nil)))))
      (pss_cons (ps_if ((PW.pt (pw_or ((pt_cmpR (op_eqU hr.units) (pv 5) (pe_int) (nomark _))) (pw_or1 ((PW.pt (pw_and ((pt_cmpR op_gtU ((pe_callB call_lenU (by rfl) B.n_len (by decide +kernel) (pa_cons (pv 2) pa_nil))) (pe_int) (nomark _))) (pw_and1 ((pt_not ((pt_truU ((pe_callF G_may_follow (hr.mono (by decide)) (by rfl) pass0 (pa_cons ((pe_ix ix_seq (pv 2) ((pe_un un_neg (pe_int))) (fun _ _ => rfl))) (pa_cons (pv 5) pa_nil)))) (by intro _; rfl))))))))))))) (pss_one (ps_rz1 rfl (takes_of rfl rfl rfl rfl) Z_BadNotation (hr.mono (by decide)) (by rfl) (pv 3))) (pss_nil))
      (pss_one (ps_expr ((pe_bm PySem.F.plainAttrs_list PySem.F.slot_list_append PySem.F.type_list_append mt_append (pv 2) (pa_cons (pv 5) pa_nil))))))))
      (pss_cons (ps_if ((pt_cmpR (op_eqU hr.units) ((pe_callB call_lenU (by rfl) B.n_len (by decide +kernel) (pa_cons (pv 2) pa_nil))) (pe_int) (nomark _))) (pss_one (ps_rz1 rfl (takes_of rfl rfl rfl rfl) Z_BadNotation (hr.mono (by decide)) (by rfl) (pe_int))) (pss_nil))
      (pss_one (ps_ret ((pe_callF G_change_of (hr.mono (by decide)) (by rfl) pass0 (pa_cons (pv 0) (pa_cons (pv 2) pa_nil))))))))))

theorem sc_law_cell : FnScope N_law_cell ["script", "k"] (defScope s_law_cell) := ⟨rfl, rfl, rfl, by decide +kernel, rfl, by decide +kernel, by decide +kernel⟩
theorem ok_law_cell (D : At K mg "_law_cell" s_law_cell) (B : Bn mg) : Fn P w K mg base CX0 1 "_law_cell" ["script", "k"] (sp_law_cell K) := by
  obtain ⟨f, fd, F, hm⟩ := D
  refine ⟨f, fd, F.ok sc_law_cell (fun vs H Q E h => len_law_cell h) (fun cdv A outer s H vs Q E hr h => ⟨t_law_cell K, ?_, pure_law_cell h⟩), hm, F.kp, F.binds fun _ _ _ _ _ _ us hl => match us, hl with | [_, _], _ => rfl⟩
  have nd := sc_law_cell.nd
  exact pss_cons (ps_if ((pt_cmpR (op_ltU hr.units) (pv 1) ((pe_callB call_lenU (by rfl) B.n_len (by decide +kernel) (pa_cons (pv 0) pa_nil))) (nomark _))) (pss_one (ps_ret ((pe_callB call_absU (by rfl) B.n_abs (by decide +kernel) (pa_cons ((pe_callTy call_intU (by rfl) B.n_int (by decide +kernel) (pa_cons ((pe_ix ix_seq (pv 0) (pv 1) (fun _ _ => rfl))) pa_nil))) pa_nil))))) (pss_nil))
      (pss_cons (ps_if ((pt_cmpR (op_eqU hr.units) ((pe_callB call_lenU (by rfl) B.n_len (by decide +kernel) (pa_cons (pv 0) pa_nil))) (pe_int) (nomark _))) (pss_one (ps_ret (pe_int))) (pss_nil))
      (pss_one (ps_ret ((pe_op op_modU ((pe_callB call_absU (by rfl) B.n_abs (by decide +kernel) (pa_cons ((pe_callTy call_intU (by rfl) B.n_int (by decide +kernel) (pa_cons ((pe_ix ix_seq (pv 0) ((pe_op op_modU ((pe_callTy call_intU (by rfl) B.n_int (by decide +kernel) (pa_cons (pv 1) pa_nil))) ((pe_callB call_lenU (by rfl) B.n_len (by decide +kernel) (pa_cons (pv 0) pa_nil))))) (fun _ _ => rfl))) pa_nil))) pa_nil))) (pe_int))))))

theorem sc_law_pool : FnScope N_law_pool ["script", "k"] (defScope s_law_pool) := ⟨rfl, rfl, rfl, by decide +kernel, rfl, by decide +kernel, by decide +kernel⟩
theorem ok_law_pool (D : At K mg "_law_pool" s_law_pool) (B : Bn mg) (G_law_cell : Fn P w K mg base CX0 1 "_law_cell" ["script", "k"] (sp_law_cell K)) : Fn P w K mg base CX0 2 "_law_pool" ["script", "k"] (sp_law_pool K) := by
  obtain ⟨f, fd, F, hm⟩ := D
  refine ⟨f, fd, F.ok sc_law_pool (fun vs H Q E h => len_law_pool h) (fun cdv A outer s H vs Q E hr h => ⟨t_law_pool K, ?_, pure_law_pool h⟩), hm, F.kp, F.binds fun _ _ _ _ _ _ us hl => match us, hl with | [_, _], _ => rfl⟩
  have nd := sc_law_pool.nd
  exact pss_cons (ps_set (i := 2) nd rfl (Or.inl rfl) ((pe_callF G_law_cell (hr.mono (by decide)) (by rfl) pass0 (pa_cons (pv 0) (pa_cons (pv 1) pa_nil)))))
      (pss_cons (ps_if ((pt_cmpR op_geU (pv 2) ((pe_op op_powU (pe_int) (pe_int))) (nomark _))) (pss_one (ps_ret ((pe_lst (pa_cons ((pe_op op_subU (pv 2) ((pe_op op_powU (pe_int) (pe_int))))) (pa_cons ((pe_op op_modU ((pe_callTy call_intU (by rfl) B.n_int (by decide +kernel) (pa_cons (pv 2) pa_nil))) (pe_int))) (pa_cons (pe_int) pa_nil))))))) (pss_nil))
      (pss_one (ps_ret ((pe_lst (pa_cons (pe_int) (pa_cons ((pe_op op_addU (pv 2) ((pe_op op_mulU (pe_int) ((pe_op op_addU (pv 1) (pe_int))))))) (pa_cons (pe_int) pa_nil))))))))

theorem sc_law_draw : FnScope N_law_draw ["pool", "many"] (defScope s_law_draw) := ⟨rfl, rfl, rfl, by decide +kernel, rfl, by decide +kernel, by decide +kernel⟩
theorem ok_law_draw (D : At K mg "_law_draw" s_law_draw) (B : Bn mg) : Fn P w K mg base CX0 1 "_law_draw" ["pool", "many"] (sp_law_draw K) := by
  obtain ⟨f, fd, F, hm⟩ := D
  refine ⟨f, fd, F.ok sc_law_draw (fun vs H Q E h => len_law_draw h) (fun cdv A outer s H vs Q E hr h => ⟨t_law_draw K, ?_, pure_law_draw h⟩), hm, F.kp, F.binds fun _ _ _ _ _ _ us hl => match us, hl with | [_, _], _ => rfl⟩
  have nd := sc_law_draw.nd
  exact pss_cons (ps_asg ((pe_op op_addU ((pe_ix ix_seq (pv 0) (pe_int) (fun _ _ => rfl))) (pe_int))) (pg_sub (pv 0) (pe_int) set_list))
      (pss_cons (ps_if ((pt_cmpR op_gtU ((pe_ix ix_seq (pv 0) (pe_int) (fun _ _ => rfl))) (pe_int) (nomark _))) (pss_cons (ps_set (i := 2) nd rfl (Or.inl rfl) ((pe_op op_modU ((pe_callTy call_intU (by rfl) B.n_int (by decide +kernel) (pa_cons ((pe_ix ix_seq (pv 0) (pe_int) (fun _ _ => rfl))) pa_nil))) (pv 1))))
      (pss_cons (ps_asg ((pe_op op_fdivU ((pe_ix ix_seq (pv 0) (pe_int) (fun _ _ => rfl))) (pv 1))) (pg_sub (pv 0) (pe_int) set_list))
      (pss_one (ps_ret (pv 2))))) (pss_nil))
      (pss_cons (ps_set (i := 3) nd rfl (Or.inl rfl) ((pe_op op_modU ((pe_callTy call_intU (by rfl) B.n_int (by decide +kernel) (pa_cons ((pe_op op_addU ((pe_ix ix_seq (pv 0) (pe_int) (fun _ _ => rfl))) ((pe_op op_mulU (pe_int) ((pe_ix ix_seq (pv 0) (pe_int) (fun _ _ => rfl))))))) pa_nil))) (pe_int))))
      (pss_cons (ps_set (i := 3) nd rfl (Or.inl rfl) ((pe_op op_modU ((pe_callTy call_intU (by rfl) B.n_int (by decide +kernel) (pa_cons ((pe_op op_addU ((pe_op op_addU ((pe_op op_mulU (pv 3) (pv 3))) ((pe_op op_mulU (pe_int) ((pe_ix ix_seq (pv 0) (pe_int) (fun _ _ => rfl))))))) ((pe_ix ix_seq (pv 0) (pe_int) (fun _ _ => rfl))))) pa_nil))) (pe_int))))
      (pss_cons (ps_set (i := 3) nd rfl (Or.inl rfl) ((pe_op op_modU ((pe_callTy call_intU (by rfl) B.n_int (by decide +kernel) (pa_cons ((pe_op op_addU ((pe_op op_mulU (pv 3) (pv 3))) (pe_int))) pa_nil))) (pe_int))))
      (pss_one (ps_ret ((pe_op op_modU ((pe_callTy call_intU (by rfl) B.n_int (by decide +kernel) (pa_cons ((pe_op op_fdivU (pv 3) (pe_int))) pa_nil))) (pv 1)))))))))

theorem sc_law_change_draw : FnScope N_law_change_draw ["pool", "stage"] (defScope s_law_change_draw) := ⟨rfl, rfl, rfl, by decide +kernel, rfl, by decide +kernel, by decide +kernel⟩
theorem ok_law_change_draw (D : At K mg "_law_change_draw" s_law_change_draw) (B : Bn mg) (G_law_draw : Fn P w K mg base CX0 1 "_law_draw" ["pool", "many"] (sp_law_draw K)) : Fn P w K mg base CX0 2 "_law_change_draw" ["pool", "stage"] (sp_law_change_draw K) := by
  obtain ⟨f, fd, F, hm⟩ := D
  refine ⟨f, fd, F.ok sc_law_change_draw (fun vs H Q E h => len_law_change_draw h) (fun cdv A outer s H vs Q E hr h => ⟨t_law_change_draw K, ?_, pure_law_change_draw h⟩), hm, F.kp, F.binds fun _ _ _ _ _ _ us hl => match us, hl with | [_, _], _ => rfl⟩
  have nd := sc_law_change_draw.nd
  exact pss_cons (ps_set (i := 2) nd rfl (Or.inl rfl) ((pe_lst pa_nil)))
      (pss_cons (ps_set (i := 3) nd rfl (Or.inl rfl) (pe_int))
      (pss_cons (ps_for PassesOwn.never rfl (pi_range1 (by rfl) B.n_range (pa_cons (pv 1) pa_nil)) (pg_name (i := 4) nd rfl (Or.inl rfl)) (pss_one (ps_if ((pt_cmpR (op_eqU hr.units) (pv 3) (pv 1) (nomark _))) (pss_cons (ps_expr ((pe_bm PySem.F.plainAttrs_list PySem.F.slot_list_append PySem.F.type_list_append mt_append (pv 2) (pa_cons (pv 3) pa_nil))))
      (pss_one (ps_set (i := 3) nd rfl (Or.inl rfl) ((pe_op op_addU (pv 3) (pe_int)))))) (pss_one (ps_if ((pt_cmpR (op_ltU hr.units) (pv 3) (pv 1) (nomark _))) (pss_one (ps_if ((pt_cmpR (op_eqU hr.units) ((pe_callF G_law_draw (hr.mono (by decide)) (by rfl) pass0 (pa_cons (pv 0) (pa_cons (pe_int) pa_nil)))) (pe_int) (nomark _))) (pss_cons (ps_expr ((pe_bm PySem.F.plainAttrs_list PySem.F.slot_list_append PySem.F.type_list_append mt_append (pv 2) (pa_cons (pv 3) pa_nil))))
      (pss_one (ps_set (i := 3) nd rfl (Or.inl rfl) ((pe_op op_addU (pv 3) (pe_int)))))) (pss_one (ps_set (i := 3) nd rfl (Or.inl rfl) ((pe_op op_addU (pv 3) (pe_int))))))) (pss_nil))))))
      (pss_one (ps_ret ((pe_tupD (by rfl) B.n_tuple (pv 2)))))))

theorem sc_law_same : FnScope N_law_same ["got", "due"] (defScope s_law_same) := ⟨rfl, rfl, rfl, by decide +kernel, rfl, by decide +kernel, by decide +kernel⟩
theorem ok_law_same (D : At K mg "_law_same" s_law_same) (B : Bn mg) : Fn P w K mg base CX0 1 "_law_same" ["got", "due"] (sp_law_same K) := by
  obtain ⟨f, fd, F, hm⟩ := D
  refine ⟨f, fd, F.ok sc_law_same (fun vs H Q E h => len_law_same h) (fun cdv A outer s H vs Q E hr h => ⟨t_law_same K, ?_, pure_law_same h⟩), hm, F.kp, F.binds fun _ _ _ _ _ _ us hl => match us, hl with | [_, _], _ => rfl⟩
  have nd := sc_law_same.nd
  exact pss_cons (ps_set (i := 2) nd rfl (Or.inl rfl) ((pe_lst (pa_cons ((pe_lst (pa_cons (pv 0) (pa_cons (pv 1) pa_nil)))) pa_nil))))
      (pss_cons (ps_while PassesOwn.never ((pt_truU (pv 2) (by intro _; rfl))) (pss_cons (ps_set (i := 3) nd rfl (Or.inl rfl) ((pe_bm0 PySem.F.plainAttrs_list PySem.F.slot_list_pop PySem.F.type_list_pop mt_pop (pv 2))))
      (pss_one (ps_if ((pt_truU ((pe_callB call_isi (by rfl) B.n_isinstance (by decide +kernel) (pa_cons ((pe_ix ix_seq (pv 3) (pe_int) (fun _ _ => rfl))) (pa_cons ((pe_bltn (by rfl) B.n_tuple (by decide +kernel) rfl)) pa_nil)))) (by intro _; rfl))) (pss_cons (ps_if ((PW.pt (pw_or ((pt_not ((pt_truU ((pe_callB call_isi (by rfl) B.n_isinstance (by decide +kernel) (pa_cons ((pe_ix ix_seq (pv 3) (pe_int) (fun _ _ => rfl))) (pa_cons ((pe_bltn (by rfl) B.n_tuple (by decide +kernel) rfl)) pa_nil)))) (by intro _; rfl))))) (pw_or1 ((pt_cmpR (op_neU hr.units) ((pe_callB call_lenU (by rfl) B.n_len (by decide +kernel) (pa_cons ((pe_ix ix_seq (pv 3) (pe_int) (fun _ _ => rfl))) pa_nil))) ((pe_callB call_lenU (by rfl) B.n_len (by decide +kernel) (pa_cons ((pe_ix ix_seq (pv 3) (pe_int) (fun _ _ => rfl))) pa_nil))) (nomark _))))))) (pss_one (ps_ret (pe_bl))) (pss_nil))
      (pss_one (ps_for PassesOwn.never rfl (pi_range1 (by rfl) B.n_range (pa_cons ((pe_callB call_lenU (by rfl) B.n_len (by decide +kernel) (pa_cons ((pe_ix ix_seq (pv 3) (pe_int) (fun _ _ => rfl))) pa_nil))) pa_nil)) (pg_name (i := 4) nd rfl (Or.inl rfl)) (pss_one (ps_expr ((pe_bm PySem.F.plainAttrs_list PySem.F.slot_list_append PySem.F.type_list_append mt_append (pv 2) (pa_cons ((pe_lst (pa_cons ((pe_ix ix_seq ((pe_ix ix_seq (pv 3) (pe_int) (fun _ _ => rfl))) (pv 4) (fun _ _ => rfl))) (pa_cons ((pe_ix ix_seq ((pe_ix ix_seq (pv 3) (pe_int) (fun _ _ => rfl))) (pv 4) (fun _ _ => rfl))) pa_nil)))) pa_nil)))))))) (pss_one (ps_if ((pt_truU ((pe_callB call_isi (by rfl) B.n_isinstance (by decide +kernel) (pa_cons ((pe_ix ix_seq (pv 3) (pe_int) (fun _ _ => rfl))) (pa_cons ((pe_bltn (by rfl) B.n_bool (by decide +kernel) rfl)) pa_nil)))) (by intro _; rfl))) (pss_one (ps_if ((PW.pt (pw_or ((pt_not ((pt_truU ((pe_callB call_isi (by rfl) B.n_isinstance (by decide +kernel) (pa_cons ((pe_ix ix_seq (pv 3) (pe_int) (fun _ _ => rfl))) (pa_cons ((pe_bltn (by rfl) B.n_bool (by decide +kernel) rfl)) pa_nil)))) (by intro _; rfl))))) (pw_or1 ((pt_cmpR (op_neU hr.units) ((pe_ix ix_seq (pv 3) (pe_int) (fun _ _ => rfl))) ((pe_ix ix_seq (pv 3) (pe_int) (fun _ _ => rfl))) (nomark _))))))) (pss_one (ps_ret (pe_bl))) (pss_nil))) (pss_one (ps_if ((pt_truU ((pe_callB call_isi (by rfl) B.n_isinstance (by decide +kernel) (pa_cons ((pe_ix ix_seq (pv 3) (pe_int) (fun _ _ => rfl))) (pa_cons ((pe_bltn (by rfl) B.n_int (by decide +kernel) rfl)) pa_nil)))) (by intro _; rfl))) (pss_one (ps_if ((PW.pt (pw_or ((pt_not ((pt_truU ((pe_callB call_isi (by rfl) B.n_isinstance (by decide +kernel) (pa_cons ((pe_ix ix_seq (pv 3) (pe_int) (fun _ _ => rfl))) (pa_cons ((pe_bltn (by rfl) B.n_int (by decide +kernel) rfl)) pa_nil)))) (by intro _; rfl))))) (pw_or ((pt_truU ((pe_callB call_isi (by rfl) B.n_isinstance (by decide +kernel) (pa_cons ((pe_ix ix_seq (pv 3) (pe_int) (fun _ _ => rfl))) (pa_cons ((pe_bltn (by rfl) B.n_bool (by decide +kernel) rfl)) pa_nil)))) (by intro _; rfl))) (pw_or1 ((pt_cmpR (op_neU hr.units) ((pe_ix ix_seq (pv 3) (pe_int) (fun _ _ => rfl))) ((pe_ix ix_seq (pv 3) (pe_int) (fun _ _ => rfl))) (nomark _)))))))) (pss_one (ps_ret (pe_bl))) (pss_nil))) (pss_one (ps_if ((pt_truU ((pe_callB call_isi (by rfl) B.n_isinstance (by decide +kernel) (pa_cons ((pe_ix ix_seq (pv 3) (pe_int) (fun _ _ => rfl))) (pa_cons ((pe_bltn (by rfl) B.n_str (by decide +kernel) rfl)) pa_nil)))) (by intro _; rfl))) (pss_one (ps_if ((PW.pt (pw_or ((pt_not ((pt_truU ((pe_callB call_isi (by rfl) B.n_isinstance (by decide +kernel) (pa_cons ((pe_ix ix_seq (pv 3) (pe_int) (fun _ _ => rfl))) (pa_cons ((pe_bltn (by rfl) B.n_str (by decide +kernel) rfl)) pa_nil)))) (by intro _; rfl))))) (pw_or1 ((pt_cmpR (op_neU hr.units) ((pe_ix ix_seq (pv 3) (pe_int) (fun _ _ => rfl))) ((pe_ix ix_seq (pv 3) (pe_int) (fun _ _ => rfl))) (nomark _))))))) (pss_one (ps_ret (pe_bl))) (pss_nil))) (pss_one (ps_if ((pt_cmpR op_notNU ((pe_ix ix_seq (pv 3) (pe_int) (fun _ _ => rfl))) (pe_non) (nomark _))) (pss_one (ps_ret (pe_bl))) (pss_nil)))))))))))))
      (pss_one (ps_ret (pe_bl))))

theorem sc_law_sign : FnScope N_law_sign ["pool"] (defScope s_law_sign) := ⟨rfl, rfl, rfl, by decide +kernel, rfl, by decide +kernel, by decide +kernel⟩
theorem ok_law_sign (D : At K mg "_law_sign" s_law_sign) (B : Bn mg) (G_law_draw : Fn P w K mg base CX0 1 "_law_draw" ["pool", "many"] (sp_law_draw K)) : Fn P w K mg base CX0 2 "_law_sign" ["pool"] (sp_law_sign K) := by
  obtain ⟨f, fd, F, hm⟩ := D
  refine ⟨f, fd, F.ok sc_law_sign (fun vs H Q E h => len_law_sign h) (fun cdv A outer s H vs Q E hr h => ⟨t_law_sign K, ?_, pure_law_sign h⟩), hm, F.kp, F.binds fun _ _ _ _ _ _ us hl => match us, hl with | [_], _ => rfl⟩
  have nd := sc_law_sign.nd
  exact pss_cons (ps_if ((pt_cmpR (op_eqU hr.units) ((pe_callF G_law_draw (hr.mono (by decide)) (by rfl) pass0 (pa_cons (pv 0) (pa_cons (pe_int) pa_nil)))) (pe_int) (nomark _))) (pss_one (ps_ret ((pe_ix ix_seq (pe_str) ((pe_callF G_law_draw (hr.mono (by decide)) (by rfl) pass0 (pa_cons (pv 0) (pa_cons (pe_int) pa_nil)))) (fun _ _ => rfl))))) (pss_nil))
      (pss_cons (ps_set (i := 1) nd rfl (Or.inl rfl) (pe_str))
      (pss_cons (ps_set (i := 1) nd rfl (Or.inl rfl) ((pe_op op_addU (pv 1) (pe_str))))
      (pss_one (ps_ret ((pe_ix ix_seq (pv 1) ((pe_callF G_law_draw (hr.mono (by decide)) (by rfl) pass0 (pa_cons (pv 0) (pa_cons (pe_int) pa_nil)))) (fun _ _ => rfl)))))))

theorem sc_law_text : FnScope N_law_text ["pool", "stage"] (defScope s_law_text) := ⟨rfl, rfl, rfl, by decide +kernel, rfl, by decide +kernel, by decide +kernel⟩
theorem ok_law_text (D : At K mg "_law_text" s_law_text) (B : Bn mg) (G_law_draw : Fn P w K mg base CX0 1 "_law_draw" ["pool", "many"] (sp_law_draw K)) (G_law_sign : Fn P w K mg base CX0 2 "_law_sign" ["pool"] (sp_law_sign K)) (G_law_change_draw : Fn P w K mg base CX0 2 "_law_change_draw" ["pool", "stage"] (sp_law_change_draw K)) : Fn P w K mg base CX0 3 "_law_text" ["pool", "stage"] (sp_law_text K) := by
  obtain ⟨f, fd, F, hm⟩ := D
  refine ⟨f, fd, F.ok sc_law_text (fun vs H Q E h => len_law_text h) (fun cdv A outer s H vs Q E hr h => ⟨t_law_text K, ?_, pure_law_text h⟩), hm, F.kp, F.binds fun _ _ _ _ _ _ us hl => match us, hl with | [_, _], _ => rfl⟩
  have nd := sc_law_text.nd
  exact pss_cons (ps_set (i := 2) nd rfl (Or.inl rfl) ((pe_callF G_law_draw (hr.mono (by decide)) (by rfl) pass0 (pa_cons (pv 0) (pa_cons (pe_int) pa_nil)))))
      (pss_cons (ps_if ((pt_cmpR (op_eqU hr.units) (pv 2) (pe_int) (nomark _))) (pss_one (ps_ret ((pe_bm PySem.F.plainAttrs_str PySem.F.slot_str_join PySem.F.type_str_join mt_join (pe_str) (pa_cons ((pe_lc (own := [("k", 5)]) (g := (gName 5)) (tt := tYes) rfl nd ((pi_range1 (by rfl) B.n_range (pa_cons ((pe_callF G_law_draw (hr.mono (by decide)) (by rfl) pass0 (pa_cons (pv 0) (pa_cons (pe_int) pa_nil)))) pa_nil))) (blkOk_by (N := (N_law_text : List Str)) (sc := defScope s_law_text) (by decide +kernel)) (fun _ _ _ _ _ => (pg_name (i := 5) nd rfl (Or.inl rfl))) (fun _ _ _ _ _ => pts_nil) (fun _ _ _ _ _ => (pe_ix ix_seq (pe_str) ((pe_callF G_law_draw (hr.mono (by decide)) (by rfl) pass0 (pa_cons (pv 0) (pa_cons (pe_int) pa_nil)))) (fun _ _ => rfl))))) pa_nil))))) (pss_nil))
      (pss_cons (ps_if ((pt_cmpR (op_eqU hr.units) (pv 2) (pe_int) (nomark _))) (pss_cons (ps_set (i := 3) nd rfl (Or.inl rfl) ((pe_callF G_law_draw (hr.mono (by decide)) (by rfl) pass0 (pa_cons (pv 0) (pa_cons (pe_int) pa_nil)))))
      (pss_cons (ps_if ((pt_cmpR (op_eqU hr.units) ((pe_callF G_law_draw (hr.mono (by decide)) (by rfl) pass0 (pa_cons (pv 0) (pa_cons (pe_int) pa_nil)))) (pe_int) (nomark _))) (pss_one (ps_set (i := 3) nd rfl (Or.inl rfl) ((pe_callF G_law_draw (hr.mono (by decide)) (by rfl) pass0 (pa_cons (pv 0) (pa_cons (pe_int) pa_nil)))))) (pss_nil))
      (pss_one (ps_ret ((pe_bm PySem.F.plainAttrs_str PySem.F.slot_str_join PySem.F.type_str_join mt_join (pe_str) (pa_cons ((pe_lc (own := [("k", 5)]) (g := (gName 5)) (tt := tYes) rfl nd ((pi_range1 (by rfl) B.n_range (pa_cons (pv 3) pa_nil))) (blkOk_by (N := (N_law_text : List Str)) (sc := defScope s_law_text) (by decide +kernel)) (fun _ _ _ _ _ => (pg_name (i := 5) nd rfl (Or.inl rfl))) (fun _ _ _ _ _ => pts_nil) (fun _ _ _ _ _ => (pe_callF G_law_sign (hr.mono (by decide)) (by rfl) pass0 (pa_cons (pv 0) pa_nil))))) pa_nil))))))) (pss_nil))
      (pss_cons (ps_set (i := 4) nd rfl (Or.inl rfl) ((pe_callF G_law_change_draw (hr.mono (by decide)) (by rfl) pass0 (pa_cons (pv 0) (pa_cons (pv 1) pa_nil)))))
      (pss_cons (ps_if ((pt_cmpR (op_eqU hr.units) ((pe_callB call_lenU (by rfl) B.n_len (by decide +kernel) (pa_cons (pv 4) pa_nil))) (pe_int) (nomark _))) (pss_one (ps_ret (pe_str))) (pss_nil))
      (pss_one (ps_ret ((pe_bm PySem.F.plainAttrs_str PySem.F.slot_str_join PySem.F.type_str_join mt_join (pe_str) (pa_cons ((pe_lc (own := [("place", 6)]) (g := (gName 6)) (tt := (tTest (tOp rGtU ((tCall (sp_law_draw K) [] E0 (tCons (tVar 0) (tCons ((tC (.int 4))) tNil)))) ((tC (.int 0)))))) rfl nd ((pi_seqU (pv 4))) (blkOk_by (N := (N_law_text : List Str)) (sc := defScope s_law_text) (by decide +kernel)) (fun _ _ _ _ _ => (pg_name (i := 6) nd rfl (Or.inl rfl))) (fun _ _ _ _ _ => (pts_one ((pt_cmpR op_gtU ((pe_callF G_law_draw (hr.mono (by decide)) (by rfl) pass0 (pa_cons (pv 0) (pa_cons (pe_int) pa_nil)))) (pe_int) (nomark _))))) (fun _ _ _ _ _ => (pe_ix ix_seq (pe_str) ((pe_op op_subU (pv 6) (pe_int))) (fun _ _ => rfl))))) pa_nil)))))))))

theorem sc_law_bent_text : FnScope N_law_bent_text ["pool", "text"] (defScope s_law_bent_text) := ⟨rfl, rfl, rfl, by decide +kernel, rfl, by decide +kernel, by decide +kernel⟩
theorem ok_law_bent_text (D : At K mg "_law_bent_text" s_law_bent_text) (B : Bn mg) (G_law_draw : Fn P w K mg base CX0 1 "_law_draw" ["pool", "many"] (sp_law_draw K)) (G_law_sign : Fn P w K mg base CX0 2 "_law_sign" ["pool"] (sp_law_sign K)) : Fn P w K mg base CX0 3 "_law_bent_text" ["pool", "text"] (sp_law_bent_text K) := by
  obtain ⟨f, fd, F, hm⟩ := D
  refine ⟨f, fd, F.ok sc_law_bent_text (fun vs H Q E h => len_law_bent_text h) (fun cdv A outer s H vs Q E hr h => ⟨t_law_bent_text K, ?_, pure_law_bent_text h⟩), hm, F.kp, F.binds fun _ _ _ _ _ _ us hl => match us, hl with | [_, _], _ => rfl⟩
  have nd := sc_law_bent_text.nd
  exact pss_cons (ps_set (i := 2) nd rfl (Or.inl rfl) ((pe_callF G_law_draw (hr.mono (by decide)) (by rfl) pass0 (pa_cons (pv 0) (pa_cons ((pe_op op_addU ((pe_callB call_lenU (by rfl) B.n_len (by decide +kernel) (pa_cons (pv 1) pa_nil))) (pe_int))) pa_nil)))))
      (pss_cons (ps_set (i := 3) nd rfl (Or.inl rfl) ((pe_callF G_law_draw (hr.mono (by decide)) (by rfl) pass0 (pa_cons (pv 0) (pa_cons ((pe_op op_addU ((pe_callB call_lenU (by rfl) B.n_len (by decide +kernel) (pa_cons (pv 1) pa_nil))) (pe_int))) pa_nil)))))
      (pss_cons (ps_set (i := 4) nd rfl (Or.inl rfl) ((pe_callF G_law_sign (hr.mono (by decide)) (by rfl) pass0 (pa_cons (pv 0) pa_nil))))
      (pss_cons (ps_set (i := 5) nd rfl (Or.inl rfl) ((pe_callF G_law_draw (hr.mono (by decide)) (by rfl) pass0 (pa_cons (pv 0) (pa_cons (pe_int) pa_nil)))))
      (pss_cons (ps_if ((pt_cmpR (op_eqU hr.units) (pv 5) (pe_int) (nomark _))) (pss_one (ps_ret ((pe_op op_addU ((pe_slice sl_U (pv 1) po_none (po_some (pv 2)))) ((pe_slice sl_U (pv 1) (po_some ((pe_op op_addU (pv 2) (pe_int)))) po_none)))))) (pss_nil))
      (pss_cons (ps_if ((pt_cmpR (op_eqU hr.units) (pv 5) (pe_int) (nomark _))) (pss_one (ps_ret ((pe_op op_addU ((pe_op op_addU ((pe_slice sl_U (pv 1) po_none (po_some (pv 2)))) (pv 4))) ((pe_slice sl_U (pv 1) (po_some (pv 2)) po_none)))))) (pss_nil))
      (pss_cons (ps_if ((pt_cmpR (op_eqU hr.units) (pv 5) (pe_int) (nomark _))) (pss_one (ps_ret ((pe_op op_addU ((pe_op op_addU ((pe_slice sl_U (pv 1) po_none (po_some (pv 2)))) (pv 4))) ((pe_slice sl_U (pv 1) (po_some ((pe_op op_addU (pv 2) (pe_int)))) po_none)))))) (pss_nil))
      (pss_cons (ps_if ((pt_cmpR (op_eqU hr.units) (pv 5) (pe_int) (nomark _))) (pss_one (ps_ret ((pe_op op_addU (pv 1) (pv 4))))) (pss_nil))
      (pss_cons (ps_if ((pt_cmpR (op_eqU hr.units) (pv 5) (pe_int) (nomark _))) (pss_one (ps_ret ((pe_op op_addU (pv 4) (pv 1))))) (pss_nil))
      (pss_cons (ps_if ((pt_cmpR (op_eqU hr.units) (pv 5) (pe_int) (nomark _))) (pss_one (ps_ret ((pe_slice sl_U ((pe_op op_addU ((pe_slice sl_U (pv 1) po_none (po_some (pv 2)))) ((pe_slice sl_U (pv 1) (po_some (pv 3)) po_none)))) po_none (po_some (pe_int)))))) (pss_nil))
      (pss_cons (ps_if ((pt_cmpR (op_eqU hr.units) (pv 5) (pe_int) (nomark _))) (pss_one (ps_ret ((pe_revS (pv 1) (po_some ((pe_un un_neg (pe_int)))))))) (pss_nil))
      (pss_one (ps_ret (pv 1)))))))))))))

theorem sc_law_valid : FnScope N_law_valid ["stage", "text"] (defScope s_law_valid) := ⟨rfl, rfl, rfl, by decide +kernel, rfl, by decide +kernel, by decide +kernel⟩
theorem ok_law_valid (D : At K mg "_law_valid" s_law_valid) (B : Bn mg) : Fn P w K mg base CX0 1 "_law_valid" ["stage", "text"] (sp_law_valid K) := by
  obtain ⟨f, fd, F, hm⟩ := D
  refine ⟨f, fd, F.ok sc_law_valid (fun vs H Q E h => len_law_valid h) (fun cdv A outer s H vs Q E hr h => ⟨t_law_valid K, ?_, pure_law_valid h⟩), hm, F.kp, F.binds fun _ _ _ _ _ _ us hl => match us, hl with | [_, _], _ => rfl⟩
  have nd := sc_law_valid.nd
  exact pss_cons (ps_if ((pt_cmpR (op_eqU hr.units) (pv 1) (pe_str) (nomark _))) (pss_one (ps_ret ((pe_cmpR (op_eqU hr.units) ((pe_op op_modU ((pe_callTy call_intU (by rfl) B.n_int (by decide +kernel) (pa_cons (pv 0) pa_nil))) (pe_int))) (pe_int) (nomark _))))) (pss_nil))
      (pss_cons (ps_set (i := 2) nd rfl (Or.inl rfl) (pe_int))
      (pss_cons (ps_for PassesOwn.never rfl (pi_seqU (pv 1)) (pg_name (i := 3) nd rfl (Or.inl rfl)) (pss_cons (ps_set (i := 4) nd rfl (Or.inl rfl) ((pe_op op_addU ((pe_bm PySem.F.plainAttrs_str PySem.F.slot_str_find PySem.F.type_str_find mt_find (pe_str) (pa_cons (pv 3) pa_nil))) (pe_int))))
      (pss_cons (ps_if ((PW.pt (pw_or ((pt_cmpR (op_ltU hr.units) (pv 4) (pe_int) (nomark _))) (pw_or ((pt_cmpR op_gtU (pv 4) (pv 0) (nomark _))) (pw_or1 ((pt_cmpR (op_leU hr.units) (pv 4) (pv 2) (nomark _)))))))) (pss_one (ps_ret (pe_bl))) (pss_nil))
      (pss_cons (ps_if ((PW.pt (pw_and ((pt_cmpR op_gtU (pv 2) (pe_int) (nomark _))) (pw_and1 ((pt_cmpR (op_eqU hr.units) ((pe_op op_modU ((pe_callTy call_intU (by rfl) B.n_int (by decide +kernel) (pa_cons ((pe_op op_subU ((pe_op op_subU (pv 4) (pv 2))) (pe_int))) pa_nil))) (pe_int))) (pe_int) (nomark _))))))) (pss_one (ps_ret (pe_bl))) (pss_nil))
      (pss_one (ps_set (i := 2) nd rfl (Or.inl rfl) (pv 4)))))))
      (pss_one (ps_ret ((pe_cmpR (op_neU hr.units) (pv 1) (pe_str) (nomark _)))))))

theorem sc_law_due : FnScope N_law_due ["stage", "text"] (defScope s_law_due) := ⟨rfl, rfl, rfl, by decide +kernel, rfl, by decide +kernel, by decide +kernel⟩
theorem ok_law_due (D : At K mg "_law_due" s_law_due) (B : Bn mg) (G_law_valid : Fn P w K mg base CX0 1 "_law_valid" ["stage", "text"] (sp_law_valid K)) : Fn P w K mg base CX0 2 "_law_due" ["stage", "text"] (sp_law_due K) := by
  obtain ⟨f, fd, F, hm⟩ := D
  refine ⟨f, fd, F.ok sc_law_due (fun vs H Q E h => len_law_due h) (fun cdv A outer s H vs Q E hr h => ⟨t_law_due K, ?_, pure_law_due h⟩), hm, F.kp, F.binds fun _ _ _ _ _ _ us hl => match us, hl with | [_, _], _ => rfl⟩
  have nd := sc_law_due.nd
  exact pss_cons (ps_if ((PW.pt (pw_or ((pt_cmpR (op_ltU hr.units) (pv 0) (pe_int) (nomark _))) (pw_or1 ((pt_cmpR op_gtU (pv 0) (pe_int) (nomark _))))))) (pss_one (ps_ret ((pe_lst (pa_cons (pe_str) (pa_cons (pe_int) (pa_cons (pe_non) pa_nil))))))) (pss_nil))
      (pss_cons (ps_for PassesOwn.never rfl (pi_range2 (by rfl) B.n_range (pa_cons (pe_int) (pa_cons ((pe_op op_addU ((pe_callB call_lenU (by rfl) B.n_len (by decide +kernel) (pa_cons (pv 1) pa_nil))) (pe_int))) pa_nil))) (pg_name (i := 2) nd rfl (Or.inl rfl)) (pss_one (ps_if ((pt_not ((pt_truU ((pe_callF G_law_valid (hr.mono (by decide)) (by rfl) pass0 (pa_cons (pv 0) (pa_cons ((pe_slice sl_U (pv 1) po_none (po_some (pv 2)))) pa_nil)))) (by intro _; rfl))))) (pss_one (ps_ret ((pe_lst (pa_cons (pe_str) (pa_cons (pv 2) (pa_cons (pe_non) pa_nil))))))) (pss_nil))))
      (pss_cons (ps_if ((pt_cmpR (op_eqU hr.units) (pv 1) (pe_str) (nomark _))) (pss_one (ps_ret ((pe_lst (pa_cons (pe_str) (pa_cons (pe_int) (pa_cons (pe_non) pa_nil))))))) (pss_nil))
      (pss_cons (ps_if ((pt_cmpR (op_eqU hr.units) (pv 1) (pe_str) (nomark _))) (pss_one (ps_ret ((pe_lst (pa_cons (pe_str) (pa_cons (pe_int) (pa_cons ((pe_tup pa_nil)) pa_nil))))))) (pss_nil))
      (pss_cons (ps_setLc (i := 3) (own := [("sign", 6)]) (g := (gName 6)) (tt := tYes) rfl nd rfl rfl (sw_true rfl rfl rfl (by decide +kernel)) ((pi_seqU (pv 1))) (blkOk_by (N := (N_law_due : List Str)) (sc := defScope s_law_due) (by decide +kernel)) (fun _ _ _ _ _ => (pg_name (i := 6) nd rfl (Or.inl rfl))) (fun _ _ _ _ _ => pts_nil) (fun _ _ _ _ _ => (pe_op op_addU ((pe_bm PySem.F.plainAttrs_str PySem.F.slot_str_find PySem.F.type_str_find mt_find (pe_str) (pa_cons (pv 6) pa_nil))) (pe_int))))
      (pss_cons (ps_set (i := 4) nd rfl (Or.inl rfl) ((pe_op op_subU ((pe_ix ix_seq (pv 3) (pe_int) (fun _ _ => rfl))) (pe_int))))
      (pss_cons (ps_set (i := 5) nd rfl (Or.inl rfl) ((pe_op op_subU (pv 0) ((pe_ix ix_seq (pv 3) ((pe_un un_neg (pe_int))) (fun _ _ => rfl))))))
      (pss_cons (ps_if ((pt_cmpR (op_eqU hr.units) ((pe_op op_modU ((pe_callTy call_intU (by rfl) B.n_int (by decide +kernel) (pa_cons (pv 4) pa_nil))) (pe_int))) (pe_int) (nomark _))) (pss_one (ps_set (i := 3) nd rfl (Or.inl rfl) ((pe_op op_addU ((pe_lst (pa_cons (pe_int) pa_nil))) (pv 3))))) (pss_nil))
      (pss_cons (ps_if ((pt_cmpR (op_eqU hr.units) ((pe_op op_modU ((pe_callTy call_intU (by rfl) B.n_int (by decide +kernel) (pa_cons (pv 5) pa_nil))) (pe_int))) (pe_int) (nomark _))) (pss_one (ps_set (i := 3) nd rfl (Or.inl rfl) ((pe_op op_addU (pv 3) ((pe_lst (pa_cons (pv 0) pa_nil))))))) (pss_nil))
      (pss_one (ps_ret ((pe_lst (pa_cons (pe_str) (pa_cons (pe_int) (pa_cons ((pe_tupD (by rfl) B.n_tuple (pv 3))) pa_nil)))))))))))))))

theorem sc_law_read : FnScope N_law_read ["stage", "text"] (defScope s_law_read) := ⟨rfl, rfl, rfl, by decide +kernel, rfl, by decide +kernel, by decide +kernel⟩
theorem ok_law_read (D : At K mg "_law_read" s_law_read) (B : Bn mg) {ec : Str → Addr} (XS : Exs K ec XN) (EX : ExAt mg ec XN) (G_read_change : Fn P w K mg base (L2.CX P w) 5 "read_change" ["stage", "text"] (sp_read_change K ec)) (G_law_same : Fn P w K mg base CX0 1 "_law_same" ["got", "due"] (sp_law_same K)) : Fn P w K mg base CX0 6 "_law_read" ["stage", "text"] (sp_law_read K) := by
  obtain ⟨f, fd, F, hm⟩ := D
  refine ⟨f, fd, F.ok sc_law_read (fun vs H Q E h => len_law_read h) (fun cdv A outer s H vs Q E hr h => ⟨t_law_read K ec, ?_, pure_law_read XS h⟩), hm, F.kp, F.binds fun _ _ _ _ _ _ us hl => match us, hl with | [_, _], _ => rfl⟩
  have nd := sc_law_read.nd
  exact pss_cons (ps_set (i := 2) nd rfl (Or.inl rfl) (pe_str))
      (pss_cons (ps_set (i := 3) nd rfl (Or.inl rfl) (pe_str))
      (pss_cons (ps_set (i := 4) nd rfl (Or.inl rfl) (pe_int))
      (pss_cons (ps_set (i := 5) nd rfl (Or.inl rfl) (pe_bl))
      (pss_cons (ps_set (i := 6) nd rfl (Or.inl rfl) (pe_non))
      (pss_cons (ps_tryT rfl rfl nd takes0 (fun W pn xe htk hpo => pss_one (ps_set (i := 6) nd rfl (Or.inl rfl) ((pe_callW htk G_read_change (hr.mono (by decide)) (by rfl) (pa_cons (pv 0) (pa_cons (pv 1) pa_nil)))))) (HdsA.as ⟨rfl, by decide, .inl (EX "BadStage" (by decide))⟩ rfl rfl (fun a oe cls d pn hz hf => pss_cons (ps_set (i := 2) nd rfl (Or.inl rfl) (pe_str))
      (pss_cons (ps_set (i := 3) nd rfl (Or.inl rfl) ((pe_xfA hz hf (pv 7))))
      (pss_one (ps_set (i := 5) nd rfl (Or.inl rfl) ((pe_and ((pe_callB (call_isX hz hf) (by rfl) B.n_isinstance (by decide +kernel) (pa_cons (pv 7) (pa_cons ((pe_glob rfl (EX "ChamberError" (by decide)) rfl)) pa_nil)))) (pe_and ((pe_callB (call_isX hz hf) (by rfl) B.n_isinstance (by decide +kernel) (pa_cons (pv 7) (pa_cons ((pe_bltn (by rfl) B.n_ValueError (by decide +kernel) rfl)) pa_nil)))) (pe_one ((pe_not ((pe_callB (call_isX hz hf) (by rfl) B.n_isinstance (by decide +kernel) (pa_cons (pv 7) (pa_cons ((pe_tup (pa_cons ((pe_glob rfl (EX "BadNotation" (by decide)) rfl)) (pa_cons ((pe_glob rfl (EX "BadChange" (by decide)) rfl)) pa_nil)))) pa_nil)))))))))))))) (HdsA.as ⟨rfl, by decide, .inl (EX "BadNotation" (by decide))⟩ rfl rfl (fun a oe cls d pn hz hf => pss_cons (ps_set (i := 2) nd rfl (Or.inl rfl) (pe_str))
      (pss_cons (ps_set (i := 3) nd rfl (Or.inl rfl) ((pe_xfA hz hf (pv 7))))
      (pss_cons (ps_set (i := 4) nd rfl (Or.inl rfl) ((pe_xfA hz hf (pv 7))))
      (pss_one (ps_set (i := 5) nd rfl (Or.inl rfl) ((pe_and ((pe_callB (call_isX hz hf) (by rfl) B.n_isinstance (by decide +kernel) (pa_cons (pv 7) (pa_cons ((pe_glob rfl (EX "ChamberError" (by decide)) rfl)) pa_nil)))) (pe_and ((pe_callB (call_isX hz hf) (by rfl) B.n_isinstance (by decide +kernel) (pa_cons (pv 7) (pa_cons ((pe_bltn (by rfl) B.n_ValueError (by decide +kernel) rfl)) pa_nil)))) (pe_one ((pe_not ((pe_callB (call_isX hz hf) (by rfl) B.n_isinstance (by decide +kernel) (pa_cons (pv 7) (pa_cons ((pe_tup (pa_cons ((pe_glob rfl (EX "BadPositions" (by decide)) rfl)) (pa_cons ((pe_glob rfl (EX "BadChange" (by decide)) rfl)) pa_nil)))) pa_nil))))))))))))))) (HdsA.no ⟨rfl, by decide, .inl (EX "ChamberError" (by decide))⟩ (fun a oe cls d pn hz hf => pss_one (ps_set (i := 2) nd rfl (Or.inl rfl) (pe_str))) HdsA.nil))))
      (pss_cons (ps_if ((PW.pt (pw_and ((pt_cmpR (op_neU hr.units) (pv 2) (pe_str) (nomark _))) (pw_and1 ((pt_not ((PW.pt (pw_and ((pt_truU (pv 5) (by intro _; rfl))) (pw_and1 ((pt_truU ((pe_callF G_law_same (hr.mono (by decide)) (by rfl) pass0 (pa_cons (pv 3) (pa_cons (pv 2) pa_nil)))) (by intro _; rfl))))))))))))) (pss_one (ps_set (i := 2) nd rfl (Or.inl rfl) (pe_str))) (pss_nil))
      (pss_one (ps_ret ((pe_lst (pa_cons (pv 2) (pa_cons (pv 4) (pa_cons (pv 6) pa_nil)))))))))))))

theorem sc_law_answered : FnScope N_law_answered ["stage", "text"] (defScope s_law_answered) := ⟨rfl, rfl, rfl, by decide +kernel, rfl, by decide +kernel, by decide +kernel⟩
theorem ok_law_answered (D : At K mg "_law_answered" s_law_answered) (B : Bn mg) (G_law_due : Fn P w K mg base CX0 2 "_law_due" ["stage", "text"] (sp_law_due K)) (G_law_read : Fn P w K mg base CX0 6 "_law_read" ["stage", "text"] (sp_law_read K)) (G_law_same : Fn P w K mg base CX0 1 "_law_same" ["got", "due"] (sp_law_same K)) : Fn P w K mg base CX0 7 "_law_answered" ["stage", "text"] (sp_law_answered K) := by
  obtain ⟨f, fd, F, hm⟩ := D
  refine ⟨f, fd, F.ok sc_law_answered (fun vs H Q E h => len_law_answered h) (fun cdv A outer s H vs Q E hr h => ⟨t_law_answered K, ?_, pure_law_answered h⟩), hm, F.kp, F.binds fun _ _ _ _ _ _ us hl => match us, hl with | [_, _], _ => rfl⟩
  have nd := sc_law_answered.nd
  exact pss_cons (ps_set (i := 2) nd rfl (Or.inl rfl) ((pe_callF G_law_due (hr.mono (by decide)) (by rfl) pass0 (pa_cons (pv 0) (pa_cons (pv 1) pa_nil)))))
      (pss_cons (ps_set (i := 3) nd rfl (Or.inl rfl) ((pe_callF G_law_read (hr.mono (by decide)) (by rfl) pass0 (pa_cons (pv 0) (pa_cons (pv 1) pa_nil)))))
      (pss_one (ps_ret ((pe_and ((pe_cmpR (op_eqU hr.units) ((pe_ix ix_seq (pv 3) (pe_int) (fun _ _ => rfl))) ((pe_ix ix_seq (pv 2) (pe_int) (fun _ _ => rfl))) (nomark _))) (pe_and ((pe_callF G_law_same (hr.mono (by decide)) (by rfl) pass0 (pa_cons ((pe_ix ix_seq (pv 3) (pe_int) (fun _ _ => rfl))) (pa_cons ((pe_ix ix_seq (pv 2) (pe_int) (fun _ _ => rfl))) pa_nil)))) (pe_one ((pe_callF G_law_same (hr.mono (by decide)) (by rfl) pass0 (pa_cons ((pe_ix ix_seq (pv 3) (pe_int) (fun _ _ => rfl))) (pa_cons ((pe_ix ix_seq (pv 2) (pe_int) (fun _ _ => rfl))) pa_nil)))))))))))

theorem sc_law : FnScope N_law ["script"] (defScope s_law) := ⟨rfl, rfl, rfl, by decide +kernel, rfl, by decide +kernel, by decide +kernel⟩
theorem ok_lawF {f : Addr} {fd : FuncData} (F : Fun K "law" "law" s_law f fd) (B : Bn mg) (G_law_pool : Fn P w K mg base CX0 2 "_law_pool" ["script", "k"] (sp_law_pool K)) (G_law_draw : Fn P w K mg base CX0 1 "_law_draw" ["pool", "many"] (sp_law_draw K)) (G_law_bent_text : Fn P w K mg base CX0 3 "_law_bent_text" ["pool", "text"] (sp_law_bent_text K)) (G_law_text : Fn P w K mg base CX0 3 "_law_text" ["pool", "stage"] (sp_law_text K)) (G_law_answered : Fn P w K mg base CX0 7 "_law_answered" ["stage", "text"] (sp_law_answered K)) (G_law_change_draw : Fn P w K mg base CX0 2 "_law_change_draw" ["pool", "stage"] (sp_law_change_draw K)) (G_law_read : Fn P w K mg base CX0 6 "_law_read" ["stage", "text"] (sp_law_read K)) (G_law_same : Fn P w K mg base CX0 1 "_law_same" ["got", "due"] (sp_law_same K)) : FnOk P w K mg base CX0 8 f fd ["script"] (sp_law K) := by
  refine F.ok sc_law (fun vs H Q E h => len_law h) (fun cdv A outer s H vs Q E hr h => ⟨t_law K, ?_, pure_law h⟩)
  have nd := sc_law.nd
  exact pss_cons (ps_set (i := 1) nd rfl (Or.inl rfl) ((pe_callF G_law_pool (hr.mono (by decide)) (by rfl) pass0 (pa_cons (pv 0) (pa_cons (pe_int) pa_nil)))))
      (pss_cons (ps_set (i := 2) nd rfl (Or.inl rfl) ((pe_op op_addU (pe_int) ((pe_callF G_law_draw (hr.mono (by decide)) (by rfl) pass0 (pa_cons (pv 1) (pa_cons (pe_int) pa_nil)))))))
      (pss_cons (ps_set (i := 3) nd rfl (Or.inl rfl) ((pe_callF G_law_bent_text (hr.mono (by decide)) (by rfl) pass0 (pa_cons ((pe_callF G_law_pool (hr.mono (by decide)) (by rfl) pass0 (pa_cons (pv 0) (pa_cons (pe_int) pa_nil)))) (pa_cons ((pe_callF G_law_text (hr.mono (by decide)) (by rfl) pass0 (pa_cons (pv 1) (pa_cons (pv 2) pa_nil)))) pa_nil)))))
      (pss_cons (ps_if ((pt_not ((pt_truU ((pe_callF G_law_answered (hr.mono (by decide)) (by rfl) pass0 (pa_cons (pv 2) (pa_cons (pv 3) pa_nil)))) (by intro _; rfl))))) (pss_one (ps_ret (pe_bl))) (pss_nil))
      (pss_cons (ps_set (i := 4) nd rfl (Or.inl rfl) ((pe_callF G_law_pool (hr.mono (by decide)) (by rfl) pass0 (pa_cons (pv 0) (pa_cons (pe_int) pa_nil)))))
      (pss_cons (ps_set (i := 5) nd rfl (Or.inl rfl) ((pe_op op_addU (pe_int) ((pe_callF G_law_draw (hr.mono (by decide)) (by rfl) pass0 (pa_cons (pv 4) (pa_cons (pe_int) pa_nil)))))))
      (pss_cons (ps_set (i := 6) nd rfl (Or.inl rfl) ((pe_callF G_law_change_draw (hr.mono (by decide)) (by rfl) pass0 (pa_cons (pv 4) (pa_cons (pv 2) pa_nil)))))
      (pss_cons (ps_set (i := 7) nd rfl (Or.inl rfl) ((pe_bm PySem.F.plainAttrs_str PySem.F.slot_str_join PySem.F.type_str_join mt_join (pe_str) (pa_cons ((pe_lc (own := [("place", 14)]) (g := (gName 14)) (tt := tYes) rfl nd ((pi_seqU (pv 6))) (blkOk_by (N := (N_law : List Str)) (sc := defScope s_law) (by decide +kernel)) (fun _ _ _ _ _ => (pg_name (i := 14) nd rfl (Or.inl rfl))) (fun _ _ _ _ _ => pts_nil) (fun _ _ _ _ _ => (pe_ix ix_seq (pe_str) ((pe_op op_subU (pv 14) (pe_int))) (fun _ _ => rfl))))) pa_nil))))
      (pss_cons (ps_if ((pt_cmpR (op_eqU hr.units) (pv 7) (pe_str) (nomark _))) (pss_one (ps_set (i := 7) nd rfl (Or.inl rfl) (pe_str))) (pss_nil))
      (pss_cons (ps_set (i := 8) nd rfl (Or.inl rfl) ((pe_callF G_law_read (hr.mono (by decide)) (by rfl) pass0 (pa_cons (pv 2) (pa_cons (pv 7) pa_nil)))))
      (pss_cons (ps_if ((PW.pt (pw_or ((pt_cmpR (op_neU hr.units) ((pe_ix ix_seq (pv 8) (pe_int) (fun _ _ => rfl))) (pe_str) (nomark _))) (pw_or1 ((pt_not ((pt_truU ((pe_callF G_law_same (hr.mono (by decide)) (by rfl) pass0 (pa_cons ((pe_ix ix_seq (pv 8) (pe_int) (fun _ _ => rfl))) (pa_cons (pv 6) pa_nil)))) (by intro _; rfl))))))))) (pss_one (ps_ret (pe_bl))) (pss_nil))
      (pss_cons (ps_if ((PW.pt (pw_or ((pt_not ((pt_truU ((pe_callF G_law_answered (hr.mono (by decide)) (by rfl) pass0 (pa_cons (pv 5) (pa_cons (pv 3) pa_nil)))) (by intro _; rfl))))) (pw_or1 ((pt_not ((pt_truU ((pe_callF G_law_answered (hr.mono (by decide)) (by rfl) pass0 (pa_cons (pv 5) (pa_cons (pv 7) pa_nil)))) (by intro _; rfl))))))))) (pss_one (ps_ret (pe_bl))) (pss_nil))
      (pss_cons (ps_if ((PW.pt (pw_or ((pt_not ((pt_truU ((pe_callF G_law_answered (hr.mono (by decide)) (by rfl) pass0 (pa_cons (pv 2) (pa_cons (pe_str) pa_nil)))) (by intro _; rfl))))) (pw_or1 ((pt_not ((pt_truU ((pe_callF G_law_answered (hr.mono (by decide)) (by rfl) pass0 (pa_cons (pv 2) (pa_cons (pe_str) pa_nil)))) (by intro _; rfl))))))))) (pss_one (ps_ret (pe_bl))) (pss_nil))
      (pss_cons (ps_set (i := 9) nd rfl (Or.inl rfl) ((pe_op op_addU ((pe_op op_mulU ((pe_callF G_law_draw (hr.mono (by decide)) (by rfl) pass0 (pa_cons (pv 4) (pa_cons ((pe_op op_powU (pe_int) (pe_int))) pa_nil)))) ((pe_op op_powU (pe_int) (pe_int))))) ((pe_callF G_law_draw (hr.mono (by decide)) (by rfl) pass0 (pa_cons (pv 4) (pa_cons ((pe_op op_powU (pe_int) (pe_int))) pa_nil)))))))
      (pss_cons (ps_set (i := 10) nd rfl (Or.inl rfl) ((pe_ix ix_seq ((pe_lst (pa_cons (pe_int) (pa_cons (pe_int) (pa_cons ((pe_un un_neg (pv 9))) (pa_cons ((pe_op op_addU (pe_int) (pv 9))) pa_nil)))))) ((pe_callF G_law_draw (hr.mono (by decide)) (by rfl) pass0 (pa_cons (pv 4) (pa_cons (pe_int) pa_nil)))) (fun _ _ => rfl))))
      (pss_cons (ps_if ((PW.pt (pw_or ((pt_not ((pt_truU ((pe_callF G_law_answered (hr.mono (by decide)) (by rfl) pass0 (pa_cons (pv 10) (pa_cons (pv 3) pa_nil)))) (by intro _; rfl))))) (pw_or1 ((pt_not ((pt_truU ((pe_callF G_law_answered (hr.mono (by decide)) (by rfl) pass0 (pa_cons (pv 10) (pa_cons (pv 7) pa_nil)))) (by intro _; rfl))))))))) (pss_one (ps_ret (pe_bl))) (pss_nil))
      (pss_cons (ps_for PassesOwn.never rfl (pi_range1 (by rfl) B.n_range (pa_cons (pe_int) pa_nil)) (pg_name (i := 11) nd rfl (Or.inl rfl)) (pss_cons (ps_set (i := 12) nd rfl (Or.inl rfl) ((pe_callF G_law_draw (hr.mono (by decide)) (by rfl) pass0 (pa_cons (pv 4) (pa_cons ((pe_op op_addU ((pe_callB call_lenU (by rfl) B.n_len (by decide +kernel) (pa_cons (pv 7) pa_nil))) (pe_int))) pa_nil)))))
      (pss_cons (ps_set (i := 13) nd rfl (Or.inl rfl) ((pe_ix ix_seq (pe_str) ((pe_callF G_law_draw (hr.mono (by decide)) (by rfl) pass0 (pa_cons (pv 4) (pa_cons (pe_int) pa_nil)))) (fun _ _ => rfl))))
      (pss_cons (ps_if ((pt_not ((pt_truU ((pe_callF G_law_answered (hr.mono (by decide)) (by rfl) pass0 (pa_cons (pv 2) (pa_cons ((pe_op op_addU ((pe_op op_addU ((pe_slice sl_U (pv 7) po_none (po_some (pv 12)))) (pv 13))) ((pe_slice sl_U (pv 7) (po_some (pv 12)) po_none)))) pa_nil)))) (by intro _; rfl))))) (pss_one (ps_ret (pe_bl))) (pss_nil))
      (pss_one (ps_if ((pt_not ((pt_truU ((pe_callF G_law_answered (hr.mono (by decide)) (by rfl) pass0 (pa_cons (pv 2) (pa_cons ((pe_op op_addU ((pe_slice sl_U (pv 7) po_none (po_some (pv 12)))) ((pe_slice sl_U (pv 7) (po_some ((pe_op op_addU (pv 12) (pe_int)))) po_none)))) pa_nil)))) (by intro _; rfl))))) (pss_one (ps_ret (pe_bl))) (pss_nil)))))))
      (pss_one (ps_ret ((pe_callF G_law_answered (hr.mono (by decide)) (by rfl) pass0 (pa_cons (pv 2) (pa_cons (pv 3) pa_nil))))))))))))))))))))))

end
theorem all_mk {l : PySem.W.OpenLaw} {w : World} {K : PySem.W.Frag} {h : Heap} {mg : Str → Option Value} {fa : Addr} (X : K.In h) (G : h.Ns mainGlobals mg) (hfa : mg "law" = some (.ref fa))
    {f1 : Addr} {od1 an1 : Option Addr} {sl1 : Array (Option Value)} {oc1 kV1 dc1 pm1 cd1 ct1 : Value}
    {f2 : Addr} {od2 an2 : Option Addr} {sl2 : Array (Option Value)} {oc2 kV2 dc2 pm2 cd2 ct2 : Value}
    {f3 : Addr} {od3 an3 : Option Addr} {sl3 : Array (Option Value)} {oc3 kV3 dc3 pm3 cd3 ct3 : Value}
    {f4 : Addr} {od4 an4 : Option Addr} {sl4 : Array (Option Value)} {oc4 kV4 dc4 pm4 cd4 ct4 : Value}
    {f5 : Addr} {od5 an5 : Option Addr} {sl5 : Array (Option Value)} {oc5 kV5 dc5 pm5 cd5 ct5 : Value}
    {f6 : Addr} {od6 an6 : Option Addr} {sl6 : Array (Option Value)} {oc6 kV6 dc6 pm6 cd6 ct6 : Value}
    {f7 : Addr} {od7 an7 : Option Addr} {sl7 : Array (Option Value)} {oc7 kV7 dc7 pm7 cd7 ct7 : Value}
    {f8 : Addr} {od8 an8 : Option Addr} {sl8 : Array (Option Value)} {oc8 kV8 dc8 pm8 cd8 ct8 : Value}
    {f9 : Addr} {od9 an9 : Option Addr} {sl9 : Array (Option Value)} {oc9 kV9 dc9 pm9 cd9 ct9 : Value}
    {f10 : Addr} {od10 an10 : Option Addr} {sl10 : Array (Option Value)} {oc10 kV10 dc10 pm10 cd10 ct10 : Value}
    {f11 : Addr} {od11 an11 : Option Addr} {sl11 : Array (Option Value)} {oc11 kV11 dc11 pm11 cd11 ct11 : Value}
    {f12 : Addr} {od12 an12 : Option Addr} {sl12 : Array (Option Value)} {oc12 kV12 dc12 pm12 cd12 ct12 : Value}
    {f13 : Addr} {od13 an13 : Option Addr} {sl13 : Array (Option Value)} {oc13 kV13 dc13 pm13 cd13 ct13 : Value}
    {f14 : Addr} {od14 an14 : Option Addr} {sl14 : Array (Option Value)} {oc14 kV14 dc14 pm14 cd14 ct14 : Value}
    {f15 : Addr} {od15 an15 : Option Addr} {sl15 : Array (Option Value)} {oc15 kV15 dc15 pm15 cd15 ct15 : Value}
    {f16 : Addr} {od16 an16 : Option Addr} {sl16 : Array (Option Value)} {oc16 kV16 dc16 pm16 cd16 ct16 : Value}
    {f17 : Addr} {od17 an17 : Option Addr} {sl17 : Array (Option Value)} {oc17 kV17 dc17 pm17 cd17 ct17 : Value}
    {f18 : Addr} {od18 an18 : Option Addr} {sl18 : Array (Option Value)} {oc18 kV18 dc18 pm18 cd18 ct18 : Value}
    {C_ChamberError : Addr}
    {C_BadStage : Addr}
    {C_BadChange : Addr}
    {C_BadNotation : Addr}
    {C_BadPositions : Addr}
    {fI_ChamberError cc_ChamberError : Addr} {od_ChamberError an_ChamberError cld_ChamberError : Option Addr} {sl_ChamberError csl_ChamberError : Array (Option Value)} {oc_ChamberError kV_ChamberError dc_ChamberError pm_ChamberError cd_ChamberError ct_ChamberError cl_ChamberError : Value}
    {fI_BadStage cc_BadStage : Addr} {od_BadStage an_BadStage cld_BadStage : Option Addr} {sl_BadStage csl_BadStage : Array (Option Value)} {oc_BadStage kV_BadStage dc_BadStage pm_BadStage cd_BadStage ct_BadStage cl_BadStage : Value}
    {fI_BadNotation cc_BadNotation : Addr} {od_BadNotation an_BadNotation cld_BadNotation : Option Addr} {sl_BadNotation csl_BadNotation : Array (Option Value)} {oc_BadNotation kV_BadNotation dc_BadNotation pm_BadNotation cd_BadNotation ct_BadNotation cl_BadNotation : Value}
    {t_SIGNS : Tok}
    (a1 : PySem.W.nsIn K mainGlobals "check_stage" = some (some (.ref f1))) (l1 : K.lookup f1 = some ⟨oc1, od1, .func (PySem.W.fnOf "check_stage" "check_stage" (defArgs s_check_stage) (defBody s_check_stage) (defScope s_check_stage) .none kV1 dc1 pm1 an1 cd1 ct1), sl1⟩) (c1 : PySem.W.codeIn K cd1 "check_stage" = true) (k1 : PySem.W.keepIn K (.ref f1) = true)
    (a2 : PySem.W.nsIn K mainGlobals "place_of" = some (some (.ref f2))) (l2 : K.lookup f2 = some ⟨oc2, od2, .func (PySem.W.fnOf "place_of" "place_of" (defArgs s_place_of) (defBody s_place_of) (defScope s_place_of) .none kV2 dc2 pm2 an2 cd2 ct2), sl2⟩) (c2 : PySem.W.codeIn K cd2 "place_of" = true) (k2 : PySem.W.keepIn K (.ref f2) = true)
    (a3 : PySem.W.nsIn K mainGlobals "may_follow" = some (some (.ref f3))) (l3 : K.lookup f3 = some ⟨oc3, od3, .func (PySem.W.fnOf "may_follow" "may_follow" (defArgs s_may_follow) (defBody s_may_follow) (defScope s_may_follow) .none kV3 dc3 pm3 an3 cd3 ct3), sl3⟩) (c3 : PySem.W.codeIn K cd3 "may_follow" = true) (k3 : PySem.W.keepIn K (.ref f3) = true)
    (a4 : PySem.W.nsIn K mainGlobals "change_of" = some (some (.ref f4))) (l4 : K.lookup f4 = some ⟨oc4, od4, .func (PySem.W.fnOf "change_of" "change_of" (defArgs s_change_of) (defBody s_change_of) (defScope s_change_of) .none kV4 dc4 pm4 an4 cd4 ct4), sl4⟩) (c4 : PySem.W.codeIn K cd4 "change_of" = true) (k4 : PySem.W.keepIn K (.ref f4) = true)
    (a5 : PySem.W.nsIn K mainGlobals "read_change" = some (some (.ref f5))) (l5 : K.lookup f5 = some ⟨oc5, od5, .func (PySem.W.fnOf "read_change" "read_change" (defArgs s_read_change) (defBody s_read_change) (defScope s_read_change) .none kV5 dc5 pm5 an5 cd5 ct5), sl5⟩) (c5 : PySem.W.codeIn K cd5 "read_change" = true) (k5 : PySem.W.keepIn K (.ref f5) = true)
    (a6 : PySem.W.nsIn K mainGlobals "_law_cell" = some (some (.ref f6))) (l6 : K.lookup f6 = some ⟨oc6, od6, .func (PySem.W.fnOf "_law_cell" "_law_cell" (defArgs s_law_cell) (defBody s_law_cell) (defScope s_law_cell) .none kV6 dc6 pm6 an6 cd6 ct6), sl6⟩) (c6 : PySem.W.codeIn K cd6 "_law_cell" = true) (k6 : PySem.W.keepIn K (.ref f6) = true)
    (a7 : PySem.W.nsIn K mainGlobals "_law_pool" = some (some (.ref f7))) (l7 : K.lookup f7 = some ⟨oc7, od7, .func (PySem.W.fnOf "_law_pool" "_law_pool" (defArgs s_law_pool) (defBody s_law_pool) (defScope s_law_pool) .none kV7 dc7 pm7 an7 cd7 ct7), sl7⟩) (c7 : PySem.W.codeIn K cd7 "_law_pool" = true) (k7 : PySem.W.keepIn K (.ref f7) = true)
    (a8 : PySem.W.nsIn K mainGlobals "_law_draw" = some (some (.ref f8))) (l8 : K.lookup f8 = some ⟨oc8, od8, .func (PySem.W.fnOf "_law_draw" "_law_draw" (defArgs s_law_draw) (defBody s_law_draw) (defScope s_law_draw) .none kV8 dc8 pm8 an8 cd8 ct8), sl8⟩) (c8 : PySem.W.codeIn K cd8 "_law_draw" = true) (k8 : PySem.W.keepIn K (.ref f8) = true)
    (a9 : PySem.W.nsIn K mainGlobals "_law_change_draw" = some (some (.ref f9))) (l9 : K.lookup f9 = some ⟨oc9, od9, .func (PySem.W.fnOf "_law_change_draw" "_law_change_draw" (defArgs s_law_change_draw) (defBody s_law_change_draw) (defScope s_law_change_draw) .none kV9 dc9 pm9 an9 cd9 ct9), sl9⟩) (c9 : PySem.W.codeIn K cd9 "_law_change_draw" = true) (k9 : PySem.W.keepIn K (.ref f9) = true)
    (a10 : PySem.W.nsIn K mainGlobals "_law_same" = some (some (.ref f10))) (l10 : K.lookup f10 = some ⟨oc10, od10, .func (PySem.W.fnOf "_law_same" "_law_same" (defArgs s_law_same) (defBody s_law_same) (defScope s_law_same) .none kV10 dc10 pm10 an10 cd10 ct10), sl10⟩) (c10 : PySem.W.codeIn K cd10 "_law_same" = true) (k10 : PySem.W.keepIn K (.ref f10) = true)
    (a11 : PySem.W.nsIn K mainGlobals "_law_sign" = some (some (.ref f11))) (l11 : K.lookup f11 = some ⟨oc11, od11, .func (PySem.W.fnOf "_law_sign" "_law_sign" (defArgs s_law_sign) (defBody s_law_sign) (defScope s_law_sign) .none kV11 dc11 pm11 an11 cd11 ct11), sl11⟩) (c11 : PySem.W.codeIn K cd11 "_law_sign" = true) (k11 : PySem.W.keepIn K (.ref f11) = true)
    (a12 : PySem.W.nsIn K mainGlobals "_law_text" = some (some (.ref f12))) (l12 : K.lookup f12 = some ⟨oc12, od12, .func (PySem.W.fnOf "_law_text" "_law_text" (defArgs s_law_text) (defBody s_law_text) (defScope s_law_text) .none kV12 dc12 pm12 an12 cd12 ct12), sl12⟩) (c12 : PySem.W.codeIn K cd12 "_law_text" = true) (k12 : PySem.W.keepIn K (.ref f12) = true)
    (a13 : PySem.W.nsIn K mainGlobals "_law_bent_text" = some (some (.ref f13))) (l13 : K.lookup f13 = some ⟨oc13, od13, .func (PySem.W.fnOf "_law_bent_text" "_law_bent_text" (defArgs s_law_bent_text) (defBody s_law_bent_text) (defScope s_law_bent_text) .none kV13 dc13 pm13 an13 cd13 ct13), sl13⟩) (c13 : PySem.W.codeIn K cd13 "_law_bent_text" = true) (k13 : PySem.W.keepIn K (.ref f13) = true)
    (a14 : PySem.W.nsIn K mainGlobals "_law_valid" = some (some (.ref f14))) (l14 : K.lookup f14 = some ⟨oc14, od14, .func (PySem.W.fnOf "_law_valid" "_law_valid" (defArgs s_law_valid) (defBody s_law_valid) (defScope s_law_valid) .none kV14 dc14 pm14 an14 cd14 ct14), sl14⟩) (c14 : PySem.W.codeIn K cd14 "_law_valid" = true) (k14 : PySem.W.keepIn K (.ref f14) = true)
    (a15 : PySem.W.nsIn K mainGlobals "_law_due" = some (some (.ref f15))) (l15 : K.lookup f15 = some ⟨oc15, od15, .func (PySem.W.fnOf "_law_due" "_law_due" (defArgs s_law_due) (defBody s_law_due) (defScope s_law_due) .none kV15 dc15 pm15 an15 cd15 ct15), sl15⟩) (c15 : PySem.W.codeIn K cd15 "_law_due" = true) (k15 : PySem.W.keepIn K (.ref f15) = true)
    (a16 : PySem.W.nsIn K mainGlobals "_law_read" = some (some (.ref f16))) (l16 : K.lookup f16 = some ⟨oc16, od16, .func (PySem.W.fnOf "_law_read" "_law_read" (defArgs s_law_read) (defBody s_law_read) (defScope s_law_read) .none kV16 dc16 pm16 an16 cd16 ct16), sl16⟩) (c16 : PySem.W.codeIn K cd16 "_law_read" = true) (k16 : PySem.W.keepIn K (.ref f16) = true)
    (a17 : PySem.W.nsIn K mainGlobals "_law_answered" = some (some (.ref f17))) (l17 : K.lookup f17 = some ⟨oc17, od17, .func (PySem.W.fnOf "_law_answered" "_law_answered" (defArgs s_law_answered) (defBody s_law_answered) (defScope s_law_answered) .none kV17 dc17 pm17 an17 cd17 ct17), sl17⟩) (c17 : PySem.W.codeIn K cd17 "_law_answered" = true) (k17 : PySem.W.keepIn K (.ref f17) = true)
    (a18 : PySem.W.nsIn K mainGlobals "law" = some (some (.ref f18))) (l18 : K.lookup f18 = some ⟨oc18, od18, .func (PySem.W.fnOf "law" "law" (defArgs s_law) (defBody s_law) (defScope s_law) .none kV18 dc18 pm18 an18 cd18 ct18), sl18⟩) (c18 : PySem.W.codeIn K cd18 "law" = true) (k18 : PySem.W.keepIn K (.ref f18) = true)
    (z_ValueError : PySem.W.nsIn K mainGlobals "ValueError" = some none)
    (z_abs : PySem.W.nsIn K mainGlobals "abs" = some none)
    (z_bool : PySem.W.nsIn K mainGlobals "bool" = some none)
    (z_enumerate : PySem.W.nsIn K mainGlobals "enumerate" = some none)
    (z_int : PySem.W.nsIn K mainGlobals "int" = some none)
    (z_isinstance : PySem.W.nsIn K mainGlobals "isinstance" = some none)
    (z_len : PySem.W.nsIn K mainGlobals "len" = some none)
    (z_list : PySem.W.nsIn K mainGlobals "list" = some none)
    (z_range : PySem.W.nsIn K mainGlobals "range" = some none)
    (z_str : PySem.W.nsIn K mainGlobals "str" = some none)
    (z_tuple : PySem.W.nsIn K mainGlobals "tuple" = some none)
    (q_SIGNS : PySem.W.nsIn K mainGlobals "SIGNS" = some (some (.str "1234567890ET" t_SIGNS)))
    (e_ChamberError : PySem.W.nsIn K mainGlobals "ChamberError" = some (some (.ref C_ChamberError)))
    (e_BadStage : PySem.W.nsIn K mainGlobals "BadStage" = some (some (.ref C_BadStage)))
    (e_BadChange : PySem.W.nsIn K mainGlobals "BadChange" = some (some (.ref C_BadChange)))
    (e_BadNotation : PySem.W.nsIn K mainGlobals "BadNotation" = some (some (.ref C_BadNotation)))
    (e_BadPositions : PySem.W.nsIn K mainGlobals "BadPositions" = some (some (.ref C_BadPositions)))
    (xs : exsB K C_ChamberError [("ChamberError", C_ChamberError), ("BadStage", C_BadStage), ("BadChange", C_BadChange), ("BadNotation", C_BadNotation), ("BadPositions", C_BadPositions)] = true)
    (zsu : PySem.W.nsIn K mainGlobals "super" = some none) (tp : (l.prog.main.scope.names.lookup ("super" : Str)).isSome = false)
    (i1_ChamberError : PySem.W.findIn K (.ref C_ChamberError) "__init__" = some (some (.ref fI_ChamberError))) (i2_ChamberError : PySem.W.typeIn K (.ref fI_ChamberError) = some (.type "function"))
    (i3_ChamberError : K.lookup fI_ChamberError = some ⟨oc_ChamberError, od_ChamberError, .func (PySem.W.ksFn "__init__" "ChamberError.__init__" (defArgs i_ChamberError) (defBody i_ChamberError) (defScope i_ChamberError) .none kV_ChamberError dc_ChamberError pm_ChamberError an_ChamberError cd_ChamberError ct_ChamberError cc_ChamberError), sl_ChamberError⟩)
    (i4_ChamberError : PySem.W.codeIn K cd_ChamberError "ChamberError.__init__" = true) (i5_ChamberError : K.lookup cc_ChamberError = some ⟨cl_ChamberError, cld_ChamberError, .cell (some (.ref C_ChamberError)), csl_ChamberError⟩) (i6_ChamberError : fileB K cd_ChamberError l.prog.main.file = true)
    (i1_BadStage : PySem.W.findIn K (.ref C_BadStage) "__init__" = some (some (.ref fI_BadStage))) (i2_BadStage : PySem.W.typeIn K (.ref fI_BadStage) = some (.type "function"))
    (i3_BadStage : K.lookup fI_BadStage = some ⟨oc_BadStage, od_BadStage, .func (PySem.W.ksFn "__init__" "BadStage.__init__" (defArgs i_BadStage) (defBody i_BadStage) (defScope i_BadStage) .none kV_BadStage dc_BadStage pm_BadStage an_BadStage cd_BadStage ct_BadStage cc_BadStage), sl_BadStage⟩)
    (i4_BadStage : PySem.W.codeIn K cd_BadStage "BadStage.__init__" = true) (i5_BadStage : K.lookup cc_BadStage = some ⟨cl_BadStage, cld_BadStage, .cell (some (.ref C_BadStage)), csl_BadStage⟩) (i6_BadStage : fileB K cd_BadStage l.prog.main.file = true)
    (i7_BadStage : PySem.W.ks_superIn K C_BadStage C_BadStage "__init__" = some (some (.ref fI_ChamberError))) (i8_BadStage : PySem.W.mroIn K C_BadStage (.ref C_BadStage) = some true)
    (i1_BadNotation : PySem.W.findIn K (.ref C_BadNotation) "__init__" = some (some (.ref fI_BadNotation))) (i2_BadNotation : PySem.W.typeIn K (.ref fI_BadNotation) = some (.type "function"))
    (i3_BadNotation : K.lookup fI_BadNotation = some ⟨oc_BadNotation, od_BadNotation, .func (PySem.W.ksFn "__init__" "BadNotation.__init__" (defArgs i_BadNotation) (defBody i_BadNotation) (defScope i_BadNotation) .none kV_BadNotation dc_BadNotation pm_BadNotation an_BadNotation cd_BadNotation ct_BadNotation cc_BadNotation), sl_BadNotation⟩)
    (i4_BadNotation : PySem.W.codeIn K cd_BadNotation "BadNotation.__init__" = true) (i5_BadNotation : K.lookup cc_BadNotation = some ⟨cl_BadNotation, cld_BadNotation, .cell (some (.ref C_BadNotation)), csl_BadNotation⟩) (i6_BadNotation : fileB K cd_BadNotation l.prog.main.file = true)
    (i7_BadNotation : PySem.W.ks_superIn K C_BadNotation C_BadNotation "__init__" = some (some (.ref fI_ChamberError))) (i8_BadNotation : PySem.W.mroIn K C_BadNotation (.ref C_BadNotation) = some true)
    (i9_BadNotation : PySem.W.findIn K (.ref C_BadNotation) "column" = some none)
    (kf : PySem.W.fnIn K fI_ChamberError = true)
    : ∃ fd : FuncData, (∀ (s : Shared) (v : Value), BindsTo s fd ⟨[v], []⟩ [("script", v)]) ∧ ∀ base : Heap, K.In base → base.Ns mainGlobals mg → FnOk l.prog w K mg base CX0 8 fa fd ["script"] (sp_law K) := by
  have e := hfa.symm.trans (PySem.W.mg_of X G a18)
  cases e
  have B : Bn mg := ⟨PySem.W.mg_none_of X G z_ValueError, PySem.W.mg_none_of X G z_abs, PySem.W.mg_none_of X G z_bool, PySem.W.mg_none_of X G z_enumerate, PySem.W.mg_none_of X G z_int, PySem.W.mg_none_of X G z_isinstance, PySem.W.mg_none_of X G z_len, PySem.W.mg_none_of X G z_list, PySem.W.mg_none_of X G z_range, PySem.W.mg_none_of X G z_str, PySem.W.mg_none_of X G z_tuple, ⟨_, PySem.W.mg_of X G q_SIGNS⟩⟩
  have D1 : At K mg "check_stage" s_check_stage := ⟨_, _, fun_mk (st := s_check_stage) l1 c1 k1, PySem.W.mg_of X G a1⟩
  have D2 : At K mg "place_of" s_place_of := ⟨_, _, fun_mk (st := s_place_of) l2 c2 k2, PySem.W.mg_of X G a2⟩
  have D3 : At K mg "may_follow" s_may_follow := ⟨_, _, fun_mk (st := s_may_follow) l3 c3 k3, PySem.W.mg_of X G a3⟩
  have D4 : At K mg "change_of" s_change_of := ⟨_, _, fun_mk (st := s_change_of) l4 c4 k4, PySem.W.mg_of X G a4⟩
  have D5 : At K mg "read_change" s_read_change := ⟨_, _, fun_mk (st := s_read_change) l5 c5 k5, PySem.W.mg_of X G a5⟩
  have D6 : At K mg "_law_cell" s_law_cell := ⟨_, _, fun_mk (st := s_law_cell) l6 c6 k6, PySem.W.mg_of X G a6⟩
  have D7 : At K mg "_law_pool" s_law_pool := ⟨_, _, fun_mk (st := s_law_pool) l7 c7 k7, PySem.W.mg_of X G a7⟩
  have D8 : At K mg "_law_draw" s_law_draw := ⟨_, _, fun_mk (st := s_law_draw) l8 c8 k8, PySem.W.mg_of X G a8⟩
  have D9 : At K mg "_law_change_draw" s_law_change_draw := ⟨_, _, fun_mk (st := s_law_change_draw) l9 c9 k9, PySem.W.mg_of X G a9⟩
  have D10 : At K mg "_law_same" s_law_same := ⟨_, _, fun_mk (st := s_law_same) l10 c10 k10, PySem.W.mg_of X G a10⟩
  have D11 : At K mg "_law_sign" s_law_sign := ⟨_, _, fun_mk (st := s_law_sign) l11 c11 k11, PySem.W.mg_of X G a11⟩
  have D12 : At K mg "_law_text" s_law_text := ⟨_, _, fun_mk (st := s_law_text) l12 c12 k12, PySem.W.mg_of X G a12⟩
  have D13 : At K mg "_law_bent_text" s_law_bent_text := ⟨_, _, fun_mk (st := s_law_bent_text) l13 c13 k13, PySem.W.mg_of X G a13⟩
  have D14 : At K mg "_law_valid" s_law_valid := ⟨_, _, fun_mk (st := s_law_valid) l14 c14 k14, PySem.W.mg_of X G a14⟩
  have D15 : At K mg "_law_due" s_law_due := ⟨_, _, fun_mk (st := s_law_due) l15 c15 k15, PySem.W.mg_of X G a15⟩
  have D16 : At K mg "_law_read" s_law_read := ⟨_, _, fun_mk (st := s_law_read) l16 c16 k16, PySem.W.mg_of X G a16⟩
  have D17 : At K mg "_law_answered" s_law_answered := ⟨_, _, fun_mk (st := s_law_answered) l17 c17 k17, PySem.W.mg_of X G a17⟩
  have D18 : At K mg "law" s_law := ⟨_, _, fun_mk (st := s_law) l18 c18 k18, PySem.W.mg_of X G a18⟩
  have FL := fun_mk (st := s_law) l18 c18 k18
  have M_ChamberError : mg "ChamberError" = some (.ref C_ChamberError) := PySem.W.mg_of X G e_ChamberError
  have M_BadStage : mg "BadStage" = some (.ref C_BadStage) := PySem.W.mg_of X G e_BadStage
  have M_BadChange : mg "BadChange" = some (.ref C_BadChange) := PySem.W.mg_of X G e_BadChange
  have M_BadNotation : mg "BadNotation" = some (.ref C_BadNotation) := PySem.W.mg_of X G e_BadNotation
  have M_BadPositions : mg "BadPositions" = some (.ref C_BadPositions) := PySem.W.mg_of X G e_BadPositions
  have XS : Exs K (ecOf mg) XN := exs_of (l := [("ChamberError", C_ChamberError), ("BadStage", C_BadStage), ("BadChange", C_BadChange), ("BadNotation", C_BadNotation), ("BadPositions", C_BadPositions)]) M_ChamberError (by simp only [List.forall_mem_cons]; exact ⟨M_ChamberError, M_BadStage, M_BadChange, M_BadNotation, M_BadPositions, fun _ h => nomatch h⟩) xs
  have EX : ExAt mg (ecOf mg) XN := by
    unfold ExAt
    simp only [XN, List.forall_mem_cons]
    exact ⟨by rw [ecOf_at M_ChamberError]; exact M_ChamberError, by rw [ecOf_at M_BadStage]; exact M_BadStage, by rw [ecOf_at M_BadChange]; exact M_BadChange, by rw [ecOf_at M_BadNotation]; exact M_BadNotation, by rw [ecOf_at M_BadPositions]; exact M_BadPositions, fun _ h => nomatch h⟩
  have BC_ChamberError : Bad K C_ChamberError C_ChamberError := by have z := XS.bad "ChamberError" (by decide); simp only [ecOf_at M_ChamberError, ecOf_at M_ChamberError] at z; exact z
  have BC_BadStage : Bad K C_BadStage C_ChamberError := by have z := XS.bad "BadStage" (by decide); simp only [ecOf_at M_BadStage, ecOf_at M_ChamberError] at z; exact z
  have BC_BadChange : Bad K C_BadChange C_ChamberError := by have z := XS.bad "BadChange" (by decide); simp only [ecOf_at M_BadChange, ecOf_at M_ChamberError] at z; exact z
  have BC_BadNotation : Bad K C_BadNotation C_ChamberError := by have z := XS.bad "BadNotation" (by decide); simp only [ecOf_at M_BadNotation, ecOf_at M_ChamberError] at z; exact z
  have BC_BadPositions : Bad K C_BadPositions C_ChamberError := by have z := XS.bad "BadPositions" (by decide); simp only [ecOf_at M_BadPositions, ecOf_at M_ChamberError] at z; exact z
  refine ⟨PySem.W.fnOf "law" "law" (defArgs s_law) (defBody s_law) (defScope s_law) .none kV18 dc18 pm18 an18 cd18 ct18, fun s v => .of_eq rfl, fun base _ _ => ?_⟩
  have FC := ok_CE (w := w) (base := base) (D := C_ChamberError) (S := (⟨⟨_, _, _, _, _, _, _, _, _, _, _, _, _, _, rfl, i3_ChamberError, i4_ChamberError, i5_ChamberError, i6_ChamberError⟩, ⟨rfl, rfl, rfl, by decide +kernel, rfl, by decide +kernel, by decide +kernel, by decide +kernel⟩, rfl, rfl, rfl, ⟨_, rfl, rfl⟩, PySem.W.mg_none_of X G zsu, tp, BC_ChamberError.cls⟩ : SupI l.prog K mg "ChamberError.__init__" i_ChamberError C_ChamberError ["self", "word"] fI_ChamberError _)) rfl ⟨_, fun _ => rfl⟩ rfl
  have BCE : Binds K _ ["self", "word"] [] := Binds.all (fd := PySem.W.ksFn "__init__" "ChamberError.__init__" (defArgs i_ChamberError) (defBody i_ChamberError) (defScope i_ChamberError) .none kV_ChamberError dc_ChamberError pm_ChamberError an_ChamberError cd_ChamberError ct_ChamberError cc_ChamberError) fun us hl => match us, hl with | [_, _], _ => rfl
  have Z_BadNotation : Rz1 l.prog w K mg base "BadNotation" "column" (ecOf mg "BadNotation") := by
    rw [ecOf_at M_BadNotation]
    exact ⟨⟨_, _, i1_BadNotation, i2_BadNotation, ok_B1 (w := w) (base := base) (nm := "BadNotation") (at1 := "column") (S := (⟨⟨_, _, _, _, _, _, _, _, _, _, _, _, _, _, rfl, i3_BadNotation, i4_BadNotation, i5_BadNotation, i6_BadNotation⟩, ⟨rfl, rfl, rfl, by decide +kernel, rfl, by decide +kernel, by decide +kernel, by decide +kernel⟩, rfl, rfl, rfl, ⟨_, rfl, rfl⟩, PySem.W.mg_none_of X G zsu, tp, BC_BadNotation.cls⟩ : SupI l.prog K mg "BadNotation.__init__" i_BadNotation C_BadNotation ["self", "column"] fI_BadNotation _)) rfl ⟨_, fun _ => rfl⟩ rfl (by decide) (by decide) i9_BadNotation FC BCE BC_BadNotation i8_BadNotation i7_BadNotation i2_ChamberError kf, Binds.all fun us hl => match us, hl with | [_, _], _ => rfl⟩, BC_BadNotation.ox, M_BadNotation⟩
  have Z_BadStage : Rz0 l.prog w K mg base "BadStage" (ecOf mg "BadStage") := by
    rw [ecOf_at M_BadStage]
    exact ⟨⟨_, _, i1_BadStage, i2_BadStage, ok_B0 (w := w) (base := base) (nm := "BadStage") (S := (⟨⟨_, _, _, _, _, _, _, _, _, _, _, _, _, _, rfl, i3_BadStage, i4_BadStage, i5_BadStage, i6_BadStage⟩, ⟨rfl, rfl, rfl, by decide +kernel, rfl, by decide +kernel, by decide +kernel, by decide +kernel⟩, rfl, rfl, rfl, ⟨_, rfl, rfl⟩, PySem.W.mg_none_of X G zsu, tp, BC_BadStage.cls⟩ : SupI l.prog K mg "BadStage.__init__" i_BadStage C_BadStage ["self"] fI_BadStage _)) rfl ⟨_, fun _ => rfl⟩ FC BCE BC_BadStage i8_BadStage i7_BadStage i2_ChamberError kf, Binds.all fun us hl => match us, hl with | [_], _ => rfl⟩, BC_BadStage.ox, M_BadStage⟩
  have G1 := ok_check_stage (P := l.prog) (w := w) (base := base) D1 B XS EX Z_BadStage
  have G2 := ok_place_of (P := l.prog) (w := w) (base := base) D2 B
  have G3 := ok_may_follow (P := l.prog) (w := w) (base := base) D3 B
  have G4 := ok_change_of (P := l.prog) (w := w) (base := base) D4 B
  have G5 := ok_read_change (P := l.prog) (w := w) (base := base) D5 B XS EX G1 G2 G3 G4 Z_BadNotation
  have G6 := ok_law_cell (P := l.prog) (w := w) (base := base) D6 B
  have G7 := ok_law_pool (P := l.prog) (w := w) (base := base) D7 B G6
  have G8 := ok_law_draw (P := l.prog) (w := w) (base := base) D8 B
  have G9 := ok_law_change_draw (P := l.prog) (w := w) (base := base) D9 B G8
  have G10 := ok_law_same (P := l.prog) (w := w) (base := base) D10 B
  have G11 := ok_law_sign (P := l.prog) (w := w) (base := base) D11 B G8
  have G12 := ok_law_text (P := l.prog) (w := w) (base := base) D12 B G8 G11 G9
  have G13 := ok_law_bent_text (P := l.prog) (w := w) (base := base) D13 B G8 G11
  have G14 := ok_law_valid (P := l.prog) (w := w) (base := base) D14 B
  have G15 := ok_law_due (P := l.prog) (w := w) (base := base) D15 B G14
  have G16 := ok_law_read (P := l.prog) (w := w) (base := base) D16 B XS EX G5 G10
  have G17 := ok_law_answered (P := l.prog) (w := w) (base := base) D17 B G15 G16 G10
  exact ok_lawF FL B G7 G8 G13 G12 G17 G9 G16 G10
end Kb
open PySem PySem.W PyProof.Rows
set_option maxRecDepth 100000 in
set_option maxHeartbeats 0 in
theorem PySem.Challenge.cw_ringingchamber_k09_texts_of_changes_holds : PySem.Challenge.rw_ringingchamber_k09_texts_of_changes.Holds := by
  w_on; o_law; k_head; (case hw => w_witness2)
  k_fill
  refine L2.walk_of (l := PySem.Challenge.rw_ringingchamber_k09_texts_of_changes) (n := 63) (k := 8) (x := "script") (CX := fun _ => L2.CX0) (sp := fun w => Kb.sp_law _) rfl (by decide) rfl ⟨rfl, by decide, by decide⟩ (fun w h Y => PySem.W.kIn_of Y) ?F (fun _ _ a ns hl _ hS => ⟨a, ns, rfl, hS, hl, fun _ => rfl⟩) (fun _ _ _ _ _ h => h)
  case F =>
    intro w mg fa h KX G hmg
    refine' Kb.all_mk KX G hmg ?a1 ?l1 ?c1 ?k1 ?a2 ?l2 ?c2 ?k2 ?a3 ?l3 ?c3 ?k3 ?a4 ?l4 ?c4 ?k4 ?a5 ?l5 ?c5 ?k5 ?a6 ?l6 ?c6 ?k6 ?a7 ?l7 ?c7 ?k7 ?a8 ?l8 ?c8 ?k8 ?a9 ?l9 ?c9 ?k9 ?a10 ?l10 ?c10 ?k10 ?a11 ?l11 ?c11 ?k11 ?a12 ?l12 ?c12 ?k12 ?a13 ?l13 ?c13 ?k13 ?a14 ?l14 ?c14 ?k14 ?a15 ?l15 ?c15 ?k15 ?a16 ?l16 ?c16 ?k16 ?a17 ?l17 ?c17 ?k17 ?a18 ?l18 ?c18 ?k18 ?z_ValueError ?z_abs ?z_bool ?z_enumerate ?z_int ?z_isinstance ?z_len ?z_list ?z_range ?z_str ?z_tuple ?q_SIGNS ?e_ChamberError ?e_BadStage ?e_BadChange ?e_BadNotation ?e_BadPositions ?xs ?zsu ?tp ?i1_ChamberError ?i2_ChamberError ?i3_ChamberError ?i4_ChamberError ?i5_ChamberError ?i6_ChamberError ?i1_BadStage ?i2_BadStage ?i3_BadStage ?i4_BadStage ?i5_BadStage ?i6_BadStage ?i7_BadStage ?i8_BadStage ?i1_BadNotation ?i2_BadNotation ?i3_BadNotation ?i4_BadNotation ?i5_BadNotation ?i6_BadNotation ?i7_BadNotation ?i8_BadNotation ?i9_BadNotation ?kf
    (case a1 => k_is); (case l1 => k_is); (case c1 => k_is); (case k1 => k_is); (case a2 => k_is); (case l2 => k_is); (case c2 => k_is); (case k2 => k_is); (case a3 => k_is); (case l3 => k_is); (case c3 => k_is); (case k3 => k_is); (case a4 => k_is); (case l4 => k_is); (case c4 => k_is); (case k4 => k_is); (case a5 => k_is); (case l5 => k_is); (case c5 => k_is); (case k5 => k_is); (case a6 => k_is); (case l6 => k_is); (case c6 => k_is); (case k6 => k_is); (case a7 => k_is); (case l7 => k_is); (case c7 => k_is); (case k7 => k_is); (case a8 => k_is); (case l8 => k_is); (case c8 => k_is); (case k8 => k_is); (case a9 => k_is); (case l9 => k_is); (case c9 => k_is); (case k9 => k_is); (case a10 => k_is); (case l10 => k_is); (case c10 => k_is); (case k10 => k_is); (case a11 => k_is); (case l11 => k_is); (case c11 => k_is); (case k11 => k_is); (case a12 => k_is); (case l12 => k_is); (case c12 => k_is); (case k12 => k_is); (case a13 => k_is); (case l13 => k_is); (case c13 => k_is); (case k13 => k_is); (case a14 => k_is); (case l14 => k_is); (case c14 => k_is); (case k14 => k_is); (case a15 => k_is); (case l15 => k_is); (case c15 => k_is); (case k15 => k_is); (case a16 => k_is); (case l16 => k_is); (case c16 => k_is); (case k16 => k_is); (case a17 => k_is); (case l17 => k_is); (case c17 => k_is); (case k17 => k_is); (case a18 => k_is); (case l18 => k_is); (case c18 => k_is); (case k18 => k_is); (case z_ValueError => k_is); (case z_abs => k_is); (case z_bool => k_is); (case z_enumerate => k_is); (case z_int => k_is); (case z_isinstance => k_is); (case z_len => k_is); (case z_list => k_is); (case z_range => k_is); (case z_str => k_is); (case z_tuple => k_is); (case q_SIGNS => k_is); (case e_ChamberError => k_is); (case e_BadStage => k_is); (case e_BadChange => k_is); (case e_BadNotation => k_is); (case e_BadPositions => k_is); (case xs => kernel_rfl); (case zsu => k_is); (case tp => decide +kernel); (case i1_ChamberError => k_is); (case i2_ChamberError => k_is); (case i3_ChamberError => k_is); (case i4_ChamberError => k_is); (case i5_ChamberError => k_is); (case i6_ChamberError => kernel_rfl); (case i1_BadStage => k_is); (case i2_BadStage => k_is); (case i3_BadStage => k_is); (case i4_BadStage => k_is); (case i5_BadStage => k_is); (case i6_BadStage => kernel_rfl); (case i7_BadStage => kernel_rfl); (case i8_BadStage => k_is); (case i1_BadNotation => k_is); (case i2_BadNotation => k_is); (case i3_BadNotation => k_is); (case i4_BadNotation => k_is); (case i5_BadNotation => k_is); (case i6_BadNotation => kernel_rfl); (case i7_BadNotation => kernel_rfl); (case i8_BadNotation => k_is); (case i9_BadNotation => k_is); (case kf => k_is)


