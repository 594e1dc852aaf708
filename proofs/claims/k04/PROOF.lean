import PyProof.Rows.All
import Wide.All
import OpenK.AllK
import Wide.FinOn
import HandS.ForMost
import HandS.Conv
import HandS.IsInst
import HandS.Wide
import HandS.TupAny
import HandS.TupLe
import HandS.TupMul
import KE.KExcSuper
import KE.KExcIs
import HandS.Exc
import HandS.ExcInit
import HandS.ExcField
import HandS.ExcIs
import HandS.WordsExc
import KE.GoesEnumKw
import HandS.Iter
import HandS.Strs
import HandS.SetFor
import HandS.List
import PySem.Challenge.RW_ringingchamber_k04_ranks_of_rows
set_option Elab.async false
set_option linter.all false
set_option maxRecDepth 100000
/-! KbA: operators that take any kind, one reading a construct; the step lemmas of a reading. -/
namespace Kb
open PySem PySem.Spec PyProof.Rows L2

/-! ### operators over several kinds of values -/
section
variable {X : Cx}
def rAddU (K : PySem.W.Frag) : R2 := fun x y H Q => rI0 (fun i j => .int (i + j)) x y H Q ∨
  ((fun x y H Q => ∃ i j, x = V.str i ∧ y = V.str j ∧ i.length + j.length ≤ sizeLine ∧ Q (V.str (i ++ j)) H) x y H Q ∨ (rCat x y H Q ∨ rCatA K x y H Q))
theorem op_addU : OpR X (binaryOp .Add) (rAddU X.K) := OpR.or op_add (OpR.or op_add_str (OpR.or op_cat op_catA))
def rMulU (K : PySem.W.Frag) : R2 := fun x y H Q => rI CMul (fun i j => .int (i * j)) x y H Q ∨ (rI CMulW (fun i j => .int (i * j)) x y H Q ∨ (rRep x y H Q ∨ rRepT K x y H Q))
theorem op_mulU : OpR X (binaryOp .Mult) (rMulU X.K) := OpR.or op_mul (OpR.or op_mulW (OpR.or op_rep op_repT))
def rFdivU : R2 := rI CDivW (fun i j => .int (i / j))
theorem op_fdivU : OpR X (binaryOp .FloorDiv) rFdivU := op_fdivW
def rModU : R2 := rI (fun _ j => 0 < j) (fun i j => .int (i % j))
theorem op_modU : OpR X (binaryOp .Mod) rModU := op_mod
def rSubU : R2 := rI0 (fun i j => .int (i - j))
theorem op_subU : OpR X (binaryOp .Sub) rSubU := op_sub
def rPowU : R2 := rI CPow (fun i j => .int (i ^ j.toNat))
theorem op_powU : OpR X (binaryOp .Pow) rPowU := op_pow
def rEqU (K : PySem.W.Frag) : R2 := fun x y H Q => rEq x y H Q ∨ rEqD K x y H Q
theorem op_eqU (hu : X.A.units + 64 < cLine) : OpR X (compareOp .Eq) (rEqU X.K) := OpR.or op_eq (op_eqD hu)
def rNeU (K : PySem.W.Frag) : R2 := fun x y H Q => rNe x y H Q ∨ rNeD K x y H Q
theorem op_neU (hu : X.A.units + 64 < cLine) : OpR X (compareOp .NotEq) (rNeU X.K) := OpR.or op_ne (op_neD hu)
def rLtU (K : PySem.W.Frag) : R2 := fun x y H Q => rI0 (fun i j => .bl (decide (i < j))) x y H Q ∨
  ((fun x y H Q => ∃ i j, x = V.str i ∧ y = V.str j ∧ Q (V.bl (decide (i.cps.toList < j.cps.toList))) H) x y H Q ∨ rLtT K x y H Q)
theorem op_ltU (hu : X.A.units + 64 < cLine) : OpR X (compareOp .Lt) (rLtU X.K) := OpR.or op_lt (OpR.or op_lt_str (op_ltT (by omega)))
def rLeU (K : PySem.W.Frag) : R2 := fun x y H Q => rI0 (fun i j => .bl (decide (i ≤ j))) x y H Q ∨
  ((fun x y H Q => ∃ i j, x = V.str i ∧ y = V.str j ∧ Q (V.bl (!decide (j.cps.toList < i.cps.toList))) H) x y H Q ∨ rLeT K x y H Q)
theorem op_leU (hu : X.A.units + 64 < cLine) : OpR X (compareOp .LtE) (rLeU X.K) := OpR.or op_le (OpR.or op_le_str (op_leT (by omega)))
def rGtU : R2 := fun x y H Q => rI0 (fun i j => .bl (decide (j < i))) x y H Q ∨
  (fun x y H Q => ∃ i j, x = V.str i ∧ y = V.str j ∧ Q (V.bl (decide (j.cps.toList < i.cps.toList))) H) x y H Q
theorem op_gtU : OpR X (compareOp .Gt) rGtU := OpR.or op_gt op_gt_str
def rGeU : R2 := fun x y H Q => rI0 (fun i j => .bl (decide (j ≤ i))) x y H Q ∨
  (fun x y H Q => ∃ i j, x = V.str i ∧ y = V.str j ∧ Q (V.bl (!decide (i.cps.toList < j.cps.toList))) H) x y H Q
theorem op_geU : OpR X (compareOp .GtE) rGeU := OpR.or op_ge op_ge_str
def rInU (K : PySem.W.Frag) : R2 := fun x y H Q => rIn K false x y H Q ∨
  (fun x y H Q => ∃ (c : Nat) (z : Str), x = V.str ⟨#[c]⟩ ∧ y = V.str z ∧ Q (V.bl (decide (c ∈ z.cps.toList))) H) x y H Q
theorem op_inU : OpR X (compareOp .In) (rInU X.K) := OpR.or op_in_seq op_in_sign
def rNotInU (K : PySem.W.Frag) : R2 := fun x y H Q => rIn K true x y H Q ∨
  (fun x y H Q => ∃ (c : Nat) (z : Str), x = V.str ⟨#[c]⟩ ∧ y = V.str z ∧ Q (V.bl (!decide (c ∈ z.cps.toList))) H) x y H Q
theorem op_notInU : OpR X (compareOp .NotIn) (rNotInU X.K) := OpR.or op_notIn_seq op_notIn_sign
def rIsNU : R2 := fun x y H Q => y = V.non ∧ Q (V.bl (decide (x = V.non))) H
theorem op_isNU : OpR X (compareOp .Is) rIsNU := op_isN
def rNotNU : R2 := fun x y H Q => y = V.non ∧ Q (V.bl (!decide (x = V.non))) H
theorem op_notNU : OpR X (compareOp .IsNot) rNotNU := op_notN
def rSlU (K : PySem.W.Frag) : V → Option Int → Option Int → Hp → VK → Prop := fun x lo hi H Q => rSlL K x lo hi H Q ∨ (rSlA K x lo hi H Q ∨ rSlS x lo hi H Q)
theorem sl_U : SlR X (rSlU X.K) := SlR.or sl_list (SlR.or sl_tupA sl_str)
def rLenU (K : PySem.W.Frag) : List V → Hp → VK → Prop := fun xs H Q => (fun xs H Q => ∃ p ys, xs = [V.ref p] ∧ (SqL K H p ys ∨ SqT K H p ys) ∧ Q (V.int ys.length) H) xs H Q ∨
  ((fun xs H Q => ∃ z, xs = [V.str z] ∧ z.length ≤ sizeLine ∧ Q (V.int z.length) H) xs H Q ∨ (fun xs H Q => ∃ a kvs, xs = [V.ref a] ∧ H a = some (.dK kvs) ∧ Q (.int kvs.length) H) xs H Q)
theorem call_lenU : CallR X (.builtin "len") (rLenU X.K) := CallR.or call_len_seq (CallR.or call_len_str call_lenD)
def rIntU : List V → Hp → VK → Prop := fun xs H Q => ∃ i, xs = [V.int i] ∧ Q (V.int i) H
theorem call_intU : CallR X (.type "int") rIntU := fun pins s σ H xs us Q I r h => call_int1 pins s σ H xs us Q I r (.inl h)
def rAbsU : List V → Hp → VK → Prop := fun xs H Q => ∃ i, xs = [V.int i] ∧ Q (V.int (if i < 0 then -i else i)) H
theorem call_absU : CallR X (.builtin "abs") rAbsU := call_abs
def rListU (K : PySem.W.Frag) : List V → Hp → VK → Prop := fun xs H Q => ∃ p ys, xs = [V.ref p] ∧ (SqL K H p ys ∨ SqT K H p ys) ∧ ∀ l, H l = none → Q (V.ref l) (upd H l (.lst ys))
theorem call_listU : CallR X (.type "list") (rListU X.K) := call_list_of
theorem PI.or {tg e : Expr} {w1 w2 : TI} (h1 : PI X tg e w1) (h2 : PI X tg e w2) : PI X tg e (fun σ H R => w1 σ H R ∨ w2 σ H R) := by
  refine ⟨fun pins s σ H R I h => ?_⟩
  rcases h with h | h
  · exact h1.run pins s σ H R I h
  · exact h2.run pins s σ H R I h
def iSeqU (K : PySem.W.Frag) (te : TE) : TI := fun σ H R => iList K te σ H R ∨ (iTup K te σ H R ∨ iStr te σ H R)
theorem pi_seqU {tg e : Expr} {te : TE} (he : PE X e te) : PI X tg e (iSeqU X.K te) := PI.or (pi_list he) (PI.or (pi_tup he) (pi_str he))
def tTru (K : PySem.W.Frag) (ta : TE) : TT := fun σ H Q => ta σ H fun x H' => ∃ k, TruV K x H' k ∧ Q k H'
theorem pt_truU {a : Expr} {ta : TE} (h : PE X a ta) (hq : ∀ whole, isTrue a X.env whole = (do let v ← whole; standAt a.pos; holding [v] (truthy v))) : PT X a (tTru X.K ta) := pt_truth h hq
/-- a tuple that tuple(..) has made: the object is told, it has no dict (a method may be asked of it) -/
def kTupD (K : PySem.W.Frag) (x : V) (H : Hp) (Q : VK) : Prop :=
  (∃ p xs, x = .ref p ∧ SqL K H p xs ∧ ∀ (q : Addr) (o : Obj), H q = none → o.dict = none → Q (.ref q) (upd H q (.frz o (.tup xs)))) ∨ (∃ p xs, x = .ref p ∧ SqT K H p xs ∧ Q (.ref p) H)
theorem rl_tupD (pins : List (Addr × Obj)) (s : Shared) (σ : L2.St) (H : Hp) (x : V) (v : Value) (Q : VK) (I : Inv X pins σ H s) (r : RelV x v) (h : kTupD X.K x H Q) :
    wpAny (model X.prog X.w) X.A (call (.type "tuple") [v]) (EP X pins σ Q) X.xe s := by
  rcases h with ⟨p, xs, rfl, hs, q⟩ | ⟨p, xs, rfl, hs, q⟩
  · obtain rfl : v = .ref p := r
    obtain ⟨its, rv, pl, hz⟩ := I.list hs
    refine call_tuple_list pl.isList (fun h' hk => ?_) (by rw [List.size_toArray, ← rv.length]; exact hz)
    have I1 : Inv X pins σ H { s with heap := h' } := I.kept (t' := s.toks) hk
    have I2 : Inv X pins σ (upd H h'.objs.size (.frz { cls := .type "tuple", data := .seq its.toArray } (.tup xs))) { s with heap := h'.push { cls := .type "tuple", data := .seq its.toArray } } :=
      I1.laid (t' := s.toks) (fun b o e => Heap.get?_push_of_some _ e) (Nat.le_refl _) (show ObjOk X.prog X.w _ _ _ (.frz _ (.tup xs)) from ⟨Heap.get?_push_size _ rfl, hz, its, rv, IsTup.new _ _⟩)
    exact ⟨.ref h'.objs.size, _, I2, rfl, q _ _ (I1.hok.fresh (Nat.le_refl _)) rfl⟩
  · obtain rfl : v = .ref p := r
    obtain ⟨its, rv, pl, hz⟩ := I.tuple hs
    exact call_tuple_tup pl ⟨.ref p, H, I, rfl, q⟩
theorem pe_tupD {a : Expr} {ta : TE} {p pos : Pos} (hg : Gl X "tuple") (hm : X.mg "tuple" = none) (ha : PE X a ta) (na : starEach [a] X.env = (false, eval a X.env) :: starEach [] X.env := by rfl) :
    PE X (.Call (.Name "tuple" p) [a] [] pos) (tThen ta (kTupD X.K)) := by
  refine ⟨fun pins s σ H Q I h => ?_⟩
  exact Call_ (ld_blt I hg hm boot_tuple (PyProof.Rows.callWith_type1 (one_arg ha I h (fun v s2 x H2 I2 r q => rl_tupD pins s2 σ H2 x v Q I2 r q) na) na))
/-- the object at p is told and has no dict -/
def NoD (H : Hp) (p : Addr) : Prop := ∃ (o : Obj) (u : HO), H p = some (.frz o u) ∧ o.dict = none
def tBMT (K : PySem.W.Frag) (r : V → List V → Hp → VK → Prop) (to : TE) (t : TA) : TE := fun σ H Q => to σ H fun x H1 => (∃ p xs, x = .ref p ∧ SqT K H1 p xs ∧ NoD H1 p) ∧ t σ H1 fun xs H2 => r x xs H2 Q
theorem pe_bmT {o e : Expr} {es : List Expr} {to : TE} {t : TA} {name : Str} {apos cpos : Pos} {id : String} {r : V → List V → Hp → VK → Prop} (slot : Slot "tuple" name id) (hty : typeOf (.builtin id) = pure (.type "method_descriptor")) (hm : MtR X id r) (ho : PE X o to) (ha : PA X (e :: es) t)
    (hbase : attributeBase o name X.env (eval o X.env) = eval o X.env := by rfl)
    (hfew : ((backTo cpos (starEach (e :: es) X.env)).all (fun x => !x.1) && (backToKw cpos (keywordEach [] X.env)).all (fun x => x.1.isSome)
      && decide ((e :: es).length + ([] : List Keyword).length + (if ([] : List Keyword).isEmpty then 0 else 1) < 30)) = true := by rfl)
    (hline : (apos.endLine == cpos.line) = true := by rfl) (hs : starEach (e :: es) X.env = (false, eval e X.env) :: starEach es X.env := by rfl) (hplain : (backTo cpos (starEach es X.env)).any (·.1) = false := by rfl) :
    PE X (.Call (.Attribute o name apos) (e :: es) [] cpos) (tBMT X.K r to t) := by
  refine ⟨fun pins s σ H Q I h => ?_⟩
  refine wpAny_Call_method_late hbase hfew hline rfl (thn (ho.run pins s σ H _ I h) fun v s1 ⟨x, H1, I1, r1, ⟨p, xs, ex, hq, oo, uu, hp, hd⟩, q1⟩ => ?_)
  subst ex
  obtain rfl : v = Value.ref p := r1
  obtain ⟨its, rv, ⟨o1, e1, c1, _⟩, hz⟩ := I1.tuple hq
  have hok : ObjOk X.prog X.w H1 s1.heap p (.frz oo uu) := I1.hok p _ hp
  refine ⟨"tuple", id, PySem.F.plainAttrs_tuple, slot, hty, ⟨o1, e1, c1⟩, fun a ea => ?_, ?_⟩
  · cases ea
    exact ⟨oo, hok.1, hd⟩
  have hA := ha.run cpos pins s1 σ H1 _ I1 q1
  rw [hs] at hA ⊢
  refine Calls.callWith_builtin (by show (false || (backTo cpos (starEach es X.env)).any (·.1)) = false; rw [hplain] <;> rfl) (Calls.evalArgs_plain ?_)
  exact thn hA fun us s2 ⟨vs, H2, I2, r2, q2⟩ => hm pins s2 σ H2 (.ref p) vs (.ref p) us Q I2 rfl r2 q2
end
end Kb

set_option Elab.async false
set_option linter.all false
set_option maxRecDepth 100000
/-! KbB: defs by name; heaps; the step lemmas of readings; the tactic rd. -/
namespace Kb
open PySem PySem.Spec PyProof.Rows L2

/-! ### defs by name -/
structure Fn (P : Program) (w : World) (K : PySem.W.Frag) (mg : Str → Option Value) (base : Heap) (CX : CXT) (k : Nat) (x : Str) (ps : List Str) (sp : Sp) : Prop where
  ex : ∃ f fd, FnOk P w K mg base CX k f fd ps sp ∧ mg x = some (.ref f) ∧ PySem.W.keepIn K (.ref f) = true ∧ Binds K fd ps []
def At (K : PySem.W.Frag) (mg : Str → Option Value) (x : Str) (st : Stmt) : Prop := ∃ f fd, Fun K x x st f fd ∧ mg x = some (.ref f)
section
variable {X : Cx} {CX : CXT} {k : Nat} {ps : List Str} {sp : Sp} {E : XK} {x : Str} {p pos : Pos} {e : Expr} {es : List Expr} {t : TA}
theorem Fn.mk' {P : Program} {w : World} {K : PySem.W.Frag} {mg : Str → Option Value} {base : Heap} {f : Addr} {fd : FuncData} (F : FnOk P w K mg base CX k f fd ps sp) (hm : mg x = some (.ref f)) (hk : PySem.W.keepIn K (.ref f) = true) (hb : Binds K fd ps []) : Fn P w K mg base CX k x ps sp := ⟨f, fd, F, hm, hk, hb⟩
theorem pe_callF (G : Fn X.prog X.w X.K X.mg X.base CX k x ps sp) (hr : Room k X.A) (hg : Gl X x) (hx : Passes CX X E) (ha : PA X (e :: es) t) (hdb : (x == ("__debug__" : Str)) = false := by decide)
    (he : starEach (e :: es) X.env = (false, eval e X.env) :: starEach es X.env := by rfl) (hpl : (backTo pos (starEach es X.env)).any (·.1) = false := by rfl) : PE X (.Call (.Name x p) (e :: es) [] pos) (tCall sp [] E t) := by
  obtain ⟨f, fd, F, hm, hk, hb⟩ := G.ex
  exact pe_call F hr hg hm hk hb .nil hx ha hdb he hpl
theorem pe_callF0 (G : Fn X.prog X.w X.K X.mg X.base CX k x ps sp) (hr : Room k X.A) (hg : Gl X x) (hx : Passes CX X E) (hdb : (x == ("__debug__" : Str)) = false := by decide) : PE X (.Call (.Name x p) [] [] pos) (tCall sp [] E tNil) := by
  obtain ⟨f, fd, F, hm, hk, hb⟩ := G.ex
  exact pe_call0 F hr hg hm hk hb .nil hx hdb
end

/-! ### heaps -/
/-- all but l is as it was -/
def But (l : Addr) (H H' : Hp) : Prop := ∀ b o, b ≠ l → H b = some o → H' b = some o
section
variable {K : PySem.W.Frag} {H H1 H2 H' : Hp} {a l p : Addr} {o u : HO} {xs ys : List V} {ns : List Int}
theorem same_new (h : H p = none) : Same H (upd H p o) := fun b x e => by rw [upd_ne (ne_of_none e h)]; exact e
theorem but_upd : But l H (upd H l o) := fun b x n e => by rw [upd_ne n]; exact e
theorem But.trans (a : But l H H1) (b : But l H1 H2) : But l H H2 := fun c o n h => b c o n (a c o n h)
theorem But.refl : But l H H := fun _ _ _ h => h
theorem Same.but (s : Same H H') : But l H H' := fun b o _ h => s b o h
theorem rd_same (s : Same H H') (h : Rd H a u) : Rd H' a u := by
  rcases h with h | ⟨o, h⟩
  · exact .inl (s _ _ h)
  · exact .inr ⟨o, s _ _ h⟩
theorem sqT_same (s : Same H H') (h : SqT K H a xs) : SqT K H' a xs := by
  rcases h with h | h
  · exact .inl (rd_same s h)
  · exact .inr h
theorem sqL_same (s : Same H H') (h : SqL K H a xs) : SqL K H' a xs := s.seq h
theorem sqT_but (b : But l H H') (hl : H l = some (.lst ys)) (h : SqT K H a xs) : SqT K H' a xs := by
  rcases h with (h | ⟨o, h⟩) | h
  · exact .inl (.inl (b _ _ (ne_of h hl (by intro z; cases z)) h))
  · exact .inl (.inr ⟨o, b _ _ (ne_of h hl (by intro z; cases z)) h⟩)
  · exact .inr h
theorem sqL_but (b : But l H H') (hne : a ≠ l) (h : SqL K H a xs) : SqL K H' a xs := by
  rcases h with (h | ⟨o, h⟩) | h
  · exact .inl (.inl (b _ _ hne h))
  · exact .inl (.inr ⟨o, b _ _ hne h⟩)
  · exact .inr h
theorem at_same (s : Same H H') (h : H a = some o) : H' a = some o := s _ _ h
theorem at_but (b : But l H H') (hne : a ≠ l) (h : H a = some o) : H' a = some o := b _ _ hne h
theorem sqL_of (h : H a = some (.lst xs)) : SqL K H a xs := .inl (.inl h)
theorem sqT_of (h : H a = some (.tup xs)) : SqT K H a xs := .inl (.inl h)
/-- a but of an object that the first heap doesn't know is a same -/
theorem But.same (b : But l H H') (h : H l = none) : Same H H' := fun c o e => b c o (ne_of_none e h) e
theorem same_but (s : Same H H1) (b : But l H1 H2) (h : H l = none) : Same H H2 := fun c o e => b c o (ne_of_none e h) (s c o e)
theorem but_same (b : But l H H1) (s : Same H1 H2) : But l H H2 := fun c o n e => s c o (b c o n e)
end

/-! ### what a reading asks, by names (so that what follows stays an argument) -/
def PB (x : V) (H : Hp) (QB : Bool → Hp → Prop) : Prop := ∃ k, x = .bl k ∧ QB k H
def PIf (x : V) (A B : Prop) : Prop := ∃ c, x = .bl c ∧ if c = true then A else B
def PTr (K : PySem.W.Frag) (x : V) (H : Hp) (QB : Bool → Hp → Prop) : Prop := ∃ k, TruV K x H k ∧ QB k H
def PNew (z : Prop) (o : HO) (H : Hp) (Q : VK) : Prop := z ∧ ∀ p, H p = none → Q (.ref p) (upd H p o)
def PI2 (x y : V) (QR : Int → Int → Prop) : Prop := ∃ i j, x = .int i ∧ y = .int j ∧ QR i j
def PI1 (x : V) (QR : Int → Prop) : Prop := ∃ i, x = .int i ∧ QR i
def PNot (x : V) (H : Hp) (Q : VK) : Prop := ∃ c, x = .bl c ∧ Q (.bl (!c)) H
/-! ### steps of statements -/
section
variable {K : PySem.W.Frag} {D : Ends} {σ : L2.St} {H : Hp} {t u : TS} {te ta tb : TE} {g : TG} {c d : TT} {Q : VK} {QB : Bool → Hp → Prop} {v x y : V} {i j : Nat} {m n : Int} {b : Bool}
theorem r_seq (h : t { D with nx := u D } σ H) : tSeq t u D σ H := h
theorem r_next (h : D.nx σ H) : tNext D σ H := h
theorem r_asg (h : te σ H fun x H1 => g x σ H1 D.nx) : tAsg te g D σ H := h
theorem r_name {N : L2.St → Hp → Prop} (h : N (σ.set i (some v)) H) : gName i v σ H N := h
theorem r_drop (h : te σ H fun _ H1 => D.nx σ H1) : tDrop te D σ H := h
theorem r_ret (h : te σ H D.rt) : tRet te D σ H := h
theorem r_retN (h : D.rt .non H) : tRetN D σ H := h
theorem r_if (h : c σ H fun b H1 => if b = true then t D σ H1 else u D σ H1) : tIfS c t u D σ H := h
theorem r_brk (h : D.bk σ H) : tBreak D σ H := h
theorem r_cont (h : D.ct σ H) : tCont D σ H := h
/-! ### of expressions -/
theorem r_var (h : σ[i]? = some (some v)) (q : Q v H) : tVar i σ H Q := ⟨v, h, q⟩
theorem r_c (q : Q v H) : tC v σ H Q := q
theorem r_op {r : R2} (h : ta σ H fun x H1 => tb σ H1 fun y H2 => r x y H2 Q) : tOp r ta tb σ H Q := h
theorem r_un {r : V → Hp → VK → Prop} (h : ta σ H fun x H1 => r x H1 Q) : tUn r ta σ H Q := h
theorem r_neg (q : Q (.int (-m)) H) : rU (fun i => .int (-i)) (.int m) H Q := ⟨m, rfl, q⟩
theorem r_addI (q : Q (.int (m + n)) H) : rAddU K (.int m) (.int n) H Q := .inl ⟨m, n, rfl, rfl, q⟩
theorem r_addS {z w : Str} (hz : z.length + w.length ≤ sizeLine) (q : Q (.str (z ++ w)) H) : rAddU K (.str z) (.str w) H Q := .inr (.inl ⟨z, w, rfl, rfl, hz, q⟩)
theorem r_subI (q : Q (.int (m - n)) H) : rSubU (.int m) (.int n) H Q := ⟨m, n, rfl, rfl, q⟩
theorem r_mulI (c : CMul m n) (q : Q (.int (m * n)) H) : rMulU K (.int m) (.int n) H Q := .inl ⟨m, n, rfl, rfl, c, q⟩
theorem r_mulL {p : Addr} {xs : List V} (h : H p = some (.lst xs)) (h0 : -(2 ^ 63) ≤ n) (h1 : n < 2 ^ 63) (hz : xs.length * n.toNat ≤ sizeLine) (k : ∀ q H', H q = none → Same H H' → H' q = some (.lst (List.replicate n.toNat xs).flatten) → Q (.ref q) H') :
    rMulU K (.ref p) (.int n) H Q := .inr (.inr (.inl ⟨p, n, xs, rfl, rfl, h, h0, h1, hz, fun q hq => k q _ hq (same_new hq) upd_same⟩))
theorem r_fdiv (h0 : 0 < n) (h1 : n.natAbs.log2 < 9000) (q : Q (.int (m / n)) H) : rFdivU (.int m) (.int n) H Q := ⟨m, n, rfl, rfl, ⟨h0, h1⟩, q⟩
theorem r_mod (h0 : 0 < n) (q : Q (.int (m % n)) H) : rModU (.int m) (.int n) H Q := ⟨m, n, rfl, rfl, h0, q⟩
theorem r_pow (h0 : CPow m n) (q : Q (.int (m ^ n.toNat)) H) : rPowU (.int m) (.int n) H Q := ⟨m, n, rfl, rfl, h0, q⟩
theorem r_eqI (q : Q (.bl (decide (m = n))) H) : rEqU K (.int m) (.int n) H Q := .inl ⟨rfl, by
  have e : decide (V.int m = V.int n) = decide (m = n) := by by_cases h : m = n <;> simp [h]
  rw [e]; exact q⟩
theorem r_neI (q : Q (.bl (!decide (m = n))) H) : rNeU K (.int m) (.int n) H Q := .inl ⟨rfl, by
  have e : decide (V.int m = V.int n) = decide (m = n) := by by_cases h : m = n <;> simp [h]
  rw [e]; exact q⟩
theorem r_ltI (q : Q (.bl (decide (m < n))) H) : rLtU K (.int m) (.int n) H Q := .inl ⟨m, n, rfl, rfl, q⟩
theorem r_leI (q : Q (.bl (decide (m ≤ n))) H) : rLeU K (.int m) (.int n) H Q := .inl ⟨m, n, rfl, rfl, q⟩
theorem r_gtI (q : Q (.bl (decide (n < m))) H) : rGtU (.int m) (.int n) H Q := .inl ⟨m, n, rfl, rfl, q⟩
theorem r_geI (q : Q (.bl (decide (n ≤ m))) H) : rGeU (.int m) (.int n) H Q := .inl ⟨m, n, rfl, rfl, q⟩
theorem r_isN (q : Q (.bl (decide (x = .non))) H) : rIsNU x .non H Q := ⟨rfl, q⟩
theorem r_notN (q : Q (.bl (!decide (x = .non))) H) : rNotNU x .non H Q := ⟨rfl, q⟩
theorem r_test (h : te σ H fun x H' => PB x H' QB) : tTest te σ H QB := h
theorem r_B (h : te σ H fun x H' => PB x H' QB) : tB te σ H QB := h
theorem r_k (q : QB b H) : PB (.bl b) H QB := ⟨b, rfl, q⟩
theorem r_not (h : c σ H fun b H1 => QB (!b) H1) : tNot c σ H QB := h
theorem r_and (h : c σ H fun b H1 => if b = true then d σ H1 QB else QB false H1) : tAnd c d σ H QB := h
theorem r_or (h : c σ H fun b H1 => if b = true then QB true H1 else d σ H1 QB) : tOr c d σ H QB := h
theorem r_andV (h : ta σ H fun x H1 => PIf x (tb σ H1 Q) (Q (.bl false) H1)) : tAndV ta tb σ H Q := h
theorem r_orV (h : ta σ H fun x H1 => PIf x (Q (.bl true) H1) (tb σ H1 Q)) : tOrV ta tb σ H Q := h
theorem r_pif {A B : Prop} (h : if b = true then A else B) : PIf (.bl b) A B := ⟨b, rfl, h⟩
theorem r_notV (h : ta σ H fun x H1 => PNot x H1 Q) : tNotV ta σ H Q := h
theorem r_pnot (q : Q (.bl (!b)) H) : PNot (.bl b) H Q := ⟨b, rfl, q⟩
theorem r_ifE (h : c σ H fun b H1 => if b = true then ta σ H1 Q else tb σ H1 Q) : tIf c ta tb σ H Q := h
theorem r_chain {r r' : R2} {tc : TE} (h : ta σ H fun x H1 => tb σ H1 fun y H2 => r x y H2 fun z H3 => PIf z (tc σ H3 fun w' H4 => r' y w' H4 Q) (Q (.bl false) H3)) : tChain r r' ta tb tc σ H Q := h
theorem r_tru (h : ta σ H fun x H' => PTr K x H' QB) : tTru K ta σ H QB := h
theorem r_truB (q : QB b H) : PTr K (.bl b) H QB := ⟨b, rfl, q⟩
theorem r_truI (q : QB (m != 0) H) : PTr K (.int m) H QB := ⟨_, rfl, q⟩
theorem r_truL {p : Addr} {xs : List V} (h : SqL K H p xs) (q : QB (!xs.isEmpty) H) : PTr K (.ref p) H QB := ⟨_, .inl ⟨xs, h, rfl⟩, q⟩
theorem r_truT {p : Addr} {xs : List V} (h : SqT K H p xs) (q : QB (!xs.isEmpty) H) : PTr K (.ref p) H QB := ⟨_, .inr (.inl ⟨xs, h, rfl⟩), q⟩
theorem r_nil {QA : List V → Hp → Prop} (q : QA [] H) : tNil σ H QA := q
theorem r_cons {tr : TA} {QA : List V → Hp → Prop} (h : ta σ H fun x H1 => tr σ H1 fun xs H2 => QA (x :: xs) H2) : tCons ta tr σ H QA := h
theorem r_CB {r : List V → Hp → VK → Prop} {ts : TA} (h : ts σ H fun vs H1 => r vs H1 Q) : tCB r ts σ H Q := h
theorem r_lenL {p : Addr} {xs : List V} (h : SqL K H p xs) (q : Q (.int (xs.length : Int)) H) : rLenU K [.ref p] H Q := .inl ⟨p, xs, rfl, .inl h, q⟩
theorem r_lenT {p : Addr} {xs : List V} (h : SqT K H p xs) (q : Q (.int (xs.length : Int)) H) : rLenU K [.ref p] H Q := .inl ⟨p, xs, rfl, .inr h, q⟩
theorem r_lenS {z : Str} (h : z.length ≤ sizeLine) (q : Q (.int (z.length : Int)) H) : rLenU K [.str z] H Q := .inr (.inl ⟨z, rfl, h, q⟩)
theorem r_int (q : Q (.int m) H) : rIntU [.int m] H Q := ⟨m, rfl, q⟩
theorem r_abs (q : Q (.int (if m < 0 then -m else m)) H) : rAbsU [.int m] H Q := ⟨m, rfl, q⟩
theorem r_ixL {p : Addr} {xs : List V} (h : SqL K H p xs) (ha : atI xs m = some v) (q : Q v H) : rIx K (.ref p) (.int m) H Q := .inl ⟨p, xs, m, v, rfl, rfl, h, ha, q⟩
theorem r_ixT {p : Addr} {xs : List V} (h : SqT K H p xs) (ha : atI xs m = some v) (q : Q v H) : rIx K (.ref p) (.int m) H Q := .inr (.inl ⟨p, xs, m, v, rfl, rfl, h, ha, q⟩)
theorem r_ixS {z : Str} {c : Nat} (h : z.length ≤ sizeLine) (ha : atI z.cps.toList m = some c) (q : Q (.str ⟨#[c]⟩) H) : rIx K (.str z) (.int m) H Q := .inr (.inr ⟨z, m, c, rfl, rfl, h, ha, q⟩)
theorem r_tup {ts : TA} (h : ts σ H fun xs H1 => PNew (xs.length ≤ sizeLine) (.tup xs) H1 Q) : tTup ts σ H Q := h
theorem r_lst {ts : TA} (h : ts σ H fun xs H1 => PNew (xs.length ≤ sizeLine) (.lst xs) H1 Q) : tLst ts σ H Q := h
theorem r_new {z : Prop} {o : HO} (hz : z) (k : ∀ p H', H p = none → Same H H' → H' p = some o → Q (.ref p) H') : PNew z o H Q := ⟨hz, fun p hp => k p _ hp (same_new hp) upd_same⟩
theorem r_new1 {o : HO} (k : ∀ p H', H p = none → Same H H' → H' p = some o → Q (.ref p) H') : ∀ p, H p = none → Q (.ref p) (upd H p o) := fun p hp => k p _ hp (same_new hp) upd_same
theorem r_call {sp : Sp} {E : XK} {ts : TA} (h : ts σ H fun vs H1 => sp (vs ++ []) H1 Q E) : tCall sp [] E ts σ H Q := h
theorem r_BM {T : String} {r : V → List V → Hp → VK → Prop} {ts : TA} (h : ta σ H fun x H1 => tyV K T x H1 ∧ ts σ H1 fun xs H2 => r x xs H2 Q) : tBM K T r ta ts σ H Q := h
theorem r_BM0 {T : String} {r : V → List V → Hp → VK → Prop} (h : ta σ H fun x H1 => tyV K T x H1 ∧ r x [] H1 Q) : tBM0 K T r ta σ H Q := h
theorem r_tyL {p : Addr} {xs : List V} {A : Prop} (h : SqL K H p xs) (a : A) : tyV K "list" (.ref p) H ∧ A := ⟨Or.inl ⟨rfl, _, h⟩, a⟩
theorem r_tyS {z : Str} {A : Prop} (a : A) : tyV K "str" (.str z) H ∧ A := ⟨rfl, a⟩
theorem r_append {p : Addr} {xs : List V} (h : H p = some (.lst xs)) (hz : xs.length < sizeLine) (k : ∀ H', But p H H' → H' p = some (.lst (xs ++ [y])) → Q .non H') : rAppend (.ref p) [y] H Q := ⟨p, xs, y, rfl, rfl, h, hz, k _ but_upd upd_same⟩
theorem r_pop {p : Addr} {xs : List V} (h : H p = some (.lst (xs ++ [y]))) (k : ∀ H', But p H H' → H' p = some (.lst xs) → Q y H') : rPop (.ref p) [] H Q := by
  refine ⟨p, xs ++ [y], y, rfl, rfl, h, ?_, ?_⟩
  · simp
  · rw [List.dropLast_concat]; exact k _ but_upd upd_same
theorem r_popAt {p : Addr} {xs : List V} {k : Nat} (h : H p = some (.lst xs)) (e : m = (k : Int)) (hk : xs[k]? = some y) (hz : xs.length < 2 ^ 62) (q : ∀ H', But p H H' → H' p = some (.lst (xs.eraseIdx k)) → Q y H') : rPopAt (.ref p) [.int m] H Q := by
  have hl : k < xs.length := (List.getElem?_eq_some_iff.mp hk).1
  refine ⟨p, xs, m, k, y, rfl, rfl, h, by omega, by omega, ?_, hk, q _ but_upd upd_same⟩
  subst e
  obtain ⟨j, hj, hx, _⟩ := atI_get (atI_nat hk)
  have e2 : j = k := by
    unfold seqIndex? at hj
    simp at hj
    omega
  rw [hj, e2]
theorem r_then {kk : V → Hp → VK → Prop} (h : ta σ H fun x H1 => kk x H1 Q) : tThen ta kk σ H Q := h
theorem r_kTupL {p : Addr} {xs : List V} (h : SqL K H p xs) (k : ∀ q H', H q = none → Same H H' → (∃ o : Obj, H' q = some (.frz o (.tup xs)) ∧ o.dict = none) → Q (.ref q) H') : kTupD K (.ref p) H Q := .inl ⟨p, xs, rfl, h, fun q o hq ho => k q _ hq (same_new hq) ⟨o, upd_same, ho⟩⟩
theorem r_kTupT {p : Addr} {xs : List V} (h : SqT K H p xs) (q : Q (.ref p) H) : kTupD K (.ref p) H Q := .inr ⟨p, xs, rfl, h, q⟩
theorem sqT_ofD {q : Addr} {xs : List V} (h : ∃ o : Obj, H q = some (.frz o (.tup xs)) ∧ o.dict = none) : SqT K H q xs := by
  obtain ⟨o, e, _⟩ := h
  exact .inl (.inr ⟨o, e⟩)
theorem noD_of {q : Addr} {xs : List V} (h : ∃ o : Obj, H q = some (.frz o (.tup xs)) ∧ o.dict = none) : NoD H q := by
  obtain ⟨o, e, d⟩ := h
  exact ⟨o, _, e, d⟩
theorem noD_same {H H' : Hp} {q : Addr} (s : Same H H') (h : NoD H q) : NoD H' q := by
  obtain ⟨o, u, e, d⟩ := h
  exact ⟨o, u, s _ _ e, d⟩
theorem r_listL {p : Addr} {xs : List V} (h : SqL K H p xs) (k : ∀ q H', H q = none → Same H H' → H' q = some (.lst xs) → Q (.ref q) H') : rListU K [.ref p] H Q := ⟨p, xs, rfl, .inl h, fun q hq => k q _ hq (same_new hq) upd_same⟩
theorem r_listT {p : Addr} {xs : List V} (h : SqT K H p xs) (k : ∀ q H', H q = none → Same H H' → H' q = some (.lst xs) → Q (.ref q) H') : rListU K [.ref p] H Q := ⟨p, xs, rfl, .inr h, fun q hq => k q _ hq (same_new hq) upd_same⟩
theorem r_lstRg {tr : L2.St → Hp → (Int → Int → Hp → Prop) → Prop} (h : tr σ H fun a b H1 => PNew (RgOk a b) (.lst (rgV a b)) H1 Q) : tLstRg tr σ H Q := h
theorem r_tupRg {tr : L2.St → Hp → (Int → Int → Hp → Prop) → Prop} (h : tr σ H fun a b H1 => PNew (RgOk a b) (.tup (rgV a b)) H1 Q) : tTupRg tr σ H Q := h
theorem r_rg2 {QR : Int → Int → Hp → Prop} (h : ta σ H fun x H1 => tb σ H1 fun y H2 => PI2 x y fun i j => QR i j H2) : tRg2 ta tb σ H QR := h
theorem r_rg1 {QR : Int → Int → Hp → Prop} (h : ta σ H fun x H1 => PI1 x fun n => QR 0 n H1) : tRg1 ta σ H QR := h
theorem r_ii {QR : Int → Int → Prop} (q : QR m n) : PI2 (.int m) (.int n) QR := ⟨m, n, rfl, rfl, q⟩
theorem r_i {QR : Int → Prop} (q : QR m) : PI1 (.int m) QR := ⟨m, rfl, q⟩
theorem r_gsub {ti : TE} {to : TE} {ts : TSet} {N : L2.St → Hp → Prop} (h : to σ H fun o H1 => ti σ H1 fun i H2 => ts o i v H2 fun H3 => N σ H3) : gSub to ti ts v σ H N := h
theorem r_setL {N : Hp → Prop} {p : Addr} {xs : List V} {k : Nat} (h : H p = some (.lst xs)) (hk : ixN xs.length m = some k) (q : ∀ H', But p H H' → H' p = some (.lst (xs.set k v)) → N H') : rSetL (.ref p) (.int m) v H N := ⟨p, xs, m, k, rfl, rfl, h, hk, q _ but_upd upd_same⟩
theorem r_aug {ti : TIp} (h : σ[i]? = some (some x)) (q : te σ H fun y H1 => ti x y H1 fun z H2 => D.nx (σ.set i (some z)) H2) : tAug i te ti D σ H := ⟨x, h, q⟩
theorem r_ipI {f : Int → Int → Int} (q : Q (.int (f m n)) H) : ipI f (.int m) (.int n) H Q := ⟨m, n, rfl, rfl, q⟩
theorem r_noPart {QO : Option Int → Hp → Prop} (q : QO none H) : tNoPart σ H QO := q
theorem r_part {QO : Option Int → Hp → Prop} (h : te σ H fun x H1 => PI1 x fun i => QO (some i) H1) : tPart te σ H QO := h
theorem r_sl {r : V → Option Int → Option Int → Hp → VK → Prop} {tl th : TO} (h : te σ H fun x H1 => tl σ H1 fun l H2 => th σ H2 fun u H3 => r x l u H3 Q) : tSl r te tl th σ H Q := h
theorem r_ite {c : Prop} [Decidable c] {A B : Prop} (h1 : c → A) (h2 : ¬ c → B) : if decide c = true then A else B := by
  by_cases h : c
  · rw [if_pos (decide_eq_true h)]; exact h1 h
  · rw [if_neg (by simp [h])]; exact h2 h
theorem r_iteN {c : Prop} [Decidable c] {A B : Prop} (h1 : ¬ c → A) (h2 : c → B) : if (!decide c) = true then A else B := by
  by_cases h : c
  · rw [if_neg (by simp [h])]; exact h2 h
  · rw [if_pos (by simp [h])]; exact h1 h
theorem r_iteP {c : Prop} [Decidable c] {A B : Prop} (h : c) (a : A) : if decide c = true then A else B := by rw [if_pos (decide_eq_true h)]; exact a
theorem r_iteM {c : Prop} [Decidable c] {A B : Prop} (h : ¬ c) (a : B) : if decide c = true then A else B := by rw [if_neg (by simp [h])]; exact a
theorem r_iteNP {c : Prop} [Decidable c] {A B : Prop} (h : c) (a : B) : if (!decide c) = true then A else B := by rw [if_neg (by simp [h])]; exact a
theorem r_iteNM {c : Prop} [Decidable c] {A B : Prop} (h : ¬ c) (a : A) : if (!decide c) = true then A else B := by rw [if_pos (by simp [h])]; exact a
theorem r_T {A B : Prop} (a : A) : if true = true then A else B := by rw [if_pos rfl]; exact a
theorem r_F {A B : Prop} (a : B) : if false = true then A else B := by rw [if_neg (by decide)]; exact a
theorem r_nT {A B : Prop} (a : B) : if (!true) = true then A else B := r_F a
theorem r_nF {A B : Prop} (a : A) : if (!false) = true then A else B := r_T a
end
end Kb

set_option Elab.async false
set_option linter.all false
set_option maxRecDepth 100000
set_option maxHeartbeats 4000000
namespace Kb
open PySem PySem.Spec PyProof.Rows L2
/-! the tactics: rd walks a reading; tk closes a fact about a heap from those ahead of it -/
local macro_rules | `(tactic| walk_at "tk") => `(tactic| first
  | assumption
  | ((with_reducible refine' sqT_of ?k); (case k => assumption))
  | ((with_reducible refine' sqT_ofD ?k); (case k => assumption))
  | ((with_reducible refine' noD_of ?k); (case k => assumption))
  | ((with_reducible refine' noD_same ?s ?k); (case s => assumption); (case k => walk_at "tk"))
  | ((with_reducible refine' sqL_of ?k); (case k => assumption))
  | ((with_reducible refine' sqT_same ?s ?k); (case s => assumption); (case k => walk_at "tk"))
  | ((with_reducible refine' sqL_same ?s ?k); (case s => assumption); (case k => walk_at "tk"))
  | ((with_reducible refine' sqT_but ?s ?t ?k); (case s => assumption); (case t => walk_at "tk"); (case k => walk_at "tk"))
  | ((with_reducible refine' sqL_but ?s ?t ?k); (case s => assumption); (case t => walk_at "ne"); (case k => walk_at "tk"))
  | ((with_reducible refine' sqL_of ?k); (case k => walk_at "tk"))
  | ((with_reducible refine' sqT_of ?k); (case k => walk_at "tk"))
  | ((with_reducible refine' at_same ?s ?k); (case s => assumption); (case k => walk_at "tk"))
  | ((with_reducible refine' at_but ?s ?t ?k); (case s => assumption); (case t => walk_at "ne"); (case k => walk_at "tk")))
local macro_rules | `(tactic| walk_at "ne") => `(tactic| first
  | assumption
  | (refine Ne.symm ?_; assumption)
  | exact ne_of_none (by assumption) (by assumption)
  | exact (ne_of_none (by assumption) (by assumption)).symm)
local macro_rules | `(tactic| walk_at "side") => `(tactic| first
  | assumption
  | omega
  | (simp only [sizeLine_eq, List.length_cons, List.length_nil, List.length_map]; omega)
  | (show _ ≤ sizeLine; decide))
local macro_rules | `(tactic| walk_at "kit") => `(tactic| first
  | (show kitB _ _ = some true; decide +kernel)
  | (show kitB _ _ = some false; decide +kernel))
local macro_rules | `(tactic| walk_at "rng") => `(tactic| first
  | (refine ⟨by omega, by omega, by omega, by omega⟩)
  | (refine ⟨by omega, by omega⟩)
  | ((simp only [List.length_map]); (refine ⟨by omega, by omega, by omega, by omega⟩))
  | ((simp only [List.length_map]); (refine ⟨by omega, by omega⟩)))
local macro_rules | `(tactic| walk_at "rd1") => `(tactic| first
  | with_reducible refine r_seq ?_
  | ((with_reducible refine' r_var ?k0 ?_); (case k0 => rfl))
  | with_reducible refine r_op ?_
  | with_reducible refine r_c ?_
  | with_reducible refine r_asg ?_
  | with_reducible refine r_name ?_
  | with_reducible refine r_cons ?_
  | with_reducible refine r_nil ?_
  | with_reducible refine r_CB ?_
  | with_reducible refine r_if ?_
  | with_reducible refine r_test ?_
  | with_reducible refine r_k ?_
  | with_reducible refine r_T ?_
  | with_reducible refine r_F ?_
  | with_reducible refine r_nT ?_
  | with_reducible refine r_nF ?_
  | with_reducible refine r_ret ?_
  | with_reducible refine r_drop ?_
  | with_reducible refine r_next ?_
  | with_reducible refine r_call ?_
  | with_reducible refine r_addI ?_
  | with_reducible refine r_subI ?_
  | with_reducible refine r_ltI ?_
  | with_reducible refine r_gtI ?_
  | with_reducible refine r_leI ?_
  | with_reducible refine r_geI ?_
  | with_reducible refine r_eqI ?_
  | with_reducible refine r_neI ?_
  | with_reducible refine r_int ?_
  | with_reducible refine r_abs ?_
  | with_reducible refine r_not ?_
  | with_reducible refine r_and ?_
  | with_reducible refine r_or ?_
  | with_reducible refine r_tru ?_
  | with_reducible refine r_truB ?_
  | with_reducible refine r_lst ?_
  | with_reducible refine r_tup ?_
  | with_reducible refine r_BM ?_
  | with_reducible refine r_BM0 ?_
  | with_reducible refine r_tyS ?_
  | with_reducible refine r_gsub ?_
  | with_reducible refine r_then ?_
  | with_reducible refine r_lstRg ?_
  | with_reducible refine r_tupRg ?_
  | with_reducible refine r_rg2 ?_
  | with_reducible refine r_rg1 ?_
  | with_reducible refine r_ii ?_
  | with_reducible refine r_i ?_
  | with_reducible refine r_ipI ?_
  | with_reducible refine r_un ?_
  | with_reducible refine r_neg ?_
  | with_reducible refine r_isN ?_
  | with_reducible refine r_notN ?_
  | with_reducible refine r_notV ?_
  | with_reducible refine r_pnot ?_
  | with_reducible refine r_pif ?_
  | with_reducible refine r_andV ?_
  | with_reducible refine r_orV ?_
  | with_reducible refine r_ifE ?_
  | with_reducible refine r_chain ?_
  | with_reducible refine r_sl ?_
  | with_reducible refine r_noPart ?_
  | with_reducible refine r_part ?_
  | with_reducible refine r_brk ?_
  | with_reducible refine r_cont ?_
  | with_reducible refine r_retN ?_
  | with_reducible refine r_truI ?_
  | with_reducible refine r_B ?_
  | ((with_reducible refine' r_mod ?k0 ?_); (case k0 => walk_at "side"))
  | ((with_reducible refine' r_mulI ?k0 ?_); (case k0 => first | exact Or.inl ⟨by omega, by omega⟩ | exact Or.inr ⟨by omega, by omega⟩))
  | ((with_reducible refine' r_lenL ?k0 ?_); (case k0 => walk_at "tk"))
  | ((with_reducible refine' r_lenT ?k0 ?_); (case k0 => walk_at "tk"))
  | ((with_reducible refine' r_truL ?k0 ?_); (case k0 => walk_at "tk"))
  | ((with_reducible refine' r_truT ?k0 ?_); (case k0 => walk_at "tk"))
  | ((with_reducible refine' r_ixL ?k0 ?k1 ?_); (case k0 => walk_at "tk"); (case k1 => first | assumption | rfl))
  | ((with_reducible refine' r_ixT ?k0 ?k1 ?_); (case k0 => walk_at "tk"); (case k1 => first | assumption | rfl))
  | ((with_reducible refine' r_new ?k0 ?_); (case k0 => walk_at "side"))
  | ((with_reducible refine' r_tyL ?k0 ?_); (case k0 => walk_at "tk"))
  | ((with_reducible refine' r_append ?k0 ?k1 ?_); (case k0 => walk_at "tk"); (case k1 => walk_at "side"))
  | ((with_reducible refine' r_setL ?k0 ?k1 ?_); (case k0 => walk_at "tk"); (case k1 => first | assumption | rfl))
  | ((with_reducible refine' r_kTupL ?k0 ?_); (case k0 => walk_at "tk"))
  | ((with_reducible refine' r_kTupT ?k0 ?_); (case k0 => walk_at "tk"))
  | ((with_reducible refine' r_listL ?k0 ?_); (case k0 => walk_at "tk"))
  | ((with_reducible refine' r_listT ?k0 ?_); (case k0 => walk_at "tk"))
  | ((with_reducible refine' r_aug ?k0 ?_); (case k0 => rfl))
  | ((with_reducible refine' r_lenS ?k0 ?_); (case k0 => walk_at "side"))
  | ((with_reducible refine' r_pop ?k0 ?_); (case k0 => walk_at "tk")))
local macro_rules | `(tactic| walk_at "rd") => `(tactic| ((repeat (walk_at "rd1")); (try dsimp only)))


/-! ### the law's helpers: cell, pool, draw -/
def sp_law_cell (K : PySem.W.Frag) : Sp := fun vs H Q _ => ∃ (a : Addr) (ns : List Int) (k : Int), vs = [.ref a, .int k] ∧ SqL K H a (ns.map V.int) ∧ ns.length ≤ 63 ∧ 0 ≤ k ∧ ∀ n, Q (.int n) H
def Pl (H : Hp) (p : Addr) : Prop := ∃ x y z, H p = some (.lst [.int x, .int y, .int z])
def sp_law_pool (K : PySem.W.Frag) : Sp := fun vs H Q _ => ∃ (a : Addr) (ns : List Int) (k : Int), vs = [.ref a, .int k] ∧ SqL K H a (ns.map V.int) ∧ ns.length ≤ 63 ∧ 0 ≤ k ∧ ∀ p H', H p = none → Same H H' → Pl H' p → Q (.ref p) H'
def sp_law_draw (K : PySem.W.Frag) : Sp := fun vs H Q _ => ∃ (p : Addr) (m : Int), vs = [.ref p, .int m] ∧ Pl H p ∧ 0 < m ∧ m < 2 ^ 200 ∧ ∀ v H', 0 ≤ v → v < m → But p H H' → Pl H' p → Q (.int v) H'
abbrev N_law_cell : List Str := ["script", "k"]
def t_law_cell (K : PySem.W.Frag) : TS :=
  tSeq (tIfS ((tTest (tOp (rLtU K) (tVar 1) ((tCB (rLenU K) (tCons (tVar 0) tNil)))))) ((tRet ((tCB rAbsU (tCons ((tCB rIntU (tCons ((tOp (rIx K) (tVar 0) (tVar 1))) tNil))) tNil))))) (tNext))
  (tSeq (tIfS ((tTest (tOp (rEqU K) ((tCB (rLenU K) (tCons (tVar 0) tNil))) ((tC (.int 0)))))) ((tRet ((tC (.int 0))))) (tNext))
  ((tRet ((tOp rModU ((tCB rAbsU (tCons ((tCB rIntU (tCons ((tOp (rIx K) (tVar 0) ((tOp rModU ((tCB rIntU (tCons (tVar 1) tNil))) ((tCB (rLenU K) (tCons (tVar 0) tNil))))))) tNil))) tNil))) ((tC (.int 999999999999999989))))))))

abbrev N_law_pool : List Str := ["script", "k", "cell"]
def t_law_pool (K : PySem.W.Frag) : TS :=
  tSeq (tAsg ((tCall (sp_law_cell K) [] E0 (tCons (tVar 0) (tCons (tVar 1) tNil)))) (gName 2))
  (tSeq (tIfS ((tTest (tOp rGeU (tVar 2) ((tOp rPowU ((tC (.int 10))) ((tC (.int 18)))))))) ((tRet ((tLst (tCons ((tOp rSubU (tVar 2) ((tOp rPowU ((tC (.int 10))) ((tC (.int 18))))))) (tCons ((tOp rModU ((tCB rIntU (tCons (tVar 2) tNil))) ((tC (.int 1000003))))) (tCons ((tC (.int 0))) tNil))))))) (tNext))
  ((tRet ((tLst (tCons ((tC (.int 0))) (tCons ((tOp (rAddU K) (tVar 2) ((tOp (rMulU K) ((tC (.int 104729))) ((tOp (rAddU K) (tVar 1) ((tC (.int 1))))))))) (tCons ((tC (.int 0))) tNil))))))))

abbrev N_law_draw : List Str := ["pool", "many", "value", "mixed"]
def t_law_draw (K : PySem.W.Frag) : TS :=
  tSeq (tAsg ((tOp (rAddU K) ((tOp (rIx K) (tVar 0) ((tC (.int 2))))) ((tC (.int 1))))) (gSub (tVar 0) ((tC (.int 2))) rSetL))
  (tSeq (tIfS ((tTest (tOp rGtU ((tOp (rIx K) (tVar 0) ((tC (.int 0))))) ((tC (.int 1)))))) (tSeq (tAsg ((tOp rModU ((tCB rIntU (tCons ((tOp (rIx K) (tVar 0) ((tC (.int 0))))) tNil))) (tVar 1))) (gName 2))
  (tSeq (tAsg ((tOp rFdivU ((tOp (rIx K) (tVar 0) ((tC (.int 0))))) (tVar 1))) (gSub (tVar 0) ((tC (.int 0))) rSetL))
  ((tRet (tVar 2))))) (tNext))
  (tSeq (tAsg ((tOp rModU ((tCB rIntU (tCons ((tOp (rAddU K) ((tOp (rIx K) (tVar 0) ((tC (.int 1))))) ((tOp (rMulU K) ((tC (.int 7919))) ((tOp (rIx K) (tVar 0) ((tC (.int 2))))))))) tNil))) ((tC (.int 1000003))))) (gName 3))
  (tSeq (tAsg ((tOp rModU ((tCB rIntU (tCons ((tOp (rAddU K) ((tOp (rAddU K) ((tOp (rMulU K) (tVar 3) (tVar 3))) ((tOp (rMulU K) ((tC (.int 48271))) ((tOp (rIx K) (tVar 0) ((tC (.int 2))))))))) ((tOp (rIx K) (tVar 0) ((tC (.int 1))))))) tNil))) ((tC (.int 998244353))))) (gName 3))
  (tSeq (tAsg ((tOp rModU ((tCB rIntU (tCons ((tOp (rAddU K) ((tOp (rMulU K) (tVar 3) (tVar 3))) ((tC (.int 69621))))) tNil))) ((tC (.int 2147483647))))) (gName 3))
  ((tRet ((tOp rModU ((tCB rIntU (tCons ((tOp rFdivU (tVar 3) ((tC (.int 7))))) tNil))) (tVar 1)))))))))


theorem len_law_cell {K : PySem.W.Frag} {vs : List V} {H : Hp} {Q : VK} {E : XK} (h : sp_law_cell K vs H Q E) : vs.length = 2 := by
  obtain ⟨a, ns, k, rfl, _⟩ := h; rfl
theorem len_law_pool {K : PySem.W.Frag} {vs : List V} {H : Hp} {Q : VK} {E : XK} (h : sp_law_pool K vs H Q E) : vs.length = 2 := by
  obtain ⟨a, ns, k, rfl, _⟩ := h; rfl
theorem len_law_draw {K : PySem.W.Frag} {vs : List V} {H : Hp} {Q : VK} {E : XK} (h : sp_law_draw K vs H Q E) : vs.length = 2 := by
  obtain ⟨a, m, rfl, _⟩ := h; rfl
abbrev En (Q : VK) : Ends := { nx := fun _ H' => Q .non H', rt := Q }
theorem atI_ints {ns : List Int} {k : Int} (h0 : 0 ≤ k) (h1 : k < (ns.length : Int)) : ∃ n, atI (ns.map V.int) k = some (.int n) ∧ ns[k.toNat]? = some n := by
  have h2 : k.toNat < ns.length := by omega
  refine ⟨ns[k.toNat], ?_, List.getElem?_eq_getElem h2⟩
  have e : ((k.toNat : Nat) : Int) = k := by omega
  have h3 : (ns.map V.int)[k.toNat]? = some (.int ns[k.toNat]) := by rw [List.getElem?_map, List.getElem?_eq_getElem h2]; rfl
  have h4 := atI_nat h3
  rw [e] at h4
  exact h4
theorem pure_law_cell {K : PySem.W.Frag} {vs : List V} {H : Hp} {Q : VK} {E : XK} (h : sp_law_cell K vs H Q E) : t_law_cell K (En Q) (start N_law_cell vs) H := by
  obtain ⟨a, ns, k, rfl, hS, hn, hk, q⟩ := h
  unfold t_law_cell
  walk_at "rd"
  rw [List.length_map]
  refine r_ite (fun hlt => ?_) (fun hge => ?_)
  · obtain ⟨n, e1, _⟩ := atI_ints hk hlt
    walk_at "rd"
    exact q _
  · walk_at "rd"
    rw [List.length_map]
    refine r_ite (fun h0 => ?_) (fun h0 => ?_)
    · walk_at "rd"
      exact q _
    · have hp : (0 : Int) < ((ns.map V.int).length : Int) := by rw [List.length_map]; omega
      walk_at "rd"
      obtain ⟨n, e1, _⟩ := atI_ints (ns := ns) (k := k % ((ns.map V.int).length : Int)) (Int.emod_nonneg _ (by omega)) (by rw [List.length_map] at hp ⊢; exact Int.emod_lt_of_pos _ hp)
      walk_at "rd"
      exact q _
theorem c18 : CPow 10 18 := ⟨by decide, by decide, by decide⟩
theorem pure_law_pool {K : PySem.W.Frag} {vs : List V} {H : Hp} {Q : VK} {E : XK} (h : sp_law_pool K vs H Q E) : t_law_pool K (En Q) (start N_law_pool vs) H := by
  obtain ⟨a, ns, k, rfl, hS, hn, hk, q⟩ := h
  unfold t_law_pool
  walk_at "rd"
  refine ⟨a, ns, k, rfl, hS, hn, hk, fun n => ?_⟩
  walk_at "rd"
  refine r_pow c18 ?_
  walk_at "rd"
  refine r_ite (fun h1 => ?_) (fun h1 => ?_)
  · walk_at "rd"
    refine r_pow c18 ?_
    walk_at "rd"
    intro p H' hp s e
    exact q p H' hp s ⟨_, _, _, e⟩
  · walk_at "rd"
    intro p H' hp s e
    exact q p H' hp s ⟨_, _, _, e⟩
theorem log2_small {m : Int} (h0 : 0 < m) (h1 : m < 2 ^ 200) : m.natAbs.log2 < 9000 := (wide_div (i := 0) h0 (b := 200) (by omega) (by decide) (by decide)).2
theorem pure_law_draw {K : PySem.W.Frag} {vs : List V} {H : Hp} {Q : VK} {E : XK} (h : sp_law_draw K vs H Q E) : t_law_draw K (En Q) (start N_law_draw vs) H := by
  obtain ⟨p, m, rfl, ⟨x, y, z, hp⟩, h0, h1, q⟩ := h
  have hl := log2_small h0 h1
  unfold t_law_draw
  walk_at "rd"
  intro H1 b1 e1
  have e1 : H1 p = some (.lst [.int x, .int y, .int (z + 1)]) := e1
  walk_at "rd"
  refine r_ite (fun hx => ?_) (fun hx => ?_)
  · walk_at "rd"
    refine r_fdiv h0 hl ?_
    walk_at "rd"
    intro H2 b2 e2
    walk_at "rd"
    exact q _ _ (Int.emod_nonneg _ (by omega)) (Int.emod_lt_of_pos _ h0) (b1.trans b2) ⟨_, _, _, e2⟩
  · walk_at "rd"
    refine r_fdiv (by decide) (by decide) ?_
    walk_at "rd"
    exact q _ _ (Int.emod_nonneg _ (by omega)) (Int.emod_lt_of_pos _ h0) b1 ⟨_, _, _, e1⟩
end Kb

set_option Elab.async false
set_option linter.all false
set_option maxRecDepth 100000
set_option maxHeartbeats 4000000
namespace Kb
open PySem PySem.Spec PyProof.Rows L2

/-! ### loops -/
section
variable {K : PySem.W.Frag} {D : Ends} {σ : L2.St} {H : Hp} {tb : TS} {te ta : TE} {g : TG} {c : TT} {i j : Nat} {m n l : Int} {R : It → Hp → Prop}
/-- the body of a while, from a state that holds with the measure m -/
def PBody (W : Nat → L2.St → Hp → Prop) (m : Nat) (tb : TS) (D : Ends) (σ : L2.St) (H : Hp) : Prop := ∃ N : L2.St → Hp → Prop, (∀ σ' H', N σ' H' → ∃ m', m' < m ∧ W m' σ' H') ∧ tb { D with nx := N, ct := N, bk := D.nx } σ H
theorem r_while (W : Nat → L2.St → Hp → Prop) (m : Nat) (h0 : W m σ H)
    (hs : ∀ m σ H, W m σ H → c σ H fun b H1 => if b = true then PBody W m tb D σ H1 else D.nx σ H1) : tWhile c tb D σ H := ⟨W, ⟨m, h0⟩, hs⟩
theorem r_body {W : Nat → L2.St → Hp → Prop} {m : Nat} (h : tb { D with nx := fun σ' H' => ∃ m', m' < m ∧ W m' σ' H', ct := fun σ' H' => ∃ m', m' < m ∧ W m' σ' H', bk := D.nx } σ H) : PBody W m tb D σ H := ⟨_, fun _ _ h => h, h⟩
def PFor (J : It) (g : TG) (tb : TS) (D : Ends) (σ : L2.St) (H : Hp) : Prop := ∃ W : Nat → Nat → L2.St → Hp → Prop, (∃ m, W 0 m σ H) ∧ ∀ i m σ H, W i m σ H →
  (J.stop i H ∧ D.nx σ H) ∨ (J.go i H ∧ ∃ N : L2.St → Hp → Prop, (∀ σ' H', N σ' H' → ∃ m', m' < m ∧ W (i + 1) m' σ' H') ∧ ∀ x H', J.yld i H x H' → g x σ H' fun σ2 H2 => tb { D with nx := N, ct := N, bk := D.nx } σ2 H2)
theorem r_for {wi : TI} (h : wi σ H fun J H1 => PFor J g tb D σ H1) : tFor wi g tb D σ H := h
def PR1 (vs : List V) (R : It → Prop) : Prop := ∃ j : Int, vs = [.int j] ∧ -(2 ^ 62) ≤ j ∧ j < 2 ^ 62 ∧ R (Itr 0 j.toNat)
def PR2 (vs : List V) (R : It → Prop) : Prop := ∃ i j : Int, vs = [.int i, .int j] ∧ (-(2 ^ 62) ≤ i ∧ i < 2 ^ 62 ∧ -(2 ^ 62) ≤ j ∧ j < 2 ^ 62) ∧ R (Itr i (j - i).toNat)
def PR3 (vs : List V) (R : It → Prop) : Prop := ∃ (i j c : Int) (n : Nat), vs = [.int i, .int j, .int c] ∧ RgC i j c n ∧ R (Itc i c n)
theorem r_rng1 {ts : TA} (h : ts σ H fun vs H1 => PR1 vs fun J => R J H1) : iRng1 ts σ H R := h
theorem r_rng2 {ts : TA} (h : ts σ H fun vs H1 => PR2 vs fun J => R J H1) : iRng2 ts σ H R := h
theorem r_rng3 {ts : TA} (h : ts σ H fun vs H1 => PR3 vs fun J => R J H1) : iRng3 ts σ H R := h
theorem r_pr1 {R : It → Prop} (h : -(2 ^ 62) ≤ m ∧ m < 2 ^ 62) (q : R (Itr 0 m.toNat)) : PR1 [.int m] R := ⟨m, rfl, h.1, h.2, q⟩
theorem r_pr2 {R : It → Prop} (h : -(2 ^ 62) ≤ l ∧ l < 2 ^ 62 ∧ -(2 ^ 62) ≤ m ∧ m < 2 ^ 62) (q : R (Itr l (m - l).toNat)) : PR2 [.int l, .int m] R := ⟨l, m, rfl, h, q⟩
theorem r_pr3d {R : It → Prop} (h : -(2 ^ 62) ≤ l ∧ l < 2 ^ 62 ∧ -(2 ^ 62) ≤ m ∧ m < 2 ^ 62) (q : R (Itc l (-1) (l - m).toNat)) : PR3 [.int l, .int m, .int (-1)] R := ⟨l, m, -1, _, rfl, RgC.neg h.1 h.2.1 h.2.2.1 h.2.2.2, q⟩
theorem r_forRange {lo : Int} {n : Nat} (Pv : Nat → L2.St → Hp → Prop) (h0 : Pv 0 σ H)
    (hs : ∀ i σ' H', i < n → Pv i σ' H' → tb { D with nx := Pv (i + 1), ct := Pv (i + 1), bk := D.nx } (σ'.set j (some (.int (lo + (i : Int))))) H')
    (hd : ∀ σ' H', Pv n σ' H' → D.nx σ' H') : PFor (Itr lo n) (gName j) tb D σ H := for_range Pv h0 hs hd
theorem r_forRange0 {n : Nat} (Pv : Nat → L2.St → Hp → Prop) (h0 : Pv 0 σ H)
    (hs : ∀ i σ' H', i < n → Pv i σ' H' → tb { D with nx := Pv (i + 1), ct := Pv (i + 1), bk := D.nx } (σ'.set j (some (.int (i : Int)))) H')
    (hd : ∀ σ' H', Pv n σ' H' → D.nx σ' H') : PFor (Itr 0 n) (gName j) tb D σ H := for_range Pv h0 (fun i σ' H' hi p => by
      show tb _ (σ'.set j (some (.int ((0 : Int) + (i : Int))))) H'
      rw [Int.zero_add]
      exact hs i σ' H' hi p) hd
def PSeqT (K : PySem.W.Frag) (x : V) (H : Hp) (R : It → Hp → Prop) : Prop := ∃ a, x = .ref a ∧ (∃ xs, SqT K H a xs) ∧ R (Itt K a) H
def PSeqL (K : PySem.W.Frag) (x : V) (H : Hp) (R : It → Hp → Prop) : Prop := ∃ a, x = .ref a ∧ (∃ xs, SqL K H a xs) ∧ R (Itl K a) H
def PSeqS (x : V) (H : Hp) (R : It → Hp → Prop) : Prop := ∃ z, x = .str z ∧ R (Its z) H
theorem r_seqT (h : te σ H fun x H1 => PSeqT K x H1 R) : iSeqU K te σ H R := .inr (.inl h)
theorem r_seqL (h : te σ H fun x H1 => PSeqL K x H1 R) : iSeqU K te σ H R := .inl h
theorem r_seqS (h : te σ H fun x H1 => PSeqS x H1 R) : iSeqU K te σ H R := .inr (.inr h)
theorem r_pseqT {a : Addr} {xs : List V} (h : SqT K H a xs) (q : R (Itt K a) H) : PSeqT K (.ref a) H R := ⟨a, rfl, ⟨xs, h⟩, q⟩
theorem r_pseqL {a : Addr} {xs : List V} (h : SqL K H a xs) (q : R (Itl K a) H) : PSeqL K (.ref a) H R := ⟨a, rfl, ⟨xs, h⟩, q⟩
theorem r_pseqS {z : Str} (q : R (Its z) H) : PSeqS (.str z) H R := ⟨z, rfl, q⟩
theorem r_forTup {a : Addr} {xs : List V} (Pv : Nat → L2.St → Hp → Prop) (h0 : Pv 0 σ H) (hl : ∀ i σ' H', i ≤ xs.length → Pv i σ' H' → SqT K H' a xs)
    (hs : ∀ i x σ' H', xs[i]? = some x → Pv i σ' H' → g x σ' H' fun σ2 H2 => tb { D with nx := Pv (i + 1), ct := Pv (i + 1), bk := D.nx } σ2 H2)
    (hd : ∀ σ' H', Pv xs.length σ' H' → D.nx σ' H') : PFor (Itt K a) g tb D σ H := for_tup Pv h0 hl hs hd
theorem r_forLst {a : Addr} {xs : List V} (Pv : Nat → L2.St → Hp → Prop) (h0 : Pv 0 σ H) (hl : ∀ i σ' H', i ≤ xs.length → Pv i σ' H' → SqL K H' a xs)
    (hs : ∀ i x σ' H', xs[i]? = some x → Pv i σ' H' → g x σ' H' fun σ2 H2 => tb { D with nx := Pv (i + 1), ct := Pv (i + 1), bk := D.nx } σ2 H2)
    (hd : ∀ σ' H', Pv xs.length σ' H' → D.nx σ' H') : PFor (Itl K a) g tb D σ H := for_list Pv h0 hl hs hd
/-! ### comprehensions -/
def PLc (J : It) (g : TG) (tt : TT) (te : TE) (vs : List Nat) (σ : L2.St) (H1 : Hp) (Q : VK) : Prop := ∀ D, H1 D = none → ∃ W : Nat → Nat → Hp → Prop, (∃ m, W 0 m (upd H1 D (.lst []))) ∧ ∀ i m H, W i m H →
  (J.stop i H ∧ Q (.ref D) H) ∨ (J.go i H ∧ ∃ Nx : Hp → Prop, (∀ H', Nx H' → ∃ m', m' < m ∧ W (i + 1) m' H') ∧ ∀ x H', J.yld i H x H' → g x (wipe σ vs) H' fun σ2 H2 => wipe σ2 vs = wipe σ vs ∧ tt σ2 H2 fun b H3 =>
    if b = true then te σ2 H3 fun y H4 => ∃ acc, H4 D = some (.lst acc) ∧ acc.length < sizeLine ∧ Nx (upd H4 D (.lst (acc ++ [y]))) else Nx H3)
theorem r_lc {wi : TI} {tt : TT} {vs : List Nat} {Q : VK} (h : wi σ H fun J H1 => PLc J g tt te vs σ H1 Q) : tLc wi g tt te vs σ H Q := h
theorem r_yes {QB : Bool → Hp → Prop} (q : QB true H) : tYes σ H QB := q
/-- the made item goes into the list at D -/
def PAcc (D : Addr) (Nx : Hp → Prop) (y : V) (H : Hp) : Prop := ∃ acc, H D = some (.lst acc) ∧ acc.length < sizeLine ∧ Nx (upd H D (.lst (acc ++ [y])))
theorem r_acc {D : Addr} {Nx : Hp → Prop} {y : V} {acc : List V} (h : H D = some (.lst acc)) (hz : acc.length ≤ 1000000) (k : ∀ H', But D H H' → H' D = some (.lst (acc ++ [y])) → Nx H') : PAcc D Nx y H :=
  ⟨acc, h, by rw [sizeLine_eq]; omega, k _ but_upd upd_same⟩
/-- over a tuple: Pv tells the new list's place, the turn, the heap -/
theorem r_lcT {a : Addr} {xs : List V} {Q : VK} {tt : TT} {vs : List Nat} (Pv : Addr → Nat → Hp → Prop) (hw : ∀ x, wipe ((wipe σ vs).set j (some x)) vs = wipe σ vs)
    (h0 : ∀ D H', H D = none → Same H H' → H' D = some (.lst []) → Pv D 0 H') (hl : ∀ D i H', Pv D i H' → SqT K H' a xs)
    (hs : ∀ D i x H', xs[i]? = some x → Pv D i H' → tt ((wipe σ vs).set j (some x)) H' fun b H3 => if b = true then te ((wipe σ vs).set j (some x)) H3 (fun y H4 => PAcc D (Pv D (i + 1)) y H4) else Pv D (i + 1) H3)
    (hd : ∀ D H', H D = none → Pv D xs.length H' → Q (.ref D) H') : PLc (Itt K a) (gName j) tt te vs σ H Q := by
  intro D hD
  exact lc_tup (xs := xs) (Pv D) (h0 D _ hD (same_new hD) upd_same) (fun i H' _ p => hl D i H' p) (fun i x H' hi p => ⟨hw x, hs D i x H' hi p⟩) (fun H' p => hd D H' hD p)
theorem r_lcL {a : Addr} {xs : List V} {Q : VK} {tt : TT} {vs : List Nat} (Pv : Addr → Nat → Hp → Prop) (hw : ∀ x, wipe ((wipe σ vs).set j (some x)) vs = wipe σ vs)
    (h0 : ∀ D H', H D = none → Same H H' → H' D = some (.lst []) → Pv D 0 H') (hl : ∀ D i H', Pv D i H' → SqL K H' a xs)
    (hs : ∀ D i x H', xs[i]? = some x → Pv D i H' → tt ((wipe σ vs).set j (some x)) H' fun b H3 => if b = true then te ((wipe σ vs).set j (some x)) H3 (fun y H4 => PAcc D (Pv D (i + 1)) y H4) else Pv D (i + 1) H3)
    (hd : ∀ D H', H D = none → Pv D xs.length H' → Q (.ref D) H') : PLc (Itl K a) (gName j) tt te vs σ H Q := by
  intro D hD
  exact lc_list (xs := xs) (Pv D) (h0 D _ hD (same_new hD) upd_same) (fun i H' _ p => hl D i H' p) (fun i x H' hi p => ⟨hw x, hs D i x H' hi p⟩) (fun H' p => hd D H' hD p)
theorem r_lcR {lo : Int} {n : Nat} {Q : VK} {tt : TT} {vs : List Nat} (Pv : Addr → Nat → Hp → Prop) (hw : ∀ x, wipe ((wipe σ vs).set j (some x)) vs = wipe σ vs)
    (h0 : ∀ D H', H D = none → Same H H' → H' D = some (.lst []) → Pv D 0 H')
    (hs : ∀ D i H', i < n → Pv D i H' → tt ((wipe σ vs).set j (some (.int (lo + (i : Int))))) H' fun b H3 => if b = true then te ((wipe σ vs).set j (some (.int (lo + (i : Int))))) H3 (fun y H4 => PAcc D (Pv D (i + 1)) y H4) else Pv D (i + 1) H3)
    (hd : ∀ D H', H D = none → Pv D n H' → Q (.ref D) H') : PLc (Itr lo n) (gName j) tt te vs σ H Q := by
  intro D hD
  exact lc_range (Pv D) (h0 D _ hD (same_new hD) upd_same) (fun i H' hi p => ⟨hw _, hs D i H' hi p⟩) (fun H' p => hd D H' hD p)
/-- the plain case: a tuple's items, each gives a value that its own place and item tell; nothing else is changed -/
theorem r_lcTm {a : Addr} {xs : List V} {Q : VK} {vs : List Nat} (f : Nat → V → V) (hx : SqT K H a xs) (hz : xs.length ≤ 1000000) (hw : ∀ x, wipe ((wipe σ vs).set j (some x)) vs = wipe σ vs)
    (hs : ∀ i x H1 (Q' : VK), xs[i]? = some x → Same H H1 → (∀ H2, Same H1 H2 → Q' (f i x) H2) → te ((wipe σ vs).set j (some x)) H1 Q')
    (hd : ∀ p H', H p = none → Same H H' → H' p = some (.lst ((List.range xs.length).zipWith f xs)) → Q (.ref p) H') : PLc (Itt K a) (gName j) tYes te vs σ H Q := by
  refine r_lcT (xs := xs) (fun D i H' => H D = none ∧ Same H H' ∧ H' D = some (.lst (((List.range xs.length).zipWith f xs).take i))) hw (fun D H' hD s e => ⟨hD, s, by rw [e]; rfl⟩) (fun D i H' p => sqT_same p.2.1 hx) (fun D i x H' hi p => ?_) (fun D H' hD p => ?_)
  · refine r_yes ?_
    refine r_T ?_
    have hil : i < xs.length := (List.getElem?_eq_some_iff.mp hi).1
    refine hs i x H' _ hi p.2.1 (fun H2 s2 => r_acc (s2 _ _ p.2.2) ?_ fun H5 b5 e5 => ⟨p.1, same_but (p.2.1.trans s2) b5 p.1, ?_⟩)
    · rw [List.length_take, List.length_zipWith, List.length_range]; omega
    · rw [e5, List.take_add_one]
      have e : ((List.range xs.length).zipWith f xs)[i]? = some (f i x) := by
        rw [List.getElem?_zipWith, hi, List.getElem?_range hil]
      rw [e]
      rfl
  · refine hd D H' hD p.2.1 ?_
    have e := p.2.2
    rw [List.take_of_length_le (by rw [List.length_zipWith, List.length_range]; omega)] at e
    exact e
end
end Kb

/-! M03: rows as lists of ints: walks, their least bells, order, inversions. Plain Lean. -/
set_option maxRecDepth 100000
set_option linter.all false
namespace Kb
def IsRow (r : List Int) (n : Nat) : Prop := r.length = n ∧ r.Nodup ∧ ∀ x ∈ r, 1 ≤ x ∧ x ≤ (n : Int)
def mulR (x y : List Int) : List Int := y.map fun b => x.getD (b - 1).toNat 0
def roundsR (n : Nat) : List Int := (List.range n).map fun (i : Nat) => 1 + (i : Int)
def nx (r : List Int) (b : Int) : Int := r.getD (b - 1).toNat 0
def itr (r : List Int) : Nat → Int → Int
  | 0, b => b
  | k + 1, b => nx r (itr r k b)
def per (r : List Int) (b : Int) : Nat := ((List.range r.length).find? fun k => decide (itr r (k + 1) b = b)).getD 0 + 1
def orbit (r : List Int) (b : Int) : List Int := (List.range (per r b)).map fun k => itr r k b
def isMin (r : List Int) (b : Int) : Bool := (orbit r b).all fun x => decide (b ≤ x)
def cyc (r : List Int) : List (List Int) := ((roundsR r.length).filter (isMin r)).map (orbit r)
def ordL (cs : List (List Int)) : Nat := cs.foldl (fun a c => Nat.lcm a c.length) 1
def inv : List Int → Nat
  | [] => 0
  | x :: w => (w.filter fun y => decide (y < x)).length + inv w

/-! ### pigeonhole -/
theorem nodup_inj {α : Type} {l : List α} (nd : l.Nodup) {i j : Nat} {hi : i < l.length} {hj : j < l.length} (e : l[i] = l[j]) : i = j := by
  rw [List.nodup_iff_pairwise_ne, List.pairwise_iff_getElem] at nd
  rcases Nat.lt_trichotomy i j with h | h | h
  · exact absurd e (nd i j hi hj h)
  · exact h
  · exact absurd e.symm (nd j i hj hi h)
theorem nodup_erase_len {α : Type} [DecidableEq α] {l : List α} {x : α} (h : x ∈ l) : (l.erase x).length + 1 = l.length := by
  rw [List.length_erase_of_mem h]
  have := List.length_pos_of_mem h
  omega
theorem nodup_le : ∀ (n : Nat) (l : List Int), l.Nodup → (∀ x ∈ l, 1 ≤ x ∧ x ≤ (n : Int)) → l.length ≤ n
  | 0, l, _, h => by
    cases l with
    | nil => exact Nat.le_refl _
    | cons x r => have := h x List.mem_cons_self; omega
  | n + 1, l, nd, h => by
    by_cases hm : ((n : Int) + 1) ∈ l
    · have h1 := nodup_le n (l.erase ((n : Int) + 1)) (nd.erase _) (fun x hx => by
        have h2 := h x (List.mem_of_mem_erase hx)
        have h3 : x ≠ (n : Int) + 1 := fun e => by
          subst e
          exact (List.Nodup.mem_erase_iff nd).mp hx |>.1 rfl
        omega)
      have := nodup_erase_len hm
      omega
    · have := nodup_le n l nd (fun x hx => by
        have h2 := h x hx
        have h3 : x ≠ (n : Int) + 1 := fun e => hm (e ▸ hx)
        omega)
      omega
/-- a row holds every bell -/
theorem row_mem {r : List Int} {n : Nat} (h : IsRow r n) {b : Int} (h1 : 1 ≤ b) (h2 : b ≤ n) : b ∈ r := by
  refine Decidable.byContradiction fun hm => ?_
  have := nodup_le n (b :: r) (List.nodup_cons.mpr ⟨hm, h.2.1⟩) (fun x hx => by
    rcases List.mem_cons.mp hx with rfl | hx
    · exact ⟨h1, h2⟩
    · exact h.2.2 x hx)
  rw [List.length_cons, h.1] at this
  omega
section
variable {r : List Int} {n : Nat} (h : IsRow r n)
include h
theorem nx_get {b : Int} (h1 : 1 ≤ b) (h2 : b ≤ n) : ∃ hl : (b - 1).toNat < r.length, nx r b = r[(b - 1).toNat] := by
  have hl : (b - 1).toNat < r.length := by rw [h.1]; omega
  exact ⟨hl, by unfold nx; rw [List.getD_eq_getElem?_getD, List.getElem?_eq_getElem hl]; rfl⟩
theorem nx_mem {b : Int} (h1 : 1 ≤ b) (h2 : b ≤ n) : 1 ≤ nx r b ∧ nx r b ≤ n := by
  obtain ⟨hl, e⟩ := nx_get h h1 h2
  rw [e]
  exact h.2.2 _ (List.getElem_mem hl)
theorem nx_inj {a b : Int} (ha1 : 1 ≤ a) (ha2 : a ≤ n) (h1 : 1 ≤ b) (h2 : b ≤ n) (e : nx r a = nx r b) : a = b := by
  obtain ⟨hl, e1⟩ := nx_get h h1 h2
  obtain ⟨ha, e2⟩ := nx_get h ha1 ha2
  rw [e1, e2] at e
  have := nodup_inj h.2.1 e
  omega
theorem itr_mem {b : Int} (h1 : 1 ≤ b) (h2 : b ≤ n) : ∀ k, 1 ≤ itr r k b ∧ itr r k b ≤ n
  | 0 => ⟨h1, h2⟩
  | k + 1 => by
    have := itr_mem h1 h2 k
    exact nx_mem h this.1 this.2
omit h in
theorem itr_add (b : Int) (j : Nat) : ∀ k, itr r (j + k) b = itr r k (itr r j b)
  | 0 => rfl
  | k + 1 => by
    show nx r (itr r (j + k) b) = nx r (itr r k (itr r j b))
    rw [itr_add b j k]
theorem itr_inj {a b : Int} (ha1 : 1 ≤ a) (ha2 : a ≤ n) (h1 : 1 ≤ b) (h2 : b ≤ n) : ∀ k, itr r k a = itr r k b → a = b
  | 0, e => e
  | k + 1, e => by
    have x := itr_mem h ha1 ha2 k
    have y := itr_mem h h1 h2 k
    exact itr_inj ha1 ha2 h1 h2 k (nx_inj h x.1 x.2 y.1 y.2 e)
/-- some return within n steps -/
theorem returns {b : Int} (h1 : 1 ≤ b) (h2 : b ≤ n) : ∃ k, k < n ∧ itr r (k + 1) b = b := by
  refine Decidable.byContradiction fun hn => ?_
  have hno : ∀ k, k < n → itr r (k + 1) b ≠ b := fun k hk e => hn ⟨k, hk, e⟩
  have nd : ((List.range (n + 1)).map fun k => itr r k b).Nodup := by
    rw [List.nodup_iff_pairwise_ne, List.pairwise_map]
    refine (List.pairwise_lt_range (n := n + 1)).imp_of_mem (fun {i j} hi hj hij e => ?_)
    rw [List.mem_range] at hi hj
    have e2 : itr r j b = itr r i (itr r (j - i) b) := by
      have := itr_add (r := r) b (j - i) i
      rw [show j - i + i = j by omega] at this
      exact this
    rw [e2] at e
    have hm := itr_mem h h1 h2 (j - i)
    have := itr_inj h h1 h2 hm.1 hm.2 i e
    refine hno (j - i - 1) (by omega) ?_
    rw [show j - i - 1 + 1 = j - i by omega]
    exact this.symm
  have := nodup_le n _ nd (fun x hx => by
    obtain ⟨k, _, rfl⟩ := List.mem_map.mp hx
    exact itr_mem h h1 h2 k)
  simp at this
  omega
theorem per_spec {b : Int} (h1 : 1 ≤ b) (h2 : b ≤ n) : 0 < per r b ∧ per r b ≤ n ∧ itr r (per r b) b = b ∧ ∀ k, 0 < k → k < per r b → itr r k b ≠ b := by
  obtain ⟨k, hk, ek⟩ := returns h h1 h2
  unfold per
  rw [h.1]
  cases e : (List.range n).find? (fun k => decide (itr r (k + 1) b = b)) with
  | none =>
    rw [List.find?_eq_none] at e
    exact absurd (decide_eq_true ek) (e k (List.mem_range.mpr hk))
  | some m =>
    have hm := List.find?_some e
    have hr := List.mem_range.mp (List.mem_of_find?_eq_some e)
    refine ⟨Nat.succ_pos _, hr, of_decide_eq_true hm, fun j hj hl ej => ?_⟩
    have hl : j < m + 1 := hl
    rw [List.find?_range_eq_some] at e
    have := e.2.2 (j - 1) (by omega)
    rw [show j - 1 + 1 = j by omega] at this
    simp [ej] at this
theorem itr_per {b : Int} (h1 : 1 ≤ b) (h2 : b ≤ n) : ∀ q k, itr r (per r b * q + k) b = itr r k b
  | 0, k => by rw [Nat.mul_zero, Nat.zero_add]
  | q + 1, k => by
    rw [show per r b * (q + 1) + k = per r b + (per r b * q + k) by rw [Nat.mul_succ]; omega, itr_add, (per_spec h h1 h2).2.2.1, itr_per h1 h2 q k]
/-- the walk is back exactly at the multiples of its length -/
theorem back_iff {b : Int} (h1 : 1 ≤ b) (h2 : b ≤ n) (m : Nat) : itr r m b = b ↔ per r b ∣ m := by
  have p := per_spec h h1 h2
  constructor
  · intro e
    have e2 := itr_per h h1 h2 (m / per r b) (m % per r b)
    rw [Nat.div_add_mod] at e2
    rw [e] at e2
    refine Nat.dvd_of_mod_eq_zero (Decidable.byContradiction fun hz => ?_)
    exact p.2.2.2 (m % per r b) (Nat.pos_of_ne_zero hz) (Nat.mod_lt _ p.1) e2.symm
  · rintro ⟨q, rfl⟩
    have := itr_per h h1 h2 q 0
    exact this
theorem mem_orbit {b x : Int} (h1 : 1 ≤ b) (h2 : b ≤ n) : x ∈ orbit r b ↔ ∃ k, itr r k b = x := by
  have p := per_spec h h1 h2
  unfold orbit
  rw [List.mem_map]
  constructor
  · rintro ⟨k, _, e⟩
    exact ⟨k, e⟩
  · rintro ⟨k, e⟩
    refine ⟨k % per r b, List.mem_range.mpr (Nat.mod_lt _ p.1), ?_⟩
    have := itr_per h h1 h2 (k / per r b) (k % per r b)
    rw [Nat.div_add_mod] at this
    rw [← this, e]
theorem isMin_iff {b : Int} (h1 : 1 ≤ b) (h2 : b ≤ n) : isMin r b = true ↔ ∀ k, b ≤ itr r k b := by
  unfold isMin
  rw [List.all_eq_true]
  constructor
  · intro q k
    exact of_decide_eq_true (q _ ((mem_orbit h h1 h2).mpr ⟨k, rfl⟩))
  · intro q x hx
    obtain ⟨k, rfl⟩ := (mem_orbit h h1 h2).mp hx
    exact decide_eq_true (q k)
/-- being on one walk -/
theorem orbit_symm {a b : Int} (h1 : 1 ≤ a) (h2 : a ≤ n) {k : Nat} (e : itr r k a = b) : ∃ j, itr r j b = a := by
  have p := per_spec h h1 h2
  refine ⟨per r a * k - k, ?_⟩
  rw [← e, ← itr_add]
  have hle : k ≤ per r a * k := Nat.le_mul_of_pos_left k p.1
  rw [show k + (per r a * k - k) = per r a * k + 0 by omega, itr_per h h1 h2]
  rfl
theorem orbit_nodup {b : Int} (h1 : 1 ≤ b) (h2 : b ≤ n) : (orbit r b).Nodup := by
  have p := per_spec h h1 h2
  unfold orbit
  rw [List.nodup_iff_pairwise_ne, List.pairwise_map]
  refine (List.pairwise_lt_range (n := per r b)).imp_of_mem (fun {i j} hi hj hij e => ?_)
  rw [List.mem_range] at hi hj
  have e2 : itr r j b = itr r i (itr r (j - i) b) := by
    have := itr_add (r := r) b (j - i) i
    rw [show j - i + i = j by omega] at this
    exact this
  rw [e2] at e
  have hm := itr_mem h h1 h2 (j - i)
  have := itr_inj h h1 h2 hm.1 hm.2 i e
  exact p.2.2.2 (j - i) (by omega) (by omega) this.symm
/-- a walk's bell is 1 to i at some step -/
def Seen (r : List Int) (i : Nat) (x : Int) : Prop := ∃ k, itr r k x ≤ (i : Int)
omit h in
theorem seen_zero {x : Int} (hx : IsRow r n) (h1 : 1 ≤ x) (h2 : x ≤ n) : ¬ Seen r 0 x := fun ⟨k, e⟩ => by
  have := itr_mem hx h1 h2 k
  omega
theorem seen_min {i : Nat} (h2 : 1 + (i : Int) ≤ n) : isMin r (1 + (i : Int)) = true ↔ ¬ Seen r i (1 + (i : Int)) := by
  rw [isMin_iff h (by omega) h2]
  constructor
  · rintro q ⟨k, e⟩
    have := q k
    omega
  · intro q k
    refine Decidable.byContradiction fun hc => q ⟨k, by omega⟩
theorem seen_succ_no {i : Nat} {x : Int} (hs : Seen r i (1 + (i : Int))) : Seen r (i + 1) x ↔ Seen r i x := by
  constructor
  · rintro ⟨k, e⟩
    by_cases hk : itr r k x = 1 + (i : Int)
    · obtain ⟨j, ej⟩ := hs
      refine ⟨k + j, ?_⟩
      rw [itr_add, hk]
      exact ej
    · exact ⟨k, by omega⟩
  · rintro ⟨k, e⟩
    exact ⟨k, by omega⟩
theorem seen_succ_yes {i : Nat} {x : Int} (h2 : 1 + (i : Int) ≤ n) (hx1 : 1 ≤ x) (hx2 : x ≤ n) : Seen r (i + 1) x ↔ Seen r i x ∨ ∃ k, k < per r (1 + (i : Int)) ∧ itr r k (1 + (i : Int)) = x := by
  have p := per_spec h (by omega) h2
  constructor
  · rintro ⟨k, e⟩
    by_cases hk : itr r k x = 1 + (i : Int)
    · obtain ⟨j, ej⟩ := orbit_symm h hx1 hx2 hk
      have hm : x ∈ orbit r (1 + (i : Int)) := (mem_orbit h (by omega) h2).mpr ⟨j, ej⟩
      unfold orbit at hm
      obtain ⟨k', hk', e'⟩ := List.mem_map.mp hm
      exact .inr ⟨k', List.mem_range.mp hk', e'⟩
    · exact .inl ⟨k, by omega⟩
  · rintro (⟨k, e⟩ | ⟨k, _, e⟩)
    · exact ⟨k, by omega⟩
    · obtain ⟨j, ej⟩ := orbit_symm h (by omega) h2 e
      exact ⟨j, by omega⟩
theorem fresh_step {i j : Nat} (h2 : 1 + (i : Int) ≤ n) (hm : ¬ Seen r i (1 + (i : Int))) (hj : j < per r (1 + (i : Int))) : ¬ (Seen r i (itr r j (1 + (i : Int))) ∨ ∃ k, k < j ∧ itr r k (1 + (i : Int)) = itr r j (1 + (i : Int))) := by
  have p := per_spec h (by omega) h2
  rintro (⟨k, e⟩ | ⟨k, hk, e⟩)
  · exact hm ⟨j + k, by rw [itr_add]; exact e⟩
  · have nd := orbit_nodup h (by omega : (1 : Int) ≤ 1 + (i : Int)) h2
    unfold orbit at nd
    rw [List.nodup_iff_pairwise_ne, List.pairwise_map] at nd
    have := List.pairwise_iff_getElem.mp nd k j (by rw [List.length_range]; omega) (by rw [List.length_range]; omega) hk
    rw [List.getElem_range, List.getElem_range] at this
    exact this e
end

/-! ### the order -/
theorem lcm_room {o l M : Nat} (ho : 0 < o) (hd : o ∣ M) (hle : M ≤ Nat.lcm o l) (hz : ¬ M % l = 0) : M + o ≤ Nat.lcm o l := by
  obtain ⟨c, hc⟩ := hd
  obtain ⟨e, he⟩ := Nat.dvd_lcm_left o l
  have hne : M ≠ Nat.lcm o l := fun h => hz (by rw [h]; exact Nat.mod_eq_zero_of_dvd (Nat.dvd_lcm_right o l))
  subst hc
  rw [he] at hle hne ⊢
  have h1 : c < e := by
    refine Decidable.byContradiction fun hn => ?_
    have : o * e ≤ o * c := Nat.mul_le_mul_left o (by omega)
    exact hne (Nat.le_antisymm hle this)
  have h2 : o * (c + 1) ≤ o * e := Nat.mul_le_mul_left o h1
  rw [Nat.mul_succ] at h2
  exact h2
theorem mem_rounds {n : Nat} {x : Int} : x ∈ roundsR n ↔ 1 ≤ x ∧ x ≤ (n : Int) := by
  unfold roundsR
  rw [List.mem_map]
  constructor
  · rintro ⟨i, hi, rfl⟩
    rw [List.mem_range] at hi
    omega
  · rintro ⟨h1, h2⟩
    exact ⟨(x - 1).toNat, List.mem_range.mpr (by omega), by omega⟩
theorem cyc_mem {r : List Int} {n : Nat} (h : IsRow r n) {c : List Int} (hc : c ∈ cyc r) : ∃ b : Int, 1 ≤ b ∧ b ≤ n ∧ isMin r b = true ∧ c = orbit r b := by
  unfold cyc at hc
  obtain ⟨b, hb, rfl⟩ := List.mem_map.mp hc
  rw [List.mem_filter, h.1, mem_rounds] at hb
  exact ⟨b, hb.1.1, hb.1.2, hb.2, rfl⟩
theorem orbit_len (r : List Int) (b : Int) : (orbit r b).length = per r b := by unfold orbit; rw [List.length_map, List.length_range]
theorem cyc_pos {r : List Int} {n : Nat} (h : IsRow r n) (c : List Int) (hc : c ∈ cyc r) : 0 < c.length := by
  obtain ⟨b, h1, h2, _, rfl⟩ := cyc_mem h hc
  rw [orbit_len]
  exact (per_spec h h1 h2).1
theorem foldl_lcm_pos : ∀ (cs : List (List Int)) (a : Nat), 0 < a → (∀ c ∈ cs, 0 < c.length) → 0 < cs.foldl (fun a c => Nat.lcm a c.length) a
  | [], _, h, _ => h
  | c :: cs, a, h, hc => foldl_lcm_pos cs _ (Nat.lcm_pos h (hc c List.mem_cons_self)) fun d hd => hc d (List.mem_cons_of_mem _ hd)
theorem ordL_pos {r : List Int} {n : Nat} (h : IsRow r n) (i : Nat) : 0 < ordL ((cyc r).take i) :=
  foldl_lcm_pos _ 1 Nat.one_pos fun c hc => cyc_pos h c (List.mem_of_mem_take hc)
theorem foldl_lcm_dvd (m : Nat) : ∀ (cs : List (List Int)) (a : Nat), cs.foldl (fun a c => Nat.lcm a c.length) a ∣ m ↔ a ∣ m ∧ ∀ c ∈ cs, c.length ∣ m
  | [], a => by simp
  | c :: cs, a => by
    show cs.foldl _ (Nat.lcm a c.length) ∣ m ↔ _
    rw [foldl_lcm_dvd m cs]
    constructor
    · rintro ⟨h1, h2⟩
      refine ⟨Nat.dvd_trans (Nat.dvd_lcm_left _ _) h1, fun d hd => ?_⟩
      rcases List.mem_cons.mp hd with rfl | hd
      · exact Nat.dvd_trans (Nat.dvd_lcm_right _ _) h1
      · exact h2 d hd
    · rintro ⟨h1, h2⟩
      exact ⟨Nat.lcm_dvd h1 (h2 c List.mem_cons_self), fun d hd => h2 d (List.mem_cons_of_mem _ hd)⟩

/-! ### powers: pw r m is the product of m + 1 copies -/
def pw (r : List Int) : Nat → List Int
  | 0 => r
  | m + 1 => mulR (pw r m) r
theorem mulR_len (x y : List Int) : (mulR x y).length = y.length := by unfold mulR; rw [List.length_map]
theorem nx_mul {x y : List Int} {n : Nat} (hy : IsRow y n) {b : Int} (h1 : 1 ≤ b) (h2 : b ≤ n) : nx (mulR x y) b = nx x (nx y b) := by
  obtain ⟨hl, e⟩ := nx_get hy h1 h2
  rw [e]
  unfold nx mulR
  rw [List.getD_eq_getElem?_getD, List.getElem?_map, List.getElem?_eq_getElem hl]
  rfl
theorem mulR_row' {x y : List Int} {n : Nat} (hx : IsRow x n) (hy : IsRow y n) : IsRow (mulR x y) n := by
  refine ⟨by rw [mulR_len]; exact hy.1, ?_, ?_⟩
  · unfold mulR
    rw [List.nodup_iff_pairwise_ne, List.pairwise_map]
    refine (List.nodup_iff_pairwise_ne.mp hy.2.1).imp_of_mem (fun {a b} ha hb hne e => hne ?_)
    have h1 := hy.2.2 a ha
    have h2 := hy.2.2 b hb
    exact nx_inj hx h1.1 h1.2 h2.1 h2.2 e
  · intro b hb
    unfold mulR at hb
    obtain ⟨c, hc, rfl⟩ := List.mem_map.mp hb
    have h1 := hy.2.2 c hc
    exact nx_mem hx h1.1 h1.2
theorem pw_row {r : List Int} {n : Nat} (h : IsRow r n) : ∀ m, IsRow (pw r m) n
  | 0 => h
  | m + 1 => mulR_row' (pw_row h m) h
theorem nx_pw {r : List Int} {n : Nat} (h : IsRow r n) {b : Int} (h1 : 1 ≤ b) (h2 : b ≤ n) : ∀ m, nx (pw r m) b = itr r (m + 1) b
  | 0 => rfl
  | m + 1 => by
    have hm := nx_mem h h1 h2
    show nx (mulR (pw r m) r) b = _
    rw [nx_mul h h1 h2]
    have key : ∀ {c : Int}, 1 ≤ c → c ≤ n → nx (pw r m) c = itr r (m + 1) c := fun c1 c2 => nx_pw h c1 c2 m
    rw [key hm.1 hm.2, show itr r (m + 1 + 1) b = itr r (m + 1) (itr r 1 b) by rw [← itr_add, Nat.add_comm 1 (m + 1)]]
    rfl
theorem roundsR_row' (n : Nat) : IsRow (roundsR n) n := by
  refine ⟨by simp [roundsR], ?_, fun x hx => mem_rounds.mp hx⟩
  unfold roundsR
  rw [List.nodup_iff_pairwise_ne, List.pairwise_map]
  exact List.nodup_range.imp fun h e => h (by omega)
theorem nx_rounds {n : Nat} {b : Int} (h1 : 1 ≤ b) (h2 : b ≤ n) : nx (roundsR n) b = b := by
  unfold nx roundsR
  rw [List.getD_eq_getElem?_getD, List.getElem?_map, List.getElem?_range (by omega)]
  show 1 + (((b - 1).toNat : Nat) : Int) = b
  omega
/-- rows are told by their bells -/
theorem row_ext {x y : List Int} {n : Nat} (hx : IsRow x n) (hy : IsRow y n) (e : ∀ b : Int, 1 ≤ b → b ≤ n → nx x b = nx y b) : x = y := by
  refine List.ext_getElem (hx.1.trans hy.1.symm) fun i h1 h2 => ?_
  have hi : i < n := by rw [← hx.1]; exact h1
  have := e (1 + (i : Int)) (by omega) (by omega)
  unfold nx at this
  rw [show (1 + (i : Int) - 1).toNat = i by omega] at this
  rw [List.getD_eq_getElem?_getD, List.getD_eq_getElem?_getD, List.getElem?_eq_getElem h1, List.getElem?_eq_getElem h2] at this
  exact this
/-- a walk's least bell -/
theorem has_min {r : List Int} {n : Nat} (h : IsRow r n) : ∀ (m : Nat) (b : Int), 1 ≤ b → b ≤ n → b ≤ (m : Int) → ∃ k, isMin r (itr r k b) = true
  | 0, b, h1, _, hm => by omega
  | m + 1, b, h1, h2, hm => by
    by_cases hb : isMin r b = true
    · exact ⟨0, hb⟩
    · have : ∃ k, itr r k b < b := by
        refine Classical.byContradiction fun hc => hb ((isMin_iff h h1 h2).mpr fun k => ?_)
        refine Decidable.byContradiction fun hk => hc ⟨k, by omega⟩
      obtain ⟨k, hk⟩ := this
      have hmem := itr_mem h h1 h2 k
      obtain ⟨j, hj⟩ := has_min h m (itr r k b) hmem.1 hmem.2 (by omega)
      exact ⟨k + j, by rw [itr_add]; exact hj⟩
theorem pw_round {r : List Int} {n : Nat} (h : IsRow r n) (m : Nat) : pw r m = roundsR n ↔ ordL (cyc r) ∣ m + 1 := by
  unfold ordL
  rw [foldl_lcm_dvd]
  constructor
  · intro e
    refine ⟨Nat.one_dvd _, fun c hc => ?_⟩
    obtain ⟨b, h1, h2, _, rfl⟩ := cyc_mem h hc
    rw [orbit_len, ← back_iff h h1 h2, ← nx_pw h h1 h2, e, nx_rounds h1 h2]
  · rintro ⟨_, hd⟩
    refine row_ext (pw_row h m) (roundsR_row' n) fun b h1 h2 => ?_
    rw [nx_pw h h1 h2, nx_rounds h1 h2]
    obtain ⟨k, hk⟩ := has_min h n b h1 h2 h2
    have hm := itr_mem h h1 h2 k
    have hc : orbit r (itr r k b) ∈ cyc r := by
      unfold cyc
      refine List.mem_map.mpr ⟨itr r k b, ?_, rfl⟩
      rw [List.mem_filter, h.1, mem_rounds]
      exact ⟨hm, hk⟩
    have := hd _ hc
    rw [orbit_len, ← back_iff h hm.1 hm.2] at this
    obtain ⟨j, hj⟩ := orbit_symm h h1 h2 (k := k) rfl
    rw [← hj]
    rw [← itr_add, Nat.add_comm, itr_add, this]
/-! ### no order is above 60 up to 12 bells -/
theorem cyc_sum {r : List Int} {n : Nat} (h : IsRow r n) : ((cyc r).map List.length).sum ≤ n := by
  rw [← List.length_flatten]
  refine nodup_le n _ ?_ ?_
  · rw [List.nodup_iff_pairwise_ne, List.pairwise_flatten]
    refine ⟨fun c hc => ?_, ?_⟩
    · obtain ⟨b, h1, h2, _, rfl⟩ := cyc_mem h hc
      exact List.nodup_iff_pairwise_ne.mp (orbit_nodup h h1 h2)
    · unfold cyc
      rw [List.pairwise_map]
      have hlt : (roundsR r.length).Pairwise (· < ·) := by
        unfold roundsR
        rw [List.pairwise_map]
        exact List.pairwise_lt_range.imp fun hab => by omega
      refine (hlt.filter _).imp_of_mem (fun {b c} hb hc hbc x hx y hy e => ?_)
      subst e
      rw [List.mem_filter, h.1, mem_rounds] at hb hc
      obtain ⟨k, hk⟩ := (mem_orbit h hb.1.1 hb.1.2).mp hx
      obtain ⟨k', hk'⟩ := (mem_orbit h hc.1.1 hc.1.2).mp hy
      obtain ⟨j, hj⟩ := orbit_symm h hb.1.1 hb.1.2 hk
      have h3 := (isMin_iff h hc.1.1 hc.1.2).mp hc.2 (k' + j)
      rw [itr_add, hk', hj] at h3
      omega
  · intro x hx
    obtain ⟨c, hc, hxc⟩ := List.mem_flatten.mp hx
    obtain ⟨b, h1, h2, _, rfl⟩ := cyc_mem h hc
    obtain ⟨k, rfl⟩ := (mem_orbit h h1 h2).mp hxc
    exact itr_mem h h1 h2 k
def chk : Nat → Nat → Nat → Bool
  | 0, a, _ => decide (a ≤ 60)
  | f + 1, a, s => decide (a ≤ 60) && (List.range s).all fun l => chk f (Nat.lcm a (l + 1)) (s - (l + 1))
theorem chk_le : ∀ (f a s : Nat), chk f a s = true → a ≤ 60
  | 0, a, s, h => of_decide_eq_true h
  | f + 1, a, s, h => of_decide_eq_true (Bool.and_eq_true_iff.mp h).1
theorem chk_ok : ∀ (cs : List (List Int)) (f a s : Nat), chk f a s = true → (∀ c ∈ cs, 0 < c.length) → (cs.map List.length).sum ≤ s → cs.length ≤ f → cs.foldl (fun a c => Nat.lcm a c.length) a ≤ 60
  | [], f, a, s, h, _, _, _ => chk_le f a s h
  | c :: cs, 0, a, s, h, _, _, hl => by simp at hl
  | c :: cs, f + 1, a, s, h, hp, hs, hl => by
    have hc := hp c List.mem_cons_self
    rw [List.map_cons, List.sum_cons] at hs
    have h2 := (Bool.and_eq_true_iff.mp h).2
    rw [List.all_eq_true] at h2
    have h3 := h2 (c.length - 1) (List.mem_range.mpr (by omega))
    rw [show c.length - 1 + 1 = c.length by omega] at h3
    exact chk_ok cs f _ _ h3 (fun d hd => hp d (List.mem_cons_of_mem _ hd)) (by omega) (by simpa using hl)
theorem chk_mono : ∀ (f a s s' : Nat), s' ≤ s → chk f a s = true → chk f a s' = true
  | 0, _, _, _, _, h => h
  | f + 1, a, s, s', hs, h => by
    have h2 := Bool.and_eq_true_iff.mp h
    refine Bool.and_eq_true_iff.mpr ⟨h2.1, ?_⟩
    rw [List.all_eq_true] at h2 ⊢
    intro l hl
    rw [List.mem_range] at hl
    exact chk_mono f _ _ _ (by omega) (h2.2 l (List.mem_range.mpr (by omega)))
theorem chk12 : chk 12 1 12 = true := by decide +kernel
theorem ord_le {r : List Int} {n : Nat} (h : IsRow r n) (hn : n ≤ 12) : ordL (cyc r) ≤ 60 := by
  have hs := cyc_sum h
  refine chk_ok (cyc r) 12 1 12 chk12 (fun c hc => cyc_pos h c hc) (by omega) ?_
  have : ∀ cs : List (List Int), (∀ c ∈ cs, 0 < c.length) → cs.length ≤ (cs.map List.length).sum := by
    intro cs
    induction cs with
    | nil => intro _; exact Nat.le_refl _
    | cons c cs ih =>
      intro hp
      have h1 := ih fun d hd => hp d (List.mem_cons_of_mem _ hd)
      have h2 := hp c List.mem_cons_self
      rw [List.map_cons, List.sum_cons, List.length_cons]
      omega
  have := this (cyc r) fun c hc => cyc_pos h c hc
  omega
/-! ### crossings -/
def cnt (x : Int) (l : List Int) : Nat := (l.filter fun y => decide (y < x)).length
theorem inv_cons (x : Int) (l : List Int) : inv (x :: l) = cnt x l + inv l := rfl
theorem cnt_append (x : Int) (a b : List Int) : cnt x (a ++ b) = cnt x a + cnt x b := by unfold cnt; rw [List.filter_append, List.length_append]
theorem cnt_cons (x y : Int) (l : List Int) : cnt x (y :: l) = (if y < x then 1 else 0) + cnt x l := by
  unfold cnt
  by_cases h : y < x
  · rw [List.filter_cons_of_pos (by simpa using h), if_pos h, List.length_cons]; omega
  · rw [List.filter_cons_of_neg (by simpa using h), if_neg h]; omega
theorem cnt_perm {x : Int} {a b : List Int} (h : a.Perm b) : cnt x a = cnt x b := (h.filter _).length_eq
theorem inv_adj {a b : Int} (h : a ≠ b) (w : List Int) : ∀ u : List Int, (inv (u ++ a :: b :: w) + inv (u ++ b :: a :: w)) % 2 = 1
  | [] => by
    simp only [List.nil_append, inv_cons, cnt_cons]
    by_cases h1 : a < b
    · rw [if_pos h1, if_neg (by omega : ¬ b < a)]; omega
    · rw [if_neg h1, if_pos (by omega : b < a)]; omega
  | x :: u => by
    have ih := inv_adj h w u
    have e : cnt x (u ++ a :: b :: w) = cnt x (u ++ b :: a :: w) := cnt_perm ((List.Perm.swap b a w).append_left u)
    simp only [List.cons_append, inv_cons, e]
    omega
theorem inv_move {b : Int} (w : List Int) : ∀ (v u : List Int), b ∉ v → inv (u ++ v ++ b :: w) % 2 = (inv (u ++ b :: (v ++ w)) + v.length) % 2
  | [], u, _ => by simp
  | c :: v, u, h => by
    have h1 : c ≠ b := fun e => h (e ▸ List.mem_cons_self)
    have ih := inv_move w v (u ++ [c]) fun hm => h (List.mem_cons_of_mem _ hm)
    have h2 := inv_adj h1 (v ++ w) u
    have e1 : u ++ c :: v ++ b :: w = u ++ [c] ++ v ++ b :: w := by simp
    have e2 : u ++ [c] ++ b :: (v ++ w) = u ++ c :: b :: (v ++ w) := by simp
    rw [e1, ih, e2, List.length_cons, List.cons_append]
    omega
theorem inv_swap {a b : Int} (u v w : List Int) (hab : a ≠ b) (ha : a ∉ v) (hb : b ∉ v) : (inv (u ++ a :: (v ++ b :: w)) + inv (u ++ b :: (v ++ a :: w))) % 2 = 1 := by
  have h1 := inv_move (b := b) w (a :: v) u (fun hm => by
    rcases List.mem_cons.mp hm with e | hm
    · exact hab e.symm
    · exact hb hm)
  have h2 := inv_move (b := a) w v (u ++ [b]) ha
  have e1 : u ++ a :: v ++ b :: w = u ++ a :: (v ++ b :: w) := by simp
  have e2 : u ++ [b] ++ v ++ a :: w = u ++ b :: (v ++ a :: w) := by simp
  have e3 : u ++ [b] ++ a :: (v ++ w) = u ++ b :: (a :: v ++ w) := by simp
  rw [e1, List.length_cons] at h1
  rw [e2, e3] at h2
  omega
theorem inv_perm_map {f : Int → Int} {a b : List Int} (h : a.Perm b) (nd : a.Nodup) (inj : ∀ x ∈ a, ∀ y ∈ a, f x = f y → x = y) : (inv a + inv (a.map f)) % 2 = (inv b + inv (b.map f)) % 2 := by
  induction h with
  | nil => rfl
  | cons x h ih =>
    have := ih (List.nodup_cons.mp nd).2 fun y hy z hz => inj y (List.mem_cons_of_mem _ hy) z (List.mem_cons_of_mem _ hz)
    simp only [List.map_cons, inv_cons, cnt_perm h, cnt_perm (h.map f)]
    omega
  | swap x y l =>
    have hxy : y ≠ x := fun e => by subst e; simp at nd
    have hf : f y ≠ f x := fun e => hxy (inj y List.mem_cons_self x (List.mem_cons_of_mem _ List.mem_cons_self) e)
    have h1 := inv_adj hxy l []
    have h2 := inv_adj hf (l.map f) []
    simp only [List.nil_append] at h1 h2
    simp only [List.map_cons]
    omega
  | trans h1 h2 ih1 ih2 =>
    rw [ih1 nd inj]
    exact ih2 (h1.nodup_iff.mp nd) fun x hx y hy => inj x (h1.mem_iff.mpr hx) y (h1.mem_iff.mpr hy)
theorem inv_sorted : ∀ l : List Int, l.Pairwise (· < ·) → inv l = 0
  | [], _ => rfl
  | x :: l, h => by
    rw [List.pairwise_cons] at h
    rw [inv_cons, inv_sorted l h.2]
    unfold cnt
    rw [Nat.add_zero, List.length_eq_zero_iff, List.filter_eq_nil_iff]
    intro y hy
    have := h.1 y hy
    simp
    omega
theorem rounds_lt (n : Nat) : (roundsR n).Pairwise (· < ·) := by
  unfold roundsR
  rw [List.pairwise_map]
  exact List.pairwise_lt_range.imp fun hab => by omega
theorem row_perm {r : List Int} {n : Nat} (h : IsRow r n) : r.Perm (roundsR n) := by
  rw [List.perm_ext_iff_of_nodup h.2.1 (roundsR_row' n).2.1]
  intro x
  rw [mem_rounds]
  exact ⟨h.2.2 x, fun hx => row_mem h hx.1 hx.2⟩
theorem map_rounds {x : List Int} {n : Nat} (hx : IsRow x n) : (roundsR n).map (nx x) = x := by
  refine List.ext_getElem (by rw [List.length_map, hx.1]; simp [roundsR]) fun i h1 h2 => ?_
  have hi : i < n := by rw [← hx.1]; exact h2
  rw [List.getElem_map]
  unfold roundsR nx
  rw [List.getElem_map, List.getElem_range, show (1 + (i : Int) - 1).toNat = i by omega, List.getD_eq_getElem?_getD, List.getElem?_eq_getElem h2]
  rfl
theorem inv_mul {x y : List Int} {n : Nat} (hx : IsRow x n) (hy : IsRow y n) : inv (mulR x y) % 2 = (inv x + inv y) % 2 := by
  have h := inv_perm_map (f := nx x) (row_perm hy) hy.2.1 (fun a ha b hb e => by
    have h1 := hy.2.2 a ha
    have h2 := hy.2.2 b hb
    exact nx_inj hx h1.1 h1.2 h2.1 h2.2 e)
  rw [map_rounds hx, inv_sorted _ (rounds_lt n)] at h
  have e : mulR x y = y.map (nx x) := rfl
  rw [e]
  omega
/-! ### walks when the greatest bell is taken out -/
section
variable {r r' : List Int} {n : Nat} (h : IsRow r (n + 1)) (h' : IsRow r' n) (hrel : ∀ b : Int, 1 ≤ b → b ≤ n → nx r' b = if nx r b = (n : Int) + 1 then nx r ((n : Int) + 1) else nx r b)
include h h' hrel
theorem out_fwd {b : Int} (h1 : 1 ≤ b) (h2 : b ≤ n) : ∀ k, ∃ j, itr r' k b = itr r j b
  | 0 => ⟨0, rfl⟩
  | k + 1 => by
    obtain ⟨j, hj⟩ := out_fwd h1 h2 k
    have hm := itr_mem h' h1 h2 k
    have e := hrel _ hm.1 hm.2
    show ∃ j, nx r' (itr r' k b) = itr r j b
    rw [e]
    by_cases hc : nx r (itr r' k b) = (n : Int) + 1
    · rw [if_pos hc]
      refine ⟨j + 2, ?_⟩
      show _ = nx r (nx r (itr r j b))
      rw [← hj, hc]
    · rw [if_neg hc]
      refine ⟨j + 1, ?_⟩
      show _ = nx r (itr r j b)
      rw [hj]
theorem out_back {b : Int} (h1 : 1 ≤ b) (h2 : b ≤ n) : ∀ k, (∃ j, itr r' j b = itr r k b) ∨ (itr r k b = (n : Int) + 1 ∧ ∃ j, itr r' j b = nx r ((n : Int) + 1))
  | 0 => .inl ⟨0, rfl⟩
  | k + 1 => by
    rcases out_back h1 h2 k with ⟨j, hj⟩ | ⟨he, j, hj⟩
    · have hm := itr_mem h' h1 h2 j
      have e := hrel _ hm.1 hm.2
      by_cases hc : nx r (itr r' j b) = (n : Int) + 1
      · rw [if_pos hc] at e
        refine .inr ⟨?_, j + 1, e⟩
        show nx r (itr r k b) = _
        rw [← hj, hc]
      · rw [if_neg hc] at e
        refine .inl ⟨j + 1, ?_⟩
        show nx r' (itr r' j b) = nx r (itr r k b)
        rw [e, hj]
    · refine .inl ⟨j, ?_⟩
      show _ = nx r (itr r k b)
      rw [he, hj]
theorem out_min {b : Int} (h1 : 1 ≤ b) (h2 : b ≤ n) : isMin r b = isMin r' b := by
  have i1 := isMin_iff h h1 (by omega : b ≤ ((n + 1 : Nat) : Int))
  have i2 := isMin_iff h' h1 h2
  rw [Bool.eq_iff_iff, i1, i2]
  constructor
  · intro q k
    obtain ⟨j, hj⟩ := out_fwd h h' hrel h1 h2 k
    rw [hj]
    exact q j
  · intro q k
    rcases out_back h h' hrel h1 h2 k with ⟨j, hj⟩ | ⟨he, _⟩
    · rw [← hj]
      exact q j
    · omega
theorem out_cyc : (cyc r).length = (cyc r').length + (if nx r ((n : Int) + 1) = (n : Int) + 1 then 1 else 0) := by
  unfold cyc
  rw [List.length_map, List.length_map, h.1, h'.1]
  have e1 : roundsR (n + 1) = roundsR n ++ [1 + (n : Int)] := by
    unfold roundsR
    rw [List.range_succ, List.map_append]
    rfl
  have e2 : (roundsR n).filter (isMin r) = (roundsR n).filter (isMin r') := List.filter_congr fun b hb => by
    have := mem_rounds.mp hb
    exact out_min h h' hrel this.1 this.2
  rw [e1, List.filter_append, List.length_append, e2]
  congr 1
  have hn1 : (1 : Int) ≤ 1 + (n : Int) := by omega
  have hn2 : 1 + (n : Int) ≤ ((n + 1 : Nat) : Int) := by omega
  have hi := isMin_iff h hn1 hn2
  have ec : (1 : Int) + (n : Int) = (n : Int) + 1 := by omega
  by_cases hc : nx r ((n : Int) + 1) = (n : Int) + 1
  · rw [if_pos hc]
    have hall : ∀ k, itr r k (1 + (n : Int)) = 1 + (n : Int) := by
      intro k
      induction k with
      | zero => rfl
      | succ k ih =>
        show nx r (itr r k (1 + (n : Int))) = _
        rw [ih, ec]
        exact hc
    have : isMin r (1 + (n : Int)) = true := hi.mpr fun k => by rw [hall k]; exact Int.le_refl _
    rw [List.filter_cons_of_pos this]
    rfl
  · rw [if_neg hc]
    have : ¬ isMin r (1 + (n : Int)) = true := fun hm => by
      have h3 := hi.mp hm 1
      have h4 := nx_mem h hn1 hn2
      have e : itr r 1 (1 + (n : Int)) = nx r (1 + (n : Int)) := rfl
      rw [e] at h3
      refine hc ?_
      rw [← ec]
      omega
    rw [List.filter_cons_of_neg this]
    rfl
end
theorem nx_append {u w : List Int} {x : Int} {b : Int} (h1 : 1 ≤ b) : nx (u ++ x :: w) b = if (b - 1).toNat < u.length then nx u b else if (b - 1).toNat = u.length then x else w.getD ((b - 1).toNat - u.length - 1) 0 := by
  unfold nx
  rw [List.getD_eq_getElem?_getD, List.getElem?_append]
  by_cases h : (b - 1).toNat < u.length
  · rw [if_pos h, if_pos h, List.getD_eq_getElem?_getD]
  · rw [if_neg h, if_neg h]
    by_cases he : (b - 1).toNat = u.length
    · rw [if_pos he, he, Nat.sub_self]
      rfl
    · rw [if_neg he, List.getD_eq_getElem?_getD]
      obtain ⟨m, hm⟩ : ∃ m, (b - 1).toNat - u.length = m + 1 := ⟨(b - 1).toNat - u.length - 1, by omega⟩
      rw [hm]
      rfl
theorem parity_eq : ∀ {n : Nat} {r : List Int}, IsRow r n → ((n : Int) - ((cyc r).length : Int)) % 2 = (inv r : Int) % 2
  | 0, r, h => by
    have : r = [] := List.length_eq_zero_iff.mp h.1
    subst this
    rfl
  | n + 1, r, h => by
    have hm : ((n : Int) + 1) ∈ r := row_mem h (by omega) (by omega)
    obtain ⟨u, v, rfl⟩ := List.append_of_mem hm
    have hlen := h.1
    rw [List.length_append, List.length_cons] at hlen
    have nd := h.2.1
    rw [List.nodup_append] at nd
    obtain ⟨ndu, ndv, huv⟩ := nd
    rw [List.nodup_cons] at ndv
    have hbu : ∀ x ∈ u, 1 ≤ x ∧ x ≤ (n : Int) := fun x hx => by
      have := h.2.2 x (List.mem_append_left _ hx)
      have h3 : x ≠ (n : Int) + 1 := huv x hx _ List.mem_cons_self
      omega
    have hbv : ∀ x ∈ v, 1 ≤ x ∧ x ≤ (n : Int) := fun x hx => by
      have := h.2.2 x (List.mem_append_right _ (List.mem_cons_of_mem _ hx))
      have h3 : x ≠ (n : Int) + 1 := fun e => ndv.1 (e ▸ hx)
      omega
    rcases List.eq_nil_or_concat v with rfl | ⟨v, q, rfl⟩
    · -- the greatest bell is last
      have hul : u.length = n := by simpa using hlen
      have h' : IsRow u n := ⟨hul, ndu, hbu⟩
      have hq : nx (u ++ [(n : Int) + 1]) ((n : Int) + 1) = (n : Int) + 1 := by
        rw [nx_append (by omega), if_neg (by omega), if_pos (by omega)]
      have hrel : ∀ b : Int, 1 ≤ b → b ≤ n → nx u b = if nx (u ++ [(n : Int) + 1]) b = (n : Int) + 1 then nx (u ++ [(n : Int) + 1]) ((n : Int) + 1) else nx (u ++ [(n : Int) + 1]) b := by
        intro b h1 h2
        have e : nx (u ++ [(n : Int) + 1]) b = nx u b := by rw [nx_append h1, if_pos (by omega)]
        rw [e, if_neg (by have := nx_mem h' h1 h2; omega)]
      have hc := out_cyc h h' hrel
      rw [if_pos hq] at hc
      have ih := parity_eq h'
      have hi : inv (u ++ [(n : Int) + 1]) = inv u := by
        clear hc ih hrel hq h' hul huv hlen h hm
        induction u with
        | nil => rfl
        | cons x u ihu =>
          rw [List.cons_append, inv_cons, inv_cons, ihu (List.nodup_cons.mp ndu).2 fun y hy => hbu y (List.mem_cons_of_mem _ hy), cnt_append, cnt_cons, if_neg (by have := hbu x List.mem_cons_self; omega)]
          rfl
      rw [hi, hc]
      omega
    · rw [List.concat_eq_append] at *
      have hvl : u.length + 1 + v.length = n := by rw [List.length_append, List.length_singleton] at hlen; omega
      have ndq := ndv.2
      rw [List.nodup_append] at ndq
      have hqv : q ∉ v := fun hx => ndq.2.2 q hx q List.mem_cons_self rfl
      have hqb := hbv q (List.mem_append_right _ List.mem_cons_self)
      have h' : IsRow (u ++ q :: v) n := by
        refine ⟨by rw [List.length_append, List.length_cons]; omega, ?_, ?_⟩
        · rw [List.nodup_append]
          refine ⟨ndu, List.nodup_cons.mpr ⟨hqv, ndq.1⟩, fun a ha b hb => ?_⟩
          refine huv a ha b (List.mem_cons_of_mem _ ?_)
          rcases List.mem_cons.mp hb with rfl | hb
          · exact List.mem_append_right _ List.mem_cons_self
          · exact List.mem_append_left _ hb
        · intro x hx
          rcases List.mem_append.mp hx with hx | hx
          · exact hbu x hx
          · rcases List.mem_cons.mp hx with rfl | hx
            · exact hqb
            · exact hbv x (List.mem_append_left _ hx)
      have hq : nx (u ++ ((n : Int) + 1) :: (v ++ [q])) ((n : Int) + 1) = q := by
        rw [nx_append (by omega), if_neg (by omega), if_neg (by omega), List.getD_eq_getElem?_getD, List.getElem?_append_right (by omega)]
        rw [show ((n : Int) + 1 - 1).toNat - u.length - 1 - v.length = 0 by omega]
        rfl
      have hrel : ∀ b : Int, 1 ≤ b → b ≤ n → nx (u ++ q :: v) b = if nx (u ++ ((n : Int) + 1) :: (v ++ [q])) b = (n : Int) + 1 then nx (u ++ ((n : Int) + 1) :: (v ++ [q])) ((n : Int) + 1) else nx (u ++ ((n : Int) + 1) :: (v ++ [q])) b := by
        intro b h1 h2
        rw [hq]
        have hb := nx_mem h' h1 h2
        rw [nx_append h1] at hb ⊢
        rw [nx_append h1]
        by_cases hc : (b - 1).toNat < u.length
        · rw [if_pos hc] at hb ⊢
          rw [if_pos hc, if_neg (by omega)]
        · rw [if_neg hc] at hb ⊢
          rw [if_neg hc]
          by_cases he : (b - 1).toNat = u.length
          · rw [if_pos he, if_pos he, if_pos rfl]
          · rw [if_neg he] at hb ⊢
            rw [if_neg he]
            have e : (v ++ [q]).getD ((b - 1).toNat - u.length - 1) 0 = v.getD ((b - 1).toNat - u.length - 1) 0 := by
              rw [List.getD_eq_getElem?_getD, List.getElem?_append_left (by omega), List.getD_eq_getElem?_getD]
            rw [e, if_neg (by omega)]
      have hc := out_cyc h h' hrel
      rw [hq, if_neg (by omega)] at hc
      have ih := parity_eq h'
      have hs := inv_swap (a := (n : Int) + 1) (b := q) u v [] (by omega) (fun hx => ndv.1 (List.mem_append_left _ hx)) hqv
      have hi : inv (u ++ q :: (v ++ [(n : Int) + 1])) = inv (u ++ q :: v) := by
        have key : ∀ l : List Int, (∀ x ∈ l, x ≤ (n : Int)) → inv (l ++ [(n : Int) + 1]) = inv l := by
          intro l
          induction l with
          | nil => intro _; rfl
          | cons x l ihl =>
            intro hx
            rw [List.cons_append, inv_cons, inv_cons, ihl fun y hy => hx y (List.mem_cons_of_mem _ hy), cnt_append, cnt_cons, if_neg (by have := hx x List.mem_cons_self; omega)]
            rfl
        have := key (u ++ q :: v) fun x hx => (h'.2.2 x hx).2
        rw [← this]
        simp
      rw [hi] at hs
      rw [hc]
      omega
end Kb

set_option Elab.async false
set_option linter.all false
set_option maxRecDepth 100000
set_option maxHeartbeats 4000000
namespace Kb
open PySem PySem.Spec PyProof.Rows L2

/-! ### data of tuples -/
inductive Dat where | int (i : Int) | bl (b : Bool) | str (s : Str) | non | tup (ds : List Dat)
mutual
def Dat.size : Dat → Nat
  | .tup ds => 1 + Dat.sizes ds
  | _ => 1
def Dat.sizes : List Dat → Nat
  | [] => 0
  | d :: ds => d.size + Dat.sizes ds
end
theorem Dat.size_pos : ∀ d : Dat, 0 < d.size
  | .int _ => by simp [Dat.size]
  | .bl _ => by simp [Dat.size]
  | .str _ => by simp [Dat.size]
  | .non => by simp [Dat.size]
  | .tup _ => by simp [Dat.size]; omega
mutual
inductive Rp (K : PySem.W.Frag) (H : Hp) : V → Dat → Prop
  | int (i : Int) : Rp K H (.int i) (.int i)
  | bl (b : Bool) : Rp K H (.bl b) (.bl b)
  | str (s : Str) : Rp K H (.str s) (.str s)
  | non : Rp K H .non .non
  | tup {a : Addr} {xs : List V} {ds : List Dat} : SqT K H a xs → RpL K H xs ds → Rp K H (.ref a) (.tup ds)
inductive RpL (K : PySem.W.Frag) (H : Hp) : List V → List Dat → Prop
  | nil : RpL K H [] []
  | cons {v : V} {vs : List V} {d : Dat} {ds : List Dat} : Rp K H v d → RpL K H vs ds → RpL K H (v :: vs) (d :: ds)
end
section
variable {K : PySem.W.Frag} {H H' : Hp} {l : Addr} {ys : List V}
/-- tuples stay -/
def TK (K : PySem.W.Frag) (H H' : Hp) : Prop := ∀ a xs, SqT K H a xs → SqT K H' a xs
theorem tk_same (s : Same H H') : TK K H H' := fun _ _ h => sqT_same s h
theorem tk_but (b : But l H H') (hl : H l = some (.lst ys)) : TK K H H' := fun _ _ h => sqT_but b hl h
mutual
theorem rp_keep (k : TK K H H') : ∀ {v : V} {d : Dat}, Rp K H v d → Rp K H' v d
  | _, _, .int i => .int i
  | _, _, .bl b => .bl b
  | _, _, .str s => .str s
  | _, _, .non => .non
  | _, _, .tup h hr => .tup (k _ _ h) (rpL_keep k hr)
theorem rpL_keep (k : TK K H H') : ∀ {vs : List V} {ds : List Dat}, RpL K H vs ds → RpL K H' vs ds
  | _, _, .nil => .nil
  | _, _, .cons h hr => .cons (rp_keep k h) (rpL_keep k hr)
end
theorem rp_same {v : V} {d : Dat} (s : Same H H') (h : Rp K H v d) : Rp K H' v d := rp_keep (tk_same s) h
theorem rp_but {v : V} {d : Dat} (b : But l H H') (hl : H l = some (.lst ys)) (h : Rp K H v d) : Rp K H' v d := rp_keep (tk_but b hl) h
theorem rpL_length : ∀ {vs : List V} {ds : List Dat}, RpL K H vs ds → vs.length = ds.length
  | _, _, .nil => rfl
  | _, _, .cons _ hr => by simp [rpL_length hr]
theorem rpL_get : ∀ {vs : List V} {ds : List Dat} {i : Nat} {d : Dat}, RpL K H vs ds → ds[i]? = some d → ∃ v, vs[i]? = some v ∧ Rp K H v d
  | _, _, _, _, .nil, e => by simp at e
  | _, _, 0, _, .cons h _, e => by simp at e; subst e; exact ⟨_, rfl, h⟩
  | _, _, i + 1, _, .cons _ hr, e => by
    obtain ⟨v, h1, h2⟩ := rpL_get (i := i) hr (by simpa using e)
    exact ⟨v, by simpa using h1, h2⟩
theorem rpL_ints (ns : List Int) : RpL K H (ns.map V.int) (ns.map Dat.int) := by
  induction ns with
  | nil => exact .nil
  | cons n ns ih => exact .cons (.int n) ih
theorem rp_ints {a : Addr} {ns : List Int} (h : SqT K H a (ns.map V.int)) : Rp K H (.ref a) (.tup (ns.map Dat.int)) := .tup h (rpL_ints ns)
end
/-! ### isinstance -/
section
variable {K : PySem.W.Frag} {H : Hp} {Q : VK}
theorem r_isiT {a : Addr} {xs : List V} {b : Bool} {T : String} (h : SqT K H a xs) (hb : kitB "tuple" T = some b) (q : Q (.bl b) H) : rIsi K [.ref a, .ty T] H Q := by
  refine ⟨.ref a, .ty T, .type "tuple", .type T, b, rfl, .ty T, ?_, kit_ty hb, q⟩
  rcases h with (h | ⟨o, h⟩) | h
  · exact .base (.tup h)
  · exact .fTuple h
  · obtain ⟨o, its, n, h1, h2, _⟩ := h
    exact .kTuple h1 h2
theorem r_isiI {i : Int} {b : Bool} {T : String} (hb : kitB "int" T = some b) (q : Q (.bl b) H) : rIsi K [.int i, .ty T] H Q := ⟨_, _, _, _, b, rfl, .ty T, .base (.int i), kit_ty hb, q⟩
theorem r_isiB {i : Bool} {b : Bool} {T : String} (hb : kitB "bool" T = some b) (q : Q (.bl b) H) : rIsi K [.bl i, .ty T] H Q := ⟨_, _, _, _, b, rfl, .ty T, .base (.bl i), kit_ty hb, q⟩
theorem r_isiS {i : Str} {b : Bool} {T : String} (hb : kitB "str" T = some b) (q : Q (.bl b) H) : rIsi K [.str i, .ty T] H Q := ⟨_, _, _, _, b, rfl, .ty T, .base (.str i), kit_ty hb, q⟩
theorem r_isiN {b : Bool} {T : String} (hb : kitB "NoneType" T = some b) (q : Q (.bl b) H) : rIsi K [.non, .ty T] H Q := ⟨_, _, _, _, b, rfl, .ty T, .base .non, kit_ty hb, q⟩
end

/-! the tactics: rd walks a reading; tk closes a fact about a heap from those ahead of it -/
local macro_rules | `(tactic| walk_at "tk") => `(tactic| first
  | assumption
  | ((with_reducible refine' sqT_of ?k); (case k => assumption))
  | ((with_reducible refine' sqT_ofD ?k); (case k => assumption))
  | ((with_reducible refine' noD_of ?k); (case k => assumption))
  | ((with_reducible refine' noD_same ?s ?k); (case s => assumption); (case k => walk_at "tk"))
  | ((with_reducible refine' sqL_of ?k); (case k => assumption))
  | ((with_reducible refine' sqT_same ?s ?k); (case s => assumption); (case k => walk_at "tk"))
  | ((with_reducible refine' sqL_same ?s ?k); (case s => assumption); (case k => walk_at "tk"))
  | ((with_reducible refine' sqT_but ?s ?t ?k); (case s => assumption); (case t => walk_at "tk"); (case k => walk_at "tk"))
  | ((with_reducible refine' sqL_but ?s ?t ?k); (case s => assumption); (case t => walk_at "ne"); (case k => walk_at "tk"))
  | ((with_reducible refine' sqL_of ?k); (case k => walk_at "tk"))
  | ((with_reducible refine' sqT_of ?k); (case k => walk_at "tk"))
  | ((with_reducible refine' at_same ?s ?k); (case s => assumption); (case k => walk_at "tk"))
  | ((with_reducible refine' at_but ?s ?t ?k); (case s => assumption); (case t => walk_at "ne"); (case k => walk_at "tk")))
local macro_rules | `(tactic| walk_at "ne") => `(tactic| first
  | assumption
  | (refine Ne.symm ?_; assumption)
  | exact ne_of_none (by assumption) (by assumption)
  | exact (ne_of_none (by assumption) (by assumption)).symm)
local macro_rules | `(tactic| walk_at "side") => `(tactic| first
  | assumption
  | omega
  | (simp only [sizeLine_eq, List.length_cons, List.length_nil, List.length_map]; omega)
  | (show _ ≤ sizeLine; decide))
local macro_rules | `(tactic| walk_at "kit") => `(tactic| first
  | (show kitB _ _ = some true; decide +kernel)
  | (show kitB _ _ = some false; decide +kernel))
local macro_rules | `(tactic| walk_at "rng") => `(tactic| first
  | (refine ⟨by omega, by omega, by omega, by omega⟩)
  | (refine ⟨by omega, by omega⟩)
  | ((simp only [List.length_map]); (refine ⟨by omega, by omega, by omega, by omega⟩))
  | ((simp only [List.length_map]); (refine ⟨by omega, by omega⟩)))
local macro_rules | `(tactic| walk_at "rd1") => `(tactic| first
  | with_reducible refine r_seq ?_
  | ((with_reducible refine' r_var ?k0 ?_); (case k0 => rfl))
  | with_reducible refine r_op ?_
  | with_reducible refine r_c ?_
  | with_reducible refine r_asg ?_
  | with_reducible refine r_name ?_
  | with_reducible refine r_cons ?_
  | with_reducible refine r_nil ?_
  | with_reducible refine r_CB ?_
  | with_reducible refine r_if ?_
  | with_reducible refine r_test ?_
  | with_reducible refine r_k ?_
  | with_reducible refine r_T ?_
  | with_reducible refine r_F ?_
  | with_reducible refine r_nT ?_
  | with_reducible refine r_nF ?_
  | with_reducible refine r_ret ?_
  | with_reducible refine r_drop ?_
  | with_reducible refine r_next ?_
  | with_reducible refine r_call ?_
  | with_reducible refine r_addI ?_
  | with_reducible refine r_subI ?_
  | with_reducible refine r_ltI ?_
  | with_reducible refine r_gtI ?_
  | with_reducible refine r_leI ?_
  | with_reducible refine r_geI ?_
  | with_reducible refine r_eqI ?_
  | with_reducible refine r_neI ?_
  | with_reducible refine r_int ?_
  | with_reducible refine r_abs ?_
  | with_reducible refine r_not ?_
  | with_reducible refine r_and ?_
  | with_reducible refine r_or ?_
  | with_reducible refine r_tru ?_
  | with_reducible refine r_truB ?_
  | with_reducible refine r_lst ?_
  | with_reducible refine r_tup ?_
  | with_reducible refine r_BM ?_
  | with_reducible refine r_BM0 ?_
  | with_reducible refine r_tyS ?_
  | with_reducible refine r_gsub ?_
  | with_reducible refine r_then ?_
  | with_reducible refine r_lstRg ?_
  | with_reducible refine r_tupRg ?_
  | with_reducible refine r_rg2 ?_
  | with_reducible refine r_rg1 ?_
  | with_reducible refine r_ii ?_
  | with_reducible refine r_i ?_
  | with_reducible refine r_ipI ?_
  | with_reducible refine r_un ?_
  | with_reducible refine r_neg ?_
  | with_reducible refine r_isN ?_
  | with_reducible refine r_notN ?_
  | with_reducible refine r_notV ?_
  | with_reducible refine r_pnot ?_
  | with_reducible refine r_pif ?_
  | with_reducible refine r_andV ?_
  | with_reducible refine r_orV ?_
  | with_reducible refine r_ifE ?_
  | with_reducible refine r_chain ?_
  | with_reducible refine r_sl ?_
  | with_reducible refine r_noPart ?_
  | with_reducible refine r_part ?_
  | with_reducible refine r_brk ?_
  | with_reducible refine r_cont ?_
  | with_reducible refine r_retN ?_
  | with_reducible refine r_truI ?_
  | with_reducible refine r_B ?_
  | with_reducible refine r_for ?_
  | with_reducible refine r_rng1 ?_
  | with_reducible refine r_rng2 ?_
  | with_reducible refine r_rng3 ?_
  | with_reducible refine r_body ?_
  | with_reducible refine r_lc ?_
  | with_reducible refine r_yes ?_
  | ((with_reducible refine' r_mod ?k0 ?_); (case k0 => walk_at "side"))
  | ((with_reducible refine' r_mulI ?k0 ?_); (case k0 => first | exact Or.inl ⟨by omega, by omega⟩ | exact Or.inr ⟨by omega, by omega⟩))
  | ((with_reducible refine' r_lenL ?k0 ?_); (case k0 => walk_at "tk"))
  | ((with_reducible refine' r_lenT ?k0 ?_); (case k0 => walk_at "tk"))
  | ((with_reducible refine' r_truL ?k0 ?_); (case k0 => walk_at "tk"))
  | ((with_reducible refine' r_truT ?k0 ?_); (case k0 => walk_at "tk"))
  | ((with_reducible refine' r_ixL ?k0 ?k1 ?_); (case k0 => walk_at "tk"); (case k1 => first | assumption | rfl))
  | ((with_reducible refine' r_ixT ?k0 ?k1 ?_); (case k0 => walk_at "tk"); (case k1 => first | assumption | rfl))
  | ((with_reducible refine' r_new ?k0 ?_); (case k0 => walk_at "side"))
  | ((with_reducible refine' r_tyL ?k0 ?_); (case k0 => walk_at "tk"))
  | ((with_reducible refine' r_append ?k0 ?k1 ?_); (case k0 => walk_at "tk"); (case k1 => walk_at "side"))
  | ((with_reducible refine' r_setL ?k0 ?k1 ?_); (case k0 => walk_at "tk"); (case k1 => first | assumption | rfl))
  | ((with_reducible refine' r_kTupL ?k0 ?_); (case k0 => walk_at "tk"))
  | ((with_reducible refine' r_kTupT ?k0 ?_); (case k0 => walk_at "tk"))
  | ((with_reducible refine' r_listL ?k0 ?_); (case k0 => walk_at "tk"))
  | ((with_reducible refine' r_listT ?k0 ?_); (case k0 => walk_at "tk"))
  | ((with_reducible refine' r_aug ?k0 ?_); (case k0 => rfl))
  | ((with_reducible refine' r_lenS ?k0 ?_); (case k0 => walk_at "side"))
  | ((with_reducible refine' r_pop ?k0 ?_); (case k0 => walk_at "tk"))
  | ((with_reducible refine' r_pr1 ?k0 ?_); (case k0 => walk_at "rng"))
  | ((with_reducible refine' r_pr2 ?k0 ?_); (case k0 => walk_at "rng"))
  | ((with_reducible refine' r_pr3d ?k0 ?_); (case k0 => walk_at "rng"))
  | ((with_reducible refine' r_isiI ?k0 ?_); (case k0 => walk_at "kit"))
  | ((with_reducible refine' r_isiB ?k0 ?_); (case k0 => walk_at "kit"))
  | ((with_reducible refine' r_isiS ?k0 ?_); (case k0 => walk_at "kit"))
  | ((with_reducible refine' r_isiN ?k0 ?_); (case k0 => walk_at "kit"))
  | ((with_reducible refine' r_isiT ?k0 ?k1 ?_); (case k0 => walk_at "tk"); (case k1 => walk_at "kit"))
  | ((with_reducible refine r_seqT ?_); (repeat (walk_at "rd1")); ((with_reducible refine' r_pseqT ?k0 ?_); (case k0 => walk_at "tk")))
  | ((with_reducible refine r_seqL ?_); (repeat (walk_at "rd1")); ((with_reducible refine' r_pseqL ?k0 ?_); (case k0 => walk_at "tk")))
  | ((with_reducible refine r_seqS ?_); (repeat (walk_at "rd1")); (with_reducible refine r_pseqS ?_)))
local macro_rules | `(tactic| walk_at "rd") => `(tactic| ((repeat (walk_at "rd1")); (try dsimp only)))

/-! ### _law_same: it says True of two values of one datum -/
def sp_law_same (K : PySem.W.Frag) : Sp := fun vs H Q _ => ∃ (x y : V) (d : Dat), vs = [x, y] ∧ Rp K H x d ∧ Rp K H y d ∧ d.size ≤ 1000000 ∧ ∀ H', Same H H' → Q (.bl true) H'
abbrev N_law_same : List Str := ["got", "due", "stack", "pair", "k"]
def t_law_same (K : PySem.W.Frag) : TS :=
  tSeq (tAsg ((tLst (tCons ((tLst (tCons (tVar 0) (tCons (tVar 1) tNil)))) tNil))) (gName 2))
  (tSeq (tWhile ((tTru K (tVar 2))) (tSeq (tAsg ((tBM0 K "list" rPop (tVar 2))) (gName 3))
  ((tIfS ((tTru K ((tCB (rIsi K) (tCons ((tOp (rIx K) (tVar 3) ((tC (.int 1))))) (tCons ((tC (.ty "tuple"))) tNil)))))) (tSeq (tIfS ((tOr ((tNot ((tTru K ((tCB (rIsi K) (tCons ((tOp (rIx K) (tVar 3) ((tC (.int 0))))) (tCons ((tC (.ty "tuple"))) tNil)))))))) ((tTest (tOp (rNeU K) ((tCB (rLenU K) (tCons ((tOp (rIx K) (tVar 3) ((tC (.int 0))))) tNil))) ((tCB (rLenU K) (tCons ((tOp (rIx K) (tVar 3) ((tC (.int 1))))) tNil)))))))) ((tRet ((tC (.bl false))))) (tNext))
  ((tFor (iRng1 (tCons ((tCB (rLenU K) (tCons ((tOp (rIx K) (tVar 3) ((tC (.int 1))))) tNil))) tNil)) (gName 4) ((tDrop ((tBM K "list" rAppend (tVar 2) (tCons ((tLst (tCons ((tOp (rIx K) ((tOp (rIx K) (tVar 3) ((tC (.int 0))))) (tVar 4))) (tCons ((tOp (rIx K) ((tOp (rIx K) (tVar 3) ((tC (.int 1))))) (tVar 4))) tNil)))) tNil)))))))) ((tIfS ((tTru K ((tCB (rIsi K) (tCons ((tOp (rIx K) (tVar 3) ((tC (.int 1))))) (tCons ((tC (.ty "bool"))) tNil)))))) ((tIfS ((tOr ((tNot ((tTru K ((tCB (rIsi K) (tCons ((tOp (rIx K) (tVar 3) ((tC (.int 0))))) (tCons ((tC (.ty "bool"))) tNil)))))))) ((tTest (tOp (rNeU K) ((tOp (rIx K) (tVar 3) ((tC (.int 0))))) ((tOp (rIx K) (tVar 3) ((tC (.int 1)))))))))) ((tRet ((tC (.bl false))))) (tNext))) ((tIfS ((tTru K ((tCB (rIsi K) (tCons ((tOp (rIx K) (tVar 3) ((tC (.int 1))))) (tCons ((tC (.ty "int"))) tNil)))))) ((tIfS ((tOr ((tNot ((tTru K ((tCB (rIsi K) (tCons ((tOp (rIx K) (tVar 3) ((tC (.int 0))))) (tCons ((tC (.ty "int"))) tNil)))))))) ((tOr ((tTru K ((tCB (rIsi K) (tCons ((tOp (rIx K) (tVar 3) ((tC (.int 0))))) (tCons ((tC (.ty "bool"))) tNil)))))) ((tTest (tOp (rNeU K) ((tOp (rIx K) (tVar 3) ((tC (.int 0))))) ((tOp (rIx K) (tVar 3) ((tC (.int 1)))))))))))) ((tRet ((tC (.bl false))))) (tNext))) ((tIfS ((tTru K ((tCB (rIsi K) (tCons ((tOp (rIx K) (tVar 3) ((tC (.int 1))))) (tCons ((tC (.ty "str"))) tNil)))))) ((tIfS ((tOr ((tNot ((tTru K ((tCB (rIsi K) (tCons ((tOp (rIx K) (tVar 3) ((tC (.int 0))))) (tCons ((tC (.ty "str"))) tNil)))))))) ((tTest (tOp (rNeU K) ((tOp (rIx K) (tVar 3) ((tC (.int 0))))) ((tOp (rIx K) (tVar 3) ((tC (.int 1)))))))))) ((tRet ((tC (.bl false))))) (tNext))) ((tIfS ((tTest (tOp rNotNU ((tOp (rIx K) (tVar 3) ((tC (.int 0))))) ((tC .non))))) ((tRet ((tC (.bl false))))) (tNext)))))))))))))
  ((tRet ((tC (.bl true))))))


theorem len_law_same {K : PySem.W.Frag} {vs : List V} {H : Hp} {Q : VK} {E : XK} (h : sp_law_same K vs H Q E) : vs.length = 2 := by
  obtain ⟨x, y, d, rfl, _⟩ := h; rfl
theorem r_neSame {K : PySem.W.Frag} {x : V} {H : Hp} {Q : VK} (h : scal x x = true) (q : Q (.bl false) H) : rNeU K x x H Q := .inl ⟨h, by rw [decide_eq_true rfl]; exact q⟩
structure Item where
  q : Addr
  x : V
  y : V
  d : Dat
def Items (K : PySem.W.Frag) (H : Hp) (s : Addr) (its : List Item) : Prop := ∀ it ∈ its, it.q ≠ s ∧ H it.q = some (.lst [it.x, it.y]) ∧ Rp K H it.x it.d ∧ Rp K H it.y it.d
theorem Items.same {K : PySem.W.Frag} {H H' : Hp} {s : Addr} {its : List Item} (h : Items K H s its) (e : Same H H') : Items K H' s its := fun it hi =>
  let ⟨a, b, c, d⟩ := h it hi
  ⟨a, e _ _ b, rp_same e c, rp_same e d⟩
theorem Items.but {K : PySem.W.Frag} {H H' : Hp} {s : Addr} {its : List Item} {ys : List V} (h : Items K H s its) (e : But s H H') (hs : H s = some (.lst ys)) : Items K H' s its := fun it hi =>
  let ⟨a, b, c, d⟩ := h it hi
  ⟨a, e _ _ a b, rp_but e hs c, rp_but e hs d⟩
def total (its : List Item) : Nat := (its.map fun it => it.d.size).sum
def refs (its : List Item) : List V := its.map fun it => .ref it.q
theorem total_append (a b : List Item) : total (a ++ b) = total a + total b := by simp [total]
theorem refs_append (a b : List Item) : refs (a ++ b) = refs a ++ refs b := by simp [refs]
theorem length_le_total : ∀ its : List Item, its.length ≤ total its
  | [] => Nat.le_refl _
  | it :: r => by
    have h1 := length_le_total r
    have h2 := it.d.size_pos
    show r.length + 1 ≤ total ([it] ++ r)
    rw [total_append]
    simp [total] at *
    omega
theorem sizes_take : ∀ (ds : List Dat) (i : Nat) (d : Dat), ds[i]? = some d → Dat.sizes (ds.take (i + 1)) = Dat.sizes (ds.take i) + d.size
  | [], _, _, h => by simp at h
  | e :: r, 0, d, h => by simp at h; subst h; simp [Dat.sizes]
  | e :: r, i + 1, d, h => by
    have := sizes_take r i d (by simpa using h)
    simp only [List.take_succ_cons, Dat.sizes, this]
    omega
theorem sizes_take_le : ∀ (ds : List Dat) (i : Nat), Dat.sizes (ds.take i) ≤ Dat.sizes ds
  | [], i => by simp [Dat.sizes]
  | e :: r, 0 => by simp [Dat.sizes]
  | e :: r, i + 1 => by
    have := sizes_take_le r i
    simp only [List.take_succ_cons, Dat.sizes]
    omega
theorem len_sizes : ∀ (ds : List Dat), ds.length ≤ Dat.sizes ds
  | [] => by simp [Dat.sizes]
  | e :: r => by
    have := len_sizes r
    have := e.size_pos
    simp only [List.length_cons, Dat.sizes]
    omega
theorem pure_law_same {K : PySem.W.Frag} {vs : List V} {H : Hp} {Q : VK} {E : XK} (h : sp_law_same K vs H Q E) : t_law_same K (En Q) (start N_law_same vs) H := by
  obtain ⟨x0, y0, d0, rfl, hx0, hy0, hd0, q⟩ := h
  unfold t_law_same
  walk_at "rd"
  intro p1 H1 np1 s1 e1
  walk_at "rd"
  intro st H2 nst s2 e2
  walk_at "rd"
  have hne : p1 ≠ st := ne_of_none e1 nst
  refine r_while (fun m σ H' => ∃ (its : List Item) (z3 z4 : Option V), σ = [some x0, some y0, some (.ref st), z3, z4] ∧ Same H H' ∧ H st = none ∧ H' st = some (.lst (refs its)) ∧ Items K H' st its ∧ m = total its ∧ m ≤ 1000000) d0.size
    ⟨[⟨p1, x0, y0, d0⟩], none, none, rfl, s1.trans s2, s1.free nst, e2, ?_, ?_, hd0⟩ (fun m σ H' hW => ?_)
  · intro it hi
    rw [List.mem_singleton] at hi
    subst hi
    exact ⟨hne, s2 _ _ e1, rp_same (s1.trans s2) hx0, rp_same (s1.trans s2) hy0⟩
  · simp [total]
  obtain ⟨its, z3, z4, rfl, s3, nst0, e3, hI, rfl, hm⟩ := hW
  walk_at "rd"
  rcases List.eq_nil_or_concat its with rfl | ⟨rest, it, rfl⟩
  · -- the stack is empty
    refine r_F ?_
    walk_at "rd"
    exact q _ s3
  · rw [List.concat_eq_append] at *
    have hb : (!(refs (rest ++ [it])).isEmpty) = true := by rw [refs_append]; simp [refs]
    rw [if_pos hb]
    have e3' : H' st = some (.lst (refs rest ++ [.ref it.q])) := by rw [e3, refs_append]; rfl
    obtain ⟨hq, eq, hx, hy⟩ := hI it (by simp)
    have hR : Items K H' st rest := fun i hi => hI i (by simp [hi])
    obtain ⟨q0, x, y, d⟩ := it
    dsimp only at hq eq hx hy e3'
    have ht : total (rest ++ [⟨q0, x, y, d⟩]) = total rest + d.size := by rw [total_append]; simp [total]
    rw [ht] at hm ⊢
    walk_at "rd"
    intro H4 b4 e4
    have eq4 : H4 q0 = some (.lst [x, y]) := b4 _ _ hq eq
    have hx4 := rp_but b4 e3' hx
    have hy4 := rp_but b4 e3' hy
    have hR4 := hR.but b4 e3'
    have s4 : Same H H4 := same_but s3 b4 nst0
    have dp := d.size_pos
    have fin : ∃ m', m' < total rest + d.size ∧ ∃ (its : List Item) (y3 y4 : Option V), ([some x0, some y0, some (.ref st), some (.ref q0), z4] : L2.St) = [some x0, some y0, some (.ref st), y3, y4] ∧ Same H H4 ∧ H st = none ∧ H4 st = some (.lst (refs its)) ∧ Items K H4 st its ∧ m' = total its ∧ m' ≤ 1000000 :=
      ⟨total rest, by omega, rest, _, _, rfl, s4, nst0, e4, hR4, rfl, by omega⟩
    walk_at "rd"
    cases hy4 with
    | @tup b ys ds hbt hrb =>
      cases hx4 with
      | @tup a xs _ ha hra =>
        have lx := rpL_length hra
        have ly := rpL_length hrb
        walk_at "rd"
        rw [lx, ly]
        refine r_iteNP rfl ?_
        walk_at "rd"
        have hl := len_sizes ds
        have hs : (Dat.tup ds).size = 1 + Dat.sizes ds := by simp [Dat.size]
        refine r_pr1 ⟨by omega, by omega⟩ ?_
        rw [Int.toNat_natCast, ly]
        refine r_forRange0 (fun i σ' H' => ∃ (its : List Item) (z : Option V), σ' = [some x0, some y0, some (.ref st), some (.ref q0), z] ∧ Same H H' ∧ H' st = some (.lst (refs its)) ∧ Items K H' st its ∧ total its = total rest + Dat.sizes (ds.take i) ∧
          H' q0 = some (.lst [.ref a, .ref b]) ∧ SqT K H' a xs ∧ SqT K H' b ys ∧ RpL K H' xs ds ∧ RpL K H' ys ds)
          ⟨rest, _, rfl, s4, e4, hR4, by simp [Dat.sizes], eq4, ha, hbt, hra, hrb⟩ (fun i σ' H5 hi hP => ?_) (fun σ' H5 hP => ?_)
        · obtain ⟨its, z, rfl, s5, e5, hI5, ht5, eq5, ha5, hb5, hra5, hrb5⟩ := hP
          have hd : ds[i]? = some ds[i] := List.getElem?_eq_getElem hi
          obtain ⟨vx, gx, rx⟩ := rpL_get hra5 hd
          obtain ⟨vy, gy, ry⟩ := rpL_get hrb5 hd
          have gx' := atI_nat gx
          have gy' := atI_nat gy
          walk_at "rd"
          intro p H6 np s6 e6
          have hpq : p ≠ st := (ne_of_none e5 np).symm
          have e56 := s6 _ _ e5
          have hle : Dat.sizes (ds.take (i + 1)) ≤ Dat.sizes ds := sizes_take_le ds _
          have h1 := sizes_take ds i _ hd
          have h2 := (ds[i]).size_pos
          have hz : (refs its).length ≤ total its := by rw [show (refs its).length = its.length by simp [refs]]; exact length_le_total its
          walk_at "rd"
          intro H7 b7 e7
          walk_at "rd"
          refine ⟨its ++ [⟨p, vx, vy, ds[i]⟩], _, rfl, same_but (s5.trans s6) b7 nst0, by rw [e7, refs_append]; rfl, ?_, ?_, b7 _ _ hq (s6 _ _ eq5), sqT_but b7 e56 (sqT_same s6 ha5), sqT_but b7 e56 (sqT_same s6 hb5), rpL_keep (tk_but b7 e56) (rpL_keep (tk_same s6) hra5), rpL_keep (tk_but b7 e56) (rpL_keep (tk_same s6) hrb5)⟩
          · intro it hit
            rcases List.mem_append.mp hit with hit | hit
            · exact ((hI5.same s6).but b7 e56) it hit
            · rw [List.mem_singleton] at hit
              subst hit
              exact ⟨hpq, b7 _ _ hpq e6, rp_but b7 e56 (rp_same s6 rx), rp_but b7 e56 (rp_same s6 ry)⟩
          · rw [total_append, ht5, h1]
            simp [total]
            omega
        · obtain ⟨its, z, rfl, s5, e5, hI5, ht5, eq5, ha5, hb5, hra5, hrb5⟩ := hP
          rw [List.take_length] at ht5
          exact ⟨total its, by omega, its, _, _, rfl, s5, nst0, e5, hI5, rfl, by omega⟩
    | bl c =>
      cases hx4 with
      | bl _ =>
        walk_at "rd"
        refine r_neSame rfl ?_
        walk_at "rd"
        exact fin
    | int c =>
      cases hx4 with
      | int _ =>
        walk_at "rd"
        refine r_iteNP rfl ?_
        walk_at "rd"
        exact fin
    | str c =>
      cases hx4 with
      | str _ =>
        walk_at "rd"
        refine r_neSame rfl ?_
        walk_at "rd"
        exact fin
    | non =>
      cases hx4 with
      | non =>
        walk_at "rd"
        refine r_iteNP rfl ?_
        walk_at "rd"
        exact fin
end Kb

set_option Elab.async false
set_option linter.all false
set_option maxRecDepth 100000
set_option maxHeartbeats 4000000
namespace Kb
open PySem PySem.Spec PyProof.Rows L2
/-! the tactics: rd walks a reading; tk closes a fact about a heap from those ahead of it -/
local macro_rules | `(tactic| walk_at "tk") => `(tactic| first
  | assumption
  | ((with_reducible refine' sqT_of ?k); (case k => assumption))
  | ((with_reducible refine' sqT_ofD ?k); (case k => assumption))
  | ((with_reducible refine' noD_of ?k); (case k => assumption))
  | ((with_reducible refine' noD_same ?s ?k); (case s => assumption); (case k => walk_at "tk"))
  | ((with_reducible refine' sqL_of ?k); (case k => assumption))
  | ((with_reducible refine' sqT_same ?s ?k); (case s => assumption); (case k => walk_at "tk"))
  | ((with_reducible refine' sqL_same ?s ?k); (case s => assumption); (case k => walk_at "tk"))
  | ((with_reducible refine' sqT_but ?s ?t ?k); (case s => assumption); (case t => walk_at "tk"); (case k => walk_at "tk"))
  | ((with_reducible refine' sqL_but ?s ?t ?k); (case s => assumption); (case t => walk_at "ne"); (case k => walk_at "tk"))
  | ((with_reducible refine' sqL_of ?k); (case k => walk_at "tk"))
  | ((with_reducible refine' sqT_of ?k); (case k => walk_at "tk"))
  | ((with_reducible refine' at_same ?s ?k); (case s => assumption); (case k => walk_at "tk"))
  | ((with_reducible refine' at_but ?s ?t ?k); (case s => assumption); (case t => walk_at "ne"); (case k => walk_at "tk")))
local macro_rules | `(tactic| walk_at "ne") => `(tactic| first
  | assumption
  | (refine Ne.symm ?_; assumption)
  | exact ne_of_none (by assumption) (by assumption)
  | exact (ne_of_none (by assumption) (by assumption)).symm)
local macro_rules | `(tactic| walk_at "side") => `(tactic| first
  | assumption
  | omega
  | (simp only [sizeLine_eq, List.length_cons, List.length_nil, List.length_map]; omega)
  | (show _ ≤ sizeLine; decide))
local macro_rules | `(tactic| walk_at "kit") => `(tactic| first
  | (show kitB _ _ = some true; decide +kernel)
  | (show kitB _ _ = some false; decide +kernel))
local macro_rules | `(tactic| walk_at "rng") => `(tactic| first
  | (refine ⟨by omega, by omega, by omega, by omega⟩)
  | (refine ⟨by omega, by omega⟩)
  | ((simp only [List.length_map]); (refine ⟨by omega, by omega, by omega, by omega⟩))
  | ((simp only [List.length_map]); (refine ⟨by omega, by omega⟩)))
local macro_rules | `(tactic| walk_at "rd1") => `(tactic| first
  | with_reducible refine r_seq ?_
  | ((with_reducible refine' r_var ?k0 ?_); (case k0 => rfl))
  | with_reducible refine r_op ?_
  | with_reducible refine r_c ?_
  | with_reducible refine r_asg ?_
  | with_reducible refine r_name ?_
  | with_reducible refine r_cons ?_
  | with_reducible refine r_nil ?_
  | with_reducible refine r_CB ?_
  | with_reducible refine r_if ?_
  | with_reducible refine r_test ?_
  | with_reducible refine r_k ?_
  | with_reducible refine r_T ?_
  | with_reducible refine r_F ?_
  | with_reducible refine r_nT ?_
  | with_reducible refine r_nF ?_
  | with_reducible refine r_ret ?_
  | with_reducible refine r_drop ?_
  | with_reducible refine r_next ?_
  | with_reducible refine r_call ?_
  | with_reducible refine r_addI ?_
  | with_reducible refine r_subI ?_
  | with_reducible refine r_ltI ?_
  | with_reducible refine r_gtI ?_
  | with_reducible refine r_leI ?_
  | with_reducible refine r_geI ?_
  | with_reducible refine r_eqI ?_
  | with_reducible refine r_neI ?_
  | with_reducible refine r_int ?_
  | with_reducible refine r_abs ?_
  | with_reducible refine r_not ?_
  | with_reducible refine r_and ?_
  | with_reducible refine r_or ?_
  | with_reducible refine r_tru ?_
  | with_reducible refine r_truB ?_
  | with_reducible refine r_lst ?_
  | with_reducible refine r_tup ?_
  | with_reducible refine r_BM ?_
  | with_reducible refine r_BM0 ?_
  | with_reducible refine r_tyS ?_
  | with_reducible refine r_gsub ?_
  | with_reducible refine r_then ?_
  | with_reducible refine r_lstRg ?_
  | with_reducible refine r_tupRg ?_
  | with_reducible refine r_rg2 ?_
  | with_reducible refine r_rg1 ?_
  | with_reducible refine r_ii ?_
  | with_reducible refine r_i ?_
  | with_reducible refine r_ipI ?_
  | with_reducible refine r_un ?_
  | with_reducible refine r_neg ?_
  | with_reducible refine r_isN ?_
  | with_reducible refine r_notN ?_
  | with_reducible refine r_notV ?_
  | with_reducible refine r_pnot ?_
  | with_reducible refine r_pif ?_
  | with_reducible refine r_andV ?_
  | with_reducible refine r_orV ?_
  | with_reducible refine r_ifE ?_
  | with_reducible refine r_chain ?_
  | with_reducible refine r_sl ?_
  | with_reducible refine r_noPart ?_
  | with_reducible refine r_part ?_
  | with_reducible refine r_brk ?_
  | with_reducible refine r_cont ?_
  | with_reducible refine r_retN ?_
  | with_reducible refine r_truI ?_
  | with_reducible refine r_B ?_
  | with_reducible refine r_for ?_
  | with_reducible refine r_rng1 ?_
  | with_reducible refine r_rng2 ?_
  | with_reducible refine r_rng3 ?_
  | with_reducible refine r_body ?_
  | with_reducible refine r_lc ?_
  | with_reducible refine r_yes ?_
  | ((with_reducible refine' r_mod ?k0 ?_); (case k0 => walk_at "side"))
  | ((with_reducible refine' r_mulI ?k0 ?_); (case k0 => first | exact Or.inl ⟨by omega, by omega⟩ | exact Or.inr ⟨by omega, by omega⟩))
  | ((with_reducible refine' r_lenL ?k0 ?_); (case k0 => walk_at "tk"))
  | ((with_reducible refine' r_lenT ?k0 ?_); (case k0 => walk_at "tk"))
  | ((with_reducible refine' r_truL ?k0 ?_); (case k0 => walk_at "tk"))
  | ((with_reducible refine' r_truT ?k0 ?_); (case k0 => walk_at "tk"))
  | ((with_reducible refine' r_ixL ?k0 ?k1 ?_); (case k0 => walk_at "tk"); (case k1 => first | assumption | rfl))
  | ((with_reducible refine' r_ixT ?k0 ?k1 ?_); (case k0 => walk_at "tk"); (case k1 => first | assumption | rfl))
  | ((with_reducible refine' r_new ?k0 ?_); (case k0 => walk_at "side"))
  | ((with_reducible refine' r_tyL ?k0 ?_); (case k0 => walk_at "tk"))
  | ((with_reducible refine' r_append ?k0 ?k1 ?_); (case k0 => walk_at "tk"); (case k1 => walk_at "side"))
  | ((with_reducible refine' r_setL ?k0 ?k1 ?_); (case k0 => walk_at "tk"); (case k1 => first | assumption | rfl))
  | ((with_reducible refine' r_kTupL ?k0 ?_); (case k0 => walk_at "tk"))
  | ((with_reducible refine' r_kTupT ?k0 ?_); (case k0 => walk_at "tk"))
  | ((with_reducible refine' r_listL ?k0 ?_); (case k0 => walk_at "tk"))
  | ((with_reducible refine' r_listT ?k0 ?_); (case k0 => walk_at "tk"))
  | ((with_reducible refine' r_aug ?k0 ?_); (case k0 => rfl))
  | ((with_reducible refine' r_lenS ?k0 ?_); (case k0 => walk_at "side"))
  | ((with_reducible refine' r_pop ?k0 ?_); (case k0 => walk_at "tk"))
  | ((with_reducible refine' r_pr1 ?k0 ?_); (case k0 => walk_at "rng"))
  | ((with_reducible refine' r_pr2 ?k0 ?_); (case k0 => walk_at "rng"))
  | ((with_reducible refine' r_pr3d ?k0 ?_); (case k0 => walk_at "rng"))
  | ((with_reducible refine' r_isiI ?k0 ?_); (case k0 => walk_at "kit"))
  | ((with_reducible refine' r_isiB ?k0 ?_); (case k0 => walk_at "kit"))
  | ((with_reducible refine' r_isiS ?k0 ?_); (case k0 => walk_at "kit"))
  | ((with_reducible refine' r_isiN ?k0 ?_); (case k0 => walk_at "kit"))
  | ((with_reducible refine' r_isiT ?k0 ?k1 ?_); (case k0 => walk_at "tk"); (case k1 => walk_at "kit"))
  | ((with_reducible refine r_seqT ?_); (repeat (walk_at "rd1")); ((with_reducible refine' r_pseqT ?k0 ?_); (case k0 => walk_at "tk")))
  | ((with_reducible refine r_seqL ?_); (repeat (walk_at "rd1")); ((with_reducible refine' r_pseqL ?k0 ?_); (case k0 => walk_at "tk")))
  | ((with_reducible refine r_seqS ?_); (repeat (walk_at "rd1")); (with_reducible refine r_pseqS ?_)))
local macro_rules | `(tactic| walk_at "rd") => `(tactic| ((repeat (walk_at "rd1")); (try dsimp only)))


/-! ### comprehensions over ints -/
section
variable {K : PySem.W.Frag} {σ : L2.St} {H : Hp} {te : TE} {tt : TT} {j : Nat} {vs : List Nat} {Q : VK} {a : Addr} {ns : List Int}
theorem filter_take {p : Int → Bool} {f : Int → Int} {i : Nat} {x : Int} (h : ns[i]? = some x) : ((ns.take (i + 1)).filter p).map (fun y => V.int (f y)) = ((ns.take i).filter p).map (fun y => V.int (f y)) ++ (if p x = true then [V.int (f x)] else []) := by
  rw [List.take_add_one, h, List.filter_append, List.map_append]
  congr 1
  show List.map _ (List.filter p [x]) = _
  by_cases hp : p x = true
  · rw [List.filter_cons_of_pos hp, if_pos hp]; rfl
  · rw [List.filter_cons_of_neg hp, if_neg hp]; rfl
theorem r_lcLf (p : Int → Bool) (f : Int → Int) (hx : SqL K H a (ns.map V.int)) (hz : ns.length ≤ 1000000) (hw : ∀ x, wipe ((wipe σ vs).set j (some x)) vs = wipe σ vs)
    (ht : ∀ x H1 (QB : Bool → Hp → Prop), x ∈ ns → Same H H1 → QB (p x) H1 → tt ((wipe σ vs).set j (some (.int x))) H1 QB)
    (he : ∀ x H1 (Q' : VK), x ∈ ns → Same H H1 → p x = true → Q' (.int (f x)) H1 → te ((wipe σ vs).set j (some (.int x))) H1 Q')
    (hd : ∀ q H', H q = none → Same H H' → H' q = some (.lst ((ns.filter p).map fun y => V.int (f y))) → Q (.ref q) H') : PLc (Itl K a) (gName j) tt te vs σ H Q := by
  refine r_lcL (xs := ns.map V.int) (fun D i H' => H D = none ∧ Same H H' ∧ H' D = some (.lst (((ns.take i).filter p).map fun y => V.int (f y)))) hw (fun D H' hD s e => ⟨hD, s, by rw [e]; rfl⟩) (fun D i H' q => sqL_same q.2.1 hx) (fun D i x H' hi q => ?_) (fun D H' hD q => ?_)
  · obtain ⟨hD, s, e⟩ := q
    rw [List.getElem?_map] at hi
    obtain ⟨y, hy, rfl⟩ := Option.map_eq_some_iff.mp hi
    have hm := List.mem_of_getElem? hy
    refine ht y H' _ hm s ?_
    by_cases hp : p y = true
    · rw [hp]
      refine r_T ?_
      refine he y H' _ hm s hp ?_
      refine r_acc e ?_ (fun H5 b5 e5 => ⟨hD, same_but s b5 hD, ?_⟩)
      · rw [List.length_map]
        have h1 := List.length_filter_le p (ns.take i)
        have h2 := List.length_take_le i ns
        have h3 : (ns.take i).length ≤ ns.length := by rw [List.length_take]; omega
        omega
      · rw [e5, filter_take hy, if_pos hp]
    · rw [Bool.eq_false_iff.mpr hp]
      refine r_F ⟨hD, s, ?_⟩
      rw [e, filter_take hy, if_neg hp, List.append_nil]
  · obtain ⟨_, s, e⟩ := q
    rw [List.length_map, List.take_length] at e
    exact hd D H' hD s e
theorem r_lcTf (p : Int → Bool) (f : Int → Int) (hx : SqT K H a (ns.map V.int)) (hz : ns.length ≤ 1000000) (hw : ∀ x, wipe ((wipe σ vs).set j (some x)) vs = wipe σ vs)
    (ht : ∀ x H1 (QB : Bool → Hp → Prop), x ∈ ns → Same H H1 → QB (p x) H1 → tt ((wipe σ vs).set j (some (.int x))) H1 QB)
    (he : ∀ x H1 (Q' : VK), x ∈ ns → Same H H1 → p x = true → Q' (.int (f x)) H1 → te ((wipe σ vs).set j (some (.int x))) H1 Q')
    (hd : ∀ q H', H q = none → Same H H' → H' q = some (.lst ((ns.filter p).map fun y => V.int (f y))) → Q (.ref q) H') : PLc (Itt K a) (gName j) tt te vs σ H Q := by
  refine r_lcT (xs := ns.map V.int) (fun D i H' => H D = none ∧ Same H H' ∧ H' D = some (.lst (((ns.take i).filter p).map fun y => V.int (f y)))) hw (fun D H' hD s e => ⟨hD, s, by rw [e]; rfl⟩) (fun D i H' q => sqT_same q.2.1 hx) (fun D i x H' hi q => ?_) (fun D H' hD q => ?_)
  · obtain ⟨hD, s, e⟩ := q
    rw [List.getElem?_map] at hi
    obtain ⟨y, hy, rfl⟩ := Option.map_eq_some_iff.mp hi
    have hm := List.mem_of_getElem? hy
    refine ht y H' _ hm s ?_
    by_cases hp : p y = true
    · rw [hp]
      refine r_T ?_
      refine he y H' _ hm s hp ?_
      refine r_acc e ?_ (fun H5 b5 e5 => ⟨hD, same_but s b5 hD, ?_⟩)
      · rw [List.length_map]
        have h1 := List.length_filter_le p (ns.take i)
        have h3 : (ns.take i).length ≤ ns.length := by rw [List.length_take]; omega
        omega
      · rw [e5, filter_take hy, if_pos hp]
    · rw [Bool.eq_false_iff.mpr hp]
      refine r_F ⟨hD, s, ?_⟩
      rw [e, filter_take hy, if_neg hp, List.append_nil]
  · obtain ⟨_, s, e⟩ := q
    rw [List.length_map, List.take_length] at e
    exact hd D H' hD s e
end
/-! ### tuples of ints compared -/
theorem eqvAll_ints : ∀ ns ms : List Int, PyData.eqvAll (ns.map PyData.int) (ms.map PyData.int) = decide (ns = ms)
  | [], [] => by simp [PyData.eqvAll]
  | [], _ :: _ => by simp [PyData.eqvAll]
  | _ :: _, [] => by simp [PyData.eqvAll]
  | a :: r, b :: t => by
    simp only [List.map_cons, PyData.eqvAll, PyData.eqv, eqvAll_ints r t]
    by_cases h : a = b <;> by_cases h' : r = t <;> simp [h, h']
theorem shaped_ints (ns : List Int) : SeqAt.shaped (.tuple (ns.map PyData.int)) = true := by
  simp [SeqAt.shaped, PyData.canLay0, PyData.depth, PySem.W.ke_canLayAll0, PySem.W.ke_depthAll]
section
variable {K : PySem.W.Frag} {H : Hp} {Q : VK} {a b : Addr} {ns ms : List Int}
theorem dpAll_ints : ∀ ns : List Int, DpAll K H (ns.map V.int) (ns.map PyData.int)
  | [] => .nil
  | n :: r => .cons (.int n) (dpAll_ints r)
theorem r_neT (h1 : SqT K H a (ns.map V.int)) (h2 : SqT K H b (ms.map V.int)) (q : Q (.bl (!decide (ns = ms))) H) : rNeU K (.ref a) (.ref b) H Q :=
  .inr ⟨_, _, .tup h1 (dpAll_ints ns), .tup h2 (dpAll_ints ms), shaped_ints ns, shaped_ints ms, by
    show Q (.bl (!PyData.eqvAll _ _)) H
    rw [eqvAll_ints]; exact q⟩
theorem r_eqT (h1 : SqT K H a (ns.map V.int)) (h2 : SqT K H b (ms.map V.int)) (q : Q (.bl (decide (ns = ms))) H) : rEqU K (.ref a) (.ref b) H Q :=
  .inr ⟨_, _, .tup h1 (dpAll_ints ns), .tup h2 (dpAll_ints ms), shaped_ints ns, shaped_ints ms, by
    show Q (.bl (PyData.eqvAll _ _)) H
    rw [eqvAll_ints]; exact q⟩
end
/-! ### slices of tuples -/
section
variable {K : PySem.W.Frag} {H : Hp} {Q : VK} {a : Addr} {xs : List V}
theorem cutV_drop (xs : List V) (k : Nat) : cutV xs (some (k : Int)) none = xs.drop k := by
  unfold cutV
  rw [HT.sIx_nat, HT.sIx_none]
  by_cases h : k ≤ xs.length
  · rw [Nat.min_eq_left h, List.take_of_length_le (by rw [List.length_drop]; omega)]
  · rw [Nat.min_eq_right (by omega), List.drop_eq_nil_of_le (by omega : xs.length ≤ k), List.drop_length]; simp
/-- t[k:] of a tuple, k > 0, the tuple not empty: a new tuple -/
theorem r_slDrop {k : Nat} {m : Int} (h : SqT K H a xs) (e : m = (k : Int)) (hk : 0 < k) (hx : 0 < xs.length) (q : ∀ p H', H p = none → Same H H' → H' p = some (.tup (xs.drop k)) → Q (.ref p) H') : rSlU K (.ref a) (some m) none H Q := by
  subst e
  refine .inr (.inl ⟨a, xs, rfl, h, fun z => ?_, fun _ p hp => ?_⟩)
  · rw [HT.sIx_nat] at z
    have := z.1
    omega
  · rw [cutV_drop]
    exact q p _ hp (same_new hp) upd_same
end
/-! ### rows -/
theorem atI_row {r : List Int} {n : Nat} (h : IsRow r n) {b : Int} (h1 : 1 ≤ b) (h2 : b ≤ n) : atI (r.map V.int) (b - 1) = some (.int (r.getD (b - 1).toNat 0)) := by
  have hl : (b - 1).toNat < r.length := by rw [h.1]; omega
  have e : (((b - 1).toNat : Nat) : Int) = b - 1 := by omega
  have h4 := atI_nat (xs := r.map V.int) (j := (b - 1).toNat) (v := .int (r.getD (b - 1).toNat 0)) (by rw [List.getElem?_map, List.getElem?_eq_getElem hl, List.getD_eq_getElem?_getD, List.getElem?_eq_getElem hl]; rfl)
  rw [e] at h4
  exact h4
/-- a promise that gives a row -/
def sp_law_rounds (K : PySem.W.Frag) : Sp := fun vs H Q _ => ∃ n : Nat, vs = [.int (n : Int)] ∧ n ≤ 1000 ∧ ∀ p H', H p = none → Same H H' → SqT K H' p ((roundsR n).map V.int) → NoD H' p → Q (.ref p) H'
def sp_law_times (K : PySem.W.Frag) : Sp := fun vs H Q _ => ∃ (a b : Addr) (x y : List Int) (n : Nat), vs = [.ref a, .ref b] ∧ SqT K H a (x.map V.int) ∧ SqT K H b (y.map V.int) ∧ IsRow x n ∧ IsRow y n ∧ n ≤ 1000 ∧ ∀ p H', H p = none → Same H H' → SqT K H' p ((mulR x y).map V.int) → NoD H' p → Q (.ref p) H'
def sp_law_row_draw (K : PySem.W.Frag) : Sp := fun vs H Q _ => ∃ (p : Addr) (n : Nat), vs = [.ref p, .int (n : Int)] ∧ Pl H p ∧ n ≤ 1000 ∧ ∀ a H' r, H a = none → But p H H' → Pl H' p → SqT K H' a (r.map V.int) → IsRow r n → NoD H' a → Q (.ref a) H'
abbrev N_law_rounds : List Str := ["stage"]
def t_law_rounds (K : PySem.W.Frag) : TS :=
  (tRet ((tThen ((tLstRg (tRg2 ((tC (.int 1))) ((tOp (rAddU K) (tVar 0) ((tC (.int 1)))))))) (kTupD K))))

abbrev N_law_times : List Str := ["first", "second", "bell"]
def t_law_times (K : PySem.W.Frag) : TS :=
  (tRet ((tThen ((tLc ((iSeqU K (tVar 1))) ((gName 2)) (tYes) ((tOp (rIx K) (tVar 0) ((tOp rSubU (tVar 2) ((tC (.int 1))))))) [2])) (kTupD K))))

abbrev N_law_row_draw : List Str := ["pool", "stage", "left", "out", "k"]
def t_law_row_draw (K : PySem.W.Frag) : TS :=
  tSeq (tAsg ((tLstRg (tRg2 ((tC (.int 1))) ((tOp (rAddU K) (tVar 1) ((tC (.int 1)))))))) (gName 2))
  (tSeq (tAsg ((tLst tNil)) (gName 3))
  (tSeq (tFor (iRng1 (tCons (tVar 1) tNil)) (gName 4) ((tDrop ((tBM K "list" rAppend (tVar 3) (tCons ((tBM K "list" rPopAt (tVar 2) (tCons ((tCall (sp_law_draw K) [] E0 (tCons (tVar 0) (tCons ((tCB (rLenU K) (tCons (tVar 2) tNil))) tNil)))) tNil))) tNil))))))
  ((tRet ((tThen (tVar 3) (kTupD K)))))))


section
variable {K : PySem.W.Frag} {vs : List V} {H : Hp} {Q : VK} {E : XK}
theorem len_law_rounds (h : sp_law_rounds K vs H Q E) : vs.length = 1 := by
  obtain ⟨n, rfl, _⟩ := h; rfl
theorem len_law_times (h : sp_law_times K vs H Q E) : vs.length = 2 := by
  obtain ⟨a, b, x, y, n, rfl, _⟩ := h; rfl
theorem len_law_row_draw (h : sp_law_row_draw K vs H Q E) : vs.length = 2 := by
  obtain ⟨p, n, rfl, _⟩ := h; rfl
theorem rgV_rounds (n : Nat) : rgV 1 ((n : Int) + 1) = (roundsR n).map V.int := by
  unfold rgV roundsR
  rw [List.map_map, show ((n : Int) + 1 - 1).toNat = n by omega]
  rfl
theorem pure_law_rounds (h : sp_law_rounds K vs H Q E) : t_law_rounds K (En Q) (start N_law_rounds vs) H := by
  obtain ⟨n, rfl, hn, q⟩ := h
  unfold t_law_rounds
  walk_at "rd"
  refine r_new (RgOk.of_le (by omega) (by omega) (by omega) (by omega)) ?_
  intro p H1 np s e
  rw [rgV_rounds] at e
  walk_at "rd"
  intro p2 H2 np2 s2 e2
  exact q p2 H2 (s.free np2) (s.trans s2) (sqT_ofD e2) (noD_of e2)
theorem pure_law_times (h : sp_law_times K vs H Q E) : t_law_times K (En Q) (start N_law_times vs) H := by
  obtain ⟨a, b, x, y, n, rfl, hx, hy, rx, ry, hn, q⟩ := h
  unfold t_law_times
  walk_at "rd"
  refine r_lcTm (fun i v => match v with | .int b => .int (x.getD (b - 1).toNat 0) | _ => .non) hy (by rw [List.length_map, ry.1]; omega) (fun _ => rfl) (fun i v H1 Q' hi s k => ?_) (fun p H' np s e => ?_)
  · rw [List.getElem?_map] at hi
    obtain ⟨b', hb, rfl⟩ := Option.map_eq_some_iff.mp hi
    have hm := ry.2.2 b' (List.mem_of_getElem? hb)
    have ha := atI_row rx hm.1 hm.2
    walk_at "rd"
    exact k H1 (Same.refl _)
  · have ee : (List.range (y.map V.int).length).zipWith (fun (i : Nat) v => match v with | .int b => V.int (x.getD (b - 1).toNat 0) | _ => .non) (y.map V.int) = (mulR x y).map V.int := by
      apply List.ext_getElem?
      intro i
      rw [List.getElem?_zipWith, List.getElem?_map, List.length_map]
      unfold mulR
      rw [List.getElem?_map, List.getElem?_map]
      by_cases hi : i < y.length
      · rw [List.getElem?_range hi, List.getElem?_eq_getElem hi]; rfl
      · rw [List.getElem?_eq_none (by omega : y.length ≤ i)]
        simp
    rw [ee] at e
    walk_at "rd"
    intro p2 H2 np2 s2 e2
    exact q p2 H2 (s.free np2) (s.trans s2) (sqT_ofD e2) (noD_of e2)
theorem roundsR_row (n : Nat) : IsRow (roundsR n) n := by
  refine ⟨by simp [roundsR], ?_, ?_⟩
  · unfold roundsR
    rw [List.nodup_iff_pairwise_ne, List.pairwise_map]
    exact List.nodup_range.imp fun h e => h (by omega)
  · intro x hx
    obtain ⟨i, hi, rfl⟩ := List.mem_map.mp hx
    rw [List.mem_range] at hi
    omega
theorem pop_perm {os ls : List Int} {k : Nat} {v : Int} (h : ls[k]? = some v) : ((os ++ [v]) ++ ls.eraseIdx k).Perm (os ++ ls) := by
  rw [List.append_assoc]
  refine List.Perm.append_left os ?_
  have hk : k < ls.length := (List.getElem?_eq_some_iff.mp h).1
  have e : v = ls[k] := by rw [List.getElem?_eq_getElem hk] at h; exact (Option.some.inj h).symm
  subst e
  rw [List.eraseIdx_eq_take_drop_succ]
  have e2 : ls = ls.take k ++ ls[k] :: ls.drop (k + 1) := by
    rw [List.getElem_cons_drop]
    exact (List.take_append_drop k ls).symm
  conv => rhs; rw [e2]
  exact List.Perm.symm (List.perm_middle (a := ls[k]) (l₁ := ls.take k) (l₂ := ls.drop (k + 1)))
theorem IsRow.perm {a b : List Int} {n : Nat} (h : a.Perm b) (r : IsRow b n) : IsRow a n :=
  ⟨h.length_eq.trans r.1, h.nodup_iff.mpr r.2.1, fun x hx => r.2.2 x (h.mem_iff.mp hx)⟩
theorem mulR_row {x y : List Int} {n : Nat} (hx : IsRow x n) (hy : IsRow y n) : IsRow (mulR x y) n := by
  refine ⟨by unfold mulR; rw [List.length_map]; exact hy.1, ?_, ?_⟩
  · unfold mulR
    rw [List.nodup_iff_pairwise_ne, List.pairwise_map]
    refine (List.nodup_iff_pairwise_ne.mp hy.2.1).imp_of_mem (fun {a b} ha hb hne e => hne ?_)
    have h1 := hy.2.2 a ha
    have h2 := hy.2.2 b hb
    exact nx_inj hx h1.1 h1.2 h2.1 h2.2 e
  · intro b hb
    unfold mulR at hb
    obtain ⟨c, hc, rfl⟩ := List.mem_map.mp hb
    have h1 := hy.2.2 c hc
    exact nx_mem hx h1.1 h1.2
theorem map_eraseIdx {α β : Type} (f : α → β) : ∀ (l : List α) (k : Nat), (l.map f).eraseIdx k = (l.eraseIdx k).map f
  | [], _ => rfl
  | _ :: _, 0 => rfl
  | x :: r, k + 1 => by simp [List.eraseIdx_cons_succ, map_eraseIdx f r k]
theorem but_via {p l : Addr} {H H1 H2 : Hp} (a : But p H H1) (b : But l H1 H2) (h : H l = none) : But p H H2 := fun c o n e => b c o (ne_of_none e h) (a c o n e)
theorem pure_law_row_draw (h : sp_law_row_draw K vs H Q E) : t_law_row_draw K (En Q) (start N_law_row_draw vs) H := by
  obtain ⟨p, n, rfl, hP, hn, q⟩ := h
  unfold t_law_row_draw
  walk_at "rd"
  refine r_new (RgOk.of_le (by omega) (by omega) (by omega) (by omega)) ?_
  intro l H1 nl s1 e1
  rw [rgV_rounds] at e1
  walk_at "rd"
  intro o H2 no s2 e2
  have hpl : p ≠ l := by obtain ⟨x, y, z, hp⟩ := hP; exact ne_of_none hp nl
  have hpo : p ≠ o := by obtain ⟨x, y, z, hp⟩ := hP; exact ne_of_none (s1 _ _ hp) no
  have hlo : l ≠ o := ne_of_none e1 no
  walk_at "rd"
  rw [Int.toNat_natCast]
  refine r_forRange0 (fun i σ' H' => ∃ (os ls : List Int) (z : Option V), σ' = [some (.ref p), some (.int (n : Int)), some (.ref l), some (.ref o), z] ∧ But p H H' ∧ Pl H' p ∧ H' l = some (.lst (ls.map V.int)) ∧ H' o = some (.lst (os.map V.int)) ∧ IsRow (os ++ ls) n ∧ os.length = i)
    ⟨[], roundsR n, none, rfl, (Same.but s1).trans (Same.but s2), ?_, s2 _ _ e1, e2, roundsR_row n, rfl⟩ (fun i σ' H' hi hW => ?_) (fun σ' H' hW => ?_)
  · obtain ⟨x, y, z, hp⟩ := hP
    exact ⟨x, y, z, s2 _ _ (s1 _ _ hp)⟩
  · obtain ⟨os, ls, z, rfl, b, hP', el, eo, hr, ho⟩ := hW
    have hll : ls.length = n - i := by have := hr.1; rw [List.length_append] at this; omega
    walk_at "rd"
    refine ⟨p, _, rfl, hP', by rw [List.length_map]; omega, by rw [List.length_map]; omega, fun v H5 hv0 hv1 b5 hP5 => ?_⟩
    rw [List.length_map] at hv1
    have hk : v.toNat < ls.length := by omega
    have hl5 : H5 l = some (.lst (ls.map V.int)) := b5 _ _ hpl.symm el
    have ho5 : H5 o = some (.lst (os.map V.int)) := b5 _ _ hpo.symm eo
    walk_at "rd"
    refine r_popAt (k := v.toNat) (y := .int ls[v.toNat]) hl5 (by omega) (by rw [List.getElem?_map, List.getElem?_eq_getElem hk]; rfl) (by rw [List.length_map]; omega) ?_
    intro H6 b6 e6
    have ho6 := b6 _ _ hlo.symm ho5
    walk_at "rd"
    intro H7 b7 e7
    walk_at "rd"
    have hpk : ((os ++ [ls[v.toNat]]) ++ ls.eraseIdx v.toNat).Perm (os ++ ls) := pop_perm (List.getElem?_eq_getElem hk)
    refine ⟨os ++ [ls[v.toNat]], ls.eraseIdx v.toNat, _, rfl, but_via (but_via (b.trans b5) b6 nl) b7 (s1.free no), ?_, ?_, ?_, IsRow.perm hpk hr, by rw [List.length_append, ho]; rfl⟩
    · obtain ⟨x, y, z, hp⟩ := hP5
      exact ⟨x, y, z, b7 _ _ hpo (b6 _ _ hpl hp)⟩
    · rw [b7 _ _ hlo e6, map_eraseIdx]
    · rw [e7, List.map_append]; rfl
  · obtain ⟨os, ls, z, rfl, b, hP', el, eo, hr, ho⟩ := hW
    have hll : ls = [] := List.length_eq_zero_iff.mp (by have := hr.1; rw [List.length_append] at this; omega)
    subst hll
    rw [List.append_nil] at hr
    walk_at "rd"
    intro a H3 na s3 e3
    have hna : H a = none := by
      cases e : H a with
      | none => rfl
      | some u =>
        by_cases hap : a = p
        · subst hap
          obtain ⟨x, y, z, hp⟩ := hP'
          rw [hp] at na
          cases na
        · rw [b _ _ hap e] at na
          cases na
    refine q a H3 os hna (b.trans (Same.but s3)) ?_ (sqT_ofD e3) hr (noD_of e3)
    obtain ⟨x, y, z, hp⟩ := hP'
    exact ⟨x, y, z, s3 _ _ hp⟩
end
end Kb

set_option Elab.async false
set_option linter.all false
set_option maxRecDepth 100000
set_option maxHeartbeats 4000000
/-! exceptions: __init__ defs that say super().__init__(..) -/
namespace Kb
open PySem PySem.Spec PyProof.Rows L2

/-- what the frame of an __init__ that says super() must say; D: the class that its body stands in -/
structure SupK (X : Cx) (D : Addr) : Prop where
  gs : Gl X "super"
  kc : X.env.kindOf "__class__" = some .free
  ks : X.env.kindOf "self" = some .local
  fn : ∃ (f : Addr) (oc : Value) (od : Option Addr) (fd : FuncData) (osl : Array (Option Value)) (ar : Arg), X.env.func = some f ∧ X.K.lookup f = some ⟨oc, od, .func fd, osl⟩ ∧ (fd.params.posonlyargs ++ fd.params.args).head? = some ar ∧ ar.arg = "self"
  cd : ∃ (cda : Addr) (ccl : Value) (cdd : Option Addr) (vs : Array Value) (ccs : Array (Option Value)) (file : Str) (tf : Tok), X.env.code = .ref cda ∧ X.K.lookup cda = some ⟨ccl, cdd, .fields vs, ccs⟩ ∧ vs[2]? = some (.str file tf) ∧ ((X.prog.main.file : Str) == file) = true
  cl : ∃ (cc : Addr) (cl : Value) (cld : Option Addr) (csl : Array (Option Value)), X.env.cells.lookup ("__class__" : Str) = some cc ∧ X.K.lookup cc = some ⟨cl, cld, .cell (some (.ref D)), csl⟩
  su : X.mg "super" = none
  tp : (X.prog.main.scope.names.lookup ("super" : Str)).isSome = false
  dc : ∃ cdD, PySem.W.clsIn X.K D = some cdD

section
variable {X : Cx} {pins : List (Addr × Obj)} {σ : L2.St} {H : Hp} {s : Shared} {a C D : Addr}

theorem exo_ne (T : OexC X.K C) (I : Inv X pins σ H s) (ea : H a = some (exo a C none)) : a ≠ C := by
  rintro rfl
  obtain ⟨nm, q, N, bs, bm, sn, sub, ab, col, dd, k0, k1, k2, k3, k5, hC, hbm⟩ := T.cls
  obtain ⟨t1, ho⟩ := exo_at I.hok ea
  have e := I.kIn _ _ hC
  rw [ho] at e
  cases e

theorem boot_super : bootBuiltins "super" = some (.type "super") := by first | boot_by_name | rfl | kernel_rfl

/-- a new object that is pinned -/
theorem pin_new {h' : Heap} {t' : Nat} {o : Obj} (I : Inv X pins σ H s) (k : ∀ b u, s.heap.get? b = some u → h'.get? b = some u) (e : h'.get? s.heap.objs.size = some o) (hn : ∀ v, o.data ≠ .cell v) :
    Inv X ((s.heap.objs.size, o) :: pins) σ H { s with heap := h', toks := t' } := by
  have J := I.kept (t' := t') k
  refine J.pins_of fun p hp => ?_
  rcases List.mem_cons.mp hp with rfl | hp
  · exact ⟨e, I.hok.fresh (Nat.le_refl _), Nat.ne_of_gt I.lt, I.nofs (Nat.le_refl _), hn⟩
  · exact J.pin p (List.mem_append_right _ hp)

theorem sup_base {body : List Stmt} {p0 p1 : Pos} {attr : Str} {whole : Sem Value} {Q : Value → Shared → Prop} {E : Value → Shared → Prop} (S : SupK X D) (I : Inv X pins σ H s) (hN : X.N[0]? = some ("self" : Str)) (hs : σ[0]? = some (some (V.ref a)))
    (T : OexC X.K C) (ea : H a = some (exo a C none)) (sub : PySem.W.mroIn X.K C (.ref D) = some true) (hat : (attr == ("__class__" : Str)) = false)
    (h : ∀ so s', Inv X ((so, PySem.W.ks_superObj D a C) :: pins) σ H s' → Q (.ref so) s') :
    _root_.PySem.wpAt (model X.prog X.w) X.A (.func body X.env) (attributeBase (.Call (.Name "super" p0) [] [] p1) attr X.env whole) Q E s := by
  obtain ⟨f, oc, od, fd, osl, ar, hfu, hf, hp, har⟩ := S.fn
  obtain ⟨cda, ccl, cdd, vs, ccs, file, tf, hco, hcode, hvs, hfile⟩ := S.cd
  obtain ⟨cc, cl, cld, csl, hcc, hcell⟩ := S.cl
  obtain ⟨cdD, hD⟩ := S.dc
  have KX := I.kIn
  have hg : X.env.globals = mainGlobals := I.ok.glob
  obtain ⟨m, hn, hlk⟩ := id I.loc
  obtain ⟨u, ru, lu⟩ := hlk 0 "self" (.ref a) hN hs (.inl S.ks)
  obtain rfl : u = Value.ref a := ru
  have hv : m "self" = some (.ref a) := by
    rcases lu with ⟨_, e⟩ | ⟨k, _⟩
    · exact e
    · rw [S.ks] at k
      rcases k with k | k <;> cases k
  obtain ⟨t1, ho⟩ := exo_at I.hok ea
  obtain ⟨oD, hD1, hD2⟩ : ∃ oD, s.heap.get? D = some oD ∧ oD.data = .cls cdD := by
    unfold PySem.W.clsIn at hD
    split at hD
    · rename_i c d cd' sl ho
      cases hD
      exact ⟨_, KX _ _ ho, rfl⟩
    · cases hD
  obtain ⟨hh, g, d, t, os⟩ := s
  refine ks_wpAt_super_base (env := X.env) S.gs S.kc hat hfu (KX _ _ hf) rfl hp hco (KX _ _ hcode) rfl hvs hfile S.tp ?_
  obtain ⟨mb, b1, b2⟩ := I.mod.blt
  refine PySem.W.ks_loadName_global I.ok.kind S.gs (Calls.loadGlobal_builtin (by rw [I.ok.glob]; exact I.mod.glob.keeps I.bk) S.su (by rw [I.ok.blt]; exact b1.keeps I.bk) ((b2 _ (by decide)).trans boot_super) ⟨rfl, ?_⟩)
  refine wpAny_loadName_free I.ok.kind S.kc hcc ⟨_, KX _ _ hcell, rfl⟩ ?_
  rw [har]
  refine wpAny_loadName_local I.ok.kind S.ks hn hv ?_
  refine ks_wpAny_isType_cls hD1 hD2 ⟨rfl, ?_⟩
  refine ks_wpAny_call_super hD1 hD2 ho rfl (fun c e => by cases e) (PySem.W.looks_mroIn KX sub) (fun h' e k => ?_)
  exact h _ _ (pin_new (s := ⟨hh, g, d, t, os⟩) (t' := t) I k e (fun v z => by cases z))

/-- super().__init__(e, ..), the next class ValueError: nothing of it is told -/
def tSupV (K : PySem.W.Frag) (D : Addr) (ta : TA) : TS := fun R σ H => ∃ a C : Addr, σ[0]? = some (some (V.ref a)) ∧ H a = some (exo a C none) ∧ OexC K C ∧ PySem.W.mroIn K C (.ref D) = some true ∧
  PySem.W.nsIn K PySem.cStatics "thirdparty.any" = some none ∧ PySem.W.ks_superIn K C D "__init__" = some (some (.builtin "ValueError.__init__")) ∧ PySem.W.subIn K (.ref C) (.type "ValueError") = some true ∧
  ta σ H fun vs H1 => vs.length ≤ 1000 ∧ H1 a = some (exo a C none) ∧ R.nx σ H1

/-- a statement that is run in its own frame -/
def PSat (X : Cx) (body : List Stmt) (st : Stmt) (t : TS) : Prop := ∀ (pins : List (Addr × Obj)) (s : Shared) (σ : L2.St) (H : Hp) (R : Ends), Inv X pins σ H s → t R σ H →
  _root_.PySem.wpAt (model X.prog X.w) X.A (.func body X.env) (exec st X.env) (SP X pins R) X.xe s

theorem sup_method {Q : Value × List Value → Shared → Prop} {E : Value → Shared → Prop} {A : Around} {pl : Sem Bool} {B i : String} {so : Addr} (KF : PySem.W.KxsFacts B i) (I : Inv X ((so, PySem.W.ks_superObj D a C) :: pins) σ H s) (T : OexC X.K C) (ea : H a = some (exo a C none))
    (opq : PySem.W.nsIn X.K PySem.cStatics "thirdparty.any" = some none) (hm : PySem.W.ks_superIn X.K C D "__init__" = some (some (.builtin i))) (hB : PySem.W.subIn X.K (.ref C) (.type B) = some true)
    (h : ∀ u s', Inv X ((u, PySem.W.kxs_mw i a) :: pins) σ H s' → Q (.ref u, []) s') : wpAny (model X.prog X.w) A (getMethod (.ref so) "__init__" pl) Q E s := by
  have KX := I.kIn
  obtain ⟨hso, _⟩ := I.pin _ (List.mem_append_right _ List.mem_cons_self)
  obtain ⟨t1, ho⟩ := exo_at I.hok ea
  have IA : PySem.W.InstAt s.heap a _ C none := ⟨ho, rfl, rfl, trivial⟩
  have hI : PySem.W.Looks (model X.prog X.w) s.heap (isInstance (.ref a) (.type B)) true := IA.type.andThen (PySem.W.looks_subIn KX hB)
  have hne := exo_ne T I ea
  obtain ⟨hh, g, d, t, os⟩ := s
  cases hc : PySem.W.clsIn X.K C with
  | none => unfold PySem.W.ks_superIn at hm; rw [hc] at hm; cases hm
  | some cd =>
    unfold PySem.W.ks_superIn at hm
    rw [hc] at hm
    refine PySem.W.kxs_getMethod KF hso (PySem.W.looks_opaque KX opq) (l₀ := cd.mro) (fun A Q E s k q => wpAny_bind ((PySem.W.looks_clsIn KX hc) A _ E s k (wpAny_pure q))) rfl KX hm hI hne (by decide) ?_
    have J := pin_new (s := ⟨hh, g, d, t, os⟩) (t' := t + 1) (o := PySem.W.kxs_mw i a) I (fun b o e => Heap.get?_push_of_some _ e) (Heap.get?_push_at rfl rfl) (fun v z => by cases z)
    exact h _ _ (J.pins_of fun p hp => J.pin p (List.mem_append_right _ (by
      rcases List.mem_cons.mp hp with rfl | hp
      · exact List.mem_cons_self
      · exact List.mem_cons_of_mem _ (List.mem_cons_of_mem _ hp))))

theorem sup_wrapper {u : Addr} {us : List Value} {Q : Value → Shared → Prop} {E : Value → Shared → Prop} {A : Around} (I : Inv X ((u, PySem.W.kxs_mw "ValueError.__init__" a) :: pins) σ H s) (T : OexC X.K C) (ea : H a = some (exo a C none)) (hl : us.length ≤ sizeLine)
    (h : ∀ s', Inv X pins σ H s' → Q .none s') : wpAny (model X.prog X.w) A (call (.ref u) us) Q E s := by
  obtain ⟨hu, _⟩ := I.pin _ (List.mem_append_right _ List.mem_cons_self)
  obtain ⟨nm, q, N, bs, bm, sn, sub, ab, col, dd, k0, k1, k2, k3, k5, hC, hbm⟩ := T.cls
  obtain ⟨t1, ho⟩ := exo_at I.hok ea
  obtain ⟨hp, g, d, t, os⟩ := s
  refine wpAny_call (codeAny_of_tree ?_)
  show wpAny _ A.in1 (callAny (.ref u) ⟨us, []⟩) _ _ _
  simp only [callAny]
  refine wpAny_bind (wpAny_load hu ?_)
  simp only [PySem.W.kxs_mw, show (Value.type "method-wrapper" == Value.type "method" || Value.type "method-wrapper" == Value.type "builtin_function_or_method" || Value.type "method-wrapper" == Value.type "method-wrapper") = true by decide, if_true]
  refine PySem.W.KFB.if_so (by decide) ?_
  refine wpAny_bind (PySem.W.check_bound_init F.excBase_ValueError.toExcCallFacts (I.kIn _ _ hC) ho rfl ?_)
  refine wpAny_bind (wpAny_pure (wpAny_pure ?_))
  refine ⟨plainId_quiet F.excBase_ValueError.init.plain _, codeAny_builtin F.excBase_ValueError.initEntry ?_⟩
  refine PySem.W.exc_init_tree (cls := .ref C) (t0 := t1) (dv := none) (c2 := .none) (c3 := .none) (b4 := .bool false) ho hl fun h' k hx _ => ?_
  have I0 : Inv X pins σ H ⟨hp, g, d, t, os⟩ := I.pins_of fun p hp => I.pin p (List.mem_append_right _ (List.mem_cons_of_mem _ hp))
  have J := I0.write (t' := t) (x := a) (e := a) (o := exo a C none) (by rw [ea]; exact True.intro) (.inl rfl) k ⟨_, hx⟩ (exo_ok hx)
  have eu : upd H a (exo a C none) = H := by
    funext b
    by_cases hb : b = a
    · rw [hb, upd_same, ea]
    · rw [upd_ne hb]
  rw [eu] at J
  exact h _ J
end

section
variable {M : Model} {A : Around} {E : Value → Shared → Prop} {s : Shared} {u x g : Addr} {i : String} {pos : Pos} {env : Env} {e : Expr} {rest : List Expr} {Q : Value → Shared → Prop} {K : PySem.W.Frag}
theorem cw_wrap (h : wpAny M A (spliced (backTo pos (starEach (e :: rest) env))) (fun vs s₁ => PySem.W.KxsAt i u x s₁.heap ∧ wpAny M A (call (.ref u) vs) Q E s₁) E s)
    (he : starEach (e :: rest) env = (false, eval e env) :: starEach rest env) (hplain : (backTo pos (starEach rest env)).any (·.1) = false) :
    wpAny M A (callWith pos (.ref u) [] (backTo pos (starEach (e :: rest) env)) []) Q E s := by
  rw [he] at h ⊢
  refine PySem.W.kxs_callWith (i := i) (x := x) (by show (false || (backTo pos (starEach rest env)).any (·.1)) = false; rw [hplain]; rfl) ?_
  exact PySem.Calls.evalArgs_plain h
theorem cw_meth {self : Value} (hf : PySem.W.fnIn K g = true) (h : wpAny M A (spliced (backTo pos (starEach (e :: rest) env))) (fun vs s₁ => PySem.W.MethP K u g self s₁.heap ∧ wpAny M A (call (.ref u) vs) Q E s₁) E s)
    (he : starEach (e :: rest) env = (false, eval e env) :: starEach rest env) (hplain : (backTo pos (starEach rest env)).any (·.1) = false) :
    wpAny M A (callWith pos (.ref u) [] (backTo pos (starEach (e :: rest) env)) []) Q E s := by
  rw [he] at h ⊢
  exact PySem.W.callWith_of (by show ((false || (backTo pos (starEach rest env)).any (·.1)) || false) = false; rw [hplain]; rfl) (PySem.W.keeps_M hf) (PySem.Calls.evalArgs_plain h)
end
section
variable {X : Cx} {D : Addr} {body : List Stmt} {e : Expr} {es : List Expr} {ta : TA} {p0 p1 p2 p3 p4 : Pos}
abbrev supStmt (e : Expr) (es : List Expr) (p0 p1 p2 p3 p4 : Pos) : Stmt := .Expr (.Call (.Attribute (.Call (.Name "super" p0) [] [] p1) "__init__" p2) (e :: es) [] p3) p4
theorem pst_supV {pl : Sem Bool} (S : SupK X D) (hN : X.N[0]? = some ("self" : Str)) (ha : PA X (e :: es) ta)
    (hc : eval (.Call (.Attribute (.Call (.Name "super" p0) [] [] p1) "__init__" p2) (e :: es) [] p3) X.env = (do
      let ov ← attributeBase (.Call (.Name "super" p0) [] [] p1) "__init__" X.env (eval (.Call (.Name "super" p0) [] [] p1) X.env)
      standAt p2.atName
      let (f, first) ← holding [ov] (getMethod ov "__init__" pl)
      callWith p3 f first (backTo p3 (starEach (e :: es) X.env)) []) := by rfl) (hsw : swapsWith (.Call (.Attribute (.Call (.Name "super" p0) [] [] p1) "__init__" p2) (e :: es) [] p3) none p4.line X.env = pure false := by rfl)
    (he : starEach (e :: es) X.env = (false, eval e X.env) :: starEach es X.env := by rfl) (hpl : (backTo p3 (starEach es X.env)).any (·.1) = false := by rfl) :
    PSat X body (supStmt e es p0 p1 p2 p3 p4) (tSupV X.K D ta) := by
  intro pins s σ H R I h
  obtain ⟨a, C, hs, ea, T, sub, opq, hm, hB, h⟩ := h
  refine ks_wpAt_Expr_any (ks_wpAt_MethodCall (pl := pl) ?_ hc) I.quiet hsw
  · refine sup_base S I hN hs T ea sub (by decide) fun so s1 I1 => ?_
    refine sup_method PySem.W.kxs_ValueError I1 T ea opq hm hB fun u s2 I2 => ?_
    show wpAny _ _ (callWith p3 (.ref u) [] (backTo p3 (starEach (e :: es) X.env)) []) _ _ _
    refine cw_wrap (i := "ValueError.__init__") (x := a) (thn (ha.run p3 _ s2 σ H _ I2 h) fun us s3 ⟨vs, H1, I3, r1, hl, ea1, q⟩ => ⟨?_, ?_⟩) he hpl
    · exact (I3.pin _ (List.mem_append_right _ List.mem_cons_self)).1
    · refine sup_wrapper I3 T ea1 ?_ fun s4 I4 => ⟨σ, H1, I4, q⟩
      rw [← Paired.length r1, sizeLine_eq]
      omega

/-- super().__init__(e, ..), the next class's own __init__ keeping sp -/
def tSupF (K : PySem.W.Frag) (D f2 : Addr) (sp : Sp) (ta : TA) : TS := fun R σ H => ∃ a C : Addr, σ[0]? = some (some (V.ref a)) ∧ H a = some (exo a C none) ∧ OexC K C ∧ PySem.W.mroIn K C (.ref D) = some true ∧
  PySem.W.nsIn K PySem.cStatics "thirdparty.any" = some none ∧ PySem.W.ks_superIn K C D "__init__" = some (some (.ref f2)) ∧
  ta σ H fun vs H1 => sp (.ref a :: vs) H1 (fun _ H2 => R.nx σ H2) (fun _ _ _ => False)

theorem sup_methodF {pins : List (Addr × Obj)} {σ : L2.St} {H : Hp} {s : Shared} {a C f2 so : Addr} {Q : Value × List Value → Shared → Prop} {E : Value → Shared → Prop} {A : Around} {pl : Sem Bool} (I : Inv X ((so, PySem.W.ks_superObj D a C) :: pins) σ H s) (T : OexC X.K C) (ea : H a = some (exo a C none))
    (opq : PySem.W.nsIn X.K PySem.cStatics "thirdparty.any" = some none) (hm : PySem.W.ks_superIn X.K C D "__init__" = some (some (.ref f2))) (ht : PySem.W.typeIn X.K (.ref f2) = some (.type "function"))
    (h : ∀ u s', Inv X ((u, PySem.W.methodObj (.ref f2) (.ref a)) :: pins) σ H s' → Q (.ref u, []) s') : wpAny (model X.prog X.w) A (getMethod (.ref so) "__init__" pl) Q E s := by
  have KX := I.kIn
  obtain ⟨hso, _⟩ := I.pin _ (List.mem_append_right _ List.mem_cons_self)
  have hne := exo_ne T I ea
  obtain ⟨hh, g, d, t, os⟩ := s
  cases hc : PySem.W.clsIn X.K C with
  | none => unfold PySem.W.ks_superIn at hm; rw [hc] at hm; cases hm
  | some cd =>
    unfold PySem.W.ks_superIn at hm
    rw [hc] at hm
    obtain ⟨of, hof, hofc⟩ : ∃ of, hh.get? f2 = some of ∧ of.cls = .type "function" := by
      have ht' : (X.K.lookup f2).map (·.cls) = some (.type "function") := ht
      cases z : X.K.lookup f2 with
      | none => rw [z] at ht'; cases ht'
      | some of => rw [z] at ht'; exact ⟨of, KX _ _ z, Option.some.inj ht'⟩
    refine ks_wpAny_getMethod_super hso (PySem.W.looks_opaque KX opq) (l₀ := cd.mro) (fun A Q E s k q => wpAny_bind ((PySem.W.looks_clsIn KX hc) A _ E s k (wpAny_pure q))) rfl KX hm hof hofc hne (by decide) ?_
    have J := pin_new (s := ⟨hh, g, d, t, os⟩) (t' := t + 1) (o := PySem.W.methodObj (.ref f2) (.ref a)) I (fun b o e => Heap.get?_push_of_some _ e) (Heap.get?_push_at rfl rfl) (fun v z => by cases z)
    exact h _ _ (J.pins_of fun p hp => J.pin p (List.mem_append_right _ (by
      rcases List.mem_cons.mp hp with rfl | hp
      · exact List.mem_cons_self
      · exact List.mem_cons_of_mem _ (List.mem_cons_of_mem _ hp))))

theorem pst_supF {pl : Sem Bool} {CX : CXT} {k : Nat} {f2 : Addr} {fd : FuncData} {ps : List Str} {sp : Sp} (S : SupK X D) (hN : X.N[0]? = some ("self" : Str)) (F1 : FnOk X.prog X.w X.K X.mg X.base CX k f2 fd ps sp) (hr : Room k X.A) (hb : Binds X.K fd ps [])
    (hx : Passes CX X (fun _ _ _ => False)) (ht : PySem.W.typeIn X.K (.ref f2) = some (.type "function")) (hf : PySem.W.fnIn X.K f2 = true) (ha : PA X (e :: es) ta)
    (hc : eval (.Call (.Attribute (.Call (.Name "super" p0) [] [] p1) "__init__" p2) (e :: es) [] p3) X.env = (do
      let ov ← attributeBase (.Call (.Name "super" p0) [] [] p1) "__init__" X.env (eval (.Call (.Name "super" p0) [] [] p1) X.env)
      standAt p2.atName
      let (f, first) ← holding [ov] (getMethod ov "__init__" pl)
      callWith p3 f first (backTo p3 (starEach (e :: es) X.env)) []) := by rfl) (hsw : swapsWith (.Call (.Attribute (.Call (.Name "super" p0) [] [] p1) "__init__" p2) (e :: es) [] p3) none p4.line X.env = pure false := by rfl)
    (he : starEach (e :: es) X.env = (false, eval e X.env) :: starEach es X.env := by rfl) (hpl : (backTo p3 (starEach es X.env)).any (·.1) = false := by rfl) :
    PSat X body (supStmt e es p0 p1 p2 p3 p4) (tSupF X.K D f2 sp ta) := by
  intro pins s σ H R I h
  obtain ⟨a, C, hs, ea, T, sub, opq, hm, h⟩ := h
  refine ks_wpAt_Expr_any (ks_wpAt_MethodCall (pl := pl) ?_ hc) I.quiet hsw
  · refine sup_base S I hN hs T ea sub (by decide) fun so s1 I1 => ?_
    refine sup_methodF I1 T ea opq hm ht fun u s2 I2 => ?_
    show wpAny _ _ (callWith p3 (.ref u) [] (backTo p3 (starEach (e :: es) X.env)) []) _ _ _
    refine cw_meth (g := f2) (self := .ref a) hf (thn (ha.run p3 _ s2 σ H _ I2 h) fun us s3 ⟨vs, H1, I3, r1, q⟩ => ⟨⟨?_, I3.kIn⟩, ?_⟩) he hpl
    · exact (I3.pin _ (List.mem_append_right _ List.mem_cons_self)).1
    · have hu := (I3.pin _ (List.mem_append_right _ List.mem_cons_self)).1
      have I4 : Inv X pins σ H1 s3 := I3.pins_of fun p hp => I3.pin p (List.mem_append_right _ (List.mem_cons_of_mem _ hp))
      have r2 : Vals (V.ref a :: vs) (Value.ref a :: us) := .cons rfl r1
      have hl : (Value.ref a :: us).length = ps.length := by
        rw [← r2.length]
        exact F1.len _ _ _ _ q
      refine wpAny_call (ks_codeAny_call_bound hu (codeAny_mono (F1.run _ X.stack _ _ ⟨Value.ref a :: us, []⟩ (Value.ref a :: us) _ _ (fun _ _ _ => False) hr I4.env0 (by have z := hb s3 (Value.ref a :: us) I4.kIn (by simpa using hl); rw [List.append_nil] at z; exact z) r2 q) fun r s' hq' => ?_))
      cases r with
      | error er => exact hx pins σ _ _ er s' I4 hq'
      | ok fl =>
        cases fl with
        | ret u2 =>
          obtain ⟨v, H', I5, rv, q5⟩ := I4.after hq'
          exact ⟨σ, H', I5, q5⟩
        | next => exact False.elim hq'
        | brk => exact False.elim hq'
        | cont => exact False.elim hq'
end
end Kb

set_option Elab.async false
set_option linter.all false
set_option maxRecDepth 100000
set_option maxHeartbeats 4000000
namespace Kb
open PySem PySem.Spec PyProof.Rows L2

theorem lookup_nodup {y : Str} {u : Value} : ∀ {l : List (Str × Value)}, (l.map (·.1)).Nodup → (y, u) ∈ l → l.lookup y = some u
  | [], _, h => by cases h
  | (z, w) :: r, nd, h => by
    rw [List.map_cons, List.nodup_cons] at nd
    rcases List.mem_cons.mp h with h | h
    · obtain ⟨rfl, rfl⟩ := Prod.mk.inj h
      simp [List.lookup]
    · have ne : (y == z) = false := by
        refine beq_eq_false_iff_ne.mpr fun e => nd.1 ?_
        rw [← e]
        exact List.mem_map.mpr ⟨(y, u), h, rfl⟩
      rw [List.lookup, ne]
      exact lookup_nodup nd.2 h

/-- the scope of an __init__ that says super() -/
structure SupScope (N P : List Str) (sc : Scope) : Prop where
  kind : sc.kind = .function
  co : sc.isCoroutine = false
  gen : sc.isGenerator = false
  nd : N.Nodup
  pre : N.take P.length = P
  par : ∀ x ∈ P, sc.names.lookup x = some .local
  nocell : ∀ y ∈ sc.names, y.2 ≠ .cell
  free : ∀ y ∈ sc.names, y.2 = .free → y.1 = "__class__"

/-- the context of its body -/
def cxS (P : Program) (w : World) (K : PySem.W.Frag) (mg : Str → Option Value) (base : Heap) (N : List Str) (qual : Str) (scope : Scope) (f : Addr) (cd : Value) (cc : Addr) (A : Around) (outer : List Env) (s : Shared) (H : Hp) : Cx where
  prog := P
  w := w
  K := K
  mg := mg
  base := base
  A := A.deeper (PySem.W.ksEnv qual scope s.heap.objs.size f cd cc)
  N := N
  s_0 := s
  H_0 := H
  env := PySem.W.ksEnv qual scope s.heap.objs.size f cd cc
  outer := outer
  stack := PySem.W.ksEnv qual scope s.heap.objs.size f cd cc :: outer
  ex := []
  calm := true
  fn := fun _ => false
  pn := []
  xe := fun _ _ => False

theorem inv_startS {P : Program} {w : World} {K : PySem.W.Frag} {mg : Str → Option Value} {base : Heap} {N ps : List Str} {qual : Str} {scope : Scope} {f : Addr} {cd : Value} {cc : Addr} {A : Around} {outer : List Env} {s : Shared} {H : Hp} {us : List Value} {vs : List V} {h₁ : Heap} {t' : Nat} {cl : Value} {cld : Option Addr} {v0 : Option Value} {csl : Array (Option Value)}
    (S : SupScope N ps scope) (hd : A.handled = none) (e0 : Env0 P w K mg base A outer s H) (hl : vs.length = ps.length) (r : Vals vs us) (hcell : K.lookup cc = some ⟨cl, cld, .cell v0, csl⟩)
    (hn : h₁.Ns s.heap.objs.size (fun x => (ps.zip us).reverse.lookup x)) (k : ∀ b o, s.heap.get? b = some o → h₁.get? b = some o) :
    Inv (cxS P w K mg base N qual scope f cd cc A outer s H) [] (start N vs) H { s with heap := h₁, toks := t' } := by
  have hpl : ps.length ≤ N.length := by have := congrArg List.length S.pre; rw [List.length_take] at this; omega
  have noA : ∀ b : Addr, b ∉ (cxS P w K mg base N qual scope f cd cc A outer s H).ex := fun b z => absurd (show b ∈ ([] : List Addr) from z) (by simp)
  have hb := e0.bs cc _ (e0.mod.kin _ _ hcell)
  have cell1 : ∀ y c, (cxS P w K mg base N qual scope f cd cc A outer s H).env.cells.lookup y = some c → y = ("__class__" : Str) ∧ c = cc := fun y c h => by
    have h : List.lookup y [(("__class__" : Str), cc)] = some c := h
    rw [List.lookup] at h
    split at h
    · rename_i z
      exact ⟨beq_iff_eq.mp z, (Option.some.inj h).symm⟩
    · cases h
  refine ⟨⟨e0.mod, S.kind, rfl, rfl, Nat.le_refl _, fun y z c h1 h2 => (cell1 y c h1).1.trans (cell1 z c h2).1.symm, fun y hy => ?_, fun y c z h => Bool.noConfusion z, fun _ => hd, Around.frames_deeper e0.frames, .inr ⟨rfl, rfl⟩, fun b z => absurd z (noA b), e0.bs, e0.bsz, fun b _ _ => noA b, fun b z => absurd z (noA b), e0.funs, e0.frf⟩,
    rfl, e0.bare, Un.kept k, ⟨_, hn, fun i y v h1 h2 h3 => ?_⟩, fun y c h => ⟨v0, ⟨cl, cld, .cell v0, csl⟩, k _ _ (by obtain ⟨_, e⟩ := cell1 y c h; subst e; exact hb.1), rfl⟩, e0.hok.fresh (Nat.le_refl _), fun y c h => by obtain ⟨_, e⟩ := cell1 y c h; subst e; exact hb.2, fun p hp => absurd (show p ∈ ([] : List (Addr × Obj)) from hp) (by simp), e0.hok.kept k, ?_⟩
  · have hy : scope.names.lookup y = some .cell ∨ scope.names.lookup y = some .free := hy
    rcases hy with hy | hy
    · exact absurd rfl (S.nocell _ (PySem.mem_of_lookup hy))
    · have e : y = ("__class__" : Str) := S.free _ (PySem.mem_of_lookup hy) rfl
      subst e
      exact ⟨cc, by show List.lookup ("__class__" : Str) [(("__class__" : Str), cc)] = some cc; simp [List.lookup]⟩
  · have hi : i < vs.length := by
      unfold L2.start at h2
      by_cases hi : i < vs.length
      · exact hi
      · rw [List.getElem?_append_right (by simpa using hi)] at h2
        rw [List.getElem?_replicate] at h2
        split at h2 <;> cases h2
    have ha : vs[i]? = some v := by
      unfold L2.start at h2
      rw [List.getElem?_append_left (by simpa using hi), List.getElem?_map] at h2
      cases e : vs[i]? with
      | none => rw [e] at h2; cases h2
      | some a => rw [e] at h2; cases h2; rfl
    obtain ⟨u, hu, rv⟩ := r.get ha
    have hp : ps[i]? = some y := by
      rw [← S.pre, List.getElem?_take_of_lt (by omega)]; exact h1
    have ndP : ps.Nodup := by rw [← S.pre]; exact S.nd.sublist (List.take_sublist _ _)
    refine ⟨u, rv, .inl ⟨S.par y (List.mem_of_getElem? hp), ?_⟩⟩
    have hlen : us.length = ps.length := by rw [← r.length]; exact hl
    refine lookup_nodup ?_ ?_
    · rw [List.map_reverse, List.map_fst_zip (by omega)]
      exact (List.reverse_perm ps).nodup_iff.mpr ndP
    · rw [List.mem_reverse]
      exact List.mem_of_getElem? (i := i) (by rw [List.getElem?_zip_eq_some]; exact ⟨hp, hu⟩)
  · unfold L2.start
    show _ = N.length
    rw [List.length_append, List.length_map, List.length_replicate]
    omega

/-- THE RULE: an __init__ that says super() first, by its body -/
theorem fn_sup {P : Program} {w : World} {K : PySem.W.Frag} {mg : Str → Option Value} {base : Heap} {k : Nat} {f : Addr} {name qual : Str} {params : Arguments} {b0 : Stmt} {body : List Stmt} {scope : Scope} {dV kV doc pm cdv ct oc : Value} {an od : Option Addr} {cc : Addr}
    {osl : Array (Option Value)} {N ps : List Str} {sp : Sp} {cl : Value} {cld : Option Addr} {v0 : Option Value} {csl : Array (Option Value)}
    (lk : K.lookup f = some ⟨oc, od, .func (PySem.W.ksFn name qual params (b0 :: body) scope dV kV doc pm an cdv ct cc), osl⟩) (hcd : PySem.W.codeIn K cdv qual = true) (hcell : K.lookup cc = some ⟨cl, cld, .cell v0, csl⟩) (S : SupScope N ps scope)
    (len : ∀ vs H Q E, sp vs H Q E → vs.length = ps.length)
    (hbody : ∀ (A : Around) (outer : List Env) (s : Shared) (H : Hp) (vs : List V) (Q : VK) (E : XK), Room k (A.deeper (PySem.W.ksEnv qual scope s.heap.objs.size f cdv cc)) → sp vs H Q E →
      ∃ t u, PSat (cxS P w K mg base N qual scope f cdv cc A outer s H) (b0 :: body) b0 t ∧ PSs (cxS P w K mg base N qual scope f cdv cc A outer s H) body u ∧ t { nx := fun σ' H' => u { nx := fun _ H' => Q .non H', rt := Q } σ' H', rt := Q } (start N vs) H) :
    FnOk P w K mg base CX0 (k + 1) f (PySem.W.ksFn name qual params (b0 :: body) scope dV kV doc pm an cdv ct cc) ps sp := by
  refine ⟨len, fun A outer s H args us vs Q E hr e0 hb r hsp => ?_⟩
  have hl := len _ _ _ _ hsp
  have KX : K.In s.heap := e0.mod.kin.keeps fun b o e => (e0.bs b o e).1
  have lim : s.heap.NoLimit := e0.mod.nolimit.keeps fun b o e => (e0.bs b o e).1
  refine ks_codeAny_call_defAt (body := b0 :: body) (binds := ps.zip us) hr.depth (KX _ _ lk) rfl lim (PySem.W.codeRec_of KX hcd) rfl hb S.nocell (fun y hy => S.par y.1 (List.of_mem_zip (show (y.1, y.2) ∈ ps.zip us from hy)).1) (fun h₁ hns hk => ?_) S.co S.gen S.kind
  obtain ⟨t, u, ht, hu, hq⟩ := hbody A outer s H vs Q E (hr.deeper _) hsp
  have I : Inv (cxS P w K mg base N qual scope f cdv cc A outer s H) [] (start N vs) H { s with heap := h₁, toks := s.toks + (ps.zip us).length } := inv_startS S hr.hd e0 hl r hcell hns hk
  have fin : ∀ {s' : Shared} {σ' : L2.St} {H' : Hp} {v : V} {u : Value}, Inv (cxS P w K mg base N qual scope f cdv cc A outer s H) [] σ' H' s' → RelV v u → Q v H' → CE outer P w H s Q u s' :=
    fun {s' σ' H' v u} J rv q => ⟨v, H', J.os, J.bare, J.base, J.hok, rv, q⟩
  have last : ∀ (fl : Flow) (s' : Shared), SP (cxS P w K mg base N qual scope f cdv cc A outer s H) [] { nx := fun _ H' => Q .non H', rt := Q } fl s' → CR CX0 outer P w H s Q E (.ok (.ret (match fl with | .ret v => v | _ => .none))) s' := by
    intro fl s' hs
    cases fl with
    | ret u =>
      obtain ⟨v, σ', H', J, rv, q⟩ := hs
      exact fin J rv q
    | next =>
      obtain ⟨σ', H', J, q⟩ := hs
      exact fin (v := V.non) (u := Value.none) J rfl q
    | brk =>
      obtain ⟨_, _, _, q⟩ := hs
      exact False.elim q
    | cont =>
      obtain ⟨_, _, _, q⟩ := hs
      exact False.elim q
  show _root_.PySem.wpAt (model P w) (A.deeper (PySem.W.ksEnv qual scope s.heap.objs.size f cdv cc)) (.func (b0 :: body) (PySem.W.ksEnv qual scope s.heap.objs.size f cdv cc)) (execs (b0 :: body) (PySem.W.ksEnv qual scope s.heap.objs.size f cdv cc)) _ _ _
  refine ks_wpAt_execs_cons (ks_wpAt_mono (ht [] _ _ _ _ I hq) (fun fl s' hs => ?_) fun e s' hs => False.elim hs)
  cases fl with
  | next =>
    obtain ⟨σ', H', J, q⟩ := hs
    exact wpAt_of_wpAny (wpAny_mono (hu.run [] s' σ' H' _ J q) (fun fl s2 hs => last fl s2 hs) fun e s' hs => False.elim hs)
  | ret u => exact last (.ret u) s' hs
  | brk =>
    obtain ⟨_, _, _, q⟩ := hs
    exact False.elim q
  | cont =>
    obtain ⟨_, _, _, q⟩ := hs
    exact False.elim q
end Kb

set_option Elab.async false
set_option linter.all false
set_option maxRecDepth 100000
set_option maxHeartbeats 4000000
namespace Kb
open PySem PySem.Spec PyProof.Rows L2

/-! ### what the written part says of an error class -/
def oexB (K : PySem.W.Frag) (C : Addr) : Bool := match K.lookup C with
  | some ⟨.type "type", _, .cls cd, sl⟩ => (match cd.mro, sl.toList with
    | .ref C' :: bm, [_, _, _, _, some (.builtin n), _] => C' == C && n == "ValueError.__new__" && !cd.hasDel && cd.hasDict && PySem.HandSPX.refsVE bm
    | _, _ => false)
  | _ => false
theorem oexB_ok {K : PySem.W.Frag} {C : Addr} (q : oexB K C = true) : ∃ nm q N bs bm sn sub ab col dd k0 k1 k2 k3 k5, K.lookup C = some (excClassObj nm q C N bs bm true sn sub ab col dd k0 k1 k2 k3 k5 "ValueError.__new__") ∧ PySem.HandSPX.refsVE bm = true := by
  unfold oexB at q
  split at q
  · rename_i dd cd sl ho
    split at q
    · rename_i C' bm k0 k1 k2 k3 n k5 hm hs
      simp only [Bool.and_eq_true, beq_iff_eq, Bool.not_eq_true'] at q
      obtain ⟨⟨⟨⟨rfl, rfl⟩, hdel⟩, hdict⟩, ht⟩ := q
      obtain ⟨nm, bs, mro, ns, qn, hd, sn, sub, ab, col, del⟩ := cd
      dsimp only at hm hdel hdict
      subst hm hdel hdict
      have hsl : sl = #[k0, k1, k2, k3, some (.builtin "ValueError.__new__"), k5] := by
        obtain ⟨l⟩ := sl
        simp only at hs
        rw [hs]
      subst hsl
      exact ⟨nm, qn, ns, bs, bm, sn, sub, ab, col, dd, k0, k1, k2, k3, k5, ho, ht⟩
    · cases q
  · cases q
/-- C, an error class below D (or D itself) -/
structure Bad (K : PySem.W.Frag) (C D : Addr) : Prop where
  ox : OexC K C
  sub : PySem.W.mroIn K C (.ref D) = some true
  opq : PySem.W.nsIn K PySem.cStatics "thirdparty.any" = some none
  sV : PySem.W.subIn K (.ref C) (.type "ValueError") = some true
  smV : PySem.W.ks_superIn K C D "__init__" = some (some (.builtin "ValueError.__init__"))
  ex : ExcC K C
  nw : PySem.W.findIn K (.ref C) "word" = some none
def badL (K : PySem.W.Frag) (C D : Addr) : List Bool :=
  [oexB K C, decide (PySem.W.findIn K (.ref C) "__setattr__" = some (some (.builtin "object.__setattr__"))), decide (PySem.W.subIn K (.ref C) (.type "BaseException") = some true), decide (PySem.W.typeIn K (.ref C) = some (.type "type")), PySem.W.keepIn K (.ref C),
   decide (PySem.W.mroIn K C (.ref D) = some true), decide (PySem.W.nsIn K PySem.cStatics "thirdparty.any" = some none), decide (PySem.W.subIn K (.ref C) (.type "ValueError") = some true), decide (PySem.W.ks_superIn K C D "__init__" = some (some (.builtin "ValueError.__init__"))),
   decide (PySem.W.findIn K (.ref C) "__getattribute__" = some (some (.builtin "BaseException.__getattribute__"))), decide (PySem.W.findIn K (.ref C) "__getattr__" = some none), PySem.W.hasDictIn K C, decide (PySem.W.findIn K (.ref C) "__class__" = some (some (.builtin "object.__class__"))),
   decide (PySem.W.specialIn K (.builtin "object.__class__") "__get__" = some (some (.builtin "getset_descriptor.__get__"))), decide (PySem.W.takesIn K (.builtin "object.__class__") = some true), decide (PySem.W.mroIn K C (.type "object") = some true), decide (PySem.W.findIn K (.ref C) "word" = some none)]
def badB (K : PySem.W.Frag) (C D : Addr) : Bool := (badL K C D).all id
theorem bad_of {K : PySem.W.Frag} {C D : Addr} (h : badB K C D = true) : Bad K C D := by
  unfold badB badL at h
  simp only [List.all_cons, List.all_nil, id_eq, Bool.and_true, Bool.and_eq_true, decide_eq_true_eq] at h
  obtain ⟨h1, h2, h3, h4, h5, h6, h7, h8, h9, h10, h11, h12, h13, h14, h15, h16, h17⟩ := h
  exact ⟨⟨oexB_ok h1, h2, h3, h4, h5⟩, h6, h7, h8, h9, ⟨h10, h11, h3, h12, h13, h14, h15, h16⟩, h17⟩
theorem Bad.xf {K : PySem.W.Frag} {C D : Addr} (B : Bad K C D) : XfC K C := ⟨B.ex.hg, B.ex.hk, B.ex.hs, B.ex.hd⟩
theorem Bad.cls {K : PySem.W.Frag} {C D : Addr} (B : Bad K C D) : ∃ cd, PySem.W.clsIn K C = some cd := by
  obtain ⟨nm, q, N, bs, bm, sn, sub, ab, col, dd, k0, k1, k2, k3, k5, hC, hbm⟩ := B.ox.cls
  exact ⟨_, by unfold PySem.W.clsIn; rw [hC] <;> rfl⟩
def fileB (K : PySem.W.Frag) (cd : Value) (file : Str) : Bool := match cd with
  | .ref c => (match K.lookup c with
    | some ⟨_, _, .fields vs, _⟩ => (match (vs[2]? : Option Value) with
      | some (Value.str f _) => file == f
      | _ => false)
    | _ => false)
  | _ => false
theorem fileB_ok {K : PySem.W.Frag} {cd : Value} {file : Str} (h : fileB K cd file = true) : ∃ (cda : Addr) (ccl : Value) (cdd : Option Addr) (vs : Array Value) (ccs : Array (Option Value)) (f : Str) (tf : Tok), cd = .ref cda ∧ K.lookup cda = some ⟨ccl, cdd, .fields vs, ccs⟩ ∧ vs[2]? = some (.str f tf) ∧ (file == f) = true := by
  unfold fileB at h
  split at h
  · split at h
    · rename_i hl
      split at h
      · rename_i hv
        exact ⟨_, _, _, _, _, _, _, rfl, hl, hv, h⟩
      · cases h
    · cases h
  · cases h

/-! ### the __init__ defs -/
def sp_CE (K : PySem.W.Frag) (D : Addr) : Sp := fun vs H Q E => ∃ (a C : Addr) (v : V), vs = [.ref a, v] ∧ Bad K C D ∧ H a = some (exo a C none) ∧
  ∀ dx, H dx = none → dx ≠ a → Q .non (upd (upd H dx (exd dx [("word", v)])) a (exo a C (some dx)))
def sp_B0 (C : Addr) (nm : Str) : Sp := fun vs H Q E => ∃ (a : Addr), vs = [.ref a] ∧ H a = some (exo a C none) ∧
  ∀ dx, H dx = none → dx ≠ a → Q .non (upd (upd H dx (exd dx [("word", .str nm)])) a (exo a C (some dx)))
def sp_B1 (C : Addr) (nm at1 : Str) : Sp := fun vs H Q E => ∃ (a : Addr) (v : V), vs = [.ref a, v] ∧ H a = some (exo a C none) ∧
  ∀ dx, H dx = none → dx ≠ a → Q .non (upd (upd (upd H dx (exd dx [("word", .str nm)])) a (exo a C (some dx))) dx (exd dx [(at1, v), ("word", .str nm)]))

section
variable {P : Program} {w : World} {K : PySem.W.Frag} {mg : Str → Option Value} {base : Heap}
/-- an __init__ of the text that says super() -/
structure SupI (P : Program) (K : PySem.W.Frag) (mg : Str → Option Value) (qual : Str) (s : Stmt) (D : Addr) (N : List Str) (f : Addr) (fd : FuncData) : Prop where
  ex : ∃ (oc : Value) (od : Option Addr) (dV kV doc pm : Value) (an : Option Addr) (cdv ct : Value) (osl : Array (Option Value)) (cc : Addr) (cl : Value) (cld : Option Addr) (csl : Array (Option Value)),
    fd = PySem.W.ksFn "__init__" qual (defArgs s) (defBody s) (defScope s) dV kV doc pm an cdv ct cc ∧ K.lookup f = some ⟨oc, od, .func fd, osl⟩ ∧ PySem.W.codeIn K cdv qual = true ∧ K.lookup cc = some ⟨cl, cld, .cell (some (.ref D)), csl⟩ ∧ fileB K cdv P.main.file = true
  sc : SupScope N N (defScope s)
  hs : (defScope s).names.lookup ("super" : Str) = some .globalImplicit
  hc : (defScope s).names.lookup ("__class__" : Str) = some .free
  hl : (defScope s).names.lookup ("self" : Str) = some .local
  ar : ∃ ar : Arg, ((defArgs s).posonlyargs ++ (defArgs s).args).head? = some ar ∧ ar.arg = "self"
  su : mg "super" = none
  tp : (P.main.scope.names.lookup ("super" : Str)).isSome = false
  dc : ∃ cd, PySem.W.clsIn K D = some cd

theorem SupI.supK {qual : Str} {s : Stmt} {D f : Addr} {fd : FuncData} {N : List Str} (S : SupI P K mg qual s D N f fd) {oc : Value} {od : Option Addr} {dV kV doc pm : Value} {an : Option Addr} {cdv ct : Value} {osl : Array (Option Value)} {cc : Addr} {cl : Value} {cld : Option Addr} {csl : Array (Option Value)}
    (hfd : fd = PySem.W.ksFn "__init__" qual (defArgs s) (defBody s) (defScope s) dV kV doc pm an cdv ct cc) (lk : K.lookup f = some ⟨oc, od, .func fd, osl⟩) (lc : K.lookup cc = some ⟨cl, cld, .cell (some (.ref D)), csl⟩) (hf : fileB K cdv P.main.file = true)
    (A : Around) (outer : List Env) (sh : Shared) (H : Hp) : SupK (cxS P w K mg base N qual (defScope s) f cdv cc A outer sh H) D := by
  obtain ⟨ar, h1, h2⟩ := S.ar
  obtain ⟨cda, ccl, cdd, vs, ccs, fl, tf, e, l, v, b⟩ := fileB_ok hf
  exact ⟨S.hs, S.hc, S.hl, ⟨f, oc, od, fd, osl, ar, rfl, lk, by subst hfd; exact h1, h2⟩, ⟨cda, ccl, cdd, vs, ccs, fl, tf, e, l, v, b⟩, ⟨cc, cl, cld, csl, by show List.lookup ("__class__" : Str) [(("__class__" : Str), cc)] = some cc; simp [List.lookup], lc⟩, S.su, S.tp, S.dc⟩

/-- super().__init__(e, ..) is a call of a method as it stands on one line -/
def SupEv (e : Expr) (es : List Expr) (p0 p1 p2 p3 p4 : Pos) : Prop := ∃ pl : Sem Bool, ∀ env : Env, eval (.Call (.Attribute (.Call (.Name "super" p0) [] [] p1) "__init__" p2) (e :: es) [] p3) env = (do
      let ov ← attributeBase (.Call (.Name "super" p0) [] [] p1) "__init__" env (eval (.Call (.Name "super" p0) [] [] p1) env)
      standAt p2.atName
      let (f, first) ← holding [ov] (getMethod ov "__init__" pl)
      callWith p3 f first (backTo p3 (starEach (e :: es) env)) [])
theorem ok_CE {s : Stmt} {D f : Addr} {fd : FuncData} {p0 p1 p2 p3 p4 q0 q1 q2 q3 q4 : Pos} (S : SupI P K mg "ChamberError.__init__" s D ["self", "word"] f fd)
    (hb : defBody s = [supStmt (.Name "word" q0) [] p0 p1 p2 p3 p4, .Assign [.Attribute (.Name "self" q1) "word" q2] (.Name "word" q3) q4])
    (ev : SupEv (.Name "word" q0) [] p0 p1 p2 p3 p4) (hw : (defScope s).names.lookup ("word" : Str) = some .local) : FnOk P w K mg base CX0 1 f fd ["self", "word"] (sp_CE K D) := by
  obtain ⟨oc, od, dV, kV, doc, pm, an, cdv, ct, osl, cc, cl, cld, csl, hfd, lk, hcd, lc, hf⟩ := S.ex
  have hfd' := hfd
  rw [hb] at hfd
  have lk' := lk
  subst hfd
  refine fn_sup lk' hcd lc S.sc (fun vs H Q E ⟨a, C, v, e, _⟩ => by rw [e]; rfl) fun A outer sh H vs Q E hr hsp => ?_
  have SK := S.supK (w := w) (base := base) hfd' lk lc hf A outer sh H
  have nd := S.sc.nd
  refine ⟨_, _, pst_supV SK rfl (pa_cons (pe_var (i := 1) rfl (.inl hw)) pa_nil) (hc := ev.choose_spec _), pss_one (ps_ost (pe_var (i := 0) rfl (.inl S.hl)) (pe_var (i := 1) rfl (.inl hw))), ?_⟩
  obtain ⟨a, C, v, rfl, B, ea, hq⟩ := hsp
  refine ⟨a, C, rfl, ea, B.ox, B.sub, B.opq, B.smV, B.sV, ?_⟩
  refine ⟨v, rfl, by simp, ea, ?_⟩
  exact ⟨v, rfl, .ref a, rfl, a, C, rfl, B.ox, B.nw, .inl ⟨ea, fun dx n ne => hq dx n ne⟩⟩
theorem ok_B0 {s : Stmt} {C D f f2 : Addr} {qual nm : Str} {fd fd2 : FuncData} {jc : Nat} {p0 p1 p2 p3 p4 q0 : Pos} (S : SupI P K mg qual s C ["self"] f fd)
    (hb : defBody s = [supStmt (.Constant (.str nm) jc q0) [] p0 p1 p2 p3 p4]) (ev : SupEv (.Constant (.str nm) jc q0) [] p0 p1 p2 p3 p4)
    (F1 : FnOk P w K mg base CX0 1 f2 fd2 ["self", "word"] (sp_CE K D)) (hbs : Binds K fd2 ["self", "word"] []) (B : Bad K C D) (sub : PySem.W.mroIn K C (.ref C) = some true) (sm : PySem.W.ks_superIn K C C "__init__" = some (some (.ref f2)))
    (ht : PySem.W.typeIn K (.ref f2) = some (.type "function")) (hf2 : PySem.W.fnIn K f2 = true) : FnOk P w K mg base CX0 2 f fd ["self"] (sp_B0 C nm) := by
  obtain ⟨oc, od, dV, kV, doc, pm, an, cdv, ct, osl, cc, cl, cld, csl, hfd, lk, hcd, lc, hf⟩ := S.ex
  have hfd' := hfd
  rw [hb] at hfd
  have lk' := lk
  subst hfd
  refine fn_sup lk' hcd lc S.sc (fun vs H Q E ⟨a, e, _⟩ => by rw [e]; rfl) fun A outer sh H vs Q E hr hsp => ?_
  have SK := S.supK (w := w) (base := base) hfd' lk lc hf A outer sh H
  refine ⟨_, _, pst_supF SK rfl F1 hr hbs pass0 ht hf2 (pa_cons pe_str pa_nil) (hc := ev.choose_spec _), pss_nil, ?_⟩
  obtain ⟨a, rfl, ea, hq⟩ := hsp
  refine ⟨a, C, rfl, ea, B.ox, sub, B.opq, sm, ?_⟩
  exact ⟨a, C, .str nm, rfl, B, ea, fun dx n ne => hq dx n ne⟩
theorem ok_B1 {s : Stmt} {C D f f2 : Addr} {qual nm at1 : Str} {fd fd2 : FuncData} {jc : Nat} {p0 p1 p2 p3 p4 q0 q1 q2 q3 q4 : Pos} (S : SupI P K mg qual s C ["self", at1] f fd)
    (hb : defBody s = [supStmt (.Constant (.str nm) jc q0) [] p0 p1 p2 p3 p4, .Assign [.Attribute (.Name "self" q1) at1 q2] (.Name at1 q3) q4]) (ev : SupEv (.Constant (.str nm) jc q0) [] p0 p1 p2 p3 p4)
    (hw : (defScope s).names.lookup at1 = some .local) (hd1 : (at1 == ("__debug__" : Str)) = false) (hd2 : (at1 == ("__classdict__" : Str)) = false) (na : PySem.W.findIn K (.ref C) at1 = some none)
    (F1 : FnOk P w K mg base CX0 1 f2 fd2 ["self", "word"] (sp_CE K D)) (hbs : Binds K fd2 ["self", "word"] []) (B : Bad K C D) (sub : PySem.W.mroIn K C (.ref C) = some true) (sm : PySem.W.ks_superIn K C C "__init__" = some (some (.ref f2)))
    (ht : PySem.W.typeIn K (.ref f2) = some (.type "function")) (hf2 : PySem.W.fnIn K f2 = true) : FnOk P w K mg base CX0 2 f fd ["self", at1] (sp_B1 C nm at1) := by
  obtain ⟨oc, od, dV, kV, doc, pm, an, cdv, ct, osl, cc, cl, cld, csl, hfd, lk, hcd, lc, hf⟩ := S.ex
  have hfd' := hfd
  rw [hb] at hfd
  have lk' := lk
  subst hfd
  refine fn_sup lk' hcd lc S.sc (fun vs H Q E ⟨a, v, e, _⟩ => by rw [e]; rfl) fun A outer sh H vs Q E hr hsp => ?_
  have SK := S.supK (w := w) (base := base) hfd' lk lc hf A outer sh H
  refine ⟨_, _, pst_supF SK rfl F1 hr hbs pass0 ht hf2 (pa_cons pe_str pa_nil) (hc := ev.choose_spec _), pss_one (ps_ost (pe_var (i := 0) rfl (.inl S.hl)) (pe_var (i := 1) rfl (.inl hw) hd1 hd2)), ?_⟩
  obtain ⟨a, v, rfl, ea, hq⟩ := hsp
  refine ⟨a, C, rfl, ea, B.ox, sub, B.opq, sm, ?_⟩
  refine ⟨a, C, .str nm, rfl, B, ea, fun dx n ne => ?_⟩
  refine ⟨v, rfl, .ref a, rfl, a, C, rfl, B.ox, na, .inr ⟨dx, [("word", .str nm)], upd_same, ?_, by simp, hq dx n ne⟩⟩
  rw [upd_ne ne, upd_same]
end

/-! ### C(..) in a raise -/
def tBad (C : Addr) (nm : Str) : L2.St → Hp → XK → Prop := fun σ H Q => ∀ d, H d = none → Q (.ref C) (some d) (upd H d (.xd [("word", .str nm)]))
def tBad1 (C : Addr) (nm at1 : Str) (te : TE) : L2.St → Hp → XK → Prop := tMkO C (sp_B1 C nm at1) [] (tCons te tNil)
theorem heap_end {H : Hp} {a dx : Addr} {o1 o2 o3 : HO} {fs : List (Str × V)} (n : H a = none) (ne : dx ≠ a) : upd (del (upd (upd (upd H a o1) dx o2) a o3) a) dx (.xd fs) = upd H dx (.xd fs) := by
  funext b
  by_cases h1 : b = dx
  · rw [h1, upd_same, upd_same]
  · rw [upd_ne h1, upd_ne h1]
    by_cases h2 : b = a
    · rw [h2, del_same, n]
    · rw [del_ne h2, upd_ne h2, upd_ne h1, upd_ne h2]
theorem heap_end1 {H : Hp} {a dx : Addr} {o1 o2 o3 o4 : HO} {fs : List (Str × V)} (n : H a = none) (ne : dx ≠ a) : upd (del (upd (upd (upd (upd H a o1) dx o2) a o3) dx o4) a) dx (.xd fs) = upd H dx (.xd fs) := by
  funext b
  by_cases h1 : b = dx
  · rw [h1, upd_same, upd_same]
  · rw [upd_ne h1, upd_ne h1]
    by_cases h2 : b = a
    · rw [h2, del_same, n]
    · rw [del_ne h2, upd_ne h1, upd_ne h2, upd_ne h1, upd_ne h2]
section
variable {X : Cx} {x : Str} {C fI : Addr} {k : Nat} {fd : FuncData} {p pos : Pos}
theorem run_bad {ps : List Str} {sp : Sp} (T : OexC X.K C) (iC : PySem.W.findIn X.K (.ref C) "__init__" = some (some (.ref fI))) (tI : PySem.W.typeIn X.K (.ref fI) = some (.type "function"))
    (F1 : FnOk X.prog X.w X.K X.mg X.base CX0 k fI fd ps sp) (hr : Room (k + 1) X.A) (hb : Binds X.K fd ps []) {pins : List (Addr × Obj)} {σ : L2.St} {H : Hp} {s : Shared} {Q : XK} (I : Inv X pins σ H s)
    (h : ∀ a, H a = none → sp [.ref a] (upd H a (exo a C none)) (fun v H2 => v = .non ∧ ∃ (d : Addr) (fs : List (Str × V)), H2 a = some (exo a C (some d)) ∧ H2 d = some (exd d fs) ∧ H d = none ∧ Q (.ref C) (some d) (upd (del H2 a) d (.xd fs))) (fun _ _ _ => False)) :
    wpAny (model X.prog X.w) X.A (call (.ref C) []) (MkP X pins σ Q) X.xe s := by
  obtain ⟨nm, q, N, bs, bm, sn, sub, ab, col, dd, k0, k1, k2, k3, k5, hC, hbm⟩ := T.cls
  obtain ⟨hp, g, dr, tk, os⟩ := s
  have hsz : hp.objs.size ≤ hp.objs.size + 1 := Nat.le_succ _
  have hn : H (hp.objs.size + 1) = none := I.hok.fresh hsz
  have hq := h (hp.objs.size + 1) hn
  have kk : ∀ b o, hp.get? b = some o → ((hp.push (PySem.W.kdv_tup [])).push (PySem.HandSPX.excO C hp.objs.size)).get? b = some o := fun b o e => Heap.get?_push_of_some _ (Heap.get?_push_of_some _ e)
  have hget : ((hp.push (PySem.W.kdv_tup [])).push (PySem.HandSPX.excO C hp.objs.size)).get? (hp.objs.size + 1) = some (PySem.HandSPX.excO C hp.objs.size) := by heap_get
  have I2 : Inv X pins σ (upd H (hp.objs.size + 1) (exo (hp.objs.size + 1) C none)) ⟨(hp.push (PySem.W.kdv_tup [])).push (PySem.HandSPX.excO C hp.objs.size), g, dr, tk, os⟩ :=
    I.laid (t' := tk) (a := hp.objs.size + 1) (o := exo (hp.objs.size + 1) C none) (h' := (hp.push (PySem.W.kdv_tup [])).push (PySem.HandSPX.excO C hp.objs.size)) kk hsz (exo_ok hget)
  have r2 : Vals [V.ref (hp.objs.size + 1)] [Value.ref (hp.objs.size + 1)] := .cons rfl .nil
  have hl : ([Value.ref (hp.objs.size + 1)] ++ []).length = ps.length := by
    have e := r2.length
    rw [F1.len _ _ _ _ hq] at e
    exact e.symm
  refine wpAny_call (PySem.HandSPX.call_own (rest := []) F.excBase_ValueError (fun Y => PySem.HandSPX.refsVE_contains Y bm hbm) (I.kIn _ _ hC) (PySem.W.looks_findIn I.kIn iC) (fun self => PySem.W.bind_fn I.kIn self tI) (Nat.zero_le _)
    (codeAny_mono (F1.run _ X.stack _ _ ⟨[Value.ref (hp.objs.size + 1)], []⟩ ([Value.ref (hp.objs.size + 1)] ++ []) _ _ (fun _ _ _ => False) (hr.make C [] []) (I2.env0.make C [] []) (hb _ [Value.ref (hp.objs.size + 1)] I2.kIn hl) r2 hq) fun r s' hq' => ?_))
  cases r with
  | error er => exact False.elim hq'
  | ok fl =>
    cases fl with
    | ret u =>
      obtain ⟨v, H2, os2, bare2, un2, hok2, rv, ev, d, fs, ea, ed, hd1, q2⟩ := hq'
      subst ev
      obtain ⟨h2, g2, d2, t2, os'⟩ := s'
      exact ⟨rv, mk_end (raises_own T.exC T.tyC) I hsz kk un2 hok2 os2 bare2 ea ed hd1 q2⟩
    | next => exact False.elim hq'
    | brk => exact False.elim hq'
    | cont => exact False.elim hq'
theorem pmk_bad0 {nm : Str} (T : OexC X.K C) (iC : PySem.W.findIn X.K (.ref C) "__init__" = some (some (.ref fI))) (tI : PySem.W.typeIn X.K (.ref fI) = some (.type "function"))
    (F1 : FnOk X.prog X.w X.K X.mg X.base CX0 k fI fd ["self"] (sp_B0 C nm)) (hr : Room (k + 1) X.A) (hb : Binds X.K fd ["self"] []) (hg : Gl X x) (hm : X.mg x = some (.ref C)) (hdb : (x == ("__debug__" : Str)) = false := by decide) :
    PMk X (.Call (.Name x p) [] [] pos) (tBad C nm) := by
  intro pins s σ H Q I h
  refine wpAny_Call_Name_kw (ld_glob I hg hm ?_ hdb)
  refine PySem.W.callWith_K0 I.kIn T.kC ?_
  refine run_bad T iC tI F1 hr hb I fun a na => ⟨a, rfl, upd_same, fun dx nx ne => ?_⟩
  have nx0 : H dx = none := by rw [upd_ne ne] at nx; exact nx
  refine ⟨rfl, dx, _, upd_same, by rw [upd_ne ne, upd_same], nx0, ?_⟩
  rw [heap_end na ne]
  exact h dx nx0
theorem pmk_bad1 {nm at1 : Str} {e : Expr} {te : TE} (T : OexC X.K C) (iC : PySem.W.findIn X.K (.ref C) "__init__" = some (some (.ref fI))) (tI : PySem.W.typeIn X.K (.ref fI) = some (.type "function"))
    (F1 : FnOk X.prog X.w X.K X.mg X.base CX0 k fI fd ["self", at1] (sp_B1 C nm at1)) (hr : Room (k + 1) X.A) (hb : Binds X.K fd ["self", at1] []) (hg : Gl X x) (hm : X.mg x = some (.ref C)) (ha : PE X e te) (hdb : (x == ("__debug__" : Str)) = false := by decide)
    (he : starEach [e] X.env = (false, eval e X.env) :: starEach [] X.env := by rfl) (hpl : (backTo pos (starEach [] X.env)).any (·.1) = false := by rfl) :
    PMk X (.Call (.Name x p) [e] [] pos) (tBad1 C nm at1 te) :=
  pmk_oex (CX := CX0) (dvs := []) (ds := []) (ta := tCons te tNil) T iC tI F1 hr hb .nil pass0 hg hm (pa_cons ha pa_nil he) hdb he hpl
end
/-- the question that tBad1 leaves behind its argument -/
theorem mk_bad1 {C : Addr} {nm at1 : Str} {v : V} {H1 : Hp} {Q : XK} (h : ∀ d, H1 d = none → Q (.ref C) (some d) (upd H1 d (.xd [(at1, v), ("word", .str nm)]))) :
    [v].length ≤ 1000 ∧ ∀ a, H1 a = none → sp_B1 C nm at1 (.ref a :: ([v] ++ [])) (upd H1 a (exo a C none)) (fun v H2 => v = .non ∧ ∃ (d : Addr) (fs : List (Str × V)), H2 a = some (exo a C (some d)) ∧ H2 d = some (exd d fs) ∧ H1 d = none ∧ Q (.ref C) (some d) (upd (del H2 a) d (.xd fs))) (fun _ _ _ => False) := by
  refine ⟨by simp, fun a na => ⟨a, v, rfl, upd_same, fun dx nx ne => ?_⟩⟩
  have nx0 : H1 dx = none := by rw [upd_ne ne] at nx; exact nx
  refine ⟨rfl, dx, _, ?_, upd_same, nx0, ?_⟩
  · rw [upd_ne (Ne.symm ne), upd_same]
  · rw [heap_end1 na ne]
    exact h dx nx0
end Kb

set_option Elab.async false
set_option linter.all false
set_option maxRecDepth 100000
set_option maxHeartbeats 4000000
namespace Kb
open PySem PySem.Spec PyProof.Rows L2

/-! ### except clauses, with and without 'as' -/
structure Cl where
  c : Value
  slot : Option Nat
  ts : Addr → Value → Option Addr → TS
def endsOf (D : Ends) : Option Nat → Ends
  | none => D
  | some i => { nx := fun σ' H' => D.nx (σ'.set i none) H', rt := D.rt, bk := fun σ' H' => D.bk (σ'.set i none) H', ct := fun σ' H' => D.ct (σ'.set i none) H' }
def setOf (σ : L2.St) (a : Addr) : Option Nat → L2.St
  | none => σ
  | some i => σ.set i (some (.ref a))
/-- what the clauses wish of an exception of the body, one after the other -/
def wAll (K : PySem.W.Frag) (Wout : WX) (D : Ends) : List Cl → WX
  | [] => Wout
  | q :: r => fun cls d σ H => ∃ b, PySem.W.exmOne K cls q.c = some b ∧ (b = true → ∀ a, H a = none → q.ts a cls d (endsOf D q.slot) (setOf σ a q.slot) H) ∧ (b = false → wAll K Wout D r cls d σ H)
inductive HdsA (X : Cx) : List ExceptHandler → List Cl → Prop
  | nil : HdsA X [] []
  | no {x : Str} {c : Value} {ts : Addr → Value → Option Addr → TS} {b₀ : Stmt} {suite : List Stmt} {np pos' : Pos} {hds : List ExceptHandler} {l : List Cl} (hc : Names X x c)
      (hsu : ∀ (a : Addr) (oe : Obj) (cls : Value) (d : Option Addr) (pn : List (Addr × Obj)), Zc cls d oe → (∃ vs, oe.data = .fields vs) → PSs (X.suite a ((a, oe) :: pn)) (b₀ :: suite) (ts a cls d)) (r : HdsA X hds l) :
      HdsA X (.ExceptHandler (some (.Name x np)) none (b₀ :: suite) pos' :: hds) (⟨c, none, ts⟩ :: l)
  | as {x n : Str} {i : Nat} {c : Value} {ts : Addr → Value → Option Addr → TS} {b₀ : Stmt} {suite : List Stmt} {np pos' : Pos} {hds : List ExceptHandler} {l : List Cl} (hc : Names X x c) (hi : X.N[i]? = some n) (hln : X.env.kindOf n = some .local)
      (hsu : ∀ (a : Addr) (oe : Obj) (cls : Value) (d : Option Addr) (pn : List (Addr × Obj)), Zc cls d oe → (∃ vs, oe.data = .fields vs) → PSs (X.suite a ((a, oe) :: pn)) (b₀ :: suite) (ts a cls d)) (r : HdsA X hds l) :
      HdsA X (.ExceptHandler (some (.Name x np)) (some n) (b₀ :: suite) pos' :: hds) (⟨c, some i, ts⟩ :: l)
section
variable {X : Cx} {body : List Stmt} {h₀ : ExceptHandler} {hds : List ExceptHandler} {l : List Cl} {pos : Pos} {tb : WX → TS} {Wout : WX}
theorem ps_try_all (hs : X.stack = X.env :: X.outer) (hf : X.env.frame = some X.env.locals) (hN : X.N.Nodup) (tk : Takes X Wout)
    (hb : ∀ (W : WX) (pn : List (Addr × Obj)) (xe : Value → Shared → Prop), Takes (X.tr pn xe) W → PassesOwn (model X.prog X.w) X.A X.env xe → PSs (X.tr pn xe) body (tb W))
    (hh : HdsA X (h₀ :: hds) l) : PS X (.Try body (h₀ :: hds) [] [] pos) (fun D σ H => tb (wAll X.K Wout D l) D σ H) := by
  refine ⟨fun pins s σ H D I h => ?_⟩
  have ok := I.ok
  have hfr : X.A.frames = some (X.env :: X.outer) := by rw [ok.frames, hs]
  refine wpAny_Try_except ?_
  refine wpAny_mono ((hb (wAll X.K Wout D l) (X.pn ++ pins) (fun e s₁ => wpAny (model X.prog X.w) X.A (noteFrame e X.env) (fun _ s₂ => wpAny (model X.prog X.w) X.A (setFlight e none) (fun _ s₃ =>
    wpAny (model X.prog X.w) X.A (handleBy e X.env (h₀ :: hds)) (SP X pins D) X.xe s₃) X.xe s₂) X.xe s₁) (fun u s' xx => ?_) PassesOwn.looking).run [] s σ H D (I.toTry _) h) (fun f s1 hsp => ?_) (fun e s1 he => he)
  · obtain ⟨a, B, sI, pins', σ', H', cls, d, rfl, J', nb, up, sky, na, os, ag, w⟩ := xx
    have J : Inv X pins σ' H' sI := J'.ofTry ok
    have sky' : Sky B (X.env :: X.outer) a (Zc cls d) X.env.locals s'.heap := by rw [← hs]; exact sky
    show wpAny (model X.prog X.w) X.A (noteFrame (.ref a) X.env) _ _ _
    refine Sky.land Zc.steady hfr hf sky' fun h3 fl3 up3 => ?_
    have J3 : Inv X pins σ' H' { s' with heap := h3 } := J.landed nb fl3.1 (up.trans up3) os ag
    obtain ⟨oe3, vs3, he3, hz3, hd3⟩ := fl3.there
    have notFr : ∀ {h : Heap} {o : Obj} {vs : Array Value}, h.FunFrames B (X.env :: X.outer) → h.get? a = some o → o.data = .fields vs → a ∉ frs (X.env :: X.outer) := fun {h o vs} ff e dd hm => by
      obtain ⟨_, o', e', hnf⟩ := ff.mem hm
      rw [e] at e'; cases e'
      exact hnf _ dd
    have nfr := notFr fl3.2.2.1 he3 hd3
    have nL : a ≠ X.env.locals := fun z => nfr (List.mem_filterMap.mpr ⟨X.env, List.mem_cons_self, by rw [hf, z]⟩)
    have nF : a ∉ X.fs := fun hm => by
      obtain ⟨e, he, q⟩ := List.mem_filterMap.mp hm
      exact nfr (List.mem_filterMap.mpr ⟨e, List.mem_cons_of_mem _ he, q⟩)
    have S3 := J3.suite he3 hd3 na nL nF
    have test : ∀ {x : Str} {c : Value} {np : Pos}, Names X x c → ∀ {Q : Value → Shared → Prop} {E : Value → Shared → Prop}, Q c { s' with heap := h3 } → wpAny (model X.prog X.w) (X.A.mark (some (.ref a))) (eval (.Name x np) X.env) Q E { s' with heap := h3 } := fun {x c np} hc {Q E} q => by
      obtain ⟨hg, hdbg, hm | ⟨hm, hv, hnn⟩⟩ := hc
      · exact ld_glob (X := X.suite a ((a, oe3) :: (X.pn ++ pins))) S3 hg hm q hdbg
      · exact ld_blt (X := X.suite a ((a, oe3) :: (X.pn ++ pins))) S3 hg hm hv q hnn hdbg
    have LT : PySem.W.Looks (model X.prog X.w) h3 (typeOf (.ref a)) cls := fun A Q E s k q => wpAny_typeOf_ref (k _ _ he3) (by rw [hz3.1]; exact q)
    have go : ∀ {hds' : List ExceptHandler} {l' : List Cl}, HdsA X hds' l' → wAll X.K Wout D l' cls d σ' H' →
        wpAny (model X.prog X.w) X.A (handleBy (.ref a) X.env hds') (SP X pins D) X.xe { s' with heap := h3 } := by
      intro hds' l' hk
      induction hk with
      | nil =>
        intro w
        refine wpAny_handleBy_nil ?_
        obtain ⟨k1, k2, k3, oe, vs, T, oT, ts', he, hz, hd, h1, hr⟩ := id fl3
        unfold PySem.passOn
        refine wpAny_bind (wpAny_field he hd h1 ?_)
        rw [if_neg (show ¬ ((Value.ref T == Value.none) = true) from by simp)]
        have fin : wpAny (model X.prog X.w) X.A (setFlight (.ref a) X.env.frame) (fun _ s4 => wpAny (model X.prog X.w) X.A (throw (.ref a) : Sem Flow) (SP X pins D) X.xe s4) X.xe { s' with heap := h3 } := by
          rw [hf]
          refine HandSPX.setFlight_upZ fl3 fun h4 hh4 up4 => wpAny_throw (tk _ _ ?_)
          exact ⟨a, B, sI, pins, σ', H', cls, d, rfl, J, nb, (up.trans up3).trans up4, .inr (.inr (by rw [hs]; exact hh4)), na, os, ag, w⟩
        first
          | exact wpAny_bind (wpAny_pure (wpAny_bind fin))
          | exact wpAny_bind fin
      | @no x c ts b₀ suite np pos' hds2 l2 hc hsu r ih =>
        intro w
        obtain ⟨b, hb1, hyes, hno⟩ := w
        refine wpAny_handleBy_cons (codeAny_handlers_test ?_) (by intro q; cases q)
        refine test hc ((PySem.W.exm_one (M := model X.prog X.w) (J3.kIn) LT hb1).here ?_)
        cases b with
        | true =>
          refine codeAny_handlers_suite ?_
          refine HandSPX.lands_againZ fl3 fun h4 fl4 up4 => ?_
          have J4 : Inv X pins σ' H' { s' with heap := h4 } := J.landed nb fl4.1 ((up.trans up3).trans up4) os ag
          obtain ⟨oe4, vs4, he4, hz4, hd4⟩ := fl4.there
          have S4 := J4.suite he4 hd4 na nL nF
          refine wpAny_mono ((hsu a oe4 cls d (X.pn ++ pins) hz4 ⟨_, hd4⟩).run [] _ _ H' _ S4 (hyes rfl a na)) (fun f s6 hsp => ?_) (fun _ _ z => False.elim z)
          cases f with
          | next =>
            obtain ⟨σ6, H6, S6, q6⟩ := hsp
            exact ⟨_, _, S6.unsuite ok, q6⟩
          | brk =>
            obtain ⟨σ6, H6, S6, q6⟩ := hsp
            exact ⟨_, _, S6.unsuite ok, q6⟩
          | cont =>
            obtain ⟨σ6, H6, S6, q6⟩ := hsp
            exact ⟨_, _, S6.unsuite ok, q6⟩
          | ret u =>
            obtain ⟨v6, σ6, H6, S6, r6, q6⟩ := hsp
            exact ⟨_, _, _, S6.unsuite ok, r6, q6⟩
        | false =>
          show wpAny _ X.A (handleBy (.ref a) X.env hds2) _ _ _
          exact ih (hno rfl)
      | @as x n i c ts b₀ suite np pos' hds2 l2 hc hi hln hsu r ih =>
        intro w
        obtain ⟨b, hb1, hyes, hno⟩ := w
        have hloc : Loc X.env.scope n := .inl hln
        refine wpAny_handleBy_cons (codeAny_handlers_test ?_) (by intro q; cases q)
        refine test hc ((PySem.W.exm_one (M := model X.prog X.w) (J3.kIn) LT hb1).here ?_)
        cases b with
        | true =>
          refine codeAny_handlers_suite_as ?_
          refine HandSPX.lands_againZ fl3 fun h4 fl4 up4 => ?_
          have J4 : Inv X pins σ' H' { s' with heap := h4 } := J.landed nb fl4.1 ((up.trans up3).trans up4) os ag
          obtain ⟨oe4, vs4, he4, hz4, hd4⟩ := fl4.there
          have S4 := J4.suite he4 hd4 na nL nF
          refine store_ok (X := X.suite a ((a, oe4) :: (X.pn ++ pins))) (v := .ref a) S4 hN hi hloc rfl (fun s5 S5 => ?_) (.inr hln)
          refine wpAny_mono ((hsu a oe4 cls d (X.pn ++ pins) hz4 ⟨_, hd4⟩).run [] s5 _ H' _ S5 (hyes rfl a na)) (fun f s6 hsp => ?_) (fun _ _ z => False.elim z)
          have end_ : ∀ {σ6 : L2.St} {H6 : Hp} {Q : Shared → Prop}, Inv (X.suite a ((a, oe4) :: (X.pn ++ pins))) [] σ6 H6 s6 → (∀ s7, Inv X pins (σ6.set i none) H6 s7 → Q s7) →
              wpAny (model X.prog X.w) X.A (do bindName X.env n .none; unbindBehindTheSuite X.env n pos') (fun _ s7 => Q s7) X.xe s6 := fun {σ6 H6 Q} S6 hq => gone_ok (S6.unsuite ok) hN hi hln hq
          cases f with
          | next =>
            obtain ⟨σ6, H6, S6, q6⟩ := hsp
            exact end_ S6 fun s7 J7 => ⟨_, _, J7, q6⟩
          | brk =>
            obtain ⟨σ6, H6, S6, q6⟩ := hsp
            exact end_ S6 fun s7 J7 => ⟨_, _, J7, q6⟩
          | cont =>
            obtain ⟨σ6, H6, S6, q6⟩ := hsp
            exact end_ S6 fun s7 J7 => ⟨_, _, J7, q6⟩
          | ret u =>
            obtain ⟨v6, σ6, H6, S6, r6, q6⟩ := hsp
            exact end_ S6 fun s7 J7 => ⟨_, _, _, J7, r6, q6⟩
        | false =>
          show wpAny _ X.A (handleBy (.ref a) X.env hds2) _ _ _
          exact ih (hno rfl)
    exact go hh w
  · cases f with
    | next =>
      obtain ⟨σ', H', J', q⟩ := hsp
      exact wpAny_execs_nil ⟨σ', H', J'.ofTry ok, q⟩
    | brk =>
      obtain ⟨σ', H', J', q⟩ := hsp
      exact ⟨σ', H', J'.ofTry ok, q⟩
    | cont =>
      obtain ⟨σ', H', J', q⟩ := hsp
      exact ⟨σ', H', J'.ofTry ok, q⟩
    | ret u =>
      obtain ⟨v, σ', H', J', r, q⟩ := hsp
      exact ⟨v, σ', H', J'.ofTry ok, r, q⟩
end

/-! ### a call that may raise, the locals kept -/
def tCallW (sp : Sp) (W : WX) (t : TA) : TE := fun σ H Q => t σ H fun vs H1 => sp vs H1 Q (fun cls d H' => W cls d σ H')
section
variable {X : Cx} {k : Nat} {ps : List Str} {sp : Sp} {x : Str} {p pos : Pos} {e : Expr} {es : List Expr} {t : TA} {W : WX}
theorem pe_callW (tk : Takes X W) (G : Fn X.prog X.w X.K X.mg X.base (L2.CX X.prog X.w) k x ps sp) (hr : Room k X.A) (hg : Gl X x) (ha : PA X (e :: es) t) (hdb : (x == ("__debug__" : Str)) = false := by decide)
    (he : starEach (e :: es) X.env = (false, eval e X.env) :: starEach es X.env := by rfl) (hpl : (backTo pos (starEach es X.env)).any (·.1) = false := by rfl) : PE X (.Call (.Name x p) (e :: es) [] pos) (tCallW sp W t) := by
  obtain ⟨f, fd, F, hm, hk, hb⟩ := G.ex
  refine ⟨fun pins s σ H Q I h => ?_⟩
  refine wpAny_Call_Name_kw (ld_glob I hg hm ?_ hdb)
  refine PySem.W.callWith_K (h₀ := X.base) I.ok.mod.kin hk (thn (ha.run pos pins s σ H _ I h) fun us s1 ⟨vs, H1, I1, r, q⟩ => ⟨I1.kIn, ?_⟩) he hpl
  show wpAny _ _ (call (.ref f) us) _ _ _
  have hl : (us ++ []).length = ps.length := by rw [List.append_nil, ← r.length]; exact F.len _ _ _ _ q
  have hbs := hb s1 us I1.kIn hl
  rw [List.append_nil] at hbs
  refine wpAny_call (codeAny_mono (F.run X.A X.stack s1 H1 ⟨us, []⟩ us vs Q (fun cls d H' => W cls d σ H') hr I1.env0 hbs r q) fun r s' hq => ?_)
  cases r with
  | error e => exact tk e s' (XE.of_call I1 (fun cls d H' h => h) hq)
  | ok fl =>
    cases fl with
    | ret u => exact I1.after hq
    | next => exact False.elim hq
    | brk => exact False.elim hq
    | cont => exact False.elim hq
end

/-! ### in a suite: e.f, isinstance(e, ..) -/
/-- e.f -/
def tXfA (K : PySem.W.Frag) (a : Addr) (cls : Value) (d : Option Addr) (n : Str) (te : TE) : TE := fun σ H Q => ∃ C : Addr, cls = .ref C ∧ XfC K C ∧ PySem.W.findIn K (.ref C) n = some none ∧ tXf a cls d C n te σ H Q
/-- what isinstance's second says -/
def IsOf (K : PySem.W.Frag) (H : Hp) (C : Addr) (c : V) (b : Bool) : Prop :=
  (∃ cv, (∀ u, RelV c u → u = cv) ∧ PySem.W.kitOne K (.ref C) cv = some b) ∨ ∃ (tp : Addr) (cs : List V) (its : List Value), c = .ref tp ∧ SqT K H tp cs ∧ (∀ us, Vals cs us → us = its) ∧ PySem.W.kitAny K (.ref C) its = some b
def rIsX (K : PySem.W.Frag) (a : Addr) (cls : Value) (d : Option Addr) : List V → Hp → VK → Prop := fun xs H Q =>
  ∃ (c : V) (C dd : Addr) (fs : List (Str × V)) (b : Bool), xs = [.ref a, c] ∧ cls = .ref C ∧ d = some dd ∧ H dd = some (.xd fs) ∧ ExcC K C ∧ IsOf K H C c b ∧ Q (.bl b) H
section
variable {X : Cx} {a : Addr} {oe : Obj} {cls : Value} {d : Option Addr} {pn : List (Addr × Obj)} {e : Expr} {te : TE} {pos : Pos} {n : Str}
theorem pe_xfA (hz : Zc cls d oe) (hf : ∃ vs, oe.data = .fields vs) (he : PE (X.suite a ((a, oe) :: pn)) e te) (hb : attributeBase e n X.env (eval e X.env) = eval e X.env := by rfl) :
    PE (X.suite a ((a, oe) :: pn)) (.Attribute e n pos) (tXfA X.K a cls d n te) := by
  refine ⟨fun pins s σ H Q I h => ?_⟩
  obtain ⟨C, ec, T, hno, h⟩ := h
  exact (pe_xf T hno hz hf he hb).run pins s σ H Q I h
theorem call_isX (hz : Zc cls d oe) (hf : ∃ vs, oe.data = .fields vs) : CallR (X.suite a ((a, oe) :: pn)) (.builtin "isinstance") (rIsX X.K a cls d) := by
  intro pins s σ H xs us Q I r h
  obtain ⟨c, C, dd, fs, b, rfl, ec, ed, hdd, E, io, q⟩ := h
  subst ec
  subst ed
  cases r with
  | cons rx rr =>
    cases rr with
    | cons rt rr =>
      cases rr
      cases rx
      obtain ⟨hget, _⟩ := I.pin (a, oe) (List.mem_append.mpr (.inl List.mem_cons_self))
      obtain ⟨vs, hv⟩ := hf
      have hx : ObjOk X.prog X.w H s.heap dd (.xd fs) := I.hok dd _ hdd
      obtain ⟨od, hod⟩ : ∃ od, s.heap.get? dd = some od := by
        obtain ⟨mA, ⟨o, es, ep, e1, _⟩, _⟩ := hx
        exact ⟨o, e1⟩
      have J : PySem.W.InstAt s.heap a oe C (some od) := by
        obtain ⟨oc, od', oda, osl⟩ := oe
        obtain ⟨h1, h2⟩ := hz
        dsimp only at h1 h2 hv
        subst h1 h2 hv
        exact ⟨hget, rfl, rfl, hod⟩
      obtain ⟨cd, hcd, _⟩ := PySem.W.any_some E.hd
      have KT := PySem.W.kitx_exc (x := a) (ox := oe) (od := some od) (by rw [hcd]; rfl) E.hg E.hk E.hs E.ha E.hn E.ht E.hm
      rcases io with ⟨cv, hcv, e⟩ | ⟨tp, cs, its, rfl, htp, hits, e⟩
      · have ec := hcv _ rt
        subst ec
        exact PySem.W.kia_one KT I.kIn J e (fun z => nomatch z) fun tk => ⟨.bl b, H, I.kept (t' := tk) fun _ _ z => z, rfl, q⟩
      · obtain ⟨its', r', ⟨o, eo, oc, nn, dt⟩, _⟩ := I.tuple htp
        have e2 := hits _ r'
        subst e2
        cases rt
        obtain ⟨o1, o2, o3, o4⟩ := o
        dsimp only at oc dt
        subst oc
        subst dt
        exact PySem.W.kia_tup KT I.kIn J (its := its') eo e (fun z => nomatch z) fun tk => ⟨.bl b, H, I.kept (t' := tk) fun _ _ z => z, rfl, q⟩
end
end Kb

set_option Elab.async false
set_option linter.all false
set_option maxRecDepth 100000
set_option maxHeartbeats 4000000
/-! enumerate of a tuple, from any count -/
namespace Kb
open PySem PySem.Spec PyProof.Rows L2

def IteT (K : PySem.W.Frag) (a : Addr) (k : Int) : It :=
  ⟨fun i H => ∃ (xs : List V) (x : V), SqT K H a xs ∧ xs[i]? = some x, fun i H v H' => ∃ T x, v = .ref T ∧ H T = none ∧ H' = upd H T (.tup [.int (k + (i : Nat)), x]) ∧ ∀ xs, SqT K H a xs → xs[i]? = some x, fun i H => ∃ xs : List V, SqT K H a xs ∧ xs.length = i⟩
theorem turn_enumT {P : Program} {w : World} {K : PySem.W.Frag} {elts : List Expr} {kk : Nat} {tpos : Pos} (a e it : Addr) (k : Int) (hal : e ≠ it) :
    Turn P w K (.Tuple elts kk tpos) (IteT K a k) [e, it] e (fun i h => (∃ old, IsEnum h e it (k + ((i : Nat) : Int)) old) ∧ h.IsTupleIter it a i) where
  mem := by simp
  obj := fun i h st b hb => by
    obtain ⟨⟨old, he⟩, ⟨o, ho, hc, hd⟩⟩ := st
    have e' : b = e ∨ b = it := by simpa using hb
    rcases e' with z | z
    · rw [z]; exact ⟨_, he, fun v q => nomatch q⟩
    · rw [z]; exact ⟨o, ho, fun v q => by rw [hd] at q; cases q⟩
  keep := fun i h h' st k => let ⟨⟨old, he⟩, hi⟩ := st; ⟨⟨old, k e (by simp) _ he⟩, hi.at fun o q => k it (by simp) o q⟩
  item := by
    intro X hP hw hK hc i pins s σ H E I hf st hg
    subst hP hw hK
    obtain ⟨⟨old, he⟩, hit⟩ := st
    obtain ⟨xs, x, hq, hx⟩ := hg
    obtain ⟨its, rv, p, hz⟩ := I.tuple hq
    obtain ⟨u, hu, ru⟩ := rv.get hx
    have hel : e < s.heap.objs.size := Heap.lt_size he
    have hil : it < s.heap.objs.size := by obtain ⟨_, q, _⟩ := hit; exact Heap.lt_size q
    have hne2 : a ≠ it := by
      rintro rfl
      obtain ⟨o1, e1, c1, d1⟩ := hit
      obtain ⟨o2, e2, c2, _⟩ := p
      rw [e1] at e2; cases e2
      rw [c1] at c2; exact absurd c2 (by decide)
    have hne3 : e ≠ a := by
      rintro rfl
      obtain ⟨o2, e2, c2, _⟩ := p
      rw [he] at e2; cases e2
      exact absurd (show (Value.type "enumerate") = .type "tuple" from c2) (by decide)
    have hil2 : i < its.toArray.size := by
      have := (List.getElem?_eq_some_iff.mp hu).1
      simpa using this
    refine wpAny_pyNext_enum_itemC (Draws.tuple (A := X.A.in1) (I.ok.hd hc) it a hne2 its.toArray) he ⟨hit, p⟩ hil2 hal (by simp [hal, hne3]) fun x' h' tk hx' ho hs' hT hsz hk => ?_
    have hxx : its.toArray[i]? = some x' := hx'
    have eux : u = x' := by
      have z : its[i]? = some x' := by simpa using hxx
      rw [hu] at z
      exact Option.some.inj z
    subst eux
    refine ⟨_, rfl, wpAny_letOwnedTupleGo_enum (s := { s with heap := h', toks := tk + 1 }) ho fun h'' he' sb => ?_⟩
    have hT2 : h''.get? s.heap.objs.size = some { cls := .type "tuple", data := .seq #[.int (k + (i : Nat)) tk, u] } := (sb.2 _ (Nat.ne_of_gt hel)).trans hT
    have new : ObjOk X.prog X.w (upd H s.heap.objs.size (.tup [.int (k + (i : Nat)), x])) h'' s.heap.objs.size (.tup [.int (k + (i : Nat)), x]) :=
      ⟨by show 2 ≤ sizeLine; decide, [.int (k + (i : Nat)) tk, u], .cons ⟨_, rfl⟩ (.cons ru .nil), ⟨_, hT2, rfl, _, rfl⟩⟩
    have I1 : Inv X pins σ (upd H s.heap.objs.size (.tup [.int (k + (i : Nat)), x])) { s with heap := h'', toks := tk + 1 } :=
      I.turnedNew (ch := [e, it]) (fun b ob hb q => (sb.2 b (fun z => hb (by simp [z]))).trans (hk b ob (fun z => hb (by simp [z])) (fun z => hb (by simp [z])) q)) hf (Nat.le_refl _) new
    refine ⟨.ref s.heap.objs.size, _, I1, rfl, ⟨_, x, rfl, I.hok.fresh (Nat.le_refl _), rfl, fun ys hy => by rw [I.tuple_inj hy hq]; exact hx⟩, ⟨⟨u, ?_⟩, hs'.1.at fun o q => (sb.2 it (Ne.symm hal)).trans q⟩, fun b hb => ?_⟩
    · have e1 : (k + ((i + 1 : Nat) : Int)) = k + (i : Int) + 1 := by omega
      rw [e1]; exact he'
    · have hb' : b < s.heap.objs.size := by
        have e' : b = e ∨ b = it := by simpa using hb
        rcases e' with z | z
        · rw [z]; exact hel
        · rw [z]; exact hil
      rw [upd_ne (Nat.ne_of_lt hb')]
      exact (hf b hb).1
  done := by
    intro X hP hw hK hc i pins s σ H E I hf st hg
    subst hP hw hK
    obtain ⟨⟨old, he⟩, hit⟩ := st
    obtain ⟨xs, hq, hx⟩ := hg
    obtain ⟨its, rv, p, hz⟩ := I.tuple hq
    obtain ⟨f0, f1, f2, f3, f4, f5⟩ := hf it (by simp)
    have hl := rv.length
    have hne2 : a ≠ it := by
      rintro rfl
      obtain ⟨o1, e1, c1, d1⟩ := hit
      obtain ⟨o2, e2, c2, _⟩ := p
      rw [e1] at e2; cases e2
      rw [c1] at c2; exact absurd c2 (by decide)
    have en : i = its.toArray.size := by simp; omega
    subst en
    exact wpAny_pyNext_enum_endD (Draws.tuple (A := X.A.in1) (I.ok.hd hc) it a hne2 its.toArray) he ⟨hit, p⟩ fun h' eb => ⟨rfl, I.turned (t' := s.toks) (fun b o hb q => eb b o hb q) f0 f1 f3 f4 f5⟩
  self := fun A i s Q E st h => let ⟨⟨_, he⟩, _⟩ := st; wpAny_pyIter_enum he h

set_option maxHeartbeats 1000000 in
theorem meets_enum1 {v : Value} {o : Obj} {H : Heap → Prop} (B : Begins v o H) :
    Meets (Builtin.«enumerate.__new__» ⟨[.type "enumerate", v], []⟩) (fun _ R s => H s.heap ∧
      R (.ok (.ret (.ref (s.heap.push o).objs.size))) { s with heap := (s.heap.push o).push { cls := .type "enumerate", data := .fields #[.none, .bool false, .ref s.heap.objs.size, rawInt 0, .none, .none] } }) :=
  .of_wp fun prog w A R s h => by
    obtain ⟨hp, g, d, tk, os⟩ := s; obtain ⟨h1, h⟩ := h
    have hsub := sub_enumerate
    have q1 : ∀ {A' : Around} {E : Value → Shared → Prop} {Q : Value → Shared → Prop}, Q (.ref hp.objs.size) ⟨hp.push o, g, d, tk, os⟩ → wpAny (model prog w) A' (pyIter v) Q E ⟨hp, g, d, tk, os⟩ :=
      fun q => B.iter prog w _ _ ⟨hp, g, d, tk, os⟩ _ h1 q
    wp_walk using q1
    refine wpAny_stack_any fun st => wpAny_pure ?_
    split
    · rename_i c _ _ _ _ _
      cases (c == Value.type "enumerate")
      · wp_walk using q1
        exact ⟨_, rfl, h⟩
      · wp_walk using q1
        exact ⟨_, rfl, h⟩
    · wp_walk using q1
      exact ⟨_, rfl, h⟩
theorem enum_begins1 {prog : Program} {w : World} {A : Around} {E : Value → Shared → Prop} {s : Shared} {v : Value} {o : Obj} {H : Heap → Prop} {Q : Value → Shared → Prop} (B : Begins v o H) (h1 : H s.heap)
    (h : ∀ h', IsEnum h' (s.heap.objs.size + 1) s.heap.objs.size 0 .none → h'.get? s.heap.objs.size = some o → h'.objs.size = s.heap.objs.size + 2 →
      (∀ b o, s.heap.get? b = some o → h'.get? b = some o) → Q (.ref (s.heap.objs.size + 1)) { s with heap := h' }) :
    wpAny (model prog w) A (call (.type "enumerate") [v]) Q E s := by
  refine callType_new F.called_enumerate (by decide) (F.typeCall_enumerate_1 _) (F.newCall_enumerate_1 _) (fun obj => F.args_object_init_2 obj _) F.entry_enumerate_new
    (meets_enum1 B) ⟨h1, ?_⟩
  have hz : (s.heap.push o).objs.size = s.heap.objs.size + 1 := Heap.size_push ..
  show _ ∧ _
  rw [hz]
  have he : IsEnum ((s.heap.push o).push { cls := .type "enumerate", data := .fields #[.none, .bool false, .ref s.heap.objs.size, rawInt 0, .none, .none] }) (s.heap.objs.size + 1) s.heap.objs.size 0 .none := by
    have := Heap.get?_push_size (s.heap.push o) (o := { cls := .type "enumerate", data := .fields #[.none, .bool false, .ref s.heap.objs.size, rawInt 0, .none, .none] }) rfl
    rw [hz] at this; exact this
  refine ⟨⟨_, he, rfl⟩, h _ he (Heap.get?_push_of_some _ (Heap.get?_push_size _ B.free)) (by rw [Heap.size_push, hz]) fun b o x => Heap.get?_push_of_some _ (Heap.get?_push_of_some _ x)⟩
/-- enumerate(t), enumerate(t, start=k): t a tuple -/
def iEnT (K : PySem.W.Frag) (k : Int) (ta : TA) : TI := fun σ H R => ta σ H fun vs H1 => ∃ a xs, vs = [.ref a] ∧ SqT K H1 a xs ∧ R (IteT K a k) H1
theorem callWith_tyKw {M : Model} {A : Around} {E : Value → Shared → Prop} {s : Shared} {pos : Pos} {T : String} {env : Env} {e : Expr} {rest : List Expr} {kws : List Keyword} {Q : Value → Shared → Prop}
    (h : wpAny M A (spliced (backTo pos (starEach (e :: rest) env))) (fun vs s₁ => wpAny M A (evalAll ((backToKw pos (keywordEach kws env)).map (·.2)))
      (fun kvs s₂ => wpAny M A (call (.type T) vs (((backToKw pos (keywordEach kws env)).filterMap (·.1)).zip kvs)) Q E s₂) E s₁) E s)
    (hall : (backToKw pos (keywordEach kws env)).all (·.1.isSome) = true) (hplain : ((backTo pos (starEach (e :: rest) env)).any (·.1) || (backToKw pos (keywordEach kws env)).any (·.1.isNone)) = false) (he : starEach (e :: rest) env = (false, eval e env) :: starEach rest env) :
    wpAny M A (callWith pos (.type T) [] (backTo pos (starEach (e :: rest) env)) (backToKw pos (keywordEach kws env))) Q E s :=
  PySem.W.callWith_of (P := fun _ => True) hplain (fun h _ => ⟨.machine, .inr (.inl rfl), PySem.W.Looks.now⟩) (PyProof.Rows.evalArgs_kw2 hall (thn h fun vs s1 h1 => thn h1 fun ks s2 h2 => ⟨trivial, h2⟩) he)
section
variable {X : Cx} {e : Expr} {ta : TA} {p pos tpos kp cp : Pos} {elts : List Expr} {kk j : Nat} {k : Int}
theorem enumT_end {pins : List (Addr × Obj)} {σ : L2.St} {H1 : Hp} {s1 : Shared} {R : It → Hp → Prop} {a : Addr} {h' : Heap} {t' : Nat} (I1 : Inv X pins σ H1 s1) (he : IsEnum h' (s1.heap.objs.size + 1) s1.heap.objs.size k .none)
    (hit : h'.get? s1.heap.objs.size = some { cls := .type "tuple_iterator", data := .fields #[.ref a, .int 0 0] }) (hk : ∀ b o, s1.heap.get? b = some o → h'.get? b = some o) (q : R (IteT X.K a k) H1) :
    wpAny (model X.prog X.w) X.A (pyIter (.ref (s1.heap.objs.size + 1))) (PIE X pins σ (.Tuple elts kk tpos) R) X.xe { s1 with heap := h', toks := t' } := by
  refine wpAny_pyIter_enum he ?_
  have I2 : Inv X pins σ H1 { s1 with heap := h', toks := t' } := I1.kept (t' := t') hk
  refine ⟨s1.heap.objs.size + 1, [s1.heap.objs.size + 1, s1.heap.objs.size], _, _, H1, rfl, I2, turn_enumT a (s1.heap.objs.size + 1) s1.heap.objs.size k (Nat.succ_ne_self _), ⟨⟨.none, by simpa using he⟩, ⟨_, hit, rfl, rfl⟩⟩, fun b hb => ?_, q⟩
  have e' : b = s1.heap.objs.size + 1 ∨ b = s1.heap.objs.size := by simpa using hb
  have hle : s1.heap.objs.size ≤ b := by
    rcases e' with z | z
    · rw [z]; exact Nat.le_add_right _ _
    · rw [z]; exact Nat.le_refl _
  exact I1.fpOk hle (I1.hok.fresh hle)
theorem pi_enumT (hg : Gl X "enumerate") (hm : X.mg "enumerate" = none) (ha : PA X [e] ta) (hs : starEach [e] X.env = [(false, eval e X.env)] := by rfl) :
    PI X (.Tuple elts kk tpos) (.Call (.Name "enumerate" p) [e] [] pos) (iEnT X.K 0 ta) := by
  refine ⟨fun pins s σ H R I h => ?_⟩
  refine Call_ (ld_blt I hg hm boot_enumerate (PyProof.Rows.callWith_type1 (thn (ha.run pos pins s σ H _ I h) fun us s1 ⟨vs, H1, I1, r1, q1⟩ => ?_) hs rfl))
  obtain ⟨a, xs, ex, hq, q⟩ := q1
  subst ex
  cases r1 with
  | cons r rr =>
    cases rr
    cases r
    obtain ⟨its, rv, p', hz⟩ := I1.tuple hq
    refine enum_begins1 (begins_tuple a its.toArray) p' fun h' he hit hsz hk => ?_
    exact enumT_end (t' := s1.toks) I1 he hit hk q
theorem pi_enumS (hg : Gl X "enumerate") (hm : X.mg "enumerate" = none) (ha : PA X [e] ta) (h0 : -(2 ^ 63) ≤ k) (h1 : k < 2 ^ 63) (hs : starEach [e] X.env = [(false, eval e X.env)] := by rfl)
    (hc : eval (.Call (.Name "enumerate" p) [e] [⟨some "start", .Constant (.int k) j cp, kp⟩] pos) X.env = (do
      callWith pos (← eval (.Name "enumerate" p) X.env) [] (backTo pos (starEach [e] X.env)) (backToKw pos (keywordEach [⟨some "start", .Constant (.int k) j cp, kp⟩] X.env))) := by rfl) :
    PI X (.Tuple elts kk tpos) (.Call (.Name "enumerate" p) [e] [⟨some "start", .Constant (.int k) j cp, kp⟩] pos) (iEnT X.K k ta) := by
  refine ⟨fun pins s σ H R I h => ?_⟩
  rw [hc]
  refine wpAny_bind (ld_blt I hg hm boot_enumerate (callWith_tyKw (thn (ha.run pos pins s σ H _ I h) fun us s1 ⟨vs, H1, I1, r1, q1⟩ => ?_) rfl (by rw [hs] <;> rfl) hs))
  refine thn ((pk_cons (nm := some "start") (kpos := kp) (pe_int (j := j) (pos := cp)) pk_nil).run pos pins s1 σ H1 (fun ws H2 => ws = [.int k] ∧ H2 = H1) I1 ⟨rfl, rfl⟩) fun ks s2 ⟨ws, H2, I2, r2, ew, eH⟩ => ?_
  subst ew
  subst eH
  obtain ⟨a, xs, ex, hq, q⟩ := q1
  subst ex
  cases r1 with
  | cons r rr =>
    cases rr
    cases r
    cases r2 with
    | cons r3 rr =>
      cases rr
      obtain ⟨t3, rfl⟩ := r3
      obtain ⟨its, rv, p', hz⟩ := I2.tuple hq
      refine PySem.enum_begins_start (begins_tuple a its.toArray) p' h0 h1 fun h' he hit hsz hk => ?_
      exact enumT_end (t' := s2.toks) I2 he hit hk q
end
end Kb

set_option Elab.async false
set_option linter.all false
set_option maxRecDepth 100000
set_option maxHeartbeats 4000000
namespace Kb
open PySem PySem.Spec PyProof.Rows L2

/-- for i, x in enumerate(t, k): the pair is a new tuple each time -/
theorem r_forEnum {K : PySem.W.Frag} {D : Ends} {σ : L2.St} {H : Hp} {tb : TS} {a : Addr} {xs : List V} {k : Int} {p q : Nat} (Pv : Nat → L2.St → Hp → Prop) (h0 : Pv 0 σ H) (hl : ∀ i σ' H', i ≤ xs.length → Pv i σ' H' → SqT K H' a xs)
    (hs : ∀ i x σ' H' H2, xs[i]? = some x → Pv i σ' H' → Same H' H2 → tb { D with nx := Pv (i + 1), ct := Pv (i + 1), bk := D.nx } ((σ'.set p (some (.int (k + (i : Nat))))).set q (some x)) H2)
    (hd : ∀ σ' H', Pv xs.length σ' H' → D.nx σ' H') : PFor (IteT K a k) (gTup K 2 (gCons (gName p) (gCons (gName q) gNil))) tb D σ H := by
  refine ⟨fun i m σ H => m = xs.length - i ∧ i ≤ xs.length ∧ Pv i σ H, ⟨xs.length, by simp, Nat.zero_le _, h0⟩, ?_⟩
  rintro i m σ H ⟨rfl, hi, pv⟩
  have q0 := hl i σ H hi pv
  by_cases hlt : i < xs.length
  · refine .inr ⟨⟨xs, xs[i], q0, by simp [hlt]⟩, Pv (i + 1), fun σ' H' p' => ⟨xs.length - (i + 1), by omega, rfl, hlt, p'⟩, fun x H' y => ?_⟩
    obtain ⟨T, x0, rfl, nT, rfl, hx⟩ := y
    refine ⟨T, [.int (k + (i : Nat)), x0], rfl, .inl (.inl upd_same), rfl, ?_⟩
    refine ⟨_, _, rfl, _, _, rfl, rfl, ?_⟩
    exact hs i x0 σ H _ (hx xs q0) pv (same_new nT)
  · have e : i = xs.length := by omega
    subst e
    exact .inl ⟨⟨xs, q0, rfl⟩, hd σ H pv⟩

section
variable {X : Cx}
theorem flat_ints (ys : List Int) : (ys.map V.int).all flatV = true := by
  rw [List.all_map]
  exact List.all_eq_true.mpr fun _ _ => rfl
/-- t.index(x), ints: the first place -/
def rIndexT (K : PySem.W.Frag) : V → List V → Hp → VK → Prop := fun x xs H Q => ∃ p, ∃ ys : List Int, ∃ z j, x = .ref p ∧ xs = [.int z] ∧ SqT K H p (ys.map V.int) ∧ ys[j]? = some z ∧ (∀ m, m < j → ys[m]? ≠ some z) ∧ Q (.int (j : Nat)) H
theorem mt_indexT : MtR X "tuple.index" (rIndexT X.K) := by
  intro pins s σ H x xs v us Q I rx rs h
  obtain ⟨p, ys, z, j, rfl, rfl, hq, hy, hno, q⟩ := h
  cases rx
  obtain ⟨u, rfl, t, rfl⟩ := vals1 rs
  obtain ⟨its, r, pl, hz⟩ := I.tuple hq
  obtain ⟨⟨cls, dd, dt, sl⟩, ho, hc, n, hd⟩ := pl
  simp only at hc hd
  subst hc
  subst hd
  have hl : its.toArray.size = ys.length := by rw [List.size_toArray, ← r.length, List.length_map]
  have hj : j < its.toArray.size := by rw [hl]; exact (List.getElem?_eq_some_iff.mp hy).1
  have at' : ∀ (m : Nat) (hm : m < its.toArray.size), ∃ y t', ys[m]? = some y ∧ its.toArray[m] = Value.int y t' := fun m hm => by
    have hm' : m < ys.length := by rw [← hl]; exact hm
    obtain ⟨w, hw, t', hw'⟩ := r.get (i := m) (x := .int ys[m]) (by simp [hm'])
    refine ⟨ys[m], t', List.getElem?_eq_getElem hm', ?_⟩
    have e := (List.getElem?_eq_some_iff.mp hw).2
    rw [← hw', ← e]
    simp
  refine call_meets PySem.F.slot_tuple_index ⟨_, ho, rfl⟩ PySem.F.entry_tuple_index (PySem.F.args_tuple_index_2 _ _) (TI.tuple_indexAt p its.toArray n dd sl (.int z t) (eqU (.int z)) j hj ?_ ?_)
    ⟨ho, fun w hw => mem_eqAt (x := .int z) ⟨t, rfl⟩ rfl r (flat_ints ys) w (by simpa using hw), ⟨.int (j : Nat), H, I.tok _, ⟨_, rfl⟩, q⟩⟩
  · obtain ⟨y, t', h1, h2⟩ := at' j hj
    rw [hy] at h1
    cases h1
    rw [h2]
    show (z == z) = true
    exact beq_self_eq_true z
  · intro m hm hmj
    obtain ⟨y, t', h1, h2⟩ := at' m hm
    rw [h2]
    show (y == z) = false
    refine beq_eq_false_iff_ne.mpr fun e => hno m hmj ?_
    rw [h1, e]
/-- xs.index(x), ints, xs a list -/
def rIndexL (K : PySem.W.Frag) : V → List V → Hp → VK → Prop := fun x xs H Q => ∃ p, ∃ ys : List Int, ∃ z j, x = .ref p ∧ xs = [.int z] ∧ SqL K H p (ys.map V.int) ∧ ys[j]? = some z ∧ (∀ m, m < j → ys[m]? ≠ some z) ∧ Q (.int (j : Nat)) H
theorem mt_indexL : MtR X "list.index" (rIndexL X.K) := by
  intro pins s σ H x xs v us Q I rx rs h
  obtain ⟨p, ys, z, j, rfl, rfl, hq, hy, hno, q⟩ := h
  refine mt_index pins s σ H _ _ v us Q I rx rs ⟨p, ys.map V.int, .int z, j, .int z, rfl, rfl, hq, rfl, flat_ints ys, by rw [List.getElem?_map, hy]; rfl, beq_self_eq_true z, fun m z' hm hz' => ?_, q⟩
  rw [List.getElem?_map] at hz'
  cases hh : ys[m]? with
  | none => rw [hh] at hz'; cases hz'
  | some y =>
    rw [hh] at hz'
    cases hz'
    show (y == z) = false
    exact beq_eq_false_iff_ne.mpr fun e => hno m hm (by rw [hh, e])
/-- t.count(x), ints -/
def rCntT (K : PySem.W.Frag) : V → List V → Hp → VK → Prop := fun x xs H Q => ∃ (p : Addr) (ns : List Int) (k : Int), x = .ref p ∧ xs = [.int k] ∧ SqT K H p (ns.map V.int) ∧ Q (.int (ns.count k : Nat)) H
theorem mt_tcount : MtR X "tuple.count" (rCntT X.K) := by
  intro pins s σ H x xs v us Q I rx rxs h
  obtain ⟨p, ns, k, rfl, rfl, hs, q⟩ := h
  cases rx
  obtain ⟨u, rfl, ru⟩ := rxs.one
  obtain ⟨t, rfl⟩ := ru
  obtain ⟨its, rv, pl, hlen⟩ := I.tuple hs
  obtain ⟨⟨cls, dd, dt, sl⟩, ho, hc, n, hd⟩ := pl
  simp only at hc hd
  subst hc hd
  have hi := ints_of_vals rv
  refine call_meets PySem.F.slot_tuple_count ⟨_, ho, rfl⟩ PySem.F.entry_tuple_count (PySem.F.args_tuple_count_2 _ _)
    (PySem.SeqAt.tuple_countAt p its.toArray n dd sl (.int k t) (eqk k)) ⟨ho, fun y hy => (eqk_gives hi y (by simpa using hy)).at _ _, ?_⟩
  have ec : its.toArray.toList.countP (eqk k) = ns.count k := eqk_count hi
  refine ⟨.int (ns.count k : Nat), H, I.tok _, ⟨s.toks, ?_⟩, q⟩
  show Value.int ((its.toArray.toList.countP (eqk k) : Nat) : Int) s.toks = Value.int ((ns.count k : Nat) : Int) s.toks
  rw [ec]
end
end Kb

set_option Elab.async false
set_option linter.all false
set_option maxRecDepth 100000
set_option maxHeartbeats 4000000
namespace Kb
open PySem PySem.Spec PyProof.Rows L2

/-! ### a law's error classes by their names -/
structure Exs (K : PySem.W.Frag) (ec : Str → Addr) (ns : List Str) : Prop where
  bad : ∀ x ∈ ns, Bad K (ec x) (ec "ChamberError")
  kitV : ∀ x ∈ ns, PySem.W.kitOne K (.ref (ec x)) (.type "ValueError") = some true
  kit : ∀ x ∈ ns, ∀ y ∈ ns, PySem.W.kitOne K (.ref (ec x)) (.ref (ec y)) = some (x == y || y == "ChamberError")
  exm : ∀ x ∈ ns, ∀ y ∈ ns, PySem.W.exmOne K (.ref (ec x)) (.ref (ec y)) = some (x == y || y == "ChamberError")
def exsB (K : PySem.W.Frag) (D : Addr) (l : List (Str × Addr)) : Bool :=
  l.all fun p => badB K p.2 D && (PySem.W.kitOne K (.ref p.2) (.type "ValueError") == some true && l.all fun q =>
    PySem.W.kitOne K (.ref p.2) (.ref q.2) == some (p.1 == q.1 || q.1 == "ChamberError") && PySem.W.exmOne K (.ref p.2) (.ref q.2) == some (p.1 == q.1 || q.1 == "ChamberError"))
def ecOf (mg : Str → Option Value) : Str → Addr := fun x => match mg x with
  | some (.ref a) => a
  | _ => 0
theorem ecOf_at {mg : Str → Option Value} {x : Str} {a : Addr} (h : mg x = some (.ref a)) : ecOf mg x = a := by unfold ecOf; rw [h]
theorem exs_of {K : PySem.W.Frag} {mg : Str → Option Value} {D : Addr} {l : List (Str × Addr)} (hD : mg "ChamberError" = some (.ref D)) (hl : ∀ p ∈ l, mg p.1 = some (.ref p.2)) (h : exsB K D l = true) : Exs K (ecOf mg) (l.map (·.1)) := by
  have key : ∀ x ∈ l.map (·.1), ∃ a, (x, a) ∈ l ∧ ecOf mg x = a := by
    intro x hx
    obtain ⟨p, hp, rfl⟩ := List.mem_map.mp hx
    exact ⟨p.2, hp, ecOf_at (hl p hp)⟩
  unfold exsB at h
  rw [List.all_eq_true] at h
  refine ⟨fun x hx => ?_, fun x hx => ?_, fun x hx y hy => ?_, fun x hx y hy => ?_⟩
  · obtain ⟨a, ha, e⟩ := key x hx
    have z := h _ ha
    simp only [Bool.and_eq_true] at z
    rw [e, ecOf_at hD]
    exact bad_of z.1
  · obtain ⟨a, ha, e⟩ := key x hx
    have z := h _ ha
    simp only [Bool.and_eq_true, beq_iff_eq] at z
    rw [e]
    exact z.2.1
  · obtain ⟨a, ha, e⟩ := key x hx
    obtain ⟨b, hb, e2⟩ := key y hy
    have z := h _ ha
    simp only [Bool.and_eq_true] at z
    have z2 := List.all_eq_true.mp z.2.2 _ hb
    simp only [Bool.and_eq_true] at z2
    rw [e, e2]
    exact beq_iff_eq.mp z2.1
  · obtain ⟨a, ha, e⟩ := key x hx
    obtain ⟨b, hb, e2⟩ := key y hy
    have z := h _ ha
    simp only [Bool.and_eq_true] at z
    have z2 := List.all_eq_true.mp z.2.2 _ hb
    simp only [Bool.and_eq_true] at z2
    rw [e, e2]
    exact beq_iff_eq.mp z2.2
def ExAt (mg : Str → Option Value) (ec : Str → Addr) (ns : List Str) : Prop := ∀ x ∈ ns, mg x = some (.ref (ec x))

/-- a class that is raised, its __init__ kept -/
structure Rz0 (P : Program) (w : World) (K : PySem.W.Frag) (mg : Str → Option Value) (base : Heap) (x : Str) (C : Addr) : Prop where
  ex : ∃ (fI : Addr) (fd : FuncData), PySem.W.findIn K (.ref C) "__init__" = some (some (.ref fI)) ∧ PySem.W.typeIn K (.ref fI) = some (.type "function") ∧ FnOk P w K mg base CX0 2 fI fd ["self"] (sp_B0 C x) ∧ Binds K fd ["self"] []
  ox : OexC K C
  at_ : mg x = some (.ref C)
structure Rz1 (P : Program) (w : World) (K : PySem.W.Frag) (mg : Str → Option Value) (base : Heap) (x at1 : Str) (C : Addr) : Prop where
  ex : ∃ (fI : Addr) (fd : FuncData), PySem.W.findIn K (.ref C) "__init__" = some (some (.ref fI)) ∧ PySem.W.typeIn K (.ref fI) = some (.type "function") ∧ FnOk P w K mg base CX0 2 fI fd ["self", at1] (sp_B1 C x at1) ∧ Binds K fd ["self", at1] []
  ox : OexC K C
  at_ : mg x = some (.ref C)
/-- raise .. -/
def sRaise (W : WX) (t : L2.St → Hp → XK → Prop) : TS := fun _ σ H => t σ H fun cls d H' => W cls d σ H'
def tTry (K : PySem.W.Frag) (Wout : WX) (l : List Cl) (tb : WX → TS) : TS := fun D σ H => tb (wAll K Wout D l) D σ H
abbrev W0 : WX := fun _ _ _ _ => False
section
variable {X : Cx} {x at1 : Str} {C : Addr} {p pos pos' : Pos} {W : WX} {e : Expr} {te : TE}
theorem ps_rz0 (hc : X.calm = true) (tk : Takes X W) (R : Rz0 X.prog X.w X.K X.mg X.base x C) (hr : Room 3 X.A) (hg : Gl X x) (hdb : (x == ("__debug__" : Str)) = false := by decide) :
    PS X (.Raise (some (.Call (.Name x p) [] [] pos)) none pos') (sRaise W (tBad C x)) := by
  obtain ⟨fI, fd, h1, h2, h3, h4⟩ := R.ex
  exact ps_raise hc tk (pmk_bad0 R.ox h1 h2 h3 hr h4 hg R.at_ hdb)
theorem ps_rz1 (hc : X.calm = true) (tk : Takes X W) (R : Rz1 X.prog X.w X.K X.mg X.base x at1 C) (hr : Room 3 X.A) (hg : Gl X x) (ha : PE X e te) (hdb : (x == ("__debug__" : Str)) = false := by decide)
    (he : starEach [e] X.env = (false, eval e X.env) :: starEach [] X.env := by rfl) (hpl : (backTo pos (starEach [] X.env)).any (·.1) = false := by rfl) :
    PS X (.Raise (some (.Call (.Name x p) [e] [] pos)) none pos') (sRaise W (tBad1 C x at1 te)) := by
  obtain ⟨fI, fd, h1, h2, h3, h4⟩ := R.ex
  exact ps_raise hc tk (pmk_bad1 R.ox h1 h2 h3 hr h4 hg R.at_ ha hdb he hpl)
theorem ps_tryT {body : List Stmt} {h₀ : ExceptHandler} {hds : List ExceptHandler} {l : List Cl} {tb : WX → TS} {Wout : WX} (hs : X.stack = X.env :: X.outer) (hf : X.env.frame = some X.env.locals) (hN : X.N.Nodup) (tk : Takes X Wout)
    (hb : ∀ (W : WX) (pn : List (Addr × Obj)) (xe : Value → Shared → Prop), Takes (X.tr pn xe) W → PassesOwn (model X.prog X.w) X.A X.env xe → PSs (X.tr pn xe) body (tb W))
    (hh : HdsA X (h₀ :: hds) l) : PS X (.Try body (h₀ :: hds) [] [] pos) (tTry X.K Wout l tb) := ps_try_all hs hf hN tk hb hh
end

/-! ### the pure side of raise and try -/
section
variable {K : PySem.W.Frag} {ec : Str → Addr} {ns : List Str} {W : WX} {D : Ends} {σ : L2.St} {H : Hp} {C : Addr} {x at1 : Str}
theorem r_raise (h : ∀ d H', Same H H' → H d = none → H' d = some (.xd [("word", .str x)]) → W (.ref C) (some d) σ H') : sRaise W (tBad C x) D σ H := fun d nd => h d _ (same_new nd) nd upd_same
/-- behind the argument of C(e) in a raise -/
def PRz1 (W : WX) (σ : L2.St) (C : Addr) (x at1 : Str) (v : V) (H1 : Hp) : Prop := [v].length ≤ 1000 ∧ ∀ a, H1 a = none → sp_B1 C x at1 (.ref a :: ([v] ++ [])) (upd H1 a (exo a C none)) (fun v H2 => v = .non ∧ ∃ (d : Addr) (fs : List (Str × V)), H2 a = some (exo a C (some d)) ∧ H2 d = some (exd d fs) ∧ H1 d = none ∧ W (.ref C) (some d) σ (upd (del H2 a) d (.xd fs))) (fun _ _ _ => False)
theorem r_raise1 {te : TE} (h : te σ H fun v H1 => PRz1 W σ C x at1 v H1) : sRaise W (tBad1 C x at1 te) D σ H := h
theorem r_prz1 {v : V} (h : ∀ d H', Same H H' → H d = none → H' d = some (.xd [(at1, v), ("word", .str x)]) → W (.ref C) (some d) σ H') : PRz1 W σ C x at1 v H := mk_bad1 (Q := fun cls d H' => W cls d σ H') fun d nd => h d _ (same_new nd) nd upd_same
theorem r_try {Wout : WX} {l : List Cl} {tb : WX → TS} (h : tb (wAll K Wout D l) D σ H) : tTry K Wout l tb D σ H := h
/-- the clause is taken -/
theorem w_yes {Wout : WX} {q : Cl} {r : List Cl} {d : Option Addr} {cls : Value} (e : PySem.W.exmOne K cls q.c = some true) (h : ∀ a, H a = none → q.ts a cls d (endsOf D q.slot) (setOf σ a q.slot) H) : wAll K Wout D (q :: r) cls d σ H :=
  ⟨true, e, fun _ => h, fun z => nomatch z⟩
theorem w_no {Wout : WX} {q : Cl} {r : List Cl} {d : Option Addr} {cls : Value} (e : PySem.W.exmOne K cls q.c = some false) (h : wAll K Wout D r cls d σ H) : wAll K Wout D (q :: r) cls d σ H :=
  ⟨false, e, (fun z => nomatch z), fun _ => h⟩
/-- e.f of the caught -/
theorem r_xfV {a : Addr} {d : Addr} {n : Str} {i : Nat} {Q : VK} {fs : List (Str × V)} {v : V} (XF : XfC K C) (hn : PySem.W.findIn K (.ref C) n = some none) (hσ : σ[i]? = some (some (.ref a))) (hd : H d = some (.xd fs)) (hl : fs.lookup n = some v) (q : Q v H) : tXfA K a (.ref C) (some d) n (tVar i) σ H Q :=
  ⟨C, rfl, XF, hn, .ref a, hσ, rfl, rfl, d, fs, v, rfl, hd, hl, q⟩
/-- isinstance(e, c) -/
theorem r_isX {a d : Addr} {c : V} {b : Bool} {fs : List (Str × V)} {Q : VK} (hd : H d = some (.xd fs)) (E : ExcC K C) (io : IsOf K H C c b) (q : Q (.bl b) H) : rIsX K a (.ref C) (some d) [.ref a, c] H Q := ⟨c, C, d, fs, b, rfl, rfl, rfl, hd, E, io, q⟩
theorem is_cls (XS : Exs K ec ns) {y : Str} (hx : x ∈ ns) (hy : y ∈ ns) : IsOf K H (ec x) (.ref (ec y)) (x == y || y == "ChamberError") := .inl ⟨_, fun u r => r, XS.kit x hx y hy⟩
theorem is_VE (XS : Exs K ec ns) (hx : x ∈ ns) : IsOf K H (ec x) (.ty "ValueError") true := .inl ⟨_, fun u r => r, XS.kitV x hx⟩
theorem vals_refs : ∀ {cs : List Addr} {us : List Value}, Vals (cs.map V.ref) us → us = cs.map Value.ref
  | [], _, r => by cases r; rfl
  | c :: cs, _, r => by
    cases r with
    | cons h r =>
      rw [vals_refs r]
      have h : _ = Value.ref c := h
      rw [h]
      rfl
theorem kitAny_names (XS : Exs K ec ns) (hx : x ∈ ns) : ∀ {ys : List Str}, (∀ y ∈ ys, y ∈ ns) → PySem.W.kitAny K (.ref (ec x)) ((ys.map ec).map Value.ref) = some (ys.any fun y => x == y || y == "ChamberError")
  | [], _ => rfl
  | y :: ys, h => by
    have e := XS.kit x hx y (h y List.mem_cons_self)
    have r := kitAny_names XS hx (ys := ys) fun z hz => h z (List.mem_cons_of_mem _ hz)
    rw [List.map_cons, List.map_cons, List.any_cons]
    unfold PySem.W.kitAny
    rw [e]
    cases (x == y || y == "ChamberError") with
    | true => rfl
    | false => rw [Bool.false_or]; exact r
theorem is_tup (XS : Exs K ec ns) (hx : x ∈ ns) {tp : Addr} {ys : List Str} (hy : ∀ y ∈ ys, y ∈ ns) (ht : SqT K H tp ((ys.map ec).map V.ref)) : IsOf K H (ec x) (.ref tp) (ys.any fun y => x == y || y == "ChamberError") :=
  .inr ⟨tp, _, _, rfl, ht, fun us r => vals_refs r, kitAny_names XS hx hy⟩
end
theorem r_callW {sp : Sp} {W : WX} {t : TA} {σ : L2.St} {H : Hp} {Q : VK} (h : t σ H fun vs H1 => sp vs H1 Q (fun cls d H' => W cls d σ H')) : tCallW sp W t σ H Q := h
def PEn (K : PySem.W.Frag) (k : Int) (vs : List V) (H1 : Hp) (R : It → Hp → Prop) : Prop := ∃ a xs, vs = [.ref a] ∧ SqT K H1 a xs ∧ R (IteT K a k) H1
theorem r_enT {K : PySem.W.Frag} {k : Int} {ta : TA} {σ : L2.St} {H : Hp} {R : It → Hp → Prop} (h : ta σ H fun vs H1 => PEn K k vs H1 R) : iEnT K k ta σ H R := h
theorem r_pen {K : PySem.W.Frag} {k : Int} {a : Addr} {xs : List V} {H : Hp} {R : It → Hp → Prop} (h : SqT K H a xs) (q : R (IteT K a k) H) : PEn K k [.ref a] H R := ⟨a, xs, rfl, h, q⟩
theorem r_idxT {K : PySem.W.Frag} {p : Addr} {ys : List Int} {z : Int} {j : Nat} {H : Hp} {Q : VK} (h : SqT K H p (ys.map V.int)) (hy : ys[j]? = some z) (hno : ∀ m, m < j → ys[m]? ≠ some z) (q : Q (.int (j : Nat)) H) : rIndexT K (.ref p) [.int z] H Q := ⟨p, ys, z, j, rfl, rfl, h, hy, hno, q⟩
theorem r_idxL {K : PySem.W.Frag} {p : Addr} {ys : List Int} {z : Int} {j : Nat} {H : Hp} {Q : VK} (h : SqL K H p (ys.map V.int)) (hy : ys[j]? = some z) (hno : ∀ m, m < j → ys[m]? ≠ some z) (q : Q (.int (j : Nat)) H) : rIndexL K (.ref p) [.int z] H Q := ⟨p, ys, z, j, rfl, rfl, h, hy, hno, q⟩
theorem r_cntT {K : PySem.W.Frag} {p : Addr} {ys : List Int} {z : Int} {H : Hp} {Q : VK} (h : SqT K H p (ys.map V.int)) (q : Q (.int (ys.count z : Nat)) H) : rCntT K (.ref p) [.int z] H Q := ⟨p, ys, z, rfl, rfl, h, q⟩
theorem r_eqS {K : PySem.W.Frag} {x y : Str} {H : Hp} {Q : VK} (q : Q (.bl (decide (x = y))) H) : rEqU K (.str x) (.str y) H Q := .inl ⟨rfl, by
  have e : decide (V.str x = V.str y) = decide (x = y) := by by_cases h : x = y <;> simp [h]
  rw [e]; exact q⟩
theorem r_neS {K : PySem.W.Frag} {x y : Str} {H : Hp} {Q : VK} (q : Q (.bl (!decide (x = y))) H) : rNeU K (.str x) (.str y) H Q := .inl ⟨rfl, by
  have e : decide (V.str x = V.str y) = decide (x = y) := by by_cases h : x = y <;> simp [h]
  rw [e]; exact q⟩
theorem r_endsAs {D : Ends} {i : Nat} {σ : L2.St} {H : Hp} (h : D.nx (σ.set i none) H) : (endsOf D (some i)).nx σ H := h
theorem r_endsNo {D : Ends} {σ : L2.St} {H : Hp} (h : D.nx σ H) : (endsOf D none).nx σ H := h
def PTp (K : PySem.W.Frag) (x : V) (H1 : Hp) : Prop := ∃ p xs, x = .ref p ∧ SqT K H1 p xs ∧ NoD H1 p
theorem r_BMT {K : PySem.W.Frag} {r : V → List V → Hp → VK → Prop} {to : TE} {t : TA} {σ : L2.St} {H : Hp} {Q : VK} (h : to σ H fun x H1 => PTp K x H1 ∧ t σ H1 fun xs H2 => r x xs H2 Q) : tBMT K r to t σ H Q := h
theorem r_ptp {K : PySem.W.Frag} {p : Addr} {xs : List V} {H : Hp} {A : Prop} (h : SqT K H p xs) (d : NoD H p) (a : A) : PTp K (.ref p) H ∧ A := ⟨⟨p, xs, rfl, h, d⟩, a⟩
theorem ixN_r {n : Nat} {y : Int} (h1 : 1 ≤ y) (h2 : y ≤ n) : ixN n (y - 1) = some (y - 1).toNat := by
  unfold ixN
  rw [if_pos (by omega), if_pos (by omega)]
theorem ixN_n {n k : Nat} (h : k < n) : ixN n (k : Int) = some k := by
  unfold ixN
  rw [if_pos (by omega), if_pos (by omega)]
  rfl
theorem map_set {bs : List Int} {k : Nat} {x : Int} : (bs.map V.int).set k (.int x) = (bs.set k x).map V.int := by rw [List.map_set]
/-- a list that is filled place by place -/
theorem fill_step {bs : List Int} {n i : Nat} {k : Nat → Nat} {v : Nat → Int} (hl : bs.length = n) (h : ∀ j, j < i → bs[k j]? = some (v j)) (hk : k i < n) (inj : ∀ j, j < i → k j ≠ k i) :
    (bs.set (k i) (v i)).length = n ∧ ∀ j, j < i + 1 → (bs.set (k i) (v i))[k j]? = some (v j) := by
  refine ⟨by rw [List.length_set]; exact hl, fun j hj => ?_⟩
  by_cases e : j = i
  · subst e
    rw [List.getElem?_set_self (by omega)]
  · rw [List.getElem?_set_ne (Ne.symm (inj j (by omega)))]
    exact h j (by omega)
section
/-! the tactics: rd walks a reading; tk closes a fact about a heap from those ahead of it -/
local macro_rules | `(tactic| walk_at "tk") => `(tactic| first
  | assumption
  | ((with_reducible refine' sqT_of ?k); (case k => assumption))
  | ((with_reducible refine' sqT_ofD ?k); (case k => assumption))
  | ((with_reducible refine' noD_of ?k); (case k => assumption))
  | ((with_reducible refine' noD_same ?s ?k); (case s => assumption); (case k => walk_at "tk"))
  | ((with_reducible refine' sqL_of ?k); (case k => assumption))
  | ((with_reducible refine' sqT_same ?s ?k); (case s => assumption); (case k => walk_at "tk"))
  | ((with_reducible refine' sqL_same ?s ?k); (case s => assumption); (case k => walk_at "tk"))
  | ((with_reducible refine' sqT_but ?s ?t ?k); (case s => assumption); (case t => walk_at "tk"); (case k => walk_at "tk"))
  | ((with_reducible refine' sqL_but ?s ?t ?k); (case s => assumption); (case t => walk_at "ne"); (case k => walk_at "tk"))
  | ((with_reducible refine' sqL_of ?k); (case k => walk_at "tk"))
  | ((with_reducible refine' sqT_of ?k); (case k => walk_at "tk"))
  | ((with_reducible refine' at_same ?s ?k); (case s => assumption); (case k => walk_at "tk"))
  | ((with_reducible refine' at_but ?s ?t ?k); (case s => assumption); (case t => walk_at "ne"); (case k => walk_at "tk")))
local macro_rules | `(tactic| walk_at "ne") => `(tactic| first
  | assumption
  | (refine Ne.symm ?_; assumption)
  | exact ne_of_none (by assumption) (by assumption)
  | exact (ne_of_none (by assumption) (by assumption)).symm)
local macro_rules | `(tactic| walk_at "side") => `(tactic| first
  | assumption
  | omega
  | (simp only [sizeLine_eq, List.length_cons, List.length_nil, List.length_map]; omega)
  | (show _ ≤ sizeLine; decide))
local macro_rules | `(tactic| walk_at "kit") => `(tactic| first
  | (show kitB _ _ = some true; decide +kernel)
  | (show kitB _ _ = some false; decide +kernel))
local macro_rules | `(tactic| walk_at "rng") => `(tactic| first
  | (refine ⟨by omega, by omega, by omega, by omega⟩)
  | (refine ⟨by omega, by omega⟩)
  | ((simp only [List.length_map]); (refine ⟨by omega, by omega, by omega, by omega⟩))
  | ((simp only [List.length_map]); (refine ⟨by omega, by omega⟩)))
local macro_rules | `(tactic| walk_at "rd1") => `(tactic| first
  | with_reducible refine r_seq ?_
  | ((with_reducible refine' r_var ?k0 ?_); (case k0 => rfl))
  | with_reducible refine r_op ?_
  | with_reducible refine r_c ?_
  | with_reducible refine r_asg ?_
  | with_reducible refine r_name ?_
  | with_reducible refine r_cons ?_
  | with_reducible refine r_nil ?_
  | with_reducible refine r_CB ?_
  | with_reducible refine r_if ?_
  | with_reducible refine r_test ?_
  | with_reducible refine r_k ?_
  | with_reducible refine r_T ?_
  | with_reducible refine r_F ?_
  | with_reducible refine r_nT ?_
  | with_reducible refine r_nF ?_
  | with_reducible refine r_ret ?_
  | with_reducible refine r_drop ?_
  | with_reducible refine r_next ?_
  | with_reducible refine r_call ?_
  | with_reducible refine r_addI ?_
  | with_reducible refine r_subI ?_
  | with_reducible refine r_ltI ?_
  | with_reducible refine r_gtI ?_
  | with_reducible refine r_leI ?_
  | with_reducible refine r_geI ?_
  | with_reducible refine r_eqI ?_
  | with_reducible refine r_neI ?_
  | with_reducible refine r_int ?_
  | with_reducible refine r_abs ?_
  | with_reducible refine r_not ?_
  | with_reducible refine r_and ?_
  | with_reducible refine r_or ?_
  | with_reducible refine r_tru ?_
  | with_reducible refine r_truB ?_
  | with_reducible refine r_lst ?_
  | with_reducible refine r_tup ?_
  | with_reducible refine r_BM ?_
  | with_reducible refine r_BM0 ?_
  | with_reducible refine r_tyS ?_
  | with_reducible refine r_gsub ?_
  | with_reducible refine r_then ?_
  | with_reducible refine r_lstRg ?_
  | with_reducible refine r_tupRg ?_
  | with_reducible refine r_rg2 ?_
  | with_reducible refine r_rg1 ?_
  | with_reducible refine r_ii ?_
  | with_reducible refine r_i ?_
  | with_reducible refine r_ipI ?_
  | with_reducible refine r_un ?_
  | with_reducible refine r_neg ?_
  | with_reducible refine r_isN ?_
  | with_reducible refine r_notN ?_
  | with_reducible refine r_notV ?_
  | with_reducible refine r_pnot ?_
  | with_reducible refine r_pif ?_
  | with_reducible refine r_andV ?_
  | with_reducible refine r_orV ?_
  | with_reducible refine r_ifE ?_
  | with_reducible refine r_chain ?_
  | with_reducible refine r_sl ?_
  | with_reducible refine r_noPart ?_
  | with_reducible refine r_part ?_
  | with_reducible refine r_brk ?_
  | with_reducible refine r_cont ?_
  | with_reducible refine r_retN ?_
  | with_reducible refine r_truI ?_
  | with_reducible refine r_B ?_
  | with_reducible refine r_for ?_
  | with_reducible refine r_rng1 ?_
  | with_reducible refine r_rng2 ?_
  | with_reducible refine r_rng3 ?_
  | with_reducible refine r_body ?_
  | with_reducible refine r_lc ?_
  | with_reducible refine r_yes ?_
  | ((with_reducible refine' r_mod ?k0 ?_); (case k0 => walk_at "side"))
  | ((with_reducible refine' r_mulI ?k0 ?_); (case k0 => first | exact Or.inl ⟨by omega, by omega⟩ | exact Or.inr ⟨by omega, by omega⟩))
  | ((with_reducible refine' r_lenL ?k0 ?_); (case k0 => walk_at "tk"))
  | ((with_reducible refine' r_lenT ?k0 ?_); (case k0 => walk_at "tk"))
  | ((with_reducible refine' r_truL ?k0 ?_); (case k0 => walk_at "tk"))
  | ((with_reducible refine' r_truT ?k0 ?_); (case k0 => walk_at "tk"))
  | ((with_reducible refine' r_ixL ?k0 ?k1 ?_); (case k0 => walk_at "tk"); (case k1 => first | assumption | rfl))
  | ((with_reducible refine' r_ixT ?k0 ?k1 ?_); (case k0 => walk_at "tk"); (case k1 => first | assumption | rfl))
  | ((with_reducible refine' r_new ?k0 ?_); (case k0 => walk_at "side"))
  | ((with_reducible refine' r_tyL ?k0 ?_); (case k0 => walk_at "tk"))
  | ((with_reducible refine' r_append ?k0 ?k1 ?_); (case k0 => walk_at "tk"); (case k1 => walk_at "side"))
  | ((with_reducible refine' r_setL ?k0 ?k1 ?_); (case k0 => walk_at "tk"); (case k1 => first | assumption | rfl))
  | ((with_reducible refine' r_kTupL ?k0 ?_); (case k0 => walk_at "tk"))
  | ((with_reducible refine' r_kTupT ?k0 ?_); (case k0 => walk_at "tk"))
  | ((with_reducible refine' r_listL ?k0 ?_); (case k0 => walk_at "tk"))
  | ((with_reducible refine' r_listT ?k0 ?_); (case k0 => walk_at "tk"))
  | ((with_reducible refine' r_aug ?k0 ?_); (case k0 => rfl))
  | ((with_reducible refine' r_lenS ?k0 ?_); (case k0 => walk_at "side"))
  | ((with_reducible refine' r_pop ?k0 ?_); (case k0 => walk_at "tk"))
  | ((with_reducible refine' r_pr1 ?k0 ?_); (case k0 => walk_at "rng"))
  | ((with_reducible refine' r_pr2 ?k0 ?_); (case k0 => walk_at "rng"))
  | ((with_reducible refine' r_pr3d ?k0 ?_); (case k0 => walk_at "rng"))
  | ((with_reducible refine' r_isiI ?k0 ?_); (case k0 => walk_at "kit"))
  | ((with_reducible refine' r_isiB ?k0 ?_); (case k0 => walk_at "kit"))
  | ((with_reducible refine' r_isiS ?k0 ?_); (case k0 => walk_at "kit"))
  | ((with_reducible refine' r_isiN ?k0 ?_); (case k0 => walk_at "kit"))
  | ((with_reducible refine' r_isiT ?k0 ?k1 ?_); (case k0 => walk_at "tk"); (case k1 => walk_at "kit"))
  | ((with_reducible refine r_seqT ?_); (repeat (walk_at "rd1")); ((with_reducible refine' r_pseqT ?k0 ?_); (case k0 => walk_at "tk")))
  | ((with_reducible refine r_seqL ?_); (repeat (walk_at "rd1")); ((with_reducible refine' r_pseqL ?k0 ?_); (case k0 => walk_at "tk")))
  | ((with_reducible refine r_seqS ?_); (repeat (walk_at "rd1")); (with_reducible refine r_pseqS ?_)))
local macro_rules | `(tactic| walk_at "rd") => `(tactic| ((repeat (walk_at "rd1")); (try dsimp only)))

/-- alone = isinstance(e, ChamberError) and isinstance(e, ValueError) and not isinstance(e, (A, B)) -/
theorem r_alone {K : PySem.W.Frag} {ec : Str → Addr} {ns : List Str} {σ : L2.St} {H : Hp} {Q : VK} {i : Nat} {a d : Addr} {x A B : Str} {fs : List (Str × V)} (XS : Exs K ec ns) (hx : x ∈ ns) (hC : ("ChamberError" : Str) ∈ ns) (hA : A ∈ ns) (hB : B ∈ ns)
    (nA : (x == A || A == "ChamberError") = false) (nB : (x == B || B == "ChamberError") = false) (hσ : σ[i]? = some (some (V.ref a))) (e : H d = some (.xd fs)) (q : ∀ H', Same H H' → Q (.bl true) H') :
    tAndV (tCB (rIsX K a (.ref (ec x)) (some d)) (tCons (tVar i) (tCons (tC (.ref (ec "ChamberError"))) tNil))) (tAndV (tCB (rIsX K a (.ref (ec x)) (some d)) (tCons (tVar i) (tCons (tC (.ty "ValueError")) tNil)))
      (tNotV (tCB (rIsX K a (.ref (ec x)) (some d)) (tCons (tVar i) (tCons (tTup (tCons (tC (.ref (ec A))) (tCons (tC (.ref (ec B))) tNil))) tNil))))) σ H Q := by
  have BX := XS.bad x hx
  refine r_andV (r_CB (r_cons (r_var hσ (r_cons (r_c (r_nil ?_)))))) 
  refine r_isX (b := true) e BX.ex ?_ ?_
  · have z := is_cls (H := H) XS hx hC
    rw [show (x == "ChamberError" || ("ChamberError" : Str) == "ChamberError") = true by rw [show (("ChamberError" : Str) == "ChamberError") = true by decide, Bool.or_true]] at z
    exact z
  refine r_pif (r_T ?_)
  refine r_andV (r_CB (r_cons (r_var hσ (r_cons (r_c (r_nil ?_))))))
  refine r_isX (b := true) e BX.ex (is_VE XS hx) ?_
  refine r_pif (r_T ?_)
  refine r_notV (r_CB (r_cons (r_var hσ (r_cons ?_))))
  walk_at "rd"
  intro tp H1 ntp s1 e1
  walk_at "rd"
  refine r_isX (b := false) (s1 _ _ e) BX.ex ?_ ?_
  · have z := is_tup (H := H1) XS hx (tp := tp) (ys := [A, B]) (by intro y hy; rcases List.mem_cons.mp hy with rfl | hy; exact hA; rcases List.mem_cons.mp hy with rfl | hy; exact hB; cases hy) (sqT_of e1)
    rw [show ([A, B].any fun y => x == y || y == "ChamberError") = false by simp only [List.any_cons, List.any_nil, nA, nB, Bool.or_false]] at z
    exact z
  exact r_pnot (q H1 s1)
end
end Kb

set_option Elab.async false
set_option linter.all false
set_option maxRecDepth 100000
set_option maxHeartbeats 4000000
namespace Kb
open PySem PySem.Spec PyProof.Rows L2
section
variable {K : PySem.W.Frag} {H : Hp} {Q : VK} {E : XK}
theorem pl_same {H H' : Hp} {p : Addr} (s : Same H H') (h : Pl H p) : Pl H' p := by
  obtain ⟨x, y, z, e⟩ := h
  exact ⟨x, y, z, s _ _ e⟩
theorem noD_but {H H' : Hp} {l q : Addr} {ys : List V} (b : But l H H') (hl : H l = some (.lst ys)) (h : NoD H q) : NoD H' q := by
  obtain ⟨o, u, e, d⟩ := h
  exact ⟨o, u, b _ _ (fun z => by rw [z, hl] at e; cases e) e, d⟩
theorem size_ints : ∀ r : List Int, Dat.sizes (r.map Dat.int) = r.length
  | [] => rfl
  | x :: r => by
    rw [List.map_cons]
    show Dat.size (.int x) + Dat.sizes (r.map Dat.int) = _
    rw [size_ints r, List.length_cons, show Dat.size (.int x) = 1 from rfl, Nat.add_comm]
theorem sm {a b : Addr} {r : List Int} {n : Nat} (h1 : SqT K H a (r.map V.int)) (h2 : SqT K H b (r.map V.int)) (hR : IsRow r n) (hn : n ≤ 12) (q : ∀ H', Same H H' → Q (.bl true) H') : sp_law_same K [.ref a, .ref b] H Q E :=
  ⟨_, _, .tup (r.map .int), rfl, rp_ints h1, rp_ints h2, by show 1 + Dat.sizes (r.map Dat.int) ≤ _; rw [size_ints, hR.1]; omega, q⟩
end
end Kb

set_option Elab.async false
set_option linter.all false
set_option maxRecDepth 100000
set_option maxHeartbeats 4000000
/-! t[::-1], t a tuple -/
namespace Kb
open PySem PySem.Spec PyProof.Rows L2
section
variable {prog : Program} {w : World} {A : Around} {E : Value → Shared → Prop} {s : Shared}
theorem sliceApplied_rev {sl : Addr} {vk : Value} {n : Nat} {Q : Int × Int × Nat → Shared → Prop} (hs : s.heap.IsSliceOf sl .none .none vk) (pk : IsPart vk (some (-1)))
    (h : Q ((n : Int) - 1, -1, n) s) : wpAny (model prog w) A (Builtin.Slice.sliceApplied (.ref sl) (pure (n : Int))) Q E s := by
  obtain ⟨os, hos, hcs, hds⟩ := id hs
  unfold Builtin.Slice.sliceApplied Builtin.Slice.sliceFields
  refine wpAny_bind (wpAny_bind (wpAny_field hos hds (x := .none) rfl (wpAny_bind (wpAny_field hos hds (x := .none) rfl (wpAny_bind (wpAny_field hos hds (x := vk) rfl (wpAny_pure ?_)))))))
  refine wpAny_bind (HT.slicePart_ pk ?_)
  show wpAny _ _ (if ((-1 : Int) == 0) = true then _ else _) _ _ s
  rw [if_neg (by decide)]
  refine wpAny_bind (HT.slicePart_ .none (wpAny_bind (HT.slicePart_ .none (wpAny_bind (wpAny_pure ?_)))))
  show wpAny _ _ (pure ((n : Int) - 1, (-1 : Int), Builtin.Slice.slicePlaces ((n : Int) - 1) (-1) (-1))) _ _ s
  have e : Builtin.Slice.slicePlaces ((n : Int) - 1) (-1) (-1) = n := by
    unfold Builtin.Slice.slicePlaces
    rw [if_neg (by decide)]
    split
    · rw [show (-(-1) : Int) = 1 by decide, Int.ediv_one]; omega
    · omega
  rw [e]
  exact wpAny_pure h
theorem fm_congr {α β : Type} {f g : α → Option β} : ∀ {l : List α}, (∀ x ∈ l, f x = g x) → l.filterMap f = l.filterMap g
  | [], _ => rfl
  | a :: l, h => by
    rw [List.filterMap_cons, List.filterMap_cons, h a List.mem_cons_self, fm_congr fun x hx => h x (List.mem_cons_of_mem _ hx)]
theorem pick_rev (xs : Array Value) : ((List.range xs.size).filterMap fun (m : Nat) => xs[(((xs.size : Int) - 1) + (m : Int) * (-1)).toNat]?).toArray = xs.toList.reverse.toArray := by
  congr 1
  have e : ∀ m ∈ List.range xs.size, xs[(((xs.size : Int) - 1) + (m : Int) * (-1)).toNat]? = xs.toList.reverse[m]? := fun m hm => by
    rw [List.mem_range] at hm
    rw [List.getElem?_reverse (by rw [Array.length_toList]; exact hm), Array.length_toList, Array.getElem?_toList]
    congr 1
    omega
  rw [fm_congr e]
  have key : ∀ l : List Value, (List.range l.length).filterMap (fun m => l[m]?) = l := fun l => by
    induction l with
    | nil => rfl
    | cons a l ih =>
      rw [List.length_cons, List.range_succ_eq_map, List.filterMap_cons]
      simp only [List.getElem?_cons_zero, List.filterMap_map]
      congr 1
  have := key xs.toList.reverse
  rw [List.length_reverse, Array.length_toList] at this
  exact this
theorem getItem_tuple_rev {t sl : Addr} {items : Array Value} {vk : Value} {Q : Value → Shared → Prop} (ht : IsTup s.heap t items) (hs : s.heap.IsSliceOf sl .none .none vk) (pk : IsPart vk (some (-1)))
    (h : Q (.ref s.heap.objs.size) { s with heap := s.heap.push { cls := .type "tuple", data := .seq items.toList.reverse.toArray } })
    (hsz : items.size ≤ sizeLine) : wpAny (model prog w) A (getItem (.ref t) (.ref sl)) Q E s := by
  have htake : sizeOk (.seq items.toList.reverse.toArray) := by
    show items.toList.reverse.toArray.size ≤ sizeLine
    rw [List.size_toArray, List.length_reverse, Array.length_toList]
    exact hsz
  obtain ⟨os, hos, hcs, hds⟩ := id hs
  have hTs : s.TypeIs (.ref sl) "slice" := ⟨os, hos, hcs⟩
  unfold getItem
  try with_reducible refine wpAny_holding ?_
  first | refine wpAny_bind (wpAny_pure ?_) | skip
  refine wpAny_bind (wpAny_sequenceKey ht.typeIs (by decide) ?_)
  refine wpAny_bind (wpAny_callSpecial?_slot (name := Str.ofString "__getitem__") ht.typeIs PyProof.Rows.slot_tuple_getitem
    (wpAny_call_entry PyProof.Rows.slot_tuple_getitem ht.typeIs entry_tuple_getitem ?_ (args_tuple_getitem _ _)))
  show wpAny _ _ (Builtin.Tuple.tupleItemsOf (.ref t) >>= _) _ _ s
  refine wpAny_bind (tupleItemsOf_ ht ?_)
  refine wpAny_bind (wpAny_typeOf hTs ?_)
  rw [if_pos (by decide)]
  refine wpAny_bind (sliceApplied_rev hs pk ?_)
  show wpAny _ _ (if ((items.size : Int) - 1 == 0 && (-1 : Int) == 1 && items.size == items.size) = true then _ else _) _ _ s
  rw [if_neg (by rw [show ((-1 : Int) == 1) = false by decide, Bool.and_false, Bool.false_and]; decide), pick_rev]
  first
    | exact wpAny_bind (m := Builtin.Tuple.tupleExact _) (wpAny_newObj_type (wpAny_pure ⟨_, rfl, wpAny_pure h⟩) htake)
    | exact wpAny_bind (m := Builtin.Tuple.tupleExact _) (wpAny_newObj_type (wpAny_bind (wpAny_pure (wpAny_pure ⟨_, rfl, wpAny_pure h⟩))) htake)
    | exact wpAny_bind (wpAny_bind (m := Builtin.Tuple.tupleExact _) (wpAny_newObj_type (wpAny_pure (wpAny_pure ⟨_, rfl, wpAny_pure h⟩)) htake))
    | exact wpAny_bind (wpAny_bind (m := Builtin.Tuple.tupleExact _) (wpAny_newObj_type (wpAny_pure ⟨_, rfl, wpAny_pure h⟩) htake))
end
/-- t[::k], k being -1 -/
def PRev (K : PySem.W.Frag) (x : V) (k : Option Int) (H : Hp) (Q : VK) : Prop := k = some (-1) ∧ ∃ a xs, x = .ref a ∧ SqT K H a xs ∧ ∀ p, H p = none → Q (.ref p) (upd H p (.tup xs.reverse))
def tRevU (K : PySem.W.Frag) (te : TE) (tk : TO) : TE := fun σ H Q => te σ H fun x H1 => tk σ H1 fun k H2 => PRev K x k H2 Q
theorem vals_rev : ∀ {xs : List V} {us : List Value}, Vals xs us → Vals xs.reverse us.reverse
  | _, _, .nil => .nil
  | _, _, .cons h r => by
    rw [List.reverse_cons, List.reverse_cons]
    exact (vals_rev r).append (.cons h .nil)
section
variable {X : Cx} {e : Expr} {te : TE} {st : Expr} {tk : TO} {pos p2 : Pos}
theorem pe_revU (he : PE X e te) (hk : PO X (some st) tk) : PE X (.Subscript e (.Slice none none (some st) p2) pos) (tRevU X.K te tk) := by
  refine ⟨fun pins s σ H Q I h => ?_⟩
  refine Subscript_ (thn (he.run pins s σ H _ I h) fun v s1 ⟨x, H1, I1, r1, q1⟩ => ?_)
  refine wpAny_Slice ?_
  rw [evalPart_none]
  refine wpAny_pure (wpAny_pure ?_)
  refine thn (hk.run pins s1 σ H1 _ I1 q1) fun vk s2 ⟨k, H2, I2, pk, q2⟩ => ?_
  obtain ⟨rfl, a, xs, rfl, hx, q⟩ := q2
  cases r1
  have I4 : Inv X pins σ H2 { s2 with heap := s2.heap.push { cls := .type "slice", data := .fields #[.none, .none, vk] } } := I2.kept (t' := s2.toks) fun b ob q => Heap.get?_push_of_some _ q
  obtain ⟨its, r, ht, hz⟩ := I4.tuple hx
  have hlen : its.toArray.size = xs.length := by rw [List.size_toArray]; exact r.length.symm
  show wpAny (model X.prog X.w) X.A (subscriptTail e (.Slice none none (some st) p2) (.ref a) (.ref s2.heap.objs.size)) (EP X pins σ Q) X.xe { s2 with heap := s2.heap.push { cls := .type "slice", data := .fields #[.none, .none, vk] } }
  refine tail_any ht.typeIs PyProof.Rows.slot_tuple_getitem.lookup ?_ (by with_unfolding_all rfl)
  refine getItem_tuple_rev ht (Heap.IsSliceOf.new ..) pk ?_ (by rw [hlen]; exact hz)
  refine ⟨.ref _, _, I4.laid (t' := s2.toks) (o := .tup xs.reverse) (fun b ob q => Heap.get?_push_of_some _ q) (Nat.le_refl _) ?_, rfl, q _ (I4.hok.fresh (Nat.le_refl _))⟩
  exact ⟨by rw [List.length_reverse]; exact hz, _, vals_rev r, IsTup.new _ _⟩
end
theorem r_revU {K : PySem.W.Frag} {te : TE} {tk : TO} {σ : L2.St} {H : Hp} {Q : VK} (h : te σ H fun x H1 => tk σ H1 fun k H2 => PRev K x k H2 Q) : tRevU K te tk σ H Q := h
theorem r_prev {K : PySem.W.Frag} {a : Addr} {xs : List V} {H : Hp} {Q : VK} (h : SqT K H a xs) (q : ∀ p H', H p = none → Same H H' → H' p = some (.tup xs.reverse) → Q (.ref p) H') : PRev K (.ref a) (some (-1)) H Q :=
  ⟨rfl, a, xs, rfl, h, fun p np => q p _ np (same_new np) upd_same⟩
theorem ip_mulU {X : Cx} : PIp X .Mult (fun x y H Q => ∃ i j, x = .int i ∧ y = .int j ∧ CMul i j ∧ Q (.int (i * j)) H) := by
  intro pins s σ H x y v u Q I r1 r2 h
  obtain ⟨i, j, e1, e2, c, q⟩ := h
  subst e1; subst e2
  obtain ⟨t, rfl⟩ := r1
  obtain ⟨t', rfl⟩ := r2
  exact imul_int ⟨.int _, H, I.tok _, ⟨_, rfl⟩, q⟩ c.ok
/-- x *= y, ints -/
def ipMulU : TIp := fun x y H Q => ∃ i j, x = .int i ∧ y = .int j ∧ CMul i j ∧ Q (.int (i * j)) H
theorem r_ipMul {m n : Int} {H : Hp} {Q : VK} (c : CMul m n) (q : Q (.int (m * n)) H) : ipMulU (.int m) (.int n) H Q := ⟨m, n, rfl, rfl, c, q⟩
end Kb

set_option Elab.async false
set_option linter.all false
/-! ranks of rows; plain Lean -/
namespace Kb
def fac : Nat → Nat
  | 0 => 1
  | n + 1 => (n + 1) * fac n
def rk : List Int → Nat
  | [] => 0
  | x :: l => cnt x l * fac l.length + rk l
def unrk : Nat → List Int → Nat → List Int
  | 0, _, _ => []
  | m + 1, ls, k => ls.getD (k / fac m) 0 :: unrk m (ls.eraseIdx (k / fac m)) (k % fac m)
theorem fac_pos : ∀ n, 0 < fac n
  | 0 => Nat.one_pos
  | n + 1 => Nat.mul_pos (Nat.succ_pos n) (fac_pos n)
theorem cnt_le (x : Int) (l : List Int) : cnt x l ≤ l.length := List.length_filter_le _ _
theorem rk_lt : ∀ l : List Int, rk l < fac l.length
  | [] => Nat.one_pos
  | x :: l => by
    have h1 := rk_lt l
    have h2 := cnt_le x l
    show cnt x l * fac l.length + rk l < (l.length + 1) * fac l.length
    have h3 : cnt x l * fac l.length ≤ l.length * fac l.length := Nat.mul_le_mul_right _ h2
    rw [Nat.succ_mul]
    omega
abbrev Srt (l : List Int) : Prop := l.Pairwise (· < ·)
theorem cnt_zero {x : Int} : ∀ {l : List Int}, (∀ y ∈ l, x ≤ y) → cnt x l = 0
  | [], _ => rfl
  | y :: l, h => by
    rw [cnt_cons, cnt_zero fun z hz => h z (List.mem_cons_of_mem _ hz), if_neg (by have := h y List.mem_cons_self; omega)]
theorem cnt_srt : ∀ {ls : List Int}, Srt ls → ∀ i (hi : i < ls.length), cnt ls[i] ls = i
  | [], _, i, hi => absurd hi (Nat.not_lt_zero _)
  | y :: t, s, 0, _ => by
    have h := List.pairwise_cons.mp s
    exact cnt_zero fun z hz => by
      rcases List.mem_cons.mp hz with rfl | hz
      · exact Int.le_refl _
      · exact Int.le_of_lt (h.1 z hz)
  | y :: t, s, i + 1, hi => by
    have h := List.pairwise_cons.mp s
    have hi' : i < t.length := by simpa using hi
    show cnt t[i] (y :: t) = i + 1
    rw [cnt_cons, cnt_srt h.2 i hi', if_pos (h.1 _ (List.getElem_mem hi'))]
    omega
theorem at_cnt {ls : List Int} (s : Srt ls) {x : Int} (hx : x ∈ ls) : ∃ hl : cnt x ls < ls.length, ls[cnt x ls] = x := by
  obtain ⟨i, hi, e⟩ := List.getElem_of_mem hx
  have c := cnt_srt s i hi
  rw [e] at c
  subst c
  exact ⟨hi, e⟩
theorem erase_perm {ls : List Int} {i : Nat} (hi : i < ls.length) : (ls[i] :: ls.eraseIdx i).Perm ls := by
  rw [List.eraseIdx_eq_take_drop_succ]
  have e2 : ls = ls.take i ++ ls[i] :: ls.drop (i + 1) := by
    rw [List.getElem_cons_drop]
    exact (List.take_append_drop i ls).symm
  conv => rhs; rw [e2]
  exact (List.perm_middle (a := ls[i]) (l₁ := ls.take i) (l₂ := ls.drop (i + 1))).symm
theorem srt_erase {ls : List Int} (s : Srt ls) (i : Nat) : Srt (ls.eraseIdx i) := s.sublist (List.eraseIdx_sublist ..)
theorem cnt_self (x : Int) (l : List Int) : cnt x (x :: l) = cnt x l := by rw [cnt_cons, if_neg (by omega)]; omega
theorem unrk_rk : ∀ (l ls : List Int), l.Perm ls → Srt ls → unrk l.length ls (rk l) = l
  | [], _, _, _ => rfl
  | x :: l, ls, p, s => by
    have hlt := rk_lt l
    have hd : rk (x :: l) / fac l.length = cnt x l := by
      show (cnt x l * fac l.length + rk l) / fac l.length = _
      rw [Nat.add_comm, Nat.add_mul_div_right _ _ (fac_pos _), Nat.div_eq_of_lt hlt, Nat.zero_add]
    have hm : rk (x :: l) % fac l.length = rk l := by
      show (cnt x l * fac l.length + rk l) % fac l.length = _
      rw [Nat.add_comm, Nat.add_mul_mod_self_right, Nat.mod_eq_of_lt hlt]
    have hx : x ∈ ls := p.mem_iff.mp List.mem_cons_self
    have hc : cnt x l = cnt x ls := by rw [← cnt_self, cnt_perm p]
    obtain ⟨hl, e⟩ := at_cnt s hx
    show ls.getD (rk (x :: l) / fac l.length) 0 :: unrk l.length (ls.eraseIdx (rk (x :: l) / fac l.length)) (rk (x :: l) % fac l.length) = _
    rw [hd, hm, hc, List.getD_eq_getElem?_getD, List.getElem?_eq_getElem hl]
    have p2 : l.Perm (ls.eraseIdx (cnt x ls)) := by
      have q := (erase_perm hl).trans p.symm
      rw [e] at q
      exact (List.Perm.cons_inv q).symm
    rw [unrk_rk l _ p2 (srt_erase s _)]
    show ls[cnt x ls] :: l = _
    rw [e]
theorem rk_unrk : ∀ (m : Nat) (ls : List Int) (k : Nat), ls.length = m → Srt ls → k < fac m → (unrk m ls k).Perm ls ∧ rk (unrk m ls k) = k
  | 0, ls, k, hl, _, hk => by
    have : ls = [] := List.length_eq_zero_iff.mp hl
    subst this
    exact ⟨List.Perm.refl _, by have hk : k < 1 := hk; show 0 = k; omega⟩
  | m + 1, ls, k, hl, s, hk => by
    have hq : k / fac m < ls.length := by
      rw [hl]
      exact Nat.div_lt_of_lt_mul (by rw [Nat.mul_comm]; exact hk)
    have hel : (ls.eraseIdx (k / fac m)).length = m := by rw [List.length_eraseIdx_of_lt hq, hl]; rfl
    obtain ⟨ih1, ih2⟩ := rk_unrk m (ls.eraseIdx (k / fac m)) (k % fac m) hel (srt_erase s _) (Nat.mod_lt _ (fac_pos m))
    have eg : ls.getD (k / fac m) 0 = ls[k / fac m] := by rw [List.getD_eq_getElem?_getD, List.getElem?_eq_getElem hq]; rfl
    refine ⟨?_, ?_⟩
    · show (ls.getD (k / fac m) 0 :: unrk m (ls.eraseIdx (k / fac m)) (k % fac m)).Perm ls
      rw [eg]
      exact (ih1.cons _).trans (erase_perm hq)
    · show cnt (ls.getD (k / fac m) 0) (unrk m (ls.eraseIdx (k / fac m)) (k % fac m)) * fac (unrk m (ls.eraseIdx (k / fac m)) (k % fac m)).length + rk (unrk m (ls.eraseIdx (k / fac m)) (k % fac m)) = k
      rw [ih2, eg, ih1.length_eq, hel]
      have c1 : cnt ls[k / fac m] (unrk m (ls.eraseIdx (k / fac m)) (k % fac m)) = k / fac m := by
        rw [cnt_perm ih1, ← cnt_self, cnt_perm (erase_perm hq), cnt_srt s]
      rw [c1, Nat.mul_comm]
      exact Nat.div_add_mod k (fac m)
/-- by the order of dictionaries -/
def lexL : List Int → List Int → Bool
  | [], [] => false
  | [], _ :: _ => true
  | _ :: _, [] => false
  | x :: xs, y :: ys => if x = y then lexL xs ys else decide (x < y)
theorem cnt_mono {x y : Int} (h : x < y) : ∀ {l : List Int}, x ∈ l → cnt x l < cnt y l
  | [], hx => by cases hx
  | z :: l, hx => by
    have key : ∀ l : List Int, cnt x l ≤ cnt y l := fun l => by
      induction l with
      | nil => exact Nat.le_refl _
      | cons a l ih =>
        rw [cnt_cons, cnt_cons]
        by_cases h1 : a < x
        · rw [if_pos h1, if_pos (by omega)]; omega
        · rw [if_neg h1]; omega
    rw [cnt_cons, cnt_cons]
    rcases List.mem_cons.mp hx with rfl | hx
    · rw [if_neg (by omega), if_pos h]
      have := key l
      omega
    · have := cnt_mono h hx
      by_cases h1 : z < x
      · rw [if_pos h1, if_pos (by omega)]; omega
      · rw [if_neg h1]; omega
theorem rk_lex : ∀ (a b ls : List Int), a.Perm ls → b.Perm ls → decide (rk a < rk b) = lexL a b
  | [], b, ls, pa, pb => by
    have e := (pb.trans pa.symm).length_eq
    have : b = [] := List.length_eq_zero_iff.mp e
    subst this
    rfl
  | x :: a, [], ls, pa, pb => by
    have e := (pb.trans pa.symm).length_eq
    cases e
  | x :: a, y :: b, ls, pa, pb => by
    have pab := pa.trans pb.symm
    have el : a.length = b.length := by have := pab.length_eq; simpa using this
    have la := rk_lt a
    have lb := rk_lt b
    rw [el] at la
    have cx : cnt x a = cnt x ls := by rw [← cnt_self, cnt_perm pa]
    have cy : cnt y b = cnt y ls := by rw [← cnt_self, cnt_perm pb]
    have hx : x ∈ ls := pa.mem_iff.mp List.mem_cons_self
    have hy : y ∈ ls := pb.mem_iff.mp List.mem_cons_self
    show decide (cnt x a * fac a.length + rk a < cnt y b * fac b.length + rk b) = if x = y then lexL a b else decide (x < y)
    rw [el, cx, cy]
    have step : ∀ {c d r s F : Nat}, c < d → r < F → c * F + r < d * F + s := fun {c d r s F} h1 h2 => by
      have h3 : (c + 1) * F ≤ d * F := Nat.mul_le_mul_right _ h1
      rw [Nat.succ_mul] at h3
      omega
    by_cases e : x = y
    · subst e
      rw [if_pos rfl, ← rk_lex a b _ (List.Perm.refl _) (List.Perm.cons_inv pab).symm]
      exact decide_eq_decide.mpr (by omega)
    · rw [if_neg e]
      by_cases h : x < y
      · have := step (s := rk b) (cnt_mono h hx) la
        rw [decide_eq_true this, decide_eq_true h]
      · have h' : y < x := by omega
        have := step (s := rk a) (cnt_mono h' hy) lb
        rw [decide_eq_false (by omega), decide_eq_false h]
/-- bells that change places -/
theorem row_swap {r : List Int} {n : Nat} (h : IsRow r n) {i j : Nat} (hi : i < n) (hj : j < n) : IsRow ((r.set i (r.getD j 0)).set j (r.getD i 0)) n := by
  have li : i < r.length := by rw [h.1]; exact hi
  have lj : j < r.length := by rw [h.1]; exact hj
  have gi : r.getD i 0 = r[i] := by rw [List.getD_eq_getElem?_getD, List.getElem?_eq_getElem li]; rfl
  have gj : r.getD j 0 = r[j] := by rw [List.getD_eq_getElem?_getD, List.getElem?_eq_getElem lj]; rfl
  rw [gi, gj]
  have hl : ((r.set i r[j]).set j r[i]).length = n := by rw [List.length_set, List.length_set, h.1]
  have key : ∀ k (hk : k < ((r.set i r[j]).set j r[i]).length), ∃ k', ∃ hk' : k' < r.length, ((r.set i r[j]).set j r[i])[k] = r[k'] ∧ k' = if k = j then i else if k = i then j else k := by
    intro k hk
    have hk2 : k < r.length := by rw [hl] at hk; rw [h.1]; exact hk
    by_cases e1 : k = j
    · subst e1
      exact ⟨i, li, by rw [List.getElem_set_self], by rw [if_pos rfl]⟩
    · by_cases e2 : k = i
      · subst e2
        exact ⟨j, lj, by rw [List.getElem_set_ne (Ne.symm e1), List.getElem_set_self], by rw [if_neg e1, if_pos rfl]⟩
      · exact ⟨k, hk2, by rw [List.getElem_set_ne (Ne.symm e1), List.getElem_set_ne (Ne.symm e2)], by rw [if_neg e1, if_neg e2]⟩
  refine ⟨hl, ?_, fun x hx => ?_⟩
  · rw [List.nodup_iff_pairwise_ne, List.pairwise_iff_getElem]
    intro a b ha hb hab e
    obtain ⟨a', la, ea, qa⟩ := key a ha
    obtain ⟨b', lb, eb, qb⟩ := key b hb
    rw [ea, eb] at e
    have := nodup_inj h.2.1 e
    split at qa <;> split at qb <;> (try split at qa) <;> (try split at qb) <;> omega
  · obtain ⟨k, hk, rfl⟩ := List.getElem_of_mem hx
    obtain ⟨k', hk', e, _⟩ := key k hk
    rw [e]
    exact h.2.2 _ (List.getElem_mem hk')
/-- all rows, in their order -/
def allR (n : Nat) : Nat → List (List Int)
  | 0 => [[]]
  | k + 1 => (allR n k).flatMap fun r => ((roundsR n).filter fun b => !(r.contains b)).map fun b => r ++ [b]
theorem allR_ok : (List.range 5).all (fun n => (List.range (fac n)).all fun k => (allR n n)[k]? == some (unrk n (roundsR n) k)) = true := by decide +kernel
theorem first_ok : (List.range 13).all (fun n => unrk n (roundsR n) 0 == roundsR n) = true := by decide +kernel
theorem last_ok : (List.range 13).all (fun n => unrk n (roundsR n) (fac n - 1) == (roundsR n).reverse) = true := by decide +kernel
theorem fac_le {n : Nat} (h : n ≤ 12) : fac n ≤ 479001600 := by
  have : (List.range 13).all (fun n => decide (fac n ≤ 479001600)) = true := by decide +kernel
  exact of_decide_eq_true (List.all_eq_true.mp this n (List.mem_range.mpr (by omega)))
end Kb

set_option Elab.async false
set_option linter.all false
set_option maxRecDepth 100000
set_option maxHeartbeats 4000000
namespace Kb
open PySem PySem.Spec PyProof.Rows L2
/-! the tactics: rd walks a reading; tk closes a fact about a heap from those ahead of it -/
local macro_rules | `(tactic| walk_at "tk") => `(tactic| first
  | assumption
  | ((with_reducible refine' sqT_of ?k); (case k => assumption))
  | ((with_reducible refine' sqT_ofD ?k); (case k => assumption))
  | ((with_reducible refine' noD_of ?k); (case k => assumption))
  | ((with_reducible refine' noD_same ?s ?k); (case s => assumption); (case k => walk_at "tk"))
  | ((with_reducible refine' sqL_of ?k); (case k => assumption))
  | ((with_reducible refine' sqT_same ?s ?k); (case s => assumption); (case k => walk_at "tk"))
  | ((with_reducible refine' sqL_same ?s ?k); (case s => assumption); (case k => walk_at "tk"))
  | ((with_reducible refine' sqT_but ?s ?t ?k); (case s => assumption); (case t => walk_at "tk"); (case k => walk_at "tk"))
  | ((with_reducible refine' sqL_but ?s ?t ?k); (case s => assumption); (case t => walk_at "ne"); (case k => walk_at "tk"))
  | ((with_reducible refine' sqL_of ?k); (case k => walk_at "tk"))
  | ((with_reducible refine' sqT_of ?k); (case k => walk_at "tk"))
  | ((with_reducible refine' at_same ?s ?k); (case s => assumption); (case k => walk_at "tk"))
  | ((with_reducible refine' at_but ?s ?t ?k); (case s => assumption); (case t => walk_at "ne"); (case k => walk_at "tk")))
local macro_rules | `(tactic| walk_at "ne") => `(tactic| first
  | assumption
  | (refine Ne.symm ?_; assumption)
  | exact ne_of_none (by assumption) (by assumption)
  | exact (ne_of_none (by assumption) (by assumption)).symm)
local macro_rules | `(tactic| walk_at "side") => `(tactic| first
  | assumption
  | omega
  | (simp only [sizeLine_eq, List.length_cons, List.length_nil, List.length_map]; omega)
  | (show _ ≤ sizeLine; decide))
local macro_rules | `(tactic| walk_at "kit") => `(tactic| first
  | (show kitB _ _ = some true; decide +kernel)
  | (show kitB _ _ = some false; decide +kernel))
local macro_rules | `(tactic| walk_at "rng") => `(tactic| first
  | (refine ⟨by omega, by omega, by omega, by omega⟩)
  | (refine ⟨by omega, by omega⟩)
  | ((simp only [List.length_map]); (refine ⟨by omega, by omega, by omega, by omega⟩))
  | ((simp only [List.length_map]); (refine ⟨by omega, by omega⟩)))
local macro_rules | `(tactic| walk_at "rd1") => `(tactic| first
  | with_reducible refine r_seq ?_
  | ((with_reducible refine' r_var ?k0 ?_); (case k0 => rfl))
  | with_reducible refine r_op ?_
  | with_reducible refine r_c ?_
  | with_reducible refine r_asg ?_
  | with_reducible refine r_name ?_
  | with_reducible refine r_cons ?_
  | with_reducible refine r_nil ?_
  | with_reducible refine r_CB ?_
  | with_reducible refine r_if ?_
  | with_reducible refine r_test ?_
  | with_reducible refine r_k ?_
  | with_reducible refine r_T ?_
  | with_reducible refine r_F ?_
  | with_reducible refine r_nT ?_
  | with_reducible refine r_nF ?_
  | with_reducible refine r_ret ?_
  | with_reducible refine r_drop ?_
  | with_reducible refine r_next ?_
  | with_reducible refine r_call ?_
  | with_reducible refine r_addI ?_
  | with_reducible refine r_subI ?_
  | with_reducible refine r_ltI ?_
  | with_reducible refine r_gtI ?_
  | with_reducible refine r_leI ?_
  | with_reducible refine r_geI ?_
  | with_reducible refine r_eqI ?_
  | with_reducible refine r_neI ?_
  | with_reducible refine r_int ?_
  | with_reducible refine r_abs ?_
  | with_reducible refine r_not ?_
  | with_reducible refine r_and ?_
  | with_reducible refine r_or ?_
  | with_reducible refine r_tru ?_
  | with_reducible refine r_truB ?_
  | with_reducible refine r_lst ?_
  | with_reducible refine r_tup ?_
  | with_reducible refine r_BM ?_
  | with_reducible refine r_BM0 ?_
  | with_reducible refine r_tyS ?_
  | with_reducible refine r_gsub ?_
  | with_reducible refine r_then ?_
  | with_reducible refine r_lstRg ?_
  | with_reducible refine r_tupRg ?_
  | with_reducible refine r_rg2 ?_
  | with_reducible refine r_rg1 ?_
  | with_reducible refine r_ii ?_
  | with_reducible refine r_i ?_
  | with_reducible refine r_ipI ?_
  | with_reducible refine r_un ?_
  | with_reducible refine r_neg ?_
  | with_reducible refine r_isN ?_
  | with_reducible refine r_notN ?_
  | with_reducible refine r_notV ?_
  | with_reducible refine r_pnot ?_
  | with_reducible refine r_pif ?_
  | with_reducible refine r_andV ?_
  | with_reducible refine r_orV ?_
  | with_reducible refine r_ifE ?_
  | with_reducible refine r_chain ?_
  | with_reducible refine r_sl ?_
  | with_reducible refine r_noPart ?_
  | with_reducible refine r_part ?_
  | with_reducible refine r_brk ?_
  | with_reducible refine r_cont ?_
  | with_reducible refine r_retN ?_
  | with_reducible refine r_truI ?_
  | with_reducible refine r_B ?_
  | with_reducible refine r_for ?_
  | with_reducible refine r_rng1 ?_
  | with_reducible refine r_rng2 ?_
  | with_reducible refine r_rng3 ?_
  | with_reducible refine r_body ?_
  | with_reducible refine r_lc ?_
  | with_reducible refine r_yes ?_
  | ((with_reducible refine' r_mod ?k0 ?_); (case k0 => walk_at "side"))
  | ((with_reducible refine' r_mulI ?k0 ?_); (case k0 => first | exact Or.inl ⟨by omega, by omega⟩ | exact Or.inr ⟨by omega, by omega⟩))
  | ((with_reducible refine' r_lenL ?k0 ?_); (case k0 => walk_at "tk"))
  | ((with_reducible refine' r_lenT ?k0 ?_); (case k0 => walk_at "tk"))
  | ((with_reducible refine' r_truL ?k0 ?_); (case k0 => walk_at "tk"))
  | ((with_reducible refine' r_truT ?k0 ?_); (case k0 => walk_at "tk"))
  | ((with_reducible refine' r_ixL ?k0 ?k1 ?_); (case k0 => walk_at "tk"); (case k1 => first | assumption | rfl))
  | ((with_reducible refine' r_ixT ?k0 ?k1 ?_); (case k0 => walk_at "tk"); (case k1 => first | assumption | rfl))
  | ((with_reducible refine' r_new ?k0 ?_); (case k0 => walk_at "side"))
  | ((with_reducible refine' r_tyL ?k0 ?_); (case k0 => walk_at "tk"))
  | ((with_reducible refine' r_append ?k0 ?k1 ?_); (case k0 => walk_at "tk"); (case k1 => walk_at "side"))
  | ((with_reducible refine' r_setL ?k0 ?k1 ?_); (case k0 => walk_at "tk"); (case k1 => first | assumption | rfl))
  | ((with_reducible refine' r_kTupL ?k0 ?_); (case k0 => walk_at "tk"))
  | ((with_reducible refine' r_kTupT ?k0 ?_); (case k0 => walk_at "tk"))
  | ((with_reducible refine' r_listL ?k0 ?_); (case k0 => walk_at "tk"))
  | ((with_reducible refine' r_listT ?k0 ?_); (case k0 => walk_at "tk"))
  | ((with_reducible refine' r_aug ?k0 ?_); (case k0 => rfl))
  | ((with_reducible refine' r_lenS ?k0 ?_); (case k0 => walk_at "side"))
  | ((with_reducible refine' r_pop ?k0 ?_); (case k0 => walk_at "tk"))
  | ((with_reducible refine' r_pr1 ?k0 ?_); (case k0 => walk_at "rng"))
  | ((with_reducible refine' r_pr2 ?k0 ?_); (case k0 => walk_at "rng"))
  | ((with_reducible refine' r_pr3d ?k0 ?_); (case k0 => walk_at "rng"))
  | ((with_reducible refine' r_isiI ?k0 ?_); (case k0 => walk_at "kit"))
  | ((with_reducible refine' r_isiB ?k0 ?_); (case k0 => walk_at "kit"))
  | ((with_reducible refine' r_isiS ?k0 ?_); (case k0 => walk_at "kit"))
  | ((with_reducible refine' r_isiN ?k0 ?_); (case k0 => walk_at "kit"))
  | ((with_reducible refine' r_isiT ?k0 ?k1 ?_); (case k0 => walk_at "tk"); (case k1 => walk_at "kit"))
  | ((with_reducible refine r_seqT ?_); (repeat (walk_at "rd1")); ((with_reducible refine' r_pseqT ?k0 ?_); (case k0 => walk_at "tk")))
  | ((with_reducible refine r_seqL ?_); (repeat (walk_at "rd1")); ((with_reducible refine' r_pseqL ?k0 ?_); (case k0 => walk_at "tk")))
  | ((with_reducible refine r_seqS ?_); (repeat (walk_at "rd1")); (with_reducible refine r_pseqS ?_)))
local macro_rules | `(tactic| walk_at "rd") => `(tactic| ((repeat (walk_at "rd1")); (try dsimp only)))

local macro_rules | `(tactic| walk_at "rd1") => `(tactic| first
  | with_reducible refine r_BMT ?_
  | ((with_reducible refine' r_ptp ?k0 ?k1 ?_); (case k0 => walk_at "tk"); (case k1 => walk_at "tk"))
  | with_reducible refine r_eqS ?_
  | with_reducible refine r_neS ?_
  | with_reducible refine r_callW ?_
  | with_reducible refine r_try ?_
  | with_reducible refine r_enT ?_
  | ((with_reducible refine' r_pen ?k0 ?_); (case k0 => walk_at "tk")))

abbrev XN : List Str := ["ChamberError", "BadStage", "BadExponent", "BadRank"]
/-! ### promises -/
def sp_check_stage (K : PySem.W.Frag) (ec : Str → Addr) : Sp := fun vs H Q E => ∃ (s : Int), vs = [.int s] ∧ (1 ≤ s ∧ s ≤ 12 → Q .non H) ∧
  (¬ (1 ≤ s ∧ s ≤ 12) → ∀ d H', Same H H' → H d = none → H' d = some (.xd [("word", .str "BadStage")]) → E (.ref (ec "BadStage")) (some d) H')
def sp_rank_of (K : PySem.W.Frag) : Sp := fun vs H Q _ => ∃ (a : Addr) (r : List Int) (n : Nat), vs = [.ref a] ∧ SqT K H a (r.map V.int) ∧ IsRow r n ∧ n ≤ 12 ∧ ∀ H', Same H H' → Q (.int (rk r : Nat)) H'
def sp_row_of_rank (K : PySem.W.Frag) (ec : Str → Addr) : Sp := fun vs H Q E => ∃ (s k : Int), vs = [.int s, .int k] ∧
  (∀ (n j : Nat), s = (n : Int) → k = (j : Int) → 1 ≤ n → n ≤ 12 → j < fac n → ∀ p H', H p = none → Same H H' → SqT K H' p ((unrk n (roundsR n) j).map V.int) → NoD H' p → Q (.ref p) H') ∧
  (¬ (1 ≤ s ∧ s ≤ 12) → ∀ d H', Same H H' → H d = none → H' d = some (.xd [("word", .str "BadStage")]) → E (.ref (ec "BadStage")) (some d) H') ∧
  (1 ≤ s ∧ s ≤ 12 → ¬ (0 ≤ k ∧ k < (fac s.toNat : Nat)) → ∀ d H', Same H H' → H d = none → H' d = some (.xd [("word", .str "BadRank")]) → E (.ref (ec "BadRank")) (some d) H')
def sp_law_factorial (K : PySem.W.Frag) : Sp := fun vs H Q _ => ∃ (n : Nat), vs = [.int (n : Int)] ∧ n ≤ 12 ∧ Q (.int (fac n : Nat)) H
def sp_law_rank (K : PySem.W.Frag) : Sp := sp_rank_of K
def sp_law_all_rows (K : PySem.W.Frag) : Sp := fun vs H Q _ => ∃ (n : Nat), vs = [.int (n : Int)] ∧ n ≤ 4 ∧ ∀ p ws H', Same H H' → H' p = some (.lst ws) → RpL K H' ws ((allR n n).map fun r => .tup (r.map .int)) → Q (.ref p) H'
def sp_law_is_row_of (K : PySem.W.Frag) : Sp := fun vs H Q _ => ∃ (a : Addr) (r : List Int) (n : Nat), vs = [.int (n : Int), .ref a] ∧ SqT K H a (r.map V.int) ∧ NoD H a ∧ IsRow r n ∧ n ≤ 12 ∧ ∀ H', Same H H' → Q (.bl true) H'
def sp_law_refused (K : PySem.W.Frag) : Sp := fun vs H Q _ => ∃ (s k : Int) (due : Str), vs = [.int s, .int k, .str due] ∧ ((due = "BadStage" ∧ ¬ (1 ≤ s ∧ s ≤ 12)) ∨ (due = "BadRank" ∧ (1 ≤ s ∧ s ≤ 12) ∧ ¬ (0 ≤ k ∧ k < (fac s.toNat : Nat)))) ∧ ∀ H', Same H H' → Q (.bl true) H'
def sp_law (K : PySem.W.Frag) : Sp := fun vs H Q _ => ∃ (a : Addr) (ns : List Int), vs = [.ref a] ∧ SqL K H a (ns.map V.int) ∧ ns.length ≤ 63 ∧ ∀ H', Q (.bl true) H'
abbrev N_check_stage : List Str := ["stage"]
def t_check_stage (K : PySem.W.Frag) (ec : Str → Addr) (E : XK) : TS :=
  (tIfS ((tNot ((tTest (tChain (rLeU K) (rLeU K) ((tC (.int 1))) (tVar 0) ((tCB (rLenU K) (tCons ((tC (.str "1234567890ET"))) tNil)))))))) ((sRaise (fun cls d _ H => E cls d H) (tBad (ec "BadStage") "BadStage"))) (tNext))

abbrev N_rank_of : List Str := ["row", "rank", "at", "bell", "lesser", "other"]
def t_rank_of (K : PySem.W.Frag) : TS :=
  tSeq (tAsg ((tC (.int 0))) (gName 1))
  (tSeq (tFor (iEnT K 0 (tCons (tVar 0) tNil)) (gTup K 2 (gCons (gName 2) (gCons (gName 3) gNil))) (tSeq (tAsg ((tCB (rLenU K) (tCons ((tLc ((iSeqU K ((tSl (rSlU K) (tVar 0) (tPart ((tOp (rAddU K) (tVar 2) ((tC (.int 1)))))) tNoPart)))) ((gName 5)) ((tTest (tOp (rLtU K) (tVar 5) (tVar 3)))) (tVar 5) [5])) tNil))) (gName 4))
  ((tAsg ((tOp (rAddU K) ((tOp (rMulU K) (tVar 1) ((tOp rSubU ((tCB (rLenU K) (tCons (tVar 0) tNil))) (tVar 2))))) (tVar 4))) (gName 1)))))
  ((tRet (tVar 1))))

abbrev N_row_of_rank : List Str := ["stage", "rank", "count", "size", "bells", "row"]
def t_row_of_rank (K : PySem.W.Frag) (ec : Str → Addr) (E : XK) : TS :=
  tSeq (tDrop ((tCallW (sp_check_stage K ec) (fun cls d _ H => E cls d H) (tCons (tVar 0) tNil))))
  (tSeq (tAsg ((tC (.int 1))) (gName 2))
  (tSeq (tFor (iRng2 (tCons ((tC (.int 2))) (tCons ((tOp (rAddU K) (tVar 0) ((tC (.int 1))))) tNil))) (gName 3) ((tAug 2 (tVar 3) ipMulU)))
  (tSeq (tIfS ((tNot ((tTest (tChain (rLeU K) (rLtU K) ((tC (.int 0))) (tVar 1) (tVar 2)))))) ((sRaise (fun cls d _ H => E cls d H) (tBad (ec "BadRank") "BadRank"))) (tNext))
  (tSeq (tAsg ((tLstRg (tRg2 ((tC (.int 1))) ((tOp (rAddU K) (tVar 0) ((tC (.int 1)))))))) (gName 4))
  (tSeq (tAsg ((tLst tNil)) (gName 5))
  (tSeq (tFor (iRng3 (tCons (tVar 0) (tCons ((tC (.int 0))) (tCons ((tUn (rU fun i => .int (-i)) ((tC (.int 1))))) tNil)))) (gName 3) (tSeq (tAsg ((tOp rFdivU (tVar 2) (tVar 3))) (gName 2))
  (tSeq (tDrop ((tBM K "list" rAppend (tVar 5) (tCons ((tBM K "list" rPopAt (tVar 4) (tCons ((tOp rFdivU (tVar 1) (tVar 2))) tNil))) tNil))))
  ((tAsg ((tOp rModU (tVar 1) (tVar 2))) (gName 1))))))
  ((tRet ((tThen (tVar 5) (kTupD K)))))))))))

abbrev N_law_factorial : List Str := ["many", "out", "k"]
def t_law_factorial (K : PySem.W.Frag) : TS :=
  tSeq (tAsg ((tC (.int 1))) (gName 1))
  (tSeq (tFor (iRng2 (tCons ((tC (.int 2))) (tCons ((tOp (rAddU K) (tVar 0) ((tC (.int 1))))) tNil))) (gName 2) ((tAsg ((tOp (rMulU K) (tVar 1) (tVar 2))) (gName 1))))
  ((tRet (tVar 1))))

abbrev N_law_rank : List Str := ["row", "left", "rank", "bell", "at"]
def t_law_rank (K : PySem.W.Frag) : TS :=
  tSeq (tAsg ((tLstRg (tRg2 ((tC (.int 1))) ((tOp (rAddU K) ((tCB (rLenU K) (tCons (tVar 0) tNil))) ((tC (.int 1)))))))) (gName 1))
  (tSeq (tAsg ((tC (.int 0))) (gName 2))
  (tSeq (tFor (iSeqU K (tVar 0)) (gName 3) (tSeq (tAsg ((tBM K "list" (rIndexL K) (tVar 1) (tCons (tVar 3) tNil))) (gName 4))
  (tSeq (tDrop ((tBM K "list" rPopAt (tVar 1) (tCons (tVar 4) tNil))))
  ((tAsg ((tOp (rAddU K) (tVar 2) ((tOp (rMulU K) (tVar 4) ((tCall (sp_law_factorial K) [] E0 (tCons ((tCB (rLenU K) (tCons (tVar 1) tNil))) tNil))))))) (gName 2))))))
  ((tRet (tVar 2)))))

abbrev N_law_all_rows : List Str := ["stage", "rows", "k", "longer", "row", "bell"]
def t_law_all_rows (K : PySem.W.Frag) : TS :=
  tSeq (tAsg ((tLst (tCons ((tTup tNil)) tNil))) (gName 1))
  (tSeq (tFor (iRng1 (tCons (tVar 0) tNil)) (gName 2) (tSeq (tAsg ((tLst tNil)) (gName 3))
  (tSeq (tFor (iSeqU K (tVar 1)) (gName 4) ((tDrop ((tBM K "list" rExtend (tVar 3) (tCons ((tLc ((iRng2 (tCons ((tC (.int 1))) (tCons ((tOp (rAddU K) (tVar 0) ((tC (.int 1))))) tNil)))) ((gName 5)) ((tTest (tOp (rNotInU K) (tVar 5) (tVar 4)))) ((tOp (rAddU K) (tVar 4) ((tTup (tCons (tVar 5) tNil))))) [5])) tNil))))))
  ((tAsg ((tCB (rListU K) (tCons (tVar 3) tNil))) (gName 1))))))
  ((tRet (tVar 1))))

abbrev N_law_is_row_of : List Str := ["stage", "told", "bell"]
def t_law_is_row_of (K : PySem.W.Frag) : TS :=
  tSeq (tIfS ((tOr ((tNot ((tTru K ((tCB (rIsi K) (tCons (tVar 1) (tCons ((tC (.ty "tuple"))) tNil)))))))) ((tTest (tOp (rNeU K) ((tCB (rLenU K) (tCons (tVar 1) tNil))) (tVar 0)))))) ((tRet ((tC (.bl false))))) (tNext))
  (tSeq (tFor (iSeqU K (tVar 1)) (gName 2) ((tIfS ((tOr ((tNot ((tTru K ((tCB (rIsi K) (tCons (tVar 2) (tCons ((tC (.ty "int"))) tNil)))))))) ((tTru K ((tCB (rIsi K) (tCons (tVar 2) (tCons ((tC (.ty "bool"))) tNil)))))))) ((tRet ((tC (.bl false))))) (tNext))))
  (tSeq (tFor (iRng2 (tCons ((tC (.int 1))) (tCons ((tOp (rAddU K) (tVar 0) ((tC (.int 1))))) tNil))) (gName 2) ((tIfS ((tTest (tOp (rNeU K) ((tBMT K (rCntT K) (tVar 1) (tCons (tVar 2) tNil))) ((tC (.int 1)))))) ((tRet ((tC (.bl false))))) (tNext))))
  ((tRet ((tC (.bl true)))))))

abbrev N_law_refused : List Str := ["stage", "rank", "due", "kind", "word", "alone", "e"]
def t_law_refused (K : PySem.W.Frag) (ec : Str → Addr) : TS :=
  tSeq (tAsg ((tC (.str ""))) (gName 3))
  (tSeq (tAsg ((tC (.str ""))) (gName 4))
  (tSeq (tAsg ((tC (.bl false))) (gName 5))
  (tSeq (tTry K W0 [⟨.ref (ec "BadStage"), some 6, fun a cls d => tSeq (tAsg ((tC (.str "BadStage"))) (gName 3))
  (tSeq (tAsg ((tXfA K a cls d "word" (tVar 6))) (gName 4))
  ((tAsg ((tAndV ((tCB (rIsX K a cls d) (tCons (tVar 6) (tCons ((tC (.ref (ec "ChamberError")))) tNil)))) ((tAndV ((tCB (rIsX K a cls d) (tCons (tVar 6) (tCons ((tC (.ty "ValueError"))) tNil)))) ((tNotV ((tCB (rIsX K a cls d) (tCons (tVar 6) (tCons ((tTup (tCons ((tC (.ref (ec "BadRank")))) (tCons ((tC (.ref (ec "BadExponent")))) tNil)))) tNil)))))))))) (gName 5))))⟩, ⟨.ref (ec "BadRank"), some 6, fun a cls d => tSeq (tAsg ((tC (.str "BadRank"))) (gName 3))
  (tSeq (tAsg ((tXfA K a cls d "word" (tVar 6))) (gName 4))
  ((tAsg ((tAndV ((tCB (rIsX K a cls d) (tCons (tVar 6) (tCons ((tC (.ref (ec "ChamberError")))) tNil)))) ((tAndV ((tCB (rIsX K a cls d) (tCons (tVar 6) (tCons ((tC (.ty "ValueError"))) tNil)))) ((tNotV ((tCB (rIsX K a cls d) (tCons (tVar 6) (tCons ((tTup (tCons ((tC (.ref (ec "BadStage")))) (tCons ((tC (.ref (ec "BadExponent")))) tNil)))) tNil)))))))))) (gName 5))))⟩, ⟨.ref (ec "ChamberError"), none, fun a cls d => (tAsg ((tC (.str "another"))) (gName 3))⟩] (fun W => (tDrop ((tCallW (sp_row_of_rank K ec) W (tCons (tVar 0) (tCons (tVar 1) tNil)))))))
  ((tRet ((tAndV ((tOp (rEqU K) (tVar 3) (tVar 2))) ((tAndV (tVar 5) ((tAndV ((tCB (rIsi K) (tCons (tVar 4) (tCons ((tC (.ty "str"))) tNil)))) ((tOp (rEqU K) (tVar 4) (tVar 2))))))))))))))

abbrev N_law : List Str := ["script", "pool", "stage", "row", "turn", "other", "at", "to", "bells", "rank", "numbers", "many", "number", "told", "rows", "home", "far", "strange"]
def t_law (K : PySem.W.Frag) (ec : Str → Addr) : TS :=
  tSeq (tAsg ((tCall (sp_law_pool K) [] E0 (tCons (tVar 0) (tCons ((tC (.int 0))) tNil)))) (gName 1))
  (tSeq (tAsg ((tOp (rAddU K) ((tC (.int 1))) ((tCall (sp_law_draw K) [] E0 (tCons (tVar 1) (tCons ((tC (.int 12))) tNil)))))) (gName 2))
  (tSeq (tAsg ((tCall (sp_law_row_draw K) [] E0 (tCons (tVar 1) (tCons (tVar 2) tNil)))) (gName 3))
  (tSeq (tAsg ((tCall (sp_law_pool K) [] E0 (tCons (tVar 0) (tCons ((tC (.int 1))) tNil)))) (gName 4))
  (tSeq (tAsg ((tCall (sp_law_row_draw K) [] E0 (tCons (tVar 4) (tCons (tVar 2) tNil)))) (gName 5))
  (tSeq (tIfS ((tTest (tOp (rEqU K) ((tCall (sp_law_draw K) [] E0 (tCons (tVar 4) (tCons ((tC (.int 2))) tNil)))) ((tC (.int 0)))))) (tSeq (tAsg ((tCall (sp_law_draw K) [] E0 (tCons (tVar 4) (tCons (tVar 2) tNil)))) (gName 6))
  (tSeq (tAsg ((tCall (sp_law_draw K) [] E0 (tCons (tVar 4) (tCons (tVar 2) tNil)))) (gName 7))
  (tSeq (tAsg ((tCB (rListU K) (tCons (tVar 3) tNil))) (gName 8))
  (tSeq (tAsg ((tOp (rIx K) (tVar 3) (tVar 7))) (gSub (tVar 8) (tVar 6) rSetL))
  (tSeq (tAsg ((tOp (rIx K) (tVar 3) (tVar 6))) (gSub (tVar 8) (tVar 7) rSetL))
  ((tAsg ((tThen (tVar 8) (kTupD K))) (gName 5)))))))) (tNext))
  (tSeq (tAsg ((tCall (sp_law_rank K) [] E0 (tCons (tVar 3) tNil))) (gName 9))
  (tSeq (tIfS ((tOr ((tNot ((tTru K ((tCall (sp_law_same K) [] E0 (tCons ((tCall (sp_rank_of K) [] E0 (tCons (tVar 3) tNil))) (tCons (tVar 9) tNil)))))))) ((tNot ((tTru K ((tCall (sp_law_same K) [] E0 (tCons ((tCall (sp_row_of_rank K ec) [] E0 (tCons (tVar 2) (tCons (tVar 9) tNil)))) (tCons (tVar 3) tNil)))))))))) ((tRet ((tC (.bl false))))) (tNext))
  (tSeq (tIfS ((tOr ((tNot ((tTru K ((tCall (sp_law_same K) [] E0 (tCons ((tCall (sp_rank_of K) [] E0 (tCons (tVar 5) tNil))) (tCons ((tCall (sp_law_rank K) [] E0 (tCons (tVar 5) tNil))) tNil)))))))) ((tTest (tOp (rNeU K) ((tOp (rLtU K) ((tCall (sp_rank_of K) [] E0 (tCons (tVar 3) tNil))) ((tCall (sp_rank_of K) [] E0 (tCons (tVar 5) tNil))))) ((tOp (rLtU K) (tVar 3) (tVar 5)))))))) ((tRet ((tC (.bl false))))) (tNext))
  (tSeq (tAsg ((tCall (sp_law_pool K) [] E0 (tCons (tVar 0) (tCons ((tC (.int 2))) tNil)))) (gName 10))
  (tSeq (tAsg ((tCall (sp_law_factorial K) [] E0 (tCons (tVar 2) tNil))) (gName 11))
  (tSeq (tAsg ((tOp rModU ((tCB rIntU (tCons ((tOp (rAddU K) ((tOp (rMulU K) ((tCall (sp_law_draw K) [] E0 (tCons (tVar 10) (tCons ((tC (.int 30000))) tNil)))) ((tC (.int 30000))))) ((tCall (sp_law_draw K) [] E0 (tCons (tVar 10) (tCons ((tC (.int 30000))) tNil)))))) tNil))) (tVar 11))) (gName 12))
  (tSeq (tAsg ((tCall (sp_row_of_rank K ec) [] E0 (tCons (tVar 2) (tCons (tVar 12) tNil)))) (gName 13))
  (tSeq (tIfS ((tOr ((tNot ((tTru K ((tCall (sp_law_is_row_of K) [] E0 (tCons (tVar 2) (tCons (tVar 13) tNil)))))))) ((tOr ((tTest (tOp (rNeU K) ((tCall (sp_law_rank K) [] E0 (tCons (tVar 13) tNil))) (tVar 12)))) ((tNot ((tTru K ((tCall (sp_law_same K) [] E0 (tCons ((tCall (sp_rank_of K) [] E0 (tCons (tVar 13) tNil))) (tCons (tVar 12) tNil)))))))))))) ((tRet ((tC (.bl false))))) (tNext))
  (tSeq (tIfS ((tTest (tOp (rLtU K) (tVar 2) ((tC (.int 5)))))) (tSeq (tAsg ((tCall (sp_law_all_rows K) [] E0 (tCons (tVar 2) tNil))) (gName 14))
  ((tIfS ((tOr ((tTest (tOp (rNeU K) ((tOp (rIx K) (tVar 14) (tVar 9))) (tVar 3)))) ((tNot ((tTru K ((tCall (sp_law_same K) [] E0 (tCons (tVar 13) (tCons ((tOp (rIx K) (tVar 14) (tVar 12))) tNil)))))))))) ((tRet ((tC (.bl false))))) (tNext)))) (tNext))
  (tSeq (tAsg ((tThen ((tLstRg (tRg2 ((tC (.int 1))) ((tOp (rAddU K) (tVar 2) ((tC (.int 1)))))))) (kTupD K))) (gName 15))
  (tSeq (tIfS ((tOr ((tNot ((tTru K ((tCall (sp_law_same K) [] E0 (tCons ((tCall (sp_row_of_rank K ec) [] E0 (tCons (tVar 2) (tCons ((tC (.int 0))) tNil)))) (tCons (tVar 15) tNil)))))))) ((tNot ((tTru K ((tCall (sp_law_same K) [] E0 (tCons ((tCall (sp_row_of_rank K ec) [] E0 (tCons (tVar 2) (tCons ((tOp rSubU (tVar 11) ((tC (.int 1))))) tNil)))) (tCons ((tRevU K (tVar 15) (tPart ((tUn (rU fun i => .int (-i)) ((tC (.int 1)))))))) tNil)))))))))) ((tRet ((tC (.bl false))))) (tNext))
  (tSeq (tAsg ((tOp (rIx K) ((tLst (tCons ((tC (.int 0))) (tCons ((tC (.int 1))) (tCons ((tOp (rAddU K) ((tOp (rMulU K) ((tCall (sp_law_draw K) [] E0 (tCons (tVar 10) (tCons ((tOp rPowU ((tC (.int 10))) ((tC (.int 8))))) tNil)))) ((tOp rPowU ((tC (.int 10))) ((tC (.int 8))))))) ((tCall (sp_law_draw K) [] E0 (tCons (tVar 10) (tCons ((tOp rPowU ((tC (.int 10))) ((tC (.int 8))))) tNil)))))) tNil))))) ((tCall (sp_law_draw K) [] E0 (tCons (tVar 10) (tCons ((tC (.int 3))) tNil)))))) (gName 16))
  (tSeq (tIfS ((tOr ((tNot ((tTru K ((tCall (sp_law_refused K) [] E0 (tCons (tVar 2) (tCons ((tOp (rAddU K) (tVar 11) (tVar 16))) (tCons ((tC (.str "BadRank"))) tNil))))))))) ((tNot ((tTru K ((tCall (sp_law_refused K) [] E0 (tCons (tVar 2) (tCons ((tOp rSubU ((tUn (rU fun i => .int (-i)) ((tC (.int 1))))) (tVar 16))) (tCons ((tC (.str "BadRank"))) tNil))))))))))) ((tRet ((tC (.bl false))))) (tNext))
  (tSeq (tAsg ((tOp (rIx K) ((tLst (tCons ((tC (.int 0))) (tCons ((tC (.int 13))) (tCons ((tUn (rU fun i => .int (-i)) (tVar 16))) (tCons ((tOp (rAddU K) ((tC (.int 13))) (tVar 16))) tNil)))))) ((tCall (sp_law_draw K) [] E0 (tCons (tVar 10) (tCons ((tC (.int 4))) tNil)))))) (gName 17))
  (tSeq (tIfS ((tOr ((tNot ((tTru K ((tCall (sp_law_refused K) [] E0 (tCons (tVar 17) (tCons (tVar 12) (tCons ((tC (.str "BadStage"))) tNil))))))))) ((tNot ((tTru K ((tCall (sp_law_refused K) [] E0 (tCons (tVar 17) (tCons ((tOp rSubU ((tUn (rU fun i => .int (-i)) ((tC (.int 1))))) (tVar 16))) (tCons ((tC (.str "BadStage"))) tNil))))))))))) ((tRet ((tC (.bl false))))) (tNext))
  ((tRet ((tCall (sp_law_same K) [] E0 (tCons ((tCall (sp_rank_of K) [] E0 (tCons (tVar 3) tNil))) (tCons (tVar 9) tNil))))))))))))))))))))))))))


section
variable {K : PySem.W.Frag} {ec : Str → Addr} {vs : List V} {H : Hp} {Q : VK} {E : XK}
theorem len_check_stage (h : sp_check_stage K ec vs H Q E) : vs.length = 1 := by obtain ⟨s, rfl, _⟩ := h; rfl
theorem len_rank_of (h : sp_rank_of K vs H Q E) : vs.length = 1 := by obtain ⟨a, r, n, rfl, _⟩ := h; rfl
theorem len_row_of_rank (h : sp_row_of_rank K ec vs H Q E) : vs.length = 2 := by obtain ⟨s, k, rfl, _⟩ := h; rfl
theorem len_law_factorial (h : sp_law_factorial K vs H Q E) : vs.length = 1 := by obtain ⟨n, rfl, _⟩ := h; rfl
theorem len_law_rank (h : sp_law_rank K vs H Q E) : vs.length = 1 := len_rank_of h
theorem len_law_all_rows (h : sp_law_all_rows K vs H Q E) : vs.length = 1 := by obtain ⟨n, rfl, _⟩ := h; rfl
theorem len_law_is_row_of (h : sp_law_is_row_of K vs H Q E) : vs.length = 2 := by obtain ⟨a, r, n, rfl, _⟩ := h; rfl
theorem len_law_refused (h : sp_law_refused K vs H Q E) : vs.length = 3 := by obtain ⟨s, k, due, rfl, _⟩ := h; rfl
theorem len_law (h : sp_law K vs H Q E) : vs.length = 1 := by obtain ⟨a, r, rfl, _⟩ := h; rfl
theorem signs_len : (("1234567890ET" : Str).length : Int) = 12 := by decide
theorem pure_check_stage (XS : Exs K ec XN) (h : sp_check_stage K ec vs H Q E) : t_check_stage K ec E (En Q) (start N_check_stage vs) H := by
  obtain ⟨s, rfl, q, qE⟩ := h
  unfold t_check_stage
  walk_at "rd"
  refine r_ite (fun h1 => ?_) (fun h1 => ?_)
  · walk_at "rd"
    rw [signs_len]
    refine r_iteN (fun h2 => ?_) (fun h2 => ?_)
    · exact r_raise fun d H' s nd e => qE (fun z => h2 z.2) d H' s nd e
    · walk_at "rd"
      exact q ⟨h1, h2⟩
  · walk_at "rd"
    exact r_raise fun d H' s nd e => qE (fun z => h1 z.1) d H' s nd e
theorem pure_rank_of (h : sp_rank_of K vs H Q E) : t_rank_of K (En Q) (start N_rank_of vs) H := by
  obtain ⟨a, r, n, rfl, hr, hR, hn, q⟩ := h
  unfold t_rank_of
  walk_at "rd"
  refine r_forEnum (xs := r.map V.int) (fun i σ' H' => ∃ (c : Nat) (z2 z3 z4 z5 : Option V), σ' = [some (.ref a), some (.int (c : Int)), z2, z3, z4, z5] ∧ Same H H' ∧ c * fac (n - i) + rk (r.drop i) = rk r ∧ c ≤ 1000000000)
    ⟨0, none, none, none, none, rfl, Same.refl _, by simp, by omega⟩ (fun i σ' H' _ hW => ?_) (fun i x σ' H' H2 hi hW s2 => ?_) (fun σ' H' hW => ?_)
  · obtain ⟨c, z2, z3, z4, z5, rfl, s, _⟩ := hW
    exact sqT_same s hr
  · obtain ⟨c, z2, z3, z4, z5, rfl, s, hc, hc2⟩ := hW
    rw [List.getElem?_map] at hi
    obtain ⟨y, hy, rfl⟩ := Option.map_eq_some_iff.mp hi
    have hil : i < r.length := (List.getElem?_eq_some_iff.mp hy).1
    have ey : y = r[i] := by rw [List.getElem?_eq_getElem hil] at hy; exact (Option.some.inj hy).symm
    have hr2 := sqT_same (s.trans s2) hr
    walk_at "rd"
    refine r_seqT ?_
    walk_at "rd"
    refine r_slDrop (k := i + 1) hr2 (by omega) (by omega) (by rw [List.length_map]; omega) (fun p H3 np s3 e3 => ?_)
    have e3' : H3 p = some (.tup ((r.drop (i + 1)).map V.int)) := by rw [e3, List.map_drop]
    refine r_pseqT (sqT_of e3) ?_
    refine r_lcTf (ns := r.drop (i + 1)) (fun x => decide (x < y)) (fun x => x) (sqT_of e3') (by rw [List.length_drop, hR.1]; omega) (fun _ => rfl) (fun x H4 QB hx s4 k => ?_) (fun x H4 Q' hx s4 hp k => ?_) (fun D H4 nD s4 e4 => ?_)
    · walk_at "rd"
      exact k
    · walk_at "rd"
      exact k
    · have hr4 := sqT_same s4 (sqT_same s3 hr2)
      walk_at "rd"
      rw [List.length_map, List.length_map, hR.1]
      have hcnt : ((r.drop (i + 1)).filter fun x => decide (x < y)).length = cnt y (r.drop (i + 1)) := rfl
      rw [hcnt]
      have hin : i < n := by rw [← hR.1]; exact hil
      have hcl := cnt_le y (r.drop (i + 1))
      have e1 : rk (r.drop i) = cnt y (r.drop (i + 1)) * fac (n - (i + 1)) + rk (r.drop (i + 1)) := by
        rw [List.drop_eq_getElem_cons hil, ← ey]
        show cnt y (r.drop (i + 1)) * fac (r.drop (i + 1)).length + _ = _
        rw [List.length_drop, hR.1]
      have e2 : fac (n - i) = (n - i) * fac (n - (i + 1)) := by
        obtain ⟨m, hm⟩ : ∃ m, n - i = m + 1 := ⟨n - i - 1, by omega⟩
        rw [hm, show n - (i + 1) = m by omega]
        rfl
      have e5 : (c : Int) * ((n : Int) - (0 + (i : Int))) + (cnt y (r.drop (i + 1)) : Int) = ((c * (n - i) + cnt y (r.drop (i + 1)) : Nat) : Int) := by
        rw [Int.natCast_add, Int.natCast_mul, Int.natCast_sub (by omega), Int.zero_add]
      have key : (c * (n - i) + cnt y (r.drop (i + 1))) * fac (n - (i + 1)) + rk (r.drop (i + 1)) = rk r := by
        rw [← hc, e1, e2, Nat.add_mul, Nat.mul_assoc]
        omega
      refine ⟨c * (n - i) + cnt y (r.drop (i + 1)), _, _, _, _, by rw [← e5]; rfl, ((s.trans s2).trans s3).trans s4, key, ?_⟩
      have f1 := fac_pos (n - (i + 1))
      have f2 := rk_lt r
      have f3 := fac_le hn
      rw [hR.1] at f2
      have f4 : c * (n - i) + cnt y (r.drop (i + 1)) ≤ (c * (n - i) + cnt y (r.drop (i + 1))) * fac (n - (i + 1)) := Nat.le_mul_of_pos_right _ f1
      omega
  · obtain ⟨c, z2, z3, z4, z5, rfl, s, hc, _⟩ := hW
    rw [List.length_map, hR.1, Nat.sub_self, List.drop_eq_nil_of_le (by rw [hR.1]; exact Nat.le_refl _)] at hc
    have hc : c = rk r := by
      have : c * 1 + 0 = rk r := hc
      omega
    walk_at "rd"
    rw [hc]
    exact q _ s
theorem fac_succ (m : Nat) : fac (m + 1) = (m + 1) * fac m := rfl
theorem fac_room {n m : Nat} (h : m ≤ n) (hn : n ≤ 12) : fac m ≤ 479001600 := fac_le (by omega)
theorem pure_law_factorial (h : sp_law_factorial K vs H Q E) : t_law_factorial K (En Q) (start N_law_factorial vs) H := by
  obtain ⟨n, rfl, hn, q⟩ := h
  unfold t_law_factorial
  walk_at "rd"
  refine r_forRange (fun i σ' H' => ∃ (z2 : Option V), σ' = [some (.int (n : Int)), some (.int (fac (i + 1) : Nat)), z2] ∧ H' = H)
    ⟨none, rfl, rfl⟩ (fun i σ' H' hi hW => ?_) (fun σ' H' hW => ?_)
  · obtain ⟨z2, rfl, rfl⟩ := hW
    walk_at "rd"
    refine ⟨some (.int (2 + (i : Int))), ?_, rfl⟩
    have e : ((fac (i + 1) : Nat) : Int) * (2 + (i : Int)) = ((fac (i + 1 + 1) : Nat) : Int) := by
      rw [fac_succ (i + 1), Int.natCast_mul, Int.mul_comm]
      congr 1
      omega
    rw [e]
    rfl
  · obtain ⟨z2, rfl, rfl⟩ := hW
    walk_at "rd"
    have e : fac (((n : Int) + 1 - 2).toNat + 1) = fac n := by
      by_cases h0 : n = 0
      · subst h0; rfl
      · rw [show ((n : Int) + 1 - 2).toNat + 1 = n by omega]
    rw [e]
    exact q
theorem pure_law_rank (h : sp_law_rank K vs H Q E) : t_law_rank K (En Q) (start N_law_rank vs) H := by
  obtain ⟨a, r, n, rfl, hr, hR, hn, q⟩ := h
  unfold t_law_rank
  walk_at "rd"
  rw [List.length_map, hR.1]
  refine r_new (RgOk.of_le (by omega) (by omega) (by omega) (by omega)) ?_
  intro l H1 nl s1 e1
  rw [rgV_rounds] at e1
  have pR := (row_perm hR).symm
  walk_at "rd"
  refine r_forTup (xs := r.map V.int) (fun i σ' H' => ∃ (ls : List Int) (c : Nat) (z3 z4 : Option V), σ' = [some (.ref a), some (.ref l), some (.int (c : Int)), z3, z4] ∧ Same H H' ∧ H' l = some (.lst (ls.map V.int)) ∧ ls.Perm (r.drop i) ∧ Srt ls ∧ c + rk (r.drop i) = rk r)
    ⟨roundsR n, 0, none, none, rfl, s1, e1, by rw [List.drop_zero]; exact pR, rounds_lt n, by simp⟩ (fun i σ' H' _ hW => ?_) (fun i x σ' H' hi hW => ?_) (fun σ' H' hW => ?_)
  · obtain ⟨ls, c, z3, z4, rfl, s, _⟩ := hW
    exact sqT_same s hr
  · obtain ⟨ls, c, z3, z4, rfl, s, el, pl, sl, hc⟩ := hW
    rw [List.getElem?_map] at hi
    obtain ⟨y, hy, rfl⟩ := Option.map_eq_some_iff.mp hi
    have hil : i < r.length := (List.getElem?_eq_some_iff.mp hy).1
    have ey : y = r[i] := by rw [List.getElem?_eq_getElem hil] at hy; exact (Option.some.inj hy).symm
    have ed : r.drop i = y :: r.drop (i + 1) := by rw [List.drop_eq_getElem_cons hil, ey]
    have hyl : y ∈ ls := pl.mem_iff.mpr (by rw [ed]; exact List.mem_cons_self)
    obtain ⟨hl, ec⟩ := at_cnt sl hyl
    have hll : ls.length = n - i := by rw [pl.length_eq, List.length_drop, hR.1]
    have hcy : cnt y ls = cnt y (r.drop (i + 1)) := by rw [cnt_perm pl, ed, cnt_self]
    have hin : i < n := by rw [← hR.1]; exact hil
    walk_at "rd"
    refine r_idxL (j := cnt y ls) (sqL_of el) (by rw [List.getElem?_eq_getElem hl, ec]) (fun m hm e => ?_) ?_
    · obtain ⟨hm', e'⟩ := List.getElem?_eq_some_iff.mp e
      have := cnt_srt sl m hm'
      rw [e'] at this
      omega
    walk_at "rd"
    refine r_popAt (k := cnt y ls) (y := .int y) el rfl (by rw [List.getElem?_map, List.getElem?_eq_getElem hl, ec]; rfl) (by rw [List.length_map]; omega) ?_
    intro H2 b2 e2
    rw [map_eraseIdx] at e2
    have s2 : Same H H2 := same_but s b2 nl
    walk_at "rd"
    have hel : (ls.eraseIdx (cnt y ls)).length = n - (i + 1) := by rw [List.length_eraseIdx_of_lt hl, hll]; omega
    rw [List.length_map, hel]
    refine ⟨n - (i + 1), rfl, by omega, ?_⟩
    have f3 := fac_room (m := n - (i + 1)) (n := n) (by omega) hn
    have e1 : rk (r.drop i) = cnt y (r.drop (i + 1)) * fac (n - (i + 1)) + rk (r.drop (i + 1)) := by
      rw [ed]
      show cnt y (r.drop (i + 1)) * fac (r.drop (i + 1)).length + _ = _
      rw [List.length_drop, hR.1]
    walk_at "rd"
    refine ⟨ls.eraseIdx (cnt y ls), c + cnt y ls * fac (n - (i + 1)), _, _, by rw [Int.natCast_add, Int.natCast_mul]; rfl, s2, e2, ?_, srt_erase sl _, ?_⟩
    · have q1 := (erase_perm hl).trans pl
      rw [ec, ed] at q1
      exact List.Perm.cons_inv q1
    · rw [hcy, ← hc, e1]
      omega
  · obtain ⟨ls, c, z3, z4, rfl, s, el, pl, sl, hc⟩ := hW
    rw [List.length_map, List.drop_length] at hc
    have hc : c = rk r := by
      have : c + 0 = rk r := hc
      omega
    walk_at "rd"
    rw [hc]
    exact q _ s
theorem r_forRgC {lo c : Int} {n : Nat} {j : Nat} {D : Ends} {σ : L2.St} {tb : TS} (Pv : Nat → L2.St → Hp → Prop) (h0 : Pv 0 σ H)
    (hs : ∀ i σ' H', i < n → Pv i σ' H' → tb { D with nx := Pv (i + 1), ct := Pv (i + 1), bk := D.nx } (σ'.set j (some (.int (lo + (i : Nat) * c)))) H')
    (hd : ∀ σ' H', Pv n σ' H' → D.nx σ' H') : PFor (Itc lo c n) (gName j) tb D σ H := for_rangeC Pv h0 hs hd
theorem pure_row_of_rank (XS : Exs K ec XN) (h : sp_row_of_rank K ec vs H Q E) : t_row_of_rank K ec E (En Q) (start N_row_of_rank vs) H := by
  obtain ⟨s, k, rfl, q, qS, qR⟩ := h
  unfold t_row_of_rank
  walk_at "rd"
  refine ⟨s, rfl, fun hs => ?_, fun hns d H' s' nd e => qS hns d H' s' nd e⟩
  obtain ⟨n, rfl⟩ : ∃ n : Nat, s = (n : Int) := ⟨s.toNat, by omega⟩
  have hn1 : 1 ≤ n := by omega
  have hn : n ≤ 12 := by omega
  walk_at "rd"
  refine r_forRange (fun i σ' H' => ∃ (z3 : Option V), σ' = [some (.int (n : Int)), some (.int k), some (.int (fac (i + 1) : Nat)), z3, none, none] ∧ H' = H)
    ⟨none, rfl, rfl⟩ (fun i σ' H' hi hW => ?_) (fun σ' H' hW => ?_)
  · obtain ⟨z3, rfl, rfl⟩ := hW
    walk_at "rd"
    refine r_ipMul (.inr ⟨by omega, by omega⟩) ?_
    refine ⟨some (.int (2 + (i : Int))), ?_, rfl⟩
    have e : ((fac (i + 1) : Nat) : Int) * (2 + (i : Int)) = ((fac (i + 1 + 1) : Nat) : Int) := by
      rw [fac_succ (i + 1), Int.natCast_mul, Int.mul_comm]
      congr 1
      omega
    rw [e]
    rfl
  · obtain ⟨z3, rfl, rfl⟩ := hW
    rw [show ((n : Int) + 1 - 2).toNat + 1 = n by omega]
    have bad : ∀ d H'', Same H' H'' → H' d = none → ¬ (0 ≤ k ∧ k < (fac n : Nat)) → H'' d = some (.xd [("word", .str "BadRank")]) → E (.ref (ec "BadRank")) (some d) H'' := fun d H'' s' nd hb e =>
      qR hs (by rw [Int.toNat_natCast]; exact hb) d H'' s' nd e
    walk_at "rd"
    refine r_ite (fun h1 => ?_) (fun h1 => ?_)
    rotate_left
    · walk_at "rd"
      exact r_raise fun d H'' s' nd e => bad d H'' s' nd (fun z => h1 z.1) e
    walk_at "rd"
    refine r_iteN (fun h2 => ?_) (fun h2 => ?_)
    · exact r_raise fun d H'' s' nd e => bad d H'' s' nd (fun z => h2 z.2) e
    obtain ⟨j, rfl⟩ : ∃ j : Nat, k = (j : Int) := ⟨k.toNat, by omega⟩
    have hj : j < fac n := by omega
    walk_at "rd"
    refine r_new (RgOk.of_le (by omega) (by omega) (by omega) (by omega)) ?_
    intro l H1 nl s1 e1
    rw [rgV_rounds] at e1
    walk_at "rd"
    intro o H2 no s2 e2
    have hlo : l ≠ o := ne_of_none e1 no
    have noH : H' o = none := s1.free no
    walk_at "rd"
    rw [Int.sub_zero, Int.toNat_natCast]
    refine r_forRgC (fun i σ' H3 => ∃ (ls ds : List Int) (c : Nat) (z3 : Option V), σ' = [some (.int (n : Int)), some (.int (c : Int)), some (.int (fac (n - i) : Nat)), z3, some (.ref l), some (.ref o)] ∧ Same H' H3 ∧ H3 l = some (.lst (ls.map V.int)) ∧ H3 o = some (.lst (ds.map V.int)) ∧
        ls.length = n - i ∧ ds.length = i ∧ c < fac (n - i) ∧ unrk n (roundsR n) j = ds ++ unrk (n - i) ls c)
      ⟨roundsR n, [], j, _, rfl, s1.trans s2, s2 _ _ e1, e2, (roundsR_row' n).1, rfl, hj, rfl⟩ (fun i σ' H3 hi hW => ?_) (fun σ' H3 hW => ?_)
    · obtain ⟨ls, ds, c, z3, rfl, s3, el, eo, hll, hdl, hc, hu⟩ := hW
      obtain ⟨m, hm⟩ : ∃ m, n - i = m + 1 := ⟨n - i - 1, by omega⟩
      have hm1 : n - (i + 1) = m := by omega
      rw [hm] at hll hc hu
      have ez : (n : Int) + (i : Int) * (-1) = ((m + 1 : Nat) : Int) := by omega
      have hfm := fac_pos m
      have hfr := fac_room (m := m) (n := n) (by omega) hn
      have hdiv : fac (m + 1) / (m + 1) = fac m := by rw [fac_succ, Nat.mul_comm, Nat.mul_div_cancel _ (Nat.succ_pos m)]
      have hq : c / fac m < ls.length := by
        rw [hll]
        exact Nat.div_lt_of_lt_mul (by rw [Nat.mul_comm]; exact hc)
      rw [hm, ez]
      walk_at "rd"
      refine r_fdiv (by omega) (log2_small (by omega) (by omega)) ?_
      rw [show ((fac (m + 1) : Nat) : Int) / ((m + 1 : Nat) : Int) = ((fac m : Nat) : Int) by rw [← hdiv]; rfl]
      walk_at "rd"
      refine r_fdiv (by omega) (log2_small (by omega) (by omega)) ?_
      rw [show ((c : Nat) : Int) / ((fac m : Nat) : Int) = ((c / fac m : Nat) : Int) from rfl]
      walk_at "rd"
      refine r_popAt (k := c / fac m) (y := .int ls[c / fac m]) el rfl (by rw [List.getElem?_map, List.getElem?_eq_getElem hq]; rfl) (by rw [List.length_map]; omega) ?_
      intro H4 b4 e4
      rw [map_eraseIdx] at e4
      have eo4 := b4 _ _ hlo.symm eo
      walk_at "rd"
      intro H5 b5 e5
      walk_at "rd"
      rw [show ((c : Nat) : Int) % ((fac m : Nat) : Int) = ((c % fac m : Nat) : Int) from rfl]
      refine ⟨ls.eraseIdx (c / fac m), ds ++ [ls[c / fac m]], c % fac m, _, by rw [hm1]; rfl, same_but (same_but s3 b4 nl) b5 noH, b5 _ _ hlo e4, by rw [e5, List.map_append]; rfl, ?_, by rw [List.length_append, hdl]; rfl, by rw [hm1]; exact Nat.mod_lt _ hfm, ?_⟩
      · rw [hm1, List.length_eraseIdx_of_lt hq, hll]; rfl
      · rw [hu, hm1]
        show ds ++ (ls.getD (c / fac m) 0 :: _) = _
        rw [List.getD_eq_getElem?_getD, List.getElem?_eq_getElem hq, List.append_assoc]
        rfl
    · obtain ⟨ls, ds, c, z3, rfl, s3, el, eo, hll, hdl, hc, hu⟩ := hW
      rw [Nat.sub_self] at hu
      have hu : unrk n (roundsR n) j = ds := by rw [hu]; exact List.append_nil ds
      subst hu
      walk_at "rd"
      intro p2 H6 np2 s6 e6
      exact q n j rfl rfl hn1 hn hj p2 H6 (s3.free np2) (s3.trans s6) (sqT_ofD e6) (noD_of e6)
theorem pure_law_is_row_of (h : sp_law_is_row_of K vs H Q E) : t_law_is_row_of K (En Q) (start N_law_is_row_of vs) H := by
  obtain ⟨a, r, n, rfl, hr, hd, hR, hn, q⟩ := h
  unfold t_law_is_row_of
  walk_at "rd"
  rw [List.length_map, hR.1]
  refine r_iteNP rfl ?_
  walk_at "rd"
  refine r_forTup (xs := r.map V.int) (fun i σ' H' => ∃ (z2 : Option V), σ' = [some (.int (n : Int)), some (.ref a), z2] ∧ H' = H)
    ⟨none, rfl, rfl⟩ (fun i σ' H' _ hW => by obtain ⟨_, _, rfl⟩ := hW; exact hr) (fun i x σ' H' hi hW => ?_) (fun σ' H' hW => ?_)
  · obtain ⟨z2, rfl, rfl⟩ := hW
    rw [List.getElem?_map] at hi
    obtain ⟨y, hy, rfl⟩ := Option.map_eq_some_iff.mp hi
    walk_at "rd"
    exact ⟨some (.int y), rfl, rfl⟩
  · obtain ⟨z2, rfl, rfl⟩ := hW
    walk_at "rd"
    rw [show ((n : Int) + 1 - 1).toNat = n by omega]
    refine r_forRange (fun i σ' H3 => ∃ (z2 : Option V), σ' = [some (.int (n : Int)), some (.ref a), z2] ∧ H3 = H')
      ⟨z2, rfl, rfl⟩ (fun i σ' H3 hi hW => ?_) (fun σ' H3 hW => ?_)
    · obtain ⟨z2, rfl, rfl⟩ := hW
      walk_at "rd"
      refine r_cntT hr ?_
      have hm := row_mem hR (b := 1 + (i : Int)) (by omega) (by omega)
      rw [List.Nodup.count hR.2.1, if_pos hm]
      walk_at "rd"
      refine r_iteNP rfl ?_
      walk_at "rd"
      exact ⟨_, rfl, rfl⟩
    · obtain ⟨z2, rfl, rfl⟩ := hW
      walk_at "rd"
      exact q _ (Same.refl _)
theorem pure_law_refused (XS : Exs K ec XN) (h : sp_law_refused K vs H Q E) : t_law_refused K ec (En Q) (start N_law_refused vs) H := by
  obtain ⟨s, k, due, rfl, hc, q⟩ := h
  unfold t_law_refused
  walk_at "rd"
  rcases hc with ⟨rfl, hs⟩ | ⟨rfl, hs, hk⟩
  · refine ⟨s, k, rfl, fun n j en _ h1 h2 _ => by omega, fun _ d H' s' nd e => ?_, fun z => absurd z hs⟩
    have BU := XS.bad "BadStage" (by decide)
    refine w_yes (by rw [XS.exm "BadStage" (by decide) "BadStage" (by decide)]; rfl) fun ea na => ?_
    dsimp only
    refine r_seq (r_asg (r_c (r_name ?_)))
    dsimp only
    refine r_seq (r_asg ?_)
    refine r_xfV (v := .str "BadStage") BU.xf BU.nw rfl e rfl ?_
    refine r_name ?_
    dsimp only
    refine r_asg ?_
    refine r_alone XS (x := "BadStage") (by decide) (by decide) (by decide) (by decide) (by decide) (by decide) rfl e fun H2 s2 => ?_
    refine r_name (r_endsAs ?_)
    dsimp only
    walk_at "rd"
    refine r_iteP rfl ?_
    walk_at "rd"
    exact q H2 (s'.trans s2)
  · refine ⟨s, k, rfl, fun n j en ek h1 h2 hj => ?_, fun z => absurd hs z, fun _ _ d H' s' nd e => ?_⟩
    · subst en
      subst ek
      rw [Int.toNat_natCast] at hk
      exact absurd ⟨by omega, by omega⟩ hk
    have BU := XS.bad "BadRank" (by decide)
    refine w_no (by rw [XS.exm "BadRank" (by decide) "BadStage" (by decide)]; rfl) ?_
    refine w_yes (by rw [XS.exm "BadRank" (by decide) "BadRank" (by decide)]; rfl) fun ea na => ?_
    dsimp only
    refine r_seq (r_asg (r_c (r_name ?_)))
    dsimp only
    refine r_seq (r_asg ?_)
    refine r_xfV (v := .str "BadRank") BU.xf BU.nw rfl e rfl ?_
    refine r_name ?_
    dsimp only
    refine r_asg ?_
    refine r_alone XS (x := "BadRank") (by decide) (by decide) (by decide) (by decide) (by decide) (by decide) rfl e fun H2 s2 => ?_
    refine r_name (r_endsAs ?_)
    dsimp only
    walk_at "rd"
    refine r_iteP rfl ?_
    walk_at "rd"
    exact q H2 (s'.trans s2)
def rdat (r : List Int) : Dat := .tup (r.map Dat.int)
theorem rpL_snoc' {H : Hp} {v : V} {d : Dat} : ∀ {vs : List V} {ds : List Dat}, RpL K H vs ds → Rp K H v d → RpL K H (vs ++ [v]) (ds ++ [d])
  | _, _, .nil, h2 => .cons h2 .nil
  | _, _, .cons h r, h2 => .cons h (rpL_snoc' r h2)
theorem rpL_append {H : Hp} {vs2 : List V} {ds2 : List Dat} (h2 : RpL K H vs2 ds2) : ∀ {vs : List V} {ds : List Dat}, RpL K H vs ds → RpL K H (vs ++ vs2) (ds ++ ds2)
  | _, _, .nil => h2
  | _, _, .cons h r => .cons h (rpL_append h2 r)
theorem rdat_inv {H : Hp} {v : V} {c : List Int} (h : Rp K H v (rdat c)) : ∃ p : Addr, v = .ref p ∧ SqT K H p (c.map V.int) := by
  unfold rdat at h
  cases h with
  | tup h1 h2 =>
    refine ⟨_, rfl, ?_⟩
    rename_i a xs
    have key : ∀ {xs : List V} {c : List Int}, RpL K H xs (c.map Dat.int) → xs = c.map V.int := by
      intro xs c
      induction c generalizing xs with
      | nil => intro h; cases h; rfl
      | cons x c ih =>
        intro h
        rw [List.map_cons] at h
        cases h with
        | cons hx hr =>
          cases hx
          rw [ih hr]
          rfl
    rw [← key h2]
    exact h1
theorem inV_ints (b : Int) (r : List Int) : inV (.int b) (r.map V.int) = r.contains b := by
  unfold inV
  rw [List.any_map, List.contains_eq_any_beq]
  congr 1
  funext y
  show (y == b) = (b == y)
  exact BEq.comm
theorem r_catI {p t : Addr} {r : List Int} {b : Int} {H : Hp} {Q : VK} (h1 : SqT K H p (r.map V.int)) (h2 : SqT K H t (([b] : List Int).map V.int)) (hz : r.length ≤ 1000) (q : ∀ u H', Same H H' → SqT K H' u ((r ++ [b]).map V.int) → Q (.ref u) H') : rAddU K (.ref p) (.ref t) H Q := by
  refine .inr (.inr (.inr ⟨p, t, _, _, rfl, rfl, h1, h2, by rw [sizeLine_eq, List.length_map]; simp; omega, fun e => ?_, fun _ e => ?_, fun _ _ u hu => ?_⟩))
  · have : r = [] := List.map_eq_nil_iff.mp e
    subst this
    exact q t H (Same.refl _) h2
  · cases e
  · refine q u _ (same_new hu) (sqT_of ?_)
    rw [upd_same, List.map_append]
theorem size_allR (n k : Nat) (hn : n ≤ 4) (hk : k ≤ 4) : (allR n k).length ≤ 1000 := by
  have : (List.range 5).all (fun n => (List.range 5).all fun k => decide ((allR n k).length ≤ 1000)) = true := by decide +kernel
  have h1 := List.all_eq_true.mp this n (List.mem_range.mpr (by omega))
  exact of_decide_eq_true (List.all_eq_true.mp h1 k (List.mem_range.mpr (by omega)))
theorem len_allR (n : Nat) : ∀ (k : Nat) (r : List Int), r ∈ allR n k → r.length = k
  | 0, r, h => by
    have : r = [] := by simpa [allR] using h
    subst this
    rfl
  | k + 1, r, h => by
    unfold allR at h
    obtain ⟨r0, h0, h1⟩ := List.mem_flatMap.mp h
    obtain ⟨b, _, rfl⟩ := List.mem_map.mp h1
    rw [List.length_append, len_allR n k r0 h0]
    rfl
def ext1 (n : Nat) (r : List Int) : List (List Int) := ((roundsR n).filter fun b => !(r.contains b)).map fun b => r ++ [b]
theorem pure_law_all_rows (h : sp_law_all_rows K vs H Q E) : t_law_all_rows K (En Q) (start N_law_all_rows vs) H := by
  obtain ⟨n, rfl, hn, q⟩ := h
  unfold t_law_all_rows
  walk_at "rd"
  intro p0 H0 np0 s0 e0
  walk_at "rd"
  intro L0 H1 nL0 s1 e1
  walk_at "rd"
  rw [Int.toNat_natCast]
  refine r_forRange0 (fun i σ' H' => ∃ (L : Addr) (ws : List V) (z2 z3 z4 z5 : Option V), σ' = [some (.int (n : Int)), some (.ref L), z2, z3, z4, z5] ∧ Same H H' ∧ H' L = some (.lst ws) ∧ RpL K H' ws ((allR n i).map rdat))
    ⟨L0, _, none, none, none, none, rfl, s0.trans s1, e1, .cons (.tup (sqT_of (s1 _ _ e0)) .nil) .nil⟩ (fun i σ' H' hi hW => ?_) (fun σ' H' hW => ?_)
  · obtain ⟨L, ws, z2, z3, z4, z5, rfl, s2, eL, hws⟩ := hW
    have hwl := rpL_length hws
    rw [List.length_map] at hwl
    walk_at "rd"
    intro lg H2 nlg s3 e3
    have nlgH : H lg = none := s2.free nlg
    have hLlg : L ≠ lg := ne_of_none eL nlg
    have eL2 := s3 _ _ eL
    have hws2 := rpL_keep (tk_same s3) hws
    walk_at "rd"
    refine r_forLst (xs := ws) (fun j σ' H' => ∃ (ws2 : List V) (z4 z5 : Option V), σ' = [some (.int (n : Int)), some (.ref L), some (.int (i : Int)), some (.ref lg), z4, z5] ∧ But lg H2 H' ∧ H' lg = some (.lst ws2) ∧ RpL K H' ws2 ((((allR n i).take j).flatMap (ext1 n)).map rdat))
      ⟨[], z4, z5, rfl, fun _ _ _ h => h, e3, .nil⟩ (fun j σ' H' _ hW => ?_) (fun j x σ' H' hj hW => ?_) (fun σ' H' hW => ?_)
    · obtain ⟨ws2, z4, z5, rfl, b, _⟩ := hW
      exact sqL_of (b _ _ hLlg eL2)
    · obtain ⟨ws2, z4, z5, rfl, b, elg, hw2⟩ := hW
      have hjl : j < (allR n i).length := by rw [← hwl]; exact (List.getElem?_eq_some_iff.mp hj).1
      obtain ⟨v, hv, rv⟩ := rpL_get hws2 (i := j) (d := rdat (allR n i)[j]) (by rw [List.getElem?_map, List.getElem?_eq_getElem hjl]; rfl)
      have exv : x = v := Option.some.inj (hj.symm.trans hv)
      subst exv
      obtain ⟨p, rfl, hp⟩ := rdat_inv rv
      have hp' := sqT_but b e3 hp
      have hrl := len_allR n i _ (List.getElem_mem hjl)
      walk_at "rd"
      rw [show ((n : Int) + 1 - 1).toNat = n by omega]
      refine r_lcR (fun D k H3 => H' D = none ∧ Same H' H3 ∧ ∃ us, H3 D = some (.lst us) ∧ us.length ≤ k ∧ RpL K H3 us (((((roundsR n).take k).filter fun b => !((allR n i)[j].contains b)).map fun b => (allR n i)[j] ++ [b]).map rdat)) (fun _ => rfl) (fun D H3 hD s e => ⟨hD, s, [], e, by simp, by rw [List.take_zero]; exact .nil⟩) (fun D k H3 hk pv => ?_) (fun D H3 hD pv => ?_)
      · obtain ⟨hD, s4, us, eD, hul, hus⟩ := pv
        have hp3 := sqT_same s4 hp'
        have etk : (roundsR n).take (k + 1) = (roundsR n).take k ++ [1 + (k : Int)] := by
          rw [List.take_add_one, List.getElem?_eq_getElem (by rw [(roundsR_row' n).1]; exact hk)]
          congr 1
          unfold roundsR
          simp
        walk_at "rd"
        refine .inl ⟨p, _, rfl, .inr hp3, rfl, flat_ints _, ?_⟩
        rw [if_pos rfl, inV_ints]
        walk_at "rd"
        cases hct : (allR n i)[j].contains (1 + (k : Int)) with
        | true =>
          refine r_nT ?_
          refine ⟨hD, s4, us, eD, by omega, ?_⟩
          rw [etk, List.filter_append, List.filter_cons_of_neg (by rw [hct]; decide), List.filter_nil, List.append_nil]
          exact hus
        | false =>
          refine r_nF ?_
          walk_at "rd"
          intro t H4 nt s5 e5
          have hus4 := rpL_keep (tk_same s5) hus
          have eD4 := s5 _ _ eD
          walk_at "rd"
          refine r_catI (b := 1 + (k : Int)) (sqT_same s5 hp3) (sqT_of e5) (by rw [hrl]; omega) fun u H5 s6 hu => ?_
          have eD5 := s6 _ _ eD4
          refine r_acc eD5 (by omega) fun H6 b6 e6 => ⟨hD, same_but ((s4.trans s5).trans s6) b6 hD, _, e6, by rw [List.length_append]; simp; omega, ?_⟩
          rw [etk, List.filter_append, List.filter_cons_of_pos (by rw [hct]; rfl), List.filter_nil, List.map_append, List.map_append]
          exact rpL_snoc' (rpL_keep (tk_but b6 eD5) (rpL_keep (tk_same s6) hus4)) (rp_ints (sqT_but b6 eD5 hu))
      · obtain ⟨_, s4, us, eD, hul, hus⟩ := pv
        rw [List.take_of_length_le (by rw [(roundsR_row' n).1]; exact Nat.le_refl _)] at hus
        have elg3 := s4 _ _ elg
        have hw3 := rpL_keep (tk_same s4) hw2
        have hlen2 := rpL_length hw2
        rw [List.length_map] at hlen2
        have hbd : (((allR n i).take j).flatMap (ext1 n)).length ≤ 1000 := by
          have e1 : allR n (i + 1) = ((allR n i).take j).flatMap (ext1 n) ++ ((allR n i).drop j).flatMap (ext1 n) := by
            rw [← List.flatMap_append, List.take_append_drop]
            rfl
          have e2 := size_allR n (i + 1) hn (by omega)
          rw [e1, List.length_append] at e2
          omega
        have hnD : D ≠ lg := by
          intro z
          rw [z, elg] at hD
          cases hD
        walk_at "rd"
        refine ⟨lg, D, ws2, us, rfl, rfl, elg3, eD, by rw [sizeLine_eq]; omega, ?_⟩
        walk_at "rd"
        refine ⟨ws2 ++ us, _, _, rfl, fun c o hne hh => but_upd _ _ hne (s4 _ _ (b _ _ hne hh)), upd_same, ?_⟩
        rw [List.take_add_one, List.getElem?_eq_getElem hjl, List.flatMap_append, List.map_append]
        refine rpL_append ?_ (rpL_keep (tk_but but_upd elg3) hw3)
        have e3 : (some (allR n i)[j]).toList.flatMap (ext1 n) = ext1 n (allR n i)[j] := by
          show ext1 n _ ++ [] = _
          rw [List.append_nil]
        rw [e3]
        exact rpL_keep (tk_but but_upd elg3) hus
    · obtain ⟨ws2, z4, z5, rfl, b, elg, hw2⟩ := hW
      rw [hwl, List.take_length] at hw2
      walk_at "rd"
      intro p H4 np s4 e4
      walk_at "rd"
      have sH : Same H H' := fun c o hh => b _ _ (fun z => by rw [z, nlgH] at hh; cases hh) (s3 _ _ (s2 _ _ hh))
      exact ⟨p, ws2, _, _, _, _, rfl, sH.trans s4, e4, rpL_keep (tk_same s4) hw2⟩
  · obtain ⟨L, ws, z2, z3, z4, z5, rfl, s2, eL, hws⟩ := hW
    walk_at "rd"
    exact q L ws H' s2 eL hws
theorem lexLt_eq : ∀ a b : List Int, HT.lexLt a b = lexL a b
  | [], [] => rfl
  | [], _ :: _ => rfl
  | _ :: _, [] => rfl
  | x :: xs, y :: ys => by
    show (if x = y then HT.lexLt xs ys else decide (x < y)) = if x = y then lexL xs ys else decide (x < y)
    rw [lexLt_eq xs ys]
theorem rorm {n j : Nat} (hn1 : 1 ≤ n) (hn : n ≤ 12) (hj : j < fac n) (q : ∀ p H', Same H H' → SqT K H' p ((unrk n (roundsR n) j).map V.int) → NoD H' p → Q (.ref p) H') : sp_row_of_rank K ec [.int (n : Int), .int (j : Int)] H Q E := by
  refine ⟨n, j, rfl, fun n' j' en ej _ _ _ p H' _ s h d => ?_, fun z => absurd ⟨by omega, by omega⟩ z, fun _ z => absurd ⟨by omega, by rw [Int.toNat_natCast]; omega⟩ z⟩
  have e1 : n' = n := by omega
  have e2 : j' = j := by omega
  subst e1
  subst e2
  exact q p H' s h d
theorem si {i : Int} (q : ∀ H', Same H H' → Q (.bl true) H') : sp_law_same K [.int i, .int i] H Q E := ⟨_, _, .int i, rfl, .int i, .int i, by simp [Dat.size], q⟩
theorem r_ltTT {p t : Addr} {r y : List Int} (h1 : SqT K H p (r.map V.int)) (h2 : SqT K H t (y.map V.int)) (q : Q (.bl (lexL r y)) H) : rLtU K (.ref p) (.ref t) H Q := .inr (.inr ⟨p, t, r, y, rfl, rfl, h1, h2, by rw [lexLt_eq]; exact q⟩)
theorem r_neBB {x : Bool} (q : Q (.bl false) H) : rNeU K (.bl x) (.bl x) H Q := r_neSame rfl q
theorem c8' : CPow 10 8 := ⟨by decide, by decide, by decide⟩
theorem swap_if {R : TS} {D : Ends} {a p rw tn ot : Addr} {n : Nat} {x y : List Int} (hp : Pl H tn) (hn : n ≤ 12) (hn1 : 1 ≤ n) (hx : SqT K H rw (x.map V.int)) (hX : IsRow x n) (hy : SqT K H ot (y.map V.int)) (hY : IsRow y n)
    (rest : ∀ b z z6 z7 z8 H', But tn H H' → SqT K H' b (z.map V.int) → IsRow z n → R D [some (.ref a), some (.ref p), some (.int (n : Int)), some (.ref rw), some (.ref tn), some (.ref b), z6, z7, z8, none, none, none, none, none, none, none, none, none] H') :
    tSeq (tIfS ((tTest (tOp (rEqU K) ((tCall (sp_law_draw K) [] E0 (tCons (tVar 4) (tCons ((tC (.int 2))) tNil)))) ((tC (.int 0)))))) (tSeq (tAsg ((tCall (sp_law_draw K) [] E0 (tCons (tVar 4) (tCons (tVar 2) tNil)))) (gName 6))
  (tSeq (tAsg ((tCall (sp_law_draw K) [] E0 (tCons (tVar 4) (tCons (tVar 2) tNil)))) (gName 7))
  (tSeq (tAsg ((tCB (rListU K) (tCons (tVar 3) tNil))) (gName 8))
  (tSeq (tAsg ((tOp (rIx K) (tVar 3) (tVar 7))) (gSub (tVar 8) (tVar 6) rSetL))
  (tSeq (tAsg ((tOp (rIx K) (tVar 3) (tVar 6))) (gSub (tVar 8) (tVar 7) rSetL))
  ((tAsg ((tThen (tVar 8) (kTupD K))) (gName 5)))))))) (tNext)) R D
      [some (.ref a), some (.ref p), some (.int (n : Int)), some (.ref rw), some (.ref tn), some (.ref ot), none, none, none, none, none, none, none, none, none, none, none, none] H := by
  walk_at "rd"
  refine ⟨tn, 2, rfl, hp, by omega, by omega, fun d H3 d0 d1 b3 hp3 => ?_⟩
  obtain ⟨py, pz, pw, pe⟩ := hp
  walk_at "rd"
  refine r_ite (fun h0 => ?_) (fun h0 => ?_)
  · walk_at "rd"
    refine ⟨tn, n, rfl, hp3, by omega, by omega, fun i H4 i0 i1 b4 hp4 => ?_⟩
    obtain ⟨py3, pz3, pw3, pe3⟩ := hp3
    walk_at "rd"
    refine ⟨tn, n, rfl, hp4, by omega, by omega, fun j H5 j0 j1 b5 hp5 => ?_⟩
    obtain ⟨py4, pz4, pw4, pe4⟩ := hp4
    have hx5 := sqT_but b5 pe4 (sqT_but b4 pe3 (sqT_but b3 pe hx))
    have b35 : But tn H H5 := fun c o hne hh => b5 _ _ hne (b4 _ _ hne (b3 _ _ hne hh))
    obtain ⟨i', rfl⟩ : ∃ i' : Nat, i = (i' : Int) := ⟨i.toNat, by omega⟩
    obtain ⟨j', rfl⟩ : ∃ j' : Nat, j = (j' : Int) := ⟨j.toNat, by omega⟩
    have li : i' < x.length := by rw [hX.1]; omega
    have lj : j' < x.length := by rw [hX.1]; omega
    have ai : atI (x.map V.int) (i' : Int) = some (.int (x.getD i' 0)) := atI_nat (by rw [List.getElem?_map, List.getD_eq_getElem?_getD, List.getElem?_eq_getElem li]; rfl)
    have aj : atI (x.map V.int) (j' : Int) = some (.int (x.getD j' 0)) := atI_nat (by rw [List.getElem?_map, List.getD_eq_getElem?_getD, List.getElem?_eq_getElem lj]; rfl)
    walk_at "rd"
    intro l H6 nl s6 e6
    have hx6 := sqT_same s6 hx5
    walk_at "rd"
    refine r_setL e6 (by rw [List.length_map]; exact ixN_n li) ?_
    intro H7 b7 e7
    rw [map_set] at e7
    have hx7 := sqT_but b7 e6 hx6
    walk_at "rd"
    refine r_setL e7 (by rw [List.length_map, List.length_set]; exact ixN_n lj) ?_
    intro H8 b8 e8
    rw [map_set] at e8
    walk_at "rd"
    intro t H9 nt s9 e9
    walk_at "rd"
    refine rest t _ _ _ _ H9 (fun c o hne hh => s9 _ _ ?_) (sqT_ofD e9) (row_swap hX (by omega) (by omega))
    have h5 := b35 _ _ hne hh
    have hcl : c ≠ l := ne_of_none h5 nl
    exact b8 _ _ hcl (b7 _ _ hcl (s6 _ _ h5))
  · walk_at "rd"
    exact rest ot _ _ _ _ H3 b3 (sqT_but b3 pe hy) hY
theorem allR_at {n k : Nat} (hn : n < 5) (hk : k < fac n) : (allR n n)[k]? = some (unrk n (roundsR n) k) := by
  have h1 := List.all_eq_true.mp allR_ok n (List.mem_range.mpr hn)
  have h2 := List.all_eq_true.mp h1 k (List.mem_range.mpr hk)
  exact beq_iff_eq.mp h2
theorem five_if {R : TS} {D : Ends} {a p rw tn ot nu t : Addr} {n j : Nat} {x : List Int} {z6 z7 z8 : Option V} {mn : Int} (hx : SqT K H rw (x.map V.int)) (hX : IsRow x n) (ht : SqT K H t ((unrk n (roundsR n) j).map V.int)) (hj : j < fac n)
    (rest : ∀ z14 H', Same H H' → R D [some (.ref a), some (.ref p), some (.int (n : Int)), some (.ref rw), some (.ref tn), some (.ref ot), z6, z7, z8, some (.int (rk x : Nat)), some (.ref nu), some (.int mn), some (.int (j : Int)), some (.ref t), z14, none, none, none] H') :
    tSeq (tIfS ((tTest (tOp (rLtU K) (tVar 2) ((tC (.int 5)))))) (tSeq (tAsg ((tCall (sp_law_all_rows K) [] E0 (tCons (tVar 2) tNil))) (gName 14))
  ((tIfS ((tOr ((tTest (tOp (rNeU K) ((tOp (rIx K) (tVar 14) (tVar 9))) (tVar 3)))) ((tNot ((tTru K ((tCall (sp_law_same K) [] E0 (tCons (tVar 13) (tCons ((tOp (rIx K) (tVar 14) (tVar 12))) tNil)))))))))) ((tRet ((tC (.bl false))))) (tNext)))) (tNext)) R D
      [some (.ref a), some (.ref p), some (.int (n : Int)), some (.ref rw), some (.ref tn), some (.ref ot), z6, z7, z8, some (.int (rk x : Nat)), some (.ref nu), some (.int mn), some (.int (j : Int)), some (.ref t), none, none, none, none] H := by
  walk_at "rd"
  refine r_ite (fun h5 => ?_) (fun h5 => ?_)
  · walk_at "rd"
    have hn5 : n < 5 := by omega
    refine ⟨n, rfl, by omega, fun L ws H1 s1 eL hws => ?_⟩
    have px := row_perm hX
    have ex : unrk n (roundsR n) (rk x) = x := by
      have := unrk_rk x (roundsR n) px (rounds_lt n)
      rw [hX.1] at this
      exact this
    have hrl := rk_lt x
    rw [hX.1] at hrl
    obtain ⟨v1, hv1, rv1⟩ := rpL_get hws (i := rk x) (d := rdat x) (by rw [List.getElem?_map, allR_at hn5 hrl, ex]; rfl)
    obtain ⟨v2, hv2, rv2⟩ := rpL_get hws (i := j) (d := rdat (unrk n (roundsR n) j)) (by rw [List.getElem?_map, allR_at hn5 hj]; rfl)
    obtain ⟨p1, rfl, h1⟩ := rdat_inv rv1
    obtain ⟨p2, rfl, h2⟩ := rdat_inv rv2
    have a1 : atI ws ((rk x : Nat) : Int) = some (.ref p1) := atI_nat hv1
    have a2 : atI ws ((j : Nat) : Int) = some (.ref p2) := atI_nat hv2
    walk_at "rd"
    refine r_neT h1 (sqT_same s1 hx) ?_
    walk_at "rd"
    refine r_iteNP rfl ?_
    walk_at "rd"
    have pw := (rk_unrk n (roundsR n) j (roundsR_row' n).1 (rounds_lt n) hj).1
    refine sm (sqT_same s1 ht) h2 (IsRow.perm pw (roundsR_row' n)) (by omega) fun H2 s2 => ?_
    walk_at "rd"
    exact rest _ H2 (s1.trans s2)
  · walk_at "rd"
    exact rest _ H (Same.refl _)
theorem pure_law (XS : Exs K ec XN) (h : sp_law K vs H Q E) : t_law K ec (En Q) (start N_law vs) H := by
  obtain ⟨a, ns, rfl, hS, hn, q⟩ := h
  unfold t_law
  walk_at "rd"
  refine ⟨a, ns, 0, rfl, hS, hn, by omega, fun p H1 np s1 hp => ?_⟩
  walk_at "rd"
  refine ⟨p, 12, rfl, hp, by omega, by omega, fun v H2 hv0 hv1 b2 hp2 => ?_⟩
  have s2 : Same H H2 := same_but s1 b2 np
  obtain ⟨n, hnv⟩ : ∃ n : Nat, 1 + v = (n : Int) := ⟨(1 + v).toNat, by omega⟩
  have hn12 : n ≤ 12 := by omega
  have hn1 : 1 ≤ n := by omega
  walk_at "rd"
  rw [hnv]
  refine ⟨p, n, rfl, hp2, by omega, fun a1 H3 x na1 b3 hp3 hx3 hX _ => ?_⟩
  have s3 : Same H H3 := same_but s2 b3 np
  walk_at "rd"
  refine ⟨a, ns, 1, rfl, sqL_same s3 hS, hn, by omega, fun tn H4 ntn s4 hp4 => ?_⟩
  walk_at "rd"
  refine ⟨tn, n, rfl, hp4, by omega, fun ot H5 y not b5 hp5 hy5 hY _ => ?_⟩
  obtain ⟨py, pz, pw, pe⟩ := hp4
  have hx5 := sqT_but b5 pe (sqT_same s4 hx3)
  have s35 : Same H3 H5 := same_but s4 b5 ntn
  refine r_name ?_
  refine swap_if hp5 hn12 hn1 hx5 hX hy5 hY fun o2 y z6 z7 z8 H6 b6 hy6 hY => ?_
  have s36 : Same H3 H6 := same_but s35 b6 ntn
  have hx6 := sqT_same s36 hx3
  have hrx := rk_lt x
  rw [hX.1] at hrx
  have hry := rk_lt y
  rw [hY.1] at hry
  have hfac := fac_le hn12
  have ex : unrk n (roundsR n) (rk x) = x := by
    have := unrk_rk x (roundsR n) (row_perm hX) (rounds_lt n)
    rw [hX.1] at this
    exact this
  walk_at "rd"
  refine ⟨a1, x, n, rfl, hx6, hX, hn12, fun H7 s7 => ?_⟩
  have X7 := sqT_same s7 hx6
  have Y7 := sqT_same s7 hy6
  walk_at "rd"
  refine ⟨a1, x, n, rfl, X7, hX, hn12, fun G1 t1 => ?_⟩
  walk_at "rd"
  refine si fun G2 t2 => ?_
  have u2 := t1.trans t2
  walk_at "rd"
  refine rorm hn1 hn12 hrx fun p3 G3 t3 e3 _ => ?_
  walk_at "rd"
  rw [ex] at e3
  have u3 := u2.trans t3
  refine sm e3 (sqT_same u3 X7) hX hn12 fun G4 t4 => ?_
  have u4 := u3.trans t4
  walk_at "rd"
  refine ⟨o2, y, n, rfl, sqT_same u4 Y7, hY, hn12, fun G5 t5 => ?_⟩
  have u5 := u4.trans t5
  walk_at "rd"
  refine ⟨o2, y, n, rfl, sqT_same u5 Y7, hY, hn12, fun G6 t6 => ?_⟩
  have u6 := u5.trans t6
  walk_at "rd"
  refine si fun G7 t7 => ?_
  have u7 := u6.trans t7
  walk_at "rd"
  refine ⟨a1, x, n, rfl, sqT_same u7 X7, hX, hn12, fun G8 t8 => ?_⟩
  have u8 := u7.trans t8
  walk_at "rd"
  refine ⟨o2, y, n, rfl, sqT_same u8 Y7, hY, hn12, fun G9 t9 => ?_⟩
  have u9 := u8.trans t9
  walk_at "rd"
  refine r_ltTT (sqT_same u9 X7) (sqT_same u9 Y7) ?_
  have elex : decide (((rk x : Nat) : Int) < ((rk y : Nat) : Int)) = lexL x y := by
    rw [← rk_lex x y (roundsR n) (row_perm hX) (row_perm hY)]
    exact decide_eq_decide.mpr (by omega)
  rw [elex]
  refine r_neBB ?_
  walk_at "rd"
  have sH9 : Same H G9 := (s3.trans s36).trans (s7.trans u9)
  refine ⟨a, ns, 2, rfl, sqL_same sH9 hS, hn, by omega, fun nu G10 nnu t10 hp10 => ?_⟩
  walk_at "rd"
  refine ⟨n, rfl, hn12, ?_⟩
  walk_at "rd"
  refine ⟨nu, 30000, rfl, hp10, by omega, by omega, fun w1 G11 w10 w11 b11 hp11 => ?_⟩
  walk_at "rd"
  refine ⟨nu, 30000, rfl, hp11, by omega, by omega, fun w2 G12 w20 w21 b12 hp12 => ?_⟩
  have hfp := fac_pos n
  walk_at "rd"
  obtain ⟨j, hjj⟩ : ∃ j : Nat, (w1 * 30000 + w2) % ((fac n : Nat) : Int) = (j : Int) := ⟨((w1 * 30000 + w2) % ((fac n : Nat) : Int)).toNat, by
    have := Int.emod_nonneg (w1 * 30000 + w2) (show ((fac n : Nat) : Int) ≠ 0 by omega)
    omega⟩
  have hj : j < fac n := by
    have := Int.emod_lt_of_pos (w1 * 30000 + w2) (show (0 : Int) < ((fac n : Nat) : Int) by omega)
    omega
  rw [hjj]
  have t12 : Same G9 G12 := same_but (same_but t10 b11 nnu) b12 nnu
  have u12 := u9.trans t12
  refine rorm hn1 hn12 hj fun t G13 t13 e13 d13 => ?_
  obtain ⟨pw, hrk⟩ := rk_unrk n (roundsR n) j (roundsR_row' n).1 (rounds_lt n) hj
  have hT := IsRow.perm pw (roundsR_row' n)
  have u13 := u12.trans t13
  refine r_name ?_
  refine r_seq (r_if (r_or (r_not (r_tru (r_call (r_cons (r_var rfl (r_cons (r_var rfl (r_nil ?_)))))))))) 
  refine ⟨t, _, n, rfl, e13, d13, hT, hn12, fun G14 t14 => ?_⟩
  walk_at "rd"
  refine ⟨t, _, n, rfl, sqT_same t14 e13, hT, hn12, fun G15 t15 => ?_⟩
  walk_at "rd"
  rw [hrk]
  refine r_iteNP rfl ?_
  walk_at "rd"
  refine ⟨t, _, n, rfl, sqT_same (t14.trans t15) e13, hT, hn12, fun G16 t16 => ?_⟩
  walk_at "rd"
  rw [hrk]
  refine si fun G17 t17 => ?_
  have u17 := (u13.trans t14).trans ((t15.trans t16).trans t17)
  iterate 3 walk_at "rd1"
  dsimp only
  have t1317 := (t14.trans t15).trans (t16.trans t17)
  refine five_if (sqT_same u17 X7) hX (sqT_same t1317 e13) hj fun z14 G18 t18 => ?_
  have u18 := u17.trans t18
  have hp18 : Pl G18 nu := pl_same ((t13.trans t1317).trans t18) hp12
  walk_at "rd"
  refine r_new (RgOk.of_le (by omega) (by omega) (by omega) (by omega)) ?_
  intro l0 G19 nl0 t19 e19
  rw [rgV_rounds] at e19
  walk_at "rd"
  intro hm G20 nhm t20 e20
  have u20 := (u18.trans t19).trans t20
  have hh : SqT K G20 hm ((roundsR n).map V.int) := sqT_ofD e20
  have rM := roundsR_row' n
  have f0 : unrk n (roundsR n) 0 = roundsR n := beq_iff_eq.mp (List.all_eq_true.mp first_ok n (List.mem_range.mpr (by omega)))
  have fl : unrk n (roundsR n) (fac n - 1) = (roundsR n).reverse := beq_iff_eq.mp (List.all_eq_true.mp last_ok n (List.mem_range.mpr (by omega)))
  walk_at "rd"
  refine rorm (j := 0) hn1 hn12 hfp fun p21 G21 t21 e21 _ => ?_
  walk_at "rd"
  rw [f0] at e21
  refine sm e21 (sqT_same t21 hh) rM hn12 fun G22 t22 => ?_
  have u22 := (u20.trans t21).trans t22
  walk_at "rd"
  rw [show ((fac n : Nat) : Int) - 1 = ((fac n - 1 : Nat) : Int) by omega]
  refine rorm (j := fac n - 1) hn1 hn12 (by omega) fun p23 G23 t23 e23 _ => ?_
  walk_at "rd"
  rw [fl] at e23
  refine r_revU ?_
  walk_at "rd"
  refine r_prev (sqT_same ((t21.trans t22).trans t23) hh) fun pr G24 _ t24 e24 => ?_
  rw [← List.map_reverse] at e24
  have hrev : IsRow (roundsR n).reverse n := IsRow.perm (List.reverse_perm _) rM
  walk_at "rd"
  refine sm (sqT_same t24 e23) (sqT_of e24) hrev hn12 fun G25 t25 => ?_
  have u25 := ((u22.trans t23).trans t24).trans t25
  have hp25 : Pl G25 nu := pl_same (((((((t19.trans t20).trans t21).trans t22).trans t23).trans t24)).trans t25) hp18
  walk_at "rd"
  refine r_pow c8' ?_
  rw [show ((10 : Int) ^ Int.toNat 8) = 100000000 by decide]
  walk_at "rd"
  refine ⟨nu, 100000000, rfl, hp25, by omega, by omega, fun d1 G26 d10 d11 b26 hp26 => ?_⟩
  walk_at "rd"
  refine r_pow c8' ?_
  rw [show ((10 : Int) ^ Int.toNat 8) = 100000000 by decide]
  walk_at "rd"
  refine r_pow c8' ?_
  rw [show ((10 : Int) ^ Int.toNat 8) = 100000000 by decide]
  walk_at "rd"
  refine ⟨nu, 100000000, rfl, hp26, by omega, by omega, fun d2 G27 d20 d21 b27 hp27 => ?_⟩
  walk_at "rd"
  intro L G28 nL t28 eL
  walk_at "rd"
  refine ⟨nu, 3, rfl, pl_same t28 hp27, by omega, by omega, fun w3 G29 w30 w31 b29 hp29 => ?_⟩
  have eL29 : G29 L = some (.lst (([0, 1, d1 * 100000000 + d2] : List Int).map V.int)) := b29 _ _ (by
    obtain ⟨_, _, _, z'⟩ := hp27
    exact (ne_of_none z' nL).symm) eL
  obtain ⟨far, ha, hb⟩ := atI_ints (ns := [0, 1, d1 * 100000000 + d2]) w30 (by show w3 < 3; exact w31)
  have hfar : 0 ≤ far := by
    have hm := List.mem_of_getElem? hb
    simp only [List.mem_cons, List.not_mem_nil, or_false] at hm
    omega
  have X25 := sqT_same u25 X7
  have X29 : SqT K G29 a1 (x.map V.int) := by
    obtain ⟨_, _, _, z1⟩ := hp25
    obtain ⟨_, _, _, z2⟩ := hp26
    obtain ⟨_, _, _, z3⟩ := pl_same t28 hp27
    exact sqT_but b29 z3 (sqT_same t28 (sqT_but b27 z2 (sqT_but b26 z1 X25)))
  refine r_ixL (sqL_of eL29) ha ?_
  walk_at "rd"
  refine ⟨_, _, "BadRank", rfl, .inr ⟨rfl, ⟨by omega, by omega⟩, by rw [Int.toNat_natCast]; omega⟩, fun G30 t30 => ?_⟩
  walk_at "rd"
  refine ⟨_, _, "BadRank", rfl, .inr ⟨rfl, ⟨by omega, by omega⟩, by omega⟩, fun G31 t31 => ?_⟩
  walk_at "rd"
  intro L2 G32 nL2 t32 eL2
  walk_at "rd"
  have hp32 : Pl G32 nu := pl_same ((t30.trans t31).trans t32) hp29
  refine ⟨nu, 4, rfl, hp32, by omega, by omega, fun w4 G33 w40 w41 b33 hp33 => ?_⟩
  have eL33 : G33 L2 = some (.lst (([0, 13, -far, 13 + far] : List Int).map V.int)) := b33 _ _ (by
    obtain ⟨_, _, _, z'⟩ := pl_same (t30.trans t31) hp29
    exact (ne_of_none z' nL2).symm) eL2
  obtain ⟨str, ha2, hb2⟩ := atI_ints (ns := [0, 13, -far, 13 + far]) w40 (by show w4 < 4; exact w41)
  have hstr : ¬ (1 ≤ str ∧ str ≤ 12) := by
    have hm := List.mem_of_getElem? hb2
    simp only [List.mem_cons, List.not_mem_nil, or_false] at hm
    omega
  have X33 : SqT K G33 a1 (x.map V.int) := by
    obtain ⟨_, _, _, z1⟩ := hp32
    exact sqT_but b33 z1 (sqT_same ((t30.trans t31).trans t32) X29)
  refine r_ixL (sqL_of eL33) ha2 ?_
  walk_at "rd"
  refine ⟨_, _, "BadStage", rfl, .inl ⟨rfl, hstr⟩, fun G34 t34 => ?_⟩
  walk_at "rd"
  refine ⟨_, _, "BadStage", rfl, .inl ⟨rfl, hstr⟩, fun G35 t35 => ?_⟩
  walk_at "rd"
  refine ⟨a1, x, n, rfl, sqT_same (t34.trans t35) X33, hX, hn12, fun G36 t36 => ?_⟩
  walk_at "rd"
  refine si fun G37 t37 => ?_
  exact q G37
end
end Kb

set_option Elab.async false
set_option linter.all false
set_option maxRecDepth 100000
set_option maxHeartbeats 4000000
namespace Kb
open PySem PySem.Spec PyProof.Rows L2
def top (i : Nat) : Stmt := PySem.Challenge.pw_ringingchamber_k04_ranks_of_rows.main.body.getD i (.Pass ⟨0, 0, 0, 0⟩)
abbrev s_check_stage : Stmt := top 7
abbrev s_rank_of : Stmt := top 9
abbrev s_row_of_rank : Stmt := top 10
abbrev s_law_cell : Stmt := top 12
abbrev s_law_pool : Stmt := top 13
abbrev s_law_draw : Stmt := top 14
abbrev s_law_row_draw : Stmt := top 15
abbrev s_law_same : Stmt := top 16
abbrev s_law_factorial : Stmt := top 17
abbrev s_law_rank : Stmt := top 18
abbrev s_law_all_rows : Stmt := top 19
abbrev s_law_is_row_of : Stmt := top 20
abbrev s_law_refused : Stmt := top 21
abbrev s_law : Stmt := top 22
structure Bn (mg : Str → Option Value) : Prop where
  n_ValueError : mg "ValueError" = none
  n_abs : mg "abs" = none
  n_bool : mg "bool" = none
  n_enumerate : mg "enumerate" = none
  n_int : mg "int" = none
  n_isinstance : mg "isinstance" = none
  n_len : mg "len" = none
  n_list : mg "list" = none
  n_range : mg "range" = none
  n_str : mg "str" = none
  n_tuple : mg "tuple" = none
  c_SIGNS : ∃ t, mg "SIGNS" = some (.str "1234567890ET" t)
abbrev i_ChamberError : Stmt := inClass (top 1) 0
abbrev i_BadStage : Stmt := inClass (top 2) 0
abbrev i_BadRank : Stmt := inClass (top 4) 0
section
variable {P : Program} {w : World} {K : PySem.W.Frag} {mg : Str → Option Value} {base : Heap}
theorem sc_check_stage : FnScope N_check_stage ["stage"] (defScope s_check_stage) := ⟨rfl, rfl, rfl, by decide +kernel, rfl, by decide +kernel, by decide +kernel⟩
theorem ok_check_stage (D : At K mg "check_stage" s_check_stage) (B : Bn mg) {ec : Str → Addr} (XS : Exs K ec XN) (EX : ExAt mg ec XN) (Z_BadStage : Rz0 P w K mg base "BadStage" (ec "BadStage")) : Fn P w K mg base (L2.CX P w) 4 "check_stage" ["stage"] (sp_check_stage K ec) := by
  obtain ⟨f, fd, F, hm⟩ := D
  refine ⟨f, fd, F.okX sc_check_stage (fun vs H Q E h => len_check_stage h) (fun cdv A outer s H vs Q E hr h => ⟨t_check_stage K ec E, ?_, pure_check_stage XS h⟩), hm, F.kp, F.binds fun _ _ _ _ _ _ us hl => match us, hl with | [_], _ => rfl⟩
  have nd := sc_check_stage.nd
  exact pss_one (ps_if ((pt_not ((pt_chain (op_leU hr.units) (op_leU hr.units) (pe_int) (pv 0) ((pe_callB call_lenU (by rfl) B.n_len (by decide +kernel) (pa_cons ((pe_glob rfl B.c_SIGNS.choose_spec ⟨_, rfl⟩)) pa_nil))))))) (pss_one (ps_rz0 rfl (takes_of rfl rfl rfl rfl) Z_BadStage (hr.mono (by decide)) (by rfl))) (pss_nil))

theorem sc_rank_of : FnScope N_rank_of ["row"] (defScope s_rank_of) := ⟨rfl, rfl, rfl, by decide +kernel, rfl, by decide +kernel, by decide +kernel⟩
theorem ok_rank_of (D : At K mg "rank_of" s_rank_of) (B : Bn mg) : Fn P w K mg base CX0 1 "rank_of" ["row"] (sp_rank_of K) := by
  obtain ⟨f, fd, F, hm⟩ := D
  refine ⟨f, fd, F.ok sc_rank_of (fun vs H Q E h => len_rank_of h) (fun cdv A outer s H vs Q E hr h => ⟨t_rank_of K, ?_, pure_rank_of h⟩), hm, F.kp, F.binds fun _ _ _ _ _ _ us hl => match us, hl with | [_], _ => rfl⟩
  have nd := sc_rank_of.nd
  exact pss_cons (ps_set (i := 1) nd rfl (Or.inl rfl) (pe_int))
      (pss_cons (ps_for PassesOwn.never rfl (pi_enumT (by rfl) B.n_enumerate (pa_cons (pv 0) pa_nil)) (pg_tup rfl (pgs_cons (pg_name (i := 2) nd rfl (Or.inl rfl)) (pgs_cons (pg_name (i := 3) nd rfl (Or.inr rfl)) pgs_nil))) (pss_cons (ps_set (i := 4) nd rfl (Or.inl rfl) ((pe_callB call_lenU (by rfl) B.n_len (by decide +kernel) (pa_cons ((pe_lc (own := [("other", 5)]) (g := (gName 5)) (tt := (tTest (tOp (rLtU K) (tVar 5) (tVar 3)))) rfl nd ((pi_seqU ((pe_slice sl_U (pv 0) (po_some ((pe_op op_addU (pv 2) (pe_int)))) po_none)))) (blkOk_by (N := (N_rank_of : List Str)) (sc := defScope s_rank_of) (by decide +kernel)) (fun _ _ _ _ _ => (pg_name (i := 5) nd rfl (Or.inl rfl))) (fun _ _ _ _ _ => (pts_one ((pt_cmpR (op_ltU hr.units) (pv 5) (pv 3) (nomark _))))) (fun _ _ _ _ _ => pv 5))) pa_nil))))
      (pss_one (ps_set (i := 1) nd rfl (Or.inl rfl) ((pe_op op_addU ((pe_op op_mulU (pv 1) ((pe_op op_subU ((pe_callB call_lenU (by rfl) B.n_len (by decide +kernel) (pa_cons (pv 0) pa_nil))) (pv 2))))) (pv 4)))))))
      (pss_one (ps_ret (pv 1))))

theorem sc_row_of_rank : FnScope N_row_of_rank ["stage", "rank"] (defScope s_row_of_rank) := ⟨rfl, rfl, rfl, by decide +kernel, rfl, by decide +kernel, by decide +kernel⟩
theorem ok_row_of_rank (D : At K mg "row_of_rank" s_row_of_rank) (B : Bn mg) {ec : Str → Addr} (XS : Exs K ec XN) (EX : ExAt mg ec XN) (G_check_stage : Fn P w K mg base (L2.CX P w) 4 "check_stage" ["stage"] (sp_check_stage K ec)) (Z_BadRank : Rz0 P w K mg base "BadRank" (ec "BadRank")) : Fn P w K mg base (L2.CX P w) 5 "row_of_rank" ["stage", "rank"] (sp_row_of_rank K ec) := by
  obtain ⟨f, fd, F, hm⟩ := D
  refine ⟨f, fd, F.okX sc_row_of_rank (fun vs H Q E h => len_row_of_rank h) (fun cdv A outer s H vs Q E hr h => ⟨t_row_of_rank K ec E, ?_, pure_row_of_rank XS h⟩), hm, F.kp, F.binds fun _ _ _ _ _ _ us hl => match us, hl with | [_, _], _ => rfl⟩
  have nd := sc_row_of_rank.nd
  exact pss_cons (ps_expr ((pe_callW (takes_of rfl rfl rfl rfl) G_check_stage (hr.mono (by decide)) (by rfl) (pa_cons (pv 0) pa_nil))))
      (pss_cons (ps_set (i := 2) nd rfl (Or.inl rfl) (pe_int))
      (pss_cons (ps_for (passes_of rfl) rfl (pi_range2 (by rfl) B.n_range (pa_cons (pe_int) (pa_cons ((pe_op op_addU (pv 0) (pe_int))) pa_nil))) (pg_name (i := 3) nd rfl (Or.inl rfl)) (pss_one (ps_aug (i := 2) nd rfl (Or.inl rfl) (pv 3) ip_mulU)))
      (pss_cons (ps_if ((pt_not ((pt_chain (op_leU hr.units) (op_ltU hr.units) (pe_int) (pv 1) (pv 2))))) (pss_one (ps_rz0 rfl (takes_of rfl rfl rfl rfl) Z_BadRank (hr.mono (by decide)) (by rfl))) (pss_nil))
      (pss_cons (ps_set (i := 4) nd rfl (Or.inl rfl) ((pe_listRg rfl (by rfl) B.n_list (prg_2 (by rfl) B.n_range (pe_int) ((pe_op op_addU (pv 0) (pe_int)))))))
      (pss_cons (ps_set (i := 5) nd rfl (Or.inl rfl) ((pe_lst pa_nil)))
      (pss_cons (ps_for (passes_of rfl) rfl (pi_range3 (by rfl) B.n_range (pa_cons (pv 0) (pa_cons (pe_int) (pa_cons ((pe_un un_neg (pe_int))) pa_nil)))) (pg_name (i := 3) nd rfl (Or.inl rfl)) (pss_cons (ps_set (i := 2) nd rfl (Or.inl rfl) ((pe_op op_fdivU (pv 2) (pv 3))))
      (pss_cons (ps_expr ((pe_bm PySem.F.plainAttrs_list PySem.F.slot_list_append PySem.F.type_list_append mt_append (pv 5) (pa_cons ((pe_bm PySem.F.plainAttrs_list PySem.F.slot_list_pop PySem.F.type_list_pop mt_popAt (pv 4) (pa_cons ((pe_op op_fdivU (pv 1) (pv 2))) pa_nil))) pa_nil))))
      (pss_one (ps_set (i := 1) nd rfl (Or.inl rfl) ((pe_op op_modU (pv 1) (pv 2))))))))
      (pss_one (ps_ret ((pe_tupD (by rfl) B.n_tuple (pv 5)))))))))))

theorem sc_law_cell : FnScope N_law_cell ["script", "k"] (defScope s_law_cell) := ⟨rfl, rfl, rfl, by decide +kernel, rfl, by decide +kernel, by decide +kernel⟩
theorem ok_law_cell (D : At K mg "_law_cell" s_law_cell) (B : Bn mg) : Fn P w K mg base CX0 1 "_law_cell" ["script", "k"] (sp_law_cell K) := by
  obtain ⟨f, fd, F, hm⟩ := D
  refine ⟨f, fd, F.ok sc_law_cell (fun vs H Q E h => len_law_cell h) (fun cdv A outer s H vs Q E hr h => ⟨t_law_cell K, ?_, pure_law_cell h⟩), hm, F.kp, F.binds fun _ _ _ _ _ _ us hl => match us, hl with | [_, _], _ => rfl⟩
  have nd := sc_law_cell.nd
  exact pss_cons (ps_if ((pt_cmpR (op_ltU hr.units) (pv 1) ((pe_callB call_lenU (by rfl) B.n_len (by decide +kernel) (pa_cons (pv 0) pa_nil))) (nomark _))) (pss_one (ps_ret ((pe_callB call_absU (by rfl) B.n_abs (by decide +kernel) (pa_cons ((pe_callTy call_intU (by rfl) B.n_int (by decide +kernel) (pa_cons ((pe_ix ix_seq (pv 0) (pv 1) (fun _ _ => rfl))) pa_nil))) pa_nil))))) (pss_nil))
      (pss_cons (ps_if ((pt_cmpR (op_eqU hr.units) ((pe_callB call_lenU (by rfl) B.n_len (by decide +kernel) (pa_cons (pv 0) pa_nil))) (pe_int) (nomark _))) (pss_one (ps_ret (pe_int))) (pss_nil))
      (pss_one (ps_ret ((pe_op op_modU ((pe_callB call_absU (by rfl) B.n_abs (by decide +kernel) (pa_cons ((pe_callTy call_intU (by rfl) B.n_int (by decide +kernel) (pa_cons ((pe_ix ix_seq (pv 0) ((pe_op op_modU ((pe_callTy call_intU (by rfl) B.n_int (by decide +kernel) (pa_cons (pv 1) pa_nil))) ((pe_callB call_lenU (by rfl) B.n_len (by decide +kernel) (pa_cons (pv 0) pa_nil))))) (fun _ _ => rfl))) pa_nil))) pa_nil))) (pe_int))))))

theorem sc_law_pool : FnScope N_law_pool ["script", "k"] (defScope s_law_pool) := ⟨rfl, rfl, rfl, by decide +kernel, rfl, by decide +kernel, by decide +kernel⟩
theorem ok_law_pool (D : At K mg "_law_pool" s_law_pool) (B : Bn mg) (G_law_cell : Fn P w K mg base CX0 1 "_law_cell" ["script", "k"] (sp_law_cell K)) : Fn P w K mg base CX0 2 "_law_pool" ["script", "k"] (sp_law_pool K) := by
  obtain ⟨f, fd, F, hm⟩ := D
  refine ⟨f, fd, F.ok sc_law_pool (fun vs H Q E h => len_law_pool h) (fun cdv A outer s H vs Q E hr h => ⟨t_law_pool K, ?_, pure_law_pool h⟩), hm, F.kp, F.binds fun _ _ _ _ _ _ us hl => match us, hl with | [_, _], _ => rfl⟩
  have nd := sc_law_pool.nd
  exact pss_cons (ps_set (i := 2) nd rfl (Or.inl rfl) ((pe_callF G_law_cell (hr.mono (by decide)) (by rfl) pass0 (pa_cons (pv 0) (pa_cons (pv 1) pa_nil)))))
      (pss_cons (ps_if ((pt_cmpR op_geU (pv 2) ((pe_op op_powU (pe_int) (pe_int))) (nomark _))) (pss_one (ps_ret ((pe_lst (pa_cons ((pe_op op_subU (pv 2) ((pe_op op_powU (pe_int) (pe_int))))) (pa_cons ((pe_op op_modU ((pe_callTy call_intU (by rfl) B.n_int (by decide +kernel) (pa_cons (pv 2) pa_nil))) (pe_int))) (pa_cons (pe_int) pa_nil))))))) (pss_nil))
      (pss_one (ps_ret ((pe_lst (pa_cons (pe_int) (pa_cons ((pe_op op_addU (pv 2) ((pe_op op_mulU (pe_int) ((pe_op op_addU (pv 1) (pe_int))))))) (pa_cons (pe_int) pa_nil))))))))

theorem sc_law_draw : FnScope N_law_draw ["pool", "many"] (defScope s_law_draw) := ⟨rfl, rfl, rfl, by decide +kernel, rfl, by decide +kernel, by decide +kernel⟩
theorem ok_law_draw (D : At K mg "_law_draw" s_law_draw) (B : Bn mg) : Fn P w K mg base CX0 1 "_law_draw" ["pool", "many"] (sp_law_draw K) := by
  obtain ⟨f, fd, F, hm⟩ := D
  refine ⟨f, fd, F.ok sc_law_draw (fun vs H Q E h => len_law_draw h) (fun cdv A outer s H vs Q E hr h => ⟨t_law_draw K, ?_, pure_law_draw h⟩), hm, F.kp, F.binds fun _ _ _ _ _ _ us hl => match us, hl with | [_, _], _ => rfl⟩
  have nd := sc_law_draw.nd
  exact pss_cons (ps_asg ((pe_op op_addU ((pe_ix ix_seq (pv 0) (pe_int) (fun _ _ => rfl))) (pe_int))) (pg_sub (pv 0) (pe_int) set_list))
      (pss_cons (ps_if ((pt_cmpR op_gtU ((pe_ix ix_seq (pv 0) (pe_int) (fun _ _ => rfl))) (pe_int) (nomark _))) (pss_cons (ps_set (i := 2) nd rfl (Or.inl rfl) ((pe_op op_modU ((pe_callTy call_intU (by rfl) B.n_int (by decide +kernel) (pa_cons ((pe_ix ix_seq (pv 0) (pe_int) (fun _ _ => rfl))) pa_nil))) (pv 1))))
      (pss_cons (ps_asg ((pe_op op_fdivU ((pe_ix ix_seq (pv 0) (pe_int) (fun _ _ => rfl))) (pv 1))) (pg_sub (pv 0) (pe_int) set_list))
      (pss_one (ps_ret (pv 2))))) (pss_nil))
      (pss_cons (ps_set (i := 3) nd rfl (Or.inl rfl) ((pe_op op_modU ((pe_callTy call_intU (by rfl) B.n_int (by decide +kernel) (pa_cons ((pe_op op_addU ((pe_ix ix_seq (pv 0) (pe_int) (fun _ _ => rfl))) ((pe_op op_mulU (pe_int) ((pe_ix ix_seq (pv 0) (pe_int) (fun _ _ => rfl))))))) pa_nil))) (pe_int))))
      (pss_cons (ps_set (i := 3) nd rfl (Or.inl rfl) ((pe_op op_modU ((pe_callTy call_intU (by rfl) B.n_int (by decide +kernel) (pa_cons ((pe_op op_addU ((pe_op op_addU ((pe_op op_mulU (pv 3) (pv 3))) ((pe_op op_mulU (pe_int) ((pe_ix ix_seq (pv 0) (pe_int) (fun _ _ => rfl))))))) ((pe_ix ix_seq (pv 0) (pe_int) (fun _ _ => rfl))))) pa_nil))) (pe_int))))
      (pss_cons (ps_set (i := 3) nd rfl (Or.inl rfl) ((pe_op op_modU ((pe_callTy call_intU (by rfl) B.n_int (by decide +kernel) (pa_cons ((pe_op op_addU ((pe_op op_mulU (pv 3) (pv 3))) (pe_int))) pa_nil))) (pe_int))))
      (pss_one (ps_ret ((pe_op op_modU ((pe_callTy call_intU (by rfl) B.n_int (by decide +kernel) (pa_cons ((pe_op op_fdivU (pv 3) (pe_int))) pa_nil))) (pv 1)))))))))

theorem sc_law_row_draw : FnScope N_law_row_draw ["pool", "stage"] (defScope s_law_row_draw) := ⟨rfl, rfl, rfl, by decide +kernel, rfl, by decide +kernel, by decide +kernel⟩
theorem ok_law_row_draw (D : At K mg "_law_row_draw" s_law_row_draw) (B : Bn mg) (G_law_draw : Fn P w K mg base CX0 1 "_law_draw" ["pool", "many"] (sp_law_draw K)) : Fn P w K mg base CX0 2 "_law_row_draw" ["pool", "stage"] (sp_law_row_draw K) := by
  obtain ⟨f, fd, F, hm⟩ := D
  refine ⟨f, fd, F.ok sc_law_row_draw (fun vs H Q E h => len_law_row_draw h) (fun cdv A outer s H vs Q E hr h => ⟨t_law_row_draw K, ?_, pure_law_row_draw h⟩), hm, F.kp, F.binds fun _ _ _ _ _ _ us hl => match us, hl with | [_, _], _ => rfl⟩
  have nd := sc_law_row_draw.nd
  exact pss_cons (ps_set (i := 2) nd rfl (Or.inl rfl) ((pe_listRg rfl (by rfl) B.n_list (prg_2 (by rfl) B.n_range (pe_int) ((pe_op op_addU (pv 1) (pe_int)))))))
      (pss_cons (ps_set (i := 3) nd rfl (Or.inl rfl) ((pe_lst pa_nil)))
      (pss_cons (ps_for PassesOwn.never rfl (pi_range1 (by rfl) B.n_range (pa_cons (pv 1) pa_nil)) (pg_name (i := 4) nd rfl (Or.inl rfl)) (pss_one (ps_expr ((pe_bm PySem.F.plainAttrs_list PySem.F.slot_list_append PySem.F.type_list_append mt_append (pv 3) (pa_cons ((pe_bm PySem.F.plainAttrs_list PySem.F.slot_list_pop PySem.F.type_list_pop mt_popAt (pv 2) (pa_cons ((pe_callF G_law_draw (hr.mono (by decide)) (by rfl) pass0 (pa_cons (pv 0) (pa_cons ((pe_callB call_lenU (by rfl) B.n_len (by decide +kernel) (pa_cons (pv 2) pa_nil))) pa_nil)))) pa_nil))) pa_nil))))))
      (pss_one (ps_ret ((pe_tupD (by rfl) B.n_tuple (pv 3)))))))

theorem sc_law_same : FnScope N_law_same ["got", "due"] (defScope s_law_same) := ⟨rfl, rfl, rfl, by decide +kernel, rfl, by decide +kernel, by decide +kernel⟩
theorem ok_law_same (D : At K mg "_law_same" s_law_same) (B : Bn mg) : Fn P w K mg base CX0 1 "_law_same" ["got", "due"] (sp_law_same K) := by
  obtain ⟨f, fd, F, hm⟩ := D
  refine ⟨f, fd, F.ok sc_law_same (fun vs H Q E h => len_law_same h) (fun cdv A outer s H vs Q E hr h => ⟨t_law_same K, ?_, pure_law_same h⟩), hm, F.kp, F.binds fun _ _ _ _ _ _ us hl => match us, hl with | [_, _], _ => rfl⟩
  have nd := sc_law_same.nd
  exact pss_cons (ps_set (i := 2) nd rfl (Or.inl rfl) ((pe_lst (pa_cons ((pe_lst (pa_cons (pv 0) (pa_cons (pv 1) pa_nil)))) pa_nil))))
      (pss_cons (ps_while PassesOwn.never ((pt_truU (pv 2) (by intro _; rfl))) (pss_cons (ps_set (i := 3) nd rfl (Or.inl rfl) ((pe_bm0 PySem.F.plainAttrs_list PySem.F.slot_list_pop PySem.F.type_list_pop mt_pop (pv 2))))
      (pss_one (ps_if ((pt_truU ((pe_callB call_isi (by rfl) B.n_isinstance (by decide +kernel) (pa_cons ((pe_ix ix_seq (pv 3) (pe_int) (fun _ _ => rfl))) (pa_cons ((pe_bltn (by rfl) B.n_tuple (by decide +kernel) rfl)) pa_nil)))) (by intro _; rfl))) (pss_cons (ps_if ((PW.pt (pw_or ((pt_not ((pt_truU ((pe_callB call_isi (by rfl) B.n_isinstance (by decide +kernel) (pa_cons ((pe_ix ix_seq (pv 3) (pe_int) (fun _ _ => rfl))) (pa_cons ((pe_bltn (by rfl) B.n_tuple (by decide +kernel) rfl)) pa_nil)))) (by intro _; rfl))))) (pw_or1 ((pt_cmpR (op_neU hr.units) ((pe_callB call_lenU (by rfl) B.n_len (by decide +kernel) (pa_cons ((pe_ix ix_seq (pv 3) (pe_int) (fun _ _ => rfl))) pa_nil))) ((pe_callB call_lenU (by rfl) B.n_len (by decide +kernel) (pa_cons ((pe_ix ix_seq (pv 3) (pe_int) (fun _ _ => rfl))) pa_nil))) (nomark _))))))) (pss_one (ps_ret (pe_bl))) (pss_nil))
      (pss_one (ps_for PassesOwn.never rfl (pi_range1 (by rfl) B.n_range (pa_cons ((pe_callB call_lenU (by rfl) B.n_len (by decide +kernel) (pa_cons ((pe_ix ix_seq (pv 3) (pe_int) (fun _ _ => rfl))) pa_nil))) pa_nil)) (pg_name (i := 4) nd rfl (Or.inl rfl)) (pss_one (ps_expr ((pe_bm PySem.F.plainAttrs_list PySem.F.slot_list_append PySem.F.type_list_append mt_append (pv 2) (pa_cons ((pe_lst (pa_cons ((pe_ix ix_seq ((pe_ix ix_seq (pv 3) (pe_int) (fun _ _ => rfl))) (pv 4) (fun _ _ => rfl))) (pa_cons ((pe_ix ix_seq ((pe_ix ix_seq (pv 3) (pe_int) (fun _ _ => rfl))) (pv 4) (fun _ _ => rfl))) pa_nil)))) pa_nil)))))))) (pss_one (ps_if ((pt_truU ((pe_callB call_isi (by rfl) B.n_isinstance (by decide +kernel) (pa_cons ((pe_ix ix_seq (pv 3) (pe_int) (fun _ _ => rfl))) (pa_cons ((pe_bltn (by rfl) B.n_bool (by decide +kernel) rfl)) pa_nil)))) (by intro _; rfl))) (pss_one (ps_if ((PW.pt (pw_or ((pt_not ((pt_truU ((pe_callB call_isi (by rfl) B.n_isinstance (by decide +kernel) (pa_cons ((pe_ix ix_seq (pv 3) (pe_int) (fun _ _ => rfl))) (pa_cons ((pe_bltn (by rfl) B.n_bool (by decide +kernel) rfl)) pa_nil)))) (by intro _; rfl))))) (pw_or1 ((pt_cmpR (op_neU hr.units) ((pe_ix ix_seq (pv 3) (pe_int) (fun _ _ => rfl))) ((pe_ix ix_seq (pv 3) (pe_int) (fun _ _ => rfl))) (nomark _))))))) (pss_one (ps_ret (pe_bl))) (pss_nil))) (pss_one (ps_if ((pt_truU ((pe_callB call_isi (by rfl) B.n_isinstance (by decide +kernel) (pa_cons ((pe_ix ix_seq (pv 3) (pe_int) (fun _ _ => rfl))) (pa_cons ((pe_bltn (by rfl) B.n_int (by decide +kernel) rfl)) pa_nil)))) (by intro _; rfl))) (pss_one (ps_if ((PW.pt (pw_or ((pt_not ((pt_truU ((pe_callB call_isi (by rfl) B.n_isinstance (by decide +kernel) (pa_cons ((pe_ix ix_seq (pv 3) (pe_int) (fun _ _ => rfl))) (pa_cons ((pe_bltn (by rfl) B.n_int (by decide +kernel) rfl)) pa_nil)))) (by intro _; rfl))))) (pw_or ((pt_truU ((pe_callB call_isi (by rfl) B.n_isinstance (by decide +kernel) (pa_cons ((pe_ix ix_seq (pv 3) (pe_int) (fun _ _ => rfl))) (pa_cons ((pe_bltn (by rfl) B.n_bool (by decide +kernel) rfl)) pa_nil)))) (by intro _; rfl))) (pw_or1 ((pt_cmpR (op_neU hr.units) ((pe_ix ix_seq (pv 3) (pe_int) (fun _ _ => rfl))) ((pe_ix ix_seq (pv 3) (pe_int) (fun _ _ => rfl))) (nomark _)))))))) (pss_one (ps_ret (pe_bl))) (pss_nil))) (pss_one (ps_if ((pt_truU ((pe_callB call_isi (by rfl) B.n_isinstance (by decide +kernel) (pa_cons ((pe_ix ix_seq (pv 3) (pe_int) (fun _ _ => rfl))) (pa_cons ((pe_bltn (by rfl) B.n_str (by decide +kernel) rfl)) pa_nil)))) (by intro _; rfl))) (pss_one (ps_if ((PW.pt (pw_or ((pt_not ((pt_truU ((pe_callB call_isi (by rfl) B.n_isinstance (by decide +kernel) (pa_cons ((pe_ix ix_seq (pv 3) (pe_int) (fun _ _ => rfl))) (pa_cons ((pe_bltn (by rfl) B.n_str (by decide +kernel) rfl)) pa_nil)))) (by intro _; rfl))))) (pw_or1 ((pt_cmpR (op_neU hr.units) ((pe_ix ix_seq (pv 3) (pe_int) (fun _ _ => rfl))) ((pe_ix ix_seq (pv 3) (pe_int) (fun _ _ => rfl))) (nomark _))))))) (pss_one (ps_ret (pe_bl))) (pss_nil))) (pss_one (ps_if ((pt_cmpR op_notNU ((pe_ix ix_seq (pv 3) (pe_int) (fun _ _ => rfl))) (pe_non) (nomark _))) (pss_one (ps_ret (pe_bl))) (pss_nil)))))))))))))
      (pss_one (ps_ret (pe_bl))))

theorem sc_law_factorial : FnScope N_law_factorial ["many"] (defScope s_law_factorial) := ⟨rfl, rfl, rfl, by decide +kernel, rfl, by decide +kernel, by decide +kernel⟩
theorem ok_law_factorial (D : At K mg "_law_factorial" s_law_factorial) (B : Bn mg) : Fn P w K mg base CX0 1 "_law_factorial" ["many"] (sp_law_factorial K) := by
  obtain ⟨f, fd, F, hm⟩ := D
  refine ⟨f, fd, F.ok sc_law_factorial (fun vs H Q E h => len_law_factorial h) (fun cdv A outer s H vs Q E hr h => ⟨t_law_factorial K, ?_, pure_law_factorial h⟩), hm, F.kp, F.binds fun _ _ _ _ _ _ us hl => match us, hl with | [_], _ => rfl⟩
  have nd := sc_law_factorial.nd
  exact pss_cons (ps_set (i := 1) nd rfl (Or.inl rfl) (pe_int))
      (pss_cons (ps_for PassesOwn.never rfl (pi_range2 (by rfl) B.n_range (pa_cons (pe_int) (pa_cons ((pe_op op_addU (pv 0) (pe_int))) pa_nil))) (pg_name (i := 2) nd rfl (Or.inl rfl)) (pss_one (ps_set (i := 1) nd rfl (Or.inl rfl) ((pe_op op_mulU (pv 1) (pv 2))))))
      (pss_one (ps_ret (pv 1))))

theorem sc_law_rank : FnScope N_law_rank ["row"] (defScope s_law_rank) := ⟨rfl, rfl, rfl, by decide +kernel, rfl, by decide +kernel, by decide +kernel⟩
theorem ok_law_rank (D : At K mg "_law_rank" s_law_rank) (B : Bn mg) (G_law_factorial : Fn P w K mg base CX0 1 "_law_factorial" ["many"] (sp_law_factorial K)) : Fn P w K mg base CX0 2 "_law_rank" ["row"] (sp_law_rank K) := by
  obtain ⟨f, fd, F, hm⟩ := D
  refine ⟨f, fd, F.ok sc_law_rank (fun vs H Q E h => len_law_rank h) (fun cdv A outer s H vs Q E hr h => ⟨t_law_rank K, ?_, pure_law_rank h⟩), hm, F.kp, F.binds fun _ _ _ _ _ _ us hl => match us, hl with | [_], _ => rfl⟩
  have nd := sc_law_rank.nd
  exact pss_cons (ps_set (i := 1) nd rfl (Or.inl rfl) ((pe_listRg rfl (by rfl) B.n_list (prg_2 (by rfl) B.n_range (pe_int) ((pe_op op_addU ((pe_callB call_lenU (by rfl) B.n_len (by decide +kernel) (pa_cons (pv 0) pa_nil))) (pe_int)))))))
      (pss_cons (ps_set (i := 2) nd rfl (Or.inl rfl) (pe_int))
      (pss_cons (ps_for PassesOwn.never rfl (pi_seqU (pv 0)) (pg_name (i := 3) nd rfl (Or.inl rfl)) (pss_cons (ps_set (i := 4) nd rfl (Or.inl rfl) ((pe_bm PySem.F.plainAttrs_list PySem.F.slot_list_index PySem.F.type_list_index mt_indexL (pv 1) (pa_cons (pv 3) pa_nil))))
      (pss_cons (ps_expr ((pe_bm PySem.F.plainAttrs_list PySem.F.slot_list_pop PySem.F.type_list_pop mt_popAt (pv 1) (pa_cons (pv 4) pa_nil))))
      (pss_one (ps_set (i := 2) nd rfl (Or.inl rfl) ((pe_op op_addU (pv 2) ((pe_op op_mulU (pv 4) ((pe_callF G_law_factorial (hr.mono (by decide)) (by rfl) pass0 (pa_cons ((pe_callB call_lenU (by rfl) B.n_len (by decide +kernel) (pa_cons (pv 1) pa_nil))) pa_nil))))))))))))
      (pss_one (ps_ret (pv 2)))))

theorem sc_law_all_rows : FnScope N_law_all_rows ["stage"] (defScope s_law_all_rows) := ⟨rfl, rfl, rfl, by decide +kernel, rfl, by decide +kernel, by decide +kernel⟩
theorem ok_law_all_rows (D : At K mg "_law_all_rows" s_law_all_rows) (B : Bn mg) : Fn P w K mg base CX0 1 "_law_all_rows" ["stage"] (sp_law_all_rows K) := by
  obtain ⟨f, fd, F, hm⟩ := D
  refine ⟨f, fd, F.ok sc_law_all_rows (fun vs H Q E h => len_law_all_rows h) (fun cdv A outer s H vs Q E hr h => ⟨t_law_all_rows K, ?_, pure_law_all_rows h⟩), hm, F.kp, F.binds fun _ _ _ _ _ _ us hl => match us, hl with | [_], _ => rfl⟩
  have nd := sc_law_all_rows.nd
  exact pss_cons (ps_set (i := 1) nd rfl (Or.inl rfl) ((pe_lst (pa_cons ((pe_tup pa_nil)) pa_nil))))
      (pss_cons (ps_for PassesOwn.never rfl (pi_range1 (by rfl) B.n_range (pa_cons (pv 0) pa_nil)) (pg_name (i := 2) nd rfl (Or.inl rfl)) (pss_cons (ps_set (i := 3) nd rfl (Or.inl rfl) ((pe_lst pa_nil)))
      (pss_cons (ps_for PassesOwn.never rfl (pi_seqU (pv 1)) (pg_name (i := 4) nd rfl (Or.inr rfl)) (pss_one (ps_expr ((pe_bm PySem.F.plainAttrs_list PySem.F.slot_list_extend PySem.F.type_list_extend mt_extend (pv 3) (pa_cons ((pe_lc (own := [("bell", 5)]) (g := (gName 5)) (tt := (tTest (tOp (rNotInU K) (tVar 5) (tVar 4)))) rfl nd ((pi_range2 (by rfl) B.n_range (pa_cons (pe_int) (pa_cons ((pe_op op_addU (pv 0) (pe_int))) pa_nil)))) (blkOk_by (N := (N_law_all_rows : List Str)) (sc := defScope s_law_all_rows) (by decide +kernel)) (fun _ _ _ _ _ => (pg_name (i := 5) nd rfl (Or.inl rfl))) (fun _ _ _ _ _ => (pts_one ((pt_cmpR op_notInU (pv 5) (pv 4) (by with_unfolding_all rfl))))) (fun _ _ _ _ _ => (pe_op op_addU (pv 4) ((pe_tup (pa_cons (pv 5) pa_nil))))))) pa_nil))))))
      (pss_one (ps_set (i := 1) nd rfl (Or.inl rfl) ((pe_callTy call_listU (by rfl) B.n_list (by decide +kernel) (pa_cons (pv 3) pa_nil))))))))
      (pss_one (ps_ret (pv 1))))

theorem sc_law_is_row_of : FnScope N_law_is_row_of ["stage", "told"] (defScope s_law_is_row_of) := ⟨rfl, rfl, rfl, by decide +kernel, rfl, by decide +kernel, by decide +kernel⟩
theorem ok_law_is_row_of (D : At K mg "_law_is_row_of" s_law_is_row_of) (B : Bn mg) : Fn P w K mg base CX0 1 "_law_is_row_of" ["stage", "told"] (sp_law_is_row_of K) := by
  obtain ⟨f, fd, F, hm⟩ := D
  refine ⟨f, fd, F.ok sc_law_is_row_of (fun vs H Q E h => len_law_is_row_of h) (fun cdv A outer s H vs Q E hr h => ⟨t_law_is_row_of K, ?_, pure_law_is_row_of h⟩), hm, F.kp, F.binds fun _ _ _ _ _ _ us hl => match us, hl with | [_, _], _ => rfl⟩
  have nd := sc_law_is_row_of.nd
  exact pss_cons (ps_if ((PW.pt (pw_or ((pt_not ((pt_truU ((pe_callB call_isi (by rfl) B.n_isinstance (by decide +kernel) (pa_cons (pv 1) (pa_cons ((pe_bltn (by rfl) B.n_tuple (by decide +kernel) rfl)) pa_nil)))) (by intro _; rfl))))) (pw_or1 ((pt_cmpR (op_neU hr.units) ((pe_callB call_lenU (by rfl) B.n_len (by decide +kernel) (pa_cons (pv 1) pa_nil))) (pv 0) (nomark _))))))) (pss_one (ps_ret (pe_bl))) (pss_nil))
      (pss_cons (ps_for PassesOwn.never rfl (pi_seqU (pv 1)) (pg_name (i := 2) nd rfl (Or.inl rfl)) (pss_one (ps_if ((PW.pt (pw_or ((pt_not ((pt_truU ((pe_callB call_isi (by rfl) B.n_isinstance (by decide +kernel) (pa_cons (pv 2) (pa_cons ((pe_bltn (by rfl) B.n_int (by decide +kernel) rfl)) pa_nil)))) (by intro _; rfl))))) (pw_or1 ((pt_truU ((pe_callB call_isi (by rfl) B.n_isinstance (by decide +kernel) (pa_cons (pv 2) (pa_cons ((pe_bltn (by rfl) B.n_bool (by decide +kernel) rfl)) pa_nil)))) (by intro _; rfl))))))) (pss_one (ps_ret (pe_bl))) (pss_nil))))
      (pss_cons (ps_for PassesOwn.never rfl (pi_range2 (by rfl) B.n_range (pa_cons (pe_int) (pa_cons ((pe_op op_addU (pv 0) (pe_int))) pa_nil))) (pg_name (i := 2) nd rfl (Or.inl rfl)) (pss_one (ps_if ((pt_cmpR (op_neU hr.units) ((pe_bmT PySem.F.slot_tuple_count PySem.F.type_tuple_count mt_tcount (pv 1) (pa_cons (pv 2) pa_nil))) (pe_int) (nomark _))) (pss_one (ps_ret (pe_bl))) (pss_nil))))
      (pss_one (ps_ret (pe_bl)))))

theorem sc_law_refused : FnScope N_law_refused ["stage", "rank", "due"] (defScope s_law_refused) := ⟨rfl, rfl, rfl, by decide +kernel, rfl, by decide +kernel, by decide +kernel⟩
theorem ok_law_refused (D : At K mg "_law_refused" s_law_refused) (B : Bn mg) {ec : Str → Addr} (XS : Exs K ec XN) (EX : ExAt mg ec XN) (G_row_of_rank : Fn P w K mg base (L2.CX P w) 5 "row_of_rank" ["stage", "rank"] (sp_row_of_rank K ec)) : Fn P w K mg base CX0 6 "_law_refused" ["stage", "rank", "due"] (sp_law_refused K) := by
  obtain ⟨f, fd, F, hm⟩ := D
  refine ⟨f, fd, F.ok sc_law_refused (fun vs H Q E h => len_law_refused h) (fun cdv A outer s H vs Q E hr h => ⟨t_law_refused K ec, ?_, pure_law_refused XS h⟩), hm, F.kp, F.binds fun _ _ _ _ _ _ us hl => match us, hl with | [_, _, _], _ => rfl⟩
  have nd := sc_law_refused.nd
  exact pss_cons (ps_set (i := 3) nd rfl (Or.inl rfl) (pe_str))
      (pss_cons (ps_set (i := 4) nd rfl (Or.inl rfl) (pe_str))
      (pss_cons (ps_set (i := 5) nd rfl (Or.inl rfl) (pe_bl))
      (pss_cons (ps_tryT rfl rfl nd takes0 (fun W pn xe htk hpo => pss_one (ps_expr ((pe_callW htk G_row_of_rank (hr.mono (by decide)) (by rfl) (pa_cons (pv 0) (pa_cons (pv 1) pa_nil)))))) (HdsA.as ⟨rfl, by decide, .inl (EX "BadStage" (by decide))⟩ rfl rfl (fun a oe cls d pn hz hf => pss_cons (ps_set (i := 3) nd rfl (Or.inl rfl) (pe_str))
      (pss_cons (ps_set (i := 4) nd rfl (Or.inl rfl) ((pe_xfA hz hf (pv 6))))
      (pss_one (ps_set (i := 5) nd rfl (Or.inl rfl) ((pe_and ((pe_callB (call_isX hz hf) (by rfl) B.n_isinstance (by decide +kernel) (pa_cons (pv 6) (pa_cons ((pe_glob rfl (EX "ChamberError" (by decide)) rfl)) pa_nil)))) (pe_and ((pe_callB (call_isX hz hf) (by rfl) B.n_isinstance (by decide +kernel) (pa_cons (pv 6) (pa_cons ((pe_bltn (by rfl) B.n_ValueError (by decide +kernel) rfl)) pa_nil)))) (pe_one ((pe_not ((pe_callB (call_isX hz hf) (by rfl) B.n_isinstance (by decide +kernel) (pa_cons (pv 6) (pa_cons ((pe_tup (pa_cons ((pe_glob rfl (EX "BadRank" (by decide)) rfl)) (pa_cons ((pe_glob rfl (EX "BadExponent" (by decide)) rfl)) pa_nil)))) pa_nil)))))))))))))) (HdsA.as ⟨rfl, by decide, .inl (EX "BadRank" (by decide))⟩ rfl rfl (fun a oe cls d pn hz hf => pss_cons (ps_set (i := 3) nd rfl (Or.inl rfl) (pe_str))
      (pss_cons (ps_set (i := 4) nd rfl (Or.inl rfl) ((pe_xfA hz hf (pv 6))))
      (pss_one (ps_set (i := 5) nd rfl (Or.inl rfl) ((pe_and ((pe_callB (call_isX hz hf) (by rfl) B.n_isinstance (by decide +kernel) (pa_cons (pv 6) (pa_cons ((pe_glob rfl (EX "ChamberError" (by decide)) rfl)) pa_nil)))) (pe_and ((pe_callB (call_isX hz hf) (by rfl) B.n_isinstance (by decide +kernel) (pa_cons (pv 6) (pa_cons ((pe_bltn (by rfl) B.n_ValueError (by decide +kernel) rfl)) pa_nil)))) (pe_one ((pe_not ((pe_callB (call_isX hz hf) (by rfl) B.n_isinstance (by decide +kernel) (pa_cons (pv 6) (pa_cons ((pe_tup (pa_cons ((pe_glob rfl (EX "BadStage" (by decide)) rfl)) (pa_cons ((pe_glob rfl (EX "BadExponent" (by decide)) rfl)) pa_nil)))) pa_nil)))))))))))))) (HdsA.no ⟨rfl, by decide, .inl (EX "ChamberError" (by decide))⟩ (fun a oe cls d pn hz hf => pss_one (ps_set (i := 3) nd rfl (Or.inl rfl) (pe_str))) HdsA.nil))))
      (pss_one (ps_ret ((pe_and ((pe_cmpR (op_eqU hr.units) (pv 3) (pv 2) (nomark _))) (pe_and (pv 5) (pe_and ((pe_callB call_isi (by rfl) B.n_isinstance (by decide +kernel) (pa_cons (pv 4) (pa_cons ((pe_bltn (by rfl) B.n_str (by decide +kernel) rfl)) pa_nil)))) (pe_one ((pe_cmpR (op_eqU hr.units) (pv 4) (pv 2) (nomark _)))))))))))))

theorem sc_law : FnScope N_law ["script"] (defScope s_law) := ⟨rfl, rfl, rfl, by decide +kernel, rfl, by decide +kernel, by decide +kernel⟩
theorem ok_lawF {f : Addr} {fd : FuncData} (F : Fun K "law" "law" s_law f fd) (B : Bn mg) {ec : Str → Addr} (XS : Exs K ec XN) (EX : ExAt mg ec XN) (G_law_pool : Fn P w K mg base CX0 2 "_law_pool" ["script", "k"] (sp_law_pool K)) (G_law_draw : Fn P w K mg base CX0 1 "_law_draw" ["pool", "many"] (sp_law_draw K)) (G_law_row_draw : Fn P w K mg base CX0 2 "_law_row_draw" ["pool", "stage"] (sp_law_row_draw K)) (G_law_rank : Fn P w K mg base CX0 2 "_law_rank" ["row"] (sp_law_rank K)) (G_law_same : Fn P w K mg base CX0 1 "_law_same" ["got", "due"] (sp_law_same K)) (G_rank_of : Fn P w K mg base CX0 1 "rank_of" ["row"] (sp_rank_of K)) (G_row_of_rank : Fn P w K mg base (L2.CX P w) 5 "row_of_rank" ["stage", "rank"] (sp_row_of_rank K ec)) (G_law_factorial : Fn P w K mg base CX0 1 "_law_factorial" ["many"] (sp_law_factorial K)) (G_law_is_row_of : Fn P w K mg base CX0 1 "_law_is_row_of" ["stage", "told"] (sp_law_is_row_of K)) (G_law_all_rows : Fn P w K mg base CX0 1 "_law_all_rows" ["stage"] (sp_law_all_rows K)) (G_law_refused : Fn P w K mg base CX0 6 "_law_refused" ["stage", "rank", "due"] (sp_law_refused K)) : FnOk P w K mg base CX0 7 f fd ["script"] (sp_law K) := by
  refine F.ok sc_law (fun vs H Q E h => len_law h) (fun cdv A outer s H vs Q E hr h => ⟨t_law K ec, ?_, pure_law XS h⟩)
  have nd := sc_law.nd
  exact pss_cons (ps_set (i := 1) nd rfl (Or.inl rfl) ((pe_callF G_law_pool (hr.mono (by decide)) (by rfl) pass0 (pa_cons (pv 0) (pa_cons (pe_int) pa_nil)))))
      (pss_cons (ps_set (i := 2) nd rfl (Or.inl rfl) ((pe_op op_addU (pe_int) ((pe_callF G_law_draw (hr.mono (by decide)) (by rfl) pass0 (pa_cons (pv 1) (pa_cons (pe_int) pa_nil)))))))
      (pss_cons (ps_set (i := 3) nd rfl (Or.inl rfl) ((pe_callF G_law_row_draw (hr.mono (by decide)) (by rfl) pass0 (pa_cons (pv 1) (pa_cons (pv 2) pa_nil)))))
      (pss_cons (ps_set (i := 4) nd rfl (Or.inl rfl) ((pe_callF G_law_pool (hr.mono (by decide)) (by rfl) pass0 (pa_cons (pv 0) (pa_cons (pe_int) pa_nil)))))
      (pss_cons (ps_set (i := 5) nd rfl (Or.inl rfl) ((pe_callF G_law_row_draw (hr.mono (by decide)) (by rfl) pass0 (pa_cons (pv 4) (pa_cons (pv 2) pa_nil)))))
      (pss_cons (ps_if ((pt_cmpR (op_eqU hr.units) ((pe_callF G_law_draw (hr.mono (by decide)) (by rfl) pass0 (pa_cons (pv 4) (pa_cons (pe_int) pa_nil)))) (pe_int) (nomark _))) (pss_cons (ps_set (i := 6) nd rfl (Or.inl rfl) ((pe_callF G_law_draw (hr.mono (by decide)) (by rfl) pass0 (pa_cons (pv 4) (pa_cons (pv 2) pa_nil)))))
      (pss_cons (ps_set (i := 7) nd rfl (Or.inl rfl) ((pe_callF G_law_draw (hr.mono (by decide)) (by rfl) pass0 (pa_cons (pv 4) (pa_cons (pv 2) pa_nil)))))
      (pss_cons (ps_set (i := 8) nd rfl (Or.inl rfl) ((pe_callTy call_listU (by rfl) B.n_list (by decide +kernel) (pa_cons (pv 3) pa_nil))))
      (pss_cons (ps_asg ((pe_ix ix_seq (pv 3) (pv 7) (fun _ _ => rfl))) (pg_sub (pv 8) (pv 6) set_list))
      (pss_cons (ps_asg ((pe_ix ix_seq (pv 3) (pv 6) (fun _ _ => rfl))) (pg_sub (pv 8) (pv 7) set_list))
      (pss_one (ps_set (i := 5) nd rfl (Or.inl rfl) ((pe_tupD (by rfl) B.n_tuple (pv 8)))))))))) (pss_nil))
      (pss_cons (ps_set (i := 9) nd rfl (Or.inl rfl) ((pe_callF G_law_rank (hr.mono (by decide)) (by rfl) pass0 (pa_cons (pv 3) pa_nil))))
      (pss_cons (ps_if ((PW.pt (pw_or ((pt_not ((pt_truU ((pe_callF G_law_same (hr.mono (by decide)) (by rfl) pass0 (pa_cons ((pe_callF G_rank_of (hr.mono (by decide)) (by rfl) pass0 (pa_cons (pv 3) pa_nil))) (pa_cons (pv 9) pa_nil)))) (by intro _; rfl))))) (pw_or1 ((pt_not ((pt_truU ((pe_callF G_law_same (hr.mono (by decide)) (by rfl) pass0 (pa_cons ((pe_callF G_row_of_rank (hr.mono (by decide)) (by rfl) passL (pa_cons (pv 2) (pa_cons (pv 9) pa_nil)))) (pa_cons (pv 3) pa_nil)))) (by intro _; rfl))))))))) (pss_one (ps_ret (pe_bl))) (pss_nil))
      (pss_cons (ps_if ((PW.pt (pw_or ((pt_not ((pt_truU ((pe_callF G_law_same (hr.mono (by decide)) (by rfl) pass0 (pa_cons ((pe_callF G_rank_of (hr.mono (by decide)) (by rfl) pass0 (pa_cons (pv 5) pa_nil))) (pa_cons ((pe_callF G_law_rank (hr.mono (by decide)) (by rfl) pass0 (pa_cons (pv 5) pa_nil))) pa_nil)))) (by intro _; rfl))))) (pw_or1 ((pt_cmpR (op_neU hr.units) ((pe_cmpR (op_ltU hr.units) ((pe_callF G_rank_of (hr.mono (by decide)) (by rfl) pass0 (pa_cons (pv 3) pa_nil))) ((pe_callF G_rank_of (hr.mono (by decide)) (by rfl) pass0 (pa_cons (pv 5) pa_nil))) (nomark _))) ((pe_cmpR (op_ltU hr.units) (pv 3) (pv 5) (nomark _))) (nomark _))))))) (pss_one (ps_ret (pe_bl))) (pss_nil))
      (pss_cons (ps_set (i := 10) nd rfl (Or.inl rfl) ((pe_callF G_law_pool (hr.mono (by decide)) (by rfl) pass0 (pa_cons (pv 0) (pa_cons (pe_int) pa_nil)))))
      (pss_cons (ps_set (i := 11) nd rfl (Or.inl rfl) ((pe_callF G_law_factorial (hr.mono (by decide)) (by rfl) pass0 (pa_cons (pv 2) pa_nil))))
      (pss_cons (ps_set (i := 12) nd rfl (Or.inl rfl) ((pe_op op_modU ((pe_callTy call_intU (by rfl) B.n_int (by decide +kernel) (pa_cons ((pe_op op_addU ((pe_op op_mulU ((pe_callF G_law_draw (hr.mono (by decide)) (by rfl) pass0 (pa_cons (pv 10) (pa_cons (pe_int) pa_nil)))) (pe_int))) ((pe_callF G_law_draw (hr.mono (by decide)) (by rfl) pass0 (pa_cons (pv 10) (pa_cons (pe_int) pa_nil)))))) pa_nil))) (pv 11))))
      (pss_cons (ps_set (i := 13) nd rfl (Or.inl rfl) ((pe_callF G_row_of_rank (hr.mono (by decide)) (by rfl) passL (pa_cons (pv 2) (pa_cons (pv 12) pa_nil)))))
      (pss_cons (ps_if ((PW.pt (pw_or ((pt_not ((pt_truU ((pe_callF G_law_is_row_of (hr.mono (by decide)) (by rfl) pass0 (pa_cons (pv 2) (pa_cons (pv 13) pa_nil)))) (by intro _; rfl))))) (pw_or ((pt_cmpR (op_neU hr.units) ((pe_callF G_law_rank (hr.mono (by decide)) (by rfl) pass0 (pa_cons (pv 13) pa_nil))) (pv 12) (nomark _))) (pw_or1 ((pt_not ((pt_truU ((pe_callF G_law_same (hr.mono (by decide)) (by rfl) pass0 (pa_cons ((pe_callF G_rank_of (hr.mono (by decide)) (by rfl) pass0 (pa_cons (pv 13) pa_nil))) (pa_cons (pv 12) pa_nil)))) (by intro _; rfl)))))))))) (pss_one (ps_ret (pe_bl))) (pss_nil))
      (pss_cons (ps_if ((pt_cmpR (op_ltU hr.units) (pv 2) (pe_int) (nomark _))) (pss_cons (ps_set (i := 14) nd rfl (Or.inl rfl) ((pe_callF G_law_all_rows (hr.mono (by decide)) (by rfl) pass0 (pa_cons (pv 2) pa_nil))))
      (pss_one (ps_if ((PW.pt (pw_or ((pt_cmpR (op_neU hr.units) ((pe_ix ix_seq (pv 14) (pv 9) (fun _ _ => rfl))) (pv 3) (nomark _))) (pw_or1 ((pt_not ((pt_truU ((pe_callF G_law_same (hr.mono (by decide)) (by rfl) pass0 (pa_cons (pv 13) (pa_cons ((pe_ix ix_seq (pv 14) (pv 12) (fun _ _ => rfl))) pa_nil)))) (by intro _; rfl))))))))) (pss_one (ps_ret (pe_bl))) (pss_nil)))) (pss_nil))
      (pss_cons (ps_set (i := 15) nd rfl (Or.inl rfl) ((pe_tupD (by rfl) B.n_tuple ((pe_listRg rfl (by rfl) B.n_list (prg_2 (by rfl) B.n_range (pe_int) ((pe_op op_addU (pv 2) (pe_int)))))))))
      (pss_cons (ps_if ((PW.pt (pw_or ((pt_not ((pt_truU ((pe_callF G_law_same (hr.mono (by decide)) (by rfl) pass0 (pa_cons ((pe_callF G_row_of_rank (hr.mono (by decide)) (by rfl) passL (pa_cons (pv 2) (pa_cons (pe_int) pa_nil)))) (pa_cons (pv 15) pa_nil)))) (by intro _; rfl))))) (pw_or1 ((pt_not ((pt_truU ((pe_callF G_law_same (hr.mono (by decide)) (by rfl) pass0 (pa_cons ((pe_callF G_row_of_rank (hr.mono (by decide)) (by rfl) passL (pa_cons (pv 2) (pa_cons ((pe_op op_subU (pv 11) (pe_int))) pa_nil)))) (pa_cons ((pe_revU (pv 15) (po_some ((pe_un un_neg (pe_int)))))) pa_nil)))) (by intro _; rfl))))))))) (pss_one (ps_ret (pe_bl))) (pss_nil))
      (pss_cons (ps_set (i := 16) nd rfl (Or.inl rfl) ((pe_ix ix_seq ((pe_lst (pa_cons (pe_int) (pa_cons (pe_int) (pa_cons ((pe_op op_addU ((pe_op op_mulU ((pe_callF G_law_draw (hr.mono (by decide)) (by rfl) pass0 (pa_cons (pv 10) (pa_cons ((pe_op op_powU (pe_int) (pe_int))) pa_nil)))) ((pe_op op_powU (pe_int) (pe_int))))) ((pe_callF G_law_draw (hr.mono (by decide)) (by rfl) pass0 (pa_cons (pv 10) (pa_cons ((pe_op op_powU (pe_int) (pe_int))) pa_nil)))))) pa_nil))))) ((pe_callF G_law_draw (hr.mono (by decide)) (by rfl) pass0 (pa_cons (pv 10) (pa_cons (pe_int) pa_nil)))) (fun _ _ => rfl))))
      (pss_cons (ps_if ((PW.pt (pw_or ((pt_not ((pt_truU ((pe_callF G_law_refused (hr.mono (by decide)) (by rfl) pass0 (pa_cons (pv 2) (pa_cons ((pe_op op_addU (pv 11) (pv 16))) (pa_cons (pe_str) pa_nil))))) (by intro _; rfl))))) (pw_or1 ((pt_not ((pt_truU ((pe_callF G_law_refused (hr.mono (by decide)) (by rfl) pass0 (pa_cons (pv 2) (pa_cons ((pe_op op_subU ((pe_un un_neg (pe_int))) (pv 16))) (pa_cons (pe_str) pa_nil))))) (by intro _; rfl))))))))) (pss_one (ps_ret (pe_bl))) (pss_nil))
      (pss_cons (ps_set (i := 17) nd rfl (Or.inl rfl) ((pe_ix ix_seq ((pe_lst (pa_cons (pe_int) (pa_cons (pe_int) (pa_cons ((pe_un un_neg (pv 16))) (pa_cons ((pe_op op_addU (pe_int) (pv 16))) pa_nil)))))) ((pe_callF G_law_draw (hr.mono (by decide)) (by rfl) pass0 (pa_cons (pv 10) (pa_cons (pe_int) pa_nil)))) (fun _ _ => rfl))))
      (pss_cons (ps_if ((PW.pt (pw_or ((pt_not ((pt_truU ((pe_callF G_law_refused (hr.mono (by decide)) (by rfl) pass0 (pa_cons (pv 17) (pa_cons (pv 12) (pa_cons (pe_str) pa_nil))))) (by intro _; rfl))))) (pw_or1 ((pt_not ((pt_truU ((pe_callF G_law_refused (hr.mono (by decide)) (by rfl) pass0 (pa_cons (pv 17) (pa_cons ((pe_op op_subU ((pe_un un_neg (pe_int))) (pv 16))) (pa_cons (pe_str) pa_nil))))) (by intro _; rfl))))))))) (pss_one (ps_ret (pe_bl))) (pss_nil))
      (pss_one (ps_ret ((pe_callF G_law_same (hr.mono (by decide)) (by rfl) pass0 (pa_cons ((pe_callF G_rank_of (hr.mono (by decide)) (by rfl) pass0 (pa_cons (pv 3) pa_nil))) (pa_cons (pv 9) pa_nil))))))))))))))))))))))))))

end
theorem all_mk {l : PySem.W.OpenLaw} {w : World} {K : PySem.W.Frag} {h : Heap} {mg : Str → Option Value} {fa : Addr} (X : K.In h) (G : h.Ns mainGlobals mg) (hfa : mg "law" = some (.ref fa))
    {f1 : Addr} {od1 an1 : Option Addr} {sl1 : Array (Option Value)} {oc1 kV1 dc1 pm1 cd1 ct1 : Value}
    {f2 : Addr} {od2 an2 : Option Addr} {sl2 : Array (Option Value)} {oc2 kV2 dc2 pm2 cd2 ct2 : Value}
    {f3 : Addr} {od3 an3 : Option Addr} {sl3 : Array (Option Value)} {oc3 kV3 dc3 pm3 cd3 ct3 : Value}
    {f4 : Addr} {od4 an4 : Option Addr} {sl4 : Array (Option Value)} {oc4 kV4 dc4 pm4 cd4 ct4 : Value}
    {f5 : Addr} {od5 an5 : Option Addr} {sl5 : Array (Option Value)} {oc5 kV5 dc5 pm5 cd5 ct5 : Value}
    {f6 : Addr} {od6 an6 : Option Addr} {sl6 : Array (Option Value)} {oc6 kV6 dc6 pm6 cd6 ct6 : Value}
    {f7 : Addr} {od7 an7 : Option Addr} {sl7 : Array (Option Value)} {oc7 kV7 dc7 pm7 cd7 ct7 : Value}
    {f8 : Addr} {od8 an8 : Option Addr} {sl8 : Array (Option Value)} {oc8 kV8 dc8 pm8 cd8 ct8 : Value}
    {f9 : Addr} {od9 an9 : Option Addr} {sl9 : Array (Option Value)} {oc9 kV9 dc9 pm9 cd9 ct9 : Value}
    {f10 : Addr} {od10 an10 : Option Addr} {sl10 : Array (Option Value)} {oc10 kV10 dc10 pm10 cd10 ct10 : Value}
    {f11 : Addr} {od11 an11 : Option Addr} {sl11 : Array (Option Value)} {oc11 kV11 dc11 pm11 cd11 ct11 : Value}
    {f12 : Addr} {od12 an12 : Option Addr} {sl12 : Array (Option Value)} {oc12 kV12 dc12 pm12 cd12 ct12 : Value}
    {f13 : Addr} {od13 an13 : Option Addr} {sl13 : Array (Option Value)} {oc13 kV13 dc13 pm13 cd13 ct13 : Value}
    {f14 : Addr} {od14 an14 : Option Addr} {sl14 : Array (Option Value)} {oc14 kV14 dc14 pm14 cd14 ct14 : Value}
    {C_ChamberError : Addr}
    {C_BadStage : Addr}
    {C_BadExponent : Addr}
    {C_BadRank : Addr}
    {fI_ChamberError cc_ChamberError : Addr} {od_ChamberError an_ChamberError cld_ChamberError : Option Addr} {sl_ChamberError csl_ChamberError : Array (Option Value)} {oc_ChamberError kV_ChamberError dc_ChamberError pm_ChamberError cd_ChamberError ct_ChamberError cl_ChamberError : Value}
    {fI_BadStage cc_BadStage : Addr} {od_BadStage an_BadStage cld_BadStage : Option Addr} {sl_BadStage csl_BadStage : Array (Option Value)} {oc_BadStage kV_BadStage dc_BadStage pm_BadStage cd_BadStage ct_BadStage cl_BadStage : Value}
    {fI_BadRank cc_BadRank : Addr} {od_BadRank an_BadRank cld_BadRank : Option Addr} {sl_BadRank csl_BadRank : Array (Option Value)} {oc_BadRank kV_BadRank dc_BadRank pm_BadRank cd_BadRank ct_BadRank cl_BadRank : Value}
    {t_SIGNS : Tok}
    (a1 : PySem.W.nsIn K mainGlobals "check_stage" = some (some (.ref f1))) (l1 : K.lookup f1 = some ⟨oc1, od1, .func (PySem.W.fnOf "check_stage" "check_stage" (defArgs s_check_stage) (defBody s_check_stage) (defScope s_check_stage) .none kV1 dc1 pm1 an1 cd1 ct1), sl1⟩) (c1 : PySem.W.codeIn K cd1 "check_stage" = true) (k1 : PySem.W.keepIn K (.ref f1) = true)
    (a2 : PySem.W.nsIn K mainGlobals "rank_of" = some (some (.ref f2))) (l2 : K.lookup f2 = some ⟨oc2, od2, .func (PySem.W.fnOf "rank_of" "rank_of" (defArgs s_rank_of) (defBody s_rank_of) (defScope s_rank_of) .none kV2 dc2 pm2 an2 cd2 ct2), sl2⟩) (c2 : PySem.W.codeIn K cd2 "rank_of" = true) (k2 : PySem.W.keepIn K (.ref f2) = true)
    (a3 : PySem.W.nsIn K mainGlobals "row_of_rank" = some (some (.ref f3))) (l3 : K.lookup f3 = some ⟨oc3, od3, .func (PySem.W.fnOf "row_of_rank" "row_of_rank" (defArgs s_row_of_rank) (defBody s_row_of_rank) (defScope s_row_of_rank) .none kV3 dc3 pm3 an3 cd3 ct3), sl3⟩) (c3 : PySem.W.codeIn K cd3 "row_of_rank" = true) (k3 : PySem.W.keepIn K (.ref f3) = true)
    (a4 : PySem.W.nsIn K mainGlobals "_law_cell" = some (some (.ref f4))) (l4 : K.lookup f4 = some ⟨oc4, od4, .func (PySem.W.fnOf "_law_cell" "_law_cell" (defArgs s_law_cell) (defBody s_law_cell) (defScope s_law_cell) .none kV4 dc4 pm4 an4 cd4 ct4), sl4⟩) (c4 : PySem.W.codeIn K cd4 "_law_cell" = true) (k4 : PySem.W.keepIn K (.ref f4) = true)
    (a5 : PySem.W.nsIn K mainGlobals "_law_pool" = some (some (.ref f5))) (l5 : K.lookup f5 = some ⟨oc5, od5, .func (PySem.W.fnOf "_law_pool" "_law_pool" (defArgs s_law_pool) (defBody s_law_pool) (defScope s_law_pool) .none kV5 dc5 pm5 an5 cd5 ct5), sl5⟩) (c5 : PySem.W.codeIn K cd5 "_law_pool" = true) (k5 : PySem.W.keepIn K (.ref f5) = true)
    (a6 : PySem.W.nsIn K mainGlobals "_law_draw" = some (some (.ref f6))) (l6 : K.lookup f6 = some ⟨oc6, od6, .func (PySem.W.fnOf "_law_draw" "_law_draw" (defArgs s_law_draw) (defBody s_law_draw) (defScope s_law_draw) .none kV6 dc6 pm6 an6 cd6 ct6), sl6⟩) (c6 : PySem.W.codeIn K cd6 "_law_draw" = true) (k6 : PySem.W.keepIn K (.ref f6) = true)
    (a7 : PySem.W.nsIn K mainGlobals "_law_row_draw" = some (some (.ref f7))) (l7 : K.lookup f7 = some ⟨oc7, od7, .func (PySem.W.fnOf "_law_row_draw" "_law_row_draw" (defArgs s_law_row_draw) (defBody s_law_row_draw) (defScope s_law_row_draw) .none kV7 dc7 pm7 an7 cd7 ct7), sl7⟩) (c7 : PySem.W.codeIn K cd7 "_law_row_draw" = true) (k7 : PySem.W.keepIn K (.ref f7) = true)
    (a8 : PySem.W.nsIn K mainGlobals "_law_same" = some (some (.ref f8))) (l8 : K.lookup f8 = some ⟨oc8, od8, .func (PySem.W.fnOf "_law_same" "_law_same" (defArgs s_law_same) (defBody s_law_same) (defScope s_law_same) .none kV8 dc8 pm8 an8 cd8 ct8), sl8⟩) (c8 : PySem.W.codeIn K cd8 "_law_same" = true) (k8 : PySem.W.keepIn K (.ref f8) = true)
    (a9 : PySem.W.nsIn K mainGlobals "_law_factorial" = some (some (.ref f9))) (l9 : K.lookup f9 = some ⟨oc9, od9, .func (PySem.W.fnOf "_law_factorial" "_law_factorial" (defArgs s_law_factorial) (defBody s_law_factorial) (defScope s_law_factorial) .none kV9 dc9 pm9 an9 cd9 ct9), sl9⟩) (c9 : PySem.W.codeIn K cd9 "_law_factorial" = true) (k9 : PySem.W.keepIn K (.ref f9) = true)
    (a10 : PySem.W.nsIn K mainGlobals "_law_rank" = some (some (.ref f10))) (l10 : K.lookup f10 = some ⟨oc10, od10, .func (PySem.W.fnOf "_law_rank" "_law_rank" (defArgs s_law_rank) (defBody s_law_rank) (defScope s_law_rank) .none kV10 dc10 pm10 an10 cd10 ct10), sl10⟩) (c10 : PySem.W.codeIn K cd10 "_law_rank" = true) (k10 : PySem.W.keepIn K (.ref f10) = true)
    (a11 : PySem.W.nsIn K mainGlobals "_law_all_rows" = some (some (.ref f11))) (l11 : K.lookup f11 = some ⟨oc11, od11, .func (PySem.W.fnOf "_law_all_rows" "_law_all_rows" (defArgs s_law_all_rows) (defBody s_law_all_rows) (defScope s_law_all_rows) .none kV11 dc11 pm11 an11 cd11 ct11), sl11⟩) (c11 : PySem.W.codeIn K cd11 "_law_all_rows" = true) (k11 : PySem.W.keepIn K (.ref f11) = true)
    (a12 : PySem.W.nsIn K mainGlobals "_law_is_row_of" = some (some (.ref f12))) (l12 : K.lookup f12 = some ⟨oc12, od12, .func (PySem.W.fnOf "_law_is_row_of" "_law_is_row_of" (defArgs s_law_is_row_of) (defBody s_law_is_row_of) (defScope s_law_is_row_of) .none kV12 dc12 pm12 an12 cd12 ct12), sl12⟩) (c12 : PySem.W.codeIn K cd12 "_law_is_row_of" = true) (k12 : PySem.W.keepIn K (.ref f12) = true)
    (a13 : PySem.W.nsIn K mainGlobals "_law_refused" = some (some (.ref f13))) (l13 : K.lookup f13 = some ⟨oc13, od13, .func (PySem.W.fnOf "_law_refused" "_law_refused" (defArgs s_law_refused) (defBody s_law_refused) (defScope s_law_refused) .none kV13 dc13 pm13 an13 cd13 ct13), sl13⟩) (c13 : PySem.W.codeIn K cd13 "_law_refused" = true) (k13 : PySem.W.keepIn K (.ref f13) = true)
    (a14 : PySem.W.nsIn K mainGlobals "law" = some (some (.ref f14))) (l14 : K.lookup f14 = some ⟨oc14, od14, .func (PySem.W.fnOf "law" "law" (defArgs s_law) (defBody s_law) (defScope s_law) .none kV14 dc14 pm14 an14 cd14 ct14), sl14⟩) (c14 : PySem.W.codeIn K cd14 "law" = true) (k14 : PySem.W.keepIn K (.ref f14) = true)
    (z_ValueError : PySem.W.nsIn K mainGlobals "ValueError" = some none)
    (z_abs : PySem.W.nsIn K mainGlobals "abs" = some none)
    (z_bool : PySem.W.nsIn K mainGlobals "bool" = some none)
    (z_enumerate : PySem.W.nsIn K mainGlobals "enumerate" = some none)
    (z_int : PySem.W.nsIn K mainGlobals "int" = some none)
    (z_isinstance : PySem.W.nsIn K mainGlobals "isinstance" = some none)
    (z_len : PySem.W.nsIn K mainGlobals "len" = some none)
    (z_list : PySem.W.nsIn K mainGlobals "list" = some none)
    (z_range : PySem.W.nsIn K mainGlobals "range" = some none)
    (z_str : PySem.W.nsIn K mainGlobals "str" = some none)
    (z_tuple : PySem.W.nsIn K mainGlobals "tuple" = some none)
    (q_SIGNS : PySem.W.nsIn K mainGlobals "SIGNS" = some (some (.str "1234567890ET" t_SIGNS)))
    (e_ChamberError : PySem.W.nsIn K mainGlobals "ChamberError" = some (some (.ref C_ChamberError)))
    (e_BadStage : PySem.W.nsIn K mainGlobals "BadStage" = some (some (.ref C_BadStage)))
    (e_BadExponent : PySem.W.nsIn K mainGlobals "BadExponent" = some (some (.ref C_BadExponent)))
    (e_BadRank : PySem.W.nsIn K mainGlobals "BadRank" = some (some (.ref C_BadRank)))
    (xs : exsB K C_ChamberError [("ChamberError", C_ChamberError), ("BadStage", C_BadStage), ("BadExponent", C_BadExponent), ("BadRank", C_BadRank)] = true)
    (zsu : PySem.W.nsIn K mainGlobals "super" = some none) (tp : (l.prog.main.scope.names.lookup ("super" : Str)).isSome = false)
    (i1_ChamberError : PySem.W.findIn K (.ref C_ChamberError) "__init__" = some (some (.ref fI_ChamberError))) (i2_ChamberError : PySem.W.typeIn K (.ref fI_ChamberError) = some (.type "function"))
    (i3_ChamberError : K.lookup fI_ChamberError = some ⟨oc_ChamberError, od_ChamberError, .func (PySem.W.ksFn "__init__" "ChamberError.__init__" (defArgs i_ChamberError) (defBody i_ChamberError) (defScope i_ChamberError) .none kV_ChamberError dc_ChamberError pm_ChamberError an_ChamberError cd_ChamberError ct_ChamberError cc_ChamberError), sl_ChamberError⟩)
    (i4_ChamberError : PySem.W.codeIn K cd_ChamberError "ChamberError.__init__" = true) (i5_ChamberError : K.lookup cc_ChamberError = some ⟨cl_ChamberError, cld_ChamberError, .cell (some (.ref C_ChamberError)), csl_ChamberError⟩) (i6_ChamberError : fileB K cd_ChamberError l.prog.main.file = true)
    (i1_BadStage : PySem.W.findIn K (.ref C_BadStage) "__init__" = some (some (.ref fI_BadStage))) (i2_BadStage : PySem.W.typeIn K (.ref fI_BadStage) = some (.type "function"))
    (i3_BadStage : K.lookup fI_BadStage = some ⟨oc_BadStage, od_BadStage, .func (PySem.W.ksFn "__init__" "BadStage.__init__" (defArgs i_BadStage) (defBody i_BadStage) (defScope i_BadStage) .none kV_BadStage dc_BadStage pm_BadStage an_BadStage cd_BadStage ct_BadStage cc_BadStage), sl_BadStage⟩)
    (i4_BadStage : PySem.W.codeIn K cd_BadStage "BadStage.__init__" = true) (i5_BadStage : K.lookup cc_BadStage = some ⟨cl_BadStage, cld_BadStage, .cell (some (.ref C_BadStage)), csl_BadStage⟩) (i6_BadStage : fileB K cd_BadStage l.prog.main.file = true)
    (i7_BadStage : PySem.W.ks_superIn K C_BadStage C_BadStage "__init__" = some (some (.ref fI_ChamberError))) (i8_BadStage : PySem.W.mroIn K C_BadStage (.ref C_BadStage) = some true)
    (i1_BadRank : PySem.W.findIn K (.ref C_BadRank) "__init__" = some (some (.ref fI_BadRank))) (i2_BadRank : PySem.W.typeIn K (.ref fI_BadRank) = some (.type "function"))
    (i3_BadRank : K.lookup fI_BadRank = some ⟨oc_BadRank, od_BadRank, .func (PySem.W.ksFn "__init__" "BadRank.__init__" (defArgs i_BadRank) (defBody i_BadRank) (defScope i_BadRank) .none kV_BadRank dc_BadRank pm_BadRank an_BadRank cd_BadRank ct_BadRank cc_BadRank), sl_BadRank⟩)
    (i4_BadRank : PySem.W.codeIn K cd_BadRank "BadRank.__init__" = true) (i5_BadRank : K.lookup cc_BadRank = some ⟨cl_BadRank, cld_BadRank, .cell (some (.ref C_BadRank)), csl_BadRank⟩) (i6_BadRank : fileB K cd_BadRank l.prog.main.file = true)
    (i7_BadRank : PySem.W.ks_superIn K C_BadRank C_BadRank "__init__" = some (some (.ref fI_ChamberError))) (i8_BadRank : PySem.W.mroIn K C_BadRank (.ref C_BadRank) = some true)
    (kf : PySem.W.fnIn K fI_ChamberError = true)
    : ∃ fd : FuncData, (∀ (s : Shared) (v : Value), BindsTo s fd ⟨[v], []⟩ [("script", v)]) ∧ ∀ base : Heap, K.In base → base.Ns mainGlobals mg → FnOk l.prog w K mg base CX0 7 fa fd ["script"] (sp_law K) := by
  have e := hfa.symm.trans (PySem.W.mg_of X G a14)
  cases e
  have B : Bn mg := ⟨PySem.W.mg_none_of X G z_ValueError, PySem.W.mg_none_of X G z_abs, PySem.W.mg_none_of X G z_bool, PySem.W.mg_none_of X G z_enumerate, PySem.W.mg_none_of X G z_int, PySem.W.mg_none_of X G z_isinstance, PySem.W.mg_none_of X G z_len, PySem.W.mg_none_of X G z_list, PySem.W.mg_none_of X G z_range, PySem.W.mg_none_of X G z_str, PySem.W.mg_none_of X G z_tuple, ⟨_, PySem.W.mg_of X G q_SIGNS⟩⟩
  have D1 : At K mg "check_stage" s_check_stage := ⟨_, _, fun_mk (st := s_check_stage) l1 c1 k1, PySem.W.mg_of X G a1⟩
  have D2 : At K mg "rank_of" s_rank_of := ⟨_, _, fun_mk (st := s_rank_of) l2 c2 k2, PySem.W.mg_of X G a2⟩
  have D3 : At K mg "row_of_rank" s_row_of_rank := ⟨_, _, fun_mk (st := s_row_of_rank) l3 c3 k3, PySem.W.mg_of X G a3⟩
  have D4 : At K mg "_law_cell" s_law_cell := ⟨_, _, fun_mk (st := s_law_cell) l4 c4 k4, PySem.W.mg_of X G a4⟩
  have D5 : At K mg "_law_pool" s_law_pool := ⟨_, _, fun_mk (st := s_law_pool) l5 c5 k5, PySem.W.mg_of X G a5⟩
  have D6 : At K mg "_law_draw" s_law_draw := ⟨_, _, fun_mk (st := s_law_draw) l6 c6 k6, PySem.W.mg_of X G a6⟩
  have D7 : At K mg "_law_row_draw" s_law_row_draw := ⟨_, _, fun_mk (st := s_law_row_draw) l7 c7 k7, PySem.W.mg_of X G a7⟩
  have D8 : At K mg "_law_same" s_law_same := ⟨_, _, fun_mk (st := s_law_same) l8 c8 k8, PySem.W.mg_of X G a8⟩
  have D9 : At K mg "_law_factorial" s_law_factorial := ⟨_, _, fun_mk (st := s_law_factorial) l9 c9 k9, PySem.W.mg_of X G a9⟩
  have D10 : At K mg "_law_rank" s_law_rank := ⟨_, _, fun_mk (st := s_law_rank) l10 c10 k10, PySem.W.mg_of X G a10⟩
  have D11 : At K mg "_law_all_rows" s_law_all_rows := ⟨_, _, fun_mk (st := s_law_all_rows) l11 c11 k11, PySem.W.mg_of X G a11⟩
  have D12 : At K mg "_law_is_row_of" s_law_is_row_of := ⟨_, _, fun_mk (st := s_law_is_row_of) l12 c12 k12, PySem.W.mg_of X G a12⟩
  have D13 : At K mg "_law_refused" s_law_refused := ⟨_, _, fun_mk (st := s_law_refused) l13 c13 k13, PySem.W.mg_of X G a13⟩
  have D14 : At K mg "law" s_law := ⟨_, _, fun_mk (st := s_law) l14 c14 k14, PySem.W.mg_of X G a14⟩
  have FL := fun_mk (st := s_law) l14 c14 k14
  have M_ChamberError : mg "ChamberError" = some (.ref C_ChamberError) := PySem.W.mg_of X G e_ChamberError
  have M_BadStage : mg "BadStage" = some (.ref C_BadStage) := PySem.W.mg_of X G e_BadStage
  have M_BadExponent : mg "BadExponent" = some (.ref C_BadExponent) := PySem.W.mg_of X G e_BadExponent
  have M_BadRank : mg "BadRank" = some (.ref C_BadRank) := PySem.W.mg_of X G e_BadRank
  have XS : Exs K (ecOf mg) XN := exs_of (l := [("ChamberError", C_ChamberError), ("BadStage", C_BadStage), ("BadExponent", C_BadExponent), ("BadRank", C_BadRank)]) M_ChamberError (by simp only [List.forall_mem_cons]; exact ⟨M_ChamberError, M_BadStage, M_BadExponent, M_BadRank, fun _ h => nomatch h⟩) xs
  have EX : ExAt mg (ecOf mg) XN := by
    unfold ExAt
    simp only [XN, List.forall_mem_cons]
    exact ⟨by rw [ecOf_at M_ChamberError]; exact M_ChamberError, by rw [ecOf_at M_BadStage]; exact M_BadStage, by rw [ecOf_at M_BadExponent]; exact M_BadExponent, by rw [ecOf_at M_BadRank]; exact M_BadRank, fun _ h => nomatch h⟩
  have BC_ChamberError : Bad K C_ChamberError C_ChamberError := by have z := XS.bad "ChamberError" (by decide); simp only [ecOf_at M_ChamberError, ecOf_at M_ChamberError] at z; exact z
  have BC_BadStage : Bad K C_BadStage C_ChamberError := by have z := XS.bad "BadStage" (by decide); simp only [ecOf_at M_BadStage, ecOf_at M_ChamberError] at z; exact z
  have BC_BadExponent : Bad K C_BadExponent C_ChamberError := by have z := XS.bad "BadExponent" (by decide); simp only [ecOf_at M_BadExponent, ecOf_at M_ChamberError] at z; exact z
  have BC_BadRank : Bad K C_BadRank C_ChamberError := by have z := XS.bad "BadRank" (by decide); simp only [ecOf_at M_BadRank, ecOf_at M_ChamberError] at z; exact z
  refine ⟨PySem.W.fnOf "law" "law" (defArgs s_law) (defBody s_law) (defScope s_law) .none kV14 dc14 pm14 an14 cd14 ct14, fun s v => .of_eq rfl, fun base _ _ => ?_⟩
  have FC := ok_CE (w := w) (base := base) (D := C_ChamberError) (S := (⟨⟨_, _, _, _, _, _, _, _, _, _, _, _, _, _, rfl, i3_ChamberError, i4_ChamberError, i5_ChamberError, i6_ChamberError⟩, ⟨rfl, rfl, rfl, by decide +kernel, rfl, by decide +kernel, by decide +kernel, by decide +kernel⟩, rfl, rfl, rfl, ⟨_, rfl, rfl⟩, PySem.W.mg_none_of X G zsu, tp, BC_ChamberError.cls⟩ : SupI l.prog K mg "ChamberError.__init__" i_ChamberError C_ChamberError ["self", "word"] fI_ChamberError _)) rfl ⟨_, fun _ => rfl⟩ rfl
  have BCE : Binds K _ ["self", "word"] [] := Binds.all (fd := PySem.W.ksFn "__init__" "ChamberError.__init__" (defArgs i_ChamberError) (defBody i_ChamberError) (defScope i_ChamberError) .none kV_ChamberError dc_ChamberError pm_ChamberError an_ChamberError cd_ChamberError ct_ChamberError cc_ChamberError) fun us hl => match us, hl with | [_, _], _ => rfl
  have Z_BadRank : Rz0 l.prog w K mg base "BadRank" (ecOf mg "BadRank") := by
    rw [ecOf_at M_BadRank]
    exact ⟨⟨_, _, i1_BadRank, i2_BadRank, ok_B0 (w := w) (base := base) (nm := "BadRank") (S := (⟨⟨_, _, _, _, _, _, _, _, _, _, _, _, _, _, rfl, i3_BadRank, i4_BadRank, i5_BadRank, i6_BadRank⟩, ⟨rfl, rfl, rfl, by decide +kernel, rfl, by decide +kernel, by decide +kernel, by decide +kernel⟩, rfl, rfl, rfl, ⟨_, rfl, rfl⟩, PySem.W.mg_none_of X G zsu, tp, BC_BadRank.cls⟩ : SupI l.prog K mg "BadRank.__init__" i_BadRank C_BadRank ["self"] fI_BadRank _)) rfl ⟨_, fun _ => rfl⟩ FC BCE BC_BadRank i8_BadRank i7_BadRank i2_ChamberError kf, Binds.all fun us hl => match us, hl with | [_], _ => rfl⟩, BC_BadRank.ox, M_BadRank⟩
  have Z_BadStage : Rz0 l.prog w K mg base "BadStage" (ecOf mg "BadStage") := by
    rw [ecOf_at M_BadStage]
    exact ⟨⟨_, _, i1_BadStage, i2_BadStage, ok_B0 (w := w) (base := base) (nm := "BadStage") (S := (⟨⟨_, _, _, _, _, _, _, _, _, _, _, _, _, _, rfl, i3_BadStage, i4_BadStage, i5_BadStage, i6_BadStage⟩, ⟨rfl, rfl, rfl, by decide +kernel, rfl, by decide +kernel, by decide +kernel, by decide +kernel⟩, rfl, rfl, rfl, ⟨_, rfl, rfl⟩, PySem.W.mg_none_of X G zsu, tp, BC_BadStage.cls⟩ : SupI l.prog K mg "BadStage.__init__" i_BadStage C_BadStage ["self"] fI_BadStage _)) rfl ⟨_, fun _ => rfl⟩ FC BCE BC_BadStage i8_BadStage i7_BadStage i2_ChamberError kf, Binds.all fun us hl => match us, hl with | [_], _ => rfl⟩, BC_BadStage.ox, M_BadStage⟩
  have G1 := ok_check_stage (P := l.prog) (w := w) (base := base) D1 B XS EX Z_BadStage
  have G2 := ok_rank_of (P := l.prog) (w := w) (base := base) D2 B
  have G3 := ok_row_of_rank (P := l.prog) (w := w) (base := base) D3 B XS EX G1 Z_BadRank
  have G4 := ok_law_cell (P := l.prog) (w := w) (base := base) D4 B
  have G5 := ok_law_pool (P := l.prog) (w := w) (base := base) D5 B G4
  have G6 := ok_law_draw (P := l.prog) (w := w) (base := base) D6 B
  have G7 := ok_law_row_draw (P := l.prog) (w := w) (base := base) D7 B G6
  have G8 := ok_law_same (P := l.prog) (w := w) (base := base) D8 B
  have G9 := ok_law_factorial (P := l.prog) (w := w) (base := base) D9 B
  have G10 := ok_law_rank (P := l.prog) (w := w) (base := base) D10 B G9
  have G11 := ok_law_all_rows (P := l.prog) (w := w) (base := base) D11 B
  have G12 := ok_law_is_row_of (P := l.prog) (w := w) (base := base) D12 B
  have G13 := ok_law_refused (P := l.prog) (w := w) (base := base) D13 B XS EX G3
  exact ok_lawF FL B XS EX G5 G6 G7 G10 G8 G2 G3 G9 G12 G11 G13
end Kb
open PySem PySem.W PyProof.Rows
set_option maxRecDepth 100000 in
set_option maxHeartbeats 0 in
theorem PySem.Challenge.cw_ringingchamber_k04_ranks_of_rows_holds : PySem.Challenge.rw_ringingchamber_k04_ranks_of_rows.Holds := by
  w_on; o_law; k_head; (case hw => w_witness2)
  k_fill
  refine L2.walk_of (l := PySem.Challenge.rw_ringingchamber_k04_ranks_of_rows) (n := 63) (k := 7) (x := "script") (CX := fun _ => L2.CX0) (sp := fun w => Kb.sp_law _) rfl (by decide) rfl ⟨rfl, by decide, by decide⟩ (fun w h Y => PySem.W.kIn_of Y) ?F (fun _ _ a ns hl _ hS => ⟨a, ns, rfl, hS, hl, fun _ => rfl⟩) (fun _ _ _ _ _ h => h)
  case F =>
    intro w mg fa h KX G hmg
    refine' Kb.all_mk KX G hmg ?a1 ?l1 ?c1 ?k1 ?a2 ?l2 ?c2 ?k2 ?a3 ?l3 ?c3 ?k3 ?a4 ?l4 ?c4 ?k4 ?a5 ?l5 ?c5 ?k5 ?a6 ?l6 ?c6 ?k6 ?a7 ?l7 ?c7 ?k7 ?a8 ?l8 ?c8 ?k8 ?a9 ?l9 ?c9 ?k9 ?a10 ?l10 ?c10 ?k10 ?a11 ?l11 ?c11 ?k11 ?a12 ?l12 ?c12 ?k12 ?a13 ?l13 ?c13 ?k13 ?a14 ?l14 ?c14 ?k14 ?z_ValueError ?z_abs ?z_bool ?z_enumerate ?z_int ?z_isinstance ?z_len ?z_list ?z_range ?z_str ?z_tuple ?q_SIGNS ?e_ChamberError ?e_BadStage ?e_BadExponent ?e_BadRank ?xs ?zsu ?tp ?i1_ChamberError ?i2_ChamberError ?i3_ChamberError ?i4_ChamberError ?i5_ChamberError ?i6_ChamberError ?i1_BadStage ?i2_BadStage ?i3_BadStage ?i4_BadStage ?i5_BadStage ?i6_BadStage ?i7_BadStage ?i8_BadStage ?i1_BadRank ?i2_BadRank ?i3_BadRank ?i4_BadRank ?i5_BadRank ?i6_BadRank ?i7_BadRank ?i8_BadRank ?kf
    (case a1 => k_is); (case l1 => k_is); (case c1 => k_is); (case k1 => k_is); (case a2 => k_is); (case l2 => k_is); (case c2 => k_is); (case k2 => k_is); (case a3 => k_is); (case l3 => k_is); (case c3 => k_is); (case k3 => k_is); (case a4 => k_is); (case l4 => k_is); (case c4 => k_is); (case k4 => k_is); (case a5 => k_is); (case l5 => k_is); (case c5 => k_is); (case k5 => k_is); (case a6 => k_is); (case l6 => k_is); (case c6 => k_is); (case k6 => k_is); (case a7 => k_is); (case l7 => k_is); (case c7 => k_is); (case k7 => k_is); (case a8 => k_is); (case l8 => k_is); (case c8 => k_is); (case k8 => k_is); (case a9 => k_is); (case l9 => k_is); (case c9 => k_is); (case k9 => k_is); (case a10 => k_is); (case l10 => k_is); (case c10 => k_is); (case k10 => k_is); (case a11 => k_is); (case l11 => k_is); (case c11 => k_is); (case k11 => k_is); (case a12 => k_is); (case l12 => k_is); (case c12 => k_is); (case k12 => k_is); (case a13 => k_is); (case l13 => k_is); (case c13 => k_is); (case k13 => k_is); (case a14 => k_is); (case l14 => k_is); (case c14 => k_is); (case k14 => k_is); (case z_ValueError => k_is); (case z_abs => k_is); (case z_bool => k_is); (case z_enumerate => k_is); (case z_int => k_is); (case z_isinstance => k_is); (case z_len => k_is); (case z_list => k_is); (case z_range => k_is); (case z_str => k_is); (case z_tuple => k_is); (case q_SIGNS => k_is); (case e_ChamberError => k_is); (case e_BadStage => k_is); (case e_BadExponent => k_is); (case e_BadRank => k_is); (case xs => kernel_rfl); (case zsu => k_is); (case tp => decide +kernel); (case i1_ChamberError => k_is); (case i2_ChamberError => k_is); (case i3_ChamberError => k_is); (case i4_ChamberError => k_is); (case i5_ChamberError => k_is); (case i6_ChamberError => kernel_rfl); (case i1_BadStage => k_is); (case i2_BadStage => k_is); (case i3_BadStage => k_is); (case i4_BadStage => k_is); (case i5_BadStage => k_is); (case i6_BadStage => kernel_rfl); (case i7_BadStage => kernel_rfl); (case i8_BadStage => k_is); (case i1_BadRank => k_is); (case i2_BadRank => k_is); (case i3_BadRank => k_is); (case i4_BadRank => k_is); (case i5_BadRank => k_is); (case i6_BadRank => kernel_rfl); (case i7_BadRank => kernel_rfl); (case i8_BadRank => k_is); (case kf => k_is)


