import PyProof.Rows.All
import Wide.All
import OpenK.AllK
import Wide.FinOn
import HandS.ForMost
import HandS.Conv
import HandS.IsInst
import HandS.Wide
import HandS.TupAny
import HandS.TupLe
import HandS.TupMul
import KE.KExcSuper
import KE.KExcIs
import HandS.Exc
import HandS.ExcInit
import HandS.ExcField
import HandS.ExcIs
import HandS.WordsExc
import KE.GoesEnumKw
import HandS.Iter
import HandS.Strs
import HandS.SetFor
import HandS.List
import KE.LtData
import HandS.Style
import PyProof.MinMaxWalk
import PyProof.WalkInts
import PyProof.Rows.CallKwBuiltin
import HandS.Dict
import HandS.Walk
import PySem.Challenge.RW_ringingchamber_k44_sums_of_lengths
set_option Elab.async false
set_option linter.all false
set_option maxRecDepth 100000
/-! KbA: operators that take any kind, one reading a construct; the step lemmas of a reading. -/
namespace Kb
open PySem PySem.Spec PyProof.Rows L2

/-! ### operators over several kinds of values -/
section
variable {X : Cx}
def rAddU (K : PySem.W.Frag) : R2 := fun x y H Q => rI0 (fun i j => .int (i + j)) x y H Q ∨
  ((fun x y H Q => ∃ i j, x = V.str i ∧ y = V.str j ∧ i.length + j.length ≤ sizeLine ∧ Q (V.str (i ++ j)) H) x y H Q ∨ (rCat x y H Q ∨ rCatA K x y H Q))
theorem op_addU : OpR X (binaryOp .Add) (rAddU X.K) := OpR.or op_add (OpR.or op_add_str (OpR.or op_cat op_catA))
def rMulU (K : PySem.W.Frag) : R2 := fun x y H Q => rI CMul (fun i j => .int (i * j)) x y H Q ∨ (rI CMulW (fun i j => .int (i * j)) x y H Q ∨ (rRep x y H Q ∨ rRepT K x y H Q))
theorem op_mulU : OpR X (binaryOp .Mult) (rMulU X.K) := OpR.or op_mul (OpR.or op_mulW (OpR.or op_rep op_repT))
def rFdivU : R2 := rI CDivW (fun i j => .int (i / j))
theorem op_fdivU : OpR X (binaryOp .FloorDiv) rFdivU := op_fdivW
def rModU : R2 := rI (fun _ j => 0 < j) (fun i j => .int (i % j))
theorem op_modU : OpR X (binaryOp .Mod) rModU := op_mod
def rSubU : R2 := rI0 (fun i j => .int (i - j))
theorem op_subU : OpR X (binaryOp .Sub) rSubU := op_sub
def rPowU : R2 := rI CPow (fun i j => .int (i ^ j.toNat))
theorem op_powU : OpR X (binaryOp .Pow) rPowU := op_pow
def rEqU (K : PySem.W.Frag) : R2 := fun x y H Q => rEq x y H Q ∨ rEqD K x y H Q
theorem op_eqU (hu : X.A.units + 64 < cLine) : OpR X (compareOp .Eq) (rEqU X.K) := OpR.or op_eq (op_eqD hu)
def rNeU (K : PySem.W.Frag) : R2 := fun x y H Q => rNe x y H Q ∨ rNeD K x y H Q
theorem op_neU (hu : X.A.units + 64 < cLine) : OpR X (compareOp .NotEq) (rNeU X.K) := OpR.or op_ne (op_neD hu)
def rLtU (K : PySem.W.Frag) : R2 := fun x y H Q => rI0 (fun i j => .bl (decide (i < j))) x y H Q ∨
  ((fun x y H Q => ∃ i j, x = V.str i ∧ y = V.str j ∧ Q (V.bl (decide (i.cps.toList < j.cps.toList))) H) x y H Q ∨ rLtT K x y H Q)
theorem op_ltU (hu : X.A.units + 64 < cLine) : OpR X (compareOp .Lt) (rLtU X.K) := OpR.or op_lt (OpR.or op_lt_str (op_ltT (by omega)))
def rLeU (K : PySem.W.Frag) : R2 := fun x y H Q => rI0 (fun i j => .bl (decide (i ≤ j))) x y H Q ∨
  ((fun x y H Q => ∃ i j, x = V.str i ∧ y = V.str j ∧ Q (V.bl (!decide (j.cps.toList < i.cps.toList))) H) x y H Q ∨ rLeT K x y H Q)
theorem op_leU (hu : X.A.units + 64 < cLine) : OpR X (compareOp .LtE) (rLeU X.K) := OpR.or op_le (OpR.or op_le_str (op_leT (by omega)))
def rGtU : R2 := fun x y H Q => rI0 (fun i j => .bl (decide (j < i))) x y H Q ∨
  (fun x y H Q => ∃ i j, x = V.str i ∧ y = V.str j ∧ Q (V.bl (decide (j.cps.toList < i.cps.toList))) H) x y H Q
theorem op_gtU : OpR X (compareOp .Gt) rGtU := OpR.or op_gt op_gt_str
def rGeU : R2 := fun x y H Q => rI0 (fun i j => .bl (decide (j ≤ i))) x y H Q ∨
  (fun x y H Q => ∃ i j, x = V.str i ∧ y = V.str j ∧ Q (V.bl (!decide (i.cps.toList < j.cps.toList))) H) x y H Q
theorem op_geU : OpR X (compareOp .GtE) rGeU := OpR.or op_ge op_ge_str
def rInU (K : PySem.W.Frag) : R2 := fun x y H Q => rIn K false x y H Q ∨
  (fun x y H Q => ∃ (c : Nat) (z : Str), x = V.str ⟨#[c]⟩ ∧ y = V.str z ∧ Q (V.bl (decide (c ∈ z.cps.toList))) H) x y H Q
theorem op_inU : OpR X (compareOp .In) (rInU X.K) := OpR.or op_in_seq op_in_sign
def rNotInU (K : PySem.W.Frag) : R2 := fun x y H Q => rIn K true x y H Q ∨
  (fun x y H Q => ∃ (c : Nat) (z : Str), x = V.str ⟨#[c]⟩ ∧ y = V.str z ∧ Q (V.bl (!decide (c ∈ z.cps.toList))) H) x y H Q
theorem op_notInU : OpR X (compareOp .NotIn) (rNotInU X.K) := OpR.or op_notIn_seq op_notIn_sign
def rIsNU : R2 := fun x y H Q => y = V.non ∧ Q (V.bl (decide (x = V.non))) H
theorem op_isNU : OpR X (compareOp .Is) rIsNU := op_isN
def rNotNU : R2 := fun x y H Q => y = V.non ∧ Q (V.bl (!decide (x = V.non))) H
theorem op_notNU : OpR X (compareOp .IsNot) rNotNU := op_notN
def rSlU (K : PySem.W.Frag) : V → Option Int → Option Int → Hp → VK → Prop := fun x lo hi H Q => rSlL K x lo hi H Q ∨ (rSlA K x lo hi H Q ∨ rSlS x lo hi H Q)
theorem sl_U : SlR X (rSlU X.K) := SlR.or sl_list (SlR.or sl_tupA sl_str)
def rLenU (K : PySem.W.Frag) : List V → Hp → VK → Prop := fun xs H Q => (fun xs H Q => ∃ p ys, xs = [V.ref p] ∧ (SqL K H p ys ∨ SqT K H p ys) ∧ Q (V.int ys.length) H) xs H Q ∨
  ((fun xs H Q => ∃ z, xs = [V.str z] ∧ z.length ≤ sizeLine ∧ Q (V.int z.length) H) xs H Q ∨ (fun xs H Q => ∃ a kvs, xs = [V.ref a] ∧ H a = some (.dK kvs) ∧ Q (.int kvs.length) H) xs H Q)
theorem call_lenU : CallR X (.builtin "len") (rLenU X.K) := CallR.or call_len_seq (CallR.or call_len_str call_lenD)
def rIntU : List V → Hp → VK → Prop := fun xs H Q => ∃ i, xs = [V.int i] ∧ Q (V.int i) H
theorem call_intU : CallR X (.type "int") rIntU := fun pins s σ H xs us Q I r h => call_int1 pins s σ H xs us Q I r (.inl h)
def rAbsU : List V → Hp → VK → Prop := fun xs H Q => ∃ i, xs = [V.int i] ∧ Q (V.int (if i < 0 then -i else i)) H
theorem call_absU : CallR X (.builtin "abs") rAbsU := call_abs
def rListU (K : PySem.W.Frag) : List V → Hp → VK → Prop := fun xs H Q => ∃ p ys, xs = [V.ref p] ∧ (SqL K H p ys ∨ SqT K H p ys) ∧ ∀ l, H l = none → Q (V.ref l) (upd H l (.lst ys))
theorem call_listU : CallR X (.type "list") (rListU X.K) := call_list_of
theorem PI.or {tg e : Expr} {w1 w2 : TI} (h1 : PI X tg e w1) (h2 : PI X tg e w2) : PI X tg e (fun σ H R => w1 σ H R ∨ w2 σ H R) := by
  refine ⟨fun pins s σ H R I h => ?_⟩
  rcases h with h | h
  · exact h1.run pins s σ H R I h
  · exact h2.run pins s σ H R I h
def iSeqU (K : PySem.W.Frag) (te : TE) : TI := fun σ H R => iList K te σ H R ∨ (iTup K te σ H R ∨ iStr te σ H R)
theorem pi_seqU {tg e : Expr} {te : TE} (he : PE X e te) : PI X tg e (iSeqU X.K te) := PI.or (pi_list he) (PI.or (pi_tup he) (pi_str he))
def tTru (K : PySem.W.Frag) (ta : TE) : TT := fun σ H Q => ta σ H fun x H' => ∃ k, TruV K x H' k ∧ Q k H'
theorem pt_truU {a : Expr} {ta : TE} (h : PE X a ta) (hq : ∀ whole, isTrue a X.env whole = (do let v ← whole; standAt a.pos; holding [v] (truthy v))) : PT X a (tTru X.K ta) := pt_truth h hq
/-- a tuple that tuple(..) has made: the object is told, it has no dict (a method may be asked of it) -/
def kTupD (K : PySem.W.Frag) (x : V) (H : Hp) (Q : VK) : Prop :=
  (∃ p xs, x = .ref p ∧ SqL K H p xs ∧ ∀ (q : Addr) (o : Obj), H q = none → o.dict = none → Q (.ref q) (upd H q (.frz o (.tup xs)))) ∨ (∃ p xs, x = .ref p ∧ SqT K H p xs ∧ Q (.ref p) H)
theorem rl_tupD (pins : List (Addr × Obj)) (s : Shared) (σ : L2.St) (H : Hp) (x : V) (v : Value) (Q : VK) (I : Inv X pins σ H s) (r : RelV x v) (h : kTupD X.K x H Q) :
    wpAny (model X.prog X.w) X.A (call (.type "tuple") [v]) (EP X pins σ Q) X.xe s := by
  rcases h with ⟨p, xs, rfl, hs, q⟩ | ⟨p, xs, rfl, hs, q⟩
  · obtain rfl : v = .ref p := r
    obtain ⟨its, rv, pl, hz⟩ := I.list hs
    refine call_tuple_list pl.isList (fun h' hk => ?_) (by rw [List.size_toArray, ← rv.length]; exact hz)
    have I1 : Inv X pins σ H { s with heap := h' } := I.kept (t' := s.toks) hk
    have I2 : Inv X pins σ (upd H h'.objs.size (.frz { cls := .type "tuple", data := .seq its.toArray } (.tup xs))) { s with heap := h'.push { cls := .type "tuple", data := .seq its.toArray } } :=
      I1.laid (t' := s.toks) (fun b o e => Heap.get?_push_of_some _ e) (Nat.le_refl _) (show ObjOk X.prog X.w _ _ _ (.frz _ (.tup xs)) from ⟨Heap.get?_push_size _ rfl, hz, its, rv, IsTup.new _ _⟩)
    exact ⟨.ref h'.objs.size, _, I2, rfl, q _ _ (I1.hok.fresh (Nat.le_refl _)) rfl⟩
  · obtain rfl : v = .ref p := r
    obtain ⟨its, rv, pl, hz⟩ := I.tuple hs
    exact call_tuple_tup pl ⟨.ref p, H, I, rfl, q⟩
theorem pe_tupD {a : Expr} {ta : TE} {p pos : Pos} (hg : Gl X "tuple") (hm : X.mg "tuple" = none) (ha : PE X a ta) (na : starEach [a] X.env = (false, eval a X.env) :: starEach [] X.env := by rfl) :
    PE X (.Call (.Name "tuple" p) [a] [] pos) (tThen ta (kTupD X.K)) := by
  refine ⟨fun pins s σ H Q I h => ?_⟩
  exact Call_ (ld_blt I hg hm boot_tuple (PyProof.Rows.callWith_type1 (one_arg ha I h (fun v s2 x H2 I2 r q => rl_tupD pins s2 σ H2 x v Q I2 r q) na) na))
/-- the object at p is told and has no dict -/
def NoD (H : Hp) (p : Addr) : Prop := ∃ (o : Obj) (u : HO), H p = some (.frz o u) ∧ o.dict = none
def tBMT (K : PySem.W.Frag) (r : V → List V → Hp → VK → Prop) (to : TE) (t : TA) : TE := fun σ H Q => to σ H fun x H1 => (∃ p xs, x = .ref p ∧ SqT K H1 p xs ∧ NoD H1 p) ∧ t σ H1 fun xs H2 => r x xs H2 Q
theorem pe_bmT {o e : Expr} {es : List Expr} {to : TE} {t : TA} {name : Str} {apos cpos : Pos} {id : String} {r : V → List V → Hp → VK → Prop} (slot : Slot "tuple" name id) (hty : typeOf (.builtin id) = pure (.type "method_descriptor")) (hm : MtR X id r) (ho : PE X o to) (ha : PA X (e :: es) t)
    (hbase : attributeBase o name X.env (eval o X.env) = eval o X.env := by rfl)
    (hfew : ((backTo cpos (starEach (e :: es) X.env)).all (fun x => !x.1) && (backToKw cpos (keywordEach [] X.env)).all (fun x => x.1.isSome)
      && decide ((e :: es).length + ([] : List Keyword).length + (if ([] : List Keyword).isEmpty then 0 else 1) < 30)) = true := by rfl)
    (hline : (apos.endLine == cpos.line) = true := by rfl) (hs : starEach (e :: es) X.env = (false, eval e X.env) :: starEach es X.env := by rfl) (hplain : (backTo cpos (starEach es X.env)).any (·.1) = false := by rfl) :
    PE X (.Call (.Attribute o name apos) (e :: es) [] cpos) (tBMT X.K r to t) := by
  refine ⟨fun pins s σ H Q I h => ?_⟩
  refine wpAny_Call_method_late hbase hfew hline rfl (thn (ho.run pins s σ H _ I h) fun v s1 ⟨x, H1, I1, r1, ⟨p, xs, ex, hq, oo, uu, hp, hd⟩, q1⟩ => ?_)
  subst ex
  obtain rfl : v = Value.ref p := r1
  obtain ⟨its, rv, ⟨o1, e1, c1, _⟩, hz⟩ := I1.tuple hq
  have hok : ObjOk X.prog X.w H1 s1.heap p (.frz oo uu) := I1.hok p _ hp
  refine ⟨"tuple", id, PySem.F.plainAttrs_tuple, slot, hty, ⟨o1, e1, c1⟩, fun a ea => ?_, ?_⟩
  · cases ea
    exact ⟨oo, hok.1, hd⟩
  have hA := ha.run cpos pins s1 σ H1 _ I1 q1
  rw [hs] at hA ⊢
  refine Calls.callWith_builtin (by show (false || (backTo cpos (starEach es X.env)).any (·.1)) = false; rw [hplain] <;> rfl) (Calls.evalArgs_plain ?_)
  exact thn hA fun us s2 ⟨vs, H2, I2, r2, q2⟩ => hm pins s2 σ H2 (.ref p) vs (.ref p) us Q I2 rfl r2 q2
end
end Kb

set_option Elab.async false
set_option linter.all false
set_option maxRecDepth 100000
/-! KbB: defs by name; heaps; the step lemmas of readings; the tactic rd. -/
namespace Kb
open PySem PySem.Spec PyProof.Rows L2

/-! ### defs by name -/
structure Fn (P : Program) (w : World) (K : PySem.W.Frag) (mg : Str → Option Value) (base : Heap) (CX : CXT) (k : Nat) (x : Str) (ps : List Str) (sp : Sp) : Prop where
  ex : ∃ f fd, FnOk P w K mg base CX k f fd ps sp ∧ mg x = some (.ref f) ∧ PySem.W.keepIn K (.ref f) = true ∧ Binds K fd ps []
def At (K : PySem.W.Frag) (mg : Str → Option Value) (x : Str) (st : Stmt) : Prop := ∃ f fd, Fun K x x st f fd ∧ mg x = some (.ref f)
section
variable {X : Cx} {CX : CXT} {k : Nat} {ps : List Str} {sp : Sp} {E : XK} {x : Str} {p pos : Pos} {e : Expr} {es : List Expr} {t : TA}
theorem Fn.mk' {P : Program} {w : World} {K : PySem.W.Frag} {mg : Str → Option Value} {base : Heap} {f : Addr} {fd : FuncData} (F : FnOk P w K mg base CX k f fd ps sp) (hm : mg x = some (.ref f)) (hk : PySem.W.keepIn K (.ref f) = true) (hb : Binds K fd ps []) : Fn P w K mg base CX k x ps sp := ⟨f, fd, F, hm, hk, hb⟩
theorem pe_callF (G : Fn X.prog X.w X.K X.mg X.base CX k x ps sp) (hr : Room k X.A) (hg : Gl X x) (hx : Passes CX X E) (ha : PA X (e :: es) t) (hdb : (x == ("__debug__" : Str)) = false := by decide)
    (he : starEach (e :: es) X.env = (false, eval e X.env) :: starEach es X.env := by rfl) (hpl : (backTo pos (starEach es X.env)).any (·.1) = false := by rfl) : PE X (.Call (.Name x p) (e :: es) [] pos) (tCall sp [] E t) := by
  obtain ⟨f, fd, F, hm, hk, hb⟩ := G.ex
  exact pe_call F hr hg hm hk hb .nil hx ha hdb he hpl
theorem pe_callF0 (G : Fn X.prog X.w X.K X.mg X.base CX k x ps sp) (hr : Room k X.A) (hg : Gl X x) (hx : Passes CX X E) (hdb : (x == ("__debug__" : Str)) = false := by decide) : PE X (.Call (.Name x p) [] [] pos) (tCall sp [] E tNil) := by
  obtain ⟨f, fd, F, hm, hk, hb⟩ := G.ex
  exact pe_call0 F hr hg hm hk hb .nil hx hdb
end

/-! ### heaps -/
/-- all but l is as it was -/
def But (l : Addr) (H H' : Hp) : Prop := ∀ b o, b ≠ l → H b = some o → H' b = some o
section
variable {K : PySem.W.Frag} {H H1 H2 H' : Hp} {a l p : Addr} {o u : HO} {xs ys : List V} {ns : List Int}
theorem same_new (h : H p = none) : Same H (upd H p o) := fun b x e => by rw [upd_ne (ne_of_none e h)]; exact e
theorem but_upd : But l H (upd H l o) := fun b x n e => by rw [upd_ne n]; exact e
theorem But.trans (a : But l H H1) (b : But l H1 H2) : But l H H2 := fun c o n h => b c o n (a c o n h)
theorem But.refl : But l H H := fun _ _ _ h => h
theorem Same.but (s : Same H H') : But l H H' := fun b o _ h => s b o h
theorem rd_same (s : Same H H') (h : Rd H a u) : Rd H' a u := by
  rcases h with h | ⟨o, h⟩
  · exact .inl (s _ _ h)
  · exact .inr ⟨o, s _ _ h⟩
theorem sqT_same (s : Same H H') (h : SqT K H a xs) : SqT K H' a xs := by
  rcases h with h | h
  · exact .inl (rd_same s h)
  · exact .inr h
theorem sqL_same (s : Same H H') (h : SqL K H a xs) : SqL K H' a xs := s.seq h
theorem sqT_but (b : But l H H') (hl : H l = some (.lst ys)) (h : SqT K H a xs) : SqT K H' a xs := by
  rcases h with (h | ⟨o, h⟩) | h
  · exact .inl (.inl (b _ _ (ne_of h hl (by intro z; cases z)) h))
  · exact .inl (.inr ⟨o, b _ _ (ne_of h hl (by intro z; cases z)) h⟩)
  · exact .inr h
theorem sqL_but (b : But l H H') (hne : a ≠ l) (h : SqL K H a xs) : SqL K H' a xs := by
  rcases h with (h | ⟨o, h⟩) | h
  · exact .inl (.inl (b _ _ hne h))
  · exact .inl (.inr ⟨o, b _ _ hne h⟩)
  · exact .inr h
theorem at_same (s : Same H H') (h : H a = some o) : H' a = some o := s _ _ h
theorem at_but (b : But l H H') (hne : a ≠ l) (h : H a = some o) : H' a = some o := b _ _ hne h
theorem sqL_of (h : H a = some (.lst xs)) : SqL K H a xs := .inl (.inl h)
theorem sqT_of (h : H a = some (.tup xs)) : SqT K H a xs := .inl (.inl h)
/-- a but of an object that the first heap doesn't know is a same -/
theorem But.same (b : But l H H') (h : H l = none) : Same H H' := fun c o e => b c o (ne_of_none e h) e
theorem same_but (s : Same H H1) (b : But l H1 H2) (h : H l = none) : Same H H2 := fun c o e => b c o (ne_of_none e h) (s c o e)
theorem but_same (b : But l H H1) (s : Same H1 H2) : But l H H2 := fun c o n e => s c o (b c o n e)
end

/-! ### what a reading asks, by names (so that what follows stays an argument) -/
def PB (x : V) (H : Hp) (QB : Bool → Hp → Prop) : Prop := ∃ k, x = .bl k ∧ QB k H
def PIf (x : V) (A B : Prop) : Prop := ∃ c, x = .bl c ∧ if c = true then A else B
def PTr (K : PySem.W.Frag) (x : V) (H : Hp) (QB : Bool → Hp → Prop) : Prop := ∃ k, TruV K x H k ∧ QB k H
def PNew (z : Prop) (o : HO) (H : Hp) (Q : VK) : Prop := z ∧ ∀ p, H p = none → Q (.ref p) (upd H p o)
def PI2 (x y : V) (QR : Int → Int → Prop) : Prop := ∃ i j, x = .int i ∧ y = .int j ∧ QR i j
def PI1 (x : V) (QR : Int → Prop) : Prop := ∃ i, x = .int i ∧ QR i
def PNot (x : V) (H : Hp) (Q : VK) : Prop := ∃ c, x = .bl c ∧ Q (.bl (!c)) H
/-! ### steps of statements -/
section
variable {K : PySem.W.Frag} {D : Ends} {σ : L2.St} {H : Hp} {t u : TS} {te ta tb : TE} {g : TG} {c d : TT} {Q : VK} {QB : Bool → Hp → Prop} {v x y : V} {i j : Nat} {m n : Int} {b : Bool}
theorem r_seq (h : t { D with nx := u D } σ H) : tSeq t u D σ H := h
theorem r_next (h : D.nx σ H) : tNext D σ H := h
theorem r_asg (h : te σ H fun x H1 => g x σ H1 D.nx) : tAsg te g D σ H := h
theorem r_name {N : L2.St → Hp → Prop} (h : N (σ.set i (some v)) H) : gName i v σ H N := h
theorem r_drop (h : te σ H fun _ H1 => D.nx σ H1) : tDrop te D σ H := h
theorem r_ret (h : te σ H D.rt) : tRet te D σ H := h
theorem r_retN (h : D.rt .non H) : tRetN D σ H := h
theorem r_if (h : c σ H fun b H1 => if b = true then t D σ H1 else u D σ H1) : tIfS c t u D σ H := h
theorem r_brk (h : D.bk σ H) : tBreak D σ H := h
theorem r_cont (h : D.ct σ H) : tCont D σ H := h
/-! ### of expressions -/
theorem r_var (h : σ[i]? = some (some v)) (q : Q v H) : tVar i σ H Q := ⟨v, h, q⟩
theorem r_c (q : Q v H) : tC v σ H Q := q
theorem r_op {r : R2} (h : ta σ H fun x H1 => tb σ H1 fun y H2 => r x y H2 Q) : tOp r ta tb σ H Q := h
theorem r_un {r : V → Hp → VK → Prop} (h : ta σ H fun x H1 => r x H1 Q) : tUn r ta σ H Q := h
theorem r_neg (q : Q (.int (-m)) H) : rU (fun i => .int (-i)) (.int m) H Q := ⟨m, rfl, q⟩
theorem r_addI (q : Q (.int (m + n)) H) : rAddU K (.int m) (.int n) H Q := .inl ⟨m, n, rfl, rfl, q⟩
theorem r_addS {z w : Str} (hz : z.length + w.length ≤ sizeLine) (q : Q (.str (z ++ w)) H) : rAddU K (.str z) (.str w) H Q := .inr (.inl ⟨z, w, rfl, rfl, hz, q⟩)
theorem r_subI (q : Q (.int (m - n)) H) : rSubU (.int m) (.int n) H Q := ⟨m, n, rfl, rfl, q⟩
theorem r_mulI (c : CMul m n) (q : Q (.int (m * n)) H) : rMulU K (.int m) (.int n) H Q := .inl ⟨m, n, rfl, rfl, c, q⟩
theorem r_mulL {p : Addr} {xs : List V} (h : H p = some (.lst xs)) (h0 : -(2 ^ 63) ≤ n) (h1 : n < 2 ^ 63) (hz : xs.length * n.toNat ≤ sizeLine) (k : ∀ q H', H q = none → Same H H' → H' q = some (.lst (List.replicate n.toNat xs).flatten) → Q (.ref q) H') :
    rMulU K (.ref p) (.int n) H Q := .inr (.inr (.inl ⟨p, n, xs, rfl, rfl, h, h0, h1, hz, fun q hq => k q _ hq (same_new hq) upd_same⟩))
theorem r_fdiv (h0 : 0 < n) (h1 : n.natAbs.log2 < 9000) (q : Q (.int (m / n)) H) : rFdivU (.int m) (.int n) H Q := ⟨m, n, rfl, rfl, ⟨h0, h1⟩, q⟩
theorem r_mod (h0 : 0 < n) (q : Q (.int (m % n)) H) : rModU (.int m) (.int n) H Q := ⟨m, n, rfl, rfl, h0, q⟩
theorem r_pow (h0 : CPow m n) (q : Q (.int (m ^ n.toNat)) H) : rPowU (.int m) (.int n) H Q := ⟨m, n, rfl, rfl, h0, q⟩
theorem r_eqI (q : Q (.bl (decide (m = n))) H) : rEqU K (.int m) (.int n) H Q := .inl ⟨rfl, by
  have e : decide (V.int m = V.int n) = decide (m = n) := by by_cases h : m = n <;> simp [h]
  rw [e]; exact q⟩
theorem r_neI (q : Q (.bl (!decide (m = n))) H) : rNeU K (.int m) (.int n) H Q := .inl ⟨rfl, by
  have e : decide (V.int m = V.int n) = decide (m = n) := by by_cases h : m = n <;> simp [h]
  rw [e]; exact q⟩
theorem r_ltI (q : Q (.bl (decide (m < n))) H) : rLtU K (.int m) (.int n) H Q := .inl ⟨m, n, rfl, rfl, q⟩
theorem r_leI (q : Q (.bl (decide (m ≤ n))) H) : rLeU K (.int m) (.int n) H Q := .inl ⟨m, n, rfl, rfl, q⟩
theorem r_gtI (q : Q (.bl (decide (n < m))) H) : rGtU (.int m) (.int n) H Q := .inl ⟨m, n, rfl, rfl, q⟩
theorem r_geI (q : Q (.bl (decide (n ≤ m))) H) : rGeU (.int m) (.int n) H Q := .inl ⟨m, n, rfl, rfl, q⟩
theorem r_isN (q : Q (.bl (decide (x = .non))) H) : rIsNU x .non H Q := ⟨rfl, q⟩
theorem r_notN (q : Q (.bl (!decide (x = .non))) H) : rNotNU x .non H Q := ⟨rfl, q⟩
theorem r_test (h : te σ H fun x H' => PB x H' QB) : tTest te σ H QB := h
theorem r_B (h : te σ H fun x H' => PB x H' QB) : tB te σ H QB := h
theorem r_k (q : QB b H) : PB (.bl b) H QB := ⟨b, rfl, q⟩
theorem r_not (h : c σ H fun b H1 => QB (!b) H1) : tNot c σ H QB := h
theorem r_and (h : c σ H fun b H1 => if b = true then d σ H1 QB else QB false H1) : tAnd c d σ H QB := h
theorem r_or (h : c σ H fun b H1 => if b = true then QB true H1 else d σ H1 QB) : tOr c d σ H QB := h
theorem r_andV (h : ta σ H fun x H1 => PIf x (tb σ H1 Q) (Q (.bl false) H1)) : tAndV ta tb σ H Q := h
theorem r_orV (h : ta σ H fun x H1 => PIf x (Q (.bl true) H1) (tb σ H1 Q)) : tOrV ta tb σ H Q := h
theorem r_pif {A B : Prop} (h : if b = true then A else B) : PIf (.bl b) A B := ⟨b, rfl, h⟩
theorem r_notV (h : ta σ H fun x H1 => PNot x H1 Q) : tNotV ta σ H Q := h
theorem r_pnot (q : Q (.bl (!b)) H) : PNot (.bl b) H Q := ⟨b, rfl, q⟩
theorem r_ifE (h : c σ H fun b H1 => if b = true then ta σ H1 Q else tb σ H1 Q) : tIf c ta tb σ H Q := h
theorem r_chain {r r' : R2} {tc : TE} (h : ta σ H fun x H1 => tb σ H1 fun y H2 => r x y H2 fun z H3 => PIf z (tc σ H3 fun w' H4 => r' y w' H4 Q) (Q (.bl false) H3)) : tChain r r' ta tb tc σ H Q := h
theorem r_tru (h : ta σ H fun x H' => PTr K x H' QB) : tTru K ta σ H QB := h
theorem r_truB (q : QB b H) : PTr K (.bl b) H QB := ⟨b, rfl, q⟩
theorem r_truI (q : QB (m != 0) H) : PTr K (.int m) H QB := ⟨_, rfl, q⟩
theorem r_truL {p : Addr} {xs : List V} (h : SqL K H p xs) (q : QB (!xs.isEmpty) H) : PTr K (.ref p) H QB := ⟨_, .inl ⟨xs, h, rfl⟩, q⟩
theorem r_truT {p : Addr} {xs : List V} (h : SqT K H p xs) (q : QB (!xs.isEmpty) H) : PTr K (.ref p) H QB := ⟨_, .inr (.inl ⟨xs, h, rfl⟩), q⟩
theorem r_nil {QA : List V → Hp → Prop} (q : QA [] H) : tNil σ H QA := q
theorem r_cons {tr : TA} {QA : List V → Hp → Prop} (h : ta σ H fun x H1 => tr σ H1 fun xs H2 => QA (x :: xs) H2) : tCons ta tr σ H QA := h
theorem r_CB {r : List V → Hp → VK → Prop} {ts : TA} (h : ts σ H fun vs H1 => r vs H1 Q) : tCB r ts σ H Q := h
theorem r_lenL {p : Addr} {xs : List V} (h : SqL K H p xs) (q : Q (.int (xs.length : Int)) H) : rLenU K [.ref p] H Q := .inl ⟨p, xs, rfl, .inl h, q⟩
theorem r_lenT {p : Addr} {xs : List V} (h : SqT K H p xs) (q : Q (.int (xs.length : Int)) H) : rLenU K [.ref p] H Q := .inl ⟨p, xs, rfl, .inr h, q⟩
theorem r_lenS {z : Str} (h : z.length ≤ sizeLine) (q : Q (.int (z.length : Int)) H) : rLenU K [.str z] H Q := .inr (.inl ⟨z, rfl, h, q⟩)
theorem r_int (q : Q (.int m) H) : rIntU [.int m] H Q := ⟨m, rfl, q⟩
theorem r_abs (q : Q (.int (if m < 0 then -m else m)) H) : rAbsU [.int m] H Q := ⟨m, rfl, q⟩
theorem r_ixL {p : Addr} {xs : List V} (h : SqL K H p xs) (ha : atI xs m = some v) (q : Q v H) : rIx K (.ref p) (.int m) H Q := .inl ⟨p, xs, m, v, rfl, rfl, h, ha, q⟩
theorem r_ixT {p : Addr} {xs : List V} (h : SqT K H p xs) (ha : atI xs m = some v) (q : Q v H) : rIx K (.ref p) (.int m) H Q := .inr (.inl ⟨p, xs, m, v, rfl, rfl, h, ha, q⟩)
theorem r_ixS {z : Str} {c : Nat} (h : z.length ≤ sizeLine) (ha : atI z.cps.toList m = some c) (q : Q (.str ⟨#[c]⟩) H) : rIx K (.str z) (.int m) H Q := .inr (.inr ⟨z, m, c, rfl, rfl, h, ha, q⟩)
theorem r_tup {ts : TA} (h : ts σ H fun xs H1 => PNew (xs.length ≤ sizeLine) (.tup xs) H1 Q) : tTup ts σ H Q := h
theorem r_lst {ts : TA} (h : ts σ H fun xs H1 => PNew (xs.length ≤ sizeLine) (.lst xs) H1 Q) : tLst ts σ H Q := h
theorem r_new {z : Prop} {o : HO} (hz : z) (k : ∀ p H', H p = none → Same H H' → H' p = some o → Q (.ref p) H') : PNew z o H Q := ⟨hz, fun p hp => k p _ hp (same_new hp) upd_same⟩
theorem r_new1 {o : HO} (k : ∀ p H', H p = none → Same H H' → H' p = some o → Q (.ref p) H') : ∀ p, H p = none → Q (.ref p) (upd H p o) := fun p hp => k p _ hp (same_new hp) upd_same
theorem r_call {sp : Sp} {E : XK} {ts : TA} (h : ts σ H fun vs H1 => sp (vs ++ []) H1 Q E) : tCall sp [] E ts σ H Q := h
theorem r_BM {T : String} {r : V → List V → Hp → VK → Prop} {ts : TA} (h : ta σ H fun x H1 => tyV K T x H1 ∧ ts σ H1 fun xs H2 => r x xs H2 Q) : tBM K T r ta ts σ H Q := h
theorem r_BM0 {T : String} {r : V → List V → Hp → VK → Prop} (h : ta σ H fun x H1 => tyV K T x H1 ∧ r x [] H1 Q) : tBM0 K T r ta σ H Q := h
theorem r_tyL {p : Addr} {xs : List V} {A : Prop} (h : SqL K H p xs) (a : A) : tyV K "list" (.ref p) H ∧ A := ⟨Or.inl ⟨rfl, _, h⟩, a⟩
theorem r_tyS {z : Str} {A : Prop} (a : A) : tyV K "str" (.str z) H ∧ A := ⟨rfl, a⟩
theorem r_append {p : Addr} {xs : List V} (h : H p = some (.lst xs)) (hz : xs.length < sizeLine) (k : ∀ H', But p H H' → H' p = some (.lst (xs ++ [y])) → Q .non H') : rAppend (.ref p) [y] H Q := ⟨p, xs, y, rfl, rfl, h, hz, k _ but_upd upd_same⟩
theorem r_pop {p : Addr} {xs : List V} (h : H p = some (.lst (xs ++ [y]))) (k : ∀ H', But p H H' → H' p = some (.lst xs) → Q y H') : rPop (.ref p) [] H Q := by
  refine ⟨p, xs ++ [y], y, rfl, rfl, h, ?_, ?_⟩
  · simp
  · rw [List.dropLast_concat]; exact k _ but_upd upd_same
theorem r_popAt {p : Addr} {xs : List V} {k : Nat} (h : H p = some (.lst xs)) (e : m = (k : Int)) (hk : xs[k]? = some y) (hz : xs.length < 2 ^ 62) (q : ∀ H', But p H H' → H' p = some (.lst (xs.eraseIdx k)) → Q y H') : rPopAt (.ref p) [.int m] H Q := by
  have hl : k < xs.length := (List.getElem?_eq_some_iff.mp hk).1
  refine ⟨p, xs, m, k, y, rfl, rfl, h, by omega, by omega, ?_, hk, q _ but_upd upd_same⟩
  subst e
  obtain ⟨j, hj, hx, _⟩ := atI_get (atI_nat hk)
  have e2 : j = k := by
    unfold seqIndex? at hj
    simp at hj
    omega
  rw [hj, e2]
theorem r_then {kk : V → Hp → VK → Prop} (h : ta σ H fun x H1 => kk x H1 Q) : tThen ta kk σ H Q := h
theorem r_kTupL {p : Addr} {xs : List V} (h : SqL K H p xs) (k : ∀ q H', H q = none → Same H H' → (∃ o : Obj, H' q = some (.frz o (.tup xs)) ∧ o.dict = none) → Q (.ref q) H') : kTupD K (.ref p) H Q := .inl ⟨p, xs, rfl, h, fun q o hq ho => k q _ hq (same_new hq) ⟨o, upd_same, ho⟩⟩
theorem r_kTupT {p : Addr} {xs : List V} (h : SqT K H p xs) (q : Q (.ref p) H) : kTupD K (.ref p) H Q := .inr ⟨p, xs, rfl, h, q⟩
theorem sqT_ofD {q : Addr} {xs : List V} (h : ∃ o : Obj, H q = some (.frz o (.tup xs)) ∧ o.dict = none) : SqT K H q xs := by
  obtain ⟨o, e, _⟩ := h
  exact .inl (.inr ⟨o, e⟩)
theorem noD_of {q : Addr} {xs : List V} (h : ∃ o : Obj, H q = some (.frz o (.tup xs)) ∧ o.dict = none) : NoD H q := by
  obtain ⟨o, e, d⟩ := h
  exact ⟨o, _, e, d⟩
theorem noD_same {H H' : Hp} {q : Addr} (s : Same H H') (h : NoD H q) : NoD H' q := by
  obtain ⟨o, u, e, d⟩ := h
  exact ⟨o, u, s _ _ e, d⟩
theorem r_listL {p : Addr} {xs : List V} (h : SqL K H p xs) (k : ∀ q H', H q = none → Same H H' → H' q = some (.lst xs) → Q (.ref q) H') : rListU K [.ref p] H Q := ⟨p, xs, rfl, .inl h, fun q hq => k q _ hq (same_new hq) upd_same⟩
theorem r_listT {p : Addr} {xs : List V} (h : SqT K H p xs) (k : ∀ q H', H q = none → Same H H' → H' q = some (.lst xs) → Q (.ref q) H') : rListU K [.ref p] H Q := ⟨p, xs, rfl, .inr h, fun q hq => k q _ hq (same_new hq) upd_same⟩
theorem r_lstRg {tr : L2.St → Hp → (Int → Int → Hp → Prop) → Prop} (h : tr σ H fun a b H1 => PNew (RgOk a b) (.lst (rgV a b)) H1 Q) : tLstRg tr σ H Q := h
theorem r_tupRg {tr : L2.St → Hp → (Int → Int → Hp → Prop) → Prop} (h : tr σ H fun a b H1 => PNew (RgOk a b) (.tup (rgV a b)) H1 Q) : tTupRg tr σ H Q := h
theorem r_rg2 {QR : Int → Int → Hp → Prop} (h : ta σ H fun x H1 => tb σ H1 fun y H2 => PI2 x y fun i j => QR i j H2) : tRg2 ta tb σ H QR := h
theorem r_rg1 {QR : Int → Int → Hp → Prop} (h : ta σ H fun x H1 => PI1 x fun n => QR 0 n H1) : tRg1 ta σ H QR := h
theorem r_ii {QR : Int → Int → Prop} (q : QR m n) : PI2 (.int m) (.int n) QR := ⟨m, n, rfl, rfl, q⟩
theorem r_i {QR : Int → Prop} (q : QR m) : PI1 (.int m) QR := ⟨m, rfl, q⟩
theorem r_gsub {ti : TE} {to : TE} {ts : TSet} {N : L2.St → Hp → Prop} (h : to σ H fun o H1 => ti σ H1 fun i H2 => ts o i v H2 fun H3 => N σ H3) : gSub to ti ts v σ H N := h
theorem r_setL {N : Hp → Prop} {p : Addr} {xs : List V} {k : Nat} (h : H p = some (.lst xs)) (hk : ixN xs.length m = some k) (q : ∀ H', But p H H' → H' p = some (.lst (xs.set k v)) → N H') : rSetL (.ref p) (.int m) v H N := ⟨p, xs, m, k, rfl, rfl, h, hk, q _ but_upd upd_same⟩
theorem r_aug {ti : TIp} (h : σ[i]? = some (some x)) (q : te σ H fun y H1 => ti x y H1 fun z H2 => D.nx (σ.set i (some z)) H2) : tAug i te ti D σ H := ⟨x, h, q⟩
theorem r_ipI {f : Int → Int → Int} (q : Q (.int (f m n)) H) : ipI f (.int m) (.int n) H Q := ⟨m, n, rfl, rfl, q⟩
theorem r_noPart {QO : Option Int → Hp → Prop} (q : QO none H) : tNoPart σ H QO := q
theorem r_part {QO : Option Int → Hp → Prop} (h : te σ H fun x H1 => PI1 x fun i => QO (some i) H1) : tPart te σ H QO := h
theorem r_sl {r : V → Option Int → Option Int → Hp → VK → Prop} {tl th : TO} (h : te σ H fun x H1 => tl σ H1 fun l H2 => th σ H2 fun u H3 => r x l u H3 Q) : tSl r te tl th σ H Q := h
theorem r_ite {c : Prop} [Decidable c] {A B : Prop} (h1 : c → A) (h2 : ¬ c → B) : if decide c = true then A else B := by
  by_cases h : c
  · rw [if_pos (decide_eq_true h)]; exact h1 h
  · rw [if_neg (by simp [h])]; exact h2 h
theorem r_iteN {c : Prop} [Decidable c] {A B : Prop} (h1 : ¬ c → A) (h2 : c → B) : if (!decide c) = true then A else B := by
  by_cases h : c
  · rw [if_neg (by simp [h])]; exact h2 h
  · rw [if_pos (by simp [h])]; exact h1 h
theorem r_iteP {c : Prop} [Decidable c] {A B : Prop} (h : c) (a : A) : if decide c = true then A else B := by rw [if_pos (decide_eq_true h)]; exact a
theorem r_iteM {c : Prop} [Decidable c] {A B : Prop} (h : ¬ c) (a : B) : if decide c = true then A else B := by rw [if_neg (by simp [h])]; exact a
theorem r_iteNP {c : Prop} [Decidable c] {A B : Prop} (h : c) (a : B) : if (!decide c) = true then A else B := by rw [if_neg (by simp [h])]; exact a
theorem r_iteNM {c : Prop} [Decidable c] {A B : Prop} (h : ¬ c) (a : A) : if (!decide c) = true then A else B := by rw [if_pos (by simp [h])]; exact a
theorem r_T {A B : Prop} (a : A) : if true = true then A else B := by rw [if_pos rfl]; exact a
theorem r_F {A B : Prop} (a : B) : if false = true then A else B := by rw [if_neg (by decide)]; exact a
theorem r_nT {A B : Prop} (a : B) : if (!true) = true then A else B := r_F a
theorem r_nF {A B : Prop} (a : A) : if (!false) = true then A else B := r_T a
end
end Kb

set_option Elab.async false
set_option linter.all false
set_option maxRecDepth 100000
set_option maxHeartbeats 4000000
namespace Kb
open PySem PySem.Spec PyProof.Rows L2
/-! the tactics: rd walks a reading; tk closes a fact about a heap from those ahead of it -/
local macro_rules | `(tactic| walk_at "tk") => `(tactic| first
  | assumption
  | ((with_reducible refine' sqT_of ?k); (case k => assumption))
  | ((with_reducible refine' sqT_ofD ?k); (case k => assumption))
  | ((with_reducible refine' noD_of ?k); (case k => assumption))
  | ((with_reducible refine' noD_same ?s ?k); (case s => assumption); (case k => walk_at "tk"))
  | ((with_reducible refine' sqL_of ?k); (case k => assumption))
  | ((with_reducible refine' sqT_same ?s ?k); (case s => assumption); (case k => walk_at "tk"))
  | ((with_reducible refine' sqL_same ?s ?k); (case s => assumption); (case k => walk_at "tk"))
  | ((with_reducible refine' sqT_but ?s ?t ?k); (case s => assumption); (case t => walk_at "tk"); (case k => walk_at "tk"))
  | ((with_reducible refine' sqL_but ?s ?t ?k); (case s => assumption); (case t => walk_at "ne"); (case k => walk_at "tk"))
  | ((with_reducible refine' sqL_of ?k); (case k => walk_at "tk"))
  | ((with_reducible refine' sqT_of ?k); (case k => walk_at "tk"))
  | ((with_reducible refine' at_same ?s ?k); (case s => assumption); (case k => walk_at "tk"))
  | ((with_reducible refine' at_but ?s ?t ?k); (case s => assumption); (case t => walk_at "ne"); (case k => walk_at "tk")))
local macro_rules | `(tactic| walk_at "ne") => `(tactic| first
  | assumption
  | (refine Ne.symm ?_; assumption)
  | exact ne_of_none (by assumption) (by assumption)
  | exact (ne_of_none (by assumption) (by assumption)).symm)
local macro_rules | `(tactic| walk_at "side") => `(tactic| first
  | assumption
  | omega
  | (simp only [sizeLine_eq, List.length_cons, List.length_nil, List.length_map]; omega)
  | (show _ ≤ sizeLine; decide))
local macro_rules | `(tactic| walk_at "kit") => `(tactic| first
  | (show kitB _ _ = some true; decide +kernel)
  | (show kitB _ _ = some false; decide +kernel))
local macro_rules | `(tactic| walk_at "rng") => `(tactic| first
  | (refine ⟨by omega, by omega, by omega, by omega⟩)
  | (refine ⟨by omega, by omega⟩)
  | ((simp only [List.length_map]); (refine ⟨by omega, by omega, by omega, by omega⟩))
  | ((simp only [List.length_map]); (refine ⟨by omega, by omega⟩)))
local macro_rules | `(tactic| walk_at "rd1") => `(tactic| first
  | with_reducible refine r_seq ?_
  | ((with_reducible refine' r_var ?k0 ?_); (case k0 => rfl))
  | with_reducible refine r_op ?_
  | with_reducible refine r_c ?_
  | with_reducible refine r_asg ?_
  | with_reducible refine r_name ?_
  | with_reducible refine r_cons ?_
  | with_reducible refine r_nil ?_
  | with_reducible refine r_CB ?_
  | with_reducible refine r_if ?_
  | with_reducible refine r_test ?_
  | with_reducible refine r_k ?_
  | with_reducible refine r_T ?_
  | with_reducible refine r_F ?_
  | with_reducible refine r_nT ?_
  | with_reducible refine r_nF ?_
  | with_reducible refine r_ret ?_
  | with_reducible refine r_drop ?_
  | with_reducible refine r_next ?_
  | with_reducible refine r_call ?_
  | with_reducible refine r_addI ?_
  | with_reducible refine r_subI ?_
  | with_reducible refine r_ltI ?_
  | with_reducible refine r_gtI ?_
  | with_reducible refine r_leI ?_
  | with_reducible refine r_geI ?_
  | with_reducible refine r_eqI ?_
  | with_reducible refine r_neI ?_
  | with_reducible refine r_int ?_
  | with_reducible refine r_abs ?_
  | with_reducible refine r_not ?_
  | with_reducible refine r_and ?_
  | with_reducible refine r_or ?_
  | with_reducible refine r_tru ?_
  | with_reducible refine r_truB ?_
  | with_reducible refine r_lst ?_
  | with_reducible refine r_tup ?_
  | with_reducible refine r_BM ?_
  | with_reducible refine r_BM0 ?_
  | with_reducible refine r_tyS ?_
  | with_reducible refine r_gsub ?_
  | with_reducible refine r_then ?_
  | with_reducible refine r_lstRg ?_
  | with_reducible refine r_tupRg ?_
  | with_reducible refine r_rg2 ?_
  | with_reducible refine r_rg1 ?_
  | with_reducible refine r_ii ?_
  | with_reducible refine r_i ?_
  | with_reducible refine r_ipI ?_
  | with_reducible refine r_un ?_
  | with_reducible refine r_neg ?_
  | with_reducible refine r_isN ?_
  | with_reducible refine r_notN ?_
  | with_reducible refine r_notV ?_
  | with_reducible refine r_pnot ?_
  | with_reducible refine r_pif ?_
  | with_reducible refine r_andV ?_
  | with_reducible refine r_orV ?_
  | with_reducible refine r_ifE ?_
  | with_reducible refine r_chain ?_
  | with_reducible refine r_sl ?_
  | with_reducible refine r_noPart ?_
  | with_reducible refine r_part ?_
  | with_reducible refine r_brk ?_
  | with_reducible refine r_cont ?_
  | with_reducible refine r_retN ?_
  | with_reducible refine r_truI ?_
  | with_reducible refine r_B ?_
  | ((with_reducible refine' r_mod ?k0 ?_); (case k0 => walk_at "side"))
  | ((with_reducible refine' r_mulI ?k0 ?_); (case k0 => first | exact Or.inl ⟨by omega, by omega⟩ | exact Or.inr ⟨by omega, by omega⟩))
  | ((with_reducible refine' r_lenL ?k0 ?_); (case k0 => walk_at "tk"))
  | ((with_reducible refine' r_lenT ?k0 ?_); (case k0 => walk_at "tk"))
  | ((with_reducible refine' r_truL ?k0 ?_); (case k0 => walk_at "tk"))
  | ((with_reducible refine' r_truT ?k0 ?_); (case k0 => walk_at "tk"))
  | ((with_reducible refine' r_ixL ?k0 ?k1 ?_); (case k0 => walk_at "tk"); (case k1 => first | assumption | rfl))
  | ((with_reducible refine' r_ixT ?k0 ?k1 ?_); (case k0 => walk_at "tk"); (case k1 => first | assumption | rfl))
  | ((with_reducible refine' r_new ?k0 ?_); (case k0 => walk_at "side"))
  | ((with_reducible refine' r_tyL ?k0 ?_); (case k0 => walk_at "tk"))
  | ((with_reducible refine' r_append ?k0 ?k1 ?_); (case k0 => walk_at "tk"); (case k1 => walk_at "side"))
  | ((with_reducible refine' r_setL ?k0 ?k1 ?_); (case k0 => walk_at "tk"); (case k1 => first | assumption | rfl))
  | ((with_reducible refine' r_kTupL ?k0 ?_); (case k0 => walk_at "tk"))
  | ((with_reducible refine' r_kTupT ?k0 ?_); (case k0 => walk_at "tk"))
  | ((with_reducible refine' r_listL ?k0 ?_); (case k0 => walk_at "tk"))
  | ((with_reducible refine' r_listT ?k0 ?_); (case k0 => walk_at "tk"))
  | ((with_reducible refine' r_aug ?k0 ?_); (case k0 => rfl))
  | ((with_reducible refine' r_lenS ?k0 ?_); (case k0 => walk_at "side"))
  | ((with_reducible refine' r_pop ?k0 ?_); (case k0 => walk_at "tk")))
local macro_rules | `(tactic| walk_at "rd") => `(tactic| ((repeat (walk_at "rd1")); (try dsimp only)))


/-! ### the law's helpers: cell, pool, draw -/
def sp_law_cell (K : PySem.W.Frag) : Sp := fun vs H Q _ => ∃ (a : Addr) (ns : List Int) (k : Int), vs = [.ref a, .int k] ∧ SqL K H a (ns.map V.int) ∧ ns.length ≤ 63 ∧ 0 ≤ k ∧ ∀ n, Q (.int n) H
def Pl (H : Hp) (p : Addr) : Prop := ∃ x y z, H p = some (.lst [.int x, .int y, .int z])
def sp_law_pool (K : PySem.W.Frag) : Sp := fun vs H Q _ => ∃ (a : Addr) (ns : List Int) (k : Int), vs = [.ref a, .int k] ∧ SqL K H a (ns.map V.int) ∧ ns.length ≤ 63 ∧ 0 ≤ k ∧ ∀ p H', H p = none → Same H H' → Pl H' p → Q (.ref p) H'
def sp_law_draw (K : PySem.W.Frag) : Sp := fun vs H Q _ => ∃ (p : Addr) (m : Int), vs = [.ref p, .int m] ∧ Pl H p ∧ 0 < m ∧ m < 2 ^ 200 ∧ ∀ v H', 0 ≤ v → v < m → But p H H' → Pl H' p → Q (.int v) H'
abbrev N_law_cell : List Str := ["script", "k"]
def t_law_cell (K : PySem.W.Frag) : TS :=
  tSeq (tIfS ((tTest (tOp (rLtU K) (tVar 1) ((tCB (rLenU K) (tCons (tVar 0) tNil)))))) ((tRet ((tCB rAbsU (tCons ((tCB rIntU (tCons ((tOp (rIx K) (tVar 0) (tVar 1))) tNil))) tNil))))) (tNext))
  (tSeq (tIfS ((tTest (tOp (rEqU K) ((tCB (rLenU K) (tCons (tVar 0) tNil))) ((tC (.int 0)))))) ((tRet ((tC (.int 0))))) (tNext))
  ((tRet ((tOp rModU ((tCB rAbsU (tCons ((tCB rIntU (tCons ((tOp (rIx K) (tVar 0) ((tOp rModU ((tCB rIntU (tCons (tVar 1) tNil))) ((tCB (rLenU K) (tCons (tVar 0) tNil))))))) tNil))) tNil))) ((tC (.int 999999999999999989))))))))

abbrev N_law_pool : List Str := ["script", "k", "cell"]
def t_law_pool (K : PySem.W.Frag) : TS :=
  tSeq (tAsg ((tCall (sp_law_cell K) [] E0 (tCons (tVar 0) (tCons (tVar 1) tNil)))) (gName 2))
  (tSeq (tIfS ((tTest (tOp rGeU (tVar 2) ((tOp rPowU ((tC (.int 10))) ((tC (.int 18)))))))) ((tRet ((tLst (tCons ((tOp rSubU (tVar 2) ((tOp rPowU ((tC (.int 10))) ((tC (.int 18))))))) (tCons ((tOp rModU ((tCB rIntU (tCons (tVar 2) tNil))) ((tC (.int 1000003))))) (tCons ((tC (.int 0))) tNil))))))) (tNext))
  ((tRet ((tLst (tCons ((tC (.int 0))) (tCons ((tOp (rAddU K) (tVar 2) ((tOp (rMulU K) ((tC (.int 104729))) ((tOp (rAddU K) (tVar 1) ((tC (.int 1))))))))) (tCons ((tC (.int 0))) tNil))))))))

abbrev N_law_draw : List Str := ["pool", "many", "value", "mixed"]
def t_law_draw (K : PySem.W.Frag) : TS :=
  tSeq (tAsg ((tOp (rAddU K) ((tOp (rIx K) (tVar 0) ((tC (.int 2))))) ((tC (.int 1))))) (gSub (tVar 0) ((tC (.int 2))) rSetL))
  (tSeq (tIfS ((tTest (tOp rGtU ((tOp (rIx K) (tVar 0) ((tC (.int 0))))) ((tC (.int 1)))))) (tSeq (tAsg ((tOp rModU ((tCB rIntU (tCons ((tOp (rIx K) (tVar 0) ((tC (.int 0))))) tNil))) (tVar 1))) (gName 2))
  (tSeq (tAsg ((tOp rFdivU ((tOp (rIx K) (tVar 0) ((tC (.int 0))))) (tVar 1))) (gSub (tVar 0) ((tC (.int 0))) rSetL))
  ((tRet (tVar 2))))) (tNext))
  (tSeq (tAsg ((tOp rModU ((tCB rIntU (tCons ((tOp (rAddU K) ((tOp (rIx K) (tVar 0) ((tC (.int 1))))) ((tOp (rMulU K) ((tC (.int 7919))) ((tOp (rIx K) (tVar 0) ((tC (.int 2))))))))) tNil))) ((tC (.int 1000003))))) (gName 3))
  (tSeq (tAsg ((tOp rModU ((tCB rIntU (tCons ((tOp (rAddU K) ((tOp (rAddU K) ((tOp (rMulU K) (tVar 3) (tVar 3))) ((tOp (rMulU K) ((tC (.int 48271))) ((tOp (rIx K) (tVar 0) ((tC (.int 2))))))))) ((tOp (rIx K) (tVar 0) ((tC (.int 1))))))) tNil))) ((tC (.int 998244353))))) (gName 3))
  (tSeq (tAsg ((tOp rModU ((tCB rIntU (tCons ((tOp (rAddU K) ((tOp (rMulU K) (tVar 3) (tVar 3))) ((tC (.int 69621))))) tNil))) ((tC (.int 2147483647))))) (gName 3))
  ((tRet ((tOp rModU ((tCB rIntU (tCons ((tOp rFdivU (tVar 3) ((tC (.int 7))))) tNil))) (tVar 1)))))))))


theorem len_law_cell {K : PySem.W.Frag} {vs : List V} {H : Hp} {Q : VK} {E : XK} (h : sp_law_cell K vs H Q E) : vs.length = 2 := by
  obtain ⟨a, ns, k, rfl, _⟩ := h; rfl
theorem len_law_pool {K : PySem.W.Frag} {vs : List V} {H : Hp} {Q : VK} {E : XK} (h : sp_law_pool K vs H Q E) : vs.length = 2 := by
  obtain ⟨a, ns, k, rfl, _⟩ := h; rfl
theorem len_law_draw {K : PySem.W.Frag} {vs : List V} {H : Hp} {Q : VK} {E : XK} (h : sp_law_draw K vs H Q E) : vs.length = 2 := by
  obtain ⟨a, m, rfl, _⟩ := h; rfl
abbrev En (Q : VK) : Ends := { nx := fun _ H' => Q .non H', rt := Q }
theorem atI_ints {ns : List Int} {k : Int} (h0 : 0 ≤ k) (h1 : k < (ns.length : Int)) : ∃ n, atI (ns.map V.int) k = some (.int n) ∧ ns[k.toNat]? = some n := by
  have h2 : k.toNat < ns.length := by omega
  refine ⟨ns[k.toNat], ?_, List.getElem?_eq_getElem h2⟩
  have e : ((k.toNat : Nat) : Int) = k := by omega
  have h3 : (ns.map V.int)[k.toNat]? = some (.int ns[k.toNat]) := by rw [List.getElem?_map, List.getElem?_eq_getElem h2]; rfl
  have h4 := atI_nat h3
  rw [e] at h4
  exact h4
theorem pure_law_cell {K : PySem.W.Frag} {vs : List V} {H : Hp} {Q : VK} {E : XK} (h : sp_law_cell K vs H Q E) : t_law_cell K (En Q) (start N_law_cell vs) H := by
  obtain ⟨a, ns, k, rfl, hS, hn, hk, q⟩ := h
  unfold t_law_cell
  walk_at "rd"
  rw [List.length_map]
  refine r_ite (fun hlt => ?_) (fun hge => ?_)
  · obtain ⟨n, e1, _⟩ := atI_ints hk hlt
    walk_at "rd"
    exact q _
  · walk_at "rd"
    rw [List.length_map]
    refine r_ite (fun h0 => ?_) (fun h0 => ?_)
    · walk_at "rd"
      exact q _
    · have hp : (0 : Int) < ((ns.map V.int).length : Int) := by rw [List.length_map]; omega
      walk_at "rd"
      obtain ⟨n, e1, _⟩ := atI_ints (ns := ns) (k := k % ((ns.map V.int).length : Int)) (Int.emod_nonneg _ (by omega)) (by rw [List.length_map] at hp ⊢; exact Int.emod_lt_of_pos _ hp)
      walk_at "rd"
      exact q _
theorem c18 : CPow 10 18 := ⟨by decide, by decide, by decide⟩
theorem pure_law_pool {K : PySem.W.Frag} {vs : List V} {H : Hp} {Q : VK} {E : XK} (h : sp_law_pool K vs H Q E) : t_law_pool K (En Q) (start N_law_pool vs) H := by
  obtain ⟨a, ns, k, rfl, hS, hn, hk, q⟩ := h
  unfold t_law_pool
  walk_at "rd"
  refine ⟨a, ns, k, rfl, hS, hn, hk, fun n => ?_⟩
  walk_at "rd"
  refine r_pow c18 ?_
  walk_at "rd"
  refine r_ite (fun h1 => ?_) (fun h1 => ?_)
  · walk_at "rd"
    refine r_pow c18 ?_
    walk_at "rd"
    intro p H' hp s e
    exact q p H' hp s ⟨_, _, _, e⟩
  · walk_at "rd"
    intro p H' hp s e
    exact q p H' hp s ⟨_, _, _, e⟩
theorem log2_small {m : Int} (h0 : 0 < m) (h1 : m < 2 ^ 200) : m.natAbs.log2 < 9000 := (wide_div (i := 0) h0 (b := 200) (by omega) (by decide) (by decide)).2
theorem pure_law_draw {K : PySem.W.Frag} {vs : List V} {H : Hp} {Q : VK} {E : XK} (h : sp_law_draw K vs H Q E) : t_law_draw K (En Q) (start N_law_draw vs) H := by
  obtain ⟨p, m, rfl, ⟨x, y, z, hp⟩, h0, h1, q⟩ := h
  have hl := log2_small h0 h1
  unfold t_law_draw
  walk_at "rd"
  intro H1 b1 e1
  have e1 : H1 p = some (.lst [.int x, .int y, .int (z + 1)]) := e1
  walk_at "rd"
  refine r_ite (fun hx => ?_) (fun hx => ?_)
  · walk_at "rd"
    refine r_fdiv h0 hl ?_
    walk_at "rd"
    intro H2 b2 e2
    walk_at "rd"
    exact q _ _ (Int.emod_nonneg _ (by omega)) (Int.emod_lt_of_pos _ h0) (b1.trans b2) ⟨_, _, _, e2⟩
  · walk_at "rd"
    refine r_fdiv (by decide) (by decide) ?_
    walk_at "rd"
    exact q _ _ (Int.emod_nonneg _ (by omega)) (Int.emod_lt_of_pos _ h0) b1 ⟨_, _, _, e1⟩
end Kb

set_option Elab.async false
set_option linter.all false
set_option maxRecDepth 100000
set_option maxHeartbeats 4000000
namespace Kb
open PySem PySem.Spec PyProof.Rows L2

/-! ### loops -/
section
variable {K : PySem.W.Frag} {D : Ends} {σ : L2.St} {H : Hp} {tb : TS} {te ta : TE} {g : TG} {c : TT} {i j : Nat} {m n l : Int} {R : It → Hp → Prop}
/-- the body of a while, from a state that holds with the measure m -/
def PBody (W : Nat → L2.St → Hp → Prop) (m : Nat) (tb : TS) (D : Ends) (σ : L2.St) (H : Hp) : Prop := ∃ N : L2.St → Hp → Prop, (∀ σ' H', N σ' H' → ∃ m', m' < m ∧ W m' σ' H') ∧ tb { D with nx := N, ct := N, bk := D.nx } σ H
theorem r_while (W : Nat → L2.St → Hp → Prop) (m : Nat) (h0 : W m σ H)
    (hs : ∀ m σ H, W m σ H → c σ H fun b H1 => if b = true then PBody W m tb D σ H1 else D.nx σ H1) : tWhile c tb D σ H := ⟨W, ⟨m, h0⟩, hs⟩
theorem r_body {W : Nat → L2.St → Hp → Prop} {m : Nat} (h : tb { D with nx := fun σ' H' => ∃ m', m' < m ∧ W m' σ' H', ct := fun σ' H' => ∃ m', m' < m ∧ W m' σ' H', bk := D.nx } σ H) : PBody W m tb D σ H := ⟨_, fun _ _ h => h, h⟩
def PFor (J : It) (g : TG) (tb : TS) (D : Ends) (σ : L2.St) (H : Hp) : Prop := ∃ W : Nat → Nat → L2.St → Hp → Prop, (∃ m, W 0 m σ H) ∧ ∀ i m σ H, W i m σ H →
  (J.stop i H ∧ D.nx σ H) ∨ (J.go i H ∧ ∃ N : L2.St → Hp → Prop, (∀ σ' H', N σ' H' → ∃ m', m' < m ∧ W (i + 1) m' σ' H') ∧ ∀ x H', J.yld i H x H' → g x σ H' fun σ2 H2 => tb { D with nx := N, ct := N, bk := D.nx } σ2 H2)
theorem r_for {wi : TI} (h : wi σ H fun J H1 => PFor J g tb D σ H1) : tFor wi g tb D σ H := h
def PR1 (vs : List V) (R : It → Prop) : Prop := ∃ j : Int, vs = [.int j] ∧ -(2 ^ 62) ≤ j ∧ j < 2 ^ 62 ∧ R (Itr 0 j.toNat)
def PR2 (vs : List V) (R : It → Prop) : Prop := ∃ i j : Int, vs = [.int i, .int j] ∧ (-(2 ^ 62) ≤ i ∧ i < 2 ^ 62 ∧ -(2 ^ 62) ≤ j ∧ j < 2 ^ 62) ∧ R (Itr i (j - i).toNat)
def PR3 (vs : List V) (R : It → Prop) : Prop := ∃ (i j c : Int) (n : Nat), vs = [.int i, .int j, .int c] ∧ RgC i j c n ∧ R (Itc i c n)
theorem r_rng1 {ts : TA} (h : ts σ H fun vs H1 => PR1 vs fun J => R J H1) : iRng1 ts σ H R := h
theorem r_rng2 {ts : TA} (h : ts σ H fun vs H1 => PR2 vs fun J => R J H1) : iRng2 ts σ H R := h
theorem r_rng3 {ts : TA} (h : ts σ H fun vs H1 => PR3 vs fun J => R J H1) : iRng3 ts σ H R := h
theorem r_pr1 {R : It → Prop} (h : -(2 ^ 62) ≤ m ∧ m < 2 ^ 62) (q : R (Itr 0 m.toNat)) : PR1 [.int m] R := ⟨m, rfl, h.1, h.2, q⟩
theorem r_pr2 {R : It → Prop} (h : -(2 ^ 62) ≤ l ∧ l < 2 ^ 62 ∧ -(2 ^ 62) ≤ m ∧ m < 2 ^ 62) (q : R (Itr l (m - l).toNat)) : PR2 [.int l, .int m] R := ⟨l, m, rfl, h, q⟩
theorem r_pr3d {R : It → Prop} (h : -(2 ^ 62) ≤ l ∧ l < 2 ^ 62 ∧ -(2 ^ 62) ≤ m ∧ m < 2 ^ 62) (q : R (Itc l (-1) (l - m).toNat)) : PR3 [.int l, .int m, .int (-1)] R := ⟨l, m, -1, _, rfl, RgC.neg h.1 h.2.1 h.2.2.1 h.2.2.2, q⟩
theorem r_forRange {lo : Int} {n : Nat} (Pv : Nat → L2.St → Hp → Prop) (h0 : Pv 0 σ H)
    (hs : ∀ i σ' H', i < n → Pv i σ' H' → tb { D with nx := Pv (i + 1), ct := Pv (i + 1), bk := D.nx } (σ'.set j (some (.int (lo + (i : Int))))) H')
    (hd : ∀ σ' H', Pv n σ' H' → D.nx σ' H') : PFor (Itr lo n) (gName j) tb D σ H := for_range Pv h0 hs hd
theorem r_forRange0 {n : Nat} (Pv : Nat → L2.St → Hp → Prop) (h0 : Pv 0 σ H)
    (hs : ∀ i σ' H', i < n → Pv i σ' H' → tb { D with nx := Pv (i + 1), ct := Pv (i + 1), bk := D.nx } (σ'.set j (some (.int (i : Int)))) H')
    (hd : ∀ σ' H', Pv n σ' H' → D.nx σ' H') : PFor (Itr 0 n) (gName j) tb D σ H := for_range Pv h0 (fun i σ' H' hi p => by
      show tb _ (σ'.set j (some (.int ((0 : Int) + (i : Int))))) H'
      rw [Int.zero_add]
      exact hs i σ' H' hi p) hd
def PSeqT (K : PySem.W.Frag) (x : V) (H : Hp) (R : It → Hp → Prop) : Prop := ∃ a, x = .ref a ∧ (∃ xs, SqT K H a xs) ∧ R (Itt K a) H
def PSeqL (K : PySem.W.Frag) (x : V) (H : Hp) (R : It → Hp → Prop) : Prop := ∃ a, x = .ref a ∧ (∃ xs, SqL K H a xs) ∧ R (Itl K a) H
def PSeqS (x : V) (H : Hp) (R : It → Hp → Prop) : Prop := ∃ z, x = .str z ∧ R (Its z) H
theorem r_seqT (h : te σ H fun x H1 => PSeqT K x H1 R) : iSeqU K te σ H R := .inr (.inl h)
theorem r_seqL (h : te σ H fun x H1 => PSeqL K x H1 R) : iSeqU K te σ H R := .inl h
theorem r_seqS (h : te σ H fun x H1 => PSeqS x H1 R) : iSeqU K te σ H R := .inr (.inr h)
theorem r_pseqT {a : Addr} {xs : List V} (h : SqT K H a xs) (q : R (Itt K a) H) : PSeqT K (.ref a) H R := ⟨a, rfl, ⟨xs, h⟩, q⟩
theorem r_pseqL {a : Addr} {xs : List V} (h : SqL K H a xs) (q : R (Itl K a) H) : PSeqL K (.ref a) H R := ⟨a, rfl, ⟨xs, h⟩, q⟩
theorem r_pseqS {z : Str} (q : R (Its z) H) : PSeqS (.str z) H R := ⟨z, rfl, q⟩
theorem r_forTup {a : Addr} {xs : List V} (Pv : Nat → L2.St → Hp → Prop) (h0 : Pv 0 σ H) (hl : ∀ i σ' H', i ≤ xs.length → Pv i σ' H' → SqT K H' a xs)
    (hs : ∀ i x σ' H', xs[i]? = some x → Pv i σ' H' → g x σ' H' fun σ2 H2 => tb { D with nx := Pv (i + 1), ct := Pv (i + 1), bk := D.nx } σ2 H2)
    (hd : ∀ σ' H', Pv xs.length σ' H' → D.nx σ' H') : PFor (Itt K a) g tb D σ H := for_tup Pv h0 hl hs hd
theorem r_forLst {a : Addr} {xs : List V} (Pv : Nat → L2.St → Hp → Prop) (h0 : Pv 0 σ H) (hl : ∀ i σ' H', i ≤ xs.length → Pv i σ' H' → SqL K H' a xs)
    (hs : ∀ i x σ' H', xs[i]? = some x → Pv i σ' H' → g x σ' H' fun σ2 H2 => tb { D with nx := Pv (i + 1), ct := Pv (i + 1), bk := D.nx } σ2 H2)
    (hd : ∀ σ' H', Pv xs.length σ' H' → D.nx σ' H') : PFor (Itl K a) g tb D σ H := for_list Pv h0 hl hs hd
/-! ### comprehensions -/
def PLc (J : It) (g : TG) (tt : TT) (te : TE) (vs : List Nat) (σ : L2.St) (H1 : Hp) (Q : VK) : Prop := ∀ D, H1 D = none → ∃ W : Nat → Nat → Hp → Prop, (∃ m, W 0 m (upd H1 D (.lst []))) ∧ ∀ i m H, W i m H →
  (J.stop i H ∧ Q (.ref D) H) ∨ (J.go i H ∧ ∃ Nx : Hp → Prop, (∀ H', Nx H' → ∃ m', m' < m ∧ W (i + 1) m' H') ∧ ∀ x H', J.yld i H x H' → g x (wipe σ vs) H' fun σ2 H2 => wipe σ2 vs = wipe σ vs ∧ tt σ2 H2 fun b H3 =>
    if b = true then te σ2 H3 fun y H4 => ∃ acc, H4 D = some (.lst acc) ∧ acc.length < sizeLine ∧ Nx (upd H4 D (.lst (acc ++ [y]))) else Nx H3)
theorem r_lc {wi : TI} {tt : TT} {vs : List Nat} {Q : VK} (h : wi σ H fun J H1 => PLc J g tt te vs σ H1 Q) : tLc wi g tt te vs σ H Q := h
theorem r_yes {QB : Bool → Hp → Prop} (q : QB true H) : tYes σ H QB := q
/-- the made item goes into the list at D -/
def PAcc (D : Addr) (Nx : Hp → Prop) (y : V) (H : Hp) : Prop := ∃ acc, H D = some (.lst acc) ∧ acc.length < sizeLine ∧ Nx (upd H D (.lst (acc ++ [y])))
theorem r_acc {D : Addr} {Nx : Hp → Prop} {y : V} {acc : List V} (h : H D = some (.lst acc)) (hz : acc.length ≤ 1000000) (k : ∀ H', But D H H' → H' D = some (.lst (acc ++ [y])) → Nx H') : PAcc D Nx y H :=
  ⟨acc, h, by rw [sizeLine_eq]; omega, k _ but_upd upd_same⟩
/-- over a tuple: Pv tells the new list's place, the turn, the heap -/
theorem r_lcT {a : Addr} {xs : List V} {Q : VK} {tt : TT} {vs : List Nat} (Pv : Addr → Nat → Hp → Prop) (hw : ∀ x, wipe ((wipe σ vs).set j (some x)) vs = wipe σ vs)
    (h0 : ∀ D H', H D = none → Same H H' → H' D = some (.lst []) → Pv D 0 H') (hl : ∀ D i H', Pv D i H' → SqT K H' a xs)
    (hs : ∀ D i x H', xs[i]? = some x → Pv D i H' → tt ((wipe σ vs).set j (some x)) H' fun b H3 => if b = true then te ((wipe σ vs).set j (some x)) H3 (fun y H4 => PAcc D (Pv D (i + 1)) y H4) else Pv D (i + 1) H3)
    (hd : ∀ D H', H D = none → Pv D xs.length H' → Q (.ref D) H') : PLc (Itt K a) (gName j) tt te vs σ H Q := by
  intro D hD
  exact lc_tup (xs := xs) (Pv D) (h0 D _ hD (same_new hD) upd_same) (fun i H' _ p => hl D i H' p) (fun i x H' hi p => ⟨hw x, hs D i x H' hi p⟩) (fun H' p => hd D H' hD p)
theorem r_lcL {a : Addr} {xs : List V} {Q : VK} {tt : TT} {vs : List Nat} (Pv : Addr → Nat → Hp → Prop) (hw : ∀ x, wipe ((wipe σ vs).set j (some x)) vs = wipe σ vs)
    (h0 : ∀ D H', H D = none → Same H H' → H' D = some (.lst []) → Pv D 0 H') (hl : ∀ D i H', Pv D i H' → SqL K H' a xs)
    (hs : ∀ D i x H', xs[i]? = some x → Pv D i H' → tt ((wipe σ vs).set j (some x)) H' fun b H3 => if b = true then te ((wipe σ vs).set j (some x)) H3 (fun y H4 => PAcc D (Pv D (i + 1)) y H4) else Pv D (i + 1) H3)
    (hd : ∀ D H', H D = none → Pv D xs.length H' → Q (.ref D) H') : PLc (Itl K a) (gName j) tt te vs σ H Q := by
  intro D hD
  exact lc_list (xs := xs) (Pv D) (h0 D _ hD (same_new hD) upd_same) (fun i H' _ p => hl D i H' p) (fun i x H' hi p => ⟨hw x, hs D i x H' hi p⟩) (fun H' p => hd D H' hD p)
theorem r_lcR {lo : Int} {n : Nat} {Q : VK} {tt : TT} {vs : List Nat} (Pv : Addr → Nat → Hp → Prop) (hw : ∀ x, wipe ((wipe σ vs).set j (some x)) vs = wipe σ vs)
    (h0 : ∀ D H', H D = none → Same H H' → H' D = some (.lst []) → Pv D 0 H')
    (hs : ∀ D i H', i < n → Pv D i H' → tt ((wipe σ vs).set j (some (.int (lo + (i : Int))))) H' fun b H3 => if b = true then te ((wipe σ vs).set j (some (.int (lo + (i : Int))))) H3 (fun y H4 => PAcc D (Pv D (i + 1)) y H4) else Pv D (i + 1) H3)
    (hd : ∀ D H', H D = none → Pv D n H' → Q (.ref D) H') : PLc (Itr lo n) (gName j) tt te vs σ H Q := by
  intro D hD
  exact lc_range (Pv D) (h0 D _ hD (same_new hD) upd_same) (fun i H' hi p => ⟨hw _, hs D i H' hi p⟩) (fun H' p => hd D H' hD p)
/-- the plain case: a tuple's items, each gives a value that its own place and item tell; nothing else is changed -/
theorem r_lcTm {a : Addr} {xs : List V} {Q : VK} {vs : List Nat} (f : Nat → V → V) (hx : SqT K H a xs) (hz : xs.length ≤ 1000000) (hw : ∀ x, wipe ((wipe σ vs).set j (some x)) vs = wipe σ vs)
    (hs : ∀ i x H1 (Q' : VK), xs[i]? = some x → Same H H1 → (∀ H2, Same H1 H2 → Q' (f i x) H2) → te ((wipe σ vs).set j (some x)) H1 Q')
    (hd : ∀ p H', H p = none → Same H H' → H' p = some (.lst ((List.range xs.length).zipWith f xs)) → Q (.ref p) H') : PLc (Itt K a) (gName j) tYes te vs σ H Q := by
  refine r_lcT (xs := xs) (fun D i H' => H D = none ∧ Same H H' ∧ H' D = some (.lst (((List.range xs.length).zipWith f xs).take i))) hw (fun D H' hD s e => ⟨hD, s, by rw [e]; rfl⟩) (fun D i H' p => sqT_same p.2.1 hx) (fun D i x H' hi p => ?_) (fun D H' hD p => ?_)
  · refine r_yes ?_
    refine r_T ?_
    have hil : i < xs.length := (List.getElem?_eq_some_iff.mp hi).1
    refine hs i x H' _ hi p.2.1 (fun H2 s2 => r_acc (s2 _ _ p.2.2) ?_ fun H5 b5 e5 => ⟨p.1, same_but (p.2.1.trans s2) b5 p.1, ?_⟩)
    · rw [List.length_take, List.length_zipWith, List.length_range]; omega
    · rw [e5, List.take_add_one]
      have e : ((List.range xs.length).zipWith f xs)[i]? = some (f i x) := by
        rw [List.getElem?_zipWith, hi, List.getElem?_range hil]
      rw [e]
      rfl
  · refine hd D H' hD p.2.1 ?_
    have e := p.2.2
    rw [List.take_of_length_le (by rw [List.length_zipWith, List.length_range]; omega)] at e
    exact e
end
end Kb

set_option Elab.async false
set_option linter.all false
set_option maxRecDepth 100000
set_option maxHeartbeats 4000000
namespace Kb
open PySem PySem.Spec PyProof.Rows L2

/-! ### data of tuples -/
inductive Dat where | int (i : Int) | bl (b : Bool) | str (s : Str) | non | tup (ds : List Dat)
mutual
def Dat.size : Dat → Nat
  | .tup ds => 1 + Dat.sizes ds
  | _ => 1
def Dat.sizes : List Dat → Nat
  | [] => 0
  | d :: ds => d.size + Dat.sizes ds
end
theorem Dat.size_pos : ∀ d : Dat, 0 < d.size
  | .int _ => by simp [Dat.size]
  | .bl _ => by simp [Dat.size]
  | .str _ => by simp [Dat.size]
  | .non => by simp [Dat.size]
  | .tup _ => by simp [Dat.size]; omega
mutual
inductive Rp (K : PySem.W.Frag) (H : Hp) : V → Dat → Prop
  | int (i : Int) : Rp K H (.int i) (.int i)
  | bl (b : Bool) : Rp K H (.bl b) (.bl b)
  | str (s : Str) : Rp K H (.str s) (.str s)
  | non : Rp K H .non .non
  | tup {a : Addr} {xs : List V} {ds : List Dat} : SqT K H a xs → RpL K H xs ds → Rp K H (.ref a) (.tup ds)
inductive RpL (K : PySem.W.Frag) (H : Hp) : List V → List Dat → Prop
  | nil : RpL K H [] []
  | cons {v : V} {vs : List V} {d : Dat} {ds : List Dat} : Rp K H v d → RpL K H vs ds → RpL K H (v :: vs) (d :: ds)
end
section
variable {K : PySem.W.Frag} {H H' : Hp} {l : Addr} {ys : List V}
/-- tuples stay -/
def TK (K : PySem.W.Frag) (H H' : Hp) : Prop := ∀ a xs, SqT K H a xs → SqT K H' a xs
theorem tk_same (s : Same H H') : TK K H H' := fun _ _ h => sqT_same s h
theorem tk_but (b : But l H H') (hl : H l = some (.lst ys)) : TK K H H' := fun _ _ h => sqT_but b hl h
mutual
theorem rp_keep (k : TK K H H') : ∀ {v : V} {d : Dat}, Rp K H v d → Rp K H' v d
  | _, _, .int i => .int i
  | _, _, .bl b => .bl b
  | _, _, .str s => .str s
  | _, _, .non => .non
  | _, _, .tup h hr => .tup (k _ _ h) (rpL_keep k hr)
theorem rpL_keep (k : TK K H H') : ∀ {vs : List V} {ds : List Dat}, RpL K H vs ds → RpL K H' vs ds
  | _, _, .nil => .nil
  | _, _, .cons h hr => .cons (rp_keep k h) (rpL_keep k hr)
end
theorem rp_same {v : V} {d : Dat} (s : Same H H') (h : Rp K H v d) : Rp K H' v d := rp_keep (tk_same s) h
theorem rp_but {v : V} {d : Dat} (b : But l H H') (hl : H l = some (.lst ys)) (h : Rp K H v d) : Rp K H' v d := rp_keep (tk_but b hl) h
theorem rpL_length : ∀ {vs : List V} {ds : List Dat}, RpL K H vs ds → vs.length = ds.length
  | _, _, .nil => rfl
  | _, _, .cons _ hr => by simp [rpL_length hr]
theorem rpL_get : ∀ {vs : List V} {ds : List Dat} {i : Nat} {d : Dat}, RpL K H vs ds → ds[i]? = some d → ∃ v, vs[i]? = some v ∧ Rp K H v d
  | _, _, _, _, .nil, e => by simp at e
  | _, _, 0, _, .cons h _, e => by simp at e; subst e; exact ⟨_, rfl, h⟩
  | _, _, i + 1, _, .cons _ hr, e => by
    obtain ⟨v, h1, h2⟩ := rpL_get (i := i) hr (by simpa using e)
    exact ⟨v, by simpa using h1, h2⟩
theorem rpL_ints (ns : List Int) : RpL K H (ns.map V.int) (ns.map Dat.int) := by
  induction ns with
  | nil => exact .nil
  | cons n ns ih => exact .cons (.int n) ih
theorem rp_ints {a : Addr} {ns : List Int} (h : SqT K H a (ns.map V.int)) : Rp K H (.ref a) (.tup (ns.map Dat.int)) := .tup h (rpL_ints ns)
end
/-! ### isinstance -/
section
variable {K : PySem.W.Frag} {H : Hp} {Q : VK}
theorem r_isiT {a : Addr} {xs : List V} {b : Bool} {T : String} (h : SqT K H a xs) (hb : kitB "tuple" T = some b) (q : Q (.bl b) H) : rIsi K [.ref a, .ty T] H Q := by
  refine ⟨.ref a, .ty T, .type "tuple", .type T, b, rfl, .ty T, ?_, kit_ty hb, q⟩
  rcases h with (h | ⟨o, h⟩) | h
  · exact .base (.tup h)
  · exact .fTuple h
  · obtain ⟨o, its, n, h1, h2, _⟩ := h
    exact .kTuple h1 h2
theorem r_isiI {i : Int} {b : Bool} {T : String} (hb : kitB "int" T = some b) (q : Q (.bl b) H) : rIsi K [.int i, .ty T] H Q := ⟨_, _, _, _, b, rfl, .ty T, .base (.int i), kit_ty hb, q⟩
theorem r_isiB {i : Bool} {b : Bool} {T : String} (hb : kitB "bool" T = some b) (q : Q (.bl b) H) : rIsi K [.bl i, .ty T] H Q := ⟨_, _, _, _, b, rfl, .ty T, .base (.bl i), kit_ty hb, q⟩
theorem r_isiS {i : Str} {b : Bool} {T : String} (hb : kitB "str" T = some b) (q : Q (.bl b) H) : rIsi K [.str i, .ty T] H Q := ⟨_, _, _, _, b, rfl, .ty T, .base (.str i), kit_ty hb, q⟩
theorem r_isiN {b : Bool} {T : String} (hb : kitB "NoneType" T = some b) (q : Q (.bl b) H) : rIsi K [.non, .ty T] H Q := ⟨_, _, _, _, b, rfl, .ty T, .base .non, kit_ty hb, q⟩
end

/-! the tactics: rd walks a reading; tk closes a fact about a heap from those ahead of it -/
local macro_rules | `(tactic| walk_at "tk") => `(tactic| first
  | assumption
  | ((with_reducible refine' sqT_of ?k); (case k => assumption))
  | ((with_reducible refine' sqT_ofD ?k); (case k => assumption))
  | ((with_reducible refine' noD_of ?k); (case k => assumption))
  | ((with_reducible refine' noD_same ?s ?k); (case s => assumption); (case k => walk_at "tk"))
  | ((with_reducible refine' sqL_of ?k); (case k => assumption))
  | ((with_reducible refine' sqT_same ?s ?k); (case s => assumption); (case k => walk_at "tk"))
  | ((with_reducible refine' sqL_same ?s ?k); (case s => assumption); (case k => walk_at "tk"))
  | ((with_reducible refine' sqT_but ?s ?t ?k); (case s => assumption); (case t => walk_at "tk"); (case k => walk_at "tk"))
  | ((with_reducible refine' sqL_but ?s ?t ?k); (case s => assumption); (case t => walk_at "ne"); (case k => walk_at "tk"))
  | ((with_reducible refine' sqL_of ?k); (case k => walk_at "tk"))
  | ((with_reducible refine' sqT_of ?k); (case k => walk_at "tk"))
  | ((with_reducible refine' at_same ?s ?k); (case s => assumption); (case k => walk_at "tk"))
  | ((with_reducible refine' at_but ?s ?t ?k); (case s => assumption); (case t => walk_at "ne"); (case k => walk_at "tk")))
local macro_rules | `(tactic| walk_at "ne") => `(tactic| first
  | assumption
  | (refine Ne.symm ?_; assumption)
  | exact ne_of_none (by assumption) (by assumption)
  | exact (ne_of_none (by assumption) (by assumption)).symm)
local macro_rules | `(tactic| walk_at "side") => `(tactic| first
  | assumption
  | omega
  | (simp only [sizeLine_eq, List.length_cons, List.length_nil, List.length_map]; omega)
  | (show _ ≤ sizeLine; decide))
local macro_rules | `(tactic| walk_at "kit") => `(tactic| first
  | (show kitB _ _ = some true; decide +kernel)
  | (show kitB _ _ = some false; decide +kernel))
local macro_rules | `(tactic| walk_at "rng") => `(tactic| first
  | (refine ⟨by omega, by omega, by omega, by omega⟩)
  | (refine ⟨by omega, by omega⟩)
  | ((simp only [List.length_map]); (refine ⟨by omega, by omega, by omega, by omega⟩))
  | ((simp only [List.length_map]); (refine ⟨by omega, by omega⟩)))
local macro_rules | `(tactic| walk_at "rd1") => `(tactic| first
  | with_reducible refine r_seq ?_
  | ((with_reducible refine' r_var ?k0 ?_); (case k0 => rfl))
  | with_reducible refine r_op ?_
  | with_reducible refine r_c ?_
  | with_reducible refine r_asg ?_
  | with_reducible refine r_name ?_
  | with_reducible refine r_cons ?_
  | with_reducible refine r_nil ?_
  | with_reducible refine r_CB ?_
  | with_reducible refine r_if ?_
  | with_reducible refine r_test ?_
  | with_reducible refine r_k ?_
  | with_reducible refine r_T ?_
  | with_reducible refine r_F ?_
  | with_reducible refine r_nT ?_
  | with_reducible refine r_nF ?_
  | with_reducible refine r_ret ?_
  | with_reducible refine r_drop ?_
  | with_reducible refine r_next ?_
  | with_reducible refine r_call ?_
  | with_reducible refine r_addI ?_
  | with_reducible refine r_subI ?_
  | with_reducible refine r_ltI ?_
  | with_reducible refine r_gtI ?_
  | with_reducible refine r_leI ?_
  | with_reducible refine r_geI ?_
  | with_reducible refine r_eqI ?_
  | with_reducible refine r_neI ?_
  | with_reducible refine r_int ?_
  | with_reducible refine r_abs ?_
  | with_reducible refine r_not ?_
  | with_reducible refine r_and ?_
  | with_reducible refine r_or ?_
  | with_reducible refine r_tru ?_
  | with_reducible refine r_truB ?_
  | with_reducible refine r_lst ?_
  | with_reducible refine r_tup ?_
  | with_reducible refine r_BM ?_
  | with_reducible refine r_BM0 ?_
  | with_reducible refine r_tyS ?_
  | with_reducible refine r_gsub ?_
  | with_reducible refine r_then ?_
  | with_reducible refine r_lstRg ?_
  | with_reducible refine r_tupRg ?_
  | with_reducible refine r_rg2 ?_
  | with_reducible refine r_rg1 ?_
  | with_reducible refine r_ii ?_
  | with_reducible refine r_i ?_
  | with_reducible refine r_ipI ?_
  | with_reducible refine r_un ?_
  | with_reducible refine r_neg ?_
  | with_reducible refine r_isN ?_
  | with_reducible refine r_notN ?_
  | with_reducible refine r_notV ?_
  | with_reducible refine r_pnot ?_
  | with_reducible refine r_pif ?_
  | with_reducible refine r_andV ?_
  | with_reducible refine r_orV ?_
  | with_reducible refine r_ifE ?_
  | with_reducible refine r_chain ?_
  | with_reducible refine r_sl ?_
  | with_reducible refine r_noPart ?_
  | with_reducible refine r_part ?_
  | with_reducible refine r_brk ?_
  | with_reducible refine r_cont ?_
  | with_reducible refine r_retN ?_
  | with_reducible refine r_truI ?_
  | with_reducible refine r_B ?_
  | with_reducible refine r_for ?_
  | with_reducible refine r_rng1 ?_
  | with_reducible refine r_rng2 ?_
  | with_reducible refine r_rng3 ?_
  | with_reducible refine r_body ?_
  | with_reducible refine r_lc ?_
  | with_reducible refine r_yes ?_
  | ((with_reducible refine' r_mod ?k0 ?_); (case k0 => walk_at "side"))
  | ((with_reducible refine' r_mulI ?k0 ?_); (case k0 => first | exact Or.inl ⟨by omega, by omega⟩ | exact Or.inr ⟨by omega, by omega⟩))
  | ((with_reducible refine' r_lenL ?k0 ?_); (case k0 => walk_at "tk"))
  | ((with_reducible refine' r_lenT ?k0 ?_); (case k0 => walk_at "tk"))
  | ((with_reducible refine' r_truL ?k0 ?_); (case k0 => walk_at "tk"))
  | ((with_reducible refine' r_truT ?k0 ?_); (case k0 => walk_at "tk"))
  | ((with_reducible refine' r_ixL ?k0 ?k1 ?_); (case k0 => walk_at "tk"); (case k1 => first | assumption | rfl))
  | ((with_reducible refine' r_ixT ?k0 ?k1 ?_); (case k0 => walk_at "tk"); (case k1 => first | assumption | rfl))
  | ((with_reducible refine' r_new ?k0 ?_); (case k0 => walk_at "side"))
  | ((with_reducible refine' r_tyL ?k0 ?_); (case k0 => walk_at "tk"))
  | ((with_reducible refine' r_append ?k0 ?k1 ?_); (case k0 => walk_at "tk"); (case k1 => walk_at "side"))
  | ((with_reducible refine' r_setL ?k0 ?k1 ?_); (case k0 => walk_at "tk"); (case k1 => first | assumption | rfl))
  | ((with_reducible refine' r_kTupL ?k0 ?_); (case k0 => walk_at "tk"))
  | ((with_reducible refine' r_kTupT ?k0 ?_); (case k0 => walk_at "tk"))
  | ((with_reducible refine' r_listL ?k0 ?_); (case k0 => walk_at "tk"))
  | ((with_reducible refine' r_listT ?k0 ?_); (case k0 => walk_at "tk"))
  | ((with_reducible refine' r_aug ?k0 ?_); (case k0 => rfl))
  | ((with_reducible refine' r_lenS ?k0 ?_); (case k0 => walk_at "side"))
  | ((with_reducible refine' r_pop ?k0 ?_); (case k0 => walk_at "tk"))
  | ((with_reducible refine' r_pr1 ?k0 ?_); (case k0 => walk_at "rng"))
  | ((with_reducible refine' r_pr2 ?k0 ?_); (case k0 => walk_at "rng"))
  | ((with_reducible refine' r_pr3d ?k0 ?_); (case k0 => walk_at "rng"))
  | ((with_reducible refine' r_isiI ?k0 ?_); (case k0 => walk_at "kit"))
  | ((with_reducible refine' r_isiB ?k0 ?_); (case k0 => walk_at "kit"))
  | ((with_reducible refine' r_isiS ?k0 ?_); (case k0 => walk_at "kit"))
  | ((with_reducible refine' r_isiN ?k0 ?_); (case k0 => walk_at "kit"))
  | ((with_reducible refine' r_isiT ?k0 ?k1 ?_); (case k0 => walk_at "tk"); (case k1 => walk_at "kit"))
  | ((with_reducible refine r_seqT ?_); (repeat (walk_at "rd1")); ((with_reducible refine' r_pseqT ?k0 ?_); (case k0 => walk_at "tk")))
  | ((with_reducible refine r_seqL ?_); (repeat (walk_at "rd1")); ((with_reducible refine' r_pseqL ?k0 ?_); (case k0 => walk_at "tk")))
  | ((with_reducible refine r_seqS ?_); (repeat (walk_at "rd1")); (with_reducible refine r_pseqS ?_)))
local macro_rules | `(tactic| walk_at "rd") => `(tactic| ((repeat (walk_at "rd1")); (try dsimp only)))

/-! ### _law_same: it says True of two values of one datum -/
def sp_law_same (K : PySem.W.Frag) : Sp := fun vs H Q _ => ∃ (x y : V) (d : Dat), vs = [x, y] ∧ Rp K H x d ∧ Rp K H y d ∧ d.size ≤ 1000000 ∧ ∀ H', Same H H' → Q (.bl true) H'
abbrev N_law_same : List Str := ["got", "due", "stack", "pair", "k"]
def t_law_same (K : PySem.W.Frag) : TS :=
  tSeq (tAsg ((tLst (tCons ((tLst (tCons (tVar 0) (tCons (tVar 1) tNil)))) tNil))) (gName 2))
  (tSeq (tWhile ((tTru K (tVar 2))) (tSeq (tAsg ((tBM0 K "list" rPop (tVar 2))) (gName 3))
  ((tIfS ((tTru K ((tCB (rIsi K) (tCons ((tOp (rIx K) (tVar 3) ((tC (.int 1))))) (tCons ((tC (.ty "tuple"))) tNil)))))) (tSeq (tIfS ((tOr ((tNot ((tTru K ((tCB (rIsi K) (tCons ((tOp (rIx K) (tVar 3) ((tC (.int 0))))) (tCons ((tC (.ty "tuple"))) tNil)))))))) ((tTest (tOp (rNeU K) ((tCB (rLenU K) (tCons ((tOp (rIx K) (tVar 3) ((tC (.int 0))))) tNil))) ((tCB (rLenU K) (tCons ((tOp (rIx K) (tVar 3) ((tC (.int 1))))) tNil)))))))) ((tRet ((tC (.bl false))))) (tNext))
  ((tFor (iRng1 (tCons ((tCB (rLenU K) (tCons ((tOp (rIx K) (tVar 3) ((tC (.int 1))))) tNil))) tNil)) (gName 4) ((tDrop ((tBM K "list" rAppend (tVar 2) (tCons ((tLst (tCons ((tOp (rIx K) ((tOp (rIx K) (tVar 3) ((tC (.int 0))))) (tVar 4))) (tCons ((tOp (rIx K) ((tOp (rIx K) (tVar 3) ((tC (.int 1))))) (tVar 4))) tNil)))) tNil)))))))) ((tIfS ((tTru K ((tCB (rIsi K) (tCons ((tOp (rIx K) (tVar 3) ((tC (.int 1))))) (tCons ((tC (.ty "bool"))) tNil)))))) ((tIfS ((tOr ((tNot ((tTru K ((tCB (rIsi K) (tCons ((tOp (rIx K) (tVar 3) ((tC (.int 0))))) (tCons ((tC (.ty "bool"))) tNil)))))))) ((tTest (tOp (rNeU K) ((tOp (rIx K) (tVar 3) ((tC (.int 0))))) ((tOp (rIx K) (tVar 3) ((tC (.int 1)))))))))) ((tRet ((tC (.bl false))))) (tNext))) ((tIfS ((tTru K ((tCB (rIsi K) (tCons ((tOp (rIx K) (tVar 3) ((tC (.int 1))))) (tCons ((tC (.ty "int"))) tNil)))))) ((tIfS ((tOr ((tNot ((tTru K ((tCB (rIsi K) (tCons ((tOp (rIx K) (tVar 3) ((tC (.int 0))))) (tCons ((tC (.ty "int"))) tNil)))))))) ((tOr ((tTru K ((tCB (rIsi K) (tCons ((tOp (rIx K) (tVar 3) ((tC (.int 0))))) (tCons ((tC (.ty "bool"))) tNil)))))) ((tTest (tOp (rNeU K) ((tOp (rIx K) (tVar 3) ((tC (.int 0))))) ((tOp (rIx K) (tVar 3) ((tC (.int 1)))))))))))) ((tRet ((tC (.bl false))))) (tNext))) ((tIfS ((tTru K ((tCB (rIsi K) (tCons ((tOp (rIx K) (tVar 3) ((tC (.int 1))))) (tCons ((tC (.ty "str"))) tNil)))))) ((tIfS ((tOr ((tNot ((tTru K ((tCB (rIsi K) (tCons ((tOp (rIx K) (tVar 3) ((tC (.int 0))))) (tCons ((tC (.ty "str"))) tNil)))))))) ((tTest (tOp (rNeU K) ((tOp (rIx K) (tVar 3) ((tC (.int 0))))) ((tOp (rIx K) (tVar 3) ((tC (.int 1)))))))))) ((tRet ((tC (.bl false))))) (tNext))) ((tIfS ((tTest (tOp rNotNU ((tOp (rIx K) (tVar 3) ((tC (.int 0))))) ((tC .non))))) ((tRet ((tC (.bl false))))) (tNext)))))))))))))
  ((tRet ((tC (.bl true))))))


theorem len_law_same {K : PySem.W.Frag} {vs : List V} {H : Hp} {Q : VK} {E : XK} (h : sp_law_same K vs H Q E) : vs.length = 2 := by
  obtain ⟨x, y, d, rfl, _⟩ := h; rfl
theorem r_neSame {K : PySem.W.Frag} {x : V} {H : Hp} {Q : VK} (h : scal x x = true) (q : Q (.bl false) H) : rNeU K x x H Q := .inl ⟨h, by rw [decide_eq_true rfl]; exact q⟩
structure Item where
  q : Addr
  x : V
  y : V
  d : Dat
def Items (K : PySem.W.Frag) (H : Hp) (s : Addr) (its : List Item) : Prop := ∀ it ∈ its, it.q ≠ s ∧ H it.q = some (.lst [it.x, it.y]) ∧ Rp K H it.x it.d ∧ Rp K H it.y it.d
theorem Items.same {K : PySem.W.Frag} {H H' : Hp} {s : Addr} {its : List Item} (h : Items K H s its) (e : Same H H') : Items K H' s its := fun it hi =>
  let ⟨a, b, c, d⟩ := h it hi
  ⟨a, e _ _ b, rp_same e c, rp_same e d⟩
theorem Items.but {K : PySem.W.Frag} {H H' : Hp} {s : Addr} {its : List Item} {ys : List V} (h : Items K H s its) (e : But s H H') (hs : H s = some (.lst ys)) : Items K H' s its := fun it hi =>
  let ⟨a, b, c, d⟩ := h it hi
  ⟨a, e _ _ a b, rp_but e hs c, rp_but e hs d⟩
def total (its : List Item) : Nat := (its.map fun it => it.d.size).sum
def refs (its : List Item) : List V := its.map fun it => .ref it.q
theorem total_append (a b : List Item) : total (a ++ b) = total a + total b := by simp [total]
theorem refs_append (a b : List Item) : refs (a ++ b) = refs a ++ refs b := by simp [refs]
theorem length_le_total : ∀ its : List Item, its.length ≤ total its
  | [] => Nat.le_refl _
  | it :: r => by
    have h1 := length_le_total r
    have h2 := it.d.size_pos
    show r.length + 1 ≤ total ([it] ++ r)
    rw [total_append]
    simp [total] at *
    omega
theorem sizes_take : ∀ (ds : List Dat) (i : Nat) (d : Dat), ds[i]? = some d → Dat.sizes (ds.take (i + 1)) = Dat.sizes (ds.take i) + d.size
  | [], _, _, h => by simp at h
  | e :: r, 0, d, h => by simp at h; subst h; simp [Dat.sizes]
  | e :: r, i + 1, d, h => by
    have := sizes_take r i d (by simpa using h)
    simp only [List.take_succ_cons, Dat.sizes, this]
    omega
theorem sizes_take_le : ∀ (ds : List Dat) (i : Nat), Dat.sizes (ds.take i) ≤ Dat.sizes ds
  | [], i => by simp [Dat.sizes]
  | e :: r, 0 => by simp [Dat.sizes]
  | e :: r, i + 1 => by
    have := sizes_take_le r i
    simp only [List.take_succ_cons, Dat.sizes]
    omega
theorem len_sizes : ∀ (ds : List Dat), ds.length ≤ Dat.sizes ds
  | [] => by simp [Dat.sizes]
  | e :: r => by
    have := len_sizes r
    have := e.size_pos
    simp only [List.length_cons, Dat.sizes]
    omega
theorem pure_law_same {K : PySem.W.Frag} {vs : List V} {H : Hp} {Q : VK} {E : XK} (h : sp_law_same K vs H Q E) : t_law_same K (En Q) (start N_law_same vs) H := by
  obtain ⟨x0, y0, d0, rfl, hx0, hy0, hd0, q⟩ := h
  unfold t_law_same
  walk_at "rd"
  intro p1 H1 np1 s1 e1
  walk_at "rd"
  intro st H2 nst s2 e2
  walk_at "rd"
  have hne : p1 ≠ st := ne_of_none e1 nst
  refine r_while (fun m σ H' => ∃ (its : List Item) (z3 z4 : Option V), σ = [some x0, some y0, some (.ref st), z3, z4] ∧ Same H H' ∧ H st = none ∧ H' st = some (.lst (refs its)) ∧ Items K H' st its ∧ m = total its ∧ m ≤ 1000000) d0.size
    ⟨[⟨p1, x0, y0, d0⟩], none, none, rfl, s1.trans s2, s1.free nst, e2, ?_, ?_, hd0⟩ (fun m σ H' hW => ?_)
  · intro it hi
    rw [List.mem_singleton] at hi
    subst hi
    exact ⟨hne, s2 _ _ e1, rp_same (s1.trans s2) hx0, rp_same (s1.trans s2) hy0⟩
  · simp [total]
  obtain ⟨its, z3, z4, rfl, s3, nst0, e3, hI, rfl, hm⟩ := hW
  walk_at "rd"
  rcases List.eq_nil_or_concat its with rfl | ⟨rest, it, rfl⟩
  · -- the stack is empty
    refine r_F ?_
    walk_at "rd"
    exact q _ s3
  · rw [List.concat_eq_append] at *
    have hb : (!(refs (rest ++ [it])).isEmpty) = true := by rw [refs_append]; simp [refs]
    rw [if_pos hb]
    have e3' : H' st = some (.lst (refs rest ++ [.ref it.q])) := by rw [e3, refs_append]; rfl
    obtain ⟨hq, eq, hx, hy⟩ := hI it (by simp)
    have hR : Items K H' st rest := fun i hi => hI i (by simp [hi])
    obtain ⟨q0, x, y, d⟩ := it
    dsimp only at hq eq hx hy e3'
    have ht : total (rest ++ [⟨q0, x, y, d⟩]) = total rest + d.size := by rw [total_append]; simp [total]
    rw [ht] at hm ⊢
    walk_at "rd"
    intro H4 b4 e4
    have eq4 : H4 q0 = some (.lst [x, y]) := b4 _ _ hq eq
    have hx4 := rp_but b4 e3' hx
    have hy4 := rp_but b4 e3' hy
    have hR4 := hR.but b4 e3'
    have s4 : Same H H4 := same_but s3 b4 nst0
    have dp := d.size_pos
    have fin : ∃ m', m' < total rest + d.size ∧ ∃ (its : List Item) (y3 y4 : Option V), ([some x0, some y0, some (.ref st), some (.ref q0), z4] : L2.St) = [some x0, some y0, some (.ref st), y3, y4] ∧ Same H H4 ∧ H st = none ∧ H4 st = some (.lst (refs its)) ∧ Items K H4 st its ∧ m' = total its ∧ m' ≤ 1000000 :=
      ⟨total rest, by omega, rest, _, _, rfl, s4, nst0, e4, hR4, rfl, by omega⟩
    walk_at "rd"
    cases hy4 with
    | @tup b ys ds hbt hrb =>
      cases hx4 with
      | @tup a xs _ ha hra =>
        have lx := rpL_length hra
        have ly := rpL_length hrb
        walk_at "rd"
        rw [lx, ly]
        refine r_iteNP rfl ?_
        walk_at "rd"
        have hl := len_sizes ds
        have hs : (Dat.tup ds).size = 1 + Dat.sizes ds := by simp [Dat.size]
        refine r_pr1 ⟨by omega, by omega⟩ ?_
        rw [Int.toNat_natCast, ly]
        refine r_forRange0 (fun i σ' H' => ∃ (its : List Item) (z : Option V), σ' = [some x0, some y0, some (.ref st), some (.ref q0), z] ∧ Same H H' ∧ H' st = some (.lst (refs its)) ∧ Items K H' st its ∧ total its = total rest + Dat.sizes (ds.take i) ∧
          H' q0 = some (.lst [.ref a, .ref b]) ∧ SqT K H' a xs ∧ SqT K H' b ys ∧ RpL K H' xs ds ∧ RpL K H' ys ds)
          ⟨rest, _, rfl, s4, e4, hR4, by simp [Dat.sizes], eq4, ha, hbt, hra, hrb⟩ (fun i σ' H5 hi hP => ?_) (fun σ' H5 hP => ?_)
        · obtain ⟨its, z, rfl, s5, e5, hI5, ht5, eq5, ha5, hb5, hra5, hrb5⟩ := hP
          have hd : ds[i]? = some ds[i] := List.getElem?_eq_getElem hi
          obtain ⟨vx, gx, rx⟩ := rpL_get hra5 hd
          obtain ⟨vy, gy, ry⟩ := rpL_get hrb5 hd
          have gx' := atI_nat gx
          have gy' := atI_nat gy
          walk_at "rd"
          intro p H6 np s6 e6
          have hpq : p ≠ st := (ne_of_none e5 np).symm
          have e56 := s6 _ _ e5
          have hle : Dat.sizes (ds.take (i + 1)) ≤ Dat.sizes ds := sizes_take_le ds _
          have h1 := sizes_take ds i _ hd
          have h2 := (ds[i]).size_pos
          have hz : (refs its).length ≤ total its := by rw [show (refs its).length = its.length by simp [refs]]; exact length_le_total its
          walk_at "rd"
          intro H7 b7 e7
          walk_at "rd"
          refine ⟨its ++ [⟨p, vx, vy, ds[i]⟩], _, rfl, same_but (s5.trans s6) b7 nst0, by rw [e7, refs_append]; rfl, ?_, ?_, b7 _ _ hq (s6 _ _ eq5), sqT_but b7 e56 (sqT_same s6 ha5), sqT_but b7 e56 (sqT_same s6 hb5), rpL_keep (tk_but b7 e56) (rpL_keep (tk_same s6) hra5), rpL_keep (tk_but b7 e56) (rpL_keep (tk_same s6) hrb5)⟩
          · intro it hit
            rcases List.mem_append.mp hit with hit | hit
            · exact ((hI5.same s6).but b7 e56) it hit
            · rw [List.mem_singleton] at hit
              subst hit
              exact ⟨hpq, b7 _ _ hpq e6, rp_but b7 e56 (rp_same s6 rx), rp_but b7 e56 (rp_same s6 ry)⟩
          · rw [total_append, ht5, h1]
            simp [total]
            omega
        · obtain ⟨its, z, rfl, s5, e5, hI5, ht5, eq5, ha5, hb5, hra5, hrb5⟩ := hP
          rw [List.take_length] at ht5
          exact ⟨total its, by omega, its, _, _, rfl, s5, nst0, e5, hI5, rfl, by omega⟩
    | bl c =>
      cases hx4 with
      | bl _ =>
        walk_at "rd"
        refine r_neSame rfl ?_
        walk_at "rd"
        exact fin
    | int c =>
      cases hx4 with
      | int _ =>
        walk_at "rd"
        refine r_iteNP rfl ?_
        walk_at "rd"
        exact fin
    | str c =>
      cases hx4 with
      | str _ =>
        walk_at "rd"
        refine r_neSame rfl ?_
        walk_at "rd"
        exact fin
    | non =>
      cases hx4 with
      | non =>
        walk_at "rd"
        refine r_iteNP rfl ?_
        walk_at "rd"
        exact fin
end Kb

/-! M03: rows as lists of ints: walks, their least bells, order, inversions. Plain Lean. -/
set_option maxRecDepth 100000
set_option linter.all false
namespace Kb
def IsRow (r : List Int) (n : Nat) : Prop := r.length = n ∧ r.Nodup ∧ ∀ x ∈ r, 1 ≤ x ∧ x ≤ (n : Int)
def mulR (x y : List Int) : List Int := y.map fun b => x.getD (b - 1).toNat 0
def roundsR (n : Nat) : List Int := (List.range n).map fun (i : Nat) => 1 + (i : Int)
def nx (r : List Int) (b : Int) : Int := r.getD (b - 1).toNat 0
def itr (r : List Int) : Nat → Int → Int
  | 0, b => b
  | k + 1, b => nx r (itr r k b)
def per (r : List Int) (b : Int) : Nat := ((List.range r.length).find? fun k => decide (itr r (k + 1) b = b)).getD 0 + 1
def orbit (r : List Int) (b : Int) : List Int := (List.range (per r b)).map fun k => itr r k b
def isMin (r : List Int) (b : Int) : Bool := (orbit r b).all fun x => decide (b ≤ x)
def cyc (r : List Int) : List (List Int) := ((roundsR r.length).filter (isMin r)).map (orbit r)
def ordL (cs : List (List Int)) : Nat := cs.foldl (fun a c => Nat.lcm a c.length) 1
def inv : List Int → Nat
  | [] => 0
  | x :: w => (w.filter fun y => decide (y < x)).length + inv w

/-! ### pigeonhole -/
theorem nodup_inj {α : Type} {l : List α} (nd : l.Nodup) {i j : Nat} {hi : i < l.length} {hj : j < l.length} (e : l[i] = l[j]) : i = j := by
  rw [List.nodup_iff_pairwise_ne, List.pairwise_iff_getElem] at nd
  rcases Nat.lt_trichotomy i j with h | h | h
  · exact absurd e (nd i j hi hj h)
  · exact h
  · exact absurd e.symm (nd j i hj hi h)
theorem nodup_erase_len {α : Type} [DecidableEq α] {l : List α} {x : α} (h : x ∈ l) : (l.erase x).length + 1 = l.length := by
  rw [List.length_erase_of_mem h]
  have := List.length_pos_of_mem h
  omega
theorem nodup_le : ∀ (n : Nat) (l : List Int), l.Nodup → (∀ x ∈ l, 1 ≤ x ∧ x ≤ (n : Int)) → l.length ≤ n
  | 0, l, _, h => by
    cases l with
    | nil => exact Nat.le_refl _
    | cons x r => have := h x List.mem_cons_self; omega
  | n + 1, l, nd, h => by
    by_cases hm : ((n : Int) + 1) ∈ l
    · have h1 := nodup_le n (l.erase ((n : Int) + 1)) (nd.erase _) (fun x hx => by
        have h2 := h x (List.mem_of_mem_erase hx)
        have h3 : x ≠ (n : Int) + 1 := fun e => by
          subst e
          exact (List.Nodup.mem_erase_iff nd).mp hx |>.1 rfl
        omega)
      have := nodup_erase_len hm
      omega
    · have := nodup_le n l nd (fun x hx => by
        have h2 := h x hx
        have h3 : x ≠ (n : Int) + 1 := fun e => hm (e ▸ hx)
        omega)
      omega
/-- a row holds every bell -/
theorem row_mem {r : List Int} {n : Nat} (h : IsRow r n) {b : Int} (h1 : 1 ≤ b) (h2 : b ≤ n) : b ∈ r := by
  refine Decidable.byContradiction fun hm => ?_
  have := nodup_le n (b :: r) (List.nodup_cons.mpr ⟨hm, h.2.1⟩) (fun x hx => by
    rcases List.mem_cons.mp hx with rfl | hx
    · exact ⟨h1, h2⟩
    · exact h.2.2 x hx)
  rw [List.length_cons, h.1] at this
  omega
section
variable {r : List Int} {n : Nat} (h : IsRow r n)
include h
theorem nx_get {b : Int} (h1 : 1 ≤ b) (h2 : b ≤ n) : ∃ hl : (b - 1).toNat < r.length, nx r b = r[(b - 1).toNat] := by
  have hl : (b - 1).toNat < r.length := by rw [h.1]; omega
  exact ⟨hl, by unfold nx; rw [List.getD_eq_getElem?_getD, List.getElem?_eq_getElem hl]; rfl⟩
theorem nx_mem {b : Int} (h1 : 1 ≤ b) (h2 : b ≤ n) : 1 ≤ nx r b ∧ nx r b ≤ n := by
  obtain ⟨hl, e⟩ := nx_get h h1 h2
  rw [e]
  exact h.2.2 _ (List.getElem_mem hl)
theorem nx_inj {a b : Int} (ha1 : 1 ≤ a) (ha2 : a ≤ n) (h1 : 1 ≤ b) (h2 : b ≤ n) (e : nx r a = nx r b) : a = b := by
  obtain ⟨hl, e1⟩ := nx_get h h1 h2
  obtain ⟨ha, e2⟩ := nx_get h ha1 ha2
  rw [e1, e2] at e
  have := nodup_inj h.2.1 e
  omega
theorem itr_mem {b : Int} (h1 : 1 ≤ b) (h2 : b ≤ n) : ∀ k, 1 ≤ itr r k b ∧ itr r k b ≤ n
  | 0 => ⟨h1, h2⟩
  | k + 1 => by
    have := itr_mem h1 h2 k
    exact nx_mem h this.1 this.2
omit h in
theorem itr_add (b : Int) (j : Nat) : ∀ k, itr r (j + k) b = itr r k (itr r j b)
  | 0 => rfl
  | k + 1 => by
    show nx r (itr r (j + k) b) = nx r (itr r k (itr r j b))
    rw [itr_add b j k]
theorem itr_inj {a b : Int} (ha1 : 1 ≤ a) (ha2 : a ≤ n) (h1 : 1 ≤ b) (h2 : b ≤ n) : ∀ k, itr r k a = itr r k b → a = b
  | 0, e => e
  | k + 1, e => by
    have x := itr_mem h ha1 ha2 k
    have y := itr_mem h h1 h2 k
    exact itr_inj ha1 ha2 h1 h2 k (nx_inj h x.1 x.2 y.1 y.2 e)
/-- some return within n steps -/
theorem returns {b : Int} (h1 : 1 ≤ b) (h2 : b ≤ n) : ∃ k, k < n ∧ itr r (k + 1) b = b := by
  refine Decidable.byContradiction fun hn => ?_
  have hno : ∀ k, k < n → itr r (k + 1) b ≠ b := fun k hk e => hn ⟨k, hk, e⟩
  have nd : ((List.range (n + 1)).map fun k => itr r k b).Nodup := by
    rw [List.nodup_iff_pairwise_ne, List.pairwise_map]
    refine (List.pairwise_lt_range (n := n + 1)).imp_of_mem (fun {i j} hi hj hij e => ?_)
    rw [List.mem_range] at hi hj
    have e2 : itr r j b = itr r i (itr r (j - i) b) := by
      have := itr_add (r := r) b (j - i) i
      rw [show j - i + i = j by omega] at this
      exact this
    rw [e2] at e
    have hm := itr_mem h h1 h2 (j - i)
    have := itr_inj h h1 h2 hm.1 hm.2 i e
    refine hno (j - i - 1) (by omega) ?_
    rw [show j - i - 1 + 1 = j - i by omega]
    exact this.symm
  have := nodup_le n _ nd (fun x hx => by
    obtain ⟨k, _, rfl⟩ := List.mem_map.mp hx
    exact itr_mem h h1 h2 k)
  simp at this
  omega
theorem per_spec {b : Int} (h1 : 1 ≤ b) (h2 : b ≤ n) : 0 < per r b ∧ per r b ≤ n ∧ itr r (per r b) b = b ∧ ∀ k, 0 < k → k < per r b → itr r k b ≠ b := by
  obtain ⟨k, hk, ek⟩ := returns h h1 h2
  unfold per
  rw [h.1]
  cases e : (List.range n).find? (fun k => decide (itr r (k + 1) b = b)) with
  | none =>
    rw [List.find?_eq_none] at e
    exact absurd (decide_eq_true ek) (e k (List.mem_range.mpr hk))
  | some m =>
    have hm := List.find?_some e
    have hr := List.mem_range.mp (List.mem_of_find?_eq_some e)
    refine ⟨Nat.succ_pos _, hr, of_decide_eq_true hm, fun j hj hl ej => ?_⟩
    have hl : j < m + 1 := hl
    rw [List.find?_range_eq_some] at e
    have := e.2.2 (j - 1) (by omega)
    rw [show j - 1 + 1 = j by omega] at this
    simp [ej] at this
theorem itr_per {b : Int} (h1 : 1 ≤ b) (h2 : b ≤ n) : ∀ q k, itr r (per r b * q + k) b = itr r k b
  | 0, k => by rw [Nat.mul_zero, Nat.zero_add]
  | q + 1, k => by
    rw [show per r b * (q + 1) + k = per r b + (per r b * q + k) by rw [Nat.mul_succ]; omega, itr_add, (per_spec h h1 h2).2.2.1, itr_per h1 h2 q k]
/-- the walk is back exactly at the multiples of its length -/
theorem back_iff {b : Int} (h1 : 1 ≤ b) (h2 : b ≤ n) (m : Nat) : itr r m b = b ↔ per r b ∣ m := by
  have p := per_spec h h1 h2
  constructor
  · intro e
    have e2 := itr_per h h1 h2 (m / per r b) (m % per r b)
    rw [Nat.div_add_mod] at e2
    rw [e] at e2
    refine Nat.dvd_of_mod_eq_zero (Decidable.byContradiction fun hz => ?_)
    exact p.2.2.2 (m % per r b) (Nat.pos_of_ne_zero hz) (Nat.mod_lt _ p.1) e2.symm
  · rintro ⟨q, rfl⟩
    have := itr_per h h1 h2 q 0
    exact this
theorem mem_orbit {b x : Int} (h1 : 1 ≤ b) (h2 : b ≤ n) : x ∈ orbit r b ↔ ∃ k, itr r k b = x := by
  have p := per_spec h h1 h2
  unfold orbit
  rw [List.mem_map]
  constructor
  · rintro ⟨k, _, e⟩
    exact ⟨k, e⟩
  · rintro ⟨k, e⟩
    refine ⟨k % per r b, List.mem_range.mpr (Nat.mod_lt _ p.1), ?_⟩
    have := itr_per h h1 h2 (k / per r b) (k % per r b)
    rw [Nat.div_add_mod] at this
    rw [← this, e]
theorem isMin_iff {b : Int} (h1 : 1 ≤ b) (h2 : b ≤ n) : isMin r b = true ↔ ∀ k, b ≤ itr r k b := by
  unfold isMin
  rw [List.all_eq_true]
  constructor
  · intro q k
    exact of_decide_eq_true (q _ ((mem_orbit h h1 h2).mpr ⟨k, rfl⟩))
  · intro q x hx
    obtain ⟨k, rfl⟩ := (mem_orbit h h1 h2).mp hx
    exact decide_eq_true (q k)
/-- being on one walk -/
theorem orbit_symm {a b : Int} (h1 : 1 ≤ a) (h2 : a ≤ n) {k : Nat} (e : itr r k a = b) : ∃ j, itr r j b = a := by
  have p := per_spec h h1 h2
  refine ⟨per r a * k - k, ?_⟩
  rw [← e, ← itr_add]
  have hle : k ≤ per r a * k := Nat.le_mul_of_pos_left k p.1
  rw [show k + (per r a * k - k) = per r a * k + 0 by omega, itr_per h h1 h2]
  rfl
theorem orbit_nodup {b : Int} (h1 : 1 ≤ b) (h2 : b ≤ n) : (orbit r b).Nodup := by
  have p := per_spec h h1 h2
  unfold orbit
  rw [List.nodup_iff_pairwise_ne, List.pairwise_map]
  refine (List.pairwise_lt_range (n := per r b)).imp_of_mem (fun {i j} hi hj hij e => ?_)
  rw [List.mem_range] at hi hj
  have e2 : itr r j b = itr r i (itr r (j - i) b) := by
    have := itr_add (r := r) b (j - i) i
    rw [show j - i + i = j by omega] at this
    exact this
  rw [e2] at e
  have hm := itr_mem h h1 h2 (j - i)
  have := itr_inj h h1 h2 hm.1 hm.2 i e
  exact p.2.2.2 (j - i) (by omega) (by omega) this.symm
/-- a walk's bell is 1 to i at some step -/
def Seen (r : List Int) (i : Nat) (x : Int) : Prop := ∃ k, itr r k x ≤ (i : Int)
omit h in
theorem seen_zero {x : Int} (hx : IsRow r n) (h1 : 1 ≤ x) (h2 : x ≤ n) : ¬ Seen r 0 x := fun ⟨k, e⟩ => by
  have := itr_mem hx h1 h2 k
  omega
theorem seen_min {i : Nat} (h2 : 1 + (i : Int) ≤ n) : isMin r (1 + (i : Int)) = true ↔ ¬ Seen r i (1 + (i : Int)) := by
  rw [isMin_iff h (by omega) h2]
  constructor
  · rintro q ⟨k, e⟩
    have := q k
    omega
  · intro q k
    refine Decidable.byContradiction fun hc => q ⟨k, by omega⟩
theorem seen_succ_no {i : Nat} {x : Int} (hs : Seen r i (1 + (i : Int))) : Seen r (i + 1) x ↔ Seen r i x := by
  constructor
  · rintro ⟨k, e⟩
    by_cases hk : itr r k x = 1 + (i : Int)
    · obtain ⟨j, ej⟩ := hs
      refine ⟨k + j, ?_⟩
      rw [itr_add, hk]
      exact ej
    · exact ⟨k, by omega⟩
  · rintro ⟨k, e⟩
    exact ⟨k, by omega⟩
theorem seen_succ_yes {i : Nat} {x : Int} (h2 : 1 + (i : Int) ≤ n) (hx1 : 1 ≤ x) (hx2 : x ≤ n) : Seen r (i + 1) x ↔ Seen r i x ∨ ∃ k, k < per r (1 + (i : Int)) ∧ itr r k (1 + (i : Int)) = x := by
  have p := per_spec h (by omega) h2
  constructor
  · rintro ⟨k, e⟩
    by_cases hk : itr r k x = 1 + (i : Int)
    · obtain ⟨j, ej⟩ := orbit_symm h hx1 hx2 hk
      have hm : x ∈ orbit r (1 + (i : Int)) := (mem_orbit h (by omega) h2).mpr ⟨j, ej⟩
      unfold orbit at hm
      obtain ⟨k', hk', e'⟩ := List.mem_map.mp hm
      exact .inr ⟨k', List.mem_range.mp hk', e'⟩
    · exact .inl ⟨k, by omega⟩
  · rintro (⟨k, e⟩ | ⟨k, _, e⟩)
    · exact ⟨k, by omega⟩
    · obtain ⟨j, ej⟩ := orbit_symm h (by omega) h2 e
      exact ⟨j, by omega⟩
theorem fresh_step {i j : Nat} (h2 : 1 + (i : Int) ≤ n) (hm : ¬ Seen r i (1 + (i : Int))) (hj : j < per r (1 + (i : Int))) : ¬ (Seen r i (itr r j (1 + (i : Int))) ∨ ∃ k, k < j ∧ itr r k (1 + (i : Int)) = itr r j (1 + (i : Int))) := by
  have p := per_spec h (by omega) h2
  rintro (⟨k, e⟩ | ⟨k, hk, e⟩)
  · exact hm ⟨j + k, by rw [itr_add]; exact e⟩
  · have nd := orbit_nodup h (by omega : (1 : Int) ≤ 1 + (i : Int)) h2
    unfold orbit at nd
    rw [List.nodup_iff_pairwise_ne, List.pairwise_map] at nd
    have := List.pairwise_iff_getElem.mp nd k j (by rw [List.length_range]; omega) (by rw [List.length_range]; omega) hk
    rw [List.getElem_range, List.getElem_range] at this
    exact this e
end

/-! ### the order -/
theorem lcm_room {o l M : Nat} (ho : 0 < o) (hd : o ∣ M) (hle : M ≤ Nat.lcm o l) (hz : ¬ M % l = 0) : M + o ≤ Nat.lcm o l := by
  obtain ⟨c, hc⟩ := hd
  obtain ⟨e, he⟩ := Nat.dvd_lcm_left o l
  have hne : M ≠ Nat.lcm o l := fun h => hz (by rw [h]; exact Nat.mod_eq_zero_of_dvd (Nat.dvd_lcm_right o l))
  subst hc
  rw [he] at hle hne ⊢
  have h1 : c < e := by
    refine Decidable.byContradiction fun hn => ?_
    have : o * e ≤ o * c := Nat.mul_le_mul_left o (by omega)
    exact hne (Nat.le_antisymm hle this)
  have h2 : o * (c + 1) ≤ o * e := Nat.mul_le_mul_left o h1
  rw [Nat.mul_succ] at h2
  exact h2
theorem mem_rounds {n : Nat} {x : Int} : x ∈ roundsR n ↔ 1 ≤ x ∧ x ≤ (n : Int) := by
  unfold roundsR
  rw [List.mem_map]
  constructor
  · rintro ⟨i, hi, rfl⟩
    rw [List.mem_range] at hi
    omega
  · rintro ⟨h1, h2⟩
    exact ⟨(x - 1).toNat, List.mem_range.mpr (by omega), by omega⟩
theorem cyc_mem {r : List Int} {n : Nat} (h : IsRow r n) {c : List Int} (hc : c ∈ cyc r) : ∃ b : Int, 1 ≤ b ∧ b ≤ n ∧ isMin r b = true ∧ c = orbit r b := by
  unfold cyc at hc
  obtain ⟨b, hb, rfl⟩ := List.mem_map.mp hc
  rw [List.mem_filter, h.1, mem_rounds] at hb
  exact ⟨b, hb.1.1, hb.1.2, hb.2, rfl⟩
theorem orbit_len (r : List Int) (b : Int) : (orbit r b).length = per r b := by unfold orbit; rw [List.length_map, List.length_range]
theorem cyc_pos {r : List Int} {n : Nat} (h : IsRow r n) (c : List Int) (hc : c ∈ cyc r) : 0 < c.length := by
  obtain ⟨b, h1, h2, _, rfl⟩ := cyc_mem h hc
  rw [orbit_len]
  exact (per_spec h h1 h2).1
theorem foldl_lcm_pos : ∀ (cs : List (List Int)) (a : Nat), 0 < a → (∀ c ∈ cs, 0 < c.length) → 0 < cs.foldl (fun a c => Nat.lcm a c.length) a
  | [], _, h, _ => h
  | c :: cs, a, h, hc => foldl_lcm_pos cs _ (Nat.lcm_pos h (hc c List.mem_cons_self)) fun d hd => hc d (List.mem_cons_of_mem _ hd)
theorem ordL_pos {r : List Int} {n : Nat} (h : IsRow r n) (i : Nat) : 0 < ordL ((cyc r).take i) :=
  foldl_lcm_pos _ 1 Nat.one_pos fun c hc => cyc_pos h c (List.mem_of_mem_take hc)
theorem foldl_lcm_dvd (m : Nat) : ∀ (cs : List (List Int)) (a : Nat), cs.foldl (fun a c => Nat.lcm a c.length) a ∣ m ↔ a ∣ m ∧ ∀ c ∈ cs, c.length ∣ m
  | [], a => by simp
  | c :: cs, a => by
    show cs.foldl _ (Nat.lcm a c.length) ∣ m ↔ _
    rw [foldl_lcm_dvd m cs]
    constructor
    · rintro ⟨h1, h2⟩
      refine ⟨Nat.dvd_trans (Nat.dvd_lcm_left _ _) h1, fun d hd => ?_⟩
      rcases List.mem_cons.mp hd with rfl | hd
      · exact Nat.dvd_trans (Nat.dvd_lcm_right _ _) h1
      · exact h2 d hd
    · rintro ⟨h1, h2⟩
      exact ⟨Nat.lcm_dvd h1 (h2 c List.mem_cons_self), fun d hd => h2 d (List.mem_cons_of_mem _ hd)⟩

/-! ### powers: pw r m is the product of m + 1 copies -/
def pw (r : List Int) : Nat → List Int
  | 0 => r
  | m + 1 => mulR (pw r m) r
theorem mulR_len (x y : List Int) : (mulR x y).length = y.length := by unfold mulR; rw [List.length_map]
theorem nx_mul {x y : List Int} {n : Nat} (hy : IsRow y n) {b : Int} (h1 : 1 ≤ b) (h2 : b ≤ n) : nx (mulR x y) b = nx x (nx y b) := by
  obtain ⟨hl, e⟩ := nx_get hy h1 h2
  rw [e]
  unfold nx mulR
  rw [List.getD_eq_getElem?_getD, List.getElem?_map, List.getElem?_eq_getElem hl]
  rfl
theorem mulR_row' {x y : List Int} {n : Nat} (hx : IsRow x n) (hy : IsRow y n) : IsRow (mulR x y) n := by
  refine ⟨by rw [mulR_len]; exact hy.1, ?_, ?_⟩
  · unfold mulR
    rw [List.nodup_iff_pairwise_ne, List.pairwise_map]
    refine (List.nodup_iff_pairwise_ne.mp hy.2.1).imp_of_mem (fun {a b} ha hb hne e => hne ?_)
    have h1 := hy.2.2 a ha
    have h2 := hy.2.2 b hb
    exact nx_inj hx h1.1 h1.2 h2.1 h2.2 e
  · intro b hb
    unfold mulR at hb
    obtain ⟨c, hc, rfl⟩ := List.mem_map.mp hb
    have h1 := hy.2.2 c hc
    exact nx_mem hx h1.1 h1.2
theorem pw_row {r : List Int} {n : Nat} (h : IsRow r n) : ∀ m, IsRow (pw r m) n
  | 0 => h
  | m + 1 => mulR_row' (pw_row h m) h
theorem nx_pw {r : List Int} {n : Nat} (h : IsRow r n) {b : Int} (h1 : 1 ≤ b) (h2 : b ≤ n) : ∀ m, nx (pw r m) b = itr r (m + 1) b
  | 0 => rfl
  | m + 1 => by
    have hm := nx_mem h h1 h2
    show nx (mulR (pw r m) r) b = _
    rw [nx_mul h h1 h2]
    have key : ∀ {c : Int}, 1 ≤ c → c ≤ n → nx (pw r m) c = itr r (m + 1) c := fun c1 c2 => nx_pw h c1 c2 m
    rw [key hm.1 hm.2, show itr r (m + 1 + 1) b = itr r (m + 1) (itr r 1 b) by rw [← itr_add, Nat.add_comm 1 (m + 1)]]
    rfl
theorem roundsR_row' (n : Nat) : IsRow (roundsR n) n := by
  refine ⟨by simp [roundsR], ?_, fun x hx => mem_rounds.mp hx⟩
  unfold roundsR
  rw [List.nodup_iff_pairwise_ne, List.pairwise_map]
  exact List.nodup_range.imp fun h e => h (by omega)
theorem nx_rounds {n : Nat} {b : Int} (h1 : 1 ≤ b) (h2 : b ≤ n) : nx (roundsR n) b = b := by
  unfold nx roundsR
  rw [List.getD_eq_getElem?_getD, List.getElem?_map, List.getElem?_range (by omega)]
  show 1 + (((b - 1).toNat : Nat) : Int) = b
  omega
/-- rows are told by their bells -/
theorem row_ext {x y : List Int} {n : Nat} (hx : IsRow x n) (hy : IsRow y n) (e : ∀ b : Int, 1 ≤ b → b ≤ n → nx x b = nx y b) : x = y := by
  refine List.ext_getElem (hx.1.trans hy.1.symm) fun i h1 h2 => ?_
  have hi : i < n := by rw [← hx.1]; exact h1
  have := e (1 + (i : Int)) (by omega) (by omega)
  unfold nx at this
  rw [show (1 + (i : Int) - 1).toNat = i by omega] at this
  rw [List.getD_eq_getElem?_getD, List.getD_eq_getElem?_getD, List.getElem?_eq_getElem h1, List.getElem?_eq_getElem h2] at this
  exact this
/-- a walk's least bell -/
theorem has_min {r : List Int} {n : Nat} (h : IsRow r n) : ∀ (m : Nat) (b : Int), 1 ≤ b → b ≤ n → b ≤ (m : Int) → ∃ k, isMin r (itr r k b) = true
  | 0, b, h1, _, hm => by omega
  | m + 1, b, h1, h2, hm => by
    by_cases hb : isMin r b = true
    · exact ⟨0, hb⟩
    · have : ∃ k, itr r k b < b := by
        refine Classical.byContradiction fun hc => hb ((isMin_iff h h1 h2).mpr fun k => ?_)
        refine Decidable.byContradiction fun hk => hc ⟨k, by omega⟩
      obtain ⟨k, hk⟩ := this
      have hmem := itr_mem h h1 h2 k
      obtain ⟨j, hj⟩ := has_min h m (itr r k b) hmem.1 hmem.2 (by omega)
      exact ⟨k + j, by rw [itr_add]; exact hj⟩
theorem pw_round {r : List Int} {n : Nat} (h : IsRow r n) (m : Nat) : pw r m = roundsR n ↔ ordL (cyc r) ∣ m + 1 := by
  unfold ordL
  rw [foldl_lcm_dvd]
  constructor
  · intro e
    refine ⟨Nat.one_dvd _, fun c hc => ?_⟩
    obtain ⟨b, h1, h2, _, rfl⟩ := cyc_mem h hc
    rw [orbit_len, ← back_iff h h1 h2, ← nx_pw h h1 h2, e, nx_rounds h1 h2]
  · rintro ⟨_, hd⟩
    refine row_ext (pw_row h m) (roundsR_row' n) fun b h1 h2 => ?_
    rw [nx_pw h h1 h2, nx_rounds h1 h2]
    obtain ⟨k, hk⟩ := has_min h n b h1 h2 h2
    have hm := itr_mem h h1 h2 k
    have hc : orbit r (itr r k b) ∈ cyc r := by
      unfold cyc
      refine List.mem_map.mpr ⟨itr r k b, ?_, rfl⟩
      rw [List.mem_filter, h.1, mem_rounds]
      exact ⟨hm, hk⟩
    have := hd _ hc
    rw [orbit_len, ← back_iff h hm.1 hm.2] at this
    obtain ⟨j, hj⟩ := orbit_symm h h1 h2 (k := k) rfl
    rw [← hj]
    rw [← itr_add, Nat.add_comm, itr_add, this]
/-! ### no order is above 60 up to 12 bells -/
theorem cyc_sum {r : List Int} {n : Nat} (h : IsRow r n) : ((cyc r).map List.length).sum ≤ n := by
  rw [← List.length_flatten]
  refine nodup_le n _ ?_ ?_
  · rw [List.nodup_iff_pairwise_ne, List.pairwise_flatten]
    refine ⟨fun c hc => ?_, ?_⟩
    · obtain ⟨b, h1, h2, _, rfl⟩ := cyc_mem h hc
      exact List.nodup_iff_pairwise_ne.mp (orbit_nodup h h1 h2)
    · unfold cyc
      rw [List.pairwise_map]
      have hlt : (roundsR r.length).Pairwise (· < ·) := by
        unfold roundsR
        rw [List.pairwise_map]
        exact List.pairwise_lt_range.imp fun hab => by omega
      refine (hlt.filter _).imp_of_mem (fun {b c} hb hc hbc x hx y hy e => ?_)
      subst e
      rw [List.mem_filter, h.1, mem_rounds] at hb hc
      obtain ⟨k, hk⟩ := (mem_orbit h hb.1.1 hb.1.2).mp hx
      obtain ⟨k', hk'⟩ := (mem_orbit h hc.1.1 hc.1.2).mp hy
      obtain ⟨j, hj⟩ := orbit_symm h hb.1.1 hb.1.2 hk
      have h3 := (isMin_iff h hc.1.1 hc.1.2).mp hc.2 (k' + j)
      rw [itr_add, hk', hj] at h3
      omega
  · intro x hx
    obtain ⟨c, hc, hxc⟩ := List.mem_flatten.mp hx
    obtain ⟨b, h1, h2, _, rfl⟩ := cyc_mem h hc
    obtain ⟨k, rfl⟩ := (mem_orbit h h1 h2).mp hxc
    exact itr_mem h h1 h2 k
def chk : Nat → Nat → Nat → Bool
  | 0, a, _ => decide (a ≤ 60)
  | f + 1, a, s => decide (a ≤ 60) && (List.range s).all fun l => chk f (Nat.lcm a (l + 1)) (s - (l + 1))
theorem chk_le : ∀ (f a s : Nat), chk f a s = true → a ≤ 60
  | 0, a, s, h => of_decide_eq_true h
  | f + 1, a, s, h => of_decide_eq_true (Bool.and_eq_true_iff.mp h).1
theorem chk_ok : ∀ (cs : List (List Int)) (f a s : Nat), chk f a s = true → (∀ c ∈ cs, 0 < c.length) → (cs.map List.length).sum ≤ s → cs.length ≤ f → cs.foldl (fun a c => Nat.lcm a c.length) a ≤ 60
  | [], f, a, s, h, _, _, _ => chk_le f a s h
  | c :: cs, 0, a, s, h, _, _, hl => by simp at hl
  | c :: cs, f + 1, a, s, h, hp, hs, hl => by
    have hc := hp c List.mem_cons_self
    rw [List.map_cons, List.sum_cons] at hs
    have h2 := (Bool.and_eq_true_iff.mp h).2
    rw [List.all_eq_true] at h2
    have h3 := h2 (c.length - 1) (List.mem_range.mpr (by omega))
    rw [show c.length - 1 + 1 = c.length by omega] at h3
    exact chk_ok cs f _ _ h3 (fun d hd => hp d (List.mem_cons_of_mem _ hd)) (by omega) (by simpa using hl)
theorem chk_mono : ∀ (f a s s' : Nat), s' ≤ s → chk f a s = true → chk f a s' = true
  | 0, _, _, _, _, h => h
  | f + 1, a, s, s', hs, h => by
    have h2 := Bool.and_eq_true_iff.mp h
    refine Bool.and_eq_true_iff.mpr ⟨h2.1, ?_⟩
    rw [List.all_eq_true] at h2 ⊢
    intro l hl
    rw [List.mem_range] at hl
    exact chk_mono f _ _ _ (by omega) (h2.2 l (List.mem_range.mpr (by omega)))
theorem chk12 : chk 12 1 12 = true := by decide +kernel
theorem ord_le {r : List Int} {n : Nat} (h : IsRow r n) (hn : n ≤ 12) : ordL (cyc r) ≤ 60 := by
  have hs := cyc_sum h
  refine chk_ok (cyc r) 12 1 12 chk12 (fun c hc => cyc_pos h c hc) (by omega) ?_
  have : ∀ cs : List (List Int), (∀ c ∈ cs, 0 < c.length) → cs.length ≤ (cs.map List.length).sum := by
    intro cs
    induction cs with
    | nil => intro _; exact Nat.le_refl _
    | cons c cs ih =>
      intro hp
      have h1 := ih fun d hd => hp d (List.mem_cons_of_mem _ hd)
      have h2 := hp c List.mem_cons_self
      rw [List.map_cons, List.sum_cons, List.length_cons]
      omega
  have := this (cyc r) fun c hc => cyc_pos h c hc
  omega
/-! ### crossings -/
def cnt (x : Int) (l : List Int) : Nat := (l.filter fun y => decide (y < x)).length
theorem inv_cons (x : Int) (l : List Int) : inv (x :: l) = cnt x l + inv l := rfl
theorem cnt_append (x : Int) (a b : List Int) : cnt x (a ++ b) = cnt x a + cnt x b := by unfold cnt; rw [List.filter_append, List.length_append]
theorem cnt_cons (x y : Int) (l : List Int) : cnt x (y :: l) = (if y < x then 1 else 0) + cnt x l := by
  unfold cnt
  by_cases h : y < x
  · rw [List.filter_cons_of_pos (by simpa using h), if_pos h, List.length_cons]; omega
  · rw [List.filter_cons_of_neg (by simpa using h), if_neg h]; omega
theorem cnt_perm {x : Int} {a b : List Int} (h : a.Perm b) : cnt x a = cnt x b := (h.filter _).length_eq
theorem inv_adj {a b : Int} (h : a ≠ b) (w : List Int) : ∀ u : List Int, (inv (u ++ a :: b :: w) + inv (u ++ b :: a :: w)) % 2 = 1
  | [] => by
    simp only [List.nil_append, inv_cons, cnt_cons]
    by_cases h1 : a < b
    · rw [if_pos h1, if_neg (by omega : ¬ b < a)]; omega
    · rw [if_neg h1, if_pos (by omega : b < a)]; omega
  | x :: u => by
    have ih := inv_adj h w u
    have e : cnt x (u ++ a :: b :: w) = cnt x (u ++ b :: a :: w) := cnt_perm ((List.Perm.swap b a w).append_left u)
    simp only [List.cons_append, inv_cons, e]
    omega
theorem inv_move {b : Int} (w : List Int) : ∀ (v u : List Int), b ∉ v → inv (u ++ v ++ b :: w) % 2 = (inv (u ++ b :: (v ++ w)) + v.length) % 2
  | [], u, _ => by simp
  | c :: v, u, h => by
    have h1 : c ≠ b := fun e => h (e ▸ List.mem_cons_self)
    have ih := inv_move w v (u ++ [c]) fun hm => h (List.mem_cons_of_mem _ hm)
    have h2 := inv_adj h1 (v ++ w) u
    have e1 : u ++ c :: v ++ b :: w = u ++ [c] ++ v ++ b :: w := by simp
    have e2 : u ++ [c] ++ b :: (v ++ w) = u ++ c :: b :: (v ++ w) := by simp
    rw [e1, ih, e2, List.length_cons, List.cons_append]
    omega
theorem inv_swap {a b : Int} (u v w : List Int) (hab : a ≠ b) (ha : a ∉ v) (hb : b ∉ v) : (inv (u ++ a :: (v ++ b :: w)) + inv (u ++ b :: (v ++ a :: w))) % 2 = 1 := by
  have h1 := inv_move (b := b) w (a :: v) u (fun hm => by
    rcases List.mem_cons.mp hm with e | hm
    · exact hab e.symm
    · exact hb hm)
  have h2 := inv_move (b := a) w v (u ++ [b]) ha
  have e1 : u ++ a :: v ++ b :: w = u ++ a :: (v ++ b :: w) := by simp
  have e2 : u ++ [b] ++ v ++ a :: w = u ++ b :: (v ++ a :: w) := by simp
  have e3 : u ++ [b] ++ a :: (v ++ w) = u ++ b :: (a :: v ++ w) := by simp
  rw [e1, List.length_cons] at h1
  rw [e2, e3] at h2
  omega
theorem inv_perm_map {f : Int → Int} {a b : List Int} (h : a.Perm b) (nd : a.Nodup) (inj : ∀ x ∈ a, ∀ y ∈ a, f x = f y → x = y) : (inv a + inv (a.map f)) % 2 = (inv b + inv (b.map f)) % 2 := by
  induction h with
  | nil => rfl
  | cons x h ih =>
    have := ih (List.nodup_cons.mp nd).2 fun y hy z hz => inj y (List.mem_cons_of_mem _ hy) z (List.mem_cons_of_mem _ hz)
    simp only [List.map_cons, inv_cons, cnt_perm h, cnt_perm (h.map f)]
    omega
  | swap x y l =>
    have hxy : y ≠ x := fun e => by subst e; simp at nd
    have hf : f y ≠ f x := fun e => hxy (inj y List.mem_cons_self x (List.mem_cons_of_mem _ List.mem_cons_self) e)
    have h1 := inv_adj hxy l []
    have h2 := inv_adj hf (l.map f) []
    simp only [List.nil_append] at h1 h2
    simp only [List.map_cons]
    omega
  | trans h1 h2 ih1 ih2 =>
    rw [ih1 nd inj]
    exact ih2 (h1.nodup_iff.mp nd) fun x hx y hy => inj x (h1.mem_iff.mpr hx) y (h1.mem_iff.mpr hy)
theorem inv_sorted : ∀ l : List Int, l.Pairwise (· < ·) → inv l = 0
  | [], _ => rfl
  | x :: l, h => by
    rw [List.pairwise_cons] at h
    rw [inv_cons, inv_sorted l h.2]
    unfold cnt
    rw [Nat.add_zero, List.length_eq_zero_iff, List.filter_eq_nil_iff]
    intro y hy
    have := h.1 y hy
    simp
    omega
theorem rounds_lt (n : Nat) : (roundsR n).Pairwise (· < ·) := by
  unfold roundsR
  rw [List.pairwise_map]
  exact List.pairwise_lt_range.imp fun hab => by omega
theorem row_perm {r : List Int} {n : Nat} (h : IsRow r n) : r.Perm (roundsR n) := by
  rw [List.perm_ext_iff_of_nodup h.2.1 (roundsR_row' n).2.1]
  intro x
  rw [mem_rounds]
  exact ⟨h.2.2 x, fun hx => row_mem h hx.1 hx.2⟩
theorem map_rounds {x : List Int} {n : Nat} (hx : IsRow x n) : (roundsR n).map (nx x) = x := by
  refine List.ext_getElem (by rw [List.length_map, hx.1]; simp [roundsR]) fun i h1 h2 => ?_
  have hi : i < n := by rw [← hx.1]; exact h2
  rw [List.getElem_map]
  unfold roundsR nx
  rw [List.getElem_map, List.getElem_range, show (1 + (i : Int) - 1).toNat = i by omega, List.getD_eq_getElem?_getD, List.getElem?_eq_getElem h2]
  rfl
theorem inv_mul {x y : List Int} {n : Nat} (hx : IsRow x n) (hy : IsRow y n) : inv (mulR x y) % 2 = (inv x + inv y) % 2 := by
  have h := inv_perm_map (f := nx x) (row_perm hy) hy.2.1 (fun a ha b hb e => by
    have h1 := hy.2.2 a ha
    have h2 := hy.2.2 b hb
    exact nx_inj hx h1.1 h1.2 h2.1 h2.2 e)
  rw [map_rounds hx, inv_sorted _ (rounds_lt n)] at h
  have e : mulR x y = y.map (nx x) := rfl
  rw [e]
  omega
/-! ### walks when the greatest bell is taken out -/
section
variable {r r' : List Int} {n : Nat} (h : IsRow r (n + 1)) (h' : IsRow r' n) (hrel : ∀ b : Int, 1 ≤ b → b ≤ n → nx r' b = if nx r b = (n : Int) + 1 then nx r ((n : Int) + 1) else nx r b)
include h h' hrel
theorem out_fwd {b : Int} (h1 : 1 ≤ b) (h2 : b ≤ n) : ∀ k, ∃ j, itr r' k b = itr r j b
  | 0 => ⟨0, rfl⟩
  | k + 1 => by
    obtain ⟨j, hj⟩ := out_fwd h1 h2 k
    have hm := itr_mem h' h1 h2 k
    have e := hrel _ hm.1 hm.2
    show ∃ j, nx r' (itr r' k b) = itr r j b
    rw [e]
    by_cases hc : nx r (itr r' k b) = (n : Int) + 1
    · rw [if_pos hc]
      refine ⟨j + 2, ?_⟩
      show _ = nx r (nx r (itr r j b))
      rw [← hj, hc]
    · rw [if_neg hc]
      refine ⟨j + 1, ?_⟩
      show _ = nx r (itr r j b)
      rw [hj]
theorem out_back {b : Int} (h1 : 1 ≤ b) (h2 : b ≤ n) : ∀ k, (∃ j, itr r' j b = itr r k b) ∨ (itr r k b = (n : Int) + 1 ∧ ∃ j, itr r' j b = nx r ((n : Int) + 1))
  | 0 => .inl ⟨0, rfl⟩
  | k + 1 => by
    rcases out_back h1 h2 k with ⟨j, hj⟩ | ⟨he, j, hj⟩
    · have hm := itr_mem h' h1 h2 j
      have e := hrel _ hm.1 hm.2
      by_cases hc : nx r (itr r' j b) = (n : Int) + 1
      · rw [if_pos hc] at e
        refine .inr ⟨?_, j + 1, e⟩
        show nx r (itr r k b) = _
        rw [← hj, hc]
      · rw [if_neg hc] at e
        refine .inl ⟨j + 1, ?_⟩
        show nx r' (itr r' j b) = nx r (itr r k b)
        rw [e, hj]
    · refine .inl ⟨j, ?_⟩
      show _ = nx r (itr r k b)
      rw [he, hj]
theorem out_min {b : Int} (h1 : 1 ≤ b) (h2 : b ≤ n) : isMin r b = isMin r' b := by
  have i1 := isMin_iff h h1 (by omega : b ≤ ((n + 1 : Nat) : Int))
  have i2 := isMin_iff h' h1 h2
  rw [Bool.eq_iff_iff, i1, i2]
  constructor
  · intro q k
    obtain ⟨j, hj⟩ := out_fwd h h' hrel h1 h2 k
    rw [hj]
    exact q j
  · intro q k
    rcases out_back h h' hrel h1 h2 k with ⟨j, hj⟩ | ⟨he, _⟩
    · rw [← hj]
      exact q j
    · omega
theorem out_cyc : (cyc r).length = (cyc r').length + (if nx r ((n : Int) + 1) = (n : Int) + 1 then 1 else 0) := by
  unfold cyc
  rw [List.length_map, List.length_map, h.1, h'.1]
  have e1 : roundsR (n + 1) = roundsR n ++ [1 + (n : Int)] := by
    unfold roundsR
    rw [List.range_succ, List.map_append]
    rfl
  have e2 : (roundsR n).filter (isMin r) = (roundsR n).filter (isMin r') := List.filter_congr fun b hb => by
    have := mem_rounds.mp hb
    exact out_min h h' hrel this.1 this.2
  rw [e1, List.filter_append, List.length_append, e2]
  congr 1
  have hn1 : (1 : Int) ≤ 1 + (n : Int) := by omega
  have hn2 : 1 + (n : Int) ≤ ((n + 1 : Nat) : Int) := by omega
  have hi := isMin_iff h hn1 hn2
  have ec : (1 : Int) + (n : Int) = (n : Int) + 1 := by omega
  by_cases hc : nx r ((n : Int) + 1) = (n : Int) + 1
  · rw [if_pos hc]
    have hall : ∀ k, itr r k (1 + (n : Int)) = 1 + (n : Int) := by
      intro k
      induction k with
      | zero => rfl
      | succ k ih =>
        show nx r (itr r k (1 + (n : Int))) = _
        rw [ih, ec]
        exact hc
    have : isMin r (1 + (n : Int)) = true := hi.mpr fun k => by rw [hall k]; exact Int.le_refl _
    rw [List.filter_cons_of_pos this]
    rfl
  · rw [if_neg hc]
    have : ¬ isMin r (1 + (n : Int)) = true := fun hm => by
      have h3 := hi.mp hm 1
      have h4 := nx_mem h hn1 hn2
      have e : itr r 1 (1 + (n : Int)) = nx r (1 + (n : Int)) := rfl
      rw [e] at h3
      refine hc ?_
      rw [← ec]
      omega
    rw [List.filter_cons_of_neg this]
    rfl
end
theorem nx_append {u w : List Int} {x : Int} {b : Int} (h1 : 1 ≤ b) : nx (u ++ x :: w) b = if (b - 1).toNat < u.length then nx u b else if (b - 1).toNat = u.length then x else w.getD ((b - 1).toNat - u.length - 1) 0 := by
  unfold nx
  rw [List.getD_eq_getElem?_getD, List.getElem?_append]
  by_cases h : (b - 1).toNat < u.length
  · rw [if_pos h, if_pos h, List.getD_eq_getElem?_getD]
  · rw [if_neg h, if_neg h]
    by_cases he : (b - 1).toNat = u.length
    · rw [if_pos he, he, Nat.sub_self]
      rfl
    · rw [if_neg he, List.getD_eq_getElem?_getD]
      obtain ⟨m, hm⟩ : ∃ m, (b - 1).toNat - u.length = m + 1 := ⟨(b - 1).toNat - u.length - 1, by omega⟩
      rw [hm]
      rfl
theorem parity_eq : ∀ {n : Nat} {r : List Int}, IsRow r n → ((n : Int) - ((cyc r).length : Int)) % 2 = (inv r : Int) % 2
  | 0, r, h => by
    have : r = [] := List.length_eq_zero_iff.mp h.1
    subst this
    rfl
  | n + 1, r, h => by
    have hm : ((n : Int) + 1) ∈ r := row_mem h (by omega) (by omega)
    obtain ⟨u, v, rfl⟩ := List.append_of_mem hm
    have hlen := h.1
    rw [List.length_append, List.length_cons] at hlen
    have nd := h.2.1
    rw [List.nodup_append] at nd
    obtain ⟨ndu, ndv, huv⟩ := nd
    rw [List.nodup_cons] at ndv
    have hbu : ∀ x ∈ u, 1 ≤ x ∧ x ≤ (n : Int) := fun x hx => by
      have := h.2.2 x (List.mem_append_left _ hx)
      have h3 : x ≠ (n : Int) + 1 := huv x hx _ List.mem_cons_self
      omega
    have hbv : ∀ x ∈ v, 1 ≤ x ∧ x ≤ (n : Int) := fun x hx => by
      have := h.2.2 x (List.mem_append_right _ (List.mem_cons_of_mem _ hx))
      have h3 : x ≠ (n : Int) + 1 := fun e => ndv.1 (e ▸ hx)
      omega
    rcases List.eq_nil_or_concat v with rfl | ⟨v, q, rfl⟩
    · -- the greatest bell is last
      have hul : u.length = n := by simpa using hlen
      have h' : IsRow u n := ⟨hul, ndu, hbu⟩
      have hq : nx (u ++ [(n : Int) + 1]) ((n : Int) + 1) = (n : Int) + 1 := by
        rw [nx_append (by omega), if_neg (by omega), if_pos (by omega)]
      have hrel : ∀ b : Int, 1 ≤ b → b ≤ n → nx u b = if nx (u ++ [(n : Int) + 1]) b = (n : Int) + 1 then nx (u ++ [(n : Int) + 1]) ((n : Int) + 1) else nx (u ++ [(n : Int) + 1]) b := by
        intro b h1 h2
        have e : nx (u ++ [(n : Int) + 1]) b = nx u b := by rw [nx_append h1, if_pos (by omega)]
        rw [e, if_neg (by have := nx_mem h' h1 h2; omega)]
      have hc := out_cyc h h' hrel
      rw [if_pos hq] at hc
      have ih := parity_eq h'
      have hi : inv (u ++ [(n : Int) + 1]) = inv u := by
        clear hc ih hrel hq h' hul huv hlen h hm
        induction u with
        | nil => rfl
        | cons x u ihu =>
          rw [List.cons_append, inv_cons, inv_cons, ihu (List.nodup_cons.mp ndu).2 fun y hy => hbu y (List.mem_cons_of_mem _ hy), cnt_append, cnt_cons, if_neg (by have := hbu x List.mem_cons_self; omega)]
          rfl
      rw [hi, hc]
      omega
    · rw [List.concat_eq_append] at *
      have hvl : u.length + 1 + v.length = n := by rw [List.length_append, List.length_singleton] at hlen; omega
      have ndq := ndv.2
      rw [List.nodup_append] at ndq
      have hqv : q ∉ v := fun hx => ndq.2.2 q hx q List.mem_cons_self rfl
      have hqb := hbv q (List.mem_append_right _ List.mem_cons_self)
      have h' : IsRow (u ++ q :: v) n := by
        refine ⟨by rw [List.length_append, List.length_cons]; omega, ?_, ?_⟩
        · rw [List.nodup_append]
          refine ⟨ndu, List.nodup_cons.mpr ⟨hqv, ndq.1⟩, fun a ha b hb => ?_⟩
          refine huv a ha b (List.mem_cons_of_mem _ ?_)
          rcases List.mem_cons.mp hb with rfl | hb
          · exact List.mem_append_right _ List.mem_cons_self
          · exact List.mem_append_left _ hb
        · intro x hx
          rcases List.mem_append.mp hx with hx | hx
          · exact hbu x hx
          · rcases List.mem_cons.mp hx with rfl | hx
            · exact hqb
            · exact hbv x (List.mem_append_left _ hx)
      have hq : nx (u ++ ((n : Int) + 1) :: (v ++ [q])) ((n : Int) + 1) = q := by
        rw [nx_append (by omega), if_neg (by omega), if_neg (by omega), List.getD_eq_getElem?_getD, List.getElem?_append_right (by omega)]
        rw [show ((n : Int) + 1 - 1).toNat - u.length - 1 - v.length = 0 by omega]
        rfl
      have hrel : ∀ b : Int, 1 ≤ b → b ≤ n → nx (u ++ q :: v) b = if nx (u ++ ((n : Int) + 1) :: (v ++ [q])) b = (n : Int) + 1 then nx (u ++ ((n : Int) + 1) :: (v ++ [q])) ((n : Int) + 1) else nx (u ++ ((n : Int) + 1) :: (v ++ [q])) b := by
        intro b h1 h2
        rw [hq]
        have hb := nx_mem h' h1 h2
        rw [nx_append h1] at hb ⊢
        rw [nx_append h1]
        by_cases hc : (b - 1).toNat < u.length
        · rw [if_pos hc] at hb ⊢
          rw [if_pos hc, if_neg (by omega)]
        · rw [if_neg hc] at hb ⊢
          rw [if_neg hc]
          by_cases he : (b - 1).toNat = u.length
          · rw [if_pos he, if_pos he, if_pos rfl]
          · rw [if_neg he] at hb ⊢
            rw [if_neg he]
            have e : (v ++ [q]).getD ((b - 1).toNat - u.length - 1) 0 = v.getD ((b - 1).toNat - u.length - 1) 0 := by
              rw [List.getD_eq_getElem?_getD, List.getElem?_append_left (by omega), List.getD_eq_getElem?_getD]
            rw [e, if_neg (by omega)]
      have hc := out_cyc h h' hrel
      rw [hq, if_neg (by omega)] at hc
      have ih := parity_eq h'
      have hs := inv_swap (a := (n : Int) + 1) (b := q) u v [] (by omega) (fun hx => ndv.1 (List.mem_append_left _ hx)) hqv
      have hi : inv (u ++ q :: (v ++ [(n : Int) + 1])) = inv (u ++ q :: v) := by
        have key : ∀ l : List Int, (∀ x ∈ l, x ≤ (n : Int)) → inv (l ++ [(n : Int) + 1]) = inv l := by
          intro l
          induction l with
          | nil => intro _; rfl
          | cons x l ihl =>
            intro hx
            rw [List.cons_append, inv_cons, inv_cons, ihl fun y hy => hx y (List.mem_cons_of_mem _ hy), cnt_append, cnt_cons, if_neg (by have := hx x List.mem_cons_self; omega)]
            rfl
        have := key (u ++ q :: v) fun x hx => (h'.2.2 x hx).2
        rw [← this]
        simp
      rw [hi] at hs
      rw [hc]
      omega
end Kb

set_option Elab.async false
set_option linter.all false
set_option maxRecDepth 100000
set_option maxHeartbeats 4000000
namespace Kb
open PySem PySem.Spec PyProof.Rows L2
/-! the tactics: rd walks a reading; tk closes a fact about a heap from those ahead of it -/
local macro_rules | `(tactic| walk_at "tk") => `(tactic| first
  | assumption
  | ((with_reducible refine' sqT_of ?k); (case k => assumption))
  | ((with_reducible refine' sqT_ofD ?k); (case k => assumption))
  | ((with_reducible refine' noD_of ?k); (case k => assumption))
  | ((with_reducible refine' noD_same ?s ?k); (case s => assumption); (case k => walk_at "tk"))
  | ((with_reducible refine' sqL_of ?k); (case k => assumption))
  | ((with_reducible refine' sqT_same ?s ?k); (case s => assumption); (case k => walk_at "tk"))
  | ((with_reducible refine' sqL_same ?s ?k); (case s => assumption); (case k => walk_at "tk"))
  | ((with_reducible refine' sqT_but ?s ?t ?k); (case s => assumption); (case t => walk_at "tk"); (case k => walk_at "tk"))
  | ((with_reducible refine' sqL_but ?s ?t ?k); (case s => assumption); (case t => walk_at "ne"); (case k => walk_at "tk"))
  | ((with_reducible refine' sqL_of ?k); (case k => walk_at "tk"))
  | ((with_reducible refine' sqT_of ?k); (case k => walk_at "tk"))
  | ((with_reducible refine' at_same ?s ?k); (case s => assumption); (case k => walk_at "tk"))
  | ((with_reducible refine' at_but ?s ?t ?k); (case s => assumption); (case t => walk_at "ne"); (case k => walk_at "tk")))
local macro_rules | `(tactic| walk_at "ne") => `(tactic| first
  | assumption
  | (refine Ne.symm ?_; assumption)
  | exact ne_of_none (by assumption) (by assumption)
  | exact (ne_of_none (by assumption) (by assumption)).symm)
local macro_rules | `(tactic| walk_at "side") => `(tactic| first
  | assumption
  | omega
  | (simp only [sizeLine_eq, List.length_cons, List.length_nil, List.length_map]; omega)
  | (show _ ≤ sizeLine; decide))
local macro_rules | `(tactic| walk_at "kit") => `(tactic| first
  | (show kitB _ _ = some true; decide +kernel)
  | (show kitB _ _ = some false; decide +kernel))
local macro_rules | `(tactic| walk_at "rng") => `(tactic| first
  | (refine ⟨by omega, by omega, by omega, by omega⟩)
  | (refine ⟨by omega, by omega⟩)
  | ((simp only [List.length_map]); (refine ⟨by omega, by omega, by omega, by omega⟩))
  | ((simp only [List.length_map]); (refine ⟨by omega, by omega⟩)))
local macro_rules | `(tactic| walk_at "rd1") => `(tactic| first
  | with_reducible refine r_seq ?_
  | ((with_reducible refine' r_var ?k0 ?_); (case k0 => rfl))
  | with_reducible refine r_op ?_
  | with_reducible refine r_c ?_
  | with_reducible refine r_asg ?_
  | with_reducible refine r_name ?_
  | with_reducible refine r_cons ?_
  | with_reducible refine r_nil ?_
  | with_reducible refine r_CB ?_
  | with_reducible refine r_if ?_
  | with_reducible refine r_test ?_
  | with_reducible refine r_k ?_
  | with_reducible refine r_T ?_
  | with_reducible refine r_F ?_
  | with_reducible refine r_nT ?_
  | with_reducible refine r_nF ?_
  | with_reducible refine r_ret ?_
  | with_reducible refine r_drop ?_
  | with_reducible refine r_next ?_
  | with_reducible refine r_call ?_
  | with_reducible refine r_addI ?_
  | with_reducible refine r_subI ?_
  | with_reducible refine r_ltI ?_
  | with_reducible refine r_gtI ?_
  | with_reducible refine r_leI ?_
  | with_reducible refine r_geI ?_
  | with_reducible refine r_eqI ?_
  | with_reducible refine r_neI ?_
  | with_reducible refine r_int ?_
  | with_reducible refine r_abs ?_
  | with_reducible refine r_not ?_
  | with_reducible refine r_and ?_
  | with_reducible refine r_or ?_
  | with_reducible refine r_tru ?_
  | with_reducible refine r_truB ?_
  | with_reducible refine r_lst ?_
  | with_reducible refine r_tup ?_
  | with_reducible refine r_BM ?_
  | with_reducible refine r_BM0 ?_
  | with_reducible refine r_tyS ?_
  | with_reducible refine r_gsub ?_
  | with_reducible refine r_then ?_
  | with_reducible refine r_lstRg ?_
  | with_reducible refine r_tupRg ?_
  | with_reducible refine r_rg2 ?_
  | with_reducible refine r_rg1 ?_
  | with_reducible refine r_ii ?_
  | with_reducible refine r_i ?_
  | with_reducible refine r_ipI ?_
  | with_reducible refine r_un ?_
  | with_reducible refine r_neg ?_
  | with_reducible refine r_isN ?_
  | with_reducible refine r_notN ?_
  | with_reducible refine r_notV ?_
  | with_reducible refine r_pnot ?_
  | with_reducible refine r_pif ?_
  | with_reducible refine r_andV ?_
  | with_reducible refine r_orV ?_
  | with_reducible refine r_ifE ?_
  | with_reducible refine r_chain ?_
  | with_reducible refine r_sl ?_
  | with_reducible refine r_noPart ?_
  | with_reducible refine r_part ?_
  | with_reducible refine r_brk ?_
  | with_reducible refine r_cont ?_
  | with_reducible refine r_retN ?_
  | with_reducible refine r_truI ?_
  | with_reducible refine r_B ?_
  | with_reducible refine r_for ?_
  | with_reducible refine r_rng1 ?_
  | with_reducible refine r_rng2 ?_
  | with_reducible refine r_rng3 ?_
  | with_reducible refine r_body ?_
  | with_reducible refine r_lc ?_
  | with_reducible refine r_yes ?_
  | ((with_reducible refine' r_mod ?k0 ?_); (case k0 => walk_at "side"))
  | ((with_reducible refine' r_mulI ?k0 ?_); (case k0 => first | exact Or.inl ⟨by omega, by omega⟩ | exact Or.inr ⟨by omega, by omega⟩))
  | ((with_reducible refine' r_lenL ?k0 ?_); (case k0 => walk_at "tk"))
  | ((with_reducible refine' r_lenT ?k0 ?_); (case k0 => walk_at "tk"))
  | ((with_reducible refine' r_truL ?k0 ?_); (case k0 => walk_at "tk"))
  | ((with_reducible refine' r_truT ?k0 ?_); (case k0 => walk_at "tk"))
  | ((with_reducible refine' r_ixL ?k0 ?k1 ?_); (case k0 => walk_at "tk"); (case k1 => first | assumption | rfl))
  | ((with_reducible refine' r_ixT ?k0 ?k1 ?_); (case k0 => walk_at "tk"); (case k1 => first | assumption | rfl))
  | ((with_reducible refine' r_new ?k0 ?_); (case k0 => walk_at "side"))
  | ((with_reducible refine' r_tyL ?k0 ?_); (case k0 => walk_at "tk"))
  | ((with_reducible refine' r_append ?k0 ?k1 ?_); (case k0 => walk_at "tk"); (case k1 => walk_at "side"))
  | ((with_reducible refine' r_setL ?k0 ?k1 ?_); (case k0 => walk_at "tk"); (case k1 => first | assumption | rfl))
  | ((with_reducible refine' r_kTupL ?k0 ?_); (case k0 => walk_at "tk"))
  | ((with_reducible refine' r_kTupT ?k0 ?_); (case k0 => walk_at "tk"))
  | ((with_reducible refine' r_listL ?k0 ?_); (case k0 => walk_at "tk"))
  | ((with_reducible refine' r_listT ?k0 ?_); (case k0 => walk_at "tk"))
  | ((with_reducible refine' r_aug ?k0 ?_); (case k0 => rfl))
  | ((with_reducible refine' r_lenS ?k0 ?_); (case k0 => walk_at "side"))
  | ((with_reducible refine' r_pop ?k0 ?_); (case k0 => walk_at "tk"))
  | ((with_reducible refine' r_pr1 ?k0 ?_); (case k0 => walk_at "rng"))
  | ((with_reducible refine' r_pr2 ?k0 ?_); (case k0 => walk_at "rng"))
  | ((with_reducible refine' r_pr3d ?k0 ?_); (case k0 => walk_at "rng"))
  | ((with_reducible refine' r_isiI ?k0 ?_); (case k0 => walk_at "kit"))
  | ((with_reducible refine' r_isiB ?k0 ?_); (case k0 => walk_at "kit"))
  | ((with_reducible refine' r_isiS ?k0 ?_); (case k0 => walk_at "kit"))
  | ((with_reducible refine' r_isiN ?k0 ?_); (case k0 => walk_at "kit"))
  | ((with_reducible refine' r_isiT ?k0 ?k1 ?_); (case k0 => walk_at "tk"); (case k1 => walk_at "kit"))
  | ((with_reducible refine r_seqT ?_); (repeat (walk_at "rd1")); ((with_reducible refine' r_pseqT ?k0 ?_); (case k0 => walk_at "tk")))
  | ((with_reducible refine r_seqL ?_); (repeat (walk_at "rd1")); ((with_reducible refine' r_pseqL ?k0 ?_); (case k0 => walk_at "tk")))
  | ((with_reducible refine r_seqS ?_); (repeat (walk_at "rd1")); (with_reducible refine r_pseqS ?_)))
local macro_rules | `(tactic| walk_at "rd") => `(tactic| ((repeat (walk_at "rd1")); (try dsimp only)))


/-! ### comprehensions over ints -/
section
variable {K : PySem.W.Frag} {σ : L2.St} {H : Hp} {te : TE} {tt : TT} {j : Nat} {vs : List Nat} {Q : VK} {a : Addr} {ns : List Int}
theorem filter_take {p : Int → Bool} {f : Int → Int} {i : Nat} {x : Int} (h : ns[i]? = some x) : ((ns.take (i + 1)).filter p).map (fun y => V.int (f y)) = ((ns.take i).filter p).map (fun y => V.int (f y)) ++ (if p x = true then [V.int (f x)] else []) := by
  rw [List.take_add_one, h, List.filter_append, List.map_append]
  congr 1
  show List.map _ (List.filter p [x]) = _
  by_cases hp : p x = true
  · rw [List.filter_cons_of_pos hp, if_pos hp]; rfl
  · rw [List.filter_cons_of_neg hp, if_neg hp]; rfl
theorem r_lcLf (p : Int → Bool) (f : Int → Int) (hx : SqL K H a (ns.map V.int)) (hz : ns.length ≤ 1000000) (hw : ∀ x, wipe ((wipe σ vs).set j (some x)) vs = wipe σ vs)
    (ht : ∀ x H1 (QB : Bool → Hp → Prop), x ∈ ns → Same H H1 → QB (p x) H1 → tt ((wipe σ vs).set j (some (.int x))) H1 QB)
    (he : ∀ x H1 (Q' : VK), x ∈ ns → Same H H1 → p x = true → Q' (.int (f x)) H1 → te ((wipe σ vs).set j (some (.int x))) H1 Q')
    (hd : ∀ q H', H q = none → Same H H' → H' q = some (.lst ((ns.filter p).map fun y => V.int (f y))) → Q (.ref q) H') : PLc (Itl K a) (gName j) tt te vs σ H Q := by
  refine r_lcL (xs := ns.map V.int) (fun D i H' => H D = none ∧ Same H H' ∧ H' D = some (.lst (((ns.take i).filter p).map fun y => V.int (f y)))) hw (fun D H' hD s e => ⟨hD, s, by rw [e]; rfl⟩) (fun D i H' q => sqL_same q.2.1 hx) (fun D i x H' hi q => ?_) (fun D H' hD q => ?_)
  · obtain ⟨hD, s, e⟩ := q
    rw [List.getElem?_map] at hi
    obtain ⟨y, hy, rfl⟩ := Option.map_eq_some_iff.mp hi
    have hm := List.mem_of_getElem? hy
    refine ht y H' _ hm s ?_
    by_cases hp : p y = true
    · rw [hp]
      refine r_T ?_
      refine he y H' _ hm s hp ?_
      refine r_acc e ?_ (fun H5 b5 e5 => ⟨hD, same_but s b5 hD, ?_⟩)
      · rw [List.length_map]
        have h1 := List.length_filter_le p (ns.take i)
        have h2 := List.length_take_le i ns
        have h3 : (ns.take i).length ≤ ns.length := by rw [List.length_take]; omega
        omega
      · rw [e5, filter_take hy, if_pos hp]
    · rw [Bool.eq_false_iff.mpr hp]
      refine r_F ⟨hD, s, ?_⟩
      rw [e, filter_take hy, if_neg hp, List.append_nil]
  · obtain ⟨_, s, e⟩ := q
    rw [List.length_map, List.take_length] at e
    exact hd D H' hD s e
theorem r_lcTf (p : Int → Bool) (f : Int → Int) (hx : SqT K H a (ns.map V.int)) (hz : ns.length ≤ 1000000) (hw : ∀ x, wipe ((wipe σ vs).set j (some x)) vs = wipe σ vs)
    (ht : ∀ x H1 (QB : Bool → Hp → Prop), x ∈ ns → Same H H1 → QB (p x) H1 → tt ((wipe σ vs).set j (some (.int x))) H1 QB)
    (he : ∀ x H1 (Q' : VK), x ∈ ns → Same H H1 → p x = true → Q' (.int (f x)) H1 → te ((wipe σ vs).set j (some (.int x))) H1 Q')
    (hd : ∀ q H', H q = none → Same H H' → H' q = some (.lst ((ns.filter p).map fun y => V.int (f y))) → Q (.ref q) H') : PLc (Itt K a) (gName j) tt te vs σ H Q := by
  refine r_lcT (xs := ns.map V.int) (fun D i H' => H D = none ∧ Same H H' ∧ H' D = some (.lst (((ns.take i).filter p).map fun y => V.int (f y)))) hw (fun D H' hD s e => ⟨hD, s, by rw [e]; rfl⟩) (fun D i H' q => sqT_same q.2.1 hx) (fun D i x H' hi q => ?_) (fun D H' hD q => ?_)
  · obtain ⟨hD, s, e⟩ := q
    rw [List.getElem?_map] at hi
    obtain ⟨y, hy, rfl⟩ := Option.map_eq_some_iff.mp hi
    have hm := List.mem_of_getElem? hy
    refine ht y H' _ hm s ?_
    by_cases hp : p y = true
    · rw [hp]
      refine r_T ?_
      refine he y H' _ hm s hp ?_
      refine r_acc e ?_ (fun H5 b5 e5 => ⟨hD, same_but s b5 hD, ?_⟩)
      · rw [List.length_map]
        have h1 := List.length_filter_le p (ns.take i)
        have h3 : (ns.take i).length ≤ ns.length := by rw [List.length_take]; omega
        omega
      · rw [e5, filter_take hy, if_pos hp]
    · rw [Bool.eq_false_iff.mpr hp]
      refine r_F ⟨hD, s, ?_⟩
      rw [e, filter_take hy, if_neg hp, List.append_nil]
  · obtain ⟨_, s, e⟩ := q
    rw [List.length_map, List.take_length] at e
    exact hd D H' hD s e
end
/-! ### tuples of ints compared -/
theorem eqvAll_ints : ∀ ns ms : List Int, PyData.eqvAll (ns.map PyData.int) (ms.map PyData.int) = decide (ns = ms)
  | [], [] => by simp [PyData.eqvAll]
  | [], _ :: _ => by simp [PyData.eqvAll]
  | _ :: _, [] => by simp [PyData.eqvAll]
  | a :: r, b :: t => by
    simp only [List.map_cons, PyData.eqvAll, PyData.eqv, eqvAll_ints r t]
    by_cases h : a = b <;> by_cases h' : r = t <;> simp [h, h']
theorem shaped_ints (ns : List Int) : SeqAt.shaped (.tuple (ns.map PyData.int)) = true := by
  simp [SeqAt.shaped, PyData.canLay0, PyData.depth, PySem.W.ke_canLayAll0, PySem.W.ke_depthAll]
section
variable {K : PySem.W.Frag} {H : Hp} {Q : VK} {a b : Addr} {ns ms : List Int}
theorem dpAll_ints : ∀ ns : List Int, DpAll K H (ns.map V.int) (ns.map PyData.int)
  | [] => .nil
  | n :: r => .cons (.int n) (dpAll_ints r)
theorem r_neT (h1 : SqT K H a (ns.map V.int)) (h2 : SqT K H b (ms.map V.int)) (q : Q (.bl (!decide (ns = ms))) H) : rNeU K (.ref a) (.ref b) H Q :=
  .inr ⟨_, _, .tup h1 (dpAll_ints ns), .tup h2 (dpAll_ints ms), shaped_ints ns, shaped_ints ms, by
    show Q (.bl (!PyData.eqvAll _ _)) H
    rw [eqvAll_ints]; exact q⟩
theorem r_eqT (h1 : SqT K H a (ns.map V.int)) (h2 : SqT K H b (ms.map V.int)) (q : Q (.bl (decide (ns = ms))) H) : rEqU K (.ref a) (.ref b) H Q :=
  .inr ⟨_, _, .tup h1 (dpAll_ints ns), .tup h2 (dpAll_ints ms), shaped_ints ns, shaped_ints ms, by
    show Q (.bl (PyData.eqvAll _ _)) H
    rw [eqvAll_ints]; exact q⟩
end
/-! ### slices of tuples -/
section
variable {K : PySem.W.Frag} {H : Hp} {Q : VK} {a : Addr} {xs : List V}
theorem cutV_drop (xs : List V) (k : Nat) : cutV xs (some (k : Int)) none = xs.drop k := by
  unfold cutV
  rw [HT.sIx_nat, HT.sIx_none]
  by_cases h : k ≤ xs.length
  · rw [Nat.min_eq_left h, List.take_of_length_le (by rw [List.length_drop]; omega)]
  · rw [Nat.min_eq_right (by omega), List.drop_eq_nil_of_le (by omega : xs.length ≤ k), List.drop_length]; simp
/-- t[k:] of a tuple, k > 0, the tuple not empty: a new tuple -/
theorem r_slDrop {k : Nat} {m : Int} (h : SqT K H a xs) (e : m = (k : Int)) (hk : 0 < k) (hx : 0 < xs.length) (q : ∀ p H', H p = none → Same H H' → H' p = some (.tup (xs.drop k)) → Q (.ref p) H') : rSlU K (.ref a) (some m) none H Q := by
  subst e
  refine .inr (.inl ⟨a, xs, rfl, h, fun z => ?_, fun _ p hp => ?_⟩)
  · rw [HT.sIx_nat] at z
    have := z.1
    omega
  · rw [cutV_drop]
    exact q p _ hp (same_new hp) upd_same
end
/-! ### rows -/
theorem atI_row {r : List Int} {n : Nat} (h : IsRow r n) {b : Int} (h1 : 1 ≤ b) (h2 : b ≤ n) : atI (r.map V.int) (b - 1) = some (.int (r.getD (b - 1).toNat 0)) := by
  have hl : (b - 1).toNat < r.length := by rw [h.1]; omega
  have e : (((b - 1).toNat : Nat) : Int) = b - 1 := by omega
  have h4 := atI_nat (xs := r.map V.int) (j := (b - 1).toNat) (v := .int (r.getD (b - 1).toNat 0)) (by rw [List.getElem?_map, List.getElem?_eq_getElem hl, List.getD_eq_getElem?_getD, List.getElem?_eq_getElem hl]; rfl)
  rw [e] at h4
  exact h4
/-- a promise that gives a row -/
def sp_law_rounds (K : PySem.W.Frag) : Sp := fun vs H Q _ => ∃ n : Nat, vs = [.int (n : Int)] ∧ n ≤ 1000 ∧ ∀ p H', H p = none → Same H H' → SqT K H' p ((roundsR n).map V.int) → NoD H' p → Q (.ref p) H'
def sp_law_times (K : PySem.W.Frag) : Sp := fun vs H Q _ => ∃ (a b : Addr) (x y : List Int) (n : Nat), vs = [.ref a, .ref b] ∧ SqT K H a (x.map V.int) ∧ SqT K H b (y.map V.int) ∧ IsRow x n ∧ IsRow y n ∧ n ≤ 1000 ∧ ∀ p H', H p = none → Same H H' → SqT K H' p ((mulR x y).map V.int) → NoD H' p → Q (.ref p) H'
def sp_law_row_draw (K : PySem.W.Frag) : Sp := fun vs H Q _ => ∃ (p : Addr) (n : Nat), vs = [.ref p, .int (n : Int)] ∧ Pl H p ∧ n ≤ 1000 ∧ ∀ a H' r, H a = none → But p H H' → Pl H' p → SqT K H' a (r.map V.int) → IsRow r n → NoD H' a → Q (.ref a) H'
abbrev N_law_rounds : List Str := ["stage"]
def t_law_rounds (K : PySem.W.Frag) : TS :=
  (tRet ((tThen ((tLstRg (tRg2 ((tC (.int 1))) ((tOp (rAddU K) (tVar 0) ((tC (.int 1)))))))) (kTupD K))))

abbrev N_law_times : List Str := ["first", "second", "bell"]
def t_law_times (K : PySem.W.Frag) : TS :=
  (tRet ((tThen ((tLc ((iSeqU K (tVar 1))) ((gName 2)) (tYes) ((tOp (rIx K) (tVar 0) ((tOp rSubU (tVar 2) ((tC (.int 1))))))) [2])) (kTupD K))))

abbrev N_law_row_draw : List Str := ["pool", "stage", "left", "out", "k"]
def t_law_row_draw (K : PySem.W.Frag) : TS :=
  tSeq (tAsg ((tLstRg (tRg2 ((tC (.int 1))) ((tOp (rAddU K) (tVar 1) ((tC (.int 1)))))))) (gName 2))
  (tSeq (tAsg ((tLst tNil)) (gName 3))
  (tSeq (tFor (iRng1 (tCons (tVar 1) tNil)) (gName 4) ((tDrop ((tBM K "list" rAppend (tVar 3) (tCons ((tBM K "list" rPopAt (tVar 2) (tCons ((tCall (sp_law_draw K) [] E0 (tCons (tVar 0) (tCons ((tCB (rLenU K) (tCons (tVar 2) tNil))) tNil)))) tNil))) tNil))))))
  ((tRet ((tThen (tVar 3) (kTupD K)))))))


section
variable {K : PySem.W.Frag} {vs : List V} {H : Hp} {Q : VK} {E : XK}
theorem len_law_rounds (h : sp_law_rounds K vs H Q E) : vs.length = 1 := by
  obtain ⟨n, rfl, _⟩ := h; rfl
theorem len_law_times (h : sp_law_times K vs H Q E) : vs.length = 2 := by
  obtain ⟨a, b, x, y, n, rfl, _⟩ := h; rfl
theorem len_law_row_draw (h : sp_law_row_draw K vs H Q E) : vs.length = 2 := by
  obtain ⟨p, n, rfl, _⟩ := h; rfl
theorem rgV_rounds (n : Nat) : rgV 1 ((n : Int) + 1) = (roundsR n).map V.int := by
  unfold rgV roundsR
  rw [List.map_map, show ((n : Int) + 1 - 1).toNat = n by omega]
  rfl
theorem pure_law_rounds (h : sp_law_rounds K vs H Q E) : t_law_rounds K (En Q) (start N_law_rounds vs) H := by
  obtain ⟨n, rfl, hn, q⟩ := h
  unfold t_law_rounds
  walk_at "rd"
  refine r_new (RgOk.of_le (by omega) (by omega) (by omega) (by omega)) ?_
  intro p H1 np s e
  rw [rgV_rounds] at e
  walk_at "rd"
  intro p2 H2 np2 s2 e2
  exact q p2 H2 (s.free np2) (s.trans s2) (sqT_ofD e2) (noD_of e2)
theorem pure_law_times (h : sp_law_times K vs H Q E) : t_law_times K (En Q) (start N_law_times vs) H := by
  obtain ⟨a, b, x, y, n, rfl, hx, hy, rx, ry, hn, q⟩ := h
  unfold t_law_times
  walk_at "rd"
  refine r_lcTm (fun i v => match v with | .int b => .int (x.getD (b - 1).toNat 0) | _ => .non) hy (by rw [List.length_map, ry.1]; omega) (fun _ => rfl) (fun i v H1 Q' hi s k => ?_) (fun p H' np s e => ?_)
  · rw [List.getElem?_map] at hi
    obtain ⟨b', hb, rfl⟩ := Option.map_eq_some_iff.mp hi
    have hm := ry.2.2 b' (List.mem_of_getElem? hb)
    have ha := atI_row rx hm.1 hm.2
    walk_at "rd"
    exact k H1 (Same.refl _)
  · have ee : (List.range (y.map V.int).length).zipWith (fun (i : Nat) v => match v with | .int b => V.int (x.getD (b - 1).toNat 0) | _ => .non) (y.map V.int) = (mulR x y).map V.int := by
      apply List.ext_getElem?
      intro i
      rw [List.getElem?_zipWith, List.getElem?_map, List.length_map]
      unfold mulR
      rw [List.getElem?_map, List.getElem?_map]
      by_cases hi : i < y.length
      · rw [List.getElem?_range hi, List.getElem?_eq_getElem hi]; rfl
      · rw [List.getElem?_eq_none (by omega : y.length ≤ i)]
        simp
    rw [ee] at e
    walk_at "rd"
    intro p2 H2 np2 s2 e2
    exact q p2 H2 (s.free np2) (s.trans s2) (sqT_ofD e2) (noD_of e2)
theorem roundsR_row (n : Nat) : IsRow (roundsR n) n := by
  refine ⟨by simp [roundsR], ?_, ?_⟩
  · unfold roundsR
    rw [List.nodup_iff_pairwise_ne, List.pairwise_map]
    exact List.nodup_range.imp fun h e => h (by omega)
  · intro x hx
    obtain ⟨i, hi, rfl⟩ := List.mem_map.mp hx
    rw [List.mem_range] at hi
    omega
theorem pop_perm {os ls : List Int} {k : Nat} {v : Int} (h : ls[k]? = some v) : ((os ++ [v]) ++ ls.eraseIdx k).Perm (os ++ ls) := by
  rw [List.append_assoc]
  refine List.Perm.append_left os ?_
  have hk : k < ls.length := (List.getElem?_eq_some_iff.mp h).1
  have e : v = ls[k] := by rw [List.getElem?_eq_getElem hk] at h; exact (Option.some.inj h).symm
  subst e
  rw [List.eraseIdx_eq_take_drop_succ]
  have e2 : ls = ls.take k ++ ls[k] :: ls.drop (k + 1) := by
    rw [List.getElem_cons_drop]
    exact (List.take_append_drop k ls).symm
  conv => rhs; rw [e2]
  exact List.Perm.symm (List.perm_middle (a := ls[k]) (l₁ := ls.take k) (l₂ := ls.drop (k + 1)))
theorem IsRow.perm {a b : List Int} {n : Nat} (h : a.Perm b) (r : IsRow b n) : IsRow a n :=
  ⟨h.length_eq.trans r.1, h.nodup_iff.mpr r.2.1, fun x hx => r.2.2 x (h.mem_iff.mp hx)⟩
theorem mulR_row {x y : List Int} {n : Nat} (hx : IsRow x n) (hy : IsRow y n) : IsRow (mulR x y) n := by
  refine ⟨by unfold mulR; rw [List.length_map]; exact hy.1, ?_, ?_⟩
  · unfold mulR
    rw [List.nodup_iff_pairwise_ne, List.pairwise_map]
    refine (List.nodup_iff_pairwise_ne.mp hy.2.1).imp_of_mem (fun {a b} ha hb hne e => hne ?_)
    have h1 := hy.2.2 a ha
    have h2 := hy.2.2 b hb
    exact nx_inj hx h1.1 h1.2 h2.1 h2.2 e
  · intro b hb
    unfold mulR at hb
    obtain ⟨c, hc, rfl⟩ := List.mem_map.mp hb
    have h1 := hy.2.2 c hc
    exact nx_mem hx h1.1 h1.2
theorem map_eraseIdx {α β : Type} (f : α → β) : ∀ (l : List α) (k : Nat), (l.map f).eraseIdx k = (l.eraseIdx k).map f
  | [], _ => rfl
  | _ :: _, 0 => rfl
  | x :: r, k + 1 => by simp [List.eraseIdx_cons_succ, map_eraseIdx f r k]
theorem but_via {p l : Addr} {H H1 H2 : Hp} (a : But p H H1) (b : But l H1 H2) (h : H l = none) : But p H H2 := fun c o n e => b c o (ne_of_none e h) (a c o n e)
theorem pure_law_row_draw (h : sp_law_row_draw K vs H Q E) : t_law_row_draw K (En Q) (start N_law_row_draw vs) H := by
  obtain ⟨p, n, rfl, hP, hn, q⟩ := h
  unfold t_law_row_draw
  walk_at "rd"
  refine r_new (RgOk.of_le (by omega) (by omega) (by omega) (by omega)) ?_
  intro l H1 nl s1 e1
  rw [rgV_rounds] at e1
  walk_at "rd"
  intro o H2 no s2 e2
  have hpl : p ≠ l := by obtain ⟨x, y, z, hp⟩ := hP; exact ne_of_none hp nl
  have hpo : p ≠ o := by obtain ⟨x, y, z, hp⟩ := hP; exact ne_of_none (s1 _ _ hp) no
  have hlo : l ≠ o := ne_of_none e1 no
  walk_at "rd"
  rw [Int.toNat_natCast]
  refine r_forRange0 (fun i σ' H' => ∃ (os ls : List Int) (z : Option V), σ' = [some (.ref p), some (.int (n : Int)), some (.ref l), some (.ref o), z] ∧ But p H H' ∧ Pl H' p ∧ H' l = some (.lst (ls.map V.int)) ∧ H' o = some (.lst (os.map V.int)) ∧ IsRow (os ++ ls) n ∧ os.length = i)
    ⟨[], roundsR n, none, rfl, (Same.but s1).trans (Same.but s2), ?_, s2 _ _ e1, e2, roundsR_row n, rfl⟩ (fun i σ' H' hi hW => ?_) (fun σ' H' hW => ?_)
  · obtain ⟨x, y, z, hp⟩ := hP
    exact ⟨x, y, z, s2 _ _ (s1 _ _ hp)⟩
  · obtain ⟨os, ls, z, rfl, b, hP', el, eo, hr, ho⟩ := hW
    have hll : ls.length = n - i := by have := hr.1; rw [List.length_append] at this; omega
    walk_at "rd"
    refine ⟨p, _, rfl, hP', by rw [List.length_map]; omega, by rw [List.length_map]; omega, fun v H5 hv0 hv1 b5 hP5 => ?_⟩
    rw [List.length_map] at hv1
    have hk : v.toNat < ls.length := by omega
    have hl5 : H5 l = some (.lst (ls.map V.int)) := b5 _ _ hpl.symm el
    have ho5 : H5 o = some (.lst (os.map V.int)) := b5 _ _ hpo.symm eo
    walk_at "rd"
    refine r_popAt (k := v.toNat) (y := .int ls[v.toNat]) hl5 (by omega) (by rw [List.getElem?_map, List.getElem?_eq_getElem hk]; rfl) (by rw [List.length_map]; omega) ?_
    intro H6 b6 e6
    have ho6 := b6 _ _ hlo.symm ho5
    walk_at "rd"
    intro H7 b7 e7
    walk_at "rd"
    have hpk : ((os ++ [ls[v.toNat]]) ++ ls.eraseIdx v.toNat).Perm (os ++ ls) := pop_perm (List.getElem?_eq_getElem hk)
    refine ⟨os ++ [ls[v.toNat]], ls.eraseIdx v.toNat, _, rfl, but_via (but_via (b.trans b5) b6 nl) b7 (s1.free no), ?_, ?_, ?_, IsRow.perm hpk hr, by rw [List.length_append, ho]; rfl⟩
    · obtain ⟨x, y, z, hp⟩ := hP5
      exact ⟨x, y, z, b7 _ _ hpo (b6 _ _ hpl hp)⟩
    · rw [b7 _ _ hlo e6, map_eraseIdx]
    · rw [e7, List.map_append]; rfl
  · obtain ⟨os, ls, z, rfl, b, hP', el, eo, hr, ho⟩ := hW
    have hll : ls = [] := List.length_eq_zero_iff.mp (by have := hr.1; rw [List.length_append] at this; omega)
    subst hll
    rw [List.append_nil] at hr
    walk_at "rd"
    intro a H3 na s3 e3
    have hna : H a = none := by
      cases e : H a with
      | none => rfl
      | some u =>
        by_cases hap : a = p
        · subst hap
          obtain ⟨x, y, z, hp⟩ := hP'
          rw [hp] at na
          cases na
        · rw [b _ _ hap e] at na
          cases na
    refine q a H3 os hna (b.trans (Same.but s3)) ?_ (sqT_ofD e3) hr (noD_of e3)
    obtain ⟨x, y, z, hp⟩ := hP'
    exact ⟨x, y, z, s3 _ _ hp⟩
end
end Kb

set_option Elab.async false
set_option linter.all false
set_option maxRecDepth 100000
set_option maxHeartbeats 4000000
/-! exceptions: __init__ defs that say super().__init__(..) -/
namespace Kb
open PySem PySem.Spec PyProof.Rows L2

/-- what the frame of an __init__ that says super() must say; D: the class that its body stands in -/
structure SupK (X : Cx) (D : Addr) : Prop where
  gs : Gl X "super"
  kc : X.env.kindOf "__class__" = some .free
  ks : X.env.kindOf "self" = some .local
  fn : ∃ (f : Addr) (oc : Value) (od : Option Addr) (fd : FuncData) (osl : Array (Option Value)) (ar : Arg), X.env.func = some f ∧ X.K.lookup f = some ⟨oc, od, .func fd, osl⟩ ∧ (fd.params.posonlyargs ++ fd.params.args).head? = some ar ∧ ar.arg = "self"
  cd : ∃ (cda : Addr) (ccl : Value) (cdd : Option Addr) (vs : Array Value) (ccs : Array (Option Value)) (file : Str) (tf : Tok), X.env.code = .ref cda ∧ X.K.lookup cda = some ⟨ccl, cdd, .fields vs, ccs⟩ ∧ vs[2]? = some (.str file tf) ∧ ((X.prog.main.file : Str) == file) = true
  cl : ∃ (cc : Addr) (cl : Value) (cld : Option Addr) (csl : Array (Option Value)), X.env.cells.lookup ("__class__" : Str) = some cc ∧ X.K.lookup cc = some ⟨cl, cld, .cell (some (.ref D)), csl⟩
  su : X.mg "super" = none
  tp : (X.prog.main.scope.names.lookup ("super" : Str)).isSome = false
  dc : ∃ cdD, PySem.W.clsIn X.K D = some cdD

section
variable {X : Cx} {pins : List (Addr × Obj)} {σ : L2.St} {H : Hp} {s : Shared} {a C D : Addr}

theorem exo_ne (T : OexC X.K C) (I : Inv X pins σ H s) (ea : H a = some (exo a C none)) : a ≠ C := by
  rintro rfl
  obtain ⟨nm, q, N, bs, bm, sn, sub, ab, col, dd, k0, k1, k2, k3, k5, hC, hbm⟩ := T.cls
  obtain ⟨t1, ho⟩ := exo_at I.hok ea
  have e := I.kIn _ _ hC
  rw [ho] at e
  cases e

theorem boot_super : bootBuiltins "super" = some (.type "super") := by first | boot_by_name | rfl | kernel_rfl

/-- a new object that is pinned -/
theorem pin_new {h' : Heap} {t' : Nat} {o : Obj} (I : Inv X pins σ H s) (k : ∀ b u, s.heap.get? b = some u → h'.get? b = some u) (e : h'.get? s.heap.objs.size = some o) (hn : ∀ v, o.data ≠ .cell v) :
    Inv X ((s.heap.objs.size, o) :: pins) σ H { s with heap := h', toks := t' } := by
  have J := I.kept (t' := t') k
  refine J.pins_of fun p hp => ?_
  rcases List.mem_cons.mp hp with rfl | hp
  · exact ⟨e, I.hok.fresh (Nat.le_refl _), Nat.ne_of_gt I.lt, I.nofs (Nat.le_refl _), hn⟩
  · exact J.pin p (List.mem_append_right _ hp)

theorem sup_base {body : List Stmt} {p0 p1 : Pos} {attr : Str} {whole : Sem Value} {Q : Value → Shared → Prop} {E : Value → Shared → Prop} (S : SupK X D) (I : Inv X pins σ H s) (hN : X.N[0]? = some ("self" : Str)) (hs : σ[0]? = some (some (V.ref a)))
    (T : OexC X.K C) (ea : H a = some (exo a C none)) (sub : PySem.W.mroIn X.K C (.ref D) = some true) (hat : (attr == ("__class__" : Str)) = false)
    (h : ∀ so s', Inv X ((so, PySem.W.ks_superObj D a C) :: pins) σ H s' → Q (.ref so) s') :
    _root_.PySem.wpAt (model X.prog X.w) X.A (.func body X.env) (attributeBase (.Call (.Name "super" p0) [] [] p1) attr X.env whole) Q E s := by
  obtain ⟨f, oc, od, fd, osl, ar, hfu, hf, hp, har⟩ := S.fn
  obtain ⟨cda, ccl, cdd, vs, ccs, file, tf, hco, hcode, hvs, hfile⟩ := S.cd
  obtain ⟨cc, cl, cld, csl, hcc, hcell⟩ := S.cl
  obtain ⟨cdD, hD⟩ := S.dc
  have KX := I.kIn
  have hg : X.env.globals = mainGlobals := I.ok.glob
  obtain ⟨m, hn, hlk⟩ := id I.loc
  obtain ⟨u, ru, lu⟩ := hlk 0 "self" (.ref a) hN hs (.inl S.ks)
  obtain rfl : u = Value.ref a := ru
  have hv : m "self" = some (.ref a) := by
    rcases lu with ⟨_, e⟩ | ⟨k, _⟩
    · exact e
    · rw [S.ks] at k
      rcases k with k | k <;> cases k
  obtain ⟨t1, ho⟩ := exo_at I.hok ea
  obtain ⟨oD, hD1, hD2⟩ : ∃ oD, s.heap.get? D = some oD ∧ oD.data = .cls cdD := by
    unfold PySem.W.clsIn at hD
    split at hD
    · rename_i c d cd' sl ho
      cases hD
      exact ⟨_, KX _ _ ho, rfl⟩
    · cases hD
  obtain ⟨hh, g, d, t, os⟩ := s
  refine ks_wpAt_super_base (env := X.env) S.gs S.kc hat hfu (KX _ _ hf) rfl hp hco (KX _ _ hcode) rfl hvs hfile S.tp ?_
  obtain ⟨mb, b1, b2⟩ := I.mod.blt
  refine PySem.W.ks_loadName_global I.ok.kind S.gs (Calls.loadGlobal_builtin (by rw [I.ok.glob]; exact I.mod.glob.keeps I.bk) S.su (by rw [I.ok.blt]; exact b1.keeps I.bk) ((b2 _ (by decide)).trans boot_super) ⟨rfl, ?_⟩)
  refine wpAny_loadName_free I.ok.kind S.kc hcc ⟨_, KX _ _ hcell, rfl⟩ ?_
  rw [har]
  refine wpAny_loadName_local I.ok.kind S.ks hn hv ?_
  refine ks_wpAny_isType_cls hD1 hD2 ⟨rfl, ?_⟩
  refine ks_wpAny_call_super hD1 hD2 ho rfl (fun c e => by cases e) (PySem.W.looks_mroIn KX sub) (fun h' e k => ?_)
  exact h _ _ (pin_new (s := ⟨hh, g, d, t, os⟩) (t' := t) I k e (fun v z => by cases z))

/-- super().__init__(e, ..), the next class ValueError: nothing of it is told -/
def tSupV (K : PySem.W.Frag) (D : Addr) (ta : TA) : TS := fun R σ H => ∃ a C : Addr, σ[0]? = some (some (V.ref a)) ∧ H a = some (exo a C none) ∧ OexC K C ∧ PySem.W.mroIn K C (.ref D) = some true ∧
  PySem.W.nsIn K PySem.cStatics "thirdparty.any" = some none ∧ PySem.W.ks_superIn K C D "__init__" = some (some (.builtin "ValueError.__init__")) ∧ PySem.W.subIn K (.ref C) (.type "ValueError") = some true ∧
  ta σ H fun vs H1 => vs.length ≤ 1000 ∧ H1 a = some (exo a C none) ∧ R.nx σ H1

/-- a statement that is run in its own frame -/
def PSat (X : Cx) (body : List Stmt) (st : Stmt) (t : TS) : Prop := ∀ (pins : List (Addr × Obj)) (s : Shared) (σ : L2.St) (H : Hp) (R : Ends), Inv X pins σ H s → t R σ H →
  _root_.PySem.wpAt (model X.prog X.w) X.A (.func body X.env) (exec st X.env) (SP X pins R) X.xe s

theorem sup_method {Q : Value × List Value → Shared → Prop} {E : Value → Shared → Prop} {A : Around} {pl : Sem Bool} {B i : String} {so : Addr} (KF : PySem.W.KxsFacts B i) (I : Inv X ((so, PySem.W.ks_superObj D a C) :: pins) σ H s) (T : OexC X.K C) (ea : H a = some (exo a C none))
    (opq : PySem.W.nsIn X.K PySem.cStatics "thirdparty.any" = some none) (hm : PySem.W.ks_superIn X.K C D "__init__" = some (some (.builtin i))) (hB : PySem.W.subIn X.K (.ref C) (.type B) = some true)
    (h : ∀ u s', Inv X ((u, PySem.W.kxs_mw i a) :: pins) σ H s' → Q (.ref u, []) s') : wpAny (model X.prog X.w) A (getMethod (.ref so) "__init__" pl) Q E s := by
  have KX := I.kIn
  obtain ⟨hso, _⟩ := I.pin _ (List.mem_append_right _ List.mem_cons_self)
  obtain ⟨t1, ho⟩ := exo_at I.hok ea
  have IA : PySem.W.InstAt s.heap a _ C none := ⟨ho, rfl, rfl, trivial⟩
  have hI : PySem.W.Looks (model X.prog X.w) s.heap (isInstance (.ref a) (.type B)) true := IA.type.andThen (PySem.W.looks_subIn KX hB)
  have hne := exo_ne T I ea
  obtain ⟨hh, g, d, t, os⟩ := s
  cases hc : PySem.W.clsIn X.K C with
  | none => unfold PySem.W.ks_superIn at hm; rw [hc] at hm; cases hm
  | some cd =>
    unfold PySem.W.ks_superIn at hm
    rw [hc] at hm
    refine PySem.W.kxs_getMethod KF hso (PySem.W.looks_opaque KX opq) (l₀ := cd.mro) (fun A Q E s k q => wpAny_bind ((PySem.W.looks_clsIn KX hc) A _ E s k (wpAny_pure q))) rfl KX hm hI hne (by decide) ?_
    have J := pin_new (s := ⟨hh, g, d, t, os⟩) (t' := t + 1) (o := PySem.W.kxs_mw i a) I (fun b o e => Heap.get?_push_of_some _ e) (Heap.get?_push_at rfl rfl) (fun v z => by cases z)
    exact h _ _ (J.pins_of fun p hp => J.pin p (List.mem_append_right _ (by
      rcases List.mem_cons.mp hp with rfl | hp
      · exact List.mem_cons_self
      · exact List.mem_cons_of_mem _ (List.mem_cons_of_mem _ hp))))

theorem sup_wrapper {u : Addr} {us : List Value} {Q : Value → Shared → Prop} {E : Value → Shared → Prop} {A : Around} (I : Inv X ((u, PySem.W.kxs_mw "ValueError.__init__" a) :: pins) σ H s) (T : OexC X.K C) (ea : H a = some (exo a C none)) (hl : us.length ≤ sizeLine)
    (h : ∀ s', Inv X pins σ H s' → Q .none s') : wpAny (model X.prog X.w) A (call (.ref u) us) Q E s := by
  obtain ⟨hu, _⟩ := I.pin _ (List.mem_append_right _ List.mem_cons_self)
  obtain ⟨nm, q, N, bs, bm, sn, sub, ab, col, dd, k0, k1, k2, k3, k5, hC, hbm⟩ := T.cls
  obtain ⟨t1, ho⟩ := exo_at I.hok ea
  obtain ⟨hp, g, d, t, os⟩ := s
  refine wpAny_call (codeAny_of_tree ?_)
  show wpAny _ A.in1 (callAny (.ref u) ⟨us, []⟩) _ _ _
  simp only [callAny]
  refine wpAny_bind (wpAny_load hu ?_)
  simp only [PySem.W.kxs_mw, show (Value.type "method-wrapper" == Value.type "method" || Value.type "method-wrapper" == Value.type "builtin_function_or_method" || Value.type "method-wrapper" == Value.type "method-wrapper") = true by decide, if_true]
  refine PySem.W.KFB.if_so (by decide) ?_
  refine wpAny_bind (PySem.W.check_bound_init F.excBase_ValueError.toExcCallFacts (I.kIn _ _ hC) ho rfl ?_)
  refine wpAny_bind (wpAny_pure (wpAny_pure ?_))
  refine ⟨plainId_quiet F.excBase_ValueError.init.plain _, codeAny_builtin F.excBase_ValueError.initEntry ?_⟩
  refine PySem.W.exc_init_tree (cls := .ref C) (t0 := t1) (dv := none) (c2 := .none) (c3 := .none) (b4 := .bool false) ho hl fun h' k hx _ => ?_
  have I0 : Inv X pins σ H ⟨hp, g, d, t, os⟩ := I.pins_of fun p hp => I.pin p (List.mem_append_right _ (List.mem_cons_of_mem _ hp))
  have J := I0.write (t' := t) (x := a) (e := a) (o := exo a C none) (by rw [ea]; exact True.intro) (.inl rfl) k ⟨_, hx⟩ (exo_ok hx)
  have eu : upd H a (exo a C none) = H := by
    funext b
    by_cases hb : b = a
    · rw [hb, upd_same, ea]
    · rw [upd_ne hb]
  rw [eu] at J
  exact h _ J
end

section
variable {M : Model} {A : Around} {E : Value → Shared → Prop} {s : Shared} {u x g : Addr} {i : String} {pos : Pos} {env : Env} {e : Expr} {rest : List Expr} {Q : Value → Shared → Prop} {K : PySem.W.Frag}
theorem cw_wrap (h : wpAny M A (spliced (backTo pos (starEach (e :: rest) env))) (fun vs s₁ => PySem.W.KxsAt i u x s₁.heap ∧ wpAny M A (call (.ref u) vs) Q E s₁) E s)
    (he : starEach (e :: rest) env = (false, eval e env) :: starEach rest env) (hplain : (backTo pos (starEach rest env)).any (·.1) = false) :
    wpAny M A (callWith pos (.ref u) [] (backTo pos (starEach (e :: rest) env)) []) Q E s := by
  rw [he] at h ⊢
  refine PySem.W.kxs_callWith (i := i) (x := x) (by show (false || (backTo pos (starEach rest env)).any (·.1)) = false; rw [hplain]; rfl) ?_
  exact PySem.Calls.evalArgs_plain h
theorem cw_meth {self : Value} (hf : PySem.W.fnIn K g = true) (h : wpAny M A (spliced (backTo pos (starEach (e :: rest) env))) (fun vs s₁ => PySem.W.MethP K u g self s₁.heap ∧ wpAny M A (call (.ref u) vs) Q E s₁) E s)
    (he : starEach (e :: rest) env = (false, eval e env) :: starEach rest env) (hplain : (backTo pos (starEach rest env)).any (·.1) = false) :
    wpAny M A (callWith pos (.ref u) [] (backTo pos (starEach (e :: rest) env)) []) Q E s := by
  rw [he] at h ⊢
  exact PySem.W.callWith_of (by show ((false || (backTo pos (starEach rest env)).any (·.1)) || false) = false; rw [hplain]; rfl) (PySem.W.keeps_M hf) (PySem.Calls.evalArgs_plain h)
end
section
variable {X : Cx} {D : Addr} {body : List Stmt} {e : Expr} {es : List Expr} {ta : TA} {p0 p1 p2 p3 p4 : Pos}
abbrev supStmt (e : Expr) (es : List Expr) (p0 p1 p2 p3 p4 : Pos) : Stmt := .Expr (.Call (.Attribute (.Call (.Name "super" p0) [] [] p1) "__init__" p2) (e :: es) [] p3) p4
theorem pst_supV {pl : Sem Bool} (S : SupK X D) (hN : X.N[0]? = some ("self" : Str)) (ha : PA X (e :: es) ta)
    (hc : eval (.Call (.Attribute (.Call (.Name "super" p0) [] [] p1) "__init__" p2) (e :: es) [] p3) X.env = (do
      let ov ← attributeBase (.Call (.Name "super" p0) [] [] p1) "__init__" X.env (eval (.Call (.Name "super" p0) [] [] p1) X.env)
      standAt p2.atName
      let (f, first) ← holding [ov] (getMethod ov "__init__" pl)
      callWith p3 f first (backTo p3 (starEach (e :: es) X.env)) []) := by rfl) (hsw : swapsWith (.Call (.Attribute (.Call (.Name "super" p0) [] [] p1) "__init__" p2) (e :: es) [] p3) none p4.line X.env = pure false := by rfl)
    (he : starEach (e :: es) X.env = (false, eval e X.env) :: starEach es X.env := by rfl) (hpl : (backTo p3 (starEach es X.env)).any (·.1) = false := by rfl) :
    PSat X body (supStmt e es p0 p1 p2 p3 p4) (tSupV X.K D ta) := by
  intro pins s σ H R I h
  obtain ⟨a, C, hs, ea, T, sub, opq, hm, hB, h⟩ := h
  refine ks_wpAt_Expr_any (ks_wpAt_MethodCall (pl := pl) ?_ hc) I.quiet hsw
  · refine sup_base S I hN hs T ea sub (by decide) fun so s1 I1 => ?_
    refine sup_method PySem.W.kxs_ValueError I1 T ea opq hm hB fun u s2 I2 => ?_
    show wpAny _ _ (callWith p3 (.ref u) [] (backTo p3 (starEach (e :: es) X.env)) []) _ _ _
    refine cw_wrap (i := "ValueError.__init__") (x := a) (thn (ha.run p3 _ s2 σ H _ I2 h) fun us s3 ⟨vs, H1, I3, r1, hl, ea1, q⟩ => ⟨?_, ?_⟩) he hpl
    · exact (I3.pin _ (List.mem_append_right _ List.mem_cons_self)).1
    · refine sup_wrapper I3 T ea1 ?_ fun s4 I4 => ⟨σ, H1, I4, q⟩
      rw [← Paired.length r1, sizeLine_eq]
      omega

/-- super().__init__(e, ..), the next class's own __init__ keeping sp -/
def tSupF (K : PySem.W.Frag) (D f2 : Addr) (sp : Sp) (ta : TA) : TS := fun R σ H => ∃ a C : Addr, σ[0]? = some (some (V.ref a)) ∧ H a = some (exo a C none) ∧ OexC K C ∧ PySem.W.mroIn K C (.ref D) = some true ∧
  PySem.W.nsIn K PySem.cStatics "thirdparty.any" = some none ∧ PySem.W.ks_superIn K C D "__init__" = some (some (.ref f2)) ∧
  ta σ H fun vs H1 => sp (.ref a :: vs) H1 (fun _ H2 => R.nx σ H2) (fun _ _ _ => False)

theorem sup_methodF {pins : List (Addr × Obj)} {σ : L2.St} {H : Hp} {s : Shared} {a C f2 so : Addr} {Q : Value × List Value → Shared → Prop} {E : Value → Shared → Prop} {A : Around} {pl : Sem Bool} (I : Inv X ((so, PySem.W.ks_superObj D a C) :: pins) σ H s) (T : OexC X.K C) (ea : H a = some (exo a C none))
    (opq : PySem.W.nsIn X.K PySem.cStatics "thirdparty.any" = some none) (hm : PySem.W.ks_superIn X.K C D "__init__" = some (some (.ref f2))) (ht : PySem.W.typeIn X.K (.ref f2) = some (.type "function"))
    (h : ∀ u s', Inv X ((u, PySem.W.methodObj (.ref f2) (.ref a)) :: pins) σ H s' → Q (.ref u, []) s') : wpAny (model X.prog X.w) A (getMethod (.ref so) "__init__" pl) Q E s := by
  have KX := I.kIn
  obtain ⟨hso, _⟩ := I.pin _ (List.mem_append_right _ List.mem_cons_self)
  have hne := exo_ne T I ea
  obtain ⟨hh, g, d, t, os⟩ := s
  cases hc : PySem.W.clsIn X.K C with
  | none => unfold PySem.W.ks_superIn at hm; rw [hc] at hm; cases hm
  | some cd =>
    unfold PySem.W.ks_superIn at hm
    rw [hc] at hm
    obtain ⟨of, hof, hofc⟩ : ∃ of, hh.get? f2 = some of ∧ of.cls = .type "function" := by
      have ht' : (X.K.lookup f2).map (·.cls) = some (.type "function") := ht
      cases z : X.K.lookup f2 with
      | none => rw [z] at ht'; cases ht'
      | some of => rw [z] at ht'; exact ⟨of, KX _ _ z, Option.some.inj ht'⟩
    refine ks_wpAny_getMethod_super hso (PySem.W.looks_opaque KX opq) (l₀ := cd.mro) (fun A Q E s k q => wpAny_bind ((PySem.W.looks_clsIn KX hc) A _ E s k (wpAny_pure q))) rfl KX hm hof hofc hne (by decide) ?_
    have J := pin_new (s := ⟨hh, g, d, t, os⟩) (t' := t + 1) (o := PySem.W.methodObj (.ref f2) (.ref a)) I (fun b o e => Heap.get?_push_of_some _ e) (Heap.get?_push_at rfl rfl) (fun v z => by cases z)
    exact h _ _ (J.pins_of fun p hp => J.pin p (List.mem_append_right _ (by
      rcases List.mem_cons.mp hp with rfl | hp
      · exact List.mem_cons_self
      · exact List.mem_cons_of_mem _ (List.mem_cons_of_mem _ hp))))

theorem pst_supF {pl : Sem Bool} {CX : CXT} {k : Nat} {f2 : Addr} {fd : FuncData} {ps : List Str} {sp : Sp} (S : SupK X D) (hN : X.N[0]? = some ("self" : Str)) (F1 : FnOk X.prog X.w X.K X.mg X.base CX k f2 fd ps sp) (hr : Room k X.A) (hb : Binds X.K fd ps [])
    (hx : Passes CX X (fun _ _ _ => False)) (ht : PySem.W.typeIn X.K (.ref f2) = some (.type "function")) (hf : PySem.W.fnIn X.K f2 = true) (ha : PA X (e :: es) ta)
    (hc : eval (.Call (.Attribute (.Call (.Name "super" p0) [] [] p1) "__init__" p2) (e :: es) [] p3) X.env = (do
      let ov ← attributeBase (.Call (.Name "super" p0) [] [] p1) "__init__" X.env (eval (.Call (.Name "super" p0) [] [] p1) X.env)
      standAt p2.atName
      let (f, first) ← holding [ov] (getMethod ov "__init__" pl)
      callWith p3 f first (backTo p3 (starEach (e :: es) X.env)) []) := by rfl) (hsw : swapsWith (.Call (.Attribute (.Call (.Name "super" p0) [] [] p1) "__init__" p2) (e :: es) [] p3) none p4.line X.env = pure false := by rfl)
    (he : starEach (e :: es) X.env = (false, eval e X.env) :: starEach es X.env := by rfl) (hpl : (backTo p3 (starEach es X.env)).any (·.1) = false := by rfl) :
    PSat X body (supStmt e es p0 p1 p2 p3 p4) (tSupF X.K D f2 sp ta) := by
  intro pins s σ H R I h
  obtain ⟨a, C, hs, ea, T, sub, opq, hm, h⟩ := h
  refine ks_wpAt_Expr_any (ks_wpAt_MethodCall (pl := pl) ?_ hc) I.quiet hsw
  · refine sup_base S I hN hs T ea sub (by decide) fun so s1 I1 => ?_
    refine sup_methodF I1 T ea opq hm ht fun u s2 I2 => ?_
    show wpAny _ _ (callWith p3 (.ref u) [] (backTo p3 (starEach (e :: es) X.env)) []) _ _ _
    refine cw_meth (g := f2) (self := .ref a) hf (thn (ha.run p3 _ s2 σ H _ I2 h) fun us s3 ⟨vs, H1, I3, r1, q⟩ => ⟨⟨?_, I3.kIn⟩, ?_⟩) he hpl
    · exact (I3.pin _ (List.mem_append_right _ List.mem_cons_self)).1
    · have hu := (I3.pin _ (List.mem_append_right _ List.mem_cons_self)).1
      have I4 : Inv X pins σ H1 s3 := I3.pins_of fun p hp => I3.pin p (List.mem_append_right _ (List.mem_cons_of_mem _ hp))
      have r2 : Vals (V.ref a :: vs) (Value.ref a :: us) := .cons rfl r1
      have hl : (Value.ref a :: us).length = ps.length := by
        rw [← r2.length]
        exact F1.len _ _ _ _ q
      refine wpAny_call (ks_codeAny_call_bound hu (codeAny_mono (F1.run _ X.stack _ _ ⟨Value.ref a :: us, []⟩ (Value.ref a :: us) _ _ (fun _ _ _ => False) hr I4.env0 (by have z := hb s3 (Value.ref a :: us) I4.kIn (by simpa using hl); rw [List.append_nil] at z; exact z) r2 q) fun r s' hq' => ?_))
      cases r with
      | error er => exact hx pins σ _ _ er s' I4 hq'
      | ok fl =>
        cases fl with
        | ret u2 =>
          obtain ⟨v, H', I5, rv, q5⟩ := I4.after hq'
          exact ⟨σ, H', I5, q5⟩
        | next => exact False.elim hq'
        | brk => exact False.elim hq'
        | cont => exact False.elim hq'
end
end Kb

set_option Elab.async false
set_option linter.all false
set_option maxRecDepth 100000
set_option maxHeartbeats 4000000
namespace Kb
open PySem PySem.Spec PyProof.Rows L2

theorem lookup_nodup {y : Str} {u : Value} : ∀ {l : List (Str × Value)}, (l.map (·.1)).Nodup → (y, u) ∈ l → l.lookup y = some u
  | [], _, h => by cases h
  | (z, w) :: r, nd, h => by
    rw [List.map_cons, List.nodup_cons] at nd
    rcases List.mem_cons.mp h with h | h
    · obtain ⟨rfl, rfl⟩ := Prod.mk.inj h
      simp [List.lookup]
    · have ne : (y == z) = false := by
        refine beq_eq_false_iff_ne.mpr fun e => nd.1 ?_
        rw [← e]
        exact List.mem_map.mpr ⟨(y, u), h, rfl⟩
      rw [List.lookup, ne]
      exact lookup_nodup nd.2 h

/-- the scope of an __init__ that says super() -/
structure SupScope (N P : List Str) (sc : Scope) : Prop where
  kind : sc.kind = .function
  co : sc.isCoroutine = false
  gen : sc.isGenerator = false
  nd : N.Nodup
  pre : N.take P.length = P
  par : ∀ x ∈ P, sc.names.lookup x = some .local
  nocell : ∀ y ∈ sc.names, y.2 ≠ .cell
  free : ∀ y ∈ sc.names, y.2 = .free → y.1 = "__class__"

/-- the context of its body -/
def cxS (P : Program) (w : World) (K : PySem.W.Frag) (mg : Str → Option Value) (base : Heap) (N : List Str) (qual : Str) (scope : Scope) (f : Addr) (cd : Value) (cc : Addr) (A : Around) (outer : List Env) (s : Shared) (H : Hp) : Cx where
  prog := P
  w := w
  K := K
  mg := mg
  base := base
  A := A.deeper (PySem.W.ksEnv qual scope s.heap.objs.size f cd cc)
  N := N
  s_0 := s
  H_0 := H
  env := PySem.W.ksEnv qual scope s.heap.objs.size f cd cc
  outer := outer
  stack := PySem.W.ksEnv qual scope s.heap.objs.size f cd cc :: outer
  ex := []
  calm := true
  fn := fun _ => false
  pn := []
  xe := fun _ _ => False

theorem inv_startS {P : Program} {w : World} {K : PySem.W.Frag} {mg : Str → Option Value} {base : Heap} {N ps : List Str} {qual : Str} {scope : Scope} {f : Addr} {cd : Value} {cc : Addr} {A : Around} {outer : List Env} {s : Shared} {H : Hp} {us : List Value} {vs : List V} {h₁ : Heap} {t' : Nat} {cl : Value} {cld : Option Addr} {v0 : Option Value} {csl : Array (Option Value)}
    (S : SupScope N ps scope) (hd : A.handled = none) (e0 : Env0 P w K mg base A outer s H) (hl : vs.length = ps.length) (r : Vals vs us) (hcell : K.lookup cc = some ⟨cl, cld, .cell v0, csl⟩)
    (hn : h₁.Ns s.heap.objs.size (fun x => (ps.zip us).reverse.lookup x)) (k : ∀ b o, s.heap.get? b = some o → h₁.get? b = some o) :
    Inv (cxS P w K mg base N qual scope f cd cc A outer s H) [] (start N vs) H { s with heap := h₁, toks := t' } := by
  have hpl : ps.length ≤ N.length := by have := congrArg List.length S.pre; rw [List.length_take] at this; omega
  have noA : ∀ b : Addr, b ∉ (cxS P w K mg base N qual scope f cd cc A outer s H).ex := fun b z => absurd (show b ∈ ([] : List Addr) from z) (by simp)
  have hb := e0.bs cc _ (e0.mod.kin _ _ hcell)
  have cell1 : ∀ y c, (cxS P w K mg base N qual scope f cd cc A outer s H).env.cells.lookup y = some c → y = ("__class__" : Str) ∧ c = cc := fun y c h => by
    have h : List.lookup y [(("__class__" : Str), cc)] = some c := h
    rw [List.lookup] at h
    split at h
    · rename_i z
      exact ⟨beq_iff_eq.mp z, (Option.some.inj h).symm⟩
    · cases h
  refine ⟨⟨e0.mod, S.kind, rfl, rfl, Nat.le_refl _, fun y z c h1 h2 => (cell1 y c h1).1.trans (cell1 z c h2).1.symm, fun y hy => ?_, fun y c z h => Bool.noConfusion z, fun _ => hd, Around.frames_deeper e0.frames, .inr ⟨rfl, rfl⟩, fun b z => absurd z (noA b), e0.bs, e0.bsz, fun b _ _ => noA b, fun b z => absurd z (noA b), e0.funs, e0.frf⟩,
    rfl, e0.bare, Un.kept k, ⟨_, hn, fun i y v h1 h2 h3 => ?_⟩, fun y c h => ⟨v0, ⟨cl, cld, .cell v0, csl⟩, k _ _ (by obtain ⟨_, e⟩ := cell1 y c h; subst e; exact hb.1), rfl⟩, e0.hok.fresh (Nat.le_refl _), fun y c h => by obtain ⟨_, e⟩ := cell1 y c h; subst e; exact hb.2, fun p hp => absurd (show p ∈ ([] : List (Addr × Obj)) from hp) (by simp), e0.hok.kept k, ?_⟩
  · have hy : scope.names.lookup y = some .cell ∨ scope.names.lookup y = some .free := hy
    rcases hy with hy | hy
    · exact absurd rfl (S.nocell _ (PySem.mem_of_lookup hy))
    · have e : y = ("__class__" : Str) := S.free _ (PySem.mem_of_lookup hy) rfl
      subst e
      exact ⟨cc, by show List.lookup ("__class__" : Str) [(("__class__" : Str), cc)] = some cc; simp [List.lookup]⟩
  · have hi : i < vs.length := by
      unfold L2.start at h2
      by_cases hi : i < vs.length
      · exact hi
      · rw [List.getElem?_append_right (by simpa using hi)] at h2
        rw [List.getElem?_replicate] at h2
        split at h2 <;> cases h2
    have ha : vs[i]? = some v := by
      unfold L2.start at h2
      rw [List.getElem?_append_left (by simpa using hi), List.getElem?_map] at h2
      cases e : vs[i]? with
      | none => rw [e] at h2; cases h2
      | some a => rw [e] at h2; cases h2; rfl
    obtain ⟨u, hu, rv⟩ := r.get ha
    have hp : ps[i]? = some y := by
      rw [← S.pre, List.getElem?_take_of_lt (by omega)]; exact h1
    have ndP : ps.Nodup := by rw [← S.pre]; exact S.nd.sublist (List.take_sublist _ _)
    refine ⟨u, rv, .inl ⟨S.par y (List.mem_of_getElem? hp), ?_⟩⟩
    have hlen : us.length = ps.length := by rw [← r.length]; exact hl
    refine lookup_nodup ?_ ?_
    · rw [List.map_reverse, List.map_fst_zip (by omega)]
      exact (List.reverse_perm ps).nodup_iff.mpr ndP
    · rw [List.mem_reverse]
      exact List.mem_of_getElem? (i := i) (by rw [List.getElem?_zip_eq_some]; exact ⟨hp, hu⟩)
  · unfold L2.start
    show _ = N.length
    rw [List.length_append, List.length_map, List.length_replicate]
    omega

/-- THE RULE: an __init__ that says super() first, by its body -/
theorem fn_sup {P : Program} {w : World} {K : PySem.W.Frag} {mg : Str → Option Value} {base : Heap} {k : Nat} {f : Addr} {name qual : Str} {params : Arguments} {b0 : Stmt} {body : List Stmt} {scope : Scope} {dV kV doc pm cdv ct oc : Value} {an od : Option Addr} {cc : Addr}
    {osl : Array (Option Value)} {N ps : List Str} {sp : Sp} {cl : Value} {cld : Option Addr} {v0 : Option Value} {csl : Array (Option Value)}
    (lk : K.lookup f = some ⟨oc, od, .func (PySem.W.ksFn name qual params (b0 :: body) scope dV kV doc pm an cdv ct cc), osl⟩) (hcd : PySem.W.codeIn K cdv qual = true) (hcell : K.lookup cc = some ⟨cl, cld, .cell v0, csl⟩) (S : SupScope N ps scope)
    (len : ∀ vs H Q E, sp vs H Q E → vs.length = ps.length)
    (hbody : ∀ (A : Around) (outer : List Env) (s : Shared) (H : Hp) (vs : List V) (Q : VK) (E : XK), Room k (A.deeper (PySem.W.ksEnv qual scope s.heap.objs.size f cdv cc)) → sp vs H Q E →
      ∃ t u, PSat (cxS P w K mg base N qual scope f cdv cc A outer s H) (b0 :: body) b0 t ∧ PSs (cxS P w K mg base N qual scope f cdv cc A outer s H) body u ∧ t { nx := fun σ' H' => u { nx := fun _ H' => Q .non H', rt := Q } σ' H', rt := Q } (start N vs) H) :
    FnOk P w K mg base CX0 (k + 1) f (PySem.W.ksFn name qual params (b0 :: body) scope dV kV doc pm an cdv ct cc) ps sp := by
  refine ⟨len, fun A outer s H args us vs Q E hr e0 hb r hsp => ?_⟩
  have hl := len _ _ _ _ hsp
  have KX : K.In s.heap := e0.mod.kin.keeps fun b o e => (e0.bs b o e).1
  have lim : s.heap.NoLimit := e0.mod.nolimit.keeps fun b o e => (e0.bs b o e).1
  refine ks_codeAny_call_defAt (body := b0 :: body) (binds := ps.zip us) hr.depth (KX _ _ lk) rfl lim (PySem.W.codeRec_of KX hcd) rfl hb S.nocell (fun y hy => S.par y.1 (List.of_mem_zip (show (y.1, y.2) ∈ ps.zip us from hy)).1) (fun h₁ hns hk => ?_) S.co S.gen S.kind
  obtain ⟨t, u, ht, hu, hq⟩ := hbody A outer s H vs Q E (hr.deeper _) hsp
  have I : Inv (cxS P w K mg base N qual scope f cdv cc A outer s H) [] (start N vs) H { s with heap := h₁, toks := s.toks + (ps.zip us).length } := inv_startS S hr.hd e0 hl r hcell hns hk
  have fin : ∀ {s' : Shared} {σ' : L2.St} {H' : Hp} {v : V} {u : Value}, Inv (cxS P w K mg base N qual scope f cdv cc A outer s H) [] σ' H' s' → RelV v u → Q v H' → CE outer P w H s Q u s' :=
    fun {s' σ' H' v u} J rv q => ⟨v, H', J.os, J.bare, J.base, J.hok, rv, q⟩
  have last : ∀ (fl : Flow) (s' : Shared), SP (cxS P w K mg base N qual scope f cdv cc A outer s H) [] { nx := fun _ H' => Q .non H', rt := Q } fl s' → CR CX0 outer P w H s Q E (.ok (.ret (match fl with | .ret v => v | _ => .none))) s' := by
    intro fl s' hs
    cases fl with
    | ret u =>
      obtain ⟨v, σ', H', J, rv, q⟩ := hs
      exact fin J rv q
    | next =>
      obtain ⟨σ', H', J, q⟩ := hs
      exact fin (v := V.non) (u := Value.none) J rfl q
    | brk =>
      obtain ⟨_, _, _, q⟩ := hs
      exact False.elim q
    | cont =>
      obtain ⟨_, _, _, q⟩ := hs
      exact False.elim q
  show _root_.PySem.wpAt (model P w) (A.deeper (PySem.W.ksEnv qual scope s.heap.objs.size f cdv cc)) (.func (b0 :: body) (PySem.W.ksEnv qual scope s.heap.objs.size f cdv cc)) (execs (b0 :: body) (PySem.W.ksEnv qual scope s.heap.objs.size f cdv cc)) _ _ _
  refine ks_wpAt_execs_cons (ks_wpAt_mono (ht [] _ _ _ _ I hq) (fun fl s' hs => ?_) fun e s' hs => False.elim hs)
  cases fl with
  | next =>
    obtain ⟨σ', H', J, q⟩ := hs
    exact wpAt_of_wpAny (wpAny_mono (hu.run [] s' σ' H' _ J q) (fun fl s2 hs => last fl s2 hs) fun e s' hs => False.elim hs)
  | ret u => exact last (.ret u) s' hs
  | brk =>
    obtain ⟨_, _, _, q⟩ := hs
    exact False.elim q
  | cont =>
    obtain ⟨_, _, _, q⟩ := hs
    exact False.elim q
end Kb

set_option Elab.async false
set_option linter.all false
set_option maxRecDepth 100000
set_option maxHeartbeats 4000000
namespace Kb
open PySem PySem.Spec PyProof.Rows L2

/-! ### what the written part says of an error class -/
def oexB (K : PySem.W.Frag) (C : Addr) : Bool := match K.lookup C with
  | some ⟨.type "type", _, .cls cd, sl⟩ => (match cd.mro, sl.toList with
    | .ref C' :: bm, [_, _, _, _, some (.builtin n), _] => C' == C && n == "ValueError.__new__" && !cd.hasDel && cd.hasDict && PySem.HandSPX.refsVE bm
    | _, _ => false)
  | _ => false
theorem oexB_ok {K : PySem.W.Frag} {C : Addr} (q : oexB K C = true) : ∃ nm q N bs bm sn sub ab col dd k0 k1 k2 k3 k5, K.lookup C = some (excClassObj nm q C N bs bm true sn sub ab col dd k0 k1 k2 k3 k5 "ValueError.__new__") ∧ PySem.HandSPX.refsVE bm = true := by
  unfold oexB at q
  split at q
  · rename_i dd cd sl ho
    split at q
    · rename_i C' bm k0 k1 k2 k3 n k5 hm hs
      simp only [Bool.and_eq_true, beq_iff_eq, Bool.not_eq_true'] at q
      obtain ⟨⟨⟨⟨rfl, rfl⟩, hdel⟩, hdict⟩, ht⟩ := q
      obtain ⟨nm, bs, mro, ns, qn, hd, sn, sub, ab, col, del⟩ := cd
      dsimp only at hm hdel hdict
      subst hm hdel hdict
      have hsl : sl = #[k0, k1, k2, k3, some (.builtin "ValueError.__new__"), k5] := by
        obtain ⟨l⟩ := sl
        simp only at hs
        rw [hs]
      subst hsl
      exact ⟨nm, qn, ns, bs, bm, sn, sub, ab, col, dd, k0, k1, k2, k3, k5, ho, ht⟩
    · cases q
  · cases q
/-- C, an error class below D (or D itself) -/
structure Bad (K : PySem.W.Frag) (C D : Addr) : Prop where
  ox : OexC K C
  sub : PySem.W.mroIn K C (.ref D) = some true
  opq : PySem.W.nsIn K PySem.cStatics "thirdparty.any" = some none
  sV : PySem.W.subIn K (.ref C) (.type "ValueError") = some true
  smV : PySem.W.ks_superIn K C D "__init__" = some (some (.builtin "ValueError.__init__"))
  ex : ExcC K C
  nw : PySem.W.findIn K (.ref C) "word" = some none
def badL (K : PySem.W.Frag) (C D : Addr) : List Bool :=
  [oexB K C, decide (PySem.W.findIn K (.ref C) "__setattr__" = some (some (.builtin "object.__setattr__"))), decide (PySem.W.subIn K (.ref C) (.type "BaseException") = some true), decide (PySem.W.typeIn K (.ref C) = some (.type "type")), PySem.W.keepIn K (.ref C),
   decide (PySem.W.mroIn K C (.ref D) = some true), decide (PySem.W.nsIn K PySem.cStatics "thirdparty.any" = some none), decide (PySem.W.subIn K (.ref C) (.type "ValueError") = some true), decide (PySem.W.ks_superIn K C D "__init__" = some (some (.builtin "ValueError.__init__"))),
   decide (PySem.W.findIn K (.ref C) "__getattribute__" = some (some (.builtin "BaseException.__getattribute__"))), decide (PySem.W.findIn K (.ref C) "__getattr__" = some none), PySem.W.hasDictIn K C, decide (PySem.W.findIn K (.ref C) "__class__" = some (some (.builtin "object.__class__"))),
   decide (PySem.W.specialIn K (.builtin "object.__class__") "__get__" = some (some (.builtin "getset_descriptor.__get__"))), decide (PySem.W.takesIn K (.builtin "object.__class__") = some true), decide (PySem.W.mroIn K C (.type "object") = some true), decide (PySem.W.findIn K (.ref C) "word" = some none)]
def badB (K : PySem.W.Frag) (C D : Addr) : Bool := (badL K C D).all id
theorem bad_of {K : PySem.W.Frag} {C D : Addr} (h : badB K C D = true) : Bad K C D := by
  unfold badB badL at h
  simp only [List.all_cons, List.all_nil, id_eq, Bool.and_true, Bool.and_eq_true, decide_eq_true_eq] at h
  obtain ⟨h1, h2, h3, h4, h5, h6, h7, h8, h9, h10, h11, h12, h13, h14, h15, h16, h17⟩ := h
  exact ⟨⟨oexB_ok h1, h2, h3, h4, h5⟩, h6, h7, h8, h9, ⟨h10, h11, h3, h12, h13, h14, h15, h16⟩, h17⟩
theorem Bad.xf {K : PySem.W.Frag} {C D : Addr} (B : Bad K C D) : XfC K C := ⟨B.ex.hg, B.ex.hk, B.ex.hs, B.ex.hd⟩
theorem Bad.cls {K : PySem.W.Frag} {C D : Addr} (B : Bad K C D) : ∃ cd, PySem.W.clsIn K C = some cd := by
  obtain ⟨nm, q, N, bs, bm, sn, sub, ab, col, dd, k0, k1, k2, k3, k5, hC, hbm⟩ := B.ox.cls
  exact ⟨_, by unfold PySem.W.clsIn; rw [hC] <;> rfl⟩
def fileB (K : PySem.W.Frag) (cd : Value) (file : Str) : Bool := match cd with
  | .ref c => (match K.lookup c with
    | some ⟨_, _, .fields vs, _⟩ => (match (vs[2]? : Option Value) with
      | some (Value.str f _) => file == f
      | _ => false)
    | _ => false)
  | _ => false
theorem fileB_ok {K : PySem.W.Frag} {cd : Value} {file : Str} (h : fileB K cd file = true) : ∃ (cda : Addr) (ccl : Value) (cdd : Option Addr) (vs : Array Value) (ccs : Array (Option Value)) (f : Str) (tf : Tok), cd = .ref cda ∧ K.lookup cda = some ⟨ccl, cdd, .fields vs, ccs⟩ ∧ vs[2]? = some (.str f tf) ∧ (file == f) = true := by
  unfold fileB at h
  split at h
  · split at h
    · rename_i hl
      split at h
      · rename_i hv
        exact ⟨_, _, _, _, _, _, _, rfl, hl, hv, h⟩
      · cases h
    · cases h
  · cases h

/-! ### the __init__ defs -/
def sp_CE (K : PySem.W.Frag) (D : Addr) : Sp := fun vs H Q E => ∃ (a C : Addr) (v : V), vs = [.ref a, v] ∧ Bad K C D ∧ H a = some (exo a C none) ∧
  ∀ dx, H dx = none → dx ≠ a → Q .non (upd (upd H dx (exd dx [("word", v)])) a (exo a C (some dx)))
def sp_B0 (C : Addr) (nm : Str) : Sp := fun vs H Q E => ∃ (a : Addr), vs = [.ref a] ∧ H a = some (exo a C none) ∧
  ∀ dx, H dx = none → dx ≠ a → Q .non (upd (upd H dx (exd dx [("word", .str nm)])) a (exo a C (some dx)))
def sp_B1 (C : Addr) (nm at1 : Str) : Sp := fun vs H Q E => ∃ (a : Addr) (v : V), vs = [.ref a, v] ∧ H a = some (exo a C none) ∧
  ∀ dx, H dx = none → dx ≠ a → Q .non (upd (upd (upd H dx (exd dx [("word", .str nm)])) a (exo a C (some dx))) dx (exd dx [(at1, v), ("word", .str nm)]))

section
variable {P : Program} {w : World} {K : PySem.W.Frag} {mg : Str → Option Value} {base : Heap}
/-- an __init__ of the text that says super() -/
structure SupI (P : Program) (K : PySem.W.Frag) (mg : Str → Option Value) (qual : Str) (s : Stmt) (D : Addr) (N : List Str) (f : Addr) (fd : FuncData) : Prop where
  ex : ∃ (oc : Value) (od : Option Addr) (dV kV doc pm : Value) (an : Option Addr) (cdv ct : Value) (osl : Array (Option Value)) (cc : Addr) (cl : Value) (cld : Option Addr) (csl : Array (Option Value)),
    fd = PySem.W.ksFn "__init__" qual (defArgs s) (defBody s) (defScope s) dV kV doc pm an cdv ct cc ∧ K.lookup f = some ⟨oc, od, .func fd, osl⟩ ∧ PySem.W.codeIn K cdv qual = true ∧ K.lookup cc = some ⟨cl, cld, .cell (some (.ref D)), csl⟩ ∧ fileB K cdv P.main.file = true
  sc : SupScope N N (defScope s)
  hs : (defScope s).names.lookup ("super" : Str) = some .globalImplicit
  hc : (defScope s).names.lookup ("__class__" : Str) = some .free
  hl : (defScope s).names.lookup ("self" : Str) = some .local
  ar : ∃ ar : Arg, ((defArgs s).posonlyargs ++ (defArgs s).args).head? = some ar ∧ ar.arg = "self"
  su : mg "super" = none
  tp : (P.main.scope.names.lookup ("super" : Str)).isSome = false
  dc : ∃ cd, PySem.W.clsIn K D = some cd

theorem SupI.supK {qual : Str} {s : Stmt} {D f : Addr} {fd : FuncData} {N : List Str} (S : SupI P K mg qual s D N f fd) {oc : Value} {od : Option Addr} {dV kV doc pm : Value} {an : Option Addr} {cdv ct : Value} {osl : Array (Option Value)} {cc : Addr} {cl : Value} {cld : Option Addr} {csl : Array (Option Value)}
    (hfd : fd = PySem.W.ksFn "__init__" qual (defArgs s) (defBody s) (defScope s) dV kV doc pm an cdv ct cc) (lk : K.lookup f = some ⟨oc, od, .func fd, osl⟩) (lc : K.lookup cc = some ⟨cl, cld, .cell (some (.ref D)), csl⟩) (hf : fileB K cdv P.main.file = true)
    (A : Around) (outer : List Env) (sh : Shared) (H : Hp) : SupK (cxS P w K mg base N qual (defScope s) f cdv cc A outer sh H) D := by
  obtain ⟨ar, h1, h2⟩ := S.ar
  obtain ⟨cda, ccl, cdd, vs, ccs, fl, tf, e, l, v, b⟩ := fileB_ok hf
  exact ⟨S.hs, S.hc, S.hl, ⟨f, oc, od, fd, osl, ar, rfl, lk, by subst hfd; exact h1, h2⟩, ⟨cda, ccl, cdd, vs, ccs, fl, tf, e, l, v, b⟩, ⟨cc, cl, cld, csl, by show List.lookup ("__class__" : Str) [(("__class__" : Str), cc)] = some cc; simp [List.lookup], lc⟩, S.su, S.tp, S.dc⟩

/-- super().__init__(e, ..) is a call of a method as it stands on one line -/
def SupEv (e : Expr) (es : List Expr) (p0 p1 p2 p3 p4 : Pos) : Prop := ∃ pl : Sem Bool, ∀ env : Env, eval (.Call (.Attribute (.Call (.Name "super" p0) [] [] p1) "__init__" p2) (e :: es) [] p3) env = (do
      let ov ← attributeBase (.Call (.Name "super" p0) [] [] p1) "__init__" env (eval (.Call (.Name "super" p0) [] [] p1) env)
      standAt p2.atName
      let (f, first) ← holding [ov] (getMethod ov "__init__" pl)
      callWith p3 f first (backTo p3 (starEach (e :: es) env)) [])
theorem ok_CE {s : Stmt} {D f : Addr} {fd : FuncData} {p0 p1 p2 p3 p4 q0 q1 q2 q3 q4 : Pos} (S : SupI P K mg "ChamberError.__init__" s D ["self", "word"] f fd)
    (hb : defBody s = [supStmt (.Name "word" q0) [] p0 p1 p2 p3 p4, .Assign [.Attribute (.Name "self" q1) "word" q2] (.Name "word" q3) q4])
    (ev : SupEv (.Name "word" q0) [] p0 p1 p2 p3 p4) (hw : (defScope s).names.lookup ("word" : Str) = some .local) : FnOk P w K mg base CX0 1 f fd ["self", "word"] (sp_CE K D) := by
  obtain ⟨oc, od, dV, kV, doc, pm, an, cdv, ct, osl, cc, cl, cld, csl, hfd, lk, hcd, lc, hf⟩ := S.ex
  have hfd' := hfd
  rw [hb] at hfd
  have lk' := lk
  subst hfd
  refine fn_sup lk' hcd lc S.sc (fun vs H Q E ⟨a, C, v, e, _⟩ => by rw [e]; rfl) fun A outer sh H vs Q E hr hsp => ?_
  have SK := S.supK (w := w) (base := base) hfd' lk lc hf A outer sh H
  have nd := S.sc.nd
  refine ⟨_, _, pst_supV SK rfl (pa_cons (pe_var (i := 1) rfl (.inl hw)) pa_nil) (hc := ev.choose_spec _), pss_one (ps_ost (pe_var (i := 0) rfl (.inl S.hl)) (pe_var (i := 1) rfl (.inl hw))), ?_⟩
  obtain ⟨a, C, v, rfl, B, ea, hq⟩ := hsp
  refine ⟨a, C, rfl, ea, B.ox, B.sub, B.opq, B.smV, B.sV, ?_⟩
  refine ⟨v, rfl, by simp, ea, ?_⟩
  exact ⟨v, rfl, .ref a, rfl, a, C, rfl, B.ox, B.nw, .inl ⟨ea, fun dx n ne => hq dx n ne⟩⟩
theorem ok_B0 {s : Stmt} {C D f f2 : Addr} {qual nm : Str} {fd fd2 : FuncData} {jc : Nat} {p0 p1 p2 p3 p4 q0 : Pos} (S : SupI P K mg qual s C ["self"] f fd)
    (hb : defBody s = [supStmt (.Constant (.str nm) jc q0) [] p0 p1 p2 p3 p4]) (ev : SupEv (.Constant (.str nm) jc q0) [] p0 p1 p2 p3 p4)
    (F1 : FnOk P w K mg base CX0 1 f2 fd2 ["self", "word"] (sp_CE K D)) (hbs : Binds K fd2 ["self", "word"] []) (B : Bad K C D) (sub : PySem.W.mroIn K C (.ref C) = some true) (sm : PySem.W.ks_superIn K C C "__init__" = some (some (.ref f2)))
    (ht : PySem.W.typeIn K (.ref f2) = some (.type "function")) (hf2 : PySem.W.fnIn K f2 = true) : FnOk P w K mg base CX0 2 f fd ["self"] (sp_B0 C nm) := by
  obtain ⟨oc, od, dV, kV, doc, pm, an, cdv, ct, osl, cc, cl, cld, csl, hfd, lk, hcd, lc, hf⟩ := S.ex
  have hfd' := hfd
  rw [hb] at hfd
  have lk' := lk
  subst hfd
  refine fn_sup lk' hcd lc S.sc (fun vs H Q E ⟨a, e, _⟩ => by rw [e]; rfl) fun A outer sh H vs Q E hr hsp => ?_
  have SK := S.supK (w := w) (base := base) hfd' lk lc hf A outer sh H
  refine ⟨_, _, pst_supF SK rfl F1 hr hbs pass0 ht hf2 (pa_cons pe_str pa_nil) (hc := ev.choose_spec _), pss_nil, ?_⟩
  obtain ⟨a, rfl, ea, hq⟩ := hsp
  refine ⟨a, C, rfl, ea, B.ox, sub, B.opq, sm, ?_⟩
  exact ⟨a, C, .str nm, rfl, B, ea, fun dx n ne => hq dx n ne⟩
theorem ok_B1 {s : Stmt} {C D f f2 : Addr} {qual nm at1 : Str} {fd fd2 : FuncData} {jc : Nat} {p0 p1 p2 p3 p4 q0 q1 q2 q3 q4 : Pos} (S : SupI P K mg qual s C ["self", at1] f fd)
    (hb : defBody s = [supStmt (.Constant (.str nm) jc q0) [] p0 p1 p2 p3 p4, .Assign [.Attribute (.Name "self" q1) at1 q2] (.Name at1 q3) q4]) (ev : SupEv (.Constant (.str nm) jc q0) [] p0 p1 p2 p3 p4)
    (hw : (defScope s).names.lookup at1 = some .local) (hd1 : (at1 == ("__debug__" : Str)) = false) (hd2 : (at1 == ("__classdict__" : Str)) = false) (na : PySem.W.findIn K (.ref C) at1 = some none)
    (F1 : FnOk P w K mg base CX0 1 f2 fd2 ["self", "word"] (sp_CE K D)) (hbs : Binds K fd2 ["self", "word"] []) (B : Bad K C D) (sub : PySem.W.mroIn K C (.ref C) = some true) (sm : PySem.W.ks_superIn K C C "__init__" = some (some (.ref f2)))
    (ht : PySem.W.typeIn K (.ref f2) = some (.type "function")) (hf2 : PySem.W.fnIn K f2 = true) : FnOk P w K mg base CX0 2 f fd ["self", at1] (sp_B1 C nm at1) := by
  obtain ⟨oc, od, dV, kV, doc, pm, an, cdv, ct, osl, cc, cl, cld, csl, hfd, lk, hcd, lc, hf⟩ := S.ex
  have hfd' := hfd
  rw [hb] at hfd
  have lk' := lk
  subst hfd
  refine fn_sup lk' hcd lc S.sc (fun vs H Q E ⟨a, v, e, _⟩ => by rw [e]; rfl) fun A outer sh H vs Q E hr hsp => ?_
  have SK := S.supK (w := w) (base := base) hfd' lk lc hf A outer sh H
  refine ⟨_, _, pst_supF SK rfl F1 hr hbs pass0 ht hf2 (pa_cons pe_str pa_nil) (hc := ev.choose_spec _), pss_one (ps_ost (pe_var (i := 0) rfl (.inl S.hl)) (pe_var (i := 1) rfl (.inl hw) hd1 hd2)), ?_⟩
  obtain ⟨a, v, rfl, ea, hq⟩ := hsp
  refine ⟨a, C, rfl, ea, B.ox, sub, B.opq, sm, ?_⟩
  refine ⟨a, C, .str nm, rfl, B, ea, fun dx n ne => ?_⟩
  refine ⟨v, rfl, .ref a, rfl, a, C, rfl, B.ox, na, .inr ⟨dx, [("word", .str nm)], upd_same, ?_, by simp, hq dx n ne⟩⟩
  rw [upd_ne ne, upd_same]
end

/-! ### C(..) in a raise -/
def tBad (C : Addr) (nm : Str) : L2.St → Hp → XK → Prop := fun σ H Q => ∀ d, H d = none → Q (.ref C) (some d) (upd H d (.xd [("word", .str nm)]))
def tBad1 (C : Addr) (nm at1 : Str) (te : TE) : L2.St → Hp → XK → Prop := tMkO C (sp_B1 C nm at1) [] (tCons te tNil)
theorem heap_end {H : Hp} {a dx : Addr} {o1 o2 o3 : HO} {fs : List (Str × V)} (n : H a = none) (ne : dx ≠ a) : upd (del (upd (upd (upd H a o1) dx o2) a o3) a) dx (.xd fs) = upd H dx (.xd fs) := by
  funext b
  by_cases h1 : b = dx
  · rw [h1, upd_same, upd_same]
  · rw [upd_ne h1, upd_ne h1]
    by_cases h2 : b = a
    · rw [h2, del_same, n]
    · rw [del_ne h2, upd_ne h2, upd_ne h1, upd_ne h2]
theorem heap_end1 {H : Hp} {a dx : Addr} {o1 o2 o3 o4 : HO} {fs : List (Str × V)} (n : H a = none) (ne : dx ≠ a) : upd (del (upd (upd (upd (upd H a o1) dx o2) a o3) dx o4) a) dx (.xd fs) = upd H dx (.xd fs) := by
  funext b
  by_cases h1 : b = dx
  · rw [h1, upd_same, upd_same]
  · rw [upd_ne h1, upd_ne h1]
    by_cases h2 : b = a
    · rw [h2, del_same, n]
    · rw [del_ne h2, upd_ne h1, upd_ne h2, upd_ne h1, upd_ne h2]
section
variable {X : Cx} {x : Str} {C fI : Addr} {k : Nat} {fd : FuncData} {p pos : Pos}
theorem run_bad {ps : List Str} {sp : Sp} (T : OexC X.K C) (iC : PySem.W.findIn X.K (.ref C) "__init__" = some (some (.ref fI))) (tI : PySem.W.typeIn X.K (.ref fI) = some (.type "function"))
    (F1 : FnOk X.prog X.w X.K X.mg X.base CX0 k fI fd ps sp) (hr : Room (k + 1) X.A) (hb : Binds X.K fd ps []) {pins : List (Addr × Obj)} {σ : L2.St} {H : Hp} {s : Shared} {Q : XK} (I : Inv X pins σ H s)
    (h : ∀ a, H a = none → sp [.ref a] (upd H a (exo a C none)) (fun v H2 => v = .non ∧ ∃ (d : Addr) (fs : List (Str × V)), H2 a = some (exo a C (some d)) ∧ H2 d = some (exd d fs) ∧ H d = none ∧ Q (.ref C) (some d) (upd (del H2 a) d (.xd fs))) (fun _ _ _ => False)) :
    wpAny (model X.prog X.w) X.A (call (.ref C) []) (MkP X pins σ Q) X.xe s := by
  obtain ⟨nm, q, N, bs, bm, sn, sub, ab, col, dd, k0, k1, k2, k3, k5, hC, hbm⟩ := T.cls
  obtain ⟨hp, g, dr, tk, os⟩ := s
  have hsz : hp.objs.size ≤ hp.objs.size + 1 := Nat.le_succ _
  have hn : H (hp.objs.size + 1) = none := I.hok.fresh hsz
  have hq := h (hp.objs.size + 1) hn
  have kk : ∀ b o, hp.get? b = some o → ((hp.push (PySem.W.kdv_tup [])).push (PySem.HandSPX.excO C hp.objs.size)).get? b = some o := fun b o e => Heap.get?_push_of_some _ (Heap.get?_push_of_some _ e)
  have hget : ((hp.push (PySem.W.kdv_tup [])).push (PySem.HandSPX.excO C hp.objs.size)).get? (hp.objs.size + 1) = some (PySem.HandSPX.excO C hp.objs.size) := by heap_get
  have I2 : Inv X pins σ (upd H (hp.objs.size + 1) (exo (hp.objs.size + 1) C none)) ⟨(hp.push (PySem.W.kdv_tup [])).push (PySem.HandSPX.excO C hp.objs.size), g, dr, tk, os⟩ :=
    I.laid (t' := tk) (a := hp.objs.size + 1) (o := exo (hp.objs.size + 1) C none) (h' := (hp.push (PySem.W.kdv_tup [])).push (PySem.HandSPX.excO C hp.objs.size)) kk hsz (exo_ok hget)
  have r2 : Vals [V.ref (hp.objs.size + 1)] [Value.ref (hp.objs.size + 1)] := .cons rfl .nil
  have hl : ([Value.ref (hp.objs.size + 1)] ++ []).length = ps.length := by
    have e := r2.length
    rw [F1.len _ _ _ _ hq] at e
    exact e.symm
  refine wpAny_call (PySem.HandSPX.call_own (rest := []) F.excBase_ValueError (fun Y => PySem.HandSPX.refsVE_contains Y bm hbm) (I.kIn _ _ hC) (PySem.W.looks_findIn I.kIn iC) (fun self => PySem.W.bind_fn I.kIn self tI) (Nat.zero_le _)
    (codeAny_mono (F1.run _ X.stack _ _ ⟨[Value.ref (hp.objs.size + 1)], []⟩ ([Value.ref (hp.objs.size + 1)] ++ []) _ _ (fun _ _ _ => False) (hr.make C [] []) (I2.env0.make C [] []) (hb _ [Value.ref (hp.objs.size + 1)] I2.kIn hl) r2 hq) fun r s' hq' => ?_))
  cases r with
  | error er => exact False.elim hq'
  | ok fl =>
    cases fl with
    | ret u =>
      obtain ⟨v, H2, os2, bare2, un2, hok2, rv, ev, d, fs, ea, ed, hd1, q2⟩ := hq'
      subst ev
      obtain ⟨h2, g2, d2, t2, os'⟩ := s'
      exact ⟨rv, mk_end (raises_own T.exC T.tyC) I hsz kk un2 hok2 os2 bare2 ea ed hd1 q2⟩
    | next => exact False.elim hq'
    | brk => exact False.elim hq'
    | cont => exact False.elim hq'
theorem pmk_bad0 {nm : Str} (T : OexC X.K C) (iC : PySem.W.findIn X.K (.ref C) "__init__" = some (some (.ref fI))) (tI : PySem.W.typeIn X.K (.ref fI) = some (.type "function"))
    (F1 : FnOk X.prog X.w X.K X.mg X.base CX0 k fI fd ["self"] (sp_B0 C nm)) (hr : Room (k + 1) X.A) (hb : Binds X.K fd ["self"] []) (hg : Gl X x) (hm : X.mg x = some (.ref C)) (hdb : (x == ("__debug__" : Str)) = false := by decide) :
    PMk X (.Call (.Name x p) [] [] pos) (tBad C nm) := by
  intro pins s σ H Q I h
  refine wpAny_Call_Name_kw (ld_glob I hg hm ?_ hdb)
  refine PySem.W.callWith_K0 I.kIn T.kC ?_
  refine run_bad T iC tI F1 hr hb I fun a na => ⟨a, rfl, upd_same, fun dx nx ne => ?_⟩
  have nx0 : H dx = none := by rw [upd_ne ne] at nx; exact nx
  refine ⟨rfl, dx, _, upd_same, by rw [upd_ne ne, upd_same], nx0, ?_⟩
  rw [heap_end na ne]
  exact h dx nx0
theorem pmk_bad1 {nm at1 : Str} {e : Expr} {te : TE} (T : OexC X.K C) (iC : PySem.W.findIn X.K (.ref C) "__init__" = some (some (.ref fI))) (tI : PySem.W.typeIn X.K (.ref fI) = some (.type "function"))
    (F1 : FnOk X.prog X.w X.K X.mg X.base CX0 k fI fd ["self", at1] (sp_B1 C nm at1)) (hr : Room (k + 1) X.A) (hb : Binds X.K fd ["self", at1] []) (hg : Gl X x) (hm : X.mg x = some (.ref C)) (ha : PE X e te) (hdb : (x == ("__debug__" : Str)) = false := by decide)
    (he : starEach [e] X.env = (false, eval e X.env) :: starEach [] X.env := by rfl) (hpl : (backTo pos (starEach [] X.env)).any (·.1) = false := by rfl) :
    PMk X (.Call (.Name x p) [e] [] pos) (tBad1 C nm at1 te) :=
  pmk_oex (CX := CX0) (dvs := []) (ds := []) (ta := tCons te tNil) T iC tI F1 hr hb .nil pass0 hg hm (pa_cons ha pa_nil he) hdb he hpl
end
/-- the question that tBad1 leaves behind its argument -/
theorem mk_bad1 {C : Addr} {nm at1 : Str} {v : V} {H1 : Hp} {Q : XK} (h : ∀ d, H1 d = none → Q (.ref C) (some d) (upd H1 d (.xd [(at1, v), ("word", .str nm)]))) :
    [v].length ≤ 1000 ∧ ∀ a, H1 a = none → sp_B1 C nm at1 (.ref a :: ([v] ++ [])) (upd H1 a (exo a C none)) (fun v H2 => v = .non ∧ ∃ (d : Addr) (fs : List (Str × V)), H2 a = some (exo a C (some d)) ∧ H2 d = some (exd d fs) ∧ H1 d = none ∧ Q (.ref C) (some d) (upd (del H2 a) d (.xd fs))) (fun _ _ _ => False) := by
  refine ⟨by simp, fun a na => ⟨a, v, rfl, upd_same, fun dx nx ne => ?_⟩⟩
  have nx0 : H1 dx = none := by rw [upd_ne ne] at nx; exact nx
  refine ⟨rfl, dx, _, ?_, upd_same, nx0, ?_⟩
  · rw [upd_ne (Ne.symm ne), upd_same]
  · rw [heap_end1 na ne]
    exact h dx nx0
end Kb

set_option Elab.async false
set_option linter.all false
set_option maxRecDepth 100000
set_option maxHeartbeats 4000000
namespace Kb
open PySem PySem.Spec PyProof.Rows L2

/-! ### except clauses, with and without 'as' -/
structure Cl where
  c : Value
  slot : Option Nat
  ts : Addr → Value → Option Addr → TS
def endsOf (D : Ends) : Option Nat → Ends
  | none => D
  | some i => { nx := fun σ' H' => D.nx (σ'.set i none) H', rt := D.rt, bk := fun σ' H' => D.bk (σ'.set i none) H', ct := fun σ' H' => D.ct (σ'.set i none) H' }
def setOf (σ : L2.St) (a : Addr) : Option Nat → L2.St
  | none => σ
  | some i => σ.set i (some (.ref a))
/-- what the clauses wish of an exception of the body, one after the other -/
def wAll (K : PySem.W.Frag) (Wout : WX) (D : Ends) : List Cl → WX
  | [] => Wout
  | q :: r => fun cls d σ H => ∃ b, PySem.W.exmOne K cls q.c = some b ∧ (b = true → ∀ a, H a = none → q.ts a cls d (endsOf D q.slot) (setOf σ a q.slot) H) ∧ (b = false → wAll K Wout D r cls d σ H)
inductive HdsA (X : Cx) : List ExceptHandler → List Cl → Prop
  | nil : HdsA X [] []
  | no {x : Str} {c : Value} {ts : Addr → Value → Option Addr → TS} {b₀ : Stmt} {suite : List Stmt} {np pos' : Pos} {hds : List ExceptHandler} {l : List Cl} (hc : Names X x c)
      (hsu : ∀ (a : Addr) (oe : Obj) (cls : Value) (d : Option Addr) (pn : List (Addr × Obj)), Zc cls d oe → (∃ vs, oe.data = .fields vs) → PSs (X.suite a ((a, oe) :: pn)) (b₀ :: suite) (ts a cls d)) (r : HdsA X hds l) :
      HdsA X (.ExceptHandler (some (.Name x np)) none (b₀ :: suite) pos' :: hds) (⟨c, none, ts⟩ :: l)
  | as {x n : Str} {i : Nat} {c : Value} {ts : Addr → Value → Option Addr → TS} {b₀ : Stmt} {suite : List Stmt} {np pos' : Pos} {hds : List ExceptHandler} {l : List Cl} (hc : Names X x c) (hi : X.N[i]? = some n) (hln : X.env.kindOf n = some .local)
      (hsu : ∀ (a : Addr) (oe : Obj) (cls : Value) (d : Option Addr) (pn : List (Addr × Obj)), Zc cls d oe → (∃ vs, oe.data = .fields vs) → PSs (X.suite a ((a, oe) :: pn)) (b₀ :: suite) (ts a cls d)) (r : HdsA X hds l) :
      HdsA X (.ExceptHandler (some (.Name x np)) (some n) (b₀ :: suite) pos' :: hds) (⟨c, some i, ts⟩ :: l)
section
variable {X : Cx} {body : List Stmt} {h₀ : ExceptHandler} {hds : List ExceptHandler} {l : List Cl} {pos : Pos} {tb : WX → TS} {Wout : WX}
theorem ps_try_all (hs : X.stack = X.env :: X.outer) (hf : X.env.frame = some X.env.locals) (hN : X.N.Nodup) (tk : Takes X Wout)
    (hb : ∀ (W : WX) (pn : List (Addr × Obj)) (xe : Value → Shared → Prop), Takes (X.tr pn xe) W → PassesOwn (model X.prog X.w) X.A X.env xe → PSs (X.tr pn xe) body (tb W))
    (hh : HdsA X (h₀ :: hds) l) : PS X (.Try body (h₀ :: hds) [] [] pos) (fun D σ H => tb (wAll X.K Wout D l) D σ H) := by
  refine ⟨fun pins s σ H D I h => ?_⟩
  have ok := I.ok
  have hfr : X.A.frames = some (X.env :: X.outer) := by rw [ok.frames, hs]
  refine wpAny_Try_except ?_
  refine wpAny_mono ((hb (wAll X.K Wout D l) (X.pn ++ pins) (fun e s₁ => wpAny (model X.prog X.w) X.A (noteFrame e X.env) (fun _ s₂ => wpAny (model X.prog X.w) X.A (setFlight e none) (fun _ s₃ =>
    wpAny (model X.prog X.w) X.A (handleBy e X.env (h₀ :: hds)) (SP X pins D) X.xe s₃) X.xe s₂) X.xe s₁) (fun u s' xx => ?_) PassesOwn.looking).run [] s σ H D (I.toTry _) h) (fun f s1 hsp => ?_) (fun e s1 he => he)
  · obtain ⟨a, B, sI, pins', σ', H', cls, d, rfl, J', nb, up, sky, na, os, ag, w⟩ := xx
    have J : Inv X pins σ' H' sI := J'.ofTry ok
    have sky' : Sky B (X.env :: X.outer) a (Zc cls d) X.env.locals s'.heap := by rw [← hs]; exact sky
    show wpAny (model X.prog X.w) X.A (noteFrame (.ref a) X.env) _ _ _
    refine Sky.land Zc.steady hfr hf sky' fun h3 fl3 up3 => ?_
    have J3 : Inv X pins σ' H' { s' with heap := h3 } := J.landed nb fl3.1 (up.trans up3) os ag
    obtain ⟨oe3, vs3, he3, hz3, hd3⟩ := fl3.there
    have notFr : ∀ {h : Heap} {o : Obj} {vs : Array Value}, h.FunFrames B (X.env :: X.outer) → h.get? a = some o → o.data = .fields vs → a ∉ frs (X.env :: X.outer) := fun {h o vs} ff e dd hm => by
      obtain ⟨_, o', e', hnf⟩ := ff.mem hm
      rw [e] at e'; cases e'
      exact hnf _ dd
    have nfr := notFr fl3.2.2.1 he3 hd3
    have nL : a ≠ X.env.locals := fun z => nfr (List.mem_filterMap.mpr ⟨X.env, List.mem_cons_self, by rw [hf, z]⟩)
    have nF : a ∉ X.fs := fun hm => by
      obtain ⟨e, he, q⟩ := List.mem_filterMap.mp hm
      exact nfr (List.mem_filterMap.mpr ⟨e, List.mem_cons_of_mem _ he, q⟩)
    have S3 := J3.suite he3 hd3 na nL nF
    have test : ∀ {x : Str} {c : Value} {np : Pos}, Names X x c → ∀ {Q : Value → Shared → Prop} {E : Value → Shared → Prop}, Q c { s' with heap := h3 } → wpAny (model X.prog X.w) (X.A.mark (some (.ref a))) (eval (.Name x np) X.env) Q E { s' with heap := h3 } := fun {x c np} hc {Q E} q => by
      obtain ⟨hg, hdbg, hm | ⟨hm, hv, hnn⟩⟩ := hc
      · exact ld_glob (X := X.suite a ((a, oe3) :: (X.pn ++ pins))) S3 hg hm q hdbg
      · exact ld_blt (X := X.suite a ((a, oe3) :: (X.pn ++ pins))) S3 hg hm hv q hnn hdbg
    have LT : PySem.W.Looks (model X.prog X.w) h3 (typeOf (.ref a)) cls := fun A Q E s k q => wpAny_typeOf_ref (k _ _ he3) (by rw [hz3.1]; exact q)
    have go : ∀ {hds' : List ExceptHandler} {l' : List Cl}, HdsA X hds' l' → wAll X.K Wout D l' cls d σ' H' →
        wpAny (model X.prog X.w) X.A (handleBy (.ref a) X.env hds') (SP X pins D) X.xe { s' with heap := h3 } := by
      intro hds' l' hk
      induction hk with
      | nil =>
        intro w
        refine wpAny_handleBy_nil ?_
        obtain ⟨k1, k2, k3, oe, vs, T, oT, ts', he, hz, hd, h1, hr⟩ := id fl3
        unfold PySem.passOn
        refine wpAny_bind (wpAny_field he hd h1 ?_)
        rw [if_neg (show ¬ ((Value.ref T == Value.none) = true) from by simp)]
        have fin : wpAny (model X.prog X.w) X.A (setFlight (.ref a) X.env.frame) (fun _ s4 => wpAny (model X.prog X.w) X.A (throw (.ref a) : Sem Flow) (SP X pins D) X.xe s4) X.xe { s' with heap := h3 } := by
          rw [hf]
          refine HandSPX.setFlight_upZ fl3 fun h4 hh4 up4 => wpAny_throw (tk _ _ ?_)
          exact ⟨a, B, sI, pins, σ', H', cls, d, rfl, J, nb, (up.trans up3).trans up4, .inr (.inr (by rw [hs]; exact hh4)), na, os, ag, w⟩
        first
          | exact wpAny_bind (wpAny_pure (wpAny_bind fin))
          | exact wpAny_bind fin
      | @no x c ts b₀ suite np pos' hds2 l2 hc hsu r ih =>
        intro w
        obtain ⟨b, hb1, hyes, hno⟩ := w
        refine wpAny_handleBy_cons (codeAny_handlers_test ?_) (by intro q; cases q)
        refine test hc ((PySem.W.exm_one (M := model X.prog X.w) (J3.kIn) LT hb1).here ?_)
        cases b with
        | true =>
          refine codeAny_handlers_suite ?_
          refine HandSPX.lands_againZ fl3 fun h4 fl4 up4 => ?_
          have J4 : Inv X pins σ' H' { s' with heap := h4 } := J.landed nb fl4.1 ((up.trans up3).trans up4) os ag
          obtain ⟨oe4, vs4, he4, hz4, hd4⟩ := fl4.there
          have S4 := J4.suite he4 hd4 na nL nF
          refine wpAny_mono ((hsu a oe4 cls d (X.pn ++ pins) hz4 ⟨_, hd4⟩).run [] _ _ H' _ S4 (hyes rfl a na)) (fun f s6 hsp => ?_) (fun _ _ z => False.elim z)
          cases f with
          | next =>
            obtain ⟨σ6, H6, S6, q6⟩ := hsp
            exact ⟨_, _, S6.unsuite ok, q6⟩
          | brk =>
            obtain ⟨σ6, H6, S6, q6⟩ := hsp
            exact ⟨_, _, S6.unsuite ok, q6⟩
          | cont =>
            obtain ⟨σ6, H6, S6, q6⟩ := hsp
            exact ⟨_, _, S6.unsuite ok, q6⟩
          | ret u =>
            obtain ⟨v6, σ6, H6, S6, r6, q6⟩ := hsp
            exact ⟨_, _, _, S6.unsuite ok, r6, q6⟩
        | false =>
          show wpAny _ X.A (handleBy (.ref a) X.env hds2) _ _ _
          exact ih (hno rfl)
      | @as x n i c ts b₀ suite np pos' hds2 l2 hc hi hln hsu r ih =>
        intro w
        obtain ⟨b, hb1, hyes, hno⟩ := w
        have hloc : Loc X.env.scope n := .inl hln
        refine wpAny_handleBy_cons (codeAny_handlers_test ?_) (by intro q; cases q)
        refine test hc ((PySem.W.exm_one (M := model X.prog X.w) (J3.kIn) LT hb1).here ?_)
        cases b with
        | true =>
          refine codeAny_handlers_suite_as ?_
          refine HandSPX.lands_againZ fl3 fun h4 fl4 up4 => ?_
          have J4 : Inv X pins σ' H' { s' with heap := h4 } := J.landed nb fl4.1 ((up.trans up3).trans up4) os ag
          obtain ⟨oe4, vs4, he4, hz4, hd4⟩ := fl4.there
          have S4 := J4.suite he4 hd4 na nL nF
          refine store_ok (X := X.suite a ((a, oe4) :: (X.pn ++ pins))) (v := .ref a) S4 hN hi hloc rfl (fun s5 S5 => ?_) (.inr hln)
          refine wpAny_mono ((hsu a oe4 cls d (X.pn ++ pins) hz4 ⟨_, hd4⟩).run [] s5 _ H' _ S5 (hyes rfl a na)) (fun f s6 hsp => ?_) (fun _ _ z => False.elim z)
          have end_ : ∀ {σ6 : L2.St} {H6 : Hp} {Q : Shared → Prop}, Inv (X.suite a ((a, oe4) :: (X.pn ++ pins))) [] σ6 H6 s6 → (∀ s7, Inv X pins (σ6.set i none) H6 s7 → Q s7) →
              wpAny (model X.prog X.w) X.A (do bindName X.env n .none; unbindBehindTheSuite X.env n pos') (fun _ s7 => Q s7) X.xe s6 := fun {σ6 H6 Q} S6 hq => gone_ok (S6.unsuite ok) hN hi hln hq
          cases f with
          | next =>
            obtain ⟨σ6, H6, S6, q6⟩ := hsp
            exact end_ S6 fun s7 J7 => ⟨_, _, J7, q6⟩
          | brk =>
            obtain ⟨σ6, H6, S6, q6⟩ := hsp
            exact end_ S6 fun s7 J7 => ⟨_, _, J7, q6⟩
          | cont =>
            obtain ⟨σ6, H6, S6, q6⟩ := hsp
            exact end_ S6 fun s7 J7 => ⟨_, _, J7, q6⟩
          | ret u =>
            obtain ⟨v6, σ6, H6, S6, r6, q6⟩ := hsp
            exact end_ S6 fun s7 J7 => ⟨_, _, _, J7, r6, q6⟩
        | false =>
          show wpAny _ X.A (handleBy (.ref a) X.env hds2) _ _ _
          exact ih (hno rfl)
    exact go hh w
  · cases f with
    | next =>
      obtain ⟨σ', H', J', q⟩ := hsp
      exact wpAny_execs_nil ⟨σ', H', J'.ofTry ok, q⟩
    | brk =>
      obtain ⟨σ', H', J', q⟩ := hsp
      exact ⟨σ', H', J'.ofTry ok, q⟩
    | cont =>
      obtain ⟨σ', H', J', q⟩ := hsp
      exact ⟨σ', H', J'.ofTry ok, q⟩
    | ret u =>
      obtain ⟨v, σ', H', J', r, q⟩ := hsp
      exact ⟨v, σ', H', J'.ofTry ok, r, q⟩
end

/-! ### a call that may raise, the locals kept -/
def tCallW (sp : Sp) (W : WX) (t : TA) : TE := fun σ H Q => t σ H fun vs H1 => sp vs H1 Q (fun cls d H' => W cls d σ H')
section
variable {X : Cx} {k : Nat} {ps : List Str} {sp : Sp} {x : Str} {p pos : Pos} {e : Expr} {es : List Expr} {t : TA} {W : WX}
theorem pe_callW (tk : Takes X W) (G : Fn X.prog X.w X.K X.mg X.base (L2.CX X.prog X.w) k x ps sp) (hr : Room k X.A) (hg : Gl X x) (ha : PA X (e :: es) t) (hdb : (x == ("__debug__" : Str)) = false := by decide)
    (he : starEach (e :: es) X.env = (false, eval e X.env) :: starEach es X.env := by rfl) (hpl : (backTo pos (starEach es X.env)).any (·.1) = false := by rfl) : PE X (.Call (.Name x p) (e :: es) [] pos) (tCallW sp W t) := by
  obtain ⟨f, fd, F, hm, hk, hb⟩ := G.ex
  refine ⟨fun pins s σ H Q I h => ?_⟩
  refine wpAny_Call_Name_kw (ld_glob I hg hm ?_ hdb)
  refine PySem.W.callWith_K (h₀ := X.base) I.ok.mod.kin hk (thn (ha.run pos pins s σ H _ I h) fun us s1 ⟨vs, H1, I1, r, q⟩ => ⟨I1.kIn, ?_⟩) he hpl
  show wpAny _ _ (call (.ref f) us) _ _ _
  have hl : (us ++ []).length = ps.length := by rw [List.append_nil, ← r.length]; exact F.len _ _ _ _ q
  have hbs := hb s1 us I1.kIn hl
  rw [List.append_nil] at hbs
  refine wpAny_call (codeAny_mono (F.run X.A X.stack s1 H1 ⟨us, []⟩ us vs Q (fun cls d H' => W cls d σ H') hr I1.env0 hbs r q) fun r s' hq => ?_)
  cases r with
  | error e => exact tk e s' (XE.of_call I1 (fun cls d H' h => h) hq)
  | ok fl =>
    cases fl with
    | ret u => exact I1.after hq
    | next => exact False.elim hq
    | brk => exact False.elim hq
    | cont => exact False.elim hq
end

/-! ### in a suite: e.f, isinstance(e, ..) -/
/-- e.f -/
def tXfA (K : PySem.W.Frag) (a : Addr) (cls : Value) (d : Option Addr) (n : Str) (te : TE) : TE := fun σ H Q => ∃ C : Addr, cls = .ref C ∧ XfC K C ∧ PySem.W.findIn K (.ref C) n = some none ∧ tXf a cls d C n te σ H Q
/-- what isinstance's second says -/
def IsOf (K : PySem.W.Frag) (H : Hp) (C : Addr) (c : V) (b : Bool) : Prop :=
  (∃ cv, (∀ u, RelV c u → u = cv) ∧ PySem.W.kitOne K (.ref C) cv = some b) ∨ ∃ (tp : Addr) (cs : List V) (its : List Value), c = .ref tp ∧ SqT K H tp cs ∧ (∀ us, Vals cs us → us = its) ∧ PySem.W.kitAny K (.ref C) its = some b
def rIsX (K : PySem.W.Frag) (a : Addr) (cls : Value) (d : Option Addr) : List V → Hp → VK → Prop := fun xs H Q =>
  ∃ (c : V) (C dd : Addr) (fs : List (Str × V)) (b : Bool), xs = [.ref a, c] ∧ cls = .ref C ∧ d = some dd ∧ H dd = some (.xd fs) ∧ ExcC K C ∧ IsOf K H C c b ∧ Q (.bl b) H
section
variable {X : Cx} {a : Addr} {oe : Obj} {cls : Value} {d : Option Addr} {pn : List (Addr × Obj)} {e : Expr} {te : TE} {pos : Pos} {n : Str}
theorem pe_xfA (hz : Zc cls d oe) (hf : ∃ vs, oe.data = .fields vs) (he : PE (X.suite a ((a, oe) :: pn)) e te) (hb : attributeBase e n X.env (eval e X.env) = eval e X.env := by rfl) :
    PE (X.suite a ((a, oe) :: pn)) (.Attribute e n pos) (tXfA X.K a cls d n te) := by
  refine ⟨fun pins s σ H Q I h => ?_⟩
  obtain ⟨C, ec, T, hno, h⟩ := h
  exact (pe_xf T hno hz hf he hb).run pins s σ H Q I h
theorem call_isX (hz : Zc cls d oe) (hf : ∃ vs, oe.data = .fields vs) : CallR (X.suite a ((a, oe) :: pn)) (.builtin "isinstance") (rIsX X.K a cls d) := by
  intro pins s σ H xs us Q I r h
  obtain ⟨c, C, dd, fs, b, rfl, ec, ed, hdd, E, io, q⟩ := h
  subst ec
  subst ed
  cases r with
  | cons rx rr =>
    cases rr with
    | cons rt rr =>
      cases rr
      cases rx
      obtain ⟨hget, _⟩ := I.pin (a, oe) (List.mem_append.mpr (.inl List.mem_cons_self))
      obtain ⟨vs, hv⟩ := hf
      have hx : ObjOk X.prog X.w H s.heap dd (.xd fs) := I.hok dd _ hdd
      obtain ⟨od, hod⟩ : ∃ od, s.heap.get? dd = some od := by
        obtain ⟨mA, ⟨o, es, ep, e1, _⟩, _⟩ := hx
        exact ⟨o, e1⟩
      have J : PySem.W.InstAt s.heap a oe C (some od) := by
        obtain ⟨oc, od', oda, osl⟩ := oe
        obtain ⟨h1, h2⟩ := hz
        dsimp only at h1 h2 hv
        subst h1 h2 hv
        exact ⟨hget, rfl, rfl, hod⟩
      obtain ⟨cd, hcd, _⟩ := PySem.W.any_some E.hd
      have KT := PySem.W.kitx_exc (x := a) (ox := oe) (od := some od) (by rw [hcd]; rfl) E.hg E.hk E.hs E.ha E.hn E.ht E.hm
      rcases io with ⟨cv, hcv, e⟩ | ⟨tp, cs, its, rfl, htp, hits, e⟩
      · have ec := hcv _ rt
        subst ec
        exact PySem.W.kia_one KT I.kIn J e (fun z => nomatch z) fun tk => ⟨.bl b, H, I.kept (t' := tk) fun _ _ z => z, rfl, q⟩
      · obtain ⟨its', r', ⟨o, eo, oc, nn, dt⟩, _⟩ := I.tuple htp
        have e2 := hits _ r'
        subst e2
        cases rt
        obtain ⟨o1, o2, o3, o4⟩ := o
        dsimp only at oc dt
        subst oc
        subst dt
        exact PySem.W.kia_tup KT I.kIn J (its := its') eo e (fun z => nomatch z) fun tk => ⟨.bl b, H, I.kept (t' := tk) fun _ _ z => z, rfl, q⟩
end
end Kb

set_option Elab.async false
set_option linter.all false
set_option maxRecDepth 100000
set_option maxHeartbeats 4000000
/-! enumerate of a tuple, from any count -/
namespace Kb
open PySem PySem.Spec PyProof.Rows L2

def IteT (K : PySem.W.Frag) (a : Addr) (k : Int) : It :=
  ⟨fun i H => ∃ (xs : List V) (x : V), SqT K H a xs ∧ xs[i]? = some x, fun i H v H' => ∃ T x, v = .ref T ∧ H T = none ∧ H' = upd H T (.tup [.int (k + (i : Nat)), x]) ∧ ∀ xs, SqT K H a xs → xs[i]? = some x, fun i H => ∃ xs : List V, SqT K H a xs ∧ xs.length = i⟩
theorem turn_enumT {P : Program} {w : World} {K : PySem.W.Frag} {elts : List Expr} {kk : Nat} {tpos : Pos} (a e it : Addr) (k : Int) (hal : e ≠ it) :
    Turn P w K (.Tuple elts kk tpos) (IteT K a k) [e, it] e (fun i h => (∃ old, IsEnum h e it (k + ((i : Nat) : Int)) old) ∧ h.IsTupleIter it a i) where
  mem := by simp
  obj := fun i h st b hb => by
    obtain ⟨⟨old, he⟩, ⟨o, ho, hc, hd⟩⟩ := st
    have e' : b = e ∨ b = it := by simpa using hb
    rcases e' with z | z
    · rw [z]; exact ⟨_, he, fun v q => nomatch q⟩
    · rw [z]; exact ⟨o, ho, fun v q => by rw [hd] at q; cases q⟩
  keep := fun i h h' st k => let ⟨⟨old, he⟩, hi⟩ := st; ⟨⟨old, k e (by simp) _ he⟩, hi.at fun o q => k it (by simp) o q⟩
  item := by
    intro X hP hw hK hc i pins s σ H E I hf st hg
    subst hP hw hK
    obtain ⟨⟨old, he⟩, hit⟩ := st
    obtain ⟨xs, x, hq, hx⟩ := hg
    obtain ⟨its, rv, p, hz⟩ := I.tuple hq
    obtain ⟨u, hu, ru⟩ := rv.get hx
    have hel : e < s.heap.objs.size := Heap.lt_size he
    have hil : it < s.heap.objs.size := by obtain ⟨_, q, _⟩ := hit; exact Heap.lt_size q
    have hne2 : a ≠ it := by
      rintro rfl
      obtain ⟨o1, e1, c1, d1⟩ := hit
      obtain ⟨o2, e2, c2, _⟩ := p
      rw [e1] at e2; cases e2
      rw [c1] at c2; exact absurd c2 (by decide)
    have hne3 : e ≠ a := by
      rintro rfl
      obtain ⟨o2, e2, c2, _⟩ := p
      rw [he] at e2; cases e2
      exact absurd (show (Value.type "enumerate") = .type "tuple" from c2) (by decide)
    have hil2 : i < its.toArray.size := by
      have := (List.getElem?_eq_some_iff.mp hu).1
      simpa using this
    refine wpAny_pyNext_enum_itemC (Draws.tuple (A := X.A.in1) (I.ok.hd hc) it a hne2 its.toArray) he ⟨hit, p⟩ hil2 hal (by simp [hal, hne3]) fun x' h' tk hx' ho hs' hT hsz hk => ?_
    have hxx : its.toArray[i]? = some x' := hx'
    have eux : u = x' := by
      have z : its[i]? = some x' := by simpa using hxx
      rw [hu] at z
      exact Option.some.inj z
    subst eux
    refine ⟨_, rfl, wpAny_letOwnedTupleGo_enum (s := { s with heap := h', toks := tk + 1 }) ho fun h'' he' sb => ?_⟩
    have hT2 : h''.get? s.heap.objs.size = some { cls := .type "tuple", data := .seq #[.int (k + (i : Nat)) tk, u] } := (sb.2 _ (Nat.ne_of_gt hel)).trans hT
    have new : ObjOk X.prog X.w (upd H s.heap.objs.size (.tup [.int (k + (i : Nat)), x])) h'' s.heap.objs.size (.tup [.int (k + (i : Nat)), x]) :=
      ⟨by show 2 ≤ sizeLine; decide, [.int (k + (i : Nat)) tk, u], .cons ⟨_, rfl⟩ (.cons ru .nil), ⟨_, hT2, rfl, _, rfl⟩⟩
    have I1 : Inv X pins σ (upd H s.heap.objs.size (.tup [.int (k + (i : Nat)), x])) { s with heap := h'', toks := tk + 1 } :=
      I.turnedNew (ch := [e, it]) (fun b ob hb q => (sb.2 b (fun z => hb (by simp [z]))).trans (hk b ob (fun z => hb (by simp [z])) (fun z => hb (by simp [z])) q)) hf (Nat.le_refl _) new
    refine ⟨.ref s.heap.objs.size, _, I1, rfl, ⟨_, x, rfl, I.hok.fresh (Nat.le_refl _), rfl, fun ys hy => by rw [I.tuple_inj hy hq]; exact hx⟩, ⟨⟨u, ?_⟩, hs'.1.at fun o q => (sb.2 it (Ne.symm hal)).trans q⟩, fun b hb => ?_⟩
    · have e1 : (k + ((i + 1 : Nat) : Int)) = k + (i : Int) + 1 := by omega
      rw [e1]; exact he'
    · have hb' : b < s.heap.objs.size := by
        have e' : b = e ∨ b = it := by simpa using hb
        rcases e' with z | z
        · rw [z]; exact hel
        · rw [z]; exact hil
      rw [upd_ne (Nat.ne_of_lt hb')]
      exact (hf b hb).1
  done := by
    intro X hP hw hK hc i pins s σ H E I hf st hg
    subst hP hw hK
    obtain ⟨⟨old, he⟩, hit⟩ := st
    obtain ⟨xs, hq, hx⟩ := hg
    obtain ⟨its, rv, p, hz⟩ := I.tuple hq
    obtain ⟨f0, f1, f2, f3, f4, f5⟩ := hf it (by simp)
    have hl := rv.length
    have hne2 : a ≠ it := by
      rintro rfl
      obtain ⟨o1, e1, c1, d1⟩ := hit
      obtain ⟨o2, e2, c2, _⟩ := p
      rw [e1] at e2; cases e2
      rw [c1] at c2; exact absurd c2 (by decide)
    have en : i = its.toArray.size := by simp; omega
    subst en
    exact wpAny_pyNext_enum_endD (Draws.tuple (A := X.A.in1) (I.ok.hd hc) it a hne2 its.toArray) he ⟨hit, p⟩ fun h' eb => ⟨rfl, I.turned (t' := s.toks) (fun b o hb q => eb b o hb q) f0 f1 f3 f4 f5⟩
  self := fun A i s Q E st h => let ⟨⟨_, he⟩, _⟩ := st; wpAny_pyIter_enum he h

set_option maxHeartbeats 1000000 in
theorem meets_enum1 {v : Value} {o : Obj} {H : Heap → Prop} (B : Begins v o H) :
    Meets (Builtin.«enumerate.__new__» ⟨[.type "enumerate", v], []⟩) (fun _ R s => H s.heap ∧
      R (.ok (.ret (.ref (s.heap.push o).objs.size))) { s with heap := (s.heap.push o).push { cls := .type "enumerate", data := .fields #[.none, .bool false, .ref s.heap.objs.size, rawInt 0, .none, .none] } }) :=
  .of_wp fun prog w A R s h => by
    obtain ⟨hp, g, d, tk, os⟩ := s; obtain ⟨h1, h⟩ := h
    have hsub := sub_enumerate
    have q1 : ∀ {A' : Around} {E : Value → Shared → Prop} {Q : Value → Shared → Prop}, Q (.ref hp.objs.size) ⟨hp.push o, g, d, tk, os⟩ → wpAny (model prog w) A' (pyIter v) Q E ⟨hp, g, d, tk, os⟩ :=
      fun q => B.iter prog w _ _ ⟨hp, g, d, tk, os⟩ _ h1 q
    wp_walk using q1
    refine wpAny_stack_any fun st => wpAny_pure ?_
    split
    · rename_i c _ _ _ _ _
      cases (c == Value.type "enumerate")
      · wp_walk using q1
        exact ⟨_, rfl, h⟩
      · wp_walk using q1
        exact ⟨_, rfl, h⟩
    · wp_walk using q1
      exact ⟨_, rfl, h⟩
theorem enum_begins1 {prog : Program} {w : World} {A : Around} {E : Value → Shared → Prop} {s : Shared} {v : Value} {o : Obj} {H : Heap → Prop} {Q : Value → Shared → Prop} (B : Begins v o H) (h1 : H s.heap)
    (h : ∀ h', IsEnum h' (s.heap.objs.size + 1) s.heap.objs.size 0 .none → h'.get? s.heap.objs.size = some o → h'.objs.size = s.heap.objs.size + 2 →
      (∀ b o, s.heap.get? b = some o → h'.get? b = some o) → Q (.ref (s.heap.objs.size + 1)) { s with heap := h' }) :
    wpAny (model prog w) A (call (.type "enumerate") [v]) Q E s := by
  refine callType_new F.called_enumerate (by decide) (F.typeCall_enumerate_1 _) (F.newCall_enumerate_1 _) (fun obj => F.args_object_init_2 obj _) F.entry_enumerate_new
    (meets_enum1 B) ⟨h1, ?_⟩
  have hz : (s.heap.push o).objs.size = s.heap.objs.size + 1 := Heap.size_push ..
  show _ ∧ _
  rw [hz]
  have he : IsEnum ((s.heap.push o).push { cls := .type "enumerate", data := .fields #[.none, .bool false, .ref s.heap.objs.size, rawInt 0, .none, .none] }) (s.heap.objs.size + 1) s.heap.objs.size 0 .none := by
    have := Heap.get?_push_size (s.heap.push o) (o := { cls := .type "enumerate", data := .fields #[.none, .bool false, .ref s.heap.objs.size, rawInt 0, .none, .none] }) rfl
    rw [hz] at this; exact this
  refine ⟨⟨_, he, rfl⟩, h _ he (Heap.get?_push_of_some _ (Heap.get?_push_size _ B.free)) (by rw [Heap.size_push, hz]) fun b o x => Heap.get?_push_of_some _ (Heap.get?_push_of_some _ x)⟩
/-- enumerate(t), enumerate(t, start=k): t a tuple -/
def iEnT (K : PySem.W.Frag) (k : Int) (ta : TA) : TI := fun σ H R => ta σ H fun vs H1 => ∃ a xs, vs = [.ref a] ∧ SqT K H1 a xs ∧ R (IteT K a k) H1
theorem callWith_tyKw {M : Model} {A : Around} {E : Value → Shared → Prop} {s : Shared} {pos : Pos} {T : String} {env : Env} {e : Expr} {rest : List Expr} {kws : List Keyword} {Q : Value → Shared → Prop}
    (h : wpAny M A (spliced (backTo pos (starEach (e :: rest) env))) (fun vs s₁ => wpAny M A (evalAll ((backToKw pos (keywordEach kws env)).map (·.2)))
      (fun kvs s₂ => wpAny M A (call (.type T) vs (((backToKw pos (keywordEach kws env)).filterMap (·.1)).zip kvs)) Q E s₂) E s₁) E s)
    (hall : (backToKw pos (keywordEach kws env)).all (·.1.isSome) = true) (hplain : ((backTo pos (starEach (e :: rest) env)).any (·.1) || (backToKw pos (keywordEach kws env)).any (·.1.isNone)) = false) (he : starEach (e :: rest) env = (false, eval e env) :: starEach rest env) :
    wpAny M A (callWith pos (.type T) [] (backTo pos (starEach (e :: rest) env)) (backToKw pos (keywordEach kws env))) Q E s :=
  PySem.W.callWith_of (P := fun _ => True) hplain (fun h _ => ⟨.machine, .inr (.inl rfl), PySem.W.Looks.now⟩) (PyProof.Rows.evalArgs_kw2 hall (thn h fun vs s1 h1 => thn h1 fun ks s2 h2 => ⟨trivial, h2⟩) he)
section
variable {X : Cx} {e : Expr} {ta : TA} {p pos tpos kp cp : Pos} {elts : List Expr} {kk j : Nat} {k : Int}
theorem enumT_end {pins : List (Addr × Obj)} {σ : L2.St} {H1 : Hp} {s1 : Shared} {R : It → Hp → Prop} {a : Addr} {h' : Heap} {t' : Nat} (I1 : Inv X pins σ H1 s1) (he : IsEnum h' (s1.heap.objs.size + 1) s1.heap.objs.size k .none)
    (hit : h'.get? s1.heap.objs.size = some { cls := .type "tuple_iterator", data := .fields #[.ref a, .int 0 0] }) (hk : ∀ b o, s1.heap.get? b = some o → h'.get? b = some o) (q : R (IteT X.K a k) H1) :
    wpAny (model X.prog X.w) X.A (pyIter (.ref (s1.heap.objs.size + 1))) (PIE X pins σ (.Tuple elts kk tpos) R) X.xe { s1 with heap := h', toks := t' } := by
  refine wpAny_pyIter_enum he ?_
  have I2 : Inv X pins σ H1 { s1 with heap := h', toks := t' } := I1.kept (t' := t') hk
  refine ⟨s1.heap.objs.size + 1, [s1.heap.objs.size + 1, s1.heap.objs.size], _, _, H1, rfl, I2, turn_enumT a (s1.heap.objs.size + 1) s1.heap.objs.size k (Nat.succ_ne_self _), ⟨⟨.none, by simpa using he⟩, ⟨_, hit, rfl, rfl⟩⟩, fun b hb => ?_, q⟩
  have e' : b = s1.heap.objs.size + 1 ∨ b = s1.heap.objs.size := by simpa using hb
  have hle : s1.heap.objs.size ≤ b := by
    rcases e' with z | z
    · rw [z]; exact Nat.le_add_right _ _
    · rw [z]; exact Nat.le_refl _
  exact I1.fpOk hle (I1.hok.fresh hle)
theorem pi_enumT (hg : Gl X "enumerate") (hm : X.mg "enumerate" = none) (ha : PA X [e] ta) (hs : starEach [e] X.env = [(false, eval e X.env)] := by rfl) :
    PI X (.Tuple elts kk tpos) (.Call (.Name "enumerate" p) [e] [] pos) (iEnT X.K 0 ta) := by
  refine ⟨fun pins s σ H R I h => ?_⟩
  refine Call_ (ld_blt I hg hm boot_enumerate (PyProof.Rows.callWith_type1 (thn (ha.run pos pins s σ H _ I h) fun us s1 ⟨vs, H1, I1, r1, q1⟩ => ?_) hs rfl))
  obtain ⟨a, xs, ex, hq, q⟩ := q1
  subst ex
  cases r1 with
  | cons r rr =>
    cases rr
    cases r
    obtain ⟨its, rv, p', hz⟩ := I1.tuple hq
    refine enum_begins1 (begins_tuple a its.toArray) p' fun h' he hit hsz hk => ?_
    exact enumT_end (t' := s1.toks) I1 he hit hk q
theorem pi_enumS (hg : Gl X "enumerate") (hm : X.mg "enumerate" = none) (ha : PA X [e] ta) (h0 : -(2 ^ 63) ≤ k) (h1 : k < 2 ^ 63) (hs : starEach [e] X.env = [(false, eval e X.env)] := by rfl)
    (hc : eval (.Call (.Name "enumerate" p) [e] [⟨some "start", .Constant (.int k) j cp, kp⟩] pos) X.env = (do
      callWith pos (← eval (.Name "enumerate" p) X.env) [] (backTo pos (starEach [e] X.env)) (backToKw pos (keywordEach [⟨some "start", .Constant (.int k) j cp, kp⟩] X.env))) := by rfl) :
    PI X (.Tuple elts kk tpos) (.Call (.Name "enumerate" p) [e] [⟨some "start", .Constant (.int k) j cp, kp⟩] pos) (iEnT X.K k ta) := by
  refine ⟨fun pins s σ H R I h => ?_⟩
  rw [hc]
  refine wpAny_bind (ld_blt I hg hm boot_enumerate (callWith_tyKw (thn (ha.run pos pins s σ H _ I h) fun us s1 ⟨vs, H1, I1, r1, q1⟩ => ?_) rfl (by rw [hs] <;> rfl) hs))
  refine thn ((pk_cons (nm := some "start") (kpos := kp) (pe_int (j := j) (pos := cp)) pk_nil).run pos pins s1 σ H1 (fun ws H2 => ws = [.int k] ∧ H2 = H1) I1 ⟨rfl, rfl⟩) fun ks s2 ⟨ws, H2, I2, r2, ew, eH⟩ => ?_
  subst ew
  subst eH
  obtain ⟨a, xs, ex, hq, q⟩ := q1
  subst ex
  cases r1 with
  | cons r rr =>
    cases rr
    cases r
    cases r2 with
    | cons r3 rr =>
      cases rr
      obtain ⟨t3, rfl⟩ := r3
      obtain ⟨its, rv, p', hz⟩ := I2.tuple hq
      refine PySem.enum_begins_start (begins_tuple a its.toArray) p' h0 h1 fun h' he hit hsz hk => ?_
      exact enumT_end (t' := s2.toks) I2 he hit hk q
end
end Kb

set_option Elab.async false
set_option linter.all false
set_option maxRecDepth 100000
set_option maxHeartbeats 4000000
namespace Kb
open PySem PySem.Spec PyProof.Rows L2

/-- for i, x in enumerate(t, k): the pair is a new tuple each time -/
theorem r_forEnum {K : PySem.W.Frag} {D : Ends} {σ : L2.St} {H : Hp} {tb : TS} {a : Addr} {xs : List V} {k : Int} {p q : Nat} (Pv : Nat → L2.St → Hp → Prop) (h0 : Pv 0 σ H) (hl : ∀ i σ' H', i ≤ xs.length → Pv i σ' H' → SqT K H' a xs)
    (hs : ∀ i x σ' H' H2, xs[i]? = some x → Pv i σ' H' → Same H' H2 → tb { D with nx := Pv (i + 1), ct := Pv (i + 1), bk := D.nx } ((σ'.set p (some (.int (k + (i : Nat))))).set q (some x)) H2)
    (hd : ∀ σ' H', Pv xs.length σ' H' → D.nx σ' H') : PFor (IteT K a k) (gTup K 2 (gCons (gName p) (gCons (gName q) gNil))) tb D σ H := by
  refine ⟨fun i m σ H => m = xs.length - i ∧ i ≤ xs.length ∧ Pv i σ H, ⟨xs.length, by simp, Nat.zero_le _, h0⟩, ?_⟩
  rintro i m σ H ⟨rfl, hi, pv⟩
  have q0 := hl i σ H hi pv
  by_cases hlt : i < xs.length
  · refine .inr ⟨⟨xs, xs[i], q0, by simp [hlt]⟩, Pv (i + 1), fun σ' H' p' => ⟨xs.length - (i + 1), by omega, rfl, hlt, p'⟩, fun x H' y => ?_⟩
    obtain ⟨T, x0, rfl, nT, rfl, hx⟩ := y
    refine ⟨T, [.int (k + (i : Nat)), x0], rfl, .inl (.inl upd_same), rfl, ?_⟩
    refine ⟨_, _, rfl, _, _, rfl, rfl, ?_⟩
    exact hs i x0 σ H _ (hx xs q0) pv (same_new nT)
  · have e : i = xs.length := by omega
    subst e
    exact .inl ⟨⟨xs, q0, rfl⟩, hd σ H pv⟩

section
variable {X : Cx}
theorem flat_ints (ys : List Int) : (ys.map V.int).all flatV = true := by
  rw [List.all_map]
  exact List.all_eq_true.mpr fun _ _ => rfl
/-- t.index(x), ints: the first place -/
def rIndexT (K : PySem.W.Frag) : V → List V → Hp → VK → Prop := fun x xs H Q => ∃ p, ∃ ys : List Int, ∃ z j, x = .ref p ∧ xs = [.int z] ∧ SqT K H p (ys.map V.int) ∧ ys[j]? = some z ∧ (∀ m, m < j → ys[m]? ≠ some z) ∧ Q (.int (j : Nat)) H
theorem mt_indexT : MtR X "tuple.index" (rIndexT X.K) := by
  intro pins s σ H x xs v us Q I rx rs h
  obtain ⟨p, ys, z, j, rfl, rfl, hq, hy, hno, q⟩ := h
  cases rx
  obtain ⟨u, rfl, t, rfl⟩ := vals1 rs
  obtain ⟨its, r, pl, hz⟩ := I.tuple hq
  obtain ⟨⟨cls, dd, dt, sl⟩, ho, hc, n, hd⟩ := pl
  simp only at hc hd
  subst hc
  subst hd
  have hl : its.toArray.size = ys.length := by rw [List.size_toArray, ← r.length, List.length_map]
  have hj : j < its.toArray.size := by rw [hl]; exact (List.getElem?_eq_some_iff.mp hy).1
  have at' : ∀ (m : Nat) (hm : m < its.toArray.size), ∃ y t', ys[m]? = some y ∧ its.toArray[m] = Value.int y t' := fun m hm => by
    have hm' : m < ys.length := by rw [← hl]; exact hm
    obtain ⟨w, hw, t', hw'⟩ := r.get (i := m) (x := .int ys[m]) (by simp [hm'])
    refine ⟨ys[m], t', List.getElem?_eq_getElem hm', ?_⟩
    have e := (List.getElem?_eq_some_iff.mp hw).2
    rw [← hw', ← e]
    simp
  refine call_meets PySem.F.slot_tuple_index ⟨_, ho, rfl⟩ PySem.F.entry_tuple_index (PySem.F.args_tuple_index_2 _ _) (TI.tuple_indexAt p its.toArray n dd sl (.int z t) (eqU (.int z)) j hj ?_ ?_)
    ⟨ho, fun w hw => mem_eqAt (x := .int z) ⟨t, rfl⟩ rfl r (flat_ints ys) w (by simpa using hw), ⟨.int (j : Nat), H, I.tok _, ⟨_, rfl⟩, q⟩⟩
  · obtain ⟨y, t', h1, h2⟩ := at' j hj
    rw [hy] at h1
    cases h1
    rw [h2]
    show (z == z) = true
    exact beq_self_eq_true z
  · intro m hm hmj
    obtain ⟨y, t', h1, h2⟩ := at' m hm
    rw [h2]
    show (y == z) = false
    refine beq_eq_false_iff_ne.mpr fun e => hno m hmj ?_
    rw [h1, e]
/-- xs.index(x), ints, xs a list -/
def rIndexL (K : PySem.W.Frag) : V → List V → Hp → VK → Prop := fun x xs H Q => ∃ p, ∃ ys : List Int, ∃ z j, x = .ref p ∧ xs = [.int z] ∧ SqL K H p (ys.map V.int) ∧ ys[j]? = some z ∧ (∀ m, m < j → ys[m]? ≠ some z) ∧ Q (.int (j : Nat)) H
theorem mt_indexL : MtR X "list.index" (rIndexL X.K) := by
  intro pins s σ H x xs v us Q I rx rs h
  obtain ⟨p, ys, z, j, rfl, rfl, hq, hy, hno, q⟩ := h
  refine mt_index pins s σ H _ _ v us Q I rx rs ⟨p, ys.map V.int, .int z, j, .int z, rfl, rfl, hq, rfl, flat_ints ys, by rw [List.getElem?_map, hy]; rfl, beq_self_eq_true z, fun m z' hm hz' => ?_, q⟩
  rw [List.getElem?_map] at hz'
  cases hh : ys[m]? with
  | none => rw [hh] at hz'; cases hz'
  | some y =>
    rw [hh] at hz'
    cases hz'
    show (y == z) = false
    exact beq_eq_false_iff_ne.mpr fun e => hno m hm (by rw [hh, e])
/-- t.count(x), ints -/
def rCntT (K : PySem.W.Frag) : V → List V → Hp → VK → Prop := fun x xs H Q => ∃ (p : Addr) (ns : List Int) (k : Int), x = .ref p ∧ xs = [.int k] ∧ SqT K H p (ns.map V.int) ∧ Q (.int (ns.count k : Nat)) H
theorem mt_tcount : MtR X "tuple.count" (rCntT X.K) := by
  intro pins s σ H x xs v us Q I rx rxs h
  obtain ⟨p, ns, k, rfl, rfl, hs, q⟩ := h
  cases rx
  obtain ⟨u, rfl, ru⟩ := rxs.one
  obtain ⟨t, rfl⟩ := ru
  obtain ⟨its, rv, pl, hlen⟩ := I.tuple hs
  obtain ⟨⟨cls, dd, dt, sl⟩, ho, hc, n, hd⟩ := pl
  simp only at hc hd
  subst hc hd
  have hi := ints_of_vals rv
  refine call_meets PySem.F.slot_tuple_count ⟨_, ho, rfl⟩ PySem.F.entry_tuple_count (PySem.F.args_tuple_count_2 _ _)
    (PySem.SeqAt.tuple_countAt p its.toArray n dd sl (.int k t) (eqk k)) ⟨ho, fun y hy => (eqk_gives hi y (by simpa using hy)).at _ _, ?_⟩
  have ec : its.toArray.toList.countP (eqk k) = ns.count k := eqk_count hi
  refine ⟨.int (ns.count k : Nat), H, I.tok _, ⟨s.toks, ?_⟩, q⟩
  show Value.int ((its.toArray.toList.countP (eqk k) : Nat) : Int) s.toks = Value.int ((ns.count k : Nat) : Int) s.toks
  rw [ec]
end
end Kb

set_option Elab.async false
set_option linter.all false
set_option maxRecDepth 100000
set_option maxHeartbeats 4000000
namespace Kb
open PySem PySem.Spec PyProof.Rows L2

/-! ### a law's error classes by their names -/
structure Exs (K : PySem.W.Frag) (ec : Str → Addr) (ns : List Str) : Prop where
  bad : ∀ x ∈ ns, Bad K (ec x) (ec "ChamberError")
  kitV : ∀ x ∈ ns, PySem.W.kitOne K (.ref (ec x)) (.type "ValueError") = some true
  kit : ∀ x ∈ ns, ∀ y ∈ ns, PySem.W.kitOne K (.ref (ec x)) (.ref (ec y)) = some (x == y || y == "ChamberError")
  exm : ∀ x ∈ ns, ∀ y ∈ ns, PySem.W.exmOne K (.ref (ec x)) (.ref (ec y)) = some (x == y || y == "ChamberError")
def exsB (K : PySem.W.Frag) (D : Addr) (l : List (Str × Addr)) : Bool :=
  l.all fun p => badB K p.2 D && (PySem.W.kitOne K (.ref p.2) (.type "ValueError") == some true && l.all fun q =>
    PySem.W.kitOne K (.ref p.2) (.ref q.2) == some (p.1 == q.1 || q.1 == "ChamberError") && PySem.W.exmOne K (.ref p.2) (.ref q.2) == some (p.1 == q.1 || q.1 == "ChamberError"))
def ecOf (mg : Str → Option Value) : Str → Addr := fun x => match mg x with
  | some (.ref a) => a
  | _ => 0
theorem ecOf_at {mg : Str → Option Value} {x : Str} {a : Addr} (h : mg x = some (.ref a)) : ecOf mg x = a := by unfold ecOf; rw [h]
theorem exs_of {K : PySem.W.Frag} {mg : Str → Option Value} {D : Addr} {l : List (Str × Addr)} (hD : mg "ChamberError" = some (.ref D)) (hl : ∀ p ∈ l, mg p.1 = some (.ref p.2)) (h : exsB K D l = true) : Exs K (ecOf mg) (l.map (·.1)) := by
  have key : ∀ x ∈ l.map (·.1), ∃ a, (x, a) ∈ l ∧ ecOf mg x = a := by
    intro x hx
    obtain ⟨p, hp, rfl⟩ := List.mem_map.mp hx
    exact ⟨p.2, hp, ecOf_at (hl p hp)⟩
  unfold exsB at h
  rw [List.all_eq_true] at h
  refine ⟨fun x hx => ?_, fun x hx => ?_, fun x hx y hy => ?_, fun x hx y hy => ?_⟩
  · obtain ⟨a, ha, e⟩ := key x hx
    have z := h _ ha
    simp only [Bool.and_eq_true] at z
    rw [e, ecOf_at hD]
    exact bad_of z.1
  · obtain ⟨a, ha, e⟩ := key x hx
    have z := h _ ha
    simp only [Bool.and_eq_true, beq_iff_eq] at z
    rw [e]
    exact z.2.1
  · obtain ⟨a, ha, e⟩ := key x hx
    obtain ⟨b, hb, e2⟩ := key y hy
    have z := h _ ha
    simp only [Bool.and_eq_true] at z
    have z2 := List.all_eq_true.mp z.2.2 _ hb
    simp only [Bool.and_eq_true] at z2
    rw [e, e2]
    exact beq_iff_eq.mp z2.1
  · obtain ⟨a, ha, e⟩ := key x hx
    obtain ⟨b, hb, e2⟩ := key y hy
    have z := h _ ha
    simp only [Bool.and_eq_true] at z
    have z2 := List.all_eq_true.mp z.2.2 _ hb
    simp only [Bool.and_eq_true] at z2
    rw [e, e2]
    exact beq_iff_eq.mp z2.2
def ExAt (mg : Str → Option Value) (ec : Str → Addr) (ns : List Str) : Prop := ∀ x ∈ ns, mg x = some (.ref (ec x))

/-- a class that is raised, its __init__ kept -/
structure Rz0 (P : Program) (w : World) (K : PySem.W.Frag) (mg : Str → Option Value) (base : Heap) (x : Str) (C : Addr) : Prop where
  ex : ∃ (fI : Addr) (fd : FuncData), PySem.W.findIn K (.ref C) "__init__" = some (some (.ref fI)) ∧ PySem.W.typeIn K (.ref fI) = some (.type "function") ∧ FnOk P w K mg base CX0 2 fI fd ["self"] (sp_B0 C x) ∧ Binds K fd ["self"] []
  ox : OexC K C
  at_ : mg x = some (.ref C)
structure Rz1 (P : Program) (w : World) (K : PySem.W.Frag) (mg : Str → Option Value) (base : Heap) (x at1 : Str) (C : Addr) : Prop where
  ex : ∃ (fI : Addr) (fd : FuncData), PySem.W.findIn K (.ref C) "__init__" = some (some (.ref fI)) ∧ PySem.W.typeIn K (.ref fI) = some (.type "function") ∧ FnOk P w K mg base CX0 2 fI fd ["self", at1] (sp_B1 C x at1) ∧ Binds K fd ["self", at1] []
  ox : OexC K C
  at_ : mg x = some (.ref C)
/-- raise .. -/
def sRaise (W : WX) (t : L2.St → Hp → XK → Prop) : TS := fun _ σ H => t σ H fun cls d H' => W cls d σ H'
def tTry (K : PySem.W.Frag) (Wout : WX) (l : List Cl) (tb : WX → TS) : TS := fun D σ H => tb (wAll K Wout D l) D σ H
abbrev W0 : WX := fun _ _ _ _ => False
section
variable {X : Cx} {x at1 : Str} {C : Addr} {p pos pos' : Pos} {W : WX} {e : Expr} {te : TE}
theorem ps_rz0 (hc : X.calm = true) (tk : Takes X W) (R : Rz0 X.prog X.w X.K X.mg X.base x C) (hr : Room 3 X.A) (hg : Gl X x) (hdb : (x == ("__debug__" : Str)) = false := by decide) :
    PS X (.Raise (some (.Call (.Name x p) [] [] pos)) none pos') (sRaise W (tBad C x)) := by
  obtain ⟨fI, fd, h1, h2, h3, h4⟩ := R.ex
  exact ps_raise hc tk (pmk_bad0 R.ox h1 h2 h3 hr h4 hg R.at_ hdb)
theorem ps_rz1 (hc : X.calm = true) (tk : Takes X W) (R : Rz1 X.prog X.w X.K X.mg X.base x at1 C) (hr : Room 3 X.A) (hg : Gl X x) (ha : PE X e te) (hdb : (x == ("__debug__" : Str)) = false := by decide)
    (he : starEach [e] X.env = (false, eval e X.env) :: starEach [] X.env := by rfl) (hpl : (backTo pos (starEach [] X.env)).any (·.1) = false := by rfl) :
    PS X (.Raise (some (.Call (.Name x p) [e] [] pos)) none pos') (sRaise W (tBad1 C x at1 te)) := by
  obtain ⟨fI, fd, h1, h2, h3, h4⟩ := R.ex
  exact ps_raise hc tk (pmk_bad1 R.ox h1 h2 h3 hr h4 hg R.at_ ha hdb he hpl)
theorem ps_tryT {body : List Stmt} {h₀ : ExceptHandler} {hds : List ExceptHandler} {l : List Cl} {tb : WX → TS} {Wout : WX} (hs : X.stack = X.env :: X.outer) (hf : X.env.frame = some X.env.locals) (hN : X.N.Nodup) (tk : Takes X Wout)
    (hb : ∀ (W : WX) (pn : List (Addr × Obj)) (xe : Value → Shared → Prop), Takes (X.tr pn xe) W → PassesOwn (model X.prog X.w) X.A X.env xe → PSs (X.tr pn xe) body (tb W))
    (hh : HdsA X (h₀ :: hds) l) : PS X (.Try body (h₀ :: hds) [] [] pos) (tTry X.K Wout l tb) := ps_try_all hs hf hN tk hb hh
end

/-! ### the pure side of raise and try -/
section
variable {K : PySem.W.Frag} {ec : Str → Addr} {ns : List Str} {W : WX} {D : Ends} {σ : L2.St} {H : Hp} {C : Addr} {x at1 : Str}
theorem r_raise (h : ∀ d H', Same H H' → H d = none → H' d = some (.xd [("word", .str x)]) → W (.ref C) (some d) σ H') : sRaise W (tBad C x) D σ H := fun d nd => h d _ (same_new nd) nd upd_same
/-- behind the argument of C(e) in a raise -/
def PRz1 (W : WX) (σ : L2.St) (C : Addr) (x at1 : Str) (v : V) (H1 : Hp) : Prop := [v].length ≤ 1000 ∧ ∀ a, H1 a = none → sp_B1 C x at1 (.ref a :: ([v] ++ [])) (upd H1 a (exo a C none)) (fun v H2 => v = .non ∧ ∃ (d : Addr) (fs : List (Str × V)), H2 a = some (exo a C (some d)) ∧ H2 d = some (exd d fs) ∧ H1 d = none ∧ W (.ref C) (some d) σ (upd (del H2 a) d (.xd fs))) (fun _ _ _ => False)
theorem r_raise1 {te : TE} (h : te σ H fun v H1 => PRz1 W σ C x at1 v H1) : sRaise W (tBad1 C x at1 te) D σ H := h
theorem r_prz1 {v : V} (h : ∀ d H', Same H H' → H d = none → H' d = some (.xd [(at1, v), ("word", .str x)]) → W (.ref C) (some d) σ H') : PRz1 W σ C x at1 v H := mk_bad1 (Q := fun cls d H' => W cls d σ H') fun d nd => h d _ (same_new nd) nd upd_same
theorem r_try {Wout : WX} {l : List Cl} {tb : WX → TS} (h : tb (wAll K Wout D l) D σ H) : tTry K Wout l tb D σ H := h
/-- the clause is taken -/
theorem w_yes {Wout : WX} {q : Cl} {r : List Cl} {d : Option Addr} {cls : Value} (e : PySem.W.exmOne K cls q.c = some true) (h : ∀ a, H a = none → q.ts a cls d (endsOf D q.slot) (setOf σ a q.slot) H) : wAll K Wout D (q :: r) cls d σ H :=
  ⟨true, e, fun _ => h, fun z => nomatch z⟩
theorem w_no {Wout : WX} {q : Cl} {r : List Cl} {d : Option Addr} {cls : Value} (e : PySem.W.exmOne K cls q.c = some false) (h : wAll K Wout D r cls d σ H) : wAll K Wout D (q :: r) cls d σ H :=
  ⟨false, e, (fun z => nomatch z), fun _ => h⟩
/-- e.f of the caught -/
theorem r_xfV {a : Addr} {d : Addr} {n : Str} {i : Nat} {Q : VK} {fs : List (Str × V)} {v : V} (XF : XfC K C) (hn : PySem.W.findIn K (.ref C) n = some none) (hσ : σ[i]? = some (some (.ref a))) (hd : H d = some (.xd fs)) (hl : fs.lookup n = some v) (q : Q v H) : tXfA K a (.ref C) (some d) n (tVar i) σ H Q :=
  ⟨C, rfl, XF, hn, .ref a, hσ, rfl, rfl, d, fs, v, rfl, hd, hl, q⟩
/-- isinstance(e, c) -/
theorem r_isX {a d : Addr} {c : V} {b : Bool} {fs : List (Str × V)} {Q : VK} (hd : H d = some (.xd fs)) (E : ExcC K C) (io : IsOf K H C c b) (q : Q (.bl b) H) : rIsX K a (.ref C) (some d) [.ref a, c] H Q := ⟨c, C, d, fs, b, rfl, rfl, rfl, hd, E, io, q⟩
theorem is_cls (XS : Exs K ec ns) {y : Str} (hx : x ∈ ns) (hy : y ∈ ns) : IsOf K H (ec x) (.ref (ec y)) (x == y || y == "ChamberError") := .inl ⟨_, fun u r => r, XS.kit x hx y hy⟩
theorem is_VE (XS : Exs K ec ns) (hx : x ∈ ns) : IsOf K H (ec x) (.ty "ValueError") true := .inl ⟨_, fun u r => r, XS.kitV x hx⟩
theorem vals_refs : ∀ {cs : List Addr} {us : List Value}, Vals (cs.map V.ref) us → us = cs.map Value.ref
  | [], _, r => by cases r; rfl
  | c :: cs, _, r => by
    cases r with
    | cons h r =>
      rw [vals_refs r]
      have h : _ = Value.ref c := h
      rw [h]
      rfl
theorem kitAny_names (XS : Exs K ec ns) (hx : x ∈ ns) : ∀ {ys : List Str}, (∀ y ∈ ys, y ∈ ns) → PySem.W.kitAny K (.ref (ec x)) ((ys.map ec).map Value.ref) = some (ys.any fun y => x == y || y == "ChamberError")
  | [], _ => rfl
  | y :: ys, h => by
    have e := XS.kit x hx y (h y List.mem_cons_self)
    have r := kitAny_names XS hx (ys := ys) fun z hz => h z (List.mem_cons_of_mem _ hz)
    rw [List.map_cons, List.map_cons, List.any_cons]
    unfold PySem.W.kitAny
    rw [e]
    cases (x == y || y == "ChamberError") with
    | true => rfl
    | false => rw [Bool.false_or]; exact r
theorem is_tup (XS : Exs K ec ns) (hx : x ∈ ns) {tp : Addr} {ys : List Str} (hy : ∀ y ∈ ys, y ∈ ns) (ht : SqT K H tp ((ys.map ec).map V.ref)) : IsOf K H (ec x) (.ref tp) (ys.any fun y => x == y || y == "ChamberError") :=
  .inr ⟨tp, _, _, rfl, ht, fun us r => vals_refs r, kitAny_names XS hx hy⟩
end
theorem r_callW {sp : Sp} {W : WX} {t : TA} {σ : L2.St} {H : Hp} {Q : VK} (h : t σ H fun vs H1 => sp vs H1 Q (fun cls d H' => W cls d σ H')) : tCallW sp W t σ H Q := h
def PEn (K : PySem.W.Frag) (k : Int) (vs : List V) (H1 : Hp) (R : It → Hp → Prop) : Prop := ∃ a xs, vs = [.ref a] ∧ SqT K H1 a xs ∧ R (IteT K a k) H1
theorem r_enT {K : PySem.W.Frag} {k : Int} {ta : TA} {σ : L2.St} {H : Hp} {R : It → Hp → Prop} (h : ta σ H fun vs H1 => PEn K k vs H1 R) : iEnT K k ta σ H R := h
theorem r_pen {K : PySem.W.Frag} {k : Int} {a : Addr} {xs : List V} {H : Hp} {R : It → Hp → Prop} (h : SqT K H a xs) (q : R (IteT K a k) H) : PEn K k [.ref a] H R := ⟨a, xs, rfl, h, q⟩
theorem r_idxT {K : PySem.W.Frag} {p : Addr} {ys : List Int} {z : Int} {j : Nat} {H : Hp} {Q : VK} (h : SqT K H p (ys.map V.int)) (hy : ys[j]? = some z) (hno : ∀ m, m < j → ys[m]? ≠ some z) (q : Q (.int (j : Nat)) H) : rIndexT K (.ref p) [.int z] H Q := ⟨p, ys, z, j, rfl, rfl, h, hy, hno, q⟩
theorem r_idxL {K : PySem.W.Frag} {p : Addr} {ys : List Int} {z : Int} {j : Nat} {H : Hp} {Q : VK} (h : SqL K H p (ys.map V.int)) (hy : ys[j]? = some z) (hno : ∀ m, m < j → ys[m]? ≠ some z) (q : Q (.int (j : Nat)) H) : rIndexL K (.ref p) [.int z] H Q := ⟨p, ys, z, j, rfl, rfl, h, hy, hno, q⟩
theorem r_cntT {K : PySem.W.Frag} {p : Addr} {ys : List Int} {z : Int} {H : Hp} {Q : VK} (h : SqT K H p (ys.map V.int)) (q : Q (.int (ys.count z : Nat)) H) : rCntT K (.ref p) [.int z] H Q := ⟨p, ys, z, rfl, rfl, h, q⟩
theorem r_eqS {K : PySem.W.Frag} {x y : Str} {H : Hp} {Q : VK} (q : Q (.bl (decide (x = y))) H) : rEqU K (.str x) (.str y) H Q := .inl ⟨rfl, by
  have e : decide (V.str x = V.str y) = decide (x = y) := by by_cases h : x = y <;> simp [h]
  rw [e]; exact q⟩
theorem r_neS {K : PySem.W.Frag} {x y : Str} {H : Hp} {Q : VK} (q : Q (.bl (!decide (x = y))) H) : rNeU K (.str x) (.str y) H Q := .inl ⟨rfl, by
  have e : decide (V.str x = V.str y) = decide (x = y) := by by_cases h : x = y <;> simp [h]
  rw [e]; exact q⟩
theorem r_endsAs {D : Ends} {i : Nat} {σ : L2.St} {H : Hp} (h : D.nx (σ.set i none) H) : (endsOf D (some i)).nx σ H := h
theorem r_endsNo {D : Ends} {σ : L2.St} {H : Hp} (h : D.nx σ H) : (endsOf D none).nx σ H := h
def PTp (K : PySem.W.Frag) (x : V) (H1 : Hp) : Prop := ∃ p xs, x = .ref p ∧ SqT K H1 p xs ∧ NoD H1 p
theorem r_BMT {K : PySem.W.Frag} {r : V → List V → Hp → VK → Prop} {to : TE} {t : TA} {σ : L2.St} {H : Hp} {Q : VK} (h : to σ H fun x H1 => PTp K x H1 ∧ t σ H1 fun xs H2 => r x xs H2 Q) : tBMT K r to t σ H Q := h
theorem r_ptp {K : PySem.W.Frag} {p : Addr} {xs : List V} {H : Hp} {A : Prop} (h : SqT K H p xs) (d : NoD H p) (a : A) : PTp K (.ref p) H ∧ A := ⟨⟨p, xs, rfl, h, d⟩, a⟩
theorem ixN_r {n : Nat} {y : Int} (h1 : 1 ≤ y) (h2 : y ≤ n) : ixN n (y - 1) = some (y - 1).toNat := by
  unfold ixN
  rw [if_pos (by omega), if_pos (by omega)]
theorem ixN_n {n k : Nat} (h : k < n) : ixN n (k : Int) = some k := by
  unfold ixN
  rw [if_pos (by omega), if_pos (by omega)]
  rfl
theorem map_set {bs : List Int} {k : Nat} {x : Int} : (bs.map V.int).set k (.int x) = (bs.set k x).map V.int := by rw [List.map_set]
/-- a list that is filled place by place -/
theorem fill_step {bs : List Int} {n i : Nat} {k : Nat → Nat} {v : Nat → Int} (hl : bs.length = n) (h : ∀ j, j < i → bs[k j]? = some (v j)) (hk : k i < n) (inj : ∀ j, j < i → k j ≠ k i) :
    (bs.set (k i) (v i)).length = n ∧ ∀ j, j < i + 1 → (bs.set (k i) (v i))[k j]? = some (v j) := by
  refine ⟨by rw [List.length_set]; exact hl, fun j hj => ?_⟩
  by_cases e : j = i
  · subst e
    rw [List.getElem?_set_self (by omega)]
  · rw [List.getElem?_set_ne (Ne.symm (inj j (by omega)))]
    exact h j (by omega)
section
/-! the tactics: rd walks a reading; tk closes a fact about a heap from those ahead of it -/
local macro_rules | `(tactic| walk_at "tk") => `(tactic| first
  | assumption
  | ((with_reducible refine' sqT_of ?k); (case k => assumption))
  | ((with_reducible refine' sqT_ofD ?k); (case k => assumption))
  | ((with_reducible refine' noD_of ?k); (case k => assumption))
  | ((with_reducible refine' noD_same ?s ?k); (case s => assumption); (case k => walk_at "tk"))
  | ((with_reducible refine' sqL_of ?k); (case k => assumption))
  | ((with_reducible refine' sqT_same ?s ?k); (case s => assumption); (case k => walk_at "tk"))
  | ((with_reducible refine' sqL_same ?s ?k); (case s => assumption); (case k => walk_at "tk"))
  | ((with_reducible refine' sqT_but ?s ?t ?k); (case s => assumption); (case t => walk_at "tk"); (case k => walk_at "tk"))
  | ((with_reducible refine' sqL_but ?s ?t ?k); (case s => assumption); (case t => walk_at "ne"); (case k => walk_at "tk"))
  | ((with_reducible refine' sqL_of ?k); (case k => walk_at "tk"))
  | ((with_reducible refine' sqT_of ?k); (case k => walk_at "tk"))
  | ((with_reducible refine' at_same ?s ?k); (case s => assumption); (case k => walk_at "tk"))
  | ((with_reducible refine' at_but ?s ?t ?k); (case s => assumption); (case t => walk_at "ne"); (case k => walk_at "tk")))
local macro_rules | `(tactic| walk_at "ne") => `(tactic| first
  | assumption
  | (refine Ne.symm ?_; assumption)
  | exact ne_of_none (by assumption) (by assumption)
  | exact (ne_of_none (by assumption) (by assumption)).symm)
local macro_rules | `(tactic| walk_at "side") => `(tactic| first
  | assumption
  | omega
  | (simp only [sizeLine_eq, List.length_cons, List.length_nil, List.length_map]; omega)
  | (show _ ≤ sizeLine; decide))
local macro_rules | `(tactic| walk_at "kit") => `(tactic| first
  | (show kitB _ _ = some true; decide +kernel)
  | (show kitB _ _ = some false; decide +kernel))
local macro_rules | `(tactic| walk_at "rng") => `(tactic| first
  | (refine ⟨by omega, by omega, by omega, by omega⟩)
  | (refine ⟨by omega, by omega⟩)
  | ((simp only [List.length_map]); (refine ⟨by omega, by omega, by omega, by omega⟩))
  | ((simp only [List.length_map]); (refine ⟨by omega, by omega⟩)))
local macro_rules | `(tactic| walk_at "rd1") => `(tactic| first
  | with_reducible refine r_seq ?_
  | ((with_reducible refine' r_var ?k0 ?_); (case k0 => rfl))
  | with_reducible refine r_op ?_
  | with_reducible refine r_c ?_
  | with_reducible refine r_asg ?_
  | with_reducible refine r_name ?_
  | with_reducible refine r_cons ?_
  | with_reducible refine r_nil ?_
  | with_reducible refine r_CB ?_
  | with_reducible refine r_if ?_
  | with_reducible refine r_test ?_
  | with_reducible refine r_k ?_
  | with_reducible refine r_T ?_
  | with_reducible refine r_F ?_
  | with_reducible refine r_nT ?_
  | with_reducible refine r_nF ?_
  | with_reducible refine r_ret ?_
  | with_reducible refine r_drop ?_
  | with_reducible refine r_next ?_
  | with_reducible refine r_call ?_
  | with_reducible refine r_addI ?_
  | with_reducible refine r_subI ?_
  | with_reducible refine r_ltI ?_
  | with_reducible refine r_gtI ?_
  | with_reducible refine r_leI ?_
  | with_reducible refine r_geI ?_
  | with_reducible refine r_eqI ?_
  | with_reducible refine r_neI ?_
  | with_reducible refine r_int ?_
  | with_reducible refine r_abs ?_
  | with_reducible refine r_not ?_
  | with_reducible refine r_and ?_
  | with_reducible refine r_or ?_
  | with_reducible refine r_tru ?_
  | with_reducible refine r_truB ?_
  | with_reducible refine r_lst ?_
  | with_reducible refine r_tup ?_
  | with_reducible refine r_BM ?_
  | with_reducible refine r_BM0 ?_
  | with_reducible refine r_tyS ?_
  | with_reducible refine r_gsub ?_
  | with_reducible refine r_then ?_
  | with_reducible refine r_lstRg ?_
  | with_reducible refine r_tupRg ?_
  | with_reducible refine r_rg2 ?_
  | with_reducible refine r_rg1 ?_
  | with_reducible refine r_ii ?_
  | with_reducible refine r_i ?_
  | with_reducible refine r_ipI ?_
  | with_reducible refine r_un ?_
  | with_reducible refine r_neg ?_
  | with_reducible refine r_isN ?_
  | with_reducible refine r_notN ?_
  | with_reducible refine r_notV ?_
  | with_reducible refine r_pnot ?_
  | with_reducible refine r_pif ?_
  | with_reducible refine r_andV ?_
  | with_reducible refine r_orV ?_
  | with_reducible refine r_ifE ?_
  | with_reducible refine r_chain ?_
  | with_reducible refine r_sl ?_
  | with_reducible refine r_noPart ?_
  | with_reducible refine r_part ?_
  | with_reducible refine r_brk ?_
  | with_reducible refine r_cont ?_
  | with_reducible refine r_retN ?_
  | with_reducible refine r_truI ?_
  | with_reducible refine r_B ?_
  | with_reducible refine r_for ?_
  | with_reducible refine r_rng1 ?_
  | with_reducible refine r_rng2 ?_
  | with_reducible refine r_rng3 ?_
  | with_reducible refine r_body ?_
  | with_reducible refine r_lc ?_
  | with_reducible refine r_yes ?_
  | ((with_reducible refine' r_mod ?k0 ?_); (case k0 => walk_at "side"))
  | ((with_reducible refine' r_mulI ?k0 ?_); (case k0 => first | exact Or.inl ⟨by omega, by omega⟩ | exact Or.inr ⟨by omega, by omega⟩))
  | ((with_reducible refine' r_lenL ?k0 ?_); (case k0 => walk_at "tk"))
  | ((with_reducible refine' r_lenT ?k0 ?_); (case k0 => walk_at "tk"))
  | ((with_reducible refine' r_truL ?k0 ?_); (case k0 => walk_at "tk"))
  | ((with_reducible refine' r_truT ?k0 ?_); (case k0 => walk_at "tk"))
  | ((with_reducible refine' r_ixL ?k0 ?k1 ?_); (case k0 => walk_at "tk"); (case k1 => first | assumption | rfl))
  | ((with_reducible refine' r_ixT ?k0 ?k1 ?_); (case k0 => walk_at "tk"); (case k1 => first | assumption | rfl))
  | ((with_reducible refine' r_new ?k0 ?_); (case k0 => walk_at "side"))
  | ((with_reducible refine' r_tyL ?k0 ?_); (case k0 => walk_at "tk"))
  | ((with_reducible refine' r_append ?k0 ?k1 ?_); (case k0 => walk_at "tk"); (case k1 => walk_at "side"))
  | ((with_reducible refine' r_setL ?k0 ?k1 ?_); (case k0 => walk_at "tk"); (case k1 => first | assumption | rfl))
  | ((with_reducible refine' r_kTupL ?k0 ?_); (case k0 => walk_at "tk"))
  | ((with_reducible refine' r_kTupT ?k0 ?_); (case k0 => walk_at "tk"))
  | ((with_reducible refine' r_listL ?k0 ?_); (case k0 => walk_at "tk"))
  | ((with_reducible refine' r_listT ?k0 ?_); (case k0 => walk_at "tk"))
  | ((with_reducible refine' r_aug ?k0 ?_); (case k0 => rfl))
  | ((with_reducible refine' r_lenS ?k0 ?_); (case k0 => walk_at "side"))
  | ((with_reducible refine' r_pop ?k0 ?_); (case k0 => walk_at "tk"))
  | ((with_reducible refine' r_pr1 ?k0 ?_); (case k0 => walk_at "rng"))
  | ((with_reducible refine' r_pr2 ?k0 ?_); (case k0 => walk_at "rng"))
  | ((with_reducible refine' r_pr3d ?k0 ?_); (case k0 => walk_at "rng"))
  | ((with_reducible refine' r_isiI ?k0 ?_); (case k0 => walk_at "kit"))
  | ((with_reducible refine' r_isiB ?k0 ?_); (case k0 => walk_at "kit"))
  | ((with_reducible refine' r_isiS ?k0 ?_); (case k0 => walk_at "kit"))
  | ((with_reducible refine' r_isiN ?k0 ?_); (case k0 => walk_at "kit"))
  | ((with_reducible refine' r_isiT ?k0 ?k1 ?_); (case k0 => walk_at "tk"); (case k1 => walk_at "kit"))
  | ((with_reducible refine r_seqT ?_); (repeat (walk_at "rd1")); ((with_reducible refine' r_pseqT ?k0 ?_); (case k0 => walk_at "tk")))
  | ((with_reducible refine r_seqL ?_); (repeat (walk_at "rd1")); ((with_reducible refine' r_pseqL ?k0 ?_); (case k0 => walk_at "tk")))
  | ((with_reducible refine r_seqS ?_); (repeat (walk_at "rd1")); (with_reducible refine r_pseqS ?_)))
local macro_rules | `(tactic| walk_at "rd") => `(tactic| ((repeat (walk_at "rd1")); (try dsimp only)))

/-- alone = isinstance(e, ChamberError) and isinstance(e, ValueError) and not isinstance(e, (A, B)) -/
theorem r_alone {K : PySem.W.Frag} {ec : Str → Addr} {ns : List Str} {σ : L2.St} {H : Hp} {Q : VK} {i : Nat} {a d : Addr} {x A B : Str} {fs : List (Str × V)} (XS : Exs K ec ns) (hx : x ∈ ns) (hC : ("ChamberError" : Str) ∈ ns) (hA : A ∈ ns) (hB : B ∈ ns)
    (nA : (x == A || A == "ChamberError") = false) (nB : (x == B || B == "ChamberError") = false) (hσ : σ[i]? = some (some (V.ref a))) (e : H d = some (.xd fs)) (q : ∀ H', Same H H' → Q (.bl true) H') :
    tAndV (tCB (rIsX K a (.ref (ec x)) (some d)) (tCons (tVar i) (tCons (tC (.ref (ec "ChamberError"))) tNil))) (tAndV (tCB (rIsX K a (.ref (ec x)) (some d)) (tCons (tVar i) (tCons (tC (.ty "ValueError")) tNil)))
      (tNotV (tCB (rIsX K a (.ref (ec x)) (some d)) (tCons (tVar i) (tCons (tTup (tCons (tC (.ref (ec A))) (tCons (tC (.ref (ec B))) tNil))) tNil))))) σ H Q := by
  have BX := XS.bad x hx
  refine r_andV (r_CB (r_cons (r_var hσ (r_cons (r_c (r_nil ?_)))))) 
  refine r_isX (b := true) e BX.ex ?_ ?_
  · have z := is_cls (H := H) XS hx hC
    rw [show (x == "ChamberError" || ("ChamberError" : Str) == "ChamberError") = true by rw [show (("ChamberError" : Str) == "ChamberError") = true by decide, Bool.or_true]] at z
    exact z
  refine r_pif (r_T ?_)
  refine r_andV (r_CB (r_cons (r_var hσ (r_cons (r_c (r_nil ?_))))))
  refine r_isX (b := true) e BX.ex (is_VE XS hx) ?_
  refine r_pif (r_T ?_)
  refine r_notV (r_CB (r_cons (r_var hσ (r_cons ?_))))
  walk_at "rd"
  intro tp H1 ntp s1 e1
  walk_at "rd"
  refine r_isX (b := false) (s1 _ _ e) BX.ex ?_ ?_
  · have z := is_tup (H := H1) XS hx (tp := tp) (ys := [A, B]) (by intro y hy; rcases List.mem_cons.mp hy with rfl | hy; exact hA; rcases List.mem_cons.mp hy with rfl | hy; exact hB; cases hy) (sqT_of e1)
    rw [show ([A, B].any fun y => x == y || y == "ChamberError") = false by simp only [List.any_cons, List.any_nil, nA, nB, Bool.or_false]] at z
    exact z
  exact r_pnot (q H1 s1)
end
end Kb

set_option Elab.async false
set_option linter.all false
set_option maxRecDepth 100000
set_option maxHeartbeats 4000000
namespace Kb
open PySem PySem.Spec PyProof.Rows L2
section
variable {K : PySem.W.Frag} {H : Hp} {Q : VK} {E : XK}
theorem pl_same {H H' : Hp} {p : Addr} (s : Same H H') (h : Pl H p) : Pl H' p := by
  obtain ⟨x, y, z, e⟩ := h
  exact ⟨x, y, z, s _ _ e⟩
theorem noD_but {H H' : Hp} {l q : Addr} {ys : List V} (b : But l H H') (hl : H l = some (.lst ys)) (h : NoD H q) : NoD H' q := by
  obtain ⟨o, u, e, d⟩ := h
  exact ⟨o, u, b _ _ (fun z => by rw [z, hl] at e; cases e) e, d⟩
theorem size_ints : ∀ r : List Int, Dat.sizes (r.map Dat.int) = r.length
  | [] => rfl
  | x :: r => by
    rw [List.map_cons]
    show Dat.size (.int x) + Dat.sizes (r.map Dat.int) = _
    rw [size_ints r, List.length_cons, show Dat.size (.int x) = 1 from rfl, Nat.add_comm]
theorem sm {a b : Addr} {r : List Int} {n : Nat} (h1 : SqT K H a (r.map V.int)) (h2 : SqT K H b (r.map V.int)) (hR : IsRow r n) (hn : n ≤ 12) (q : ∀ H', Same H H' → Q (.bl true) H') : sp_law_same K [.ref a, .ref b] H Q E :=
  ⟨_, _, .tup (r.map .int), rfl, rp_ints h1, rp_ints h2, by show 1 + Dat.sizes (r.map Dat.int) ≤ _; rw [size_ints, hR.1]; omega, q⟩
end
end Kb

set_option Elab.async false
set_option linter.all false
set_option maxRecDepth 100000
set_option maxHeartbeats 4000000
/-! t[::-1], t a tuple -/
namespace Kb
open PySem PySem.Spec PyProof.Rows L2
section
variable {prog : Program} {w : World} {A : Around} {E : Value → Shared → Prop} {s : Shared}
theorem sliceApplied_rev {sl : Addr} {vk : Value} {n : Nat} {Q : Int × Int × Nat → Shared → Prop} (hs : s.heap.IsSliceOf sl .none .none vk) (pk : IsPart vk (some (-1)))
    (h : Q ((n : Int) - 1, -1, n) s) : wpAny (model prog w) A (Builtin.Slice.sliceApplied (.ref sl) (pure (n : Int))) Q E s := by
  obtain ⟨os, hos, hcs, hds⟩ := id hs
  unfold Builtin.Slice.sliceApplied Builtin.Slice.sliceFields
  refine wpAny_bind (wpAny_bind (wpAny_field hos hds (x := .none) rfl (wpAny_bind (wpAny_field hos hds (x := .none) rfl (wpAny_bind (wpAny_field hos hds (x := vk) rfl (wpAny_pure ?_)))))))
  refine wpAny_bind (HT.slicePart_ pk ?_)
  show wpAny _ _ (if ((-1 : Int) == 0) = true then _ else _) _ _ s
  rw [if_neg (by decide)]
  refine wpAny_bind (HT.slicePart_ .none (wpAny_bind (HT.slicePart_ .none (wpAny_bind (wpAny_pure ?_)))))
  show wpAny _ _ (pure ((n : Int) - 1, (-1 : Int), Builtin.Slice.slicePlaces ((n : Int) - 1) (-1) (-1))) _ _ s
  have e : Builtin.Slice.slicePlaces ((n : Int) - 1) (-1) (-1) = n := by
    unfold Builtin.Slice.slicePlaces
    rw [if_neg (by decide)]
    split
    · rw [show (-(-1) : Int) = 1 by decide, Int.ediv_one]; omega
    · omega
  rw [e]
  exact wpAny_pure h
theorem fm_congr {α β : Type} {f g : α → Option β} : ∀ {l : List α}, (∀ x ∈ l, f x = g x) → l.filterMap f = l.filterMap g
  | [], _ => rfl
  | a :: l, h => by
    rw [List.filterMap_cons, List.filterMap_cons, h a List.mem_cons_self, fm_congr fun x hx => h x (List.mem_cons_of_mem _ hx)]
theorem pick_rev (xs : Array Value) : ((List.range xs.size).filterMap fun (m : Nat) => xs[(((xs.size : Int) - 1) + (m : Int) * (-1)).toNat]?).toArray = xs.toList.reverse.toArray := by
  congr 1
  have e : ∀ m ∈ List.range xs.size, xs[(((xs.size : Int) - 1) + (m : Int) * (-1)).toNat]? = xs.toList.reverse[m]? := fun m hm => by
    rw [List.mem_range] at hm
    rw [List.getElem?_reverse (by rw [Array.length_toList]; exact hm), Array.length_toList, Array.getElem?_toList]
    congr 1
    omega
  rw [fm_congr e]
  have key : ∀ l : List Value, (List.range l.length).filterMap (fun m => l[m]?) = l := fun l => by
    induction l with
    | nil => rfl
    | cons a l ih =>
      rw [List.length_cons, List.range_succ_eq_map, List.filterMap_cons]
      simp only [List.getElem?_cons_zero, List.filterMap_map]
      congr 1
  have := key xs.toList.reverse
  rw [List.length_reverse, Array.length_toList] at this
  exact this
theorem getItem_tuple_rev {t sl : Addr} {items : Array Value} {vk : Value} {Q : Value → Shared → Prop} (ht : IsTup s.heap t items) (hs : s.heap.IsSliceOf sl .none .none vk) (pk : IsPart vk (some (-1)))
    (h : Q (.ref s.heap.objs.size) { s with heap := s.heap.push { cls := .type "tuple", data := .seq items.toList.reverse.toArray } })
    (hsz : items.size ≤ sizeLine) : wpAny (model prog w) A (getItem (.ref t) (.ref sl)) Q E s := by
  have htake : sizeOk (.seq items.toList.reverse.toArray) := by
    show items.toList.reverse.toArray.size ≤ sizeLine
    rw [List.size_toArray, List.length_reverse, Array.length_toList]
    exact hsz
  obtain ⟨os, hos, hcs, hds⟩ := id hs
  have hTs : s.TypeIs (.ref sl) "slice" := ⟨os, hos, hcs⟩
  unfold getItem
  try with_reducible refine wpAny_holding ?_
  first | refine wpAny_bind (wpAny_pure ?_) | skip
  refine wpAny_bind (wpAny_sequenceKey ht.typeIs (by decide) ?_)
  refine wpAny_bind (wpAny_callSpecial?_slot (name := Str.ofString "__getitem__") ht.typeIs PyProof.Rows.slot_tuple_getitem
    (wpAny_call_entry PyProof.Rows.slot_tuple_getitem ht.typeIs entry_tuple_getitem ?_ (args_tuple_getitem _ _)))
  show wpAny _ _ (Builtin.Tuple.tupleItemsOf (.ref t) >>= _) _ _ s
  refine wpAny_bind (tupleItemsOf_ ht ?_)
  refine wpAny_bind (wpAny_typeOf hTs ?_)
  rw [if_pos (by decide)]
  refine wpAny_bind (sliceApplied_rev hs pk ?_)
  show wpAny _ _ (if ((items.size : Int) - 1 == 0 && (-1 : Int) == 1 && items.size == items.size) = true then _ else _) _ _ s
  rw [if_neg (by rw [show ((-1 : Int) == 1) = false by decide, Bool.and_false, Bool.false_and]; decide), pick_rev]
  first
    | exact wpAny_bind (m := Builtin.Tuple.tupleExact _) (wpAny_newObj_type (wpAny_pure ⟨_, rfl, wpAny_pure h⟩) htake)
    | exact wpAny_bind (m := Builtin.Tuple.tupleExact _) (wpAny_newObj_type (wpAny_bind (wpAny_pure (wpAny_pure ⟨_, rfl, wpAny_pure h⟩))) htake)
    | exact wpAny_bind (wpAny_bind (m := Builtin.Tuple.tupleExact _) (wpAny_newObj_type (wpAny_pure (wpAny_pure ⟨_, rfl, wpAny_pure h⟩)) htake))
    | exact wpAny_bind (wpAny_bind (m := Builtin.Tuple.tupleExact _) (wpAny_newObj_type (wpAny_pure ⟨_, rfl, wpAny_pure h⟩) htake))
end
/-- t[::k], k being -1 -/
def PRev (K : PySem.W.Frag) (x : V) (k : Option Int) (H : Hp) (Q : VK) : Prop := k = some (-1) ∧ ∃ a xs, x = .ref a ∧ SqT K H a xs ∧ ∀ p, H p = none → Q (.ref p) (upd H p (.tup xs.reverse))
def tRevU (K : PySem.W.Frag) (te : TE) (tk : TO) : TE := fun σ H Q => te σ H fun x H1 => tk σ H1 fun k H2 => PRev K x k H2 Q
theorem vals_rev : ∀ {xs : List V} {us : List Value}, Vals xs us → Vals xs.reverse us.reverse
  | _, _, .nil => .nil
  | _, _, .cons h r => by
    rw [List.reverse_cons, List.reverse_cons]
    exact (vals_rev r).append (.cons h .nil)
section
variable {X : Cx} {e : Expr} {te : TE} {st : Expr} {tk : TO} {pos p2 : Pos}
theorem pe_revU (he : PE X e te) (hk : PO X (some st) tk) : PE X (.Subscript e (.Slice none none (some st) p2) pos) (tRevU X.K te tk) := by
  refine ⟨fun pins s σ H Q I h => ?_⟩
  refine Subscript_ (thn (he.run pins s σ H _ I h) fun v s1 ⟨x, H1, I1, r1, q1⟩ => ?_)
  refine wpAny_Slice ?_
  rw [evalPart_none]
  refine wpAny_pure (wpAny_pure ?_)
  refine thn (hk.run pins s1 σ H1 _ I1 q1) fun vk s2 ⟨k, H2, I2, pk, q2⟩ => ?_
  obtain ⟨rfl, a, xs, rfl, hx, q⟩ := q2
  cases r1
  have I4 : Inv X pins σ H2 { s2 with heap := s2.heap.push { cls := .type "slice", data := .fields #[.none, .none, vk] } } := I2.kept (t' := s2.toks) fun b ob q => Heap.get?_push_of_some _ q
  obtain ⟨its, r, ht, hz⟩ := I4.tuple hx
  have hlen : its.toArray.size = xs.length := by rw [List.size_toArray]; exact r.length.symm
  show wpAny (model X.prog X.w) X.A (subscriptTail e (.Slice none none (some st) p2) (.ref a) (.ref s2.heap.objs.size)) (EP X pins σ Q) X.xe { s2 with heap := s2.heap.push { cls := .type "slice", data := .fields #[.none, .none, vk] } }
  refine tail_any ht.typeIs PyProof.Rows.slot_tuple_getitem.lookup ?_ (by with_unfolding_all rfl)
  refine getItem_tuple_rev ht (Heap.IsSliceOf.new ..) pk ?_ (by rw [hlen]; exact hz)
  refine ⟨.ref _, _, I4.laid (t' := s2.toks) (o := .tup xs.reverse) (fun b ob q => Heap.get?_push_of_some _ q) (Nat.le_refl _) ?_, rfl, q _ (I4.hok.fresh (Nat.le_refl _))⟩
  exact ⟨by rw [List.length_reverse]; exact hz, _, vals_rev r, IsTup.new _ _⟩
end
/-- x, y = a, b -/
def PPar (vs : List V) (R : V → V → Prop) : Prop := ∃ v w, vs = [v, w] ∧ R v w
theorem r_par {D : Ends} {σ : L2.St} {H : Hp} {i j : Nat} {ta : TA} (h : ta σ H fun vs H1 => PPar vs fun v w => D.nx ((σ.set i (some v)).set j (some w)) H1) : tPar i j ta D σ H := h
theorem r_parV {v w : V} {R : V → V → Prop} (q : R v w) : PPar [v, w] R := ⟨v, w, rfl, q⟩
theorem r_revU {K : PySem.W.Frag} {te : TE} {tk : TO} {σ : L2.St} {H : Hp} {Q : VK} (h : te σ H fun x H1 => tk σ H1 fun k H2 => PRev K x k H2 Q) : tRevU K te tk σ H Q := h
theorem r_prev {K : PySem.W.Frag} {a : Addr} {xs : List V} {H : Hp} {Q : VK} (h : SqT K H a xs) (q : ∀ p H', H p = none → Same H H' → H' p = some (.tup xs.reverse) → Q (.ref p) H') : PRev K (.ref a) (some (-1)) H Q :=
  ⟨rfl, a, xs, rfl, h, fun p np => q p _ np (same_new np) upd_same⟩
theorem ip_mulU {X : Cx} : PIp X .Mult (fun x y H Q => ∃ i j, x = .int i ∧ y = .int j ∧ CMul i j ∧ Q (.int (i * j)) H) := by
  intro pins s σ H x y v u Q I r1 r2 h
  obtain ⟨i, j, e1, e2, c, q⟩ := h
  subst e1; subst e2
  obtain ⟨t, rfl⟩ := r1
  obtain ⟨t', rfl⟩ := r2
  exact imul_int ⟨.int _, H, I.tok _, ⟨_, rfl⟩, q⟩ c.ok
/-- x *= y, ints -/
def ipMulU : TIp := fun x y H Q => ∃ i j, x = .int i ∧ y = .int j ∧ CMul i j ∧ Q (.int (i * j)) H
theorem r_ipMul {m n : Int} {H : Hp} {Q : VK} (c : CMul m n) (q : Q (.int (m * n)) H) : ipMulU (.int m) (.int n) H Q := ⟨m, n, rfl, rfl, c, q⟩
end Kb

set_option Elab.async false
set_option linter.all false
set_option maxRecDepth 100000
/-! counts of methods by their rotations; plain Lean, finite -/
namespace Kb
def ccP : Nat → Nat × Nat
  | 0 => (1, 1)
  | n + 1 => ((ccP n).2, (ccP n).1 + (ccP n).2)
def ccN (s : Nat) : Nat := (ccP (s - 1)).2
def waysN (s p : Nat) : Nat → Nat
  | 0 => 1
  | k + 1 => waysN s p k * (s - p - k) / (k + 1)
def chgN (s : Nat) : Nat → Nat
  | 0 => 0
  | p + 1 => chgN s p + waysN s p p
def cop (n : Nat) : Nat := ((List.range n).filter fun k => Nat.gcd (k + 1) n == 1).length
def rotS (c L : Nat) : Nat → Nat
  | 0 => 0
  | d + 1 => if L % (d + 1) = 0 then rotS c L d + cop (d + 1) * c ^ (L / (d + 1)) else rotS c L d
def rotN (c L : Nat) : Nat := rotS c L L / L
def mirN (c L : Nat) : Nat := if L % 2 = 1 then (rotN c L + c ^ ((L + 1) / 2)) / 2 else (rotN c L + (c ^ (L / 2) + c ^ (L / 2 + 1)) / 2) / 2
def stepN (L s : Nat) (neg : Bool) (a : Nat) : Nat := cond neg ((s + L - a) % L) ((s + a) % L)
/-- the keys as bits of a number -/
def walkB (L s : Nat) (neg : Bool) : Nat → Nat → Nat → Nat
  | 0, _, m => m
  | f + 1, a, m => cond (m.testBit a) m (walkB L s neg f (stepN L s neg a) (m ||| (1 <<< a)))
def orbB (L s : Nat) (neg : Bool) : Nat → Nat → Nat → Nat → Nat
  | 0, _, many, _ => many
  | k + 1, f, many, m => orbB L s neg k (f + 1) (cond (m.testBit f) many (many + 1)) (walkB L s neg L f m)
def reflN (L s : Nat) : Nat := if L % 2 = 1 then (L + 1) / 2 else if s % 2 = 0 then L / 2 + 1 else L / 2
def okO (L : Nat) : Bool := (List.range L).all fun s => orbB L s false L 0 0 0 == Nat.gcd L s && orbB L s true L 0 0 0 == reflN L s
theorem orb1 : (List.range 25).all okO = true := by decide +kernel
theorem orb2 : (List.range 9).all (fun k => okO (25 + k)) = true := by decide +kernel
theorem orb3 : (List.range 6).all (fun k => okO (34 + k)) = true := by decide +kernel
theorem orb4 : (List.range 5).all (fun k => okO (40 + k)) = true := by decide +kernel
theorem orb5 : (List.range 4).all (fun k => okO (45 + k)) = true := by decide +kernel
theorem orb_ok {L s : Nat} (hL : L ≤ 48) (hs : s < L) : orbB L s false L 0 0 0 = Nat.gcd L s ∧ orbB L s true L 0 0 0 = reflN L s := by
  have key : okO L = true := by
    by_cases h1 : L < 25
    · exact List.all_eq_true.mp orb1 L (List.mem_range.mpr h1)
    by_cases h2 : L < 34
    · have := List.all_eq_true.mp orb2 (L - 25) (List.mem_range.mpr (by omega)); rwa [show 25 + (L - 25) = L by omega] at this
    by_cases h3 : L < 40
    · have := List.all_eq_true.mp orb3 (L - 34) (List.mem_range.mpr (by omega)); rwa [show 34 + (L - 34) = L by omega] at this
    by_cases h4 : L < 45
    · have := List.all_eq_true.mp orb4 (L - 40) (List.mem_range.mpr (by omega)); rwa [show 40 + (L - 40) = L by omega] at this
    · have := List.all_eq_true.mp orb5 (L - 45) (List.mem_range.mpr (by omega)); rwa [show 45 + (L - 45) = L by omega] at this
  have := List.all_eq_true.mp key s (List.mem_range.mpr hs)
  rw [Bool.and_eq_true] at this
  exact ⟨beq_iff_eq.mp this.1, beq_iff_eq.mp this.2⟩
def turnsN (c L : Nat) : Nat := ((List.range L).map fun s => c ^ Nat.gcd L s).sum
def backsN (c L : Nat) : Nat := ((List.range L).map fun s => c ^ reflN L s).sum
theorem due_ok : (List.range 13).all (fun s => (List.range 49).all fun L => s == 0 || (L == 0 || (turnsN (ccN s) L / L == rotN (ccN s) L && (turnsN (ccN s) L + backsN (ccN s) L) / (2 * L) == mirN (ccN s) L))) = true := by decide +kernel
theorem cc_ok : (List.range 13).all (fun s => s == 0 || ccN s == chgN s (s / 2 + 1)) = true := by decide +kernel
end Kb

set_option Elab.async false
set_option linter.all false
set_option maxRecDepth 100000
set_option maxHeartbeats 4000000
/-! defs of the program that many laws call: check_stage, change_count -/
namespace Kb
open PySem PySem.Spec PyProof.Rows L2
/-! the tactics: rd walks a reading; tk closes a fact about a heap from those ahead of it -/
local macro_rules | `(tactic| walk_at "tk") => `(tactic| first
  | assumption
  | ((with_reducible refine' sqT_of ?k); (case k => assumption))
  | ((with_reducible refine' sqT_ofD ?k); (case k => assumption))
  | ((with_reducible refine' noD_of ?k); (case k => assumption))
  | ((with_reducible refine' noD_same ?s ?k); (case s => assumption); (case k => walk_at "tk"))
  | ((with_reducible refine' sqL_of ?k); (case k => assumption))
  | ((with_reducible refine' sqT_same ?s ?k); (case s => assumption); (case k => walk_at "tk"))
  | ((with_reducible refine' sqL_same ?s ?k); (case s => assumption); (case k => walk_at "tk"))
  | ((with_reducible refine' sqT_but ?s ?t ?k); (case s => assumption); (case t => walk_at "tk"); (case k => walk_at "tk"))
  | ((with_reducible refine' sqL_but ?s ?t ?k); (case s => assumption); (case t => walk_at "ne"); (case k => walk_at "tk"))
  | ((with_reducible refine' sqL_of ?k); (case k => walk_at "tk"))
  | ((with_reducible refine' sqT_of ?k); (case k => walk_at "tk"))
  | ((with_reducible refine' at_same ?s ?k); (case s => assumption); (case k => walk_at "tk"))
  | ((with_reducible refine' at_but ?s ?t ?k); (case s => assumption); (case t => walk_at "ne"); (case k => walk_at "tk")))
local macro_rules | `(tactic| walk_at "ne") => `(tactic| first
  | assumption
  | (refine Ne.symm ?_; assumption)
  | exact ne_of_none (by assumption) (by assumption)
  | exact (ne_of_none (by assumption) (by assumption)).symm)
local macro_rules | `(tactic| walk_at "side") => `(tactic| first
  | assumption
  | omega
  | (simp only [sizeLine_eq, List.length_cons, List.length_nil, List.length_map]; omega)
  | (show _ ≤ sizeLine; decide))
local macro_rules | `(tactic| walk_at "kit") => `(tactic| first
  | (show kitB _ _ = some true; decide +kernel)
  | (show kitB _ _ = some false; decide +kernel))
local macro_rules | `(tactic| walk_at "rng") => `(tactic| first
  | (refine ⟨by omega, by omega, by omega, by omega⟩)
  | (refine ⟨by omega, by omega⟩)
  | ((simp only [List.length_map]); (refine ⟨by omega, by omega, by omega, by omega⟩))
  | ((simp only [List.length_map]); (refine ⟨by omega, by omega⟩)))
local macro_rules | `(tactic| walk_at "rd1") => `(tactic| first
  | with_reducible refine r_seq ?_
  | ((with_reducible refine' r_var ?k0 ?_); (case k0 => rfl))
  | with_reducible refine r_op ?_
  | with_reducible refine r_c ?_
  | with_reducible refine r_asg ?_
  | with_reducible refine r_name ?_
  | with_reducible refine r_cons ?_
  | with_reducible refine r_nil ?_
  | with_reducible refine r_CB ?_
  | with_reducible refine r_if ?_
  | with_reducible refine r_test ?_
  | with_reducible refine r_k ?_
  | with_reducible refine r_T ?_
  | with_reducible refine r_F ?_
  | with_reducible refine r_nT ?_
  | with_reducible refine r_nF ?_
  | with_reducible refine r_ret ?_
  | with_reducible refine r_drop ?_
  | with_reducible refine r_next ?_
  | with_reducible refine r_call ?_
  | with_reducible refine r_addI ?_
  | with_reducible refine r_subI ?_
  | with_reducible refine r_ltI ?_
  | with_reducible refine r_gtI ?_
  | with_reducible refine r_leI ?_
  | with_reducible refine r_geI ?_
  | with_reducible refine r_eqI ?_
  | with_reducible refine r_neI ?_
  | with_reducible refine r_int ?_
  | with_reducible refine r_abs ?_
  | with_reducible refine r_not ?_
  | with_reducible refine r_and ?_
  | with_reducible refine r_or ?_
  | with_reducible refine r_tru ?_
  | with_reducible refine r_truB ?_
  | with_reducible refine r_lst ?_
  | with_reducible refine r_tup ?_
  | with_reducible refine r_BM ?_
  | with_reducible refine r_BM0 ?_
  | with_reducible refine r_tyS ?_
  | with_reducible refine r_gsub ?_
  | with_reducible refine r_then ?_
  | with_reducible refine r_lstRg ?_
  | with_reducible refine r_tupRg ?_
  | with_reducible refine r_rg2 ?_
  | with_reducible refine r_rg1 ?_
  | with_reducible refine r_ii ?_
  | with_reducible refine r_i ?_
  | with_reducible refine r_ipI ?_
  | with_reducible refine r_un ?_
  | with_reducible refine r_neg ?_
  | with_reducible refine r_isN ?_
  | with_reducible refine r_notN ?_
  | with_reducible refine r_notV ?_
  | with_reducible refine r_pnot ?_
  | with_reducible refine r_pif ?_
  | with_reducible refine r_andV ?_
  | with_reducible refine r_orV ?_
  | with_reducible refine r_ifE ?_
  | with_reducible refine r_chain ?_
  | with_reducible refine r_sl ?_
  | with_reducible refine r_noPart ?_
  | with_reducible refine r_part ?_
  | with_reducible refine r_brk ?_
  | with_reducible refine r_cont ?_
  | with_reducible refine r_retN ?_
  | with_reducible refine r_truI ?_
  | with_reducible refine r_B ?_
  | with_reducible refine r_for ?_
  | with_reducible refine r_rng1 ?_
  | with_reducible refine r_rng2 ?_
  | with_reducible refine r_rng3 ?_
  | with_reducible refine r_body ?_
  | with_reducible refine r_lc ?_
  | with_reducible refine r_yes ?_
  | ((with_reducible refine' r_mod ?k0 ?_); (case k0 => walk_at "side"))
  | ((with_reducible refine' r_mulI ?k0 ?_); (case k0 => first | exact Or.inl ⟨by omega, by omega⟩ | exact Or.inr ⟨by omega, by omega⟩))
  | ((with_reducible refine' r_lenL ?k0 ?_); (case k0 => walk_at "tk"))
  | ((with_reducible refine' r_lenT ?k0 ?_); (case k0 => walk_at "tk"))
  | ((with_reducible refine' r_truL ?k0 ?_); (case k0 => walk_at "tk"))
  | ((with_reducible refine' r_truT ?k0 ?_); (case k0 => walk_at "tk"))
  | ((with_reducible refine' r_ixL ?k0 ?k1 ?_); (case k0 => walk_at "tk"); (case k1 => first | assumption | rfl))
  | ((with_reducible refine' r_ixT ?k0 ?k1 ?_); (case k0 => walk_at "tk"); (case k1 => first | assumption | rfl))
  | ((with_reducible refine' r_new ?k0 ?_); (case k0 => walk_at "side"))
  | ((with_reducible refine' r_tyL ?k0 ?_); (case k0 => walk_at "tk"))
  | ((with_reducible refine' r_append ?k0 ?k1 ?_); (case k0 => walk_at "tk"); (case k1 => walk_at "side"))
  | ((with_reducible refine' r_setL ?k0 ?k1 ?_); (case k0 => walk_at "tk"); (case k1 => first | assumption | rfl))
  | ((with_reducible refine' r_kTupL ?k0 ?_); (case k0 => walk_at "tk"))
  | ((with_reducible refine' r_kTupT ?k0 ?_); (case k0 => walk_at "tk"))
  | ((with_reducible refine' r_listL ?k0 ?_); (case k0 => walk_at "tk"))
  | ((with_reducible refine' r_listT ?k0 ?_); (case k0 => walk_at "tk"))
  | ((with_reducible refine' r_aug ?k0 ?_); (case k0 => rfl))
  | ((with_reducible refine' r_lenS ?k0 ?_); (case k0 => walk_at "side"))
  | ((with_reducible refine' r_pop ?k0 ?_); (case k0 => walk_at "tk"))
  | ((with_reducible refine' r_pr1 ?k0 ?_); (case k0 => walk_at "rng"))
  | ((with_reducible refine' r_pr2 ?k0 ?_); (case k0 => walk_at "rng"))
  | ((with_reducible refine' r_pr3d ?k0 ?_); (case k0 => walk_at "rng"))
  | ((with_reducible refine' r_isiI ?k0 ?_); (case k0 => walk_at "kit"))
  | ((with_reducible refine' r_isiB ?k0 ?_); (case k0 => walk_at "kit"))
  | ((with_reducible refine' r_isiS ?k0 ?_); (case k0 => walk_at "kit"))
  | ((with_reducible refine' r_isiN ?k0 ?_); (case k0 => walk_at "kit"))
  | ((with_reducible refine' r_isiT ?k0 ?k1 ?_); (case k0 => walk_at "tk"); (case k1 => walk_at "kit"))
  | ((with_reducible refine r_seqT ?_); (repeat (walk_at "rd1")); ((with_reducible refine' r_pseqT ?k0 ?_); (case k0 => walk_at "tk")))
  | ((with_reducible refine r_seqL ?_); (repeat (walk_at "rd1")); ((with_reducible refine' r_pseqL ?k0 ?_); (case k0 => walk_at "tk")))
  | ((with_reducible refine r_seqS ?_); (repeat (walk_at "rd1")); (with_reducible refine r_pseqS ?_)))
local macro_rules | `(tactic| walk_at "rd") => `(tactic| ((repeat (walk_at "rd1")); (try dsimp only)))

local macro_rules | `(tactic| walk_at "rd1") => `(tactic| first
  | with_reducible refine r_BMT ?_
  | with_reducible refine r_par ?_
  | with_reducible refine r_parV ?_
  | ((with_reducible refine' r_ptp ?k0 ?k1 ?_); (case k0 => walk_at "tk"); (case k1 => walk_at "tk"))
  | with_reducible refine r_eqS ?_
  | with_reducible refine r_neS ?_
  | with_reducible refine r_callW ?_
  | with_reducible refine r_try ?_
  | with_reducible refine r_enT ?_
  | ((with_reducible refine' r_pen ?k0 ?_); (case k0 => walk_at "tk")))

theorem r_gTup2 {K : PySem.W.Frag} {a : Addr} {x y : V} {i j : Nat} {σ : L2.St} {H : Hp} {Q : L2.St → Hp → Prop} (h : SqT K H a [x, y]) (q : Q ((σ.set i (some x)).set j (some y)) H) : gTup K 2 (gCons (gName i) (gCons (gName j) gNil)) (.ref a) σ H Q :=
  ⟨a, [x, y], rfl, h, rfl, _, _, rfl, _, _, rfl, rfl, q⟩
def sp_check_stage (K : PySem.W.Frag) (ec : Str → Addr) : Sp := fun vs H Q E => ∃ (s : Int), vs = [.int s] ∧ (1 ≤ s ∧ s ≤ 12 → Q .non H) ∧
  (¬ (1 ≤ s ∧ s ≤ 12) → ∀ d H', Same H H' → H d = none → H' d = some (.xd [("word", .str "BadStage")]) → E (.ref (ec "BadStage")) (some d) H')
def sp_change_count (K : PySem.W.Frag) (ec : Str → Addr) : Sp := fun vs H Q E => ∃ (s : Int), vs = [.int s] ∧ (1 ≤ s ∧ s ≤ 12 → ∀ H', Same H H' → Q (.int (ccN s.toNat : Nat)) H') ∧
  (¬ (1 ≤ s ∧ s ≤ 12) → ∀ d H', Same H H' → H d = none → H' d = some (.xd [("word", .str "BadStage")]) → E (.ref (ec "BadStage")) (some d) H')
abbrev N_check_stage : List Str := ["stage"]
def t_check_stage (K : PySem.W.Frag) (ec : Str → Addr) (E : XK) : TS :=
  (tIfS ((tNot ((tTest (tChain (rLeU K) (rLeU K) ((tC (.int 1))) (tVar 0) ((tCB (rLenU K) (tCons ((tC (.str "1234567890ET"))) tNil)))))))) ((sRaise (fun cls d _ H => E cls d H) (tBad (ec "BadStage") "BadStage"))) (tNext))

abbrev N_change_count : List Str := ["stage", "before", "count", "_"]
def t_change_count (K : PySem.W.Frag) (ec : Str → Addr) (E : XK) : TS :=
  tSeq (tDrop ((tCallW (sp_check_stage K ec) (fun cls d _ H => E cls d H) (tCons (tVar 0) tNil))))
  (tSeq (tAsg ((tC (.int 1))) (gName 1))
  (tSeq (tAsg ((tC (.int 1))) (gName 2))
  (tSeq (tFor (iRng1 (tCons ((tOp rSubU (tVar 0) ((tC (.int 1))))) tNil)) (gName 3) ((tPar 1 2 (tCons (tVar 2) (tCons ((tOp (rAddU K) (tVar 1) (tVar 2))) tNil)))))
  ((tRet (tVar 2))))))


section
variable {K : PySem.W.Frag} {ec : Str → Addr} {ns : List Str} {vs : List V} {H : Hp} {Q : VK} {E : XK}
theorem len_check_stage (h : sp_check_stage K ec vs H Q E) : vs.length = 1 := by obtain ⟨s, rfl, _⟩ := h; rfl
theorem len_change_count (h : sp_change_count K ec vs H Q E) : vs.length = 1 := by obtain ⟨s, rfl, _⟩ := h; rfl
theorem signs_len : (("1234567890ET" : Str).length : Int) = 12 := by decide
theorem pure_check_stage (XS : Exs K ec ns) (h : sp_check_stage K ec vs H Q E) : t_check_stage K ec E (En Q) (start N_check_stage vs) H := by
  obtain ⟨s, rfl, q, qE⟩ := h
  unfold t_check_stage
  walk_at "rd"
  refine r_ite (fun h1 => ?_) (fun h1 => ?_)
  · walk_at "rd"
    rw [signs_len]
    refine r_iteN (fun h2 => ?_) (fun h2 => ?_)
    · exact r_raise fun d H' s nd e => qE (fun z => h2 z.2) d H' s nd e
    · walk_at "rd"
      exact q ⟨h1, h2⟩
  · walk_at "rd"
    exact r_raise fun d H' s nd e => qE (fun z => h1 z.1) d H' s nd e
theorem pure_change_count (XS : Exs K ec ns) (h : sp_change_count K ec vs H Q E) : t_change_count K ec E (En Q) (start N_change_count vs) H := by
  obtain ⟨s, rfl, q, qE⟩ := h
  unfold t_change_count
  walk_at "rd"
  refine ⟨s, rfl, fun hs => ?_, fun hns d H' s' nd e => qE hns d H' s' nd e⟩
  walk_at "rd"
  refine r_forRange0 (fun i σ' H' => ∃ (z3 : Option V), σ' = [some (.int s), some (.int ((ccP i).1 : Nat)), some (.int ((ccP i).2 : Nat)), z3] ∧ Same H H')
    ⟨none, rfl, Same.refl _⟩ (fun i σ' H' hi hW => ?_) (fun σ' H' hW => ?_)
  · obtain ⟨z3, rfl, s1⟩ := hW
    walk_at "rd"
    exact ⟨_, rfl, s1⟩
  · obtain ⟨z3, rfl, s1⟩ := hW
    walk_at "rd"
    rw [show (s - 1).toNat = s.toNat - 1 by omega]
    exact q hs _ s1
end
end Kb

set_option Elab.async false
set_option linter.all false
set_option maxRecDepth 100000
set_option maxHeartbeats 4000000
/-! dicts whose keys are whole numbers, as sets -/
namespace Kb
open PySem PySem.Spec PyProof.Rows L2
/-- a dict with the bits of m as its keys -/
def DB (H : Hp) (p : Addr) (m n : Nat) : Prop := ∃ kvs : List (Key × V), H p = some (.dK kvs) ∧ kvs.length ≤ n ∧ ∀ a : Nat, (valV kvs (.inl (a : Int))).isSome = m.testBit a
def PDIn (x y : V) (H : Hp) (Q : VK) : Prop := ∃ a o, x = .ref a ∧ DGet H a y o ∧ Q (.bl o.isSome) H
def PDNo (x y : V) (H : Hp) (Q : VK) : Prop := ∃ a o, x = .ref a ∧ DGet H a y o ∧ Q (.bl (!o.isSome)) H
def PDPut (x y v : V) (H : Hp) (N : Hp → Prop) : Prop := ∃ a H4, x = .ref a ∧ DPut H a y v H4 ∧ N H4
def PDGet (x y : V) (H : Hp) (Q : VK) : Prop := ∃ a v, x = .ref a ∧ DGet H a y (some v) ∧ Q v H
section
variable {K : PySem.W.Frag} {D : Ends} {σ : L2.St} {H : Hp} {td ty tv : TE} {Q : VK} {N : Hp → Prop} {v x y : V} {p : Addr} {m n a : Nat}
theorem r_dNewK (k : ∀ p H', H p = none → Same H H' → H' p = some (.dK []) → Q (.ref p) H') : tDNewK σ H Q := fun p hp => k p _ hp (same_new hp) upd_same
theorem r_dIn (h : ty σ H fun y H1 => td σ H1 fun x H2 => PDIn x y H2 Q) : tDIn ty td σ H Q := h
theorem r_dNo (h : ty σ H fun y H1 => td σ H1 fun x H2 => PDNo x y H2 Q) : tDNotIn ty td σ H Q := h
theorem r_dPut (h : tv σ H fun v H1 => td σ H1 fun x H2 => ty σ H2 fun y H3 => PDPut x y v H3 fun H4 => D.nx σ H4) : sDPut td ty tv D σ H := h
theorem r_dGet (h : td σ H fun x H1 => ty σ H1 fun y H2 => PDGet x y H2 Q) : tDGet td ty σ H Q := h
theorem db_new (e : H p = some (.dK [])) : DB H p 0 0 := ⟨[], e, Nat.le_refl _, fun a => by rw [Nat.zero_testBit]; rfl⟩
theorem r_dbIn (h : DB H p m n) (q : Q (.bl (m.testBit a)) H) : PDIn (.ref p) (.int (a : Int)) H Q := by
  obtain ⟨kvs, e, _, hb⟩ := h
  refine ⟨p, valV kvs (.inl (a : Int)), rfl, .inl ⟨kvs, .inl (a : Int), .inl e, rfl, rfl⟩, ?_⟩
  rw [hb a]
  exact q
theorem r_dbNo (h : DB H p m n) (q : Q (.bl (!m.testBit a)) H) : PDNo (.ref p) (.int (a : Int)) H Q := by
  obtain ⟨kvs, e, _, hb⟩ := h
  refine ⟨p, valV kvs (.inl (a : Int)), rfl, .inl ⟨kvs, .inl (a : Int), .inl e, rfl, rfl⟩, ?_⟩
  rw [hb a]
  exact q
theorem r_dbPut (h : DB H p m n) (hn : n < sizeLine) (k : ∀ H', But p H H' → DB H' p (m ||| (1 <<< a)) (n + 1) → N H') : PDPut (.ref p) (.int (a : Int)) v H N := by
  obtain ⟨kvs, e, hl, hb⟩ := h
  refine ⟨p, _, rfl, DPut.k (k := .inl (a : Int)) e (by omega), k _ but_upd ⟨_, upd_same, ?_, fun b => ?_⟩⟩
  · have := length_putK kvs (.inl (a : Int)) v
    omega
  · rw [valV_put]
    rw [Nat.testBit_or, Nat.one_shiftLeft, Nat.testBit_two_pow]
    by_cases hab : a = b
    · subst hab
      rw [if_pos rfl]
      simp
    · rw [if_neg (fun z => hab (by have := Sum.inl.inj z; omega)), hb b]
      simp [hab]
end
end Kb

set_option Elab.async false
set_option linter.all false
set_option maxRecDepth 100000
set_option maxHeartbeats 4000000
/-! lists of whole numbers: l < m, l[::-1], slices and sums of lists -/
namespace Kb
open PySem PySem.Spec PyProof.Rows L2 PySem.SeqAt
theorem first_lex : ∀ ns ms : List Int, firstLt (fun j => ns.getD j 0 == ms.getD j 0) (fun j => decide (ns.getD j 0 < ms.getD j 0)) (decide (ns.length < ms.length)) (List.range (min ns.length ms.length)) = HT.lexLt ns ms
  | [], [] => rfl
  | [], y :: ys => by
    rw [HT.lexLt_nil_cons]
    show firstLt _ _ _ (List.range (min 0 _)) = true
    rw [Nat.zero_min]
    exact decide_eq_true (by simp)
  | x :: xs, [] => by
    rw [HT.lexLt_cons_nil]
    show firstLt _ _ _ (List.range (min _ 0)) = false
    rw [Nat.min_zero]
    exact decide_eq_false (by simp)
  | x :: xs, y :: ys => by
    have ih := first_lex xs ys
    rw [HT.lexLt_cons, List.length_cons, List.length_cons, Nat.succ_min_succ, List.range_succ_eq_map]
    by_cases h : x = y
    · rw [if_pos h, firstLt_yes (by simpa using h), PySem.W.firstLt_map, ← ih]
      have e1 : decide (xs.length + 1 < ys.length + 1) = decide (xs.length < ys.length) := by simp
      rw [e1]
      rfl
    · rw [if_neg h, firstLt_no (by simpa using h)]
      rfl
theorem ints_at {us : List Value} {ns : List Int} (h : IntsAre us ns) : us.length = ns.length ∧ ∀ j (hj : j < us.length), ∃ t, us[j] = .int (ns.getD j 0) t := by
  induction h with
  | nil => exact ⟨rfl, fun j hj => by cases hj⟩
  | cons n t _ ih =>
    refine ⟨by rw [List.length_cons, List.length_cons, ih.1], fun j hj => ?_⟩
    cases j with
    | zero => exact ⟨t, rfl⟩
    | succ j => exact ih.2 j (by rw [List.length_cons] at hj; omega)
theorem lt_lstInts {prog : Program} {w : World} {A : Around} {s : Shared} {E : Value → Shared → Prop} {l b : Addr} {its its2 : List Value} {ns ms : List Int} {Q : Value → Shared → Prop} (hl : s.heap.IsList l its.toArray) (hb : s.heap.IsList b its2.toArray) (hi : IntsAre its ns) (hj : IntsAre its2 ms)
    (hu : A.units < cLine) (h : Q (.bool (HT.lexLt ns ms)) s) : wpAny (model prog w) A (compareOp .Lt (.ref l) (.ref b)) Q E s := by
  obtain ⟨e1, g1⟩ := ints_at hi
  obtain ⟨e2, g2⟩ := ints_at hj
  refine RcLt.lists (e := fun j => ns.getD j 0 == ms.getD j 0) (r := fun j => decide (ns.getD j 0 < ms.getD j 0)) hl hb hu (fun j h1 h2 => ?_) (fun j h1 h2 _ => ?_) prog w E Q ?_
  · rw [List.size_toArray] at h1 h2
    obtain ⟨t, ht⟩ := g1 j h1
    obtain ⟨u, hu'⟩ := g2 j h2
    rw [List.getElem_toArray, List.getElem_toArray, ht, hu']
    exact EqAt.int_int _ _ _ _
  · rw [List.size_toArray] at h1 h2
    obtain ⟨t, ht⟩ := g1 j h1
    obtain ⟨u, hu'⟩ := g2 j h2
    rw [List.getElem_toArray, List.getElem_toArray, ht, hu']
    exact fun prog w E Q h => HT.rcLt_int _ _ _ _ _ _ prog w E Q h
  · rw [List.size_toArray, List.size_toArray, e1, e2, first_lex]
    exact h
def rLtL (K : PySem.W.Frag) : R2 := fun x y H Q => ∃ a b ns ms, x = .ref a ∧ y = .ref b ∧ SqL K H a (ns.map V.int) ∧ SqL K H b (ms.map V.int) ∧ Q (.bl (HT.lexLt ns ms)) H
theorem op_ltL {X : Cx} (hu : X.A.units + 64 < cLine) : OpR X (compareOp .Lt) (rLtL X.K) := by
  intro pins s σ H x y v u Q I rx ry h
  obtain ⟨a, b, ns, ms, rfl, rfl, ha, hb, q⟩ := h
  cases rx
  cases ry
  obtain ⟨its, r1, p1, _⟩ := I.list ha
  obtain ⟨its2, r2, p2, _⟩ := I.list hb
  exact lt_lstInts p1.isList p2.isList (intsAre_of r1) (intsAre_of r2) (by omega) ⟨.bl (HT.lexLt ns ms), H, I, rfl, q⟩
section
variable {K : PySem.W.Frag} {σ : L2.St} {H : Hp} {te : TE} {Q : VK} {a b : Addr}
theorem r_ltL {ns ms : List Int} (ha : SqL K H a (ns.map V.int)) (hb : SqL K H b (ms.map V.int)) (q : Q (.bl (HT.lexLt ns ms)) H) : rLtL K (.ref a) (.ref b) H Q := ⟨a, b, ns, ms, rfl, rfl, ha, hb, q⟩
def PRevL (K : PySem.W.Frag) (x : V) (H : Hp) (Q : VK) : Prop := ∃ a xs, x = .ref a ∧ SqL K H a xs ∧ ∀ p, H p = none → Q (.ref p) (upd H p (.lst xs.reverse))
theorem r_revL (h : te σ H fun x H1 => PRevL K x H1 Q) : tRevL K te σ H Q := h
theorem r_prevL {xs : List V} (h : SqL K H a xs) (k : ∀ p H', H p = none → Same H H' → H' p = some (.lst xs.reverse) → Q (.ref p) H') : PRevL K (.ref a) H Q := ⟨a, xs, rfl, h, fun p hp => k p _ hp (same_new hp) upd_same⟩
theorem r_slLL {xs : List V} {lo hi : Option Int} (h : SqL K H a xs) (k : ∀ p H', H p = none → Same H H' → H' p = some (.lst (cutV xs lo hi)) → Q (.ref p) H') : rSlU K (.ref a) lo hi H Q := .inl ⟨a, xs, rfl, h, fun p hp => k p _ hp (same_new hp) upd_same⟩
theorem r_catL {xs ys : List V} (h1 : H a = some (.lst xs)) (h2 : H b = some (.lst ys)) (hz : xs.length + ys.length ≤ sizeLine) (k : ∀ p H', H p = none → Same H H' → H' p = some (.lst (xs ++ ys)) → Q (.ref p) H') : rAddU K (.ref a) (.ref b) H Q :=
  .inr (.inr (.inl ⟨a, b, xs, ys, rfl, rfl, h1, h2, hz, fun p hp => k p _ hp (same_new hp) upd_same⟩))
theorem cut_from {xs : List V} {k : Nat} (h : k ≤ xs.length) : cutV xs (some (k : Int)) none = xs.drop k := by
  have e : HT.sIx xs.length 0 (some (k : Int)) = k := by rw [HT.sIx_nat]; omega
  have e2 : HT.sIx xs.length xs.length none = xs.length := rfl
  unfold cutV
  rw [e, e2]
  exact List.take_of_length_le (by rw [List.length_drop]; omega)
theorem cut_to {xs : List V} {k : Nat} (h : k ≤ xs.length) : cutV xs none (some (k : Int)) = xs.take k := by
  have e : HT.sIx xs.length 0 none = 0 := rfl
  have e2 : HT.sIx xs.length xs.length (some (k : Int)) = k := by rw [HT.sIx_nat]; omega
  unfold cutV
  rw [e, e2]
  rfl
end
end Kb

set_option Elab.async false
set_option linter.all false
set_option maxRecDepth 100000
set_option maxHeartbeats 4000000
/-! max(t, default=c) of a tuple of ints; a dict that is walked; isinstance of a dict -/
namespace Kb
open PySem PySem.Spec PyProof.Rows L2
section
variable {prog : Program} {w : World} {A : Around} {R : Result → Shared → Prop} {J : Addr} {fp wr : List Addr} {n : Nat} {P : Nat → Value → Prop} {St : Nat → Heap → Prop} {dv : Value}
theorem maxD_loop (W : Walks prog w A.in1 J fp wr n P St) (bt : Nat → Nat → Bool) (cm : CmpOf prog w A.in1 .Gt P bt) (B : Addr) (fb : B ∉ fp) :
    ∀ (k j : Nat) (s : Shared) (xs : Array Value) (c : Nat), n = j + k → St j s.heap → (match j with | 0 => xs = #[] | i + 1 => ∃ b, xs = #[b, b] ∧ P (argBest bt i) b) →
    s.heap.get? B = some { cls := .type "list", dict := none, data := .seq xs c, slots := #[] } →
    (∀ v h' tk, (match n with | 0 => v = dv | m + 1 => P (argBest bt m) v) → (∀ b o, b ∉ wr → b ≠ B → s.heap.get? b = some o → h'.get? b = some o) → R (.ok (.ret v)) { s with heap := h', toks := tk }) →
    codeAny (model prog w) A (.builtin "max.loop" ⟨[.ref J, .none, .ref B], [("default", dv)]⟩) R s := by
  have fw : B ∉ wr := fun z => fb (W.sub _ z)
  have nm : (toString "max" ++ toString ".loop" : String) = "max.loop" := by decide
  intro k
  induction k with
  | zero =>
    intro j s xs c hn st hx hB q
    obtain rfl : n = j := hn
    refine codeAny_builtin F.entry_max_loop ?_
    rw [Around.under_plainId F.plain_max_loop _]
    show wpAny _ A.in1 (seqItems? (.ref B) >>= _) _ _ s
    refine wpAny_bind (wpAny_seqItems hB rfl ?_)
    cases n with
    | zero =>
      subst hx
      show wpAny _ A.in1 (tryCatch (pyNext (.ref J)) _ >>= _) _ _ s
      refine wpAny_bind (wpAny_tryCatch (W.done s _ _ st fun h' tk hk => ?_))
      show wpAny (model prog w) A.in1 (rule _ >>= fun _ => ret dv) _ _ _
      exact wpAny_bind (wpAny_rule (wpAny_pure (q dv h' tk rfl fun b o h1 _ e => hk b o h1 e)))
    | succ i =>
      obtain ⟨b, rfl, pb⟩ := hx
      show wpAny _ A.in1 (tryCatch (pyNext (.ref J)) _ >>= _) _ _ s
      refine wpAny_bind (wpAny_tryCatch (W.done s _ _ st fun h' tk hk => ?_))
      show wpAny _ A.in1 (updateSeq B (fun _ => #[]) >>= _) _ _ _
      refine wpAny_bind (wpAny_updateSeq (hk B _ fw hB) rfl (wpAny_bind (wpAny_letGo (wpAny_pure ?_))))
      exact q b _ tk pb fun a o h1 h2 e => (Heap.get?_update_other _ _ (Ne.symm h2)).trans (hk a o h1 e)
  | succ k ih =>
    intro j s xs c hn st hx hB q
    have lt : j < n := by omega
    refine codeAny_builtin F.entry_max_loop ?_
    rw [Around.under_plainId F.plain_max_loop _]
    show wpAny _ A.in1 (seqItems? (.ref B) >>= _) _ _ s
    refine wpAny_bind (wpAny_seqItems hB rfl ?_)
    cases j with
    | zero =>
      subst hx
      show wpAny _ A.in1 (tryCatch (pyNext (.ref J)) _ >>= _) _ _ s
      refine wpAny_bind (wpAny_tryCatch (W.item 0 s _ _ lt st fun v h' tk pv st' hk => ?_))
      have hB' := hk B _ fw hB
      show wpAny _ A.in1 (updateSeq B (fun _ => #[v, v]) >>= _) _ _ _
      refine wpAny_bind (wpAny_updateSeq hB' rfl ?_)
      rw [nm]
      refine wpAny_pure ⟨plainId_quiet F.plain_max_loop _, ih 1 _ #[v, v] _ (by omega) (W.frame _ _ _ st' fun b hb o e => ?_) ⟨v, rfl, pv⟩ (Heap.get?_update_self _ hB' rfl) fun u h2 tk2 pu hk2 => ?_⟩
      · exact (Heap.get?_update_other _ _ (fun z : B = b => fb (by rw [z]; exact hb))).trans e
      · exact q u h2 tk2 pu fun a o h1 h3 e => hk2 a o h1 h3 ((Heap.get?_update_other _ _ (Ne.symm h3)).trans (hk a o h1 e))
    | succ i =>
      obtain ⟨b, rfl, pb⟩ := hx
      show wpAny _ A.in1 (tryCatch (pyNext (.ref J)) _ >>= _) _ _ s
      refine wpAny_bind (wpAny_tryCatch (W.item (i + 1) s _ _ lt st fun v h' tk pv st' hk => ?_))
      have hB' := hk B _ fw hB
      show wpAny _ A.in1 (tryCatch (holding [v, v] (richCompare .Gt v b >>= _)) _ >>= _) _ _ _
      refine wpAny_bind (wpAny_tryCatch (wpAny_holding (wpAny_bind (cm (i + 1) (argBest bt i) v b _ _ _ pv pb ?_))))
      refine wpAny_bind (wpAny_holding (wpAny_truthy_bool ?_))
      refine wpAny_bind (wpAny_letGo (wpAny_pure ?_))
      cases hb : bt (i + 1) (argBest bt i) with
      | true =>
        simp only [if_true]
        refine wpAny_bind (wpAny_updateSeq hB' rfl (wpAny_bind (wpAny_letGo ?_)))
        rw [nm]
        refine wpAny_pure ⟨plainId_quiet F.plain_max_loop _, ih (i + 1 + 1) _ #[v, v] _ (by omega) (W.frame _ _ _ st' fun b hb o e => ?_) ⟨v, rfl, by simp only [argBest, hb, if_true]; exact pv⟩ (Heap.get?_update_self _ hB' rfl) fun u h2 tk2 pu hk2 => ?_⟩
        · exact (Heap.get?_update_other _ _ (fun z : B = b => fb (by rw [z]; exact hb))).trans e
        · exact q u h2 tk2 pu fun a o h1 h3 e => hk2 a o h1 h3 ((Heap.get?_update_other _ _ (Ne.symm h3)).trans (hk a o h1 e))
      | false =>
        simp only [Bool.false_eq_true, if_false]
        refine wpAny_bind (wpAny_letGo ?_)
        rw [nm]
        refine wpAny_pure ⟨plainId_quiet F.plain_max_loop _, ih (i + 1 + 1) _ #[b, b] _ (by omega) st' ⟨b, rfl, by simp only [argBest, hb, Bool.false_eq_true, if_false]; exact pb⟩ hB' fun u h2 tk2 pu hk2 => ?_⟩
        exact q u h2 tk2 pu fun a o h1 h3 e => hk2 a o h1 h3 (hk a o h1 e)
theorem call_fn_kw {id : String} {b : Builtin} {args : List Value} {kw : List (Str × Value)} {E : Value → Shared → Prop} {s : Shared} {Q : Value → Shared → Prop} (hk : builtinKind id = none) (hp : plainId id = true) (hb : entryFor table id = some b) (ha : argsOk id ⟨args, kw⟩)
    (hc : wpAny (model prog w) A.in1 (b ⟨args, kw⟩) (fun fin s' => match fin with
      | .done f => (match (Except.ok f : Result) with | .ok (.ret v) => Q v s' | .ok _ => False | .error e => E e s')
      | .again c' => c'.quiet = true ∧ codeAny (model prog w) A c' (fun r s' => match r with | .ok (.ret v) => Q v s' | .ok _ => False | .error e => E e s') s') E s) :
    wpAny (model prog w) A (call (.builtin id) args kw) Q E s := by
  refine wpAny_call (codeAny_call_builtin hp hb ?_)
  simp only [checkBuiltinCall, hk]
  cases hs : Manifest.signature? id with
  | none => exact wpAny_pure hc
  | some sig =>
    have h2 : Bind.checkArgs id sig ⟨args, kw⟩ = pure () := by simpa only [argsOk, hs] using ha
    simp only [h2]
    exact wpAny_pure hc
theorem args_maxD (a b : Value) : argsOk "max" ⟨[a], [("default", b)]⟩ := by unfold argsOk; kernel_rfl
theorem max_default {E : Value → Shared → Prop} {s : Shared} {Q : Value → Shared → Prop} {t : Addr} {its : Array (Int × Tok)} (hh : A.handled = none) (ht : s.heap.IsTuple t (intItems its))
    (q : ∀ v h' tk, (match its.size with | 0 => v = dv | m + 1 => (intItems its)[argBest (fun i j => decide (numAt its i > numAt its j)) m]? = some v) → (∀ b o, s.heap.get? b = some o → h'.get? b = some o) → Q v { s with heap := h', toks := tk }) :
    wpAny (model prog w) A (call (.builtin "max") [.ref t] [("default", dv)]) Q E s := by
  refine call_fn_kw F.kind_max F.plain_max F.entry_max (args_maxD _ _) ?_
  have nm : (toString "max" ++ toString ".loop" : String) = "max.loop" := by decide
  show wpAny _ A.in1 (Builtin.Builtins.bindParams "max" ["key", "default"] 0 ⟨[], [("default", dv)]⟩ >>= _) _ _ s
  refine wpAny_bind (wpAny_of_eq (show Builtin.Builtins.bindParams "max" ["key", "default"] 0 ⟨[], [("default", dv)]⟩ = pure [none, some dv] from rfl) ?_)
  refine wpAny_bind (wpAny_pure ?_)
  have hlt : t < s.heap.objs.size := by obtain ⟨_, e, _⟩ := ht; exact Heap.lt_size e
  have hne : t ≠ s.heap.objs.size := Nat.ne_of_lt hlt
  refine wpAny_bind (wpAny_pyIter_tuple ht ?_)
  refine wpAny_bind (wpAny_newObj_type ?_)
  rw [nm]
  have hz : (s.heap.push { cls := .type "tuple_iterator", data := .fields #[.ref t, .int 0 0] }).objs.size = s.heap.objs.size + 1 := Heap.size_push ..
  refine wpAny_pure ⟨plainId_quiet F.plain_max_loop _, maxD_loop (Walks.tuple (A := A.in1) hh s.heap.objs.size t hne (intItems its)) (fun i j => decide (numAt its i > numAt its j)) (CmpOf.ints_gt (numAt its) (fun _ _ => intItems_at)) _ ?_ (intItems its).size 0 _ #[] _ (by omega) ⟨⟨_, Heap.get?_push_of_some _ (Heap.get?_push_size _ rfl), rfl, rfl⟩, (ht.push _).push _⟩ rfl (Heap.get?_push_size _ rfl) fun v h' tk hP hk => ?_⟩
  · intro hm
    rcases List.mem_cons.mp hm with z | hm
    · exact absurd (hz.symm.trans z) (Nat.succ_ne_self _)
    · rcases List.mem_cons.mp hm with z | hm
      · have e1 : s.heap.objs.size + 1 = t := hz.symm.trans z
        exact absurd e1.symm (Nat.ne_of_lt (Nat.lt_succ_of_lt hlt))
      · cases hm
  · have es : (intItems its).size = its.size := by simp [intItems]
    rw [es] at hP
    refine q v h' tk hP fun b o e => ?_
    have hb : b < s.heap.objs.size := Heap.lt_size e
    have n1 : b ≠ s.heap.objs.size := Nat.ne_of_lt hb
    have n2 : b ≠ s.heap.objs.size + 1 := Nat.ne_of_lt (Nat.lt_succ_of_lt hb)
    exact hk b o (fun hm => by
      rcases List.mem_cons.mp hm with z | hm
      · exact n1 z
      · cases hm) (fun z => n2 (z.trans hz)) (Heap.get?_push_of_some _ (Heap.get?_push_of_some _ e))
end

def rMaxDf (K : PySem.W.Frag) (c : Int) : List V → Hp → VK → Prop := fun vs H Q => ∃ (a : Addr) (ns : List Int), vs = [V.ref a] ∧ SqT K H a (ns.map V.int) ∧ ∀ m, (ns = [] → m = c) → (ns ≠ [] → m ∈ ns ∧ ∀ y ∈ ns, y ≤ m) → Q (.int m) H
theorem pe_maxD {X : Cx} {e : Expr} {ta : TA} {p pos kp cp : Pos} {j : Nat} {k : Int} (hcalm : X.calm = true) (hg : Gl X "max") (hm : X.mg "max" = none) (ha : PA X [e] ta) (hs : starEach [e] X.env = [(false, eval e X.env)] := by rfl)
    (hc : eval (.Call (.Name "max" p) [e] [⟨some "default", .Constant (.int k) j cp, kp⟩] pos) X.env = (do
      callWith pos (← eval (.Name "max" p) X.env) [] (backTo pos (starEach [e] X.env)) (backToKw pos (keywordEach [⟨some "default", .Constant (.int k) j cp, kp⟩] X.env))) := by rfl) :
    PE X (.Call (.Name "max" p) [e] [⟨some "default", .Constant (.int k) j cp, kp⟩] pos) (tCB (rMaxDf X.K k) ta) := by
  refine ⟨fun pins s σ H Q I h => ?_⟩
  rw [hc]
  refine wpAny_bind (ld_blt (u := .builtin "max") I hg hm (by decide +kernel) (PyProof.Rows.callWith_kw (thn (ha.run pos pins s σ H _ I h) fun us s1 ⟨vs, H1, I1, r1, q1⟩ => ?_) (by rw [hs] <;> rfl) (by rw [hs] <;> rfl)))
  refine thn ((pk_cons (nm := some "default") (kpos := kp) (pe_int (j := j) (pos := cp)) pk_nil).run pos pins s1 σ H1 (fun ws H2 => ws = [.int k] ∧ H2 = H1) I1 ⟨rfl, rfl⟩) fun ks s2 ⟨ws, H2, I2, r2, ew, eH⟩ => ?_
  subst ew
  subst eH
  obtain ⟨a, ns, ex, hq, q⟩ := q1
  subst ex
  rw [Vals.ref1 r1]
  cases r2 with
  | cons r3 rr =>
    cases rr
    obtain ⟨t3, rfl⟩ := r3
    obtain ⟨its, rv, ht, hz⟩ := I2.tuple hq
    have hi := rv.ints
    obtain ⟨xs, e1⟩ := hi.allInts.items
    have hn : numsOf (intItems xs).toList = ns := by rw [← e1]; exact hi.numsOf
    rw [nums_intItems] at hn
    rw [e1] at ht
    refine max_default (its := xs) (I2.ok.hd hcalm) ht fun v h' tk hv hk => ?_
    cases hx : xs.size with
    | zero =>
      rw [hx] at hv
      have e2 : ns = [] := by
        have e3 : ns.length = xs.size := by rw [← hn, List.length_map, Array.length_toList]
        exact List.length_eq_zero_iff.mp (by omega)
      dsimp only at hv
      subst hv
      exact ⟨.int k, _, I2.kept hk, ⟨_, rfl⟩, q k (fun _ => rfl) (fun z => absurd e2 z)⟩
    | succ m =>
      rw [hx] at hv
      dsimp only at hv
      obtain ⟨t, rfl⟩ := intItems_at hv
      obtain ⟨h1, h2⟩ := argBest_gt (numAt xs) m
      have len : ns.length = m + 1 := by rw [← hn, List.length_map, Array.length_toList, hx]
      refine ⟨.int _, _, I2.kept hk, ⟨_, rfl⟩, q _ (fun z => by rw [z] at len; cases len) fun _ => ⟨?_, fun y hy => ?_⟩⟩
      · rw [numAt_eq, hn]; exact PySem.getD_mem (by omega)
      · rw [← hn] at hy
        obtain ⟨i, hi2, rfl⟩ := mem_getD hy
        rw [List.length_map, Array.length_toList, hx] at hi2
        rw [← numAt_eq]; exact h2 i (by omega)
def rMin2 : List V → Hp → VK → Prop := fun xs H Q => ∃ i j, xs = [.int i, .int j] ∧ Q (.int (if j < i then j else i)) H
def rMax2 : List V → Hp → VK → Prop := fun xs H Q => ∃ i j, xs = [.int i, .int j] ∧ Q (.int (if j > i then j else i)) H
section
variable {K : PySem.W.Frag} {D : Ends} {σ : L2.St} {H : Hp} {te : TE} {g : TG} {tb : TS} {Q : VK} {a d : Addr} {i : Nat}
theorem r_min2 {m n : Int} (q : Q (.int (min m n)) H) : rMin2 [.int m, .int n] H Q := ⟨m, n, rfl, by
  rw [show (if n < m then n else m) = min m n by split <;> omega]; exact q⟩
theorem r_max2 {m n : Int} (q : Q (.int (max m n)) H) : rMax2 [.int m, .int n] H Q := ⟨m, n, rfl, by
  rw [show (if n > m then n else m) = max m n by split <;> omega]; exact q⟩
theorem r_maxD {c : Int} {ns : List Int} (h : SqT K H a (ns.map V.int)) (q : ∀ m, (ns = [] → m = c) → (ns ≠ [] → m ∈ ns ∧ ∀ y ∈ ns, y ≤ m) → Q (.int m) H) : rMaxDf K c [.ref a] H Q := ⟨a, ns, rfl, h, q⟩
theorem r_isiD {kvs : List (Key × V)} {b : Bool} {T : String} (h : H a = some (.dK kvs)) (hb : kitB "dict" T = some b) (q : Q (.bl b) H) : rIsi K [.ref a, .ty T] H Q :=
  ⟨_, _, _, _, b, rfl, .ty T, .base (.dK h), kit_ty hb, q⟩
theorem r_lenD {kvs : List (Key × V)} (h : H a = some (.dK kvs)) (q : Q (.int (kvs.length : Int)) H) : rLenU K [.ref a] H Q := .inr (.inr ⟨a, kvs, rfl, h, q⟩)
/-- the ends while the thing at d is locked -/
def lockE (D : Ends) (d : Addr) (o : Obj) (u : HO) : Ends := ⟨fun σ' H' => H' d = some (.frz o u) ∧ D.nx σ' (upd H' d u), fun v H' => H' d = some (.frz o u) ∧ D.rt v (upd H' d u), fun σ' H' => H' d = some (.frz o u) ∧ D.bk σ' (upd H' d u), fun σ' H' => H' d = some (.frz o u) ∧ D.ct σ' (upd H' d u)⟩
/-- a walk over a dict: it is locked the while -/
theorem r_forKeys {j : Nat} {kvs : List (Key × V)} (hd : H d = some (.dK kvs)) (hσ : σ[i]? = some (some (.ref d))) (Pv : Obj → Nat → L2.St → Hp → Prop) (h0 : ∀ o, Pv o 0 σ (upd H d (.frz o (.dK kvs))))
    (hG : ∀ o n σ' H', n ≤ kvs.length → Pv o n σ' H' → H' d = some (.frz o (.dK kvs)))
    (hs : ∀ o n k v σ' H', kvs[n]? = some (k, v) → Pv o n σ' H' → tb { lockE D d o (.dK kvs) with nx := Pv o (n + 1), ct := Pv o (n + 1), bk := (lockE D d o (.dK kvs)).nx } (σ'.set j (some (kV k))) H')
    (he : ∀ o σ' H', Pv o kvs.length σ' H' → D.nx σ' (upd H' d (.dK kvs))) : tLock (tFor (iKeys (tVar i)) (gName j) tb) D σ H := by
  refine ⟨d, .dK kvs, hd, True.intro, fun od => ?_⟩
  refine ⟨.ref d, hσ, d, od, rfl, .inl ⟨kvs, upd_same, ?_⟩⟩
  exact for_it walk_keys (Pv od) (h0 od) (hG od) (fun n x σ' H' H2 hn p y => by
    obtain ⟨rfl, k, v, hk, rfl⟩ := y
    exact hs od n k v σ' _ hk p) (fun σ' H' p => ⟨hG od _ _ _ (Nat.le_refl _) p, he od σ' H' p⟩)
end
end Kb

set_option linter.all false
/-! sums of lengths: the mathematics; no program here -/
namespace Kb
/-- t is a sum of k members -/
def Sm (S : List Nat) : Nat → Nat → Prop
  | 0, t => t = 0
  | k + 1, t => ∃ s ∈ S, s ≤ t ∧ Sm S k (t - s)
def Lst (S : List Nat) (t k : Nat) : Prop := Sm S k t ∧ ∀ j, j < k → ¬ Sm S j t
theorem lst_inj {S : List Nat} {t k j : Nat} (h : Lst S t k) (h' : Lst S t j) : k = j := by
  rcases Nat.lt_trichotomy k j with z | z | z
  · exact absurd h.1 (h'.2 k z)
  · exact z
  · exact absurd h'.1 (h.2 j z)
theorem lst_of {S : List Nat} {t : Nat} : ∀ {k : Nat}, Sm S k t → ∃ j, j ≤ k ∧ Lst S t j := by
  intro k
  induction k using Nat.strongRecOn with
  | ind k ih =>
    intro h
    by_cases z : ∃ j, j < k ∧ Sm S j t
    · obtain ⟨j, hj, hs⟩ := z
      obtain ⟨i, hi, hl⟩ := ih j hj hs
      exact ⟨i, by omega, hl⟩
    · exact ⟨k, Nat.le_refl _, h, fun j hj hs => z ⟨j, hj, hs⟩⟩
theorem lst_zero {S : List Nat} {t k : Nat} (hk : k ≤ 0) : Lst S t k ↔ t = 0 ∧ k = 0 := by
  obtain rfl : k = 0 := by omega
  exact ⟨fun h => ⟨h.1, rfl⟩, fun h => ⟨h.1, fun j hj => by omega⟩⟩
theorem lst_pred {S : List Nat} {t k : Nat} (h : Lst S t (k + 1)) : ∃ s ∈ S, s ≤ t ∧ Lst S (t - s) k := by
  obtain ⟨s, hs, hle, h1⟩ := h.1
  exact ⟨s, hs, hle, h1, fun j hj hz => h.2 (j + 1) (by omega) ⟨s, hs, hle, hz⟩⟩
theorem sm_le {S : List Nat} {m : Nat} (hS : ∀ s ∈ S, s ≤ m) : ∀ {k t : Nat}, Sm S k t → t ≤ k * m
  | 0, t, h => by have : t = 0 := h; omega
  | k + 1, t, ⟨s, hs, hle, h⟩ => by
    have := sm_le hS h
    have := hS s hs
    rw [Nat.succ_mul]
    omega
theorem sm_same {S T : List Nat} (h : ∀ s, s ∈ S ↔ s ∈ T) : ∀ {k t : Nat}, Sm S k t ↔ Sm T k t
  | 0, t => Iff.rfl
  | k + 1, t => ⟨fun ⟨s, a, b, c⟩ => ⟨s, (h s).mp a, b, (sm_same h).mp c⟩, fun ⟨s, a, b, c⟩ => ⟨s, (h s).mpr a, b, (sm_same h).mpr c⟩⟩
theorem lst_same {S T : List Nat} (h : ∀ s, s ∈ S ↔ s ∈ T) {t k : Nat} : Lst S t k ↔ Lst T t k :=
  ⟨fun ⟨a, b⟩ => ⟨(sm_same h).mp a, fun j hj z => b j hj ((sm_same h).mpr z)⟩, fun ⟨a, b⟩ => ⟨(sm_same h).mpr a, fun j hj z => b j hj ((sm_same h).mp z)⟩⟩
/-! the law's own list -/
def bst (m : Nat) (ws : List Nat) : Nat := ws.foldl (fun b w => min b (w + 1)) (m + 1)
theorem fold_le : ∀ (ws : List Nat) (b : Nat), ws.foldl (fun b w => min b (w + 1)) b ≤ b ∧ (∀ w ∈ ws, ws.foldl (fun b w => min b (w + 1)) b ≤ w + 1) ∧ (ws.foldl (fun b w => min b (w + 1)) b = b ∨ ∃ w ∈ ws, ws.foldl (fun b w => min b (w + 1)) b = w + 1)
  | [], b => ⟨Nat.le_refl _, fun w h => (nomatch h), .inl rfl⟩
  | w :: ws, b => by
    obtain ⟨h1, h2, h3⟩ := fold_le ws (min b (w + 1))
    rw [List.foldl_cons]
    refine ⟨by omega, fun x hx => ?_, ?_⟩
    · rcases List.mem_cons.mp hx with rfl | hx
      · omega
      · exact h2 x hx
    · rcases h3 with h3 | ⟨x, hx, h3⟩
      · by_cases z : b ≤ w + 1
        · exact .inl (by rw [h3]; omega)
        · exact .inr ⟨w, by simp, by rw [h3]; omega⟩
      · exact .inr ⟨x, by simp [hx], h3⟩
def dl (S : List Nat) (m : Nat) : Nat → List Nat
  | 0 => [0]
  | t + 1 => dl S m t ++ [bst m ((S.filter fun s => decide (s ≤ t + 1)).map fun s => (dl S m t).getD (t + 1 - s) 0)]
theorem dl_len (S : List Nat) (m : Nat) : ∀ t, (dl S m t).length = t + 1
  | 0 => rfl
  | t + 1 => by show (dl S m t ++ [_]).length = _; rw [List.length_append, dl_len S m t]; rfl
def dv (S : List Nat) (m t : Nat) : Nat := (dl S m t).getD t 0
theorem dl_get (S : List Nat) (m : Nat) : ∀ {t i : Nat}, i ≤ t → (dl S m t).getD i 0 = dv S m i
  | 0, i, h => by obtain rfl : i = 0 := by omega
                  rfl
  | t + 1, i, h => by
    by_cases z : i = t + 1
    · subst z; rfl
    · show (dl S m t ++ [_]).getD i 0 = _
      rw [List.getD_eq_getElem?_getD, List.getElem?_append_left (by rw [dl_len]; omega), ← List.getD_eq_getElem?_getD]
      exact dl_get S m (by omega)
theorem dv_succ (S : List Nat) (m t : Nat) : dv S m (t + 1) = bst m ((S.filter fun s => decide (s ≤ t + 1)).map fun s => (dl S m t).getD (t + 1 - s) 0) := by
  show (dl S m t ++ [_]).getD (t + 1) 0 = _
  rw [List.getD_eq_getElem?_getD, List.getElem?_append_right (by rw [dl_len]; omega), dl_len, Nat.sub_self]
  rfl
theorem dv_spec {S : List Nat} {m : Nat} (hS : ∀ s ∈ S, 0 < s) : ∀ t, dv S m t ≤ m + 1 ∧ (dv S m t ≤ m → Lst S t (dv S m t)) ∧ ∀ k, k ≤ m → Sm S k t → dv S m t ≤ k := by
  intro t
  induction t using Nat.strongRecOn with
  | ind t ih =>
    cases t with
    | zero => exact ⟨Nat.zero_le _, fun _ => ⟨rfl, fun j hj => absurd hj (Nat.not_lt_zero _)⟩, fun k _ _ => Nat.zero_le _⟩
    | succ t =>
      rw [dv_succ]
      obtain ⟨h1, h2, h3⟩ := fold_le ((S.filter fun s => decide (s ≤ t + 1)).map fun s => (dl S m t).getD (t + 1 - s) 0) (m + 1)
      have third : ∀ k, k ≤ m → Sm S k (t + 1) → bst m ((S.filter fun s => decide (s ≤ t + 1)).map fun s => (dl S m t).getD (t + 1 - s) 0) ≤ k := by
        intro k hk hs
        cases k with
        | zero => exact absurd hs (Nat.succ_ne_zero t)
        | succ k =>
          obtain ⟨s, hm, hle, hz⟩ := hs
          have hp := hS s hm
          have i3 := (ih (t + 1 - s) (by omega)).2.2 k (by omega) hz
          have := h2 ((dl S m t).getD (t + 1 - s) 0) (List.mem_map.mpr ⟨s, List.mem_filter.mpr ⟨hm, decide_eq_true hle⟩, rfl⟩)
          rw [dl_get S m (by omega : t + 1 - s ≤ t)] at this
          unfold bst
          omega
      refine ⟨h1, fun hle => ?_, third⟩
      rcases h3 with h3 | ⟨w, hw, h3⟩
      · unfold bst at hle; omega
      · obtain ⟨s, hs, rfl⟩ := List.mem_map.mp hw
        obtain ⟨hm, hd⟩ := List.mem_filter.mp hs
        have hst := of_decide_eq_true hd
        have hp := hS s hm
        rw [dl_get S m (by omega : t + 1 - s ≤ t)] at h3
        have i2 := (ih (t + 1 - s) (by omega)).2.1 (by unfold bst at hle; omega)
        refine ⟨?_, fun j hj hs => ?_⟩
        · unfold bst; rw [h3]; exact ⟨s, hm, hst, i2.1⟩
        · have := third j (by omega) hs
          omega
theorem dv_iff {S : List Nat} {m : Nat} (hS : ∀ s ∈ S, 0 < s) {t k : Nat} : (k ≤ m ∧ Lst S t k) ↔ (dv S m t ≤ m ∧ dv S m t = k) := by
  obtain ⟨_, h2, h3⟩ := dv_spec (m := m) hS t
  constructor
  · rintro ⟨hk, hl⟩
    have a := h3 k hk hl.1
    exact ⟨by omega, lst_inj (h2 (by omega)) hl⟩
  · rintro ⟨a, b⟩
    rw [← b]
    exact ⟨a, h2 a⟩
end Kb

set_option Elab.async false
set_option linter.all false
set_option maxRecDepth 100000
set_option maxHeartbeats 4000000
namespace Kb
open PySem PySem.Spec PyProof.Rows L2
/-! the tactics: rd walks a reading; tk closes a fact about a heap from those ahead of it -/
local macro_rules | `(tactic| walk_at "tk") => `(tactic| first
  | assumption
  | ((with_reducible refine' sqT_of ?k); (case k => assumption))
  | ((with_reducible refine' sqT_ofD ?k); (case k => assumption))
  | ((with_reducible refine' noD_of ?k); (case k => assumption))
  | ((with_reducible refine' noD_same ?s ?k); (case s => assumption); (case k => walk_at "tk"))
  | ((with_reducible refine' sqL_of ?k); (case k => assumption))
  | ((with_reducible refine' sqT_same ?s ?k); (case s => assumption); (case k => walk_at "tk"))
  | ((with_reducible refine' sqL_same ?s ?k); (case s => assumption); (case k => walk_at "tk"))
  | ((with_reducible refine' sqT_but ?s ?t ?k); (case s => assumption); (case t => walk_at "tk"); (case k => walk_at "tk"))
  | ((with_reducible refine' sqL_but ?s ?t ?k); (case s => assumption); (case t => walk_at "ne"); (case k => walk_at "tk"))
  | ((with_reducible refine' sqL_of ?k); (case k => walk_at "tk"))
  | ((with_reducible refine' sqT_of ?k); (case k => walk_at "tk"))
  | ((with_reducible refine' at_same ?s ?k); (case s => assumption); (case k => walk_at "tk"))
  | ((with_reducible refine' at_but ?s ?t ?k); (case s => assumption); (case t => walk_at "ne"); (case k => walk_at "tk")))
local macro_rules | `(tactic| walk_at "ne") => `(tactic| first
  | assumption
  | (refine Ne.symm ?_; assumption)
  | exact ne_of_none (by assumption) (by assumption)
  | exact (ne_of_none (by assumption) (by assumption)).symm)
local macro_rules | `(tactic| walk_at "side") => `(tactic| first
  | assumption
  | omega
  | (simp only [sizeLine_eq, List.length_cons, List.length_nil, List.length_map]; omega)
  | (show _ ≤ sizeLine; decide))
local macro_rules | `(tactic| walk_at "kit") => `(tactic| first
  | (show kitB _ _ = some true; decide +kernel)
  | (show kitB _ _ = some false; decide +kernel))
local macro_rules | `(tactic| walk_at "rng") => `(tactic| first
  | (refine ⟨by omega, by omega, by omega, by omega⟩)
  | (refine ⟨by omega, by omega⟩)
  | ((simp only [List.length_map]); (refine ⟨by omega, by omega, by omega, by omega⟩))
  | ((simp only [List.length_map]); (refine ⟨by omega, by omega⟩)))
local macro_rules | `(tactic| walk_at "rd1") => `(tactic| first
  | with_reducible refine r_seq ?_
  | ((with_reducible refine' r_var ?k0 ?_); (case k0 => rfl))
  | with_reducible refine r_op ?_
  | with_reducible refine r_c ?_
  | with_reducible refine r_asg ?_
  | with_reducible refine r_name ?_
  | with_reducible refine r_cons ?_
  | with_reducible refine r_nil ?_
  | with_reducible refine r_CB ?_
  | with_reducible refine r_if ?_
  | with_reducible refine r_test ?_
  | with_reducible refine r_k ?_
  | with_reducible refine r_T ?_
  | with_reducible refine r_F ?_
  | with_reducible refine r_nT ?_
  | with_reducible refine r_nF ?_
  | with_reducible refine r_ret ?_
  | with_reducible refine r_drop ?_
  | with_reducible refine r_next ?_
  | with_reducible refine r_call ?_
  | with_reducible refine r_addI ?_
  | with_reducible refine r_subI ?_
  | with_reducible refine r_ltI ?_
  | with_reducible refine r_gtI ?_
  | with_reducible refine r_leI ?_
  | with_reducible refine r_geI ?_
  | with_reducible refine r_eqI ?_
  | with_reducible refine r_neI ?_
  | with_reducible refine r_int ?_
  | with_reducible refine r_abs ?_
  | with_reducible refine r_not ?_
  | with_reducible refine r_and ?_
  | with_reducible refine r_or ?_
  | with_reducible refine r_tru ?_
  | with_reducible refine r_truB ?_
  | with_reducible refine r_lst ?_
  | with_reducible refine r_tup ?_
  | with_reducible refine r_BM ?_
  | with_reducible refine r_BM0 ?_
  | with_reducible refine r_tyS ?_
  | with_reducible refine r_gsub ?_
  | with_reducible refine r_then ?_
  | with_reducible refine r_lstRg ?_
  | with_reducible refine r_tupRg ?_
  | with_reducible refine r_rg2 ?_
  | with_reducible refine r_rg1 ?_
  | with_reducible refine r_ii ?_
  | with_reducible refine r_i ?_
  | with_reducible refine r_ipI ?_
  | with_reducible refine r_un ?_
  | with_reducible refine r_neg ?_
  | with_reducible refine r_isN ?_
  | with_reducible refine r_notN ?_
  | with_reducible refine r_notV ?_
  | with_reducible refine r_pnot ?_
  | with_reducible refine r_pif ?_
  | with_reducible refine r_andV ?_
  | with_reducible refine r_orV ?_
  | with_reducible refine r_ifE ?_
  | with_reducible refine r_chain ?_
  | with_reducible refine r_sl ?_
  | with_reducible refine r_noPart ?_
  | with_reducible refine r_part ?_
  | with_reducible refine r_brk ?_
  | with_reducible refine r_cont ?_
  | with_reducible refine r_retN ?_
  | with_reducible refine r_truI ?_
  | with_reducible refine r_B ?_
  | with_reducible refine r_for ?_
  | with_reducible refine r_rng1 ?_
  | with_reducible refine r_rng2 ?_
  | with_reducible refine r_rng3 ?_
  | with_reducible refine r_body ?_
  | with_reducible refine r_lc ?_
  | with_reducible refine r_yes ?_
  | ((with_reducible refine' r_mod ?k0 ?_); (case k0 => walk_at "side"))
  | ((with_reducible refine' r_mulI ?k0 ?_); (case k0 => first | exact Or.inl ⟨by omega, by omega⟩ | exact Or.inr ⟨by omega, by omega⟩))
  | ((with_reducible refine' r_lenL ?k0 ?_); (case k0 => walk_at "tk"))
  | ((with_reducible refine' r_lenT ?k0 ?_); (case k0 => walk_at "tk"))
  | ((with_reducible refine' r_truL ?k0 ?_); (case k0 => walk_at "tk"))
  | ((with_reducible refine' r_truT ?k0 ?_); (case k0 => walk_at "tk"))
  | ((with_reducible refine' r_ixL ?k0 ?k1 ?_); (case k0 => walk_at "tk"); (case k1 => first | assumption | rfl))
  | ((with_reducible refine' r_ixT ?k0 ?k1 ?_); (case k0 => walk_at "tk"); (case k1 => first | assumption | rfl))
  | ((with_reducible refine' r_new ?k0 ?_); (case k0 => walk_at "side"))
  | ((with_reducible refine' r_tyL ?k0 ?_); (case k0 => walk_at "tk"))
  | ((with_reducible refine' r_append ?k0 ?k1 ?_); (case k0 => walk_at "tk"); (case k1 => walk_at "side"))
  | ((with_reducible refine' r_setL ?k0 ?k1 ?_); (case k0 => walk_at "tk"); (case k1 => first | assumption | rfl))
  | ((with_reducible refine' r_kTupL ?k0 ?_); (case k0 => walk_at "tk"))
  | ((with_reducible refine' r_kTupT ?k0 ?_); (case k0 => walk_at "tk"))
  | ((with_reducible refine' r_listL ?k0 ?_); (case k0 => walk_at "tk"))
  | ((with_reducible refine' r_listT ?k0 ?_); (case k0 => walk_at "tk"))
  | ((with_reducible refine' r_aug ?k0 ?_); (case k0 => rfl))
  | ((with_reducible refine' r_lenS ?k0 ?_); (case k0 => walk_at "side"))
  | ((with_reducible refine' r_pop ?k0 ?_); (case k0 => walk_at "tk"))
  | ((with_reducible refine' r_pr1 ?k0 ?_); (case k0 => walk_at "rng"))
  | ((with_reducible refine' r_pr2 ?k0 ?_); (case k0 => walk_at "rng"))
  | ((with_reducible refine' r_pr3d ?k0 ?_); (case k0 => walk_at "rng"))
  | ((with_reducible refine' r_isiI ?k0 ?_); (case k0 => walk_at "kit"))
  | ((with_reducible refine' r_isiB ?k0 ?_); (case k0 => walk_at "kit"))
  | ((with_reducible refine' r_isiS ?k0 ?_); (case k0 => walk_at "kit"))
  | ((with_reducible refine' r_isiN ?k0 ?_); (case k0 => walk_at "kit"))
  | ((with_reducible refine' r_isiT ?k0 ?k1 ?_); (case k0 => walk_at "tk"); (case k1 => walk_at "kit"))
  | ((with_reducible refine r_seqT ?_); (repeat (walk_at "rd1")); ((with_reducible refine' r_pseqT ?k0 ?_); (case k0 => walk_at "tk")))
  | ((with_reducible refine r_seqL ?_); (repeat (walk_at "rd1")); ((with_reducible refine' r_pseqL ?k0 ?_); (case k0 => walk_at "tk")))
  | ((with_reducible refine r_seqS ?_); (repeat (walk_at "rd1")); (with_reducible refine r_pseqS ?_)))
local macro_rules | `(tactic| walk_at "rd") => `(tactic| ((repeat (walk_at "rd1")); (try dsimp only)))

local macro_rules | `(tactic| walk_at "rd1") => `(tactic| first
  | with_reducible refine r_BMT ?_
  | with_reducible refine r_par ?_
  | with_reducible refine r_parV ?_
  | ((with_reducible refine' r_ptp ?k0 ?k1 ?_); (case k0 => walk_at "tk"); (case k1 => walk_at "tk"))
  | with_reducible refine r_eqS ?_
  | with_reducible refine r_neS ?_
  | with_reducible refine r_callW ?_
  | with_reducible refine r_try ?_
  | with_reducible refine r_enT ?_
  | ((with_reducible refine' r_pen ?k0 ?_); (case k0 => walk_at "tk")))

local macro_rules | `(tactic| walk_at "rd1") => `(tactic| first
  | with_reducible refine r_dIn ?_
  | with_reducible refine r_dNo ?_
  | with_reducible refine r_dPut ?_
  | with_reducible refine r_dGet ?_)

/-! ### the dict of sums -/
def natsV (ns : List Nat) : List V := ns.map fun (n : Nat) => V.int (n : Int)
/-- members up to m, and news with m + 1 -/
structure Lay (S : List Nat) (m : Nat) (kvs : List (Key × V)) (news : List Nat) : Prop where
  nd : (kvs.map Prod.fst).Nodup
  val : ∀ key v, valV kvs key = some v ↔ ∃ t k : Nat, key = .inl (t : Int) ∧ v = .int (k : Int) ∧ ((k ≤ m ∧ Lst S t k) ∨ (k = m + 1 ∧ t ∈ news))
  new : ∀ t ∈ news, Lst S t (m + 1)
  len : news.length ≤ kvs.length
theorem val_mem {kvs : List (Key × V)} {k : Key} : (valV kvs k).isSome = true ↔ k ∈ kvs.map Prod.fst := by
  induction kvs with
  | nil => simp [valV_nil]
  | cons p r ih =>
    by_cases h : p.1 = k
    · rw [valV_pos h]; simp [h]
    · rw [valV_neg h, ih, List.map_cons, List.mem_cons]
      exact ⟨.inr, fun z => z.resolve_left fun e => h e.symm⟩
theorem Lay.key {S : List Nat} {m : Nat} {kvs : List (Key × V)} {news : List Nat} (h : Lay S m kvs news) {k : Key} (hk : k ∈ kvs.map Prod.fst) : ∃ t j : Nat, k = .inl (t : Int) ∧ j ≤ m + 1 ∧ Lst S t j := by
  obtain ⟨v, hv⟩ := Option.isSome_iff_exists.mp (val_mem.mpr hk)
  obtain ⟨t, j, e, _, c⟩ := (h.val k v).mp hv
  rcases c with ⟨h1, h2⟩ | ⟨h1, h2⟩
  · exact ⟨t, j, e, by omega, h2⟩
  · exact ⟨t, j, e, by omega, h1 ▸ h.new t h2⟩
theorem keys_le {S : List Nat} {mx m : Nat} (hS : ∀ s ∈ S, s ≤ mx) {kvs : List (Key × V)} {news : List Nat} (h : Lay S m kvs news) : kvs.length ≤ (m + 1) * mx + 1 := by
  have f : ∀ k ∈ kvs.map Prod.fst, ∃ t : Nat, k = .inl (t : Int) ∧ t ≤ (m + 1) * mx := fun k hk => by
    obtain ⟨t, j, e, hj, hl⟩ := h.key hk
    have := sm_le hS hl.1
    exact ⟨t, e, Nat.le_trans this (Nat.mul_le_mul_right _ hj)⟩
  have g : (((kvs.map Prod.fst).map fun k => match k with | .inl i => i + 1 | .inr _ => 0) : List Int).Nodup := by
    rw [List.nodup_iff_pairwise_ne, List.pairwise_map]
    refine (List.nodup_iff_pairwise_ne.mp h.nd).imp_of_mem (fun {a b} ha hb hne e => hne ?_)
    obtain ⟨t, rfl, _⟩ := f a ha
    obtain ⟨u, rfl, _⟩ := f b hb
    have e' : (t : Int) + 1 = (u : Int) + 1 := e
    have : (t : Int) = u := by omega
    rw [this]
  have := nodup_le ((m + 1) * mx + 1) _ g (fun x hx => by
    obtain ⟨k, hk, rfl⟩ := List.mem_map.mp hx
    obtain ⟨t, rfl, ht⟩ := f k hk
    dsimp only
    omega)
  simpa using this
theorem Lay.zero {S : List Nat} : Lay S 0 [(.inl 0, .int 0)] [] where
  nd := by simp
  val := fun key v => by
    by_cases h : (Sum.inl 0 : Key) = key
    · rw [valV_pos h]
      constructor
      · intro e
        exact ⟨0, 0, h.symm, (Option.some.inj e).symm, .inl ⟨Nat.le_refl _, rfl, fun j hj => absurd hj (Nat.not_lt_zero _)⟩⟩
      · rintro ⟨t, k, _, rfl, ⟨hk, hl⟩ | ⟨_, hm⟩⟩
        · obtain rfl : k = 0 := by omega
          rfl
        · cases hm
    · rw [valV_neg h, valV_nil]
      constructor
      · intro e; cases e
      · rintro ⟨t, k, rfl, _, ⟨hk, hl⟩ | ⟨_, hm⟩⟩
        · obtain ⟨rfl, _⟩ := (lst_zero hk).mp hl
          exact absurd rfl h
        · cases hm
  new := fun t h => nomatch h
  len := Nat.zero_le _
theorem Lay.put {S : List Nat} {m : Nat} {kvs : List (Key × V)} {news : List Nat} (h : Lay S m kvs news) {t s : Nat} (hs : s ∈ S) (ht : Lst S t m) (hn : (valV kvs (.inl ((t : Int) + (s : Int)))).isSome = false) :
    Lay S m (putK kvs (.inl ((t : Int) + (s : Int))) (.int ((m : Int) + 1))) (news ++ [t + s]) := by
  have hn' : valV kvs (.inl (((t + s : Nat) : Int))) = none := by
    rw [Int.natCast_add]
    exact Option.not_isSome_iff_eq_none.mp (by rw [hn]; decide)
  have ec : ((t : Int) + (s : Int)) = ((t + s : Nat) : Int) := (Int.natCast_add t s).symm
  have em : ((m : Int) + 1) = ((m + 1 : Nat) : Int) := (Int.natCast_add m 1).symm
  rw [ec, em]
  have new : Lst S (t + s) (m + 1) := by
    refine ⟨⟨s, hs, Nat.le_add_left _ _, by rw [Nat.add_sub_cancel]; exact ht.1⟩, fun j hj hz => ?_⟩
    obtain ⟨i, hi, hl⟩ := lst_of hz
    have := (h.val (.inl ((t + s : Nat) : Int)) (.int (i : Int))).mpr ⟨t + s, i, rfl, rfl, .inl ⟨by omega, hl⟩⟩
    rw [hn'] at this
    cases this
  refine ⟨?_, fun key v => ?_, fun u hu => ?_, ?_⟩
  · rw [putK_new _ hn', List.map_append, List.nodup_append]
    refine ⟨h.nd, by simp, fun a ha b hb => ?_⟩
    rw [List.map_cons, List.map_nil, List.mem_singleton] at hb
    subst hb
    rintro rfl
    have := val_mem.mpr ha
    rw [hn'] at this
    cases this
  · rw [valV_put]
    by_cases e : key = .inl ((t + s : Nat) : Int)
    · rw [if_pos e]
      subst e
      constructor
      · intro z
        exact ⟨t + s, m + 1, rfl, (Option.some.inj z).symm, .inr ⟨rfl, by simp⟩⟩
      · rintro ⟨u, k, e1, rfl, c⟩
        have eu : u = t + s := by have := Sum.inl.inj e1; omega
        subst eu
        rcases c with ⟨h1, h2⟩ | ⟨rfl, _⟩
        · have := lst_inj h2 new; omega
        · rfl
    · rw [if_neg e, h.val]
      constructor
      · rintro ⟨u, k, rfl, rfl, c⟩
        refine ⟨u, k, rfl, rfl, c.imp id fun ⟨a, b⟩ => ⟨a, by simp [b]⟩⟩
      · rintro ⟨u, k, rfl, rfl, c⟩
        refine ⟨u, k, rfl, rfl, c.imp id fun ⟨a, b⟩ => ⟨a, ?_⟩⟩
        rcases List.mem_append.mp b with b | b
        · exact b
        · rw [List.mem_singleton] at b
          subst b
          exact absurd rfl e
  · rcases List.mem_append.mp hu with hu | hu
    · exact h.new u hu
    · rw [List.mem_singleton] at hu
      subst hu
      exact new
  · rw [putK_new _ hn', List.length_append, List.length_append]
    have := h.len
    simp only [List.length_cons, List.length_nil]
    omega
/-- all sums one member further are keys -/
theorem Lay.step {S : List Nat} {m : Nat} {kvs : List (Key × V)} {news : List Nat} (h : Lay S m kvs news) (hc : ∀ t, Lst S t m → ∀ s ∈ S, (valV kvs (.inl ((t : Int) + (s : Int)))).isSome = true) :
    Lay S (m + 1) kvs [] ∧ ∀ t, t ∈ news ↔ Lst S t (m + 1) := by
  have hN : ∀ t, t ∈ news ↔ Lst S t (m + 1) := fun t => ⟨h.new t, fun hl => by
    obtain ⟨s, hs, hle, hp⟩ := lst_pred hl
    have := hc _ hp s hs
    rw [show (((t - s : Nat) : Int) + (s : Int)) = (t : Int) by omega] at this
    obtain ⟨v, hv⟩ := Option.isSome_iff_exists.mp this
    obtain ⟨u, k, e, _, c⟩ := (h.val _ v).mp hv
    have eu : u = t := by have := Sum.inl.inj e; omega
    subst eu
    rcases c with ⟨h1, h2⟩ | ⟨_, h2⟩
    · have := lst_inj h2 hl; omega
    · exact h2⟩
  refine ⟨⟨h.nd, fun key v => ?_, fun t ht => (nomatch ht), Nat.zero_le _⟩, hN⟩
  rw [h.val]
  constructor
  · rintro ⟨t, k, rfl, rfl, ⟨h1, h2⟩ | ⟨rfl, h2⟩⟩
    · exact ⟨t, k, rfl, rfl, .inl ⟨by omega, h2⟩⟩
    · exact ⟨t, m + 1, rfl, rfl, .inl ⟨Nat.le_refl _, h.new t h2⟩⟩
  · rintro ⟨t, k, rfl, rfl, ⟨h1, h2⟩ | ⟨_, h2⟩⟩
    · by_cases z : k = m + 1
      · subst z
        exact ⟨t, m + 1, rfl, rfl, .inr ⟨rfl, (hN t).mpr h2⟩⟩
      · exact ⟨t, k, rfl, rfl, .inl ⟨by omega, h2⟩⟩
    · cases h2
theorem same_len {a b : List Key} (ha : a.Nodup) (hb : b.Nodup) (h : ∀ k, k ∈ a ↔ k ∈ b) : a.length = b.length := (List.perm_ext_iff_of_nodup ha hb |>.mpr h).length_eq
theorem Lay.eq {S : List Nat} {m : Nat} {kvs kws : List (Key × V)} (h : Lay S m kvs []) (h' : Lay S m kws []) : kvs.length = kws.length ∧ ∀ k, valV kvs k = valV kws k := by
  have e : ∀ k, valV kvs k = valV kws k := fun k => Option.ext fun v => by rw [h.val, h'.val]
  refine ⟨?_, e⟩
  have := same_len h.nd h'.nd (fun k => by rw [← val_mem, ← val_mem, e])
  simpa using this
/-! ### steps -/
section
variable {K : PySem.W.Frag} {D : Ends} {σ : L2.St} {H : Hp} {Q : VK} {N : Hp → Prop} {v x y : V} {p : Addr} {kvs : List (Key × V)} {k : Key}
theorem r_kNo (h : Rd H p (.dK kvs)) (e : y = kV k) (q : Q (.bl (!(valV kvs k).isSome)) H) : PDNo (.ref p) y H Q := ⟨p, valV kvs k, rfl, .inl ⟨kvs, k, h, e, rfl⟩, q⟩
theorem r_kPut (h : H p = some (.dK kvs)) (e : y = kV k) (hn : kvs.length < sizeLine) (q : ∀ H', But p H H' → H' p = some (.dK (putK kvs k v)) → N H') : PDPut (.ref p) y v H N := by
  subst e
  exact ⟨p, _, rfl, DPut.k h hn, q _ but_upd upd_same⟩
theorem r_kGet (h : Rd H p (.dK kvs)) (e : y = kV k) (hv : valV kvs k = some v) (q : Q v H) : PDGet (.ref p) y H Q := ⟨p, v, rfl, .inl ⟨kvs, k, h, e, hv.symm⟩, q⟩
theorem sqT_butD {a l : Addr} {xs : List V} {H H' : Hp} (b : But l H H') (hl : H l = some (.dK kvs)) (h : SqT K H a xs) : SqT K H' a xs := by
  rcases h with (h | ⟨o, h⟩) | h
  · exact .inl (.inl (b _ _ (ne_of h hl (by intro z; cases z)) h))
  · exact .inl (.inr ⟨o, b _ _ (ne_of h hl (by intro z; cases z)) h⟩)
  · exact .inr h
end
/-! ### promises -/
def sp_fewest_sums (K : PySem.W.Frag) : Sp := fun vs H Q _ => ∃ (a : Addr) (S : List Nat) (m : Nat), vs = [.ref a, .int (m : Int)] ∧ SqT K H a (natsV S) ∧ S.length ≤ 1000 ∧ (∀ s ∈ S, 1 ≤ s ∧ s ≤ 600) ∧ m ≤ 60 ∧
  ∀ p H' kvs, H p = none → Same H H' → H' p = some (.dK kvs) → Lay S m kvs [] → Q (.ref p) H'
def sp_law_is_integer (K : PySem.W.Frag) : Sp := fun vs H Q _ => ∃ (i : Int), vs = [.int i] ∧ Q (.bl true) H
def sp_law_lengths (K : PySem.W.Frag) : Sp := fun vs H Q _ => ∃ (p : Addr), vs = [.ref p] ∧ Pl H p ∧ ∀ a H' S, H a = none → But p H H' → Pl H' p → SqT K H' a (natsV S) → S.length ≤ 12 → (∀ s ∈ S, 1 ≤ s ∧ s ≤ 600) → Q (.ref a) H'
def sp_law_due (K : PySem.W.Frag) : Sp := fun vs H Q _ => ∃ (a : Addr) (S : List Nat) (m : Nat), vs = [.ref a, .int (m : Int)] ∧ SqT K H a (natsV S) ∧ S.length ≤ 1000 ∧ (∀ s ∈ S, 1 ≤ s ∧ s ≤ 600) ∧ m ≤ 60 ∧
  ∀ p H' kvs, H p = none → Same H H' → H' p = some (.dK kvs) → Lay S m kvs [] → Q (.ref p) H'
def sp_law_right (K : PySem.W.Frag) : Sp := fun vs H Q _ => ∃ (a b : Addr) (S : List Nat) (m : Nat) (kvs kws : List (Key × V)), vs = [.ref a, .ref b] ∧ a ≠ b ∧ H a = some (.dK kvs) ∧ H b = some (.dK kws) ∧ Lay S m kvs [] ∧ Lay S m kws [] ∧ Q (.bl true) H
def sp_law (K : PySem.W.Frag) : Sp := fun vs H Q _ => ∃ (a : Addr) (ns : List Int), vs = [.ref a] ∧ SqL K H a (ns.map V.int) ∧ ns.length ≤ 63 ∧ ∀ H', Q (.bl true) H'
abbrev N_fewest_sums : List Str := ["lengths", "most", "fewest", "latest_sums", "members", "new_sums", "total", "length"]
def t_fewest_sums (K : PySem.W.Frag) : TS :=
  tSeq (tAsg ((tDisp [((tC (.int 0)), (tC (.int 0)))])) (gName 2))
  (tSeq (tAsg ((tLst (tCons ((tC (.int 0))) tNil))) (gName 3))
  (tSeq (tFor (iRng2 (tCons ((tC (.int 1))) (tCons ((tOp (rAddU K) (tVar 1) ((tC (.int 1))))) tNil))) (gName 4) (tSeq (tAsg ((tLst tNil)) (gName 5))
  (tSeq (tFor (iSeqU K (tVar 3)) (gName 6) ((tFor (iSeqU K (tVar 0)) (gName 7) ((tIfS ((tB (tDNotIn ((tOp (rAddU K) (tVar 6) (tVar 7))) (tVar 2)))) (tSeq (sDPut (tVar 2) ((tOp (rAddU K) (tVar 6) (tVar 7))) (tVar 4))
  ((tDrop ((tBM K "list" rAppend (tVar 5) (tCons ((tOp (rAddU K) (tVar 6) (tVar 7))) tNil)))))) (tNext))))))
  ((tAsg ((tCB (rListU K) (tCons (tVar 5) tNil))) (gName 3))))))
  ((tRet (tVar 2)))))

abbrev N_law_is_integer : List Str := ["told"]
def t_law_is_integer (K : PySem.W.Frag) : TS :=
  (tRet ((tAndV ((tCB (rIsi K) (tCons (tVar 0) (tCons ((tC (.ty "int"))) tNil)))) ((tNotV ((tCB (rIsi K) (tCons (tVar 0) (tCons ((tC (.ty "bool"))) tNil)))))))))

abbrev N_law_lengths : List Str := ["pool", "kind", "base", "out", "k", "size"]
def t_law_lengths (K : PySem.W.Frag) : TS :=
  tSeq (tAsg ((tCall (sp_law_draw K) [] E0 (tCons (tVar 0) (tCons ((tC (.int 6))) tNil)))) (gName 1))
  (tSeq (tAsg ((tOp (rAddU K) ((tC (.int 1))) ((tCall (sp_law_draw K) [] E0 (tCons (tVar 0) (tCons ((tC (.int 40))) tNil)))))) (gName 2))
  (tSeq (tAsg ((tLst tNil)) (gName 3))
  (tSeq (tFor (iRng1 (tCons ((tOp (rIx K) ((tLst (tCons ((tC (.int 2))) (tCons ((tC (.int 1))) (tCons ((tC (.int 3))) (tCons ((tC (.int 2))) (tCons ((tC (.int 3))) (tCons ((tC (.int 4))) (tCons ((tC (.int 5))) (tCons ((tC (.int 8))) (tCons ((tC (.int 12))) (tCons ((tC (.int 0))) tNil)))))))))))) ((tCall (sp_law_draw K) [] E0 (tCons (tVar 0) (tCons ((tC (.int 10))) tNil)))))) tNil)) (gName 4) (tSeq (tIfS ((tTest (tOp (rLtU K) (tVar 1) ((tC (.int 2)))))) ((tAsg ((tOp (rAddU K) ((tC (.int 1))) ((tCall (sp_law_draw K) [] E0 (tCons (tVar 0) (tCons ((tC (.int 12))) tNil)))))) (gName 5))) ((tIfS ((tTest (tOp (rEqU K) (tVar 1) ((tC (.int 2)))))) ((tAsg ((tOp rSubU ((tC (.int 600))) ((tCall (sp_law_draw K) [] E0 (tCons (tVar 0) (tCons ((tC (.int 20))) tNil)))))) (gName 5))) ((tIfS ((tTest (tOp (rEqU K) (tVar 1) ((tC (.int 3)))))) ((tAsg ((tOp (rMulU K) (tVar 2) ((tOp (rAddU K) ((tC (.int 1))) ((tCall (sp_law_draw K) [] E0 (tCons (tVar 0) (tCons ((tC (.int 5))) tNil)))))))) (gName 5))) ((tAsg ((tOp (rAddU K) ((tC (.int 1))) ((tCall (sp_law_draw K) [] E0 (tCons (tVar 0) (tCons ((tC (.int 600))) tNil)))))) (gName 5))))))))
  (tSeq (tIfS ((tAnd ((tTru K (tVar 3))) ((tTest (tOp (rEqU K) ((tCall (sp_law_draw K) [] E0 (tCons (tVar 0) (tCons ((tC (.int 6))) tNil)))) ((tC (.int 0)))))))) ((tAsg ((tOp (rIx K) (tVar 3) ((tCall (sp_law_draw K) [] E0 (tCons (tVar 0) (tCons ((tCB (rLenU K) (tCons (tVar 3) tNil))) tNil)))))) (gName 5))) (tNext))
  ((tDrop ((tBM K "list" rAppend (tVar 3) (tCons (tVar 5) tNil))))))))
  ((tRet ((tThen (tVar 3) (kTupD K))))))))

abbrev N_law_due : List Str := ["sizes", "most", "top", "least", "total", "ways", "best", "before", "due", "size"]
def t_law_due (K : PySem.W.Frag) : TS :=
  tSeq (tAsg ((tOp (rMulU K) (tVar 1) ((tCB (rMaxDf K 0) (tCons (tVar 0) tNil))))) (gName 2))
  (tSeq (tAsg ((tLst (tCons ((tC (.int 0))) tNil))) (gName 3))
  (tSeq (tFor (iRng2 (tCons ((tC (.int 1))) (tCons ((tOp (rAddU K) (tVar 2) ((tC (.int 1))))) tNil))) (gName 4) (tSeq (tAsg (tLc ((iSeqU K (tVar 0))) ((gName 9)) ((tTest (tOp (rLeU K) (tVar 9) (tVar 4)))) ((tOp (rIx K) (tVar 3) ((tOp rSubU (tVar 4) (tVar 9))))) [9]) (gName 5))
  (tSeq (tAsg ((tOp (rAddU K) (tVar 1) ((tC (.int 1))))) (gName 6))
  (tSeq (tFor (iSeqU K (tVar 5)) (gName 7) ((tAsg ((tCB rMin2 (tCons (tVar 6) (tCons ((tOp (rAddU K) (tVar 7) ((tC (.int 1))))) tNil)))) (gName 6))))
  ((tDrop ((tBM K "list" rAppend (tVar 3) (tCons (tVar 6) tNil)))))))))
  (tSeq (tAsg (tDNewK) (gName 8))
  (tSeq (tFor (iRng1 (tCons ((tOp (rAddU K) (tVar 2) ((tC (.int 1))))) tNil)) (gName 4) ((tIfS ((tTest (tOp (rLeU K) ((tOp (rIx K) (tVar 3) (tVar 4))) (tVar 1)))) ((sDPut (tVar 8) (tVar 4) ((tOp (rIx K) (tVar 3) (tVar 4))))) (tNext))))
  ((tRet (tVar 8)))))))

abbrev N_law_right : List Str := ["told", "due", "total"]
def t_law_right (K : PySem.W.Frag) : TS :=
  tSeq (tIfS ((tOr ((tNot ((tTru K ((tCB (rIsi K) (tCons (tVar 0) (tCons ((tC (.ty "dict"))) tNil)))))))) ((tTest (tOp (rNeU K) ((tCB (rLenU K) (tCons (tVar 0) tNil))) ((tCB (rLenU K) (tCons (tVar 1) tNil)))))))) ((tRet ((tC (.bl false))))) (tNext))
  (tSeq (tLock (tFor (iKeys (tVar 0)) (gName 2) (tSeq (tIfS ((tOr ((tNot ((tTru K ((tCall (sp_law_is_integer K) [] E0 (tCons (tVar 2) tNil))))))) ((tB (tDNotIn (tVar 2) (tVar 1)))))) ((tRet ((tC (.bl false))))) (tNext))
  ((tIfS ((tOr ((tNot ((tTru K ((tCall (sp_law_is_integer K) [] E0 (tCons ((tDGet (tVar 0) (tVar 2))) tNil))))))) ((tTest (tOp (rNeU K) ((tDGet (tVar 0) (tVar 2))) ((tDGet (tVar 1) (tVar 2)))))))) ((tRet ((tC (.bl false))))) (tNext))))))
  ((tRet ((tC (.bl true))))))

abbrev N_law : List Str := ["script", "pool", "sizes", "most", "due", "told", "back", "again"]
def t_law (K : PySem.W.Frag) : TS :=
  tSeq (tAsg ((tCall (sp_law_pool K) [] E0 (tCons (tVar 0) (tCons ((tC (.int 0))) tNil)))) (gName 1))
  (tSeq (tAsg ((tCall (sp_law_lengths K) [] E0 (tCons (tVar 1) tNil))) (gName 2))
  (tSeq (tAsg ((tOp (rIx K) ((tLst (tCons ((tC (.int 1))) (tCons ((tC (.int 2))) (tCons ((tC (.int 3))) (tCons ((tC (.int 2))) (tCons ((tC (.int 5))) (tCons ((tC (.int 8))) (tCons ((tC (.int 12))) (tCons ((tC (.int 0))) (tCons ((tC (.int 60))) (tCons ((tCall (sp_law_draw K) [] E0 (tCons (tVar 1) (tCons ((tC (.int 61))) tNil)))) tNil)))))))))))) ((tCall (sp_law_draw K) [] E0 (tCons (tVar 1) (tCons ((tC (.int 10))) tNil)))))) (gName 3))
  (tSeq (tIfS ((tTest (tOp rGtU ((tCall (sp_law_draw K) [] E0 (tCons (tVar 1) (tCons ((tC (.int 16))) tNil)))) ((tC (.int 0)))))) ((tAsg ((tCB rMin2 (tCons (tVar 3) (tCons ((tOp rFdivU ((tC (.int 6000))) ((tCB (rMaxDf K 1) (tCons (tVar 2) tNil))))) tNil)))) (gName 3))) (tNext))
  (tSeq (tAsg ((tCall (sp_law_due K) [] E0 (tCons (tVar 2) (tCons (tVar 3) tNil)))) (gName 4))
  (tSeq (tAsg ((tCall (sp_fewest_sums K) [] E0 (tCons (tVar 2) (tCons (tVar 3) tNil)))) (gName 5))
  (tSeq (tIfS ((tNot ((tTru K ((tCall (sp_law_right K) [] E0 (tCons (tVar 5) (tCons (tVar 4) tNil)))))))) ((tRet ((tC (.bl false))))) (tNext))
  (tSeq (sDPut (tVar 5) ((tC (.int 0))) ((tOp (rAddU K) ((tC (.int 1))) ((tCall (sp_law_draw K) [] E0 (tCons (tVar 1) (tCons ((tC (.int 9))) tNil)))))))
  (tSeq (sDPut (tVar 5) ((tUn (rU fun i => .int (-i)) ((tC (.int 1))))) ((tC (.int 0))))
  (tSeq (tAsg ((tRevU K (tVar 2) (tPart ((tUn (rU fun i => .int (-i)) ((tC (.int 1)))))))) (gName 6))
  (tSeq (tIfS ((tTest (tOp (rLtU K) ((tCB (rLenU K) (tCons (tVar 6) tNil))) ((tC (.int 12)))))) ((tAsg ((tOp (rAddU K) (tVar 6) ((tSl (rSlU K) (tVar 2) tNoPart (tPart ((tC (.int 1)))))))) (gName 6))) (tNext))
  (tSeq (tAsg ((tCall (sp_fewest_sums K) [] E0 (tCons (tVar 6) (tCons (tVar 3) tNil)))) (gName 7))
  (tSeq (tIfS ((tNot ((tTru K ((tCall (sp_law_right K) [] E0 (tCons (tVar 7) (tCons (tVar 4) tNil)))))))) ((tRet ((tC (.bl false))))) (tNext))
  (tSeq (tIfS ((tAnd ((tTest (tOp rGtU (tVar 3) ((tC (.int 0)))))) ((tNot ((tTru K ((tCall (sp_law_right K) [] E0 (tCons ((tCall (sp_fewest_sums K) [] E0 (tCons (tVar 2) (tCons ((tOp rSubU (tVar 3) ((tC (.int 1))))) tNil)))) (tCons ((tCall (sp_law_due K) [] E0 (tCons (tVar 2) (tCons ((tOp rSubU (tVar 3) ((tC (.int 1))))) tNil)))) tNil)))))))))) ((tRet ((tC (.bl false))))) (tNext))
  (tSeq (sDPut (tVar 7) ((tC (.int 0))) ((tC (.int 2))))
  ((tRet ((tCall (sp_law_right K) [] E0 (tCons ((tCall (sp_fewest_sums K) [] E0 (tCons (tVar 2) (tCons (tVar 3) tNil)))) (tCons (tVar 4) tNil))))))))))))))))))))


section
variable {K : PySem.W.Frag} {vs : List V} {H : Hp} {Q : VK} {E : XK}
theorem len_fewest_sums (h : sp_fewest_sums K vs H Q E) : vs.length = 2 := by obtain ⟨s, l, m, rfl, _⟩ := h; rfl
theorem len_law_is_integer (h : sp_law_is_integer K vs H Q E) : vs.length = 1 := by obtain ⟨s, rfl, _⟩ := h; rfl
theorem len_law_lengths (h : sp_law_lengths K vs H Q E) : vs.length = 1 := by obtain ⟨s, rfl, _⟩ := h; rfl
theorem len_law_due (h : sp_law_due K vs H Q E) : vs.length = 2 := by obtain ⟨s, l, m, rfl, _⟩ := h; rfl
theorem len_law_right (h : sp_law_right K vs H Q E) : vs.length = 2 := by obtain ⟨a, b, S, m, kvs, kws, rfl, _⟩ := h; rfl
theorem len_law (h : sp_law K vs H Q E) : vs.length = 1 := by obtain ⟨a, r, rfl, _⟩ := h; rfl
theorem pure_law_is_integer (h : sp_law_is_integer K vs H Q E) : t_law_is_integer K (En Q) (start N_law_is_integer vs) H := by
  obtain ⟨i, rfl, q⟩ := h
  unfold t_law_is_integer
  walk_at "rd"
  exact q
theorem r_disp1 {m n : Int} {σ : L2.St} (k : ∀ p H', H p = none → Same H H' → H' p = some (.dK [(.inl m, .int n)]) → Q (.ref p) H') : tDisp [(tC (.int m), tC (.int n))] σ H Q := by
  intro p hp
  show _ ∧ _
  refine ⟨upd_same, [(.inl m, .int n)], rfl, by show 1 ≤ 15; decide, ?_⟩
  refine k p _ hp (fun b o e => ?_) upd_same
  rw [upd_ne (ne_of_none e hp), upd_ne (ne_of_none e hp)]
  exact e
theorem r_iteB {b : Bool} {A B : Prop} (h1 : b = true → A) (h2 : b = false → B) : if b = true then A else B := by
  cases b with
  | true => exact r_T (h1 rfl)
  | false => exact r_F (h2 rfl)
theorem nats_app (a : List Nat) (t s : Nat) : natsV a ++ [V.int ((t : Int) + (s : Int))] = natsV (a ++ [t + s]) := by simp [natsV]
theorem nats_get {l : List Nat} {j : Nat} {x : V} (h : (natsV l)[j]? = some x) : ∃ t : Nat, l[j]? = some t ∧ x = .int (t : Int) := by
  unfold natsV at h
  rw [List.getElem?_map] at h
  obtain ⟨t, ht, rfl⟩ := Option.map_eq_some_iff.mp h
  exact ⟨t, ht, rfl⟩
theorem nats_len (l : List Nat) : (natsV l).length = l.length := by unfold natsV; rw [List.length_map]
theorem mem_take_succ {α : Type} {l : List α} {j : Nat} {x y : α} (h : l[j]? = some x) (hy : y ∈ l.take (j + 1)) : y ∈ l.take j ∨ y = x := by
  rw [List.take_add_one, h, List.mem_append] at hy
  exact hy.imp id fun z => by simpa using z
theorem put_some {kvs : List (Key × V)} {k j : Key} {v : V} (h : (valV kvs k).isSome = true) : (valV (putK kvs j v) k).isSome = true := by
  rw [valV_put]
  split
  · rfl
  · exact h
theorem pure_fewest_sums (h : sp_fewest_sums K vs H Q E) : t_fewest_sums K (En Q) (start N_fewest_sums vs) H := by
  obtain ⟨a, S, m, rfl, hS, hl, hs, hm, q⟩ := h
  unfold t_fewest_sums
  refine r_seq (r_asg (r_disp1 fun d H1 nd s1 e1 => r_name ?_))
  walk_at "rd"
  intro l H2 nl s2 e2
  walk_at "rd"
  rw [show ((m : Int) + 1 - 1).toNat = m by omega]
  refine r_forRange (fun i σ' H' => ∃ (kvs : List (Key × V)) (ls : List Nat) (q : Addr) (z4 z5 z6 z7 : Option V), σ' = [some (.ref a), some (.int (m : Int)), some (.ref d), some (.ref q), z4, z5, z6, z7] ∧ Same H H' ∧ H' d = some (.dK kvs) ∧ Lay S i kvs [] ∧ H' q = some (.lst (natsV ls)) ∧ (∀ t, t ∈ ls ↔ Lst S t i))
    ⟨_, [0], l, none, none, none, none, rfl, s1.trans s2, s2 _ _ e1, Lay.zero, e2, fun t => ?_⟩ (fun i σ' H' hi hW => ?_) (fun σ' H' hW => ?_)
  · rw [List.mem_singleton]
    exact ⟨fun h => (lst_zero (Nat.le_refl 0)).mpr ⟨h, rfl⟩, fun h => ((lst_zero (Nat.le_refl 0)).mp h).1⟩
  · obtain ⟨kvs, ls, q1, z4, z5, z6, z7, rfl, st, ed, hL, eq1, hls⟩ := hW
    walk_at "rd"
    intro n H3 nn s3 e3
    have dq : d ≠ q1 := ne_of ed eq1 (by intro z; cases z)
    have dn : d ≠ n := ne_of_none ed nn
    have qn : q1 ≠ n := ne_of_none eq1 nn
    have eq3 := s3 _ _ eq1
    walk_at "rd"
    refine r_forLst (xs := natsV ls) (fun j σ2 H4 => ∃ (kws : List (Key × V)) (news : List Nat) (z6 z7 : Option V), σ2 = [some (.ref a), some (.int (m : Int)), some (.ref d), some (.ref q1), some (.int (1 + (i : Int))), some (.ref n), z6, z7] ∧ Same H H4 ∧ H4 d = some (.dK kws) ∧ Lay S i kws news ∧ H4 q1 = some (.lst (natsV ls)) ∧ H4 n = some (.lst (natsV news)) ∧ ∀ t ∈ ls.take j, ∀ s ∈ S, (valV kws (.inl ((t : Int) + (s : Int)))).isSome = true)
      ⟨kvs, [], _, _, rfl, st.trans s3, s3 _ _ ed, hL, eq3, e3, fun t ht => by simp at ht⟩ (fun j σ2 H4 hj hW => ?_) (fun j x σ2 H4 hx hW => ?_) (fun σ2 H4 hW => ?_)
    · obtain ⟨kws, news, z6, z7, rfl, st4, ed4, hL4, eq4, en4, hc4⟩ := hW
      exact sqL_of eq4
    · obtain ⟨kws, news, z6, z7, rfl, st4, ed4, hL4, eq4, en4, hc4⟩ := hW
      obtain ⟨t, ht, rfl⟩ := nats_get hx
      have hS4 := sqT_same st4 hS
      have hti : Lst S t i := (hls t).mp (List.mem_of_getElem? ht)
      walk_at "rd"
      refine r_forTup (xs := natsV S) (fun u σ3 H5 => ∃ (kws : List (Key × V)) (news : List Nat) (z7 : Option V), σ3 = [some (.ref a), some (.int (m : Int)), some (.ref d), some (.ref q1), some (.int (1 + (i : Int))), some (.ref n), some (.int (t : Int)), z7] ∧ Same H H5 ∧ H5 d = some (.dK kws) ∧ Lay S i kws news ∧ H5 q1 = some (.lst (natsV ls)) ∧ H5 n = some (.lst (natsV news)) ∧ (∀ t ∈ ls.take j, ∀ s ∈ S, (valV kws (.inl ((t : Int) + (s : Int)))).isSome = true) ∧ ∀ s ∈ S.take u, (valV kws (.inl ((t : Int) + (s : Int)))).isSome = true)
        ⟨kws, news, _, rfl, st4, ed4, hL4, eq4, en4, hc4, fun t ht => by simp at ht⟩ (fun u σ3 H5 hu hW => ?_) (fun u x σ3 H5 hx5 hW => ?_) (fun σ3 H5 hW => ?_)
      · obtain ⟨kws5, news5, z7, rfl, st5, ed5, hL5, eq5, en5, hc5, hd5⟩ := hW
        exact sqT_same st5 hS
      · obtain ⟨kws5, news5, z7, rfl, st5, ed5, hL5, eq5, en5, hc5, hd5⟩ := hW
        obtain ⟨s, hsu, rfl⟩ := nats_get hx5
        have hsS : s ∈ S := List.mem_of_getElem? hsu
        have big := keys_le (mx := 600) (fun s h => (hs s h).2) hL5
        have bl := hL5.len
        walk_at "rd"
        refine r_kNo (k := .inl ((t : Int) + (s : Int))) (.inl ed5) rfl ?_
        walk_at "rd"
        refine r_iteB (fun hb => ?_) (fun hb => ?_)
        · have hb' : (valV kws5 (.inl ((t : Int) + (s : Int)))).isSome = false := by simpa using hb
          walk_at "rd"
          refine r_kPut (k := .inl ((t : Int) + (s : Int))) ed5 rfl (by rw [sizeLine_eq]; omega) fun H6 b6 e6 => ?_
          have en6 := b6 _ _ dn.symm en5
          walk_at "rd"
          refine r_append en6 (by rw [nats_len, sizeLine_eq]; omega) fun H7 b7 e7 => ?_
          have hP := hL5.put hsS hti hb'
          walk_at "rd"
          refine ⟨_, _, _, rfl, same_but (same_but st5 b6 nd) b7 ((st.free nn)), b7 _ _ dn (by rw [Int.add_comm 1 (i : Int)] at e6; exact e6), hP, b7 _ _ qn (b6 _ _ dq.symm eq5), by rw [e7, nats_app], fun t' ht' s' hs' => put_some (hc5 t' ht' s' hs'), fun s' hs' => ?_⟩
          rcases mem_take_succ hsu hs' with z | rfl
          · exact put_some (hd5 s' z)
          · rw [valV_put, if_pos rfl]; rfl
        · have hb' : (valV kws5 (.inl ((t : Int) + (s : Int)))).isSome = true := by simpa using hb
          walk_at "rd"
          refine ⟨_, _, _, rfl, st5, ed5, hL5, eq5, en5, hc5, fun s' hs' => ?_⟩
          rcases mem_take_succ hsu hs' with z | rfl
          · exact hd5 s' z
          · exact hb'
      · obtain ⟨kws5, news5, z7, rfl, st5, ed5, hL5, eq5, en5, hc5, hd5⟩ := hW
        rw [nats_len, List.take_length] at hd5
        refine ⟨kws5, news5, _, _, rfl, st5, ed5, hL5, eq5, en5, fun t' ht' s' hs' => ?_⟩
        rcases mem_take_succ ht ht' with z | rfl
        · exact hc5 t' z s' hs'
        · exact hd5 s' hs'
    · obtain ⟨kws, news, z6, z7, rfl, st4, ed4, hL4, eq4, en4, hc4⟩ := hW
      rw [nats_len, List.take_length] at hc4
      obtain ⟨hL', hN⟩ := hL4.step fun t ht => hc4 t ((hls t).mpr ht)
      walk_at "rd"
      intro q2 H5 nq2 s5 e5
      exact ⟨kws, news, q2, _, _, _, _, rfl, st4.trans s5, s5 _ _ ed4, hL', e5, hN⟩
  · obtain ⟨kvs, ls, q1, z4, z5, z6, z7, rfl, st, ed, hL, eq1, hls⟩ := hW
    walk_at "rd"
    exact q d H' kvs nd st ed hL
theorem pure_law_right (h : sp_law_right K vs H Q E) : t_law_right K (En Q) (start N_law_right vs) H := by
  obtain ⟨a, b, S, m, kvs, kws, rfl, hab, ha, hb, h1, h2, q⟩ := h
  obtain ⟨el, ev⟩ := h1.eq h2
  unfold t_law_right
  walk_at "rd"
  refine r_isiD (b := true) ha (by show kitB _ _ = some true; decide +kernel) ?_
  walk_at "rd"
  refine r_lenD ha ?_
  walk_at "rd"
  refine r_lenD hb ?_
  rw [el]
  walk_at "rd"
  refine r_iteNP rfl ?_
  walk_at "rd"
  refine r_forKeys (kvs := kvs) ha rfl (fun o n σ' H' => ∃ z2 : Option V, σ' = [some (.ref a), some (.ref b), z2] ∧ H' = upd H a (.frz o (.dK kvs))) (fun o => ⟨_, rfl, rfl⟩) (fun o n σ' H' _ hW => ?_) (fun o n k v σ' H' hk hW => ?_) (fun o σ' H' hW => ?_)
  · obtain ⟨z2, rfl, rfl⟩ := hW
    exact upd_same
  · obtain ⟨z2, rfl, rfl⟩ := hW
    have hmem : k ∈ kvs.map Prod.fst := List.mem_map.mpr ⟨(k, v), List.mem_of_getElem? hk, rfl⟩
    obtain ⟨w, hw⟩ := Option.isSome_iff_exists.mp (val_mem.mpr hmem)
    obtain ⟨t, j, rfl, rfl, _⟩ := (h1.val k w).mp hw
    have hw2 : valV kws (.inl (t : Int)) = some (.int (j : Int)) := by rw [← ev]; exact hw
    have hb2 : upd H a (.frz o (.dK kvs)) b = some (.dK kws) := by rw [upd_ne hab.symm]; exact hb
    have ha2 : Rd (upd H a (.frz o (.dK kvs))) a (.dK kvs) := .inr ⟨o, upd_same⟩
    show tSeq _ _ _ (([some (.ref a), some (.ref b), z2] : L2.St).set 2 (some (.int (t : Int)))) _
    walk_at "rd"
    refine ⟨t, rfl, ?_⟩
    walk_at "rd"
    refine r_kNo (k := .inl (t : Int)) (.inl hb2) rfl ?_
    rw [hw2]
    walk_at "rd"
    refine r_F ?_
    walk_at "rd"
    refine r_kGet (k := .inl (t : Int)) ha2 rfl hw ?_
    refine ⟨j, rfl, ?_⟩
    walk_at "rd"
    refine r_kGet (k := .inl (t : Int)) ha2 rfl hw ?_
    walk_at "rd"
    refine r_kGet (k := .inl (t : Int)) (.inl hb2) rfl hw2 ?_
    walk_at "rd"
    refine r_iteNP rfl ?_
    walk_at "rd"
    exact ⟨_, rfl, rfl⟩
  · obtain ⟨z2, rfl, rfl⟩ := hW
    walk_at "rd"
    have : upd (upd H a (.frz o (.dK kvs))) a (.dK kvs) = H := by
      funext c
      by_cases e : c = a
      · subst e; rw [upd_same, ha]
      · rw [upd_ne e, upd_ne e]
    rw [this]
    exact q
theorem len10 {v : Int} (h0 : 0 ≤ v) (h1 : v < 10) : ∃ m : Nat, atI [V.int 2, .int 1, .int 3, .int 2, .int 3, .int 4, .int 5, .int 8, .int 12, .int 0] v = some (.int (m : Int)) ∧ m ≤ 12 := by
  have : v = 0 ∨ v = 1 ∨ v = 2 ∨ v = 3 ∨ v = 4 ∨ v = 5 ∨ v = 6 ∨ v = 7 ∨ v = 8 ∨ v = 9 := by omega
  rcases this with rfl | rfl | rfl | rfl | rfl | rfl | rfl | rfl | rfl | rfl
  · exact ⟨2, rfl, by decide⟩
  · exact ⟨1, rfl, by decide⟩
  · exact ⟨3, rfl, by decide⟩
  · exact ⟨2, rfl, by decide⟩
  · exact ⟨3, rfl, by decide⟩
  · exact ⟨4, rfl, by decide⟩
  · exact ⟨5, rfl, by decide⟩
  · exact ⟨8, rfl, by decide⟩
  · exact ⟨12, rfl, by decide⟩
  · exact ⟨0, rfl, by decide⟩
theorem most10 {v d : Int} (h0 : 0 ≤ v) (h1 : v < 10) (d0 : 0 ≤ d) (d1 : d < 61) : ∃ m : Nat, atI [V.int 1, .int 2, .int 3, .int 2, .int 5, .int 8, .int 12, .int 0, .int 60, .int d] v = some (.int (m : Int)) ∧ m ≤ 60 := by
  have : v = 0 ∨ v = 1 ∨ v = 2 ∨ v = 3 ∨ v = 4 ∨ v = 5 ∨ v = 6 ∨ v = 7 ∨ v = 8 ∨ v = 9 := by omega
  rcases this with rfl | rfl | rfl | rfl | rfl | rfl | rfl | rfl | rfl | rfl
  · exact ⟨1, rfl, by decide⟩
  · exact ⟨2, rfl, by decide⟩
  · exact ⟨3, rfl, by decide⟩
  · exact ⟨2, rfl, by decide⟩
  · exact ⟨5, rfl, by decide⟩
  · exact ⟨8, rfl, by decide⟩
  · exact ⟨12, rfl, by decide⟩
  · exact ⟨0, rfl, by decide⟩
  · exact ⟨60, rfl, by decide⟩
  · exact ⟨d.toNat, by rw [show ((d.toNat : Nat) : Int) = d by omega]; rfl, by omega⟩
theorem size_ifs {R : TS} {D : Ends} {p o : Addr} {kind base : Int} {z4 z5 : Option V} {H : Hp} (hp : Pl H p) (hb : 1 ≤ base) (hb2 : base ≤ 40)
    (rest : ∀ (n : Nat) H', 1 ≤ n → n ≤ 600 → But p H H' → Pl H' p → R D [some (.ref p), some (.int kind), some (.int base), some (.ref o), z4, some (.int (n : Int))] H') :
    tSeq (tIfS ((tTest (tOp (rLtU K) (tVar 1) ((tC (.int 2)))))) ((tAsg ((tOp (rAddU K) ((tC (.int 1))) ((tCall (sp_law_draw K) [] E0 (tCons (tVar 0) (tCons ((tC (.int 12))) tNil)))))) (gName 5))) ((tIfS ((tTest (tOp (rEqU K) (tVar 1) ((tC (.int 2)))))) ((tAsg ((tOp rSubU ((tC (.int 600))) ((tCall (sp_law_draw K) [] E0 (tCons (tVar 0) (tCons ((tC (.int 20))) tNil)))))) (gName 5))) ((tIfS ((tTest (tOp (rEqU K) (tVar 1) ((tC (.int 3)))))) ((tAsg ((tOp (rMulU K) (tVar 2) ((tOp (rAddU K) ((tC (.int 1))) ((tCall (sp_law_draw K) [] E0 (tCons (tVar 0) (tCons ((tC (.int 5))) tNil)))))))) (gName 5))) ((tAsg ((tOp (rAddU K) ((tC (.int 1))) ((tCall (sp_law_draw K) [] E0 (tCons (tVar 0) (tCons ((tC (.int 600))) tNil)))))) (gName 5)))))))) R D
      [some (.ref p), some (.int kind), some (.int base), some (.ref o), z4, z5] H := by
  have fin : ∀ (s : Int) H', 1 ≤ s → s ≤ 600 → But p H H' → Pl H' p → R D [some (.ref p), some (.int kind), some (.int base), some (.ref o), z4, some (.int s)] H' := fun s H' h1 h2 b k => by
    have := rest s.toNat H' (by omega) (by omega) b k
    rw [show ((s.toNat : Nat) : Int) = s by omega] at this
    exact this
  walk_at "rd"
  refine r_ite (fun h0 => ?_) (fun h0 => ?_)
  · walk_at "rd"
    refine ⟨p, 12, rfl, hp, by omega, by omega, fun v H2 v0 v1 b2 hp2 => ?_⟩
    walk_at "rd"
    exact fin _ _ (by omega) (by omega) b2 hp2
  walk_at "rd"
  refine r_ite (fun h0 => ?_) (fun h0 => ?_)
  · walk_at "rd"
    refine ⟨p, 20, rfl, hp, by omega, by omega, fun v H2 v0 v1 b2 hp2 => ?_⟩
    walk_at "rd"
    exact fin _ _ (by omega) (by omega) b2 hp2
  walk_at "rd"
  refine r_ite (fun h0 => ?_) (fun h0 => ?_)
  · walk_at "rd"
    refine ⟨p, 5, rfl, hp, by omega, by omega, fun v H2 v0 v1 b2 hp2 => ?_⟩
    walk_at "rd"
    have h1 : base * (1 + v) ≤ 40 * 5 := Int.mul_le_mul hb2 (by omega) (by omega) (by omega)
    have h2 : 1 * 1 ≤ base * (1 + v) := Int.mul_le_mul hb (by omega) (by omega) (by omega)
    exact fin _ _ (by omega) (by omega) b2 hp2
  walk_at "rd"
  refine ⟨p, 600, rfl, hp, by omega, by omega, fun v H2 v0 v1 b2 hp2 => ?_⟩
  walk_at "rd"
  exact fin _ _ (by omega) (by omega) b2 hp2
theorem again_if {R : TS} {D : Ends} {p o : Addr} {kind base : Int} {z4 : Option V} {n : Nat} {outs : List Nat} {H : Hp} (hp : Pl H p) (po : o ≠ p) (eo : H o = some (.lst (natsV outs))) (hl : outs.length ≤ 12) (hn : 1 ≤ n ∧ n ≤ 600) (ho : ∀ s ∈ outs, 1 ≤ s ∧ s ≤ 600)
    (rest : ∀ (n : Nat) H', 1 ≤ n ∧ n ≤ 600 → But p H H' → Pl H' p → R D [some (.ref p), some (.int kind), some (.int base), some (.ref o), z4, some (.int (n : Int))] H') :
    tSeq (tIfS ((tAnd ((tTru K (tVar 3))) ((tTest (tOp (rEqU K) ((tCall (sp_law_draw K) [] E0 (tCons (tVar 0) (tCons ((tC (.int 6))) tNil)))) ((tC (.int 0)))))))) ((tAsg ((tOp (rIx K) (tVar 3) ((tCall (sp_law_draw K) [] E0 (tCons (tVar 0) (tCons ((tCB (rLenU K) (tCons (tVar 3) tNil))) tNil)))))) (gName 5))) (tNext)) R D
      [some (.ref p), some (.int kind), some (.int base), some (.ref o), z4, some (.int (n : Int))] H := by
  walk_at "rd"
  refine r_iteB (fun hb => ?_) (fun hb => ?_)
  · have hpos : 0 < outs.length := by
      cases outs with
      | nil => simp [natsV] at hb
      | cons x r => simp
    walk_at "rd"
    refine ⟨p, 6, rfl, hp, by omega, by omega, fun v H2 v0 v1 b2 hp2 => ?_⟩
    have e2 := b2 _ _ po eo
    walk_at "rd"
    refine r_ite (fun h0 => ?_) (fun h0 => ?_)
    · walk_at "rd"
      rw [nats_len]
      refine ⟨p, (outs.length : Int), rfl, hp2, by omega, by omega, fun u H3 u0 u1 b3 hp3 => ?_⟩
      have e3 := b3 _ _ po e2
      have hk : u.toNat < outs.length := by omega
      refine r_ixL (v := .int (outs[u.toNat] : Int)) (sqL_of e3) ?_ ?_
      · have := atI_nat (xs := natsV outs) (j := u.toNat) (v := .int (outs[u.toNat] : Int)) (by unfold natsV; rw [List.getElem?_map, List.getElem?_eq_getElem hk]; rfl)
        rw [show ((u.toNat : Nat) : Int) = u by omega] at this
        exact this
      · walk_at "rd"
        exact rest _ _ (ho _ (List.getElem_mem hk)) (b2.trans b3) hp3
    · walk_at "rd"
      exact rest _ _ hn b2 hp2
  · walk_at "rd"
    exact rest _ _ hn But.refl hp
theorem pure_law_lengths (h : sp_law_lengths K vs H Q E) : t_law_lengths K (En Q) (start N_law_lengths vs) H := by
  obtain ⟨p, rfl, hP, q⟩ := h
  unfold t_law_lengths
  walk_at "rd"
  refine ⟨p, 6, rfl, hP, by omega, by omega, fun kind H1 k0 k1 b1 hp1 => ?_⟩
  walk_at "rd"
  refine ⟨p, 40, rfl, hp1, by omega, by omega, fun base H2 c0 c1 b2 hp2 => ?_⟩
  walk_at "rd"
  intro o H3 no s3 e3
  have hp3 := pl_same s3 hp2
  have po : o ≠ p := by
    obtain ⟨x, y, z, e⟩ := hp2
    exact (ne_of_none e no).symm
  walk_at "rd"
  intro l H4 nl s4 e4
  have hp4 := pl_same s4 hp3
  walk_at "rd"
  refine ⟨p, 10, rfl, hp4, by omega, by omega, fun v H5 v0 v1 b5 hp5 => ?_⟩
  have lp : l ≠ p := by
    obtain ⟨x, y, z, e⟩ := hp3
    exact (ne_of_none e nl).symm
  have e5 := b5 _ _ lp e4
  obtain ⟨m, em, hm⟩ := len10 v0 v1
  refine r_ixL (sqL_of e5) em ?_
  walk_at "rd"
  rw [Int.toNat_natCast]
  have eo5 := b5 _ _ po (s4 _ _ e3)
  have nH : ∀ c, c ≠ p → H2 c = none → H c = none := fun c hc e => by
    cases e0 : H c with
    | none => rfl
    | some u => rw [b2 _ _ hc (b1 _ _ hc e0)] at e; cases e
  refine r_forRange0 (fun i σ' H' => ∃ (outs : List Nat) (z4 z5 : Option V), σ' = [some (.ref p), some (.int kind), some (.int (1 + base)), some (.ref o), z4, z5] ∧ But p H H' ∧ Pl H' p ∧ H' o = some (.lst (natsV outs)) ∧ outs.length = i ∧ ∀ s ∈ outs, 1 ≤ s ∧ s ≤ 600)
    ⟨[], none, none, rfl, (((b1.trans b2).trans (Same.but s3)).trans (Same.but s4)).trans b5, hp5, eo5, rfl, fun s hs => (nomatch hs)⟩ (fun i σ' H' hi hW => ?_) (fun σ' H' hW => ?_)
  · obtain ⟨outs, z4, z5, rfl, bt, hp, eo, hl, ho⟩ := hW
    refine size_ifs hp (by omega) (by omega) fun n H6 n1 n2 b6 hp6 => ?_
    have eo6 := b6 _ _ po eo
    refine again_if hp6 po eo6 (by omega) ⟨n1, n2⟩ ho fun n' H7 hn' b7 hp7 => ?_
    have eo7 := b7 _ _ po eo6
    walk_at "rd"
    refine r_append eo7 (by rw [nats_len, sizeLine_eq]; omega) fun H8 b8 e8 => ?_
    walk_at "rd"
    refine ⟨outs ++ [n'], _, _, rfl, but_via ((bt.trans b6).trans b7) b8 (nH o po no), ?_, by rw [e8]; simp [natsV], by rw [List.length_append, hl]; rfl, fun s hs => ?_⟩
    · obtain ⟨x, y, z, e⟩ := hp7
      exact ⟨x, y, z, b8 _ _ po.symm e⟩
    · rcases List.mem_append.mp hs with hs | hs
      · exact ho s hs
      · rw [List.mem_singleton] at hs; subst hs; exact hn'
  · obtain ⟨outs, z4, z5, rfl, bt, hp, eo, hl, ho⟩ := hW
    walk_at "rd"
    intro t H6 nt s6 e6
    have tp : t ≠ p := by
      obtain ⟨x, y, z, e⟩ := hp
      exact (ne_of_none e nt).symm
    refine q t H6 outs ?_ (bt.trans (Same.but s6)) (pl_same s6 hp) (sqT_ofD e6) (by omega) ho
    cases e0 : H t with
    | none => rfl
    | some u => rw [bt _ _ tp e0] at nt; cases nt
theorem natsV_ints (S : List Nat) : natsV S = (S.map fun (n : Nat) => (n : Int)).map V.int := by unfold natsV; rw [List.map_map]; rfl
theorem nats_at {l : List Nat} {k : Nat} (h : k < l.length) : atI (natsV l) (k : Int) = some (.int (l.getD k 0 : Nat)) := by
  refine atI_nat ?_
  unfold natsV
  rw [List.getElem?_map, List.getD_eq_getElem?_getD, List.getElem?_eq_getElem h]
  rfl
theorem ways_eq (S : List Nat) (p : Nat → Bool) (f : Nat → Nat) (p' : Int → Bool) (f' : Int → Int) (hp : ∀ s : Nat, s ∈ S → p' (s : Int) = p s) (hf : ∀ s : Nat, s ∈ S → f' (s : Int) = (f s : Int)) :
    ((S.map fun (n : Nat) => (n : Int)).filter p').map (fun y => V.int (f' y)) = natsV ((S.filter p).map f) := by
  induction S with
  | nil => rfl
  | cons s S ih =>
    have ih' := ih (fun s h => hp s (by simp [h])) (fun s h => hf s (by simp [h]))
    rw [List.map_cons]
    by_cases z : p s = true
    · rw [List.filter_cons_of_pos (by rw [hp s (by simp)]; exact z), List.filter_cons_of_pos z, List.map_cons, List.map_cons, ih', hf s (by simp)]
      rfl
    · rw [List.filter_cons_of_neg (by rw [hp s (by simp)]; exact z), List.filter_cons_of_neg z, ih']
/-- the law's dict, up to the total j -/
structure Lad (S : List Nat) (m j : Nat) (kvs : List (Key × V)) : Prop where
  nd : (kvs.map Prod.fst).Nodup
  val : ∀ key v, valV kvs key = some v ↔ ∃ t k : Nat, key = .inl (t : Int) ∧ v = .int (k : Int) ∧ t < j ∧ dv S m t ≤ m ∧ dv S m t = k
  len : kvs.length ≤ j
theorem Lad.put {S : List Nat} {m j : Nat} {kvs : List (Key × V)} (h : Lad S m j kvs) (hj : dv S m j ≤ m) : Lad S m (j + 1) (putK kvs (.inl (j : Int)) (.int (dv S m j : Nat))) := by
  have hn : valV kvs (.inl (j : Int)) = none := by
    cases e : valV kvs (.inl (j : Int)) with
    | none => rfl
    | some v =>
      obtain ⟨t, k, e1, _, h1, _⟩ := (h.val _ v).mp e
      have := Sum.inl.inj e1
      omega
  refine ⟨?_, fun key v => ?_, ?_⟩
  · rw [putK_new _ hn, List.map_append, List.nodup_append]
    refine ⟨h.nd, by simp, fun a ha b hb => ?_⟩
    rw [List.map_cons, List.map_nil, List.mem_singleton] at hb
    subst hb
    rintro rfl
    have := val_mem.mpr ha
    rw [hn] at this
    cases this
  · rw [valV_put]
    by_cases e : key = .inl (j : Int)
    · rw [if_pos e]
      subst e
      constructor
      · intro z
        exact ⟨j, _, rfl, (Option.some.inj z).symm, by omega, hj, rfl⟩
      · rintro ⟨t, k, e1, rfl, _, _, rfl⟩
        have : t = j := by have := Sum.inl.inj e1; omega
        subst this
        rfl
    · rw [if_neg e, h.val]
      constructor
      · rintro ⟨t, k, rfl, rfl, h1, h2⟩
        exact ⟨t, k, rfl, rfl, by omega, h2⟩
      · rintro ⟨t, k, rfl, rfl, h1, h2⟩
        refine ⟨t, k, rfl, rfl, ?_, h2⟩
        by_cases z : t = j
        · subst z; exact absurd rfl e
        · omega
  · rw [putK_new _ hn, List.length_append]
    have := h.len
    simp only [List.length_cons, List.length_nil]
    omega
theorem Lad.skip {S : List Nat} {m j : Nat} {kvs : List (Key × V)} (h : Lad S m j kvs) (hj : ¬ dv S m j ≤ m) : Lad S m (j + 1) kvs := by
  refine ⟨h.nd, fun key v => ?_, by have := h.len; omega⟩
  rw [h.val]
  constructor
  · rintro ⟨t, k, rfl, rfl, h1, h2⟩
    exact ⟨t, k, rfl, rfl, by omega, h2⟩
  · rintro ⟨t, k, rfl, rfl, h1, h2⟩
    refine ⟨t, k, rfl, rfl, ?_, h2⟩
    by_cases z : t = j
    · subst z; exact absurd h2.1 hj
    · omega
theorem Lad.lay {S : List Nat} {m M : Nat} {kvs : List (Key × V)} (hS : ∀ s ∈ S, 0 < s) (hM : ∀ s ∈ S, s ≤ M) (h : Lad S m (m * M + 1) kvs) : Lay S m kvs [] := by
  refine ⟨h.nd, fun key v => ?_, fun t ht => (nomatch ht), Nat.zero_le _⟩
  rw [h.val]
  constructor
  · rintro ⟨t, k, rfl, rfl, h1, h2⟩
    exact ⟨t, k, rfl, rfl, .inl ((dv_iff hS).mpr h2)⟩
  · rintro ⟨t, k, rfl, rfl, c | ⟨_, c⟩⟩
    · have h3 := sm_le hM c.2.1
      have h4 : k * M ≤ m * M := Nat.mul_le_mul_right _ c.1
      exact ⟨t, k, rfl, rfl, by omega, (dv_iff hS).mp c⟩
    · cases c
theorem pure_law_due (h : sp_law_due K vs H Q E) : t_law_due K (En Q) (start N_law_due vs) H := by
  obtain ⟨a, S, m, rfl, hS, hl, hs, hm, q⟩ := h
  have hSi : SqT K H a ((S.map fun (n : Nat) => (n : Int)).map V.int) := by rw [← natsV_ints]; exact hS
  unfold t_law_due
  walk_at "rd"
  refine r_maxD hSi fun mx c1 c2 => ?_
  obtain ⟨M, rfl, hM, hM6⟩ : ∃ M : Nat, mx = (M : Int) ∧ (∀ s ∈ S, s ≤ M) ∧ M ≤ 600 := by
    by_cases z : S = []
    · subst z
      exact ⟨0, c1 rfl, fun s hs => (nomatch hs), by omega⟩
    · obtain ⟨d1, d2⟩ := c2 (by simpa using z)
      obtain ⟨M, hM, rfl⟩ := List.mem_map.mp d1
      refine ⟨M, rfl, fun s hs => ?_, (hs M hM).2⟩
      have := d2 (s : Int) (List.mem_map.mpr ⟨s, hs, rfl⟩)
      omega
  have hmM : m * M ≤ 60 * 600 := Nat.mul_le_mul hm hM6
  have ec : ((m : Int) * (M : Int)) = ((m * M : Nat) : Int) := (Int.natCast_mul m M).symm
  walk_at "rd"
  intro l H1 nl s1 e1
  rw [ec]
  walk_at "rd"
  rw [show (((m * M : Nat) : Int) + 1 - 1).toNat = m * M by omega]
  refine r_forRange (fun i σ' H' => ∃ (z4 z5 z6 z7 : Option V), σ' = [some (.ref a), some (.int (m : Int)), some (.int ((m * M : Nat) : Int)), some (.ref l), z4, z5, z6, z7, none, none] ∧ Same H H' ∧ H' l = some (.lst (natsV (dl S m i))))
    ⟨none, none, none, none, rfl, s1, e1⟩ (fun i σ' H' hi hW => ?_) (fun σ' H' hW => ?_)
  · obtain ⟨z4, z5, z6, z7, rfl, st, el⟩ := hW
    have hS' := sqT_same st hS
    have hSi' := sqT_same st hSi
    walk_at "rd"
    refine r_lcTf (ns := S.map fun (n : Nat) => (n : Int)) (fun x => decide (x ≤ 1 + (i : Int))) (fun x => (((dl S m i).getD (i + 1 - x.toNat) 0 : Nat) : Int)) hSi' (by rw [List.length_map]; omega) (fun _ => rfl) (fun x H2 QB hx s2 k => ?_) (fun x H2 Q' hx s2 hp k => ?_) (fun w H2 nw s2 e2 => ?_)
    · walk_at "rd"
      exact k
    · obtain ⟨s, hsS, rfl⟩ := List.mem_map.mp hx
      have h1 := hs s hsS
      have h2 : (s : Int) ≤ 1 + (i : Int) := of_decide_eq_true hp
      have e := s2 _ _ el
      walk_at "rd"
      have hk : i + 1 - s < (dl S m i).length := by rw [dl_len]; omega
      have ha := nats_at hk
      rw [show ((i + 1 - s : Nat) : Int) = 1 + (i : Int) - (s : Int) by omega] at ha
      refine r_ixL (sqL_of e) ha ?_
      exact k
    · rw [ways_eq S (fun s => decide (s ≤ i + 1)) (fun s => (dl S m i).getD (i + 1 - s) 0) _ _ (fun s _ => by
        by_cases z : s ≤ i + 1
        · rw [decide_eq_true z, decide_eq_true (by omega)]
        · rw [decide_eq_false z, decide_eq_false (by omega)]) (fun s _ => by rw [Int.toNat_natCast])] at e2
      have el2 := s2 _ _ el
      walk_at "rd"
      refine r_forLst (xs := natsV ((S.filter fun s => decide (s ≤ i + 1)).map fun s => (dl S m i).getD (i + 1 - s) 0)) (fun j σ3 H3 => ∃ (z7 : Option V), σ3 = [some (.ref a), some (.int (m : Int)), some (.int ((m * M : Nat) : Int)), some (.ref l), some (.int (1 + (i : Int))), some (.ref w), some (.int (((((S.filter fun s => decide (s ≤ i + 1)).map fun s => (dl S m i).getD (i + 1 - s) 0).take j).foldl (fun b w => min b (w + 1)) (m + 1) : Nat) : Int)), z7, none, none] ∧ H3 = H2)
        ⟨_, rfl, rfl⟩ (fun j σ3 H3 hj hW => ?_) (fun j x σ3 H3 hx hW => ?_) (fun σ3 H3 hW => ?_)
      · obtain ⟨z7, rfl, rfl⟩ := hW
        exact sqL_of e2
      · obtain ⟨z7, rfl, rfl⟩ := hW
        obtain ⟨t, ht, rfl⟩ := nats_get hx
        walk_at "rd"
        refine r_min2 ?_
        walk_at "rd"
        refine ⟨some (.int (t : Int)), ?_, rfl⟩
        rw [List.take_add_one, ht]
        have e5 : ∀ B : Nat, min (B : Int) ((t : Int) + 1) = ((min B (t + 1) : Nat) : Int) := fun B => by omega
        rw [e5, List.foldl_append]
        rfl
      · obtain ⟨z7, rfl, rfl⟩ := hW
        rw [nats_len, List.take_length]
        walk_at "rd"
        refine r_append el2 (by rw [nats_len, dl_len, sizeLine_eq]; omega) fun H4 b4 e4 => ?_
        walk_at "rd"
        refine ⟨_, _, _, _, rfl, same_but (st.trans s2) b4 nl, ?_⟩
        rw [e4]
        unfold natsV
        rw [dl, List.map_append]
        rfl
  · obtain ⟨z4, z5, z6, z7, rfl, st, el⟩ := hW
    refine r_seq (r_asg (r_dNewK fun d H2 nd s2 e2 => r_name ?_))
    have el2 := s2 _ _ el
    have ld : l ≠ d := ne_of_none el nd
    walk_at "rd"
    rw [show (((m * M : Nat) : Int) + 1).toNat = m * M + 1 by omega]
    refine r_forRange0 (fun j σ' H' => ∃ (z4 : Option V) (kvs : List (Key × V)), σ' = [some (.ref a), some (.int (m : Int)), some (.int ((m * M : Nat) : Int)), some (.ref l), z4, z5, z6, z7, some (.ref d), none] ∧ Same H H' ∧ H' l = some (.lst (natsV (dl S m (m * M)))) ∧ H' d = some (.dK kvs) ∧ Lad S m j kvs)
      ⟨_, [], rfl, st.trans s2, el2, e2, ⟨by simp, fun key v => ⟨fun z => (by rw [valV_nil] at z; cases z), fun ⟨t, k, _, _, z, _⟩ => absurd z (Nat.not_lt_zero _)⟩, Nat.le_refl _⟩⟩ (fun j σ' H' hj hW => ?_) (fun σ' H' hW => ?_)
    · obtain ⟨z4, kvs, rfl, st3, el3, ed3, hL⟩ := hW
      have hk : j < (dl S m (m * M)).length := by rw [dl_len]; omega
      have ha := nats_at hk
      rw [dl_get S m (by omega)] at ha
      have hlen := hL.len
      walk_at "rd"
      refine r_ite (fun h0 => ?_) (fun h0 => ?_)
      · walk_at "rd"
        refine r_kPut (k := .inl (j : Int)) ed3 rfl (by rw [sizeLine_eq]; omega) fun H4 b4 e4 => ?_
        exact ⟨_, _, rfl, same_but st3 b4 (st.free nd), b4 _ _ ld el3, e4, hL.put (by omega)⟩
      · walk_at "rd"
        exact ⟨_, kvs, rfl, st3, el3, ed3, hL.skip (by omega)⟩
    · obtain ⟨z4, kvs, rfl, st3, el3, ed3, hL⟩ := hW
      walk_at "rd"
      exact q d H' kvs (st.free nd) st3 ed3 (hL.lay (fun s h => (hs s h).1) hM)
theorem Lay.congr {S T : List Nat} {m : Nat} {kvs : List (Key × V)} (e : ∀ s, s ∈ S ↔ s ∈ T) (h : Lay S m kvs []) : Lay T m kvs [] := by
  refine ⟨h.nd, fun key v => ?_, fun t ht => (nomatch ht), h.len⟩
  rw [h.val]
  constructor
  · rintro ⟨t, k, rfl, rfl, c | ⟨_, c⟩⟩
    · exact ⟨t, k, rfl, rfl, .inl ⟨c.1, (lst_same e).mp c.2⟩⟩
    · cases c
  · rintro ⟨t, k, rfl, rfl, c | ⟨_, c⟩⟩
    · exact ⟨t, k, rfl, rfl, .inl ⟨c.1, (lst_same e).mpr c.2⟩⟩
    · cases c
theorem pl_but {p l : Addr} {H H' : Hp} (b : But l H H') (n : p ≠ l) (h : Pl H p) : Pl H' p := by
  obtain ⟨x, y, z, e⟩ := h
  exact ⟨x, y, z, b _ _ n e⟩
theorem r_tupTo {a : Addr} {xs : List V} {k : Nat} {m : Int} {H : Hp} {Q : VK} (h : SqT K H a xs) (e : m = (k : Int)) (q : ∀ p H', Same H H' → SqT K H' p (xs.take k) → Q (.ref p) H') : rSlU K (.ref a) none (some m) H Q := by
  subst e
  refine .inr (.inl ⟨a, xs, rfl, h, fun z => ?_, fun z p hp => ?_⟩)
  · have z2 := z.2
    rw [HT.sIx_nat] at z2
    refine q a H (Same.refl _) ?_
    rw [List.take_of_length_le (by omega)]
    exact h
  · refine q p _ (same_new hp) ?_
    have : cutV xs none (some (k : Int)) = xs.take k := by
      unfold cutV
      rw [HT.sIx_nat, HT.sIx_none, List.drop_zero, Nat.sub_zero]
      by_cases hk : k ≤ xs.length
      · rw [Nat.min_eq_left hk]
      · rw [Nat.min_eq_right (by omega), List.take_of_length_le (Nat.le_refl _), List.take_of_length_le (by omega)]
    rw [this]
    exact sqT_of upd_same
theorem r_catT {a b : Addr} {xs ys : List V} {H : Hp} {Q : VK} (h1 : SqT K H a xs) (h2 : SqT K H b ys) (hz : xs.length + ys.length ≤ sizeLine) (q : ∀ p H', Same H H' → SqT K H' p (xs ++ ys) → Q (.ref p) H') : rAddU K (.ref a) (.ref b) H Q := by
  refine .inr (.inr (.inr ⟨a, b, xs, ys, rfl, rfl, h1, h2, hz, fun e => ?_, fun _ e => ?_, fun _ _ p hp => ?_⟩))
  · exact q b H (Same.refl _) (by rw [e]; exact h2)
  · exact q a H (Same.refl _) (by rw [e, List.append_nil]; exact h1)
  · exact q p _ (same_new hp) (sqT_of upd_same)
theorem most_if {R : TS} {D : Ends} {a p s : Addr} {S : List Nat} {m : Nat} {z4 z5 z6 z7 : Option V} {H : Hp} (hp : Pl H p) (hS : SqT K H s (natsV S)) (hs : ∀ s ∈ S, 1 ≤ s ∧ s ≤ 600) (hm : m ≤ 60)
    (rest : ∀ (m : Nat) H', m ≤ 60 → But p H H' → Pl H' p → R D [some (.ref a), some (.ref p), some (.ref s), some (.int (m : Int)), z4, z5, z6, z7] H') :
    tSeq (tIfS ((tTest (tOp rGtU ((tCall (sp_law_draw K) [] E0 (tCons (tVar 1) (tCons ((tC (.int 16))) tNil)))) ((tC (.int 0)))))) ((tAsg ((tCB rMin2 (tCons (tVar 3) (tCons ((tOp rFdivU ((tC (.int 6000))) ((tCB (rMaxDf K 1) (tCons (tVar 2) tNil))))) tNil)))) (gName 3))) (tNext)) R D
      [some (.ref a), some (.ref p), some (.ref s), some (.int (m : Int)), z4, z5, z6, z7] H := by
  walk_at "rd"
  refine ⟨p, 16, rfl, hp, by omega, by omega, fun v H2 v0 v1 b2 hp2 => ?_⟩
  walk_at "rd"
  refine r_ite (fun h0 => ?_) (fun h0 => ?_)
  · have hS2 : SqT K H2 s ((S.map fun (n : Nat) => (n : Int)).map V.int) := by
      rw [← natsV_ints]
      obtain ⟨x, y, z, e⟩ := hp
      exact sqT_but b2 e hS
    walk_at "rd"
    refine r_maxD hS2 fun mx c1 c2 => ?_
    have h1 : 1 ≤ mx := by
      by_cases z : S = []
      · subst z
        have := c1 rfl
        omega
      · obtain ⟨d1, _⟩ := c2 (by simpa using z)
        obtain ⟨M, hM, rfl⟩ := List.mem_map.mp d1
        have := (hs M hM).1
        omega
    have h2 : mx < 2 ^ 200 := by
      by_cases z : S = []
      · subst z
        have := c1 rfl
        omega
      · obtain ⟨d1, _⟩ := c2 (by simpa using z)
        obtain ⟨M, hM, rfl⟩ := List.mem_map.mp d1
        have := (hs M hM).2
        omega
    refine r_fdiv (by omega) (log2_small (by omega) h2) ?_
    walk_at "rd"
    refine r_min2 ?_
    walk_at "rd"
    have h3 : 0 ≤ 6000 / mx := Int.ediv_nonneg (by omega) (by omega)
    have := rest (min (m : Int) (6000 / mx)).toNat H2 (by omega) b2 hp2
    rw [show (((min (m : Int) (6000 / mx)).toNat : Nat) : Int) = min (m : Int) (6000 / mx) by omega] at this
    exact this
  · walk_at "rd"
    exact rest m H2 hm b2 hp2
theorem back_if {R : TS} {D : Ends} {a p s b : Addr} {S T : List Nat} {z3 z4 z5 z7 : Option V} {H : Hp} (hS : SqT K H s (natsV S)) (hT : SqT K H b (natsV T)) (hl : S.length ≤ 12) (hl2 : T.length ≤ 12) (hs : ∀ x, x ∈ T ↔ x ∈ S)
    (rest : ∀ (b : Addr) (T : List Nat) H', Same H H' → SqT K H' b (natsV T) → T.length ≤ 24 → (∀ x, x ∈ T ↔ x ∈ S) → R D [some (.ref a), some (.ref p), some (.ref s), z3, z4, z5, some (.ref b), z7] H') :
    tSeq (tIfS ((tTest (tOp (rLtU K) ((tCB (rLenU K) (tCons (tVar 6) tNil))) ((tC (.int 12)))))) ((tAsg ((tOp (rAddU K) (tVar 6) ((tSl (rSlU K) (tVar 2) tNoPart (tPart ((tC (.int 1)))))))) (gName 6))) (tNext)) R D
      [some (.ref a), some (.ref p), some (.ref s), z3, z4, z5, some (.ref b), z7] H := by
  walk_at "rd"
  refine r_ite (fun h0 => ?_) (fun h0 => ?_)
  · walk_at "rd"
    refine r_tupTo (k := 1) hS rfl fun q H2 s2 e2 => ?_
    have hT2 := sqT_same s2 hT
    refine r_catT hT2 e2 (by rw [nats_len, List.length_take, nats_len, sizeLine_eq]; omega) fun q3 H3 s3 e3 => ?_
    walk_at "rd"
    refine rest q3 (T ++ S.take 1) H3 (s2.trans s3) ?_ (by rw [List.length_append, List.length_take]; omega) fun x => ?_
    · have : natsV T ++ (natsV S).take 1 = natsV (T ++ S.take 1) := by unfold natsV; rw [List.map_append, List.map_take]
      rw [← this]; exact e3
    · rw [List.mem_append]
      exact ⟨fun h => h.elim (fun h => (hs x).mp h) (fun h => List.mem_of_mem_take h), fun h => .inl ((hs x).mpr h)⟩
  · walk_at "rd"
    exact rest b T H (Same.refl _) hT (by omega) hs
theorem pure_law (h : sp_law K vs H Q E) : t_law K (En Q) (start N_law vs) H := by
  obtain ⟨a, ns, rfl, hA, hn, q⟩ := h
  unfold t_law
  walk_at "rd"
  refine ⟨a, ns, 0, rfl, hA, hn, by omega, fun p H1 np s1 hp1 => ?_⟩
  walk_at "rd"
  refine ⟨p, rfl, hp1, fun s H2 S ns2 b2 hp2 hS2 hl hs => ?_⟩
  walk_at "rd"
  refine ⟨p, 61, rfl, hp2, by omega, by omega, fun dv H3 d0 d1 b3 hp3 => ?_⟩
  walk_at "rd"
  intro l H4 nl s4 e4
  have hp4 := pl_same s4 hp3
  walk_at "rd"
  refine ⟨p, 10, rfl, hp4, by omega, by omega, fun v H5 v0 v1 b5 hp5 => ?_⟩
  have lp : l ≠ p := by
    obtain ⟨x, y, z, e⟩ := hp3
    exact (ne_of_none e nl).symm
  have e5 := b5 _ _ lp e4
  obtain ⟨m0, em, hm0⟩ := most10 v0 v1 d0 d1
  have hS5 : SqT K H5 s (natsV S) := by
    obtain ⟨x, y, z, e⟩ := hp2
    obtain ⟨x', y', z', e'⟩ := hp4
    exact sqT_but b5 e' (sqT_same s4 (sqT_but b3 e hS2))
  refine r_ixL (sqL_of e5) em ?_
  refine r_name ?_
  refine most_if hp5 hS5 hs hm0 fun m H6 hm b6 hp6 => ?_
  have hS6 : SqT K H6 s (natsV S) := by
    obtain ⟨x, y, z, e⟩ := hp5
    exact sqT_but b6 e hS5
  walk_at "rd"
  refine ⟨s, S, m, rfl, hS6, by omega, hs, hm, fun d H7 kvs nd7 s7 ed7 L7 => ?_⟩
  walk_at "rd"
  refine ⟨s, S, m, rfl, sqT_same s7 hS6, by omega, hs, hm, fun t H8 kts nt8 s8 et8 L8 => ?_⟩
  have td : t ≠ d := (ne_of_none ed7 nt8).symm
  have ed8 := s8 _ _ ed7
  walk_at "rd"
  refine ⟨t, d, S, m, kts, kvs, rfl, td, et8, ed8, L8, L7, ?_⟩
  walk_at "rd"
  have hp8 := pl_same s8 (pl_same s7 hp6)
  refine ⟨p, 9, rfl, hp8, by omega, by omega, fun u H9 u0 u1 b9 hp9 => ?_⟩
  have tp : t ≠ p := by
    obtain ⟨x, y, z, e⟩ := pl_same s7 hp6
    exact (ne_of_none e nt8).symm
  have dp : d ≠ p := by
    obtain ⟨x, y, z, e⟩ := hp6
    exact (ne_of_none e nd7).symm
  have et9 := b9 _ _ tp et8
  have ed9 := b9 _ _ dp ed8
  have hS9 : SqT K H9 s (natsV S) := by
    obtain ⟨x, y, z, e⟩ := hp8
    exact sqT_but b9 e (sqT_same s8 (sqT_same s7 hS6))
  have kl := keys_le (mx := 600) (fun s h => (hs s h).2) L8
  walk_at "rd"
  refine r_kPut (k := .inl 0) et9 rfl (by rw [sizeLine_eq]; omega) fun H10 b10 e10 => ?_
  have ed10 := b10 _ _ td.symm ed9
  have hS10 := sqT_butD b10 et9 hS9
  have pl10 := length_putK kts (.inl 0) (.int (1 + u))
  walk_at "rd"
  refine r_kPut (k := .inl (-1)) e10 rfl (by rw [sizeLine_eq]; omega) fun H11 b11 e11 => ?_
  have ed11 := b11 _ _ td.symm ed10
  have hS11 := sqT_butD b11 e10 hS10
  refine r_seq (r_asg (r_revU ?_))
  walk_at "rd"
  refine r_prev hS11 fun b H12 nb s12 e12 => ?_
  have hB12 : SqT K H12 b (natsV S.reverse) := by
    have : (natsV S).reverse = natsV S.reverse := by unfold natsV; rw [List.map_reverse]
    rw [← this]; exact sqT_of e12
  refine r_name ?_
  refine back_if (sqT_same s12 hS11) hB12 hl (by rw [List.length_reverse]; exact hl) (fun x => List.mem_reverse) fun b2 T H13 s13 hT13 lT hT => ?_
  have ed13 := s13 _ _ (s12 _ _ ed11)
  have hS13 := sqT_same s13 (sqT_same s12 hS11)
  walk_at "rd"
  refine ⟨b2, T, m, rfl, hT13, by omega, fun x hx => hs x ((hT x).mp hx), hm, fun g H14 kgs ng14 s14 eg14 L14 => ?_⟩
  have ed14 := s14 _ _ ed13
  walk_at "rd"
  refine ⟨g, d, S, m, kgs, kvs, rfl, (ne_of_none ed13 ng14).symm, eg14, ed14, L14.congr hT, L7, ?_⟩
  walk_at "rd"
  have fin : ∀ (H15 : Hp), Same H14 H15 → PDPut (.ref g) (.int 0) (.int 2) H15 fun H4 => tRet (tCall (sp_law_right K) [] E0 (tCons (tCall (sp_fewest_sums K) [] E0 (tCons (tVar 2) (tCons (tVar 3) tNil))) (tCons (tVar 4) tNil))) (En Q)
      [some (.ref a), some (.ref p), some (.ref s), some (.int (m : Int)), some (.ref d), some (.ref t), some (.ref b2), some (.ref g)] H4 := fun H15 s15 => by
    have kg := keys_le (mx := 600) (fun s h => (hs s ((hT s).mp h)).2) L14
    refine r_kPut (k := .inl 0) (s15 _ _ eg14) rfl (by rw [sizeLine_eq]; omega) fun H16 b16 e16 => ?_
    have ed16 := b16 _ _ (ne_of_none ed13 ng14) (s15 _ _ ed14)
    walk_at "rd"
    refine ⟨s, S, m, rfl, sqT_butD b16 (s15 _ _ eg14) (sqT_same s15 (sqT_same s14 hS13)), by omega, hs, hm, fun r H17 krs nr s17 er L17 => ?_⟩
    walk_at "rd"
    refine ⟨r, d, S, m, krs, kvs, rfl, (ne_of_none ed16 nr).symm, er, s17 _ _ ed16, L17, L7, q _⟩
  refine r_ite (fun h0 => ?_) (fun h0 => ?_)
  · obtain ⟨m', rfl⟩ : ∃ m', m = m' + 1 := ⟨m - 1, by omega⟩
    have e1 : (((m' + 1 : Nat) : Int) - 1) = (m' : Int) := by omega
    walk_at "rd"
    rw [e1]
    refine ⟨s, S, m', rfl, sqT_same s14 hS13, by omega, hs, by omega, fun x H15 kx nx15 s15 ex15 L15 => ?_⟩
    walk_at "rd"
    rw [e1]
    refine ⟨s, S, m', rfl, sqT_same s15 (sqT_same s14 hS13), by omega, hs, by omega, fun y H16 ky ny16 s16 ey16 L16 => ?_⟩
    walk_at "rd"
    refine ⟨x, y, S, m', kx, ky, rfl, ne_of_none ex15 ny16, s16 _ _ ex15, ey16, L15, L16, ?_⟩
    walk_at "rd"
    exact fin _ (s15.trans s16)
  · walk_at "rd"
    exact fin _ (Same.refl _)
end
end Kb

set_option Elab.async false
set_option linter.all false
set_option maxRecDepth 100000
set_option maxHeartbeats 4000000
namespace Kb
open PySem PySem.Spec PyProof.Rows L2
def top (i : Nat) : Stmt := PySem.Challenge.pw_ringingchamber_k44_sums_of_lengths.main.body.getD i (.Pass ⟨0, 0, 0, 0⟩)
abbrev s_fewest_sums : Stmt := top 1
abbrev s_law_cell : Stmt := top 3
abbrev s_law_pool : Stmt := top 4
abbrev s_law_draw : Stmt := top 5
abbrev s_law_is_integer : Stmt := top 6
abbrev s_law_lengths : Stmt := top 7
abbrev s_law_due : Stmt := top 8
abbrev s_law_right : Stmt := top 9
abbrev s_law : Stmt := top 10
structure Bn (mg : Str → Option Value) : Prop where
  n_abs : mg "abs" = none
  n_bool : mg "bool" = none
  n_dict : mg "dict" = none
  n_int : mg "int" = none
  n_isinstance : mg "isinstance" = none
  n_len : mg "len" = none
  n_list : mg "list" = none
  n_max : mg "max" = none
  n_min : mg "min" = none
  n_range : mg "range" = none
  n_tuple : mg "tuple" = none
section
variable {P : Program} {w : World} {K : PySem.W.Frag} {mg : Str → Option Value} {base : Heap}
theorem sc_fewest_sums : FnScope N_fewest_sums ["lengths", "most"] (defScope s_fewest_sums) := ⟨rfl, rfl, rfl, by decide +kernel, rfl, by decide +kernel, by decide +kernel⟩
theorem ok_fewest_sums (D : At K mg "fewest_sums" s_fewest_sums) (B : Bn mg) : Fn P w K mg base CX0 1 "fewest_sums" ["lengths", "most"] (sp_fewest_sums K) := by
  obtain ⟨f, fd, F, hm⟩ := D
  refine ⟨f, fd, F.ok sc_fewest_sums (fun vs H Q E h => len_fewest_sums h) (fun cdv A outer s H vs Q E hr h => ⟨t_fewest_sums K, ?_, pure_fewest_sums h⟩), hm, F.kp, F.binds fun _ _ _ _ _ _ us hl => match us, hl with | [_, _], _ => rfl⟩
  have nd := sc_fewest_sums.nd
  exact pss_cons (ps_set (i := 2) nd rfl (Or.inl rfl) ((pe_disp (pps_cons (pe_int) (pe_int) pps_nil) (by rfl) (by rfl) (fun z => by cases z) (by decide))))
      (pss_cons (ps_set (i := 3) nd rfl (Or.inl rfl) ((pe_lst (pa_cons (pe_int) pa_nil))))
      (pss_cons (ps_for PassesOwn.never rfl (pi_range2 (by rfl) B.n_range (pa_cons (pe_int) (pa_cons ((pe_op op_addU (pv 1) (pe_int))) pa_nil))) (pg_name (i := 4) nd rfl (Or.inl rfl)) (pss_cons (ps_set (i := 5) nd rfl (Or.inl rfl) ((pe_lst pa_nil)))
      (pss_cons (ps_for PassesOwn.never rfl (pi_seqU (pv 3)) (pg_name (i := 6) nd rfl (Or.inl rfl)) (pss_one (ps_for PassesOwn.never rfl (pi_seqU (pv 0)) (pg_name (i := 7) nd rfl (Or.inl rfl)) (pss_one (ps_if ((pt_cmp (pc_dnotin (hu_of hr) ((pe_op op_addU (pv 6) (pv 7))) (pv 2)))) (pss_cons (ps_dput (hu_of hr) (pv 2) ((pe_op op_addU (pv 6) (pv 7))) (pv 4) rfl)
      (pss_one (ps_expr ((pe_bm PySem.F.plainAttrs_list PySem.F.slot_list_append PySem.F.type_list_append mt_append (pv 5) (pa_cons ((pe_op op_addU (pv 6) (pv 7))) pa_nil)))))) (pss_nil))))))
      (pss_one (ps_set (i := 3) nd rfl (Or.inl rfl) ((pe_callTy call_listU (by rfl) B.n_list (by decide +kernel) (pa_cons (pv 5) pa_nil))))))))
      (pss_one (ps_ret (pv 2)))))

theorem sc_law_cell : FnScope N_law_cell ["script", "k"] (defScope s_law_cell) := ⟨rfl, rfl, rfl, by decide +kernel, rfl, by decide +kernel, by decide +kernel⟩
theorem ok_law_cell (D : At K mg "_law_cell" s_law_cell) (B : Bn mg) : Fn P w K mg base CX0 1 "_law_cell" ["script", "k"] (sp_law_cell K) := by
  obtain ⟨f, fd, F, hm⟩ := D
  refine ⟨f, fd, F.ok sc_law_cell (fun vs H Q E h => len_law_cell h) (fun cdv A outer s H vs Q E hr h => ⟨t_law_cell K, ?_, pure_law_cell h⟩), hm, F.kp, F.binds fun _ _ _ _ _ _ us hl => match us, hl with | [_, _], _ => rfl⟩
  have nd := sc_law_cell.nd
  exact pss_cons (ps_if ((pt_cmpR (op_ltU hr.units) (pv 1) ((pe_callB call_lenU (by rfl) B.n_len (by decide +kernel) (pa_cons (pv 0) pa_nil))) (nomark _))) (pss_one (ps_ret ((pe_callB call_absU (by rfl) B.n_abs (by decide +kernel) (pa_cons ((pe_callTy call_intU (by rfl) B.n_int (by decide +kernel) (pa_cons ((pe_ix ix_seq (pv 0) (pv 1) (fun _ _ => rfl))) pa_nil))) pa_nil))))) (pss_nil))
      (pss_cons (ps_if ((pt_cmpR (op_eqU hr.units) ((pe_callB call_lenU (by rfl) B.n_len (by decide +kernel) (pa_cons (pv 0) pa_nil))) (pe_int) (nomark _))) (pss_one (ps_ret (pe_int))) (pss_nil))
      (pss_one (ps_ret ((pe_op op_modU ((pe_callB call_absU (by rfl) B.n_abs (by decide +kernel) (pa_cons ((pe_callTy call_intU (by rfl) B.n_int (by decide +kernel) (pa_cons ((pe_ix ix_seq (pv 0) ((pe_op op_modU ((pe_callTy call_intU (by rfl) B.n_int (by decide +kernel) (pa_cons (pv 1) pa_nil))) ((pe_callB call_lenU (by rfl) B.n_len (by decide +kernel) (pa_cons (pv 0) pa_nil))))) (fun _ _ => rfl))) pa_nil))) pa_nil))) (pe_int))))))

theorem sc_law_pool : FnScope N_law_pool ["script", "k"] (defScope s_law_pool) := ⟨rfl, rfl, rfl, by decide +kernel, rfl, by decide +kernel, by decide +kernel⟩
theorem ok_law_pool (D : At K mg "_law_pool" s_law_pool) (B : Bn mg) (G_law_cell : Fn P w K mg base CX0 1 "_law_cell" ["script", "k"] (sp_law_cell K)) : Fn P w K mg base CX0 2 "_law_pool" ["script", "k"] (sp_law_pool K) := by
  obtain ⟨f, fd, F, hm⟩ := D
  refine ⟨f, fd, F.ok sc_law_pool (fun vs H Q E h => len_law_pool h) (fun cdv A outer s H vs Q E hr h => ⟨t_law_pool K, ?_, pure_law_pool h⟩), hm, F.kp, F.binds fun _ _ _ _ _ _ us hl => match us, hl with | [_, _], _ => rfl⟩
  have nd := sc_law_pool.nd
  exact pss_cons (ps_set (i := 2) nd rfl (Or.inl rfl) ((pe_callF G_law_cell (hr.mono (by decide)) (by rfl) pass0 (pa_cons (pv 0) (pa_cons (pv 1) pa_nil)))))
      (pss_cons (ps_if ((pt_cmpR op_geU (pv 2) ((pe_op op_powU (pe_int) (pe_int))) (nomark _))) (pss_one (ps_ret ((pe_lst (pa_cons ((pe_op op_subU (pv 2) ((pe_op op_powU (pe_int) (pe_int))))) (pa_cons ((pe_op op_modU ((pe_callTy call_intU (by rfl) B.n_int (by decide +kernel) (pa_cons (pv 2) pa_nil))) (pe_int))) (pa_cons (pe_int) pa_nil))))))) (pss_nil))
      (pss_one (ps_ret ((pe_lst (pa_cons (pe_int) (pa_cons ((pe_op op_addU (pv 2) ((pe_op op_mulU (pe_int) ((pe_op op_addU (pv 1) (pe_int))))))) (pa_cons (pe_int) pa_nil))))))))

theorem sc_law_draw : FnScope N_law_draw ["pool", "many"] (defScope s_law_draw) := ⟨rfl, rfl, rfl, by decide +kernel, rfl, by decide +kernel, by decide +kernel⟩
theorem ok_law_draw (D : At K mg "_law_draw" s_law_draw) (B : Bn mg) : Fn P w K mg base CX0 1 "_law_draw" ["pool", "many"] (sp_law_draw K) := by
  obtain ⟨f, fd, F, hm⟩ := D
  refine ⟨f, fd, F.ok sc_law_draw (fun vs H Q E h => len_law_draw h) (fun cdv A outer s H vs Q E hr h => ⟨t_law_draw K, ?_, pure_law_draw h⟩), hm, F.kp, F.binds fun _ _ _ _ _ _ us hl => match us, hl with | [_, _], _ => rfl⟩
  have nd := sc_law_draw.nd
  exact pss_cons (ps_asg ((pe_op op_addU ((pe_ix ix_seq (pv 0) (pe_int) (fun _ _ => rfl))) (pe_int))) (pg_sub (pv 0) (pe_int) set_list))
      (pss_cons (ps_if ((pt_cmpR op_gtU ((pe_ix ix_seq (pv 0) (pe_int) (fun _ _ => rfl))) (pe_int) (nomark _))) (pss_cons (ps_set (i := 2) nd rfl (Or.inl rfl) ((pe_op op_modU ((pe_callTy call_intU (by rfl) B.n_int (by decide +kernel) (pa_cons ((pe_ix ix_seq (pv 0) (pe_int) (fun _ _ => rfl))) pa_nil))) (pv 1))))
      (pss_cons (ps_asg ((pe_op op_fdivU ((pe_ix ix_seq (pv 0) (pe_int) (fun _ _ => rfl))) (pv 1))) (pg_sub (pv 0) (pe_int) set_list))
      (pss_one (ps_ret (pv 2))))) (pss_nil))
      (pss_cons (ps_set (i := 3) nd rfl (Or.inl rfl) ((pe_op op_modU ((pe_callTy call_intU (by rfl) B.n_int (by decide +kernel) (pa_cons ((pe_op op_addU ((pe_ix ix_seq (pv 0) (pe_int) (fun _ _ => rfl))) ((pe_op op_mulU (pe_int) ((pe_ix ix_seq (pv 0) (pe_int) (fun _ _ => rfl))))))) pa_nil))) (pe_int))))
      (pss_cons (ps_set (i := 3) nd rfl (Or.inl rfl) ((pe_op op_modU ((pe_callTy call_intU (by rfl) B.n_int (by decide +kernel) (pa_cons ((pe_op op_addU ((pe_op op_addU ((pe_op op_mulU (pv 3) (pv 3))) ((pe_op op_mulU (pe_int) ((pe_ix ix_seq (pv 0) (pe_int) (fun _ _ => rfl))))))) ((pe_ix ix_seq (pv 0) (pe_int) (fun _ _ => rfl))))) pa_nil))) (pe_int))))
      (pss_cons (ps_set (i := 3) nd rfl (Or.inl rfl) ((pe_op op_modU ((pe_callTy call_intU (by rfl) B.n_int (by decide +kernel) (pa_cons ((pe_op op_addU ((pe_op op_mulU (pv 3) (pv 3))) (pe_int))) pa_nil))) (pe_int))))
      (pss_one (ps_ret ((pe_op op_modU ((pe_callTy call_intU (by rfl) B.n_int (by decide +kernel) (pa_cons ((pe_op op_fdivU (pv 3) (pe_int))) pa_nil))) (pv 1)))))))))

theorem sc_law_is_integer : FnScope N_law_is_integer ["told"] (defScope s_law_is_integer) := ⟨rfl, rfl, rfl, by decide +kernel, rfl, by decide +kernel, by decide +kernel⟩
theorem ok_law_is_integer (D : At K mg "_law_is_integer" s_law_is_integer) (B : Bn mg) : Fn P w K mg base CX0 1 "_law_is_integer" ["told"] (sp_law_is_integer K) := by
  obtain ⟨f, fd, F, hm⟩ := D
  refine ⟨f, fd, F.ok sc_law_is_integer (fun vs H Q E h => len_law_is_integer h) (fun cdv A outer s H vs Q E hr h => ⟨t_law_is_integer K, ?_, pure_law_is_integer h⟩), hm, F.kp, F.binds fun _ _ _ _ _ _ us hl => match us, hl with | [_], _ => rfl⟩
  have nd := sc_law_is_integer.nd
  exact pss_one (ps_ret ((pe_and ((pe_callB call_isi (by rfl) B.n_isinstance (by decide +kernel) (pa_cons (pv 0) (pa_cons ((pe_bltn (by rfl) B.n_int (by decide +kernel) rfl)) pa_nil)))) (pe_one ((pe_not ((pe_callB call_isi (by rfl) B.n_isinstance (by decide +kernel) (pa_cons (pv 0) (pa_cons ((pe_bltn (by rfl) B.n_bool (by decide +kernel) rfl)) pa_nil))))))))))

theorem sc_law_lengths : FnScope N_law_lengths ["pool"] (defScope s_law_lengths) := ⟨rfl, rfl, rfl, by decide +kernel, rfl, by decide +kernel, by decide +kernel⟩
theorem ok_law_lengths (D : At K mg "_law_lengths" s_law_lengths) (B : Bn mg) (G_law_draw : Fn P w K mg base CX0 1 "_law_draw" ["pool", "many"] (sp_law_draw K)) : Fn P w K mg base CX0 2 "_law_lengths" ["pool"] (sp_law_lengths K) := by
  obtain ⟨f, fd, F, hm⟩ := D
  refine ⟨f, fd, F.ok sc_law_lengths (fun vs H Q E h => len_law_lengths h) (fun cdv A outer s H vs Q E hr h => ⟨t_law_lengths K, ?_, pure_law_lengths h⟩), hm, F.kp, F.binds fun _ _ _ _ _ _ us hl => match us, hl with | [_], _ => rfl⟩
  have nd := sc_law_lengths.nd
  exact pss_cons (ps_set (i := 1) nd rfl (Or.inl rfl) ((pe_callF G_law_draw (hr.mono (by decide)) (by rfl) pass0 (pa_cons (pv 0) (pa_cons (pe_int) pa_nil)))))
      (pss_cons (ps_set (i := 2) nd rfl (Or.inl rfl) ((pe_op op_addU (pe_int) ((pe_callF G_law_draw (hr.mono (by decide)) (by rfl) pass0 (pa_cons (pv 0) (pa_cons (pe_int) pa_nil)))))))
      (pss_cons (ps_set (i := 3) nd rfl (Or.inl rfl) ((pe_lst pa_nil)))
      (pss_cons (ps_for PassesOwn.never rfl (pi_range1 (by rfl) B.n_range (pa_cons ((pe_ix ix_seq ((pe_lst (pa_cons (pe_int) (pa_cons (pe_int) (pa_cons (pe_int) (pa_cons (pe_int) (pa_cons (pe_int) (pa_cons (pe_int) (pa_cons (pe_int) (pa_cons (pe_int) (pa_cons (pe_int) (pa_cons (pe_int) pa_nil)))))))))))) ((pe_callF G_law_draw (hr.mono (by decide)) (by rfl) pass0 (pa_cons (pv 0) (pa_cons (pe_int) pa_nil)))) (fun _ _ => rfl))) pa_nil)) (pg_name (i := 4) nd rfl (Or.inl rfl)) (pss_cons (ps_if ((pt_cmpR (op_ltU hr.units) (pv 1) (pe_int) (nomark _))) (pss_one (ps_set (i := 5) nd rfl (Or.inl rfl) ((pe_op op_addU (pe_int) ((pe_callF G_law_draw (hr.mono (by decide)) (by rfl) pass0 (pa_cons (pv 0) (pa_cons (pe_int) pa_nil)))))))) (pss_one (ps_if ((pt_cmpR (op_eqU hr.units) (pv 1) (pe_int) (nomark _))) (pss_one (ps_set (i := 5) nd rfl (Or.inl rfl) ((pe_op op_subU (pe_int) ((pe_callF G_law_draw (hr.mono (by decide)) (by rfl) pass0 (pa_cons (pv 0) (pa_cons (pe_int) pa_nil)))))))) (pss_one (ps_if ((pt_cmpR (op_eqU hr.units) (pv 1) (pe_int) (nomark _))) (pss_one (ps_set (i := 5) nd rfl (Or.inl rfl) ((pe_op op_mulU (pv 2) ((pe_op op_addU (pe_int) ((pe_callF G_law_draw (hr.mono (by decide)) (by rfl) pass0 (pa_cons (pv 0) (pa_cons (pe_int) pa_nil)))))))))) (pss_one (ps_set (i := 5) nd rfl (Or.inl rfl) ((pe_op op_addU (pe_int) ((pe_callF G_law_draw (hr.mono (by decide)) (by rfl) pass0 (pa_cons (pv 0) (pa_cons (pe_int) pa_nil)))))))))))))
      (pss_cons (ps_if ((PW.pt (pw_and ((pt_truU (pv 3) (by intro _; rfl))) (pw_and1 ((pt_cmpR (op_eqU hr.units) ((pe_callF G_law_draw (hr.mono (by decide)) (by rfl) pass0 (pa_cons (pv 0) (pa_cons (pe_int) pa_nil)))) (pe_int) (nomark _))))))) (pss_one (ps_set (i := 5) nd rfl (Or.inl rfl) ((pe_ix ix_seq (pv 3) ((pe_callF G_law_draw (hr.mono (by decide)) (by rfl) pass0 (pa_cons (pv 0) (pa_cons ((pe_callB call_lenU (by rfl) B.n_len (by decide +kernel) (pa_cons (pv 3) pa_nil))) pa_nil)))) (fun _ _ => rfl))))) (pss_nil))
      (pss_one (ps_expr ((pe_bm PySem.F.plainAttrs_list PySem.F.slot_list_append PySem.F.type_list_append mt_append (pv 3) (pa_cons (pv 5) pa_nil))))))))
      (pss_one (ps_ret ((pe_tupD (by rfl) B.n_tuple (pv 3))))))))

theorem sc_law_due : FnScope N_law_due ["sizes", "most"] (defScope s_law_due) := ⟨rfl, rfl, rfl, by decide +kernel, rfl, by decide +kernel, by decide +kernel⟩
theorem ok_law_due (D : At K mg "_law_due" s_law_due) (B : Bn mg) : Fn P w K mg base CX0 1 "_law_due" ["sizes", "most"] (sp_law_due K) := by
  obtain ⟨f, fd, F, hm⟩ := D
  refine ⟨f, fd, F.ok sc_law_due (fun vs H Q E h => len_law_due h) (fun cdv A outer s H vs Q E hr h => ⟨t_law_due K, ?_, pure_law_due h⟩), hm, F.kp, F.binds fun _ _ _ _ _ _ us hl => match us, hl with | [_, _], _ => rfl⟩
  have nd := sc_law_due.nd
  exact pss_cons (ps_set (i := 2) nd rfl (Or.inl rfl) ((pe_op op_mulU (pv 1) ((pe_maxD rfl (by rfl) B.n_max (pa_cons (pv 0) pa_nil))))))
      (pss_cons (ps_set (i := 3) nd rfl (Or.inr rfl) ((pe_lst (pa_cons (pe_int) pa_nil))))
      (pss_cons (ps_for PassesOwn.never rfl (pi_range2 (by rfl) B.n_range (pa_cons (pe_int) (pa_cons ((pe_op op_addU (pv 2) (pe_int))) pa_nil))) (pg_name (i := 4) nd rfl (Or.inr rfl)) (pss_cons (ps_setLc (i := 5) (own := [("size", 9)]) (g := (gName 9)) (tt := (tTest (tOp (rLeU K) (tVar 9) (tVar 4)))) rfl nd rfl rfl (sw_true rfl rfl rfl (by decide +kernel)) ((pi_seqU (pv 0))) (blkOk_by (N := (N_law_due : List Str)) (sc := defScope s_law_due) (by decide +kernel)) (fun _ _ _ _ _ => (pg_name (i := 9) nd rfl (Or.inl rfl))) (fun _ _ _ _ _ => (pts_one ((pt_cmpR (op_leU hr.units) (pv 9) (pv 4) (nomark _))))) (fun _ _ _ _ _ => (pe_ix ix_seq (pv 3) ((pe_op op_subU (pv 4) (pv 9))) (fun _ _ => rfl))))
      (pss_cons (ps_set (i := 6) nd rfl (Or.inl rfl) ((pe_op op_addU (pv 1) (pe_int))))
      (pss_cons (ps_for PassesOwn.never rfl (pi_seqU (pv 5)) (pg_name (i := 7) nd rfl (Or.inl rfl)) (pss_one (ps_set (i := 6) nd rfl (Or.inl rfl) ((pe_callB (call_min2 rfl) (by rfl) B.n_min (by decide +kernel) (pa_cons (pv 6) (pa_cons ((pe_op op_addU (pv 7) (pe_int))) pa_nil)))))))
      (pss_one (ps_expr ((pe_bm PySem.F.plainAttrs_list PySem.F.slot_list_append PySem.F.type_list_append mt_append (pv 3) (pa_cons (pv 6) pa_nil)))))))))
      (pss_cons (ps_set (i := 8) nd rfl (Or.inl rfl) (pe_dnewK))
      (pss_cons (ps_for PassesOwn.never rfl (pi_range1 (by rfl) B.n_range (pa_cons ((pe_op op_addU (pv 2) (pe_int))) pa_nil)) (pg_name (i := 4) nd rfl (Or.inr rfl)) (pss_one (ps_if ((pt_cmpR (op_leU hr.units) ((pe_ix ix_seq (pv 3) (pv 4) (fun _ _ => rfl))) (pv 1) (nomark _))) (pss_one (ps_dput (hu_of hr) (pv 8) (pv 4) ((pe_ix ix_seq (pv 3) (pv 4) (fun _ _ => rfl))) rfl)) (pss_nil))))
      (pss_one (ps_ret (pv 8)))))))

theorem sc_law_right : FnScope N_law_right ["told", "due"] (defScope s_law_right) := ⟨rfl, rfl, rfl, by decide +kernel, rfl, by decide +kernel, by decide +kernel⟩
theorem ok_law_right (D : At K mg "_law_right" s_law_right) (B : Bn mg) (G_law_is_integer : Fn P w K mg base CX0 1 "_law_is_integer" ["told"] (sp_law_is_integer K)) : Fn P w K mg base CX0 2 "_law_right" ["told", "due"] (sp_law_right K) := by
  obtain ⟨f, fd, F, hm⟩ := D
  refine ⟨f, fd, F.ok sc_law_right (fun vs H Q E h => len_law_right h) (fun cdv A outer s H vs Q E hr h => ⟨t_law_right K, ?_, pure_law_right h⟩), hm, F.kp, F.binds fun _ _ _ _ _ _ us hl => match us, hl with | [_, _], _ => rfl⟩
  have nd := sc_law_right.nd
  exact pss_cons (ps_if ((PW.pt (pw_or ((pt_not ((pt_truU ((pe_callB call_isi (by rfl) B.n_isinstance (by decide +kernel) (pa_cons (pv 0) (pa_cons ((pe_bltn (by rfl) B.n_dict (by decide +kernel) rfl)) pa_nil)))) (by intro _; rfl))))) (pw_or1 ((pt_cmpR (op_neU hr.units) ((pe_callB call_lenU (by rfl) B.n_len (by decide +kernel) (pa_cons (pv 0) pa_nil))) ((pe_callB call_lenU (by rfl) B.n_len (by decide +kernel) (pa_cons (pv 1) pa_nil))) (nomark _))))))) (pss_one (ps_ret (pe_bl))) (pss_nil))
      (pss_cons (ps_lock (ps_for PassesOwn.never rfl (pi_keys (pv 0)) (pg_name (i := 2) nd rfl (Or.inl rfl)) (pss_cons (ps_if ((PW.pt (pw_or ((pt_not ((pt_truU ((pe_callF G_law_is_integer (hr.mono (by decide)) (by rfl) pass0 (pa_cons (pv 2) pa_nil))) (by intro _; rfl))))) (pw_or1 ((pt_cmp (pc_dnotin (hu_of hr) (pv 2) (pv 1)))))))) (pss_one (ps_ret (pe_bl))) (pss_nil))
      (pss_one (ps_if ((PW.pt (pw_or ((pt_not ((pt_truU ((pe_callF G_law_is_integer (hr.mono (by decide)) (by rfl) pass0 (pa_cons ((pe_dget (hu_of hr) (pv 0) (pv 2) (fun _ _ => rfl))) pa_nil))) (by intro _; rfl))))) (pw_or1 ((pt_cmpR (op_neU hr.units) ((pe_dget (hu_of hr) (pv 0) (pv 2) (fun _ _ => rfl))) ((pe_dget (hu_of hr) (pv 1) (pv 2) (fun _ _ => rfl))) (nomark _))))))) (pss_one (ps_ret (pe_bl))) (pss_nil))))))
      (pss_one (ps_ret (pe_bl))))

theorem sc_law : FnScope N_law ["script"] (defScope s_law) := ⟨rfl, rfl, rfl, by decide +kernel, rfl, by decide +kernel, by decide +kernel⟩
theorem ok_lawF {f : Addr} {fd : FuncData} (F : Fun K "law" "law" s_law f fd) (B : Bn mg) (G_law_pool : Fn P w K mg base CX0 2 "_law_pool" ["script", "k"] (sp_law_pool K)) (G_law_lengths : Fn P w K mg base CX0 2 "_law_lengths" ["pool"] (sp_law_lengths K)) (G_law_draw : Fn P w K mg base CX0 1 "_law_draw" ["pool", "many"] (sp_law_draw K)) (G_law_due : Fn P w K mg base CX0 1 "_law_due" ["sizes", "most"] (sp_law_due K)) (G_fewest_sums : Fn P w K mg base CX0 1 "fewest_sums" ["lengths", "most"] (sp_fewest_sums K)) (G_law_right : Fn P w K mg base CX0 2 "_law_right" ["told", "due"] (sp_law_right K)) : FnOk P w K mg base CX0 3 f fd ["script"] (sp_law K) := by
  refine F.ok sc_law (fun vs H Q E h => len_law h) (fun cdv A outer s H vs Q E hr h => ⟨t_law K, ?_, pure_law h⟩)
  have nd := sc_law.nd
  exact pss_cons (ps_set (i := 1) nd rfl (Or.inl rfl) ((pe_callF G_law_pool (hr.mono (by decide)) (by rfl) pass0 (pa_cons (pv 0) (pa_cons (pe_int) pa_nil)))))
      (pss_cons (ps_set (i := 2) nd rfl (Or.inl rfl) ((pe_callF G_law_lengths (hr.mono (by decide)) (by rfl) pass0 (pa_cons (pv 1) pa_nil))))
      (pss_cons (ps_set (i := 3) nd rfl (Or.inl rfl) ((pe_ix ix_seq ((pe_lst (pa_cons (pe_int) (pa_cons (pe_int) (pa_cons (pe_int) (pa_cons (pe_int) (pa_cons (pe_int) (pa_cons (pe_int) (pa_cons (pe_int) (pa_cons (pe_int) (pa_cons (pe_int) (pa_cons ((pe_callF G_law_draw (hr.mono (by decide)) (by rfl) pass0 (pa_cons (pv 1) (pa_cons (pe_int) pa_nil)))) pa_nil)))))))))))) ((pe_callF G_law_draw (hr.mono (by decide)) (by rfl) pass0 (pa_cons (pv 1) (pa_cons (pe_int) pa_nil)))) (fun _ _ => rfl))))
      (pss_cons (ps_if ((pt_cmpR op_gtU ((pe_callF G_law_draw (hr.mono (by decide)) (by rfl) pass0 (pa_cons (pv 1) (pa_cons (pe_int) pa_nil)))) (pe_int) (nomark _))) (pss_one (ps_set (i := 3) nd rfl (Or.inl rfl) ((pe_callB (call_min2 rfl) (by rfl) B.n_min (by decide +kernel) (pa_cons (pv 3) (pa_cons ((pe_op op_fdivU (pe_int) ((pe_maxD rfl (by rfl) B.n_max (pa_cons (pv 2) pa_nil))))) pa_nil)))))) (pss_nil))
      (pss_cons (ps_set (i := 4) nd rfl (Or.inl rfl) ((pe_callF G_law_due (hr.mono (by decide)) (by rfl) pass0 (pa_cons (pv 2) (pa_cons (pv 3) pa_nil)))))
      (pss_cons (ps_set (i := 5) nd rfl (Or.inl rfl) ((pe_callF G_fewest_sums (hr.mono (by decide)) (by rfl) pass0 (pa_cons (pv 2) (pa_cons (pv 3) pa_nil)))))
      (pss_cons (ps_if ((pt_not ((pt_truU ((pe_callF G_law_right (hr.mono (by decide)) (by rfl) pass0 (pa_cons (pv 5) (pa_cons (pv 4) pa_nil)))) (by intro _; rfl))))) (pss_one (ps_ret (pe_bl))) (pss_nil))
      (pss_cons (ps_dput (hu_of hr) (pv 5) (pe_int) ((pe_op op_addU (pe_int) ((pe_callF G_law_draw (hr.mono (by decide)) (by rfl) pass0 (pa_cons (pv 1) (pa_cons (pe_int) pa_nil)))))) rfl)
      (pss_cons (ps_dput (hu_of hr) (pv 5) ((pe_un un_neg (pe_int))) (pe_int) rfl)
      (pss_cons (ps_set (i := 6) nd rfl (Or.inl rfl) ((pe_revU (pv 2) (po_some ((pe_un un_neg (pe_int)))))))
      (pss_cons (ps_if ((pt_cmpR (op_ltU hr.units) ((pe_callB call_lenU (by rfl) B.n_len (by decide +kernel) (pa_cons (pv 6) pa_nil))) (pe_int) (nomark _))) (pss_one (ps_set (i := 6) nd rfl (Or.inl rfl) ((pe_op op_addU (pv 6) ((pe_slice sl_U (pv 2) po_none (po_some (pe_int)))))))) (pss_nil))
      (pss_cons (ps_set (i := 7) nd rfl (Or.inl rfl) ((pe_callF G_fewest_sums (hr.mono (by decide)) (by rfl) pass0 (pa_cons (pv 6) (pa_cons (pv 3) pa_nil)))))
      (pss_cons (ps_if ((pt_not ((pt_truU ((pe_callF G_law_right (hr.mono (by decide)) (by rfl) pass0 (pa_cons (pv 7) (pa_cons (pv 4) pa_nil)))) (by intro _; rfl))))) (pss_one (ps_ret (pe_bl))) (pss_nil))
      (pss_cons (ps_if ((PW.pt (pw_and ((pt_cmpR op_gtU (pv 3) (pe_int) (nomark _))) (pw_and1 ((pt_not ((pt_truU ((pe_callF G_law_right (hr.mono (by decide)) (by rfl) pass0 (pa_cons ((pe_callF G_fewest_sums (hr.mono (by decide)) (by rfl) pass0 (pa_cons (pv 2) (pa_cons ((pe_op op_subU (pv 3) (pe_int))) pa_nil)))) (pa_cons ((pe_callF G_law_due (hr.mono (by decide)) (by rfl) pass0 (pa_cons (pv 2) (pa_cons ((pe_op op_subU (pv 3) (pe_int))) pa_nil)))) pa_nil)))) (by intro _; rfl))))))))) (pss_one (ps_ret (pe_bl))) (pss_nil))
      (pss_cons (ps_dput (hu_of hr) (pv 7) (pe_int) (pe_int) rfl)
      (pss_one (ps_ret ((pe_callF G_law_right (hr.mono (by decide)) (by rfl) pass0 (pa_cons ((pe_callF G_fewest_sums (hr.mono (by decide)) (by rfl) pass0 (pa_cons (pv 2) (pa_cons (pv 3) pa_nil)))) (pa_cons (pv 4) pa_nil))))))))))))))))))))

end
theorem all_mk {l : PySem.W.OpenLaw} {w : World} {K : PySem.W.Frag} {h : Heap} {mg : Str → Option Value} {fa : Addr} (X : K.In h) (G : h.Ns mainGlobals mg) (hfa : mg "law" = some (.ref fa))
    {f1 : Addr} {od1 an1 : Option Addr} {sl1 : Array (Option Value)} {oc1 kV1 dc1 pm1 cd1 ct1 : Value}
    {f2 : Addr} {od2 an2 : Option Addr} {sl2 : Array (Option Value)} {oc2 kV2 dc2 pm2 cd2 ct2 : Value}
    {f3 : Addr} {od3 an3 : Option Addr} {sl3 : Array (Option Value)} {oc3 kV3 dc3 pm3 cd3 ct3 : Value}
    {f4 : Addr} {od4 an4 : Option Addr} {sl4 : Array (Option Value)} {oc4 kV4 dc4 pm4 cd4 ct4 : Value}
    {f5 : Addr} {od5 an5 : Option Addr} {sl5 : Array (Option Value)} {oc5 kV5 dc5 pm5 cd5 ct5 : Value}
    {f6 : Addr} {od6 an6 : Option Addr} {sl6 : Array (Option Value)} {oc6 kV6 dc6 pm6 cd6 ct6 : Value}
    {f7 : Addr} {od7 an7 : Option Addr} {sl7 : Array (Option Value)} {oc7 kV7 dc7 pm7 cd7 ct7 : Value}
    {f8 : Addr} {od8 an8 : Option Addr} {sl8 : Array (Option Value)} {oc8 kV8 dc8 pm8 cd8 ct8 : Value}
    {f9 : Addr} {od9 an9 : Option Addr} {sl9 : Array (Option Value)} {oc9 kV9 dc9 pm9 cd9 ct9 : Value}
    (a1 : PySem.W.nsIn K mainGlobals "fewest_sums" = some (some (.ref f1))) (l1 : K.lookup f1 = some ⟨oc1, od1, .func (PySem.W.fnOf "fewest_sums" "fewest_sums" (defArgs s_fewest_sums) (defBody s_fewest_sums) (defScope s_fewest_sums) .none kV1 dc1 pm1 an1 cd1 ct1), sl1⟩) (c1 : PySem.W.codeIn K cd1 "fewest_sums" = true) (k1 : PySem.W.keepIn K (.ref f1) = true)
    (a2 : PySem.W.nsIn K mainGlobals "_law_cell" = some (some (.ref f2))) (l2 : K.lookup f2 = some ⟨oc2, od2, .func (PySem.W.fnOf "_law_cell" "_law_cell" (defArgs s_law_cell) (defBody s_law_cell) (defScope s_law_cell) .none kV2 dc2 pm2 an2 cd2 ct2), sl2⟩) (c2 : PySem.W.codeIn K cd2 "_law_cell" = true) (k2 : PySem.W.keepIn K (.ref f2) = true)
    (a3 : PySem.W.nsIn K mainGlobals "_law_pool" = some (some (.ref f3))) (l3 : K.lookup f3 = some ⟨oc3, od3, .func (PySem.W.fnOf "_law_pool" "_law_pool" (defArgs s_law_pool) (defBody s_law_pool) (defScope s_law_pool) .none kV3 dc3 pm3 an3 cd3 ct3), sl3⟩) (c3 : PySem.W.codeIn K cd3 "_law_pool" = true) (k3 : PySem.W.keepIn K (.ref f3) = true)
    (a4 : PySem.W.nsIn K mainGlobals "_law_draw" = some (some (.ref f4))) (l4 : K.lookup f4 = some ⟨oc4, od4, .func (PySem.W.fnOf "_law_draw" "_law_draw" (defArgs s_law_draw) (defBody s_law_draw) (defScope s_law_draw) .none kV4 dc4 pm4 an4 cd4 ct4), sl4⟩) (c4 : PySem.W.codeIn K cd4 "_law_draw" = true) (k4 : PySem.W.keepIn K (.ref f4) = true)
    (a5 : PySem.W.nsIn K mainGlobals "_law_is_integer" = some (some (.ref f5))) (l5 : K.lookup f5 = some ⟨oc5, od5, .func (PySem.W.fnOf "_law_is_integer" "_law_is_integer" (defArgs s_law_is_integer) (defBody s_law_is_integer) (defScope s_law_is_integer) .none kV5 dc5 pm5 an5 cd5 ct5), sl5⟩) (c5 : PySem.W.codeIn K cd5 "_law_is_integer" = true) (k5 : PySem.W.keepIn K (.ref f5) = true)
    (a6 : PySem.W.nsIn K mainGlobals "_law_lengths" = some (some (.ref f6))) (l6 : K.lookup f6 = some ⟨oc6, od6, .func (PySem.W.fnOf "_law_lengths" "_law_lengths" (defArgs s_law_lengths) (defBody s_law_lengths) (defScope s_law_lengths) .none kV6 dc6 pm6 an6 cd6 ct6), sl6⟩) (c6 : PySem.W.codeIn K cd6 "_law_lengths" = true) (k6 : PySem.W.keepIn K (.ref f6) = true)
    (a7 : PySem.W.nsIn K mainGlobals "_law_due" = some (some (.ref f7))) (l7 : K.lookup f7 = some ⟨oc7, od7, .func (PySem.W.fnOf "_law_due" "_law_due" (defArgs s_law_due) (defBody s_law_due) (defScope s_law_due) .none kV7 dc7 pm7 an7 cd7 ct7), sl7⟩) (c7 : PySem.W.codeIn K cd7 "_law_due" = true) (k7 : PySem.W.keepIn K (.ref f7) = true)
    (a8 : PySem.W.nsIn K mainGlobals "_law_right" = some (some (.ref f8))) (l8 : K.lookup f8 = some ⟨oc8, od8, .func (PySem.W.fnOf "_law_right" "_law_right" (defArgs s_law_right) (defBody s_law_right) (defScope s_law_right) .none kV8 dc8 pm8 an8 cd8 ct8), sl8⟩) (c8 : PySem.W.codeIn K cd8 "_law_right" = true) (k8 : PySem.W.keepIn K (.ref f8) = true)
    (a9 : PySem.W.nsIn K mainGlobals "law" = some (some (.ref f9))) (l9 : K.lookup f9 = some ⟨oc9, od9, .func (PySem.W.fnOf "law" "law" (defArgs s_law) (defBody s_law) (defScope s_law) .none kV9 dc9 pm9 an9 cd9 ct9), sl9⟩) (c9 : PySem.W.codeIn K cd9 "law" = true) (k9 : PySem.W.keepIn K (.ref f9) = true)
    (z_abs : PySem.W.nsIn K mainGlobals "abs" = some none)
    (z_bool : PySem.W.nsIn K mainGlobals "bool" = some none)
    (z_dict : PySem.W.nsIn K mainGlobals "dict" = some none)
    (z_int : PySem.W.nsIn K mainGlobals "int" = some none)
    (z_isinstance : PySem.W.nsIn K mainGlobals "isinstance" = some none)
    (z_len : PySem.W.nsIn K mainGlobals "len" = some none)
    (z_list : PySem.W.nsIn K mainGlobals "list" = some none)
    (z_max : PySem.W.nsIn K mainGlobals "max" = some none)
    (z_min : PySem.W.nsIn K mainGlobals "min" = some none)
    (z_range : PySem.W.nsIn K mainGlobals "range" = some none)
    (z_tuple : PySem.W.nsIn K mainGlobals "tuple" = some none)
    : ∃ fd : FuncData, (∀ (s : Shared) (v : Value), BindsTo s fd ⟨[v], []⟩ [("script", v)]) ∧ ∀ base : Heap, K.In base → base.Ns mainGlobals mg → FnOk l.prog w K mg base CX0 3 fa fd ["script"] (sp_law K) := by
  have e := hfa.symm.trans (PySem.W.mg_of X G a9)
  cases e
  have B : Bn mg := ⟨PySem.W.mg_none_of X G z_abs, PySem.W.mg_none_of X G z_bool, PySem.W.mg_none_of X G z_dict, PySem.W.mg_none_of X G z_int, PySem.W.mg_none_of X G z_isinstance, PySem.W.mg_none_of X G z_len, PySem.W.mg_none_of X G z_list, PySem.W.mg_none_of X G z_max, PySem.W.mg_none_of X G z_min, PySem.W.mg_none_of X G z_range, PySem.W.mg_none_of X G z_tuple⟩
  have D1 : At K mg "fewest_sums" s_fewest_sums := ⟨_, _, fun_mk (st := s_fewest_sums) l1 c1 k1, PySem.W.mg_of X G a1⟩
  have D2 : At K mg "_law_cell" s_law_cell := ⟨_, _, fun_mk (st := s_law_cell) l2 c2 k2, PySem.W.mg_of X G a2⟩
  have D3 : At K mg "_law_pool" s_law_pool := ⟨_, _, fun_mk (st := s_law_pool) l3 c3 k3, PySem.W.mg_of X G a3⟩
  have D4 : At K mg "_law_draw" s_law_draw := ⟨_, _, fun_mk (st := s_law_draw) l4 c4 k4, PySem.W.mg_of X G a4⟩
  have D5 : At K mg "_law_is_integer" s_law_is_integer := ⟨_, _, fun_mk (st := s_law_is_integer) l5 c5 k5, PySem.W.mg_of X G a5⟩
  have D6 : At K mg "_law_lengths" s_law_lengths := ⟨_, _, fun_mk (st := s_law_lengths) l6 c6 k6, PySem.W.mg_of X G a6⟩
  have D7 : At K mg "_law_due" s_law_due := ⟨_, _, fun_mk (st := s_law_due) l7 c7 k7, PySem.W.mg_of X G a7⟩
  have D8 : At K mg "_law_right" s_law_right := ⟨_, _, fun_mk (st := s_law_right) l8 c8 k8, PySem.W.mg_of X G a8⟩
  have D9 : At K mg "law" s_law := ⟨_, _, fun_mk (st := s_law) l9 c9 k9, PySem.W.mg_of X G a9⟩
  have FL := fun_mk (st := s_law) l9 c9 k9
  refine ⟨PySem.W.fnOf "law" "law" (defArgs s_law) (defBody s_law) (defScope s_law) .none kV9 dc9 pm9 an9 cd9 ct9, fun s v => .of_eq rfl, fun base _ _ => ?_⟩
  have G1 := ok_fewest_sums (P := l.prog) (w := w) (base := base) D1 B
  have G2 := ok_law_cell (P := l.prog) (w := w) (base := base) D2 B
  have G3 := ok_law_pool (P := l.prog) (w := w) (base := base) D3 B G2
  have G4 := ok_law_draw (P := l.prog) (w := w) (base := base) D4 B
  have G5 := ok_law_is_integer (P := l.prog) (w := w) (base := base) D5 B
  have G6 := ok_law_lengths (P := l.prog) (w := w) (base := base) D6 B G4
  have G7 := ok_law_due (P := l.prog) (w := w) (base := base) D7 B
  have G8 := ok_law_right (P := l.prog) (w := w) (base := base) D8 B G5
  exact ok_lawF FL B G3 G6 G4 G7 G1 G8
end Kb
open PySem PySem.W PyProof.Rows
set_option maxRecDepth 100000 in
set_option maxHeartbeats 0 in
theorem PySem.Challenge.cw_ringingchamber_k44_sums_of_lengths_holds : PySem.Challenge.rw_ringingchamber_k44_sums_of_lengths.Holds := by
  w_on; o_law; k_head; (case hw => w_witness2)
  k_fill
  refine L2.walk_of (l := PySem.Challenge.rw_ringingchamber_k44_sums_of_lengths) (n := 63) (k := 3) (x := "script") (CX := fun _ => L2.CX0) (sp := fun w => Kb.sp_law _) rfl (by decide) rfl ⟨rfl, by decide, by decide⟩ (fun w h Y => PySem.W.kIn_of Y) ?F (fun _ _ a ns hl _ hS => ⟨a, ns, rfl, hS, hl, fun _ => rfl⟩) (fun _ _ _ _ _ h => h)
  case F =>
    intro w mg fa h KX G hmg
    refine' Kb.all_mk KX G hmg ?a1 ?l1 ?c1 ?k1 ?a2 ?l2 ?c2 ?k2 ?a3 ?l3 ?c3 ?k3 ?a4 ?l4 ?c4 ?k4 ?a5 ?l5 ?c5 ?k5 ?a6 ?l6 ?c6 ?k6 ?a7 ?l7 ?c7 ?k7 ?a8 ?l8 ?c8 ?k8 ?a9 ?l9 ?c9 ?k9 ?z_abs ?z_bool ?z_dict ?z_int ?z_isinstance ?z_len ?z_list ?z_max ?z_min ?z_range ?z_tuple
    (case a1 => k_is); (case l1 => k_is); (case c1 => k_is); (case k1 => k_is); (case a2 => k_is); (case l2 => k_is); (case c2 => k_is); (case k2 => k_is); (case a3 => k_is); (case l3 => k_is); (case c3 => k_is); (case k3 => k_is); (case a4 => k_is); (case l4 => k_is); (case c4 => k_is); (case k4 => k_is); (case a5 => k_is); (case l5 => k_is); (case c5 => k_is); (case k5 => k_is); (case a6 => k_is); (case l6 => k_is); (case c6 => k_is); (case k6 => k_is); (case a7 => k_is); (case l7 => k_is); (case c7 => k_is); (case k7 => k_is); (case a8 => k_is); (case l8 => k_is); (case c8 => k_is); (case k8 => k_is); (case a9 => k_is); (case l9 => k_is); (case c9 => k_is); (case k9 => k_is); (case z_abs => k_is); (case z_bool => k_is); (case z_dict => k_is); (case z_int => k_is); (case z_isinstance => k_is); (case z_len => k_is); (case z_list => k_is); (case z_max => k_is); (case z_min => k_is); (case z_range => k_is); (case z_tuple => k_is)


