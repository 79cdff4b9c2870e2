import PyProof.Rows.All
import Wide.All
import OpenK.AllK
import Wide.FinOn
import HandS.ForMost
import HandS.ForExc
import HandS.IsInst
import HandS.ClsMeth
import HandS.Wide
import HandS.Flow
import PySem.Challenge.RW_lossway_k01_ring_orders
set_option Elab.async false
set_option linter.all false
set_option maxRecDepth 100000
set_option maxHeartbeats 4000000
/-! The layer of this work: readings without the written part, a def's promise by its own body. -/
namespace Y
open PySem PySem.Spec PyProof.Rows L2

/-! ### weaker readings -/
section
variable {X : Cx}
theorem pe_imp {e : Expr} {t t' : TE} (h : PE X e t) (hi : ∀ σ H Q, t' σ H Q → t σ H Q) : PE X e t' := ⟨fun pins s σ H Q I q => h.run pins s σ H Q I (hi σ H Q q)⟩
theorem ps_imp {e : Stmt} {t t' : TS} (h : PS X e t) (hi : ∀ D σ H, t' D σ H → t D σ H) : PS X e t' := ⟨fun pins s σ H D I q => h.run pins s σ H D I (hi D σ H q)⟩
theorem op_imp {f : Value → Value → Sem Value} {r r' : R2} (h : OpR X f r) (hi : ∀ x y H Q, r' x y H Q → r x y H Q) : OpR X f r' := fun pins s σ H x y v u Q I rx ry q => h pins s σ H x y v u Q I rx ry (hi x y H Q q)
theorem op_or {f : Value → Value → Sem Value} {r r' : R2} (h : OpR X f r) (h' : OpR X f r') : OpR X f (fun x y H Q => r x y H Q ∨ r' x y H Q) := fun pins s σ H x y v u Q I rx ry q =>
  q.elim (h pins s σ H x y v u Q I rx ry) (h' pins s σ H x y v u Q I rx ry)
theorem ix_imp {r r' : R2} (h : IxR X r) (hi : ∀ x y H Q, r' x y H Q → r x y H Q) : IxR X r' := fun value slice pins s σ H x y v u Q I rx ry q hs => h value slice pins s σ H x y v u Q I rx ry (hi x y H Q q) hs
theorem call_imp {f : Value} {r r' : List V → Hp → VK → Prop} (h : CallR X f r) (hi : ∀ xs H Q, r' xs H Q → r xs H Q) : CallR X f r' := fun pins s σ H xs us Q I rx q => h pins s σ H xs us Q I rx (hi xs H Q q)
end

/-! ### what stands at an address; S: static things, of the written part -/
abbrev Sta := Addr → HO → Prop
def SK (K : PySem.W.Frag) : Sta := fun a u => match u with
  | .lst xs => ∃ (o : Obj) (its : Array Value) (n : Nat), K.lookup a = some o ∧ o.cls = .type "list" ∧ o.dict = none ∧ o.data = .seq its n ∧ its.size ≤ sizeLine ∧ Vals xs its.toList
  | .tup xs => ∃ (o : Obj) (its : Array Value) (n : Nat), K.lookup a = some o ∧ o.cls = .type "tuple" ∧ o.data = .seq its n ∧ its.size ≤ sizeLine ∧ Vals xs its.toList
  | _ => False
def RdS (S : Sta) (H : Hp) (p : Addr) (u : HO) : Prop := Rd H p u ∨ S p u
theorem sqL {K : PySem.W.Frag} {S : Sta} {H : Hp} {p : Addr} {xs : List V} (e : S = SK K) (h : RdS S H p (.lst xs)) : SqL K H p xs := by subst e; exact h
theorem sqT {K : PySem.W.Frag} {S : Sta} {H : Hp} {p : Addr} {xs : List V} (e : S = SK K) (h : RdS S H p (.tup xs)) : SqT K H p xs := by subst e; exact h
/-- a list or a tuple -/
def Seq (S : Sta) (H : Hp) (p : Addr) (xs : List V) : Prop := RdS S H p (.lst xs) ∨ RdS S H p (.tup xs)

/-! ### operators -/
def rAdd : R2 := fun x y H Q => (∃ i j, x = .int i ∧ y = .int j ∧ Q (.int (i + j)) H) ∨ (∃ i j, x = .str i ∧ y = .str j ∧ i.length + j.length ≤ sizeLine ∧ Q (.str (i ++ j)) H)
  ∨ (∃ p q a b, x = .ref p ∧ y = .ref q ∧ H p = some (.lst a) ∧ H q = some (.lst b) ∧ a.length + b.length ≤ sizeLine ∧ ∀ r, H r = none → Q (.ref r) (upd H r (.lst (a ++ b))))
def rSub : R2 := rI0 fun i j => .int (i - j)
def rMul : R2 := rI CMul fun i j => .int (i * j)
def rFdiv : R2 := rI CDivW fun i j => .int (i / j)
def rMod : R2 := rI (fun _ j => 0 < j) fun i j => .int (i % j)
def rPow : R2 := rI CPow fun i j => .int (i ^ j.toNat)
def rShl : R2 := rI CPow fun i j => .int (i * 2 ^ j.toNat)
def rAnd : R2 := rI0 fun i j => .int (Builtin.bitAnd i j)
def rLt : R2 := rI0 fun i j => .bl (decide (i < j))
def rLe : R2 := rI0 fun i j => .bl (decide (i ≤ j))
def rGt : R2 := rI0 fun i j => .bl (decide (j < i))
def rGe : R2 := rI0 fun i j => .bl (decide (j ≤ i))
def rNeg : V → Hp → VK → Prop := rU fun i => .int (-i)
def rIs : R2 := fun x y H Q => y = .non ∧ Q (.bl (decide (x = .non))) H
def rIsNot : R2 := fun x y H Q => y = .non ∧ Q (.bl (!decide (x = .non))) H
section
variable {X : Cx}
theorem o_add : OpR X (binaryOp .Add) rAdd := op_imp (op_or op_add (op_or op_add_str op_cat)) fun x y H Q q => by
  rcases q with q | q | ⟨p, q, a, b, e1, e2, h1, h2, h3, h4⟩
  · exact .inl q
  · exact .inr (.inl q)
  · exact .inr (.inr ⟨p, q, a, b, e1, e2, h1, h2, h3, h4⟩)
theorem o_sub : OpR X (binaryOp .Sub) rSub := op_sub
theorem o_mul : OpR X (binaryOp .Mult) rMul := op_mul
theorem o_fdiv : OpR X (binaryOp .FloorDiv) rFdiv := op_fdivW
theorem o_mod : OpR X (binaryOp .Mod) rMod := op_mod
theorem o_pow : OpR X (binaryOp .Pow) rPow := op_pow
theorem o_shl : OpR X (binaryOp .LShift) rShl := op_shl
theorem o_and : OpR X (binaryOp .BitAnd) rAnd := op_and
theorem o_lt : OpR X (compareOp .Lt) rLt := op_lt
theorem o_le : OpR X (compareOp .LtE) rLe := op_le
theorem o_gt : OpR X (compareOp .Gt) rGt := op_gt
theorem o_ge : OpR X (compareOp .GtE) rGe := op_ge
theorem o_eq : OpR X (compareOp .Eq) rEq := op_eq
theorem o_ne : OpR X (compareOp .NotEq) rNe := op_ne
theorem o_is : OpR X (compareOp .Is) rIs := op_isN
theorem o_isnot : OpR X (compareOp .IsNot) rIsNot := op_notN
theorem o_neg : UnR X (unaryOp .USub) rNeg := un_neg
end

/-! ### subscripts, len, slices -/
def rIx (S : Sta) : R2 := fun x y H Q => (∃ p xs i v, x = .ref p ∧ y = .int i ∧ Seq S H p xs ∧ atI xs i = some v ∧ Q v H) ∨ (∃ z i c, x = .str z ∧ y = .int i ∧ z.length ≤ sizeLine ∧ atI z.cps.toList i = some c ∧ Q (.str ⟨#[c]⟩) H)
def rLen (S : Sta) : List V → Hp → VK → Prop := fun xs H Q => (∃ p ys, xs = [.ref p] ∧ Seq S H p ys ∧ Q (.int ys.length) H) ∨ (∃ z, xs = [.str z] ∧ z.length ≤ sizeLine ∧ Q (.int z.length) H)
def rInt : List V → Hp → VK → Prop := fun xs H Q => (∃ i, xs = [.int i] ∧ Q (.int i) H) ∨ ∃ k, xs = [.bl k] ∧ Q (.int (if k then 1 else 0)) H
def rSl (S : Sta) : V → Option Int → Option Int → Hp → VK → Prop := fun x lo hi H Q => ∃ a xs, x = .ref a ∧ RdS S H a (.lst xs) ∧ ∀ p, H p = none → Q (.ref p) (upd H p (.lst (cutV xs lo hi)))
section
variable {X : Cx}
variable {S : Sta}
theorem o_ix (st : S = SK X.K) : IxR X (rIx S) := ix_imp (ix_list.or (ix_tup.or ix_str)) fun x y H Q q => by
  rcases q with ⟨p, xs, i, v, e1, e2, h | h, h2, h3⟩ | q
  · exact .inl ⟨p, xs, i, v, e1, e2, sqL st h, h2, h3⟩
  · exact .inr (.inl ⟨p, xs, i, v, e1, e2, sqT st h, h2, h3⟩)
  · exact .inr (.inr q)
theorem c_len (st : S = SK X.K) : CallR X (.builtin "len") (rLen S) := call_imp call_len fun xs H Q q => by
  rcases q with ⟨p, ys, e, h | h, q⟩ | ⟨z, e, h, q⟩
  · exact ⟨_, _, e, .inl ⟨_, sqL st h, rfl⟩, q⟩
  · exact ⟨_, _, e, .inr ⟨_, sqT st h, rfl⟩, q⟩
  · exact ⟨_, _, e, ⟨h, rfl⟩, q⟩
theorem c_int : CallR X (.type "int") rInt := call_int1
theorem o_sl (st : S = SK X.K) : SlR X (rSl S) := fun pins s σ H x v vl vu lo hi sl Q I rx hs pl pu h => by
  obtain ⟨a, xs, e, hx, q⟩ := h
  exact sl_list pins s σ H x v vl vu lo hi sl Q I rx hs pl pu ⟨a, xs, e, sqL st hx, q⟩
end

/-! ### types -/
inductive TyN (H : Hp) : V → String → Prop where
  | non : TyN H .non "NoneType"
  | bl (b : Bool) : TyN H (.bl b) "bool"
  | int (i : Int) : TyN H (.int i) "int"
  | str (s : Str) : TyN H (.str s) "str"
  | lst {a : Addr} {xs : List V} (e : Rd H a (.lst xs)) : TyN H (.ref a) "list"
  | tup {a : Addr} {xs : List V} (e : Rd H a (.tup xs)) : TyN H (.ref a) "tuple"
  | dK {a : Addr} {kvs : List (Key × V)} (e : H a = some (.dK kvs)) : TyN H (.ref a) "dict"
theorem TyN.x {K : PySem.W.Frag} {H : Hp} {x : V} {n : String} (t : TyN H x n) : TyX K H x (.type n) := by
  cases t with
  | non => exact .base .non
  | bl b => exact .base (.bl b)
  | int i => exact .base (.int i)
  | str s => exact .base (.str s)
  | lst e =>
    rcases e with e | ⟨o, e⟩
    · exact .base (.lst e)
    · exact .base (.frz e)
  | tup e =>
    rcases e with e | ⟨o, e⟩
    · exact .base (.tup e)
    · exact .fTuple e
  | dK e => exact .base (.dK e)
/-- isinstance(x, n) of a built-in class n, for the types above -/
def isA (t n : String) : Bool := t == n || (t == "bool" && n == "int")
def rIsI : List V → Hp → VK → Prop := fun xs H Q => ∃ x n t, xs = [x, .ty n] ∧ TyN H x t ∧ kitB t n = some (isA t n) ∧ Q (.bl (isA t n)) H
theorem c_isi {X : Cx} : CallR X (.builtin "isinstance") rIsI := call_imp call_isi fun xs H Q q => by
  obtain ⟨x, n, t, e, ty, k, q⟩ := q
  exact ⟨x, .ty n, .type t, .type n, isA t n, e, .ty n, ty.x, kit_ty k, q⟩

/-! ### fields, methods -/
/-- a reading closed under weaker ends -/
def mo (te : TE) : TE := fun σ H Q => ∃ Q0 : VK, te σ H Q0 ∧ ∀ v H', Q0 v H' → Q v H'
def moA (ta : TA) : TA := fun σ H Q => ∃ Q0 : List V → Hp → Prop, ta σ H Q0 ∧ ∀ v H', Q0 v H' → Q v H'
def eFld (C : Addr) (f : Str) (te : TE) : TE := fun σ H Q => te σ H fun x H1 => ∃ a dx fs v, x = .ref a ∧ H1 a = some (.ins C dx fs) ∧ fs.lookup f = some v ∧ Q v H1
def sSetF (C : Addr) (f : Str) (te tv : TE) : TS := fun D σ H => tv σ H fun y H1 => te σ H1 fun x H2 => ∃ a dx fs, x = .ref a ∧ H2 a = some (.ins C dx fs) ∧ fs.length < 1000 ∧ D.nx σ (upd H2 a (.ins C dx (putF f y fs)))
/-- x.append(e) -/
def eApp (te : TE) (ta : TA) : TE := fun σ H Q => te σ H fun x H1 => ∃ l, x = .ref l ∧ (∃ xs, H1 l = some (.lst xs)) ∧ ta σ H1 fun vs H2 => rAppend x vs H2 Q
section
variable {X : Cx} {C : Addr} {f : Str} {e ev o : Expr} {es : List Expr} {te tv : TE} {ta : TA} {pos pos' pos2 apos cpos : Pos}
theorem pe_mo (he : PE X e te) : PE X e (mo te) := ⟨fun pins s σ H Q I ⟨Q0, h, hq⟩ => thn (he.run pins s σ H Q0 I h) fun _ _ ⟨v, H', I', r, q⟩ => ⟨v, H', I', r, hq v H' q⟩⟩
theorem pa_mo (he : PA X es ta) : PA X es (moA ta) := ⟨fun pos pins s σ H Q I ⟨Q0, h, hq⟩ => thn (he.run pos pins s σ H Q0 I h) fun _ _ ⟨v, H', I', r, q⟩ => ⟨v, H', I', r, hq v H' q⟩⟩
theorem pe_fldC (c : Cls X.K C) (n : NoAttr X.K C f) (he : PE X e te) (hb : attributeBase e f X.env (eval e X.env) = eval e X.env := by rfl) : PE X (.Attribute e f pos) (eFld C f te) :=
  pe_imp (pe_fld (pe_mo he) hb) fun σ H Q q => ⟨_, q, fun v H' ⟨a, dx, fs, w, e1, e2, l, q⟩ => ⟨a, C, dx, fs, w, e1, e2, c, n, l, q⟩⟩
theorem ps_setF (c : Cls X.K C) (n : NoAttr X.K C f) (ha : PE X o te) (hv : PE X ev tv) (hs : swapsWith ev (some (.Attribute o f pos')) pos.line X.env = pure false := by rfl) :
    PS X (.Assign [.Attribute o f pos'] ev pos) (sSetF C f te tv) :=
  ps_imp (ps_fld (pe_mo ha) (pe_mo hv) hs) fun D σ H q => ⟨_, q, fun y H1 q1 => ⟨_, q1, fun x H2 ⟨a, dx, fs, e1, e2, l, q2⟩ => ⟨a, C, dx, fs, e1, e2, c, n, l, q2⟩⟩⟩
theorem pe_app (ho : PE X o te) (ha : PA X (e :: es) ta)
    (hbase : attributeBase o "append" X.env (eval o X.env) = eval o X.env := by rfl)
    (hfew : ((backTo cpos (starEach (e :: es) X.env)).all (fun x => !x.1) && (backToKw cpos (keywordEach [] X.env)).all (fun x => x.1.isSome)
      && decide ((e :: es).length + ([] : List Keyword).length + (if ([] : List Keyword).isEmpty then 0 else 1) < 30)) = true := by rfl)
    (hline : (apos.endLine == cpos.line) = true := by rfl) (hs : starEach (e :: es) X.env = (false, eval e X.env) :: starEach es X.env := by rfl) (hplain : (backTo cpos (starEach es X.env)).any (·.1) = false := by rfl) :
    PE X (.Call (.Attribute o "append" apos) (e :: es) [] cpos) (eApp te ta) :=
  pe_imp (pe_bm PySem.F.plainAttrs_list PySem.F.slot_list_append PySem.F.type_list_append mt_append (pe_mo ho) ha hbase hfew hline hs hplain) fun σ H Q q =>
    ⟨_, q, fun x H1 ⟨l, e1, ⟨xs, hl⟩, q1⟩ => by subst e1; exact ⟨.inl ⟨rfl, _, .inl (.inl hl)⟩, q1⟩⟩
end

/-! ### for, over a list or a tuple; over a range -/
/-- what is walked stays as it is -/
def Stays (S : Sta) (a : Addr) (xs : List V) (R : Nat → Hp → Prop) : Prop := (∀ i H, i ≤ xs.length → R i H → RdS S H a (.lst xs)) ∨ (∀ i H, i ≤ xs.length → R i H → RdS S H a (.tup xs))
def iSeq (K : PySem.W.Frag) (te : TE) : TI := fun σ H R => te σ H fun x H1 => ∃ a, x = .ref a ∧ (((∃ xs, SqL K H1 a xs) ∧ R (Itl K a) H1) ∨ ((∃ xs, SqT K H1 a xs) ∧ R (Itt K a) H1))
def sFor (S : Sta) (te : TE) (g : TG) (tb : TS) : TS := fun D σ H => te σ H fun x H1 => ∃ a xs, x = .ref a ∧ ∃ Pv : Nat → L2.St → Hp → Prop, Pv 0 σ H1 ∧ Stays S a xs (fun i H => ∃ σ, Pv i σ H) ∧
  (∀ i y σ H, xs[i]? = some y → Pv i σ H → g y σ H fun σ' H' => tb ⟨Pv (i + 1), D.rt, D.nx, Pv (i + 1)⟩ σ' H') ∧ ∀ σ H, Pv xs.length σ H → D.nx σ H
def sForR (lo : Option TE) (hi : TE) (g : TG) (tb : TS) : TS := fun D σ H =>
  let body : Int → Int → L2.St → Hp → Prop := fun lo hi σ1 H1 => (-(2 ^ 62) ≤ lo ∧ lo < 2 ^ 62 ∧ -(2 ^ 62) ≤ hi ∧ hi < 2 ^ 62) ∧ ∃ Pv : Nat → L2.St → Hp → Prop, Pv 0 σ1 H1 ∧
    (∀ (i : Nat) σ H, lo + i < hi → Pv i σ H → g (.int (lo + i)) σ H fun σ' H' => tb ⟨Pv (i + 1), D.rt, D.nx, Pv (i + 1)⟩ σ' H') ∧ ∀ σ H, Pv (hi - lo).toNat σ H → D.nx σ H
  match lo with
  | none => hi σ H fun y H1 => ∃ j, y = .int j ∧ body 0 j σ H1
  | some lo => lo σ H fun x H1 => hi σ H1 fun y H2 => ∃ i j, x = .int i ∧ y = .int j ∧ body i j σ H2
section
variable {X : Cx} {tg l a b : Expr} {te ta tb' : TE} {g : TG} {tb : TS} {body : List Stmt} {pos p : Pos}
theorem pi_seq (hl : PE X l te) : PI X tg l (iSeq X.K te) := by
  refine ⟨fun pins s σ H R I h => ?_⟩
  refine thn (hl.run pins s σ H _ I h) fun v s1 ⟨x, H1, I1, r1, q1⟩ => ?_
  obtain ⟨a, e, q⟩ := q1
  subst e
  cases r1
  have fp : ∀ b ∈ [s1.heap.objs.size], ∀ {s2 : Shared} , Inv X pins σ H1 s2 → s2.heap.objs.size = s1.heap.objs.size → FpOk X pins H1 b := fun b hb s2 I2 hs => by
    have e : b = s1.heap.objs.size := by simpa using hb
    subst e
    exact I1.fpOk (Nat.le_refl _) (I1.hok.fresh (Nat.le_refl _))
  rcases q with ⟨⟨xs, hq⟩, q⟩ | ⟨⟨xs, hq⟩, q⟩
  · obtain ⟨its, rv, p, hz⟩ := I1.list hq
    refine wpAny_pyIter_list p.isList ?_
    refine ⟨s1.heap.objs.size, [s1.heap.objs.size], _, _, H1, rfl, I1.kept (t' := s1.toks) fun b o e => Heap.get?_push_of_some _ e, turn_list a _, ⟨_, Heap.get?_push_size _ rfl, rfl, rfl⟩, fun b hb => fp b hb I1 rfl, q⟩
  · obtain ⟨its, rv, p, hz⟩ := I1.tuple hq
    refine wpAny_pyIter_tuple (show s1.heap.IsTuple a its.toArray from p) ?_
    refine ⟨s1.heap.objs.size, [s1.heap.objs.size], _, _, H1, rfl, I1.kept (t' := s1.toks) fun b o e => Heap.get?_push_of_some _ e, turn_tuple a _, ⟨_, Heap.get?_push_size _ rfl, rfl, rfl⟩, fun b hb => fp b hb I1 rfl, q⟩
theorem ps_forSeq {S : Sta} (st : S = SK X.K) (hp : PassesOwn (model X.prog X.w) X.A X.env X.xe) (hc : X.calm = true) (hl : PE X l te) (hg : PG X tg g) (hb : PSs X body tb) (hs : ∀ x, foldedSetIterable l X.env x = pure x := by intro _; rfl) :
    PS X (.For tg l body [] pos) (sFor S te g tb) :=
  ps_imp (ps_for hp hc (pi_seq (pe_mo hl)) hg hb hs) fun D σ H q => ⟨_, q, fun x H1 ⟨a, xs, e, Pv, h0, hst, ht, hd⟩ => by
    refine ⟨a, e, ?_⟩
    rcases hst with z | z
    · exact .inl ⟨⟨xs, sqL st (z 0 H1 (Nat.zero_le _) ⟨σ, h0⟩)⟩, for_list (K := X.K) (a := a) (xs := xs) Pv h0 (fun i σ H hi p => sqL st (z i H hi ⟨σ, p⟩)) ht hd⟩
    · exact .inr ⟨⟨xs, sqT st (z 0 H1 (Nat.zero_le _) ⟨σ, h0⟩)⟩, for_tup (K := X.K) (a := a) (xs := xs) Pv h0 (fun i σ H hi p => sqT st (z i H hi ⟨σ, p⟩)) ht hd⟩⟩
theorem ps_forR1 (hp : PassesOwn (model X.prog X.w) X.A X.env X.xe) (hc : X.calm = true) (hgl : Gl X "range") (hm : X.mg "range" = none) (ha : PE X a ta) (hg : PG X tg g) (hb : PSs X body tb) (hs : starEach [a] X.env = (false, eval a X.env) :: starEach [] X.env := by rfl)
    (hs' : ∀ x, foldedSetIterable (.Call (.Name "range" p) [a] [] pos2) X.env x = pure x := by intro _; rfl) :
    PS X (.For tg (.Call (.Name "range" p) [a] [] pos2) body [] pos) (sForR none ta g tb) :=
  ps_imp (ps_for hp hc (pi_range1 hgl hm (pa_cons (pe_mo ha) pa_nil hs) hs) hg hb hs') fun D σ H q => ⟨_, q, fun y H1 ⟨j, e, ⟨_, _, h1, h2⟩, Pv, h0, ht, hd⟩ => by
    subst e
    refine ⟨j, rfl, h1, h2, for_range (lo := 0) (n := j.toNat) Pv h0 (fun i σ H hi p => ht i σ H (by omega) p) fun σ H p => hd σ H (by rw [Int.sub_zero]; exact p)⟩⟩
theorem ps_forR2 (hp : PassesOwn (model X.prog X.w) X.A X.env X.xe) (hc : X.calm = true) (hgl : Gl X "range") (hm : X.mg "range" = none) (ha : PE X a ta) (hb' : PE X b tb') (hg : PG X tg g) (hb : PSs X body tb) (hs : starEach [a, b] X.env = (false, eval a X.env) :: starEach [b] X.env := by rfl) (hs2 : starEach [b] X.env = (false, eval b X.env) :: starEach [] X.env := by rfl)
    (hs' : ∀ x, foldedSetIterable (.Call (.Name "range" p) [a, b] [] pos2) X.env x = pure x := by intro _; rfl) :
    PS X (.For tg (.Call (.Name "range" p) [a, b] [] pos2) body [] pos) (sForR (some ta) tb' g tb) :=
  ps_imp (ps_for hp hc (pi_range2 hgl hm (pa_cons (pe_mo ha) (pa_cons (pe_mo hb') pa_nil hs2) hs) (hs.trans (by rw [hs2]; rfl)) hs2) hg hb hs') fun D σ H q => ⟨_, q, fun x H1 q1 => ⟨_, q1, fun y H2 ⟨i, j, e, e', ⟨h1, h2, h3, h4⟩, Pv, h0, ht, hd⟩ => by
    subst e e'
    exact ⟨i, j, rfl, ⟨h1, h2, h3, h4⟩, for_range (lo := i) (n := (j - i).toNat) Pv h0 (fun k σ H hi p => ht k σ H (by omega) p) hd⟩⟩⟩
end

/-! ### list comprehensions -/
def eLc (S : Sta) (te : TE) (g : TG) (tt : TT) (tel : TE) (vs : List Nat) : TE := fun σ H Q => te σ H fun x H1 => ∃ a xs, x = .ref a ∧ ∃ k : Bool, RdS S H1 a (if k then .lst xs else .tup xs) ∧ ∀ D, H1 D = none → ∃ Pv : Nat → Hp → Prop, Pv 0 (upd H1 D (.lst [])) ∧ (∀ i H, i ≤ xs.length → Pv i H → RdS S H a (if k then .lst xs else .tup xs)) ∧
  (∀ i y H, xs[i]? = some y → Pv i H → g y (wipe σ vs) H fun σ2 H2 => wipe σ2 vs = wipe σ vs ∧ tt σ2 H2 fun b H3 => if b = true then tel σ2 H3 fun z H4 => ∃ acc, H4 D = some (.lst acc) ∧ acc.length < sizeLine ∧ Pv (i + 1) (upd H4 D (.lst (acc ++ [z]))) else Pv (i + 1) H3) ∧
  ∀ H, Pv xs.length H → Q (.ref D) H
def eLcR (lo : Option TE) (hi : TE) (g : TG) (tt : TT) (tel : TE) (vs : List Nat) : TE := fun σ H Q =>
  let body : Int → Int → Hp → Prop := fun lo hi H1 => (-(2 ^ 62) ≤ lo ∧ lo < 2 ^ 62 ∧ -(2 ^ 62) ≤ hi ∧ hi < 2 ^ 62) ∧ ∀ D, H1 D = none → ∃ Pv : Nat → Hp → Prop, Pv 0 (upd H1 D (.lst [])) ∧
    (∀ (i : Nat) H, lo + i < hi → Pv i H → g (.int (lo + i)) (wipe σ vs) H fun σ2 H2 => wipe σ2 vs = wipe σ vs ∧ tt σ2 H2 fun b H3 => if b = true then tel σ2 H3 fun z H4 => ∃ acc, H4 D = some (.lst acc) ∧ acc.length < sizeLine ∧ Pv (i + 1) (upd H4 D (.lst (acc ++ [z]))) else Pv (i + 1) H3) ∧
    ∀ H, Pv (hi - lo).toNat H → Q (.ref D) H
  match lo with
  | none => hi σ H fun y H1 => ∃ j, y = .int j ∧ body 0 j H1
  | some lo => lo σ H fun x H1 => hi σ H1 fun y H2 => ∃ i j, x = .int i ∧ y = .int j ∧ body i j H2
section
variable {X : Cx} {tg l a b elt : Expr} {ifs : List Expr} {te ta tb' tel : TE} {tt : TT} {g : TG} {scope : Scope} {own : List (Str × Nat)} {pos p pos2 spos py : Pos}
/-- what a block of a comprehension asks -/
structure Blk (X : Cx) (scope : Scope) (tg elt : Expr) (ifs : List Expr) (g : TG) (tt : TT) (tel : TE) : Prop where
  hg : ∀ (s : Shared) (H : Hp) (C : Addr) (cl : List (Str × Addr)) (fp : List Addr), PG (X.blk s H scope (compEnvC scope cl C X.env) fp) tg g
  ht : ∀ (s : Shared) (H : Hp) (C : Addr) (cl : List (Str × Addr)) (fp : List Addr), PTs (X.blk s H scope (compEnvC scope cl C X.env) fp) ifs tt
  he : ∀ (s : Shared) (H : Hp) (C : Addr) (cl : List (Str × Addr)) (fp : List Addr), PE (X.blk s H scope (compEnvC scope cl C X.env) fp) elt tel
theorem lc_of {K : PySem.W.Frag} {S : Sta} (st : S = SK K) {vs : List Nat} {σ : L2.St} {H : Hp} {Q : VK} (q : eLc S te g tt tel vs σ H Q) : tLc (iSeq K (mo te)) g tt tel vs σ H Q := ⟨_, q, fun x H1 ⟨a, xs, e, k, rd, q⟩ => by
    refine ⟨a, e, ?_⟩
    cases k with
    | true =>
      refine .inl ⟨⟨xs, sqL st rd⟩, fun D hD => ?_⟩
      obtain ⟨Pv, h0, z, ht, hd⟩ := q D hD
      exact lc_list (K := K) (a := a) (xs := xs) Pv h0 (fun i H hi p => sqL st (z i H hi p)) ht hd
    | false =>
      refine .inr ⟨⟨xs, sqT st rd⟩, fun D hD => ?_⟩
      obtain ⟨Pv, h0, z, ht, hd⟩ := q D hD
      exact lc_tup (K := K) (a := a) (xs := xs) Pv h0 (fun i H hi p => sqT st (z i H hi p)) ht hd⟩
theorem pe_lcSeq {S : Sta} (st : S = SK X.K) (hc : X.calm = true) (hN : X.N.Nodup) (hl : PE X l te) (ok : BlkOk X.N X.env.scope scope own) (B : Blk X scope tg elt ifs g tt tel) (hs : ∀ x, foldedSetIterable l X.env x = pure x := by intro _; rfl) :
    PE X (.ListComp elt [⟨tg, l, ifs, 0⟩] scope pos) (eLc S te g tt tel (own.map (·.2))) := pe_imp (pe_lc hc hN (pi_seq (pe_mo hl)) ok B.hg B.ht B.he hs) fun _ _ _ q => lc_of st q
theorem ps_lcSeq {S : Sta} {i : Nat} {y : Str} (st : S = SK X.K) (hc : X.calm = true) (hN : X.N.Nodup) (hy : X.N[i]? = some y) (hyl : X.env.scope.names.lookup y = some .local)
    (hsw : swapsWith (.ListComp elt [⟨tg, l, ifs, 0⟩] scope pos) (some (.Name y py)) spos.line X.env = pure true) (hl : PE X l te) (ok : BlkOk X.N X.env.scope scope own) (B : Blk X scope tg elt ifs g tt tel) (hs : ∀ x, foldedSetIterable l X.env x = pure x := by intro _; rfl) :
    PS X (.Assign [.Name y py] (.ListComp elt [⟨tg, l, ifs, 0⟩] scope pos) spos) (tAsg (eLc S te g tt tel (own.map (·.2))) (gName i)) :=
  ps_imp (ps_setLc hc hN hy hyl hsw (pi_seq (pe_mo hl)) ok B.hg B.ht B.he hs) fun _ _ _ q => lc_of st q
theorem lcR1_of {vs : List Nat} {σ : L2.St} {H : Hp} {Q : VK} (q : eLcR none ta g tt tel vs σ H Q) : tLc (iRng1 (tCons (mo ta) tNil)) g tt tel vs σ H Q := ⟨_, q, fun y H1 ⟨j, e, ⟨_, _, h1, h2⟩, q⟩ => by
    subst e
    refine ⟨j, rfl, h1, h2, fun D hD => ?_⟩
    obtain ⟨Pv, h0, ht, hd⟩ := q D hD
    exact lc_range (lo := 0) (n := j.toNat) Pv h0 (fun i H hi p => ht i H (by omega) p) fun H p => hd H (by rw [Int.sub_zero]; exact p)⟩
theorem pe_lcR1 (hc : X.calm = true) (hN : X.N.Nodup) (hgl : Gl X "range") (hm : X.mg "range" = none) (ha : PE X a ta) (ok : BlkOk X.N X.env.scope scope own) (B : Blk X scope tg elt ifs g tt tel) (hs : starEach [a] X.env = (false, eval a X.env) :: starEach [] X.env := by rfl)
    (hs' : ∀ x, foldedSetIterable (.Call (.Name "range" p) [a] [] pos2) X.env x = pure x := by intro _; rfl) :
    PE X (.ListComp elt [⟨tg, .Call (.Name "range" p) [a] [] pos2, ifs, 0⟩] scope pos) (eLcR none ta g tt tel (own.map (·.2))) := pe_imp (pe_lc hc hN (pi_range1 hgl hm (pa_cons (pe_mo ha) pa_nil hs) hs) ok B.hg B.ht B.he hs') fun _ _ _ q => lcR1_of q
theorem ps_lcR1 {i : Nat} {y : Str} (hc : X.calm = true) (hN : X.N.Nodup) (hy : X.N[i]? = some y) (hyl : X.env.scope.names.lookup y = some .local) (hgl : Gl X "range") (hm : X.mg "range" = none)
    (hsw : swapsWith (.ListComp elt [⟨tg, .Call (.Name "range" p) [a] [] pos2, ifs, 0⟩] scope pos) (some (.Name y py)) spos.line X.env = pure true) (ha : PE X a ta) (ok : BlkOk X.N X.env.scope scope own) (B : Blk X scope tg elt ifs g tt tel)
    (hs : starEach [a] X.env = (false, eval a X.env) :: starEach [] X.env := by rfl) (hs' : ∀ x, foldedSetIterable (.Call (.Name "range" p) [a] [] pos2) X.env x = pure x := by intro _; rfl) :
    PS X (.Assign [.Name y py] (.ListComp elt [⟨tg, .Call (.Name "range" p) [a] [] pos2, ifs, 0⟩] scope pos) spos) (tAsg (eLcR none ta g tt tel (own.map (·.2))) (gName i)) :=
  ps_imp (ps_setLc hc hN hy hyl hsw (pi_range1 hgl hm (pa_cons (pe_mo ha) pa_nil hs) hs) ok B.hg B.ht B.he hs') fun _ _ _ q => lcR1_of q
end

/-! ### in, by an own __contains__ -/
section
open PySem.W
variable {prog : Program} {w : World} {A : Around} {E : Value → Shared → Prop} {s : Shared} {K : Frag} {x C f : Addr} {ox : Obj} {od : Option Obj}
theorem unlessNone_K {M : Model} {name : Str} {args : List Value} {refuse : Sem Value} {Q : Option Value → Shared → Prop} (X : K.In s.heap) (I : InstAt s.heap x ox C od) (hs : findIn K (.ref C) name = some (some (.ref f))) (hf : isFn K (.ref f) = true)
    (h : wpAny M A (call (.ref f) (.ref x :: args)) (fun v => Q (some v)) E s) : wpAny M A (callSpecialUnlessNone? (.ref x) name args refuse) Q E s := by
  simp only [callSpecialUnlessNone?]
  refine wpAny_bind (wpAny_bind (I.type.here ((looks_findIn X hs).here ?_)))
  refine wpAny_holding (wpAny_bind ((bind_fn X _ (beq_iff_eq.mp hf)).here ?_))
  show wpAny _ _ (if (Value.ref f == Value.none) = true then _ else _) _ _ _
  rw [if_neg (by simp)]
  exact wpAny_bind (wpAny_mono h (fun v s' h' => wpAny_pure h') fun _ _ h' => h')
theorem contains_K {v : Value} {Q : Bool → Shared → Prop} (X : K.In s.heap) (I : InstAt s.heap x ox C od) (hs : findIn K (.ref C) "__contains__" = some (some (.ref f))) (hf : isFn K (.ref f) = true)
    (h : wpAny (model prog w) A (call (.ref f) [.ref x, v]) (PySem.W.BoolBack Q) E s) : wpAny (model prog w) A (contains (.ref x) v) Q E s := by
  unfold contains
  refine wpAny_holding ?_
  show wpAny _ _ (specialOf (.ref x) (Str.ofString "__contains__") >>= _) _ _ _
  refine wpAny_bind (wpAny_bind (I.type.here ((looks_findIn X hs).here ?_)))
  show wpAny _ _ (if (some (Value.ref f) == some Value.none) = true then _ else _) _ _ _
  rw [if_neg (by simp)]
  refine wpAny_bind (unlessNone_K X I hs hf (wpAny_mono h (fun r s' hr => ?_) fun _ _ y => y))
  cases r <;> first | exact hr.elim | skip
  exact wpAny_truthy_bool hr
end
section
variable {X : Cx} {CX : CXT} {C f : Addr} {fd : FuncData} {ps : List Str} {sp : Sp} {E : XK} {k : Nat}
/-- y in x, x an instance of the class at C, by its __contains__ -/
def rInOwn (C : Addr) (neg : Bool) (sp : Sp) (E : XK) : R2 := fun y x H Q => ∃ a dx fs, x = .ref a ∧ H a = some (.ins C dx fs) ∧ sp [x, y] H (fun v H' => ∃ b, v = .bl b ∧ Q (.bl (if neg then !b else b)) H') E
theorem in_own {pins : List (Addr × Obj)} {σ : L2.St} {H : Hp} {s : Shared} {a dx : Addr} {fs : List (Str × V)} {y : V} {u : Value} {Q : Bool → Hp → Prop} (F : FnOk X.prog X.w X.K X.mg X.base CX k f fd ps sp) (hm : Meth X.K C "__contains__" f) (hr : Room k X.A) (hb : Binds X.K fd ps []) (hx : Passes CX X E)
    (I : Inv X pins σ H s) (ry : RelV y u) (ha : H a = some (.ins C dx fs)) (h : sp [.ref a, y] H (fun v H' => ∃ b, v = .bl b ∧ Q b H') E) :
    wpAny (model X.prog X.w) X.A (contains (.ref a) u) (TP X pins σ Q) X.xe s := by
  obtain ⟨mA, J, _⟩ := ins_get I.hok ha
  obtain ⟨od, J, _⟩ := J.look
  refine contains_K I.kIn J hm.at_ hm.fn (thn (run_fn (us := [.ref a, u]) (vs := [.ref a, y]) (dvs := []) (ds := []) F hr hb .nil hx I (.cons rfl (.cons ry .nil)) h) fun v s' q => ?_)
  obtain ⟨z, H', I', rz, b, ez, q⟩ := q
  subst ez
  cases rz
  exact ⟨H', I', q⟩
theorem o_inOwn (F : FnOk X.prog X.w X.K X.mg X.base CX k f fd ps sp) (hm : Meth X.K C "__contains__" f) (hr : Room k X.A) (hb : Binds X.K fd ps []) (hx : Passes CX X E) : OpR X (compareOp .In) (rInOwn C false sp E) := fun pins s σ H y x u v Q I ry rx h => by
  obtain ⟨a, dx, fs, e, ha, q⟩ := h
  subst e
  cases rx
  show wpAny _ _ (contains (.ref a) u >>= fun b => pure (Value.bool b)) _ _ _
  refine wpAny_bind (thn (in_own F hm hr hb hx I ry ha (Q := fun b H' => Q (.bl b) H') q) fun b s' hq => ?_)
  obtain ⟨H', I', q⟩ := hq
  exact wpAny_pure ⟨.bl b, H', I', rfl, q⟩
theorem o_notInOwn (F : FnOk X.prog X.w X.K X.mg X.base CX k f fd ps sp) (hm : Meth X.K C "__contains__" f) (hr : Room k X.A) (hb : Binds X.K fd ps []) (hx : Passes CX X E) : OpR X (compareOp .NotIn) (rInOwn C true sp E) := fun pins s σ H y x u v Q I ry rx h => by
  obtain ⟨a, dx, fs, e, ha, q⟩ := h
  subst e
  cases rx
  show wpAny _ _ (contains (.ref a) u >>= fun b => pure (Value.bool (!b))) _ _ _
  refine wpAny_bind (thn (in_own F hm hr hb hx I ry ha (Q := fun b H' => Q (.bl (!b)) H') q) fun b s' hq => ?_)
  obtain ⟨H', I', q⟩ := hq
  exact wpAny_pure ⟨.bl (!b), H', I', rfl, q⟩
end

/-! ### classes: constants, classmethods, a class held in a name -/
def eCon (v : V) : TE := fun _ H Q => Q v H
/-- the argument's heap, then a new instance and __init__ (tMake), the class in slot i -/
def eMakeL (i : Nat) (C : Addr) (sp : Sp) (dvs : List V) (E : XK) (t : TA) : TE := fun σ H Q => σ[i]? = some (some (.ref C)) ∧ tMake C sp dvs E t σ H Q
section
variable {X : Cx} {CX : CXT} {C f p g : Addr} {mc u : Value} {fd : FuncData} {ps : List Str} {sp : Sp} {E : XK} {k i : Nat} {x y m : Str} {v : V} {pos pos2 p2 apos : Pos} {e : Expr} {es : List Expr} {t : TA} {dvs : List V} {ds : List Value}
theorem pe_clsName (hg : Gl X x) (hm : X.mg x = some (.ref C)) (hdb : (x == ("__debug__" : Str)) = false := by decide) : PE X (.Name x p2) (eCon (.ref C)) := pe_imp (pe_glob hg hm (v := .ref C) rfl hdb) fun _ _ _ q => q
theorem pe_clsCon (r : ClX.CRead X.K C mc) (c : ClX.CVal X.K C mc y v u) (hg : Gl X x) (hm : X.mg x = some (.ref C)) (hdb : (x == ("__debug__" : Str)) = false := by decide)
    (hb : attributeBase (.Name x p2) y X.env (eval (.Name x p2) X.env) = eval (.Name x p2) X.env := by rfl) : PE X (.Attribute (.Name x p2) y pos) (eCon v) :=
  pe_imp (ClX.pe_cval (pe_clsName hg hm hdb) hb) fun _ _ _ q => ⟨C, mc, v, u, rfl, r, c, q⟩
theorem pe_makeL (M : Mk X.K C f) (F : FnOk X.prog X.w X.K X.mg X.base CX k f fd ps sp) (hr : Room (k + 1) X.A) (hN : X.N[i]? = some x) (hv : Vis X.env.scope x) (hb : Binds X.K fd ps ds) (hd : Vals dvs ds) (hx : Passes CX X E)
    (ha : PA X (e :: es) t) (hdb : (x == ("__debug__" : Str)) = false := by decide) (hcd : (x == ("__classdict__" : Str)) = false := by decide) (he : starEach (e :: es) X.env = (false, eval e X.env) :: starEach es X.env := by rfl) (hpl : (backTo pos (starEach es X.env)).any (·.1) = false := by rfl) :
    PE X (.Call (.Name x p2) (e :: es) [] pos) (eMakeL i C sp dvs E t) := by
  refine ⟨fun pins s σ H Q I h => ?_⟩
  obtain ⟨hs, ht⟩ := h
  refine wpAny_Call_Name_kw (thn ((pe_var (pos := p2) hN hv hdb hcd).run pins s σ H (fun v H1 => v = .ref C ∧ H1 = H) I ⟨.ref C, hs, rfl, rfl⟩) fun u s1 ⟨v, H1, I1, r1, q1⟩ => ?_)
  obtain ⟨rfl, rfl⟩ := q1
  cases r1
  refine PySem.W.callWith_K (h₀ := X.base) I.ok.mod.kin M.kp (thn (ha.run pos pins s1 σ _ _ I1 ht) fun us s2 ⟨vs, H2, I2, r, q⟩ => ⟨I2.kIn, ?_⟩) he hpl
  exact run_make M F hr hb hd hx I2 r q
end

/-- a module's constant -/
theorem pe_constI {X : Cx} {x : Str} {i : Int} {t : Tok} {p2 : Pos} (hm : X.mg x = some (.int i t)) (hg : Gl X x) (hdb : (x == ("__debug__" : Str)) = false := by decide) : PE X (.Name x p2) (tC (.int i)) := pe_imp (pe_glob hg hm (v := .int i) ⟨t, rfl⟩ hdb) fun _ _ _ q => q
def rAug : TIp := ipI fun i j => i + j
def rAugS : TIp := ipI fun i j => i - j
theorem ip_addI {X : Cx} : PIp X .Add rAug := ip_add
theorem ip_subI {X : Cx} : PIp X .Sub rAugS := ip_sub
def spRaw (sp : Sp) : Sp := fun vs H Q E => sp (vs ++ []) H Q E
/-! ### a def's promise, by its own body -/
def start (n : Nat) (vs : List V) : L2.St := vs.map some ++ List.replicate (n - vs.length) none
/-- n slots, m parameters -/
def spB (n m : Nat) (t : XK → TS) : Sp := fun vs H Q E => vs.length = m ∧ t E { nx := fun _ H' => Q .non H', rt := Q } (start n vs) H
theorem start_eq (N : List Str) (vs : List V) : L2.start N vs = start N.length vs := rfl
theorem passE {P : Program} {w : World} {K : PySem.W.Frag} {mg : Str → Option Value} {base : Heap} {N : List Str} {qual : Str} {scope : Scope} {f : Addr} {cd : Value} {A : Around} {outer : List Env} {s : Shared} {H : Hp} {E : XK} :
    Passes (L2.CX P w) (cxOf (L2.CX P w) P w K mg base N qual scope f cd A outer s H E) E := passes_call (takes_of rfl rfl rfl rfl) fun _ _ _ _ h => h
theorem ok_body {P : Program} {w : World} {K : PySem.W.Frag} {mg : Str → Option Value} {base : Heap} {x qual : Str} {st : Stmt} {f : Addr} {fd : FuncData} {N ps : List Str} {n m k : Nat} {t : XK → TS} (F : Fun K x qual st f fd) (S : FnScope N ps (defScope st)) (hn : N.length = n) (hm : ps.length = m)
    (h : ∀ (cdv : Value) (A : Around) (outer : List Env) (s : Shared) (H : Hp) (E : XK), Room k (A.deeper (envOfC qual (defScope st) s.heap.objs.size f cdv)) → PSs (cxOf (L2.CX P w) P w K mg base N qual (defScope st) f cdv A outer s H E) (defBody st) (t E)) :
    FnOk P w K mg base (L2.CX P w) (k + 1) f fd ps (spB n m t) := by
  subst hn
  subst hm
  exact F.okX S (fun vs H Q E q => q.1) fun cdv A outer s H vs Q E hr q => ⟨t E, h cdv A outer s H E hr, q.2⟩
end Y

/-! Symbolic execution of readings: what is known of a heap (FH), one rule a construct. -/
namespace Y
open PySem PySem.Spec PyProof.Rows L2

/-! ### what is known of a heap -/
structure FH (H : Hp) (L : List (Addr × (HO → Prop))) : Prop where
  nd : (L.map (·.1)).Nodup
  at_ : ∀ p φ, (p, φ) ∈ L → ∃ o, H p = some o ∧ φ o
def Is (o : HO) : HO → Prop := fun x => x = o
/-- a list that is read: tracked or locked -/
def IsR (xs : List V) : HO → Prop := fun x => x = .lst xs ∨ ∃ o, x = .frz o (.lst xs)
inductive Put (p : Addr) (φ' : HO → Prop) : List (Addr × (HO → Prop)) → List (Addr × (HO → Prop)) → Prop where
  | here {φ L} : Put p φ' ((p, φ) :: L) ((p, φ') :: L)
  | there {q L L'} (h : Put p φ' L L') : Put p φ' (q :: L) (q :: L')
section
variable {H H' : Hp} {L L' : List (Addr × (HO → Prop))} {p : Addr} {o : HO} {φ φ' : HO → Prop} {xs : List V}
theorem FH.get (F : FH H L) (m : (p, Is o) ∈ L) : H p = some o := by
  obtain ⟨o', h, e⟩ := F.at_ p _ m
  exact h.trans (congrArg some e)
theorem RdS.of {S : Sta} {u : HO} (h : Rd H p u) : RdS S H p u := .inl h
theorem FH.getR (F : FH H L) (m : (p, IsR xs) ∈ L) : Rd H p (.lst xs) := by
  obtain ⟨o', h, e | ⟨o, e⟩⟩ := F.at_ p _ m
  · subst e; exact .inl h
  · subst e; exact .inr ⟨o, h⟩
theorem FH.ne_new (F : FH H L) (h : H p = none) : ∀ q ∈ L.map (·.1), q ≠ p := by
  intro q hq e
  subst e
  obtain ⟨x, hx, e⟩ := List.mem_map.mp hq
  obtain ⟨o, h', _⟩ := F.at_ x.1 x.2 hx
  rw [e, h] at h'
  cases h'
theorem FH.new (F : FH H L) (h : H p = none) (hφ : φ o) : FH (upd H p o) ((p, φ) :: L) := by
  refine ⟨?_, fun q ψ m => ?_⟩
  · rw [List.map_cons, List.nodup_cons]
    exact ⟨fun hm => F.ne_new h p hm rfl, F.nd⟩
  · rcases List.mem_cons.mp m with e | m
    · cases e
      exact ⟨o, upd_same, hφ⟩
    · obtain ⟨o', h', hψ⟩ := F.at_ q ψ m
      exact ⟨o', (upd_ne (ne_of_none h' h)).trans h', hψ⟩
theorem FH.other (F : FH H L) (h : H p = none) : FH (upd H p o) L := ⟨F.nd, fun q ψ m => by
  obtain ⟨o', h', hψ⟩ := F.at_ q ψ m
  exact ⟨o', (upd_ne (ne_of_none h' h)).trans h', hψ⟩⟩
theorem Put.keys (m : Put p φ' L L') : L'.map (·.1) = L.map (·.1) := by
  induction m with
  | here => rfl
  | there _ ih => rw [List.map_cons, List.map_cons, ih]
theorem Put.mem (m : Put p φ' L L') : p ∈ L.map (·.1) := by
  induction m with
  | here => exact List.mem_cons_self
  | there _ ih => exact List.mem_cons_of_mem _ ih
theorem Put.of (m : Put p φ' L L') (nd : (L.map (·.1)).Nodup) {q : Addr} {ψ : HO → Prop} (h : (q, ψ) ∈ L') : (q = p ∧ ψ = φ') ∨ (q ≠ p ∧ (q, ψ) ∈ L) := by
  induction m with
  | @here φ L =>
    rcases List.mem_cons.mp h with e | h2
    · cases e; exact .inl ⟨rfl, rfl⟩
    · refine .inr ⟨fun e => ?_, List.mem_cons_of_mem _ h2⟩
      rw [List.map_cons, List.nodup_cons] at nd
      exact nd.1 (List.mem_map.mpr ⟨_, h2, e⟩)
  | @there x L L' m ih =>
    rw [List.map_cons, List.nodup_cons] at nd
    rcases List.mem_cons.mp h with e | h
    · subst e
      refine .inr ⟨fun e => ?_, List.mem_cons_self⟩
      exact nd.1 (e ▸ m.mem)
    · rcases ih nd.2 h with h | ⟨h1, h2⟩
      · exact .inl h
      · exact .inr ⟨h1, List.mem_cons_of_mem _ h2⟩
theorem FH.put (F : FH H L) (m : Put p φ' L L') (hφ : φ' o) : FH (upd H p o) L' := by
  refine ⟨by rw [m.keys]; exact F.nd, fun q ψ h => ?_⟩
  rcases m.of F.nd h with ⟨e1, e2⟩ | ⟨ne, h⟩
  · subst e1 e2
    exact ⟨o, upd_same, hφ⟩
  · obtain ⟨o', h', hψ⟩ := F.at_ q ψ h
    exact ⟨o', (upd_ne ne).trans h', hψ⟩
theorem FH.sub (F : FH H L) (s : L'.Sublist L) : FH H L' := ⟨(s.map _).nodup F.nd, fun p φ m => F.at_ p φ (s.subset m)⟩
theorem FH.tail {x : Addr × (HO → Prop)} (F : FH H (x :: L)) : FH H L := F.sub (List.sublist_cons_self _ _)
/-- an entry says less -/
theorem FH.weak (F : FH H L) (m : Put p φ' L L') (hφ : ∀ o, H p = some o → φ' o) : FH H L' := by
  refine ⟨by rw [m.keys]; exact F.nd, fun q ψ h => ?_⟩
  rcases m.of F.nd h with ⟨e1, e2⟩ | ⟨ne, h⟩
  · subst e1 e2
    have hm := m.mem
    obtain ⟨x, hx, e⟩ := List.mem_map.mp hm
    obtain ⟨o', h', _⟩ := F.at_ x.1 x.2 hx
    rw [e] at h'
    exact ⟨o', h', hφ o' h'⟩
  · exact F.at_ q ψ h
end

theorem FH.perm {H : Hp} {L L' : List (Addr × (HO → Prop))} (F : FH H L) (e : L.Perm L') : FH H L' := ⟨(e.map _).nodup F.nd, fun p φ m => F.at_ p φ (e.mem_iff.mpr m)⟩
theorem FH.open_ {H : Hp} {L : List (Addr × (HO → Prop))} {p : Addr} {φ : HO → Prop} (F : FH H L) (m : (p, φ) ∈ L) : ∃ o, φ o ∧ ∀ L', Put p (Is o) L L' → FH H L' := by
  obtain ⟨o, h, hφ⟩ := F.at_ p φ m
  exact ⟨o, hφ, fun L' pu => F.weak pu fun o' h' => by rw [h] at h'; exact (Option.some.inj h').symm⟩
theorem FH.close {H : Hp} {L L' : List (Addr × (HO → Prop))} {p : Addr} {o : HO} {φ : HO → Prop} (F : FH H L) (m : (p, Is o) ∈ L) (hφ : φ o) (pu : Put p φ L L') : FH H L' := F.weak pu fun o' h' => by
  rw [F.get m] at h'
  rw [← Option.some.inj h']
  exact hφ
theorem FH.ne {H : Hp} {x y : Addr × (HO → Prop)} {R : List (Addr × (HO → Prop))} (F : FH H (x :: y :: R)) : x.1 ≠ y.1 := by
  have h := F.nd
  rw [List.map_cons, List.map_cons, List.nodup_cons] at h
  exact fun e => h.1 (by rw [e]; exact List.mem_cons_self)
/-- an entry to the front -/
theorem pull {L : List (Addr × (HO → Prop))} {x : Addr × (HO → Prop)} (m : x ∈ L) : ∃ R, L.Perm (x :: R) := by
  obtain ⟨s, t, e⟩ := List.append_of_mem m
  subst e
  exact ⟨s ++ t, List.perm_middle⟩
theorem pull2 {L : List (Addr × (HO → Prop))} {x y : Addr × (HO → Prop)} (m : x ∈ L) (m' : y ∈ L) (ne : x.1 ≠ y.1) : ∃ R, L.Perm (x :: y :: R) := by
  obtain ⟨R, h⟩ := pull m
  have m2 := h.mem_iff.mp m'
  rcases List.mem_cons.mp m2 with e | m2
  · exact absurd (congrArg Prod.fst e).symm ne
  · obtain ⟨R', h'⟩ := pull m2
    exact ⟨R', h.trans (h'.cons _)⟩
theorem FH.diff {H : Hp} {L : List (Addr × (HO → Prop))} {p q : Addr} {φ ψ : HO → Prop} (F : FH H L) (m : (p, φ) ∈ L) (m' : (q, ψ) ∈ L) (h : ∀ o, φ o → ψ o → False) : p ≠ q := by
  intro e
  subst e
  obtain ⟨R, r⟩ := pull m
  have F' := F.perm r
  have m2 := r.mem_iff.mp m'
  rcases List.mem_cons.mp m2 with e | m2
  · obtain ⟨o, _, ho⟩ := F.at_ _ _ m
    cases e
    exact h o ho ho
  · have n := F'.nd
    rw [List.map_cons, List.nodup_cons] at n
    exact n.1 (List.mem_map.mpr ⟨_, m2, rfl⟩)

/-- x is taken out of L -/
inductive Take (x : Addr × (HO → Prop)) : List (Addr × (HO → Prop)) → List (Addr × (HO → Prop)) → Prop where
  | here {L} : Take x (x :: L) L
  | there {y L L'} (h : Take x L L') : Take x (y :: L) (y :: L')
/-- some of L, in any order -/
inductive Sel : List (Addr × (HO → Prop)) → List (Addr × (HO → Prop)) → Prop where
  | nil {L} : Sel [] L
  | all {L} : Sel L L
  | cons {x R L L'} (h : Take x L L') (s : Sel R L') : Sel (x :: R) L
theorem Take.perm {x : Addr × (HO → Prop)} {L L' : List (Addr × (HO → Prop))} (h : Take x L L') : L.Perm (x :: L') := by
  induction h with
  | here => exact List.Perm.refl _
  | there _ ih => exact (ih.cons _).trans (List.Perm.swap _ _ _)
theorem Sel.ok {R L : List (Addr × (HO → Prop))} (s : Sel R L) : ∃ M, L.Perm (R ++ M) := by
  induction s with
  | nil => exact ⟨_, List.Perm.refl _⟩
  | all => exact ⟨[], by rw [List.append_nil]⟩
  | cons h _ ih =>
    obtain ⟨M, e⟩ := ih
    exact ⟨M, h.perm.trans (e.cons _)⟩
theorem FH.sel {H : Hp} {L R : List (Addr × (HO → Prop))} (F : FH H L) (s : Sel R L) : FH H R := by
  obtain ⟨M, e⟩ := s.ok
  exact (F.perm e).sub (List.sublist_append_left _ _)

/-! ### one rule a construct -/
abbrev K0 := L2.St → Hp → Prop
section
variable {σ : L2.St} {H H' : Hp} {Q : VK} {QB : Bool → Hp → Prop} {QL : List V → Hp → Prop} {QO : Option Int → Hp → Prop} {QS : L2.St → Hp → Prop} {te ta tb tc : TE} {t u : TT} {tl : TA} {r r' : R2} {rc : List V → Hp → VK → Prop} {s1 s2 : TS} {nx bk ct : K0} {rt : VK} {v x y : V} {g : TG} {i j : Int} {b : Bool} {E : XK} {sp : Sp} {C : Addr} {P : Prop} [Decidable P] {A B : Prop} {S : Sta}
theorem is_var {n : Nat} (h : tVar n σ H Q) : tVar n σ H Q := h
theorem is_g {n : Nat} (h : gName n v σ H QS) : gName n v σ H QS := h
theorem is_au {n : Nat} {te : TE} {ti : TIp} {D : Ends} (h : tAug n te ti D σ H) : tAug n te ti D σ H := h
theorem is_ml {n : Nat} {D : List V} (h : eMakeL n C sp D E tl σ H Q) : eMakeL n C sp D E tl σ H Q := h
theorem is_isi {l : List V} (h : rIsI l H Q) : rIsI l H Q := h
theorem is_pow (h : rPow x y H Q) : rPow x y H Q := h
theorem is_ix (h : rIx S x y H Q) : rIx S x y H Q := h
theorem is_len {l : List V} (h : rLen S l H Q) : rLen S l H Q := h
theorem is_sl {x : V} {lo hi : Option Int} (h : rSl S x lo hi H Q) : rSl S x lo hi H Q := h
theorem is_eq (h : rEq x y H Q) : rEq x y H Q := h
theorem is_ne (h : rNe x y H Q) : rNe x y H Q := h
theorem is_is (h : rIs x y H Q) : rIs x y H Q := h
theorem is_isn (h : rIsNot x y H Q) : rIsNot x y H Q := h
theorem x_c (h : Q v H) : tC v σ H Q := h
theorem x_con (h : Q v H) : eCon v σ H Q := h
theorem x_op (h : ta σ H fun x H1 => tb σ H1 fun y H2 => r x y H2 Q) : tOp r ta tb σ H Q := h
theorem x_un {ru : V → Hp → VK → Prop} (h : ta σ H fun x H1 => ru x H1 Q) : tUn ru ta σ H Q := h
theorem x_add (h : Q (.int (i + j)) H) : rAdd (.int i) (.int j) H Q := .inl ⟨i, j, rfl, rfl, h⟩
theorem x_sub (h : Q (.int (i - j)) H) : rSub (.int i) (.int j) H Q := ⟨i, j, rfl, rfl, h⟩
theorem x_mul (c : CMul i j) (h : Q (.int (i * j)) H) : rMul (.int i) (.int j) H Q := ⟨i, j, rfl, rfl, c, h⟩
theorem x_fdiv (c : CDivW i j) (h : Q (.int (i / j)) H) : rFdiv (.int i) (.int j) H Q := ⟨i, j, rfl, rfl, c, h⟩
theorem x_mod (c : 0 < j) (h : Q (.int (i % j)) H) : rMod (.int i) (.int j) H Q := ⟨i, j, rfl, rfl, c, h⟩
theorem x_pow (c : CPow i j) (h : Q (.int (i ^ j.toNat)) H) : rPow (.int i) (.int j) H Q := ⟨i, j, rfl, rfl, c, h⟩
theorem x_shl (c : CPow i j) (h : Q (.int (i * 2 ^ j.toNat)) H) : rShl (.int i) (.int j) H Q := ⟨i, j, rfl, rfl, c, h⟩
theorem x_band (h : Q (.int (Builtin.bitAnd i j)) H) : rAnd (.int i) (.int j) H Q := ⟨i, j, rfl, rfl, h⟩
theorem x_neg (h : Q (.int (-i)) H) : rNeg (.int i) H Q := ⟨i, rfl, h⟩
theorem x_lt (h : Q (.bl (decide (i < j))) H) : rLt (.int i) (.int j) H Q := ⟨i, j, rfl, rfl, h⟩
theorem x_le (h : Q (.bl (decide (i ≤ j))) H) : rLe (.int i) (.int j) H Q := ⟨i, j, rfl, rfl, h⟩
theorem x_gt (h : Q (.bl (decide (j < i))) H) : rGt (.int i) (.int j) H Q := ⟨i, j, rfl, rfl, h⟩
theorem x_ge (h : Q (.bl (decide (j ≤ i))) H) : rGe (.int i) (.int j) H Q := ⟨i, j, rfl, rfl, h⟩
theorem x_eqI (h : Q (.bl (decide (i = j))) H) : rEq (.int i) (.int j) H Q := ⟨rfl, by rw [show decide (V.int i = V.int j) = decide (i = j) by rw [Bool.eq_iff_iff]; simp]; exact h⟩
theorem x_neI (h : Q (.bl (decide (i ≠ j))) H) : rNe (.int i) (.int j) H Q := ⟨rfl, by rw [show (!decide (V.int i = V.int j)) = decide (i ≠ j) by rw [Bool.eq_iff_iff]; simp]; exact h⟩
theorem x_eqB {a b : Bool} (h : Q (.bl (decide (a = b))) H) : rEq (.bl a) (.bl b) H Q := ⟨rfl, by rw [show decide (V.bl a = V.bl b) = decide (a = b) by rw [Bool.eq_iff_iff]; simp]; exact h⟩
theorem x_neB {a b : Bool} (h : Q (.bl (decide (a ≠ b))) H) : rNe (.bl a) (.bl b) H Q := ⟨rfl, by rw [show (!decide (V.bl a = V.bl b)) = decide (a ≠ b) by rw [Bool.eq_iff_iff]; simp]; exact h⟩
theorem x_eqS {a b : Str} (h : Q (.bl (decide (a = b))) H) : rEq (.str a) (.str b) H Q := ⟨rfl, by rw [show decide (V.str a = V.str b) = decide (a = b) by rw [Bool.eq_iff_iff]; simp]; exact h⟩
theorem x_neS {a b : Str} (h : Q (.bl (decide (a ≠ b))) H) : rNe (.str a) (.str b) H Q := ⟨rfl, by rw [show (!decide (V.str a = V.str b)) = decide (a ≠ b) by rw [Bool.eq_iff_iff]; simp]; exact h⟩
theorem x_isN (h : Q (.bl true) H) : rIs .non .non H Q := ⟨rfl, h⟩
theorem x_isnN (h : Q (.bl false) H) : rIsNot .non .non H Q := ⟨rfl, h⟩
theorem x_isI (h : Q (.bl false) H) : rIs (.int i) .non H Q := ⟨rfl, h⟩
theorem x_isnI (h : Q (.bl true) H) : rIsNot (.int i) .non H Q := ⟨rfl, h⟩
theorem x_isR (h : Q (.bl false) H) : rIs (.ref C) .non H Q := ⟨rfl, h⟩
theorem x_isnR (h : Q (.bl true) H) : rIsNot (.ref C) .non H Q := ⟨rfl, h⟩
theorem x_isB (h : Q (.bl false) H) : rIs (.bl b) .non H Q := ⟨rfl, h⟩
theorem x_isnB (h : Q (.bl true) H) : rIsNot (.bl b) .non H Q := ⟨rfl, h⟩
/-! tests -/
theorem x_test (h : te σ H fun x H' => ∃ k, x = .bl k ∧ QB k H') : tTest te σ H QB := h
theorem x_tB (h : te σ H fun x H' => ∃ k, x = .bl k ∧ QB k H') : tB te σ H QB := h
theorem x_bl {QK : Bool → Prop} (h : QK b) : ∃ k, V.bl b = .bl k ∧ QK k := ⟨b, rfl, h⟩
theorem x_not (h : t σ H fun c H1 => QB (!c) H1) : tNot t σ H QB := h
theorem x_and (h : t σ H fun c H1 => if c = true then u σ H1 QB else QB false H1) : tAnd t u σ H QB := h
theorem x_or (h : t σ H fun c H1 => if c = true then QB true H1 else u σ H1 QB) : tOr t u σ H QB := h
theorem x_andV (h : ta σ H fun x H1 => ∃ c, x = .bl c ∧ if c = true then tb σ H1 Q else Q (.bl false) H1) : tAndV ta tb σ H Q := h
theorem x_orV (h : ta σ H fun x H1 => ∃ c, x = .bl c ∧ if c = true then Q (.bl true) H1 else tb σ H1 Q) : tOrV ta tb σ H Q := h
theorem x_notV (h : ta σ H fun x H1 => ∃ c, x = .bl c ∧ Q (.bl (!c)) H1) : tNotV ta σ H Q := h
theorem x_tIf (h : t σ H fun c H1 => if c = true then ta σ H1 Q else tb σ H1 Q) : tIf t ta tb σ H Q := h
theorem x_chain (h : ta σ H fun x H1 => tb σ H1 fun y H2 => r x y H2 fun z H3 => ∃ k, z = .bl k ∧ (if k = true then tc σ H3 fun w' H4 => r' y w' H4 Q else Q (.bl false) H3)) : tChain r r' ta tb tc σ H Q := h
/-! decisions -/
theorem x_ite (h1 : P → A) (h2 : ¬ P → B) : if decide P = true then A else B := by
  by_cases h : P
  · rw [if_pos (decide_eq_true h)]; exact h1 h
  · rw [if_neg (by rw [decide_eq_false h]; exact Bool.false_ne_true)]; exact h2 h
theorem x_niteP (h1 : ¬ P → A) (h2 : P → B) : if (!decide P) = true then A else B := by
  by_cases h : P
  · rw [decide_eq_true h, if_neg (by simp)]; exact h2 h
  · rw [decide_eq_false h, if_pos (by simp)]; exact h1 h
theorem x_iteT (h : A) : if true = true then A else B := by rw [if_pos rfl]; exact h
theorem x_iteF (h : B) : if false = true then A else B := by rw [if_neg Bool.false_ne_true]; exact h
theorem x_niteT (h : B) : if (!true) = true then A else B := x_iteF h
theorem x_niteF (h : A) : if (!false) = true then A else B := x_iteT h
theorem x_itec (h1 : b = true → A) (h2 : b = false → B) : if b = true then A else B := by
  cases b with
  | true => exact x_iteT (h1 rfl)
  | false => exact x_iteF (h2 rfl)
theorem x_nitec (h1 : b = false → A) (h2 : b = true → B) : if (!b) = true then A else B := by
  cases b with
  | true => exact x_iteF (h2 rfl)
  | false => exact x_iteT (h1 rfl)
/-! statements -/
theorem x_seq (h : s1 ⟨s2 ⟨nx, rt, bk, ct⟩, rt, bk, ct⟩ σ H) : tSeq s1 s2 ⟨nx, rt, bk, ct⟩ σ H := h
theorem x_next (h : nx σ H) : tNext ⟨nx, rt, bk, ct⟩ σ H := h
theorem x_brk (h : bk σ H) : tBreak ⟨nx, rt, bk, ct⟩ σ H := h
theorem x_cont (h : ct σ H) : tCont ⟨nx, rt, bk, ct⟩ σ H := h
theorem x_drop (h : te σ H fun _ H1 => nx σ H1) : tDrop te ⟨nx, rt, bk, ct⟩ σ H := h
theorem x_ret (h : te σ H rt) : tRet te ⟨nx, rt, bk, ct⟩ σ H := h
theorem x_retN (h : rt .non H) : tRetN ⟨nx, rt, bk, ct⟩ σ H := h
theorem x_ifS (h : t σ H fun b H1 => if b = true then s1 ⟨nx, rt, bk, ct⟩ σ H1 else s2 ⟨nx, rt, bk, ct⟩ σ H1) : tIfS t s1 s2 ⟨nx, rt, bk, ct⟩ σ H := h
theorem x_asg (h : te σ H fun x H1 => g x σ H1 nx) : tAsg te g ⟨nx, rt, bk, ct⟩ σ H := h
theorem x_augA (h : Q (.int (i + j)) H) : rAug (.int i) (.int j) H Q := ⟨i, j, rfl, rfl, h⟩
theorem x_augS (h : Q (.int (i - j)) H) : rAugS (.int i) (.int j) H Q := ⟨i, j, rfl, rfl, h⟩
/-! calls, displays -/
theorem x_nil (h : QL [] H) : tNil σ H QL := h
theorem x_cons (h : ta σ H fun x H1 => tl σ H1 fun xs H2 => QL (x :: xs) H2) : tCons ta tl σ H QL := h
theorem x_cb (h : tl σ H fun vs H1 => rc vs H1 Q) : tCB rc tl σ H Q := h
theorem x_call (h : tl σ H fun vs H1 => sp (vs ++ []) H1 Q E) : tCall sp [] E tl σ H Q := h
theorem x_app {vs : List V} (h : sp vs H Q E) : sp (vs ++ []) H Q E := by rw [List.append_nil]; exact h
theorem x_app' {vs : List V} (h : sp (x :: vs) H Q E) : sp (x :: (vs ++ [])) H Q E := by rw [List.append_nil]; exact h
theorem x_raw {vs : List V} (h : sp vs H Q E) : spRaw sp vs H Q E := by unfold spRaw; rw [List.append_nil]; exact h
theorem x_cmeth (h : tl σ H fun vs H2 => sp (.ref C :: vs) H2 Q E) : ClX.tCMeth C sp E (eCon (.ref C)) tl σ H Q := ⟨rfl, h⟩
def Kmake (C : Addr) (sp : Sp) (vs : List V) (H1 : Hp) (Q : VK) (E : XK) : Prop := ∀ x dx, H1 x = none → H1 dx = none → dx ≠ x → sp (.ref x :: (vs ++ [])) (upd (upd H1 dx (.own x)) x (.ins C dx [])) (fun v H2 => v = .non ∧ Q (.ref x) H2) E
theorem x_make (h : tl σ H fun vs H1 => Kmake C sp vs H1 Q E) : tMake C sp [] E tl σ H Q := h
theorem x_meth {m : Str} (h : ta σ H fun x H1 => ∃ a dx fs, x = .ref a ∧ H1 a = some (.ins C dx fs) ∧ fs.lookup m = none ∧ tl σ H1 fun vs H2 => sp (x :: (vs ++ [])) H2 Q E) : tMeth C m sp [] E ta tl σ H Q := h
def Klst (xs : List V) (H1 : Hp) (Q : VK) : Prop := xs.length ≤ sizeLine ∧ ∀ p, H1 p = none → Q (.ref p) (upd H1 p (.lst xs))
theorem x_lst (h : tl σ H fun xs H1 => Klst xs H1 Q) : tLst tl σ H Q := h
def Ktup (xs : List V) (H1 : Hp) (Q : VK) : Prop := xs.length ≤ sizeLine ∧ ∀ p, H1 p = none → Q (.ref p) (upd H1 p (.tup xs))
theorem x_tup (h : tl σ H fun xs H1 => Ktup xs H1 Q) : tTup tl σ H Q := h
theorem x_intI (h : Q (.int i) H) : rInt [.int i] H Q := .inl ⟨i, rfl, h⟩
theorem x_intB (h : Q (.int (if b then 1 else 0)) H) : rInt [.bl b] H Q := .inr ⟨b, rfl, h⟩
theorem isi_of {n t : String} {bb : Bool} (ty : TyN H x t) (k : kitB t n = some bb) (e : isA t n = bb) (h : Q (.bl bb) H) : rIsI [x, .ty n] H Q := ⟨x, n, t, rfl, ty, by rw [e]; exact k, by rw [e]; exact h⟩

theorem kit_int_int : kitB "int" "int" = some true := by decide +kernel
theorem x_isi_int_int (h : Q (.bl true) H) : rIsI [.int i, .ty "int"] H Q := isi_of (.int i) kit_int_int rfl h
theorem kit_int_bool : kitB "int" "bool" = some false := by decide +kernel
theorem x_isi_int_bool (h : Q (.bl false) H) : rIsI [.int i, .ty "bool"] H Q := isi_of (.int i) kit_int_bool rfl h
theorem kit_int_str : kitB "int" "str" = some false := by decide +kernel
theorem x_isi_int_str (h : Q (.bl false) H) : rIsI [.int i, .ty "str"] H Q := isi_of (.int i) kit_int_str rfl h
theorem kit_int_list : kitB "int" "list" = some false := by decide +kernel
theorem x_isi_int_list (h : Q (.bl false) H) : rIsI [.int i, .ty "list"] H Q := isi_of (.int i) kit_int_list rfl h
theorem kit_int_tuple : kitB "int" "tuple" = some false := by decide +kernel
theorem x_isi_int_tuple (h : Q (.bl false) H) : rIsI [.int i, .ty "tuple"] H Q := isi_of (.int i) kit_int_tuple rfl h
theorem kit_int_dict : kitB "int" "dict" = some false := by decide +kernel
theorem x_isi_int_dict (h : Q (.bl false) H) : rIsI [.int i, .ty "dict"] H Q := isi_of (.int i) kit_int_dict rfl h
theorem kit_bool_int : kitB "bool" "int" = some true := by decide +kernel
theorem x_isi_bool_int (h : Q (.bl true) H) : rIsI [.bl b, .ty "int"] H Q := isi_of (.bl b) kit_bool_int rfl h
theorem kit_bool_bool : kitB "bool" "bool" = some true := by decide +kernel
theorem x_isi_bool_bool (h : Q (.bl true) H) : rIsI [.bl b, .ty "bool"] H Q := isi_of (.bl b) kit_bool_bool rfl h
theorem kit_bool_str : kitB "bool" "str" = some false := by decide +kernel
theorem x_isi_bool_str (h : Q (.bl false) H) : rIsI [.bl b, .ty "str"] H Q := isi_of (.bl b) kit_bool_str rfl h
theorem kit_bool_list : kitB "bool" "list" = some false := by decide +kernel
theorem x_isi_bool_list (h : Q (.bl false) H) : rIsI [.bl b, .ty "list"] H Q := isi_of (.bl b) kit_bool_list rfl h
theorem kit_bool_tuple : kitB "bool" "tuple" = some false := by decide +kernel
theorem x_isi_bool_tuple (h : Q (.bl false) H) : rIsI [.bl b, .ty "tuple"] H Q := isi_of (.bl b) kit_bool_tuple rfl h
theorem kit_bool_dict : kitB "bool" "dict" = some false := by decide +kernel
theorem x_isi_bool_dict (h : Q (.bl false) H) : rIsI [.bl b, .ty "dict"] H Q := isi_of (.bl b) kit_bool_dict rfl h
theorem kit_str_int : kitB "str" "int" = some false := by decide +kernel
theorem x_isi_str_int {zs : Str} (h : Q (.bl false) H) : rIsI [.str zs, .ty "int"] H Q := isi_of (.str zs) kit_str_int rfl h
theorem kit_str_bool : kitB "str" "bool" = some false := by decide +kernel
theorem x_isi_str_bool {zs : Str} (h : Q (.bl false) H) : rIsI [.str zs, .ty "bool"] H Q := isi_of (.str zs) kit_str_bool rfl h
theorem kit_str_str : kitB "str" "str" = some true := by decide +kernel
theorem x_isi_str_str {zs : Str} (h : Q (.bl true) H) : rIsI [.str zs, .ty "str"] H Q := isi_of (.str zs) kit_str_str rfl h
theorem kit_str_list : kitB "str" "list" = some false := by decide +kernel
theorem x_isi_str_list {zs : Str} (h : Q (.bl false) H) : rIsI [.str zs, .ty "list"] H Q := isi_of (.str zs) kit_str_list rfl h
theorem kit_str_tuple : kitB "str" "tuple" = some false := by decide +kernel
theorem x_isi_str_tuple {zs : Str} (h : Q (.bl false) H) : rIsI [.str zs, .ty "tuple"] H Q := isi_of (.str zs) kit_str_tuple rfl h
theorem kit_str_dict : kitB "str" "dict" = some false := by decide +kernel
theorem x_isi_str_dict {zs : Str} (h : Q (.bl false) H) : rIsI [.str zs, .ty "dict"] H Q := isi_of (.str zs) kit_str_dict rfl h
theorem kit_NoneType_int : kitB "NoneType" "int" = some false := by decide +kernel
theorem x_isi_NoneType_int (h : Q (.bl false) H) : rIsI [.non, .ty "int"] H Q := isi_of (.non) kit_NoneType_int rfl h
theorem kit_NoneType_bool : kitB "NoneType" "bool" = some false := by decide +kernel
theorem x_isi_NoneType_bool (h : Q (.bl false) H) : rIsI [.non, .ty "bool"] H Q := isi_of (.non) kit_NoneType_bool rfl h
theorem kit_NoneType_str : kitB "NoneType" "str" = some false := by decide +kernel
theorem x_isi_NoneType_str (h : Q (.bl false) H) : rIsI [.non, .ty "str"] H Q := isi_of (.non) kit_NoneType_str rfl h
theorem kit_NoneType_list : kitB "NoneType" "list" = some false := by decide +kernel
theorem x_isi_NoneType_list (h : Q (.bl false) H) : rIsI [.non, .ty "list"] H Q := isi_of (.non) kit_NoneType_list rfl h
theorem kit_NoneType_tuple : kitB "NoneType" "tuple" = some false := by decide +kernel
theorem x_isi_NoneType_tuple (h : Q (.bl false) H) : rIsI [.non, .ty "tuple"] H Q := isi_of (.non) kit_NoneType_tuple rfl h
theorem kit_NoneType_dict : kitB "NoneType" "dict" = some false := by decide +kernel
theorem x_isi_NoneType_dict (h : Q (.bl false) H) : rIsI [.non, .ty "dict"] H Q := isi_of (.non) kit_NoneType_dict rfl h
theorem kit_list_int : kitB "list" "int" = some false := by decide +kernel
theorem kit_list_bool : kitB "list" "bool" = some false := by decide +kernel
theorem kit_list_str : kitB "list" "str" = some false := by decide +kernel
theorem kit_list_list : kitB "list" "list" = some true := by decide +kernel
theorem kit_list_tuple : kitB "list" "tuple" = some false := by decide +kernel
theorem kit_list_dict : kitB "list" "dict" = some false := by decide +kernel
theorem kit_tuple_int : kitB "tuple" "int" = some false := by decide +kernel
theorem kit_tuple_bool : kitB "tuple" "bool" = some false := by decide +kernel
theorem kit_tuple_str : kitB "tuple" "str" = some false := by decide +kernel
theorem kit_tuple_list : kitB "tuple" "list" = some false := by decide +kernel
theorem kit_tuple_tuple : kitB "tuple" "tuple" = some true := by decide +kernel
theorem kit_tuple_dict : kitB "tuple" "dict" = some false := by decide +kernel
theorem kit_dict_int : kitB "dict" "int" = some false := by decide +kernel
theorem kit_dict_bool : kitB "dict" "bool" = some false := by decide +kernel
theorem kit_dict_str : kitB "dict" "str" = some false := by decide +kernel
theorem kit_dict_list : kitB "dict" "list" = some false := by decide +kernel
theorem kit_dict_tuple : kitB "dict" "tuple" = some false := by decide +kernel
theorem kit_dict_dict : kitB "dict" "dict" = some true := by decide +kernel

/-! the heap -/
variable {L L' : List (Addr × (HO → Prop))} {p q : Addr} {xs : List V} {f : Str} {dx : Addr} {fs : List (Str × V)} {lo hi : Option Int}
theorem x_ixL (F : FH H L) (m : (p, Is (.lst xs)) ∈ L) (a : atI xs i = some v) (h : Q v H) : rIx S (.ref p) (.int i) H Q := .inl ⟨p, xs, i, v, rfl, rfl, .inl (.inl (.inl (F.get m))), a, h⟩
theorem x_ixT (F : FH H L) (m : (p, Is (.tup xs)) ∈ L) (a : atI xs i = some v) (h : Q v H) : rIx S (.ref p) (.int i) H Q := .inl ⟨p, xs, i, v, rfl, rfl, .inr (.inl (.inl (F.get m))), a, h⟩
theorem x_ixR (F : FH H L) (m : (p, IsR xs) ∈ L) (a : atI xs i = some v) (h : Q v H) : rIx S (.ref p) (.int i) H Q := .inl ⟨p, xs, i, v, rfl, rfl, .inl (.inl (F.getR m)), a, h⟩
theorem x_lenL (F : FH H L) (m : (p, Is (.lst xs)) ∈ L) (h : Q (.int (xs.length : Int)) H) : rLen S [.ref p] H Q := .inl ⟨p, xs, rfl, .inl (.inl (.inl (F.get m))), h⟩
theorem x_lenT (F : FH H L) (m : (p, Is (.tup xs)) ∈ L) (h : Q (.int (xs.length : Int)) H) : rLen S [.ref p] H Q := .inl ⟨p, xs, rfl, .inr (.inl (.inl (F.get m))), h⟩
theorem x_lenR (F : FH H L) (m : (p, IsR xs) ∈ L) (h : Q (.int (xs.length : Int)) H) : rLen S [.ref p] H Q := .inl ⟨p, xs, rfl, .inl (.inl (F.getR m)), h⟩
theorem x_fld (h : te σ H fun x H1 => ∃ a dx fs v, x = .ref a ∧ H1 a = some (.ins C dx fs) ∧ fs.lookup f = some v ∧ Q v H1) : eFld C f te σ H Q := h
theorem x_fldG {QV : V → Prop} (F : FH H L) (m : (p, Is (.ins C dx fs)) ∈ L) (l : fs.lookup f = some v) (h : QV v) : ∃ a dx fs v, V.ref p = .ref a ∧ H a = some (.ins C dx fs) ∧ fs.lookup f = some v ∧ QV v := ⟨p, dx, fs, v, rfl, F.get m, l, h⟩
theorem x_methG {m : Str} {B : Prop} (F : FH H L) (hm : (p, Is (.ins C dx fs)) ∈ L) (l : fs.lookup m = none) (h : B) : ∃ a dx fs, V.ref p = .ref a ∧ H a = some (.ins C dx fs) ∧ fs.lookup m = none ∧ B := ⟨p, dx, fs, rfl, F.get hm, l, h⟩
theorem x_inOwnF (F : FH H L) (m : (p, Is (.ins C dx fs)) ∈ L) (h : sp [.ref p, y] H (fun v H' => ∃ b, v = .bl b ∧ Q (.bl b) H') E) : rInOwn C false sp E y (.ref p) H Q := ⟨p, dx, fs, rfl, F.get m, h⟩
theorem x_inOwnT (F : FH H L) (m : (p, Is (.ins C dx fs)) ∈ L) (h : sp [.ref p, y] H (fun v H' => ∃ b, v = .bl b ∧ Q (.bl (!b)) H') E) : rInOwn C true sp E y (.ref p) H Q := ⟨p, dx, fs, rfl, F.get m, h⟩
theorem x_setF (h : tb σ H fun y H1 => te σ H1 fun x H2 => ∃ a dx fs, x = .ref a ∧ H2 a = some (.ins C dx fs) ∧ fs.length < 1000 ∧ nx σ (upd H2 a (.ins C dx (putF f y fs)))) : sSetF C f te tb ⟨nx, rt, bk, ct⟩ σ H := h
theorem x_setFG {QH : Hp → Prop} {fs' : List (Str × V)} (F : FH H L) (m : (p, Is (.ins C dx fs)) ∈ L) (hl : fs.length < 1000) (e : putF f y fs = fs') (pu : Put p (Is (.ins C dx fs')) L L') (h : ∀ H', FH H' L' → QH H') : ∃ a dx fs, V.ref p = .ref a ∧ H a = some (.ins C dx fs) ∧ fs.length < 1000 ∧ QH (upd H a (.ins C dx (putF f y fs))) :=
  ⟨p, dx, fs, rfl, F.get m, hl, by rw [e]; exact h _ (F.put pu rfl)⟩
theorem x_gsub {to ti : TE} {ts : TSet} (h : to σ H fun o H1 => ti σ H1 fun i H2 => ts o i v H2 fun H3 => QS σ H3) : gSub to ti ts v σ H QS := h
theorem x_setL {k : Nat} {QH : Hp → Prop} (F : FH H L) (m : (p, Is (.lst xs)) ∈ L) (a : ixN xs.length i = some k) (pu : Put p (Is (.lst (xs.set k v))) L L') (h : ∀ H', FH H' L' → QH H') : rSetL (.ref p) (.int i) v H QH :=
  ⟨p, xs, i, k, rfl, rfl, F.get m, a, h _ (F.put pu rfl)⟩
theorem x_apd (h : te σ H fun x H1 => ∃ l, x = .ref l ∧ (∃ xs, H1 l = some (.lst xs)) ∧ tl σ H1 fun vs H2 => rAppend x vs H2 Q) : eApp te tl σ H Q := h
theorem x_apdG {B : Prop} (F : FH H L) (m : (p, Is (.lst xs)) ∈ L) (h : B) : ∃ l, V.ref p = .ref l ∧ (∃ xs, H l = some (.lst xs)) ∧ B := ⟨p, rfl, ⟨xs, F.get m⟩, h⟩
theorem x_append (F : FH H L) (m : (p, Is (.lst xs)) ∈ L) (z : xs.length < sizeLine) (pu : Put p (Is (.lst (xs ++ [v]))) L L') (h : ∀ H', FH H' L' → Q .non H') : rAppend (.ref p) [v] H Q :=
  ⟨p, xs, v, rfl, rfl, F.get m, z, h _ (F.put pu rfl)⟩
theorem x_lstG {xs : List V} (F : FH H L) (z : xs.length ≤ sizeLine) (h : ∀ p H', H p = none → FH H' ((p, Is (.lst xs)) :: L) → Q (.ref p) H') : Klst xs H Q := ⟨z, fun p hp => h p _ hp (F.new hp rfl)⟩
theorem x_tupG {xs : List V} (F : FH H L) (z : xs.length ≤ sizeLine) (h : ∀ p H', H p = none → FH H' ((p, Is (.tup xs)) :: L) → Q (.ref p) H') : Ktup xs H Q := ⟨z, fun p hp => h p _ hp (F.new hp rfl)⟩
theorem x_makeG {C : Addr} {vs : List V} (F : FH H L) (h : ∀ x dx H', FH H' ((x, Is (.ins C dx [])) :: L) → sp (.ref x :: vs) H' (fun v H2 => v = .non ∧ Q (.ref x) H2) E) :
    Kmake C sp vs H Q E := fun x dx hx hd ne => by
  rw [List.append_nil]
  exact h x dx _ ((F.other hd).new (by rw [upd_ne (Ne.symm ne)]; exact hx) rfl)
theorem x_sl {tlo thi : TO} {rs : V → Option Int → Option Int → Hp → VK → Prop} (h : te σ H fun x H1 => tlo σ H1 fun l H2 => thi σ H2 fun u H3 => rs x l u H3 Q) : L2.tSl rs te tlo thi σ H Q := h
theorem x_nopart (h : QO none H) : tNoPart σ H QO := h
theorem x_part (h : te σ H fun x H1 => ∃ i, x = .int i ∧ QO (some i) H1) : tPart te σ H QO := h
theorem x_slL (F : FH H L) (m : (p, Is (.lst xs)) ∈ L) (h : ∀ q H', H q = none → FH H' ((q, Is (.lst (cutV xs lo hi))) :: L) → Q (.ref q) H') : rSl S (.ref p) lo hi H Q := ⟨p, xs, rfl, .inl (.inl (F.get m)), fun q hq => h q _ hq (F.new hq rfl)⟩
theorem x_slR (F : FH H L) (m : (p, IsR xs) ∈ L) (h : ∀ q H', H q = none → FH H' ((q, Is (.lst (cutV xs lo hi))) :: L) → Q (.ref q) H') : rSl S (.ref p) lo hi H Q := ⟨p, xs, rfl, .inl (F.getR m), fun q hq => h q _ hq (F.new hq rfl)⟩
theorem x_slS (F : FH H L) (m : S p (.lst xs)) (h : ∀ q H', H q = none → FH H' ((q, Is (.lst (cutV xs lo hi))) :: L) → Q (.ref q) H') : rSl S (.ref p) lo hi H Q := ⟨p, xs, rfl, .inr m, fun q hq => h q _ hq (F.new hq rfl)⟩
theorem x_ixS (m : S p (.lst xs)) (a : atI xs i = some v) (h : Q v H) : rIx S (.ref p) (.int i) H Q := .inl ⟨p, xs, i, v, rfl, rfl, .inl (.inr m), a, h⟩
theorem x_lenS (m : S p (.lst xs)) (h : Q (.int (xs.length : Int)) H) : rLen S [.ref p] H Q := .inl ⟨p, xs, rfl, .inl (.inr m), h⟩
theorem x_none (h : v = .non → Q v H) : v = .non → Q v H := h
theorem x_initEnd {B : Prop} (h : B) : V.non = .non ∧ B := ⟨rfl, h⟩
/-! loops -/
def ForR (g : TG) (s1 : TS) (nx : K0) (rt : VK) (lo hi : Int) (σ : L2.St) (H : Hp) : Prop := (-(2 ^ 62) ≤ lo ∧ lo < 2 ^ 62 ∧ -(2 ^ 62) ≤ hi ∧ hi < 2 ^ 62) ∧ ∃ Pv : Nat → L2.St → Hp → Prop, Pv 0 σ H ∧
    (∀ (i : Nat) σ H, lo + i < hi → Pv i σ H → g (.int (lo + i)) σ H fun σ' H' => s1 ⟨Pv (i + 1), rt, nx, Pv (i + 1)⟩ σ' H') ∧ ∀ σ H, Pv (hi - lo).toNat σ H → nx σ H
theorem x_forR1 (h : te σ H fun y H1 => ∃ j, y = .int j ∧ ForR g s1 nx rt 0 j σ H1) : sForR none te g s1 ⟨nx, rt, bk, ct⟩ σ H := h
theorem x_forR2 (h : ta σ H fun x H1 => tb σ H1 fun y H2 => ∃ i j, x = .int i ∧ y = .int j ∧ ForR g s1 nx rt i j σ H2) : sForR (some ta) tb g s1 ⟨nx, rt, bk, ct⟩ σ H := h
theorem x_int1 {QK : Int → Prop} (h : QK i) : ∃ k, V.int i = .int k ∧ QK k := ⟨i, rfl, h⟩
theorem x_int2 {QK : Int → Int → Prop} (h : QK i j) : ∃ k l, V.int i = .int k ∧ V.int j = .int l ∧ QK k l := ⟨i, j, rfl, rfl, h⟩
/-- a range from 0 by an invariant -/
theorem forG (Pv : Nat → L2.St → Hp → Prop) (h2 : j < 4611686018427387904) (h1 : -4611686018427387904 ≤ j) (h0 : Pv 0 σ H)
    (hs : ∀ (i : Nat) σ H, (i : Int) < j → Pv i σ H → g (.int (i : Int)) σ H fun σ' H' => s1 ⟨Pv (i + 1), rt, nx, Pv (i + 1)⟩ σ' H') (hd : ∀ σ H, Pv j.toNat σ H → nx σ H) : ForR g s1 nx rt 0 j σ H :=
  ⟨⟨by decide, by decide, h1, h2⟩, Pv, h0, fun i σ H h p => by rw [Int.zero_add] at h ⊢; exact hs i σ H h p, fun σ H p => hd σ H (by rw [Int.sub_zero] at p; exact p)⟩
theorem forG2 (Pv : Nat → L2.St → Hp → Prop) (h : -4611686018427387904 ≤ i ∧ i < 4611686018427387904 ∧ -4611686018427387904 ≤ j ∧ j < 4611686018427387904) (h0 : Pv 0 σ H)
    (hs : ∀ (n : Nat) σ H, i + n < j → Pv n σ H → g (.int (i + n)) σ H fun σ' H' => s1 ⟨Pv (n + 1), rt, nx, Pv (n + 1)⟩ σ' H') (hd : ∀ σ H, Pv (j - i).toNat σ H → nx σ H) : ForR g s1 nx rt i j σ H := ⟨h, Pv, h0, hs, hd⟩
/-- the turns one by one: n turns from lo on; P behind them, bk behind a break -/
def forK (g : TG) (s1 : TS) (P bk : K0) (rt : VK) : Nat → Int → L2.St → Hp → Prop
  | 0, _, σ, H => P σ H
  | n + 1, lo, σ, H => g (.int lo) σ H fun σ' H' => s1 ⟨forK g s1 P bk rt n (lo + 1), rt, bk, forK g s1 P bk rt n (lo + 1)⟩ σ' H'
theorem forUC (n : Nat) (Post : L2.St → Hp → Prop) (e : j = (n : Int)) (h2 : j < 4611686018427387904) (h : forK g s1 Post nx rt n 0 σ H) (hd : ∀ σ H, Post σ H → nx σ H) : ForR g s1 nx rt 0 j σ H := by
  refine forG (fun i σ H => i ≤ n ∧ forK g s1 Post nx rt (n - i) (i : Int) σ H) h2 (by omega) ⟨Nat.zero_le _, h⟩ (fun i σ H hi p => ?_) fun σ H p => ?_
  · obtain ⟨q1, q2⟩ := p
    have e1 : n - i = (n - (i + 1)) + 1 := by omega
    rw [e1] at q2
    have e2 : ((i + 1 : Nat) : Int) = (i : Int) + 1 := by omega
    have e3 : (fun σ H => i + 1 ≤ n ∧ forK g s1 Post nx rt (n - (i + 1)) ((i + 1 : Nat) : Int) σ H) = forK g s1 Post nx rt (n - (i + 1)) ((i : Int) + 1) := by
      funext σ H
      rw [e2]
      exact propext ⟨fun h => h.2, fun h => ⟨by omega, h⟩⟩
    show g (.int (i : Int)) σ H fun σ' H' => s1 ⟨fun σ H => i + 1 ≤ n ∧ forK g s1 Post nx rt (n - (i + 1)) ((i + 1 : Nat) : Int) σ H, rt, nx, fun σ H => i + 1 ≤ n ∧ forK g s1 Post nx rt (n - (i + 1)) ((i + 1 : Nat) : Int) σ H⟩ σ' H'
    rw [e3]
    exact q2
  · obtain ⟨_, q⟩ := p
    have e4 : n - j.toNat = 0 := by omega
    rw [e4] at q
    exact hd _ _ q
theorem forU (n : Nat) (e : j = (n : Int)) (h2 : j < 4611686018427387904) (h : forK g s1 nx nx rt n 0 σ H) : ForR g s1 nx rt 0 j σ H := forUC n nx e h2 h fun _ _ h => h
theorem x_forK {n : Nat} (h : g (.int i) σ H fun σ' H' => s1 ⟨forK g s1 nx bk rt n (i + 1), rt, bk, forK g s1 nx bk rt n (i + 1)⟩ σ' H') : forK g s1 nx bk rt (n + 1) i σ H := h
theorem x_forK0 (h : nx σ H) : forK g s1 nx bk rt 0 i σ H := h
/-- where a list is read -/
inductive Src (S : Sta) (L : List (Addr × (HO → Prop))) (p : Addr) (xs : List V) : Prop where
  | is (m : (p, Is (.lst xs)) ∈ L)
  | rd (m : (p, IsR xs) ∈ L)
  | st (m : S p (.lst xs))
theorem Src.rdS {L : List (Addr × (HO → Prop))} (m : Src S L p xs) (F : FH H L) : RdS S H p (.lst xs) := by
  cases m with
  | is m => exact .inl (.inl (F.get m))
  | rd m => exact .inl (F.getR m)
  | st m => exact .inr m
theorem src_of {K : PySem.W.Frag} (st : S = SK K) (h : SqL K H p xs) : ∃ L, FH H L ∧ Src S L p xs := by
  subst st
  rcases h with h | h
  · refine ⟨[(p, IsR xs)], ⟨by simp, fun q φ m => ?_⟩, .rd (List.Mem.head _)⟩
    rcases List.mem_cons.mp m with e | m
    · cases e
      rcases h with h | ⟨o, h⟩
      · exact ⟨_, h, .inl rfl⟩
      · exact ⟨_, h, .inr ⟨o, rfl⟩⟩
    · cases m
  · exact ⟨[], ⟨by simp, fun q φ m => by cases m⟩, .st h⟩
def ForS (S : Sta) (g : TG) (s1 : TS) (nx : K0) (rt : VK) (x : V) (σ : L2.St) (H : Hp) : Prop := ∃ a xs, x = .ref a ∧ ∃ Pv : Nat → L2.St → Hp → Prop, Pv 0 σ H ∧ Stays S a xs (fun i H => ∃ σ, Pv i σ H) ∧
  (∀ i y σ H, xs[i]? = some y → Pv i σ H → g y σ H fun σ' H' => s1 ⟨Pv (i + 1), rt, nx, Pv (i + 1)⟩ σ' H') ∧ ∀ σ H, Pv xs.length σ H → nx σ H
theorem x_forE (h : te σ H fun x H1 => ForS S g s1 nx rt x σ H1) : sFor S te g s1 ⟨nx, rt, bk, ct⟩ σ H := h
/-- a list by an invariant -/
theorem forS (Pv : Nat → L2.St → Hp → Prop) (h0 : Pv 0 σ H) (hst : ∀ i σ H, i ≤ xs.length → Pv i σ H → RdS S H p (.lst xs))
    (hs : ∀ i y σ H, xs[i]? = some y → Pv i σ H → g y σ H fun σ' H' => s1 ⟨Pv (i + 1), rt, nx, Pv (i + 1)⟩ σ' H') (hd : ∀ σ H, Pv xs.length σ H → nx σ H) : ForS S g s1 nx rt (.ref p) σ H :=
  ⟨p, xs, rfl, Pv, h0, .inl fun i H hi ⟨σ, q⟩ => hst i σ H hi q, hs, hd⟩
/-- a list that stands: what is known of the heap is the same at each turn -/
theorem forL (Pv : Nat → L2.St → Prop) (F : FH H L) (m : Src S L p xs) (h0 : Pv 0 σ)
    (hs : ∀ i y σ H, xs[i]? = some y → Pv i σ → FH H L → g y σ H fun σ' H' => s1 ⟨fun σ H => Pv (i + 1) σ ∧ FH H L, rt, nx, fun σ H => Pv (i + 1) σ ∧ FH H L⟩ σ' H') (hd : ∀ σ H, Pv xs.length σ → FH H L → nx σ H) : ForS S g s1 nx rt (.ref p) σ H :=
  forS (fun i σ H => Pv i σ ∧ FH H L) ⟨h0, F⟩ (fun i σ H _ q => m.rdS q.2) (fun i y σ H e q => hs i y σ H e q.1 q.2) fun σ H q => hd σ H q.1 q.2
/-- the turns one by one over a known tuple -/
def forKS (S : Sta) (a : Addr) (u : HO) (g : TG) (s1 : TS) (P bk : K0) (rt : VK) : List V → L2.St → Hp → Prop
  | [], σ, H => P σ H
  | x :: xs, σ, H => g x σ H fun σ' H' => s1 ⟨fun σ H => RdS S H a u ∧ forKS S a u g s1 P bk rt xs σ H, rt, bk, fun σ H => RdS S H a u ∧ forKS S a u g s1 P bk rt xs σ H⟩ σ' H'
theorem forSU {k : Bool} (rd : RdS S H p (if k then .lst xs else .tup xs)) (Post : K0) (h : forKS S p (if k then .lst xs else .tup xs) g s1 Post nx rt xs σ H) (hp : ∀ σ H, Post σ H → nx σ H) : ForS S g s1 nx rt (.ref p) σ H := by
  refine ⟨p, xs, rfl, fun i σ H => RdS S H p (if k then .lst xs else .tup xs) ∧ forKS S p (if k then .lst xs else .tup xs) g s1 Post nx rt (xs.drop i) σ H, ⟨rd, by rw [List.drop_zero]; exact h⟩, ?_, fun i y σ H e q => ?_, fun σ H q => ?_⟩
  · cases k with
    | true => exact .inl fun i H _ ⟨σ, q, _⟩ => q
    | false => exact .inr fun i H _ ⟨σ, q, _⟩ => q
  · obtain ⟨_, q⟩ := q
    have hi := (List.getElem?_eq_some_iff.mp e)
    rw [List.drop_eq_getElem_cons hi.1, hi.2] at q
    exact q
  · obtain ⟨_, q⟩ := q
    rw [List.drop_length] at q
    exact hp σ H q
theorem forTU (F : FH H L) (m : (p, Is (.tup xs)) ∈ L) (h : forKS S p (.tup xs) g s1 nx nx rt xs σ H) : ForS S g s1 nx rt (.ref p) σ H := forSU (k := false) (.inl (.inl (F.get m))) nx h fun _ _ h => h
theorem forLU (F : FH H L) (m : (p, Is (.lst xs)) ∈ L) (h : forKS S p (.lst xs) g s1 nx nx rt xs σ H) : ForS S g s1 nx rt (.ref p) σ H := forSU (k := true) (.inl (.inl (F.get m))) nx h fun _ _ h => h
theorem x_forKS {a : Addr} {u : HO} (h : g x σ H fun σ' H' => s1 ⟨fun σ H => RdS S H a u ∧ forKS S a u g s1 nx bk rt xs σ H, rt, bk, fun σ H => RdS S H a u ∧ forKS S a u g s1 nx bk rt xs σ H⟩ σ' H') : forKS S a u g s1 nx bk rt (x :: xs) σ H := h
theorem x_forKS0 {a : Addr} {u : HO} (h : nx σ H) : forKS S a u g s1 nx bk rt [] σ H := h
theorem x_rdT (F : FH H L) (m : (p, Is (.tup xs)) ∈ L) (h : A) : RdS S H p (.tup xs) ∧ A := ⟨.inl (.inl (F.get m)), h⟩
theorem x_rdL (F : FH H L) (m : (p, Is (.lst xs)) ∈ L) (h : A) : RdS S H p (.lst xs) ∧ A := ⟨.inl (.inl (F.get m)), h⟩
/-! comprehensions -/
def LcS (S : Sta) (g : TG) (tt : TT) (tel : TE) (vs : List Nat) (Q : VK) (x : V) (σ : L2.St) (H1 : Hp) : Prop := ∃ a xs, x = .ref a ∧ ∃ k : Bool, RdS S H1 a (if k then .lst xs else .tup xs) ∧ ∀ D, H1 D = none → ∃ Pv : Nat → Hp → Prop, Pv 0 (upd H1 D (.lst [])) ∧ (∀ i H, i ≤ xs.length → Pv i H → RdS S H a (if k then .lst xs else .tup xs)) ∧
  (∀ i y H, xs[i]? = some y → Pv i H → g y (wipe σ vs) H fun σ2 H2 => wipe σ2 vs = wipe σ vs ∧ tt σ2 H2 fun b H3 => if b = true then tel σ2 H3 fun z H4 => ∃ acc, H4 D = some (.lst acc) ∧ acc.length < sizeLine ∧ Pv (i + 1) (upd H4 D (.lst (acc ++ [z]))) else Pv (i + 1) H3) ∧
  ∀ H, Pv xs.length H → Q (.ref D) H
theorem x_lcE {tt : TT} {tel : TE} {vs : List Nat} (h : te σ H fun x H1 => LcS S g tt tel vs Q x σ H1) : eLc S te g tt tel vs σ H Q := h
theorem x_wipe {σ2 σw : L2.St} {vs : List Nat} (e : wipe σ2 vs = σw) (h : A) : wipe σ2 vs = σw ∧ A := ⟨e, h⟩
theorem x_yes (h : QB true H) : tYes σ H QB := h
/-- a comprehension over a list that stands, whose element leaves the heap as it is -/
theorem lcFM {tt : TT} {tel : TE} {vs : List Nat} {σw : L2.St} (f : V → V) (keep : V → Bool) (F : FH H L) (m : Src S L p xs) (z : xs.length < 16777216) (ew : wipe σ vs = σw)
    (hs : ∀ y H (QX : V → Hp → Prop) (A : Hp → Prop), y ∈ xs → FH H L → (keep y = true → QX (f y) H) → (keep y = false → A H) → g y σw H fun σ2 H2 => wipe σ2 vs = σw ∧ tt σ2 H2 fun b H3 => if b = true then tel σ2 H3 QX else A H3)
    (hd : ∀ D H', FH H' ((D, Is (.lst ((xs.filter keep).map f))) :: L) → Q (.ref D) H') : LcS S g tt tel vs Q (.ref p) σ H := by
  have rd : ∀ H, FH H L → RdS S H p (.lst xs) := fun H F => m.rdS F
  subst ew
  refine ⟨p, xs, rfl, true, rd H F, fun D hD => ⟨fun i H => FH H ((D, Is (.lst (((xs.take i).filter keep).map f))) :: L), F.new hD rfl, fun i H _ q => rd H q.tail, fun i y H e q => ?_, fun H q => hd D H ?_⟩⟩
  · have hi : i < xs.length := (List.getElem?_eq_some_iff.mp e).1
    have et : xs.take (i + 1) = xs.take i ++ [y] := by rw [List.take_add_one, e]; rfl
    refine hs y H _ _ (List.mem_of_getElem? e) q.tail (fun k => ⟨_, q.get (List.Mem.head _), ?_, ?_⟩) fun k => ?_
    · have h1 : (((xs.take i).filter keep).map f).length ≤ i := by
        rw [List.length_map]
        exact Nat.le_trans (List.length_filter_le _ _) (by rw [List.length_take]; exact Nat.min_le_left _ _)
      rw [sizeLine_eq]; omega
    · show FH _ ((D, Is (.lst (((xs.take (i + 1)).filter keep).map f))) :: L)
      rw [et, List.filter_append, List.map_append]
      have e1 : ([y].filter keep).map f = [f y] := by simp [k]
      rw [e1]
      exact q.put .here rfl
    · show FH _ ((D, Is (.lst (((xs.take (i + 1)).filter keep).map f))) :: L)
      rw [et, List.filter_append, List.map_append]
      have e1 : ([y].filter keep).map f = [] := by simp [k]
      rw [e1, List.append_nil]
      exact q
  · have q : FH H ((D, Is (.lst (((xs.take xs.length).filter keep).map f))) :: L) := q
    rw [List.take_length] at q
    exact q
/-- .. of ints by a map of ints -/
theorem lcII {ns : List Int} {tel : TE} {vs : List Nat} {σw : L2.St} (f : Int → Int) (F : FH H L) (m : Src S L p (ns.map V.int)) (z : ns.length < 16777216) (ew : wipe σ vs = σw)
    (hs : ∀ y H (QX : V → Hp → Prop), y ∈ ns → FH H L → QX (.int (f y)) H → g (.int y) σw H fun σ2 H2 => wipe σ2 vs = σw ∧ tel σ2 H2 QX)
    (hd : ∀ D H', FH H' ((D, Is (.lst ((ns.map f).map V.int))) :: L) → Q (.ref D) H') : LcS S g tYes tel vs Q (.ref p) σ H := by
  refine lcFM (xs := ns.map V.int) (fun v => match v with | .int i => .int (f i) | v => v) (fun _ => true) F m (by rw [List.length_map]; exact z) ew (fun y H QX A hy F' hk hA => ?_) fun D H' F' => hd D H' ?_
  · obtain ⟨n, hn, e⟩ := List.mem_map.mp hy
    subst e
    exact hs n H QX hn F' (hk rfl)
  · have e : ((ns.map V.int).filter fun _ => true).map (fun v => match v with | .int i => V.int (f i) | v => v) = (ns.map f).map V.int := by
      rw [List.filter_eq_self.mpr (fun _ _ => rfl), List.map_map, List.map_map]
      rfl
    rw [e] at F'
    exact F'
theorem cutV_take {n : Nat} (h : xs.length ≤ n) : cutV xs none (some (n : Int)) = xs := by
  unfold cutV
  rw [HT.sIx_none, HT.sIx_nat, List.drop_zero, Nat.sub_zero, Nat.min_eq_right h, List.take_length]
/-! fields -/
theorem look_hit {f : Str} {v : V} {t : List (Str × V)} : List.lookup f ((f, v) :: t) = some v := by simp [List.lookup]
theorem look_nil {f : Str} : List.lookup f ([] : List (Str × V)) = none := rfl
theorem look_miss {f g : Str} {v : V} {r : Option V} {t : List (Str × V)} (h : ¬ f = g) (e : List.lookup f t = r) : List.lookup f ((g, v) :: t) = r := by
  have h' : (f == g) = false := by simpa using h
  simp only [List.lookup, h']
  exact e
theorem put_nil {f : Str} {v : V} : putF f v [] = [(f, v)] := rfl
theorem put_hit {f : Str} {v w : V} {t : List (Str × V)} : putF f v ((f, w) :: t) = (f, v) :: t := by
  show (if f = f then _ else _) = _
  rw [if_pos rfl]
theorem put_miss {f g : Str} {v w : V} {t t' : List (Str × V)} (h : ¬ g = f) (e : putF f v t = t') : putF f v ((g, w) :: t) = (g, w) :: t' := by
  show (if g = f then _ else _) = _
  rw [if_neg h, e]
/-! places -/
theorem atI_at {α : Type} {xs : List α} {j : Nat} {v : α} (e : i = (j : Int)) (h : xs[j]? = some v) : atI xs i = some v := by subst e; exact atI_nat h
theorem ixN_at {n j : Nat} (e : i = (j : Int)) (h : j < n) : ixN n i = some j := by
  subst e
  unfold ixN
  rw [if_pos (by omega), if_pos (by omega)]
  simp
theorem atI_ints {ns : List Int} (h0 : 0 ≤ i) (h1 : i < ((ns.map V.int).length : Int)) : atI (ns.map V.int) i = some (.int (ns.getD i.toNat 0)) := by
  have hl : i.toNat < ns.length := by rw [List.length_map] at h1; omega
  refine atI_at (j := i.toNat) (by omega) ?_
  rw [List.getElem?_map, List.getElem?_eq_getElem hl, List.getD_eq_getElem?_getD, List.getElem?_eq_getElem hl]
  rfl
theorem getD_nn {ns : List Int} (h : ∀ n ∈ ns, 0 ≤ n) (k : Nat) : 0 ≤ ns.getD k 0 := by
  rw [List.getD_eq_getElem?_getD]
  cases e : ns[k]? with
  | none => exact Int.le_refl 0
  | some z => exact h z (List.mem_of_getElem? e)
theorem ixN_b {n j : Nat} (e : i = (j : Int)) (h : Nat.blt j n = true) : ixN n i = some j := ixN_at e (by simpa [Nat.blt_eq] using h)
theorem ixN_i {n : Nat} (h0 : 0 ≤ i) (h1 : i < (n : Int)) : ixN n i = some i.toNat := by
  unfold ixN
  rw [if_pos h0, if_pos h1]
theorem len_leB {xs : List V} (h : Nat.ble xs.length 16777216 = true) : xs.length ≤ sizeLine := by rw [sizeLine_eq]; exact Nat.le_of_ble_eq_true h
theorem len_ltB {xs : List V} (h : Nat.blt xs.length 16777216 = true) : xs.length < sizeLine := by rw [sizeLine_eq]; simpa [Nat.blt_eq] using h
theorem len_leN {xs : List V} (h : xs.length ≤ 16777216) : xs.length ≤ sizeLine := by rw [sizeLine_eq]; exact h
theorem len_ltN {xs : List V} (h : xs.length < 16777216) : xs.length < sizeLine := by rw [sizeLine_eq]; exact h
theorem len_le {xs : List V} {n : Nat} (e : xs.length = n) (h : n ≤ 16777216) : xs.length ≤ sizeLine := by rw [e, sizeLine_eq]; exact h
theorem len_lt {xs : List V} {n : Nat} (e : xs.length = n) (h : n < 16777216) : xs.length < sizeLine := by rw [e, sizeLine_eq]; exact h
theorem div_small (h1 : 0 < j) (h2 : j < 18446744073709551616) : CDivW i j := wide_div (b := 64) h1 (by omega) (by decide) (by decide)
theorem mulL (h1 : -18446744073709551616 < i) (h2 : i < 18446744073709551616) : CMul i j := .inl ⟨h1, h2⟩
theorem mulR (h1 : -18446744073709551616 < j) (h2 : j < 18446744073709551616) : CMul i j := .inr ⟨h1, h2⟩

theorem x_pw10_1 (h : Q (.int 10) H) : rPow (.int 10) (.int 1) H Q := x_pow ⟨by decide, by decide, by decide⟩ (by rw [show (10 : Int) ^ (Int.toNat 1) = 10 by decide]; exact h)
theorem x_pw10_2 (h : Q (.int 100) H) : rPow (.int 10) (.int 2) H Q := x_pow ⟨by decide, by decide, by decide⟩ (by rw [show (10 : Int) ^ (Int.toNat 2) = 100 by decide]; exact h)
theorem x_pw10_3 (h : Q (.int 1000) H) : rPow (.int 10) (.int 3) H Q := x_pow ⟨by decide, by decide, by decide⟩ (by rw [show (10 : Int) ^ (Int.toNat 3) = 1000 by decide]; exact h)
theorem x_pw10_4 (h : Q (.int 10000) H) : rPow (.int 10) (.int 4) H Q := x_pow ⟨by decide, by decide, by decide⟩ (by rw [show (10 : Int) ^ (Int.toNat 4) = 10000 by decide]; exact h)
theorem x_pw10_5 (h : Q (.int 100000) H) : rPow (.int 10) (.int 5) H Q := x_pow ⟨by decide, by decide, by decide⟩ (by rw [show (10 : Int) ^ (Int.toNat 5) = 100000 by decide]; exact h)
theorem x_pw10_6 (h : Q (.int 1000000) H) : rPow (.int 10) (.int 6) H Q := x_pow ⟨by decide, by decide, by decide⟩ (by rw [show (10 : Int) ^ (Int.toNat 6) = 1000000 by decide]; exact h)
theorem x_pw10_7 (h : Q (.int 10000000) H) : rPow (.int 10) (.int 7) H Q := x_pow ⟨by decide, by decide, by decide⟩ (by rw [show (10 : Int) ^ (Int.toNat 7) = 10000000 by decide]; exact h)
theorem x_pw10_8 (h : Q (.int 100000000) H) : rPow (.int 10) (.int 8) H Q := x_pow ⟨by decide, by decide, by decide⟩ (by rw [show (10 : Int) ^ (Int.toNat 8) = 100000000 by decide]; exact h)
theorem x_pw10_9 (h : Q (.int 1000000000) H) : rPow (.int 10) (.int 9) H Q := x_pow ⟨by decide, by decide, by decide⟩ (by rw [show (10 : Int) ^ (Int.toNat 9) = 1000000000 by decide]; exact h)
theorem x_pw10_10 (h : Q (.int 10000000000) H) : rPow (.int 10) (.int 10) H Q := x_pow ⟨by decide, by decide, by decide⟩ (by rw [show (10 : Int) ^ (Int.toNat 10) = 10000000000 by decide]; exact h)
theorem x_pw10_11 (h : Q (.int 100000000000) H) : rPow (.int 10) (.int 11) H Q := x_pow ⟨by decide, by decide, by decide⟩ (by rw [show (10 : Int) ^ (Int.toNat 11) = 100000000000 by decide]; exact h)
theorem x_pw10_12 (h : Q (.int 1000000000000) H) : rPow (.int 10) (.int 12) H Q := x_pow ⟨by decide, by decide, by decide⟩ (by rw [show (10 : Int) ^ (Int.toNat 12) = 1000000000000 by decide]; exact h)
theorem x_pw10_13 (h : Q (.int 10000000000000) H) : rPow (.int 10) (.int 13) H Q := x_pow ⟨by decide, by decide, by decide⟩ (by rw [show (10 : Int) ^ (Int.toNat 13) = 10000000000000 by decide]; exact h)
theorem x_pw10_14 (h : Q (.int 100000000000000) H) : rPow (.int 10) (.int 14) H Q := x_pow ⟨by decide, by decide, by decide⟩ (by rw [show (10 : Int) ^ (Int.toNat 14) = 100000000000000 by decide]; exact h)
theorem x_pw10_15 (h : Q (.int 1000000000000000) H) : rPow (.int 10) (.int 15) H Q := x_pow ⟨by decide, by decide, by decide⟩ (by rw [show (10 : Int) ^ (Int.toNat 15) = 1000000000000000 by decide]; exact h)
theorem x_pw10_16 (h : Q (.int 10000000000000000) H) : rPow (.int 10) (.int 16) H Q := x_pow ⟨by decide, by decide, by decide⟩ (by rw [show (10 : Int) ^ (Int.toNat 16) = 10000000000000000 by decide]; exact h)
theorem x_pw10_17 (h : Q (.int 100000000000000000) H) : rPow (.int 10) (.int 17) H Q := x_pow ⟨by decide, by decide, by decide⟩ (by rw [show (10 : Int) ^ (Int.toNat 17) = 100000000000000000 by decide]; exact h)
theorem x_pw10_18 (h : Q (.int 1000000000000000000) H) : rPow (.int 10) (.int 18) H Q := x_pow ⟨by decide, by decide, by decide⟩ (by rw [show (10 : Int) ^ (Int.toNat 18) = 1000000000000000000 by decide]; exact h)
theorem x_pw10_19 (h : Q (.int 10000000000000000000) H) : rPow (.int 10) (.int 19) H Q := x_pow ⟨by decide, by decide, by decide⟩ (by rw [show (10 : Int) ^ (Int.toNat 19) = 10000000000000000000 by decide]; exact h)
theorem x_pw10_20 (h : Q (.int 100000000000000000000) H) : rPow (.int 10) (.int 20) H Q := x_pow ⟨by decide, by decide, by decide⟩ (by rw [show (10 : Int) ^ (Int.toNat 20) = 100000000000000000000 by decide]; exact h)
theorem x_pw10_21 (h : Q (.int 1000000000000000000000) H) : rPow (.int 10) (.int 21) H Q := x_pow ⟨by decide, by decide, by decide⟩ (by rw [show (10 : Int) ^ (Int.toNat 21) = 1000000000000000000000 by decide]; exact h)
theorem x_pw10_22 (h : Q (.int 10000000000000000000000) H) : rPow (.int 10) (.int 22) H Q := x_pow ⟨by decide, by decide, by decide⟩ (by rw [show (10 : Int) ^ (Int.toNat 22) = 10000000000000000000000 by decide]; exact h)
theorem x_pw10_23 (h : Q (.int 100000000000000000000000) H) : rPow (.int 10) (.int 23) H Q := x_pow ⟨by decide, by decide, by decide⟩ (by rw [show (10 : Int) ^ (Int.toNat 23) = 100000000000000000000000 by decide]; exact h)
theorem x_pw10_24 (h : Q (.int 1000000000000000000000000) H) : rPow (.int 10) (.int 24) H Q := x_pow ⟨by decide, by decide, by decide⟩ (by rw [show (10 : Int) ^ (Int.toNat 24) = 1000000000000000000000000 by decide]; exact h)
theorem x_pw2_6 (h : Q (.int 64) H) : rPow (.int 2) (.int 6) H Q := x_pow ⟨by decide, by decide, by decide⟩ (by rw [show (2 : Int) ^ (Int.toNat 6) = 64 by decide]; exact h)
theorem x_pw2_10 (h : Q (.int 1024) H) : rPow (.int 2) (.int 10) H Q := x_pow ⟨by decide, by decide, by decide⟩ (by rw [show (2 : Int) ^ (Int.toNat 10) = 1024 by decide]; exact h)
theorem x_pw2_16 (h : Q (.int 65536) H) : rPow (.int 2) (.int 16) H Q := x_pow ⟨by decide, by decide, by decide⟩ (by rw [show (2 : Int) ^ (Int.toNat 16) = 65536 by decide]; exact h)
theorem x_pw2_20 (h : Q (.int 1048576) H) : rPow (.int 2) (.int 20) H Q := x_pow ⟨by decide, by decide, by decide⟩ (by rw [show (2 : Int) ^ (Int.toNat 20) = 1048576 by decide]; exact h)
theorem x_pw2_30 (h : Q (.int 1073741824) H) : rPow (.int 2) (.int 30) H Q := x_pow ⟨by decide, by decide, by decide⟩ (by rw [show (2 : Int) ^ (Int.toNat 30) = 1073741824 by decide]; exact h)
theorem x_pw2_31 (h : Q (.int 2147483648) H) : rPow (.int 2) (.int 31) H Q := x_pow ⟨by decide, by decide, by decide⟩ (by rw [show (2 : Int) ^ (Int.toNat 31) = 2147483648 by decide]; exact h)
theorem x_pw2_32 (h : Q (.int 4294967296) H) : rPow (.int 2) (.int 32) H Q := x_pow ⟨by decide, by decide, by decide⟩ (by rw [show (2 : Int) ^ (Int.toNat 32) = 4294967296 by decide]; exact h)
theorem x_pw2_40 (h : Q (.int 1099511627776) H) : rPow (.int 2) (.int 40) H Q := x_pow ⟨by decide, by decide, by decide⟩ (by rw [show (2 : Int) ^ (Int.toNat 40) = 1099511627776 by decide]; exact h)
theorem x_pw2_48 (h : Q (.int 281474976710656) H) : rPow (.int 2) (.int 48) H Q := x_pow ⟨by decide, by decide, by decide⟩ (by rw [show (2 : Int) ^ (Int.toNat 48) = 281474976710656 by decide]; exact h)
theorem x_pw2_60 (h : Q (.int 1152921504606846976) H) : rPow (.int 2) (.int 60) H Q := x_pow ⟨by decide, by decide, by decide⟩ (by rw [show (2 : Int) ^ (Int.toNat 60) = 1152921504606846976 by decide]; exact h)
theorem x_pw2_62 (h : Q (.int 4611686018427387904) H) : rPow (.int 2) (.int 62) H Q := x_pow ⟨by decide, by decide, by decide⟩ (by rw [show (2 : Int) ^ (Int.toNat 62) = 4611686018427387904 by decide]; exact h)
theorem x_pw2_63 (h : Q (.int 9223372036854775808) H) : rPow (.int 2) (.int 63) H Q := x_pow ⟨by decide, by decide, by decide⟩ (by rw [show (2 : Int) ^ (Int.toNat 63) = 9223372036854775808 by decide]; exact h)
theorem x_pw2_64 (h : Q (.int 18446744073709551616) H) : rPow (.int 2) (.int 64) H Q := x_pow ⟨by decide, by decide, by decide⟩ (by rw [show (2 : Int) ^ (Int.toNat 64) = 18446744073709551616 by decide]; exact h)
theorem x_v0 {σ : L2.St} (h : Q v H) : tVar 0 (some v :: σ) H Q := ⟨v, rfl, h⟩
theorem x_g0 {x : Option V} {σ : L2.St} (h : QS (some v :: σ) H) : gName 0 v (x :: σ) H QS := h
theorem x_ml0 {σ : L2.St} (h : tMake C sp [] E tl (some (.ref C) :: σ) H Q) : eMakeL 0 C sp [] E tl (some (.ref C) :: σ) H Q := ⟨rfl, h⟩
theorem x_au0 {te : TE} {ti : TIp} {σ : L2.St} (h : te (some x :: σ) H fun y H1 => ti x y H1 fun z H2 => nx (some z :: σ) H2) : tAug 0 te ti ⟨nx, rt, bk, ct⟩ (some x :: σ) H := ⟨x, rfl, h⟩
theorem x_v1 {a0 : Option V} {σ : L2.St} (h : Q v H) : tVar 1 (a0 :: some v :: σ) H Q := ⟨v, rfl, h⟩
theorem x_g1 {a0 : Option V} {x : Option V} {σ : L2.St} (h : QS (a0 :: some v :: σ) H) : gName 1 v (a0 :: x :: σ) H QS := h
theorem x_ml1 {a0 : Option V} {σ : L2.St} (h : tMake C sp [] E tl (a0 :: some (.ref C) :: σ) H Q) : eMakeL 1 C sp [] E tl (a0 :: some (.ref C) :: σ) H Q := ⟨rfl, h⟩
theorem x_au1 {te : TE} {ti : TIp} {a0 : Option V} {σ : L2.St} (h : te (a0 :: some x :: σ) H fun y H1 => ti x y H1 fun z H2 => nx (a0 :: some z :: σ) H2) : tAug 1 te ti ⟨nx, rt, bk, ct⟩ (a0 :: some x :: σ) H := ⟨x, rfl, h⟩
theorem x_v2 {a0 a1 : Option V} {σ : L2.St} (h : Q v H) : tVar 2 (a0 :: a1 :: some v :: σ) H Q := ⟨v, rfl, h⟩
theorem x_g2 {a0 a1 : Option V} {x : Option V} {σ : L2.St} (h : QS (a0 :: a1 :: some v :: σ) H) : gName 2 v (a0 :: a1 :: x :: σ) H QS := h
theorem x_ml2 {a0 a1 : Option V} {σ : L2.St} (h : tMake C sp [] E tl (a0 :: a1 :: some (.ref C) :: σ) H Q) : eMakeL 2 C sp [] E tl (a0 :: a1 :: some (.ref C) :: σ) H Q := ⟨rfl, h⟩
theorem x_au2 {te : TE} {ti : TIp} {a0 a1 : Option V} {σ : L2.St} (h : te (a0 :: a1 :: some x :: σ) H fun y H1 => ti x y H1 fun z H2 => nx (a0 :: a1 :: some z :: σ) H2) : tAug 2 te ti ⟨nx, rt, bk, ct⟩ (a0 :: a1 :: some x :: σ) H := ⟨x, rfl, h⟩
theorem x_v3 {a0 a1 a2 : Option V} {σ : L2.St} (h : Q v H) : tVar 3 (a0 :: a1 :: a2 :: some v :: σ) H Q := ⟨v, rfl, h⟩
theorem x_g3 {a0 a1 a2 : Option V} {x : Option V} {σ : L2.St} (h : QS (a0 :: a1 :: a2 :: some v :: σ) H) : gName 3 v (a0 :: a1 :: a2 :: x :: σ) H QS := h
theorem x_ml3 {a0 a1 a2 : Option V} {σ : L2.St} (h : tMake C sp [] E tl (a0 :: a1 :: a2 :: some (.ref C) :: σ) H Q) : eMakeL 3 C sp [] E tl (a0 :: a1 :: a2 :: some (.ref C) :: σ) H Q := ⟨rfl, h⟩
theorem x_au3 {te : TE} {ti : TIp} {a0 a1 a2 : Option V} {σ : L2.St} (h : te (a0 :: a1 :: a2 :: some x :: σ) H fun y H1 => ti x y H1 fun z H2 => nx (a0 :: a1 :: a2 :: some z :: σ) H2) : tAug 3 te ti ⟨nx, rt, bk, ct⟩ (a0 :: a1 :: a2 :: some x :: σ) H := ⟨x, rfl, h⟩
theorem x_v4 {a0 a1 a2 a3 : Option V} {σ : L2.St} (h : Q v H) : tVar 4 (a0 :: a1 :: a2 :: a3 :: some v :: σ) H Q := ⟨v, rfl, h⟩
theorem x_g4 {a0 a1 a2 a3 : Option V} {x : Option V} {σ : L2.St} (h : QS (a0 :: a1 :: a2 :: a3 :: some v :: σ) H) : gName 4 v (a0 :: a1 :: a2 :: a3 :: x :: σ) H QS := h
theorem x_ml4 {a0 a1 a2 a3 : Option V} {σ : L2.St} (h : tMake C sp [] E tl (a0 :: a1 :: a2 :: a3 :: some (.ref C) :: σ) H Q) : eMakeL 4 C sp [] E tl (a0 :: a1 :: a2 :: a3 :: some (.ref C) :: σ) H Q := ⟨rfl, h⟩
theorem x_au4 {te : TE} {ti : TIp} {a0 a1 a2 a3 : Option V} {σ : L2.St} (h : te (a0 :: a1 :: a2 :: a3 :: some x :: σ) H fun y H1 => ti x y H1 fun z H2 => nx (a0 :: a1 :: a2 :: a3 :: some z :: σ) H2) : tAug 4 te ti ⟨nx, rt, bk, ct⟩ (a0 :: a1 :: a2 :: a3 :: some x :: σ) H := ⟨x, rfl, h⟩
theorem x_v5 {a0 a1 a2 a3 a4 : Option V} {σ : L2.St} (h : Q v H) : tVar 5 (a0 :: a1 :: a2 :: a3 :: a4 :: some v :: σ) H Q := ⟨v, rfl, h⟩
theorem x_g5 {a0 a1 a2 a3 a4 : Option V} {x : Option V} {σ : L2.St} (h : QS (a0 :: a1 :: a2 :: a3 :: a4 :: some v :: σ) H) : gName 5 v (a0 :: a1 :: a2 :: a3 :: a4 :: x :: σ) H QS := h
theorem x_ml5 {a0 a1 a2 a3 a4 : Option V} {σ : L2.St} (h : tMake C sp [] E tl (a0 :: a1 :: a2 :: a3 :: a4 :: some (.ref C) :: σ) H Q) : eMakeL 5 C sp [] E tl (a0 :: a1 :: a2 :: a3 :: a4 :: some (.ref C) :: σ) H Q := ⟨rfl, h⟩
theorem x_au5 {te : TE} {ti : TIp} {a0 a1 a2 a3 a4 : Option V} {σ : L2.St} (h : te (a0 :: a1 :: a2 :: a3 :: a4 :: some x :: σ) H fun y H1 => ti x y H1 fun z H2 => nx (a0 :: a1 :: a2 :: a3 :: a4 :: some z :: σ) H2) : tAug 5 te ti ⟨nx, rt, bk, ct⟩ (a0 :: a1 :: a2 :: a3 :: a4 :: some x :: σ) H := ⟨x, rfl, h⟩
theorem x_v6 {a0 a1 a2 a3 a4 a5 : Option V} {σ : L2.St} (h : Q v H) : tVar 6 (a0 :: a1 :: a2 :: a3 :: a4 :: a5 :: some v :: σ) H Q := ⟨v, rfl, h⟩
theorem x_g6 {a0 a1 a2 a3 a4 a5 : Option V} {x : Option V} {σ : L2.St} (h : QS (a0 :: a1 :: a2 :: a3 :: a4 :: a5 :: some v :: σ) H) : gName 6 v (a0 :: a1 :: a2 :: a3 :: a4 :: a5 :: x :: σ) H QS := h
theorem x_ml6 {a0 a1 a2 a3 a4 a5 : Option V} {σ : L2.St} (h : tMake C sp [] E tl (a0 :: a1 :: a2 :: a3 :: a4 :: a5 :: some (.ref C) :: σ) H Q) : eMakeL 6 C sp [] E tl (a0 :: a1 :: a2 :: a3 :: a4 :: a5 :: some (.ref C) :: σ) H Q := ⟨rfl, h⟩
theorem x_au6 {te : TE} {ti : TIp} {a0 a1 a2 a3 a4 a5 : Option V} {σ : L2.St} (h : te (a0 :: a1 :: a2 :: a3 :: a4 :: a5 :: some x :: σ) H fun y H1 => ti x y H1 fun z H2 => nx (a0 :: a1 :: a2 :: a3 :: a4 :: a5 :: some z :: σ) H2) : tAug 6 te ti ⟨nx, rt, bk, ct⟩ (a0 :: a1 :: a2 :: a3 :: a4 :: a5 :: some x :: σ) H := ⟨x, rfl, h⟩
theorem x_v7 {a0 a1 a2 a3 a4 a5 a6 : Option V} {σ : L2.St} (h : Q v H) : tVar 7 (a0 :: a1 :: a2 :: a3 :: a4 :: a5 :: a6 :: some v :: σ) H Q := ⟨v, rfl, h⟩
theorem x_g7 {a0 a1 a2 a3 a4 a5 a6 : Option V} {x : Option V} {σ : L2.St} (h : QS (a0 :: a1 :: a2 :: a3 :: a4 :: a5 :: a6 :: some v :: σ) H) : gName 7 v (a0 :: a1 :: a2 :: a3 :: a4 :: a5 :: a6 :: x :: σ) H QS := h
theorem x_ml7 {a0 a1 a2 a3 a4 a5 a6 : Option V} {σ : L2.St} (h : tMake C sp [] E tl (a0 :: a1 :: a2 :: a3 :: a4 :: a5 :: a6 :: some (.ref C) :: σ) H Q) : eMakeL 7 C sp [] E tl (a0 :: a1 :: a2 :: a3 :: a4 :: a5 :: a6 :: some (.ref C) :: σ) H Q := ⟨rfl, h⟩
theorem x_au7 {te : TE} {ti : TIp} {a0 a1 a2 a3 a4 a5 a6 : Option V} {σ : L2.St} (h : te (a0 :: a1 :: a2 :: a3 :: a4 :: a5 :: a6 :: some x :: σ) H fun y H1 => ti x y H1 fun z H2 => nx (a0 :: a1 :: a2 :: a3 :: a4 :: a5 :: a6 :: some z :: σ) H2) : tAug 7 te ti ⟨nx, rt, bk, ct⟩ (a0 :: a1 :: a2 :: a3 :: a4 :: a5 :: a6 :: some x :: σ) H := ⟨x, rfl, h⟩
theorem x_v8 {a0 a1 a2 a3 a4 a5 a6 a7 : Option V} {σ : L2.St} (h : Q v H) : tVar 8 (a0 :: a1 :: a2 :: a3 :: a4 :: a5 :: a6 :: a7 :: some v :: σ) H Q := ⟨v, rfl, h⟩
theorem x_g8 {a0 a1 a2 a3 a4 a5 a6 a7 : Option V} {x : Option V} {σ : L2.St} (h : QS (a0 :: a1 :: a2 :: a3 :: a4 :: a5 :: a6 :: a7 :: some v :: σ) H) : gName 8 v (a0 :: a1 :: a2 :: a3 :: a4 :: a5 :: a6 :: a7 :: x :: σ) H QS := h
theorem x_ml8 {a0 a1 a2 a3 a4 a5 a6 a7 : Option V} {σ : L2.St} (h : tMake C sp [] E tl (a0 :: a1 :: a2 :: a3 :: a4 :: a5 :: a6 :: a7 :: some (.ref C) :: σ) H Q) : eMakeL 8 C sp [] E tl (a0 :: a1 :: a2 :: a3 :: a4 :: a5 :: a6 :: a7 :: some (.ref C) :: σ) H Q := ⟨rfl, h⟩
theorem x_au8 {te : TE} {ti : TIp} {a0 a1 a2 a3 a4 a5 a6 a7 : Option V} {σ : L2.St} (h : te (a0 :: a1 :: a2 :: a3 :: a4 :: a5 :: a6 :: a7 :: some x :: σ) H fun y H1 => ti x y H1 fun z H2 => nx (a0 :: a1 :: a2 :: a3 :: a4 :: a5 :: a6 :: a7 :: some z :: σ) H2) : tAug 8 te ti ⟨nx, rt, bk, ct⟩ (a0 :: a1 :: a2 :: a3 :: a4 :: a5 :: a6 :: a7 :: some x :: σ) H := ⟨x, rfl, h⟩
theorem x_v9 {a0 a1 a2 a3 a4 a5 a6 a7 a8 : Option V} {σ : L2.St} (h : Q v H) : tVar 9 (a0 :: a1 :: a2 :: a3 :: a4 :: a5 :: a6 :: a7 :: a8 :: some v :: σ) H Q := ⟨v, rfl, h⟩
theorem x_g9 {a0 a1 a2 a3 a4 a5 a6 a7 a8 : Option V} {x : Option V} {σ : L2.St} (h : QS (a0 :: a1 :: a2 :: a3 :: a4 :: a5 :: a6 :: a7 :: a8 :: some v :: σ) H) : gName 9 v (a0 :: a1 :: a2 :: a3 :: a4 :: a5 :: a6 :: a7 :: a8 :: x :: σ) H QS := h
theorem x_ml9 {a0 a1 a2 a3 a4 a5 a6 a7 a8 : Option V} {σ : L2.St} (h : tMake C sp [] E tl (a0 :: a1 :: a2 :: a3 :: a4 :: a5 :: a6 :: a7 :: a8 :: some (.ref C) :: σ) H Q) : eMakeL 9 C sp [] E tl (a0 :: a1 :: a2 :: a3 :: a4 :: a5 :: a6 :: a7 :: a8 :: some (.ref C) :: σ) H Q := ⟨rfl, h⟩
theorem x_au9 {te : TE} {ti : TIp} {a0 a1 a2 a3 a4 a5 a6 a7 a8 : Option V} {σ : L2.St} (h : te (a0 :: a1 :: a2 :: a3 :: a4 :: a5 :: a6 :: a7 :: a8 :: some x :: σ) H fun y H1 => ti x y H1 fun z H2 => nx (a0 :: a1 :: a2 :: a3 :: a4 :: a5 :: a6 :: a7 :: a8 :: some z :: σ) H2) : tAug 9 te ti ⟨nx, rt, bk, ct⟩ (a0 :: a1 :: a2 :: a3 :: a4 :: a5 :: a6 :: a7 :: a8 :: some x :: σ) H := ⟨x, rfl, h⟩
theorem x_v10 {a0 a1 a2 a3 a4 a5 a6 a7 a8 a9 : Option V} {σ : L2.St} (h : Q v H) : tVar 10 (a0 :: a1 :: a2 :: a3 :: a4 :: a5 :: a6 :: a7 :: a8 :: a9 :: some v :: σ) H Q := ⟨v, rfl, h⟩
theorem x_g10 {a0 a1 a2 a3 a4 a5 a6 a7 a8 a9 : Option V} {x : Option V} {σ : L2.St} (h : QS (a0 :: a1 :: a2 :: a3 :: a4 :: a5 :: a6 :: a7 :: a8 :: a9 :: some v :: σ) H) : gName 10 v (a0 :: a1 :: a2 :: a3 :: a4 :: a5 :: a6 :: a7 :: a8 :: a9 :: x :: σ) H QS := h
theorem x_ml10 {a0 a1 a2 a3 a4 a5 a6 a7 a8 a9 : Option V} {σ : L2.St} (h : tMake C sp [] E tl (a0 :: a1 :: a2 :: a3 :: a4 :: a5 :: a6 :: a7 :: a8 :: a9 :: some (.ref C) :: σ) H Q) : eMakeL 10 C sp [] E tl (a0 :: a1 :: a2 :: a3 :: a4 :: a5 :: a6 :: a7 :: a8 :: a9 :: some (.ref C) :: σ) H Q := ⟨rfl, h⟩
theorem x_au10 {te : TE} {ti : TIp} {a0 a1 a2 a3 a4 a5 a6 a7 a8 a9 : Option V} {σ : L2.St} (h : te (a0 :: a1 :: a2 :: a3 :: a4 :: a5 :: a6 :: a7 :: a8 :: a9 :: some x :: σ) H fun y H1 => ti x y H1 fun z H2 => nx (a0 :: a1 :: a2 :: a3 :: a4 :: a5 :: a6 :: a7 :: a8 :: a9 :: some z :: σ) H2) : tAug 10 te ti ⟨nx, rt, bk, ct⟩ (a0 :: a1 :: a2 :: a3 :: a4 :: a5 :: a6 :: a7 :: a8 :: a9 :: some x :: σ) H := ⟨x, rfl, h⟩
theorem x_v11 {a0 a1 a2 a3 a4 a5 a6 a7 a8 a9 a10 : Option V} {σ : L2.St} (h : Q v H) : tVar 11 (a0 :: a1 :: a2 :: a3 :: a4 :: a5 :: a6 :: a7 :: a8 :: a9 :: a10 :: some v :: σ) H Q := ⟨v, rfl, h⟩
theorem x_g11 {a0 a1 a2 a3 a4 a5 a6 a7 a8 a9 a10 : Option V} {x : Option V} {σ : L2.St} (h : QS (a0 :: a1 :: a2 :: a3 :: a4 :: a5 :: a6 :: a7 :: a8 :: a9 :: a10 :: some v :: σ) H) : gName 11 v (a0 :: a1 :: a2 :: a3 :: a4 :: a5 :: a6 :: a7 :: a8 :: a9 :: a10 :: x :: σ) H QS := h
theorem x_ml11 {a0 a1 a2 a3 a4 a5 a6 a7 a8 a9 a10 : Option V} {σ : L2.St} (h : tMake C sp [] E tl (a0 :: a1 :: a2 :: a3 :: a4 :: a5 :: a6 :: a7 :: a8 :: a9 :: a10 :: some (.ref C) :: σ) H Q) : eMakeL 11 C sp [] E tl (a0 :: a1 :: a2 :: a3 :: a4 :: a5 :: a6 :: a7 :: a8 :: a9 :: a10 :: some (.ref C) :: σ) H Q := ⟨rfl, h⟩
theorem x_au11 {te : TE} {ti : TIp} {a0 a1 a2 a3 a4 a5 a6 a7 a8 a9 a10 : Option V} {σ : L2.St} (h : te (a0 :: a1 :: a2 :: a3 :: a4 :: a5 :: a6 :: a7 :: a8 :: a9 :: a10 :: some x :: σ) H fun y H1 => ti x y H1 fun z H2 => nx (a0 :: a1 :: a2 :: a3 :: a4 :: a5 :: a6 :: a7 :: a8 :: a9 :: a10 :: some z :: σ) H2) : tAug 11 te ti ⟨nx, rt, bk, ct⟩ (a0 :: a1 :: a2 :: a3 :: a4 :: a5 :: a6 :: a7 :: a8 :: a9 :: a10 :: some x :: σ) H := ⟨x, rfl, h⟩
theorem x_v12 {a0 a1 a2 a3 a4 a5 a6 a7 a8 a9 a10 a11 : Option V} {σ : L2.St} (h : Q v H) : tVar 12 (a0 :: a1 :: a2 :: a3 :: a4 :: a5 :: a6 :: a7 :: a8 :: a9 :: a10 :: a11 :: some v :: σ) H Q := ⟨v, rfl, h⟩
theorem x_g12 {a0 a1 a2 a3 a4 a5 a6 a7 a8 a9 a10 a11 : Option V} {x : Option V} {σ : L2.St} (h : QS (a0 :: a1 :: a2 :: a3 :: a4 :: a5 :: a6 :: a7 :: a8 :: a9 :: a10 :: a11 :: some v :: σ) H) : gName 12 v (a0 :: a1 :: a2 :: a3 :: a4 :: a5 :: a6 :: a7 :: a8 :: a9 :: a10 :: a11 :: x :: σ) H QS := h
theorem x_ml12 {a0 a1 a2 a3 a4 a5 a6 a7 a8 a9 a10 a11 : Option V} {σ : L2.St} (h : tMake C sp [] E tl (a0 :: a1 :: a2 :: a3 :: a4 :: a5 :: a6 :: a7 :: a8 :: a9 :: a10 :: a11 :: some (.ref C) :: σ) H Q) : eMakeL 12 C sp [] E tl (a0 :: a1 :: a2 :: a3 :: a4 :: a5 :: a6 :: a7 :: a8 :: a9 :: a10 :: a11 :: some (.ref C) :: σ) H Q := ⟨rfl, h⟩
theorem x_au12 {te : TE} {ti : TIp} {a0 a1 a2 a3 a4 a5 a6 a7 a8 a9 a10 a11 : Option V} {σ : L2.St} (h : te (a0 :: a1 :: a2 :: a3 :: a4 :: a5 :: a6 :: a7 :: a8 :: a9 :: a10 :: a11 :: some x :: σ) H fun y H1 => ti x y H1 fun z H2 => nx (a0 :: a1 :: a2 :: a3 :: a4 :: a5 :: a6 :: a7 :: a8 :: a9 :: a10 :: a11 :: some z :: σ) H2) : tAug 12 te ti ⟨nx, rt, bk, ct⟩ (a0 :: a1 :: a2 :: a3 :: a4 :: a5 :: a6 :: a7 :: a8 :: a9 :: a10 :: a11 :: some x :: σ) H := ⟨x, rfl, h⟩
theorem x_v13 {a0 a1 a2 a3 a4 a5 a6 a7 a8 a9 a10 a11 a12 : Option V} {σ : L2.St} (h : Q v H) : tVar 13 (a0 :: a1 :: a2 :: a3 :: a4 :: a5 :: a6 :: a7 :: a8 :: a9 :: a10 :: a11 :: a12 :: some v :: σ) H Q := ⟨v, rfl, h⟩
theorem x_g13 {a0 a1 a2 a3 a4 a5 a6 a7 a8 a9 a10 a11 a12 : Option V} {x : Option V} {σ : L2.St} (h : QS (a0 :: a1 :: a2 :: a3 :: a4 :: a5 :: a6 :: a7 :: a8 :: a9 :: a10 :: a11 :: a12 :: some v :: σ) H) : gName 13 v (a0 :: a1 :: a2 :: a3 :: a4 :: a5 :: a6 :: a7 :: a8 :: a9 :: a10 :: a11 :: a12 :: x :: σ) H QS := h
theorem x_ml13 {a0 a1 a2 a3 a4 a5 a6 a7 a8 a9 a10 a11 a12 : Option V} {σ : L2.St} (h : tMake C sp [] E tl (a0 :: a1 :: a2 :: a3 :: a4 :: a5 :: a6 :: a7 :: a8 :: a9 :: a10 :: a11 :: a12 :: some (.ref C) :: σ) H Q) : eMakeL 13 C sp [] E tl (a0 :: a1 :: a2 :: a3 :: a4 :: a5 :: a6 :: a7 :: a8 :: a9 :: a10 :: a11 :: a12 :: some (.ref C) :: σ) H Q := ⟨rfl, h⟩
theorem x_au13 {te : TE} {ti : TIp} {a0 a1 a2 a3 a4 a5 a6 a7 a8 a9 a10 a11 a12 : Option V} {σ : L2.St} (h : te (a0 :: a1 :: a2 :: a3 :: a4 :: a5 :: a6 :: a7 :: a8 :: a9 :: a10 :: a11 :: a12 :: some x :: σ) H fun y H1 => ti x y H1 fun z H2 => nx (a0 :: a1 :: a2 :: a3 :: a4 :: a5 :: a6 :: a7 :: a8 :: a9 :: a10 :: a11 :: a12 :: some z :: σ) H2) : tAug 13 te ti ⟨nx, rt, bk, ct⟩ (a0 :: a1 :: a2 :: a3 :: a4 :: a5 :: a6 :: a7 :: a8 :: a9 :: a10 :: a11 :: a12 :: some x :: σ) H := ⟨x, rfl, h⟩
theorem x_v14 {a0 a1 a2 a3 a4 a5 a6 a7 a8 a9 a10 a11 a12 a13 : Option V} {σ : L2.St} (h : Q v H) : tVar 14 (a0 :: a1 :: a2 :: a3 :: a4 :: a5 :: a6 :: a7 :: a8 :: a9 :: a10 :: a11 :: a12 :: a13 :: some v :: σ) H Q := ⟨v, rfl, h⟩
theorem x_g14 {a0 a1 a2 a3 a4 a5 a6 a7 a8 a9 a10 a11 a12 a13 : Option V} {x : Option V} {σ : L2.St} (h : QS (a0 :: a1 :: a2 :: a3 :: a4 :: a5 :: a6 :: a7 :: a8 :: a9 :: a10 :: a11 :: a12 :: a13 :: some v :: σ) H) : gName 14 v (a0 :: a1 :: a2 :: a3 :: a4 :: a5 :: a6 :: a7 :: a8 :: a9 :: a10 :: a11 :: a12 :: a13 :: x :: σ) H QS := h
theorem x_ml14 {a0 a1 a2 a3 a4 a5 a6 a7 a8 a9 a10 a11 a12 a13 : Option V} {σ : L2.St} (h : tMake C sp [] E tl (a0 :: a1 :: a2 :: a3 :: a4 :: a5 :: a6 :: a7 :: a8 :: a9 :: a10 :: a11 :: a12 :: a13 :: some (.ref C) :: σ) H Q) : eMakeL 14 C sp [] E tl (a0 :: a1 :: a2 :: a3 :: a4 :: a5 :: a6 :: a7 :: a8 :: a9 :: a10 :: a11 :: a12 :: a13 :: some (.ref C) :: σ) H Q := ⟨rfl, h⟩
theorem x_au14 {te : TE} {ti : TIp} {a0 a1 a2 a3 a4 a5 a6 a7 a8 a9 a10 a11 a12 a13 : Option V} {σ : L2.St} (h : te (a0 :: a1 :: a2 :: a3 :: a4 :: a5 :: a6 :: a7 :: a8 :: a9 :: a10 :: a11 :: a12 :: a13 :: some x :: σ) H fun y H1 => ti x y H1 fun z H2 => nx (a0 :: a1 :: a2 :: a3 :: a4 :: a5 :: a6 :: a7 :: a8 :: a9 :: a10 :: a11 :: a12 :: a13 :: some z :: σ) H2) : tAug 14 te ti ⟨nx, rt, bk, ct⟩ (a0 :: a1 :: a2 :: a3 :: a4 :: a5 :: a6 :: a7 :: a8 :: a9 :: a10 :: a11 :: a12 :: a13 :: some x :: σ) H := ⟨x, rfl, h⟩
theorem x_v15 {a0 a1 a2 a3 a4 a5 a6 a7 a8 a9 a10 a11 a12 a13 a14 : Option V} {σ : L2.St} (h : Q v H) : tVar 15 (a0 :: a1 :: a2 :: a3 :: a4 :: a5 :: a6 :: a7 :: a8 :: a9 :: a10 :: a11 :: a12 :: a13 :: a14 :: some v :: σ) H Q := ⟨v, rfl, h⟩
theorem x_g15 {a0 a1 a2 a3 a4 a5 a6 a7 a8 a9 a10 a11 a12 a13 a14 : Option V} {x : Option V} {σ : L2.St} (h : QS (a0 :: a1 :: a2 :: a3 :: a4 :: a5 :: a6 :: a7 :: a8 :: a9 :: a10 :: a11 :: a12 :: a13 :: a14 :: some v :: σ) H) : gName 15 v (a0 :: a1 :: a2 :: a3 :: a4 :: a5 :: a6 :: a7 :: a8 :: a9 :: a10 :: a11 :: a12 :: a13 :: a14 :: x :: σ) H QS := h
theorem x_ml15 {a0 a1 a2 a3 a4 a5 a6 a7 a8 a9 a10 a11 a12 a13 a14 : Option V} {σ : L2.St} (h : tMake C sp [] E tl (a0 :: a1 :: a2 :: a3 :: a4 :: a5 :: a6 :: a7 :: a8 :: a9 :: a10 :: a11 :: a12 :: a13 :: a14 :: some (.ref C) :: σ) H Q) : eMakeL 15 C sp [] E tl (a0 :: a1 :: a2 :: a3 :: a4 :: a5 :: a6 :: a7 :: a8 :: a9 :: a10 :: a11 :: a12 :: a13 :: a14 :: some (.ref C) :: σ) H Q := ⟨rfl, h⟩
theorem x_au15 {te : TE} {ti : TIp} {a0 a1 a2 a3 a4 a5 a6 a7 a8 a9 a10 a11 a12 a13 a14 : Option V} {σ : L2.St} (h : te (a0 :: a1 :: a2 :: a3 :: a4 :: a5 :: a6 :: a7 :: a8 :: a9 :: a10 :: a11 :: a12 :: a13 :: a14 :: some x :: σ) H fun y H1 => ti x y H1 fun z H2 => nx (a0 :: a1 :: a2 :: a3 :: a4 :: a5 :: a6 :: a7 :: a8 :: a9 :: a10 :: a11 :: a12 :: a13 :: a14 :: some z :: σ) H2) : tAug 15 te ti ⟨nx, rt, bk, ct⟩ (a0 :: a1 :: a2 :: a3 :: a4 :: a5 :: a6 :: a7 :: a8 :: a9 :: a10 :: a11 :: a12 :: a13 :: a14 :: some x :: σ) H := ⟨x, rfl, h⟩
theorem x_v16 {a0 a1 a2 a3 a4 a5 a6 a7 a8 a9 a10 a11 a12 a13 a14 a15 : Option V} {σ : L2.St} (h : Q v H) : tVar 16 (a0 :: a1 :: a2 :: a3 :: a4 :: a5 :: a6 :: a7 :: a8 :: a9 :: a10 :: a11 :: a12 :: a13 :: a14 :: a15 :: some v :: σ) H Q := ⟨v, rfl, h⟩
theorem x_g16 {a0 a1 a2 a3 a4 a5 a6 a7 a8 a9 a10 a11 a12 a13 a14 a15 : Option V} {x : Option V} {σ : L2.St} (h : QS (a0 :: a1 :: a2 :: a3 :: a4 :: a5 :: a6 :: a7 :: a8 :: a9 :: a10 :: a11 :: a12 :: a13 :: a14 :: a15 :: some v :: σ) H) : gName 16 v (a0 :: a1 :: a2 :: a3 :: a4 :: a5 :: a6 :: a7 :: a8 :: a9 :: a10 :: a11 :: a12 :: a13 :: a14 :: a15 :: x :: σ) H QS := h
theorem x_ml16 {a0 a1 a2 a3 a4 a5 a6 a7 a8 a9 a10 a11 a12 a13 a14 a15 : Option V} {σ : L2.St} (h : tMake C sp [] E tl (a0 :: a1 :: a2 :: a3 :: a4 :: a5 :: a6 :: a7 :: a8 :: a9 :: a10 :: a11 :: a12 :: a13 :: a14 :: a15 :: some (.ref C) :: σ) H Q) : eMakeL 16 C sp [] E tl (a0 :: a1 :: a2 :: a3 :: a4 :: a5 :: a6 :: a7 :: a8 :: a9 :: a10 :: a11 :: a12 :: a13 :: a14 :: a15 :: some (.ref C) :: σ) H Q := ⟨rfl, h⟩
theorem x_au16 {te : TE} {ti : TIp} {a0 a1 a2 a3 a4 a5 a6 a7 a8 a9 a10 a11 a12 a13 a14 a15 : Option V} {σ : L2.St} (h : te (a0 :: a1 :: a2 :: a3 :: a4 :: a5 :: a6 :: a7 :: a8 :: a9 :: a10 :: a11 :: a12 :: a13 :: a14 :: a15 :: some x :: σ) H fun y H1 => ti x y H1 fun z H2 => nx (a0 :: a1 :: a2 :: a3 :: a4 :: a5 :: a6 :: a7 :: a8 :: a9 :: a10 :: a11 :: a12 :: a13 :: a14 :: a15 :: some z :: σ) H2) : tAug 16 te ti ⟨nx, rt, bk, ct⟩ (a0 :: a1 :: a2 :: a3 :: a4 :: a5 :: a6 :: a7 :: a8 :: a9 :: a10 :: a11 :: a12 :: a13 :: a14 :: a15 :: some x :: σ) H := ⟨x, rfl, h⟩
theorem x_v17 {a0 a1 a2 a3 a4 a5 a6 a7 a8 a9 a10 a11 a12 a13 a14 a15 a16 : Option V} {σ : L2.St} (h : Q v H) : tVar 17 (a0 :: a1 :: a2 :: a3 :: a4 :: a5 :: a6 :: a7 :: a8 :: a9 :: a10 :: a11 :: a12 :: a13 :: a14 :: a15 :: a16 :: some v :: σ) H Q := ⟨v, rfl, h⟩
theorem x_g17 {a0 a1 a2 a3 a4 a5 a6 a7 a8 a9 a10 a11 a12 a13 a14 a15 a16 : Option V} {x : Option V} {σ : L2.St} (h : QS (a0 :: a1 :: a2 :: a3 :: a4 :: a5 :: a6 :: a7 :: a8 :: a9 :: a10 :: a11 :: a12 :: a13 :: a14 :: a15 :: a16 :: some v :: σ) H) : gName 17 v (a0 :: a1 :: a2 :: a3 :: a4 :: a5 :: a6 :: a7 :: a8 :: a9 :: a10 :: a11 :: a12 :: a13 :: a14 :: a15 :: a16 :: x :: σ) H QS := h
theorem x_ml17 {a0 a1 a2 a3 a4 a5 a6 a7 a8 a9 a10 a11 a12 a13 a14 a15 a16 : Option V} {σ : L2.St} (h : tMake C sp [] E tl (a0 :: a1 :: a2 :: a3 :: a4 :: a5 :: a6 :: a7 :: a8 :: a9 :: a10 :: a11 :: a12 :: a13 :: a14 :: a15 :: a16 :: some (.ref C) :: σ) H Q) : eMakeL 17 C sp [] E tl (a0 :: a1 :: a2 :: a3 :: a4 :: a5 :: a6 :: a7 :: a8 :: a9 :: a10 :: a11 :: a12 :: a13 :: a14 :: a15 :: a16 :: some (.ref C) :: σ) H Q := ⟨rfl, h⟩
theorem x_au17 {te : TE} {ti : TIp} {a0 a1 a2 a3 a4 a5 a6 a7 a8 a9 a10 a11 a12 a13 a14 a15 a16 : Option V} {σ : L2.St} (h : te (a0 :: a1 :: a2 :: a3 :: a4 :: a5 :: a6 :: a7 :: a8 :: a9 :: a10 :: a11 :: a12 :: a13 :: a14 :: a15 :: a16 :: some x :: σ) H fun y H1 => ti x y H1 fun z H2 => nx (a0 :: a1 :: a2 :: a3 :: a4 :: a5 :: a6 :: a7 :: a8 :: a9 :: a10 :: a11 :: a12 :: a13 :: a14 :: a15 :: a16 :: some z :: σ) H2) : tAug 17 te ti ⟨nx, rt, bk, ct⟩ (a0 :: a1 :: a2 :: a3 :: a4 :: a5 :: a6 :: a7 :: a8 :: a9 :: a10 :: a11 :: a12 :: a13 :: a14 :: a15 :: a16 :: some x :: σ) H := ⟨x, rfl, h⟩
theorem x_v18 {a0 a1 a2 a3 a4 a5 a6 a7 a8 a9 a10 a11 a12 a13 a14 a15 a16 a17 : Option V} {σ : L2.St} (h : Q v H) : tVar 18 (a0 :: a1 :: a2 :: a3 :: a4 :: a5 :: a6 :: a7 :: a8 :: a9 :: a10 :: a11 :: a12 :: a13 :: a14 :: a15 :: a16 :: a17 :: some v :: σ) H Q := ⟨v, rfl, h⟩
theorem x_g18 {a0 a1 a2 a3 a4 a5 a6 a7 a8 a9 a10 a11 a12 a13 a14 a15 a16 a17 : Option V} {x : Option V} {σ : L2.St} (h : QS (a0 :: a1 :: a2 :: a3 :: a4 :: a5 :: a6 :: a7 :: a8 :: a9 :: a10 :: a11 :: a12 :: a13 :: a14 :: a15 :: a16 :: a17 :: some v :: σ) H) : gName 18 v (a0 :: a1 :: a2 :: a3 :: a4 :: a5 :: a6 :: a7 :: a8 :: a9 :: a10 :: a11 :: a12 :: a13 :: a14 :: a15 :: a16 :: a17 :: x :: σ) H QS := h
theorem x_ml18 {a0 a1 a2 a3 a4 a5 a6 a7 a8 a9 a10 a11 a12 a13 a14 a15 a16 a17 : Option V} {σ : L2.St} (h : tMake C sp [] E tl (a0 :: a1 :: a2 :: a3 :: a4 :: a5 :: a6 :: a7 :: a8 :: a9 :: a10 :: a11 :: a12 :: a13 :: a14 :: a15 :: a16 :: a17 :: some (.ref C) :: σ) H Q) : eMakeL 18 C sp [] E tl (a0 :: a1 :: a2 :: a3 :: a4 :: a5 :: a6 :: a7 :: a8 :: a9 :: a10 :: a11 :: a12 :: a13 :: a14 :: a15 :: a16 :: a17 :: some (.ref C) :: σ) H Q := ⟨rfl, h⟩
theorem x_au18 {te : TE} {ti : TIp} {a0 a1 a2 a3 a4 a5 a6 a7 a8 a9 a10 a11 a12 a13 a14 a15 a16 a17 : Option V} {σ : L2.St} (h : te (a0 :: a1 :: a2 :: a3 :: a4 :: a5 :: a6 :: a7 :: a8 :: a9 :: a10 :: a11 :: a12 :: a13 :: a14 :: a15 :: a16 :: a17 :: some x :: σ) H fun y H1 => ti x y H1 fun z H2 => nx (a0 :: a1 :: a2 :: a3 :: a4 :: a5 :: a6 :: a7 :: a8 :: a9 :: a10 :: a11 :: a12 :: a13 :: a14 :: a15 :: a16 :: a17 :: some z :: σ) H2) : tAug 18 te ti ⟨nx, rt, bk, ct⟩ (a0 :: a1 :: a2 :: a3 :: a4 :: a5 :: a6 :: a7 :: a8 :: a9 :: a10 :: a11 :: a12 :: a13 :: a14 :: a15 :: a16 :: a17 :: some x :: σ) H := ⟨x, rfl, h⟩
theorem x_v19 {a0 a1 a2 a3 a4 a5 a6 a7 a8 a9 a10 a11 a12 a13 a14 a15 a16 a17 a18 : Option V} {σ : L2.St} (h : Q v H) : tVar 19 (a0 :: a1 :: a2 :: a3 :: a4 :: a5 :: a6 :: a7 :: a8 :: a9 :: a10 :: a11 :: a12 :: a13 :: a14 :: a15 :: a16 :: a17 :: a18 :: some v :: σ) H Q := ⟨v, rfl, h⟩
theorem x_g19 {a0 a1 a2 a3 a4 a5 a6 a7 a8 a9 a10 a11 a12 a13 a14 a15 a16 a17 a18 : Option V} {x : Option V} {σ : L2.St} (h : QS (a0 :: a1 :: a2 :: a3 :: a4 :: a5 :: a6 :: a7 :: a8 :: a9 :: a10 :: a11 :: a12 :: a13 :: a14 :: a15 :: a16 :: a17 :: a18 :: some v :: σ) H) : gName 19 v (a0 :: a1 :: a2 :: a3 :: a4 :: a5 :: a6 :: a7 :: a8 :: a9 :: a10 :: a11 :: a12 :: a13 :: a14 :: a15 :: a16 :: a17 :: a18 :: x :: σ) H QS := h
theorem x_ml19 {a0 a1 a2 a3 a4 a5 a6 a7 a8 a9 a10 a11 a12 a13 a14 a15 a16 a17 a18 : Option V} {σ : L2.St} (h : tMake C sp [] E tl (a0 :: a1 :: a2 :: a3 :: a4 :: a5 :: a6 :: a7 :: a8 :: a9 :: a10 :: a11 :: a12 :: a13 :: a14 :: a15 :: a16 :: a17 :: a18 :: some (.ref C) :: σ) H Q) : eMakeL 19 C sp [] E tl (a0 :: a1 :: a2 :: a3 :: a4 :: a5 :: a6 :: a7 :: a8 :: a9 :: a10 :: a11 :: a12 :: a13 :: a14 :: a15 :: a16 :: a17 :: a18 :: some (.ref C) :: σ) H Q := ⟨rfl, h⟩
theorem x_au19 {te : TE} {ti : TIp} {a0 a1 a2 a3 a4 a5 a6 a7 a8 a9 a10 a11 a12 a13 a14 a15 a16 a17 a18 : Option V} {σ : L2.St} (h : te (a0 :: a1 :: a2 :: a3 :: a4 :: a5 :: a6 :: a7 :: a8 :: a9 :: a10 :: a11 :: a12 :: a13 :: a14 :: a15 :: a16 :: a17 :: a18 :: some x :: σ) H fun y H1 => ti x y H1 fun z H2 => nx (a0 :: a1 :: a2 :: a3 :: a4 :: a5 :: a6 :: a7 :: a8 :: a9 :: a10 :: a11 :: a12 :: a13 :: a14 :: a15 :: a16 :: a17 :: a18 :: some z :: σ) H2) : tAug 19 te ti ⟨nx, rt, bk, ct⟩ (a0 :: a1 :: a2 :: a3 :: a4 :: a5 :: a6 :: a7 :: a8 :: a9 :: a10 :: a11 :: a12 :: a13 :: a14 :: a15 :: a16 :: a17 :: a18 :: some x :: σ) H := ⟨x, rfl, h⟩
theorem x_v20 {a0 a1 a2 a3 a4 a5 a6 a7 a8 a9 a10 a11 a12 a13 a14 a15 a16 a17 a18 a19 : Option V} {σ : L2.St} (h : Q v H) : tVar 20 (a0 :: a1 :: a2 :: a3 :: a4 :: a5 :: a6 :: a7 :: a8 :: a9 :: a10 :: a11 :: a12 :: a13 :: a14 :: a15 :: a16 :: a17 :: a18 :: a19 :: some v :: σ) H Q := ⟨v, rfl, h⟩
theorem x_g20 {a0 a1 a2 a3 a4 a5 a6 a7 a8 a9 a10 a11 a12 a13 a14 a15 a16 a17 a18 a19 : Option V} {x : Option V} {σ : L2.St} (h : QS (a0 :: a1 :: a2 :: a3 :: a4 :: a5 :: a6 :: a7 :: a8 :: a9 :: a10 :: a11 :: a12 :: a13 :: a14 :: a15 :: a16 :: a17 :: a18 :: a19 :: some v :: σ) H) : gName 20 v (a0 :: a1 :: a2 :: a3 :: a4 :: a5 :: a6 :: a7 :: a8 :: a9 :: a10 :: a11 :: a12 :: a13 :: a14 :: a15 :: a16 :: a17 :: a18 :: a19 :: x :: σ) H QS := h
theorem x_ml20 {a0 a1 a2 a3 a4 a5 a6 a7 a8 a9 a10 a11 a12 a13 a14 a15 a16 a17 a18 a19 : Option V} {σ : L2.St} (h : tMake C sp [] E tl (a0 :: a1 :: a2 :: a3 :: a4 :: a5 :: a6 :: a7 :: a8 :: a9 :: a10 :: a11 :: a12 :: a13 :: a14 :: a15 :: a16 :: a17 :: a18 :: a19 :: some (.ref C) :: σ) H Q) : eMakeL 20 C sp [] E tl (a0 :: a1 :: a2 :: a3 :: a4 :: a5 :: a6 :: a7 :: a8 :: a9 :: a10 :: a11 :: a12 :: a13 :: a14 :: a15 :: a16 :: a17 :: a18 :: a19 :: some (.ref C) :: σ) H Q := ⟨rfl, h⟩
theorem x_au20 {te : TE} {ti : TIp} {a0 a1 a2 a3 a4 a5 a6 a7 a8 a9 a10 a11 a12 a13 a14 a15 a16 a17 a18 a19 : Option V} {σ : L2.St} (h : te (a0 :: a1 :: a2 :: a3 :: a4 :: a5 :: a6 :: a7 :: a8 :: a9 :: a10 :: a11 :: a12 :: a13 :: a14 :: a15 :: a16 :: a17 :: a18 :: a19 :: some x :: σ) H fun y H1 => ti x y H1 fun z H2 => nx (a0 :: a1 :: a2 :: a3 :: a4 :: a5 :: a6 :: a7 :: a8 :: a9 :: a10 :: a11 :: a12 :: a13 :: a14 :: a15 :: a16 :: a17 :: a18 :: a19 :: some z :: σ) H2) : tAug 20 te ti ⟨nx, rt, bk, ct⟩ (a0 :: a1 :: a2 :: a3 :: a4 :: a5 :: a6 :: a7 :: a8 :: a9 :: a10 :: a11 :: a12 :: a13 :: a14 :: a15 :: a16 :: a17 :: a18 :: a19 :: some x :: σ) H := ⟨x, rfl, h⟩
theorem x_v21 {a0 a1 a2 a3 a4 a5 a6 a7 a8 a9 a10 a11 a12 a13 a14 a15 a16 a17 a18 a19 a20 : Option V} {σ : L2.St} (h : Q v H) : tVar 21 (a0 :: a1 :: a2 :: a3 :: a4 :: a5 :: a6 :: a7 :: a8 :: a9 :: a10 :: a11 :: a12 :: a13 :: a14 :: a15 :: a16 :: a17 :: a18 :: a19 :: a20 :: some v :: σ) H Q := ⟨v, rfl, h⟩
theorem x_g21 {a0 a1 a2 a3 a4 a5 a6 a7 a8 a9 a10 a11 a12 a13 a14 a15 a16 a17 a18 a19 a20 : Option V} {x : Option V} {σ : L2.St} (h : QS (a0 :: a1 :: a2 :: a3 :: a4 :: a5 :: a6 :: a7 :: a8 :: a9 :: a10 :: a11 :: a12 :: a13 :: a14 :: a15 :: a16 :: a17 :: a18 :: a19 :: a20 :: some v :: σ) H) : gName 21 v (a0 :: a1 :: a2 :: a3 :: a4 :: a5 :: a6 :: a7 :: a8 :: a9 :: a10 :: a11 :: a12 :: a13 :: a14 :: a15 :: a16 :: a17 :: a18 :: a19 :: a20 :: x :: σ) H QS := h
theorem x_ml21 {a0 a1 a2 a3 a4 a5 a6 a7 a8 a9 a10 a11 a12 a13 a14 a15 a16 a17 a18 a19 a20 : Option V} {σ : L2.St} (h : tMake C sp [] E tl (a0 :: a1 :: a2 :: a3 :: a4 :: a5 :: a6 :: a7 :: a8 :: a9 :: a10 :: a11 :: a12 :: a13 :: a14 :: a15 :: a16 :: a17 :: a18 :: a19 :: a20 :: some (.ref C) :: σ) H Q) : eMakeL 21 C sp [] E tl (a0 :: a1 :: a2 :: a3 :: a4 :: a5 :: a6 :: a7 :: a8 :: a9 :: a10 :: a11 :: a12 :: a13 :: a14 :: a15 :: a16 :: a17 :: a18 :: a19 :: a20 :: some (.ref C) :: σ) H Q := ⟨rfl, h⟩
theorem x_au21 {te : TE} {ti : TIp} {a0 a1 a2 a3 a4 a5 a6 a7 a8 a9 a10 a11 a12 a13 a14 a15 a16 a17 a18 a19 a20 : Option V} {σ : L2.St} (h : te (a0 :: a1 :: a2 :: a3 :: a4 :: a5 :: a6 :: a7 :: a8 :: a9 :: a10 :: a11 :: a12 :: a13 :: a14 :: a15 :: a16 :: a17 :: a18 :: a19 :: a20 :: some x :: σ) H fun y H1 => ti x y H1 fun z H2 => nx (a0 :: a1 :: a2 :: a3 :: a4 :: a5 :: a6 :: a7 :: a8 :: a9 :: a10 :: a11 :: a12 :: a13 :: a14 :: a15 :: a16 :: a17 :: a18 :: a19 :: a20 :: some z :: σ) H2) : tAug 21 te ti ⟨nx, rt, bk, ct⟩ (a0 :: a1 :: a2 :: a3 :: a4 :: a5 :: a6 :: a7 :: a8 :: a9 :: a10 :: a11 :: a12 :: a13 :: a14 :: a15 :: a16 :: a17 :: a18 :: a19 :: a20 :: some x :: σ) H := ⟨x, rfl, h⟩
theorem x_v22 {a0 a1 a2 a3 a4 a5 a6 a7 a8 a9 a10 a11 a12 a13 a14 a15 a16 a17 a18 a19 a20 a21 : Option V} {σ : L2.St} (h : Q v H) : tVar 22 (a0 :: a1 :: a2 :: a3 :: a4 :: a5 :: a6 :: a7 :: a8 :: a9 :: a10 :: a11 :: a12 :: a13 :: a14 :: a15 :: a16 :: a17 :: a18 :: a19 :: a20 :: a21 :: some v :: σ) H Q := ⟨v, rfl, h⟩
theorem x_g22 {a0 a1 a2 a3 a4 a5 a6 a7 a8 a9 a10 a11 a12 a13 a14 a15 a16 a17 a18 a19 a20 a21 : Option V} {x : Option V} {σ : L2.St} (h : QS (a0 :: a1 :: a2 :: a3 :: a4 :: a5 :: a6 :: a7 :: a8 :: a9 :: a10 :: a11 :: a12 :: a13 :: a14 :: a15 :: a16 :: a17 :: a18 :: a19 :: a20 :: a21 :: some v :: σ) H) : gName 22 v (a0 :: a1 :: a2 :: a3 :: a4 :: a5 :: a6 :: a7 :: a8 :: a9 :: a10 :: a11 :: a12 :: a13 :: a14 :: a15 :: a16 :: a17 :: a18 :: a19 :: a20 :: a21 :: x :: σ) H QS := h
theorem x_ml22 {a0 a1 a2 a3 a4 a5 a6 a7 a8 a9 a10 a11 a12 a13 a14 a15 a16 a17 a18 a19 a20 a21 : Option V} {σ : L2.St} (h : tMake C sp [] E tl (a0 :: a1 :: a2 :: a3 :: a4 :: a5 :: a6 :: a7 :: a8 :: a9 :: a10 :: a11 :: a12 :: a13 :: a14 :: a15 :: a16 :: a17 :: a18 :: a19 :: a20 :: a21 :: some (.ref C) :: σ) H Q) : eMakeL 22 C sp [] E tl (a0 :: a1 :: a2 :: a3 :: a4 :: a5 :: a6 :: a7 :: a8 :: a9 :: a10 :: a11 :: a12 :: a13 :: a14 :: a15 :: a16 :: a17 :: a18 :: a19 :: a20 :: a21 :: some (.ref C) :: σ) H Q := ⟨rfl, h⟩
theorem x_au22 {te : TE} {ti : TIp} {a0 a1 a2 a3 a4 a5 a6 a7 a8 a9 a10 a11 a12 a13 a14 a15 a16 a17 a18 a19 a20 a21 : Option V} {σ : L2.St} (h : te (a0 :: a1 :: a2 :: a3 :: a4 :: a5 :: a6 :: a7 :: a8 :: a9 :: a10 :: a11 :: a12 :: a13 :: a14 :: a15 :: a16 :: a17 :: a18 :: a19 :: a20 :: a21 :: some x :: σ) H fun y H1 => ti x y H1 fun z H2 => nx (a0 :: a1 :: a2 :: a3 :: a4 :: a5 :: a6 :: a7 :: a8 :: a9 :: a10 :: a11 :: a12 :: a13 :: a14 :: a15 :: a16 :: a17 :: a18 :: a19 :: a20 :: a21 :: some z :: σ) H2) : tAug 22 te ti ⟨nx, rt, bk, ct⟩ (a0 :: a1 :: a2 :: a3 :: a4 :: a5 :: a6 :: a7 :: a8 :: a9 :: a10 :: a11 :: a12 :: a13 :: a14 :: a15 :: a16 :: a17 :: a18 :: a19 :: a20 :: a21 :: some x :: σ) H := ⟨x, rfl, h⟩
theorem x_v23 {a0 a1 a2 a3 a4 a5 a6 a7 a8 a9 a10 a11 a12 a13 a14 a15 a16 a17 a18 a19 a20 a21 a22 : Option V} {σ : L2.St} (h : Q v H) : tVar 23 (a0 :: a1 :: a2 :: a3 :: a4 :: a5 :: a6 :: a7 :: a8 :: a9 :: a10 :: a11 :: a12 :: a13 :: a14 :: a15 :: a16 :: a17 :: a18 :: a19 :: a20 :: a21 :: a22 :: some v :: σ) H Q := ⟨v, rfl, h⟩
theorem x_g23 {a0 a1 a2 a3 a4 a5 a6 a7 a8 a9 a10 a11 a12 a13 a14 a15 a16 a17 a18 a19 a20 a21 a22 : Option V} {x : Option V} {σ : L2.St} (h : QS (a0 :: a1 :: a2 :: a3 :: a4 :: a5 :: a6 :: a7 :: a8 :: a9 :: a10 :: a11 :: a12 :: a13 :: a14 :: a15 :: a16 :: a17 :: a18 :: a19 :: a20 :: a21 :: a22 :: some v :: σ) H) : gName 23 v (a0 :: a1 :: a2 :: a3 :: a4 :: a5 :: a6 :: a7 :: a8 :: a9 :: a10 :: a11 :: a12 :: a13 :: a14 :: a15 :: a16 :: a17 :: a18 :: a19 :: a20 :: a21 :: a22 :: x :: σ) H QS := h
theorem x_ml23 {a0 a1 a2 a3 a4 a5 a6 a7 a8 a9 a10 a11 a12 a13 a14 a15 a16 a17 a18 a19 a20 a21 a22 : Option V} {σ : L2.St} (h : tMake C sp [] E tl (a0 :: a1 :: a2 :: a3 :: a4 :: a5 :: a6 :: a7 :: a8 :: a9 :: a10 :: a11 :: a12 :: a13 :: a14 :: a15 :: a16 :: a17 :: a18 :: a19 :: a20 :: a21 :: a22 :: some (.ref C) :: σ) H Q) : eMakeL 23 C sp [] E tl (a0 :: a1 :: a2 :: a3 :: a4 :: a5 :: a6 :: a7 :: a8 :: a9 :: a10 :: a11 :: a12 :: a13 :: a14 :: a15 :: a16 :: a17 :: a18 :: a19 :: a20 :: a21 :: a22 :: some (.ref C) :: σ) H Q := ⟨rfl, h⟩
theorem x_au23 {te : TE} {ti : TIp} {a0 a1 a2 a3 a4 a5 a6 a7 a8 a9 a10 a11 a12 a13 a14 a15 a16 a17 a18 a19 a20 a21 a22 : Option V} {σ : L2.St} (h : te (a0 :: a1 :: a2 :: a3 :: a4 :: a5 :: a6 :: a7 :: a8 :: a9 :: a10 :: a11 :: a12 :: a13 :: a14 :: a15 :: a16 :: a17 :: a18 :: a19 :: a20 :: a21 :: a22 :: some x :: σ) H fun y H1 => ti x y H1 fun z H2 => nx (a0 :: a1 :: a2 :: a3 :: a4 :: a5 :: a6 :: a7 :: a8 :: a9 :: a10 :: a11 :: a12 :: a13 :: a14 :: a15 :: a16 :: a17 :: a18 :: a19 :: a20 :: a21 :: a22 :: some z :: σ) H2) : tAug 23 te ti ⟨nx, rt, bk, ct⟩ (a0 :: a1 :: a2 :: a3 :: a4 :: a5 :: a6 :: a7 :: a8 :: a9 :: a10 :: a11 :: a12 :: a13 :: a14 :: a15 :: a16 :: a17 :: a18 :: a19 :: a20 :: a21 :: a22 :: some x :: σ) H := ⟨x, rfl, h⟩
end
end Y

namespace Y.k01
open PySem PySem.Spec PyProof.Rows L2
/-! ### the readings -/
structure Cl where
  S : Sta
  c_Ring : Addr
def t_purse (a : Cl) (E : XK) : TS :=
  (tSeq (tAsg (eLc a.S (L2.tSl (rSl a.S) (tVar 0) tNoPart (tPart (tC (.int 63)))) (gName 2) tYes (tIf (tTest (tOp rGe (tVar 2) (tC (.int 0)))) (tVar 2) (tOp rSub (tUn rNeg (tC (.int 1))) (tVar 2))) [2]) (gName 1))
    (tSeq (tAsg (tC (.int 0)) (gName 3))
    (tSeq (sFor a.S (tVar 1) (gName 4) (tAsg (tOp rMod (tCB rInt (tCons (tOp rAdd (tOp rAdd (tOp rMul (tVar 3) (tC (.int 48271))) (tVar 4)) (tC (.int 1))) tNil)) (tC (.int 2147483647))) (gName 3)))
    (tRet (tLst (tCons (tVar 1) (tCons (tC (.int 0)) (tCons (tC (.int 0)) (tCons (tC (.int 0)) (tCons (tVar 3) tNil))))))))))
def sp_purse (a : Cl) : Sp := spB 5 1 (t_purse a)
theorem in_purse {a : Cl} {v0 : V} {H : Hp} {Q : VK} {E : XK} (h : (tSeq (tAsg (eLc a.S (L2.tSl (rSl a.S) (tVar 0) tNoPart (tPart (tC (.int 63)))) (gName 2) tYes (tIf (tTest (tOp rGe (tVar 2) (tC (.int 0)))) (tVar 2) (tOp rSub (tUn rNeg (tC (.int 1))) (tVar 2))) [2]) (gName 1))
    (tSeq (tAsg (tC (.int 0)) (gName 3))
    (tSeq (sFor a.S (tVar 1) (gName 4) (tAsg (tOp rMod (tCB rInt (tCons (tOp rAdd (tOp rAdd (tOp rMul (tVar 3) (tC (.int 48271))) (tVar 4)) (tC (.int 1))) tNil)) (tC (.int 2147483647))) (gName 3)))
    (tRet (tLst (tCons (tVar 1) (tCons (tC (.int 0)) (tCons (tC (.int 0)) (tCons (tC (.int 0)) (tCons (tVar 3) tNil)))))))))) ⟨fun _ H' => Q .non H', Q, fun _ _ => False, fun _ _ => False⟩ [some v0, none, none, none, none] H) : sp_purse a [v0] H Q E := ⟨rfl, h⟩
def t_draw (a : Cl) (E : XK) : TS :=
  (tSeq (tIfS (tAnd (tTest (tOp rEq (tOp (rIx a.S) (tVar 0) (tC (.int 2))) (tC (.int 0)))) (tAnd (tTest (tOp rLt (tOp (rIx a.S) (tVar 0) (tC (.int 1))) (tCB (rLen a.S) (tCons (tOp (rIx a.S) (tVar 0) (tC (.int 0))) tNil)))) (tTest (tOp rGe (tOp (rIx a.S) (tOp (rIx a.S) (tVar 0) (tC (.int 0))) (tOp (rIx a.S) (tVar 0) (tC (.int 1)))) (tOp rPow (tC (.int 10)) (tC (.int 18))))))) (tSeq (tAsg (tOp (rIx a.S) (tOp (rIx a.S) (tVar 0) (tC (.int 0))) (tOp (rIx a.S) (tVar 0) (tC (.int 1)))) (gSub (tVar 0) (tC (.int 2)) rSetL))
    (tAsg (tOp rAdd (tOp (rIx a.S) (tVar 0) (tC (.int 1))) (tC (.int 1))) (gSub (tVar 0) (tC (.int 1)) rSetL))) tNext)
    (tSeq (tIfS (tTest (tOp rGt (tOp (rIx a.S) (tVar 0) (tC (.int 2))) (tC (.int 0)))) (tSeq (tAsg (tOp rMod (tCB rInt (tCons (tOp (rIx a.S) (tVar 0) (tC (.int 2))) tNil)) (tVar 1)) (gName 2))
    (tSeq (tAsg (tOp rFdiv (tOp (rIx a.S) (tVar 0) (tC (.int 2))) (tVar 1)) (gSub (tVar 0) (tC (.int 2)) rSetL))
    (tRet (tVar 2)))) tNext)
    (tSeq (tAsg (tOp (rIx a.S) (tVar 0) (tC (.int 4))) (gName 3))
    (tSeq (tIfS (tTest (tOp rLt (tOp (rIx a.S) (tVar 0) (tC (.int 1))) (tCB (rLen a.S) (tCons (tOp (rIx a.S) (tVar 0) (tC (.int 0))) tNil)))) (tSeq (tAsg (tOp (rIx a.S) (tOp (rIx a.S) (tVar 0) (tC (.int 0))) (tOp (rIx a.S) (tVar 0) (tC (.int 1)))) (gName 3))
    (tAsg (tOp rAdd (tOp (rIx a.S) (tVar 0) (tC (.int 1))) (tC (.int 1))) (gSub (tVar 0) (tC (.int 1)) rSetL))) tNext)
    (tSeq (tAsg (tOp rAdd (tOp (rIx a.S) (tVar 0) (tC (.int 3))) (tC (.int 1))) (gSub (tVar 0) (tC (.int 3)) rSetL))
    (tSeq (tAsg (tOp rMod (tCB rInt (tCons (tOp rAdd (tOp rMul (tVar 3) (tC (.int 48271))) (tOp rMul (tOp (rIx a.S) (tVar 0) (tC (.int 4))) (tOp rAdd (tC (.int 7919)) (tOp rMul (tC (.int 69621)) (tOp (rIx a.S) (tVar 0) (tC (.int 3))))))) tNil)) (tC (.int 2147483647))) (gName 4))
    (tSeq (tAsg (tOp rMod (tCB rInt (tCons (tOp rAdd (tOp rMul (tVar 4) (tOp rAdd (tC (.int 40692)) (tOp rFdiv (tVar 4) (tC (.int 32768))))) (tOp rMul (tOp (rIx a.S) (tVar 0) (tC (.int 4))) (tOp (rIx a.S) (tVar 0) (tC (.int 3))))) tNil)) (tC (.int 2147483629))) (gName 4))
    (tRet (tOp rMod (tCB rInt (tCons (tOp rFdiv (tVar 4) (tC (.int 7))) tNil)) (tVar 1))))))))))
def sp_draw (a : Cl) : Sp := spB 5 2 (t_draw a)
theorem in_draw {a : Cl} {v0 v1 : V} {H : Hp} {Q : VK} {E : XK} (h : (tSeq (tIfS (tAnd (tTest (tOp rEq (tOp (rIx a.S) (tVar 0) (tC (.int 2))) (tC (.int 0)))) (tAnd (tTest (tOp rLt (tOp (rIx a.S) (tVar 0) (tC (.int 1))) (tCB (rLen a.S) (tCons (tOp (rIx a.S) (tVar 0) (tC (.int 0))) tNil)))) (tTest (tOp rGe (tOp (rIx a.S) (tOp (rIx a.S) (tVar 0) (tC (.int 0))) (tOp (rIx a.S) (tVar 0) (tC (.int 1)))) (tOp rPow (tC (.int 10)) (tC (.int 18))))))) (tSeq (tAsg (tOp (rIx a.S) (tOp (rIx a.S) (tVar 0) (tC (.int 0))) (tOp (rIx a.S) (tVar 0) (tC (.int 1)))) (gSub (tVar 0) (tC (.int 2)) rSetL))
    (tAsg (tOp rAdd (tOp (rIx a.S) (tVar 0) (tC (.int 1))) (tC (.int 1))) (gSub (tVar 0) (tC (.int 1)) rSetL))) tNext)
    (tSeq (tIfS (tTest (tOp rGt (tOp (rIx a.S) (tVar 0) (tC (.int 2))) (tC (.int 0)))) (tSeq (tAsg (tOp rMod (tCB rInt (tCons (tOp (rIx a.S) (tVar 0) (tC (.int 2))) tNil)) (tVar 1)) (gName 2))
    (tSeq (tAsg (tOp rFdiv (tOp (rIx a.S) (tVar 0) (tC (.int 2))) (tVar 1)) (gSub (tVar 0) (tC (.int 2)) rSetL))
    (tRet (tVar 2)))) tNext)
    (tSeq (tAsg (tOp (rIx a.S) (tVar 0) (tC (.int 4))) (gName 3))
    (tSeq (tIfS (tTest (tOp rLt (tOp (rIx a.S) (tVar 0) (tC (.int 1))) (tCB (rLen a.S) (tCons (tOp (rIx a.S) (tVar 0) (tC (.int 0))) tNil)))) (tSeq (tAsg (tOp (rIx a.S) (tOp (rIx a.S) (tVar 0) (tC (.int 0))) (tOp (rIx a.S) (tVar 0) (tC (.int 1)))) (gName 3))
    (tAsg (tOp rAdd (tOp (rIx a.S) (tVar 0) (tC (.int 1))) (tC (.int 1))) (gSub (tVar 0) (tC (.int 1)) rSetL))) tNext)
    (tSeq (tAsg (tOp rAdd (tOp (rIx a.S) (tVar 0) (tC (.int 3))) (tC (.int 1))) (gSub (tVar 0) (tC (.int 3)) rSetL))
    (tSeq (tAsg (tOp rMod (tCB rInt (tCons (tOp rAdd (tOp rMul (tVar 3) (tC (.int 48271))) (tOp rMul (tOp (rIx a.S) (tVar 0) (tC (.int 4))) (tOp rAdd (tC (.int 7919)) (tOp rMul (tC (.int 69621)) (tOp (rIx a.S) (tVar 0) (tC (.int 3))))))) tNil)) (tC (.int 2147483647))) (gName 4))
    (tSeq (tAsg (tOp rMod (tCB rInt (tCons (tOp rAdd (tOp rMul (tVar 4) (tOp rAdd (tC (.int 40692)) (tOp rFdiv (tVar 4) (tC (.int 32768))))) (tOp rMul (tOp (rIx a.S) (tVar 0) (tC (.int 4))) (tOp (rIx a.S) (tVar 0) (tC (.int 3))))) tNil)) (tC (.int 2147483629))) (gName 4))
    (tRet (tOp rMod (tCB rInt (tCons (tOp rFdiv (tVar 4) (tC (.int 7))) tNil)) (tVar 1)))))))))) ⟨fun _ H' => Q .non H', Q, fun _ _ => False, fun _ _ => False⟩ [some v0, some v1, none, none, none] H) : sp_draw a [v0, v1] H Q E := ⟨rfl, h⟩
def t_width (a : Cl) (E : XK) : TS :=
  (tSeq (tAsg (tC (.int 1)) (gName 1))
    (tSeq (sForR none (tVar 0) (gName 2) (tAsg (tOp rMul (tVar 1) (tC (.int 2))) (gName 1)))
    (tRet (tVar 1))))
def sp_width (a : Cl) : Sp := spB 3 1 (t_width a)
theorem in_width {a : Cl} {v0 : V} {H : Hp} {Q : VK} {E : XK} (h : (tSeq (tAsg (tC (.int 1)) (gName 1))
    (tSeq (sForR none (tVar 0) (gName 2) (tAsg (tOp rMul (tVar 1) (tC (.int 2))) (gName 1)))
    (tRet (tVar 1)))) ⟨fun _ H' => Q .non H', Q, fun _ _ => False, fun _ _ => False⟩ [some v0, none, none] H) : sp_width a [v0] H Q E := ⟨rfl, h⟩
def t_is_whole (a : Cl) (E : XK) : TS :=
  (tRet (tAndV (tCB rIsI (tCons (tVar 0) (tCons (tC (.ty "int")) tNil))) (tNotV (tCB rIsI (tCons (tVar 0) (tCons (tC (.ty "bool")) tNil))))))
def sp_is_whole (a : Cl) : Sp := spB 1 1 (t_is_whole a)
theorem in_is_whole {a : Cl} {v0 : V} {H : Hp} {Q : VK} {E : XK} (h : (tRet (tAndV (tCB rIsI (tCons (tVar 0) (tCons (tC (.ty "int")) tNil))) (tNotV (tCB rIsI (tCons (tVar 0) (tCons (tC (.ty "bool")) tNil)))))) ⟨fun _ H' => Q .non H', Q, fun _ _ => False, fun _ _ => False⟩ [some v0] H) : sp_is_whole a [v0] H Q E := ⟨rfl, h⟩
def t_in_range (a : Cl) (E : XK) : TS :=
  (tRet (tAndV (tCall (sp_is_whole a) [] E (tCons (tVar 0) tNil)) (tChain rLe rLe (tVar 1) (tVar 0) (tVar 2))))
def sp_in_range (a : Cl) : Sp := spB 3 3 (t_in_range a)
theorem in_in_range {a : Cl} {v0 v1 v2 : V} {H : Hp} {Q : VK} {E : XK} (h : (tRet (tAndV (tCall (sp_is_whole a) [] E (tCons (tVar 0) tNil)) (tChain rLe rLe (tVar 1) (tVar 0) (tVar 2)))) ⟨fun _ H' => Q .non H', Q, fun _ _ => False, fun _ _ => False⟩ [some v0, some v1, some v2] H) : sp_in_range a [v0, v1, v2] H Q E := ⟨rfl, h⟩
def t_Ring___init__ (a : Cl) (E : XK) : TS :=
  (tSeq (tIfS (tNot (tB (tCall (sp_in_range a) [] E (tCons (tVar 1) (tCons (eCon (.int 64)) (tCons (eCon (.int 4294967296)) tNil)))))) tNever tNext)
    (tSeq (tIfS (tTest (tOp rNe (tOp rAnd (tVar 1) (tOp rSub (tVar 1) (tC (.int 1)))) (tC (.int 0)))) tNever tNext)
    (sSetF a.c_Ring "size" (tVar 0) (tVar 1))))
def sp_Ring___init__ (a : Cl) : Sp := spB 2 2 (t_Ring___init__ a)
theorem in_Ring___init__ {a : Cl} {v0 v1 : V} {H : Hp} {Q : VK} {E : XK} (h : (tSeq (tIfS (tNot (tB (tCall (sp_in_range a) [] E (tCons (tVar 1) (tCons (eCon (.int 64)) (tCons (eCon (.int 4294967296)) tNil)))))) tNever tNext)
    (tSeq (tIfS (tTest (tOp rNe (tOp rAnd (tVar 1) (tOp rSub (tVar 1) (tC (.int 1)))) (tC (.int 0)))) tNever tNext)
    (sSetF a.c_Ring "size" (tVar 0) (tVar 1)))) ⟨fun _ H' => Q .non H', Q, fun _ _ => False, fun _ _ => False⟩ [some v0, some v1] H) : sp_Ring___init__ a [v0, v1] H Q E := ⟨rfl, h⟩
def t_code (a : Cl) (E : XK) : TS :=
  (tSeq (tAsg (tCall (sp_draw a) [] E (tCons (tVar 0) (tCons (tC (.int 6)) tNil))) (gName 3))
    (tSeq (tIfS (tTest (tOp rEq (tVar 3) (tC (.int 0)))) (tRet (tVar 2)) tNext)
    (tSeq (tIfS (tTest (tOp rEq (tVar 3) (tC (.int 1)))) (tRet (tOp rMod (tCB rInt (tCons (tOp rAdd (tVar 2) (tOp rFdiv (tVar 1) (tC (.int 2)))) tNil)) (tVar 1))) tNext)
    (tSeq (tIfS (tTest (tOp rEq (tVar 3) (tC (.int 2)))) (tRet (tOp rMod (tCB rInt (tCons (tOp rSub (tOp rAdd (tOp rAdd (tVar 2) (tOp rFdiv (tVar 1) (tC (.int 2)))) (tCall (sp_draw a) [] E (tCons (tVar 0) (tCons (tC (.int 5)) tNil)))) (tC (.int 2))) tNil)) (tVar 1))) tNext)
    (tSeq (tIfS (tTest (tOp rEq (tVar 3) (tC (.int 3)))) (tRet (tOp rMod (tCB rInt (tCons (tOp rSub (tOp rAdd (tVar 2) (tCall (sp_draw a) [] E (tCons (tVar 0) (tCons (tC (.int 5)) tNil)))) (tC (.int 2))) tNil)) (tVar 1))) tNext)
    (tSeq (tAsg (tOp rAdd (tOp rMul (tCall (sp_draw a) [] E (tCons (tVar 0) (tCons (tC (.int 65536)) tNil))) (tC (.int 65536))) (tCall (sp_draw a) [] E (tCons (tVar 0) (tCons (tC (.int 65536)) tNil)))) (gName 4))
    (tRet (tOp rMod (tCB rInt (tCons (tVar 4) tNil)) (tVar 1)))))))))
def sp_code (a : Cl) : Sp := spB 5 3 (t_code a)
theorem in_code {a : Cl} {v0 v1 v2 : V} {H : Hp} {Q : VK} {E : XK} (h : (tSeq (tAsg (tCall (sp_draw a) [] E (tCons (tVar 0) (tCons (tC (.int 6)) tNil))) (gName 3))
    (tSeq (tIfS (tTest (tOp rEq (tVar 3) (tC (.int 0)))) (tRet (tVar 2)) tNext)
    (tSeq (tIfS (tTest (tOp rEq (tVar 3) (tC (.int 1)))) (tRet (tOp rMod (tCB rInt (tCons (tOp rAdd (tVar 2) (tOp rFdiv (tVar 1) (tC (.int 2)))) tNil)) (tVar 1))) tNext)
    (tSeq (tIfS (tTest (tOp rEq (tVar 3) (tC (.int 2)))) (tRet (tOp rMod (tCB rInt (tCons (tOp rSub (tOp rAdd (tOp rAdd (tVar 2) (tOp rFdiv (tVar 1) (tC (.int 2)))) (tCall (sp_draw a) [] E (tCons (tVar 0) (tCons (tC (.int 5)) tNil)))) (tC (.int 2))) tNil)) (tVar 1))) tNext)
    (tSeq (tIfS (tTest (tOp rEq (tVar 3) (tC (.int 3)))) (tRet (tOp rMod (tCB rInt (tCons (tOp rSub (tOp rAdd (tVar 2) (tCall (sp_draw a) [] E (tCons (tVar 0) (tCons (tC (.int 5)) tNil)))) (tC (.int 2))) tNil)) (tVar 1))) tNext)
    (tSeq (tAsg (tOp rAdd (tOp rMul (tCall (sp_draw a) [] E (tCons (tVar 0) (tCons (tC (.int 65536)) tNil))) (tC (.int 65536))) (tCall (sp_draw a) [] E (tCons (tVar 0) (tCons (tC (.int 65536)) tNil)))) (gName 4))
    (tRet (tOp rMod (tCB rInt (tCons (tVar 4) tNil)) (tVar 1))))))))) ⟨fun _ H' => Q .non H', Q, fun _ _ => False, fun _ _ => False⟩ [some v0, some v1, some v2, none, none] H) : sp_code a [v0, v1, v2] H Q E := ⟨rfl, h⟩
def t_Ring___contains__ (a : Cl) (E : XK) : TS :=
  (tRet (tCall (sp_in_range a) [] E (tCons (tVar 1) (tCons (tC (.int 0)) (tCons (tOp rSub (eFld a.c_Ring "size" (tVar 0)) (tC (.int 1))) tNil)))))
def sp_Ring___contains__ (a : Cl) : Sp := spB 2 2 (t_Ring___contains__ a)
theorem in_Ring___contains__ {a : Cl} {v0 v1 : V} {H : Hp} {Q : VK} {E : XK} (h : (tRet (tCall (sp_in_range a) [] E (tCons (tVar 1) (tCons (tC (.int 0)) (tCons (tOp rSub (eFld a.c_Ring "size" (tVar 0)) (tC (.int 1))) tNil))))) ⟨fun _ H' => Q .non H', Q, fun _ _ => False, fun _ _ => False⟩ [some v0, some v1] H) : sp_Ring___contains__ a [v0, v1] H Q E := ⟨rfl, h⟩
def t_Ring_gap (a : Cl) (E : XK) : TS :=
  (tSeq (sFor a.S (tTup (tCons (tVar 1) (tCons (tVar 2) tNil))) (gName 3) (tIfS (tTest (tOp (rInOwn a.c_Ring true (sp_Ring___contains__ a) E) (tVar 3) (tVar 0))) tNever tNext))
    (tRet (tOp rMod (tOp rSub (tVar 2) (tVar 1)) (eFld a.c_Ring "size" (tVar 0)))))
def sp_Ring_gap (a : Cl) : Sp := spB 4 3 (t_Ring_gap a)
theorem in_Ring_gap {a : Cl} {v0 v1 v2 : V} {H : Hp} {Q : VK} {E : XK} (h : (tSeq (sFor a.S (tTup (tCons (tVar 1) (tCons (tVar 2) tNil))) (gName 3) (tIfS (tTest (tOp (rInOwn a.c_Ring true (sp_Ring___contains__ a) E) (tVar 3) (tVar 0))) tNever tNext))
    (tRet (tOp rMod (tOp rSub (tVar 2) (tVar 1)) (eFld a.c_Ring "size" (tVar 0))))) ⟨fun _ H' => Q .non H', Q, fun _ _ => False, fun _ _ => False⟩ [some v0, some v1, some v2, none] H) : sp_Ring_gap a [v0, v1, v2] H Q E := ⟨rfl, h⟩
def t_is (a : Cl) (E : XK) : TS :=
  (tRet (tAndV (tCB rIsI (tCons (tVar 0) (tCons (tC (.ty "int")) tNil))) (tAndV (tNotV (tCB rIsI (tCons (tVar 0) (tCons (tC (.ty "bool")) tNil)))) (tOp rEq (tVar 0) (tVar 1)))))
def sp_is (a : Cl) : Sp := spB 2 2 (t_is a)
theorem in_is {a : Cl} {v0 v1 : V} {H : Hp} {Q : VK} {E : XK} (h : (tRet (tAndV (tCB rIsI (tCons (tVar 0) (tCons (tC (.ty "int")) tNil))) (tAndV (tNotV (tCB rIsI (tCons (tVar 0) (tCons (tC (.ty "bool")) tNil)))) (tOp rEq (tVar 0) (tVar 1))))) ⟨fun _ H' => Q .non H', Q, fun _ _ => False, fun _ _ => False⟩ [some v0, some v1] H) : sp_is a [v0, v1] H Q E := ⟨rfl, h⟩
def t_truth (a : Cl) (E : XK) : TS :=
  (tRet (tAndV (tCB rIsI (tCons (tVar 0) (tCons (tC (.ty "bool")) tNil))) (tOp rEq (tVar 0) (tVar 1))))
def sp_truth (a : Cl) : Sp := spB 2 2 (t_truth a)
theorem in_truth {a : Cl} {v0 v1 : V} {H : Hp} {Q : VK} {E : XK} (h : (tRet (tAndV (tCB rIsI (tCons (tVar 0) (tCons (tC (.ty "bool")) tNil))) (tOp rEq (tVar 0) (tVar 1)))) ⟨fun _ H' => Q .non H', Q, fun _ _ => False, fun _ _ => False⟩ [some v0, some v1] H) : sp_truth a [v0, v1] H Q E := ⟨rfl, h⟩
def t_Ring_before (a : Cl) (E : XK) : TS :=
  (tRet (tChain rLe rLt (tC (.int 1)) (tMeth a.c_Ring "gap" (sp_Ring_gap a) [] E (tVar 0) (tCons (tVar 1) (tCons (tVar 2) tNil))) (tOp rFdiv (eFld a.c_Ring "size" (tVar 0)) (tC (.int 2)))))
def sp_Ring_before (a : Cl) : Sp := spB 3 3 (t_Ring_before a)
theorem in_Ring_before {a : Cl} {v0 v1 v2 : V} {H : Hp} {Q : VK} {E : XK} (h : (tRet (tChain rLe rLt (tC (.int 1)) (tMeth a.c_Ring "gap" (sp_Ring_gap a) [] E (tVar 0) (tCons (tVar 1) (tCons (tVar 2) tNil))) (tOp rFdiv (eFld a.c_Ring "size" (tVar 0)) (tC (.int 2))))) ⟨fun _ H' => Q .non H', Q, fun _ _ => False, fun _ _ => False⟩ [some v0, some v1, some v2] H) : sp_Ring_before a [v0, v1, v2] H Q E := ⟨rfl, h⟩
def t_pair (a : Cl) (E : XK) : TS :=
  (tSeq (tAsg (tMeth a.c_Ring "gap" (sp_Ring_gap a) [] E (tVar 0) (tCons (tVar 2) (tCons (tVar 3) tNil))) (gName 4))
    (tSeq (tIfS (tOr (tNot (tB (tCB rIsI (tCons (tVar 4) (tCons (tC (.ty "int")) tNil))))) (tOr (tB (tCB rIsI (tCons (tVar 4) (tCons (tC (.ty "bool")) tNil)))) (tNot (tTest (tChain rLe rLt (tC (.int 0)) (tVar 4) (tVar 1)))))) (tRet (tC (.bl false))) tNext)
    (tSeq (tIfS (tTest (tOp rNe (tOp rMod (tCB rInt (tCons (tOp rSub (tOp rAdd (tVar 2) (tVar 4)) (tVar 3)) tNil)) (tVar 1)) (tC (.int 0)))) (tRet (tC (.bl false))) tNext)
    (tSeq (tIfS (tNot (tB (tCall (sp_is a) [] E (tCons (tMeth a.c_Ring "gap" (sp_Ring_gap a) [] E (tVar 0) (tCons (tVar 3) (tCons (tVar 2) tNil))) (tCons (tOp rMod (tCB rInt (tCons (tOp rSub (tVar 1) (tVar 4)) tNil)) (tVar 1)) tNil))))) (tRet (tC (.bl false))) tNext)
    (tSeq (tIfS (tNot (tB (tCall (sp_truth a) [] E (tCons (tMeth a.c_Ring "before" (sp_Ring_before a) [] E (tVar 0) (tCons (tVar 2) (tCons (tVar 3) tNil))) (tCons (tChain rLe rLt (tC (.int 1)) (tVar 4) (tOp rFdiv (tVar 1) (tC (.int 2)))) tNil))))) (tRet (tC (.bl false))) tNext)
    (tRet (tCall (sp_truth a) [] E (tCons (tMeth a.c_Ring "before" (sp_Ring_before a) [] E (tVar 0) (tCons (tVar 3) (tCons (tVar 2) tNil))) (tCons (tOp rGt (tVar 4) (tOp rFdiv (tVar 1) (tC (.int 2)))) tNil)))))))))
def sp_pair (a : Cl) : Sp := spB 5 4 (t_pair a)
theorem in_pair {a : Cl} {v0 v1 v2 v3 : V} {H : Hp} {Q : VK} {E : XK} (h : (tSeq (tAsg (tMeth a.c_Ring "gap" (sp_Ring_gap a) [] E (tVar 0) (tCons (tVar 2) (tCons (tVar 3) tNil))) (gName 4))
    (tSeq (tIfS (tOr (tNot (tB (tCB rIsI (tCons (tVar 4) (tCons (tC (.ty "int")) tNil))))) (tOr (tB (tCB rIsI (tCons (tVar 4) (tCons (tC (.ty "bool")) tNil)))) (tNot (tTest (tChain rLe rLt (tC (.int 0)) (tVar 4) (tVar 1)))))) (tRet (tC (.bl false))) tNext)
    (tSeq (tIfS (tTest (tOp rNe (tOp rMod (tCB rInt (tCons (tOp rSub (tOp rAdd (tVar 2) (tVar 4)) (tVar 3)) tNil)) (tVar 1)) (tC (.int 0)))) (tRet (tC (.bl false))) tNext)
    (tSeq (tIfS (tNot (tB (tCall (sp_is a) [] E (tCons (tMeth a.c_Ring "gap" (sp_Ring_gap a) [] E (tVar 0) (tCons (tVar 3) (tCons (tVar 2) tNil))) (tCons (tOp rMod (tCB rInt (tCons (tOp rSub (tVar 1) (tVar 4)) tNil)) (tVar 1)) tNil))))) (tRet (tC (.bl false))) tNext)
    (tSeq (tIfS (tNot (tB (tCall (sp_truth a) [] E (tCons (tMeth a.c_Ring "before" (sp_Ring_before a) [] E (tVar 0) (tCons (tVar 2) (tCons (tVar 3) tNil))) (tCons (tChain rLe rLt (tC (.int 1)) (tVar 4) (tOp rFdiv (tVar 1) (tC (.int 2)))) tNil))))) (tRet (tC (.bl false))) tNext)
    (tRet (tCall (sp_truth a) [] E (tCons (tMeth a.c_Ring "before" (sp_Ring_before a) [] E (tVar 0) (tCons (tVar 3) (tCons (tVar 2) tNil))) (tCons (tOp rGt (tVar 4) (tOp rFdiv (tVar 1) (tC (.int 2)))) tNil))))))))) ⟨fun _ H' => Q .non H', Q, fun _ _ => False, fun _ _ => False⟩ [some v0, some v1, some v2, some v3, none] H) : sp_pair a [v0, v1, v2, v3] H Q E := ⟨rfl, h⟩
def t_Ring_within (a : Cl) (E : XK) : TS :=
  (tRet (tOp rLt (tMeth a.c_Ring "gap" (sp_Ring_gap a) [] E (tVar 0) (tCons (tVar 1) (tCons (tVar 2) tNil))) (tMeth a.c_Ring "gap" (sp_Ring_gap a) [] E (tVar 0) (tCons (tVar 1) (tCons (tVar 3) tNil)))))
def sp_Ring_within (a : Cl) : Sp := spB 4 4 (t_Ring_within a)
theorem in_Ring_within {a : Cl} {v0 v1 v2 v3 : V} {H : Hp} {Q : VK} {E : XK} (h : (tRet (tOp rLt (tMeth a.c_Ring "gap" (sp_Ring_gap a) [] E (tVar 0) (tCons (tVar 1) (tCons (tVar 2) tNil))) (tMeth a.c_Ring "gap" (sp_Ring_gap a) [] E (tVar 0) (tCons (tVar 1) (tCons (tVar 3) tNil))))) ⟨fun _ H' => Q .non H', Q, fun _ _ => False, fun _ _ => False⟩ [some v0, some v1, some v2, some v3] H) : sp_Ring_within a [v0, v1, v2, v3] H Q E := ⟨rfl, h⟩
def t_triple (a : Cl) (E : XK) : TS :=
  (tSeq (tAsg (tOp rLt (tOp rMod (tCB rInt (tCons (tOp rSub (tVar 3) (tVar 2)) tNil)) (tVar 1)) (tOp rMod (tCB rInt (tCons (tOp rSub (tVar 4) (tVar 2)) tNil)) (tVar 1))) (gName 5))
    (tSeq (tIfS (tNot (tB (tCall (sp_truth a) [] E (tCons (tMeth a.c_Ring "within" (sp_Ring_within a) [] E (tVar 0) (tCons (tVar 2) (tCons (tVar 3) (tCons (tVar 4) tNil)))) (tCons (tVar 5) tNil))))) (tRet (tC (.bl false))) tNext)
    (tSeq (tIfS (tTest (tOp rEq (tVar 2) (tVar 4))) (tRet (tNotV (tVar 5))) tNext)
    (tRet (tCall (sp_truth a) [] E (tCons (tMeth a.c_Ring "within" (sp_Ring_within a) [] E (tVar 0) (tCons (tVar 4) (tCons (tVar 3) (tCons (tVar 2) tNil)))) (tCons (tNotV (tVar 5)) tNil)))))))
def sp_triple (a : Cl) : Sp := spB 6 5 (t_triple a)
theorem in_triple {a : Cl} {v0 v1 v2 v3 v4 : V} {H : Hp} {Q : VK} {E : XK} (h : (tSeq (tAsg (tOp rLt (tOp rMod (tCB rInt (tCons (tOp rSub (tVar 3) (tVar 2)) tNil)) (tVar 1)) (tOp rMod (tCB rInt (tCons (tOp rSub (tVar 4) (tVar 2)) tNil)) (tVar 1))) (gName 5))
    (tSeq (tIfS (tNot (tB (tCall (sp_truth a) [] E (tCons (tMeth a.c_Ring "within" (sp_Ring_within a) [] E (tVar 0) (tCons (tVar 2) (tCons (tVar 3) (tCons (tVar 4) tNil)))) (tCons (tVar 5) tNil))))) (tRet (tC (.bl false))) tNext)
    (tSeq (tIfS (tTest (tOp rEq (tVar 2) (tVar 4))) (tRet (tNotV (tVar 5))) tNext)
    (tRet (tCall (sp_truth a) [] E (tCons (tMeth a.c_Ring "within" (sp_Ring_within a) [] E (tVar 0) (tCons (tVar 4) (tCons (tVar 3) (tCons (tVar 2) tNil)))) (tCons (tNotV (tVar 5)) tNil))))))) ⟨fun _ H' => Q .non H', Q, fun _ _ => False, fun _ _ => False⟩ [some v0, some v1, some v2, some v3, some v4, none] H) : sp_triple a [v0, v1, v2, v3, v4] H Q E := ⟨rfl, h⟩
def t_walk (a : Cl) (E : XK) : TS :=
  (tSeq (tAsg (tVar 1) (gName 4))
    (tSeq (tAsg (tC (.int 0)) (gName 5))
    (tSeq (tAsg (tC (.bl false)) (gName 6))
    (tSeq (sForR none (tC (.int 64)) (gName 7) (tSeq (tIfS (tTest (tOp rEq (tVar 4) (tVar 3))) tBreak tNext)
    (tSeq (tIfS (tTest (tOp rEq (tVar 4) (tVar 2))) (tAsg (tC (.bl true)) (gName 6)) tNext)
    (tSeq (tAsg (tOp rMod (tCB rInt (tCons (tOp rAdd (tVar 4) (tC (.int 1))) tNil)) (tC (.int 64))) (gName 4))
    (tAsg (tOp rAdd (tVar 5) (tC (.int 1))) (gName 5))))))
    (tRet (tAndV (tCall (sp_is a) [] E (tCons (tMeth a.c_Ring "gap" (sp_Ring_gap a) [] E (tVar 0) (tCons (tVar 1) (tCons (tVar 3) tNil))) (tCons (tVar 5) tNil))) (tCall (sp_truth a) [] E (tCons (tMeth a.c_Ring "within" (sp_Ring_within a) [] E (tVar 0) (tCons (tVar 1) (tCons (tVar 2) (tCons (tVar 3) tNil)))) (tCons (tVar 6) tNil)))))))))
def sp_walk (a : Cl) : Sp := spB 8 4 (t_walk a)
theorem in_walk {a : Cl} {v0 v1 v2 v3 : V} {H : Hp} {Q : VK} {E : XK} (h : (tSeq (tAsg (tVar 1) (gName 4))
    (tSeq (tAsg (tC (.int 0)) (gName 5))
    (tSeq (tAsg (tC (.bl false)) (gName 6))
    (tSeq (sForR none (tC (.int 64)) (gName 7) (tSeq (tIfS (tTest (tOp rEq (tVar 4) (tVar 3))) tBreak tNext)
    (tSeq (tIfS (tTest (tOp rEq (tVar 4) (tVar 2))) (tAsg (tC (.bl true)) (gName 6)) tNext)
    (tSeq (tAsg (tOp rMod (tCB rInt (tCons (tOp rAdd (tVar 4) (tC (.int 1))) tNil)) (tC (.int 64))) (gName 4))
    (tAsg (tOp rAdd (tVar 5) (tC (.int 1))) (gName 5))))))
    (tRet (tAndV (tCall (sp_is a) [] E (tCons (tMeth a.c_Ring "gap" (sp_Ring_gap a) [] E (tVar 0) (tCons (tVar 1) (tCons (tVar 3) tNil))) (tCons (tVar 5) tNil))) (tCall (sp_truth a) [] E (tCons (tMeth a.c_Ring "within" (sp_Ring_within a) [] E (tVar 0) (tCons (tVar 1) (tCons (tVar 2) (tCons (tVar 3) tNil)))) (tCons (tVar 6) tNil))))))))) ⟨fun _ H' => Q .non H', Q, fun _ _ => False, fun _ _ => False⟩ [some v0, some v1, some v2, some v3, none, none, none, none] H) : sp_walk a [v0, v1, v2, v3] H Q E := ⟨rfl, h⟩
def t_Ring_wrap (a : Cl) (E : XK) : TS :=
  (tSeq (tIfS (tNot (tB (tCall (sp_is_whole a) [] E (tCons (tVar 1) tNil)))) tNever tNext)
    (tRet (tOp rMod (tVar 1) (eFld a.c_Ring "size" (tVar 0)))))
def sp_Ring_wrap (a : Cl) : Sp := spB 2 2 (t_Ring_wrap a)
theorem in_Ring_wrap {a : Cl} {v0 v1 : V} {H : Hp} {Q : VK} {E : XK} (h : (tSeq (tIfS (tNot (tB (tCall (sp_is_whole a) [] E (tCons (tVar 1) tNil)))) tNever tNext)
    (tRet (tOp rMod (tVar 1) (eFld a.c_Ring "size" (tVar 0))))) ⟨fun _ H' => Q .non H', Q, fun _ _ => False, fun _ _ => False⟩ [some v0, some v1] H) : sp_Ring_wrap a [v0, v1] H Q E := ⟨rfl, h⟩
def t_offsets (a : Cl) (E : XK) : TS :=
  (tSeq (tAsg (tOp rAdd (tOp rMul (tCall (sp_draw a) [] E (tCons (tVar 0) (tCons (tC (.int 1000000)) tNil))) (tC (.int 1000000))) (tCall (sp_draw a) [] E (tCons (tVar 0) (tCons (tC (.int 1000000)) tNil)))) (gName 3))
    (tSeq (tAsg (tOp rMod (tCB rInt (tCons (tVar 3) tNil)) (tOp rSub (tOp rPow (tC (.int 10)) (tC (.int 12))) (tOp rMul (tC (.int 4)) (tVar 2)))) (gName 3))
    (tSeq (tIfS (tTest (tOp rEq (tCall (sp_draw a) [] E (tCons (tVar 0) (tCons (tC (.int 2)) tNil))) (tC (.int 1)))) (tAsg (tUn rNeg (tVar 3)) (gName 3)) tNext)
    (tSeq (tAsg (tOp rSub (tCall (sp_code a) [] E (tCons (tVar 0) (tCons (tOp rSub (tVar 2) (tC (.int 1))) (tCons (tC (.int 0)) tNil)))) (tOp rSub (tOp rFdiv (tVar 2) (tC (.int 2))) (tC (.int 1)))) (gName 4))
    (tSeq (tAsg (tMeth a.c_Ring "wrap" (sp_Ring_wrap a) [] E (tVar 1) (tCons (tVar 3) tNil)) (gName 5))
    (tSeq (tAsg (tMeth a.c_Ring "wrap" (sp_Ring_wrap a) [] E (tVar 1) (tCons (tOp rAdd (tVar 3) (tVar 4)) tNil)) (gName 6))
    (tSeq (tIfS (tOr (tNot (tB (tCall (sp_truth a) [] E (tCons (tMeth a.c_Ring "before" (sp_Ring_before a) [] E (tVar 1) (tCons (tVar 5) (tCons (tVar 6) tNil))) (tCons (tOp rGt (tVar 4) (tC (.int 0))) tNil))))) (tNot (tB (tCall (sp_truth a) [] E (tCons (tMeth a.c_Ring "before" (sp_Ring_before a) [] E (tVar 1) (tCons (tVar 6) (tCons (tVar 5) tNil))) (tCons (tOp rLt (tVar 4) (tC (.int 0))) tNil)))))) (tRet (tC (.bl false))) tNext)
    (tSeq (tIfS (tNot (tB (tCall (sp_is a) [] E (tCons (tMeth a.c_Ring "gap" (sp_Ring_gap a) [] E (tVar 1) (tCons (tVar 5) (tCons (tVar 6) tNil))) (tCons (tOp rMod (tCB rInt (tCons (tVar 4) tNil)) (tVar 2)) tNil))))) (tRet (tC (.bl false))) tNext)
    (tSeq (tAsg (tCall (sp_code a) [] E (tCons (tVar 0) (tCons (tVar 2) (tCons (tC (.int 0)) tNil)))) (gName 7))
    (tSeq (tAsg (tCall (sp_code a) [] E (tCons (tVar 0) (tCons (tVar 2) (tCons (tVar 7) tNil)))) (gName 8))
    (tRet (tCall (sp_truth a) [] E (tCons (tMeth a.c_Ring "within" (sp_Ring_within a) [] E (tVar 1) (tCons (tVar 5) (tCons (tMeth a.c_Ring "wrap" (sp_Ring_wrap a) [] E (tVar 1) (tCons (tOp rAdd (tVar 3) (tVar 7)) tNil)) (tCons (tMeth a.c_Ring "wrap" (sp_Ring_wrap a) [] E (tVar 1) (tCons (tOp rAdd (tVar 3) (tVar 8)) tNil)) tNil)))) (tCons (tOp rLt (tVar 7) (tVar 8)) tNil))))))))))))))
def sp_offsets (a : Cl) : Sp := spB 9 3 (t_offsets a)
theorem in_offsets {a : Cl} {v0 v1 v2 : V} {H : Hp} {Q : VK} {E : XK} (h : (tSeq (tAsg (tOp rAdd (tOp rMul (tCall (sp_draw a) [] E (tCons (tVar 0) (tCons (tC (.int 1000000)) tNil))) (tC (.int 1000000))) (tCall (sp_draw a) [] E (tCons (tVar 0) (tCons (tC (.int 1000000)) tNil)))) (gName 3))
    (tSeq (tAsg (tOp rMod (tCB rInt (tCons (tVar 3) tNil)) (tOp rSub (tOp rPow (tC (.int 10)) (tC (.int 12))) (tOp rMul (tC (.int 4)) (tVar 2)))) (gName 3))
    (tSeq (tIfS (tTest (tOp rEq (tCall (sp_draw a) [] E (tCons (tVar 0) (tCons (tC (.int 2)) tNil))) (tC (.int 1)))) (tAsg (tUn rNeg (tVar 3)) (gName 3)) tNext)
    (tSeq (tAsg (tOp rSub (tCall (sp_code a) [] E (tCons (tVar 0) (tCons (tOp rSub (tVar 2) (tC (.int 1))) (tCons (tC (.int 0)) tNil)))) (tOp rSub (tOp rFdiv (tVar 2) (tC (.int 2))) (tC (.int 1)))) (gName 4))
    (tSeq (tAsg (tMeth a.c_Ring "wrap" (sp_Ring_wrap a) [] E (tVar 1) (tCons (tVar 3) tNil)) (gName 5))
    (tSeq (tAsg (tMeth a.c_Ring "wrap" (sp_Ring_wrap a) [] E (tVar 1) (tCons (tOp rAdd (tVar 3) (tVar 4)) tNil)) (gName 6))
    (tSeq (tIfS (tOr (tNot (tB (tCall (sp_truth a) [] E (tCons (tMeth a.c_Ring "before" (sp_Ring_before a) [] E (tVar 1) (tCons (tVar 5) (tCons (tVar 6) tNil))) (tCons (tOp rGt (tVar 4) (tC (.int 0))) tNil))))) (tNot (tB (tCall (sp_truth a) [] E (tCons (tMeth a.c_Ring "before" (sp_Ring_before a) [] E (tVar 1) (tCons (tVar 6) (tCons (tVar 5) tNil))) (tCons (tOp rLt (tVar 4) (tC (.int 0))) tNil)))))) (tRet (tC (.bl false))) tNext)
    (tSeq (tIfS (tNot (tB (tCall (sp_is a) [] E (tCons (tMeth a.c_Ring "gap" (sp_Ring_gap a) [] E (tVar 1) (tCons (tVar 5) (tCons (tVar 6) tNil))) (tCons (tOp rMod (tCB rInt (tCons (tVar 4) tNil)) (tVar 2)) tNil))))) (tRet (tC (.bl false))) tNext)
    (tSeq (tAsg (tCall (sp_code a) [] E (tCons (tVar 0) (tCons (tVar 2) (tCons (tC (.int 0)) tNil)))) (gName 7))
    (tSeq (tAsg (tCall (sp_code a) [] E (tCons (tVar 0) (tCons (tVar 2) (tCons (tVar 7) tNil)))) (gName 8))
    (tRet (tCall (sp_truth a) [] E (tCons (tMeth a.c_Ring "within" (sp_Ring_within a) [] E (tVar 1) (tCons (tVar 5) (tCons (tMeth a.c_Ring "wrap" (sp_Ring_wrap a) [] E (tVar 1) (tCons (tOp rAdd (tVar 3) (tVar 7)) tNil)) (tCons (tMeth a.c_Ring "wrap" (sp_Ring_wrap a) [] E (tVar 1) (tCons (tOp rAdd (tVar 3) (tVar 8)) tNil)) tNil)))) (tCons (tOp rLt (tVar 7) (tVar 8)) tNil)))))))))))))) ⟨fun _ H' => Q .non H', Q, fun _ _ => False, fun _ _ => False⟩ [some v0, some v1, some v2, none, none, none, none, none, none] H) : sp_offsets a [v0, v1, v2] H Q E := ⟨rfl, h⟩
def t_law (a : Cl) (E : XK) : TS :=
  (tSeq (tAsg (tCall (sp_purse a) [] E (tCons (tVar 0) tNil)) (gName 1))
    (tSeq (tAsg (tC (.int 6)) (gName 2))
    (tSeq (tIfS (tTest (tOp rEq (tCall (sp_draw a) [] E (tCons (tVar 1) (tCons (tC (.int 2)) tNil))) (tC (.int 1)))) (tAsg (tOp rAdd (tC (.int 6)) (tCall (sp_draw a) [] E (tCons (tVar 1) (tCons (tC (.int 27)) tNil)))) (gName 2)) tNext)
    (tSeq (tAsg (tCall (sp_width a) [] E (tCons (tVar 2) tNil)) (gName 3))
    (tSeq (tAsg (tMake a.c_Ring (sp_Ring___init__ a) [] E (tCons (tVar 3) tNil)) (gName 4))
    (tSeq (sForR none (tOp rAdd (tC (.int 1)) (tCall (sp_draw a) [] E (tCons (tVar 1) (tCons (tC (.int 4)) tNil)))) (gName 5) (tSeq (tAsg (tOp rMod (tCB rInt (tCons (tOp rAdd (tOp rMul (tCall (sp_draw a) [] E (tCons (tVar 1) (tCons (tC (.int 65536)) tNil))) (tC (.int 65536))) (tCall (sp_draw a) [] E (tCons (tVar 1) (tCons (tC (.int 65536)) tNil)))) tNil)) (tVar 3)) (gName 6))
    (tSeq (tAsg (tCall (sp_code a) [] E (tCons (tVar 1) (tCons (tVar 3) (tCons (tVar 6) tNil)))) (gName 7))
    (tSeq (tAsg (tCall (sp_code a) [] E (tCons (tVar 1) (tCons (tVar 3) (tCons (tVar 7) tNil)))) (gName 8))
    (tSeq (tIfS (tOr (tNot (tB (tCall (sp_pair a) [] E (tCons (tVar 4) (tCons (tVar 3) (tCons (tVar 6) (tCons (tVar 8) tNil))))))) (tNot (tB (tCall (sp_pair a) [] E (tCons (tVar 4) (tCons (tVar 3) (tCons (tVar 7) (tCons (tVar 8) tNil)))))))) (tRet (tC (.bl false))) tNext)
    (tSeq (tIfS (tNot (tB (tCall (sp_triple a) [] E (tCons (tVar 4) (tCons (tVar 3) (tCons (tVar 6) (tCons (tVar 7) (tCons (tVar 8) tNil)))))))) (tRet (tC (.bl false))) tNext)
    (tSeq (tIfS (tAnd (tTest (tOp rEq (tVar 3) (tC (.int 64)))) (tNot (tB (tCall (sp_walk a) [] E (tCons (tVar 4) (tCons (tVar 6) (tCons (tVar 7) (tCons (tVar 8) tNil)))))))) (tRet (tC (.bl false))) tNext)
    (tIfS (tNot (tB (tCall (sp_offsets a) [] E (tCons (tVar 1) (tCons (tVar 4) (tCons (tVar 3) tNil)))))) (tRet (tC (.bl false))) tNext))))))))
    (tRet (tC (.bl true)))))))))
def sp_law (a : Cl) : Sp := spB 9 1 (t_law a)
theorem in_law {a : Cl} {v0 : V} {H : Hp} {Q : VK} {E : XK} (h : (tSeq (tAsg (tCall (sp_purse a) [] E (tCons (tVar 0) tNil)) (gName 1))
    (tSeq (tAsg (tC (.int 6)) (gName 2))
    (tSeq (tIfS (tTest (tOp rEq (tCall (sp_draw a) [] E (tCons (tVar 1) (tCons (tC (.int 2)) tNil))) (tC (.int 1)))) (tAsg (tOp rAdd (tC (.int 6)) (tCall (sp_draw a) [] E (tCons (tVar 1) (tCons (tC (.int 27)) tNil)))) (gName 2)) tNext)
    (tSeq (tAsg (tCall (sp_width a) [] E (tCons (tVar 2) tNil)) (gName 3))
    (tSeq (tAsg (tMake a.c_Ring (sp_Ring___init__ a) [] E (tCons (tVar 3) tNil)) (gName 4))
    (tSeq (sForR none (tOp rAdd (tC (.int 1)) (tCall (sp_draw a) [] E (tCons (tVar 1) (tCons (tC (.int 4)) tNil)))) (gName 5) (tSeq (tAsg (tOp rMod (tCB rInt (tCons (tOp rAdd (tOp rMul (tCall (sp_draw a) [] E (tCons (tVar 1) (tCons (tC (.int 65536)) tNil))) (tC (.int 65536))) (tCall (sp_draw a) [] E (tCons (tVar 1) (tCons (tC (.int 65536)) tNil)))) tNil)) (tVar 3)) (gName 6))
    (tSeq (tAsg (tCall (sp_code a) [] E (tCons (tVar 1) (tCons (tVar 3) (tCons (tVar 6) tNil)))) (gName 7))
    (tSeq (tAsg (tCall (sp_code a) [] E (tCons (tVar 1) (tCons (tVar 3) (tCons (tVar 7) tNil)))) (gName 8))
    (tSeq (tIfS (tOr (tNot (tB (tCall (sp_pair a) [] E (tCons (tVar 4) (tCons (tVar 3) (tCons (tVar 6) (tCons (tVar 8) tNil))))))) (tNot (tB (tCall (sp_pair a) [] E (tCons (tVar 4) (tCons (tVar 3) (tCons (tVar 7) (tCons (tVar 8) tNil)))))))) (tRet (tC (.bl false))) tNext)
    (tSeq (tIfS (tNot (tB (tCall (sp_triple a) [] E (tCons (tVar 4) (tCons (tVar 3) (tCons (tVar 6) (tCons (tVar 7) (tCons (tVar 8) tNil)))))))) (tRet (tC (.bl false))) tNext)
    (tSeq (tIfS (tAnd (tTest (tOp rEq (tVar 3) (tC (.int 64)))) (tNot (tB (tCall (sp_walk a) [] E (tCons (tVar 4) (tCons (tVar 6) (tCons (tVar 7) (tCons (tVar 8) tNil)))))))) (tRet (tC (.bl false))) tNext)
    (tIfS (tNot (tB (tCall (sp_offsets a) [] E (tCons (tVar 1) (tCons (tVar 4) (tCons (tVar 3) tNil)))))) (tRet (tC (.bl false))) tNext))))))))
    (tRet (tC (.bl true))))))))) ⟨fun _ H' => Q .non H', Q, fun _ _ => False, fun _ _ => False⟩ [some v0, none, none, none, none, none, none, none, none] H) : sp_law a [v0] H Q E := ⟨rfl, h⟩

/-! the walker: «walk_at "y 1"» one step, «walk_at "y"» as far as it goes -/
local macro_rules | `(tactic| walk_at "y mem") => `(tactic| repeat (first | assumption | exact List.Mem.head _ | apply List.Mem.tail))
local macro_rules | `(tactic| walk_at "y sub") => `(tactic| first | exact List.Sublist.refl _ | exact List.nil_sublist _ | (refine List.Sublist.cons₂ _ ?_; walk_at "y sub") | (refine List.Sublist.cons _ ?_; walk_at "y sub"))
local macro_rules | `(tactic| walk_at "y take") => `(tactic| first | exact Y.Take.here | (apply Y.Take.there; walk_at "y take"))
local macro_rules | `(tactic| walk_at "y sel") => `(tactic| first | exact Y.Sel.all | exact Y.Sel.nil | (refine' Y.Sel.cons ?h ?s; (case h => walk_at "y take"); (case s => walk_at "y sel")))
local macro_rules | `(tactic| walk_at "y src") => `(tactic| first | assumption | (refine Y.Src.is ?_; walk_at "y mem"; done) | (refine Y.Src.rd ?_; walk_at "y mem"; done) | (refine Y.Src.st ?_; assumption))
local macro_rules | `(tactic| walk_at "y put") => `(tactic| repeat (first | assumption | exact Y.Put.here | apply Y.Put.there))
local macro_rules | `(tactic| walk_at "y at") => `(tactic| first | exact Y.atI_at (j := 0) rfl rfl | exact Y.atI_at (j := 1) rfl rfl | exact Y.atI_at (j := 2) rfl rfl | exact Y.atI_at (j := 3) rfl rfl | exact Y.atI_at (j := 4) rfl rfl | exact Y.atI_at (j := 5) rfl rfl | exact Y.atI_at (j := 6) rfl rfl | exact Y.atI_at (j := 7) rfl rfl | exact Y.atI_at (j := 8) rfl rfl | exact Y.atI_at (j := 9) rfl rfl | exact Y.atI_at (j := 10) rfl rfl | exact Y.atI_at (j := 11) rfl rfl | exact Y.atI_at (j := 12) rfl rfl | exact Y.atI_at (j := 13) rfl rfl | exact Y.atI_at (j := 14) rfl rfl | exact Y.atI_at (j := 15) rfl rfl | assumption | exact Y.atI_ints (by omega) (by omega))
local macro_rules | `(tactic| walk_at "y ix") => `(tactic| first | exact Y.ixN_b (j := 0) rfl rfl | exact Y.ixN_b (j := 1) rfl rfl | exact Y.ixN_b (j := 2) rfl rfl | exact Y.ixN_b (j := 3) rfl rfl | exact Y.ixN_b (j := 4) rfl rfl | exact Y.ixN_b (j := 5) rfl rfl | exact Y.ixN_b (j := 6) rfl rfl | exact Y.ixN_b (j := 7) rfl rfl | exact Y.ixN_b (j := 8) rfl rfl | exact Y.ixN_b (j := 9) rfl rfl | exact Y.ixN_b (j := 10) rfl rfl | exact Y.ixN_b (j := 11) rfl rfl | exact Y.ixN_b (j := 12) rfl rfl | exact Y.ixN_b (j := 13) rfl rfl | exact Y.ixN_b (j := 14) rfl rfl | exact Y.ixN_b (j := 15) rfl rfl | assumption | exact Y.ixN_i (by omega) (by omega))
local macro_rules | `(tactic| walk_at "y field") => `(tactic| first | assumption | exact Y.look_hit | exact Y.look_nil | (refine Y.look_miss (by decide +kernel) ?_; walk_at "y field"))
local macro_rules | `(tactic| walk_at "y putf") => `(tactic| first | exact Y.put_nil | exact Y.put_hit | (refine Y.put_miss (by decide +kernel) ?_; walk_at "y putf"))
local macro_rules | `(tactic| walk_at "y size") => `(tactic| first | exact Y.len_leB rfl | exact Y.len_ltB rfl | (show _ < 1000; decide) | (refine Y.len_leN ?_; simp only [List.length_append, List.length_cons, List.length_nil, List.length_map]; omega) | (refine Y.len_ltN ?_; simp only [List.length_append, List.length_cons, List.length_nil, List.length_map]; omega))
local macro_rules | `(tactic| walk_at "y side") => `(tactic| fail "side")
local macro_rules | `(tactic| walk_at "y spec") => `(tactic| fail "spec")
local macro_rules | `(tactic| walk_at "y 1") => `(tactic| first
  | (with_reducible refine Y.x_op ?_)
  | ((with_reducible refine Y.is_var ?_); first
    | (with_reducible refine Y.x_v0 ?_)
    | (with_reducible refine Y.x_v1 ?_)
    | (with_reducible refine Y.x_v2 ?_)
    | (with_reducible refine Y.x_v3 ?_)
    | (with_reducible refine Y.x_v4 ?_)
    | (with_reducible refine Y.x_v5 ?_)
    | (with_reducible refine Y.x_v6 ?_)
    | (with_reducible refine Y.x_v7 ?_)
    | (with_reducible refine Y.x_v8 ?_)
    | (with_reducible refine Y.x_v9 ?_)
    | (with_reducible refine Y.x_v10 ?_)
    | (with_reducible refine Y.x_v11 ?_)
    | (with_reducible refine Y.x_v12 ?_)
    | (with_reducible refine Y.x_v13 ?_)
    | (with_reducible refine Y.x_v14 ?_)
    | (with_reducible refine Y.x_v15 ?_)
    | (with_reducible refine Y.x_v16 ?_)
    | (with_reducible refine Y.x_v17 ?_)
    | (with_reducible refine Y.x_v18 ?_)
    | (with_reducible refine Y.x_v19 ?_)
    | (with_reducible refine Y.x_v20 ?_)
    | (with_reducible refine Y.x_v21 ?_)
    | (with_reducible refine Y.x_v22 ?_)
    | (with_reducible refine Y.x_v23 ?_))
  | (with_reducible refine Y.x_c ?_)
  | (with_reducible refine Y.x_seq ?_)
  | (with_reducible refine Y.x_asg ?_)
  | ((with_reducible refine Y.is_g ?_); first
    | (with_reducible refine Y.x_g0 ?_)
    | (with_reducible refine Y.x_g1 ?_)
    | (with_reducible refine Y.x_g2 ?_)
    | (with_reducible refine Y.x_g3 ?_)
    | (with_reducible refine Y.x_g4 ?_)
    | (with_reducible refine Y.x_g5 ?_)
    | (with_reducible refine Y.x_g6 ?_)
    | (with_reducible refine Y.x_g7 ?_)
    | (with_reducible refine Y.x_g8 ?_)
    | (with_reducible refine Y.x_g9 ?_)
    | (with_reducible refine Y.x_g10 ?_)
    | (with_reducible refine Y.x_g11 ?_)
    | (with_reducible refine Y.x_g12 ?_)
    | (with_reducible refine Y.x_g13 ?_)
    | (with_reducible refine Y.x_g14 ?_)
    | (with_reducible refine Y.x_g15 ?_)
    | (with_reducible refine Y.x_g16 ?_)
    | (with_reducible refine Y.x_g17 ?_)
    | (with_reducible refine Y.x_g18 ?_)
    | (with_reducible refine Y.x_g19 ?_)
    | (with_reducible refine Y.x_g20 ?_)
    | (with_reducible refine Y.x_g21 ?_)
    | (with_reducible refine Y.x_g22 ?_)
    | (with_reducible refine Y.x_g23 ?_))
  | (with_reducible refine Y.x_bl ?_)
  | (with_reducible refine Y.x_cons ?_)
  | (with_reducible refine Y.x_nil ?_)
  | (with_reducible refine Y.x_cb ?_)
  | (with_reducible refine Y.x_test ?_)
  | (with_reducible refine Y.x_ifS ?_)
  | (with_reducible refine Y.x_iteT ?_)
  | (with_reducible refine Y.x_iteF ?_)
  | (with_reducible refine Y.x_next ?_)
  | (with_reducible refine Y.x_call ?_)
  | (with_reducible refine Y.x_app ?_)
  | (with_reducible refine Y.x_ret ?_)
  | (with_reducible refine Y.x_add ?_)
  | (with_reducible refine Y.x_sub ?_)
  | ((with_reducible refine Y.is_eq ?_); first
    | (with_reducible refine Y.x_eqI ?_)
    | (with_reducible refine Y.x_eqB ?_)
    | (with_reducible refine Y.x_eqS ?_))
  | ((with_reducible refine Y.is_ne ?_); first
    | (with_reducible refine Y.x_neI ?_)
    | (with_reducible refine Y.x_neB ?_)
    | (with_reducible refine Y.x_neS ?_))
  | ((with_reducible refine Y.is_is ?_); first
    | (with_reducible refine Y.x_isN ?_)
    | (with_reducible refine Y.x_isI ?_)
    | (with_reducible refine Y.x_isR ?_)
    | (with_reducible refine Y.x_isB ?_))
  | ((with_reducible refine Y.is_isn ?_); first
    | (with_reducible refine Y.x_isnN ?_)
    | (with_reducible refine Y.x_isnI ?_)
    | (with_reducible refine Y.x_isnR ?_)
    | (with_reducible refine Y.x_isnB ?_))
  | ((with_reducible refine Y.is_ix ?_); first
    | ((with_reducible refine' Y.x_ixL ?F ?m ?a ?_); (case F => assumption); (case m => walk_at "y mem"); (case a => walk_at "y at"))
    | ((with_reducible refine' Y.x_ixT ?F ?m ?a ?_); (case F => assumption); (case m => walk_at "y mem"); (case a => walk_at "y at"))
    | ((with_reducible refine' Y.x_ixR ?F ?m ?a ?_); (case F => assumption); (case m => walk_at "y mem"); (case a => walk_at "y at"))
    | ((with_reducible refine' Y.x_ixS ?ms ?a ?_); (case ms => assumption); (case a => walk_at "y at")))
  | ((with_reducible refine Y.is_len ?_); first
    | ((with_reducible refine' Y.x_lenL ?F ?m ?_); (case F => assumption); (case m => walk_at "y mem"))
    | ((with_reducible refine' Y.x_lenT ?F ?m ?_); (case F => assumption); (case m => walk_at "y mem"))
    | ((with_reducible refine' Y.x_lenR ?F ?m ?_); (case F => assumption); (case m => walk_at "y mem"))
    | ((with_reducible refine' Y.x_lenS ?ms ?_); (case ms => assumption)))
  | ((with_reducible refine Y.is_sl ?_); first
    | ((with_reducible refine' Y.x_slL ?F ?m ?_); (case F => assumption); (case m => walk_at "y mem"); intro _ _ _ _)
    | ((with_reducible refine' Y.x_slR ?F ?m ?_); (case F => assumption); (case m => walk_at "y mem"); intro _ _ _ _)
    | ((with_reducible refine' Y.x_slS ?F ?ms ?_); (case F => assumption); (case ms => assumption); intro _ _ _ _))
  | (with_reducible refine Y.x_lt ?_)
  | (with_reducible refine Y.x_le ?_)
  | (with_reducible refine Y.x_gt ?_)
  | (with_reducible refine Y.x_ge ?_)
  | (with_reducible refine Y.x_intI ?_)
  | (with_reducible refine Y.x_not ?_)
  | (with_reducible refine Y.x_and ?_)
  | (with_reducible refine Y.x_or ?_)
  | (with_reducible refine Y.x_tB ?_)
  | (with_reducible refine Y.x_chain ?_)
  | (with_reducible refine Y.x_andV ?_)
  | (with_reducible refine Y.x_orV ?_)
  | (with_reducible refine Y.x_notV ?_)
  | (with_reducible refine Y.x_con ?_)
  | (with_reducible refine Y.x_fld ?_)
  | (with_reducible refine Y.x_gsub ?_)
  | (with_reducible refine Y.x_meth ?_)
  | (with_reducible refine Y.x_lst ?_)
  | (with_reducible refine Y.x_tup ?_)
  | (with_reducible refine Y.x_apd ?_)
  | (with_reducible refine Y.x_setF ?_)
  | (with_reducible refine Y.x_drop ?_)
  | ((with_reducible refine Y.is_isi ?_); first
    | (with_reducible refine Y.x_isi_int_int ?_)
    | (with_reducible refine Y.x_isi_int_bool ?_)
    | (with_reducible refine Y.x_isi_int_str ?_)
    | (with_reducible refine Y.x_isi_int_list ?_)
    | (with_reducible refine Y.x_isi_int_tuple ?_)
    | (with_reducible refine Y.x_isi_int_dict ?_)
    | (with_reducible refine Y.x_isi_bool_int ?_)
    | (with_reducible refine Y.x_isi_bool_bool ?_)
    | (with_reducible refine Y.x_isi_bool_str ?_)
    | (with_reducible refine Y.x_isi_bool_list ?_)
    | (with_reducible refine Y.x_isi_bool_tuple ?_)
    | (with_reducible refine Y.x_isi_bool_dict ?_)
    | (with_reducible refine Y.x_isi_str_int ?_)
    | (with_reducible refine Y.x_isi_str_bool ?_)
    | (with_reducible refine Y.x_isi_str_str ?_)
    | (with_reducible refine Y.x_isi_str_list ?_)
    | (with_reducible refine Y.x_isi_str_tuple ?_)
    | (with_reducible refine Y.x_isi_str_dict ?_)
    | (with_reducible refine Y.x_isi_NoneType_int ?_)
    | (with_reducible refine Y.x_isi_NoneType_bool ?_)
    | (with_reducible refine Y.x_isi_NoneType_str ?_)
    | (with_reducible refine Y.x_isi_NoneType_list ?_)
    | (with_reducible refine Y.x_isi_NoneType_tuple ?_)
    | (with_reducible refine Y.x_isi_NoneType_dict ?_))
  | (with_reducible refine Y.x_tIf ?_)
  | (with_reducible refine Y.x_un ?_)
  | (with_reducible refine Y.x_retN ?_)
  | (with_reducible refine Y.x_brk ?_)
  | (with_reducible refine Y.x_cont ?_)
  | (with_reducible refine Y.x_cmeth ?_)
  | (with_reducible refine Y.x_raw ?_)
  | (with_reducible refine Y.x_make ?_)
  | (with_reducible refine Y.x_app' ?_)
  | (with_reducible refine Y.x_sl ?_)
  | (with_reducible refine Y.x_nopart ?_)
  | (with_reducible refine Y.x_part ?_)
  | (with_reducible refine Y.x_niteT ?_)
  | (with_reducible refine Y.x_niteF ?_)
  | (with_reducible refine Y.x_initEnd ?_)
  | (with_reducible refine Y.x_neg ?_)
  | (with_reducible refine Y.x_band ?_)
  | (with_reducible refine Y.x_intB ?_)
  | (with_reducible refine Y.x_augA ?_)
  | (with_reducible refine Y.x_augS ?_)
  | (with_reducible refine Y.x_forR1 ?_)
  | (with_reducible refine Y.x_forR2 ?_)
  | (with_reducible refine Y.x_forE ?_)
  | (with_reducible refine Y.x_lcE ?_)
  | (with_reducible refine Y.x_yes ?_)
  | (with_reducible refine Y.x_int1 ?_)
  | (with_reducible refine Y.x_int2 ?_)
  | (with_reducible refine Y.x_forK0 ?_)
  | (with_reducible refine Y.x_forK ?_)
  | (with_reducible refine Y.x_forKS ?_)
  | (with_reducible refine Y.x_forKS0 ?_)
  | ((with_reducible refine Y.is_au ?_); first
    | (with_reducible refine Y.x_au0 ?_)
    | (with_reducible refine Y.x_au1 ?_)
    | (with_reducible refine Y.x_au2 ?_)
    | (with_reducible refine Y.x_au3 ?_)
    | (with_reducible refine Y.x_au4 ?_)
    | (with_reducible refine Y.x_au5 ?_)
    | (with_reducible refine Y.x_au6 ?_)
    | (with_reducible refine Y.x_au7 ?_)
    | (with_reducible refine Y.x_au8 ?_)
    | (with_reducible refine Y.x_au9 ?_)
    | (with_reducible refine Y.x_au10 ?_)
    | (with_reducible refine Y.x_au11 ?_)
    | (with_reducible refine Y.x_au12 ?_)
    | (with_reducible refine Y.x_au13 ?_)
    | (with_reducible refine Y.x_au14 ?_)
    | (with_reducible refine Y.x_au15 ?_)
    | (with_reducible refine Y.x_au16 ?_)
    | (with_reducible refine Y.x_au17 ?_)
    | (with_reducible refine Y.x_au18 ?_)
    | (with_reducible refine Y.x_au19 ?_)
    | (with_reducible refine Y.x_au20 ?_)
    | (with_reducible refine Y.x_au21 ?_)
    | (with_reducible refine Y.x_au22 ?_)
    | (with_reducible refine Y.x_au23 ?_))
  | ((with_reducible refine Y.is_ml ?_); first
    | (with_reducible refine Y.x_ml0 ?_)
    | (with_reducible refine Y.x_ml1 ?_))
  | ((with_reducible refine' Y.x_mod ?c ?_); (case c => first | omega | decide | walk_at "y side"))
  | ((with_reducible refine' Y.x_fdiv ?c ?_); (case c => first | exact Y.div_small (by omega) (by omega) | walk_at "y side"))
  | ((with_reducible refine' Y.x_mul ?c ?_); (case c => first | exact Y.mulR (by omega) (by omega) | exact Y.mulL (by omega) (by omega) | walk_at "y side"))
  | ((with_reducible refine Y.is_pow ?_); first
    | (with_reducible refine Y.x_pw10_1 ?_)
    | (with_reducible refine Y.x_pw10_2 ?_)
    | (with_reducible refine Y.x_pw10_3 ?_)
    | (with_reducible refine Y.x_pw10_4 ?_)
    | (with_reducible refine Y.x_pw10_5 ?_)
    | (with_reducible refine Y.x_pw10_6 ?_)
    | (with_reducible refine Y.x_pw10_7 ?_)
    | (with_reducible refine Y.x_pw10_8 ?_)
    | (with_reducible refine Y.x_pw10_9 ?_)
    | (with_reducible refine Y.x_pw10_10 ?_)
    | (with_reducible refine Y.x_pw10_11 ?_)
    | (with_reducible refine Y.x_pw10_12 ?_)
    | (with_reducible refine Y.x_pw10_13 ?_)
    | (with_reducible refine Y.x_pw10_14 ?_)
    | (with_reducible refine Y.x_pw10_15 ?_)
    | (with_reducible refine Y.x_pw10_16 ?_)
    | (with_reducible refine Y.x_pw10_17 ?_)
    | (with_reducible refine Y.x_pw10_18 ?_)
    | (with_reducible refine Y.x_pw10_19 ?_)
    | (with_reducible refine Y.x_pw10_20 ?_)
    | (with_reducible refine Y.x_pw10_21 ?_)
    | (with_reducible refine Y.x_pw10_22 ?_)
    | (with_reducible refine Y.x_pw10_23 ?_)
    | (with_reducible refine Y.x_pw10_24 ?_)
    | (with_reducible refine Y.x_pw2_6 ?_)
    | (with_reducible refine Y.x_pw2_10 ?_)
    | (with_reducible refine Y.x_pw2_16 ?_)
    | (with_reducible refine Y.x_pw2_20 ?_)
    | (with_reducible refine Y.x_pw2_30 ?_)
    | (with_reducible refine Y.x_pw2_31 ?_)
    | (with_reducible refine Y.x_pw2_32 ?_)
    | (with_reducible refine Y.x_pw2_40 ?_)
    | (with_reducible refine Y.x_pw2_48 ?_)
    | (with_reducible refine Y.x_pw2_60 ?_)
    | (with_reducible refine Y.x_pw2_62 ?_)
    | (with_reducible refine Y.x_pw2_63 ?_)
    | (with_reducible refine Y.x_pw2_64 ?_))
  | ((with_reducible refine' Y.x_pow ?c ?_); (case c => first | exact ⟨by decide, by decide, by decide⟩ | walk_at "y side"))
  | ((with_reducible refine' Y.x_shl ?c ?_); (case c => first | exact ⟨by omega, by omega, by decide⟩ | walk_at "y side"))
  | ((with_reducible refine' Y.x_wipe ?e ?_); (case e => rfl))
  | ((with_reducible refine' Y.x_fldG ?F ?m ?l ?_); (case F => assumption); (case m => walk_at "y mem"); (case l => walk_at "y field"))
  | ((with_reducible refine' Y.x_methG ?F ?m ?l ?_); (case F => assumption); (case m => walk_at "y mem"); (case l => walk_at "y field"))
  | ((with_reducible refine' Y.x_inOwnF ?F ?m ?_); (case F => assumption); (case m => walk_at "y mem"))
  | ((with_reducible refine' Y.x_inOwnT ?F ?m ?_); (case F => assumption); (case m => walk_at "y mem"))
  | ((with_reducible refine' Y.x_setFG ?F ?m ?z ?e ?pu ?_); (case F => assumption); (case m => walk_at "y mem"); (case z => walk_at "y size"); (case e => walk_at "y putf"); (case pu => walk_at "y put"); intro _ _)
  | ((with_reducible refine' Y.x_setL ?F ?m ?ax ?pu ?_); (case F => assumption); (case m => walk_at "y mem"); (case ax => walk_at "y ix"); (case pu => walk_at "y put"); intro _ _)
  | ((with_reducible refine' Y.x_apdG ?F ?m ?_); (case F => assumption); (case m => walk_at "y mem"))
  | ((with_reducible refine' Y.x_append ?F ?m ?z ?pu ?_); (case F => assumption); (case m => walk_at "y mem"); (case z => walk_at "y size"); (case pu => walk_at "y put"); intro _ _)
  | ((with_reducible refine' Y.x_lstG ?F ?z ?_); (case F => assumption); (case z => walk_at "y size"); intro _ _ _ _)
  | ((with_reducible refine' Y.x_tupG ?F ?z ?_); (case F => assumption); (case z => walk_at "y size"); intro _ _ _ _)
  | ((with_reducible refine' Y.x_makeG ?F ?_); (case F => assumption); intro _ _ _ _)
  | ((with_reducible refine' Y.x_rdT ?F ?m ?_); (case F => assumption); (case m => walk_at "y mem"))
  | ((with_reducible refine' Y.x_rdL ?F ?m ?_); (case F => assumption); (case m => walk_at "y mem"))
  | ((with_reducible refine' Y.forTU ?F ?m ?_); (case F => assumption); (case m => walk_at "y mem")))
local macro_rules | `(tactic| walk_at "y if") => `(tactic| first
  | ((with_reducible refine Y.x_ite ?_ ?_); all_goals (intro _; try (exfalso; omega)))
  | ((with_reducible refine Y.x_niteP ?_ ?_); all_goals (intro _; try (exfalso; omega)))
  | ((with_reducible refine Y.x_itec ?_ ?_); all_goals intro _)
  | ((with_reducible refine Y.x_nitec ?_ ?_); all_goals intro _))
local macro_rules | `(tactic| walk_at "y") => `(tactic| repeat' (first | walk_at "y 1" | walk_at "y if" | walk_at "y spec"))

/-! the purse of the draws -/
def PurseO (c : Addr) : HO → Prop := fun o => ∃ i d k s : Int, o = .lst [.ref c, .int i, .int d, .int k, .int s] ∧ 0 ≤ i ∧ 0 ≤ d ∧ 0 ≤ s ∧ s < 2147483647
theorem draw_ok {a : Cl} {H : Hp} {L : List (Addr × (HO → Prop))} {p c : Addr} {ns : List Int} {n : Int} {Q : VK} {E : XK} (F : FH H L) (mp : (p, PurseO c) ∈ L) (mc : (c, Is (.lst (ns.map V.int))) ∈ L) (nn : ∀ n ∈ ns, 0 ≤ n) (hn : 0 < n) (hn2 : n < 1000000000000)
    (k : ∀ r H', 0 ≤ r → r < n → FH H' L → Q (.int r) H') : sp_draw a [.ref p, .int n] H Q E := by
  have pc : p ≠ c := F.diff mp mc fun o h1 h2 => by
    obtain ⟨i, d, k, s, e, _⟩ := h1
    have e2 : o = _ := h2
    rw [e] at e2
    injection e2 with e2
    cases ns with
    | nil => cases e2
    | cons z zs => injection e2 with e2; cases e2
  obtain ⟨R, hR⟩ := pull2 mp mc pc
  have F1 := F.perm hR
  obtain ⟨o, ⟨i, d, kk, s, rfl, hi, hd, hs, hs2⟩, F2⟩ := F1.open_ (List.Mem.head _)
  have F3 := F2 _ .here
  have fin : ∀ (r i' d' k' s' : Int) H', 0 ≤ r → r < n → 0 ≤ i' → 0 ≤ d' → 0 ≤ s' → s' < 2147483647 → FH H' ((p, Is (.lst [.ref c, .int i', .int d', .int k', .int s'])) :: (c, Is (.lst (ns.map V.int))) :: R) → Q (.int r) H' := fun r i' d' k' s' H' h1 h2 h3 h4 h5 h6 F' =>
    k r H' h1 h2 ((F'.close (List.Mem.head _) ⟨i', d', k', s', rfl, h3, h4, h5, h6⟩ .here).perm hR.symm)
  clear k F2 F1 F mp mc hR
  refine in_draw ?_
  walk_at "y"
  all_goals
    refine fin _ _ _ _ _ _ ?_ ?_ ?_ ?_ ?_ ?_ (by assumption)
    all_goals first
      | exact Int.emod_nonneg _ (by omega)
      | exact Int.emod_lt_of_pos _ hn
      | omega
      | exact Y.getD_nn nn _
      | exact Int.ediv_nonneg (Y.getD_nn nn _) (by omega)
      | exact Int.ediv_nonneg (by omega) (by omega)

local macro_rules | `(tactic| walk_at "y spec") => `(tactic| first
  | ((with_reducible refine' draw_ok ?F ?mp ?mc ?nn ?hn ?hn2 ?_); (case F => assumption); (case mp => walk_at "y mem"); (case mc => walk_at "y mem"); (case nn => assumption); (case hn => omega); (case hn2 => omega); intro _ _ _ _ _))

theorem purse_ok {a : Cl} {H : Hp} {L : List (Addr × (HO → Prop))} {q : Addr} {ns : List Int} {Q : VK} {E : XK} (F : FH H L) (m : Src a.S L q (ns.map V.int)) (hl : ns.length ≤ 63)
    (k : ∀ (p c : Addr) (ms : List Int) (H' : Hp), (∀ n ∈ ms, 0 ≤ n) → FH H' ((p, PurseO c) :: (c, Is (.lst (ms.map V.int))) :: L) → Q (.ref p) H') : sp_purse a [.ref q] H Q E := by
  have go : ∀ p' H', FH H' ((p', Is (.lst (cutV (ns.map V.int) none (some 63)))) :: L) → LcS a.S (gName 2) tYes (tIf (tTest (tOp rGe (tVar 2) (tC (.int 0)))) (tVar 2) (tOp rSub (tUn rNeg (tC (.int 1))) (tVar 2))) [2] (fun x H1 => gName 1 x [some (.ref q), none, none, none, none] H1 (tSeq (tAsg (tC (.int 0)) (gName 3))
    (tSeq (sFor a.S (tVar 1) (gName 4) (tAsg (tOp rMod (tCB rInt (tCons (tOp rAdd (tOp rAdd (tOp rMul (tVar 3) (tC (.int 48271))) (tVar 4)) (tC (.int 1))) tNil)) (tC (.int 2147483647))) (gName 3)))
    (tRet (tLst (tCons (tVar 1) (tCons (tC (.int 0)) (tCons (tC (.int 0)) (tCons (tC (.int 0)) (tCons (tVar 3) tNil)))))))) ⟨fun _ H' => Q .non H', Q, fun _ _ => False, fun _ _ => False⟩)) (.ref p') [some (.ref q), none, none, none, none] H' := by
    intro p' H' F'
    rw [show (63 : Int) = ((63 : Nat) : Int) from rfl, cutV_take (by rw [List.length_map]; exact hl)] at F'
    refine lcII (σw := [some (.ref q), none, none, none, none]) (fun i => if 0 ≤ i then i else -1 - i) F' (.is (List.Mem.head _)) (by omega) rfl (fun y H QX hy F' hk => ?_) fun D H' F' => ?_
    · walk_at "y"
      · rw [if_pos (by assumption)] at hk; exact hk
      · rw [if_neg (by assumption)] at hk; exact hk
    · have hn : ∀ n ∈ ns.map (fun i => if 0 ≤ i then i else -1 - i), 0 ≤ n := fun n hn => by
        obtain ⟨i, _, e⟩ := List.mem_map.mp hn
        subst e
        show 0 ≤ if 0 ≤ i then i else -1 - i
        split <;> omega
      generalize ns.map (fun i => if 0 ≤ i then i else -1 - i) = ms at F' hn
      walk_at "y"
      refine forL (fun i σ => ∃ (s : Int) (x : Option V), σ = [some (.ref q), some (.ref D), none, some (.int s), x] ∧ 0 ≤ s ∧ s < 2147483647) F' (.is (List.Mem.head _)) ⟨0, _, rfl, by decide, by decide⟩ (fun i y σ H e q F' => ?_) fun σ H q F' => ?_
      · obtain ⟨s, x, rfl, h1, h2⟩ := q
        obtain ⟨z, _, rfl⟩ : ∃ z, z ∈ ms ∧ V.int z = y := List.mem_map.mp (List.mem_of_getElem? e)
        walk_at "y"
        exact ⟨⟨_, _, rfl, Int.emod_nonneg _ (by decide), Int.emod_lt_of_pos _ (by decide)⟩, F'⟩
      · obtain ⟨s, x, rfl, h1, h2⟩ := q
        walk_at "y"
        rename_i p2 H2 _ F2
        refine k p2 D ms H2 hn ?_
        have F3 := F2.close (φ := PurseO D) (List.Mem.head _) ⟨0, 0, 0, s, rfl, by decide, by decide, h1, h2⟩ .here
        exact F3.sub (by walk_at "y sub")
  refine in_purse ?_
  rcases m with m | m | m
  all_goals
    walk_at "y"
    exact go _ _ (by assumption)

theorem is_ok {a : Cl} {H : Hp} {i j : Int} {Q : VK} {E : XK} (k : Q (.bl (decide (i = j))) H) : sp_is a [.int i, .int j] H Q E := by
  refine in_is ?_
  walk_at "y"
  exact k
local macro_rules | `(tactic| walk_at "y spec") => `(tactic| (with_reducible refine is_ok ?_))
theorem whole_ok {a : Cl} {H : Hp} {i : Int} {Q : VK} {E : XK} (k : Q (.bl true) H) : sp_is_whole a [.int i] H Q E := by
  refine in_is_whole ?_
  walk_at "y"
  exact k
local macro_rules | `(tactic| walk_at "y spec") => `(tactic| (with_reducible refine whole_ok ?_))
theorem range_ok {a : Cl} {H : Hp} {i l h : Int} {Q : VK} {E : XK} (k : Q (.bl (decide (l ≤ i ∧ i ≤ h))) H) : sp_in_range a [.int i, .int l, .int h] H Q E := by
  refine in_in_range ?_
  walk_at "y"
  · have e : decide (l ≤ i ∧ i ≤ h) = decide (i ≤ h) := by rw [Bool.eq_iff_iff]; simp; omega
    rw [e] at k; exact k
  · have e : decide (l ≤ i ∧ i ≤ h) = false := by rw [decide_eq_false_iff_not]; omega
    rw [e] at k; exact k
local macro_rules | `(tactic| walk_at "y spec") => `(tactic| (with_reducible refine range_ok ?_))
/-- the sizes -/
def Size (w : Int) : Prop := ∃ n : Nat, 6 ≤ n ∧ n ≤ 32 ∧ w = 2 ^ n
theorem Size.b {w : Int} (h : Size w) : 64 ≤ w ∧ w ≤ 4294967296 ∧ w % 2 = 0 := by
  obtain ⟨n, h1, h2, rfl⟩ := h
  have : n = 6 ∨ n = 7 ∨ n = 8 ∨ n = 9 ∨ n = 10 ∨ n = 11 ∨ n = 12 ∨ n = 13 ∨ n = 14 ∨ n = 15 ∨ n = 16 ∨ n = 17 ∨ n = 18 ∨ n = 19 ∨ n = 20 ∨ n = 21 ∨ n = 22 ∨ n = 23 ∨ n = 24 ∨ n = 25 ∨ n = 26 ∨ n = 27 ∨ n = 28 ∨ n = 29 ∨ n = 30 ∨ n = 31 ∨ n = 32 := by omega
  rcases this with rfl | rfl | rfl | rfl | rfl | rfl | rfl | rfl | rfl | rfl | rfl | rfl | rfl | rfl | rfl | rfl | rfl | rfl | rfl | rfl | rfl | rfl | rfl | rfl | rfl | rfl | rfl <;> decide
theorem Size.and {w : Int} (h : Size w) : Builtin.bitAnd w (w - 1) = 0 := by
  obtain ⟨n, h1, h2, rfl⟩ := h
  have : n = 6 ∨ n = 7 ∨ n = 8 ∨ n = 9 ∨ n = 10 ∨ n = 11 ∨ n = 12 ∨ n = 13 ∨ n = 14 ∨ n = 15 ∨ n = 16 ∨ n = 17 ∨ n = 18 ∨ n = 19 ∨ n = 20 ∨ n = 21 ∨ n = 22 ∨ n = 23 ∨ n = 24 ∨ n = 25 ∨ n = 26 ∨ n = 27 ∨ n = 28 ∨ n = 29 ∨ n = 30 ∨ n = 31 ∨ n = 32 := by omega
  rcases this with rfl | rfl | rfl | rfl | rfl | rfl | rfl | rfl | rfl | rfl | rfl | rfl | rfl | rfl | rfl | rfl | rfl | rfl | rfl | rfl | rfl | rfl | rfl | rfl | rfl | rfl | rfl <;> decide +kernel
theorem width_ok {a : Cl} {H : Hp} {b : Int} {Q : VK} {E : XK} (h1 : 6 ≤ b) (h2 : b ≤ 32) (k : Size (2 ^ b.toNat) → Q (.int (2 ^ b.toNat)) H) : sp_width a [.int b] H Q E := by
  refine in_width ?_
  walk_at "y"
  refine forG (fun i σ H' => H' = H ∧ ∃ x, σ = [some (.int b), some (.int (2 ^ i)), x]) (by omega) (by omega) ⟨rfl, _, rfl⟩ (fun i σ H' hi q => ?_) fun σ H' q => ?_
  · obtain ⟨rfl, x, rfl⟩ := q
    walk_at "y"
    exact ⟨rfl, _, by rw [Int.pow_succ]⟩
  · obtain ⟨rfl, x, rfl⟩ := q
    walk_at "y"
    exact k ⟨b.toNat, by omega, by omega, rfl⟩
/-- a ring of size w -/
abbrev ringF (w : Int) : List (Str × V) := [("size", .int w)]
theorem init_ok {a : Cl} {H : Hp} {L L' : List (Addr × (HO → Prop))} {r dx : Addr} {w : Int} {Q : VK} {E : XK} (F : FH H L) (m : (r, Is (.ins a.c_Ring dx [])) ∈ L) (hw : Size w) (pu : Put r (Is (.ins a.c_Ring dx (ringF w))) L L') (k : ∀ H', FH H' L' → Q .non H') :
    sp_Ring___init__ a [.ref r, .int w] H Q E := by
  obtain ⟨h1, h2, _⟩ := hw.b
  have h3 := hw.and
  refine in_Ring___init__ ?_
  walk_at "y"
  exact k _ (by assumption)

local macro_rules | `(tactic| walk_at "y spec") => `(tactic| first
  | ((with_reducible refine' draw_ok ?F ?mp ?mc ?nn ?hn ?hn2 ?_); (case F => assumption); (case mp => walk_at "y mem"); (case mc => walk_at "y mem"); (case nn => assumption); (case hn => omega); (case hn2 => omega); intro _ _ _ _ _)
  | ((with_reducible refine is_ok ?_))
  | ((with_reducible refine whole_ok ?_))
  | ((with_reducible refine range_ok ?_))
  | ((with_reducible refine' width_ok ?h1 ?h2 ?_); (case h1 => omega); (case h2 => omega); intro _)
  | ((with_reducible refine' init_ok ?F ?m ?hw ?pu ?_); (case F => assumption); (case m => walk_at "y mem"); (case hw => assumption); (case pu => walk_at "y put"); intro _ _))

theorem wrap_ok {a : Cl} {H : Hp} {L : List (Addr × (HO → Prop))} {r dx : Addr} {w i : Int} {Q : VK} {E : XK} (F : FH H L) (m : (r, Is (.ins a.c_Ring dx (ringF w))) ∈ L) (hw : 0 < w) (k : 0 ≤ i % w → i % w < w → Q (.int (i % w)) H) : sp_Ring_wrap a [.ref r, .int i] H Q E := by
  refine in_Ring_wrap ?_
  walk_at "y"
  · exact k (Int.emod_nonneg _ (by omega)) (Int.emod_lt_of_pos _ hw)
theorem has_ok {a : Cl} {H : Hp} {L : List (Addr × (HO → Prop))} {r dx : Addr} {w i : Int} {Q : VK} {E : XK} (F : FH H L) (m : (r, Is (.ins a.c_Ring dx (ringF w))) ∈ L) (k : Q (.bl (decide (0 ≤ i ∧ i ≤ w - 1))) H) : sp_Ring___contains__ a [.ref r, .int i] H Q E := by
  refine in_Ring___contains__ ?_
  walk_at "y"
  · exact k

local macro_rules | `(tactic| walk_at "y spec") => `(tactic| first
  | ((with_reducible refine' draw_ok ?F ?mp ?mc ?nn ?hn ?hn2 ?_); (case F => assumption); (case mp => walk_at "y mem"); (case mc => walk_at "y mem"); (case nn => assumption); (case hn => omega); (case hn2 => omega); intro _ _ _ _ _)
  | ((with_reducible refine is_ok ?_))
  | ((with_reducible refine whole_ok ?_))
  | ((with_reducible refine range_ok ?_))
  | ((with_reducible refine' width_ok ?h1 ?h2 ?_); (case h1 => omega); (case h2 => omega); intro _)
  | ((with_reducible refine' init_ok ?F ?m ?hw ?pu ?_); (case F => assumption); (case m => walk_at "y mem"); (case hw => assumption); (case pu => walk_at "y put"); intro _ _)
  | ((with_reducible refine' wrap_ok ?F ?m ?hw ?_); (case F => assumption); (case m => walk_at "y mem"); (case hw => omega); intro _ _)
  | ((with_reducible refine' has_ok ?F ?m ?_); (case F => assumption); (case m => walk_at "y mem")))

theorem gap_ok {a : Cl} {H : Hp} {L : List (Addr × (HO → Prop))} {r dx : Addr} {w l h : Int} {Q : VK} {E : XK} (F : FH H L) (m : (r, Is (.ins a.c_Ring dx (ringF w))) ∈ L) (hl : 0 ≤ l) (hl2 : l < w) (hh : 0 ≤ h) (hh2 : h < w) (k : ∀ H', FH H' L → Q (.int ((h - l) % w)) H') : sp_Ring_gap a [.ref r, .int l, .int h] H Q E := by
  refine in_Ring_gap ?_
  walk_at "y"
  rename_i F' _ _
  exact k _ F'.tail
theorem truth_ok {a : Cl} {H : Hp} {b c : Bool} {Q : VK} {E : XK} (k : Q (.bl (decide (b = c))) H) : sp_truth a [.bl b, .bl c] H Q E := by
  refine in_truth ?_
  walk_at "y"
  exact k
theorem truth_pp {a : Cl} {H : Hp} {P P' : Prop} [Decidable P] [Decidable P'] {Q : VK} {E : XK} (k : Q (.bl (decide (P ↔ P'))) H) : sp_truth a [.bl (decide P), .bl (decide P')] H Q E := by
  refine truth_ok ?_
  have e : decide (decide P = decide P') = decide (P ↔ P') := by rw [Bool.eq_iff_iff]; simp
  rw [e]; exact k
theorem truth_pf {a : Cl} {H : Hp} {P : Prop} [Decidable P] {Q : VK} {E : XK} (k : Q (.bl (decide (¬ P))) H) : sp_truth a [.bl (decide P), .bl false] H Q E := by
  refine truth_ok ?_
  have e : decide (decide P = false) = decide (¬ P) := by rw [Bool.eq_iff_iff]; simp
  rw [e]; exact k
theorem truth_pt {a : Cl} {H : Hp} {P : Prop} [Decidable P] {Q : VK} {E : XK} (k : Q (.bl (decide P)) H) : sp_truth a [.bl (decide P), .bl true] H Q E := by
  refine truth_ok ?_
  have e : decide (decide P = true) = decide P := by rw [Bool.eq_iff_iff]; simp
  rw [e]; exact k
theorem truth_pn {a : Cl} {H : Hp} {P P' : Prop} [Decidable P] [Decidable P'] {Q : VK} {E : XK} (k : Q (.bl (decide (P ↔ ¬ P'))) H) : sp_truth a [.bl (decide P), .bl (!decide P')] H Q E := by
  refine truth_ok ?_
  have e : decide (decide P = !decide P') = decide (P ↔ ¬ P') := by rw [Bool.eq_iff_iff]; simp
  rw [e]; exact k
/-! the arithmetic of rings -/
theorem md {x y w : Int} : (x % w - y % w) % w = (x - y) % w := (Int.sub_emod x y w).symm
theorem md_small {z w : Int} (h1 : -w < z) (h2 : z < w) : z % w = if 0 ≤ z then z else z + w := by
  split
  · exact Int.emod_eq_of_lt (by omega) h2
  · rw [← Int.add_emod_right]
    exact Int.emod_eq_of_lt (by omega) (by omega)
theorem un_diff {l c w : Int} : (l + (c - l) % w - c) % w = 0 := by
  have e1 : l + (c - l) % w - c = w * (-((c - l) / w)) := by
    have := Int.mul_ediv_add_emod (c - l) w
    rw [Int.mul_neg]
    omega
  rw [e1, Int.mul_emod_right]
/-- the gap, in cases -/
theorem gap_cases {l h w : Int} (hl : 0 ≤ l) (hl2 : l < w) (hh : 0 ≤ h) (hh2 : h < w) : (h - l) % w = if l ≤ h then h - l else h - l + w := by
  rw [md_small (by omega) (by omega)]
  by_cases e : l ≤ h
  · rw [if_pos (by omega), if_pos e]
  · rw [if_neg (by omega), if_neg e]
theorem code_ok {a : Cl} {H : Hp} {L : List (Addr × (HO → Prop))} {p c : Addr} {ns : List Int} {w o : Int} {Q : VK} {E : XK} (F : FH H L) (mp : (p, PurseO c) ∈ L) (mc : (c, Is (.lst (ns.map V.int))) ∈ L) (nn : ∀ n ∈ ns, 0 ≤ n) (hw : 0 < w) (hw2 : w ≤ 4294967296) (ho : 0 ≤ o) (ho2 : o < w)
    (k : ∀ r H', 0 ≤ r → r < w → FH H' L → Q (.int r) H') : sp_code a [.ref p, .int w, .int o] H Q E := by
  refine in_code ?_
  walk_at "y"
  all_goals first
    | exact k _ _ (by omega) (by omega) (by assumption)
    | exact k _ _ (Int.emod_nonneg _ (by omega)) (Int.emod_lt_of_pos _ (by omega)) (by assumption)

local macro_rules | `(tactic| walk_at "y spec") => `(tactic| first
  | ((with_reducible refine' draw_ok ?F ?mp ?mc ?nn ?hn ?hn2 ?_); (case F => assumption); (case mp => walk_at "y mem"); (case mc => walk_at "y mem"); (case nn => assumption); (case hn => omega); (case hn2 => omega); intro _ _ _ _ _)
  | ((with_reducible refine is_ok ?_))
  | ((with_reducible refine whole_ok ?_))
  | ((with_reducible refine range_ok ?_))
  | ((with_reducible refine' width_ok ?h1 ?h2 ?_); (case h1 => omega); (case h2 => omega); intro _)
  | ((with_reducible refine' init_ok ?F ?m ?hw ?pu ?_); (case F => assumption); (case m => walk_at "y mem"); (case hw => assumption); (case pu => walk_at "y put"); intro _ _)
  | ((with_reducible refine' wrap_ok ?F ?m ?hw ?_); (case F => assumption); (case m => walk_at "y mem"); (case hw => omega); intro _ _)
  | ((with_reducible refine' has_ok ?F ?m ?_); (case F => assumption); (case m => walk_at "y mem"))
  | ((with_reducible refine' gap_ok ?F ?m ?hl ?hl2 ?hh ?hh2 ?_); (case F => assumption); (case m => walk_at "y mem"); (case hl => omega); (case hl2 => omega); (case hh => omega); (case hh2 => omega); intro _ _)
  | ((with_reducible refine truth_pf ?_))
  | ((with_reducible refine truth_pt ?_))
  | ((with_reducible refine truth_pp ?_))
  | ((with_reducible refine truth_pn ?_))
  | ((with_reducible refine truth_ok ?_)))

theorem before_ok {a : Cl} {H : Hp} {L : List (Addr × (HO → Prop))} {r dx : Addr} {w l h : Int} {Q : VK} {E : XK} (F : FH H L) (m : (r, Is (.ins a.c_Ring dx (ringF w))) ∈ L) (hl : 0 ≤ l) (hl2 : l < w) (hh : 0 ≤ h) (hh2 : h < w)
    (k : ∀ H', FH H' L → Q (.bl (decide (1 ≤ (h - l) % w ∧ (h - l) % w < w / 2))) H') : sp_Ring_before a [.ref r, .int l, .int h] H Q E := by
  refine in_Ring_before ?_
  walk_at "y"
  · have e : decide (1 ≤ (h - l) % w ∧ (h - l) % w < w / 2) = decide ((h - l) % w < w / 2) := by rw [Bool.eq_iff_iff]; simp; omega
    rw [← e]; exact k _ (by assumption)
  · have e : decide (1 ≤ (h - l) % w ∧ (h - l) % w < w / 2) = false := by rw [decide_eq_false_iff_not]; omega
    rw [← e]; exact k _ (by assumption)
theorem within_ok {a : Cl} {H : Hp} {L : List (Addr × (HO → Prop))} {r dx : Addr} {w l c h : Int} {Q : VK} {E : XK} (F : FH H L) (m : (r, Is (.ins a.c_Ring dx (ringF w))) ∈ L) (hl : 0 ≤ l) (hl2 : l < w) (hc : 0 ≤ c) (hc2 : c < w) (hh : 0 ≤ h) (hh2 : h < w)
    (k : ∀ H', FH H' L → Q (.bl (decide ((c - l) % w < (h - l) % w))) H') : sp_Ring_within a [.ref r, .int l, .int c, .int h] H Q E := by
  refine in_Ring_within ?_
  walk_at "y"
  exact k _ (by assumption)
theorem ud {x d w : Int} : ((x + d) % w - x % w) % w = d % w := by rw [md, Int.add_comm, Int.add_sub_cancel]
theorem dn {x d w : Int} : (x % w - (x + d) % w) % w = (-d) % w := by rw [md]; congr 1; omega
theorem mb (x : Int) {w : Int} (hw : 0 < w) : 0 ≤ x % w ∧ x % w < w := ⟨Int.emod_nonneg _ (by omega), Int.emod_lt_of_pos _ hw⟩
theorem before_up {a : Cl} {H : Hp} {L : List (Addr × (HO → Prop))} {r dx : Addr} {w x d : Int} {Q : VK} {E : XK} (F : FH H L) (m : (r, Is (.ins a.c_Ring dx (ringF w))) ∈ L) (hw : 0 < w) (he : w % 2 = 0) (h1 : -(w / 2) < d) (h2 : d < w / 2)
    (k : ∀ H', FH H' L → Q (.bl (decide (0 < d))) H') : sp_Ring_before a [.ref r, .int (x % w), .int ((x + d) % w)] H Q E := by
  have b1 := mb x hw
  have b2 := mb (x + d) hw
  refine before_ok F m b1.1 b1.2 b2.1 b2.2 fun H' F' => ?_
  have e : decide (1 ≤ ((x + d) % w - x % w) % w ∧ ((x + d) % w - x % w) % w < w / 2) = decide (0 < d) := by
    rw [ud, md_small (by omega) (by omega), decide_eq_decide]
    split <;> omega
  rw [e]
  exact k H' F'
theorem before_dn {a : Cl} {H : Hp} {L : List (Addr × (HO → Prop))} {r dx : Addr} {w x d : Int} {Q : VK} {E : XK} (F : FH H L) (m : (r, Is (.ins a.c_Ring dx (ringF w))) ∈ L) (hw : 0 < w) (he : w % 2 = 0) (h1 : -(w / 2) < d) (h2 : d < w / 2)
    (k : ∀ H', FH H' L → Q (.bl (decide (d < 0))) H') : sp_Ring_before a [.ref r, .int ((x + d) % w), .int (x % w)] H Q E := by
  have b1 := mb x hw
  have b2 := mb (x + d) hw
  refine before_ok F m b2.1 b2.2 b1.1 b1.2 fun H' F' => ?_
  have e : decide (1 ≤ (x % w - (x + d) % w) % w ∧ (x % w - (x + d) % w) % w < w / 2) = decide (d < 0) := by
    rw [dn, md_small (by omega) (by omega), decide_eq_decide]
    split <;> omega
  rw [e]
  exact k H' F'
theorem gap_up {a : Cl} {H : Hp} {L : List (Addr × (HO → Prop))} {r dx : Addr} {w x d : Int} {Q : VK} {E : XK} (F : FH H L) (m : (r, Is (.ins a.c_Ring dx (ringF w))) ∈ L) (hw : 0 < w)
    (k : ∀ H', FH H' L → Q (.int (d % w)) H') : sp_Ring_gap a [.ref r, .int (x % w), .int ((x + d) % w)] H Q E := by
  have b1 := mb x hw
  have b2 := mb (x + d) hw
  refine gap_ok F m b1.1 b1.2 b2.1 b2.2 fun H' F' => ?_
  rw [ud]
  exact k H' F'
theorem within_up {a : Cl} {H : Hp} {L : List (Addr × (HO → Prop))} {r dx : Addr} {w x c h : Int} {Q : VK} {E : XK} (F : FH H L) (m : (r, Is (.ins a.c_Ring dx (ringF w))) ∈ L) (hw : 0 < w) (hc : 0 ≤ c) (hc2 : c < w) (hh : 0 ≤ h) (hh2 : h < w)
    (k : ∀ H', FH H' L → Q (.bl (decide (c < h))) H') : sp_Ring_within a [.ref r, .int (x % w), .int ((x + c) % w), .int ((x + h) % w)] H Q E := by
  have b1 := mb x hw
  have b2 := mb (x + c) hw
  have b3 := mb (x + h) hw
  refine within_ok F m b1.1 b1.2 b2.1 b2.2 b3.1 b3.2 fun H' F' => ?_
  rw [ud, ud, Int.emod_eq_of_lt hc hc2, Int.emod_eq_of_lt hh hh2]
  exact k H' F'

local macro_rules | `(tactic| walk_at "y spec") => `(tactic| first
  | ((with_reducible refine' gap_up ?F ?m ?hw ?_); (case F => assumption); (case m => walk_at "y mem"); (case hw => omega); intro _ _)
  | ((with_reducible refine' draw_ok ?F ?mp ?mc ?nn ?hn ?hn2 ?_); (case F => assumption); (case mp => walk_at "y mem"); (case mc => walk_at "y mem"); (case nn => assumption); (case hn => omega); (case hn2 => omega); intro _ _ _ _ _)
  | ((with_reducible refine is_ok ?_))
  | ((with_reducible refine whole_ok ?_))
  | ((with_reducible refine range_ok ?_))
  | ((with_reducible refine' width_ok ?h1 ?h2 ?_); (case h1 => omega); (case h2 => omega); intro _)
  | ((with_reducible refine' init_ok ?F ?m ?hw ?pu ?_); (case F => assumption); (case m => walk_at "y mem"); (case hw => assumption); (case pu => walk_at "y put"); intro _ _)
  | ((with_reducible refine' wrap_ok ?F ?m ?hw ?_); (case F => assumption); (case m => walk_at "y mem"); (case hw => omega); intro _ _)
  | ((with_reducible refine' has_ok ?F ?m ?_); (case F => assumption); (case m => walk_at "y mem"))
  | ((with_reducible refine' gap_ok ?F ?m ?hl ?hl2 ?hh ?hh2 ?_); (case F => assumption); (case m => walk_at "y mem"); (case hl => omega); (case hl2 => omega); (case hh => omega); (case hh2 => omega); intro _ _)
  | ((with_reducible refine truth_pf ?_))
  | ((with_reducible refine truth_pt ?_))
  | ((with_reducible refine truth_pp ?_))
  | ((with_reducible refine truth_pn ?_))
  | ((with_reducible refine truth_ok ?_))
  | ((with_reducible refine' before_up ?F ?m ?hw ?he ?h1 ?h2 ?_); (case F => assumption); (case m => walk_at "y mem"); (case hw => omega); (case he => omega); (case h1 => omega); (case h2 => omega); intro _ _)
  | ((with_reducible refine' before_dn ?F ?m ?hw ?he ?h1 ?h2 ?_); (case F => assumption); (case m => walk_at "y mem"); (case hw => omega); (case he => omega); (case h1 => omega); (case h2 => omega); intro _ _)
  | ((with_reducible refine' within_up ?F ?m ?hw ?hc ?hc2 ?hh ?hh2 ?_); (case F => assumption); (case m => walk_at "y mem"); (case hw => omega); (case hc => omega); (case hc2 => omega); (case hh => omega); (case hh2 => omega); intro _ _)
  | ((with_reducible refine' before_ok ?F ?m ?hl ?hl2 ?hh ?hh2 ?_); (case F => assumption); (case m => walk_at "y mem"); (case hl => omega); (case hl2 => omega); (case hh => omega); (case hh2 => omega); intro _ _)
  | ((with_reducible refine' within_ok ?F ?m ?hl ?hl2 ?hc ?hc2 ?hh ?hh2 ?_); (case F => assumption); (case m => walk_at "y mem"); (case hl => omega); (case hl2 => omega); (case hc => omega); (case hc2 => omega); (case hh => omega); (case hh2 => omega); intro _ _)
  | ((with_reducible refine' code_ok ?F ?mp ?mc ?nn ?hw ?hw2 ?ho ?ho2 ?_); (case F => assumption); (case mp => walk_at "y mem"); (case mc => walk_at "y mem"); (case nn => assumption); (case hw => omega); (case hw2 => omega); (case ho => omega); (case ho2 => omega); intro _ _ _ _ _))

theorem pair_ok {a : Cl} {H : Hp} {L : List (Addr × (HO → Prop))} {r dx : Addr} {w l h : Int} {Q : VK} {E : XK} (F : FH H L) (m : (r, Is (.ins a.c_Ring dx (ringF w))) ∈ L) (he : w % 2 = 0) (hl : 0 ≤ l) (hl2 : l < w) (hh : 0 ≤ h) (hh2 : h < w)
    (k : ∀ H', FH H' L → Q (.bl true) H') : sp_pair a [.ref r, .int w, .int l, .int h] H Q E := by
  have e1 := Int.emod_nonneg (h - l) (show w ≠ 0 by omega)
  have e2 := Int.emod_lt_of_pos (h - l) (show 0 < w by omega)
  have e3 := un_diff (l := l) (c := h) (w := w)
  have g1 := gap_cases hl hl2 hh hh2
  have g2 := gap_cases hh hh2 hl hl2
  have e4 : (l - h) % w = (w - (h - l) % w) % w := by
    by_cases z : (h - l) % w = 0
    · rw [z, Int.sub_zero, Int.emod_self]
      split at g1 <;> split at g2 <;> omega
    · rw [Int.emod_eq_of_lt (a := w - (h - l) % w) (by omega) (by omega)]
      split at g1 <;> split at g2 <;> omega
  have e5 : (1 ≤ (l - h) % w ∧ (l - h) % w < w / 2) ↔ w / 2 < (h - l) % w := by
    split at g1 <;> split at g2 <;> omega
  refine in_pair ?_
  walk_at "y"
  all_goals
    rw [decide_eq_true e5]
    exact k _ (by assumption)
theorem triple_ok {a : Cl} {H : Hp} {L : List (Addr × (HO → Prop))} {r dx : Addr} {w l c h : Int} {Q : VK} {E : XK} (F : FH H L) (m : (r, Is (.ins a.c_Ring dx (ringF w))) ∈ L) (hl : 0 ≤ l) (hl2 : l < w) (hc : 0 ≤ c) (hc2 : c < w) (hh : 0 ≤ h) (hh2 : h < w)
    (k : ∀ H', FH H' L → Q (.bl true) H') : sp_triple a [.ref r, .int w, .int l, .int c, .int h] H Q E := by
  have g1 := gap_cases hl hl2 hh hh2
  have g2 := gap_cases hh hh2 hl hl2
  have g3 := gap_cases hl hl2 hc hc2
  have g4 := gap_cases hh hh2 hc hc2
  have e5 : l = h → ¬ (c - l) % w < (h - l) % w := fun e => by
    subst e
    rw [Int.sub_self, Int.zero_emod]
    split at g3 <;> omega
  have e6 : ¬ l = h → ((c - h) % w < (l - h) % w ↔ ¬ (c - l) % w < (h - l) % w) := fun e => by
    rw [g1, g2, g3, g4]
    repeat' split
    all_goals omega
  clear g1 g2 g3 g4
  refine in_triple ?_
  walk_at "y"
  · rw [decide_eq_false (e5 (by assumption))]
    exact k _ (by assumption)
  · rw [decide_eq_true (e6 (by assumption))]
    exact k _ (by assumption)
theorem offsets_ok {a : Cl} {H : Hp} {L : List (Addr × (HO → Prop))} {p c r dx : Addr} {ns : List Int} {w : Int} {Q : VK} {E : XK} (F : FH H L) (mp : (p, PurseO c) ∈ L) (mc : (c, Is (.lst (ns.map V.int))) ∈ L) (nn : ∀ n ∈ ns, 0 ≤ n) (m : (r, Is (.ins a.c_Ring dx (ringF w))) ∈ L) (h1 : 64 ≤ w) (h2 : w ≤ 4294967296) (he : w % 2 = 0)
    (k : ∀ H', FH H' L → Q (.bl true) H') : sp_offsets a [.ref p, .ref r, .int w] H Q E := by
  refine in_offsets ?_
  walk_at "y"
  all_goals
    rw [decide_eq_true (by omega)]
    exact k _ (by assumption)

local macro_rules | `(tactic| walk_at "y spec") => `(tactic| first
  | ((with_reducible refine' gap_up ?F ?m ?hw ?_); (case F => assumption); (case m => walk_at "y mem"); (case hw => omega); intro _ _)
  | ((with_reducible refine' draw_ok ?F ?mp ?mc ?nn ?hn ?hn2 ?_); (case F => assumption); (case mp => walk_at "y mem"); (case mc => walk_at "y mem"); (case nn => assumption); (case hn => omega); (case hn2 => omega); intro _ _ _ _ _)
  | ((with_reducible refine is_ok ?_))
  | ((with_reducible refine whole_ok ?_))
  | ((with_reducible refine range_ok ?_))
  | ((with_reducible refine' width_ok ?h1 ?h2 ?_); (case h1 => omega); (case h2 => omega); intro _)
  | ((with_reducible refine' init_ok ?F ?m ?hw ?pu ?_); (case F => assumption); (case m => walk_at "y mem"); (case hw => assumption); (case pu => walk_at "y put"); intro _ _)
  | ((with_reducible refine' wrap_ok ?F ?m ?hw ?_); (case F => assumption); (case m => walk_at "y mem"); (case hw => omega); intro _ _)
  | ((with_reducible refine' has_ok ?F ?m ?_); (case F => assumption); (case m => walk_at "y mem"))
  | ((with_reducible refine' gap_ok ?F ?m ?hl ?hl2 ?hh ?hh2 ?_); (case F => assumption); (case m => walk_at "y mem"); (case hl => omega); (case hl2 => omega); (case hh => omega); (case hh2 => omega); intro _ _)
  | ((with_reducible refine truth_pf ?_))
  | ((with_reducible refine truth_pt ?_))
  | ((with_reducible refine truth_pp ?_))
  | ((with_reducible refine truth_pn ?_))
  | ((with_reducible refine truth_ok ?_))
  | ((with_reducible refine' before_up ?F ?m ?hw ?he ?h1 ?h2 ?_); (case F => assumption); (case m => walk_at "y mem"); (case hw => omega); (case he => omega); (case h1 => omega); (case h2 => omega); intro _ _)
  | ((with_reducible refine' before_dn ?F ?m ?hw ?he ?h1 ?h2 ?_); (case F => assumption); (case m => walk_at "y mem"); (case hw => omega); (case he => omega); (case h1 => omega); (case h2 => omega); intro _ _)
  | ((with_reducible refine' within_up ?F ?m ?hw ?hc ?hc2 ?hh ?hh2 ?_); (case F => assumption); (case m => walk_at "y mem"); (case hw => omega); (case hc => omega); (case hc2 => omega); (case hh => omega); (case hh2 => omega); intro _ _)
  | ((with_reducible refine' before_ok ?F ?m ?hl ?hl2 ?hh ?hh2 ?_); (case F => assumption); (case m => walk_at "y mem"); (case hl => omega); (case hl2 => omega); (case hh => omega); (case hh2 => omega); intro _ _)
  | ((with_reducible refine' within_ok ?F ?m ?hl ?hl2 ?hc ?hc2 ?hh ?hh2 ?_); (case F => assumption); (case m => walk_at "y mem"); (case hl => omega); (case hl2 => omega); (case hc => omega); (case hc2 => omega); (case hh => omega); (case hh2 => omega); intro _ _)
  | ((with_reducible refine' code_ok ?F ?mp ?mc ?nn ?hw ?hw2 ?ho ?ho2 ?_); (case F => assumption); (case mp => walk_at "y mem"); (case mc => walk_at "y mem"); (case nn => assumption); (case hw => omega); (case hw2 => omega); (case ho => omega); (case ho2 => omega); intro _ _ _ _ _)
  | ((with_reducible refine' pair_ok ?F ?m ?he ?hl ?hl2 ?hh ?hh2 ?_); (case F => assumption); (case m => walk_at "y mem"); (case he => omega); (case hl => omega); (case hl2 => omega); (case hh => omega); (case hh2 => omega); intro _ _)
  | ((with_reducible refine' triple_ok ?F ?m ?hl ?hl2 ?hc ?hc2 ?hh ?hh2 ?_); (case F => assumption); (case m => walk_at "y mem"); (case hl => omega); (case hl2 => omega); (case hc => omega); (case hc2 => omega); (case hh => omega); (case hh2 => omega); intro _ _))

theorem walk_ok {a : Cl} {H : Hp} {L : List (Addr × (HO → Prop))} {r dx : Addr} {l c h : Int} {Q : VK} {E : XK} (F : FH H L) (m : (r, Is (.ins a.c_Ring dx (ringF 64))) ∈ L) (hl : 0 ≤ l) (hl2 : l < 64) (hc : 0 ≤ c) (hc2 : c < 64) (hh : 0 ≤ h) (hh2 : h < 64)
    (k : ∀ H', FH H' L → Q (.bl true) H') : sp_walk a [.ref r, .int l, .int c, .int h] H Q E := by
  refine in_walk ?_
  walk_at "y"
  refine forG (fun i σ H' => FH H' L ∧ (i : Int) ≤ (h - l) % 64 ∧ ∃ s t b x, s = (l + i) % 64 ∧ t = (i : Int) ∧ b = decide ((c - l) % 64 < (i : Int)) ∧ σ = [some (.ref r), some (.int l), some (.int c), some (.int h), some (.int s), some (.int t), some (.bl b), x]) (by decide) (by decide)
    ⟨F, by omega, l, 0, false, none, by omega, by omega, (decide_eq_false (by omega)).symm, rfl⟩ (fun i σ H' hi q => ?_) fun σ H' q => ?_
  · obtain ⟨F', hn, s, t, b, x, e1, e2, e3, rfl⟩ := q
    subst e3
    walk_at "y"
    · rw [decide_eq_true (by omega)]
      exact k _ (by assumption)
    · refine ⟨F', by omega, _, _, _, _, ?_, ?_, ?_, rfl⟩
      · omega
      · omega
      · exact (decide_eq_true (by omega)).symm
    · refine ⟨F', by omega, _, _, _, _, ?_, ?_, ?_, rfl⟩
      · omega
      · omega
      · rw [decide_eq_decide]; omega
  · obtain ⟨F', hn, s, t, b, x, e1, e2, e3, rfl⟩ := q
    exfalso
    have : ((64 : Int).toNat : Int) = 64 := by decide
    omega

theorem width_v {a : Cl} {H : Hp} {b : Int} {Q : VK} {E : XK} (h1 : 6 ≤ b) (h2 : b ≤ 32) (k : ∀ w, Size w → Q (.int w) H) : sp_width a [.int b] H Q E := width_ok h1 h2 fun hs => k _ hs
theorem walk_w {a : Cl} {H : Hp} {L : List (Addr × (HO → Prop))} {r dx : Addr} {w l c h : Int} {Q : VK} {E : XK} (F : FH H L) (m : (r, Is (.ins a.c_Ring dx (ringF w))) ∈ L) (e : w = 64) (hl : 0 ≤ l) (hl2 : l < w) (hc : 0 ≤ c) (hc2 : c < w) (hh : 0 ≤ h) (hh2 : h < w)
    (k : ∀ H', FH H' L → Q (.bl true) H') : sp_walk a [.ref r, .int l, .int c, .int h] H Q E := by
  subst e
  exact walk_ok F m hl hl2 hc hc2 hh hh2 k

local macro_rules | `(tactic| walk_at "y spec") => `(tactic| first
  | ((with_reducible refine' gap_up ?F ?m ?hw ?_); (case F => assumption); (case m => walk_at "y mem"); (case hw => first | omega | exact Int.emod_nonneg _ (by omega) | exact Int.emod_lt_of_pos _ (by omega)); intro _ _)
  | ((with_reducible refine' draw_ok ?F ?mp ?mc ?nn ?hn ?hn2 ?_); (case F => assumption); (case mp => walk_at "y mem"); (case mc => walk_at "y mem"); (case nn => assumption); (case hn => first | omega | exact Int.emod_nonneg _ (by omega) | exact Int.emod_lt_of_pos _ (by omega)); (case hn2 => first | omega | exact Int.emod_nonneg _ (by omega) | exact Int.emod_lt_of_pos _ (by omega)); intro _ _ _ _ _)
  | ((with_reducible refine is_ok ?_))
  | ((with_reducible refine whole_ok ?_))
  | ((with_reducible refine range_ok ?_))
  | ((with_reducible refine' width_v ?h1 ?h2 ?_); (case h1 => first | omega | exact Int.emod_nonneg _ (by omega) | exact Int.emod_lt_of_pos _ (by omega)); (case h2 => first | omega | exact Int.emod_nonneg _ (by omega) | exact Int.emod_lt_of_pos _ (by omega)); intro _ _)
  | ((with_reducible refine' init_ok ?F ?m ?hw ?pu ?_); (case F => assumption); (case m => walk_at "y mem"); (case hw => assumption); (case pu => walk_at "y put"); intro _ _)
  | ((with_reducible refine' wrap_ok ?F ?m ?hw ?_); (case F => assumption); (case m => walk_at "y mem"); (case hw => first | omega | exact Int.emod_nonneg _ (by omega) | exact Int.emod_lt_of_pos _ (by omega)); intro _ _)
  | ((with_reducible refine' has_ok ?F ?m ?_); (case F => assumption); (case m => walk_at "y mem"))
  | ((with_reducible refine' gap_ok ?F ?m ?hl ?hl2 ?hh ?hh2 ?_); (case F => assumption); (case m => walk_at "y mem"); (case hl => first | omega | exact Int.emod_nonneg _ (by omega) | exact Int.emod_lt_of_pos _ (by omega)); (case hl2 => first | omega | exact Int.emod_nonneg _ (by omega) | exact Int.emod_lt_of_pos _ (by omega)); (case hh => first | omega | exact Int.emod_nonneg _ (by omega) | exact Int.emod_lt_of_pos _ (by omega)); (case hh2 => first | omega | exact Int.emod_nonneg _ (by omega) | exact Int.emod_lt_of_pos _ (by omega)); intro _ _)
  | ((with_reducible refine truth_pf ?_))
  | ((with_reducible refine truth_pt ?_))
  | ((with_reducible refine truth_pp ?_))
  | ((with_reducible refine truth_pn ?_))
  | ((with_reducible refine truth_ok ?_))
  | ((with_reducible refine' before_up ?F ?m ?hw ?he ?h1 ?h2 ?_); (case F => assumption); (case m => walk_at "y mem"); (case hw => first | omega | exact Int.emod_nonneg _ (by omega) | exact Int.emod_lt_of_pos _ (by omega)); (case he => first | omega | exact Int.emod_nonneg _ (by omega) | exact Int.emod_lt_of_pos _ (by omega)); (case h1 => first | omega | exact Int.emod_nonneg _ (by omega) | exact Int.emod_lt_of_pos _ (by omega)); (case h2 => first | omega | exact Int.emod_nonneg _ (by omega) | exact Int.emod_lt_of_pos _ (by omega)); intro _ _)
  | ((with_reducible refine' before_dn ?F ?m ?hw ?he ?h1 ?h2 ?_); (case F => assumption); (case m => walk_at "y mem"); (case hw => first | omega | exact Int.emod_nonneg _ (by omega) | exact Int.emod_lt_of_pos _ (by omega)); (case he => first | omega | exact Int.emod_nonneg _ (by omega) | exact Int.emod_lt_of_pos _ (by omega)); (case h1 => first | omega | exact Int.emod_nonneg _ (by omega) | exact Int.emod_lt_of_pos _ (by omega)); (case h2 => first | omega | exact Int.emod_nonneg _ (by omega) | exact Int.emod_lt_of_pos _ (by omega)); intro _ _)
  | ((with_reducible refine' within_up ?F ?m ?hw ?hc ?hc2 ?hh ?hh2 ?_); (case F => assumption); (case m => walk_at "y mem"); (case hw => first | omega | exact Int.emod_nonneg _ (by omega) | exact Int.emod_lt_of_pos _ (by omega)); (case hc => first | omega | exact Int.emod_nonneg _ (by omega) | exact Int.emod_lt_of_pos _ (by omega)); (case hc2 => first | omega | exact Int.emod_nonneg _ (by omega) | exact Int.emod_lt_of_pos _ (by omega)); (case hh => first | omega | exact Int.emod_nonneg _ (by omega) | exact Int.emod_lt_of_pos _ (by omega)); (case hh2 => first | omega | exact Int.emod_nonneg _ (by omega) | exact Int.emod_lt_of_pos _ (by omega)); intro _ _)
  | ((with_reducible refine' before_ok ?F ?m ?hl ?hl2 ?hh ?hh2 ?_); (case F => assumption); (case m => walk_at "y mem"); (case hl => first | omega | exact Int.emod_nonneg _ (by omega) | exact Int.emod_lt_of_pos _ (by omega)); (case hl2 => first | omega | exact Int.emod_nonneg _ (by omega) | exact Int.emod_lt_of_pos _ (by omega)); (case hh => first | omega | exact Int.emod_nonneg _ (by omega) | exact Int.emod_lt_of_pos _ (by omega)); (case hh2 => first | omega | exact Int.emod_nonneg _ (by omega) | exact Int.emod_lt_of_pos _ (by omega)); intro _ _)
  | ((with_reducible refine' within_ok ?F ?m ?hl ?hl2 ?hc ?hc2 ?hh ?hh2 ?_); (case F => assumption); (case m => walk_at "y mem"); (case hl => first | omega | exact Int.emod_nonneg _ (by omega) | exact Int.emod_lt_of_pos _ (by omega)); (case hl2 => first | omega | exact Int.emod_nonneg _ (by omega) | exact Int.emod_lt_of_pos _ (by omega)); (case hc => first | omega | exact Int.emod_nonneg _ (by omega) | exact Int.emod_lt_of_pos _ (by omega)); (case hc2 => first | omega | exact Int.emod_nonneg _ (by omega) | exact Int.emod_lt_of_pos _ (by omega)); (case hh => first | omega | exact Int.emod_nonneg _ (by omega) | exact Int.emod_lt_of_pos _ (by omega)); (case hh2 => first | omega | exact Int.emod_nonneg _ (by omega) | exact Int.emod_lt_of_pos _ (by omega)); intro _ _)
  | ((with_reducible refine' code_ok ?F ?mp ?mc ?nn ?hw ?hw2 ?ho ?ho2 ?_); (case F => assumption); (case mp => walk_at "y mem"); (case mc => walk_at "y mem"); (case nn => assumption); (case hw => first | omega | exact Int.emod_nonneg _ (by omega) | exact Int.emod_lt_of_pos _ (by omega)); (case hw2 => first | omega | exact Int.emod_nonneg _ (by omega) | exact Int.emod_lt_of_pos _ (by omega)); (case ho => first | omega | exact Int.emod_nonneg _ (by omega) | exact Int.emod_lt_of_pos _ (by omega)); (case ho2 => first | omega | exact Int.emod_nonneg _ (by omega) | exact Int.emod_lt_of_pos _ (by omega)); intro _ _ _ _ _)
  | ((with_reducible refine' pair_ok ?F ?m ?he ?hl ?hl2 ?hh ?hh2 ?_); (case F => assumption); (case m => walk_at "y mem"); (case he => first | omega | exact Int.emod_nonneg _ (by omega) | exact Int.emod_lt_of_pos _ (by omega)); (case hl => first | omega | exact Int.emod_nonneg _ (by omega) | exact Int.emod_lt_of_pos _ (by omega)); (case hl2 => first | omega | exact Int.emod_nonneg _ (by omega) | exact Int.emod_lt_of_pos _ (by omega)); (case hh => first | omega | exact Int.emod_nonneg _ (by omega) | exact Int.emod_lt_of_pos _ (by omega)); (case hh2 => first | omega | exact Int.emod_nonneg _ (by omega) | exact Int.emod_lt_of_pos _ (by omega)); intro _ _)
  | ((with_reducible refine' triple_ok ?F ?m ?hl ?hl2 ?hc ?hc2 ?hh ?hh2 ?_); (case F => assumption); (case m => walk_at "y mem"); (case hl => first | omega | exact Int.emod_nonneg _ (by omega) | exact Int.emod_lt_of_pos _ (by omega)); (case hl2 => first | omega | exact Int.emod_nonneg _ (by omega) | exact Int.emod_lt_of_pos _ (by omega)); (case hc => first | omega | exact Int.emod_nonneg _ (by omega) | exact Int.emod_lt_of_pos _ (by omega)); (case hc2 => first | omega | exact Int.emod_nonneg _ (by omega) | exact Int.emod_lt_of_pos _ (by omega)); (case hh => first | omega | exact Int.emod_nonneg _ (by omega) | exact Int.emod_lt_of_pos _ (by omega)); (case hh2 => first | omega | exact Int.emod_nonneg _ (by omega) | exact Int.emod_lt_of_pos _ (by omega)); intro _ _)
  | ((with_reducible refine' walk_w ?F ?m ?e ?hl ?hl2 ?hc ?hc2 ?hh ?hh2 ?_); (case F => assumption); (case m => walk_at "y mem"); (case e => assumption); (case hl => first | omega | exact Int.emod_nonneg _ (by omega) | exact Int.emod_lt_of_pos _ (by omega)); (case hl2 => first | omega | exact Int.emod_nonneg _ (by omega) | exact Int.emod_lt_of_pos _ (by omega)); (case hc => first | omega | exact Int.emod_nonneg _ (by omega) | exact Int.emod_lt_of_pos _ (by omega)); (case hc2 => first | omega | exact Int.emod_nonneg _ (by omega) | exact Int.emod_lt_of_pos _ (by omega)); (case hh => first | omega | exact Int.emod_nonneg _ (by omega) | exact Int.emod_lt_of_pos _ (by omega)); (case hh2 => first | omega | exact Int.emod_nonneg _ (by omega) | exact Int.emod_lt_of_pos _ (by omega)); intro _ _)
  | ((with_reducible refine' offsets_ok ?F ?mp ?mc ?nn ?m ?h1 ?h2 ?he ?_); (case F => assumption); (case mp => walk_at "y mem"); (case mc => walk_at "y mem"); (case nn => assumption); (case m => walk_at "y mem"); (case h1 => first | omega | exact Int.emod_nonneg _ (by omega) | exact Int.emod_lt_of_pos _ (by omega)); (case h2 => first | omega | exact Int.emod_nonneg _ (by omega) | exact Int.emod_lt_of_pos _ (by omega)); (case he => first | omega | exact Int.emod_nonneg _ (by omega) | exact Int.emod_lt_of_pos _ (by omega)); intro _ _)
  | ((with_reducible refine' purse_ok ?F ?m ?hl ?_); (case F => assumption); (case m => walk_at "y src"); (case hl => assumption); intro _ _ _ _ _ _))

theorem law_ok {a : Cl} {H : Hp} {q : Addr} {ns : List Int} {L : List (Addr × (HO → Prop))} {Q : VK} {E : XK} (F : FH H L) (m : Src a.S L q (ns.map V.int)) (hl : ns.length ≤ 63) (k : ∀ H', Q (.bl true) H') : sp_law a [.ref q] H Q E := by
  refine in_law ?_
  walk_at "y"
  · rename_i p c ms H3 hn F3 r1 H4 h1 h2 F4 hr r9 H9 h8 h9 F9 w hs x dx H5 F5 H6 F6 r2 H7 h3 h4 F7
    clear F9
    clear F3 F4 F5 F6
    obtain ⟨b1, b2, b3⟩ := hs.b
    refine forG (fun i σ H => (∃ x1 x2 x3 x4 y, σ = [some (.ref q), some (.ref p), y, some (.int w), some (.ref x), x1, x2, x3, x4]) ∧ FH H ((x, Is (.ins a.c_Ring dx (ringF w))) :: (p, PurseO c) :: (c, Is (.lst (ms.map V.int))) :: L)) (by omega) (by omega) ⟨⟨_, _, _, _, _, rfl⟩, F7⟩ ?_ ?_
    · intro i σ H hi ⟨⟨x1, x2, x3, x4, y, e⟩, F⟩
      subst e
      walk_at "y"
      all_goals exact ⟨⟨_, _, _, _, _, rfl⟩, by assumption⟩
    · intro σ H ⟨⟨x1, x2, x3, x4, y, e⟩, F⟩
      subst e
      walk_at "y"
      exact k _
  · rename_i p c ms H3 hn F3 r1 H4 h1 h2 F4 hr w hs x dx H5 F5 H6 F6 r2 H7 h3 h4 F7
    clear F3 F4 F5 F6
    obtain ⟨b1, b2, b3⟩ := hs.b
    refine forG (fun i σ H => (∃ x1 x2 x3 x4 y, σ = [some (.ref q), some (.ref p), y, some (.int w), some (.ref x), x1, x2, x3, x4]) ∧ FH H ((x, Is (.ins a.c_Ring dx (ringF w))) :: (p, PurseO c) :: (c, Is (.lst (ms.map V.int))) :: L)) (by omega) (by omega) ⟨⟨_, _, _, _, _, rfl⟩, F7⟩ ?_ ?_
    · intro i σ H hi ⟨⟨x1, x2, x3, x4, y, e⟩, F⟩
      subst e
      walk_at "y"
      all_goals exact ⟨⟨_, _, _, _, _, rfl⟩, by assumption⟩
    · intro σ H ⟨⟨x1, x2, x3, x4, y, e⟩, F⟩
      subst e
      walk_at "y"
      exact k _
theorem law_holds (a : Cl) {K : PySem.W.Frag} (st : a.S = SK K) (vs : List V) (H : Hp) (Q : VK) (E : XK) (h : ∃ (p : Addr) (ns : List Int), vs = [.ref p] ∧ SqL K H p (ns.map V.int) ∧ ns.length ≤ 63 ∧ Only H ∧ ∀ H', Q (.bl true) H') : sp_law a vs H Q E := by
  obtain ⟨p, ns, rfl, hS, hl, hO, k⟩ := h
  obtain ⟨L, F, m⟩ := src_of st hS
  exact law_ok F m hl k

/-! ### the text, by places -/
abbrev top (i : Nat) : Stmt := PySem.Challenge.pw_lossway_k01_ring_orders.main.body.getD i (.Pass ⟨0, 0, 0, 0⟩)
structure Ad extends Cl where
  f_purse : Addr
  d_purse : FuncData
  f_draw : Addr
  d_draw : FuncData
  f_width : Addr
  d_width : FuncData
  f_is_whole : Addr
  d_is_whole : FuncData
  f_in_range : Addr
  d_in_range : FuncData
  f_Ring___init__ : Addr
  d_Ring___init__ : FuncData
  f_code : Addr
  d_code : FuncData
  f_Ring___contains__ : Addr
  d_Ring___contains__ : FuncData
  f_Ring_gap : Addr
  d_Ring_gap : FuncData
  f_is : Addr
  d_is : FuncData
  f_truth : Addr
  d_truth : FuncData
  f_Ring_before : Addr
  d_Ring_before : FuncData
  f_pair : Addr
  d_pair : FuncData
  f_Ring_within : Addr
  d_Ring_within : FuncData
  f_triple : Addr
  d_triple : FuncData
  f_walk : Addr
  d_walk : FuncData
  f_Ring_wrap : Addr
  d_Ring_wrap : FuncData
  f_offsets : Addr
  d_offsets : FuncData
  f_law : Addr
  d_law : FuncData
  mc_Ring : Value
structure Txt (K : PySem.W.Frag) (mg : Str → Option Value) (a : Ad) : Prop where
  st : a.S = SK K
  no_int : mg "int" = none
  mg_purse : mg "_law_purse" = some (.ref a.f_purse)
  bd_purse : Binds K a.d_purse ["_law_script"] []
  fn_purse : Fun K "_law_purse" "_law_purse" (top 11) a.f_purse a.d_purse
  no_len : mg "len" = none
  mg_draw : mg "_law_draw" = some (.ref a.f_draw)
  bd_draw : Binds K a.d_draw ["_law_purse_here", "_law_many"] []
  fn_draw : Fun K "_law_draw" "_law_draw" (top 12) a.f_draw a.d_draw
  no_range : mg "range" = none
  mg_width : mg "_law_width" = some (.ref a.f_width)
  bd_width : Binds K a.d_width ["_law_bits"] []
  fn_width : Fun K "_law_width" "_law_width" (top 15) a.f_width a.d_width
  no_isinstance : mg "isinstance" = none
  no_bool : mg "bool" = none
  mg_is_whole : mg "is_whole" = some (.ref a.f_is_whole)
  bd_is_whole : Binds K a.d_is_whole ["value"] []
  fn_is_whole : Fun K "is_whole" "is_whole" (top 6) a.f_is_whole a.d_is_whole
  mg_in_range : mg "in_range" = some (.ref a.f_in_range)
  bd_in_range : Binds K a.d_in_range ["value", "low", "high"] []
  mg_Ring : mg "Ring" = some (.ref a.c_Ring)
  cr_Ring : ClX.CRead K a.c_Ring a.mc_Ring
  cv_Ring_GREATEST : ∃ t, ClX.CVal K a.c_Ring a.mc_Ring "GREATEST" (.int 4294967296) (.int 4294967296 t)
  cv_Ring_LEAST : ∃ t, ClX.CVal K a.c_Ring a.mc_Ring "LEAST" (.int 64) (.int 64 t)
  fn_in_range : Fun K "in_range" "in_range" (top 7) a.f_in_range a.d_in_range
  cl_Ring : Cls K a.c_Ring
  na_Ring_size : NoAttr K a.c_Ring "size"
  mk_Ring : Mk K a.c_Ring a.f_Ring___init__
  bd_Ring___init__ : Binds K a.d_Ring___init__ ["self", "size"] []
  mg_code : mg "_law_code" = some (.ref a.f_code)
  bd_code : Binds K a.d_code ["_law_purse_here", "_law_width_here", "_law_other"] []
  fn_code : Fun K "_law_code" "_law_code" (top 16) a.f_code a.d_code
  mt_Ring___contains__ : Meth K a.c_Ring "__contains__" a.f_Ring___contains__
  bd_Ring___contains__ : Binds K a.d_Ring___contains__ ["self", "number"] []
  mt_Ring_gap : Meth K a.c_Ring "gap" a.f_Ring_gap
  bd_Ring_gap : Binds K a.d_Ring_gap ["self", "low", "high"] []
  mg_is : mg "_law_is" = some (.ref a.f_is)
  bd_is : Binds K a.d_is ["_law_actual", "_law_wanted"] []
  fn_is : Fun K "_law_is" "_law_is" (top 13) a.f_is a.d_is
  mg_truth : mg "_law_truth" = some (.ref a.f_truth)
  bd_truth : Binds K a.d_truth ["_law_actual", "_law_wanted"] []
  mt_Ring_before : Meth K a.c_Ring "before" a.f_Ring_before
  bd_Ring_before : Binds K a.d_Ring_before ["self", "low", "high"] []
  fn_truth : Fun K "_law_truth" "_law_truth" (top 14) a.f_truth a.d_truth
  mg_pair : mg "_law_pair" = some (.ref a.f_pair)
  bd_pair : Binds K a.d_pair ["_law_ring", "_law_width_here", "_law_low", "_law_high"] []
  fn_pair : Fun K "_law_pair" "_law_pair" (top 17) a.f_pair a.d_pair
  mt_Ring_within : Meth K a.c_Ring "within" a.f_Ring_within
  bd_Ring_within : Binds K a.d_Ring_within ["self", "low", "number", "high"] []
  mg_triple : mg "_law_triple" = some (.ref a.f_triple)
  bd_triple : Binds K a.d_triple ["_law_ring", "_law_width_here", "_law_low", "_law_code_here", "_law_high"] []
  fn_triple : Fun K "_law_triple" "_law_triple" (top 18) a.f_triple a.d_triple
  mg_walk : mg "_law_walk" = some (.ref a.f_walk)
  bd_walk : Binds K a.d_walk ["_law_ring", "_law_low", "_law_code_here", "_law_high"] []
  fn_walk : Fun K "_law_walk" "_law_walk" (top 19) a.f_walk a.d_walk
  mt_Ring_wrap : Meth K a.c_Ring "wrap" a.f_Ring_wrap
  bd_Ring_wrap : Binds K a.d_Ring_wrap ["self", "offset"] []
  mg_offsets : mg "_law_offsets" = some (.ref a.f_offsets)
  bd_offsets : Binds K a.d_offsets ["_law_purse_here", "_law_ring", "_law_width_here"] []
  fn_offsets : Fun K "_law_offsets" "_law_offsets" (top 20) a.f_offsets a.d_offsets
  fn_Ring___init__ : Fun K "__init__" "Ring.__init__" (inClass (top 9) 2) a.f_Ring___init__ a.d_Ring___init__
  fn_Ring___contains__ : Fun K "__contains__" "Ring.__contains__" (inClass (top 9) 9) a.f_Ring___contains__ a.d_Ring___contains__
  fn_Ring_gap : Fun K "gap" "Ring.gap" (inClass (top 9) 6) a.f_Ring_gap a.d_Ring_gap
  fn_Ring_before : Fun K "before" "Ring.before" (inClass (top 9) 7) a.f_Ring_before a.d_Ring_before
  fn_Ring_within : Fun K "within" "Ring.within" (inClass (top 9) 8) a.f_Ring_within a.d_Ring_within
  fn_Ring_wrap : Fun K "wrap" "Ring.wrap" (inClass (top 9) 4) a.f_Ring_wrap a.d_Ring_wrap
  fn_law : Fun K "law" "law" (top 21) a.f_law a.d_law
  bd_law : Binds K a.d_law ["_law_script"] []
  mg_law : mg "law" = some (.ref a.f_law)
section
variable {P : Program} {w : World} {K : PySem.W.Frag} {mg : Str → Option Value} {base : Heap} {a : Ad}
abbrev nm_purse : List Str := ["_law_script", "_law_cells", "_law_one", "_law_seed", "_law_cell"]
theorem sc_purse : FnScope nm_purse ["_law_script"] (defScope (top 11)) := ⟨rfl, rfl, rfl, by decide +kernel, rfl, by decide +kernel, by decide +kernel⟩
theorem ok_purse (T : Txt K mg a) : FnOk P w K mg base (L2.CX P w) 1 a.f_purse a.d_purse ["_law_script"] (sp_purse a.toCl) := by
  refine ok_body T.fn_purse sc_purse rfl rfl fun cdv A outer s H E hr => ?_
  exact (pss_cons (ps_lcSeq (i := 1) (own := [("_law_one", 2)]) T.st rfl sc_purse.nd rfl rfl (sw_true rfl rfl rfl (by decide +kernel)) (pe_slice (o_sl T.st) (pv 0) po_none (po_some pe_int)) (blkOk_by (own := [("_law_one", 2)]) (N := nm_purse) (sc := defScope (top 11)) (by decide +kernel)) ⟨fun _ _ _ _ _ => (pg_name (i := 2) sc_purse.nd rfl (by first | exact Or.inl rfl | exact Or.inr rfl)), fun _ _ _ _ _ => pts_nil, fun _ _ _ _ _ => (pe_ifExp (pt_cmpR o_ge (pv 2) pe_int (nomark _)) (pv 2) (pe_op o_sub (pe_un o_neg pe_int) (pv 2)))⟩)
    (pss_cons (ps_set (i := 3) sc_purse.nd rfl (by first | exact Or.inl rfl | exact Or.inr rfl) pe_int)
    (pss_cons (ps_forSeq T.st (passes_of rfl) rfl (pv 1) (pg_name (i := 4) sc_purse.nd rfl (by first | exact Or.inl rfl | exact Or.inr rfl)) (pss_one (ps_set (i := 3) sc_purse.nd rfl (by first | exact Or.inl rfl | exact Or.inr rfl) (pe_op o_mod (pe_callTy c_int (by rfl) T.no_int (by decide +kernel) (pa_cons (pe_op o_add (pe_op o_add (pe_op o_mul (pv 3) pe_int) (pv 4)) pe_int) pa_nil)) pe_int))))
    (pss_one (ps_ret (pe_lst (pa_cons (pv 1) (pa_cons pe_int (pa_cons pe_int (pa_cons pe_int (pa_cons (pv 3) pa_nil)))))))))))
abbrev nm_draw : List Str := ["_law_purse_here", "_law_many", "_law_digit", "_law_amount", "_law_blend"]
theorem sc_draw : FnScope nm_draw ["_law_purse_here", "_law_many"] (defScope (top 12)) := ⟨rfl, rfl, rfl, by decide +kernel, rfl, by decide +kernel, by decide +kernel⟩
theorem ok_draw (T : Txt K mg a) : FnOk P w K mg base (L2.CX P w) 1 a.f_draw a.d_draw ["_law_purse_here", "_law_many"] (sp_draw a.toCl) := by
  refine ok_body T.fn_draw sc_draw rfl rfl fun cdv A outer s H E hr => ?_
  exact (pss_cons (ps_if (PW.pt (pw_and (pt_cmpR o_eq (pe_ix (o_ix T.st) (pv 0) pe_int (fun _ _ => rfl)) pe_int (nomark _)) (pw_and (pt_cmpR o_lt (pe_ix (o_ix T.st) (pv 0) pe_int (fun _ _ => rfl)) (pe_callB (c_len T.st) (by rfl) T.no_len (by decide +kernel) (pa_cons (pe_ix (o_ix T.st) (pv 0) pe_int (fun _ _ => rfl)) pa_nil)) (nomark _)) (pw_and1 (pt_cmpR o_ge (pe_ix (o_ix T.st) (pe_ix (o_ix T.st) (pv 0) pe_int (fun _ _ => rfl)) (pe_ix (o_ix T.st) (pv 0) pe_int (fun _ _ => rfl)) (fun _ _ => rfl)) (pe_op o_pow pe_int pe_int) (nomark _)))))) (pss_cons (ps_asg (pe_ix (o_ix T.st) (pe_ix (o_ix T.st) (pv 0) pe_int (fun _ _ => rfl)) (pe_ix (o_ix T.st) (pv 0) pe_int (fun _ _ => rfl)) (fun _ _ => rfl)) (pg_sub (pv 0) pe_int set_list))
    (pss_one (ps_asg (pe_op o_add (pe_ix (o_ix T.st) (pv 0) pe_int (fun _ _ => rfl)) pe_int) (pg_sub (pv 0) pe_int set_list)))) pss_nil)
    (pss_cons (ps_if (pt_cmpR o_gt (pe_ix (o_ix T.st) (pv 0) pe_int (fun _ _ => rfl)) pe_int (nomark _)) (pss_cons (ps_set (i := 2) sc_draw.nd rfl (by first | exact Or.inl rfl | exact Or.inr rfl) (pe_op o_mod (pe_callTy c_int (by rfl) T.no_int (by decide +kernel) (pa_cons (pe_ix (o_ix T.st) (pv 0) pe_int (fun _ _ => rfl)) pa_nil)) (pv 1)))
    (pss_cons (ps_asg (pe_op o_fdiv (pe_ix (o_ix T.st) (pv 0) pe_int (fun _ _ => rfl)) (pv 1)) (pg_sub (pv 0) pe_int set_list))
    (pss_one (ps_ret (pv 2))))) pss_nil)
    (pss_cons (ps_set (i := 3) sc_draw.nd rfl (by first | exact Or.inl rfl | exact Or.inr rfl) (pe_ix (o_ix T.st) (pv 0) pe_int (fun _ _ => rfl)))
    (pss_cons (ps_if (pt_cmpR o_lt (pe_ix (o_ix T.st) (pv 0) pe_int (fun _ _ => rfl)) (pe_callB (c_len T.st) (by rfl) T.no_len (by decide +kernel) (pa_cons (pe_ix (o_ix T.st) (pv 0) pe_int (fun _ _ => rfl)) pa_nil)) (nomark _)) (pss_cons (ps_set (i := 3) sc_draw.nd rfl (by first | exact Or.inl rfl | exact Or.inr rfl) (pe_ix (o_ix T.st) (pe_ix (o_ix T.st) (pv 0) pe_int (fun _ _ => rfl)) (pe_ix (o_ix T.st) (pv 0) pe_int (fun _ _ => rfl)) (fun _ _ => rfl)))
    (pss_one (ps_asg (pe_op o_add (pe_ix (o_ix T.st) (pv 0) pe_int (fun _ _ => rfl)) pe_int) (pg_sub (pv 0) pe_int set_list)))) pss_nil)
    (pss_cons (ps_asg (pe_op o_add (pe_ix (o_ix T.st) (pv 0) pe_int (fun _ _ => rfl)) pe_int) (pg_sub (pv 0) pe_int set_list))
    (pss_cons (ps_set (i := 4) sc_draw.nd rfl (by first | exact Or.inl rfl | exact Or.inr rfl) (pe_op o_mod (pe_callTy c_int (by rfl) T.no_int (by decide +kernel) (pa_cons (pe_op o_add (pe_op o_mul (pv 3) pe_int) (pe_op o_mul (pe_ix (o_ix T.st) (pv 0) pe_int (fun _ _ => rfl)) (pe_op o_add pe_int (pe_op o_mul pe_int (pe_ix (o_ix T.st) (pv 0) pe_int (fun _ _ => rfl)))))) pa_nil)) pe_int))
    (pss_cons (ps_set (i := 4) sc_draw.nd rfl (by first | exact Or.inl rfl | exact Or.inr rfl) (pe_op o_mod (pe_callTy c_int (by rfl) T.no_int (by decide +kernel) (pa_cons (pe_op o_add (pe_op o_mul (pv 4) (pe_op o_add pe_int (pe_op o_fdiv (pv 4) pe_int))) (pe_op o_mul (pe_ix (o_ix T.st) (pv 0) pe_int (fun _ _ => rfl)) (pe_ix (o_ix T.st) (pv 0) pe_int (fun _ _ => rfl)))) pa_nil)) pe_int))
    (pss_one (ps_ret (pe_op o_mod (pe_callTy c_int (by rfl) T.no_int (by decide +kernel) (pa_cons (pe_op o_fdiv (pv 4) pe_int) pa_nil)) (pv 1)))))))))))
abbrev nm_width : List Str := ["_law_bits", "_law_width_here", "_law_k"]
theorem sc_width : FnScope nm_width ["_law_bits"] (defScope (top 15)) := ⟨rfl, rfl, rfl, by decide +kernel, rfl, by decide +kernel, by decide +kernel⟩
theorem ok_width (T : Txt K mg a) : FnOk P w K mg base (L2.CX P w) 1 a.f_width a.d_width ["_law_bits"] (sp_width a.toCl) := by
  refine ok_body T.fn_width sc_width rfl rfl fun cdv A outer s H E hr => ?_
  exact (pss_cons (ps_set (i := 1) sc_width.nd rfl (by first | exact Or.inl rfl | exact Or.inr rfl) pe_int)
    (pss_cons (ps_forR1 (passes_of rfl) rfl rfl T.no_range (pv 0) (pg_name (i := 2) sc_width.nd rfl (by first | exact Or.inl rfl | exact Or.inr rfl)) (pss_one (ps_set (i := 1) sc_width.nd rfl (by first | exact Or.inl rfl | exact Or.inr rfl) (pe_op o_mul (pv 1) pe_int))))
    (pss_one (ps_ret (pv 1)))))
abbrev nm_is_whole : List Str := ["value"]
theorem sc_is_whole : FnScope nm_is_whole ["value"] (defScope (top 6)) := ⟨rfl, rfl, rfl, by decide +kernel, rfl, by decide +kernel, by decide +kernel⟩
theorem ok_is_whole (T : Txt K mg a) : FnOk P w K mg base (L2.CX P w) 1 a.f_is_whole a.d_is_whole ["value"] (sp_is_whole a.toCl) := by
  refine ok_body T.fn_is_whole sc_is_whole rfl rfl fun cdv A outer s H E hr => ?_
  exact (pss_one (ps_ret (pe_and (pe_callB c_isi (by rfl) T.no_isinstance (by decide +kernel) (pa_cons (pv 0) (pa_cons (pe_bltn (v := .ty "int") (by rfl) T.no_int (by decide +kernel) rfl) pa_nil))) (pe_one (pe_not (pe_callB c_isi (by rfl) T.no_isinstance (by decide +kernel) (pa_cons (pv 0) (pa_cons (pe_bltn (v := .ty "bool") (by rfl) T.no_bool (by decide +kernel) rfl) pa_nil))))))))
abbrev nm_in_range : List Str := ["value", "low", "high"]
theorem sc_in_range : FnScope nm_in_range ["value", "low", "high"] (defScope (top 7)) := ⟨rfl, rfl, rfl, by decide +kernel, rfl, by decide +kernel, by decide +kernel⟩
theorem ok_in_range (T : Txt K mg a) : FnOk P w K mg base (L2.CX P w) 2 a.f_in_range a.d_in_range ["value", "low", "high"] (sp_in_range a.toCl) := by
  refine ok_body T.fn_in_range sc_in_range rfl rfl fun cdv A outer s H E hr => ?_
  exact (pss_one (ps_ret (pe_and (pe_call (ok_is_whole T) (hr.mono (by decide)) rfl T.mg_is_whole (T.fn_is_whole).kp T.bd_is_whole .nil passE (pa_cons (pv 0) pa_nil)) (pe_one (pe_chain o_le o_le (pv 1) (pv 0) (pv 2))))))
abbrev nm_Ring___init__ : List Str := ["self", "size"]
theorem sc_Ring___init__ : FnScope nm_Ring___init__ ["self", "size"] (defScope (inClass (top 9) 2)) := ⟨rfl, rfl, rfl, by decide +kernel, rfl, by decide +kernel, by decide +kernel⟩
theorem ok_Ring___init__ (T : Txt K mg a) : FnOk P w K mg base (L2.CX P w) 3 a.f_Ring___init__ a.d_Ring___init__ ["self", "size"] (sp_Ring___init__ a.toCl) := by
  obtain ⟨_, cv_Ring_GREATEST_⟩ := T.cv_Ring_GREATEST
  obtain ⟨_, cv_Ring_LEAST_⟩ := T.cv_Ring_LEAST
  refine ok_body T.fn_Ring___init__ sc_Ring___init__ rfl rfl fun cdv A outer s H E hr => ?_
  exact (pss_cons (ps_if (pt_not (pt_val (pe_call (ok_in_range T) (hr.mono (by decide)) rfl T.mg_in_range (T.fn_in_range).kp T.bd_in_range .nil passE (pa_cons (pv 1) (pa_cons (pe_clsCon T.cr_Ring cv_Ring_LEAST_ rfl T.mg_Ring) (pa_cons (pe_clsCon T.cr_Ring cv_Ring_GREATEST_ rfl T.mg_Ring) pa_nil)))))) (pss_one ps_never) pss_nil)
    (pss_cons (ps_if (pt_cmpR o_ne (pe_op o_and (pv 1) (pe_op o_sub (pv 1) pe_int)) pe_int (nomark _)) (pss_one ps_never) pss_nil)
    (pss_one (ps_setF T.cl_Ring T.na_Ring_size (pv 0) (pv 1)))))
abbrev nm_code : List Str := ["_law_purse_here", "_law_width_here", "_law_other", "_law_way", "_law_amount"]
theorem sc_code : FnScope nm_code ["_law_purse_here", "_law_width_here", "_law_other"] (defScope (top 16)) := ⟨rfl, rfl, rfl, by decide +kernel, rfl, by decide +kernel, by decide +kernel⟩
theorem ok_code (T : Txt K mg a) : FnOk P w K mg base (L2.CX P w) 2 a.f_code a.d_code ["_law_purse_here", "_law_width_here", "_law_other"] (sp_code a.toCl) := by
  refine ok_body T.fn_code sc_code rfl rfl fun cdv A outer s H E hr => ?_
  exact (pss_cons (ps_set (i := 3) sc_code.nd rfl (by first | exact Or.inl rfl | exact Or.inr rfl) (pe_call (ok_draw T) (hr.mono (by decide)) rfl T.mg_draw (T.fn_draw).kp T.bd_draw .nil passE (pa_cons (pv 0) (pa_cons pe_int pa_nil))))
    (pss_cons (ps_if (pt_cmpR o_eq (pv 3) pe_int (nomark _)) (pss_one (ps_ret (pv 2))) pss_nil)
    (pss_cons (ps_if (pt_cmpR o_eq (pv 3) pe_int (nomark _)) (pss_one (ps_ret (pe_op o_mod (pe_callTy c_int (by rfl) T.no_int (by decide +kernel) (pa_cons (pe_op o_add (pv 2) (pe_op o_fdiv (pv 1) pe_int)) pa_nil)) (pv 1)))) pss_nil)
    (pss_cons (ps_if (pt_cmpR o_eq (pv 3) pe_int (nomark _)) (pss_one (ps_ret (pe_op o_mod (pe_callTy c_int (by rfl) T.no_int (by decide +kernel) (pa_cons (pe_op o_sub (pe_op o_add (pe_op o_add (pv 2) (pe_op o_fdiv (pv 1) pe_int)) (pe_call (ok_draw T) (hr.mono (by decide)) rfl T.mg_draw (T.fn_draw).kp T.bd_draw .nil passE (pa_cons (pv 0) (pa_cons pe_int pa_nil)))) pe_int) pa_nil)) (pv 1)))) pss_nil)
    (pss_cons (ps_if (pt_cmpR o_eq (pv 3) pe_int (nomark _)) (pss_one (ps_ret (pe_op o_mod (pe_callTy c_int (by rfl) T.no_int (by decide +kernel) (pa_cons (pe_op o_sub (pe_op o_add (pv 2) (pe_call (ok_draw T) (hr.mono (by decide)) rfl T.mg_draw (T.fn_draw).kp T.bd_draw .nil passE (pa_cons (pv 0) (pa_cons pe_int pa_nil)))) pe_int) pa_nil)) (pv 1)))) pss_nil)
    (pss_cons (ps_set (i := 4) sc_code.nd rfl (by first | exact Or.inl rfl | exact Or.inr rfl) (pe_op o_add (pe_op o_mul (pe_call (ok_draw T) (hr.mono (by decide)) rfl T.mg_draw (T.fn_draw).kp T.bd_draw .nil passE (pa_cons (pv 0) (pa_cons pe_int pa_nil))) pe_int) (pe_call (ok_draw T) (hr.mono (by decide)) rfl T.mg_draw (T.fn_draw).kp T.bd_draw .nil passE (pa_cons (pv 0) (pa_cons pe_int pa_nil)))))
    (pss_one (ps_ret (pe_op o_mod (pe_callTy c_int (by rfl) T.no_int (by decide +kernel) (pa_cons (pv 4) pa_nil)) (pv 1))))))))))
abbrev nm_Ring___contains__ : List Str := ["self", "number"]
theorem sc_Ring___contains__ : FnScope nm_Ring___contains__ ["self", "number"] (defScope (inClass (top 9) 9)) := ⟨rfl, rfl, rfl, by decide +kernel, rfl, by decide +kernel, by decide +kernel⟩
theorem ok_Ring___contains__ (T : Txt K mg a) : FnOk P w K mg base (L2.CX P w) 3 a.f_Ring___contains__ a.d_Ring___contains__ ["self", "number"] (sp_Ring___contains__ a.toCl) := by
  refine ok_body T.fn_Ring___contains__ sc_Ring___contains__ rfl rfl fun cdv A outer s H E hr => ?_
  exact (pss_one (ps_ret (pe_call (ok_in_range T) (hr.mono (by decide)) rfl T.mg_in_range (T.fn_in_range).kp T.bd_in_range .nil passE (pa_cons (pv 1) (pa_cons pe_int (pa_cons (pe_op o_sub (pe_fldC T.cl_Ring T.na_Ring_size (pv 0)) pe_int) pa_nil))))))
abbrev nm_Ring_gap : List Str := ["self", "low", "high", "number"]
theorem sc_Ring_gap : FnScope nm_Ring_gap ["self", "low", "high"] (defScope (inClass (top 9) 6)) := ⟨rfl, rfl, rfl, by decide +kernel, rfl, by decide +kernel, by decide +kernel⟩
theorem ok_Ring_gap (T : Txt K mg a) : FnOk P w K mg base (L2.CX P w) 4 a.f_Ring_gap a.d_Ring_gap ["self", "low", "high"] (sp_Ring_gap a.toCl) := by
  refine ok_body T.fn_Ring_gap sc_Ring_gap rfl rfl fun cdv A outer s H E hr => ?_
  exact (pss_cons (ps_forSeq T.st (passes_of rfl) rfl (pe_tup (pa_cons (pv 1) (pa_cons (pv 2) pa_nil))) (pg_name (i := 3) sc_Ring_gap.nd rfl (by first | exact Or.inl rfl | exact Or.inr rfl)) (pss_one (ps_if (pt_cmpR (o_notInOwn (ok_Ring___contains__ T) T.mt_Ring___contains__ (hr.mono (by decide)) T.bd_Ring___contains__ passE) (pv 3) (pv 0) rfl) (pss_one ps_never) pss_nil)))
    (pss_one (ps_ret (pe_op o_mod (pe_op o_sub (pv 2) (pv 1)) (pe_fldC T.cl_Ring T.na_Ring_size (pv 0))))))
abbrev nm_is : List Str := ["_law_actual", "_law_wanted"]
theorem sc_is : FnScope nm_is ["_law_actual", "_law_wanted"] (defScope (top 13)) := ⟨rfl, rfl, rfl, by decide +kernel, rfl, by decide +kernel, by decide +kernel⟩
theorem ok_is (T : Txt K mg a) : FnOk P w K mg base (L2.CX P w) 1 a.f_is a.d_is ["_law_actual", "_law_wanted"] (sp_is a.toCl) := by
  refine ok_body T.fn_is sc_is rfl rfl fun cdv A outer s H E hr => ?_
  exact (pss_one (ps_ret (pe_and (pe_callB c_isi (by rfl) T.no_isinstance (by decide +kernel) (pa_cons (pv 0) (pa_cons (pe_bltn (v := .ty "int") (by rfl) T.no_int (by decide +kernel) rfl) pa_nil))) (pe_and (pe_not (pe_callB c_isi (by rfl) T.no_isinstance (by decide +kernel) (pa_cons (pv 0) (pa_cons (pe_bltn (v := .ty "bool") (by rfl) T.no_bool (by decide +kernel) rfl) pa_nil)))) (pe_one (pe_cmpR o_eq (pv 0) (pv 1) (nomark _)))))))
abbrev nm_truth : List Str := ["_law_actual", "_law_wanted"]
theorem sc_truth : FnScope nm_truth ["_law_actual", "_law_wanted"] (defScope (top 14)) := ⟨rfl, rfl, rfl, by decide +kernel, rfl, by decide +kernel, by decide +kernel⟩
theorem ok_truth (T : Txt K mg a) : FnOk P w K mg base (L2.CX P w) 1 a.f_truth a.d_truth ["_law_actual", "_law_wanted"] (sp_truth a.toCl) := by
  refine ok_body T.fn_truth sc_truth rfl rfl fun cdv A outer s H E hr => ?_
  exact (pss_one (ps_ret (pe_and (pe_callB c_isi (by rfl) T.no_isinstance (by decide +kernel) (pa_cons (pv 0) (pa_cons (pe_bltn (v := .ty "bool") (by rfl) T.no_bool (by decide +kernel) rfl) pa_nil))) (pe_one (pe_cmpR o_eq (pv 0) (pv 1) (nomark _))))))
abbrev nm_Ring_before : List Str := ["self", "low", "high"]
theorem sc_Ring_before : FnScope nm_Ring_before ["self", "low", "high"] (defScope (inClass (top 9) 7)) := ⟨rfl, rfl, rfl, by decide +kernel, rfl, by decide +kernel, by decide +kernel⟩
theorem ok_Ring_before (T : Txt K mg a) : FnOk P w K mg base (L2.CX P w) 5 a.f_Ring_before a.d_Ring_before ["self", "low", "high"] (sp_Ring_before a.toCl) := by
  refine ok_body T.fn_Ring_before sc_Ring_before rfl rfl fun cdv A outer s H E hr => ?_
  exact (pss_one (ps_ret (pe_chain o_le o_lt pe_int (pe_meth (pv 0) T.cl_Ring T.mt_Ring_gap (ok_Ring_gap T) (hr.mono (by decide)) T.bd_Ring_gap .nil passE (pa_cons (pv 1) (pa_cons (pv 2) pa_nil))) (pe_op o_fdiv (pe_fldC T.cl_Ring T.na_Ring_size (pv 0)) pe_int))))
abbrev nm_pair : List Str := ["_law_ring", "_law_width_here", "_law_low", "_law_high", "_law_steps"]
theorem sc_pair : FnScope nm_pair ["_law_ring", "_law_width_here", "_law_low", "_law_high"] (defScope (top 17)) := ⟨rfl, rfl, rfl, by decide +kernel, rfl, by decide +kernel, by decide +kernel⟩
theorem ok_pair (T : Txt K mg a) : FnOk P w K mg base (L2.CX P w) 6 a.f_pair a.d_pair ["_law_ring", "_law_width_here", "_law_low", "_law_high"] (sp_pair a.toCl) := by
  refine ok_body T.fn_pair sc_pair rfl rfl fun cdv A outer s H E hr => ?_
  exact (pss_cons (ps_set (i := 4) sc_pair.nd rfl (by first | exact Or.inl rfl | exact Or.inr rfl) (pe_meth (pv 0) T.cl_Ring T.mt_Ring_gap (ok_Ring_gap T) (hr.mono (by decide)) T.bd_Ring_gap .nil passE (pa_cons (pv 2) (pa_cons (pv 3) pa_nil))))
    (pss_cons (ps_if (PW.pt (pw_or (pt_not (pt_val (pe_callB c_isi (by rfl) T.no_isinstance (by decide +kernel) (pa_cons (pv 4) (pa_cons (pe_bltn (v := .ty "int") (by rfl) T.no_int (by decide +kernel) rfl) pa_nil))))) (pw_or (pt_val (pe_callB c_isi (by rfl) T.no_isinstance (by decide +kernel) (pa_cons (pv 4) (pa_cons (pe_bltn (v := .ty "bool") (by rfl) T.no_bool (by decide +kernel) rfl) pa_nil)))) (pw_or1 (pt_not (pt_chain o_le o_lt pe_int (pv 4) (pv 1))))))) (pss_one (ps_ret pe_bl)) pss_nil)
    (pss_cons (ps_if (pt_cmpR o_ne (pe_op o_mod (pe_callTy c_int (by rfl) T.no_int (by decide +kernel) (pa_cons (pe_op o_sub (pe_op o_add (pv 2) (pv 4)) (pv 3)) pa_nil)) (pv 1)) pe_int (nomark _)) (pss_one (ps_ret pe_bl)) pss_nil)
    (pss_cons (ps_if (pt_not (pt_val (pe_call (ok_is T) (hr.mono (by decide)) rfl T.mg_is (T.fn_is).kp T.bd_is .nil passE (pa_cons (pe_meth (pv 0) T.cl_Ring T.mt_Ring_gap (ok_Ring_gap T) (hr.mono (by decide)) T.bd_Ring_gap .nil passE (pa_cons (pv 3) (pa_cons (pv 2) pa_nil))) (pa_cons (pe_op o_mod (pe_callTy c_int (by rfl) T.no_int (by decide +kernel) (pa_cons (pe_op o_sub (pv 1) (pv 4)) pa_nil)) (pv 1)) pa_nil))))) (pss_one (ps_ret pe_bl)) pss_nil)
    (pss_cons (ps_if (pt_not (pt_val (pe_call (ok_truth T) (hr.mono (by decide)) rfl T.mg_truth (T.fn_truth).kp T.bd_truth .nil passE (pa_cons (pe_meth (pv 0) T.cl_Ring T.mt_Ring_before (ok_Ring_before T) (hr.mono (by decide)) T.bd_Ring_before .nil passE (pa_cons (pv 2) (pa_cons (pv 3) pa_nil))) (pa_cons (pe_chain o_le o_lt pe_int (pv 4) (pe_op o_fdiv (pv 1) pe_int)) pa_nil))))) (pss_one (ps_ret pe_bl)) pss_nil)
    (pss_one (ps_ret (pe_call (ok_truth T) (hr.mono (by decide)) rfl T.mg_truth (T.fn_truth).kp T.bd_truth .nil passE (pa_cons (pe_meth (pv 0) T.cl_Ring T.mt_Ring_before (ok_Ring_before T) (hr.mono (by decide)) T.bd_Ring_before .nil passE (pa_cons (pv 3) (pa_cons (pv 2) pa_nil))) (pa_cons (pe_cmpR o_gt (pv 4) (pe_op o_fdiv (pv 1) pe_int) (nomark _)) pa_nil))))))))))
abbrev nm_Ring_within : List Str := ["self", "low", "number", "high"]
theorem sc_Ring_within : FnScope nm_Ring_within ["self", "low", "number", "high"] (defScope (inClass (top 9) 8)) := ⟨rfl, rfl, rfl, by decide +kernel, rfl, by decide +kernel, by decide +kernel⟩
theorem ok_Ring_within (T : Txt K mg a) : FnOk P w K mg base (L2.CX P w) 5 a.f_Ring_within a.d_Ring_within ["self", "low", "number", "high"] (sp_Ring_within a.toCl) := by
  refine ok_body T.fn_Ring_within sc_Ring_within rfl rfl fun cdv A outer s H E hr => ?_
  exact (pss_one (ps_ret (pe_cmpR o_lt (pe_meth (pv 0) T.cl_Ring T.mt_Ring_gap (ok_Ring_gap T) (hr.mono (by decide)) T.bd_Ring_gap .nil passE (pa_cons (pv 1) (pa_cons (pv 2) pa_nil))) (pe_meth (pv 0) T.cl_Ring T.mt_Ring_gap (ok_Ring_gap T) (hr.mono (by decide)) T.bd_Ring_gap .nil passE (pa_cons (pv 1) (pa_cons (pv 3) pa_nil))) (nomark _))))
abbrev nm_triple : List Str := ["_law_ring", "_law_width_here", "_law_low", "_law_code_here", "_law_high", "_law_inside"]
theorem sc_triple : FnScope nm_triple ["_law_ring", "_law_width_here", "_law_low", "_law_code_here", "_law_high"] (defScope (top 18)) := ⟨rfl, rfl, rfl, by decide +kernel, rfl, by decide +kernel, by decide +kernel⟩
theorem ok_triple (T : Txt K mg a) : FnOk P w K mg base (L2.CX P w) 6 a.f_triple a.d_triple ["_law_ring", "_law_width_here", "_law_low", "_law_code_here", "_law_high"] (sp_triple a.toCl) := by
  refine ok_body T.fn_triple sc_triple rfl rfl fun cdv A outer s H E hr => ?_
  exact (pss_cons (ps_set (i := 5) sc_triple.nd rfl (by first | exact Or.inl rfl | exact Or.inr rfl) (pe_cmpR o_lt (pe_op o_mod (pe_callTy c_int (by rfl) T.no_int (by decide +kernel) (pa_cons (pe_op o_sub (pv 3) (pv 2)) pa_nil)) (pv 1)) (pe_op o_mod (pe_callTy c_int (by rfl) T.no_int (by decide +kernel) (pa_cons (pe_op o_sub (pv 4) (pv 2)) pa_nil)) (pv 1)) (nomark _)))
    (pss_cons (ps_if (pt_not (pt_val (pe_call (ok_truth T) (hr.mono (by decide)) rfl T.mg_truth (T.fn_truth).kp T.bd_truth .nil passE (pa_cons (pe_meth (pv 0) T.cl_Ring T.mt_Ring_within (ok_Ring_within T) (hr.mono (by decide)) T.bd_Ring_within .nil passE (pa_cons (pv 2) (pa_cons (pv 3) (pa_cons (pv 4) pa_nil)))) (pa_cons (pv 5) pa_nil))))) (pss_one (ps_ret pe_bl)) pss_nil)
    (pss_cons (ps_if (pt_cmpR o_eq (pv 2) (pv 4) (nomark _)) (pss_one (ps_ret (pe_not (pv 5)))) pss_nil)
    (pss_one (ps_ret (pe_call (ok_truth T) (hr.mono (by decide)) rfl T.mg_truth (T.fn_truth).kp T.bd_truth .nil passE (pa_cons (pe_meth (pv 0) T.cl_Ring T.mt_Ring_within (ok_Ring_within T) (hr.mono (by decide)) T.bd_Ring_within .nil passE (pa_cons (pv 4) (pa_cons (pv 3) (pa_cons (pv 2) pa_nil)))) (pa_cons (pe_not (pv 5)) pa_nil))))))))
abbrev nm_walk : List Str := ["_law_ring", "_law_low", "_law_code_here", "_law_high", "_law_spot", "_law_steps", "_law_met", "_law_k"]
theorem sc_walk : FnScope nm_walk ["_law_ring", "_law_low", "_law_code_here", "_law_high"] (defScope (top 19)) := ⟨rfl, rfl, rfl, by decide +kernel, rfl, by decide +kernel, by decide +kernel⟩
theorem ok_walk (T : Txt K mg a) : FnOk P w K mg base (L2.CX P w) 6 a.f_walk a.d_walk ["_law_ring", "_law_low", "_law_code_here", "_law_high"] (sp_walk a.toCl) := by
  refine ok_body T.fn_walk sc_walk rfl rfl fun cdv A outer s H E hr => ?_
  exact (pss_cons (ps_set (i := 4) sc_walk.nd rfl (by first | exact Or.inl rfl | exact Or.inr rfl) (pv 1))
    (pss_cons (ps_set (i := 5) sc_walk.nd rfl (by first | exact Or.inl rfl | exact Or.inr rfl) pe_int)
    (pss_cons (ps_set (i := 6) sc_walk.nd rfl (by first | exact Or.inl rfl | exact Or.inr rfl) pe_bl)
    (pss_cons (ps_forR1 (passes_of rfl) rfl rfl T.no_range pe_int (pg_name (i := 7) sc_walk.nd rfl (by first | exact Or.inl rfl | exact Or.inr rfl)) (pss_cons (ps_if (pt_cmpR o_eq (pv 4) (pv 3) (nomark _)) (pss_one ps_break) pss_nil)
    (pss_cons (ps_if (pt_cmpR o_eq (pv 4) (pv 2) (nomark _)) (pss_one (ps_set (i := 6) sc_walk.nd rfl (by first | exact Or.inl rfl | exact Or.inr rfl) pe_bl)) pss_nil)
    (pss_cons (ps_set (i := 4) sc_walk.nd rfl (by first | exact Or.inl rfl | exact Or.inr rfl) (pe_op o_mod (pe_callTy c_int (by rfl) T.no_int (by decide +kernel) (pa_cons (pe_op o_add (pv 4) pe_int) pa_nil)) pe_int))
    (pss_one (ps_set (i := 5) sc_walk.nd rfl (by first | exact Or.inl rfl | exact Or.inr rfl) (pe_op o_add (pv 5) pe_int)))))))
    (pss_one (ps_ret (pe_and (pe_call (ok_is T) (hr.mono (by decide)) rfl T.mg_is (T.fn_is).kp T.bd_is .nil passE (pa_cons (pe_meth (pv 0) T.cl_Ring T.mt_Ring_gap (ok_Ring_gap T) (hr.mono (by decide)) T.bd_Ring_gap .nil passE (pa_cons (pv 1) (pa_cons (pv 3) pa_nil))) (pa_cons (pv 5) pa_nil))) (pe_one (pe_call (ok_truth T) (hr.mono (by decide)) rfl T.mg_truth (T.fn_truth).kp T.bd_truth .nil passE (pa_cons (pe_meth (pv 0) T.cl_Ring T.mt_Ring_within (ok_Ring_within T) (hr.mono (by decide)) T.bd_Ring_within .nil passE (pa_cons (pv 1) (pa_cons (pv 2) (pa_cons (pv 3) pa_nil)))) (pa_cons (pv 6) pa_nil)))))))))))
abbrev nm_Ring_wrap : List Str := ["self", "offset"]
theorem sc_Ring_wrap : FnScope nm_Ring_wrap ["self", "offset"] (defScope (inClass (top 9) 4)) := ⟨rfl, rfl, rfl, by decide +kernel, rfl, by decide +kernel, by decide +kernel⟩
theorem ok_Ring_wrap (T : Txt K mg a) : FnOk P w K mg base (L2.CX P w) 2 a.f_Ring_wrap a.d_Ring_wrap ["self", "offset"] (sp_Ring_wrap a.toCl) := by
  refine ok_body T.fn_Ring_wrap sc_Ring_wrap rfl rfl fun cdv A outer s H E hr => ?_
  exact (pss_cons (ps_if (pt_not (pt_val (pe_call (ok_is_whole T) (hr.mono (by decide)) rfl T.mg_is_whole (T.fn_is_whole).kp T.bd_is_whole .nil passE (pa_cons (pv 1) pa_nil)))) (pss_one ps_never) pss_nil)
    (pss_one (ps_ret (pe_op o_mod (pv 1) (pe_fldC T.cl_Ring T.na_Ring_size (pv 0))))))
abbrev nm_offsets : List Str := ["_law_purse_here", "_law_ring", "_law_width_here", "_law_base", "_law_apart", "_law_low", "_law_high", "_law_ahead", "_law_reach"]
theorem sc_offsets : FnScope nm_offsets ["_law_purse_here", "_law_ring", "_law_width_here"] (defScope (top 20)) := ⟨rfl, rfl, rfl, by decide +kernel, rfl, by decide +kernel, by decide +kernel⟩
theorem ok_offsets (T : Txt K mg a) : FnOk P w K mg base (L2.CX P w) 6 a.f_offsets a.d_offsets ["_law_purse_here", "_law_ring", "_law_width_here"] (sp_offsets a.toCl) := by
  refine ok_body T.fn_offsets sc_offsets rfl rfl fun cdv A outer s H E hr => ?_
  exact (pss_cons (ps_set (i := 3) sc_offsets.nd rfl (by first | exact Or.inl rfl | exact Or.inr rfl) (pe_op o_add (pe_op o_mul (pe_call (ok_draw T) (hr.mono (by decide)) rfl T.mg_draw (T.fn_draw).kp T.bd_draw .nil passE (pa_cons (pv 0) (pa_cons pe_int pa_nil))) pe_int) (pe_call (ok_draw T) (hr.mono (by decide)) rfl T.mg_draw (T.fn_draw).kp T.bd_draw .nil passE (pa_cons (pv 0) (pa_cons pe_int pa_nil)))))
    (pss_cons (ps_set (i := 3) sc_offsets.nd rfl (by first | exact Or.inl rfl | exact Or.inr rfl) (pe_op o_mod (pe_callTy c_int (by rfl) T.no_int (by decide +kernel) (pa_cons (pv 3) pa_nil)) (pe_op o_sub (pe_op o_pow pe_int pe_int) (pe_op o_mul pe_int (pv 2)))))
    (pss_cons (ps_if (pt_cmpR o_eq (pe_call (ok_draw T) (hr.mono (by decide)) rfl T.mg_draw (T.fn_draw).kp T.bd_draw .nil passE (pa_cons (pv 0) (pa_cons pe_int pa_nil))) pe_int (nomark _)) (pss_one (ps_set (i := 3) sc_offsets.nd rfl (by first | exact Or.inl rfl | exact Or.inr rfl) (pe_un o_neg (pv 3)))) pss_nil)
    (pss_cons (ps_set (i := 4) sc_offsets.nd rfl (by first | exact Or.inl rfl | exact Or.inr rfl) (pe_op o_sub (pe_call (ok_code T) (hr.mono (by decide)) rfl T.mg_code (T.fn_code).kp T.bd_code .nil passE (pa_cons (pv 0) (pa_cons (pe_op o_sub (pv 2) pe_int) (pa_cons pe_int pa_nil)))) (pe_op o_sub (pe_op o_fdiv (pv 2) pe_int) pe_int)))
    (pss_cons (ps_set (i := 5) sc_offsets.nd rfl (by first | exact Or.inl rfl | exact Or.inr rfl) (pe_meth (pv 1) T.cl_Ring T.mt_Ring_wrap (ok_Ring_wrap T) (hr.mono (by decide)) T.bd_Ring_wrap .nil passE (pa_cons (pv 3) pa_nil)))
    (pss_cons (ps_set (i := 6) sc_offsets.nd rfl (by first | exact Or.inl rfl | exact Or.inr rfl) (pe_meth (pv 1) T.cl_Ring T.mt_Ring_wrap (ok_Ring_wrap T) (hr.mono (by decide)) T.bd_Ring_wrap .nil passE (pa_cons (pe_op o_add (pv 3) (pv 4)) pa_nil)))
    (pss_cons (ps_if (PW.pt (pw_or (pt_not (pt_val (pe_call (ok_truth T) (hr.mono (by decide)) rfl T.mg_truth (T.fn_truth).kp T.bd_truth .nil passE (pa_cons (pe_meth (pv 1) T.cl_Ring T.mt_Ring_before (ok_Ring_before T) (hr.mono (by decide)) T.bd_Ring_before .nil passE (pa_cons (pv 5) (pa_cons (pv 6) pa_nil))) (pa_cons (pe_cmpR o_gt (pv 4) pe_int (nomark _)) pa_nil))))) (pw_or1 (pt_not (pt_val (pe_call (ok_truth T) (hr.mono (by decide)) rfl T.mg_truth (T.fn_truth).kp T.bd_truth .nil passE (pa_cons (pe_meth (pv 1) T.cl_Ring T.mt_Ring_before (ok_Ring_before T) (hr.mono (by decide)) T.bd_Ring_before .nil passE (pa_cons (pv 6) (pa_cons (pv 5) pa_nil))) (pa_cons (pe_cmpR o_lt (pv 4) pe_int (nomark _)) pa_nil)))))))) (pss_one (ps_ret pe_bl)) pss_nil)
    (pss_cons (ps_if (pt_not (pt_val (pe_call (ok_is T) (hr.mono (by decide)) rfl T.mg_is (T.fn_is).kp T.bd_is .nil passE (pa_cons (pe_meth (pv 1) T.cl_Ring T.mt_Ring_gap (ok_Ring_gap T) (hr.mono (by decide)) T.bd_Ring_gap .nil passE (pa_cons (pv 5) (pa_cons (pv 6) pa_nil))) (pa_cons (pe_op o_mod (pe_callTy c_int (by rfl) T.no_int (by decide +kernel) (pa_cons (pv 4) pa_nil)) (pv 2)) pa_nil))))) (pss_one (ps_ret pe_bl)) pss_nil)
    (pss_cons (ps_set (i := 7) sc_offsets.nd rfl (by first | exact Or.inl rfl | exact Or.inr rfl) (pe_call (ok_code T) (hr.mono (by decide)) rfl T.mg_code (T.fn_code).kp T.bd_code .nil passE (pa_cons (pv 0) (pa_cons (pv 2) (pa_cons pe_int pa_nil)))))
    (pss_cons (ps_set (i := 8) sc_offsets.nd rfl (by first | exact Or.inl rfl | exact Or.inr rfl) (pe_call (ok_code T) (hr.mono (by decide)) rfl T.mg_code (T.fn_code).kp T.bd_code .nil passE (pa_cons (pv 0) (pa_cons (pv 2) (pa_cons (pv 7) pa_nil)))))
    (pss_one (ps_ret (pe_call (ok_truth T) (hr.mono (by decide)) rfl T.mg_truth (T.fn_truth).kp T.bd_truth .nil passE (pa_cons (pe_meth (pv 1) T.cl_Ring T.mt_Ring_within (ok_Ring_within T) (hr.mono (by decide)) T.bd_Ring_within .nil passE (pa_cons (pv 5) (pa_cons (pe_meth (pv 1) T.cl_Ring T.mt_Ring_wrap (ok_Ring_wrap T) (hr.mono (by decide)) T.bd_Ring_wrap .nil passE (pa_cons (pe_op o_add (pv 3) (pv 7)) pa_nil)) (pa_cons (pe_meth (pv 1) T.cl_Ring T.mt_Ring_wrap (ok_Ring_wrap T) (hr.mono (by decide)) T.bd_Ring_wrap .nil passE (pa_cons (pe_op o_add (pv 3) (pv 8)) pa_nil)) pa_nil)))) (pa_cons (pe_cmpR o_lt (pv 7) (pv 8) (nomark _)) pa_nil)))))))))))))))
abbrev nm_law : List Str := ["_law_script", "_law_purse_here", "_law_bits", "_law_width_here", "_law_ring", "_law_k", "_law_low", "_law_code_here", "_law_high"]
theorem sc_law : FnScope nm_law ["_law_script"] (defScope (top 21)) := ⟨rfl, rfl, rfl, by decide +kernel, rfl, by decide +kernel, by decide +kernel⟩
theorem ok_law (T : Txt K mg a) : FnOk P w K mg base (L2.CX P w) 7 a.f_law a.d_law ["_law_script"] (sp_law a.toCl) := by
  refine ok_body T.fn_law sc_law rfl rfl fun cdv A outer s H E hr => ?_
  exact (pss_cons (ps_set (i := 1) sc_law.nd rfl (by first | exact Or.inl rfl | exact Or.inr rfl) (pe_call (ok_purse T) (hr.mono (by decide)) rfl T.mg_purse (T.fn_purse).kp T.bd_purse .nil passE (pa_cons (pv 0) pa_nil)))
    (pss_cons (ps_set (i := 2) sc_law.nd rfl (by first | exact Or.inl rfl | exact Or.inr rfl) pe_int)
    (pss_cons (ps_if (pt_cmpR o_eq (pe_call (ok_draw T) (hr.mono (by decide)) rfl T.mg_draw (T.fn_draw).kp T.bd_draw .nil passE (pa_cons (pv 1) (pa_cons pe_int pa_nil))) pe_int (nomark _)) (pss_one (ps_set (i := 2) sc_law.nd rfl (by first | exact Or.inl rfl | exact Or.inr rfl) (pe_op o_add pe_int (pe_call (ok_draw T) (hr.mono (by decide)) rfl T.mg_draw (T.fn_draw).kp T.bd_draw .nil passE (pa_cons (pv 1) (pa_cons pe_int pa_nil)))))) pss_nil)
    (pss_cons (ps_set (i := 3) sc_law.nd rfl (by first | exact Or.inl rfl | exact Or.inr rfl) (pe_call (ok_width T) (hr.mono (by decide)) rfl T.mg_width (T.fn_width).kp T.bd_width .nil passE (pa_cons (pv 2) pa_nil)))
    (pss_cons (ps_set (i := 4) sc_law.nd rfl (by first | exact Or.inl rfl | exact Or.inr rfl) (pe_make T.mk_Ring (ok_Ring___init__ T) (hr.mono (by decide)) rfl T.mg_Ring T.bd_Ring___init__ .nil passE (pa_cons (pv 3) pa_nil)))
    (pss_cons (ps_forR1 (passes_of rfl) rfl rfl T.no_range (pe_op o_add pe_int (pe_call (ok_draw T) (hr.mono (by decide)) rfl T.mg_draw (T.fn_draw).kp T.bd_draw .nil passE (pa_cons (pv 1) (pa_cons pe_int pa_nil)))) (pg_name (i := 5) sc_law.nd rfl (by first | exact Or.inl rfl | exact Or.inr rfl)) (pss_cons (ps_set (i := 6) sc_law.nd rfl (by first | exact Or.inl rfl | exact Or.inr rfl) (pe_op o_mod (pe_callTy c_int (by rfl) T.no_int (by decide +kernel) (pa_cons (pe_op o_add (pe_op o_mul (pe_call (ok_draw T) (hr.mono (by decide)) rfl T.mg_draw (T.fn_draw).kp T.bd_draw .nil passE (pa_cons (pv 1) (pa_cons pe_int pa_nil))) pe_int) (pe_call (ok_draw T) (hr.mono (by decide)) rfl T.mg_draw (T.fn_draw).kp T.bd_draw .nil passE (pa_cons (pv 1) (pa_cons pe_int pa_nil)))) pa_nil)) (pv 3)))
    (pss_cons (ps_set (i := 7) sc_law.nd rfl (by first | exact Or.inl rfl | exact Or.inr rfl) (pe_call (ok_code T) (hr.mono (by decide)) rfl T.mg_code (T.fn_code).kp T.bd_code .nil passE (pa_cons (pv 1) (pa_cons (pv 3) (pa_cons (pv 6) pa_nil)))))
    (pss_cons (ps_set (i := 8) sc_law.nd rfl (by first | exact Or.inl rfl | exact Or.inr rfl) (pe_call (ok_code T) (hr.mono (by decide)) rfl T.mg_code (T.fn_code).kp T.bd_code .nil passE (pa_cons (pv 1) (pa_cons (pv 3) (pa_cons (pv 7) pa_nil)))))
    (pss_cons (ps_if (PW.pt (pw_or (pt_not (pt_val (pe_call (ok_pair T) (hr.mono (by decide)) rfl T.mg_pair (T.fn_pair).kp T.bd_pair .nil passE (pa_cons (pv 4) (pa_cons (pv 3) (pa_cons (pv 6) (pa_cons (pv 8) pa_nil))))))) (pw_or1 (pt_not (pt_val (pe_call (ok_pair T) (hr.mono (by decide)) rfl T.mg_pair (T.fn_pair).kp T.bd_pair .nil passE (pa_cons (pv 4) (pa_cons (pv 3) (pa_cons (pv 7) (pa_cons (pv 8) pa_nil)))))))))) (pss_one (ps_ret pe_bl)) pss_nil)
    (pss_cons (ps_if (pt_not (pt_val (pe_call (ok_triple T) (hr.mono (by decide)) rfl T.mg_triple (T.fn_triple).kp T.bd_triple .nil passE (pa_cons (pv 4) (pa_cons (pv 3) (pa_cons (pv 6) (pa_cons (pv 7) (pa_cons (pv 8) pa_nil)))))))) (pss_one (ps_ret pe_bl)) pss_nil)
    (pss_cons (ps_if (PW.pt (pw_and (pt_cmpR o_eq (pv 3) pe_int (nomark _)) (pw_and1 (pt_not (pt_val (pe_call (ok_walk T) (hr.mono (by decide)) rfl T.mg_walk (T.fn_walk).kp T.bd_walk .nil passE (pa_cons (pv 4) (pa_cons (pv 6) (pa_cons (pv 7) (pa_cons (pv 8) pa_nil)))))))))) (pss_one (ps_ret pe_bl)) pss_nil)
    (pss_one (ps_if (pt_not (pt_val (pe_call (ok_offsets T) (hr.mono (by decide)) rfl T.mg_offsets (T.fn_offsets).kp T.bd_offsets .nil passE (pa_cons (pv 1) (pa_cons (pv 4) (pa_cons (pv 3) pa_nil)))))) (pss_one (ps_ret pe_bl)) pss_nil)))))))))
    (pss_one (ps_ret pe_bl))))))))
end
/-! ### what the top has written -/
theorem useFn {R : Prop} {K : PySem.W.Frag} {h : Heap} {mg : Str → Option Value} (X : K.In h) (G : h.Ns mainGlobals mg) {x : Str} {st : Stmt} {f : Addr} {ps : List Str} {oc kV doc pm cd ct : Value} {od an : Option Addr} {sl : Array (Option Value)}
    (n : PySem.W.nsIn K mainGlobals x = some (some (.ref f))) (l : K.lookup f = some ⟨oc, od, .func (PySem.W.fnOf x x (defArgs st) (defBody st) (defScope st) .none kV doc pm an cd ct), sl⟩) (c : PySem.W.codeIn K cd x = true) (k : PySem.W.keepIn K (.ref f) = true)
    (hb : ∀ (kV doc pm : Value) (an : Option Addr) (cdv ct : Value) (us : List Value), us.length = ps.length → bindArgs (PySem.W.fnOf x x (defArgs st) (defBody st) (defScope st) .none kV doc pm an cdv ct) ⟨us, []⟩ = pure (ps.zip us))
    (r : ∀ (f : Addr) (fd : FuncData), mg x = some (.ref f) → Fun K x x st f fd → (∀ us : List Value, us.length = ps.length → bindArgs fd ⟨us, []⟩ = pure (ps.zip us)) → R) : R :=
  r f _ (PySem.W.mg_of X G n) (fun_mk l c k) fun us hl => hb kV doc pm an cd ct us hl
theorem useC_Ring {R : Prop} {K : PySem.W.Frag} {h : Heap} {mg : Str → Option Value} (X : K.In h) (G : h.Ns mainGlobals mg) {C : Addr} {mc : Value} (hmc : mc = .type "type") {t_GREATEST : Tok} {t_LEAST : Tok} {f___init__ : Addr} {oc___init__ kV___init__ doc___init__ pm___init__ cd___init__ ct___init__ : Value} {od___init__ an___init__ : Option Addr} {sl___init__ : Array (Option Value)} {f___contains__ : Addr} {oc___contains__ kV___contains__ doc___contains__ pm___contains__ cd___contains__ ct___contains__ : Value} {od___contains__ an___contains__ : Option Addr} {sl___contains__ : Array (Option Value)} {f_gap : Addr} {oc_gap kV_gap doc_gap pm_gap cd_gap ct_gap : Value} {od_gap an_gap : Option Addr} {sl_gap : Array (Option Value)} {f_before : Addr} {oc_before kV_before doc_before pm_before cd_before ct_before : Value} {od_before an_before : Option Addr} {sl_before : Array (Option Value)} {f_within : Addr} {oc_within kV_within doc_within pm_within cd_within ct_within : Value} {od_within an_within : Option Addr} {sl_within : Array (Option Value)} {f_wrap : Addr} {oc_wrap kV_wrap doc_wrap pm_wrap cd_wrap ct_wrap : Value} {od_wrap an_wrap : Option Addr} {sl_wrap : Array (Option Value)}
    (n : PySem.W.nsIn K mainGlobals "Ring" = some (some (.ref C)))
    (pg : PySem.W.plainGet K C Str.empty = true)
    (hd : PySem.W.hasDictIn K C = true)
    (po : PySem.W.plainOver K C = true)
    (sa : PySem.W.findIn K (.ref C) "__setattr__" = some (some (.builtin "object.__setattr__")))
    (mk : PySem.W.makesIn K C = true)
    (kc : PySem.W.keepIn K (.ref C) = true)
    (rd : PySem.W.readsIn K C mc = true)
    (ga : PySem.W.specialIn K (.ref C) "__getattribute__" = some (some (.builtin "type.__getattribute__")))
    (cv_GREATEST : PySem.W.findCls K (.ref C) mc "GREATEST" = some (.val (.int 4294967296 t_GREATEST)))
    (cv_LEAST : PySem.W.findCls K (.ref C) mc "LEAST" = some (.val (.int 64 t_LEAST)))
    (na_size : PySem.W.findIn K (.ref C) "size" = some none)
    (n___init__ : PySem.W.findIn K (.ref C) "__init__" = some (some (.ref f___init__)))
    (i___init__ : PySem.W.isFn K (.ref f___init__) = true)
    (l___init__ : K.lookup f___init__ = some ⟨oc___init__, od___init__, .func (PySem.W.fnOf "__init__" "Ring.__init__" (defArgs (inClass (top 9) 2)) (defBody (inClass (top 9) 2)) (defScope (inClass (top 9) 2)) .none kV___init__ doc___init__ pm___init__ an___init__ cd___init__ ct___init__), sl___init__⟩)
    (c___init__ : PySem.W.codeIn K cd___init__ "Ring.__init__" = true)
    (k___init__ : PySem.W.keepIn K (.ref f___init__) = true)
    (n___contains__ : PySem.W.findIn K (.ref C) "__contains__" = some (some (.ref f___contains__)))
    (i___contains__ : PySem.W.isFn K (.ref f___contains__) = true)
    (l___contains__ : K.lookup f___contains__ = some ⟨oc___contains__, od___contains__, .func (PySem.W.fnOf "__contains__" "Ring.__contains__" (defArgs (inClass (top 9) 9)) (defBody (inClass (top 9) 9)) (defScope (inClass (top 9) 9)) .none kV___contains__ doc___contains__ pm___contains__ an___contains__ cd___contains__ ct___contains__), sl___contains__⟩)
    (c___contains__ : PySem.W.codeIn K cd___contains__ "Ring.__contains__" = true)
    (k___contains__ : PySem.W.keepIn K (.ref f___contains__) = true)
    (n_gap : PySem.W.findIn K (.ref C) "gap" = some (some (.ref f_gap)))
    (i_gap : PySem.W.isFn K (.ref f_gap) = true)
    (l_gap : K.lookup f_gap = some ⟨oc_gap, od_gap, .func (PySem.W.fnOf "gap" "Ring.gap" (defArgs (inClass (top 9) 6)) (defBody (inClass (top 9) 6)) (defScope (inClass (top 9) 6)) .none kV_gap doc_gap pm_gap an_gap cd_gap ct_gap), sl_gap⟩)
    (c_gap : PySem.W.codeIn K cd_gap "Ring.gap" = true)
    (k_gap : PySem.W.keepIn K (.ref f_gap) = true)
    (n_before : PySem.W.findIn K (.ref C) "before" = some (some (.ref f_before)))
    (i_before : PySem.W.isFn K (.ref f_before) = true)
    (l_before : K.lookup f_before = some ⟨oc_before, od_before, .func (PySem.W.fnOf "before" "Ring.before" (defArgs (inClass (top 9) 7)) (defBody (inClass (top 9) 7)) (defScope (inClass (top 9) 7)) .none kV_before doc_before pm_before an_before cd_before ct_before), sl_before⟩)
    (c_before : PySem.W.codeIn K cd_before "Ring.before" = true)
    (k_before : PySem.W.keepIn K (.ref f_before) = true)
    (n_within : PySem.W.findIn K (.ref C) "within" = some (some (.ref f_within)))
    (i_within : PySem.W.isFn K (.ref f_within) = true)
    (l_within : K.lookup f_within = some ⟨oc_within, od_within, .func (PySem.W.fnOf "within" "Ring.within" (defArgs (inClass (top 9) 8)) (defBody (inClass (top 9) 8)) (defScope (inClass (top 9) 8)) .none kV_within doc_within pm_within an_within cd_within ct_within), sl_within⟩)
    (c_within : PySem.W.codeIn K cd_within "Ring.within" = true)
    (k_within : PySem.W.keepIn K (.ref f_within) = true)
    (n_wrap : PySem.W.findIn K (.ref C) "wrap" = some (some (.ref f_wrap)))
    (i_wrap : PySem.W.isFn K (.ref f_wrap) = true)
    (l_wrap : K.lookup f_wrap = some ⟨oc_wrap, od_wrap, .func (PySem.W.fnOf "wrap" "Ring.wrap" (defArgs (inClass (top 9) 4)) (defBody (inClass (top 9) 4)) (defScope (inClass (top 9) 4)) .none kV_wrap doc_wrap pm_wrap an_wrap cd_wrap ct_wrap), sl_wrap⟩)
    (c_wrap : PySem.W.codeIn K cd_wrap "Ring.wrap" = true)
    (k_wrap : PySem.W.keepIn K (.ref f_wrap) = true)
    (r : ∀ (C : Addr) (mc : Value) (f___init__ : Addr) (d___init__ : FuncData) (f___contains__ : Addr) (d___contains__ : FuncData) (f_gap : Addr) (d_gap : FuncData) (f_before : Addr) (d_before : FuncData) (f_within : Addr) (d_within : FuncData) (f_wrap : Addr) (d_wrap : FuncData), (Fun K "__init__" "Ring.__init__" (inClass (top 9) 2) f___init__ d___init__) → (Binds K d___init__ ["self", "size"] []) → (Fun K "__contains__" "Ring.__contains__" (inClass (top 9) 9) f___contains__ d___contains__) → (Binds K d___contains__ ["self", "number"] []) → (Fun K "gap" "Ring.gap" (inClass (top 9) 6) f_gap d_gap) → (Binds K d_gap ["self", "low", "high"] []) → (Fun K "before" "Ring.before" (inClass (top 9) 7) f_before d_before) → (Binds K d_before ["self", "low", "high"] []) → (Fun K "within" "Ring.within" (inClass (top 9) 8) f_within d_within) → (Binds K d_within ["self", "low", "number", "high"] []) → (Fun K "wrap" "Ring.wrap" (inClass (top 9) 4) f_wrap d_wrap) → (Binds K d_wrap ["self", "offset"] []) → (mg "Ring" = some (.ref C)) → (ClX.CRead K C mc) → (∃ t, ClX.CVal K C mc "GREATEST" (.int 4294967296) (.int 4294967296 t)) → (∃ t, ClX.CVal K C mc "LEAST" (.int 64) (.int 64 t)) → (Cls K C) → (NoAttr K C "size") → (Mk K C f___init__) → (Meth K C "__contains__" f___contains__) → (Meth K C "gap" f_gap) → (Meth K C "before" f_before) → (Meth K C "within" f_within) → (Meth K C "wrap" f_wrap) → R) : R :=
  r C mc f___init__ _ f___contains__ _ f_gap _ f_before _ f_within _ f_wrap _ (fun_mk l___init__ c___init__ k___init__) ((fun_mk (st := inClass (top 9) 2) l___init__ c___init__ k___init__).binds (ps := ["self", "size"]) (fun _ _ _ _ _ _ us hl => match us, hl with | [_, _], _ => rfl)) (fun_mk l___contains__ c___contains__ k___contains__) ((fun_mk (st := inClass (top 9) 9) l___contains__ c___contains__ k___contains__).binds (ps := ["self", "number"]) (fun _ _ _ _ _ _ us hl => match us, hl with | [_, _], _ => rfl)) (fun_mk l_gap c_gap k_gap) ((fun_mk (st := inClass (top 9) 6) l_gap c_gap k_gap).binds (ps := ["self", "low", "high"]) (fun _ _ _ _ _ _ us hl => match us, hl with | [_, _, _], _ => rfl)) (fun_mk l_before c_before k_before) ((fun_mk (st := inClass (top 9) 7) l_before c_before k_before).binds (ps := ["self", "low", "high"]) (fun _ _ _ _ _ _ us hl => match us, hl with | [_, _, _], _ => rfl)) (fun_mk l_within c_within k_within) ((fun_mk (st := inClass (top 9) 8) l_within c_within k_within).binds (ps := ["self", "low", "number", "high"]) (fun _ _ _ _ _ _ us hl => match us, hl with | [_, _, _, _], _ => rfl)) (fun_mk l_wrap c_wrap k_wrap) ((fun_mk (st := inClass (top 9) 4) l_wrap c_wrap k_wrap).binds (ps := ["self", "offset"]) (fun _ _ _ _ _ _ us hl => match us, hl with | [_, _], _ => rfl)) (PySem.W.mg_of X G n) (⟨rd, ga⟩) (⟨_, cv_GREATEST, _, rfl⟩) (⟨_, cv_LEAST, _, rfl⟩) (⟨pg, hd, po, sa⟩) (na_size) (⟨mk, n___init__, i___init__, kc⟩) (⟨n___contains__, i___contains__, k___contains__⟩) (⟨n_gap, i_gap, k_gap⟩) (⟨n_before, i_before, k_before⟩) (⟨n_within, i_within, k_within⟩) (⟨n_wrap, i_wrap, k_wrap⟩)
def spLaw (K : PySem.W.Frag) : Sp := fun vs H Q _ => ∃ (a : Addr) (ns : List Int), vs = [.ref a] ∧ SqL K H a (ns.map V.int) ∧ ns.length ≤ 63 ∧ Only H ∧ ∀ H', Q (.bl true) H'
theorem walk {l : PySem.W.OpenLaw} {q : Program} {loose : List Str} {XP : (Str → Option Value) → Heap → Prop} {YP : World → Heap → Prop} {d : DefRec} {K : Params → PySem.W.Frag} (hn : l.most = some 63) (hdf : d.params.defaults = [])
    (hY : ∀ (w : World) (h : Heap), YP w h → (K w.params).In h)
    (F : ∀ (w : World) (mg : Str → Option Value) (fa : Addr) (h : Heap), (K w.params).In h → h.Ns mainGlobals mg → mg d.name = some (.ref fa) →
      ∃ fd : FuncData, (∀ (s : Shared) (u : Value), BindsTo s fd ⟨[u], []⟩ [("_law_script", u)]) ∧ ∀ base : Heap, (K w.params).In base → base.Ns mainGlobals mg → FnOk l.prog w (K w.params) mg base (L2.CX l.prog w) 7 fa fd ["_law_script"] (spLaw (K w.params))) :
    PySem.W.WalkO q loose XP YP l.row.toRowW d [] (fun f vs => PySem.call f vs) :=
  L2.walk_of (n := 63) (k := 7) (x := "_law_script") (CX := fun w => L2.CX l.prog w) (sp := fun w => spLaw (K w.params)) hn (by decide) hdf ⟨rfl, by decide, by decide⟩ hY F (fun _ _ a ns hl hO hS => ⟨a, ns, rfl, hS, hl, hO, fun _ => rfl⟩) fun w H s e s' z => by
    obtain ⟨_, _, _, _, _, _, _, _, _, _, _, _, z⟩ := z
    exact z.elim
end Y.k01
open PySem PySem.W PyProof.Rows
set_option maxRecDepth 100000 in
set_option maxHeartbeats 0 in
theorem PySem.Challenge.cw_lossway_k01_ring_orders_holds : PySem.Challenge.rw_lossway_k01_ring_orders.Holds := by
  w_on; o_law; k_head; (case hw => w_witness2)
  k_fill
  refine Y.k01.walk (l := PySem.Challenge.rw_lossway_k01_ring_orders) rfl rfl (fun w h Y => PySem.W.kIn_of Y) ?F
  case F =>
    intro w mg fa h KX G hmg
    refine' Y.k01.useFn KX G (x := "_law_purse") (st := Y.k01.top 11) (ps := ["_law_script"]) ?npurse ?lpurse ?cpurse ?kpurse (fun _ _ _ _ _ _ us hl => match us, hl with | [_], _ => rfl) ?rpurse
    (case npurse => k_is); (case lpurse => k_is); (case cpurse => k_is); (case kpurse => k_is)
    intro f_purse d_purse m_purse F_purse b_purse
    refine' Y.k01.useFn KX G (x := "_law_draw") (st := Y.k01.top 12) (ps := ["_law_purse_here", "_law_many"]) ?ndraw ?ldraw ?cdraw ?kdraw (fun _ _ _ _ _ _ us hl => match us, hl with | [_, _], _ => rfl) ?rdraw
    (case ndraw => k_is); (case ldraw => k_is); (case cdraw => k_is); (case kdraw => k_is)
    intro f_draw d_draw m_draw F_draw b_draw
    refine' Y.k01.useFn KX G (x := "_law_width") (st := Y.k01.top 15) (ps := ["_law_bits"]) ?nwidth ?lwidth ?cwidth ?kwidth (fun _ _ _ _ _ _ us hl => match us, hl with | [_], _ => rfl) ?rwidth
    (case nwidth => k_is); (case lwidth => k_is); (case cwidth => k_is); (case kwidth => k_is)
    intro f_width d_width m_width F_width b_width
    refine' Y.k01.useFn KX G (x := "is_whole") (st := Y.k01.top 6) (ps := ["value"]) ?nis_whole ?lis_whole ?cis_whole ?kis_whole (fun _ _ _ _ _ _ us hl => match us, hl with | [_], _ => rfl) ?ris_whole
    (case nis_whole => k_is); (case lis_whole => k_is); (case cis_whole => k_is); (case kis_whole => k_is)
    intro f_is_whole d_is_whole m_is_whole F_is_whole b_is_whole
    refine' Y.k01.useFn KX G (x := "in_range") (st := Y.k01.top 7) (ps := ["value", "low", "high"]) ?nin_range ?lin_range ?cin_range ?kin_range (fun _ _ _ _ _ _ us hl => match us, hl with | [_, _, _], _ => rfl) ?rin_range
    (case nin_range => k_is); (case lin_range => k_is); (case cin_range => k_is); (case kin_range => k_is)
    intro f_in_range d_in_range m_in_range F_in_range b_in_range
    refine' Y.k01.useFn KX G (x := "_law_code") (st := Y.k01.top 16) (ps := ["_law_purse_here", "_law_width_here", "_law_other"]) ?ncode ?lcode ?ccode ?kcode (fun _ _ _ _ _ _ us hl => match us, hl with | [_, _, _], _ => rfl) ?rcode
    (case ncode => k_is); (case lcode => k_is); (case ccode => k_is); (case kcode => k_is)
    intro f_code d_code m_code F_code b_code
    refine' Y.k01.useFn KX G (x := "_law_is") (st := Y.k01.top 13) (ps := ["_law_actual", "_law_wanted"]) ?nis ?lis ?cis ?kis (fun _ _ _ _ _ _ us hl => match us, hl with | [_, _], _ => rfl) ?ris
    (case nis => k_is); (case lis => k_is); (case cis => k_is); (case kis => k_is)
    intro f_is d_is m_is F_is b_is
    refine' Y.k01.useFn KX G (x := "_law_truth") (st := Y.k01.top 14) (ps := ["_law_actual", "_law_wanted"]) ?ntruth ?ltruth ?ctruth ?ktruth (fun _ _ _ _ _ _ us hl => match us, hl with | [_, _], _ => rfl) ?rtruth
    (case ntruth => k_is); (case ltruth => k_is); (case ctruth => k_is); (case ktruth => k_is)
    intro f_truth d_truth m_truth F_truth b_truth
    refine' Y.k01.useFn KX G (x := "_law_pair") (st := Y.k01.top 17) (ps := ["_law_ring", "_law_width_here", "_law_low", "_law_high"]) ?npair ?lpair ?cpair ?kpair (fun _ _ _ _ _ _ us hl => match us, hl with | [_, _, _, _], _ => rfl) ?rpair
    (case npair => k_is); (case lpair => k_is); (case cpair => k_is); (case kpair => k_is)
    intro f_pair d_pair m_pair F_pair b_pair
    refine' Y.k01.useFn KX G (x := "_law_triple") (st := Y.k01.top 18) (ps := ["_law_ring", "_law_width_here", "_law_low", "_law_code_here", "_law_high"]) ?ntriple ?ltriple ?ctriple ?ktriple (fun _ _ _ _ _ _ us hl => match us, hl with | [_, _, _, _, _], _ => rfl) ?rtriple
    (case ntriple => k_is); (case ltriple => k_is); (case ctriple => k_is); (case ktriple => k_is)
    intro f_triple d_triple m_triple F_triple b_triple
    refine' Y.k01.useFn KX G (x := "_law_walk") (st := Y.k01.top 19) (ps := ["_law_ring", "_law_low", "_law_code_here", "_law_high"]) ?nwalk ?lwalk ?cwalk ?kwalk (fun _ _ _ _ _ _ us hl => match us, hl with | [_, _, _, _], _ => rfl) ?rwalk
    (case nwalk => k_is); (case lwalk => k_is); (case cwalk => k_is); (case kwalk => k_is)
    intro f_walk d_walk m_walk F_walk b_walk
    refine' Y.k01.useFn KX G (x := "_law_offsets") (st := Y.k01.top 20) (ps := ["_law_purse_here", "_law_ring", "_law_width_here"]) ?noffsets ?loffsets ?coffsets ?koffsets (fun _ _ _ _ _ _ us hl => match us, hl with | [_, _, _], _ => rfl) ?roffsets
    (case noffsets => k_is); (case loffsets => k_is); (case coffsets => k_is); (case koffsets => k_is)
    intro f_offsets d_offsets m_offsets F_offsets b_offsets
    refine' Y.k01.useFn KX G (x := "law") (st := Y.k01.top 21) (ps := ["_law_script"]) ?nlaw ?llaw ?claw ?klaw (fun _ _ _ _ _ _ us hl => match us, hl with | [_], _ => rfl) ?rlaw
    (case nlaw => k_is); (case llaw => k_is); (case claw => k_is); (case klaw => k_is)
    intro f_law d_law m_law F_law b_law
    refine' Y.k01.useC_Ring KX G (mc := .type "type") rfl ?qRing0 ?qRing1 ?qRing2 ?qRing3 ?qRing4 ?qRing5 ?qRing6 ?qRing7 ?qRing8 ?qRing9 ?qRing10 ?qRing11 ?qRing12 ?qRing13 ?qRing14 ?qRing15 ?qRing16 ?qRing17 ?qRing18 ?qRing19 ?qRing20 ?qRing21 ?qRing22 ?qRing23 ?qRing24 ?qRing25 ?qRing26 ?qRing27 ?qRing28 ?qRing29 ?qRing30 ?qRing31 ?qRing32 ?qRing33 ?qRing34 ?qRing35 ?qRing36 ?qRing37 ?qRing38 ?qRing39 ?qRing40 ?qRing41 ?rRing
    (case qRing0 => k_is); (case qRing1 => k_is); (case qRing2 => k_is); (case qRing3 => k_is); (case qRing4 => k_is); (case qRing5 => k_is); (case qRing6 => k_is); (case qRing7 => k_is); (case qRing8 => k_is); (case qRing9 => k_is); (case qRing10 => k_is); (case qRing11 => k_is); (case qRing12 => k_is); (case qRing13 => k_is); (case qRing14 => k_is); (case qRing15 => k_is); (case qRing16 => k_is); (case qRing17 => k_is); (case qRing18 => k_is); (case qRing19 => k_is); (case qRing20 => k_is); (case qRing21 => k_is); (case qRing22 => k_is); (case qRing23 => k_is); (case qRing24 => k_is); (case qRing25 => k_is); (case qRing26 => k_is); (case qRing27 => k_is); (case qRing28 => k_is); (case qRing29 => k_is); (case qRing30 => k_is); (case qRing31 => k_is); (case qRing32 => k_is); (case qRing33 => k_is); (case qRing34 => k_is); (case qRing35 => k_is); (case qRing36 => k_is); (case qRing37 => k_is); (case qRing38 => k_is); (case qRing39 => k_is); (case qRing40 => k_is); (case qRing41 => k_is)
    intro c_Ring mc_Ring f_Ring___init__ d_Ring___init__ f_Ring___contains__ d_Ring___contains__ f_Ring_gap d_Ring_gap f_Ring_before d_Ring_before f_Ring_within d_Ring_within f_Ring_wrap d_Ring_wrap F_Ring___init__ b_Ring___init__ F_Ring___contains__ b_Ring___contains__ F_Ring_gap b_Ring_gap F_Ring_before b_Ring_before F_Ring_within b_Ring_within F_Ring_wrap b_Ring_wrap x_mg_Ring x_cr_Ring x_cv_Ring_GREATEST x_cv_Ring_LEAST x_cl_Ring x_na_Ring_size x_mk_Ring x_mt_Ring___contains__ x_mt_Ring_gap x_mt_Ring_before x_mt_Ring_within x_mt_Ring_wrap
    have x_no_int : mg "int" = none := by
      refine' PySem.W.mg_none_of KX G ?nno_int
      (case nno_int => k_is)
    have x_no_len : mg "len" = none := by
      refine' PySem.W.mg_none_of KX G ?nno_len
      (case nno_len => k_is)
    have x_no_range : mg "range" = none := by
      refine' PySem.W.mg_none_of KX G ?nno_range
      (case nno_range => k_is)
    have x_no_isinstance : mg "isinstance" = none := by
      refine' PySem.W.mg_none_of KX G ?nno_isinstance
      (case nno_isinstance => k_is)
    have x_no_bool : mg "bool" = none := by
      refine' PySem.W.mg_none_of KX G ?nno_bool
      (case nno_bool => k_is)
    have e := hmg.symm.trans m_law
    cases e
    refine ⟨d_law, fun s u => .of_eq (b_law [u] rfl), fun base hb hg => ?_⟩
    exact (Y.k01.ok_law (a := { S := Y.SK _, f_purse := f_purse, d_purse := d_purse, f_draw := f_draw, d_draw := d_draw, f_width := f_width, d_width := d_width, f_is_whole := f_is_whole, d_is_whole := d_is_whole, f_in_range := f_in_range, d_in_range := d_in_range, f_Ring___init__ := f_Ring___init__, d_Ring___init__ := d_Ring___init__, f_code := f_code, d_code := d_code, f_Ring___contains__ := f_Ring___contains__, d_Ring___contains__ := d_Ring___contains__, f_Ring_gap := f_Ring_gap, d_Ring_gap := d_Ring_gap, f_is := f_is, d_is := d_is, f_truth := f_truth, d_truth := d_truth, f_Ring_before := f_Ring_before, d_Ring_before := d_Ring_before, f_pair := f_pair, d_pair := d_pair, f_Ring_within := f_Ring_within, d_Ring_within := d_Ring_within, f_triple := f_triple, d_triple := d_triple, f_walk := f_walk, d_walk := d_walk, f_Ring_wrap := f_Ring_wrap, d_Ring_wrap := d_Ring_wrap, f_offsets := f_offsets, d_offsets := d_offsets, f_law := _, d_law := d_law, c_Ring := c_Ring, mc_Ring := mc_Ring }) { st := rfl, no_int := x_no_int, mg_purse := m_purse, bd_purse := .all b_purse, fn_purse := F_purse, no_len := x_no_len, mg_draw := m_draw, bd_draw := .all b_draw, fn_draw := F_draw, no_range := x_no_range, mg_width := m_width, bd_width := .all b_width, fn_width := F_width, no_isinstance := x_no_isinstance, no_bool := x_no_bool, mg_is_whole := m_is_whole, bd_is_whole := .all b_is_whole, fn_is_whole := F_is_whole, mg_in_range := m_in_range, bd_in_range := .all b_in_range, mg_Ring := x_mg_Ring, cr_Ring := x_cr_Ring, cv_Ring_GREATEST := x_cv_Ring_GREATEST, cv_Ring_LEAST := x_cv_Ring_LEAST, fn_in_range := F_in_range, cl_Ring := x_cl_Ring, na_Ring_size := x_na_Ring_size, mk_Ring := x_mk_Ring, bd_Ring___init__ := b_Ring___init__, mg_code := m_code, bd_code := .all b_code, fn_code := F_code, mt_Ring___contains__ := x_mt_Ring___contains__, bd_Ring___contains__ := b_Ring___contains__, mt_Ring_gap := x_mt_Ring_gap, bd_Ring_gap := b_Ring_gap, mg_is := m_is, bd_is := .all b_is, fn_is := F_is, mg_truth := m_truth, bd_truth := .all b_truth, mt_Ring_before := x_mt_Ring_before, bd_Ring_before := b_Ring_before, fn_truth := F_truth, mg_pair := m_pair, bd_pair := .all b_pair, fn_pair := F_pair, mt_Ring_within := x_mt_Ring_within, bd_Ring_within := b_Ring_within, mg_triple := m_triple, bd_triple := .all b_triple, fn_triple := F_triple, mg_walk := m_walk, bd_walk := .all b_walk, fn_walk := F_walk, mt_Ring_wrap := x_mt_Ring_wrap, bd_Ring_wrap := b_Ring_wrap, mg_offsets := m_offsets, bd_offsets := .all b_offsets, fn_offsets := F_offsets, fn_Ring___init__ := F_Ring___init__, fn_Ring___contains__ := F_Ring___contains__, fn_Ring_gap := F_Ring_gap, fn_Ring_before := F_Ring_before, fn_Ring_within := F_Ring_within, fn_Ring_wrap := F_Ring_wrap, fn_law := F_law, bd_law := .all b_law, mg_law := m_law }).imp fun vs H Q E h => Y.k01.law_holds _ rfl vs H Q E h

