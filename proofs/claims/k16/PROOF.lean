import PyProof.Rows.All
import Wide.All
import OpenK.AllK
import Wide.FinOn
import HandS.ForMost
import HandS.ForExc
import HandS.IsInst
import HandS.ClsMeth
import HandS.Wide
import HandS.Flow
import HandS.Property
import HandS.WideBits
import HandS.ExcInit
import HandS.ExcSuper
import HandS.ExcField
import HandS.ExcIs
import HandS.ExcOwn
import HandS.WordsExc
import KE.KExcSuper
import KE.KSuper
import KE.KExcIs
import PySem.Challenge.RW_lossway_k16_estimate_backs
set_option Elab.async false
set_option linter.all false
set_option maxRecDepth 100000
set_option maxHeartbeats 4000000
/-! The layer of this work: readings without the written part, a def's promise by its own body. -/
namespace Y
open PySem PySem.Spec PyProof.Rows L2

/-! ### weaker readings -/
section
variable {X : Cx}
theorem pe_imp {e : Expr} {t t' : TE} (h : PE X e t) (hi : ∀ σ H Q, t' σ H Q → t σ H Q) : PE X e t' := ⟨fun pins s σ H Q I q => h.run pins s σ H Q I (hi σ H Q q)⟩
theorem ps_imp {e : Stmt} {t t' : TS} (h : PS X e t) (hi : ∀ D σ H, t' D σ H → t D σ H) : PS X e t' := ⟨fun pins s σ H D I q => h.run pins s σ H D I (hi D σ H q)⟩
theorem op_imp {f : Value → Value → Sem Value} {r r' : R2} (h : OpR X f r) (hi : ∀ x y H Q, r' x y H Q → r x y H Q) : OpR X f r' := fun pins s σ H x y v u Q I rx ry q => h pins s σ H x y v u Q I rx ry (hi x y H Q q)
theorem op_or {f : Value → Value → Sem Value} {r r' : R2} (h : OpR X f r) (h' : OpR X f r') : OpR X f (fun x y H Q => r x y H Q ∨ r' x y H Q) := fun pins s σ H x y v u Q I rx ry q =>
  q.elim (h pins s σ H x y v u Q I rx ry) (h' pins s σ H x y v u Q I rx ry)
theorem ix_imp {r r' : R2} (h : IxR X r) (hi : ∀ x y H Q, r' x y H Q → r x y H Q) : IxR X r' := fun value slice pins s σ H x y v u Q I rx ry q hs => h value slice pins s σ H x y v u Q I rx ry (hi x y H Q q) hs
theorem call_imp {f : Value} {r r' : List V → Hp → VK → Prop} (h : CallR X f r) (hi : ∀ xs H Q, r' xs H Q → r xs H Q) : CallR X f r' := fun pins s σ H xs us Q I rx q => h pins s σ H xs us Q I rx (hi xs H Q q)
end

/-! ### what stands at an address; S: static things, of the written part -/
abbrev Sta := Addr → HO → Prop
def SK (K : PySem.W.Frag) : Sta := fun a u => match u with
  | .lst xs => ∃ (o : Obj) (its : Array Value) (n : Nat), K.lookup a = some o ∧ o.cls = .type "list" ∧ o.dict = none ∧ o.data = .seq its n ∧ its.size ≤ sizeLine ∧ Vals xs its.toList
  | .tup xs => ∃ (o : Obj) (its : Array Value) (n : Nat), K.lookup a = some o ∧ o.cls = .type "tuple" ∧ o.data = .seq its n ∧ its.size ≤ sizeLine ∧ Vals xs its.toList
  | _ => False
def RdS (S : Sta) (H : Hp) (p : Addr) (u : HO) : Prop := Rd H p u ∨ S p u
theorem sqL {K : PySem.W.Frag} {S : Sta} {H : Hp} {p : Addr} {xs : List V} (e : S = SK K) (h : RdS S H p (.lst xs)) : SqL K H p xs := by subst e; exact h
theorem sqT {K : PySem.W.Frag} {S : Sta} {H : Hp} {p : Addr} {xs : List V} (e : S = SK K) (h : RdS S H p (.tup xs)) : SqT K H p xs := by subst e; exact h
/-- a list or a tuple -/
def Seq (S : Sta) (H : Hp) (p : Addr) (xs : List V) : Prop := RdS S H p (.lst xs) ∨ RdS S H p (.tup xs)

/-! ### operators -/
def rAdd : R2 := fun x y H Q => (∃ i j, x = .int i ∧ y = .int j ∧ Q (.int (i + j)) H) ∨ (∃ i j, x = .str i ∧ y = .str j ∧ i.length + j.length ≤ sizeLine ∧ Q (.str (i ++ j)) H)
  ∨ (∃ p q a b, x = .ref p ∧ y = .ref q ∧ H p = some (.lst a) ∧ H q = some (.lst b) ∧ a.length + b.length ≤ sizeLine ∧ ∀ r, H r = none → Q (.ref r) (upd H r (.lst (a ++ b))))
def rSub : R2 := rI0 fun i j => .int (i - j)
def rMul : R2 := rI CMul fun i j => .int (i * j)
def rFdiv : R2 := rI CDivW fun i j => .int (i / j)
def rMod : R2 := rI (fun _ j => 0 < j) fun i j => .int (i % j)
def rPow : R2 := rI CPow fun i j => .int (i ^ j.toNat)
def rShl : R2 := rI CPow fun i j => .int (i * 2 ^ j.toNat)
def rAnd : R2 := rI0 fun i j => .int (Builtin.bitAnd i j)
def rLt : R2 := rI0 fun i j => .bl (decide (i < j))
def rLe : R2 := rI0 fun i j => .bl (decide (i ≤ j))
def rGt : R2 := rI0 fun i j => .bl (decide (j < i))
def rGe : R2 := rI0 fun i j => .bl (decide (j ≤ i))
def rNeg : V → Hp → VK → Prop := rU fun i => .int (-i)
def rIs : R2 := fun x y H Q => y = .non ∧ Q (.bl (decide (x = .non))) H
def rIsNot : R2 := fun x y H Q => y = .non ∧ Q (.bl (!decide (x = .non))) H
section
variable {X : Cx}
theorem o_add : OpR X (binaryOp .Add) rAdd := op_imp (op_or op_add (op_or op_add_str op_cat)) fun x y H Q q => by
  rcases q with q | q | ⟨p, q, a, b, e1, e2, h1, h2, h3, h4⟩
  · exact .inl q
  · exact .inr (.inl q)
  · exact .inr (.inr ⟨p, q, a, b, e1, e2, h1, h2, h3, h4⟩)
theorem o_sub : OpR X (binaryOp .Sub) rSub := op_sub
theorem o_mul : OpR X (binaryOp .Mult) rMul := op_mul
theorem o_fdiv : OpR X (binaryOp .FloorDiv) rFdiv := op_fdivW
theorem o_mod : OpR X (binaryOp .Mod) rMod := op_mod
theorem o_pow : OpR X (binaryOp .Pow) rPow := op_pow
theorem o_shl : OpR X (binaryOp .LShift) rShl := op_shl
theorem o_and : OpR X (binaryOp .BitAnd) rAnd := op_and
theorem o_lt : OpR X (compareOp .Lt) rLt := op_lt
theorem o_le : OpR X (compareOp .LtE) rLe := op_le
theorem o_gt : OpR X (compareOp .Gt) rGt := op_gt
theorem o_ge : OpR X (compareOp .GtE) rGe := op_ge
theorem o_eq : OpR X (compareOp .Eq) rEq := op_eq
theorem o_ne : OpR X (compareOp .NotEq) rNe := op_ne
theorem o_is : OpR X (compareOp .Is) rIs := op_isN
theorem o_isnot : OpR X (compareOp .IsNot) rIsNot := op_notN
theorem o_neg : UnR X (unaryOp .USub) rNeg := un_neg
end

/-! ### subscripts, len, slices -/
def rIx (S : Sta) : R2 := fun x y H Q => (∃ p xs i v, x = .ref p ∧ y = .int i ∧ Seq S H p xs ∧ atI xs i = some v ∧ Q v H) ∨ (∃ z i c, x = .str z ∧ y = .int i ∧ z.length ≤ sizeLine ∧ atI z.cps.toList i = some c ∧ Q (.str ⟨#[c]⟩) H)
def rLen (S : Sta) : List V → Hp → VK → Prop := fun xs H Q => (∃ p ys, xs = [.ref p] ∧ Seq S H p ys ∧ Q (.int ys.length) H) ∨ (∃ z, xs = [.str z] ∧ z.length ≤ sizeLine ∧ Q (.int z.length) H)
def rInt : List V → Hp → VK → Prop := fun xs H Q => (∃ i, xs = [.int i] ∧ Q (.int i) H) ∨ ∃ k, xs = [.bl k] ∧ Q (.int (if k then 1 else 0)) H
def rStrI : List V → Hp → VK → Prop := fun xs H Q => ∃ i, xs = [.int i] ∧ i.natAbs.log2 < 1920 ∧ Q (.str (toString i)) H
def rSl (S : Sta) : V → Option Int → Option Int → Hp → VK → Prop := fun x lo hi H Q => ∃ a xs, x = .ref a ∧ RdS S H a (.lst xs) ∧ ∀ p, H p = none → Q (.ref p) (upd H p (.lst (cutV xs lo hi)))
section
variable {X : Cx}
variable {S : Sta}
theorem o_ix (st : S = SK X.K) : IxR X (rIx S) := ix_imp (ix_list.or (ix_tup.or ix_str)) fun x y H Q q => by
  rcases q with ⟨p, xs, i, v, e1, e2, h | h, h2, h3⟩ | q
  · exact .inl ⟨p, xs, i, v, e1, e2, sqL st h, h2, h3⟩
  · exact .inr (.inl ⟨p, xs, i, v, e1, e2, sqT st h, h2, h3⟩)
  · exact .inr (.inr q)
theorem c_len (st : S = SK X.K) : CallR X (.builtin "len") (rLen S) := call_imp call_len fun xs H Q q => by
  rcases q with ⟨p, ys, e, h | h, q⟩ | ⟨z, e, h, q⟩
  · exact ⟨_, _, e, .inl ⟨_, sqL st h, rfl⟩, q⟩
  · exact ⟨_, _, e, .inr ⟨_, sqT st h, rfl⟩, q⟩
  · exact ⟨_, _, e, ⟨h, rfl⟩, q⟩
theorem c_int : CallR X (.type "int") rInt := call_int1
theorem c_strI : CallR X (.type "str") rStrI := call_str_int
theorem o_sl (st : S = SK X.K) : SlR X (rSl S) := fun pins s σ H x v vl vu lo hi sl Q I rx hs pl pu h => by
  obtain ⟨a, xs, e, hx, q⟩ := h
  exact sl_list pins s σ H x v vl vu lo hi sl Q I rx hs pl pu ⟨a, xs, e, sqL st hx, q⟩
end

/-! ### small built-ins -/
def rAbs : List V → Hp → VK → Prop := fun xs H Q => ∃ i, xs = [.int i] ∧ Q (.int (if i < 0 then -i else i)) H
def rMin2 : List V → Hp → VK → Prop := fun xs H Q => ∃ i j, xs = [.int i, .int j] ∧ Q (.int (if j < i then j else i)) H
def rMax2 : List V → Hp → VK → Prop := fun xs H Q => ∃ i j, xs = [.int i, .int j] ∧ Q (.int (if j > i then j else i)) H
def rSum (S : Sta) : List V → Hp → VK → Prop := fun vs H Q => ∃ (a : Addr) (ns : List Int), vs = [V.ref a] ∧ RdS S H a (.lst (ns.map V.int)) ∧ Q (.int ns.sum) H
def rAll (S : Sta) : List V → Hp → VK → Prop := fun vs H Q => ∃ (a : Addr) (bs : List Bool), vs = [V.ref a] ∧ RdS S H a (.lst (bs.map V.bl)) ∧ Q (.bl (bs.all id)) H
def rMaxL (S : Sta) : List V → Hp → VK → Prop := fun vs H Q => ∃ (a : Addr) (ns : List Int), vs = [V.ref a] ∧ RdS S H a (.lst (ns.map V.int)) ∧ 0 < ns.length ∧ ∀ m, m ∈ ns → (∀ y, y ∈ ns → y ≤ m) → Q (.int m) H
def rMinL (S : Sta) : List V → Hp → VK → Prop := fun vs H Q => ∃ (a : Addr) (ns : List Int), vs = [V.ref a] ∧ RdS S H a (.lst (ns.map V.int)) ∧ 0 < ns.length ∧ ∀ m, m ∈ ns → (∀ y, y ∈ ns → m ≤ y) → Q (.int m) H
def rListOf (S : Sta) : List V → Hp → VK → Prop := fun xs H Q => ∃ p ys, xs = [.ref p] ∧ Seq S H p ys ∧ ∀ l, H l = none → Q (.ref l) (upd H l (.lst ys))
def rTupleOf (S : Sta) : List V → Hp → VK → Prop := fun xs H Q => ∃ p ys, xs = [.ref p] ∧ ((RdS S H p (.lst ys) ∧ ∀ l, H l = none → Q (.ref l) (upd H l (.tup ys))) ∨ (RdS S H p (.tup ys) ∧ Q (.ref p) H))
section
variable {X : Cx} {S : Sta}
theorem c_abs : CallR X (.builtin "abs") rAbs := call_abs
theorem c_min2 (hc : X.calm = true) : CallR X (.builtin "min") rMin2 := call_min2 hc
theorem c_max2 (hc : X.calm = true) : CallR X (.builtin "max") rMax2 := call_max2 hc
theorem c_sum (st : S = SK X.K) (hc : X.calm = true) : CallR X (.builtin "sum") (rSum S) := call_imp (cr_sum hc) fun xs H Q ⟨a, ns, e, h, q⟩ => ⟨a, ns, e, sqL st h, q⟩
theorem c_all (st : S = SK X.K) (hc : X.calm = true) : CallR X (.builtin "all") (rAll S) := call_imp (cr_all hc) fun xs H Q ⟨a, ns, e, h, q⟩ => ⟨a, ns, e, sqL st h, q⟩
theorem c_maxL (st : S = SK X.K) (hc : X.calm = true) : CallR X (.builtin "max") (rMaxL S) := call_imp (cr_max hc) fun xs H Q ⟨a, ns, e, h, q⟩ => ⟨a, ns, e, sqL st h, q⟩
theorem c_minL (st : S = SK X.K) (hc : X.calm = true) : CallR X (.builtin "min") (rMinL S) := call_imp (cr_min hc) fun xs H Q ⟨a, ns, e, h, q⟩ => ⟨a, ns, e, sqL st h, q⟩
theorem c_list (st : S = SK X.K) : CallR X (.type "list") (rListOf S) := call_imp call_list_of fun xs H Q ⟨p, ys, e, h, q⟩ => ⟨p, ys, e, h.elim (fun h => .inl (sqL st h)) (fun h => .inr (sqT st h)), q⟩
theorem c_tuple (st : S = SK X.K) : CallR X (.type "tuple") (rTupleOf S) := call_imp call_tuple_of fun xs H Q ⟨p, ys, e, h⟩ => ⟨p, ys, e, h.elim (fun h => .inl ⟨sqL st h.1, h.2⟩) (fun h => .inr ⟨sqT st h.1, h.2⟩)⟩
end

/-! ### == of data at any depth -/
mutual
inductive DpS (S : Sta) (H : Hp) : V → PyData → Prop
  | non : DpS S H .non .none
  | bl (b : Bool) : DpS S H (.bl b) (.bool b)
  | int (i : Int) : DpS S H (.int i) (.int i)
  | str (x : Str) : DpS S H (.str x) (.str x)
  | lst {a : Addr} {xs : List V} {ds : List PyData} : RdS S H a (.lst xs) → DpSs S H xs ds → DpS S H (.ref a) (.list ds)
  | tup {a : Addr} {xs : List V} {ds : List PyData} : RdS S H a (.tup xs) → DpSs S H xs ds → DpS S H (.ref a) (.tuple ds)
inductive DpSs (S : Sta) (H : Hp) : List V → List PyData → Prop
  | nil : DpSs S H [] []
  | cons {v : V} {vs : List V} {d : PyData} {ds : List PyData} : DpS S H v d → DpSs S H vs ds → DpSs S H (v :: vs) (d :: ds)
end
mutual
theorem DpS.dp {K : PySem.W.Frag} {S : Sta} (st : S = SK K) {H : Hp} : ∀ {v : V} {d : PyData}, DpS S H v d → Dp K H v d
  | _, _, .non => .non
  | _, _, .bl b => .bl b
  | _, _, .int i => .int i
  | _, _, .str x => .str x
  | _, _, .lst h r => .lst (sqL st h) (DpSs.dp st r)
  | _, _, .tup h r => .tup (sqT st h) (DpSs.dp st r)
theorem DpSs.dp {K : PySem.W.Frag} {S : Sta} (st : S = SK K) {H : Hp} : ∀ {v : List V} {d : List PyData}, DpSs S H v d → DpAll K H v d
  | _, _, .nil => .nil
  | _, _, .cons h r => .cons (DpS.dp st h) (DpSs.dp st r)
end
def rEqP (S : Sta) : R2 := fun x y H Q => rEq x y H Q ∨ ∃ d e, DpS S H x d ∧ DpS S H y e ∧ SeqAt.shaped d = true ∧ SeqAt.shaped e = true ∧ Q (.bl (PyData.eqv d e)) H
def rNeP (S : Sta) : R2 := fun x y H Q => rNe x y H Q ∨ ∃ d e, DpS S H x d ∧ DpS S H y e ∧ SeqAt.shaped d = true ∧ SeqAt.shaped e = true ∧ Q (.bl (!PyData.eqv d e)) H
section
variable {X : Cx} {S : Sta}
theorem o_eqP (st : S = SK X.K) (hu : X.A.units + 64 < cLine) : OpR X (compareOp .Eq) (rEqP S) := op_imp (op_or op_eq (op_eqD hu)) fun x y H Q q => q.elim .inl fun ⟨d, e, h1, h2, q⟩ => .inr ⟨d, e, h1.dp st, h2.dp st, q⟩
theorem o_neP (st : S = SK X.K) (hu : X.A.units + 64 < cLine) : OpR X (compareOp .NotEq) (rNeP S) := op_imp (op_or op_ne (op_neD hu)) fun x y H Q q => q.elim .inl fun ⟨d, e, h1, h2, q⟩ => .inr ⟨d, e, h1.dp st, h2.dp st, q⟩
end

/-! ### types -/
inductive TyN (H : Hp) : V → String → Prop where
  | non : TyN H .non "NoneType"
  | bl (b : Bool) : TyN H (.bl b) "bool"
  | int (i : Int) : TyN H (.int i) "int"
  | str (s : Str) : TyN H (.str s) "str"
  | lst {a : Addr} {xs : List V} (e : Rd H a (.lst xs)) : TyN H (.ref a) "list"
  | tup {a : Addr} {xs : List V} (e : Rd H a (.tup xs)) : TyN H (.ref a) "tuple"
  | dK {a : Addr} {kvs : List (Key × V)} (e : H a = some (.dK kvs)) : TyN H (.ref a) "dict"
theorem TyN.x {K : PySem.W.Frag} {H : Hp} {x : V} {n : String} (t : TyN H x n) : TyX K H x (.type n) := by
  cases t with
  | non => exact .base .non
  | bl b => exact .base (.bl b)
  | int i => exact .base (.int i)
  | str s => exact .base (.str s)
  | lst e =>
    rcases e with e | ⟨o, e⟩
    · exact .base (.lst e)
    · exact .base (.frz e)
  | tup e =>
    rcases e with e | ⟨o, e⟩
    · exact .base (.tup e)
    · exact .fTuple e
  | dK e => exact .base (.dK e)
/-- isinstance(x, n) of a built-in class n, for the types above -/
def isA (t n : String) : Bool := t == n || (t == "bool" && n == "int")
def rIsI : List V → Hp → VK → Prop := fun xs H Q => ∃ x n t, xs = [x, .ty n] ∧ TyN H x t ∧ kitB t n = some (isA t n) ∧ Q (.bl (isA t n)) H
theorem c_isi {X : Cx} : CallR X (.builtin "isinstance") rIsI := call_imp call_isi fun xs H Q q => by
  obtain ⟨x, n, t, e, ty, k, q⟩ := q
  exact ⟨x, .ty n, .type t, .type n, isA t n, e, .ty n, ty.x, kit_ty k, q⟩

/-! ### fields, methods -/
/-- a reading closed under weaker ends -/
def mo (te : TE) : TE := fun σ H Q => ∃ Q0 : VK, te σ H Q0 ∧ ∀ v H', Q0 v H' → Q v H'
def moA (ta : TA) : TA := fun σ H Q => ∃ Q0 : List V → Hp → Prop, ta σ H Q0 ∧ ∀ v H', Q0 v H' → Q v H'
def eFld (C : Addr) (f : Str) (te : TE) : TE := fun σ H Q => te σ H fun x H1 => ∃ a dx fs v, x = .ref a ∧ H1 a = some (.ins C dx fs) ∧ fs.lookup f = some v ∧ Q v H1
def sSetF (C : Addr) (f : Str) (te tv : TE) : TS := fun D σ H => tv σ H fun y H1 => te σ H1 fun x H2 => ∃ a dx fs, x = .ref a ∧ H2 a = some (.ins C dx fs) ∧ fs.length < 1000 ∧ D.nx σ (upd H2 a (.ins C dx (putF f y fs)))
/-- o.f, a property -/
def eProp (C : Addr) (sp : Sp) (te : TE) : TE := fun σ H Q => te σ H fun x H1 => ∃ a dx fs, x = .ref a ∧ H1 a = some (.ins C dx fs) ∧ sp [.ref a] H1 Q E0
/-- o.f += e -/
def sAugF (C : Addr) (f : Str) (te tv : TE) (rd : V → V → Hp → VK → Prop) : TS := fun D σ H => te σ H fun x H1 => ∃ a dx fs v, x = .ref a ∧ H1 a = some (.ins C dx fs) ∧ fs.lookup f = some v ∧
  tv σ H1 fun y H2 => rd v y H2 fun z H3 => ∃ dx' fs', H3 a = some (.ins C dx' fs') ∧ fs'.length < 1000 ∧ D.nx σ (upd H3 a (.ins C dx' (putF f z fs')))
/-- x.append(e) -/
def eApp (te : TE) (ta : TA) : TE := fun σ H Q => te σ H fun x H1 => ∃ l, x = .ref l ∧ (∃ xs, H1 l = some (.lst xs)) ∧ ta σ H1 fun vs H2 => rAppend x vs H2 Q
section
variable {X : Cx} {C : Addr} {f : Str} {e ev o : Expr} {es : List Expr} {te tv : TE} {ta : TA} {pos pos' pos2 apos cpos : Pos}
theorem pe_mo (he : PE X e te) : PE X e (mo te) := ⟨fun pins s σ H Q I ⟨Q0, h, hq⟩ => thn (he.run pins s σ H Q0 I h) fun _ _ ⟨v, H', I', r, q⟩ => ⟨v, H', I', r, hq v H' q⟩⟩
theorem pa_mo (he : PA X es ta) : PA X es (moA ta) := ⟨fun pos pins s σ H Q I ⟨Q0, h, hq⟩ => thn (he.run pos pins s σ H Q0 I h) fun _ _ ⟨v, H', I', r, q⟩ => ⟨v, H', I', r, hq v H' q⟩⟩
theorem pe_fldC (c : Cls X.K C) (n : NoAttr X.K C f) (he : PE X e te) (hb : attributeBase e f X.env (eval e X.env) = eval e X.env := by rfl) : PE X (.Attribute e f pos) (eFld C f te) :=
  pe_imp (pe_fld (pe_mo he) hb) fun σ H Q q => ⟨_, q, fun v H' ⟨a, dx, fs, w, e1, e2, l, q⟩ => ⟨a, C, dx, fs, w, e1, e2, c, n, l, q⟩⟩
theorem ps_setF (c : Cls X.K C) (n : NoAttr X.K C f) (ha : PE X o te) (hv : PE X ev tv) (hs : swapsWith ev (some (.Attribute o f pos')) pos.line X.env = pure false := by rfl) :
    PS X (.Assign [.Attribute o f pos'] ev pos) (sSetF C f te tv) :=
  ps_imp (ps_fld (pe_mo ha) (pe_mo hv) hs) fun D σ H q => ⟨_, q, fun y H1 q1 => ⟨_, q1, fun x H2 ⟨a, dx, fs, e1, e2, l, q2⟩ => ⟨a, C, dx, fs, e1, e2, c, n, l, q2⟩⟩⟩
theorem pe_propC {CX : CXT} {k : Nat} {p g : Addr} {fd : FuncData} {ps : List Str} {sp : Sp} (he : PE X e te) (c : Cls X.K C) (hp : PropOf X.K C f p g) (F : FnOk X.prog X.w X.K X.mg X.base CX k g fd ps sp) (hr : Room (k + 1) X.A) (hb : Binds X.K fd ps []) (hx : Passes CX X.nox E0)
    (hab : attributeBase e f X.env (eval e X.env) = eval e X.env := by rfl) : PE X (.Attribute e f pos) (eProp C sp te) := pe_imp (pe_prop he c hp F hr hb .nil hx hab) fun _ _ _ q => q
theorem ps_augF {op : Operator} {rd : V → V → Hp → VK → Prop} (c : Cls X.K C) (n : NoAttr X.K C f) (ha : PE X o te) (hv : PE X ev tv) (hop : InOp X op rd) : PS X (.AugAssign (.Attribute o f pos') op ev pos) (sAugF C f te tv rd) :=
  ps_imp (ps_fldaug (pe_mo ha) (pe_mo hv) hop) fun D σ H q => ⟨_, q, fun x H1 ⟨a, dx, fs, v, e1, e2, l, q2⟩ => ⟨a, C, dx, fs, v, e1, e2, c, n, l, ⟨_, q2, fun y H2 q3 => q3⟩⟩⟩
theorem pe_app (ho : PE X o te) (ha : PA X (e :: es) ta)
    (hbase : attributeBase o "append" X.env (eval o X.env) = eval o X.env := by rfl)
    (hfew : ((backTo cpos (starEach (e :: es) X.env)).all (fun x => !x.1) && (backToKw cpos (keywordEach [] X.env)).all (fun x => x.1.isSome)
      && decide ((e :: es).length + ([] : List Keyword).length + (if ([] : List Keyword).isEmpty then 0 else 1) < 30)) = true := by rfl)
    (hline : (apos.endLine == cpos.line) = true := by rfl) (hs : starEach (e :: es) X.env = (false, eval e X.env) :: starEach es X.env := by rfl) (hplain : (backTo cpos (starEach es X.env)).any (·.1) = false := by rfl) :
    PE X (.Call (.Attribute o "append" apos) (e :: es) [] cpos) (eApp te ta) :=
  pe_imp (pe_bm PySem.F.plainAttrs_list PySem.F.slot_list_append PySem.F.type_list_append mt_append (pe_mo ho) ha hbase hfew hline hs hplain) fun σ H Q q =>
    ⟨_, q, fun x H1 ⟨l, e1, ⟨xs, hl⟩, q1⟩ => by subst e1; exact ⟨.inl ⟨rfl, _, .inl (.inl hl)⟩, q1⟩⟩
end

/-! ### for, over a list or a tuple; over a range -/
/-- what is walked stays as it is -/
def Stays (S : Sta) (a : Addr) (xs : List V) (R : Nat → Hp → Prop) : Prop := (∀ i H, i ≤ xs.length → R i H → RdS S H a (.lst xs)) ∨ (∀ i H, i ≤ xs.length → R i H → RdS S H a (.tup xs))
def iSeq (K : PySem.W.Frag) (te : TE) : TI := fun σ H R => te σ H fun x H1 => ∃ a, x = .ref a ∧ (((∃ xs, SqL K H1 a xs) ∧ R (Itl K a) H1) ∨ ((∃ xs, SqT K H1 a xs) ∧ R (Itt K a) H1))
def sFor (S : Sta) (te : TE) (g : TG) (tb : TS) : TS := fun D σ H => te σ H fun x H1 => ∃ a xs, x = .ref a ∧ ∃ Pv : Nat → L2.St → Hp → Prop, Pv 0 σ H1 ∧ Stays S a xs (fun i H => ∃ σ, Pv i σ H) ∧
  (∀ i y σ H, xs[i]? = some y → Pv i σ H → g y σ H fun σ' H' => tb ⟨Pv (i + 1), D.rt, D.nx, Pv (i + 1)⟩ σ' H') ∧ ∀ σ H, Pv xs.length σ H → D.nx σ H
def sForR (lo : Option TE) (hi : TE) (g : TG) (tb : TS) : TS := fun D σ H =>
  let body : Int → Int → L2.St → Hp → Prop := fun lo hi σ1 H1 => (-(2 ^ 62) ≤ lo ∧ lo < 2 ^ 62 ∧ -(2 ^ 62) ≤ hi ∧ hi < 2 ^ 62) ∧ ∃ Pv : Nat → L2.St → Hp → Prop, Pv 0 σ1 H1 ∧
    (∀ (i : Nat) σ H, lo + i < hi → Pv i σ H → g (.int (lo + i)) σ H fun σ' H' => tb ⟨Pv (i + 1), D.rt, D.nx, Pv (i + 1)⟩ σ' H') ∧ ∀ σ H, Pv (hi - lo).toNat σ H → D.nx σ H
  match lo with
  | none => hi σ H fun y H1 => ∃ j, y = .int j ∧ body 0 j σ H1
  | some lo => lo σ H fun x H1 => hi σ H1 fun y H2 => ∃ i j, x = .int i ∧ y = .int j ∧ body i j σ H2
section
variable {X : Cx} {tg l a b : Expr} {te ta tb' : TE} {g : TG} {tb : TS} {body : List Stmt} {pos p : Pos}
theorem pi_seq (hl : PE X l te) : PI X tg l (iSeq X.K te) := by
  refine ⟨fun pins s σ H R I h => ?_⟩
  refine thn (hl.run pins s σ H _ I h) fun v s1 ⟨x, H1, I1, r1, q1⟩ => ?_
  obtain ⟨a, e, q⟩ := q1
  subst e
  cases r1
  have fp : ∀ b ∈ [s1.heap.objs.size], ∀ {s2 : Shared} , Inv X pins σ H1 s2 → s2.heap.objs.size = s1.heap.objs.size → FpOk X pins H1 b := fun b hb s2 I2 hs => by
    have e : b = s1.heap.objs.size := by simpa using hb
    subst e
    exact I1.fpOk (Nat.le_refl _) (I1.hok.fresh (Nat.le_refl _))
  rcases q with ⟨⟨xs, hq⟩, q⟩ | ⟨⟨xs, hq⟩, q⟩
  · obtain ⟨its, rv, p, hz⟩ := I1.list hq
    refine wpAny_pyIter_list p.isList ?_
    refine ⟨s1.heap.objs.size, [s1.heap.objs.size], _, _, H1, rfl, I1.kept (t' := s1.toks) fun b o e => Heap.get?_push_of_some _ e, turn_list a _, ⟨_, Heap.get?_push_size _ rfl, rfl, rfl⟩, fun b hb => fp b hb I1 rfl, q⟩
  · obtain ⟨its, rv, p, hz⟩ := I1.tuple hq
    refine wpAny_pyIter_tuple (show s1.heap.IsTuple a its.toArray from p) ?_
    refine ⟨s1.heap.objs.size, [s1.heap.objs.size], _, _, H1, rfl, I1.kept (t' := s1.toks) fun b o e => Heap.get?_push_of_some _ e, turn_tuple a _, ⟨_, Heap.get?_push_size _ rfl, rfl, rfl⟩, fun b hb => fp b hb I1 rfl, q⟩
theorem ps_forSeq {S : Sta} (st : S = SK X.K) (hp : PassesOwn (model X.prog X.w) X.A X.env X.xe) (hc : X.calm = true) (hl : PE X l te) (hg : PG X tg g) (hb : PSs X body tb) (hs : ∀ x, foldedSetIterable l X.env x = pure x := by intro _; rfl) :
    PS X (.For tg l body [] pos) (sFor S te g tb) :=
  ps_imp (ps_for hp hc (pi_seq (pe_mo hl)) hg hb hs) fun D σ H q => ⟨_, q, fun x H1 ⟨a, xs, e, Pv, h0, hst, ht, hd⟩ => by
    refine ⟨a, e, ?_⟩
    rcases hst with z | z
    · exact .inl ⟨⟨xs, sqL st (z 0 H1 (Nat.zero_le _) ⟨σ, h0⟩)⟩, for_list (K := X.K) (a := a) (xs := xs) Pv h0 (fun i σ H hi p => sqL st (z i H hi ⟨σ, p⟩)) ht hd⟩
    · exact .inr ⟨⟨xs, sqT st (z 0 H1 (Nat.zero_le _) ⟨σ, h0⟩)⟩, for_tup (K := X.K) (a := a) (xs := xs) Pv h0 (fun i σ H hi p => sqT st (z i H hi ⟨σ, p⟩)) ht hd⟩⟩
theorem ps_forR1 (hp : PassesOwn (model X.prog X.w) X.A X.env X.xe) (hc : X.calm = true) (hgl : Gl X "range") (hm : X.mg "range" = none) (ha : PE X a ta) (hg : PG X tg g) (hb : PSs X body tb) (hs : starEach [a] X.env = (false, eval a X.env) :: starEach [] X.env := by rfl)
    (hs' : ∀ x, foldedSetIterable (.Call (.Name "range" p) [a] [] pos2) X.env x = pure x := by intro _; rfl) :
    PS X (.For tg (.Call (.Name "range" p) [a] [] pos2) body [] pos) (sForR none ta g tb) :=
  ps_imp (ps_for hp hc (pi_range1 hgl hm (pa_cons (pe_mo ha) pa_nil hs) hs) hg hb hs') fun D σ H q => ⟨_, q, fun y H1 ⟨j, e, ⟨_, _, h1, h2⟩, Pv, h0, ht, hd⟩ => by
    subst e
    refine ⟨j, rfl, h1, h2, for_range (lo := 0) (n := j.toNat) Pv h0 (fun i σ H hi p => ht i σ H (by omega) p) fun σ H p => hd σ H (by rw [Int.sub_zero]; exact p)⟩⟩
theorem ps_forR2 (hp : PassesOwn (model X.prog X.w) X.A X.env X.xe) (hc : X.calm = true) (hgl : Gl X "range") (hm : X.mg "range" = none) (ha : PE X a ta) (hb' : PE X b tb') (hg : PG X tg g) (hb : PSs X body tb) (hs : starEach [a, b] X.env = (false, eval a X.env) :: starEach [b] X.env := by rfl) (hs2 : starEach [b] X.env = (false, eval b X.env) :: starEach [] X.env := by rfl)
    (hs' : ∀ x, foldedSetIterable (.Call (.Name "range" p) [a, b] [] pos2) X.env x = pure x := by intro _; rfl) :
    PS X (.For tg (.Call (.Name "range" p) [a, b] [] pos2) body [] pos) (sForR (some ta) tb' g tb) :=
  ps_imp (ps_for hp hc (pi_range2 hgl hm (pa_cons (pe_mo ha) (pa_cons (pe_mo hb') pa_nil hs2) hs) (hs.trans (by rw [hs2]; rfl)) hs2) hg hb hs') fun D σ H q => ⟨_, q, fun x H1 q1 => ⟨_, q1, fun y H2 ⟨i, j, e, e', ⟨h1, h2, h3, h4⟩, Pv, h0, ht, hd⟩ => by
    subst e e'
    exact ⟨i, j, rfl, ⟨h1, h2, h3, h4⟩, for_range (lo := i) (n := (j - i).toNat) Pv h0 (fun k σ H hi p => ht k σ H (by omega) p) hd⟩⟩⟩
end

/-! ### list comprehensions -/
def eLc (S : Sta) (te : TE) (g : TG) (tt : TT) (tel : TE) (vs : List Nat) : TE := fun σ H Q => te σ H fun x H1 => ∃ a xs, x = .ref a ∧ ∃ k : Bool, RdS S H1 a (if k then .lst xs else .tup xs) ∧ ∀ D, H1 D = none → ∃ Pv : Nat → Hp → Prop, Pv 0 (upd H1 D (.lst [])) ∧ (∀ i H, i ≤ xs.length → Pv i H → RdS S H a (if k then .lst xs else .tup xs)) ∧
  (∀ i y H, xs[i]? = some y → Pv i H → g y (wipe σ vs) H fun σ2 H2 => wipe σ2 vs = wipe σ vs ∧ tt σ2 H2 fun b H3 => if b = true then tel σ2 H3 fun z H4 => ∃ acc, H4 D = some (.lst acc) ∧ acc.length < sizeLine ∧ Pv (i + 1) (upd H4 D (.lst (acc ++ [z]))) else Pv (i + 1) H3) ∧
  ∀ H, Pv xs.length H → Q (.ref D) H
def eLcR (lo : Option TE) (hi : TE) (g : TG) (tt : TT) (tel : TE) (vs : List Nat) : TE := fun σ H Q =>
  let body : Int → Int → Hp → Prop := fun lo hi H1 => (-(2 ^ 62) ≤ lo ∧ lo < 2 ^ 62 ∧ -(2 ^ 62) ≤ hi ∧ hi < 2 ^ 62) ∧ ∀ D, H1 D = none → ∃ Pv : Nat → Hp → Prop, Pv 0 (upd H1 D (.lst [])) ∧
    (∀ (i : Nat) H, lo + i < hi → Pv i H → g (.int (lo + i)) (wipe σ vs) H fun σ2 H2 => wipe σ2 vs = wipe σ vs ∧ tt σ2 H2 fun b H3 => if b = true then tel σ2 H3 fun z H4 => ∃ acc, H4 D = some (.lst acc) ∧ acc.length < sizeLine ∧ Pv (i + 1) (upd H4 D (.lst (acc ++ [z]))) else Pv (i + 1) H3) ∧
    ∀ H, Pv (hi - lo).toNat H → Q (.ref D) H
  match lo with
  | none => hi σ H fun y H1 => ∃ j, y = .int j ∧ body 0 j H1
  | some lo => lo σ H fun x H1 => hi σ H1 fun y H2 => ∃ i j, x = .int i ∧ y = .int j ∧ body i j H2
section
variable {X : Cx} {tg l a b elt : Expr} {ifs : List Expr} {te ta tb' tel : TE} {tt : TT} {g : TG} {scope : Scope} {own : List (Str × Nat)} {pos p pos2 spos py : Pos}
/-- what a block of a comprehension asks -/
structure Blk (X : Cx) (scope : Scope) (tg elt : Expr) (ifs : List Expr) (g : TG) (tt : TT) (tel : TE) : Prop where
  hg : ∀ (s : Shared) (H : Hp) (C : Addr) (cl : List (Str × Addr)) (fp : List Addr), PG (X.blk s H scope (compEnvC scope cl C X.env) fp) tg g
  ht : ∀ (s : Shared) (H : Hp) (C : Addr) (cl : List (Str × Addr)) (fp : List Addr), PTs (X.blk s H scope (compEnvC scope cl C X.env) fp) ifs tt
  he : ∀ (s : Shared) (H : Hp) (C : Addr) (cl : List (Str × Addr)) (fp : List Addr), PE (X.blk s H scope (compEnvC scope cl C X.env) fp) elt tel
theorem lc_of {K : PySem.W.Frag} {S : Sta} (st : S = SK K) {vs : List Nat} {σ : L2.St} {H : Hp} {Q : VK} (q : eLc S te g tt tel vs σ H Q) : tLc (iSeq K (mo te)) g tt tel vs σ H Q := ⟨_, q, fun x H1 ⟨a, xs, e, k, rd, q⟩ => by
    refine ⟨a, e, ?_⟩
    cases k with
    | true =>
      refine .inl ⟨⟨xs, sqL st rd⟩, fun D hD => ?_⟩
      obtain ⟨Pv, h0, z, ht, hd⟩ := q D hD
      exact lc_list (K := K) (a := a) (xs := xs) Pv h0 (fun i H hi p => sqL st (z i H hi p)) ht hd
    | false =>
      refine .inr ⟨⟨xs, sqT st rd⟩, fun D hD => ?_⟩
      obtain ⟨Pv, h0, z, ht, hd⟩ := q D hD
      exact lc_tup (K := K) (a := a) (xs := xs) Pv h0 (fun i H hi p => sqT st (z i H hi p)) ht hd⟩
theorem pe_lcSeq {S : Sta} (st : S = SK X.K) (hc : X.calm = true) (hN : X.N.Nodup) (hl : PE X l te) (ok : BlkOk X.N X.env.scope scope own) (B : Blk X scope tg elt ifs g tt tel) (hs : ∀ x, foldedSetIterable l X.env x = pure x := by intro _; rfl) :
    PE X (.ListComp elt [⟨tg, l, ifs, 0⟩] scope pos) (eLc S te g tt tel (own.map (·.2))) := pe_imp (pe_lc hc hN (pi_seq (pe_mo hl)) ok B.hg B.ht B.he hs) fun _ _ _ q => lc_of st q
theorem ps_lcSeq {S : Sta} {i : Nat} {y : Str} (st : S = SK X.K) (hc : X.calm = true) (hN : X.N.Nodup) (hy : X.N[i]? = some y) (hyl : X.env.scope.names.lookup y = some .local)
    (hsw : swapsWith (.ListComp elt [⟨tg, l, ifs, 0⟩] scope pos) (some (.Name y py)) spos.line X.env = pure true) (hl : PE X l te) (ok : BlkOk X.N X.env.scope scope own) (B : Blk X scope tg elt ifs g tt tel) (hs : ∀ x, foldedSetIterable l X.env x = pure x := by intro _; rfl) :
    PS X (.Assign [.Name y py] (.ListComp elt [⟨tg, l, ifs, 0⟩] scope pos) spos) (tAsg (eLc S te g tt tel (own.map (·.2))) (gName i)) :=
  ps_imp (ps_setLc hc hN hy hyl hsw (pi_seq (pe_mo hl)) ok B.hg B.ht B.he hs) fun _ _ _ q => lc_of st q
theorem lcR1_of {vs : List Nat} {σ : L2.St} {H : Hp} {Q : VK} (q : eLcR none ta g tt tel vs σ H Q) : tLc (iRng1 (tCons (mo ta) tNil)) g tt tel vs σ H Q := ⟨_, q, fun y H1 ⟨j, e, ⟨_, _, h1, h2⟩, q⟩ => by
    subst e
    refine ⟨j, rfl, h1, h2, fun D hD => ?_⟩
    obtain ⟨Pv, h0, ht, hd⟩ := q D hD
    exact lc_range (lo := 0) (n := j.toNat) Pv h0 (fun i H hi p => ht i H (by omega) p) fun H p => hd H (by rw [Int.sub_zero]; exact p)⟩
theorem pe_lcR1 (hc : X.calm = true) (hN : X.N.Nodup) (hgl : Gl X "range") (hm : X.mg "range" = none) (ha : PE X a ta) (ok : BlkOk X.N X.env.scope scope own) (B : Blk X scope tg elt ifs g tt tel) (hs : starEach [a] X.env = (false, eval a X.env) :: starEach [] X.env := by rfl)
    (hs' : ∀ x, foldedSetIterable (.Call (.Name "range" p) [a] [] pos2) X.env x = pure x := by intro _; rfl) :
    PE X (.ListComp elt [⟨tg, .Call (.Name "range" p) [a] [] pos2, ifs, 0⟩] scope pos) (eLcR none ta g tt tel (own.map (·.2))) := pe_imp (pe_lc hc hN (pi_range1 hgl hm (pa_cons (pe_mo ha) pa_nil hs) hs) ok B.hg B.ht B.he hs') fun _ _ _ q => lcR1_of q
theorem ps_lcR1 {i : Nat} {y : Str} (hc : X.calm = true) (hN : X.N.Nodup) (hy : X.N[i]? = some y) (hyl : X.env.scope.names.lookup y = some .local) (hgl : Gl X "range") (hm : X.mg "range" = none)
    (hsw : swapsWith (.ListComp elt [⟨tg, .Call (.Name "range" p) [a] [] pos2, ifs, 0⟩] scope pos) (some (.Name y py)) spos.line X.env = pure true) (ha : PE X a ta) (ok : BlkOk X.N X.env.scope scope own) (B : Blk X scope tg elt ifs g tt tel)
    (hs : starEach [a] X.env = (false, eval a X.env) :: starEach [] X.env := by rfl) (hs' : ∀ x, foldedSetIterable (.Call (.Name "range" p) [a] [] pos2) X.env x = pure x := by intro _; rfl) :
    PS X (.Assign [.Name y py] (.ListComp elt [⟨tg, .Call (.Name "range" p) [a] [] pos2, ifs, 0⟩] scope pos) spos) (tAsg (eLcR none ta g tt tel (own.map (·.2))) (gName i)) :=
  ps_imp (ps_setLc hc hN hy hyl hsw (pi_range1 hgl hm (pa_cons (pe_mo ha) pa_nil hs) hs) ok B.hg B.ht B.he hs') fun _ _ _ q => lcR1_of q
end

/-! ### in, by an own __contains__ -/
section
open PySem.W
variable {prog : Program} {w : World} {A : Around} {E : Value → Shared → Prop} {s : Shared} {K : Frag} {x C f : Addr} {ox : Obj} {od : Option Obj}
theorem unlessNone_K {M : Model} {name : Str} {args : List Value} {refuse : Sem Value} {Q : Option Value → Shared → Prop} (X : K.In s.heap) (I : InstAt s.heap x ox C od) (hs : findIn K (.ref C) name = some (some (.ref f))) (hf : isFn K (.ref f) = true)
    (h : wpAny M A (call (.ref f) (.ref x :: args)) (fun v => Q (some v)) E s) : wpAny M A (callSpecialUnlessNone? (.ref x) name args refuse) Q E s := by
  simp only [callSpecialUnlessNone?]
  refine wpAny_bind (wpAny_bind (I.type.here ((looks_findIn X hs).here ?_)))
  refine wpAny_holding (wpAny_bind ((bind_fn X _ (beq_iff_eq.mp hf)).here ?_))
  show wpAny _ _ (if (Value.ref f == Value.none) = true then _ else _) _ _ _
  rw [if_neg (by simp)]
  exact wpAny_bind (wpAny_mono h (fun v s' h' => wpAny_pure h') fun _ _ h' => h')
theorem contains_K {v : Value} {Q : Bool → Shared → Prop} (X : K.In s.heap) (I : InstAt s.heap x ox C od) (hs : findIn K (.ref C) "__contains__" = some (some (.ref f))) (hf : isFn K (.ref f) = true)
    (h : wpAny (model prog w) A (call (.ref f) [.ref x, v]) (PySem.W.BoolBack Q) E s) : wpAny (model prog w) A (contains (.ref x) v) Q E s := by
  unfold contains
  refine wpAny_holding ?_
  show wpAny _ _ (specialOf (.ref x) (Str.ofString "__contains__") >>= _) _ _ _
  refine wpAny_bind (wpAny_bind (I.type.here ((looks_findIn X hs).here ?_)))
  show wpAny _ _ (if (some (Value.ref f) == some Value.none) = true then _ else _) _ _ _
  rw [if_neg (by simp)]
  refine wpAny_bind (unlessNone_K X I hs hf (wpAny_mono h (fun r s' hr => ?_) fun _ _ y => y))
  cases r <;> first | exact hr.elim | skip
  exact wpAny_truthy_bool hr
end
section
variable {X : Cx} {CX : CXT} {C f : Addr} {fd : FuncData} {ps : List Str} {sp : Sp} {E : XK} {k : Nat}
/-- y in x, x an instance of the class at C, by its __contains__ -/
def rInOwn (C : Addr) (neg : Bool) (sp : Sp) (E : XK) : R2 := fun y x H Q => ∃ a dx fs, x = .ref a ∧ H a = some (.ins C dx fs) ∧ sp [x, y] H (fun v H' => ∃ b, v = .bl b ∧ Q (.bl (if neg then !b else b)) H') E
theorem in_own {pins : List (Addr × Obj)} {σ : L2.St} {H : Hp} {s : Shared} {a dx : Addr} {fs : List (Str × V)} {y : V} {u : Value} {Q : Bool → Hp → Prop} (F : FnOk X.prog X.w X.K X.mg X.base CX k f fd ps sp) (hm : Meth X.K C "__contains__" f) (hr : Room k X.A) (hb : Binds X.K fd ps []) (hx : Passes CX X E)
    (I : Inv X pins σ H s) (ry : RelV y u) (ha : H a = some (.ins C dx fs)) (h : sp [.ref a, y] H (fun v H' => ∃ b, v = .bl b ∧ Q b H') E) :
    wpAny (model X.prog X.w) X.A (contains (.ref a) u) (TP X pins σ Q) X.xe s := by
  obtain ⟨mA, J, _⟩ := ins_get I.hok ha
  obtain ⟨od, J, _⟩ := J.look
  refine contains_K I.kIn J hm.at_ hm.fn (thn (run_fn (us := [.ref a, u]) (vs := [.ref a, y]) (dvs := []) (ds := []) F hr hb .nil hx I (.cons rfl (.cons ry .nil)) h) fun v s' q => ?_)
  obtain ⟨z, H', I', rz, b, ez, q⟩ := q
  subst ez
  cases rz
  exact ⟨H', I', q⟩
theorem o_inOwn (F : FnOk X.prog X.w X.K X.mg X.base CX k f fd ps sp) (hm : Meth X.K C "__contains__" f) (hr : Room k X.A) (hb : Binds X.K fd ps []) (hx : Passes CX X E) : OpR X (compareOp .In) (rInOwn C false sp E) := fun pins s σ H y x u v Q I ry rx h => by
  obtain ⟨a, dx, fs, e, ha, q⟩ := h
  subst e
  cases rx
  show wpAny _ _ (contains (.ref a) u >>= fun b => pure (Value.bool b)) _ _ _
  refine wpAny_bind (thn (in_own F hm hr hb hx I ry ha (Q := fun b H' => Q (.bl b) H') q) fun b s' hq => ?_)
  obtain ⟨H', I', q⟩ := hq
  exact wpAny_pure ⟨.bl b, H', I', rfl, q⟩
theorem o_notInOwn (F : FnOk X.prog X.w X.K X.mg X.base CX k f fd ps sp) (hm : Meth X.K C "__contains__" f) (hr : Room k X.A) (hb : Binds X.K fd ps []) (hx : Passes CX X E) : OpR X (compareOp .NotIn) (rInOwn C true sp E) := fun pins s σ H y x u v Q I ry rx h => by
  obtain ⟨a, dx, fs, e, ha, q⟩ := h
  subst e
  cases rx
  show wpAny _ _ (contains (.ref a) u >>= fun b => pure (Value.bool (!b))) _ _ _
  refine wpAny_bind (thn (in_own F hm hr hb hx I ry ha (Q := fun b H' => Q (.bl (!b)) H') q) fun b s' hq => ?_)
  obtain ⟨H', I', q⟩ := hq
  exact wpAny_pure ⟨.bl (!b), H', I', rfl, q⟩
end

/-! ### classes: constants, classmethods, a class held in a name -/
def eCon (v : V) : TE := fun _ H Q => Q v H
/-- the argument's heap, then a new instance and __init__ (tMake), the class in slot i -/
def eMakeL (i : Nat) (C : Addr) (sp : Sp) (dvs : List V) (E : XK) (t : TA) : TE := fun σ H Q => σ[i]? = some (some (.ref C)) ∧ tMake C sp dvs E t σ H Q
section
variable {X : Cx} {CX : CXT} {C f p g : Addr} {mc u : Value} {fd : FuncData} {ps : List Str} {sp : Sp} {E : XK} {k i : Nat} {x y m : Str} {v : V} {pos pos2 p2 apos : Pos} {e : Expr} {es : List Expr} {t : TA} {dvs : List V} {ds : List Value}
theorem pe_clsName (hg : Gl X x) (hm : X.mg x = some (.ref C)) (hdb : (x == ("__debug__" : Str)) = false := by decide) : PE X (.Name x p2) (eCon (.ref C)) := pe_imp (pe_glob hg hm (v := .ref C) rfl hdb) fun _ _ _ q => q
theorem pe_clsCon (r : ClX.CRead X.K C mc) (c : ClX.CVal X.K C mc y v u) (hg : Gl X x) (hm : X.mg x = some (.ref C)) (hdb : (x == ("__debug__" : Str)) = false := by decide)
    (hb : attributeBase (.Name x p2) y X.env (eval (.Name x p2) X.env) = eval (.Name x p2) X.env := by rfl) : PE X (.Attribute (.Name x p2) y pos) (eCon v) :=
  pe_imp (ClX.pe_cval (pe_clsName hg hm hdb) hb) fun _ _ _ q => ⟨C, mc, v, u, rfl, r, c, q⟩
theorem pe_makeL (M : Mk X.K C f) (F : FnOk X.prog X.w X.K X.mg X.base CX k f fd ps sp) (hr : Room (k + 1) X.A) (hN : X.N[i]? = some x) (hv : Vis X.env.scope x) (hb : Binds X.K fd ps ds) (hd : Vals dvs ds) (hx : Passes CX X E)
    (ha : PA X (e :: es) t) (hdb : (x == ("__debug__" : Str)) = false := by decide) (hcd : (x == ("__classdict__" : Str)) = false := by decide) (he : starEach (e :: es) X.env = (false, eval e X.env) :: starEach es X.env := by rfl) (hpl : (backTo pos (starEach es X.env)).any (·.1) = false := by rfl) :
    PE X (.Call (.Name x p2) (e :: es) [] pos) (eMakeL i C sp dvs E t) := by
  refine ⟨fun pins s σ H Q I h => ?_⟩
  obtain ⟨hs, ht⟩ := h
  refine wpAny_Call_Name_kw (thn ((pe_var (pos := p2) hN hv hdb hcd).run pins s σ H (fun v H1 => v = .ref C ∧ H1 = H) I ⟨.ref C, hs, rfl, rfl⟩) fun u s1 ⟨v, H1, I1, r1, q1⟩ => ?_)
  obtain ⟨rfl, rfl⟩ := q1
  cases r1
  refine PySem.W.callWith_K (h₀ := X.base) I.ok.mod.kin M.kp (thn (ha.run pos pins s1 σ _ _ I1 ht) fun us s2 ⟨vs, H2, I2, r, q⟩ => ⟨I2.kIn, ?_⟩) he hpl
  exact run_make M F hr hb hd hx I2 r q
end

/-- a module's constant -/
theorem pe_constI {X : Cx} {x : Str} {i : Int} {t : Tok} {p2 : Pos} (hm : X.mg x = some (.int i t)) (hg : Gl X x) (hdb : (x == ("__debug__" : Str)) = false := by decide) : PE X (.Name x p2) (tC (.int i)) := pe_imp (pe_glob hg hm (v := .int i) ⟨t, rfl⟩ hdb) fun _ _ _ q => q
def rAug : TIp := ipI fun i j => i + j
def rAugS : TIp := ipI fun i j => i - j
theorem ip_addI {X : Cx} : PIp X .Add rAug := ip_add
def rInAdd : V → V → Hp → VK → Prop := fun x y H Q => ∃ i j, x = .int i ∧ y = .int j ∧ Q (.int (i + j)) H
def rInSub : V → V → Hp → VK → Prop := fun x y H Q => ∃ i j, x = .int i ∧ y = .int j ∧ Q (.int (i - j)) H
theorem in_addI {X : Cx} : InOp X .Add rInAdd := in_add
theorem in_subI {X : Cx} : InOp X .Sub rInSub := in_sub
theorem ip_subI {X : Cx} : PIp X .Sub rAugS := ip_sub
def spRaw (sp : Sp) : Sp := fun vs H Q E => sp (vs ++ []) H Q E
/-! ### a def's promise, by its own body -/
def start (n : Nat) (vs : List V) : L2.St := vs.map some ++ List.replicate (n - vs.length) none
/-- n slots, m parameters -/
def spB (n m : Nat) (t : XK → TS) : Sp := fun vs H Q E => vs.length = m ∧ t E { nx := fun _ H' => Q .non H', rt := Q } (start n vs) H
theorem start_eq (N : List Str) (vs : List V) : L2.start N vs = start N.length vs := rfl
theorem passE {P : Program} {w : World} {K : PySem.W.Frag} {mg : Str → Option Value} {base : Heap} {N : List Str} {qual : Str} {scope : Scope} {f : Addr} {cd : Value} {A : Around} {outer : List Env} {s : Shared} {H : Hp} {E : XK} :
    Passes (L2.CX P w) (cxOf (L2.CX P w) P w K mg base N qual scope f cd A outer s H E) E := passes_call (takes_of rfl rfl rfl rfl) fun _ _ _ _ h => h
/-- where nothing is let out -/
theorem passN {X : Cx} : Passes (L2.CX X.prog X.w) X E0 := fun _ _ _ _ _ _ _ h => by
  obtain ⟨_, _, _, _, _, _, _, _, _, _, _, _, z⟩ := h
  exact z.elim
theorem ok_body {P : Program} {w : World} {K : PySem.W.Frag} {mg : Str → Option Value} {base : Heap} {x qual : Str} {st : Stmt} {f : Addr} {fd : FuncData} {N ps : List Str} {n m k : Nat} {t : XK → TS} (F : Fun K x qual st f fd) (S : FnScope N ps (defScope st)) (hn : N.length = n) (hm : ps.length = m)
    (h : ∀ (cdv : Value) (A : Around) (outer : List Env) (s : Shared) (H : Hp) (E : XK), Room k (A.deeper (envOfC qual (defScope st) s.heap.objs.size f cdv)) → PSs (cxOf (L2.CX P w) P w K mg base N qual (defScope st) f cdv A outer s H E) (defBody st) (t E)) :
    FnOk P w K mg base (L2.CX P w) (k + 1) f fd ps (spB n m t) := by
  subst hn
  subst hm
  exact F.okX S (fun vs H Q E q => q.1) fun cdv A outer s H vs Q E hr q => ⟨t E, h cdv A outer s H E hr, q.2⟩
/-! ### chains of comparisons, as tests -/
abbrev TC := L2.St → V → Hp → VK → Prop
def cLast (r : R2) (tb : TE) : TC := fun σ x H Q => tb σ H fun y H1 => r x y H1 Q
def cLink (r : R2) (tb : TE) (tl : TC) : TC := fun σ x H Q => tb σ H fun y H1 => r x y H1 fun z H2 => ∃ k, z = .bl k ∧ (if k = true then tl σ y H2 Q else Q (.bl false) H2)
def tChn (ta : TE) (tl : TC) : TE := fun σ H Q => ta σ H fun x H1 => tl σ x H1 Q
structure PCh (X : Cx) (ops : List CmpOp) (es : List Expr) (tl : TC) : Prop where
  run : ∀ (pos : Pos) (pins : List (Addr × Obj)) (s : Shared) (σ : L2.St) (H : Hp) (x : V) (v : Value) (Q : Bool → Hp → Prop), Inv X pins σ H s → RelV x v → tl σ x H (fun z H' => ∃ k, z = .bl k ∧ Q k H') → wpAny (model X.prog X.w) X.A (testChain pos v ops (evalEach es X.env)) (TP X pins σ Q) X.xe s
section
variable {X : Cx} {a b e e' : Expr} {es : List Expr} {ta tb : TE} {tl : TC} {r : R2} {op op' : CmpOp} {ops : List CmpOp} {pos : Pos}
theorem pch_last (ho : OpR X (compareOp op) r) (hb : PE X b tb) : PCh X [op] [b] (cLast r tb) :=
  ⟨fun pos pins s σ H x v Q I rx q => test_last (thn (hb.run pins s σ H _ I q) fun u s1 ⟨y, H1, I1, r1, q1⟩ => thn (ho pins s1 σ H1 x y v u _ I1 rx r1 q1) fun d s2 ⟨z, H2, I2, r2, k, e, q2⟩ => by
    subst e
    cases r2
    exact wpAny_truthy_bool ⟨H2, I2, q2⟩)⟩
theorem pch_link (ho : OpR X (compareOp op) r) (hb : PE X b tb) (hl : PCh X (op' :: ops) (e :: es) tl) : PCh X (op :: op' :: ops) (b :: e :: es) (cLink r tb tl) :=
  ⟨fun pos pins s σ H x v Q I rx q => test_link (thn (hb.run pins s σ H _ I q) fun u s1 ⟨y, H1, I1, r1, q1⟩ => thn (ho pins s1 σ H1 x y v u _ I1 rx r1 q1) fun d s2 ⟨z, H2, I2, r2, k, e, q2⟩ => by
    subst e
    cases r2
    refine wpAny_truthy_bool ?_
    cases k with
    | false =>
      obtain ⟨k', e', q'⟩ := q2
      cases e'
      exact ite_ff ⟨H2, I2, q'⟩
    | true => exact ite_tt (hl.run pos pins s2 σ H2 y u Q I2 r1 q2))⟩
theorem pt_chn (ha : PE X a ta) (hl : PCh X (op :: op' :: ops) (e :: e' :: es) tl) (hm : lastMarks (op :: op' :: ops) (e :: e' :: es) = false := by with_unfolding_all rfl) : PT X (.Compare a (op :: op' :: ops) (e :: e' :: es) pos) (tTest (tChn ta tl)) :=
  ⟨fun pins s σ H Q I h => isTrue_chain (thn (ha.run pins s σ H _ I h) fun v s1 ⟨x, H1, I1, r1, q1⟩ => hl.run pos pins s1 σ H1 x v Q I1 r1 q1) hm⟩
/-! ### x.bit_length() -/
def rBits : V → Hp → VK → Prop := fun x H Q => ∃ i, x = .int i ∧ Q (.int (Builtin.Int.intBits i : Nat)) H
theorem pe_bitsU {o : Expr} {to : TE} {apos pos : Pos} (ho : PE X o to) (hbase : attributeBase o "bit_length" X.env (eval o X.env) = eval o X.env := by rfl) (hline : (apos.endLine == pos.line) = true := by rfl) : PE X (.Call (.Attribute o "bit_length" apos) [] [] pos) (tUn rBits to) := pe_bits ho hbase hline
end
end Y

/-! Errors: defs that say super(), own exceptions, try with several clauses. -/
namespace Y
open PySem PySem.Spec PyProof.Rows L2
open PySem.W (ksEnv ksFn)

/-! ### statements under a known activation -/
structure PSA (X : Cx) (c : Code) (st : Stmt) (t : TS) : Prop where
  run : ∀ (pins : List (Addr × Obj)) (s : Shared) (σ : L2.St) (H : Hp) (D : Ends), Inv X pins σ H s → t D σ H → _root_.PySem.wpAt (model X.prog X.w) X.A c (exec st X.env) (SP X pins D) X.xe s
structure PSsA (X : Cx) (c : Code) (st : List Stmt) (t : TS) : Prop where
  run : ∀ (pins : List (Addr × Obj)) (s : Shared) (σ : L2.St) (H : Hp) (D : Ends), Inv X pins σ H s → t D σ H → _root_.PySem.wpAt (model X.prog X.w) X.A c (execs st X.env) (SP X pins D) X.xe s
section
variable {X : Cx} {c : Code} {st : Stmt} {rest body orelse : List Stmt} {t u : TS} {tc : TT} {test : Expr} {pos : Pos}
theorem psa_of (h : PS X st t) : PSA X c st t := ⟨fun pins s σ H D I q => wpAt_of_wpAny (h.run pins s σ H D I q)⟩
theorem pssa_of (h : PSs X rest t) : PSsA X c rest t := ⟨fun pins s σ H D I q => wpAt_of_wpAny (h.run pins s σ H D I q)⟩
theorem pssa_cons (h : PSA X c st t) (r : PSsA X c rest u) : PSsA X c (st :: rest) (tSeq t u) := ⟨fun pins s σ H D I q => by
  refine ks_wpAt_execs_cons (ks_wpAt_mono (h.run pins s σ H { D with nx := u D } I q) (fun f s1 hs => ?_) fun _ _ z => z)
  cases f with
  | next =>
    obtain ⟨σ1, H1, I1, q1⟩ := hs
    exact r.run pins s1 σ1 H1 D I1 q1
  | ret v => exact hs
  | brk => exact hs
  | cont => exact hs⟩
theorem pssa_one (h : PSA X c st t) : PSsA X c [st] t := ⟨fun pins s σ H D I q => by
  refine ks_wpAt_execs_cons (ks_wpAt_mono (h.run pins s σ H D I q) (fun f s1 hs => ?_) fun _ _ z => z)
  cases f with
  | next =>
    obtain ⟨σ1, H1, I1, q1⟩ := hs
    exact wpAt_of_wpAny (wpAny_execs_nil ⟨σ1, H1, I1, q1⟩)
  | ret v => exact hs
  | brk => exact hs
  | cont => exact hs⟩
theorem psa_if (hc : PT X test tc) (ha : PSsA X c body t) (hb : PSsA X c orelse u) : PSA X c (.If test body orelse pos) (tIfS tc t u) := ⟨fun pins s σ H D I q => by
  refine ks_wpAt_If (wpAt_of_wpAny (thn (hc.run pins s σ H _ I q) fun b s1 ⟨H1, I1, q1⟩ => ?_))
  cases b with
  | true => exact ha.run pins s1 σ H1 D I1 q1
  | false => exact hb.run pins s1 σ H1 D I1 q1⟩
end

/-! ### a def that closes over __class__ -/
structure FnScS (N P : List Str) (sc : Scope) : Prop where
  kind : sc.kind = .function
  co : sc.isCoroutine = false
  gen : sc.isGenerator = false
  nd : N.Nodup
  pre : N.take P.length = P
  par : ∀ x ∈ P, sc.names.lookup x = some .local
  nocell : ∀ y ∈ sc.names, y.2 ≠ .cell
  free : ∀ y ∈ sc.names, y.2 = .free → y.1 = "__class__"
def cxS (P : Program) (w : World) (K : PySem.W.Frag) (mg : Str → Option Value) (base : Heap) (N : List Str) (qual : Str) (scope : Scope) (f : Addr) (cd : Value) (cc : Addr) (A : Around) (outer : List Env) (s : Shared) (H : Hp) (E : XK) : Cx where
  prog := P
  w := w
  K := K
  mg := mg
  base := base
  A := A.deeper (ksEnv qual scope s.heap.objs.size f cd cc)
  N := N
  s_0 := s
  H_0 := H
  env := ksEnv qual scope s.heap.objs.size f cd cc
  outer := outer
  stack := ksEnv qual scope s.heap.objs.size f cd cc :: outer
  ex := []
  calm := true
  fn := fun _ => false
  pn := []
  xe := fun e s' => wpAny (model P w) (A.deeper (ksEnv qual scope s.heap.objs.size f cd cc)) (leaving (ksEnv qual scope s.heap.objs.size f cd cc) e) (fun _ s'' => L2.CX P w outer H s E e s'') (fun e' s'' => L2.CX P w outer H s E e' s'') s'
theorem lookup_nd {l : List (Str × Value)} {x : Str} {v : Value} (nd : (l.map (·.1)).Nodup) (m : (x, v) ∈ l) : l.lookup x = some v := by
  induction l with
  | nil => cases m
  | cons p r ih =>
    obtain ⟨y, z⟩ := p
    rw [List.map_cons, List.nodup_cons] at nd
    rcases List.mem_cons.mp m with e | m
    · cases e
      simp [List.lookup]
    · have hne : x ≠ y := fun e => nd.1 (by rw [← e]; exact List.mem_map_of_mem (f := (·.1)) m)
      have hb : (x == y) = false := by simpa using hne
      show (match x == y with | true => some z | false => r.lookup x) = some v
      rw [hb]
      exact ih nd.2 m
theorem zip_get {P : List Str} {us : List Value} {i : Nat} {x : Str} {u : Value} (h1 : P[i]? = some x) (h2 : us[i]? = some u) : (x, u) ∈ P.zip us := by
  refine List.mem_of_getElem? (i := i) ?_
  rw [List.getElem?_zip_eq_some]
  exact ⟨h1, h2⟩
theorem zip_keys : ∀ {P : List Str} {us : List Value}, us.length = P.length → (P.zip us).map (·.1) = P
  | [], [], _ => rfl
  | p :: P, u :: us, h => by
    rw [List.zip_cons_cons, List.map_cons, zip_keys (by simpa using h)]
  | [], _ :: _, h => by simp at h
  | _ :: _, [], h => by simp at h
theorem inv_startS {P : Program} {w : World} {K : PySem.W.Frag} {mg : Str → Option Value} {base : Heap} {N ps : List Str} {qual : Str} {scope : Scope} {f cc D : Addr} {cd cl : Value} {cld : Option Addr} {csl : Array (Option Value)} {A : Around} {outer : List Env} {s : Shared} {h1 : Heap} {tk : Nat} {H : Hp} {E : XK} {us : List Value} {vs : List V}
    (S : FnScS N ps scope) (hcc : K.lookup cc = some ⟨cl, cld, .cell (some (.ref D)), csl⟩) (hd : A.handled = none) (e0 : Env0 P w K mg base A outer s H) (hl : vs.length = ps.length) (r : Vals vs us)
    (hns : h1.Ns s.heap.objs.size (fun x => (ps.zip us).reverse.lookup x)) (hk : ∀ b o, s.heap.get? b = some o → h1.get? b = some o) :
    Inv (cxS P w K mg base N qual scope f cd cc A outer s H E) [] (L2.start N vs) H { s with heap := h1, toks := tk } := by
  have hpl : ps.length ≤ N.length := by have := congrArg List.length S.pre; rw [List.length_take] at this; omega
  have noA : ∀ b : Addr, b ∉ (cxS P w K mg base N qual scope f cd cc A outer s H E).ex := fun b z => absurd (show b ∈ ([] : List Addr) from z) (by simp)
  have cells : ∀ (y : Str) (c : Addr), (cxS P w K mg base N qual scope f cd cc A outer s H E).env.cells.lookup y = some c → y = "__class__" ∧ c = cc := fun y c h => by
    have h : ([(("__class__" : Str), cc)] : List (Str × Addr)).lookup y = some c := h
    simp only [List.lookup] at h
    split at h
    · rename_i e
      exact ⟨by simpa using e, (Option.some.inj h).symm⟩
    · cases h
  have bcc := e0.mod.kin _ _ hcc
  have hus : us.length = ps.length := by rw [← r.length]; exact hl
  have ndP : ps.Nodup := by rw [← S.pre]; exact S.nd.sublist (List.take_sublist _ _)
  refine ⟨⟨e0.mod, S.kind, rfl, rfl, Nat.le_refl _, fun y z c h1 h2 => (cells y c h1).1.trans (cells z c h2).1.symm, fun y hy => ?_, fun y c z _ => absurd (show false = true from z) (by simp), fun _ => hd, Around.frames_deeper e0.frames, .inr ⟨rfl, rfl⟩, fun b z => absurd z (noA b), e0.bs, e0.bsz, fun b _ _ => noA b, fun b z => absurd z (noA b), e0.funs, e0.frf⟩,
    rfl, e0.bare, Un.kept hk, ⟨_, hns, fun i y v h1 h2 h3 => ?_⟩, fun y c h => ?_, e0.hok.fresh (Nat.le_refl _), fun y c h => ?_, fun p hp => absurd (show p ∈ ([] : List (Addr × Obj)) from hp) (by simp), e0.hok.kept hk, ?_⟩
  · have hy : scope.names.lookup y = some .cell ∨ scope.names.lookup y = some .free := hy
    rcases hy with hy | hy
    · exact absurd rfl (S.nocell _ (PySem.mem_of_lookup hy))
    · have e := S.free _ (PySem.mem_of_lookup hy) rfl
      have e : y = "__class__" := e
      subst e
      exact ⟨cc, by show List.lookup ("__class__" : Str) [(("__class__" : Str), cc)] = some cc; simp [List.lookup]⟩
  · have hi : i < vs.length := by
      unfold L2.start at h2
      by_cases hi : i < vs.length
      · exact hi
      · rw [List.getElem?_append_right (by simpa using hi), List.getElem?_replicate] at h2
        split at h2 <;> cases h2
    have ha : vs[i]? = some v := by
      unfold L2.start at h2
      rw [List.getElem?_append_left (by simpa using hi), List.getElem?_map] at h2
      cases e : vs[i]? with
      | none => rw [e] at h2; cases h2
      | some a => rw [e] at h2; cases h2; rfl
    obtain ⟨u, hu, rv⟩ := r.get ha
    have hp : ps[i]? = some y := by
      rw [← S.pre, List.getElem?_take_of_lt (by omega)]; exact h1
    refine ⟨u, rv, .inl ⟨S.par y (List.mem_of_getElem? hp), ?_⟩⟩
    show (ps.zip us).reverse.lookup y = some u
    have hk : ((ps.zip us).map (·.1)).Nodup := by rw [zip_keys hus]; exact ndP
    rw [PySem.lookup_reverse_of_nodup _ hk]
    exact lookup_nd hk (zip_get hp hu)
  · obtain ⟨rfl, rfl⟩ := cells y c h
    exact ⟨_, ⟨_, hk _ _ (e0.bs _ _ bcc).1, rfl⟩⟩
  · obtain ⟨rfl, rfl⟩ := cells y c h
    exact (e0.bs _ _ bcc).2
  · unfold L2.start
    show _ = N.length
    rw [List.length_append, List.length_map, List.length_replicate]
    omega
/-- the rule for such a def -/
theorem fn_ofS {P : Program} {w : World} {K : PySem.W.Frag} {mg : Str → Option Value} {base : Heap} {k : Nat} {f cc D : Addr} {name qual : Str} {params : Arguments} {body : List Stmt} {scope : Scope} {dV kV doc pm cdv ct oc cl : Value} {an od cld : Option Addr}
    {osl csl : Array (Option Value)} {N ps : List Str} {sp : Sp} (lk : K.lookup f = some ⟨oc, od, .func (ksFn name qual params body scope dV kV doc pm an cdv ct cc), osl⟩) (hcd : PySem.W.codeIn K cdv qual = true)
    (hcc : K.lookup cc = some ⟨cl, cld, .cell (some (.ref D)), csl⟩) (S : FnScS N ps scope) (len : ∀ vs H Q E, sp vs H Q E → vs.length = ps.length)
    (hbody : ∀ (A : Around) (outer : List Env) (s : Shared) (H : Hp) (vs : List V) (Q : VK) (E : XK), Room k (A.deeper (ksEnv qual scope s.heap.objs.size f cdv cc)) → sp vs H Q E →
      ∃ t, PSsA (cxS P w K mg base N qual scope f cdv cc A outer s H E) (.func body (ksEnv qual scope s.heap.objs.size f cdv cc)) body t ∧ t { nx := fun _ H' => Q .non H', rt := Q } (L2.start N vs) H) :
    FnOk P w K mg base (L2.CX P w) (k + 1) f (ksFn name qual params body scope dV kV doc pm an cdv ct cc) ps sp := by
  refine ⟨len, fun A outer s H args us vs Q E hr e0 hb r hsp => ?_⟩
  have hl := len _ _ _ _ hsp
  have hus : us.length = ps.length := by rw [← r.length]; exact hl
  have KX : K.In s.heap := e0.mod.kin.keeps fun b o e => (e0.bs b o e).1
  have lim : s.heap.NoLimit := e0.mod.nolimit.keeps fun b o e => (e0.bs b o e).1
  have hloc : ∀ x ∈ ps.zip us, scope.names.lookup x.1 = some .local := fun ⟨n, v⟩ hy => S.par n (List.of_mem_zip hy).1
  refine ks_codeAny_call_defAt (fd := ksFn name qual params body scope dV kV doc pm an cdv ct cc) (body := body) (binds := ps.zip us) hr.depth (KX _ _ lk) rfl lim (PySem.W.codeRec_of KX hcd) rfl hb S.nocell hloc (fun h1 hns hk => ?_) S.co S.gen S.kind
  obtain ⟨t, ht, hq⟩ := hbody A outer s H vs Q E (hr.deeper _) hsp
  have I := inv_startS (tk := s.toks + (ps.zip us).length) (f := f) (qual := qual) (cd := cdv) (E := E) S hcc hr.hd e0 hl r hns hk
  refine ks_wpAt_mono (ht.run [] _ (L2.start N vs) H _ I hq) (fun fl s' hs => ?_) fun e s' hs => hs
  have fin : ∀ {σ' : L2.St} {H' : Hp} {v : V} {u : Value}, Inv (cxS P w K mg base N qual scope f cdv cc A outer s H E) [] σ' H' s' → RelV v u → Q v H' → CE outer P w H s Q u s' :=
    fun {σ' H' v u} J rv q => ⟨v, H', J.os, J.bare, J.base, J.hok, rv, q⟩
  cases fl with
  | ret u =>
    obtain ⟨v, σ', H', J, rv, q⟩ := hs
    exact fin J rv q
  | next =>
    obtain ⟨σ', H', J, q⟩ := hs
    exact fin (v := V.non) (u := Value.none) J rfl q
  | brk =>
    obtain ⟨_, _, _, q⟩ := hs
    exact False.elim q
  | cont =>
    obtain ⟨_, _, _, q⟩ := hs
    exact False.elim q

/-! ### super() -/
theorem sup_base {X : Cx} {pins : List (Addr × Obj)} {σ : L2.St} {H : Hp} {s : Shared} {body : List Stmt} {p0 p1 : Pos} {attr : Str} {whole : Sem Value} {f cc cda D x C : Addr} {fd : FuncData} {ar : Arg} {vs : Array Value} {file : Str} {tf : Tok} {oc ccl cl : Value} {od cdd cld : Option Addr} {osl ccs csl : Array (Option Value)} {cdD : ClassData} {ox : Obj} {odx : Option Obj} {Q : Value → Shared → Prop} {E : Value → Shared → Prop}
    (I : Inv X pins σ H s) (hks : X.env.kindOf "super" = some .globalImplicit) (hkc : X.env.kindOf "__class__" = some .free) (hat : (attr == ("__class__" : Str)) = false) (hfu : X.env.func = some f) (hf : X.K.lookup f = some ⟨oc, od, .func fd, osl⟩) (hp : (fd.params.posonlyargs ++ fd.params.args).head? = some ar)
    (hco : X.env.code = .ref cda) (hcode : X.K.lookup cda = some ⟨ccl, cdd, .fields vs, ccs⟩) (hvs : vs[2]? = some (.str file tf)) (hfile : ((X.prog.main.file : Str) == file) = true) (htop : (X.prog.main.scope.names.lookup ("super" : Str)).isSome = false) (hm : X.mg "super" = none)
    (hcl : X.env.cells.lookup ("__class__" : Str) = some cc) (hcell : X.K.lookup cc = some ⟨cl, cld, .cell (some (.ref D)), csl⟩) (hD : PySem.W.clsIn X.K D = some cdD) (hka : X.env.kindOf ar.arg = some .local) (hN : X.N[0]? = some ar.arg) (hσ : σ[0]? = some (some (.ref x)))
    (J : PySem.W.InstAt s.heap x ox C odx) (hsub : PySem.W.mroIn X.K C (.ref D) = some true)
    (h : ∀ h', h'.get? s.heap.objs.size = some (PySem.W.ks_superObj D x C) → (∀ b o, s.heap.get? b = some o → h'.get? b = some o) → Q (.ref s.heap.objs.size) { s with heap := h' }) :
    _root_.PySem.wpAt (model X.prog X.w) X.A (.func body X.env) (attributeBase (.Call (.Name "super" p0) [] [] p1) attr X.env whole) Q E s := by
  have KX := I.kIn
  obtain ⟨m, hn, hl⟩ := id I.loc
  obtain ⟨u, ru, lk⟩ := hl 0 ar.arg (.ref x) hN hσ (.inl hka)
  obtain ⟨mb, b1, b2⟩ := I.mod.blt
  have hg : s.heap.Ns X.env.globals X.mg := by rw [I.ok.glob]; exact I.mod.glob.keeps I.bk
  have hb : s.heap.Ns X.env.builtins mb := by rw [I.ok.blt]; exact b1.keeps I.bk
  have hk := I.ok.kind
  have em : m ar.arg = some (.ref x) := by
    have ru' : u = Value.ref x := ru
    subst ru'
    rcases lk with ⟨_, e⟩ | ⟨e, _⟩
    · exact e
    · rw [hka] at e
      rcases e with e | e <;> cases e
  obtain ⟨oD, hD1, hD2⟩ : ∃ oD, s.heap.get? D = some oD ∧ oD.data = .cls cdD := by
    unfold PySem.W.clsIn at hD
    split at hD
    · rename_i q1 q2 q3 q4 ho
      cases hD
      exact ⟨_, KX _ _ ho, rfl⟩
    · cases hD
  obtain ⟨hh, g, d, t, os⟩ := s
  refine ks_wpAt_super_base hks hkc hat hfu (KX _ _ hf) rfl hp hco (KX _ _ hcode) rfl hvs hfile htop ?_
  refine PySem.W.ks_loadName_global hk hks (PySem.Calls.loadGlobal_builtin hg hm hb ((b2 _ (by decide)).trans PyProof.Rows.Boot.«super») ⟨rfl, ?_⟩)
  refine PySem.wpAny_loadName_free hk hkc hcl ⟨_, KX _ _ hcell, rfl⟩ ?_
  refine wpAny_loadName_local hk hka hn em ?_
  refine ks_wpAny_isType_cls hD1 hD2 ⟨rfl, ?_⟩
  refine ks_wpAny_call_super hD1 hD2 J.at_ J.cls (fun c e => ?_) (PySem.W.looks_mroIn KX hsub) fun h' e k => h h' e k
  have z := J.no
  unfold PySem.W.notCls at z
  rw [e] at z
  exact Bool.noConfusion z
/-- the bound ValueError.__init__ called -/
theorem call_vw {prog : Program} {w : World} {A : Around} {E : Value → Shared → Prop} {h : Heap} {g : Array GenState} {d : Drawn} {t : Nat} {os : OsState} {nm q : Str} {C N u e t0 : Addr} {bs bm : List Value} {hdct : Bool} {sn : List Str} {sub : List Value} {ab : Bool} {col : Option Bool} {dd : Option Addr} {k0 k1 k2 k3 k5 : Option Value}
    {rest : List Value} {Q : Value → Shared → Prop} (hC : h.get? C = some (excClassObj nm q C N bs bm hdct sn sub ab col dd k0 k1 k2 k3 k5 "ValueError.__new__")) (he : h.get? e = some (HandSPX.excO C t0)) (hu : h.get? u = some (PySem.W.kxs_mw "ValueError.__init__" e)) (hz : rest.length ≤ sizeLine)
    (hq : ∀ h' t1, (∀ b o, b ≠ e → h.get? b = some o → h'.get? b = some o) → h'.get? e = some (HandSPX.excO C t1) → Q .none ⟨h', g, d, t, os⟩) : wpAny (model prog w) A (call (.ref u) rest) Q E ⟨h, g, d, t, os⟩ := by
  refine wpAny_call (codeAny_of_tree ?_)
  show wpAny _ A.in1 (callAny (.ref u) ⟨rest, []⟩) _ _ _
  simp only [callAny]
  refine wpAny_bind (wpAny_load hu ?_)
  simp only [PySem.W.kxs_mw, (by decide : (Value.type "method-wrapper" == Value.type "method" || Value.type "method-wrapper" == Value.type "builtin_function_or_method" || Value.type "method-wrapper" == Value.type "method-wrapper") = true), if_true]
  refine PySem.W.KFB.if_so (by decide) ?_
  refine wpAny_bind (PySem.ESX.check_bound F.excBase_ValueError hC he rfl (wpAny_bind (wpAny_pure (wpAny_pure ⟨Code.quiet_builtin _ (by decide +kernel), codeAny_builtin F.excBase_ValueError.initEntry ?_⟩))))
  rw [Around.under_plainId F.excBase_ValueError.init.plain _]
  wp_walk
  refine hq _ h.objs.size (fun b o hb ho => (Heap.get?_update_other _ _ (Ne.symm hb)).trans (Heap.get?_push_of_some _ ho)) ?_
  rw [Heap.get?_update_self _ (Heap.get?_push_of_some _ he) rfl]
  rfl
/-- what the written part says of the class at C, where super() stands in a method of the class at D and finds ValueError.__init__ -/
structure SupV (K : PySem.W.Frag) (C D : Addr) : Prop where
  ex : OexC K C
  opq : PySem.W.nsIn K PySem.cStatics "thirdparty.any" = some none
  fnd : PySem.W.ks_superIn K C D "__init__" = some (some (.builtin "ValueError.__init__"))
  sub : PySem.W.subIn K (.ref C) (.type "ValueError") = some true
  mro : PySem.W.mroIn K C (.ref D) = some true
/-- super().__init__(..) of an exception that is being made -/
def tSupV (K : PySem.W.Frag) (D : Addr) (ta : TA) : TE := fun σ H Q => ∃ a C : Addr, σ[0]? = some (some (.ref a)) ∧ H a = some (exo a C none) ∧ SupV K C D ∧ ta σ H fun vs H1 => vs.length ≤ 1000 ∧ H1 a = some (exo a C none) ∧ Q .non H1
/-- what the text says of the method that says super() -/
structure SupT (X : Cx) (D : Addr) : Prop where
  ex : ∃ (f cc cda : Addr) (fd : FuncData) (ar : Arg) (vs : Array Value) (file : Str) (tf : Tok) (oc ccl cl : Value) (od cdd cld : Option Addr) (osl ccs csl : Array (Option Value)) (cdD : ClassData),
    X.env.func = some f ∧ X.K.lookup f = some ⟨oc, od, .func fd, osl⟩ ∧ (fd.params.posonlyargs ++ fd.params.args).head? = some ar ∧ X.env.code = .ref cda ∧ X.K.lookup cda = some ⟨ccl, cdd, .fields vs, ccs⟩ ∧ vs[2]? = some (.str file tf) ∧ ((X.prog.main.file : Str) == file) = true ∧
    X.env.cells.lookup ("__class__" : Str) = some cc ∧ X.K.lookup cc = some ⟨cl, cld, .cell (some (.ref D)), csl⟩ ∧ PySem.W.clsIn X.K D = some cdD ∧ X.env.kindOf ar.arg = some .local ∧ X.N[0]? = some ar.arg
  ks : X.env.kindOf "super" = some .globalImplicit
  kc : X.env.kindOf "__class__" = some .free
  top : (X.prog.main.scope.names.lookup ("super" : Str)).isSome = false
  mg : X.mg "super" = none
section
variable {X : Cx} {D : Addr} {body : List Stmt} {p0 p1 apos pos pos2 : Pos} {e : Expr} {es : List Expr} {ta : TA}
theorem psa_supV (T : SupT X D) (ha : PA X (e :: es) ta) {pl : Sem Bool}
    (hc : eval (.Call (.Attribute (.Call (.Name "super" p0) [] [] p1) "__init__" apos) (e :: es) [] pos) X.env = (do
      let ov ← attributeBase (.Call (.Name "super" p0) [] [] p1) "__init__" X.env (eval (.Call (.Name "super" p0) [] [] p1) X.env)
      standAt apos.atName
      let (f, first) ← holding [ov] (getMethod ov "__init__" pl)
      callWith pos f first (backTo pos (starEach (e :: es) X.env)) []) := by rfl)
    (hi : interactive X.env = false := by rfl) (hs : swapsWith (.Call (.Attribute (.Call (.Name "super" p0) [] [] p1) "__init__" apos) (e :: es) [] pos) none pos2.line X.env = pure false := by rfl)
    (he : starEach (e :: es) X.env = (false, eval e X.env) :: starEach es X.env := by rfl) (hpl : (backTo pos (starEach es X.env)).any (·.1) = false := by rfl) :
    PSA X (.func body X.env) (.Expr (.Call (.Attribute (.Call (.Name "super" p0) [] [] p1) "__init__" apos) (e :: es) [] pos) pos2) (tDrop (tSupV X.K D ta)) := by
  refine ⟨fun pins s σ H K I h => ?_⟩
  obtain ⟨a, C, hσ, ea, V, q⟩ := h
  obtain ⟨f, cc, cda, fd, ar, vs, file, tf, oc, ccl, cl, od, cdd, cld, osl, ccs, csl, cdD, z1, z2, z3, z4, z5, z6, z7, z8, z9, z10, z11, z12⟩ := T.ex
  obtain ⟨t0, ho⟩ := exo_at I.hok ea
  have J : PySem.W.InstAt s.heap a _ C none := ⟨ho, rfl, rfl, trivial⟩
  obtain ⟨nm, qq, N, bs, bm, sn, sub, ab, col, dd, k0, k1, k2, k3, k5, hC, hbm⟩ := V.ex.cls
  have hcl : PySem.W.clsIn X.K C = some { name := nm, bases := bs, mro := .ref C :: bm, ns := N, qualname := qq, hasDict := true, slotNames := sn, subclasses := sub, abstract := ab, collection := col, hasDel := false } := by unfold PySem.W.clsIn; rw [hC] <;> rfl
  refine ks_wpAt_Expr_any (ks_wpAt_MethodCall (sup_base I T.ks T.kc (by decide) z1 z2 z3 z4 z5 z6 z7 T.top T.mg z8 z9 z10 z11 z12 hσ J V.mro fun h1 o1 k1' => ?_) hc) hi hs
  have I1 : Inv X pins σ H { s with heap := h1 } := by
    have z := I.kept (t' := s.toks) k1'
    exact z
  have KX := I1.kIn
  obtain ⟨hp, g, d, t, os⟩ := s
  have hI : PySem.W.Looks (model X.prog X.w) h1 (isInstance (.ref a) (.type "ValueError")) true := (PySem.W.InstAt.type (M := model X.prog X.w) (⟨k1' _ _ ho, rfl, rfl, trivial⟩ : PySem.W.InstAt h1 a _ C none)).andThen (PySem.W.looks_subIn KX V.sub)
  have hf := V.fnd
  unfold PySem.W.ks_superIn at hf
  rw [hcl] at hf
  refine PySem.W.kxs_getMethod PySem.W.kxs_ValueError o1 (PySem.W.looks_opaque KX V.opq) (l₀ := .ref C :: bm) ?_ rfl KX hf hI (PySem.W.ks_ne I.kIn J hcl) (by decide) ?_
  · exact fun A Q E s k q => wpAny_bind ((PySem.W.looks_clsIn KX hcl) A _ E s k (wpAny_pure q))
  · have kk : ∀ b o, hp.get? b = some o → (h1.push (PySem.W.kxs_mw "ValueError.__init__" a)).get? b = some o := fun b o z => Heap.get?_push_of_some _ (k1' b o z)
    have hu : (h1.push (PySem.W.kxs_mw "ValueError.__init__" a)).get? h1.objs.size = some (PySem.W.kxs_mw "ValueError.__init__" a) := Heap.get?_push_at rfl rfl
    have szu : hp.objs.size ≤ h1.objs.size := by
      exact Nat.le_of_lt (Heap.lt_size o1)
    have I2 : Inv X ((h1.objs.size, PySem.W.kxs_mw "ValueError.__init__" a) :: pins) σ H ⟨h1.push (PySem.W.kxs_mw "ValueError.__init__" a), g, d, t + 1, os⟩ := by
      have z : Inv X pins σ H ⟨h1.push (PySem.W.kxs_mw "ValueError.__init__" a), g, d, t + 1, os⟩ := I.kept (t' := t + 1) kk
      refine z.pins_of fun p hp' => ?_
      rcases List.mem_cons.mp hp' with e | hp'
      · subst e
        have hl := I.lt
        refine ⟨hu, I.hok.fresh szu, fun y => ?_, I.nofs szu, fun v y => ?_⟩
        · have y : h1.objs.size = X.env.locals := y
          have hl : X.env.locals < hp.objs.size := hl
          rw [← y] at hl
          exact absurd (Nat.lt_of_lt_of_le hl szu) (Nat.lt_irrefl _)
        · cases y
      · exact z.pin p (List.mem_append_right _ hp')
    rw [he]
    refine PySem.W.kxs_callWith (i := "ValueError.__init__") (x := a) (by show (false || (backTo pos (starEach es X.env)).any (·.1)) = false; rw [hpl]; rfl) ?_
    have hsp := ha.run pos _ _ σ H _ I2 q
    rw [he] at hsp
    refine PySem.Calls.evalArgs_plain (wpAny_mono hsp (fun us s2 h2 => ?_) fun _ _ z => z)
    obtain ⟨ws, H2, I3, rw', hl, ea2, q2⟩ := h2
    have pu := (I3.pin (h1.objs.size, PySem.W.kxs_mw "ValueError.__init__" a) (List.mem_append_right _ List.mem_cons_self)).1
    refine ⟨pu, ?_⟩
    obtain ⟨t1, ho1⟩ := exo_at I3.hok ea2
    have I4 : Inv X pins σ H2 s2 := I3.pins_of fun p hp' => I3.pin p (by
      rcases List.mem_append.mp (List.mem_append_right X.pn hp') with z | z
      · exact List.mem_append_left _ z
      · exact List.mem_append_right _ (List.mem_cons_of_mem _ z))
    have hlen : us.length ≤ sizeLine := by
      rw [← Paired.length rw', sizeLine_eq]
      omega
    obtain ⟨hp2, g2, d2, tk2, os2⟩ := s2
    show wpAny _ _ (call (.ref h1.objs.size) us) _ _ _
    refine call_vw (I4.kIn _ _ hC) ho1 pu hlen fun h' t2 k hx => ?_
    have J4 := I4.write (t' := tk2) (x := a) (e := a) (o := exo a C none) (by rw [ea2]; exact True.intro) (.inl rfl) k ⟨_, hx⟩ (exo_ok hx)
    have eu : upd H2 a (exo a C none) = H2 := by
      funext b
      by_cases hb : b = a
      · rw [hb, upd_same, ea2]
      · rw [upd_ne hb]
    rw [eu] at J4
    exact ⟨σ, H2, J4, q2⟩
end

/-! ### an error's own __init__ -/
theorem lookup_fs_nil {f : Str} : (([] : List (Str × V)).lookup f) = none := rfl
/-- the promise of such an __init__: the fields fs are set, in this order -/
def exFs (fs : List Str) (ys : List V) : List (Str × V) := (fs.zip ys).reverse
def spEx (Cs : List Addr) (fs : List Str) : Sp := fun vs H Q _ => ∃ (a C : Addr) (ys : List V), C ∈ Cs ∧ vs = .ref a :: ys ∧ ys.length = fs.length ∧ H a = some (exo a C none) ∧
  ∀ d, H d = none → d ≠ a → Q .non (upd (upd H d (exd d (exFs fs ys))) a (exo a C (some d)))
/-- C(..), an error with its fields -/
def tMkC (C : Addr) (fs : List Str) (ta : TA) : L2.St → Hp → XK → Prop := fun σ H Q => ta σ H fun vs H1 => vs.length = fs.length ∧ ∀ d, H1 d = none → Q (.ref C) (some d) (upd H1 d (.xd (exFs fs vs)))
theorem pmk_imp {X : Cx} {e : Expr} {t t' : L2.St → Hp → XK → Prop} (h : PMk X e t) (i : ∀ σ H Q, t' σ H Q → t σ H Q) : PMk X e t' := fun pins s σ H Q I q => h pins s σ H Q I (i σ H Q q)
theorem mo_pa {X : Cx} {es : List Expr} {ta : TA} (h : PA X es ta) : PA X es (moA ta) := pa_mo h
theorem mkC_of {C : Addr} {Cs : List Addr} {fs : List Str} {ta : TA} (hC : C ∈ Cs) (hl : fs.length ≤ 900) {σ : L2.St} {H : Hp} {Q : XK} (q : tMkC C fs ta σ H Q) : tMkO C (spEx Cs fs) [] (moA ta) σ H Q := by
  refine ⟨_, q, fun vs H1 ⟨e, h⟩ => ⟨by omega, fun a ha => ⟨a, C, vs, hC, by rw [List.append_nil], e, upd_same, fun d hd hne => ⟨rfl, d, exFs fs vs, upd_same, ?_, ?_, ?_⟩⟩⟩⟩
  · rw [upd_ne hne, upd_same]
  · rw [upd_ne hne] at hd
    exact hd
  · rw [upd_ne hne] at hd
    have e2 : upd (del (upd (upd (upd H1 a (exo a C none)) d (exd d (exFs fs vs))) a (exo a C (some d))) a) d (.xd (exFs fs vs)) = upd H1 d (.xd (exFs fs vs)) := by
      funext b
      by_cases hb : b = d
      · rw [hb, upd_same, upd_same]
      · rw [upd_ne hb, upd_ne hb]
        by_cases hba : b = a
        · rw [hba, del_same, ha]
        · rw [del_ne hba, upd_ne hba, upd_ne hb, upd_ne hba]
    rw [e2]
    exact h d hd
theorem pmk_ex {X : Cx} {CX : CXT} {x : Str} {C fI : Addr} {Cs : List Addr} {fs : List Str} {k : Nat} {fd : FuncData} {ps : List Str} {e : Expr} {es : List Expr} {ta : TA} {p pos : Pos} (T : OexC X.K C) (iC : PySem.W.findIn X.K (.ref C) "__init__" = some (some (.ref fI))) (tI : PySem.W.typeIn X.K (.ref fI) = some (.type "function"))
    (F1 : FnOk X.prog X.w X.K X.mg X.base CX k fI fd ps (spEx Cs fs)) (hC : C ∈ Cs) (hl : fs.length ≤ 900) (hr : Room (k + 1) X.A) (hb : Binds X.K fd ps []) (hx : Passes CX X (fun _ _ _ => False)) (hg : Gl X x) (hm : X.mg x = some (.ref C)) (ha : PA X (e :: es) ta)
    (hdb : (x == ("__debug__" : Str)) = false := by decide) (he : starEach (e :: es) X.env = (false, eval e X.env) :: starEach es X.env := by rfl) (hpl : (backTo pos (starEach es X.env)).any (·.1) = false := by rfl) :
    PMk X (.Call (.Name x p) (e :: es) [] pos) (tMkC C fs ta) :=
  pmk_imp (pmk_oex (dvs := []) (ds := []) T iC tI F1 hr hb .nil hx hg hm (pa_mo ha) hdb he hpl) fun _ _ _ q => mkC_of hC hl q
/-- raise C(..) -/
def sRaise (E : XK) (t : L2.St → Hp → XK → Prop) : TS := fun _ σ H => t σ H E
def sRaiseS (W : WX) (t : L2.St → Hp → XK → Prop) : TS := fun _ σ H => t σ H fun cls d H' => W cls d σ H'
theorem ps_raiseE {X : Cx} {E : XK} {e : Expr} {t : L2.St → Hp → XK → Prop} {pos : Pos} (hc : X.calm = true) (tk : Takes X (fun cls d _ H => E cls d H)) (he : PMk X e t) : PS X (.Raise (some e) none pos) (sRaise E t) := ps_raise hc tk he
theorem ps_raiseS {X : Cx} {W : WX} {e : Expr} {t : L2.St → Hp → XK → Prop} {pos : Pos} (hc : X.calm = true) (tk : Takes X W) (he : PMk X e t) : PS X (.Raise (some e) none pos) (sRaiseS W t) := ps_raise hc tk he

/-! ### try, with several clauses -/
structure Clz where
  c : Value
  i : Option Nat
  ts : Addr → Value → Option Addr → TS
def endsI : Option Nat → Ends → Ends
  | none, D => D
  | some i, D => { nx := fun σ' H' => D.nx (σ'.set i none) H', rt := D.rt, bk := fun σ' H' => D.bk (σ'.set i none) H', ct := fun σ' H' => D.ct (σ'.set i none) H' }
def setI : Option Nat → V → L2.St → L2.St
  | none, _, σ => σ
  | some i, v, σ => σ.set i (some v)
/-- a clause takes the exception -/
def hitN (K : PySem.W.Frag) (D : Ends) (cls : Value) (d : Option Addr) (σ : L2.St) (H : Hp) : List Clz → Prop
  | [] => False
  | z :: r => (PySem.W.exmOne K cls z.c = some true ∧ ∀ a, H a = none → z.ts a cls d (endsI z.i D) (setI z.i (.ref a) σ) H) ∨ (PySem.W.exmOne K cls z.c = some false ∧ hitN K D cls d σ H r)
inductive HnOk (X : Cx) : List ExceptHandler → List Clz → Prop
  | nil : HnOk X [] []
  | anon {x : Str} {c : Value} {ts : Addr → Value → Option Addr → TS} {b₀ : Stmt} {suite : List Stmt} {np pos' : Pos} {hds : List ExceptHandler} {l : List Clz} (hc : Names X x c)
      (hsu : ∀ (a : Addr) (oe : Obj) (cls : Value) (d : Option Addr) (pn : List (Addr × Obj)), Zc cls d oe → (∃ vs, oe.data = .fields vs) → PSs (X.suite a ((a, oe) :: pn)) (b₀ :: suite) (ts a cls d)) (r : HnOk X hds l) :
      HnOk X (.ExceptHandler (some (.Name x np)) none (b₀ :: suite) pos' :: hds) (⟨c, none, ts⟩ :: l)
  | named {x n : Str} {i : Nat} {c : Value} {ts : Addr → Value → Option Addr → TS} {b₀ : Stmt} {suite : List Stmt} {np pos' : Pos} {hds : List ExceptHandler} {l : List Clz} (hc : Names X x c) (hi : X.N[i]? = some n) (hln : X.env.kindOf n = some .local)
      (hsu : ∀ (a : Addr) (oe : Obj) (cls : Value) (d : Option Addr) (pn : List (Addr × Obj)), Zc cls d oe → (∃ vs, oe.data = .fields vs) → PSs (X.suite a ((a, oe) :: pn)) (b₀ :: suite) (ts a cls d)) (r : HnOk X hds l) :
      HnOk X (.ExceptHandler (some (.Name x np)) (some n) (b₀ :: suite) pos' :: hds) (⟨c, some i, ts⟩ :: l)
section
variable {X : Cx} {body : List Stmt} {h₀ : ExceptHandler} {hds : List ExceptHandler} {l : List Clz} {pos : Pos} {tb : WX → TS}
theorem ps_tryN (hs : X.stack = X.env :: X.outer) (hf : X.env.frame = some X.env.locals) (hN : X.N.Nodup)
    (hb : ∀ (W : WX) (pn : List (Addr × Obj)) (xe : Value → Shared → Prop), Takes (X.tr pn xe) W → PassesOwn (model X.prog X.w) X.A X.env xe → PSs (X.tr pn xe) body (tb W))
    (hh : HnOk X (h₀ :: hds) l) : PS X (.Try body (h₀ :: hds) [] [] pos) (fun D σ H => tb (fun cls d σ H => hitN X.K D cls d σ H l) D σ H) := ⟨fun pins s σ H D I h => by
  have ok := I.ok
  have frame : X.A.frames = some (X.env :: X.outer) := ok.frames.trans (congrArg some hs)
  refine wpAny_Try_except (wpAny_mono ((hb _ (X.pn ++ pins) _ (fun u s' xx => ?_) PassesOwn.looking).run [] s σ H D (I.toTry _) h) (fun f s1 hsp => ?_) fun e s1 he => he)
  · obtain ⟨a, B, sI, pins', σ', H', cls, d, rfl, J', nb, up, sky, na, os, ag, w⟩ := xx
    have J : Inv X pins σ' H' sI := J'.ofTry ok
    have sk : Sky B (X.env :: X.outer) a (Zc cls d) X.env.locals s'.heap := hs ▸ sky
    refine Sky.land Zc.steady frame hf sk fun hL fL uL => ?_
    have JL : Inv X pins σ' H' { s' with heap := hL } := J.landed nb fL.1 (up.trans uL) os ag
    obtain ⟨oL, vL, gL, zL, dL⟩ := fL.there
    have apart : a ∉ frs (X.env :: X.outer) := fun hm => by
      obtain ⟨_, o', e', hnf⟩ := fL.2.2.1.mem hm
      rw [gL] at e'
      cases e'
      exact hnf _ dL
    have aL : a ≠ X.env.locals := fun z => apart (List.mem_filterMap.mpr ⟨X.env, List.mem_cons_self, by rw [hf, z]⟩)
    have aF : a ∉ X.fs := fun hm => by
      obtain ⟨e, he, q⟩ := List.mem_filterMap.mp hm
      exact apart (List.mem_filterMap.mpr ⟨e, List.mem_cons_of_mem _ he, q⟩)
    have SL := JL.suite gL dL na aL aF
    have LT : PySem.W.Looks (model X.prog X.w) hL (typeOf (.ref a)) cls := fun A Q E s k q => wpAny_typeOf_ref (k _ _ gL) (by rw [zL.1]; exact q)
    have names : ∀ {x : Str} {c : Value} {np : Pos} {Q : Value → Shared → Prop} {E : Value → Shared → Prop}, Names X x c → Q c { s' with heap := hL } → wpAny (model X.prog X.w) (X.A.mark (some (.ref a))) (eval (.Name x np) X.env) Q E { s' with heap := hL } := fun {x c np Q E} hc q => by
      obtain ⟨hg, hdbg, hm | ⟨hm, hv, hnn⟩⟩ := hc
      · exact ld_glob (X := X.suite a ((a, oL) :: (X.pn ++ pins))) SL hg hm q hdbg
      · exact ld_blt (X := X.suite a ((a, oL) :: (X.pn ++ pins))) SL hg hm hv q hnn hdbg
    suffices go : ∀ {hs' : List ExceptHandler} {l' : List Clz}, HnOk X hs' l' → hitN X.K D cls d σ' H' l' → wpAny (model X.prog X.w) X.A (handleBy (.ref a) X.env hs') (SP X pins D) X.xe { s' with heap := hL } from go hh w
    intro hs' l' hk
    induction hk with
    | nil => exact fun w => w.elim
    | @anon x c ts b₀ suite np pos' hds2 l2 hc hsu r ih =>
      intro w
      refine wpAny_handleBy_cons (codeAny_handlers_test ?_) (by intro q; cases q)
      rcases w with ⟨e, w⟩ | ⟨e, w⟩
      · refine names hc ((PySem.W.exm_one (M := model X.prog X.w) JL.kIn LT e).here ?_)
        refine codeAny_handlers_suite (HandSPX.lands_againZ fL fun h4 f4 u4 => ?_)
        have J4 : Inv X pins σ' H' { s' with heap := h4 } := J.landed nb f4.1 ((up.trans uL).trans u4) os ag
        obtain ⟨o4, v4, g4, z4, d4⟩ := f4.there
        refine wpAny_mono ((hsu a o4 cls d (X.pn ++ pins) z4 ⟨_, d4⟩).run [] _ σ' H' _ (J4.suite g4 d4 na aL aF) (w a na)) (fun f s6 hsp => ?_) (fun _ _ z => False.elim z)
        cases f with
        | ret u =>
          obtain ⟨v6, σ6, H6, S6, r6, q6⟩ := hsp
          exact ⟨_, _, _, S6.unsuite ok, r6, q6⟩
        | next | brk | cont =>
          obtain ⟨σ6, H6, S6, q6⟩ := hsp
          exact ⟨_, _, S6.unsuite ok, q6⟩
      · exact names hc ((PySem.W.exm_one (M := model X.prog X.w) JL.kIn LT e).here (ih w))
    | @named x n i c ts b₀ suite np pos' hds2 l2 hc hi hln hsu r ih =>
      intro w
      refine wpAny_handleBy_cons (codeAny_handlers_test ?_) (by intro q; cases q)
      rcases w with ⟨e, w⟩ | ⟨e, w⟩
      · refine names hc ((PySem.W.exm_one (M := model X.prog X.w) JL.kIn LT e).here ?_)
        refine codeAny_handlers_suite_as (HandSPX.lands_againZ fL fun h4 f4 u4 => ?_)
        have J4 : Inv X pins σ' H' { s' with heap := h4 } := J.landed nb f4.1 ((up.trans uL).trans u4) os ag
        obtain ⟨o4, v4, g4, z4, d4⟩ := f4.there
        refine store_ok (X := X.suite a ((a, o4) :: (X.pn ++ pins))) (v := .ref a) (J4.suite g4 d4 na aL aF) hN hi (.inl hln) rfl (fun s5 S5 => ?_) (.inr hln)
        refine wpAny_mono ((hsu a o4 cls d (X.pn ++ pins) z4 ⟨_, d4⟩).run [] s5 _ H' _ S5 (w a na)) (fun f s6 hsp => ?_) (fun _ _ z => False.elim z)
        have away : ∀ {σ6 : L2.St} {H6 : Hp} {Q : Shared → Prop}, Inv (X.suite a ((a, o4) :: (X.pn ++ pins))) [] σ6 H6 s6 → (∀ s7, Inv X pins (σ6.set i none) H6 s7 → Q s7) →
            wpAny (model X.prog X.w) X.A (do bindName X.env n .none; unbindBehindTheSuite X.env n pos') (fun _ s7 => Q s7) X.xe s6 := fun {σ6 H6 Q} S6 hq => gone_ok (S6.unsuite ok) hN hi hln hq
        cases f with
        | ret u =>
          obtain ⟨v6, σ6, H6, S6, r6, q6⟩ := hsp
          exact away S6 fun s7 J7 => ⟨_, _, _, J7, r6, q6⟩
        | next | brk | cont =>
          obtain ⟨σ6, H6, S6, q6⟩ := hsp
          exact away S6 fun s7 J7 => ⟨_, _, J7, q6⟩
      · exact names hc ((PySem.W.exm_one (M := model X.prog X.w) JL.kIn LT e).here (ih w))
  · cases f with
    | next =>
      obtain ⟨σ', H', J', q⟩ := hsp
      exact wpAny_execs_nil ⟨σ', H', J'.ofTry ok, q⟩
    | ret u =>
      obtain ⟨v, σ', H', J', r, q⟩ := hsp
      exact ⟨v, σ', H', J'.ofTry ok, r, q⟩
    | brk | cont =>
      obtain ⟨σ', H', J', q⟩ := hsp
      exact ⟨σ', H', J'.ofTry ok, q⟩⟩
/-- which clause takes the exception of the class cls -/
inductive Hits (K : PySem.W.Frag) (cls : Value) : List Value → Nat → Prop
  | here {c : Value} {r : List Value} (h : PySem.W.exmOne K cls c = some true) : Hits K cls (c :: r) 0
  | there {c : Value} {r : List Value} {k : Nat} (h : PySem.W.exmOne K cls c = some false) (t : Hits K cls r k) : Hits K cls (c :: r) (k + 1)
abbrev Sui := Option Nat × (Addr → Value → Option Addr → TS)
/-- the wish of a try's body, by a table of classes -/
def wT (tab : List (Value × Nat)) (cl : List Sui) (D : Ends) : WX := fun cls d σ H => ∃ k i ts, (cls, k) ∈ tab ∧ cl[k]? = some (i, ts) ∧ ∀ a, H a = none → ts a cls d (endsI i D) (setI i (.ref a) σ) H
def sTry (tab : List (Value × Nat)) (cl : List Sui) (tb : WX → TS) : TS := fun D σ H => tb (wT tab cl D) D σ H
theorem hits_of {K : PySem.W.Frag} {D : Ends} {cls : Value} {d : Option Addr} {σ : L2.St} {H : Hp} {i : Option Nat} {ts : Addr → Value → Option Addr → TS} (q : ∀ a, H a = none → ts a cls d (endsI i D) (setI i (.ref a) σ) H) :
    ∀ {l : List Clz} {k : Nat}, Hits K cls (l.map (·.c)) k → (l.map fun z => ((z.i, z.ts) : Sui))[k]? = some (i, ts) → hitN K D cls d σ H l
  | [], _, _, h => by cases h
  | z :: l, 0, h, e => by
    have e : ((z.i, z.ts) : Sui) = (i, ts) := by simpa using e
    cases e
    cases h with
    | here h => exact .inl ⟨h, q⟩
  | z :: l, k + 1, h, e => by
    cases h with
    | there h t => exact .inr ⟨h, hits_of q t (by simpa using e)⟩
theorem ps_tryT {tab : List (Value × Nat)} (tk0 : ∀ p ∈ tab, Hits X.K p.1 (l.map (·.c)) p.2) (hs : X.stack = X.env :: X.outer) (hf : X.env.frame = some X.env.locals) (hN : X.N.Nodup)
    (hb : ∀ (W : WX) (pn : List (Addr × Obj)) (xe : Value → Shared → Prop), Takes (X.tr pn xe) W → PassesOwn (model X.prog X.w) X.A X.env xe → PSs (X.tr pn xe) body (tb W))
    (hh : HnOk X (h₀ :: hds) l) : PS X (.Try body (h₀ :: hds) [] [] pos) (sTry tab (l.map fun z => (z.i, z.ts)) tb) := by
  refine ps_imp (ps_tryN (tb := fun W D σ H => ∃ W', (∀ c d σ H, W' c d σ H → W c d σ H) ∧ tb W' D σ H) hs hf hN (fun W pn xe tk pa => ⟨fun pins s σ H D I ⟨W', i, q⟩ => (hb W' pn xe (tk.imp i) pa).run pins s σ H D I q⟩) hh) fun D σ H q => ⟨_, fun c d σ H h => ?_, q⟩
  obtain ⟨k, i, ts, m, e, h⟩ := h
  exact hits_of h (tk0 _ m) e
end

/-! ### calls in a try's body: what is raised is wished for at the slots -/
section
variable {X : Cx} {CX : CXT} {k : Nat} {f C g p2' : Addr} {fd : FuncData} {ps : List Str} {sp : Sp} {E : L2.St → XK} {x m : Str} {p pos apos : Pos} {e o : Expr} {es : List Expr} {ta : TE} {t : TA}
def tCS (sp : Sp) (E : L2.St → XK) (t : TA) : TE := fun σ H Q => t σ H fun vs H1 => sp vs H1 Q (E σ)
def tMS (C : Addr) (m : Str) (sp : Sp) (E : L2.St → XK) (ta : TE) (t : TA) : TE := fun σ H Q => ta σ H fun x H1 => ∃ a dx fs, x = .ref a ∧ H1 a = some (.ins C dx fs) ∧ fs.lookup m = none ∧ t σ H1 fun vs H2 => sp (x :: vs) H2 Q (E σ)
def tNewS (C : Addr) (sp : Sp) (E : L2.St → XK) (t : TA) : TE := fun σ H Q => t σ H fun vs H1 => ∀ x dx, H1 x = none → H1 dx = none → dx ≠ x →
  sp (.ref x :: vs) (upd (upd H1 dx (.own x)) x (.ins C dx [])) (fun v H2 => v = .non ∧ Q (.ref x) H2) (E σ)
theorem pe_cS (F : FnOk X.prog X.w X.K X.mg X.base CX k f fd ps sp) (hr : Room k X.A) (hg : Gl X x) (hm : X.mg x = some (.ref f)) (hk : PySem.W.keepIn X.K (.ref f) = true) (hb : Binds X.K fd ps []) (hx : ∀ σ, PassesAt CX X σ (E σ))
    (ha : PA X (e :: es) t) (hdb : (x == ("__debug__" : Str)) = false := by decide) (he : starEach (e :: es) X.env = (false, eval e X.env) :: starEach es X.env := by rfl) (hpl : (backTo pos (starEach es X.env)).any (·.1) = false := by rfl) :
    PE X (.Call (.Name x p) (e :: es) [] pos) (tCS sp E t) := pe_callS F hr hg hm hk hb hx ha hdb he hpl
theorem pe_cS0 (F : FnOk X.prog X.w X.K X.mg X.base CX k f fd ps sp) (hr : Room k X.A) (hg : Gl X x) (hm : X.mg x = some (.ref f)) (hk : PySem.W.keepIn X.K (.ref f) = true) (hb : Binds X.K fd ps []) (hx : ∀ σ, PassesAt CX X σ (E σ))
    (hdb : (x == ("__debug__" : Str)) = false := by decide) : PE X (.Call (.Name x p) [] [] pos) (tCS sp E tNil) :=
  ⟨fun _ _ σ _ _ I h => wpAny_Call_Name_kw (ld_glob I hg hm (PySem.W.callWith_K0 I.kIn hk (run_fnS (us := []) F hr hb (hx σ) I .nil h)) hdb)⟩
theorem pe_mS {pl : Sem Bool} (he : PE X o ta) (c : Cls X.K C) (hm : Meth X.K C m f) (F : FnOk X.prog X.w X.K X.mg X.base CX k f fd ps sp) (hr : Room k X.A) (hb : Binds X.K fd ps []) (hx : ∀ σ, PassesAt CX X σ (E σ)) (ha : PA X (e :: es) t)
    (hst : starEach (e :: es) X.env = (false, eval e X.env) :: starEach es X.env := by rfl) (hpl : (backTo pos (starEach es X.env)).any (·.1) = false := by rfl)
    (ht : eval (.Call (.Attribute o m apos) (e :: es) [] pos) X.env = (do
      let ov ← eval o X.env
      standAt apos.atName
      let (f, first) ← holding [ov] (getMethod ov m pl)
      callWith pos f first (backTo pos (starEach (e :: es) X.env)) (backToKw pos (keywordEach [] X.env))) := by rfl) :
    PE X (.Call (.Attribute o m apos) (e :: es) [] pos) (tMS C m sp E ta t) := by
  refine ⟨fun pins s σ H Q I h => PySem.W.methodCall_KW (pl := pl) (thn (he.run pins s σ H _ I h) fun u s1 ⟨x, H1, I1, rx, a, dx, fs, ex, ea, l, q⟩ => ?_) ht⟩
  subst ex
  obtain rfl : u = Value.ref a := rx
  refine getmeth_ok I1 ea c hm l (PySem.W.callWith_K (first := [.ref a]) (h₀ := X.base) I.ok.mod.kin hm.kp (thn (ha.run pos pins s1 σ H1 _ I1 q) fun us s2 ⟨vs, H2, I2, r, q2⟩ => ⟨I2.kIn, ?_⟩) hst hpl)
  exact run_fnS (us := .ref a :: us) (vs := .ref a :: vs) F hr hb (hx σ) I2 (.cons rfl r) q2
theorem pe_mS0 {pl : Sem Bool} (he : PE X o ta) (c : Cls X.K C) (hm : Meth X.K C m f) (F : FnOk X.prog X.w X.K X.mg X.base CX k f fd ps sp) (hr : Room k X.A) (hb : Binds X.K fd ps []) (hx : ∀ σ, PassesAt CX X σ (E σ))
    (ht : eval (.Call (.Attribute o m apos) [] [] pos) X.env = (do
      let ov ← eval o X.env
      standAt apos.atName
      let (f, first) ← holding [ov] (getMethod ov m pl)
      callWith pos f first (backTo pos (starEach [] X.env)) (backToKw pos (keywordEach [] X.env))) := by rfl) :
    PE X (.Call (.Attribute o m apos) [] [] pos) (tMS C m sp E ta tNil) := by
  refine ⟨fun pins s σ H Q I h => PySem.W.methodCall_KW (pl := pl) (thn (he.run pins s σ H _ I h) fun u s1 ⟨x, H1, I1, rx, a, dx, fs, ex, ea, l, q⟩ => ?_) ht⟩
  subst ex
  obtain rfl : u = Value.ref a := rx
  exact getmeth_ok I1 ea c hm l (PySem.W.callWith_K0 (first := [.ref a]) I1.kIn hm.kp (run_fnS (us := [.ref a]) (vs := [.ref a]) F hr hb (hx σ) I1 (.cons rfl .nil) q))
theorem run_newS {E : XK} {pins : List (Addr × Obj)} {σ : L2.St} {H : Hp} {s : Shared} {Q : VK} {us : List Value} {vs : List V} (M : Mk X.K C f) (F : FnOk X.prog X.w X.K X.mg X.base CX k f fd ps sp) (hr : Room (k + 1) X.A) (hb : Binds X.K fd ps [])
    (hx : PassesAt CX X σ E) (I : Inv X pins σ H s) (r : Vals vs us)
    (h : ∀ x dx, H x = none → H dx = none → dx ≠ x → sp (.ref x :: vs) (upd (upd H dx (.own x)) x (.ins C dx [])) (fun v H2 => v = .non ∧ Q (.ref x) H2) E) : wpAny (model X.prog X.w) X.A (call (.ref C) us) (EP X pins σ Q) X.xe s := by
  have nn := Nat.le_refl s.heap.objs.size
  have hq := h (s.heap.objs.size + 1) s.heap.objs.size (I.hok.fresh (Nat.le_succ _)) (I.hok.fresh nn) (Nat.ne_of_lt (Nat.lt_succ_self _))
  have I2 := Inv.made (C := C) I
  have r2 : Vals (V.ref (s.heap.objs.size + 1) :: vs) (Value.ref (s.heap.objs.size + 1) :: us) := .cons rfl r
  have hl : (Value.ref (s.heap.objs.size + 1) :: us).length = ps.length := r2.length.symm.trans (F.len _ _ _ _ hq)
  have b := hb _ (Value.ref (s.heap.objs.size + 1) :: us) I2.kIn (by rw [List.append_nil]; exact hl)
  rw [List.append_nil] at b
  have e0 := I2.env0.make C us []
  refine wpAny_call (make_map (f := f) I.kIn M.makes M.init (beq_iff_eq.mp M.fn) (codeAny_mono (F.run _ X.stack _ _ ⟨Value.ref (s.heap.objs.size + 1) :: us, []⟩ _ _ _ _ (hr.make C us []) e0 b r2 hq) fun r s' hq' => ?_))
  cases r with
  | error e => exact hx pins _ _ e s' I2 hq'
  | ok fl =>
    cases fl with
    | ret u =>
      obtain ⟨v, H', I3, rv, ev, q3⟩ := I2.after hq'
      subst ev
      exact ⟨rv, V.ref (s.heap.objs.size + 1), H', I3, rfl, q3⟩
    | next | brk | cont => exact False.elim hq'
theorem pe_newS (M : Mk X.K C f) (F : FnOk X.prog X.w X.K X.mg X.base CX k f fd ps sp) (hr : Room (k + 1) X.A) (hg : Gl X x) (hm : X.mg x = some (.ref C)) (hb : Binds X.K fd ps []) (hx : ∀ σ, PassesAt CX X σ (E σ))
    (ha : PA X (e :: es) t) (hdb : (x == ("__debug__" : Str)) = false := by decide) (he : starEach (e :: es) X.env = (false, eval e X.env) :: starEach es X.env := by rfl) (hpl : (backTo pos (starEach es X.env)).any (·.1) = false := by rfl) :
    PE X (.Call (.Name x p) (e :: es) [] pos) (tNewS C sp E t) :=
  ⟨fun pins s σ H Q I h => wpAny_Call_Name_kw (ld_glob I hg hm (PySem.W.callWith_K (h₀ := X.base) I.ok.mod.kin M.kp (thn (ha.run pos pins s σ H _ I h) fun us s1 ⟨vs, H1, I1, r, q⟩ => ⟨I1.kIn, run_newS M F hr hb (hx σ) I1 r q⟩) he hpl) hdb)⟩
end

/-! ### in an except suite: isinstance, fields -/
/-- its dict stands -/
def DOk (d : Option Addr) (H : Hp) : Prop := ∃ dd fs, d = some dd ∧ H dd = some (.xd fs)
/-- isinstance(e, c), e the exception in hand, by a table -/
def rIsX (tbl : List (Value × V × Bool)) (a : Addr) (cls : Value) (d : Option Addr) : List V → Hp → VK → Prop := fun xs H Q => (∃ c b, xs = [.ref a, c] ∧ (cls, c, b) ∈ tbl ∧ DOk d H ∧ Q (.bl b) H) ∨ rIsI xs H Q
structure IsOk (K : PySem.W.Frag) (cls : Value) (c : V) (b : Bool) : Prop where
  ex : ∃ (D : Addr) (cv : Value), cls = .ref D ∧ ExcC K D ∧ (∀ u, RelV c u → u = cv) ∧ PySem.W.kitOne K (.ref D) cv = some b
theorem c_isX {X : Cx} {a : Addr} {oe : Obj} {cls : Value} {d : Option Addr} {pn : List (Addr × Obj)} {tbl : List (Value × V × Bool)} (T : ∀ p ∈ tbl, IsOk X.K p.1 p.2.1 p.2.2) (hz : Zc cls d oe) (hf : ∃ vs, oe.data = .fields vs) :
    CallR (X.suite a ((a, oe) :: pn)) (.builtin "isinstance") (rIsX tbl a cls d) := by
  intro pins s σ H xs us Q I r h
  rcases h with ⟨c, b, rfl, m, ⟨dd, fs, ed, ea⟩, q⟩ | h
  · obtain ⟨D, cv, ec, C, hcv, e⟩ := (T _ m).ex
    cases r with
    | cons rx rr =>
      cases rr with
      | cons rt rr =>
        cases rr
        obtain rfl := hcv _ rt
        cases rx
        obtain ⟨vs, hv⟩ := hf
        have hget := (I.pin (a, oe) (List.mem_append_left _ List.mem_cons_self)).1
        have ho : ObjOk X.prog X.w H s.heap dd (.xd fs) := I.hok dd _ ea
        obtain ⟨mA, ⟨od, es, ep, ho, _⟩, _⟩ := ho
        have J : PySem.W.InstAt s.heap a oe D (some od) := ⟨hget, by rw [hz.1]; exact ec, by unfold PySem.W.notCls; rw [hv] <;> rfl, by rw [hz.2, ed]; exact ho⟩
        have hcl : (PySem.W.clsIn X.K D).isSome = true := by
          obtain ⟨cd, hc, _⟩ := PySem.W.any_some C.hd
          rw [hc]
          rfl
        exact PySem.W.kia_one (PySem.W.kitx_exc hcl C.hg C.hk C.hs C.ha C.hn C.ht C.hm) I.kIn J e (fun z => nomatch z) fun tk => ⟨.bl b, H, I.kept (t' := tk) fun _ _ z => z, rfl, q⟩
  · exact c_isi pins s σ H xs us Q I r h
/-- e.f, e the exception in hand -/
def eXf (a : Addr) (cls : Value) (d : Option Addr) (Cs : List Addr) (f : Str) (te : TE) : TE := fun σ H Q => te σ H fun x H1 => x = .ref a ∧ ∃ C, C ∈ Cs ∧ cls = .ref C ∧ ∃ (dd : Addr) (fs : List (Str × V)) (v : V), d = some dd ∧ H1 dd = some (.xd fs) ∧ fs.lookup f = some v ∧ Q v H1
structure XfOk (K : PySem.W.Frag) (C : Addr) (f : Str) : Prop where
  xf : XfC K C
  no : PySem.W.findIn K (.ref C) f = some none
theorem pe_eXf {X : Cx} {a : Addr} {oe : Obj} {cls : Value} {d : Option Addr} {pn : List (Addr × Obj)} {e : Expr} {te : TE} {pos : Pos} {n : Str} {Cs : List Addr} (T : ∀ C ∈ Cs, XfOk X.K C n) (hz : Zc cls d oe) (hf : ∃ vs, oe.data = .fields vs) (he : PE (X.suite a ((a, oe) :: pn)) e te)
    (hb : attributeBase e n X.env (eval e X.env) = eval e X.env := by rfl) : PE (X.suite a ((a, oe) :: pn)) (.Attribute e n pos) (eXf a cls d Cs n te) := by
  refine ⟨fun pins s σ H Q I h => attr_of hb (thn (he.run pins s σ H _ I h) fun u s1 hh => ?_)⟩
  obtain ⟨x, H1, I1, rx, rfl, C, hC, rfl, dd, fs, v, rfl, ea, l, q⟩ := hh
  obtain rfl : u = Value.ref a := rx
  have T1 := (T C hC).xf
  obtain ⟨ha, _⟩ := I1.pin (a, oe) (List.mem_append_left _ List.mem_cons_self)
  obtain ⟨vs, hd⟩ := hf
  obtain ⟨mA, hns, hr⟩ : ObjOk X.prog X.w H1 s1.heap dd (.xd fs) := I1.hok dd _ ea
  obtain ⟨od, ho, hl⟩ := lookIn_ns hns
  obtain ⟨u, hu, ru⟩ := RelO.some_of (v := v) (o := mA n) (by rw [← l]; exact hr n)
  have J : PySem.W.InstAt s1.heap a oe C (some od) := ⟨ha, hz.1, by unfold PySem.W.notCls; rw [hd] <;> rfl, by rw [hz.2]; exact ho⟩
  exact HandSPX.exc_get I1.kIn J T1.ga T1.gg T1.exC (PySem.W.findObj_own T1.hdC (T C hC).no rfl (by rw [hl, hu])) (handed_of ru) ⟨v, H1, I1.tok _, ru, q⟩

/-! ### a def of the text that says super(), by its body -/
structure FunS (P : Program) (K : PySem.W.Frag) (x qual : Str) (st : Stmt) (f : Addr) (fd : FuncData) (D : Addr) : Prop where
  ex : ∃ (oc cl ccl kV doc pm ct : Value) (od cld cdd an : Option Addr) (osl csl ccs : Array (Option Value)) (cda cc : Addr) (vs : Array Value) (file : Str) (tf : Tok) (cdD : ClassData),
    fd = ksFn x qual (defArgs st) (defBody st) (defScope st) .none kV doc pm an (.ref cda) ct cc ∧ K.lookup f = some ⟨oc, od, .func fd, osl⟩ ∧ PySem.W.codeIn K (.ref cda) qual = true ∧ K.lookup cc = some ⟨cl, cld, .cell (some (.ref D)), csl⟩ ∧
    K.lookup cda = some ⟨ccl, cdd, .fields vs, ccs⟩ ∧ vs[2]? = some (.str file tf) ∧ ((P.main.file : Str) == file) = true ∧ PySem.W.clsIn K D = some cdD
  kp : PySem.W.keepIn K (.ref f) = true
theorem FunS.ok {P : Program} {w : World} {K : PySem.W.Frag} {mg : Str → Option Value} {base : Heap} {x qual : Str} {st : Stmt} {f D : Addr} {fd : FuncData} {N ps : List Str} {k : Nat} {sp : Sp} {ar : Arg} (F : FunS P K x qual st f fd D) (S : FnScS N ps (defScope st))
    (ha : ((defArgs st).posonlyargs ++ (defArgs st).args).head? = some ar) (hka : (defScope st).names.lookup ar.arg = some .local) (hN : N[0]? = some ar.arg) (hks : (defScope st).names.lookup ("super" : Str) = some .globalImplicit) (hkc : (defScope st).names.lookup ("__class__" : Str) = some .free)
    (htop : (P.main.scope.names.lookup ("super" : Str)).isSome = false) (hmg : mg "super" = none) (len : ∀ vs H Q E, sp vs H Q E → vs.length = ps.length)
    (hbody : ∀ (cdv : Value) (cc : Addr) (A : Around) (outer : List Env) (s : Shared) (H : Hp) (vs : List V) (Q : VK) (E : XK), Room k (A.deeper (ksEnv qual (defScope st) s.heap.objs.size f cdv cc)) → SupT (cxS P w K mg base N qual (defScope st) f cdv cc A outer s H E) D → sp vs H Q E →
      ∃ t, PSsA (cxS P w K mg base N qual (defScope st) f cdv cc A outer s H E) (.func (defBody st) (ksEnv qual (defScope st) s.heap.objs.size f cdv cc)) (defBody st) t ∧ t { nx := fun _ H' => Q .non H', rt := Q } (L2.start N vs) H) :
    FnOk P w K mg base (L2.CX P w) (k + 1) f fd ps sp := by
  obtain ⟨oc, cl, ccl, kV, doc, pm, ct, od, cld, cdd, an, osl, csl, ccs, cda, cc, vs, file, tf, cdD, e, lk, hcd, hcc, hcode, hv, hfile, hD⟩ := F.ex
  subst e
  refine fn_ofS lk hcd hcc S len fun A outer s H vs' Q E hr hsp => hbody (.ref cda) cc A outer s H vs' Q E hr ?_ hsp
  refine ⟨⟨f, cc, cda, _, ar, vs, file, tf, oc, ccl, cl, od, cdd, cld, osl, ccs, csl, cdD, rfl, lk, ha, rfl, hcode, hv, hfile, ?_, hcc, hD, hka, hN⟩, hks, hkc, htop, hmg⟩
  show List.lookup ("__class__" : Str) [(("__class__" : Str), cc)] = some cc
  simp [List.lookup]
/-- an error with one field -/
theorem ex1 {K : PySem.W.Frag} {Cs : List Addr} {D : Addr} {f m : Str} (h : ∀ C ∈ Cs, SupV K C D ∧ PySem.W.findIn K (.ref C) f = some none) {vs : List V} {H : Hp} {Q : VK} {E : XK} (q : spEx Cs [f] vs H Q E) {n x : Str} :
    tSeq (tDrop (tSupV K D (tCons (tC (.str m)) tNil))) (tOst K f (tVar 0) (tVar 1)) { nx := fun _ H' => Q .non H', rt := Q } (L2.start [n, x] vs) H := by
  obtain ⟨a, C, ys, hC, rfl, hl, ea, q⟩ := q
  obtain ⟨V, na⟩ := h C hC
  cases ys with
  | nil => cases hl
  | cons y ys =>
    cases ys with
    | cons _ _ => cases hl
    | nil => exact ⟨a, C, rfl, ea, V, (by show 1 ≤ 1000; decide), ea, y, rfl, .ref a, rfl, a, C, rfl, V.ex, na, .inl ⟨ea, fun dx hd hne => q dx hd hne⟩⟩
theorem spEx_len {Cs : List Addr} {fs : List Str} (vs : List V) (H : Hp) (Q : VK) (E : XK) (q : spEx Cs fs vs H Q E) : vs.length = fs.length + 1 := by
  obtain ⟨a, C, ys, _, rfl, hl, _⟩ := q
  rw [List.length_cons, hl]
theorem all_nil {α : Type} {p : α → Prop} : ∀ x ∈ ([] : List α), p x := fun _ h => nomatch h
theorem all_cons {α : Type} {p : α → Prop} {a : α} {l : List α} (h : p a) (t : ∀ x ∈ l, p x) : ∀ x ∈ a :: l, p x := fun x m => by
  rcases List.mem_cons.mp m with e | m
  · rw [e]; exact h
  · exact t x m
end Y

/-! Symbolic execution of readings: what is known of a heap (FH), one rule a construct. -/
namespace Y
open PySem PySem.Spec PyProof.Rows L2

/-! ### what is known of a heap -/
/-- tuples stay -/
def Per (H H' : Hp) : Prop := ∀ t xs, H t = some (.tup xs) → H' t = some (.tup xs)
theorem Per.refl (H : Hp) : Per H H := fun _ _ h => h
theorem per_new {H : Hp} {p : Addr} {o : HO} (h : H p = none) : Per H (upd H p o) := fun t xs e => (upd_ne (ne_of_none e h)).trans e
def NoTup : HO → Prop
  | .tup _ => False
  | _ => True
theorem per_put {H : Hp} {p : Addr} {o o' : HO} (h : H p = some o) (n : NoTup o) : Per H (upd H p o') := fun t xs e => by
  refine (upd_ne ?_).trans e
  intro z
  subst z
  rw [h] at e
  cases e
  exact n
/-- a statement of the object at an address and of the objects that it owns -/
structure Pr where
  s : Addr → Hp → List Addr → Prop
  loc : ∀ {p H H' ks}, s p H ks → (∀ a ∈ ks, H' a = H a) → Per H H' → s p H' ks
  liv : ∀ {p H ks}, s p H ks → ∀ a ∈ ks, H a ≠ none
  key : ∀ {p H ks}, s p H ks → p ∈ ks
abbrev Ent := Addr × Pr
inductive FHs (H : Hp) : List Ent → List Addr → Prop
  | nil : FHs H [] []
  | cons {p φ k L ks} (h : φ.s p H k) (r : FHs H L ks) (nd : k.Nodup) (dj : ∀ a ∈ k, a ∉ ks) : FHs H ((p, φ) :: L) (k ++ ks)
structure FH (H : Hp) (L : List Ent) : Prop where
  ex : ∃ ks, FHs H L ks
/-- of the object alone -/
def lift (φ : HO → Prop) : Pr where
  s := fun p H ks => ks = [p] ∧ ∃ o, H p = some o ∧ φ o
  loc := fun {p H H' ks} ⟨e, o, h, hφ⟩ k _ => ⟨e, o, (k p (by rw [e]; exact List.mem_cons_self)).trans h, hφ⟩
  liv := fun {p H ks} ⟨e, o, h, _⟩ a m => by
    rw [e] at m
    have e2 : a = p := by simpa using m
    rw [e2, h]
    simp
  key := fun {p H ks} ⟨e, _⟩ => by rw [e]; exact List.mem_cons_self
def Is (o : HO) : Pr := lift fun x => x = o
/-- a list that is read: tracked or locked -/
def IsR (xs : List V) : Pr := lift fun x => x = .lst xs ∨ ∃ o, x = .frz o (.lst xs)
inductive Put (p : Addr) (φ φ' : Pr) : List Ent → List Ent → Prop where
  | here {L} : Put p φ φ' ((p, φ) :: L) ((p, φ') :: L)
  | there {q L L'} (h : Put p φ φ' L L') : Put p φ φ' (q :: L) (q :: L')
section
variable {H H' : Hp} {L L' R : List Ent} {p q : Addr} {o o' : HO} {φ φ' : Pr} {xs : List V} {ks : List Addr} {x y : Ent}
theorem FHs.liv (F : FHs H L ks) : ∀ a ∈ ks, H a ≠ none := by
  induction F with
  | nil => intro a m; cases m
  | cons h r nd dj ih => exact fun a m => (List.mem_append.mp m).elim (Pr.liv _ h a) (ih a)
theorem FHs.keep (F : FHs H L ks) (k : ∀ a ∈ ks, H' a = H a) (e : Per H H') : FHs H' L ks := by
  induction F with
  | nil => exact .nil
  | cons h r nd dj ih => exact .cons (Pr.loc _ h (fun a m => k a (List.mem_append_left _ m)) e) (ih fun a m => k a (List.mem_append_right _ m)) nd dj
theorem FHs.nodup (F : FHs H L ks) : ks.Nodup := by
  induction F with
  | nil => exact List.nodup_nil
  | cons h r nd dj ih => exact List.nodup_append.mpr ⟨nd, ih, fun a m b m' e => dj a m (e ▸ m')⟩
theorem FHs.mem (F : FHs H L ks) (m : (p, φ) ∈ L) : ∃ k, φ.s p H k ∧ ∀ a ∈ k, a ∈ ks := by
  induction F with
  | nil => cases m
  | cons h r nd dj ih =>
    rcases List.mem_cons.mp m with e | m
    · cases e
      exact ⟨_, h, fun a m => List.mem_append_left _ m⟩
    · obtain ⟨k, h1, h2⟩ := ih m
      exact ⟨k, h1, fun a m => List.mem_append_right _ (h2 a m)⟩
theorem FHs.perm (F : FHs H L ks) (e : L.Perm L') : ∃ ks', FHs H L' ks' ∧ ks.Perm ks' := by
  induction e generalizing ks with
  | nil => exact ⟨_, F, List.Perm.refl _⟩
  | cons x _ ih =>
    cases F with
    | cons h r nd dj =>
      obtain ⟨ks', r', e'⟩ := ih r
      exact ⟨_, .cons h r' nd (fun a m m' => dj a m (e'.mem_iff.mpr m')), e'.append_left _⟩
  | swap x y l =>
    cases F with
    | cons h r nd dj =>
      cases r with
      | @cons p2 φ2 k2 L2 ks2 h2 r2 nd2 dj2 =>
        rename_i k1
        refine ⟨_, .cons h2 (.cons h r2 nd fun a m m' => dj a m (List.mem_append_right _ m')) nd2 fun a m m' => ?_, ?_⟩
        · rcases List.mem_append.mp m' with m' | m'
          · exact dj a m' (List.mem_append_left _ m)
          · exact dj2 a m m'
        · rw [← List.append_assoc, ← List.append_assoc]
          exact List.perm_append_comm.append_right _
  | trans _ _ ih1 ih2 =>
    obtain ⟨k1, F1, e1⟩ := ih1 F
    obtain ⟨k2, F2, e2⟩ := ih2 F1
    exact ⟨k2, F2, e1.trans e2⟩
theorem FHs.app {A B : List Ent} : ∀ {ks : List Addr}, FHs H (A ++ B) ks → ∃ k1 k2, FHs H A k1 ∧ FHs H B k2 ∧ ks = k1 ++ k2 := by
  induction A with
  | nil => exact fun {ks} F => ⟨[], ks, .nil, F, rfl⟩
  | cons x A ih =>
    intro ks F
    cases F with
    | cons h r nd dj =>
      obtain ⟨k1, k2, F1, F2, e⟩ := ih r
      subst e
      exact ⟨_, k2, .cons h F1 nd (fun a m m' => dj a m (List.mem_append_left _ m')), F2, (List.append_assoc _ _ _).symm⟩
theorem FHs.join {A B : List Ent} {k1 k2 : List Addr} (F1 : FHs H A k1) (F2 : FHs H B k2) (dj : ∀ a ∈ k1, a ∉ k2) : FHs H (A ++ B) (k1 ++ k2) := by
  induction F1 with
  | nil => exact F2
  | cons h r nd dj' ih =>
    rw [List.append_assoc]
    refine .cons h (ih fun a m => dj a (List.mem_append_right _ m)) nd fun a m m' => ?_
    rcases List.mem_append.mp m' with m' | m'
    · exact dj' a m m'
    · exact dj a (List.mem_append_left _ m) m'
theorem FHs.sub (F : FHs H L ks) (s : L'.Sublist L) : ∃ ks', FHs H L' ks' ∧ ks'.Sublist ks := by
  induction s generalizing ks with
  | slnil => exact ⟨_, F, List.Sublist.refl _⟩
  | cons x _ ih =>
    cases F with
    | cons h r nd dj =>
      obtain ⟨ks', r', e'⟩ := ih r
      exact ⟨ks', r', e'.trans (List.sublist_append_right _ _)⟩
  | cons_cons x _ ih =>
    cases F with
    | cons h r nd dj =>
      obtain ⟨ks', r', e'⟩ := ih r
      exact ⟨_, .cons h r' nd (fun a m m' => dj a m (e'.subset m')), (List.Sublist.refl _).append e'⟩
theorem FH.is (F : FH H L) {φ : HO → Prop} (m : (p, lift φ) ∈ L) : ∃ o, H p = some o ∧ φ o := by
  obtain ⟨ks, F⟩ := F.ex
  obtain ⟨k, ⟨_, h⟩, _⟩ := F.mem m
  exact h
theorem FH.get (F : FH H L) (m : (p, Is o) ∈ L) : H p = some o := by
  obtain ⟨o', h, e⟩ := F.is m
  exact h.trans (congrArg some e)
theorem FH.getR (F : FH H L) (m : (p, IsR xs) ∈ L) : Rd H p (.lst xs) := by
  obtain ⟨o', h, e | ⟨o, e⟩⟩ := F.is m
  · subst e; exact .inl h
  · subst e; exact .inr ⟨o, h⟩
theorem RdS.of {S : Sta} {u : HO} (h : Rd H p u) : RdS S H p u := .inl h
theorem FHs.other (F : FHs H L ks) (h : H p = none) : FHs (upd H p o) L ks := F.keep (fun a m => upd_ne fun e => F.liv a m (by rw [e]; exact h)) (per_new h)
theorem FH.other (F : FH H L) (h : H p = none) : FH (upd H p o) L := by
  obtain ⟨ks, F⟩ := F.ex
  exact ⟨ks, F.other h⟩
theorem FH.new (F : FH H L) (h : H p = none) : FH (upd H p o) ((p, Is o) :: L) := by
  obtain ⟨ks, F⟩ := F.ex
  refine ⟨[p] ++ ks, .cons ⟨rfl, o, upd_same, rfl⟩ (F.other h) (by simp) fun a m m' => ?_⟩
  have e : a = p := by simpa using m
  exact F.liv a m' (by rw [e]; exact h)
theorem Put.mem (m : Put p φ φ' L L') : (p, φ) ∈ L := by
  induction m with
  | here => exact List.mem_cons_self
  | there _ ih => exact List.mem_cons_of_mem _ ih
theorem Put.perm (m : Put p φ φ' L L') : ∃ R, L.Perm ((p, φ) :: R) ∧ L'.Perm ((p, φ') :: R) := by
  induction m with
  | @here L => exact ⟨L, List.Perm.refl _, List.Perm.refl _⟩
  | @there q _ _ _ ih =>
    obtain ⟨R, h1, h2⟩ := ih
    exact ⟨q :: R, (h1.cons _).trans (List.Perm.swap _ _ _), (h2.cons _).trans (List.Perm.swap _ _ _)⟩
theorem FHs.put (F : FHs H L ks) (m : Put p (Is o) (Is o') L L') (n : NoTup o) (h : H p = some o) : FHs (upd H p o') L' ks := by
  induction m generalizing ks with
  | here =>
    cases F with
    | cons h' r nd dj =>
      obtain ⟨e, _⟩ := h'
      subst e
      exact .cons ⟨rfl, o', upd_same, rfl⟩ (r.keep (fun a m => upd_ne fun e => dj a (by rw [e]; exact List.mem_cons_self) m) (per_put h n)) nd dj
  | there m ih =>
    cases F with
    | @cons p1 φ1 k1 L1 ks1 h' r nd dj =>
      have hp : p ∈ ks1 := by
        obtain ⟨k, hk, hs⟩ := r.mem m.mem
        exact hs p (Pr.key _ hk)
      exact .cons (Pr.loc _ h' (fun a m => upd_ne fun e => dj a m (by rw [e]; exact hp)) (per_put h n)) (ih r) nd dj
theorem FH.put (F : FH H L) (m : Put p (Is o) (Is o') L L') (n : NoTup o) : FH (upd H p o') L' := by
  have h := F.get m.mem
  obtain ⟨ks, F⟩ := F.ex
  exact ⟨ks, F.put m n h⟩
theorem FHs.weak (F : FHs H L ks) (m : Put p φ φ' L L') (i : ∀ k, φ.s p H k → φ'.s p H k) : FHs H L' ks := by
  induction m generalizing ks with
  | here =>
    cases F with
    | cons h' r nd dj => exact .cons (i _ h') r nd dj
  | there m ih =>
    cases F with
    | cons h' r nd dj => exact .cons h' (ih r) nd dj
/-- an entry says something else -/
theorem FH.weak (F : FH H L) (m : Put p φ φ' L L') (i : ∀ k, φ.s p H k → φ'.s p H k) : FH H L' := by
  obtain ⟨ks, F⟩ := F.ex
  exact ⟨ks, F.weak m i⟩
theorem FH.open_ {φ : HO → Prop} (F : FH H L) (m : (p, lift φ) ∈ L) : ∃ o, φ o ∧ ∀ L', Put p (lift φ) (Is o) L L' → FH H L' := by
  obtain ⟨o, h, hφ⟩ := F.is m
  exact ⟨o, hφ, fun L' pu => F.weak pu fun k ⟨e, _⟩ => ⟨e, o, h, rfl⟩⟩
theorem FH.close {φ : HO → Prop} (F : FH H L) (hφ : φ o) (pu : Put p (Is o) (lift φ) L L') : FH H L' := F.weak pu fun k ⟨e, o', h, e'⟩ => ⟨e, o', h, by rw [e']; exact hφ⟩
theorem FH.sub (F : FH H L) (s : L'.Sublist L) : FH H L' := by
  obtain ⟨ks, F⟩ := F.ex
  obtain ⟨ks', F', _⟩ := F.sub s
  exact ⟨ks', F'⟩
theorem FH.tail (F : FH H (x :: L)) : FH H L := F.sub (List.sublist_cons_self _ _)
theorem FH.perm (F : FH H L) (e : L.Perm L') : FH H L' := by
  obtain ⟨ks, F⟩ := F.ex
  obtain ⟨ks', F', _⟩ := F.perm e
  exact ⟨ks', F'⟩
theorem FH.nil : FH H [] := ⟨[], .nil⟩
/-- an entry to the front -/
theorem pull (m : x ∈ L) : ∃ R, L.Perm (x :: R) := by
  obtain ⟨s, t, e⟩ := List.append_of_mem m
  subst e
  exact ⟨s ++ t, List.perm_middle⟩
theorem pull2 (m : x ∈ L) (m' : y ∈ L) (ne : x.1 ≠ y.1) : ∃ R, L.Perm (x :: y :: R) := by
  obtain ⟨R, h⟩ := pull m
  have m2 := h.mem_iff.mp m'
  rcases List.mem_cons.mp m2 with e | m2
  · exact absurd (congrArg Prod.fst e).symm ne
  · obtain ⟨R', h'⟩ := pull m2
    exact ⟨R', h.trans (h'.cons _)⟩
theorem FH.diff {φ ψ : HO → Prop} (F : FH H L) (m : (p, lift φ) ∈ L) (m' : (q, lift ψ) ∈ L) (h : ∀ o, φ o → ψ o → False) : p ≠ q := by
  intro e
  subst e
  obtain ⟨o, h1, ho⟩ := F.is m
  obtain ⟨o', h2, ho'⟩ := F.is m'
  rw [h1] at h2
  cases h2
  exact h o ho ho'
/-! a thing of several objects -/
def comp {α : Type} (E : Addr → α → List Ent) (P : α → Prop) : Pr where
  s := fun p H ks => p ∈ ks ∧ ∃ a, P a ∧ FHs H (E p a) ks
  loc := fun {p H H' ks} ⟨m, a, h, F⟩ k e => ⟨m, a, h, F.keep k e⟩
  liv := fun {p H ks} ⟨m, a, h, F⟩ => F.liv
  key := fun {p H ks} ⟨m, _⟩ => m
theorem FH.unfold {α : Type} {E : Addr → α → List Ent} {P : α → Prop} (F : FH H ((p, comp E P) :: L)) : ∃ a, P a ∧ FH H (E p a ++ L) := by
  obtain ⟨ks, F⟩ := F.ex
  cases F with
  | cons h r nd dj =>
    obtain ⟨m, a, hp, F'⟩ := h
    exact ⟨a, hp, _, F'.join r dj⟩
theorem FH.fold {α : Type} {E : Addr → α → List Ent} {P : α → Prop} (a : α) (hp : P a) (F : FH H (E p a ++ L)) (m : p ∈ (E p a).map (·.1)) : FH H ((p, comp E P) :: L) := by
  obtain ⟨ks, F⟩ := F.ex
  obtain ⟨k1, k2, F1, F2, e⟩ := F.app
  subst e
  have nd := List.nodup_append.mp (F1.join F2 (fun a m m' => (List.nodup_append.mp F.nodup).2.2 a m a m' rfl)).nodup
  obtain ⟨x, hx, ex⟩ := List.mem_map.mp m
  obtain ⟨k, hk, hs⟩ := F1.mem (p := x.1) (φ := x.2) hx
  exact ⟨k1 ++ k2, .cons ⟨by rw [← ex]; exact hs _ (Pr.key _ hk), a, hp, F1⟩ F2 nd.1 fun a m m' => nd.2.2 a m a m' rfl⟩
end
/-- x is taken out of L -/
inductive Take (x : Ent) : List Ent → List Ent → Prop where
  | here {L} : Take x (x :: L) L
  | there {y L L'} (h : Take x L L') : Take x (y :: L) (y :: L')
/-- some of L, in any order -/
inductive Sel : List Ent → List Ent → Prop where
  | nil {L} : Sel [] L
  | all {L} : Sel L L
  | cons {x R L L'} (h : Take x L L') (s : Sel R L') : Sel (x :: R) L
  | drop {x R L} (s : Sel R L) : Sel R (x :: L)
theorem Take.perm {x : Ent} {L L' : List Ent} (h : Take x L L') : L.Perm (x :: L') := by
  induction h with
  | here => exact List.Perm.refl _
  | there _ ih => exact (ih.cons _).trans (List.Perm.swap _ _ _)
theorem Sel.ok {R L : List Ent} (s : Sel R L) : ∃ M, L.Perm (R ++ M) := by
  induction s with
  | nil => exact ⟨_, List.Perm.refl _⟩
  | all => exact ⟨[], by rw [List.append_nil]⟩
  | cons h _ ih =>
    obtain ⟨M, e⟩ := ih
    exact ⟨M, h.perm.trans (e.cons _)⟩
  | @drop x _ _ _ ih =>
    obtain ⟨M, e⟩ := ih
    exact ⟨x :: M, (e.cons x).trans List.perm_middle.symm⟩
theorem FH.sel {H : Hp} {L R : List Ent} (F : FH H L) (s : Sel R L) : FH H R := by
  obtain ⟨M, e⟩ := s.ok
  exact (F.perm e).sub (List.sublist_append_left _ _)

/-! ### one rule a construct -/
abbrev K0 := L2.St → Hp → Prop
section
variable {σ : L2.St} {H H' : Hp} {Q : VK} {QB : Bool → Hp → Prop} {QL : List V → Hp → Prop} {QO : Option Int → Hp → Prop} {QS : L2.St → Hp → Prop} {te ta tb tc : TE} {t u : TT} {tl : TA} {r r' : R2} {rc : List V → Hp → VK → Prop} {s1 s2 : TS} {nx bk ct : K0} {rt : VK} {v x y : V} {g : TG} {i j : Int} {b : Bool} {E : XK} {sp : Sp} {C : Addr} {P : Prop} [Decidable P] {A B : Prop} {S : Sta}
theorem is_var {n : Nat} (h : tVar n σ H Q) : tVar n σ H Q := h
theorem is_g {n : Nat} (h : gName n v σ H QS) : gName n v σ H QS := h
theorem is_au {n : Nat} {te : TE} {ti : TIp} {D : Ends} (h : tAug n te ti D σ H) : tAug n te ti D σ H := h
theorem is_ml {n : Nat} {D : List V} (h : eMakeL n C sp D E tl σ H Q) : eMakeL n C sp D E tl σ H Q := h
theorem is_isi {l : List V} (h : rIsI l H Q) : rIsI l H Q := h
theorem is_pow (h : rPow x y H Q) : rPow x y H Q := h
theorem is_ix (h : rIx S x y H Q) : rIx S x y H Q := h
theorem is_len {l : List V} (h : rLen S l H Q) : rLen S l H Q := h
theorem is_sl {x : V} {lo hi : Option Int} (h : rSl S x lo hi H Q) : rSl S x lo hi H Q := h
theorem is_eq (h : rEq x y H Q) : rEq x y H Q := h
theorem is_ne (h : rNe x y H Q) : rNe x y H Q := h
theorem is_is (h : rIs x y H Q) : rIs x y H Q := h
theorem is_isn (h : rIsNot x y H Q) : rIsNot x y H Q := h
theorem x_c (h : Q v H) : tC v σ H Q := h
theorem x_con (h : Q v H) : eCon v σ H Q := h
theorem x_op (h : ta σ H fun x H1 => tb σ H1 fun y H2 => r x y H2 Q) : tOp r ta tb σ H Q := h
theorem x_un {ru : V → Hp → VK → Prop} (h : ta σ H fun x H1 => ru x H1 Q) : tUn ru ta σ H Q := h
theorem x_add (h : Q (.int (i + j)) H) : rAdd (.int i) (.int j) H Q := .inl ⟨i, j, rfl, rfl, h⟩
theorem x_sub (h : Q (.int (i - j)) H) : rSub (.int i) (.int j) H Q := ⟨i, j, rfl, rfl, h⟩
theorem x_mul (c : CMul i j) (h : Q (.int (i * j)) H) : rMul (.int i) (.int j) H Q := ⟨i, j, rfl, rfl, c, h⟩
theorem x_fdiv (c : CDivW i j) (h : Q (.int (i / j)) H) : rFdiv (.int i) (.int j) H Q := ⟨i, j, rfl, rfl, c, h⟩
theorem x_mod (c : 0 < j) (h : Q (.int (i % j)) H) : rMod (.int i) (.int j) H Q := ⟨i, j, rfl, rfl, c, h⟩
theorem x_pow (c : CPow i j) (h : Q (.int (i ^ j.toNat)) H) : rPow (.int i) (.int j) H Q := ⟨i, j, rfl, rfl, c, h⟩
theorem x_shl (c : CPow i j) (h : Q (.int (i * 2 ^ j.toNat)) H) : rShl (.int i) (.int j) H Q := ⟨i, j, rfl, rfl, c, h⟩
theorem x_band (h : Q (.int (Builtin.bitAnd i j)) H) : rAnd (.int i) (.int j) H Q := ⟨i, j, rfl, rfl, h⟩
theorem x_neg (h : Q (.int (-i)) H) : rNeg (.int i) H Q := ⟨i, rfl, h⟩
theorem x_lt (h : Q (.bl (decide (i < j))) H) : rLt (.int i) (.int j) H Q := ⟨i, j, rfl, rfl, h⟩
theorem x_le (h : Q (.bl (decide (i ≤ j))) H) : rLe (.int i) (.int j) H Q := ⟨i, j, rfl, rfl, h⟩
theorem x_gt (h : Q (.bl (decide (j < i))) H) : rGt (.int i) (.int j) H Q := ⟨i, j, rfl, rfl, h⟩
theorem x_ge (h : Q (.bl (decide (j ≤ i))) H) : rGe (.int i) (.int j) H Q := ⟨i, j, rfl, rfl, h⟩
theorem x_eqI (h : Q (.bl (decide (i = j))) H) : rEq (.int i) (.int j) H Q := ⟨rfl, by rw [show decide (V.int i = V.int j) = decide (i = j) by rw [Bool.eq_iff_iff]; simp]; exact h⟩
theorem x_neI (h : Q (.bl (decide (i ≠ j))) H) : rNe (.int i) (.int j) H Q := ⟨rfl, by rw [show (!decide (V.int i = V.int j)) = decide (i ≠ j) by rw [Bool.eq_iff_iff]; simp]; exact h⟩
theorem x_eqB {a b : Bool} (h : Q (.bl (decide (a = b))) H) : rEq (.bl a) (.bl b) H Q := ⟨rfl, by rw [show decide (V.bl a = V.bl b) = decide (a = b) by rw [Bool.eq_iff_iff]; simp]; exact h⟩
theorem x_neB {a b : Bool} (h : Q (.bl (decide (a ≠ b))) H) : rNe (.bl a) (.bl b) H Q := ⟨rfl, by rw [show (!decide (V.bl a = V.bl b)) = decide (a ≠ b) by rw [Bool.eq_iff_iff]; simp]; exact h⟩
theorem x_eqS {a b : Str} (h : Q (.bl (decide (a = b))) H) : rEq (.str a) (.str b) H Q := ⟨rfl, by rw [show decide (V.str a = V.str b) = decide (a = b) by rw [Bool.eq_iff_iff]; simp]; exact h⟩
theorem x_neS {a b : Str} (h : Q (.bl (decide (a ≠ b))) H) : rNe (.str a) (.str b) H Q := ⟨rfl, by rw [show (!decide (V.str a = V.str b)) = decide (a ≠ b) by rw [Bool.eq_iff_iff]; simp]; exact h⟩
theorem x_isN (h : Q (.bl true) H) : rIs .non .non H Q := ⟨rfl, h⟩
theorem x_isnN (h : Q (.bl false) H) : rIsNot .non .non H Q := ⟨rfl, h⟩
theorem x_isI (h : Q (.bl false) H) : rIs (.int i) .non H Q := ⟨rfl, h⟩
theorem x_isnI (h : Q (.bl true) H) : rIsNot (.int i) .non H Q := ⟨rfl, h⟩
theorem x_isR (h : Q (.bl false) H) : rIs (.ref C) .non H Q := ⟨rfl, h⟩
theorem x_isnR (h : Q (.bl true) H) : rIsNot (.ref C) .non H Q := ⟨rfl, h⟩
theorem x_isB (h : Q (.bl false) H) : rIs (.bl b) .non H Q := ⟨rfl, h⟩
theorem x_isnB (h : Q (.bl true) H) : rIsNot (.bl b) .non H Q := ⟨rfl, h⟩
/-! tests -/
theorem x_test (h : te σ H fun x H' => ∃ k, x = .bl k ∧ QB k H') : tTest te σ H QB := h
theorem x_tB (h : te σ H fun x H' => ∃ k, x = .bl k ∧ QB k H') : tB te σ H QB := h
theorem x_bl {QK : Bool → Prop} (h : QK b) : ∃ k, V.bl b = .bl k ∧ QK k := ⟨b, rfl, h⟩
theorem x_not (h : t σ H fun c H1 => QB (!c) H1) : tNot t σ H QB := h
theorem x_and (h : t σ H fun c H1 => if c = true then u σ H1 QB else QB false H1) : tAnd t u σ H QB := h
theorem x_or (h : t σ H fun c H1 => if c = true then QB true H1 else u σ H1 QB) : tOr t u σ H QB := h
theorem x_andV (h : ta σ H fun x H1 => ∃ c, x = .bl c ∧ if c = true then tb σ H1 Q else Q (.bl false) H1) : tAndV ta tb σ H Q := h
theorem x_orV (h : ta σ H fun x H1 => ∃ c, x = .bl c ∧ if c = true then Q (.bl true) H1 else tb σ H1 Q) : tOrV ta tb σ H Q := h
theorem x_notV (h : ta σ H fun x H1 => ∃ c, x = .bl c ∧ Q (.bl (!c)) H1) : tNotV ta σ H Q := h
theorem x_tIf (h : t σ H fun c H1 => if c = true then ta σ H1 Q else tb σ H1 Q) : tIf t ta tb σ H Q := h
theorem x_chain (h : ta σ H fun x H1 => tb σ H1 fun y H2 => r x y H2 fun z H3 => ∃ k, z = .bl k ∧ (if k = true then tc σ H3 fun w' H4 => r' y w' H4 Q else Q (.bl false) H3)) : tChain r r' ta tb tc σ H Q := h
/-! decisions -/
theorem x_ite (h1 : P → A) (h2 : ¬ P → B) : if decide P = true then A else B := by
  by_cases h : P
  · rw [if_pos (decide_eq_true h)]; exact h1 h
  · rw [if_neg (by rw [decide_eq_false h]; exact Bool.false_ne_true)]; exact h2 h
theorem x_niteP (h1 : ¬ P → A) (h2 : P → B) : if (!decide P) = true then A else B := by
  by_cases h : P
  · rw [decide_eq_true h, if_neg (by simp)]; exact h2 h
  · rw [decide_eq_false h, if_pos (by simp)]; exact h1 h
theorem x_iteT (h : A) : if true = true then A else B := by rw [if_pos rfl]; exact h
theorem x_iteF (h : B) : if false = true then A else B := by rw [if_neg Bool.false_ne_true]; exact h
theorem x_niteT (h : B) : if (!true) = true then A else B := x_iteF h
theorem x_niteF (h : A) : if (!false) = true then A else B := x_iteT h
theorem x_itec (h1 : b = true → A) (h2 : b = false → B) : if b = true then A else B := by
  cases b with
  | true => exact x_iteT (h1 rfl)
  | false => exact x_iteF (h2 rfl)
theorem x_nitec (h1 : b = false → A) (h2 : b = true → B) : if (!b) = true then A else B := by
  cases b with
  | true => exact x_iteF (h2 rfl)
  | false => exact x_iteT (h1 rfl)
/-! statements -/
theorem x_seq (h : s1 ⟨s2 ⟨nx, rt, bk, ct⟩, rt, bk, ct⟩ σ H) : tSeq s1 s2 ⟨nx, rt, bk, ct⟩ σ H := h
theorem x_next (h : nx σ H) : tNext ⟨nx, rt, bk, ct⟩ σ H := h
theorem x_brk (h : bk σ H) : tBreak ⟨nx, rt, bk, ct⟩ σ H := h
theorem x_cont (h : ct σ H) : tCont ⟨nx, rt, bk, ct⟩ σ H := h
theorem x_drop (h : te σ H fun _ H1 => nx σ H1) : tDrop te ⟨nx, rt, bk, ct⟩ σ H := h
theorem x_ret (h : te σ H rt) : tRet te ⟨nx, rt, bk, ct⟩ σ H := h
theorem x_retN (h : rt .non H) : tRetN ⟨nx, rt, bk, ct⟩ σ H := h
theorem x_ifS (h : t σ H fun b H1 => if b = true then s1 ⟨nx, rt, bk, ct⟩ σ H1 else s2 ⟨nx, rt, bk, ct⟩ σ H1) : tIfS t s1 s2 ⟨nx, rt, bk, ct⟩ σ H := h
theorem x_asg (h : te σ H fun x H1 => g x σ H1 nx) : tAsg te g ⟨nx, rt, bk, ct⟩ σ H := h
theorem x_augA (h : Q (.int (i + j)) H) : rAug (.int i) (.int j) H Q := ⟨i, j, rfl, rfl, h⟩
theorem x_augS (h : Q (.int (i - j)) H) : rAugS (.int i) (.int j) H Q := ⟨i, j, rfl, rfl, h⟩
/-! calls, displays -/
theorem x_nil (h : QL [] H) : tNil σ H QL := h
theorem x_cons (h : ta σ H fun x H1 => tl σ H1 fun xs H2 => QL (x :: xs) H2) : tCons ta tl σ H QL := h
theorem x_cb (h : tl σ H fun vs H1 => rc vs H1 Q) : tCB rc tl σ H Q := h
theorem x_call (h : tl σ H fun vs H1 => sp (vs ++ []) H1 Q E) : tCall sp [] E tl σ H Q := h
theorem x_chn {tl : TC} (h : ta σ H fun x H1 => tl σ x H1 Q) : tChn ta tl σ H Q := h
theorem x_clast (h : tb σ H fun y H1 => r x y H1 Q) : cLast r tb σ x H Q := h
theorem x_clink {tl : TC} (h : tb σ H fun y H1 => r x y H1 fun z H2 => ∃ k, z = .bl k ∧ (if k = true then tl σ y H2 Q else Q (.bl false) H2)) : cLink r tb tl σ x H Q := h
theorem x_bits (h : Q (.int (Builtin.Int.intBits i : Nat)) H) : rBits (.int i) H Q := ⟨i, rfl, h⟩
theorem x_app {vs : List V} (h : sp vs H Q E) : sp (vs ++ []) H Q E := by rw [List.append_nil]; exact h
theorem x_app' {vs : List V} (h : sp (x :: vs) H Q E) : sp (x :: (vs ++ [])) H Q E := by rw [List.append_nil]; exact h
theorem x_raw {vs : List V} (h : sp vs H Q E) : spRaw sp vs H Q E := by unfold spRaw; rw [List.append_nil]; exact h
theorem x_cmeth (h : tl σ H fun vs H2 => sp (.ref C :: vs) H2 Q E) : ClX.tCMeth C sp E (eCon (.ref C)) tl σ H Q := ⟨rfl, h⟩
def Kmake (C : Addr) (sp : Sp) (vs : List V) (H1 : Hp) (Q : VK) (E : XK) : Prop := ∀ x dx, H1 x = none → H1 dx = none → dx ≠ x → sp (.ref x :: (vs ++ [])) (upd (upd H1 dx (.own x)) x (.ins C dx [])) (fun v H2 => v = .non ∧ Q (.ref x) H2) E
theorem x_make (h : tl σ H fun vs H1 => Kmake C sp vs H1 Q E) : tMake C sp [] E tl σ H Q := h
theorem x_meth {m : Str} (h : ta σ H fun x H1 => ∃ a dx fs, x = .ref a ∧ H1 a = some (.ins C dx fs) ∧ fs.lookup m = none ∧ tl σ H1 fun vs H2 => sp (x :: (vs ++ [])) H2 Q E) : tMeth C m sp [] E ta tl σ H Q := h
def Klst (xs : List V) (H1 : Hp) (Q : VK) : Prop := xs.length ≤ sizeLine ∧ ∀ p, H1 p = none → Q (.ref p) (upd H1 p (.lst xs))
theorem x_lst (h : tl σ H fun xs H1 => Klst xs H1 Q) : tLst tl σ H Q := h
def Ktup (xs : List V) (H1 : Hp) (Q : VK) : Prop := xs.length ≤ sizeLine ∧ ∀ p, H1 p = none → Q (.ref p) (upd H1 p (.tup xs))
theorem x_tup (h : tl σ H fun xs H1 => Ktup xs H1 Q) : tTup tl σ H Q := h
theorem x_intI (h : Q (.int i) H) : rInt [.int i] H Q := .inl ⟨i, rfl, h⟩
theorem x_intB (h : Q (.int (if b then 1 else 0)) H) : rInt [.bl b] H Q := .inr ⟨b, rfl, h⟩
theorem isi_of {n t : String} {bb : Bool} (ty : TyN H x t) (k : kitB t n = some bb) (e : isA t n = bb) (h : Q (.bl bb) H) : rIsI [x, .ty n] H Q := ⟨x, n, t, rfl, ty, by rw [e]; exact k, by rw [e]; exact h⟩

theorem kit_int_int : kitB "int" "int" = some true := by decide +kernel
theorem x_isi_int_int (h : Q (.bl true) H) : rIsI [.int i, .ty "int"] H Q := isi_of (.int i) kit_int_int rfl h
theorem kit_int_bool : kitB "int" "bool" = some false := by decide +kernel
theorem x_isi_int_bool (h : Q (.bl false) H) : rIsI [.int i, .ty "bool"] H Q := isi_of (.int i) kit_int_bool rfl h
theorem kit_int_str : kitB "int" "str" = some false := by decide +kernel
theorem x_isi_int_str (h : Q (.bl false) H) : rIsI [.int i, .ty "str"] H Q := isi_of (.int i) kit_int_str rfl h
theorem kit_int_list : kitB "int" "list" = some false := by decide +kernel
theorem x_isi_int_list (h : Q (.bl false) H) : rIsI [.int i, .ty "list"] H Q := isi_of (.int i) kit_int_list rfl h
theorem kit_int_tuple : kitB "int" "tuple" = some false := by decide +kernel
theorem x_isi_int_tuple (h : Q (.bl false) H) : rIsI [.int i, .ty "tuple"] H Q := isi_of (.int i) kit_int_tuple rfl h
theorem kit_int_dict : kitB "int" "dict" = some false := by decide +kernel
theorem x_isi_int_dict (h : Q (.bl false) H) : rIsI [.int i, .ty "dict"] H Q := isi_of (.int i) kit_int_dict rfl h
theorem kit_bool_int : kitB "bool" "int" = some true := by decide +kernel
theorem x_isi_bool_int (h : Q (.bl true) H) : rIsI [.bl b, .ty "int"] H Q := isi_of (.bl b) kit_bool_int rfl h
theorem kit_bool_bool : kitB "bool" "bool" = some true := by decide +kernel
theorem x_isi_bool_bool (h : Q (.bl true) H) : rIsI [.bl b, .ty "bool"] H Q := isi_of (.bl b) kit_bool_bool rfl h
theorem kit_bool_str : kitB "bool" "str" = some false := by decide +kernel
theorem x_isi_bool_str (h : Q (.bl false) H) : rIsI [.bl b, .ty "str"] H Q := isi_of (.bl b) kit_bool_str rfl h
theorem kit_bool_list : kitB "bool" "list" = some false := by decide +kernel
theorem x_isi_bool_list (h : Q (.bl false) H) : rIsI [.bl b, .ty "list"] H Q := isi_of (.bl b) kit_bool_list rfl h
theorem kit_bool_tuple : kitB "bool" "tuple" = some false := by decide +kernel
theorem x_isi_bool_tuple (h : Q (.bl false) H) : rIsI [.bl b, .ty "tuple"] H Q := isi_of (.bl b) kit_bool_tuple rfl h
theorem kit_bool_dict : kitB "bool" "dict" = some false := by decide +kernel
theorem x_isi_bool_dict (h : Q (.bl false) H) : rIsI [.bl b, .ty "dict"] H Q := isi_of (.bl b) kit_bool_dict rfl h
theorem kit_str_int : kitB "str" "int" = some false := by decide +kernel
theorem x_isi_str_int {zs : Str} (h : Q (.bl false) H) : rIsI [.str zs, .ty "int"] H Q := isi_of (.str zs) kit_str_int rfl h
theorem kit_str_bool : kitB "str" "bool" = some false := by decide +kernel
theorem x_isi_str_bool {zs : Str} (h : Q (.bl false) H) : rIsI [.str zs, .ty "bool"] H Q := isi_of (.str zs) kit_str_bool rfl h
theorem kit_str_str : kitB "str" "str" = some true := by decide +kernel
theorem x_isi_str_str {zs : Str} (h : Q (.bl true) H) : rIsI [.str zs, .ty "str"] H Q := isi_of (.str zs) kit_str_str rfl h
theorem kit_str_list : kitB "str" "list" = some false := by decide +kernel
theorem x_isi_str_list {zs : Str} (h : Q (.bl false) H) : rIsI [.str zs, .ty "list"] H Q := isi_of (.str zs) kit_str_list rfl h
theorem kit_str_tuple : kitB "str" "tuple" = some false := by decide +kernel
theorem x_isi_str_tuple {zs : Str} (h : Q (.bl false) H) : rIsI [.str zs, .ty "tuple"] H Q := isi_of (.str zs) kit_str_tuple rfl h
theorem kit_str_dict : kitB "str" "dict" = some false := by decide +kernel
theorem x_isi_str_dict {zs : Str} (h : Q (.bl false) H) : rIsI [.str zs, .ty "dict"] H Q := isi_of (.str zs) kit_str_dict rfl h
theorem kit_NoneType_int : kitB "NoneType" "int" = some false := by decide +kernel
theorem x_isi_NoneType_int (h : Q (.bl false) H) : rIsI [.non, .ty "int"] H Q := isi_of (.non) kit_NoneType_int rfl h
theorem kit_NoneType_bool : kitB "NoneType" "bool" = some false := by decide +kernel
theorem x_isi_NoneType_bool (h : Q (.bl false) H) : rIsI [.non, .ty "bool"] H Q := isi_of (.non) kit_NoneType_bool rfl h
theorem kit_NoneType_str : kitB "NoneType" "str" = some false := by decide +kernel
theorem x_isi_NoneType_str (h : Q (.bl false) H) : rIsI [.non, .ty "str"] H Q := isi_of (.non) kit_NoneType_str rfl h
theorem kit_NoneType_list : kitB "NoneType" "list" = some false := by decide +kernel
theorem x_isi_NoneType_list (h : Q (.bl false) H) : rIsI [.non, .ty "list"] H Q := isi_of (.non) kit_NoneType_list rfl h
theorem kit_NoneType_tuple : kitB "NoneType" "tuple" = some false := by decide +kernel
theorem x_isi_NoneType_tuple (h : Q (.bl false) H) : rIsI [.non, .ty "tuple"] H Q := isi_of (.non) kit_NoneType_tuple rfl h
theorem kit_NoneType_dict : kitB "NoneType" "dict" = some false := by decide +kernel
theorem x_isi_NoneType_dict (h : Q (.bl false) H) : rIsI [.non, .ty "dict"] H Q := isi_of (.non) kit_NoneType_dict rfl h
theorem kit_list_int : kitB "list" "int" = some false := by decide +kernel
theorem kit_list_bool : kitB "list" "bool" = some false := by decide +kernel
theorem kit_list_str : kitB "list" "str" = some false := by decide +kernel
theorem kit_list_list : kitB "list" "list" = some true := by decide +kernel
theorem kit_list_tuple : kitB "list" "tuple" = some false := by decide +kernel
theorem kit_list_dict : kitB "list" "dict" = some false := by decide +kernel
theorem kit_tuple_int : kitB "tuple" "int" = some false := by decide +kernel
theorem kit_tuple_bool : kitB "tuple" "bool" = some false := by decide +kernel
theorem kit_tuple_str : kitB "tuple" "str" = some false := by decide +kernel
theorem kit_tuple_list : kitB "tuple" "list" = some false := by decide +kernel
theorem kit_tuple_tuple : kitB "tuple" "tuple" = some true := by decide +kernel
theorem kit_tuple_dict : kitB "tuple" "dict" = some false := by decide +kernel
theorem kit_dict_int : kitB "dict" "int" = some false := by decide +kernel
theorem kit_dict_bool : kitB "dict" "bool" = some false := by decide +kernel
theorem kit_dict_str : kitB "dict" "str" = some false := by decide +kernel
theorem kit_dict_list : kitB "dict" "list" = some false := by decide +kernel
theorem kit_dict_tuple : kitB "dict" "tuple" = some false := by decide +kernel
theorem kit_dict_dict : kitB "dict" "dict" = some true := by decide +kernel

/-! the heap -/
variable {L L' : List Ent} {p q : Addr} {xs : List V} {f : Str} {dx : Addr} {fs : List (Str × V)} {lo hi : Option Int}
theorem x_ixL (F : FH H L) (m : (p, Is (.lst xs)) ∈ L) (a : atI xs i = some v) (h : Q v H) : rIx S (.ref p) (.int i) H Q := .inl ⟨p, xs, i, v, rfl, rfl, .inl (.inl (.inl (F.get m))), a, h⟩
theorem x_ixT (F : FH H L) (m : (p, Is (.tup xs)) ∈ L) (a : atI xs i = some v) (h : Q v H) : rIx S (.ref p) (.int i) H Q := .inl ⟨p, xs, i, v, rfl, rfl, .inr (.inl (.inl (F.get m))), a, h⟩
theorem x_ixR (F : FH H L) (m : (p, IsR xs) ∈ L) (a : atI xs i = some v) (h : Q v H) : rIx S (.ref p) (.int i) H Q := .inl ⟨p, xs, i, v, rfl, rfl, .inl (.inl (F.getR m)), a, h⟩
theorem x_lenL (F : FH H L) (m : (p, Is (.lst xs)) ∈ L) (h : Q (.int (xs.length : Int)) H) : rLen S [.ref p] H Q := .inl ⟨p, xs, rfl, .inl (.inl (.inl (F.get m))), h⟩
theorem x_lenT (F : FH H L) (m : (p, Is (.tup xs)) ∈ L) (h : Q (.int (xs.length : Int)) H) : rLen S [.ref p] H Q := .inl ⟨p, xs, rfl, .inr (.inl (.inl (F.get m))), h⟩
theorem x_lenR (F : FH H L) (m : (p, IsR xs) ∈ L) (h : Q (.int (xs.length : Int)) H) : rLen S [.ref p] H Q := .inl ⟨p, xs, rfl, .inl (.inl (F.getR m)), h⟩
theorem x_fld (h : te σ H fun x H1 => ∃ a dx fs v, x = .ref a ∧ H1 a = some (.ins C dx fs) ∧ fs.lookup f = some v ∧ Q v H1) : eFld C f te σ H Q := h
theorem x_fldG {QV : V → Prop} (F : FH H L) (m : (p, Is (.ins C dx fs)) ∈ L) (l : fs.lookup f = some v) (h : QV v) : ∃ a dx fs v, V.ref p = .ref a ∧ H a = some (.ins C dx fs) ∧ fs.lookup f = some v ∧ QV v := ⟨p, dx, fs, v, rfl, F.get m, l, h⟩
theorem x_methG {m : Str} {B : Prop} (F : FH H L) (hm : (p, Is (.ins C dx fs)) ∈ L) (l : fs.lookup m = none) (h : B) : ∃ a dx fs, V.ref p = .ref a ∧ H a = some (.ins C dx fs) ∧ fs.lookup m = none ∧ B := ⟨p, dx, fs, rfl, F.get hm, l, h⟩
theorem x_inOwnF (F : FH H L) (m : (p, Is (.ins C dx fs)) ∈ L) (h : sp [.ref p, y] H (fun v H' => ∃ b, v = .bl b ∧ Q (.bl b) H') E) : rInOwn C false sp E y (.ref p) H Q := ⟨p, dx, fs, rfl, F.get m, h⟩
theorem x_inOwnT (F : FH H L) (m : (p, Is (.ins C dx fs)) ∈ L) (h : sp [.ref p, y] H (fun v H' => ∃ b, v = .bl b ∧ Q (.bl (!b)) H') E) : rInOwn C true sp E y (.ref p) H Q := ⟨p, dx, fs, rfl, F.get m, h⟩
theorem x_setF (h : tb σ H fun y H1 => te σ H1 fun x H2 => ∃ a dx fs, x = .ref a ∧ H2 a = some (.ins C dx fs) ∧ fs.length < 1000 ∧ nx σ (upd H2 a (.ins C dx (putF f y fs)))) : sSetF C f te tb ⟨nx, rt, bk, ct⟩ σ H := h
theorem x_setFG {QH : Hp → Prop} {fs' : List (Str × V)} (F : FH H L) (m : (p, Is (.ins C dx fs)) ∈ L) (hl : fs.length < 1000) (e : putF f y fs = fs') (pu : Put p (Is (.ins C dx fs)) (Is (.ins C dx fs')) L L') (h : ∀ H', FH H' L' → QH H') : ∃ a dx fs, V.ref p = .ref a ∧ H a = some (.ins C dx fs) ∧ fs.length < 1000 ∧ QH (upd H a (.ins C dx (putF f y fs))) :=
  ⟨p, dx, fs, rfl, F.get m, hl, by rw [e]; exact h _ (F.put pu trivial)⟩
theorem x_gsub {to ti : TE} {ts : TSet} (h : to σ H fun o H1 => ti σ H1 fun i H2 => ts o i v H2 fun H3 => QS σ H3) : gSub to ti ts v σ H QS := h
theorem x_setL {k : Nat} {QH : Hp → Prop} (F : FH H L) (m : (p, Is (.lst xs)) ∈ L) (a : ixN xs.length i = some k) (pu : Put p (Is (.lst xs)) (Is (.lst (xs.set k v))) L L') (h : ∀ H', FH H' L' → QH H') : rSetL (.ref p) (.int i) v H QH :=
  ⟨p, xs, i, k, rfl, rfl, F.get m, a, h _ (F.put pu trivial)⟩
theorem x_apd (h : te σ H fun x H1 => ∃ l, x = .ref l ∧ (∃ xs, H1 l = some (.lst xs)) ∧ tl σ H1 fun vs H2 => rAppend x vs H2 Q) : eApp te tl σ H Q := h
theorem x_apdG {B : Prop} (F : FH H L) (m : (p, Is (.lst xs)) ∈ L) (h : B) : ∃ l, V.ref p = .ref l ∧ (∃ xs, H l = some (.lst xs)) ∧ B := ⟨p, rfl, ⟨xs, F.get m⟩, h⟩
theorem x_append (F : FH H L) (m : (p, Is (.lst xs)) ∈ L) (z : xs.length < sizeLine) (pu : Put p (Is (.lst xs)) (Is (.lst (xs ++ [v]))) L L') (h : ∀ H', FH H' L' → Q .non H') : rAppend (.ref p) [v] H Q :=
  ⟨p, xs, v, rfl, rfl, F.get m, z, h _ (F.put pu trivial)⟩
theorem x_lstG {xs : List V} (F : FH H L) (z : xs.length ≤ sizeLine) (h : ∀ p H', H p = none → FH H' ((p, Is (.lst xs)) :: L) → Q (.ref p) H') : Klst xs H Q := ⟨z, fun p hp => h p _ hp (F.new hp)⟩
theorem x_tupG {xs : List V} (F : FH H L) (z : xs.length ≤ sizeLine) (h : ∀ p H', H p = none → FH H' ((p, Is (.tup xs)) :: L) → Q (.ref p) H') : Ktup xs H Q := ⟨z, fun p hp => h p _ hp (F.new hp)⟩
theorem x_makeG {C : Addr} {vs : List V} (F : FH H L) (h : ∀ x dx H', FH H' ((x, Is (.ins C dx [])) :: L) → sp (.ref x :: vs) H' (fun v H2 => v = .non ∧ Q (.ref x) H2) E) :
    Kmake C sp vs H Q E := fun x dx hx hd ne => by
  rw [List.append_nil]
  exact h x dx _ ((F.other hd).new (by rw [upd_ne (Ne.symm ne)]; exact hx))
theorem x_sl {tlo thi : TO} {rs : V → Option Int → Option Int → Hp → VK → Prop} (h : te σ H fun x H1 => tlo σ H1 fun l H2 => thi σ H2 fun u H3 => rs x l u H3 Q) : L2.tSl rs te tlo thi σ H Q := h
theorem x_nopart (h : QO none H) : tNoPart σ H QO := h
theorem x_part (h : te σ H fun x H1 => ∃ i, x = .int i ∧ QO (some i) H1) : tPart te σ H QO := h
theorem cutV_tail {x : V} : cutV (x :: xs) (some 1) none = xs := by
  unfold cutV
  rw [HT.sIx_none, show (1 : Int) = ((1 : Nat) : Int) from rfl, HT.sIx_nat]
  rw [show min 1 (x :: xs).length = 1 by rw [List.length_cons]; omega]
  show xs.take _ = xs
  rw [List.length_cons, show xs.length + 1 - 1 = xs.length by omega, List.take_length]
theorem x_slL (F : FH H L) (m : (p, Is (.lst xs)) ∈ L) (h : ∀ q H', H q = none → FH H' ((q, Is (.lst (cutV xs lo hi))) :: L) → Q (.ref q) H') : rSl S (.ref p) lo hi H Q := ⟨p, xs, rfl, .inl (.inl (F.get m)), fun q hq => h q _ hq (F.new hq)⟩
theorem x_sl1 {v : V} (F : FH H L) (m : (p, Is (.lst (v :: xs))) ∈ L) (h : ∀ q H', H q = none → FH H' ((q, Is (.lst xs)) :: L) → Q (.ref q) H') : rSl S (.ref p) (some 1) none H Q := ⟨p, _, rfl, .inl (.inl (F.get m)), fun q hq => h q _ hq (by rw [show cutV (v :: xs) (some 1) none = xs from cutV_tail]; exact F.new hq)⟩
theorem cutV_pre {n : Nat} {ys zs : List V} (e : ys.length = n) : cutV (ys ++ zs) none (some (n : Int)) = ys := by
  unfold cutV
  rw [HT.sIx_none, HT.sIx_nat, List.drop_zero, Nat.sub_zero, Nat.min_eq_left (by rw [List.length_append]; omega), ← e, List.take_left]
theorem x_slp1 {v0 : V} (F : FH H L) (m : (p, Is (.lst (v0 :: xs))) ∈ L) (h : ∀ q H', H q = none → FH H' ((q, Is (.lst [v0])) :: L) → Q (.ref q) H') : rSl S (.ref p) none (some 1) H Q := ⟨p, _, rfl, .inl (.inl (F.get m)), fun q hq => h q _ hq (by rw [show cutV (v0 :: xs) none (some 1) = [v0] from cutV_pre (ys := [v0]) (n := 1) rfl]; exact F.new hq)⟩
theorem x_slp2 {v0 v1 : V} (F : FH H L) (m : (p, Is (.lst (v0 :: v1 :: xs))) ∈ L) (h : ∀ q H', H q = none → FH H' ((q, Is (.lst [v0, v1])) :: L) → Q (.ref q) H') : rSl S (.ref p) none (some 2) H Q := ⟨p, _, rfl, .inl (.inl (F.get m)), fun q hq => h q _ hq (by rw [show cutV (v0 :: v1 :: xs) none (some 2) = [v0, v1] from cutV_pre (ys := [v0, v1]) (n := 2) rfl]; exact F.new hq)⟩
theorem x_slp3 {v0 v1 v2 : V} (F : FH H L) (m : (p, Is (.lst (v0 :: v1 :: v2 :: xs))) ∈ L) (h : ∀ q H', H q = none → FH H' ((q, Is (.lst [v0, v1, v2])) :: L) → Q (.ref q) H') : rSl S (.ref p) none (some 3) H Q := ⟨p, _, rfl, .inl (.inl (F.get m)), fun q hq => h q _ hq (by rw [show cutV (v0 :: v1 :: v2 :: xs) none (some 3) = [v0, v1, v2] from cutV_pre (ys := [v0, v1, v2]) (n := 3) rfl]; exact F.new hq)⟩
theorem x_slp4 {v0 v1 v2 v3 : V} (F : FH H L) (m : (p, Is (.lst (v0 :: v1 :: v2 :: v3 :: xs))) ∈ L) (h : ∀ q H', H q = none → FH H' ((q, Is (.lst [v0, v1, v2, v3])) :: L) → Q (.ref q) H') : rSl S (.ref p) none (some 4) H Q := ⟨p, _, rfl, .inl (.inl (F.get m)), fun q hq => h q _ hq (by rw [show cutV (v0 :: v1 :: v2 :: v3 :: xs) none (some 4) = [v0, v1, v2, v3] from cutV_pre (ys := [v0, v1, v2, v3]) (n := 4) rfl]; exact F.new hq)⟩
theorem x_slp5 {v0 v1 v2 v3 v4 : V} (F : FH H L) (m : (p, Is (.lst (v0 :: v1 :: v2 :: v3 :: v4 :: xs))) ∈ L) (h : ∀ q H', H q = none → FH H' ((q, Is (.lst [v0, v1, v2, v3, v4])) :: L) → Q (.ref q) H') : rSl S (.ref p) none (some 5) H Q := ⟨p, _, rfl, .inl (.inl (F.get m)), fun q hq => h q _ hq (by rw [show cutV (v0 :: v1 :: v2 :: v3 :: v4 :: xs) none (some 5) = [v0, v1, v2, v3, v4] from cutV_pre (ys := [v0, v1, v2, v3, v4]) (n := 5) rfl]; exact F.new hq)⟩
theorem x_slp6 {v0 v1 v2 v3 v4 v5 : V} (F : FH H L) (m : (p, Is (.lst (v0 :: v1 :: v2 :: v3 :: v4 :: v5 :: xs))) ∈ L) (h : ∀ q H', H q = none → FH H' ((q, Is (.lst [v0, v1, v2, v3, v4, v5])) :: L) → Q (.ref q) H') : rSl S (.ref p) none (some 6) H Q := ⟨p, _, rfl, .inl (.inl (F.get m)), fun q hq => h q _ hq (by rw [show cutV (v0 :: v1 :: v2 :: v3 :: v4 :: v5 :: xs) none (some 6) = [v0, v1, v2, v3, v4, v5] from cutV_pre (ys := [v0, v1, v2, v3, v4, v5]) (n := 6) rfl]; exact F.new hq)⟩
theorem x_slp7 {v0 v1 v2 v3 v4 v5 v6 : V} (F : FH H L) (m : (p, Is (.lst (v0 :: v1 :: v2 :: v3 :: v4 :: v5 :: v6 :: xs))) ∈ L) (h : ∀ q H', H q = none → FH H' ((q, Is (.lst [v0, v1, v2, v3, v4, v5, v6])) :: L) → Q (.ref q) H') : rSl S (.ref p) none (some 7) H Q := ⟨p, _, rfl, .inl (.inl (F.get m)), fun q hq => h q _ hq (by rw [show cutV (v0 :: v1 :: v2 :: v3 :: v4 :: v5 :: v6 :: xs) none (some 7) = [v0, v1, v2, v3, v4, v5, v6] from cutV_pre (ys := [v0, v1, v2, v3, v4, v5, v6]) (n := 7) rfl]; exact F.new hq)⟩
theorem x_slp8 {v0 v1 v2 v3 v4 v5 v6 v7 : V} (F : FH H L) (m : (p, Is (.lst (v0 :: v1 :: v2 :: v3 :: v4 :: v5 :: v6 :: v7 :: xs))) ∈ L) (h : ∀ q H', H q = none → FH H' ((q, Is (.lst [v0, v1, v2, v3, v4, v5, v6, v7])) :: L) → Q (.ref q) H') : rSl S (.ref p) none (some 8) H Q := ⟨p, _, rfl, .inl (.inl (F.get m)), fun q hq => h q _ hq (by rw [show cutV (v0 :: v1 :: v2 :: v3 :: v4 :: v5 :: v6 :: v7 :: xs) none (some 8) = [v0, v1, v2, v3, v4, v5, v6, v7] from cutV_pre (ys := [v0, v1, v2, v3, v4, v5, v6, v7]) (n := 8) rfl]; exact F.new hq)⟩
theorem x_slR (F : FH H L) (m : (p, IsR xs) ∈ L) (h : ∀ q H', H q = none → FH H' ((q, Is (.lst (cutV xs lo hi))) :: L) → Q (.ref q) H') : rSl S (.ref p) lo hi H Q := ⟨p, xs, rfl, .inl (F.getR m), fun q hq => h q _ hq (F.new hq)⟩
theorem x_slS (F : FH H L) (m : S p (.lst xs)) (h : ∀ q H', H q = none → FH H' ((q, Is (.lst (cutV xs lo hi))) :: L) → Q (.ref q) H') : rSl S (.ref p) lo hi H Q := ⟨p, xs, rfl, .inr m, fun q hq => h q _ hq (F.new hq)⟩
theorem x_ixS (m : S p (.lst xs)) (a : atI xs i = some v) (h : Q v H) : rIx S (.ref p) (.int i) H Q := .inl ⟨p, xs, i, v, rfl, rfl, .inl (.inr m), a, h⟩
theorem x_lenS (m : S p (.lst xs)) (h : Q (.int (xs.length : Int)) H) : rLen S [.ref p] H Q := .inl ⟨p, xs, rfl, .inl (.inr m), h⟩
theorem x_none (h : v = .non → Q v H) : v = .non → Q v H := h
theorem x_initEnd {B : Prop} (h : B) : V.non = .non ∧ B := ⟨rfl, h⟩
/-! loops -/
def ForR (g : TG) (s1 : TS) (nx : K0) (rt : VK) (lo hi : Int) (σ : L2.St) (H : Hp) : Prop := (-(2 ^ 62) ≤ lo ∧ lo < 2 ^ 62 ∧ -(2 ^ 62) ≤ hi ∧ hi < 2 ^ 62) ∧ ∃ Pv : Nat → L2.St → Hp → Prop, Pv 0 σ H ∧
    (∀ (i : Nat) σ H, lo + i < hi → Pv i σ H → g (.int (lo + i)) σ H fun σ' H' => s1 ⟨Pv (i + 1), rt, nx, Pv (i + 1)⟩ σ' H') ∧ ∀ σ H, Pv (hi - lo).toNat σ H → nx σ H
theorem x_forR1 (h : te σ H fun y H1 => ∃ j, y = .int j ∧ ForR g s1 nx rt 0 j σ H1) : sForR none te g s1 ⟨nx, rt, bk, ct⟩ σ H := h
theorem x_forR2 (h : ta σ H fun x H1 => tb σ H1 fun y H2 => ∃ i j, x = .int i ∧ y = .int j ∧ ForR g s1 nx rt i j σ H2) : sForR (some ta) tb g s1 ⟨nx, rt, bk, ct⟩ σ H := h
theorem x_int1 {QK : Int → Prop} (h : QK i) : ∃ k, V.int i = .int k ∧ QK k := ⟨i, rfl, h⟩
theorem x_int2 {QK : Int → Int → Prop} (h : QK i j) : ∃ k l, V.int i = .int k ∧ V.int j = .int l ∧ QK k l := ⟨i, j, rfl, rfl, h⟩
/-- a range from 0 by an invariant -/
theorem forG (Pv : Nat → L2.St → Hp → Prop) (h2 : j < 4611686018427387904) (h1 : -4611686018427387904 ≤ j) (h0 : Pv 0 σ H)
    (hs : ∀ (i : Nat) σ H, (i : Int) < j → Pv i σ H → g (.int (i : Int)) σ H fun σ' H' => s1 ⟨Pv (i + 1), rt, nx, Pv (i + 1)⟩ σ' H') (hd : ∀ σ H, Pv j.toNat σ H → nx σ H) : ForR g s1 nx rt 0 j σ H :=
  ⟨⟨by decide, by decide, h1, h2⟩, Pv, h0, fun i σ H h p => by rw [Int.zero_add] at h ⊢; exact hs i σ H h p, fun σ H p => hd σ H (by rw [Int.sub_zero] at p; exact p)⟩
theorem forG2 (Pv : Nat → L2.St → Hp → Prop) (h : -4611686018427387904 ≤ i ∧ i < 4611686018427387904 ∧ -4611686018427387904 ≤ j ∧ j < 4611686018427387904) (h0 : Pv 0 σ H)
    (hs : ∀ (n : Nat) σ H, i + n < j → Pv n σ H → g (.int (i + n)) σ H fun σ' H' => s1 ⟨Pv (n + 1), rt, nx, Pv (n + 1)⟩ σ' H') (hd : ∀ σ H, Pv (j - i).toNat σ H → nx σ H) : ForR g s1 nx rt i j σ H := ⟨h, Pv, h0, hs, hd⟩
/-- the turns one by one: n turns from lo on; P behind them, bk behind a break -/
def forK (g : TG) (s1 : TS) (P bk : K0) (rt : VK) : Nat → Int → L2.St → Hp → Prop
  | 0, _, σ, H => P σ H
  | n + 1, lo, σ, H => g (.int lo) σ H fun σ' H' => s1 ⟨forK g s1 P bk rt n (lo + 1), rt, bk, forK g s1 P bk rt n (lo + 1)⟩ σ' H'
theorem forUC (n : Nat) (Post : L2.St → Hp → Prop) (e : j = (n : Int)) (h2 : j < 4611686018427387904) (h : forK g s1 Post nx rt n 0 σ H) (hd : ∀ σ H, Post σ H → nx σ H) : ForR g s1 nx rt 0 j σ H := by
  refine forG (fun i σ H => i ≤ n ∧ forK g s1 Post nx rt (n - i) (i : Int) σ H) h2 (by omega) ⟨Nat.zero_le _, h⟩ (fun i σ H hi p => ?_) fun σ H p => ?_
  · obtain ⟨q1, q2⟩ := p
    have e1 : n - i = (n - (i + 1)) + 1 := by omega
    rw [e1] at q2
    have e2 : ((i + 1 : Nat) : Int) = (i : Int) + 1 := by omega
    have e3 : (fun σ H => i + 1 ≤ n ∧ forK g s1 Post nx rt (n - (i + 1)) ((i + 1 : Nat) : Int) σ H) = forK g s1 Post nx rt (n - (i + 1)) ((i : Int) + 1) := by
      funext σ H
      rw [e2]
      exact propext ⟨fun h => h.2, fun h => ⟨by omega, h⟩⟩
    show g (.int (i : Int)) σ H fun σ' H' => s1 ⟨fun σ H => i + 1 ≤ n ∧ forK g s1 Post nx rt (n - (i + 1)) ((i + 1 : Nat) : Int) σ H, rt, nx, fun σ H => i + 1 ≤ n ∧ forK g s1 Post nx rt (n - (i + 1)) ((i + 1 : Nat) : Int) σ H⟩ σ' H'
    rw [e3]
    exact q2
  · obtain ⟨_, q⟩ := p
    have e4 : n - j.toNat = 0 := by omega
    rw [e4] at q
    exact hd _ _ q
theorem forU (n : Nat) (e : j = (n : Int)) (h2 : j < 4611686018427387904) (h : forK g s1 nx nx rt n 0 σ H) : ForR g s1 nx rt 0 j σ H := forUC n nx e h2 h fun _ _ h => h
theorem x_forK {n : Nat} (h : g (.int i) σ H fun σ' H' => s1 ⟨forK g s1 nx bk rt n (i + 1), rt, bk, forK g s1 nx bk rt n (i + 1)⟩ σ' H') : forK g s1 nx bk rt (n + 1) i σ H := h
theorem x_forK0 (h : nx σ H) : forK g s1 nx bk rt 0 i σ H := h
/-- where a list is read -/
inductive Src (S : Sta) (L : List Ent) (p : Addr) (xs : List V) : Prop where
  | is (m : (p, Is (.lst xs)) ∈ L)
  | rd (m : (p, IsR xs) ∈ L)
  | st (m : S p (.lst xs))
theorem Src.rdS {L : List Ent} (m : Src S L p xs) (F : FH H L) : RdS S H p (.lst xs) := by
  cases m with
  | is m => exact .inl (.inl (F.get m))
  | rd m => exact .inl (F.getR m)
  | st m => exact .inr m
theorem src_of {K : PySem.W.Frag} (st : S = SK K) (h : SqL K H p xs) : ∃ L, FH H L ∧ Src S L p xs := by
  subst st
  rcases h with h | h
  · refine ⟨[(p, IsR xs)], ⟨[p] ++ [], .cons (p := p) (φ := IsR xs) (k := [p]) ⟨rfl, ?_⟩ .nil (by simp) (fun a _ m => by cases m)⟩, .rd (List.Mem.head _)⟩
    rcases h with h | ⟨o, h⟩
    · exact ⟨_, h, .inl rfl⟩
    · exact ⟨_, h, .inr ⟨o, rfl⟩⟩
  · exact ⟨[], .nil, .st h⟩
def ForS (S : Sta) (g : TG) (s1 : TS) (nx : K0) (rt : VK) (x : V) (σ : L2.St) (H : Hp) : Prop := ∃ a xs, x = .ref a ∧ ∃ Pv : Nat → L2.St → Hp → Prop, Pv 0 σ H ∧ Stays S a xs (fun i H => ∃ σ, Pv i σ H) ∧
  (∀ i y σ H, xs[i]? = some y → Pv i σ H → g y σ H fun σ' H' => s1 ⟨Pv (i + 1), rt, nx, Pv (i + 1)⟩ σ' H') ∧ ∀ σ H, Pv xs.length σ H → nx σ H
theorem x_forE (h : te σ H fun x H1 => ForS S g s1 nx rt x σ H1) : sFor S te g s1 ⟨nx, rt, bk, ct⟩ σ H := h
/-- a list by an invariant -/
theorem forS (Pv : Nat → L2.St → Hp → Prop) (h0 : Pv 0 σ H) (hst : ∀ i σ H, i ≤ xs.length → Pv i σ H → RdS S H p (.lst xs))
    (hs : ∀ i y σ H, xs[i]? = some y → Pv i σ H → g y σ H fun σ' H' => s1 ⟨Pv (i + 1), rt, nx, Pv (i + 1)⟩ σ' H') (hd : ∀ σ H, Pv xs.length σ H → nx σ H) : ForS S g s1 nx rt (.ref p) σ H :=
  ⟨p, xs, rfl, Pv, h0, .inl fun i H hi ⟨σ, q⟩ => hst i σ H hi q, hs, hd⟩
/-- a list that stands: what is known of the heap is the same at each turn -/
theorem forL (Pv : Nat → L2.St → Prop) (F : FH H L) (m : Src S L p xs) (h0 : Pv 0 σ)
    (hs : ∀ i y σ H, xs[i]? = some y → Pv i σ → FH H L → g y σ H fun σ' H' => s1 ⟨fun σ H => Pv (i + 1) σ ∧ FH H L, rt, nx, fun σ H => Pv (i + 1) σ ∧ FH H L⟩ σ' H') (hd : ∀ σ H, Pv xs.length σ → FH H L → nx σ H) : ForS S g s1 nx rt (.ref p) σ H :=
  forS (fun i σ H => Pv i σ ∧ FH H L) ⟨h0, F⟩ (fun i σ H _ q => m.rdS q.2) (fun i y σ H e q => hs i y σ H e q.1 q.2) fun σ H q => hd σ H q.1 q.2
/-- the turns one by one over a known tuple -/
def forKS (S : Sta) (a : Addr) (u : HO) (g : TG) (s1 : TS) (P bk : K0) (rt : VK) : List V → L2.St → Hp → Prop
  | [], σ, H => P σ H
  | x :: xs, σ, H => g x σ H fun σ' H' => s1 ⟨fun σ H => RdS S H a u ∧ forKS S a u g s1 P bk rt xs σ H, rt, bk, fun σ H => RdS S H a u ∧ forKS S a u g s1 P bk rt xs σ H⟩ σ' H'
theorem forSU {k : Bool} (rd : RdS S H p (if k then .lst xs else .tup xs)) (Post : K0) (h : forKS S p (if k then .lst xs else .tup xs) g s1 Post nx rt xs σ H) (hp : ∀ σ H, Post σ H → nx σ H) : ForS S g s1 nx rt (.ref p) σ H := by
  refine ⟨p, xs, rfl, fun i σ H => RdS S H p (if k then .lst xs else .tup xs) ∧ forKS S p (if k then .lst xs else .tup xs) g s1 Post nx rt (xs.drop i) σ H, ⟨rd, by rw [List.drop_zero]; exact h⟩, ?_, fun i y σ H e q => ?_, fun σ H q => ?_⟩
  · cases k with
    | true => exact .inl fun i H _ ⟨σ, q, _⟩ => q
    | false => exact .inr fun i H _ ⟨σ, q, _⟩ => q
  · obtain ⟨_, q⟩ := q
    have hi := (List.getElem?_eq_some_iff.mp e)
    rw [List.drop_eq_getElem_cons hi.1, hi.2] at q
    exact q
  · obtain ⟨_, q⟩ := q
    rw [List.drop_length] at q
    exact hp σ H q
theorem forTU (F : FH H L) (m : (p, Is (.tup xs)) ∈ L) (h : forKS S p (.tup xs) g s1 nx nx rt xs σ H) : ForS S g s1 nx rt (.ref p) σ H := forSU (k := false) (.inl (.inl (F.get m))) nx h fun _ _ h => h
theorem forLU (F : FH H L) (m : (p, Is (.lst xs)) ∈ L) (h : forKS S p (.lst xs) g s1 nx nx rt xs σ H) : ForS S g s1 nx rt (.ref p) σ H := forSU (k := true) (.inl (.inl (F.get m))) nx h fun _ _ h => h
theorem x_forKS {a : Addr} {u : HO} (h : g x σ H fun σ' H' => s1 ⟨fun σ H => RdS S H a u ∧ forKS S a u g s1 nx bk rt xs σ H, rt, bk, fun σ H => RdS S H a u ∧ forKS S a u g s1 nx bk rt xs σ H⟩ σ' H') : forKS S a u g s1 nx bk rt (x :: xs) σ H := h
theorem x_forKS0 {a : Addr} {u : HO} (h : nx σ H) : forKS S a u g s1 nx bk rt [] σ H := h
theorem x_rdT (F : FH H L) (m : (p, Is (.tup xs)) ∈ L) (h : A) : RdS S H p (.tup xs) ∧ A := ⟨.inl (.inl (F.get m)), h⟩
theorem x_rdL (F : FH H L) (m : (p, Is (.lst xs)) ∈ L) (h : A) : RdS S H p (.lst xs) ∧ A := ⟨.inl (.inl (F.get m)), h⟩
/-! comprehensions -/
def LcS (S : Sta) (g : TG) (tt : TT) (tel : TE) (vs : List Nat) (Q : VK) (x : V) (σ : L2.St) (H1 : Hp) : Prop := ∃ a xs, x = .ref a ∧ ∃ k : Bool, RdS S H1 a (if k then .lst xs else .tup xs) ∧ ∀ D, H1 D = none → ∃ Pv : Nat → Hp → Prop, Pv 0 (upd H1 D (.lst [])) ∧ (∀ i H, i ≤ xs.length → Pv i H → RdS S H a (if k then .lst xs else .tup xs)) ∧
  (∀ i y H, xs[i]? = some y → Pv i H → g y (wipe σ vs) H fun σ2 H2 => wipe σ2 vs = wipe σ vs ∧ tt σ2 H2 fun b H3 => if b = true then tel σ2 H3 fun z H4 => ∃ acc, H4 D = some (.lst acc) ∧ acc.length < sizeLine ∧ Pv (i + 1) (upd H4 D (.lst (acc ++ [z]))) else Pv (i + 1) H3) ∧
  ∀ H, Pv xs.length H → Q (.ref D) H
theorem x_lcE {tt : TT} {tel : TE} {vs : List Nat} (h : te σ H fun x H1 => LcS S g tt tel vs Q x σ H1) : eLc S te g tt tel vs σ H Q := h
theorem x_wipe {σ2 σw : L2.St} {vs : List Nat} (e : wipe σ2 vs = σw) (h : A) : wipe σ2 vs = σw ∧ A := ⟨e, h⟩
theorem x_yes (h : QB true H) : tYes σ H QB := h
/-- a comprehension over a list that stands, whose element leaves the heap as it is -/
theorem lcFM {tt : TT} {tel : TE} {vs : List Nat} {σw : L2.St} (f : V → V) (keep : V → Bool) (F : FH H L) (m : Src S L p xs) (z : xs.length < 16777216) (ew : wipe σ vs = σw)
    (hs : ∀ y H (QX : V → Hp → Prop) (A : Hp → Prop), y ∈ xs → FH H L → (keep y = true → QX (f y) H) → (keep y = false → A H) → g y σw H fun σ2 H2 => wipe σ2 vs = σw ∧ tt σ2 H2 fun b H3 => if b = true then tel σ2 H3 QX else A H3)
    (hd : ∀ D H', FH H' ((D, Is (.lst ((xs.filter keep).map f))) :: L) → Q (.ref D) H') : LcS S g tt tel vs Q (.ref p) σ H := by
  have rd : ∀ H, FH H L → RdS S H p (.lst xs) := fun H F => m.rdS F
  subst ew
  refine ⟨p, xs, rfl, true, rd H F, fun D hD => ⟨fun i H => FH H ((D, Is (.lst (((xs.take i).filter keep).map f))) :: L), F.new hD, fun i H _ q => rd H q.tail, fun i y H e q => ?_, fun H q => hd D H ?_⟩⟩
  · have hi : i < xs.length := (List.getElem?_eq_some_iff.mp e).1
    have et : xs.take (i + 1) = xs.take i ++ [y] := by rw [List.take_add_one, e]; rfl
    refine hs y H _ _ (List.mem_of_getElem? e) q.tail (fun k => ⟨_, q.get (List.Mem.head _), ?_, ?_⟩) fun k => ?_
    · have h1 : (((xs.take i).filter keep).map f).length ≤ i := by
        rw [List.length_map]
        exact Nat.le_trans (List.length_filter_le _ _) (by rw [List.length_take]; exact Nat.min_le_left _ _)
      rw [sizeLine_eq]; omega
    · show FH _ ((D, Is (.lst (((xs.take (i + 1)).filter keep).map f))) :: L)
      rw [et, List.filter_append, List.map_append]
      have e1 : ([y].filter keep).map f = [f y] := by simp [k]
      rw [e1]
      exact q.put .here trivial
    · show FH _ ((D, Is (.lst (((xs.take (i + 1)).filter keep).map f))) :: L)
      rw [et, List.filter_append, List.map_append]
      have e1 : ([y].filter keep).map f = [] := by simp [k]
      rw [e1, List.append_nil]
      exact q
  · have q : FH H ((D, Is (.lst (((xs.take xs.length).filter keep).map f))) :: L) := q
    rw [List.take_length] at q
    exact q
/-- .. of ints by a map of ints -/
theorem lcII {ns : List Int} {tel : TE} {vs : List Nat} {σw : L2.St} (f : Int → Int) (F : FH H L) (m : Src S L p (ns.map V.int)) (z : ns.length < 16777216) (ew : wipe σ vs = σw)
    (hs : ∀ y H (QX : V → Hp → Prop), y ∈ ns → FH H L → QX (.int (f y)) H → g (.int y) σw H fun σ2 H2 => wipe σ2 vs = σw ∧ tel σ2 H2 QX)
    (hd : ∀ D H', FH H' ((D, Is (.lst ((ns.map f).map V.int))) :: L) → Q (.ref D) H') : LcS S g tYes tel vs Q (.ref p) σ H := by
  refine lcFM (xs := ns.map V.int) (fun v => match v with | .int i => .int (f i) | v => v) (fun _ => true) F m (by rw [List.length_map]; exact z) ew (fun y H QX A hy F' hk hA => ?_) fun D H' F' => hd D H' ?_
  · obtain ⟨n, hn, e⟩ := List.mem_map.mp hy
    subst e
    exact hs n H QX hn F' (hk rfl)
  · have e : ((ns.map V.int).filter fun _ => true).map (fun v => match v with | .int i => V.int (f i) | v => v) = (ns.map f).map V.int := by
      rw [List.filter_eq_self.mpr (fun _ _ => rfl), List.map_map, List.map_map]
      rfl
    rw [e] at F'
    exact F'
/-- .. of ints, with a test -/
theorem lcIK {ns : List Int} {tt : TT} {tel : TE} {vs : List Nat} {σw : L2.St} (f : Int → Int) (keep : Int → Bool) (F : FH H L) (m : Src S L p (ns.map V.int)) (z : ns.length < 16777216) (ew : wipe σ vs = σw)
    (hs : ∀ y H (QX : V → Hp → Prop) (A : Hp → Prop), y ∈ ns → FH H L → (keep y = true → QX (.int (f y)) H) → (keep y = false → A H) → g (.int y) σw H fun σ2 H2 => wipe σ2 vs = σw ∧ tt σ2 H2 fun b H3 => if b = true then tel σ2 H3 QX else A H3)
    (hd : ∀ D H', FH H' ((D, Is (.lst (((ns.filter keep).map f).map V.int))) :: L) → Q (.ref D) H') : LcS S g tt tel vs Q (.ref p) σ H := by
  refine lcFM (xs := ns.map V.int) (fun v => match v with | .int i => .int (f i) | v => v) (fun v => match v with | .int i => keep i | _ => false) F m (by rw [List.length_map]; exact z) ew (fun y H QX A hy F' hk hA => ?_) fun D H' F' => hd D H' ?_
  · obtain ⟨n, hn, e⟩ := List.mem_map.mp hy
    subst e
    exact hs n H QX A hn F' hk hA
  · have e : ((ns.map V.int).filter fun v => match v with | .int i => keep i | _ => false).map (fun v => match v with | .int i => V.int (f i) | v => v) = ((ns.filter keep).map f).map V.int := by
      rw [List.filter_map, List.map_map, List.map_map]
      rfl
    rw [e] at F'
    exact F'
/-- a known list, the turns one by one -/
def lcPut (D : Addr) (z : V) (k : Hp → Prop) (H : Hp) : Prop := ∃ acc, H D = some (.lst acc) ∧ acc.length < sizeLine ∧ k (upd H D (.lst (acc ++ [z])))
theorem x_lcPut {D : Addr} {z : V} {acc : List V} {k : Hp → Prop} {L' : List Ent} (F : FH H L) (pu : Put D (Is (.lst acc)) (Is (.lst (acc ++ [z]))) L L') (sz : acc.length < 16777216) (h : ∀ H', FH H' L' → k H') : lcPut D z k H :=
  ⟨acc, F.get pu.mem, by rw [sizeLine_eq]; exact sz, h _ (F.put pu trivial)⟩
def lcKS (S : Sta) (a : Addr) (u : HO) (g : TG) (tt : TT) (tel : TE) (vs : List Nat) (σw : L2.St) (D : Addr) (Q : VK) : List V → Hp → Prop
  | [], H => Q (.ref D) H
  | x :: xs, H => g x σw H fun σ2 H2 => wipe σ2 vs = σw ∧ tt σ2 H2 fun b H3 => if b = true then tel σ2 H3 fun z H4 => lcPut D z (fun H => RdS S H a u ∧ lcKS S a u g tt tel vs σw D Q xs H) H4 else RdS S H3 a u ∧ lcKS S a u g tt tel vs σw D Q xs H3
theorem lcLU {tt : TT} {tel : TE} {vs : List Nat} {σw : L2.St} (F : FH H L) (m : (p, Is (.lst xs)) ∈ L) (ew : wipe σ vs = σw) (h : ∀ D H', FH H' ((D, Is (.lst [])) :: L) → lcKS S p (.lst xs) g tt tel vs σw D Q xs H') : LcS S g tt tel vs Q (.ref p) σ H := by
  subst ew
  refine ⟨p, xs, rfl, true, .inl (.inl (F.get m)), fun D hD => ⟨fun i H => RdS S H p (.lst xs) ∧ lcKS S p (.lst xs) g tt tel vs (wipe σ vs) D Q (xs.drop i) H, ⟨.inl (.inl ((F.new hD).get (List.mem_cons_of_mem _ m))), by rw [List.drop_zero]; exact h D _ (F.new hD)⟩, fun i H _ q => q.1, fun i y H e q => ?_, fun H q => ?_⟩⟩
  · obtain ⟨_, q⟩ := q
    have hi := (List.getElem?_eq_some_iff.mp e)
    rw [List.drop_eq_getElem_cons hi.1, hi.2] at q
    exact q
  · obtain ⟨_, q⟩ := q
    rw [List.drop_length] at q
    exact q
theorem x_lcKS {a D : Addr} {u : HO} {tt : TT} {tel : TE} {vs : List Nat} {σw : L2.St} (h : g x σw H fun σ2 H2 => wipe σ2 vs = σw ∧ tt σ2 H2 fun b H3 => if b = true then tel σ2 H3 fun z H4 => lcPut D z (fun H => RdS S H a u ∧ lcKS S a u g tt tel vs σw D Q xs H) H4 else RdS S H3 a u ∧ lcKS S a u g tt tel vs σw D Q xs H3) : lcKS S a u g tt tel vs σw D Q (x :: xs) H := h
theorem x_lcKS0 {a D : Addr} {u : HO} {tt : TT} {tel : TE} {vs : List Nat} {σw : L2.St} (h : Q (.ref D) H) : lcKS S a u g tt tel vs σw D Q [] H := h
/-- all are True -/
def AllT : Pr := lift fun o => ∃ bs : List Bool, o = .lst (bs.map V.bl) ∧ bs.all id = true
theorem lcT {tel : TE} {vs : List Nat} {σw : L2.St} (F : FH H L) (m : Src S L p xs) (z : xs.length < 16777216) (ew : wipe σ vs = σw)
    (hs : ∀ y H (QX : V → Hp → Prop), y ∈ xs → FH H L → QX (.bl true) H → g y σw H fun σ2 H2 => wipe σ2 vs = σw ∧ tel σ2 H2 QX)
    (hd : ∀ D H', FH H' ((D, AllT) :: L) → Q (.ref D) H') : LcS S g tYes tel vs Q (.ref p) σ H := by
  refine lcFM (fun _ => .bl true) (fun _ => true) F m z ew (fun y H QX A hy F' hk hA => hs y H QX hy F' (hk rfl)) fun D H' F' => hd D H' (F'.close (φ := fun o => ∃ bs : List Bool, o = .lst (bs.map V.bl) ∧ bs.all id = true) ⟨List.replicate xs.length true, ?_, ?_⟩ .here)
  · rw [List.filter_eq_self.mpr (fun _ _ => rfl)]
    congr 1
    clear m z hs F'
    induction xs with
    | nil => rfl
    | cons x xs ih => rw [List.map_cons, List.length_cons, List.replicate_succ, List.map_cons, ih]
  · generalize xs.length = n
    induction n with
    | zero => rfl
    | succ n ih => rw [List.replicate_succ, List.all_cons, ih]; rfl
theorem x_allT (F : FH H L) (m : (p, AllT) ∈ L) (h : Q (.bl true) H) : rAll S [.ref p] H Q := by
  obtain ⟨o, ho, bs, e, hb⟩ := F.is m
  subst e
  exact ⟨p, bs, rfl, .inl (.inl ho), by rw [hb]; exact h⟩
theorem Src.cons {L : List Ent} {x : Ent} (m : Src S L p xs) : Src S (x :: L) p xs := by
  cases m with
  | is m => exact .is (List.mem_cons_of_mem _ m)
  | rd m => exact .rd (List.mem_cons_of_mem _ m)
  | st m => exact .st m
theorem cutV_take {n : Nat} (h : xs.length ≤ n) : cutV xs none (some (n : Int)) = xs := by
  unfold cutV
  rw [HT.sIx_none, HT.sIx_nat, List.drop_zero, Nat.sub_zero, Nat.min_eq_right h, List.take_length]
/-! fields -/
theorem look_hit {f : Str} {v : V} {t : List (Str × V)} : List.lookup f ((f, v) :: t) = some v := by simp [List.lookup]
theorem look_nil {f : Str} : List.lookup f ([] : List (Str × V)) = none := rfl
theorem look_miss {f g : Str} {v : V} {r : Option V} {t : List (Str × V)} (h : ¬ f = g) (e : List.lookup f t = r) : List.lookup f ((g, v) :: t) = r := by
  have h' : (f == g) = false := by simpa using h
  simp only [List.lookup, h']
  exact e
theorem put_nil {f : Str} {v : V} : putF f v [] = [(f, v)] := rfl
theorem put_hit {f : Str} {v w : V} {t : List (Str × V)} : putF f v ((f, w) :: t) = (f, v) :: t := by
  show (if f = f then _ else _) = _
  rw [if_pos rfl]
theorem put_miss {f g : Str} {v w : V} {t t' : List (Str × V)} (h : ¬ g = f) (e : putF f v t = t') : putF f v ((g, w) :: t) = (g, w) :: t' := by
  show (if g = f then _ else _) = _
  rw [if_neg h, e]
/-! == of flat lists and tuples -/
def flatOk : V → Bool
  | .non => true
  | .bl _ => true
  | .int _ => true
  | .str s => PyData.canLay0 (.str s)
  | _ => false
def flatD : V → PyData
  | .bl b => .bool b
  | .int i => .int i
  | .str s => .str s
  | _ => .none
def eqvF (xs ys : List V) : Bool := PyData.eqvAll (xs.map flatD) (ys.map flatD)
theorem dp_flat {v : V} (h : flatOk v = true) : DpS S H v (flatD v) := by
  cases v with
  | non => exact .non
  | bl b => exact .bl b
  | int i => exact .int i
  | str s => exact .str s
  | _ => cases h
theorem dps_flat : ∀ {xs : List V}, xs.all flatOk = true → DpSs S H xs (xs.map flatD)
  | [], _ => .nil
  | x :: xs, h => by
    rw [List.all_cons, Bool.and_eq_true] at h
    exact .cons (dp_flat h.1) (dps_flat h.2)
theorem lay_flat : ∀ {xs : List V}, xs.all flatOk = true → PyData.canLayAll0 (xs.map flatD) = true ∧ PyData.depthAll (xs.map flatD) = 0
  | [], _ => ⟨rfl, rfl⟩
  | x :: xs, h => by
    rw [List.all_cons, Bool.and_eq_true] at h
    obtain ⟨h1, h2⟩ := lay_flat h.2
    rw [List.map_cons]
    have e : PyData.canLay0 (flatD x) = true ∧ PyData.depth (flatD x) = 0 := by
      cases x with
      | non => exact ⟨rfl, rfl⟩
      | bl b => exact ⟨rfl, rfl⟩
      | int i => exact ⟨rfl, rfl⟩
      | str s => exact ⟨h.1, rfl⟩
      | _ => cases h.1
    constructor
    · rw [PyData.canLayAll0, e.1, h1]; rfl
    · rw [PyData.depthAll, e.2, h2]; rfl
theorem shaped_flatL {xs : List V} (h : xs.all flatOk = true) : SeqAt.shaped (.list (xs.map flatD)) = true := by
  obtain ⟨h1, h2⟩ := lay_flat h
  unfold SeqAt.shaped
  rw [PyData.canLay0, h1, PyData.depth, h2]
  rfl
theorem shaped_flatT {xs : List V} (h : xs.all flatOk = true) : SeqAt.shaped (.tuple (xs.map flatD)) = true := by
  obtain ⟨h1, h2⟩ := lay_flat h
  unfold SeqAt.shaped
  rw [PyData.canLay0, h1, PyData.depth, h2]
  rfl
theorem eqv_nil : eqvF [] [] = true := rfl
theorem eqv_nc {x : V} {xs : List V} : eqvF [] (x :: xs) = false := rfl
theorem eqv_cn {x : V} {xs : List V} : eqvF (x :: xs) [] = false := rfl
theorem eqv_int {i j : Int} {xs ys : List V} : eqvF (.int i :: xs) (.int j :: ys) = (decide (i = j) && eqvF xs ys) := by
  show (i == j && _) = _
  rfl
theorem eqv_bl {i j : Bool} {xs ys : List V} : eqvF (.bl i :: xs) (.bl j :: ys) = (decide (i = j) && eqvF xs ys) := by
  show (i == j && _) = _
  cases i <;> cases j <;> rfl
theorem eqv_str {i j : Str} {xs ys : List V} : eqvF (.str i :: xs) (.str j :: ys) = (decide (i = j) && eqvF xs ys) := by
  show (i == j && _) = _
  congr 1
theorem eqv_ints : ∀ {ns ms : List Int}, eqvF (ns.map V.int) (ms.map V.int) = decide (ns = ms)
  | [], [] => rfl
  | [], _ :: _ => rfl
  | _ :: _, [] => rfl
  | n :: ns, m :: ms => by
    rw [List.map_cons, List.map_cons, eqv_int, eqv_ints, Bool.eq_iff_iff]
    simp only [Bool.and_eq_true, decide_eq_true_eq, List.cons.injEq]
theorem flat_ints : ∀ {ns : List Int}, (ns.map V.int).all flatOk = true
  | [] => rfl
  | _ :: ns => by rw [List.map_cons, List.all_cons, flat_ints]; rfl
theorem x_eqPL (F : FH H L) {q : Addr} {ys : List V} {b : Bool} (m : (p, Is (.lst xs)) ∈ L) (n : (q, Is (.lst ys)) ∈ L) (f1 : xs.all flatOk = true) (f2 : ys.all flatOk = true) (e : eqvF xs ys = b) (h : Q (.bl b) H) : rEqP S (.ref p) (.ref q) H Q :=
  .inr ⟨_, _, .lst (.inl (.inl (F.get m))) (dps_flat f1), .lst (.inl (.inl (F.get n))) (dps_flat f2), shaped_flatL f1, shaped_flatL f2, by
    show Q (.bl (eqvF xs ys)) H
    rw [e]; exact h⟩
theorem x_nePL (F : FH H L) {q : Addr} {ys : List V} {b : Bool} (m : (p, Is (.lst xs)) ∈ L) (n : (q, Is (.lst ys)) ∈ L) (f1 : xs.all flatOk = true) (f2 : ys.all flatOk = true) (e : eqvF xs ys = b) (h : Q (.bl (!b)) H) : rNeP S (.ref p) (.ref q) H Q :=
  .inr ⟨_, _, .lst (.inl (.inl (F.get m))) (dps_flat f1), .lst (.inl (.inl (F.get n))) (dps_flat f2), shaped_flatL f1, shaped_flatL f2, by
    show Q (.bl (!eqvF xs ys)) H
    rw [e]; exact h⟩
theorem x_eqPT (F : FH H L) {q : Addr} {ys : List V} {b : Bool} (m : (p, Is (.tup xs)) ∈ L) (n : (q, Is (.tup ys)) ∈ L) (f1 : xs.all flatOk = true) (f2 : ys.all flatOk = true) (e : eqvF xs ys = b) (h : Q (.bl b) H) : rEqP S (.ref p) (.ref q) H Q :=
  .inr ⟨_, _, .tup (.inl (.inl (F.get m))) (dps_flat f1), .tup (.inl (.inl (F.get n))) (dps_flat f2), shaped_flatT f1, shaped_flatT f2, by
    show Q (.bl (eqvF xs ys)) H
    rw [e]; exact h⟩
theorem x_nePT (F : FH H L) {q : Addr} {ys : List V} {b : Bool} (m : (p, Is (.tup xs)) ∈ L) (n : (q, Is (.tup ys)) ∈ L) (f1 : xs.all flatOk = true) (f2 : ys.all flatOk = true) (e : eqvF xs ys = b) (h : Q (.bl (!b)) H) : rNeP S (.ref p) (.ref q) H Q :=
  .inr ⟨_, _, .tup (.inl (.inl (F.get m))) (dps_flat f1), .tup (.inl (.inl (F.get n))) (dps_flat f2), shaped_flatT f1, shaped_flatT f2, by
    show Q (.bl (!eqvF xs ys)) H
    rw [e]; exact h⟩
theorem eqv_strS {s : Str} {xs ys : List V} : eqvF (.str s :: xs) (.str s :: ys) = eqvF xs ys := by rw [eqv_str, decide_eq_true rfl, Bool.true_and]
theorem eqv_strD {s t : Str} {xs ys : List V} (h : s ≠ t) : eqvF (.str s :: xs) (.str t :: ys) = false := by rw [eqv_str, decide_eq_false h, Bool.false_and]
theorem flat_cons {x : V} {xs : List V} (h : flatOk x = true) (t : xs.all flatOk = true) : (x :: xs).all flatOk = true := by rw [List.all_cons, h, t]; rfl
theorem x_eqPSs {a : Str} (h : Q (.bl true) H) : rEqP S (.str a) (.str a) H Q := .inl (x_eqS (by rw [decide_eq_true rfl]; exact h))
theorem x_nePSs {a : Str} (h : Q (.bl false) H) : rNeP S (.str a) (.str a) H Q := .inl (x_neS (by rw [decide_eq_false (fun z => z rfl)]; exact h))
theorem x_eqPSd {a b : Str} (ne : a ≠ b) (h : Q (.bl false) H) : rEqP S (.str a) (.str b) H Q := .inl (x_eqS (by rw [decide_eq_false ne]; exact h))
theorem x_nePSd {a b : Str} (ne : a ≠ b) (h : Q (.bl true) H) : rNeP S (.str a) (.str b) H Q := .inl (x_neS (by rw [decide_eq_true ne]; exact h))
theorem eqv_nn {xs ys : List V} : eqvF (.non :: xs) (.non :: ys) = eqvF xs ys := by show (true && _) = _; rw [Bool.true_and]; rfl
theorem eqv_ni {i : Int} {xs ys : List V} : eqvF (.non :: xs) (.int i :: ys) = false := rfl
theorem eqv_in {i : Int} {xs ys : List V} : eqvF (.int i :: xs) (.non :: ys) = false := rfl
theorem eqv_ns {s : Str} {xs ys : List V} : eqvF (.non :: xs) (.str s :: ys) = false := rfl
theorem eqv_sn {s : Str} {xs ys : List V} : eqvF (.str s :: xs) (.non :: ys) = false := rfl
theorem eqv_si {s : Str} {i : Int} {xs ys : List V} : eqvF (.str s :: xs) (.int i :: ys) = false := rfl
theorem eqv_is {s : Str} {i : Int} {xs ys : List V} : eqvF (.int i :: xs) (.str s :: ys) = false := rfl
theorem sc_of {x y : V} {b : Bool} (s : scal x y = true) (e : decide (x = y) = b) (h : Q (.bl b) H) : rEqP S x y H Q := .inl ⟨s, by rw [e]; exact h⟩
theorem sn_of {x y : V} {b : Bool} (s : scal x y = true) (e : decide (x = y) = b) (h : Q (.bl (!b)) H) : rNeP S x y H Q := .inl ⟨s, by rw [e]; exact h⟩
theorem x_eqP_nn (h : Q (.bl true) H) : rEqP S (.non) (.non) H Q := sc_of rfl (decide_eq_true rfl) h
theorem x_neP_nn (h : Q (.bl (!true)) H) : rNeP S (.non) (.non) H Q := sn_of rfl (decide_eq_true rfl) h
theorem x_eqP_ni (h : Q (.bl false) H) : rEqP S (.non) (.int i) H Q := sc_of rfl (decide_eq_false (by simp)) h
theorem x_neP_ni (h : Q (.bl (!false)) H) : rNeP S (.non) (.int i) H Q := sn_of rfl (decide_eq_false (by simp)) h
theorem x_eqP_in (h : Q (.bl false) H) : rEqP S (.int i) (.non) H Q := sc_of rfl (decide_eq_false (by simp)) h
theorem x_neP_in (h : Q (.bl (!false)) H) : rNeP S (.int i) (.non) H Q := sn_of rfl (decide_eq_false (by simp)) h
theorem x_eqP_nb (h : Q (.bl false) H) : rEqP S (.non) (.bl b) H Q := sc_of rfl (decide_eq_false (by simp)) h
theorem x_neP_nb (h : Q (.bl (!false)) H) : rNeP S (.non) (.bl b) H Q := sn_of rfl (decide_eq_false (by simp)) h
theorem x_eqP_bn (h : Q (.bl false) H) : rEqP S (.bl b) (.non) H Q := sc_of rfl (decide_eq_false (by simp)) h
theorem x_neP_bn (h : Q (.bl (!false)) H) : rNeP S (.bl b) (.non) H Q := sn_of rfl (decide_eq_false (by simp)) h
theorem x_eqP_ns {z : Str} (h : Q (.bl false) H) : rEqP S (.non) (.str z) H Q := sc_of rfl (decide_eq_false (by simp)) h
theorem x_neP_ns {z : Str} (h : Q (.bl (!false)) H) : rNeP S (.non) (.str z) H Q := sn_of rfl (decide_eq_false (by simp)) h
theorem x_eqP_sn {z : Str} (h : Q (.bl false) H) : rEqP S (.str z) (.non) H Q := sc_of rfl (decide_eq_false (by simp)) h
theorem x_neP_sn {z : Str} (h : Q (.bl (!false)) H) : rNeP S (.str z) (.non) H Q := sn_of rfl (decide_eq_false (by simp)) h
theorem x_eqP_is {z : Str} (h : Q (.bl false) H) : rEqP S (.int i) (.str z) H Q := sc_of rfl (decide_eq_false (by simp)) h
theorem x_neP_is {z : Str} (h : Q (.bl (!false)) H) : rNeP S (.int i) (.str z) H Q := sn_of rfl (decide_eq_false (by simp)) h
theorem x_eqP_si {z : Str} (h : Q (.bl false) H) : rEqP S (.str z) (.int i) H Q := sc_of rfl (decide_eq_false (by simp)) h
theorem x_neP_si {z : Str} (h : Q (.bl (!false)) H) : rNeP S (.str z) (.int i) H Q := sn_of rfl (decide_eq_false (by simp)) h
theorem x_eqP_bs {z : Str} (h : Q (.bl false) H) : rEqP S (.bl b) (.str z) H Q := sc_of rfl (decide_eq_false (by simp)) h
theorem x_neP_bs {z : Str} (h : Q (.bl (!false)) H) : rNeP S (.bl b) (.str z) H Q := sn_of rfl (decide_eq_false (by simp)) h
theorem x_eqP_sb {z : Str} (h : Q (.bl false) H) : rEqP S (.str z) (.bl b) H Q := sc_of rfl (decide_eq_false (by simp)) h
theorem x_neP_sb {z : Str} (h : Q (.bl (!false)) H) : rNeP S (.str z) (.bl b) H Q := sn_of rfl (decide_eq_false (by simp)) h
theorem x_isr_list_int (F : FH H L) (m : (p, Is (.lst xs)) ∈ L) (h : Q (.bl false) H) : rIsI [.ref p, .ty "int"] H Q := isi_of (.lst (.inl (F.get m))) kit_list_int rfl h
theorem x_isr_list_bool (F : FH H L) (m : (p, Is (.lst xs)) ∈ L) (h : Q (.bl false) H) : rIsI [.ref p, .ty "bool"] H Q := isi_of (.lst (.inl (F.get m))) kit_list_bool rfl h
theorem x_isr_list_str (F : FH H L) (m : (p, Is (.lst xs)) ∈ L) (h : Q (.bl false) H) : rIsI [.ref p, .ty "str"] H Q := isi_of (.lst (.inl (F.get m))) kit_list_str rfl h
theorem x_isr_list_list (F : FH H L) (m : (p, Is (.lst xs)) ∈ L) (h : Q (.bl true) H) : rIsI [.ref p, .ty "list"] H Q := isi_of (.lst (.inl (F.get m))) kit_list_list rfl h
theorem x_isr_list_tuple (F : FH H L) (m : (p, Is (.lst xs)) ∈ L) (h : Q (.bl false) H) : rIsI [.ref p, .ty "tuple"] H Q := isi_of (.lst (.inl (F.get m))) kit_list_tuple rfl h
theorem x_isr_list_dict (F : FH H L) (m : (p, Is (.lst xs)) ∈ L) (h : Q (.bl false) H) : rIsI [.ref p, .ty "dict"] H Q := isi_of (.lst (.inl (F.get m))) kit_list_dict rfl h
theorem x_isr_tuple_int (F : FH H L) (m : (p, Is (.tup xs)) ∈ L) (h : Q (.bl false) H) : rIsI [.ref p, .ty "int"] H Q := isi_of (.tup (.inl (F.get m))) kit_tuple_int rfl h
theorem x_isr_tuple_bool (F : FH H L) (m : (p, Is (.tup xs)) ∈ L) (h : Q (.bl false) H) : rIsI [.ref p, .ty "bool"] H Q := isi_of (.tup (.inl (F.get m))) kit_tuple_bool rfl h
theorem x_isr_tuple_str (F : FH H L) (m : (p, Is (.tup xs)) ∈ L) (h : Q (.bl false) H) : rIsI [.ref p, .ty "str"] H Q := isi_of (.tup (.inl (F.get m))) kit_tuple_str rfl h
theorem x_isr_tuple_list (F : FH H L) (m : (p, Is (.tup xs)) ∈ L) (h : Q (.bl false) H) : rIsI [.ref p, .ty "list"] H Q := isi_of (.tup (.inl (F.get m))) kit_tuple_list rfl h
theorem x_isr_tuple_tuple (F : FH H L) (m : (p, Is (.tup xs)) ∈ L) (h : Q (.bl true) H) : rIsI [.ref p, .ty "tuple"] H Q := isi_of (.tup (.inl (F.get m))) kit_tuple_tuple rfl h
theorem x_isr_tuple_dict (F : FH H L) (m : (p, Is (.tup xs)) ∈ L) (h : Q (.bl false) H) : rIsI [.ref p, .ty "dict"] H Q := isi_of (.tup (.inl (F.get m))) kit_tuple_dict rfl h
theorem is_eqP (h : rEqP S x y H Q) : rEqP S x y H Q := h
theorem is_neP (h : rNeP S x y H Q) : rNeP S x y H Q := h
theorem x_eqPI (h : Q (.bl (decide (i = j))) H) : rEqP S (.int i) (.int j) H Q := .inl (x_eqI h)
theorem x_nePI (h : Q (.bl (decide (i ≠ j))) H) : rNeP S (.int i) (.int j) H Q := .inl (x_neI h)
theorem x_eqPB {a b : Bool} (h : Q (.bl (decide (a = b))) H) : rEqP S (.bl a) (.bl b) H Q := .inl (x_eqB h)
theorem x_nePB {a b : Bool} (h : Q (.bl (decide (a ≠ b))) H) : rNeP S (.bl a) (.bl b) H Q := .inl (x_neB h)
theorem x_eqPS {a b : Str} (h : Q (.bl (decide (a = b))) H) : rEqP S (.str a) (.str b) H Q := .inl (x_eqS h)
theorem x_nePS {a b : Str} (h : Q (.bl (decide (a ≠ b))) H) : rNeP S (.str a) (.str b) H Q := .inl (x_neS h)
/-! small built-ins -/
theorem x_abs (h : Q (.int (if i < 0 then -i else i)) H) : rAbs [.int i] H Q := ⟨i, rfl, h⟩
theorem x_min2 (h : Q (.int (min i j)) H) : rMin2 [.int i, .int j] H Q := ⟨i, j, rfl, by rw [show (if j < i then j else i) = min i j by omega]; exact h⟩
theorem x_max2 (h : Q (.int (max i j)) H) : rMax2 [.int i, .int j] H Q := ⟨i, j, rfl, by rw [show (if j > i then j else i) = max i j by omega]; exact h⟩
theorem x_sumL {ns : List Int} (F : FH H L) (m : (p, Is (.lst (ns.map V.int))) ∈ L) (h : Q (.int ns.sum) H) : rSum S [.ref p] H Q := ⟨p, ns, rfl, .inl (.inl (F.get m)), h⟩
theorem x_allL {bs : List Bool} (F : FH H L) (m : (p, Is (.lst xs)) ∈ L) (e : xs = bs.map V.bl) (h : Q (.bl (bs.all id)) H) : rAll S [.ref p] H Q := ⟨p, bs, rfl, .inl (.inl (by rw [← e]; exact F.get m)), h⟩
theorem x_cat (F : FH H L) {q : Addr} {ys : List V} (m : (p, Is (.lst xs)) ∈ L) (n : (q, Is (.lst ys)) ∈ L) (z : (xs ++ ys).length ≤ sizeLine) (h : ∀ r H', H r = none → FH H' ((r, Is (.lst (xs ++ ys))) :: L) → Q (.ref r) H') : rAdd (.ref p) (.ref q) H Q :=
  .inr (.inr ⟨p, q, xs, ys, rfl, rfl, F.get m, F.get n, by rw [← List.length_append]; exact z, fun r hr => h r _ hr (F.new hr)⟩)
theorem x_prop {C : Addr} (h : te σ H fun x H1 => ∃ a dx fs, x = .ref a ∧ H1 a = some (.ins C dx fs) ∧ sp [.ref a] H1 Q E0) : eProp C sp te σ H Q := h
theorem x_propG {C : Addr} {B : Addr → Prop} (F : FH H L) (m : (p, Is (.ins C dx fs)) ∈ L) (h : B p) : ∃ a dx fs, V.ref p = .ref a ∧ H a = some (.ins C dx fs) ∧ B a := ⟨p, dx, fs, rfl, F.get m, h⟩
theorem x_augF {C : Addr} {rd : V → V → Hp → VK → Prop} (h : te σ H fun x H1 => ∃ a dx fs v, x = .ref a ∧ H1 a = some (.ins C dx fs) ∧ fs.lookup f = some v ∧
  tb σ H1 fun y H2 => rd v y H2 fun z H3 => ∃ dx' fs', H3 a = some (.ins C dx' fs') ∧ fs'.length < 1000 ∧ nx σ (upd H3 a (.ins C dx' (putF f z fs')))) : sAugF C f te tb rd ⟨nx, rt, bk, ct⟩ σ H := h
theorem x_augFG {C : Addr} {QAV : Addr → V → Prop} (F : FH H L) (m : (p, Is (.ins C dx fs)) ∈ L) (l : fs.lookup f = some v) (h : QAV p v) : ∃ a dx fs v, V.ref p = .ref a ∧ H a = some (.ins C dx fs) ∧ fs.lookup f = some v ∧ QAV a v := ⟨p, dx, fs, v, rfl, F.get m, l, h⟩
theorem x_augFS {C : Addr} {z : V} {QH : Hp → Prop} {fs' : List (Str × V)} (F : FH H L) (m : (p, Is (.ins C dx fs)) ∈ L) (hl : fs.length < 1000) (e : putF f z fs = fs') (pu : Put p (Is (.ins C dx fs)) (Is (.ins C dx fs')) L L') (h : ∀ H', FH H' L' → QH H') : ∃ dx' fs', H p = some (.ins C dx' fs') ∧ fs'.length < 1000 ∧ QH (upd H p (.ins C dx' (putF f z fs'))) :=
  ⟨dx, fs, F.get m, hl, by rw [e]; exact h _ (F.put pu trivial)⟩
theorem x_inAdd (h : Q (.int (i + j)) H) : rInAdd (.int i) (.int j) H Q := ⟨i, j, rfl, rfl, h⟩
theorem x_inSub (h : Q (.int (i - j)) H) : rInSub (.int i) (.int j) H Q := ⟨i, j, rfl, rfl, h⟩
/-! errors -/
def KmkC (C : Addr) (fs : List Str) (E : XK) (vs : List V) (H1 : Hp) : Prop := vs.length = fs.length ∧ ∀ d, H1 d = none → E (.ref C) (some d) (upd H1 d (.xd (exFs fs vs)))
theorem x_raise {C : Addr} {fs : List Str} {D : Ends} (h : tl σ H fun vs H1 => KmkC C fs E vs H1) : sRaise E (tMkC C fs tl) D σ H := h
theorem x_raiseS {C : Addr} {fs : List Str} {D : Ends} {W : WX} (h : tl σ H fun vs H1 => KmkC C fs (WE W σ) vs H1) : sRaiseS W (tMkC C fs tl) D σ H := h
theorem x_mkC1 {C : Addr} {f : Str} (F : FH H L) (h : ∀ d H', FH H' ((d, Is (.xd [(f, v)])) :: L) → E (.ref C) (some d) H') : KmkC C [f] E [v] H := ⟨rfl, fun d hd => h d _ (F.new hd)⟩
theorem x_mkC2 {C : Addr} {f g : Str} {w : V} (F : FH H L) (h : ∀ d H', FH H' ((d, Is (.xd [(g, w), (f, v)])) :: L) → E (.ref C) (some d) H') : KmkC C [f, g] E [v, w] H := ⟨rfl, fun d hd => h d _ (F.new hd)⟩
theorem x_try {tab : List (Value × Nat)} {cl : List Sui} {tw : WX → TS} (h : tw (wT tab cl ⟨nx, rt, bk, ct⟩) ⟨nx, rt, bk, ct⟩ σ H) : sTry tab cl tw ⟨nx, rt, bk, ct⟩ σ H := h
theorem x_cS {ES : L2.St → XK} (h : tl σ H fun vs H1 => sp vs H1 Q (ES σ)) : tCS sp ES tl σ H Q := h
theorem x_mS {ES : L2.St → XK} {m : Str} (h : ta σ H fun x H1 => ∃ a dx fs, x = .ref a ∧ H1 a = some (.ins C dx fs) ∧ fs.lookup m = none ∧ tl σ H1 fun vs H2 => sp (x :: vs) H2 Q (ES σ)) : tMS C m sp ES ta tl σ H Q := h
def KnewS (C : Addr) (sp : Sp) (vs : List V) (H1 : Hp) (Q : VK) (E : XK) : Prop := ∀ x dx, H1 x = none → H1 dx = none → dx ≠ x → sp (.ref x :: vs) (upd (upd H1 dx (.own x)) x (.ins C dx [])) (fun v H2 => v = .non ∧ Q (.ref x) H2) E
theorem x_newS {ES : L2.St → XK} (h : tl σ H fun vs H1 => KnewS C sp vs H1 Q (ES σ)) : tNewS C sp ES tl σ H Q := h
theorem x_newSG {C : Addr} {vs : List V} (F : FH H L) (h : ∀ x dx H', FH H' ((x, Is (.ins C dx [])) :: L) → sp (.ref x :: vs) H' (fun v H2 => v = .non ∧ Q (.ref x) H2) E) : KnewS C sp vs H Q E := fun x dx hx hd ne =>
  h x dx _ ((F.other hd).new (by rw [upd_ne (Ne.symm ne)]; exact hx))
def gDel (i : Nat) (σ : L2.St) (H : Hp) (k : K0) : Prop := k (σ.set i none) H
theorem is_d {n : Nat} {k : K0} (h : gDel n σ H k) : gDel n σ H k := h
theorem x_wTs {tab : List (Value × Nat)} {cl : List Sui} {k i : Nat} {ts : Addr → Value → Option Addr → TS} {cls : Value} {d : Option Addr} (mt : (cls, k) ∈ tab) (rf : cl[k]? = some (some i, ts)) (h : ∀ a, gName i (.ref a) σ H fun σ' H' => ts a cls d ⟨fun σ' H' => gDel i σ' H' nx, rt, fun σ' H' => gDel i σ' H' bk, fun σ' H' => gDel i σ' H' ct⟩ σ' H') :
    wT tab cl ⟨nx, rt, bk, ct⟩ cls d σ H := ⟨k, some i, ts, mt, rf, fun a _ => h a⟩
theorem x_wTn {tab : List (Value × Nat)} {cl : List Sui} {k : Nat} {ts : Addr → Value → Option Addr → TS} {cls : Value} {d : Option Addr} (mt : (cls, k) ∈ tab) (rf : cl[k]? = some (none, ts)) (h : ∀ a, ts a cls d ⟨nx, rt, bk, ct⟩ σ H) :
    wT tab cl ⟨nx, rt, bk, ct⟩ cls d σ H := ⟨k, none, ts, mt, rf, fun a _ => h a⟩
theorem x_xf {b : Addr} {cls : Value} {d : Option Addr} {Cs : List Addr} {f : Str} (h : te σ H fun x H1 => x = .ref b ∧ ∃ C, C ∈ Cs ∧ cls = .ref C ∧ ∃ (dd : Addr) (fs : List (Str × V)) (v : V), d = some dd ∧ H1 dd = some (.xd fs) ∧ fs.lookup f = some v ∧ Q v H1) : eXf b cls d Cs f te σ H Q := h
theorem x_xfG {b C : Addr} {Cs : List Addr} {f : Str} {QV : V → Prop} {fs : List (Str × V)} (F : FH H L) (m : (p, Is (.xd fs)) ∈ L) (mt : C ∈ Cs) (l : fs.lookup f = some v) (h : QV v) :
    V.ref b = .ref b ∧ ∃ C', C' ∈ Cs ∧ Value.ref C = .ref C' ∧ ∃ (dd : Addr) (fs : List (Str × V)) (v : V), some p = some dd ∧ H dd = some (.xd fs) ∧ fs.lookup f = some v ∧ QV v := ⟨rfl, C, mt, rfl, p, fs, v, rfl, F.get m, l, h⟩
theorem x_isX {b C : Addr} {tbl : List (Value × V × Bool)} {c : V} {k : Bool} {fs : List (Str × V)} (F : FH H L) (m : (p, Is (.xd fs)) ∈ L) (mt : (Value.ref C, c, k) ∈ tbl) (h : Q (.bl k) H) : rIsX tbl b (.ref C) (some p) [.ref b, c] H Q := .inl ⟨c, k, rfl, mt, ⟨p, fs, rfl, F.get m⟩, h⟩
theorem x_isXi {b : Addr} {tbl : List (Value × V × Bool)} {cls : Value} {d : Option Addr} {xs : List V} (h : rIsI xs H Q) : rIsX tbl b cls d xs H Q := .inr h
theorem x_strI (h1 : -18446744073709551616 < i ∧ i < 18446744073709551616) (h : Q (.str (toString i)) H) : rStrI [.int i] H Q := ⟨i, rfl, by
  by_cases e : i.natAbs = 0
  · rw [e]; decide
  · have h2 := Nat.log2_self_le e
    have h3 : 2 ^ i.natAbs.log2 < 2 ^ 64 := by
      have : (2 : Nat) ^ 64 = 18446744073709551616 := by decide
      omega
    have := (Nat.pow_lt_pow_iff_right (by decide : 1 < 2)).mp h3
    omega, h⟩
/-! places -/
theorem atI_at {α : Type} {xs : List α} {j : Nat} {v : α} (e : i = (j : Int)) (h : xs[j]? = some v) : atI xs i = some v := by subst e; exact atI_nat h
theorem ixN_at {n j : Nat} (e : i = (j : Int)) (h : j < n) : ixN n i = some j := by
  subst e
  unfold ixN
  rw [if_pos (by omega), if_pos (by omega)]
  simp
theorem atI_ints {ns : List Int} (h0 : 0 ≤ i) (h1 : i < ((ns.map V.int).length : Int)) : atI (ns.map V.int) i = some (.int (ns.getD i.toNat 0)) := by
  have hl : i.toNat < ns.length := by rw [List.length_map] at h1; omega
  refine atI_at (j := i.toNat) (by omega) ?_
  rw [List.getElem?_map, List.getElem?_eq_getElem hl, List.getD_eq_getElem?_getD, List.getElem?_eq_getElem hl]
  rfl
theorem getD_nn {ns : List Int} (h : ∀ n ∈ ns, 0 ≤ n) (k : Nat) : 0 ≤ ns.getD k 0 := by
  rw [List.getD_eq_getElem?_getD]
  cases e : ns[k]? with
  | none => exact Int.le_refl 0
  | some z => exact h z (List.mem_of_getElem? e)
theorem ixN_b {n j : Nat} (e : i = (j : Int)) (h : Nat.blt j n = true) : ixN n i = some j := ixN_at e (by simpa [Nat.blt_eq] using h)
theorem ixN_i {n : Nat} (h0 : 0 ≤ i) (h1 : i < (n : Int)) : ixN n i = some i.toNat := by
  unfold ixN
  rw [if_pos h0, if_pos h1]
theorem len_leB {xs : List V} (h : Nat.ble xs.length 16777216 = true) : xs.length ≤ sizeLine := by rw [sizeLine_eq]; exact Nat.le_of_ble_eq_true h
theorem len_ltB {xs : List V} (h : Nat.blt xs.length 16777216 = true) : xs.length < sizeLine := by rw [sizeLine_eq]; simpa [Nat.blt_eq] using h
theorem f_lt {fs : List (Str × V)} (h : Nat.blt fs.length 1000 = true) : fs.length < 1000 := by simpa [Nat.blt_eq] using h
theorem len_leN {xs : List V} (h : xs.length ≤ 16777216) : xs.length ≤ sizeLine := by rw [sizeLine_eq]; exact h
theorem len_ltN {xs : List V} (h : xs.length < 16777216) : xs.length < sizeLine := by rw [sizeLine_eq]; exact h
theorem len_le {xs : List V} {n : Nat} (e : xs.length = n) (h : n ≤ 16777216) : xs.length ≤ sizeLine := by rw [e, sizeLine_eq]; exact h
theorem len_lt {xs : List V} {n : Nat} (e : xs.length = n) (h : n < 16777216) : xs.length < sizeLine := by rw [e, sizeLine_eq]; exact h
theorem div_small (h1 : 0 < j) (h2 : j < 18446744073709551616) : CDivW i j := wide_div (b := 64) h1 (by omega) (by decide) (by decide)
theorem mulL (h1 : -18446744073709551616 < i) (h2 : i < 18446744073709551616) : CMul i j := .inl ⟨h1, h2⟩
theorem mulR (h1 : -18446744073709551616 < j) (h2 : j < 18446744073709551616) : CMul i j := .inr ⟨h1, h2⟩

theorem x_pw10_1 (h : Q (.int 10) H) : rPow (.int 10) (.int 1) H Q := x_pow ⟨by decide, by decide, by decide⟩ (by rw [show (10 : Int) ^ (Int.toNat 1) = 10 by decide]; exact h)
theorem x_pw10_2 (h : Q (.int 100) H) : rPow (.int 10) (.int 2) H Q := x_pow ⟨by decide, by decide, by decide⟩ (by rw [show (10 : Int) ^ (Int.toNat 2) = 100 by decide]; exact h)
theorem x_pw10_3 (h : Q (.int 1000) H) : rPow (.int 10) (.int 3) H Q := x_pow ⟨by decide, by decide, by decide⟩ (by rw [show (10 : Int) ^ (Int.toNat 3) = 1000 by decide]; exact h)
theorem x_pw10_4 (h : Q (.int 10000) H) : rPow (.int 10) (.int 4) H Q := x_pow ⟨by decide, by decide, by decide⟩ (by rw [show (10 : Int) ^ (Int.toNat 4) = 10000 by decide]; exact h)
theorem x_pw10_5 (h : Q (.int 100000) H) : rPow (.int 10) (.int 5) H Q := x_pow ⟨by decide, by decide, by decide⟩ (by rw [show (10 : Int) ^ (Int.toNat 5) = 100000 by decide]; exact h)
theorem x_pw10_6 (h : Q (.int 1000000) H) : rPow (.int 10) (.int 6) H Q := x_pow ⟨by decide, by decide, by decide⟩ (by rw [show (10 : Int) ^ (Int.toNat 6) = 1000000 by decide]; exact h)
theorem x_pw10_7 (h : Q (.int 10000000) H) : rPow (.int 10) (.int 7) H Q := x_pow ⟨by decide, by decide, by decide⟩ (by rw [show (10 : Int) ^ (Int.toNat 7) = 10000000 by decide]; exact h)
theorem x_pw10_8 (h : Q (.int 100000000) H) : rPow (.int 10) (.int 8) H Q := x_pow ⟨by decide, by decide, by decide⟩ (by rw [show (10 : Int) ^ (Int.toNat 8) = 100000000 by decide]; exact h)
theorem x_pw10_9 (h : Q (.int 1000000000) H) : rPow (.int 10) (.int 9) H Q := x_pow ⟨by decide, by decide, by decide⟩ (by rw [show (10 : Int) ^ (Int.toNat 9) = 1000000000 by decide]; exact h)
theorem x_pw10_10 (h : Q (.int 10000000000) H) : rPow (.int 10) (.int 10) H Q := x_pow ⟨by decide, by decide, by decide⟩ (by rw [show (10 : Int) ^ (Int.toNat 10) = 10000000000 by decide]; exact h)
theorem x_pw10_11 (h : Q (.int 100000000000) H) : rPow (.int 10) (.int 11) H Q := x_pow ⟨by decide, by decide, by decide⟩ (by rw [show (10 : Int) ^ (Int.toNat 11) = 100000000000 by decide]; exact h)
theorem x_pw10_12 (h : Q (.int 1000000000000) H) : rPow (.int 10) (.int 12) H Q := x_pow ⟨by decide, by decide, by decide⟩ (by rw [show (10 : Int) ^ (Int.toNat 12) = 1000000000000 by decide]; exact h)
theorem x_pw10_13 (h : Q (.int 10000000000000) H) : rPow (.int 10) (.int 13) H Q := x_pow ⟨by decide, by decide, by decide⟩ (by rw [show (10 : Int) ^ (Int.toNat 13) = 10000000000000 by decide]; exact h)
theorem x_pw10_14 (h : Q (.int 100000000000000) H) : rPow (.int 10) (.int 14) H Q := x_pow ⟨by decide, by decide, by decide⟩ (by rw [show (10 : Int) ^ (Int.toNat 14) = 100000000000000 by decide]; exact h)
theorem x_pw10_15 (h : Q (.int 1000000000000000) H) : rPow (.int 10) (.int 15) H Q := x_pow ⟨by decide, by decide, by decide⟩ (by rw [show (10 : Int) ^ (Int.toNat 15) = 1000000000000000 by decide]; exact h)
theorem x_pw10_16 (h : Q (.int 10000000000000000) H) : rPow (.int 10) (.int 16) H Q := x_pow ⟨by decide, by decide, by decide⟩ (by rw [show (10 : Int) ^ (Int.toNat 16) = 10000000000000000 by decide]; exact h)
theorem x_pw10_17 (h : Q (.int 100000000000000000) H) : rPow (.int 10) (.int 17) H Q := x_pow ⟨by decide, by decide, by decide⟩ (by rw [show (10 : Int) ^ (Int.toNat 17) = 100000000000000000 by decide]; exact h)
theorem x_pw10_18 (h : Q (.int 1000000000000000000) H) : rPow (.int 10) (.int 18) H Q := x_pow ⟨by decide, by decide, by decide⟩ (by rw [show (10 : Int) ^ (Int.toNat 18) = 1000000000000000000 by decide]; exact h)
theorem x_pw10_19 (h : Q (.int 10000000000000000000) H) : rPow (.int 10) (.int 19) H Q := x_pow ⟨by decide, by decide, by decide⟩ (by rw [show (10 : Int) ^ (Int.toNat 19) = 10000000000000000000 by decide]; exact h)
theorem x_pw10_20 (h : Q (.int 100000000000000000000) H) : rPow (.int 10) (.int 20) H Q := x_pow ⟨by decide, by decide, by decide⟩ (by rw [show (10 : Int) ^ (Int.toNat 20) = 100000000000000000000 by decide]; exact h)
theorem x_pw10_21 (h : Q (.int 1000000000000000000000) H) : rPow (.int 10) (.int 21) H Q := x_pow ⟨by decide, by decide, by decide⟩ (by rw [show (10 : Int) ^ (Int.toNat 21) = 1000000000000000000000 by decide]; exact h)
theorem x_pw10_22 (h : Q (.int 10000000000000000000000) H) : rPow (.int 10) (.int 22) H Q := x_pow ⟨by decide, by decide, by decide⟩ (by rw [show (10 : Int) ^ (Int.toNat 22) = 10000000000000000000000 by decide]; exact h)
theorem x_pw10_23 (h : Q (.int 100000000000000000000000) H) : rPow (.int 10) (.int 23) H Q := x_pow ⟨by decide, by decide, by decide⟩ (by rw [show (10 : Int) ^ (Int.toNat 23) = 100000000000000000000000 by decide]; exact h)
theorem x_pw10_24 (h : Q (.int 1000000000000000000000000) H) : rPow (.int 10) (.int 24) H Q := x_pow ⟨by decide, by decide, by decide⟩ (by rw [show (10 : Int) ^ (Int.toNat 24) = 1000000000000000000000000 by decide]; exact h)
theorem x_pw2_6 (h : Q (.int 64) H) : rPow (.int 2) (.int 6) H Q := x_pow ⟨by decide, by decide, by decide⟩ (by rw [show (2 : Int) ^ (Int.toNat 6) = 64 by decide]; exact h)
theorem x_pw2_10 (h : Q (.int 1024) H) : rPow (.int 2) (.int 10) H Q := x_pow ⟨by decide, by decide, by decide⟩ (by rw [show (2 : Int) ^ (Int.toNat 10) = 1024 by decide]; exact h)
theorem x_pw2_16 (h : Q (.int 65536) H) : rPow (.int 2) (.int 16) H Q := x_pow ⟨by decide, by decide, by decide⟩ (by rw [show (2 : Int) ^ (Int.toNat 16) = 65536 by decide]; exact h)
theorem x_pw2_20 (h : Q (.int 1048576) H) : rPow (.int 2) (.int 20) H Q := x_pow ⟨by decide, by decide, by decide⟩ (by rw [show (2 : Int) ^ (Int.toNat 20) = 1048576 by decide]; exact h)
theorem x_pw2_30 (h : Q (.int 1073741824) H) : rPow (.int 2) (.int 30) H Q := x_pow ⟨by decide, by decide, by decide⟩ (by rw [show (2 : Int) ^ (Int.toNat 30) = 1073741824 by decide]; exact h)
theorem x_pw2_31 (h : Q (.int 2147483648) H) : rPow (.int 2) (.int 31) H Q := x_pow ⟨by decide, by decide, by decide⟩ (by rw [show (2 : Int) ^ (Int.toNat 31) = 2147483648 by decide]; exact h)
theorem x_pw2_32 (h : Q (.int 4294967296) H) : rPow (.int 2) (.int 32) H Q := x_pow ⟨by decide, by decide, by decide⟩ (by rw [show (2 : Int) ^ (Int.toNat 32) = 4294967296 by decide]; exact h)
theorem x_pw2_40 (h : Q (.int 1099511627776) H) : rPow (.int 2) (.int 40) H Q := x_pow ⟨by decide, by decide, by decide⟩ (by rw [show (2 : Int) ^ (Int.toNat 40) = 1099511627776 by decide]; exact h)
theorem x_pw2_48 (h : Q (.int 281474976710656) H) : rPow (.int 2) (.int 48) H Q := x_pow ⟨by decide, by decide, by decide⟩ (by rw [show (2 : Int) ^ (Int.toNat 48) = 281474976710656 by decide]; exact h)
theorem x_pw2_60 (h : Q (.int 1152921504606846976) H) : rPow (.int 2) (.int 60) H Q := x_pow ⟨by decide, by decide, by decide⟩ (by rw [show (2 : Int) ^ (Int.toNat 60) = 1152921504606846976 by decide]; exact h)
theorem x_pw2_62 (h : Q (.int 4611686018427387904) H) : rPow (.int 2) (.int 62) H Q := x_pow ⟨by decide, by decide, by decide⟩ (by rw [show (2 : Int) ^ (Int.toNat 62) = 4611686018427387904 by decide]; exact h)
theorem x_pw2_63 (h : Q (.int 9223372036854775808) H) : rPow (.int 2) (.int 63) H Q := x_pow ⟨by decide, by decide, by decide⟩ (by rw [show (2 : Int) ^ (Int.toNat 63) = 9223372036854775808 by decide]; exact h)
theorem x_pw2_64 (h : Q (.int 18446744073709551616) H) : rPow (.int 2) (.int 64) H Q := x_pow ⟨by decide, by decide, by decide⟩ (by rw [show (2 : Int) ^ (Int.toNat 64) = 18446744073709551616 by decide]; exact h)
theorem x_v0 {σ : L2.St} (h : Q v H) : tVar 0 (some v :: σ) H Q := ⟨v, rfl, h⟩
theorem x_g0 {x : Option V} {σ : L2.St} (h : QS (some v :: σ) H) : gName 0 v (x :: σ) H QS := h
theorem x_d0 {x : Option V} {σ : L2.St} {k : K0} (h : k (none :: σ) H) : gDel 0 (x :: σ) H k := h
theorem x_ml0 {σ : L2.St} (h : tMake C sp [] E tl (some (.ref C) :: σ) H Q) : eMakeL 0 C sp [] E tl (some (.ref C) :: σ) H Q := ⟨rfl, h⟩
theorem x_au0 {te : TE} {ti : TIp} {σ : L2.St} (h : te (some x :: σ) H fun y H1 => ti x y H1 fun z H2 => nx (some z :: σ) H2) : tAug 0 te ti ⟨nx, rt, bk, ct⟩ (some x :: σ) H := ⟨x, rfl, h⟩
theorem x_v1 {a0 : Option V} {σ : L2.St} (h : Q v H) : tVar 1 (a0 :: some v :: σ) H Q := ⟨v, rfl, h⟩
theorem x_g1 {a0 : Option V} {x : Option V} {σ : L2.St} (h : QS (a0 :: some v :: σ) H) : gName 1 v (a0 :: x :: σ) H QS := h
theorem x_d1 {a0 : Option V} {x : Option V} {σ : L2.St} {k : K0} (h : k (a0 :: none :: σ) H) : gDel 1 (a0 :: x :: σ) H k := h
theorem x_ml1 {a0 : Option V} {σ : L2.St} (h : tMake C sp [] E tl (a0 :: some (.ref C) :: σ) H Q) : eMakeL 1 C sp [] E tl (a0 :: some (.ref C) :: σ) H Q := ⟨rfl, h⟩
theorem x_au1 {te : TE} {ti : TIp} {a0 : Option V} {σ : L2.St} (h : te (a0 :: some x :: σ) H fun y H1 => ti x y H1 fun z H2 => nx (a0 :: some z :: σ) H2) : tAug 1 te ti ⟨nx, rt, bk, ct⟩ (a0 :: some x :: σ) H := ⟨x, rfl, h⟩
theorem x_v2 {a0 a1 : Option V} {σ : L2.St} (h : Q v H) : tVar 2 (a0 :: a1 :: some v :: σ) H Q := ⟨v, rfl, h⟩
theorem x_g2 {a0 a1 : Option V} {x : Option V} {σ : L2.St} (h : QS (a0 :: a1 :: some v :: σ) H) : gName 2 v (a0 :: a1 :: x :: σ) H QS := h
theorem x_d2 {a0 a1 : Option V} {x : Option V} {σ : L2.St} {k : K0} (h : k (a0 :: a1 :: none :: σ) H) : gDel 2 (a0 :: a1 :: x :: σ) H k := h
theorem x_ml2 {a0 a1 : Option V} {σ : L2.St} (h : tMake C sp [] E tl (a0 :: a1 :: some (.ref C) :: σ) H Q) : eMakeL 2 C sp [] E tl (a0 :: a1 :: some (.ref C) :: σ) H Q := ⟨rfl, h⟩
theorem x_au2 {te : TE} {ti : TIp} {a0 a1 : Option V} {σ : L2.St} (h : te (a0 :: a1 :: some x :: σ) H fun y H1 => ti x y H1 fun z H2 => nx (a0 :: a1 :: some z :: σ) H2) : tAug 2 te ti ⟨nx, rt, bk, ct⟩ (a0 :: a1 :: some x :: σ) H := ⟨x, rfl, h⟩
theorem x_v3 {a0 a1 a2 : Option V} {σ : L2.St} (h : Q v H) : tVar 3 (a0 :: a1 :: a2 :: some v :: σ) H Q := ⟨v, rfl, h⟩
theorem x_g3 {a0 a1 a2 : Option V} {x : Option V} {σ : L2.St} (h : QS (a0 :: a1 :: a2 :: some v :: σ) H) : gName 3 v (a0 :: a1 :: a2 :: x :: σ) H QS := h
theorem x_d3 {a0 a1 a2 : Option V} {x : Option V} {σ : L2.St} {k : K0} (h : k (a0 :: a1 :: a2 :: none :: σ) H) : gDel 3 (a0 :: a1 :: a2 :: x :: σ) H k := h
theorem x_ml3 {a0 a1 a2 : Option V} {σ : L2.St} (h : tMake C sp [] E tl (a0 :: a1 :: a2 :: some (.ref C) :: σ) H Q) : eMakeL 3 C sp [] E tl (a0 :: a1 :: a2 :: some (.ref C) :: σ) H Q := ⟨rfl, h⟩
theorem x_au3 {te : TE} {ti : TIp} {a0 a1 a2 : Option V} {σ : L2.St} (h : te (a0 :: a1 :: a2 :: some x :: σ) H fun y H1 => ti x y H1 fun z H2 => nx (a0 :: a1 :: a2 :: some z :: σ) H2) : tAug 3 te ti ⟨nx, rt, bk, ct⟩ (a0 :: a1 :: a2 :: some x :: σ) H := ⟨x, rfl, h⟩
theorem x_v4 {a0 a1 a2 a3 : Option V} {σ : L2.St} (h : Q v H) : tVar 4 (a0 :: a1 :: a2 :: a3 :: some v :: σ) H Q := ⟨v, rfl, h⟩
theorem x_g4 {a0 a1 a2 a3 : Option V} {x : Option V} {σ : L2.St} (h : QS (a0 :: a1 :: a2 :: a3 :: some v :: σ) H) : gName 4 v (a0 :: a1 :: a2 :: a3 :: x :: σ) H QS := h
theorem x_d4 {a0 a1 a2 a3 : Option V} {x : Option V} {σ : L2.St} {k : K0} (h : k (a0 :: a1 :: a2 :: a3 :: none :: σ) H) : gDel 4 (a0 :: a1 :: a2 :: a3 :: x :: σ) H k := h
theorem x_ml4 {a0 a1 a2 a3 : Option V} {σ : L2.St} (h : tMake C sp [] E tl (a0 :: a1 :: a2 :: a3 :: some (.ref C) :: σ) H Q) : eMakeL 4 C sp [] E tl (a0 :: a1 :: a2 :: a3 :: some (.ref C) :: σ) H Q := ⟨rfl, h⟩
theorem x_au4 {te : TE} {ti : TIp} {a0 a1 a2 a3 : Option V} {σ : L2.St} (h : te (a0 :: a1 :: a2 :: a3 :: some x :: σ) H fun y H1 => ti x y H1 fun z H2 => nx (a0 :: a1 :: a2 :: a3 :: some z :: σ) H2) : tAug 4 te ti ⟨nx, rt, bk, ct⟩ (a0 :: a1 :: a2 :: a3 :: some x :: σ) H := ⟨x, rfl, h⟩
theorem x_v5 {a0 a1 a2 a3 a4 : Option V} {σ : L2.St} (h : Q v H) : tVar 5 (a0 :: a1 :: a2 :: a3 :: a4 :: some v :: σ) H Q := ⟨v, rfl, h⟩
theorem x_g5 {a0 a1 a2 a3 a4 : Option V} {x : Option V} {σ : L2.St} (h : QS (a0 :: a1 :: a2 :: a3 :: a4 :: some v :: σ) H) : gName 5 v (a0 :: a1 :: a2 :: a3 :: a4 :: x :: σ) H QS := h
theorem x_d5 {a0 a1 a2 a3 a4 : Option V} {x : Option V} {σ : L2.St} {k : K0} (h : k (a0 :: a1 :: a2 :: a3 :: a4 :: none :: σ) H) : gDel 5 (a0 :: a1 :: a2 :: a3 :: a4 :: x :: σ) H k := h
theorem x_ml5 {a0 a1 a2 a3 a4 : Option V} {σ : L2.St} (h : tMake C sp [] E tl (a0 :: a1 :: a2 :: a3 :: a4 :: some (.ref C) :: σ) H Q) : eMakeL 5 C sp [] E tl (a0 :: a1 :: a2 :: a3 :: a4 :: some (.ref C) :: σ) H Q := ⟨rfl, h⟩
theorem x_au5 {te : TE} {ti : TIp} {a0 a1 a2 a3 a4 : Option V} {σ : L2.St} (h : te (a0 :: a1 :: a2 :: a3 :: a4 :: some x :: σ) H fun y H1 => ti x y H1 fun z H2 => nx (a0 :: a1 :: a2 :: a3 :: a4 :: some z :: σ) H2) : tAug 5 te ti ⟨nx, rt, bk, ct⟩ (a0 :: a1 :: a2 :: a3 :: a4 :: some x :: σ) H := ⟨x, rfl, h⟩
theorem x_v6 {a0 a1 a2 a3 a4 a5 : Option V} {σ : L2.St} (h : Q v H) : tVar 6 (a0 :: a1 :: a2 :: a3 :: a4 :: a5 :: some v :: σ) H Q := ⟨v, rfl, h⟩
theorem x_g6 {a0 a1 a2 a3 a4 a5 : Option V} {x : Option V} {σ : L2.St} (h : QS (a0 :: a1 :: a2 :: a3 :: a4 :: a5 :: some v :: σ) H) : gName 6 v (a0 :: a1 :: a2 :: a3 :: a4 :: a5 :: x :: σ) H QS := h
theorem x_d6 {a0 a1 a2 a3 a4 a5 : Option V} {x : Option V} {σ : L2.St} {k : K0} (h : k (a0 :: a1 :: a2 :: a3 :: a4 :: a5 :: none :: σ) H) : gDel 6 (a0 :: a1 :: a2 :: a3 :: a4 :: a5 :: x :: σ) H k := h
theorem x_ml6 {a0 a1 a2 a3 a4 a5 : Option V} {σ : L2.St} (h : tMake C sp [] E tl (a0 :: a1 :: a2 :: a3 :: a4 :: a5 :: some (.ref C) :: σ) H Q) : eMakeL 6 C sp [] E tl (a0 :: a1 :: a2 :: a3 :: a4 :: a5 :: some (.ref C) :: σ) H Q := ⟨rfl, h⟩
theorem x_au6 {te : TE} {ti : TIp} {a0 a1 a2 a3 a4 a5 : Option V} {σ : L2.St} (h : te (a0 :: a1 :: a2 :: a3 :: a4 :: a5 :: some x :: σ) H fun y H1 => ti x y H1 fun z H2 => nx (a0 :: a1 :: a2 :: a3 :: a4 :: a5 :: some z :: σ) H2) : tAug 6 te ti ⟨nx, rt, bk, ct⟩ (a0 :: a1 :: a2 :: a3 :: a4 :: a5 :: some x :: σ) H := ⟨x, rfl, h⟩
theorem x_v7 {a0 a1 a2 a3 a4 a5 a6 : Option V} {σ : L2.St} (h : Q v H) : tVar 7 (a0 :: a1 :: a2 :: a3 :: a4 :: a5 :: a6 :: some v :: σ) H Q := ⟨v, rfl, h⟩
theorem x_g7 {a0 a1 a2 a3 a4 a5 a6 : Option V} {x : Option V} {σ : L2.St} (h : QS (a0 :: a1 :: a2 :: a3 :: a4 :: a5 :: a6 :: some v :: σ) H) : gName 7 v (a0 :: a1 :: a2 :: a3 :: a4 :: a5 :: a6 :: x :: σ) H QS := h
theorem x_d7 {a0 a1 a2 a3 a4 a5 a6 : Option V} {x : Option V} {σ : L2.St} {k : K0} (h : k (a0 :: a1 :: a2 :: a3 :: a4 :: a5 :: a6 :: none :: σ) H) : gDel 7 (a0 :: a1 :: a2 :: a3 :: a4 :: a5 :: a6 :: x :: σ) H k := h
theorem x_ml7 {a0 a1 a2 a3 a4 a5 a6 : Option V} {σ : L2.St} (h : tMake C sp [] E tl (a0 :: a1 :: a2 :: a3 :: a4 :: a5 :: a6 :: some (.ref C) :: σ) H Q) : eMakeL 7 C sp [] E tl (a0 :: a1 :: a2 :: a3 :: a4 :: a5 :: a6 :: some (.ref C) :: σ) H Q := ⟨rfl, h⟩
theorem x_au7 {te : TE} {ti : TIp} {a0 a1 a2 a3 a4 a5 a6 : Option V} {σ : L2.St} (h : te (a0 :: a1 :: a2 :: a3 :: a4 :: a5 :: a6 :: some x :: σ) H fun y H1 => ti x y H1 fun z H2 => nx (a0 :: a1 :: a2 :: a3 :: a4 :: a5 :: a6 :: some z :: σ) H2) : tAug 7 te ti ⟨nx, rt, bk, ct⟩ (a0 :: a1 :: a2 :: a3 :: a4 :: a5 :: a6 :: some x :: σ) H := ⟨x, rfl, h⟩
theorem x_v8 {a0 a1 a2 a3 a4 a5 a6 a7 : Option V} {σ : L2.St} (h : Q v H) : tVar 8 (a0 :: a1 :: a2 :: a3 :: a4 :: a5 :: a6 :: a7 :: some v :: σ) H Q := ⟨v, rfl, h⟩
theorem x_g8 {a0 a1 a2 a3 a4 a5 a6 a7 : Option V} {x : Option V} {σ : L2.St} (h : QS (a0 :: a1 :: a2 :: a3 :: a4 :: a5 :: a6 :: a7 :: some v :: σ) H) : gName 8 v (a0 :: a1 :: a2 :: a3 :: a4 :: a5 :: a6 :: a7 :: x :: σ) H QS := h
theorem x_d8 {a0 a1 a2 a3 a4 a5 a6 a7 : Option V} {x : Option V} {σ : L2.St} {k : K0} (h : k (a0 :: a1 :: a2 :: a3 :: a4 :: a5 :: a6 :: a7 :: none :: σ) H) : gDel 8 (a0 :: a1 :: a2 :: a3 :: a4 :: a5 :: a6 :: a7 :: x :: σ) H k := h
theorem x_ml8 {a0 a1 a2 a3 a4 a5 a6 a7 : Option V} {σ : L2.St} (h : tMake C sp [] E tl (a0 :: a1 :: a2 :: a3 :: a4 :: a5 :: a6 :: a7 :: some (.ref C) :: σ) H Q) : eMakeL 8 C sp [] E tl (a0 :: a1 :: a2 :: a3 :: a4 :: a5 :: a6 :: a7 :: some (.ref C) :: σ) H Q := ⟨rfl, h⟩
theorem x_au8 {te : TE} {ti : TIp} {a0 a1 a2 a3 a4 a5 a6 a7 : Option V} {σ : L2.St} (h : te (a0 :: a1 :: a2 :: a3 :: a4 :: a5 :: a6 :: a7 :: some x :: σ) H fun y H1 => ti x y H1 fun z H2 => nx (a0 :: a1 :: a2 :: a3 :: a4 :: a5 :: a6 :: a7 :: some z :: σ) H2) : tAug 8 te ti ⟨nx, rt, bk, ct⟩ (a0 :: a1 :: a2 :: a3 :: a4 :: a5 :: a6 :: a7 :: some x :: σ) H := ⟨x, rfl, h⟩
theorem x_v9 {a0 a1 a2 a3 a4 a5 a6 a7 a8 : Option V} {σ : L2.St} (h : Q v H) : tVar 9 (a0 :: a1 :: a2 :: a3 :: a4 :: a5 :: a6 :: a7 :: a8 :: some v :: σ) H Q := ⟨v, rfl, h⟩
theorem x_g9 {a0 a1 a2 a3 a4 a5 a6 a7 a8 : Option V} {x : Option V} {σ : L2.St} (h : QS (a0 :: a1 :: a2 :: a3 :: a4 :: a5 :: a6 :: a7 :: a8 :: some v :: σ) H) : gName 9 v (a0 :: a1 :: a2 :: a3 :: a4 :: a5 :: a6 :: a7 :: a8 :: x :: σ) H QS := h
theorem x_d9 {a0 a1 a2 a3 a4 a5 a6 a7 a8 : Option V} {x : Option V} {σ : L2.St} {k : K0} (h : k (a0 :: a1 :: a2 :: a3 :: a4 :: a5 :: a6 :: a7 :: a8 :: none :: σ) H) : gDel 9 (a0 :: a1 :: a2 :: a3 :: a4 :: a5 :: a6 :: a7 :: a8 :: x :: σ) H k := h
theorem x_ml9 {a0 a1 a2 a3 a4 a5 a6 a7 a8 : Option V} {σ : L2.St} (h : tMake C sp [] E tl (a0 :: a1 :: a2 :: a3 :: a4 :: a5 :: a6 :: a7 :: a8 :: some (.ref C) :: σ) H Q) : eMakeL 9 C sp [] E tl (a0 :: a1 :: a2 :: a3 :: a4 :: a5 :: a6 :: a7 :: a8 :: some (.ref C) :: σ) H Q := ⟨rfl, h⟩
theorem x_au9 {te : TE} {ti : TIp} {a0 a1 a2 a3 a4 a5 a6 a7 a8 : Option V} {σ : L2.St} (h : te (a0 :: a1 :: a2 :: a3 :: a4 :: a5 :: a6 :: a7 :: a8 :: some x :: σ) H fun y H1 => ti x y H1 fun z H2 => nx (a0 :: a1 :: a2 :: a3 :: a4 :: a5 :: a6 :: a7 :: a8 :: some z :: σ) H2) : tAug 9 te ti ⟨nx, rt, bk, ct⟩ (a0 :: a1 :: a2 :: a3 :: a4 :: a5 :: a6 :: a7 :: a8 :: some x :: σ) H := ⟨x, rfl, h⟩
theorem x_v10 {a0 a1 a2 a3 a4 a5 a6 a7 a8 a9 : Option V} {σ : L2.St} (h : Q v H) : tVar 10 (a0 :: a1 :: a2 :: a3 :: a4 :: a5 :: a6 :: a7 :: a8 :: a9 :: some v :: σ) H Q := ⟨v, rfl, h⟩
theorem x_g10 {a0 a1 a2 a3 a4 a5 a6 a7 a8 a9 : Option V} {x : Option V} {σ : L2.St} (h : QS (a0 :: a1 :: a2 :: a3 :: a4 :: a5 :: a6 :: a7 :: a8 :: a9 :: some v :: σ) H) : gName 10 v (a0 :: a1 :: a2 :: a3 :: a4 :: a5 :: a6 :: a7 :: a8 :: a9 :: x :: σ) H QS := h
theorem x_d10 {a0 a1 a2 a3 a4 a5 a6 a7 a8 a9 : Option V} {x : Option V} {σ : L2.St} {k : K0} (h : k (a0 :: a1 :: a2 :: a3 :: a4 :: a5 :: a6 :: a7 :: a8 :: a9 :: none :: σ) H) : gDel 10 (a0 :: a1 :: a2 :: a3 :: a4 :: a5 :: a6 :: a7 :: a8 :: a9 :: x :: σ) H k := h
theorem x_ml10 {a0 a1 a2 a3 a4 a5 a6 a7 a8 a9 : Option V} {σ : L2.St} (h : tMake C sp [] E tl (a0 :: a1 :: a2 :: a3 :: a4 :: a5 :: a6 :: a7 :: a8 :: a9 :: some (.ref C) :: σ) H Q) : eMakeL 10 C sp [] E tl (a0 :: a1 :: a2 :: a3 :: a4 :: a5 :: a6 :: a7 :: a8 :: a9 :: some (.ref C) :: σ) H Q := ⟨rfl, h⟩
theorem x_au10 {te : TE} {ti : TIp} {a0 a1 a2 a3 a4 a5 a6 a7 a8 a9 : Option V} {σ : L2.St} (h : te (a0 :: a1 :: a2 :: a3 :: a4 :: a5 :: a6 :: a7 :: a8 :: a9 :: some x :: σ) H fun y H1 => ti x y H1 fun z H2 => nx (a0 :: a1 :: a2 :: a3 :: a4 :: a5 :: a6 :: a7 :: a8 :: a9 :: some z :: σ) H2) : tAug 10 te ti ⟨nx, rt, bk, ct⟩ (a0 :: a1 :: a2 :: a3 :: a4 :: a5 :: a6 :: a7 :: a8 :: a9 :: some x :: σ) H := ⟨x, rfl, h⟩
theorem x_v11 {a0 a1 a2 a3 a4 a5 a6 a7 a8 a9 a10 : Option V} {σ : L2.St} (h : Q v H) : tVar 11 (a0 :: a1 :: a2 :: a3 :: a4 :: a5 :: a6 :: a7 :: a8 :: a9 :: a10 :: some v :: σ) H Q := ⟨v, rfl, h⟩
theorem x_g11 {a0 a1 a2 a3 a4 a5 a6 a7 a8 a9 a10 : Option V} {x : Option V} {σ : L2.St} (h : QS (a0 :: a1 :: a2 :: a3 :: a4 :: a5 :: a6 :: a7 :: a8 :: a9 :: a10 :: some v :: σ) H) : gName 11 v (a0 :: a1 :: a2 :: a3 :: a4 :: a5 :: a6 :: a7 :: a8 :: a9 :: a10 :: x :: σ) H QS := h
theorem x_d11 {a0 a1 a2 a3 a4 a5 a6 a7 a8 a9 a10 : Option V} {x : Option V} {σ : L2.St} {k : K0} (h : k (a0 :: a1 :: a2 :: a3 :: a4 :: a5 :: a6 :: a7 :: a8 :: a9 :: a10 :: none :: σ) H) : gDel 11 (a0 :: a1 :: a2 :: a3 :: a4 :: a5 :: a6 :: a7 :: a8 :: a9 :: a10 :: x :: σ) H k := h
theorem x_ml11 {a0 a1 a2 a3 a4 a5 a6 a7 a8 a9 a10 : Option V} {σ : L2.St} (h : tMake C sp [] E tl (a0 :: a1 :: a2 :: a3 :: a4 :: a5 :: a6 :: a7 :: a8 :: a9 :: a10 :: some (.ref C) :: σ) H Q) : eMakeL 11 C sp [] E tl (a0 :: a1 :: a2 :: a3 :: a4 :: a5 :: a6 :: a7 :: a8 :: a9 :: a10 :: some (.ref C) :: σ) H Q := ⟨rfl, h⟩
theorem x_au11 {te : TE} {ti : TIp} {a0 a1 a2 a3 a4 a5 a6 a7 a8 a9 a10 : Option V} {σ : L2.St} (h : te (a0 :: a1 :: a2 :: a3 :: a4 :: a5 :: a6 :: a7 :: a8 :: a9 :: a10 :: some x :: σ) H fun y H1 => ti x y H1 fun z H2 => nx (a0 :: a1 :: a2 :: a3 :: a4 :: a5 :: a6 :: a7 :: a8 :: a9 :: a10 :: some z :: σ) H2) : tAug 11 te ti ⟨nx, rt, bk, ct⟩ (a0 :: a1 :: a2 :: a3 :: a4 :: a5 :: a6 :: a7 :: a8 :: a9 :: a10 :: some x :: σ) H := ⟨x, rfl, h⟩
theorem x_v12 {a0 a1 a2 a3 a4 a5 a6 a7 a8 a9 a10 a11 : Option V} {σ : L2.St} (h : Q v H) : tVar 12 (a0 :: a1 :: a2 :: a3 :: a4 :: a5 :: a6 :: a7 :: a8 :: a9 :: a10 :: a11 :: some v :: σ) H Q := ⟨v, rfl, h⟩
theorem x_g12 {a0 a1 a2 a3 a4 a5 a6 a7 a8 a9 a10 a11 : Option V} {x : Option V} {σ : L2.St} (h : QS (a0 :: a1 :: a2 :: a3 :: a4 :: a5 :: a6 :: a7 :: a8 :: a9 :: a10 :: a11 :: some v :: σ) H) : gName 12 v (a0 :: a1 :: a2 :: a3 :: a4 :: a5 :: a6 :: a7 :: a8 :: a9 :: a10 :: a11 :: x :: σ) H QS := h
theorem x_d12 {a0 a1 a2 a3 a4 a5 a6 a7 a8 a9 a10 a11 : Option V} {x : Option V} {σ : L2.St} {k : K0} (h : k (a0 :: a1 :: a2 :: a3 :: a4 :: a5 :: a6 :: a7 :: a8 :: a9 :: a10 :: a11 :: none :: σ) H) : gDel 12 (a0 :: a1 :: a2 :: a3 :: a4 :: a5 :: a6 :: a7 :: a8 :: a9 :: a10 :: a11 :: x :: σ) H k := h
theorem x_ml12 {a0 a1 a2 a3 a4 a5 a6 a7 a8 a9 a10 a11 : Option V} {σ : L2.St} (h : tMake C sp [] E tl (a0 :: a1 :: a2 :: a3 :: a4 :: a5 :: a6 :: a7 :: a8 :: a9 :: a10 :: a11 :: some (.ref C) :: σ) H Q) : eMakeL 12 C sp [] E tl (a0 :: a1 :: a2 :: a3 :: a4 :: a5 :: a6 :: a7 :: a8 :: a9 :: a10 :: a11 :: some (.ref C) :: σ) H Q := ⟨rfl, h⟩
theorem x_au12 {te : TE} {ti : TIp} {a0 a1 a2 a3 a4 a5 a6 a7 a8 a9 a10 a11 : Option V} {σ : L2.St} (h : te (a0 :: a1 :: a2 :: a3 :: a4 :: a5 :: a6 :: a7 :: a8 :: a9 :: a10 :: a11 :: some x :: σ) H fun y H1 => ti x y H1 fun z H2 => nx (a0 :: a1 :: a2 :: a3 :: a4 :: a5 :: a6 :: a7 :: a8 :: a9 :: a10 :: a11 :: some z :: σ) H2) : tAug 12 te ti ⟨nx, rt, bk, ct⟩ (a0 :: a1 :: a2 :: a3 :: a4 :: a5 :: a6 :: a7 :: a8 :: a9 :: a10 :: a11 :: some x :: σ) H := ⟨x, rfl, h⟩
theorem x_v13 {a0 a1 a2 a3 a4 a5 a6 a7 a8 a9 a10 a11 a12 : Option V} {σ : L2.St} (h : Q v H) : tVar 13 (a0 :: a1 :: a2 :: a3 :: a4 :: a5 :: a6 :: a7 :: a8 :: a9 :: a10 :: a11 :: a12 :: some v :: σ) H Q := ⟨v, rfl, h⟩
theorem x_g13 {a0 a1 a2 a3 a4 a5 a6 a7 a8 a9 a10 a11 a12 : Option V} {x : Option V} {σ : L2.St} (h : QS (a0 :: a1 :: a2 :: a3 :: a4 :: a5 :: a6 :: a7 :: a8 :: a9 :: a10 :: a11 :: a12 :: some v :: σ) H) : gName 13 v (a0 :: a1 :: a2 :: a3 :: a4 :: a5 :: a6 :: a7 :: a8 :: a9 :: a10 :: a11 :: a12 :: x :: σ) H QS := h
theorem x_d13 {a0 a1 a2 a3 a4 a5 a6 a7 a8 a9 a10 a11 a12 : Option V} {x : Option V} {σ : L2.St} {k : K0} (h : k (a0 :: a1 :: a2 :: a3 :: a4 :: a5 :: a6 :: a7 :: a8 :: a9 :: a10 :: a11 :: a12 :: none :: σ) H) : gDel 13 (a0 :: a1 :: a2 :: a3 :: a4 :: a5 :: a6 :: a7 :: a8 :: a9 :: a10 :: a11 :: a12 :: x :: σ) H k := h
theorem x_ml13 {a0 a1 a2 a3 a4 a5 a6 a7 a8 a9 a10 a11 a12 : Option V} {σ : L2.St} (h : tMake C sp [] E tl (a0 :: a1 :: a2 :: a3 :: a4 :: a5 :: a6 :: a7 :: a8 :: a9 :: a10 :: a11 :: a12 :: some (.ref C) :: σ) H Q) : eMakeL 13 C sp [] E tl (a0 :: a1 :: a2 :: a3 :: a4 :: a5 :: a6 :: a7 :: a8 :: a9 :: a10 :: a11 :: a12 :: some (.ref C) :: σ) H Q := ⟨rfl, h⟩
theorem x_au13 {te : TE} {ti : TIp} {a0 a1 a2 a3 a4 a5 a6 a7 a8 a9 a10 a11 a12 : Option V} {σ : L2.St} (h : te (a0 :: a1 :: a2 :: a3 :: a4 :: a5 :: a6 :: a7 :: a8 :: a9 :: a10 :: a11 :: a12 :: some x :: σ) H fun y H1 => ti x y H1 fun z H2 => nx (a0 :: a1 :: a2 :: a3 :: a4 :: a5 :: a6 :: a7 :: a8 :: a9 :: a10 :: a11 :: a12 :: some z :: σ) H2) : tAug 13 te ti ⟨nx, rt, bk, ct⟩ (a0 :: a1 :: a2 :: a3 :: a4 :: a5 :: a6 :: a7 :: a8 :: a9 :: a10 :: a11 :: a12 :: some x :: σ) H := ⟨x, rfl, h⟩
theorem x_v14 {a0 a1 a2 a3 a4 a5 a6 a7 a8 a9 a10 a11 a12 a13 : Option V} {σ : L2.St} (h : Q v H) : tVar 14 (a0 :: a1 :: a2 :: a3 :: a4 :: a5 :: a6 :: a7 :: a8 :: a9 :: a10 :: a11 :: a12 :: a13 :: some v :: σ) H Q := ⟨v, rfl, h⟩
theorem x_g14 {a0 a1 a2 a3 a4 a5 a6 a7 a8 a9 a10 a11 a12 a13 : Option V} {x : Option V} {σ : L2.St} (h : QS (a0 :: a1 :: a2 :: a3 :: a4 :: a5 :: a6 :: a7 :: a8 :: a9 :: a10 :: a11 :: a12 :: a13 :: some v :: σ) H) : gName 14 v (a0 :: a1 :: a2 :: a3 :: a4 :: a5 :: a6 :: a7 :: a8 :: a9 :: a10 :: a11 :: a12 :: a13 :: x :: σ) H QS := h
theorem x_d14 {a0 a1 a2 a3 a4 a5 a6 a7 a8 a9 a10 a11 a12 a13 : Option V} {x : Option V} {σ : L2.St} {k : K0} (h : k (a0 :: a1 :: a2 :: a3 :: a4 :: a5 :: a6 :: a7 :: a8 :: a9 :: a10 :: a11 :: a12 :: a13 :: none :: σ) H) : gDel 14 (a0 :: a1 :: a2 :: a3 :: a4 :: a5 :: a6 :: a7 :: a8 :: a9 :: a10 :: a11 :: a12 :: a13 :: x :: σ) H k := h
theorem x_ml14 {a0 a1 a2 a3 a4 a5 a6 a7 a8 a9 a10 a11 a12 a13 : Option V} {σ : L2.St} (h : tMake C sp [] E tl (a0 :: a1 :: a2 :: a3 :: a4 :: a5 :: a6 :: a7 :: a8 :: a9 :: a10 :: a11 :: a12 :: a13 :: some (.ref C) :: σ) H Q) : eMakeL 14 C sp [] E tl (a0 :: a1 :: a2 :: a3 :: a4 :: a5 :: a6 :: a7 :: a8 :: a9 :: a10 :: a11 :: a12 :: a13 :: some (.ref C) :: σ) H Q := ⟨rfl, h⟩
theorem x_au14 {te : TE} {ti : TIp} {a0 a1 a2 a3 a4 a5 a6 a7 a8 a9 a10 a11 a12 a13 : Option V} {σ : L2.St} (h : te (a0 :: a1 :: a2 :: a3 :: a4 :: a5 :: a6 :: a7 :: a8 :: a9 :: a10 :: a11 :: a12 :: a13 :: some x :: σ) H fun y H1 => ti x y H1 fun z H2 => nx (a0 :: a1 :: a2 :: a3 :: a4 :: a5 :: a6 :: a7 :: a8 :: a9 :: a10 :: a11 :: a12 :: a13 :: some z :: σ) H2) : tAug 14 te ti ⟨nx, rt, bk, ct⟩ (a0 :: a1 :: a2 :: a3 :: a4 :: a5 :: a6 :: a7 :: a8 :: a9 :: a10 :: a11 :: a12 :: a13 :: some x :: σ) H := ⟨x, rfl, h⟩
theorem x_v15 {a0 a1 a2 a3 a4 a5 a6 a7 a8 a9 a10 a11 a12 a13 a14 : Option V} {σ : L2.St} (h : Q v H) : tVar 15 (a0 :: a1 :: a2 :: a3 :: a4 :: a5 :: a6 :: a7 :: a8 :: a9 :: a10 :: a11 :: a12 :: a13 :: a14 :: some v :: σ) H Q := ⟨v, rfl, h⟩
theorem x_g15 {a0 a1 a2 a3 a4 a5 a6 a7 a8 a9 a10 a11 a12 a13 a14 : Option V} {x : Option V} {σ : L2.St} (h : QS (a0 :: a1 :: a2 :: a3 :: a4 :: a5 :: a6 :: a7 :: a8 :: a9 :: a10 :: a11 :: a12 :: a13 :: a14 :: some v :: σ) H) : gName 15 v (a0 :: a1 :: a2 :: a3 :: a4 :: a5 :: a6 :: a7 :: a8 :: a9 :: a10 :: a11 :: a12 :: a13 :: a14 :: x :: σ) H QS := h
theorem x_d15 {a0 a1 a2 a3 a4 a5 a6 a7 a8 a9 a10 a11 a12 a13 a14 : Option V} {x : Option V} {σ : L2.St} {k : K0} (h : k (a0 :: a1 :: a2 :: a3 :: a4 :: a5 :: a6 :: a7 :: a8 :: a9 :: a10 :: a11 :: a12 :: a13 :: a14 :: none :: σ) H) : gDel 15 (a0 :: a1 :: a2 :: a3 :: a4 :: a5 :: a6 :: a7 :: a8 :: a9 :: a10 :: a11 :: a12 :: a13 :: a14 :: x :: σ) H k := h
theorem x_ml15 {a0 a1 a2 a3 a4 a5 a6 a7 a8 a9 a10 a11 a12 a13 a14 : Option V} {σ : L2.St} (h : tMake C sp [] E tl (a0 :: a1 :: a2 :: a3 :: a4 :: a5 :: a6 :: a7 :: a8 :: a9 :: a10 :: a11 :: a12 :: a13 :: a14 :: some (.ref C) :: σ) H Q) : eMakeL 15 C sp [] E tl (a0 :: a1 :: a2 :: a3 :: a4 :: a5 :: a6 :: a7 :: a8 :: a9 :: a10 :: a11 :: a12 :: a13 :: a14 :: some (.ref C) :: σ) H Q := ⟨rfl, h⟩
theorem x_au15 {te : TE} {ti : TIp} {a0 a1 a2 a3 a4 a5 a6 a7 a8 a9 a10 a11 a12 a13 a14 : Option V} {σ : L2.St} (h : te (a0 :: a1 :: a2 :: a3 :: a4 :: a5 :: a6 :: a7 :: a8 :: a9 :: a10 :: a11 :: a12 :: a13 :: a14 :: some x :: σ) H fun y H1 => ti x y H1 fun z H2 => nx (a0 :: a1 :: a2 :: a3 :: a4 :: a5 :: a6 :: a7 :: a8 :: a9 :: a10 :: a11 :: a12 :: a13 :: a14 :: some z :: σ) H2) : tAug 15 te ti ⟨nx, rt, bk, ct⟩ (a0 :: a1 :: a2 :: a3 :: a4 :: a5 :: a6 :: a7 :: a8 :: a9 :: a10 :: a11 :: a12 :: a13 :: a14 :: some x :: σ) H := ⟨x, rfl, h⟩
theorem x_v16 {a0 a1 a2 a3 a4 a5 a6 a7 a8 a9 a10 a11 a12 a13 a14 a15 : Option V} {σ : L2.St} (h : Q v H) : tVar 16 (a0 :: a1 :: a2 :: a3 :: a4 :: a5 :: a6 :: a7 :: a8 :: a9 :: a10 :: a11 :: a12 :: a13 :: a14 :: a15 :: some v :: σ) H Q := ⟨v, rfl, h⟩
theorem x_g16 {a0 a1 a2 a3 a4 a5 a6 a7 a8 a9 a10 a11 a12 a13 a14 a15 : Option V} {x : Option V} {σ : L2.St} (h : QS (a0 :: a1 :: a2 :: a3 :: a4 :: a5 :: a6 :: a7 :: a8 :: a9 :: a10 :: a11 :: a12 :: a13 :: a14 :: a15 :: some v :: σ) H) : gName 16 v (a0 :: a1 :: a2 :: a3 :: a4 :: a5 :: a6 :: a7 :: a8 :: a9 :: a10 :: a11 :: a12 :: a13 :: a14 :: a15 :: x :: σ) H QS := h
theorem x_d16 {a0 a1 a2 a3 a4 a5 a6 a7 a8 a9 a10 a11 a12 a13 a14 a15 : Option V} {x : Option V} {σ : L2.St} {k : K0} (h : k (a0 :: a1 :: a2 :: a3 :: a4 :: a5 :: a6 :: a7 :: a8 :: a9 :: a10 :: a11 :: a12 :: a13 :: a14 :: a15 :: none :: σ) H) : gDel 16 (a0 :: a1 :: a2 :: a3 :: a4 :: a5 :: a6 :: a7 :: a8 :: a9 :: a10 :: a11 :: a12 :: a13 :: a14 :: a15 :: x :: σ) H k := h
theorem x_ml16 {a0 a1 a2 a3 a4 a5 a6 a7 a8 a9 a10 a11 a12 a13 a14 a15 : Option V} {σ : L2.St} (h : tMake C sp [] E tl (a0 :: a1 :: a2 :: a3 :: a4 :: a5 :: a6 :: a7 :: a8 :: a9 :: a10 :: a11 :: a12 :: a13 :: a14 :: a15 :: some (.ref C) :: σ) H Q) : eMakeL 16 C sp [] E tl (a0 :: a1 :: a2 :: a3 :: a4 :: a5 :: a6 :: a7 :: a8 :: a9 :: a10 :: a11 :: a12 :: a13 :: a14 :: a15 :: some (.ref C) :: σ) H Q := ⟨rfl, h⟩
theorem x_au16 {te : TE} {ti : TIp} {a0 a1 a2 a3 a4 a5 a6 a7 a8 a9 a10 a11 a12 a13 a14 a15 : Option V} {σ : L2.St} (h : te (a0 :: a1 :: a2 :: a3 :: a4 :: a5 :: a6 :: a7 :: a8 :: a9 :: a10 :: a11 :: a12 :: a13 :: a14 :: a15 :: some x :: σ) H fun y H1 => ti x y H1 fun z H2 => nx (a0 :: a1 :: a2 :: a3 :: a4 :: a5 :: a6 :: a7 :: a8 :: a9 :: a10 :: a11 :: a12 :: a13 :: a14 :: a15 :: some z :: σ) H2) : tAug 16 te ti ⟨nx, rt, bk, ct⟩ (a0 :: a1 :: a2 :: a3 :: a4 :: a5 :: a6 :: a7 :: a8 :: a9 :: a10 :: a11 :: a12 :: a13 :: a14 :: a15 :: some x :: σ) H := ⟨x, rfl, h⟩
theorem x_v17 {a0 a1 a2 a3 a4 a5 a6 a7 a8 a9 a10 a11 a12 a13 a14 a15 a16 : Option V} {σ : L2.St} (h : Q v H) : tVar 17 (a0 :: a1 :: a2 :: a3 :: a4 :: a5 :: a6 :: a7 :: a8 :: a9 :: a10 :: a11 :: a12 :: a13 :: a14 :: a15 :: a16 :: some v :: σ) H Q := ⟨v, rfl, h⟩
theorem x_g17 {a0 a1 a2 a3 a4 a5 a6 a7 a8 a9 a10 a11 a12 a13 a14 a15 a16 : Option V} {x : Option V} {σ : L2.St} (h : QS (a0 :: a1 :: a2 :: a3 :: a4 :: a5 :: a6 :: a7 :: a8 :: a9 :: a10 :: a11 :: a12 :: a13 :: a14 :: a15 :: a16 :: some v :: σ) H) : gName 17 v (a0 :: a1 :: a2 :: a3 :: a4 :: a5 :: a6 :: a7 :: a8 :: a9 :: a10 :: a11 :: a12 :: a13 :: a14 :: a15 :: a16 :: x :: σ) H QS := h
theorem x_d17 {a0 a1 a2 a3 a4 a5 a6 a7 a8 a9 a10 a11 a12 a13 a14 a15 a16 : Option V} {x : Option V} {σ : L2.St} {k : K0} (h : k (a0 :: a1 :: a2 :: a3 :: a4 :: a5 :: a6 :: a7 :: a8 :: a9 :: a10 :: a11 :: a12 :: a13 :: a14 :: a15 :: a16 :: none :: σ) H) : gDel 17 (a0 :: a1 :: a2 :: a3 :: a4 :: a5 :: a6 :: a7 :: a8 :: a9 :: a10 :: a11 :: a12 :: a13 :: a14 :: a15 :: a16 :: x :: σ) H k := h
theorem x_ml17 {a0 a1 a2 a3 a4 a5 a6 a7 a8 a9 a10 a11 a12 a13 a14 a15 a16 : Option V} {σ : L2.St} (h : tMake C sp [] E tl (a0 :: a1 :: a2 :: a3 :: a4 :: a5 :: a6 :: a7 :: a8 :: a9 :: a10 :: a11 :: a12 :: a13 :: a14 :: a15 :: a16 :: some (.ref C) :: σ) H Q) : eMakeL 17 C sp [] E tl (a0 :: a1 :: a2 :: a3 :: a4 :: a5 :: a6 :: a7 :: a8 :: a9 :: a10 :: a11 :: a12 :: a13 :: a14 :: a15 :: a16 :: some (.ref C) :: σ) H Q := ⟨rfl, h⟩
theorem x_au17 {te : TE} {ti : TIp} {a0 a1 a2 a3 a4 a5 a6 a7 a8 a9 a10 a11 a12 a13 a14 a15 a16 : Option V} {σ : L2.St} (h : te (a0 :: a1 :: a2 :: a3 :: a4 :: a5 :: a6 :: a7 :: a8 :: a9 :: a10 :: a11 :: a12 :: a13 :: a14 :: a15 :: a16 :: some x :: σ) H fun y H1 => ti x y H1 fun z H2 => nx (a0 :: a1 :: a2 :: a3 :: a4 :: a5 :: a6 :: a7 :: a8 :: a9 :: a10 :: a11 :: a12 :: a13 :: a14 :: a15 :: a16 :: some z :: σ) H2) : tAug 17 te ti ⟨nx, rt, bk, ct⟩ (a0 :: a1 :: a2 :: a3 :: a4 :: a5 :: a6 :: a7 :: a8 :: a9 :: a10 :: a11 :: a12 :: a13 :: a14 :: a15 :: a16 :: some x :: σ) H := ⟨x, rfl, h⟩
theorem x_v18 {a0 a1 a2 a3 a4 a5 a6 a7 a8 a9 a10 a11 a12 a13 a14 a15 a16 a17 : Option V} {σ : L2.St} (h : Q v H) : tVar 18 (a0 :: a1 :: a2 :: a3 :: a4 :: a5 :: a6 :: a7 :: a8 :: a9 :: a10 :: a11 :: a12 :: a13 :: a14 :: a15 :: a16 :: a17 :: some v :: σ) H Q := ⟨v, rfl, h⟩
theorem x_g18 {a0 a1 a2 a3 a4 a5 a6 a7 a8 a9 a10 a11 a12 a13 a14 a15 a16 a17 : Option V} {x : Option V} {σ : L2.St} (h : QS (a0 :: a1 :: a2 :: a3 :: a4 :: a5 :: a6 :: a7 :: a8 :: a9 :: a10 :: a11 :: a12 :: a13 :: a14 :: a15 :: a16 :: a17 :: some v :: σ) H) : gName 18 v (a0 :: a1 :: a2 :: a3 :: a4 :: a5 :: a6 :: a7 :: a8 :: a9 :: a10 :: a11 :: a12 :: a13 :: a14 :: a15 :: a16 :: a17 :: x :: σ) H QS := h
theorem x_d18 {a0 a1 a2 a3 a4 a5 a6 a7 a8 a9 a10 a11 a12 a13 a14 a15 a16 a17 : Option V} {x : Option V} {σ : L2.St} {k : K0} (h : k (a0 :: a1 :: a2 :: a3 :: a4 :: a5 :: a6 :: a7 :: a8 :: a9 :: a10 :: a11 :: a12 :: a13 :: a14 :: a15 :: a16 :: a17 :: none :: σ) H) : gDel 18 (a0 :: a1 :: a2 :: a3 :: a4 :: a5 :: a6 :: a7 :: a8 :: a9 :: a10 :: a11 :: a12 :: a13 :: a14 :: a15 :: a16 :: a17 :: x :: σ) H k := h
theorem x_ml18 {a0 a1 a2 a3 a4 a5 a6 a7 a8 a9 a10 a11 a12 a13 a14 a15 a16 a17 : Option V} {σ : L2.St} (h : tMake C sp [] E tl (a0 :: a1 :: a2 :: a3 :: a4 :: a5 :: a6 :: a7 :: a8 :: a9 :: a10 :: a11 :: a12 :: a13 :: a14 :: a15 :: a16 :: a17 :: some (.ref C) :: σ) H Q) : eMakeL 18 C sp [] E tl (a0 :: a1 :: a2 :: a3 :: a4 :: a5 :: a6 :: a7 :: a8 :: a9 :: a10 :: a11 :: a12 :: a13 :: a14 :: a15 :: a16 :: a17 :: some (.ref C) :: σ) H Q := ⟨rfl, h⟩
theorem x_au18 {te : TE} {ti : TIp} {a0 a1 a2 a3 a4 a5 a6 a7 a8 a9 a10 a11 a12 a13 a14 a15 a16 a17 : Option V} {σ : L2.St} (h : te (a0 :: a1 :: a2 :: a3 :: a4 :: a5 :: a6 :: a7 :: a8 :: a9 :: a10 :: a11 :: a12 :: a13 :: a14 :: a15 :: a16 :: a17 :: some x :: σ) H fun y H1 => ti x y H1 fun z H2 => nx (a0 :: a1 :: a2 :: a3 :: a4 :: a5 :: a6 :: a7 :: a8 :: a9 :: a10 :: a11 :: a12 :: a13 :: a14 :: a15 :: a16 :: a17 :: some z :: σ) H2) : tAug 18 te ti ⟨nx, rt, bk, ct⟩ (a0 :: a1 :: a2 :: a3 :: a4 :: a5 :: a6 :: a7 :: a8 :: a9 :: a10 :: a11 :: a12 :: a13 :: a14 :: a15 :: a16 :: a17 :: some x :: σ) H := ⟨x, rfl, h⟩
theorem x_v19 {a0 a1 a2 a3 a4 a5 a6 a7 a8 a9 a10 a11 a12 a13 a14 a15 a16 a17 a18 : Option V} {σ : L2.St} (h : Q v H) : tVar 19 (a0 :: a1 :: a2 :: a3 :: a4 :: a5 :: a6 :: a7 :: a8 :: a9 :: a10 :: a11 :: a12 :: a13 :: a14 :: a15 :: a16 :: a17 :: a18 :: some v :: σ) H Q := ⟨v, rfl, h⟩
theorem x_g19 {a0 a1 a2 a3 a4 a5 a6 a7 a8 a9 a10 a11 a12 a13 a14 a15 a16 a17 a18 : Option V} {x : Option V} {σ : L2.St} (h : QS (a0 :: a1 :: a2 :: a3 :: a4 :: a5 :: a6 :: a7 :: a8 :: a9 :: a10 :: a11 :: a12 :: a13 :: a14 :: a15 :: a16 :: a17 :: a18 :: some v :: σ) H) : gName 19 v (a0 :: a1 :: a2 :: a3 :: a4 :: a5 :: a6 :: a7 :: a8 :: a9 :: a10 :: a11 :: a12 :: a13 :: a14 :: a15 :: a16 :: a17 :: a18 :: x :: σ) H QS := h
theorem x_d19 {a0 a1 a2 a3 a4 a5 a6 a7 a8 a9 a10 a11 a12 a13 a14 a15 a16 a17 a18 : Option V} {x : Option V} {σ : L2.St} {k : K0} (h : k (a0 :: a1 :: a2 :: a3 :: a4 :: a5 :: a6 :: a7 :: a8 :: a9 :: a10 :: a11 :: a12 :: a13 :: a14 :: a15 :: a16 :: a17 :: a18 :: none :: σ) H) : gDel 19 (a0 :: a1 :: a2 :: a3 :: a4 :: a5 :: a6 :: a7 :: a8 :: a9 :: a10 :: a11 :: a12 :: a13 :: a14 :: a15 :: a16 :: a17 :: a18 :: x :: σ) H k := h
theorem x_ml19 {a0 a1 a2 a3 a4 a5 a6 a7 a8 a9 a10 a11 a12 a13 a14 a15 a16 a17 a18 : Option V} {σ : L2.St} (h : tMake C sp [] E tl (a0 :: a1 :: a2 :: a3 :: a4 :: a5 :: a6 :: a7 :: a8 :: a9 :: a10 :: a11 :: a12 :: a13 :: a14 :: a15 :: a16 :: a17 :: a18 :: some (.ref C) :: σ) H Q) : eMakeL 19 C sp [] E tl (a0 :: a1 :: a2 :: a3 :: a4 :: a5 :: a6 :: a7 :: a8 :: a9 :: a10 :: a11 :: a12 :: a13 :: a14 :: a15 :: a16 :: a17 :: a18 :: some (.ref C) :: σ) H Q := ⟨rfl, h⟩
theorem x_au19 {te : TE} {ti : TIp} {a0 a1 a2 a3 a4 a5 a6 a7 a8 a9 a10 a11 a12 a13 a14 a15 a16 a17 a18 : Option V} {σ : L2.St} (h : te (a0 :: a1 :: a2 :: a3 :: a4 :: a5 :: a6 :: a7 :: a8 :: a9 :: a10 :: a11 :: a12 :: a13 :: a14 :: a15 :: a16 :: a17 :: a18 :: some x :: σ) H fun y H1 => ti x y H1 fun z H2 => nx (a0 :: a1 :: a2 :: a3 :: a4 :: a5 :: a6 :: a7 :: a8 :: a9 :: a10 :: a11 :: a12 :: a13 :: a14 :: a15 :: a16 :: a17 :: a18 :: some z :: σ) H2) : tAug 19 te ti ⟨nx, rt, bk, ct⟩ (a0 :: a1 :: a2 :: a3 :: a4 :: a5 :: a6 :: a7 :: a8 :: a9 :: a10 :: a11 :: a12 :: a13 :: a14 :: a15 :: a16 :: a17 :: a18 :: some x :: σ) H := ⟨x, rfl, h⟩
theorem x_v20 {a0 a1 a2 a3 a4 a5 a6 a7 a8 a9 a10 a11 a12 a13 a14 a15 a16 a17 a18 a19 : Option V} {σ : L2.St} (h : Q v H) : tVar 20 (a0 :: a1 :: a2 :: a3 :: a4 :: a5 :: a6 :: a7 :: a8 :: a9 :: a10 :: a11 :: a12 :: a13 :: a14 :: a15 :: a16 :: a17 :: a18 :: a19 :: some v :: σ) H Q := ⟨v, rfl, h⟩
theorem x_g20 {a0 a1 a2 a3 a4 a5 a6 a7 a8 a9 a10 a11 a12 a13 a14 a15 a16 a17 a18 a19 : Option V} {x : Option V} {σ : L2.St} (h : QS (a0 :: a1 :: a2 :: a3 :: a4 :: a5 :: a6 :: a7 :: a8 :: a9 :: a10 :: a11 :: a12 :: a13 :: a14 :: a15 :: a16 :: a17 :: a18 :: a19 :: some v :: σ) H) : gName 20 v (a0 :: a1 :: a2 :: a3 :: a4 :: a5 :: a6 :: a7 :: a8 :: a9 :: a10 :: a11 :: a12 :: a13 :: a14 :: a15 :: a16 :: a17 :: a18 :: a19 :: x :: σ) H QS := h
theorem x_d20 {a0 a1 a2 a3 a4 a5 a6 a7 a8 a9 a10 a11 a12 a13 a14 a15 a16 a17 a18 a19 : Option V} {x : Option V} {σ : L2.St} {k : K0} (h : k (a0 :: a1 :: a2 :: a3 :: a4 :: a5 :: a6 :: a7 :: a8 :: a9 :: a10 :: a11 :: a12 :: a13 :: a14 :: a15 :: a16 :: a17 :: a18 :: a19 :: none :: σ) H) : gDel 20 (a0 :: a1 :: a2 :: a3 :: a4 :: a5 :: a6 :: a7 :: a8 :: a9 :: a10 :: a11 :: a12 :: a13 :: a14 :: a15 :: a16 :: a17 :: a18 :: a19 :: x :: σ) H k := h
theorem x_ml20 {a0 a1 a2 a3 a4 a5 a6 a7 a8 a9 a10 a11 a12 a13 a14 a15 a16 a17 a18 a19 : Option V} {σ : L2.St} (h : tMake C sp [] E tl (a0 :: a1 :: a2 :: a3 :: a4 :: a5 :: a6 :: a7 :: a8 :: a9 :: a10 :: a11 :: a12 :: a13 :: a14 :: a15 :: a16 :: a17 :: a18 :: a19 :: some (.ref C) :: σ) H Q) : eMakeL 20 C sp [] E tl (a0 :: a1 :: a2 :: a3 :: a4 :: a5 :: a6 :: a7 :: a8 :: a9 :: a10 :: a11 :: a12 :: a13 :: a14 :: a15 :: a16 :: a17 :: a18 :: a19 :: some (.ref C) :: σ) H Q := ⟨rfl, h⟩
theorem x_au20 {te : TE} {ti : TIp} {a0 a1 a2 a3 a4 a5 a6 a7 a8 a9 a10 a11 a12 a13 a14 a15 a16 a17 a18 a19 : Option V} {σ : L2.St} (h : te (a0 :: a1 :: a2 :: a3 :: a4 :: a5 :: a6 :: a7 :: a8 :: a9 :: a10 :: a11 :: a12 :: a13 :: a14 :: a15 :: a16 :: a17 :: a18 :: a19 :: some x :: σ) H fun y H1 => ti x y H1 fun z H2 => nx (a0 :: a1 :: a2 :: a3 :: a4 :: a5 :: a6 :: a7 :: a8 :: a9 :: a10 :: a11 :: a12 :: a13 :: a14 :: a15 :: a16 :: a17 :: a18 :: a19 :: some z :: σ) H2) : tAug 20 te ti ⟨nx, rt, bk, ct⟩ (a0 :: a1 :: a2 :: a3 :: a4 :: a5 :: a6 :: a7 :: a8 :: a9 :: a10 :: a11 :: a12 :: a13 :: a14 :: a15 :: a16 :: a17 :: a18 :: a19 :: some x :: σ) H := ⟨x, rfl, h⟩
theorem x_v21 {a0 a1 a2 a3 a4 a5 a6 a7 a8 a9 a10 a11 a12 a13 a14 a15 a16 a17 a18 a19 a20 : Option V} {σ : L2.St} (h : Q v H) : tVar 21 (a0 :: a1 :: a2 :: a3 :: a4 :: a5 :: a6 :: a7 :: a8 :: a9 :: a10 :: a11 :: a12 :: a13 :: a14 :: a15 :: a16 :: a17 :: a18 :: a19 :: a20 :: some v :: σ) H Q := ⟨v, rfl, h⟩
theorem x_g21 {a0 a1 a2 a3 a4 a5 a6 a7 a8 a9 a10 a11 a12 a13 a14 a15 a16 a17 a18 a19 a20 : Option V} {x : Option V} {σ : L2.St} (h : QS (a0 :: a1 :: a2 :: a3 :: a4 :: a5 :: a6 :: a7 :: a8 :: a9 :: a10 :: a11 :: a12 :: a13 :: a14 :: a15 :: a16 :: a17 :: a18 :: a19 :: a20 :: some v :: σ) H) : gName 21 v (a0 :: a1 :: a2 :: a3 :: a4 :: a5 :: a6 :: a7 :: a8 :: a9 :: a10 :: a11 :: a12 :: a13 :: a14 :: a15 :: a16 :: a17 :: a18 :: a19 :: a20 :: x :: σ) H QS := h
theorem x_d21 {a0 a1 a2 a3 a4 a5 a6 a7 a8 a9 a10 a11 a12 a13 a14 a15 a16 a17 a18 a19 a20 : Option V} {x : Option V} {σ : L2.St} {k : K0} (h : k (a0 :: a1 :: a2 :: a3 :: a4 :: a5 :: a6 :: a7 :: a8 :: a9 :: a10 :: a11 :: a12 :: a13 :: a14 :: a15 :: a16 :: a17 :: a18 :: a19 :: a20 :: none :: σ) H) : gDel 21 (a0 :: a1 :: a2 :: a3 :: a4 :: a5 :: a6 :: a7 :: a8 :: a9 :: a10 :: a11 :: a12 :: a13 :: a14 :: a15 :: a16 :: a17 :: a18 :: a19 :: a20 :: x :: σ) H k := h
theorem x_ml21 {a0 a1 a2 a3 a4 a5 a6 a7 a8 a9 a10 a11 a12 a13 a14 a15 a16 a17 a18 a19 a20 : Option V} {σ : L2.St} (h : tMake C sp [] E tl (a0 :: a1 :: a2 :: a3 :: a4 :: a5 :: a6 :: a7 :: a8 :: a9 :: a10 :: a11 :: a12 :: a13 :: a14 :: a15 :: a16 :: a17 :: a18 :: a19 :: a20 :: some (.ref C) :: σ) H Q) : eMakeL 21 C sp [] E tl (a0 :: a1 :: a2 :: a3 :: a4 :: a5 :: a6 :: a7 :: a8 :: a9 :: a10 :: a11 :: a12 :: a13 :: a14 :: a15 :: a16 :: a17 :: a18 :: a19 :: a20 :: some (.ref C) :: σ) H Q := ⟨rfl, h⟩
theorem x_au21 {te : TE} {ti : TIp} {a0 a1 a2 a3 a4 a5 a6 a7 a8 a9 a10 a11 a12 a13 a14 a15 a16 a17 a18 a19 a20 : Option V} {σ : L2.St} (h : te (a0 :: a1 :: a2 :: a3 :: a4 :: a5 :: a6 :: a7 :: a8 :: a9 :: a10 :: a11 :: a12 :: a13 :: a14 :: a15 :: a16 :: a17 :: a18 :: a19 :: a20 :: some x :: σ) H fun y H1 => ti x y H1 fun z H2 => nx (a0 :: a1 :: a2 :: a3 :: a4 :: a5 :: a6 :: a7 :: a8 :: a9 :: a10 :: a11 :: a12 :: a13 :: a14 :: a15 :: a16 :: a17 :: a18 :: a19 :: a20 :: some z :: σ) H2) : tAug 21 te ti ⟨nx, rt, bk, ct⟩ (a0 :: a1 :: a2 :: a3 :: a4 :: a5 :: a6 :: a7 :: a8 :: a9 :: a10 :: a11 :: a12 :: a13 :: a14 :: a15 :: a16 :: a17 :: a18 :: a19 :: a20 :: some x :: σ) H := ⟨x, rfl, h⟩
theorem x_v22 {a0 a1 a2 a3 a4 a5 a6 a7 a8 a9 a10 a11 a12 a13 a14 a15 a16 a17 a18 a19 a20 a21 : Option V} {σ : L2.St} (h : Q v H) : tVar 22 (a0 :: a1 :: a2 :: a3 :: a4 :: a5 :: a6 :: a7 :: a8 :: a9 :: a10 :: a11 :: a12 :: a13 :: a14 :: a15 :: a16 :: a17 :: a18 :: a19 :: a20 :: a21 :: some v :: σ) H Q := ⟨v, rfl, h⟩
theorem x_g22 {a0 a1 a2 a3 a4 a5 a6 a7 a8 a9 a10 a11 a12 a13 a14 a15 a16 a17 a18 a19 a20 a21 : Option V} {x : Option V} {σ : L2.St} (h : QS (a0 :: a1 :: a2 :: a3 :: a4 :: a5 :: a6 :: a7 :: a8 :: a9 :: a10 :: a11 :: a12 :: a13 :: a14 :: a15 :: a16 :: a17 :: a18 :: a19 :: a20 :: a21 :: some v :: σ) H) : gName 22 v (a0 :: a1 :: a2 :: a3 :: a4 :: a5 :: a6 :: a7 :: a8 :: a9 :: a10 :: a11 :: a12 :: a13 :: a14 :: a15 :: a16 :: a17 :: a18 :: a19 :: a20 :: a21 :: x :: σ) H QS := h
theorem x_d22 {a0 a1 a2 a3 a4 a5 a6 a7 a8 a9 a10 a11 a12 a13 a14 a15 a16 a17 a18 a19 a20 a21 : Option V} {x : Option V} {σ : L2.St} {k : K0} (h : k (a0 :: a1 :: a2 :: a3 :: a4 :: a5 :: a6 :: a7 :: a8 :: a9 :: a10 :: a11 :: a12 :: a13 :: a14 :: a15 :: a16 :: a17 :: a18 :: a19 :: a20 :: a21 :: none :: σ) H) : gDel 22 (a0 :: a1 :: a2 :: a3 :: a4 :: a5 :: a6 :: a7 :: a8 :: a9 :: a10 :: a11 :: a12 :: a13 :: a14 :: a15 :: a16 :: a17 :: a18 :: a19 :: a20 :: a21 :: x :: σ) H k := h
theorem x_ml22 {a0 a1 a2 a3 a4 a5 a6 a7 a8 a9 a10 a11 a12 a13 a14 a15 a16 a17 a18 a19 a20 a21 : Option V} {σ : L2.St} (h : tMake C sp [] E tl (a0 :: a1 :: a2 :: a3 :: a4 :: a5 :: a6 :: a7 :: a8 :: a9 :: a10 :: a11 :: a12 :: a13 :: a14 :: a15 :: a16 :: a17 :: a18 :: a19 :: a20 :: a21 :: some (.ref C) :: σ) H Q) : eMakeL 22 C sp [] E tl (a0 :: a1 :: a2 :: a3 :: a4 :: a5 :: a6 :: a7 :: a8 :: a9 :: a10 :: a11 :: a12 :: a13 :: a14 :: a15 :: a16 :: a17 :: a18 :: a19 :: a20 :: a21 :: some (.ref C) :: σ) H Q := ⟨rfl, h⟩
theorem x_au22 {te : TE} {ti : TIp} {a0 a1 a2 a3 a4 a5 a6 a7 a8 a9 a10 a11 a12 a13 a14 a15 a16 a17 a18 a19 a20 a21 : Option V} {σ : L2.St} (h : te (a0 :: a1 :: a2 :: a3 :: a4 :: a5 :: a6 :: a7 :: a8 :: a9 :: a10 :: a11 :: a12 :: a13 :: a14 :: a15 :: a16 :: a17 :: a18 :: a19 :: a20 :: a21 :: some x :: σ) H fun y H1 => ti x y H1 fun z H2 => nx (a0 :: a1 :: a2 :: a3 :: a4 :: a5 :: a6 :: a7 :: a8 :: a9 :: a10 :: a11 :: a12 :: a13 :: a14 :: a15 :: a16 :: a17 :: a18 :: a19 :: a20 :: a21 :: some z :: σ) H2) : tAug 22 te ti ⟨nx, rt, bk, ct⟩ (a0 :: a1 :: a2 :: a3 :: a4 :: a5 :: a6 :: a7 :: a8 :: a9 :: a10 :: a11 :: a12 :: a13 :: a14 :: a15 :: a16 :: a17 :: a18 :: a19 :: a20 :: a21 :: some x :: σ) H := ⟨x, rfl, h⟩
theorem x_v23 {a0 a1 a2 a3 a4 a5 a6 a7 a8 a9 a10 a11 a12 a13 a14 a15 a16 a17 a18 a19 a20 a21 a22 : Option V} {σ : L2.St} (h : Q v H) : tVar 23 (a0 :: a1 :: a2 :: a3 :: a4 :: a5 :: a6 :: a7 :: a8 :: a9 :: a10 :: a11 :: a12 :: a13 :: a14 :: a15 :: a16 :: a17 :: a18 :: a19 :: a20 :: a21 :: a22 :: some v :: σ) H Q := ⟨v, rfl, h⟩
theorem x_g23 {a0 a1 a2 a3 a4 a5 a6 a7 a8 a9 a10 a11 a12 a13 a14 a15 a16 a17 a18 a19 a20 a21 a22 : Option V} {x : Option V} {σ : L2.St} (h : QS (a0 :: a1 :: a2 :: a3 :: a4 :: a5 :: a6 :: a7 :: a8 :: a9 :: a10 :: a11 :: a12 :: a13 :: a14 :: a15 :: a16 :: a17 :: a18 :: a19 :: a20 :: a21 :: a22 :: some v :: σ) H) : gName 23 v (a0 :: a1 :: a2 :: a3 :: a4 :: a5 :: a6 :: a7 :: a8 :: a9 :: a10 :: a11 :: a12 :: a13 :: a14 :: a15 :: a16 :: a17 :: a18 :: a19 :: a20 :: a21 :: a22 :: x :: σ) H QS := h
theorem x_d23 {a0 a1 a2 a3 a4 a5 a6 a7 a8 a9 a10 a11 a12 a13 a14 a15 a16 a17 a18 a19 a20 a21 a22 : Option V} {x : Option V} {σ : L2.St} {k : K0} (h : k (a0 :: a1 :: a2 :: a3 :: a4 :: a5 :: a6 :: a7 :: a8 :: a9 :: a10 :: a11 :: a12 :: a13 :: a14 :: a15 :: a16 :: a17 :: a18 :: a19 :: a20 :: a21 :: a22 :: none :: σ) H) : gDel 23 (a0 :: a1 :: a2 :: a3 :: a4 :: a5 :: a6 :: a7 :: a8 :: a9 :: a10 :: a11 :: a12 :: a13 :: a14 :: a15 :: a16 :: a17 :: a18 :: a19 :: a20 :: a21 :: a22 :: x :: σ) H k := h
theorem x_ml23 {a0 a1 a2 a3 a4 a5 a6 a7 a8 a9 a10 a11 a12 a13 a14 a15 a16 a17 a18 a19 a20 a21 a22 : Option V} {σ : L2.St} (h : tMake C sp [] E tl (a0 :: a1 :: a2 :: a3 :: a4 :: a5 :: a6 :: a7 :: a8 :: a9 :: a10 :: a11 :: a12 :: a13 :: a14 :: a15 :: a16 :: a17 :: a18 :: a19 :: a20 :: a21 :: a22 :: some (.ref C) :: σ) H Q) : eMakeL 23 C sp [] E tl (a0 :: a1 :: a2 :: a3 :: a4 :: a5 :: a6 :: a7 :: a8 :: a9 :: a10 :: a11 :: a12 :: a13 :: a14 :: a15 :: a16 :: a17 :: a18 :: a19 :: a20 :: a21 :: a22 :: some (.ref C) :: σ) H Q := ⟨rfl, h⟩
theorem x_au23 {te : TE} {ti : TIp} {a0 a1 a2 a3 a4 a5 a6 a7 a8 a9 a10 a11 a12 a13 a14 a15 a16 a17 a18 a19 a20 a21 a22 : Option V} {σ : L2.St} (h : te (a0 :: a1 :: a2 :: a3 :: a4 :: a5 :: a6 :: a7 :: a8 :: a9 :: a10 :: a11 :: a12 :: a13 :: a14 :: a15 :: a16 :: a17 :: a18 :: a19 :: a20 :: a21 :: a22 :: some x :: σ) H fun y H1 => ti x y H1 fun z H2 => nx (a0 :: a1 :: a2 :: a3 :: a4 :: a5 :: a6 :: a7 :: a8 :: a9 :: a10 :: a11 :: a12 :: a13 :: a14 :: a15 :: a16 :: a17 :: a18 :: a19 :: a20 :: a21 :: a22 :: some z :: σ) H2) : tAug 23 te ti ⟨nx, rt, bk, ct⟩ (a0 :: a1 :: a2 :: a3 :: a4 :: a5 :: a6 :: a7 :: a8 :: a9 :: a10 :: a11 :: a12 :: a13 :: a14 :: a15 :: a16 :: a17 :: a18 :: a19 :: a20 :: a21 :: a22 :: some x :: σ) H := ⟨x, rfl, h⟩
theorem x_setA0 {w : V} {QH : Hp → Prop} (F : FH H L) (m : (p, Is (.lst (w :: xs))) ∈ L) (pu : Put p (Is (.lst (w :: xs))) (Is (.lst (v :: xs))) L L') (h : ∀ H', FH H' L' → QH H') : rSetL (.ref p) (.int 0) v H QH :=
  ⟨p, _, 0, 0, rfl, rfl, F.get m, ixN_b (j := 0) rfl (by simp [Nat.blt_eq, List.length_cons]), h _ (F.put pu trivial)⟩
theorem x_setA1 {b0 : V} {w : V} {QH : Hp → Prop} (F : FH H L) (m : (p, Is (.lst (b0 :: w :: xs))) ∈ L) (pu : Put p (Is (.lst (b0 :: w :: xs))) (Is (.lst (b0 :: v :: xs))) L L') (h : ∀ H', FH H' L' → QH H') : rSetL (.ref p) (.int 1) v H QH :=
  ⟨p, _, 1, 1, rfl, rfl, F.get m, ixN_b (j := 1) rfl (by simp [Nat.blt_eq, List.length_cons]), h _ (F.put pu trivial)⟩
theorem x_setA2 {b0 b1 : V} {w : V} {QH : Hp → Prop} (F : FH H L) (m : (p, Is (.lst (b0 :: b1 :: w :: xs))) ∈ L) (pu : Put p (Is (.lst (b0 :: b1 :: w :: xs))) (Is (.lst (b0 :: b1 :: v :: xs))) L L') (h : ∀ H', FH H' L' → QH H') : rSetL (.ref p) (.int 2) v H QH :=
  ⟨p, _, 2, 2, rfl, rfl, F.get m, ixN_b (j := 2) rfl (by simp [Nat.blt_eq, List.length_cons]), h _ (F.put pu trivial)⟩
theorem x_setA3 {b0 b1 b2 : V} {w : V} {QH : Hp → Prop} (F : FH H L) (m : (p, Is (.lst (b0 :: b1 :: b2 :: w :: xs))) ∈ L) (pu : Put p (Is (.lst (b0 :: b1 :: b2 :: w :: xs))) (Is (.lst (b0 :: b1 :: b2 :: v :: xs))) L L') (h : ∀ H', FH H' L' → QH H') : rSetL (.ref p) (.int 3) v H QH :=
  ⟨p, _, 3, 3, rfl, rfl, F.get m, ixN_b (j := 3) rfl (by simp [Nat.blt_eq, List.length_cons]), h _ (F.put pu trivial)⟩
theorem x_setA4 {b0 b1 b2 b3 : V} {w : V} {QH : Hp → Prop} (F : FH H L) (m : (p, Is (.lst (b0 :: b1 :: b2 :: b3 :: w :: xs))) ∈ L) (pu : Put p (Is (.lst (b0 :: b1 :: b2 :: b3 :: w :: xs))) (Is (.lst (b0 :: b1 :: b2 :: b3 :: v :: xs))) L L') (h : ∀ H', FH H' L' → QH H') : rSetL (.ref p) (.int 4) v H QH :=
  ⟨p, _, 4, 4, rfl, rfl, F.get m, ixN_b (j := 4) rfl (by simp [Nat.blt_eq, List.length_cons]), h _ (F.put pu trivial)⟩
theorem x_setA5 {b0 b1 b2 b3 b4 : V} {w : V} {QH : Hp → Prop} (F : FH H L) (m : (p, Is (.lst (b0 :: b1 :: b2 :: b3 :: b4 :: w :: xs))) ∈ L) (pu : Put p (Is (.lst (b0 :: b1 :: b2 :: b3 :: b4 :: w :: xs))) (Is (.lst (b0 :: b1 :: b2 :: b3 :: b4 :: v :: xs))) L L') (h : ∀ H', FH H' L' → QH H') : rSetL (.ref p) (.int 5) v H QH :=
  ⟨p, _, 5, 5, rfl, rfl, F.get m, ixN_b (j := 5) rfl (by simp [Nat.blt_eq, List.length_cons]), h _ (F.put pu trivial)⟩
theorem x_setA6 {b0 b1 b2 b3 b4 b5 : V} {w : V} {QH : Hp → Prop} (F : FH H L) (m : (p, Is (.lst (b0 :: b1 :: b2 :: b3 :: b4 :: b5 :: w :: xs))) ∈ L) (pu : Put p (Is (.lst (b0 :: b1 :: b2 :: b3 :: b4 :: b5 :: w :: xs))) (Is (.lst (b0 :: b1 :: b2 :: b3 :: b4 :: b5 :: v :: xs))) L L') (h : ∀ H', FH H' L' → QH H') : rSetL (.ref p) (.int 6) v H QH :=
  ⟨p, _, 6, 6, rfl, rfl, F.get m, ixN_b (j := 6) rfl (by simp [Nat.blt_eq, List.length_cons]), h _ (F.put pu trivial)⟩
theorem x_setA7 {b0 b1 b2 b3 b4 b5 b6 : V} {w : V} {QH : Hp → Prop} (F : FH H L) (m : (p, Is (.lst (b0 :: b1 :: b2 :: b3 :: b4 :: b5 :: b6 :: w :: xs))) ∈ L) (pu : Put p (Is (.lst (b0 :: b1 :: b2 :: b3 :: b4 :: b5 :: b6 :: w :: xs))) (Is (.lst (b0 :: b1 :: b2 :: b3 :: b4 :: b5 :: b6 :: v :: xs))) L L') (h : ∀ H', FH H' L' → QH H') : rSetL (.ref p) (.int 7) v H QH :=
  ⟨p, _, 7, 7, rfl, rfl, F.get m, ixN_b (j := 7) rfl (by simp [Nat.blt_eq, List.length_cons]), h _ (F.put pu trivial)⟩
theorem x_setA8 {b0 b1 b2 b3 b4 b5 b6 b7 : V} {w : V} {QH : Hp → Prop} (F : FH H L) (m : (p, Is (.lst (b0 :: b1 :: b2 :: b3 :: b4 :: b5 :: b6 :: b7 :: w :: xs))) ∈ L) (pu : Put p (Is (.lst (b0 :: b1 :: b2 :: b3 :: b4 :: b5 :: b6 :: b7 :: w :: xs))) (Is (.lst (b0 :: b1 :: b2 :: b3 :: b4 :: b5 :: b6 :: b7 :: v :: xs))) L L') (h : ∀ H', FH H' L' → QH H') : rSetL (.ref p) (.int 8) v H QH :=
  ⟨p, _, 8, 8, rfl, rfl, F.get m, ixN_b (j := 8) rfl (by simp [Nat.blt_eq, List.length_cons]), h _ (F.put pu trivial)⟩
theorem x_setA9 {b0 b1 b2 b3 b4 b5 b6 b7 b8 : V} {w : V} {QH : Hp → Prop} (F : FH H L) (m : (p, Is (.lst (b0 :: b1 :: b2 :: b3 :: b4 :: b5 :: b6 :: b7 :: b8 :: w :: xs))) ∈ L) (pu : Put p (Is (.lst (b0 :: b1 :: b2 :: b3 :: b4 :: b5 :: b6 :: b7 :: b8 :: w :: xs))) (Is (.lst (b0 :: b1 :: b2 :: b3 :: b4 :: b5 :: b6 :: b7 :: b8 :: v :: xs))) L L') (h : ∀ H', FH H' L' → QH H') : rSetL (.ref p) (.int 9) v H QH :=
  ⟨p, _, 9, 9, rfl, rfl, F.get m, ixN_b (j := 9) rfl (by simp [Nat.blt_eq, List.length_cons]), h _ (F.put pu trivial)⟩
end
end Y

namespace Y.k16
open PySem PySem.Spec PyProof.Rows L2
/-! ### the readings -/
structure Cl where
  S : Sta
  c_Estimate : Addr
  c_InvalidNumber : Addr
  c_LossError : Addr
  c_InvalidSetting : Addr
def t_bag (a : Cl) (E : XK) : TS :=
  (tSeq (tAsg (eLc a.S (tVar 0) (gName 2) (tTest (tOp rGe (tCB rAbs (tCons (tVar 2) tNil)) (tOp rPow (tC (.int 10)) (tC (.int 18))))) (tCB rAbs (tCons (tVar 2) tNil)) [2]) (gName 1))
    (tSeq (tAsg (eLc a.S (tVar 0) (gName 2) tYes (tOp rMod (tCB rInt (tCons (tVar 2) tNil)) (tC (.int 2147483647))) [2]) (gName 3))
    (tRet (tLst (tCons (tVar 1) (tCons (tVar 3) (tCons (tC (.int 0)) (tCons (tOp rMod (tCB rInt (tCons (tCB (rSum a.S) (tCons (tVar 3) tNil)) tNil)) (tC (.int 2147483629))) tNil))))))))
def sp_bag (a : Cl) : Sp := spB 4 1 (t_bag a)
theorem in_bag {a : Cl} {v0 : V} {H : Hp} {Q : VK} {E : XK} (h : (tSeq (tAsg (eLc a.S (tVar 0) (gName 2) (tTest (tOp rGe (tCB rAbs (tCons (tVar 2) tNil)) (tOp rPow (tC (.int 10)) (tC (.int 18))))) (tCB rAbs (tCons (tVar 2) tNil)) [2]) (gName 1))
    (tSeq (tAsg (eLc a.S (tVar 0) (gName 2) tYes (tOp rMod (tCB rInt (tCons (tVar 2) tNil)) (tC (.int 2147483647))) [2]) (gName 3))
    (tRet (tLst (tCons (tVar 1) (tCons (tVar 3) (tCons (tC (.int 0)) (tCons (tOp rMod (tCB rInt (tCons (tCB (rSum a.S) (tCons (tVar 3) tNil)) tNil)) (tC (.int 2147483629))) tNil)))))))) ⟨fun _ H' => Q .non H', Q, fun _ _ => False, fun _ _ => False⟩ [some v0, none, none, none] H) : sp_bag a [v0] H Q E := ⟨rfl, h⟩
def t_take (a : Cl) (E : XK) : TS :=
  (tSeq (tAsg (tOp rAdd (tOp (rIx a.S) (tVar 0) (tC (.int 2))) (tC (.int 1))) (gSub (tVar 0) (tC (.int 2)) rSetL))
    (tSeq (tIfS (tTest (tOp (rNeP a.S) (tOp (rIx a.S) (tVar 0) (tC (.int 0))) (tLst tNil))) (tSeq (tAsg (tOp (rIx a.S) (tOp (rIx a.S) (tVar 0) (tC (.int 0))) (tC (.int 0))) (gName 2))
    (tSeq (tIfS (tTest (tOp rGe (tVar 2) (tVar 1))) (tAsg (tOp rAdd (tLst (tCons (tOp rFdiv (tVar 2) (tVar 1)) tNil)) (L2.tSl (rSl a.S) (tOp (rIx a.S) (tVar 0) (tC (.int 0))) (tPart (tC (.int 1))) tNoPart)) (gSub (tVar 0) (tC (.int 0)) rSetL)) (tAsg (L2.tSl (rSl a.S) (tOp (rIx a.S) (tVar 0) (tC (.int 0))) (tPart (tC (.int 1))) tNoPart) (gSub (tVar 0) (tC (.int 0)) rSetL)))
    (tRet (tOp rMod (tCB rInt (tCons (tVar 2) tNil)) (tVar 1))))) tNext)
    (tSeq (tIfS (tTest (tOp (rEqP a.S) (tOp (rIx a.S) (tVar 0) (tC (.int 1))) (tLst tNil))) (tRet (tOp rMod (tCB rInt (tCons (tOp (rIx a.S) (tVar 0) (tC (.int 2))) tNil)) (tVar 1))) tNext)
    (tSeq (tAsg (tOp (rIx a.S) (tOp (rIx a.S) (tVar 0) (tC (.int 1))) (tOp rMod (tCB rInt (tCons (tOp (rIx a.S) (tVar 0) (tC (.int 2))) tNil)) (tCB (rLen a.S) (tCons (tOp (rIx a.S) (tVar 0) (tC (.int 1))) tNil)))) (gName 3))
    (tSeq (tAsg (tOp rMod (tCB rInt (tCons (tOp rAdd (tOp rAdd (tOp rAdd (tOp rMul (tVar 3) (tC (.int 48271))) (tOp rMul (tOp (rIx a.S) (tVar 0) (tC (.int 3))) (tC (.int 16807)))) (tOp rMul (tOp (rIx a.S) (tVar 0) (tC (.int 2))) (tC (.int 69621)))) (tC (.int 11))) tNil)) (tC (.int 2147483647))) (gName 4))
    (tSeq (tAsg (tOp rMod (tCB rInt (tCons (tOp rAdd (tOp rAdd (tOp rFdiv (tOp rMul (tVar 4) (tVar 4)) (tC (.int 4096))) (tOp rMul (tVar 4) (tC (.int 40014)))) (tOp rMul (tOp (rIx a.S) (tVar 0) (tC (.int 2))) (tC (.int 271)))) tNil)) (tC (.int 2147483629))) (gName 5))
    (tRet (tOp rMod (tCB rInt (tCons (tOp rFdiv (tOp rAdd (tOp rMul (tVar 4) (tC (.int 2147483629))) (tVar 5)) (tC (.int 32))) tNil)) (tVar 1)))))))))
def sp_take (a : Cl) : Sp := spB 6 2 (t_take a)
theorem in_take {a : Cl} {v0 v1 : V} {H : Hp} {Q : VK} {E : XK} (h : (tSeq (tAsg (tOp rAdd (tOp (rIx a.S) (tVar 0) (tC (.int 2))) (tC (.int 1))) (gSub (tVar 0) (tC (.int 2)) rSetL))
    (tSeq (tIfS (tTest (tOp (rNeP a.S) (tOp (rIx a.S) (tVar 0) (tC (.int 0))) (tLst tNil))) (tSeq (tAsg (tOp (rIx a.S) (tOp (rIx a.S) (tVar 0) (tC (.int 0))) (tC (.int 0))) (gName 2))
    (tSeq (tIfS (tTest (tOp rGe (tVar 2) (tVar 1))) (tAsg (tOp rAdd (tLst (tCons (tOp rFdiv (tVar 2) (tVar 1)) tNil)) (L2.tSl (rSl a.S) (tOp (rIx a.S) (tVar 0) (tC (.int 0))) (tPart (tC (.int 1))) tNoPart)) (gSub (tVar 0) (tC (.int 0)) rSetL)) (tAsg (L2.tSl (rSl a.S) (tOp (rIx a.S) (tVar 0) (tC (.int 0))) (tPart (tC (.int 1))) tNoPart) (gSub (tVar 0) (tC (.int 0)) rSetL)))
    (tRet (tOp rMod (tCB rInt (tCons (tVar 2) tNil)) (tVar 1))))) tNext)
    (tSeq (tIfS (tTest (tOp (rEqP a.S) (tOp (rIx a.S) (tVar 0) (tC (.int 1))) (tLst tNil))) (tRet (tOp rMod (tCB rInt (tCons (tOp (rIx a.S) (tVar 0) (tC (.int 2))) tNil)) (tVar 1))) tNext)
    (tSeq (tAsg (tOp (rIx a.S) (tOp (rIx a.S) (tVar 0) (tC (.int 1))) (tOp rMod (tCB rInt (tCons (tOp (rIx a.S) (tVar 0) (tC (.int 2))) tNil)) (tCB (rLen a.S) (tCons (tOp (rIx a.S) (tVar 0) (tC (.int 1))) tNil)))) (gName 3))
    (tSeq (tAsg (tOp rMod (tCB rInt (tCons (tOp rAdd (tOp rAdd (tOp rAdd (tOp rMul (tVar 3) (tC (.int 48271))) (tOp rMul (tOp (rIx a.S) (tVar 0) (tC (.int 3))) (tC (.int 16807)))) (tOp rMul (tOp (rIx a.S) (tVar 0) (tC (.int 2))) (tC (.int 69621)))) (tC (.int 11))) tNil)) (tC (.int 2147483647))) (gName 4))
    (tSeq (tAsg (tOp rMod (tCB rInt (tCons (tOp rAdd (tOp rAdd (tOp rFdiv (tOp rMul (tVar 4) (tVar 4)) (tC (.int 4096))) (tOp rMul (tVar 4) (tC (.int 40014)))) (tOp rMul (tOp (rIx a.S) (tVar 0) (tC (.int 2))) (tC (.int 271)))) tNil)) (tC (.int 2147483629))) (gName 5))
    (tRet (tOp rMod (tCB rInt (tCons (tOp rFdiv (tOp rAdd (tOp rMul (tVar 4) (tC (.int 2147483629))) (tVar 5)) (tC (.int 32))) tNil)) (tVar 1))))))))) ⟨fun _ H' => Q .non H', Q, fun _ _ => False, fun _ _ => False⟩ [some v0, some v1, none, none, none, none] H) : sp_take a [v0, v1] H Q E := ⟨rfl, h⟩
def t_lesser (a : Cl) (E : XK) : TS :=
  (tSeq (tIfS (tTest (tOp rLt (tVar 0) (tVar 1))) (tRet (tVar 0)) tNext)
    (tRet (tVar 1)))
def sp_lesser (a : Cl) : Sp := spB 2 2 (t_lesser a)
theorem in_lesser {a : Cl} {v0 v1 : V} {H : Hp} {Q : VK} {E : XK} (h : (tSeq (tIfS (tTest (tOp rLt (tVar 0) (tVar 1))) (tRet (tVar 0)) tNext)
    (tRet (tVar 1))) ⟨fun _ H' => Q .non H', Q, fun _ _ => False, fun _ _ => False⟩ [some v0, some v1] H) : sp_lesser a [v0, v1] H Q E := ⟨rfl, h⟩
def t_bounds (a : Cl) (E : XK) : TS :=
  (tSeq (tAsg (tOp rAdd (tC (.int 1)) (tCall (sp_take a) [] E (tCons (tVar 0) (tCons (tC (.int 20)) tNil)))) (gName 1))
    (tSeq (tIfS (tTest (tOp (rEqP a.S) (tCall (sp_take a) [] E (tCons (tVar 0) (tCons (tC (.int 2)) tNil))) (tC (.int 1)))) (tAsg (tOp rAdd (tC (.int 1)) (tCall (sp_take a) [] E (tCons (tVar 0) (tCons (tC (.int 100000)) tNil)))) (gName 1)) tNext)
    (tSeq (tAsg (tCall (sp_take a) [] E (tCons (tVar 0) (tCons (tC (.int 4)) tNil))) (gName 2))
    (tSeq (tAsg (tVar 1) (gName 3))
    (tSeq (tIfS (tTest (tOp (rEqP a.S) (tVar 2) (tC (.int 1)))) (tAsg (tCall (sp_lesser a) [] E (tCons (tC (.int 100000)) (tCons (tOp rAdd (tOp rAdd (tVar 1) (tC (.int 1))) (tCall (sp_take a) [] E (tCons (tVar 0) (tCons (tC (.int 60)) tNil)))) tNil))) (gName 3)) (tIfS (tTest (tOp (rEqP a.S) (tVar 2) (tC (.int 2)))) (tAsg (tC (.int 100000)) (gName 3)) (tIfS (tTest (tOp (rEqP a.S) (tVar 2) (tC (.int 3)))) (tAsg (tOp rAdd (tVar 1) (tCall (sp_take a) [] E (tCons (tVar 0) (tCons (tOp rSub (tC (.int 100001)) (tVar 1)) tNil)))) (gName 3)) tNext)))
    (tRet (tLst (tCons (tVar 1) (tCons (tVar 3) tNil)))))))))
def sp_bounds (a : Cl) : Sp := spB 4 1 (t_bounds a)
theorem in_bounds {a : Cl} {v0 : V} {H : Hp} {Q : VK} {E : XK} (h : (tSeq (tAsg (tOp rAdd (tC (.int 1)) (tCall (sp_take a) [] E (tCons (tVar 0) (tCons (tC (.int 20)) tNil)))) (gName 1))
    (tSeq (tIfS (tTest (tOp (rEqP a.S) (tCall (sp_take a) [] E (tCons (tVar 0) (tCons (tC (.int 2)) tNil))) (tC (.int 1)))) (tAsg (tOp rAdd (tC (.int 1)) (tCall (sp_take a) [] E (tCons (tVar 0) (tCons (tC (.int 100000)) tNil)))) (gName 1)) tNext)
    (tSeq (tAsg (tCall (sp_take a) [] E (tCons (tVar 0) (tCons (tC (.int 4)) tNil))) (gName 2))
    (tSeq (tAsg (tVar 1) (gName 3))
    (tSeq (tIfS (tTest (tOp (rEqP a.S) (tVar 2) (tC (.int 1)))) (tAsg (tCall (sp_lesser a) [] E (tCons (tC (.int 100000)) (tCons (tOp rAdd (tOp rAdd (tVar 1) (tC (.int 1))) (tCall (sp_take a) [] E (tCons (tVar 0) (tCons (tC (.int 60)) tNil)))) tNil))) (gName 3)) (tIfS (tTest (tOp (rEqP a.S) (tVar 2) (tC (.int 2)))) (tAsg (tC (.int 100000)) (gName 3)) (tIfS (tTest (tOp (rEqP a.S) (tVar 2) (tC (.int 3)))) (tAsg (tOp rAdd (tVar 1) (tCall (sp_take a) [] E (tCons (tVar 0) (tCons (tOp rSub (tC (.int 100001)) (tVar 1)) tNil)))) (gName 3)) tNext)))
    (tRet (tLst (tCons (tVar 1) (tCons (tVar 3) tNil))))))))) ⟨fun _ H' => Q .non H', Q, fun _ _ => False, fun _ _ => False⟩ [some v0, none, none, none] H) : sp_bounds a [v0] H Q E := ⟨rfl, h⟩
def t_far (a : Cl) (E : XK) : TS :=
  (tSeq (tAsg (tCall (sp_take a) [] E (tCons (tVar 0) (tCons (tC (.int 3)) tNil))) (gName 1))
    (tRet (tOp rMul (tVar 1) (tCall (sp_take a) [] E (tCons (tVar 0) (tCons (tOp rPow (tC (.int 10)) (tC (.int 9))) tNil))))))
def sp_far (a : Cl) : Sp := spB 2 1 (t_far a)
theorem in_far {a : Cl} {v0 : V} {H : Hp} {Q : VK} {E : XK} (h : (tSeq (tAsg (tCall (sp_take a) [] E (tCons (tVar 0) (tCons (tC (.int 3)) tNil))) (gName 1))
    (tRet (tOp rMul (tVar 1) (tCall (sp_take a) [] E (tCons (tVar 0) (tCons (tOp rPow (tC (.int 10)) (tC (.int 9))) tNil)))))) ⟨fun _ H' => Q .non H', Q, fun _ _ => False, fun _ _ => False⟩ [some v0, none] H) : sp_far a [v0] H Q E := ⟨rfl, h⟩
def t_odd (a : Cl) (E : XK) : TS :=
  (tSeq (tAsg (tCall (sp_take a) [] E (tCons (tVar 0) (tCons (tC (.int 8)) tNil))) (gName 1))
    (tSeq (tIfS (tTest (tOp (rEqP a.S) (tVar 1) (tC (.int 0)))) (tRet (tC .non)) tNext)
    (tSeq (tIfS (tTest (tOp (rEqP a.S) (tVar 1) (tC (.int 1)))) (tRet (tC (.bl true))) tNext)
    (tSeq (tIfS (tTest (tOp (rEqP a.S) (tVar 1) (tC (.int 2)))) (tRet (tC (.bl false))) tNext)
    (tSeq (tIfS (tTest (tOp (rEqP a.S) (tVar 1) (tC (.int 3)))) (tRet (tC (.str ""))) tNext)
    (tSeq (tIfS (tTest (tOp (rEqP a.S) (tVar 1) (tC (.int 4)))) (tRet (tCB rStrI (tCons (tCall (sp_take a) [] E (tCons (tVar 0) (tCons (tC (.int 61)) tNil))) tNil))) tNext)
    (tSeq (tIfS (tTest (tOp (rEqP a.S) (tVar 1) (tC (.int 5)))) (tRet (tTup (tCons (tCall (sp_take a) [] E (tCons (tVar 0) (tCons (tC (.int 61)) tNil))) tNil))) tNext)
    (tSeq (tIfS (tTest (tOp (rEqP a.S) (tVar 1) (tC (.int 6)))) (tRet (tTup tNil)) tNext)
    (tRet (tLst (tCons (tCall (sp_take a) [] E (tCons (tVar 0) (tCons (tC (.int 61)) tNil))) tNil)))))))))))
def sp_odd (a : Cl) : Sp := spB 2 1 (t_odd a)
theorem in_odd {a : Cl} {v0 : V} {H : Hp} {Q : VK} {E : XK} (h : (tSeq (tAsg (tCall (sp_take a) [] E (tCons (tVar 0) (tCons (tC (.int 8)) tNil))) (gName 1))
    (tSeq (tIfS (tTest (tOp (rEqP a.S) (tVar 1) (tC (.int 0)))) (tRet (tC .non)) tNext)
    (tSeq (tIfS (tTest (tOp (rEqP a.S) (tVar 1) (tC (.int 1)))) (tRet (tC (.bl true))) tNext)
    (tSeq (tIfS (tTest (tOp (rEqP a.S) (tVar 1) (tC (.int 2)))) (tRet (tC (.bl false))) tNext)
    (tSeq (tIfS (tTest (tOp (rEqP a.S) (tVar 1) (tC (.int 3)))) (tRet (tC (.str ""))) tNext)
    (tSeq (tIfS (tTest (tOp (rEqP a.S) (tVar 1) (tC (.int 4)))) (tRet (tCB rStrI (tCons (tCall (sp_take a) [] E (tCons (tVar 0) (tCons (tC (.int 61)) tNil))) tNil))) tNext)
    (tSeq (tIfS (tTest (tOp (rEqP a.S) (tVar 1) (tC (.int 5)))) (tRet (tTup (tCons (tCall (sp_take a) [] E (tCons (tVar 0) (tCons (tC (.int 61)) tNil))) tNil))) tNext)
    (tSeq (tIfS (tTest (tOp (rEqP a.S) (tVar 1) (tC (.int 6)))) (tRet (tTup tNil)) tNext)
    (tRet (tLst (tCons (tCall (sp_take a) [] E (tCons (tVar 0) (tCons (tC (.int 61)) tNil))) tNil))))))))))) ⟨fun _ H' => Q .non H', Q, fun _ _ => False, fun _ _ => False⟩ [some v0, none] H) : sp_odd a [v0] H Q E := ⟨rfl, h⟩
def t_bent (a : Cl) (E : XK) : TS :=
  (tSeq (tAsg (tCall (sp_bounds a) [] E (tCons (tVar 0) tNil)) (gName 2))
    (tSeq (tIfS (tOr (tTest (tOp (rEqP a.S) (tVar 1) (tC (.int 0)))) (tTest (tOp (rEqP a.S) (tVar 1) (tC (.int 6))))) (tAsg (tOp rSub (tC (.int 0)) (tCall (sp_far a) [] E (tCons (tVar 0) tNil))) (gSub (tVar 2) (tC (.int 0)) rSetL)) (tIfS (tTest (tOp (rEqP a.S) (tVar 1) (tC (.int 1)))) (tAsg (tOp rAdd (tC (.int 100001)) (tCall (sp_far a) [] E (tCons (tVar 0) tNil))) (gSub (tVar 2) (tC (.int 0)) rSetL)) (tIfS (tOr (tTest (tOp (rEqP a.S) (tVar 1) (tC (.int 2)))) (tTest (tOp (rEqP a.S) (tVar 1) (tC (.int 7))))) (tAsg (tCall (sp_odd a) [] E (tCons (tVar 0) tNil)) (gSub (tVar 2) (tC (.int 0)) rSetL)) (tIfS (tTest (tOp (rEqP a.S) (tVar 1) (tC (.int 3)))) (tAsg (tOp rSub (tOp rSub (tOp (rIx a.S) (tVar 2) (tC (.int 0))) (tC (.int 1))) (tCall (sp_take a) [] E (tCons (tVar 0) (tCons (tOp rAdd (tOp (rIx a.S) (tVar 2) (tC (.int 0))) (tC (.int 20))) tNil)))) (gSub (tVar 2) (tC (.int 1)) rSetL)) tNext))))
    (tSeq (tIfS (tOr (tTest (tOp (rEqP a.S) (tVar 1) (tC (.int 4)))) (tTest (tOp (rEqP a.S) (tVar 1) (tC (.int 6))))) (tAsg (tOp rAdd (tC (.int 100001)) (tCall (sp_far a) [] E (tCons (tVar 0) tNil))) (gSub (tVar 2) (tC (.int 1)) rSetL)) (tIfS (tOr (tTest (tOp (rEqP a.S) (tVar 1) (tC (.int 5)))) (tTest (tOp (rEqP a.S) (tVar 1) (tC (.int 7))))) (tAsg (tCall (sp_odd a) [] E (tCons (tVar 0) tNil)) (gSub (tVar 2) (tC (.int 1)) rSetL)) tNext))
    (tRet (tVar 2)))))
def sp_bent (a : Cl) : Sp := spB 3 2 (t_bent a)
theorem in_bent {a : Cl} {v0 v1 : V} {H : Hp} {Q : VK} {E : XK} (h : (tSeq (tAsg (tCall (sp_bounds a) [] E (tCons (tVar 0) tNil)) (gName 2))
    (tSeq (tIfS (tOr (tTest (tOp (rEqP a.S) (tVar 1) (tC (.int 0)))) (tTest (tOp (rEqP a.S) (tVar 1) (tC (.int 6))))) (tAsg (tOp rSub (tC (.int 0)) (tCall (sp_far a) [] E (tCons (tVar 0) tNil))) (gSub (tVar 2) (tC (.int 0)) rSetL)) (tIfS (tTest (tOp (rEqP a.S) (tVar 1) (tC (.int 1)))) (tAsg (tOp rAdd (tC (.int 100001)) (tCall (sp_far a) [] E (tCons (tVar 0) tNil))) (gSub (tVar 2) (tC (.int 0)) rSetL)) (tIfS (tOr (tTest (tOp (rEqP a.S) (tVar 1) (tC (.int 2)))) (tTest (tOp (rEqP a.S) (tVar 1) (tC (.int 7))))) (tAsg (tCall (sp_odd a) [] E (tCons (tVar 0) tNil)) (gSub (tVar 2) (tC (.int 0)) rSetL)) (tIfS (tTest (tOp (rEqP a.S) (tVar 1) (tC (.int 3)))) (tAsg (tOp rSub (tOp rSub (tOp (rIx a.S) (tVar 2) (tC (.int 0))) (tC (.int 1))) (tCall (sp_take a) [] E (tCons (tVar 0) (tCons (tOp rAdd (tOp (rIx a.S) (tVar 2) (tC (.int 0))) (tC (.int 20))) tNil)))) (gSub (tVar 2) (tC (.int 1)) rSetL)) tNext))))
    (tSeq (tIfS (tOr (tTest (tOp (rEqP a.S) (tVar 1) (tC (.int 4)))) (tTest (tOp (rEqP a.S) (tVar 1) (tC (.int 6))))) (tAsg (tOp rAdd (tC (.int 100001)) (tCall (sp_far a) [] E (tCons (tVar 0) tNil))) (gSub (tVar 2) (tC (.int 1)) rSetL)) (tIfS (tOr (tTest (tOp (rEqP a.S) (tVar 1) (tC (.int 5)))) (tTest (tOp (rEqP a.S) (tVar 1) (tC (.int 7))))) (tAsg (tCall (sp_odd a) [] E (tCons (tVar 0) tNil)) (gSub (tVar 2) (tC (.int 1)) rSetL)) tNext))
    (tRet (tVar 2))))) ⟨fun _ H' => Q .non H', Q, fun _ _ => False, fun _ _ => False⟩ [some v0, some v1, none] H) : sp_bent a [v0, v1] H Q E := ⟨rfl, h⟩
def t_is_whole (a : Cl) (E : XK) : TS :=
  (tRet (tAndV (tCB rIsI (tCons (tVar 0) (tCons (tC (.ty "int")) tNil))) (tNotV (tCB rIsI (tCons (tVar 0) (tCons (tC (.ty "bool")) tNil))))))
def sp_is_whole (a : Cl) : Sp := spB 1 1 (t_is_whole a)
theorem in_is_whole {a : Cl} {v0 : V} {H : Hp} {Q : VK} {E : XK} (h : (tRet (tAndV (tCB rIsI (tCons (tVar 0) (tCons (tC (.ty "int")) tNil))) (tNotV (tCB rIsI (tCons (tVar 0) (tCons (tC (.ty "bool")) tNil)))))) ⟨fun _ H' => Q .non H', Q, fun _ _ => False, fun _ _ => False⟩ [some v0] H) : sp_is_whole a [v0] H Q E := ⟨rfl, h⟩
def t_in_range (a : Cl) (E : XK) : TS :=
  (tRet (tAndV (tCall (sp_is_whole a) [] E (tCons (tVar 0) tNil)) (tChain rLe rLe (tVar 1) (tVar 0) (tVar 2))))
def sp_in_range (a : Cl) : Sp := spB 3 3 (t_in_range a)
theorem in_in_range {a : Cl} {v0 v1 v2 : V} {H : Hp} {Q : VK} {E : XK} (h : (tRet (tAndV (tCall (sp_is_whole a) [] E (tCons (tVar 0) tNil)) (tChain rLe rLe (tVar 1) (tVar 0) (tVar 2)))) ⟨fun _ H' => Q .non H', Q, fun _ _ => False, fun _ _ => False⟩ [some v0, some v1, some v2] H) : sp_in_range a [v0, v1, v2] H Q E := ⟨rfl, h⟩
def t_Estimate___init__ (a : Cl) (E : XK) : TS :=
  (tSeq (tIfS (tNot (tB (tCall (sp_in_range a) [] E (tCons (tVar 1) (tCons (tC (.int 1)) (tCons (tC (.int 100000)) tNil)))))) (sRaise E (tMkC a.c_InvalidSetting ["setting"] (tCons (tC (.str "low")) tNil))) tNext)
    (tSeq (tIfS (tNot (tB (tCall (sp_in_range a) [] E (tCons (tVar 2) (tCons (tVar 1) (tCons (tC (.int 100000)) tNil)))))) (sRaise E (tMkC a.c_InvalidSetting ["setting"] (tCons (tC (.str "high")) tNil))) tNext)
    (tSeq (sSetF a.c_Estimate "low" (tVar 0) (tVar 1))
    (tSeq (sSetF a.c_Estimate "high" (tVar 0) (tVar 2))
    (tSeq (sSetF a.c_Estimate "smooth" (tVar 0) (tC (.int 0)))
    (tSeq (sSetF a.c_Estimate "spread" (tVar 0) (tC (.int 0)))
    (sSetF a.c_Estimate "samples" (tVar 0) (tC (.int 0)))))))))
def sp_Estimate___init__ (a : Cl) : Sp := spB 3 3 (t_Estimate___init__ a)
theorem in_Estimate___init__ {a : Cl} {v0 v1 v2 : V} {H : Hp} {Q : VK} {E : XK} (h : (tSeq (tIfS (tNot (tB (tCall (sp_in_range a) [] E (tCons (tVar 1) (tCons (tC (.int 1)) (tCons (tC (.int 100000)) tNil)))))) (sRaise E (tMkC a.c_InvalidSetting ["setting"] (tCons (tC (.str "low")) tNil))) tNext)
    (tSeq (tIfS (tNot (tB (tCall (sp_in_range a) [] E (tCons (tVar 2) (tCons (tVar 1) (tCons (tC (.int 100000)) tNil)))))) (sRaise E (tMkC a.c_InvalidSetting ["setting"] (tCons (tC (.str "high")) tNil))) tNext)
    (tSeq (sSetF a.c_Estimate "low" (tVar 0) (tVar 1))
    (tSeq (sSetF a.c_Estimate "high" (tVar 0) (tVar 2))
    (tSeq (sSetF a.c_Estimate "smooth" (tVar 0) (tC (.int 0)))
    (tSeq (sSetF a.c_Estimate "spread" (tVar 0) (tC (.int 0)))
    (sSetF a.c_Estimate "samples" (tVar 0) (tC (.int 0))))))))) ⟨fun _ H' => Q .non H', Q, fun _ _ => False, fun _ _ => False⟩ [some v0, some v1, some v2] H) : sp_Estimate___init__ a [v0, v1, v2] H Q E := ⟨rfl, h⟩
def t_Estimate_timeout (a : Cl) (E : XK) : TS :=
  (tSeq (tIfS (tTest (tOp (rEqP a.S) (eFld a.c_Estimate "samples" (tVar 0)) (tC (.int 0)))) (tRet (tCB rMin2 (tCons (eFld a.c_Estimate "high" (tVar 0)) (tCons (tOp rMul (tC (.int 4)) (eFld a.c_Estimate "low" (tVar 0))) tNil)))) tNext)
    (tSeq (tAsg (tOp rAdd (tOp rFdiv (eFld a.c_Estimate "smooth" (tVar 0)) (tC (.int 8))) (tCB rMax2 (tCons (tC (.int 1)) (tCons (eFld a.c_Estimate "spread" (tVar 0)) tNil)))) (gName 1))
    (tRet (tCB rMin2 (tCons (eFld a.c_Estimate "high" (tVar 0)) (tCons (tCB rMax2 (tCons (eFld a.c_Estimate "low" (tVar 0)) (tCons (tVar 1) tNil))) tNil))))))
def sp_Estimate_timeout (a : Cl) : Sp := spB 2 1 (t_Estimate_timeout a)
theorem in_Estimate_timeout {a : Cl} {v0 : V} {H : Hp} {Q : VK} {E : XK} (h : (tSeq (tIfS (tTest (tOp (rEqP a.S) (eFld a.c_Estimate "samples" (tVar 0)) (tC (.int 0)))) (tRet (tCB rMin2 (tCons (eFld a.c_Estimate "high" (tVar 0)) (tCons (tOp rMul (tC (.int 4)) (eFld a.c_Estimate "low" (tVar 0))) tNil)))) tNext)
    (tSeq (tAsg (tOp rAdd (tOp rFdiv (eFld a.c_Estimate "smooth" (tVar 0)) (tC (.int 8))) (tCB rMax2 (tCons (tC (.int 1)) (tCons (eFld a.c_Estimate "spread" (tVar 0)) tNil)))) (gName 1))
    (tRet (tCB rMin2 (tCons (eFld a.c_Estimate "high" (tVar 0)) (tCons (tCB rMax2 (tCons (eFld a.c_Estimate "low" (tVar 0)) (tCons (tVar 1) tNil))) tNil)))))) ⟨fun _ H' => Q .non H', Q, fun _ _ => False, fun _ _ => False⟩ [some v0, none] H) : sp_Estimate_timeout a [v0] H Q E := ⟨rfl, h⟩
def t_made (a : Cl) (E : XK) : TS :=
  (tSeq (sTry [(.ref a.c_InvalidNumber, 0), (.ref a.c_InvalidSetting, 0)] [(some 3, fun b cls d => (tIfS (tAnd (tB (tCB (rIsX [(.ref a.c_InvalidSetting, .ref a.c_InvalidSetting, true), (.ref a.c_InvalidNumber, .ref a.c_InvalidSetting, false)] b cls d) (tCons (tVar 3) (tCons (eCon (.ref a.c_InvalidSetting)) tNil)))) (tAnd (tB (tCB (rIsX [(.ref a.c_InvalidSetting, .ty "ValueError", true), (.ref a.c_InvalidNumber, .ty "ValueError", true)] b cls d) (tCons (tVar 3) (tCons (tC (.ty "ValueError")) tNil)))) (tNot (tB (tCB (rIsX [(.ref a.c_InvalidSetting, .ref a.c_InvalidNumber, false), (.ref a.c_InvalidNumber, .ref a.c_InvalidNumber, true)] b cls d) (tCons (tVar 3) (tCons (eCon (.ref a.c_InvalidNumber)) tNil))))))) (tRet (tTup (tCons (tC (.str "setting")) (tCons (eXf b cls d [a.c_InvalidSetting] "setting" (tVar 3)) tNil)))) tNext))] (fun W => (tSeq (tAsg (tNewS a.c_Estimate (sp_Estimate___init__ a) (WE W) (tCons (tVar 0) (tCons (tVar 1) tNil))) (gName 2))
    (tRet (tTup (tCons (tC (.str "made")) (tCons (tLst (tCons (eFld a.c_Estimate "low" (tVar 2)) (tCons (eFld a.c_Estimate "high" (tVar 2)) (tCons (eFld a.c_Estimate "smooth" (tVar 2)) (tCons (eFld a.c_Estimate "spread" (tVar 2)) (tCons (eFld a.c_Estimate "samples" (tVar 2)) (tCons (eProp a.c_Estimate (sp_Estimate_timeout a) (tVar 2)) tNil))))))) tNil)))))))
    (tRet (tTup (tCons (tC (.str "other")) (tCons (tC .non) tNil)))))
def sp_made (a : Cl) : Sp := spB 4 2 (t_made a)
theorem in_made {a : Cl} {v0 v1 : V} {H : Hp} {Q : VK} {E : XK} (h : (tSeq (sTry [(.ref a.c_InvalidNumber, 0), (.ref a.c_InvalidSetting, 0)] [(some 3, fun b cls d => (tIfS (tAnd (tB (tCB (rIsX [(.ref a.c_InvalidSetting, .ref a.c_InvalidSetting, true), (.ref a.c_InvalidNumber, .ref a.c_InvalidSetting, false)] b cls d) (tCons (tVar 3) (tCons (eCon (.ref a.c_InvalidSetting)) tNil)))) (tAnd (tB (tCB (rIsX [(.ref a.c_InvalidSetting, .ty "ValueError", true), (.ref a.c_InvalidNumber, .ty "ValueError", true)] b cls d) (tCons (tVar 3) (tCons (tC (.ty "ValueError")) tNil)))) (tNot (tB (tCB (rIsX [(.ref a.c_InvalidSetting, .ref a.c_InvalidNumber, false), (.ref a.c_InvalidNumber, .ref a.c_InvalidNumber, true)] b cls d) (tCons (tVar 3) (tCons (eCon (.ref a.c_InvalidNumber)) tNil))))))) (tRet (tTup (tCons (tC (.str "setting")) (tCons (eXf b cls d [a.c_InvalidSetting] "setting" (tVar 3)) tNil)))) tNext))] (fun W => (tSeq (tAsg (tNewS a.c_Estimate (sp_Estimate___init__ a) (WE W) (tCons (tVar 0) (tCons (tVar 1) tNil))) (gName 2))
    (tRet (tTup (tCons (tC (.str "made")) (tCons (tLst (tCons (eFld a.c_Estimate "low" (tVar 2)) (tCons (eFld a.c_Estimate "high" (tVar 2)) (tCons (eFld a.c_Estimate "smooth" (tVar 2)) (tCons (eFld a.c_Estimate "spread" (tVar 2)) (tCons (eFld a.c_Estimate "samples" (tVar 2)) (tCons (eProp a.c_Estimate (sp_Estimate_timeout a) (tVar 2)) tNil))))))) tNil)))))))
    (tRet (tTup (tCons (tC (.str "other")) (tCons (tC .non) tNil))))) ⟨fun _ H' => Q .non H', Q, fun _ _ => False, fun _ _ => False⟩ [some v0, some v1, none, none] H) : sp_made a [v0, v1] H Q E := ⟨rfl, h⟩
def t_whole (a : Cl) (E : XK) : TS :=
  (tRet (tAndV (tCB rIsI (tCons (tVar 0) (tCons (tC (.ty "int")) tNil))) (tNotV (tCB rIsI (tCons (tVar 0) (tCons (tC (.ty "bool")) tNil))))))
def sp_whole (a : Cl) : Sp := spB 1 1 (t_whole a)
theorem in_whole {a : Cl} {v0 : V} {H : Hp} {Q : VK} {E : XK} (h : (tRet (tAndV (tCB rIsI (tCons (tVar 0) (tCons (tC (.ty "int")) tNil))) (tNotV (tCB rIsI (tCons (tVar 0) (tCons (tC (.ty "bool")) tNil)))))) ⟨fun _ H' => Q .non H', Q, fun _ _ => False, fun _ _ => False⟩ [some v0] H) : sp_whole a [v0] H Q E := ⟨rfl, h⟩
def t_new (a : Cl) (E : XK) : TS :=
  (tSeq (tAsg (tCall (sp_bent a) [] E (tCons (tVar 0) (tCons (tVar 1) tNil))) (gName 2))
    (tSeq (tAsg (tC (.str "low")) (gName 3))
    (tSeq (tIfS (tTest (tChain rLe rLe (tC (.int 3)) (tVar 1) (tC (.int 5)))) (tAsg (tC (.str "high")) (gName 3)) tNext)
    (tSeq (tIfS (tTest (tOp (rNeP a.S) (tCall (sp_made a) [] E (tCons (tOp (rIx a.S) (tVar 2) (tC (.int 0))) (tCons (tOp (rIx a.S) (tVar 2) (tC (.int 1))) tNil))) (tTup (tCons (tC (.str "setting")) (tCons (tVar 3) tNil))))) (tRet (tC (.bl false))) tNext)
    (tSeq (tAsg (tCall (sp_bounds a) [] E (tCons (tVar 0) tNil)) (gName 4))
    (tSeq (tAsg (tCall (sp_made a) [] E (tCons (tOp (rIx a.S) (tVar 4) (tC (.int 0))) (tCons (tOp (rIx a.S) (tVar 4) (tC (.int 1))) tNil))) (gName 5))
    (tSeq (tIfS (tOr (tTest (tOp (rNeP a.S) (tOp (rIx a.S) (tVar 5) (tC (.int 0))) (tC (.str "made")))) (tNot (tB (tCB (rAll a.S) (tCons (eLc a.S (tOp (rIx a.S) (tVar 5) (tC (.int 1))) (gName 6) tYes (tCall (sp_whole a) [] E0 (tCons (tVar 6) tNil)) [6]) tNil))))) (tRet (tC (.bl false))) tNext)
    (tRet (tOp (rEqP a.S) (tOp (rIx a.S) (tVar 5) (tC (.int 1))) (tLst (tCons (tOp (rIx a.S) (tVar 4) (tC (.int 0))) (tCons (tOp (rIx a.S) (tVar 4) (tC (.int 1))) (tCons (tC (.int 0)) (tCons (tC (.int 0)) (tCons (tC (.int 0)) (tCons (tCall (sp_lesser a) [] E (tCons (tOp (rIx a.S) (tVar 4) (tC (.int 1))) (tCons (tOp rMul (tC (.int 4)) (tOp (rIx a.S) (tVar 4) (tC (.int 0)))) tNil))) tNil))))))))))))))))
def sp_new (a : Cl) : Sp := spB 7 2 (t_new a)
theorem in_new {a : Cl} {v0 v1 : V} {H : Hp} {Q : VK} {E : XK} (h : (tSeq (tAsg (tCall (sp_bent a) [] E (tCons (tVar 0) (tCons (tVar 1) tNil))) (gName 2))
    (tSeq (tAsg (tC (.str "low")) (gName 3))
    (tSeq (tIfS (tTest (tChain rLe rLe (tC (.int 3)) (tVar 1) (tC (.int 5)))) (tAsg (tC (.str "high")) (gName 3)) tNext)
    (tSeq (tIfS (tTest (tOp (rNeP a.S) (tCall (sp_made a) [] E (tCons (tOp (rIx a.S) (tVar 2) (tC (.int 0))) (tCons (tOp (rIx a.S) (tVar 2) (tC (.int 1))) tNil))) (tTup (tCons (tC (.str "setting")) (tCons (tVar 3) tNil))))) (tRet (tC (.bl false))) tNext)
    (tSeq (tAsg (tCall (sp_bounds a) [] E (tCons (tVar 0) tNil)) (gName 4))
    (tSeq (tAsg (tCall (sp_made a) [] E (tCons (tOp (rIx a.S) (tVar 4) (tC (.int 0))) (tCons (tOp (rIx a.S) (tVar 4) (tC (.int 1))) tNil))) (gName 5))
    (tSeq (tIfS (tOr (tTest (tOp (rNeP a.S) (tOp (rIx a.S) (tVar 5) (tC (.int 0))) (tC (.str "made")))) (tNot (tB (tCB (rAll a.S) (tCons (eLc a.S (tOp (rIx a.S) (tVar 5) (tC (.int 1))) (gName 6) tYes (tCall (sp_whole a) [] E0 (tCons (tVar 6) tNil)) [6]) tNil))))) (tRet (tC (.bl false))) tNext)
    (tRet (tOp (rEqP a.S) (tOp (rIx a.S) (tVar 5) (tC (.int 1))) (tLst (tCons (tOp (rIx a.S) (tVar 4) (tC (.int 0))) (tCons (tOp (rIx a.S) (tVar 4) (tC (.int 1))) (tCons (tC (.int 0)) (tCons (tC (.int 0)) (tCons (tC (.int 0)) (tCons (tCall (sp_lesser a) [] E (tCons (tOp (rIx a.S) (tVar 4) (tC (.int 1))) (tCons (tOp rMul (tC (.int 4)) (tOp (rIx a.S) (tVar 4) (tC (.int 0)))) tNil))) tNil)))))))))))))))) ⟨fun _ H' => Q .non H', Q, fun _ _ => False, fun _ _ => False⟩ [some v0, some v1, none, none, none, none, none] H) : sp_new a [v0, v1] H Q E := ⟨rfl, h⟩
def t_row (a : Cl) (E : XK) : TS :=
  (tRet (tLst (tCons (tOp (rIx a.S) (tVar 0) (tC (.int 0))) (tCons (tOp (rIx a.S) (tVar 0) (tC (.int 1))) (tCons (tC (.int 0)) (tCons (tC (.int 0)) (tCons (tC (.int 0)) (tCons (tC (.int 0)) (tCons (tC (.int 0)) (tCons (tC (.int 0)) tNil))))))))))
def sp_row (a : Cl) : Sp := spB 1 1 (t_row a)
theorem in_row {a : Cl} {v0 : V} {H : Hp} {Q : VK} {E : XK} (h : (tRet (tLst (tCons (tOp (rIx a.S) (tVar 0) (tC (.int 0))) (tCons (tOp (rIx a.S) (tVar 0) (tC (.int 1))) (tCons (tC (.int 0)) (tCons (tC (.int 0)) (tCons (tC (.int 0)) (tCons (tC (.int 0)) (tCons (tC (.int 0)) (tCons (tC (.int 0)) tNil)))))))))) ⟨fun _ H' => Q .non H', Q, fun _ _ => False, fun _ _ => False⟩ [some v0] H) : sp_row a [v0] H Q E := ⟨rfl, h⟩
def t_greater (a : Cl) (E : XK) : TS :=
  (tSeq (tIfS (tTest (tOp rGt (tVar 0) (tVar 1))) (tRet (tVar 0)) tNext)
    (tRet (tVar 1)))
def sp_greater (a : Cl) : Sp := spB 2 2 (t_greater a)
theorem in_greater {a : Cl} {v0 v1 : V} {H : Hp} {Q : VK} {E : XK} (h : (tSeq (tIfS (tTest (tOp rGt (tVar 0) (tVar 1))) (tRet (tVar 0)) tNext)
    (tRet (tVar 1))) ⟨fun _ H' => Q .non H', Q, fun _ _ => False, fun _ _ => False⟩ [some v0, some v1] H) : sp_greater a [v0, v1] H Q E := ⟨rfl, h⟩
def t_wait (a : Cl) (E : XK) : TS :=
  (tSeq (tIfS (tTest (tOp (rEqP a.S) (tOp (rIx a.S) (tVar 0) (tC (.int 4))) (tC (.int 0)))) (tRet (tCall (sp_lesser a) [] E (tCons (tOp (rIx a.S) (tVar 0) (tC (.int 1))) (tCons (tOp rMul (tC (.int 4)) (tOp (rIx a.S) (tVar 0) (tC (.int 0)))) tNil)))) tNext)
    (tRet (tCall (sp_lesser a) [] E (tCons (tOp (rIx a.S) (tVar 0) (tC (.int 1))) (tCons (tCall (sp_greater a) [] E (tCons (tOp (rIx a.S) (tVar 0) (tC (.int 0))) (tCons (tOp rAdd (tOp rFdiv (tOp (rIx a.S) (tVar 0) (tC (.int 2))) (tC (.int 8))) (tCall (sp_greater a) [] E (tCons (tC (.int 1)) (tCons (tOp (rIx a.S) (tVar 0) (tC (.int 3))) tNil)))) tNil))) tNil)))))
def sp_wait (a : Cl) : Sp := spB 1 1 (t_wait a)
theorem in_wait {a : Cl} {v0 : V} {H : Hp} {Q : VK} {E : XK} (h : (tSeq (tIfS (tTest (tOp (rEqP a.S) (tOp (rIx a.S) (tVar 0) (tC (.int 4))) (tC (.int 0)))) (tRet (tCall (sp_lesser a) [] E (tCons (tOp (rIx a.S) (tVar 0) (tC (.int 1))) (tCons (tOp rMul (tC (.int 4)) (tOp (rIx a.S) (tVar 0) (tC (.int 0)))) tNil)))) tNext)
    (tRet (tCall (sp_lesser a) [] E (tCons (tOp (rIx a.S) (tVar 0) (tC (.int 1))) (tCons (tCall (sp_greater a) [] E (tCons (tOp (rIx a.S) (tVar 0) (tC (.int 0))) (tCons (tOp rAdd (tOp rFdiv (tOp (rIx a.S) (tVar 0) (tC (.int 2))) (tC (.int 8))) (tCall (sp_greater a) [] E (tCons (tC (.int 1)) (tCons (tOp (rIx a.S) (tVar 0) (tC (.int 3))) tNil)))) tNil))) tNil))))) ⟨fun _ H' => Q .non H', Q, fun _ _ => False, fun _ _ => False⟩ [some v0] H) : sp_wait a [v0] H Q E := ⟨rfl, h⟩
def t_powers (a : Cl) (E : XK) : TS :=
  (tSeq (tAsg (tLst (tCons (tCall (sp_wait a) [] E (tCons (tVar 0) tNil)) tNil)) (gName 1))
    (tSeq (sForR none (tC (.int 60)) (gName 2) (tDrop (eApp (tVar 1) (tCons (tCall (sp_lesser a) [] E (tCons (tOp (rIx a.S) (tVar 0) (tC (.int 1))) (tCons (tOp rMul (tC (.int 2)) (tOp (rIx a.S) (tVar 1) (tVar 2))) tNil))) tNil))))
    (tRet (tVar 1))))
def sp_powers (a : Cl) : Sp := spB 3 1 (t_powers a)
theorem in_powers {a : Cl} {v0 : V} {H : Hp} {Q : VK} {E : XK} (h : (tSeq (tAsg (tLst (tCons (tCall (sp_wait a) [] E (tCons (tVar 0) tNil)) tNil)) (gName 1))
    (tSeq (sForR none (tC (.int 60)) (gName 2) (tDrop (eApp (tVar 1) (tCons (tCall (sp_lesser a) [] E (tCons (tOp (rIx a.S) (tVar 0) (tC (.int 1))) (tCons (tOp rMul (tC (.int 2)) (tOp (rIx a.S) (tVar 1) (tVar 2))) tNil))) tNil))))
    (tRet (tVar 1)))) ⟨fun _ H' => Q .non H', Q, fun _ _ => False, fun _ _ => False⟩ [some v0, none, none] H) : sp_powers a [v0] H Q E := ⟨rfl, h⟩
def t_Estimate_backed (a : Cl) (E : XK) : TS :=
  (tSeq (tIfS (tNot (tB (tCall (sp_in_range a) [] E (tCons (tVar 1) (tCons (tC (.int 0)) (tCons (tC (.int 60)) tNil)))))) (sRaise E (tMkC a.c_InvalidNumber ["number"] (tCons (tVar 1) tNil))) tNext)
    (tSeq (tAsg (eProp a.c_Estimate (sp_Estimate_timeout a) (tVar 0)) (gName 2))
    (tSeq (sForR none (tVar 1) (gName 3) (tAsg (tCB rMin2 (tCons (eFld a.c_Estimate "high" (tVar 0)) (tCons (tOp rMul (tC (.int 2)) (tVar 2)) tNil))) (gName 2)))
    (tRet (tVar 2)))))
def sp_Estimate_backed (a : Cl) : Sp := spB 4 2 (t_Estimate_backed a)
theorem in_Estimate_backed {a : Cl} {v0 v1 : V} {H : Hp} {Q : VK} {E : XK} (h : (tSeq (tIfS (tNot (tB (tCall (sp_in_range a) [] E (tCons (tVar 1) (tCons (tC (.int 0)) (tCons (tC (.int 60)) tNil)))))) (sRaise E (tMkC a.c_InvalidNumber ["number"] (tCons (tVar 1) tNil))) tNext)
    (tSeq (tAsg (eProp a.c_Estimate (sp_Estimate_timeout a) (tVar 0)) (gName 2))
    (tSeq (sForR none (tVar 1) (gName 3) (tAsg (tCB rMin2 (tCons (eFld a.c_Estimate "high" (tVar 0)) (tCons (tOp rMul (tC (.int 2)) (tVar 2)) tNil))) (gName 2)))
    (tRet (tVar 2))))) ⟨fun _ H' => Q .non H', Q, fun _ _ => False, fun _ _ => False⟩ [some v0, some v1, none, none] H) : sp_Estimate_backed a [v0, v1] H Q E := ⟨rfl, h⟩
def t_Estimate_sample (a : Cl) (E : XK) : TS :=
  (tSeq (tIfS (tOr (tNot (tB (tCall (sp_is_whole a) [] E (tCons (tVar 1) tNil)))) (tTest (tOp rLt (tVar 1) (tC (.int 0))))) (sRaise E (tMkC a.c_InvalidNumber ["number"] (tCons (tVar 1) tNil))) tNext)
    (tSeq (tIfS (tTest (tOp (rEqP a.S) (eFld a.c_Estimate "samples" (tVar 0)) (tC (.int 0)))) (tSeq (sSetF a.c_Estimate "smooth" (tVar 0) (tOp rMul (tC (.int 8)) (tVar 1)))
    (sSetF a.c_Estimate "spread" (tVar 0) (tOp rMul (tC (.int 2)) (tVar 1)))) (tSeq (tAsg (tOp rSub (tVar 1) (tOp rFdiv (eFld a.c_Estimate "smooth" (tVar 0)) (tC (.int 8)))) (gName 2))
    (tSeq (sAugF a.c_Estimate "smooth" (tVar 0) (tVar 2) rInAdd)
    (sAugF a.c_Estimate "spread" (tVar 0) (tOp rSub (tCB rAbs (tCons (tVar 2) tNil)) (tOp rFdiv (eFld a.c_Estimate "spread" (tVar 0)) (tC (.int 4)))) rInAdd))))
    (sAugF a.c_Estimate "samples" (tVar 0) (tC (.int 1)) rInAdd)))
def sp_Estimate_sample (a : Cl) : Sp := spB 3 2 (t_Estimate_sample a)
theorem in_Estimate_sample {a : Cl} {v0 v1 : V} {H : Hp} {Q : VK} {E : XK} (h : (tSeq (tIfS (tOr (tNot (tB (tCall (sp_is_whole a) [] E (tCons (tVar 1) tNil)))) (tTest (tOp rLt (tVar 1) (tC (.int 0))))) (sRaise E (tMkC a.c_InvalidNumber ["number"] (tCons (tVar 1) tNil))) tNext)
    (tSeq (tIfS (tTest (tOp (rEqP a.S) (eFld a.c_Estimate "samples" (tVar 0)) (tC (.int 0)))) (tSeq (sSetF a.c_Estimate "smooth" (tVar 0) (tOp rMul (tC (.int 8)) (tVar 1)))
    (sSetF a.c_Estimate "spread" (tVar 0) (tOp rMul (tC (.int 2)) (tVar 1)))) (tSeq (tAsg (tOp rSub (tVar 1) (tOp rFdiv (eFld a.c_Estimate "smooth" (tVar 0)) (tC (.int 8)))) (gName 2))
    (tSeq (sAugF a.c_Estimate "smooth" (tVar 0) (tVar 2) rInAdd)
    (sAugF a.c_Estimate "spread" (tVar 0) (tOp rSub (tCB rAbs (tCons (tVar 2) tNil)) (tOp rFdiv (eFld a.c_Estimate "spread" (tVar 0)) (tC (.int 4)))) rInAdd))))
    (sAugF a.c_Estimate "samples" (tVar 0) (tC (.int 1)) rInAdd))) ⟨fun _ H' => Q .non H', Q, fun _ _ => False, fun _ _ => False⟩ [some v0, some v1, none] H) : sp_Estimate_sample a [v0, v1] H Q E := ⟨rfl, h⟩
def t_call (a : Cl) (E : XK) : TS :=
  (tSeq (sTry [(.ref a.c_InvalidNumber, 0), (.ref a.c_InvalidSetting, 0)] [(some 3, fun b cls d => (tIfS (tAnd (tB (tCB (rIsX [(.ref a.c_InvalidSetting, .ref a.c_InvalidNumber, false), (.ref a.c_InvalidNumber, .ref a.c_InvalidNumber, true)] b cls d) (tCons (tVar 3) (tCons (eCon (.ref a.c_InvalidNumber)) tNil)))) (tAnd (tB (tCB (rIsX [(.ref a.c_InvalidSetting, .ty "ValueError", true), (.ref a.c_InvalidNumber, .ty "ValueError", true)] b cls d) (tCons (tVar 3) (tCons (tC (.ty "ValueError")) tNil)))) (tNot (tB (tCB (rIsX [(.ref a.c_InvalidSetting, .ref a.c_InvalidSetting, true), (.ref a.c_InvalidNumber, .ref a.c_InvalidSetting, false)] b cls d) (tCons (tVar 3) (tCons (eCon (.ref a.c_InvalidSetting)) tNil))))))) (tRet (tTup (tCons (tC (.str "number")) (tCons (eXf b cls d [a.c_InvalidNumber] "number" (tVar 3)) tNil)))) tNext))] (fun W => (tSeq (tIfS (tTest (tOp (rEqP a.S) (tVar 1) (tC (.int 0)))) (tRet (tTup (tCons (tC (.str "told")) (tCons (tMS a.c_Estimate "backed" (sp_Estimate_backed a) (WE W) (tVar 0) (tCons (tVar 2) tNil)) tNil)))) tNext)
    (tRet (tTup (tCons (tC (.str "told")) (tCons (tMS a.c_Estimate "sample" (sp_Estimate_sample a) (WE W) (tVar 0) (tCons (tVar 2) tNil)) tNil)))))))
    (tRet (tTup (tCons (tC (.str "other")) (tCons (tC .non) tNil)))))
def sp_call (a : Cl) : Sp := spB 4 3 (t_call a)
theorem in_call {a : Cl} {v0 v1 v2 : V} {H : Hp} {Q : VK} {E : XK} (h : (tSeq (sTry [(.ref a.c_InvalidNumber, 0), (.ref a.c_InvalidSetting, 0)] [(some 3, fun b cls d => (tIfS (tAnd (tB (tCB (rIsX [(.ref a.c_InvalidSetting, .ref a.c_InvalidNumber, false), (.ref a.c_InvalidNumber, .ref a.c_InvalidNumber, true)] b cls d) (tCons (tVar 3) (tCons (eCon (.ref a.c_InvalidNumber)) tNil)))) (tAnd (tB (tCB (rIsX [(.ref a.c_InvalidSetting, .ty "ValueError", true), (.ref a.c_InvalidNumber, .ty "ValueError", true)] b cls d) (tCons (tVar 3) (tCons (tC (.ty "ValueError")) tNil)))) (tNot (tB (tCB (rIsX [(.ref a.c_InvalidSetting, .ref a.c_InvalidSetting, true), (.ref a.c_InvalidNumber, .ref a.c_InvalidSetting, false)] b cls d) (tCons (tVar 3) (tCons (eCon (.ref a.c_InvalidSetting)) tNil))))))) (tRet (tTup (tCons (tC (.str "number")) (tCons (eXf b cls d [a.c_InvalidNumber] "number" (tVar 3)) tNil)))) tNext))] (fun W => (tSeq (tIfS (tTest (tOp (rEqP a.S) (tVar 1) (tC (.int 0)))) (tRet (tTup (tCons (tC (.str "told")) (tCons (tMS a.c_Estimate "backed" (sp_Estimate_backed a) (WE W) (tVar 0) (tCons (tVar 2) tNil)) tNil)))) tNext)
    (tRet (tTup (tCons (tC (.str "told")) (tCons (tMS a.c_Estimate "sample" (sp_Estimate_sample a) (WE W) (tVar 0) (tCons (tVar 2) tNil)) tNil)))))))
    (tRet (tTup (tCons (tC (.str "other")) (tCons (tC .non) tNil))))) ⟨fun _ H' => Q .non H', Q, fun _ _ => False, fun _ _ => False⟩ [some v0, some v1, some v2, none] H) : sp_call a [v0, v1, v2] H Q E := ⟨rfl, h⟩
def t_agrees (a : Cl) (E : XK) : TS :=
  (tSeq (tAsg (tLst (tCons (eFld a.c_Estimate "low" (tVar 0)) (tCons (eFld a.c_Estimate "high" (tVar 0)) (tCons (eFld a.c_Estimate "smooth" (tVar 0)) (tCons (eFld a.c_Estimate "spread" (tVar 0)) (tCons (eFld a.c_Estimate "samples" (tVar 0)) (tCons (eProp a.c_Estimate (sp_Estimate_timeout a) (tVar 0)) tNil))))))) (gName 2))
    (tSeq (tIfS (tNot (tB (tCB (rAll a.S) (tCons (eLc a.S (tVar 2) (gName 3) tYes (tCall (sp_whole a) [] E0 (tCons (tVar 3) tNil)) [3]) tNil)))) (tRet (tC (.bl false))) tNext)
    (tRet (tOp (rEqP a.S) (tVar 2) (tOp rAdd (L2.tSl (rSl a.S) (tVar 1) tNoPart (tPart (tC (.int 5)))) (tLst (tCons (tCall (sp_wait a) [] E (tCons (tVar 1) tNil)) tNil)))))))
def sp_agrees (a : Cl) : Sp := spB 4 2 (t_agrees a)
theorem in_agrees {a : Cl} {v0 v1 : V} {H : Hp} {Q : VK} {E : XK} (h : (tSeq (tAsg (tLst (tCons (eFld a.c_Estimate "low" (tVar 0)) (tCons (eFld a.c_Estimate "high" (tVar 0)) (tCons (eFld a.c_Estimate "smooth" (tVar 0)) (tCons (eFld a.c_Estimate "spread" (tVar 0)) (tCons (eFld a.c_Estimate "samples" (tVar 0)) (tCons (eProp a.c_Estimate (sp_Estimate_timeout a) (tVar 0)) tNil))))))) (gName 2))
    (tSeq (tIfS (tNot (tB (tCB (rAll a.S) (tCons (eLc a.S (tVar 2) (gName 3) tYes (tCall (sp_whole a) [] E0 (tCons (tVar 3) tNil)) [3]) tNil)))) (tRet (tC (.bl false))) tNext)
    (tRet (tOp (rEqP a.S) (tVar 2) (tOp rAdd (L2.tSl (rSl a.S) (tVar 1) tNoPart (tPart (tC (.int 5)))) (tLst (tCons (tCall (sp_wait a) [] E (tCons (tVar 1) tNil)) tNil))))))) ⟨fun _ H' => Q .non H', Q, fun _ _ => False, fun _ _ => False⟩ [some v0, some v1, none, none] H) : sp_agrees a [v0, v1] H Q E := ⟨rfl, h⟩
def t_backs (a : Cl) (E : XK) : TS :=
  (tSeq (tAsg (tCall (sp_powers a) [] E (tCons (tVar 1) tNil)) (gName 3))
    (tSeq (sForR none (tC (.int 61)) (gName 4) (tSeq (tAsg (tVar 4) (gName 5))
    (tSeq (tIfS (tB (tVar 2)) (tAsg (tOp rSub (tC (.int 60)) (tVar 4)) (gName 5)) tNext)
    (tSeq (tAsg (tCall (sp_call a) [] E (tCons (tVar 0) (tCons (tC (.int 0)) (tCons (tVar 5) tNil)))) (gName 6))
    (tIfS (tOr (tTest (tOp (rNeP a.S) (tOp (rIx a.S) (tVar 6) (tC (.int 0))) (tC (.str "told")))) (tOr (tNot (tB (tCall (sp_whole a) [] E (tCons (tOp (rIx a.S) (tVar 6) (tC (.int 1))) tNil)))) (tTest (tOp (rNeP a.S) (tOp (rIx a.S) (tVar 6) (tC (.int 1))) (tOp (rIx a.S) (tVar 3) (tVar 5)))))) (tRet (tC (.bl false))) tNext)))))
    (tRet (tCall (sp_agrees a) [] E (tCons (tVar 0) (tCons (tVar 1) tNil))))))
def sp_backs (a : Cl) : Sp := spB 7 3 (t_backs a)
theorem in_backs {a : Cl} {v0 v1 v2 : V} {H : Hp} {Q : VK} {E : XK} (h : (tSeq (tAsg (tCall (sp_powers a) [] E (tCons (tVar 1) tNil)) (gName 3))
    (tSeq (sForR none (tC (.int 61)) (gName 4) (tSeq (tAsg (tVar 4) (gName 5))
    (tSeq (tIfS (tB (tVar 2)) (tAsg (tOp rSub (tC (.int 60)) (tVar 4)) (gName 5)) tNext)
    (tSeq (tAsg (tCall (sp_call a) [] E (tCons (tVar 0) (tCons (tC (.int 0)) (tCons (tVar 5) tNil)))) (gName 6))
    (tIfS (tOr (tTest (tOp (rNeP a.S) (tOp (rIx a.S) (tVar 6) (tC (.int 0))) (tC (.str "told")))) (tOr (tNot (tB (tCall (sp_whole a) [] E (tCons (tOp (rIx a.S) (tVar 6) (tC (.int 1))) tNil)))) (tTest (tOp (rNeP a.S) (tOp (rIx a.S) (tVar 6) (tC (.int 1))) (tOp (rIx a.S) (tVar 3) (tVar 5)))))) (tRet (tC (.bl false))) tNext)))))
    (tRet (tCall (sp_agrees a) [] E (tCons (tVar 0) (tCons (tVar 1) tNil)))))) ⟨fun _ H' => Q .non H', Q, fun _ _ => False, fun _ _ => False⟩ [some v0, some v1, some v2, none, none, none, none] H) : sp_backs a [v0, v1, v2] H Q E := ⟨rfl, h⟩
def t_same (a : Cl) (E : XK) : TS :=
  (tSeq (tIfS (tOr (tB (tCB rIsI (tCons (tVar 0) (tCons (tC (.ty "bool")) tNil)))) (tB (tCB rIsI (tCons (tVar 1) (tCons (tC (.ty "bool")) tNil))))) (tRet (tAndV (tCB rIsI (tCons (tVar 0) (tCons (tC (.ty "bool")) tNil))) (tAndV (tCB rIsI (tCons (tVar 1) (tCons (tC (.ty "bool")) tNil))) (tOp (rEqP a.S) (tVar 0) (tVar 1))))) tNext)
    (tRet (tOp (rEqP a.S) (tVar 0) (tVar 1))))
def sp_same (a : Cl) : Sp := spB 2 2 (t_same a)
theorem in_same {a : Cl} {v0 v1 : V} {H : Hp} {Q : VK} {E : XK} (h : (tSeq (tIfS (tOr (tB (tCB rIsI (tCons (tVar 0) (tCons (tC (.ty "bool")) tNil)))) (tB (tCB rIsI (tCons (tVar 1) (tCons (tC (.ty "bool")) tNil))))) (tRet (tAndV (tCB rIsI (tCons (tVar 0) (tCons (tC (.ty "bool")) tNil))) (tAndV (tCB rIsI (tCons (tVar 1) (tCons (tC (.ty "bool")) tNil))) (tOp (rEqP a.S) (tVar 0) (tVar 1))))) tNext)
    (tRet (tOp (rEqP a.S) (tVar 0) (tVar 1)))) ⟨fun _ H' => Q .non H', Q, fun _ _ => False, fun _ _ => False⟩ [some v0, some v1] H) : sp_same a [v0, v1] H Q E := ⟨rfl, h⟩
def t_refuses (a : Cl) (E : XK) : TS :=
  (tSeq (sForR none (tC (.int 5)) (gName 2) (tSeq (tIfS (tOr (tTest (tOp (rEqP a.S) (tVar 2) (tC (.int 0)))) (tTest (tOp (rEqP a.S) (tVar 2) (tC (.int 3))))) (tAsg (tOp rSub (tOp rSub (tC (.int 0)) (tC (.int 1))) (tCall (sp_far a) [] E (tCons (tVar 0) tNil))) (gName 3)) (tIfS (tTest (tOp (rEqP a.S) (tVar 2) (tC (.int 1)))) (tAsg (tOp rAdd (tC (.int 61)) (tCall (sp_far a) [] E (tCons (tVar 0) tNil))) (gName 3)) (tAsg (tCall (sp_odd a) [] E (tCons (tVar 0) tNil)) (gName 3))))
    (tSeq (tAsg (tCall (sp_call a) [] E (tCons (tVar 1) (tCons (tOp rFdiv (tVar 2) (tC (.int 3))) (tCons (tVar 3) tNil)))) (gName 4))
    (tIfS (tOr (tTest (tOp (rNeP a.S) (tOp (rIx a.S) (tVar 4) (tC (.int 0))) (tC (.str "number")))) (tNot (tB (tCall (sp_same a) [] E (tCons (tOp (rIx a.S) (tVar 4) (tC (.int 1))) (tCons (tVar 3) tNil)))))) (tRet (tC (.bl false))) tNext))))
    (tRet (tC (.bl true))))
def sp_refuses (a : Cl) : Sp := spB 5 2 (t_refuses a)
theorem in_refuses {a : Cl} {v0 v1 : V} {H : Hp} {Q : VK} {E : XK} (h : (tSeq (sForR none (tC (.int 5)) (gName 2) (tSeq (tIfS (tOr (tTest (tOp (rEqP a.S) (tVar 2) (tC (.int 0)))) (tTest (tOp (rEqP a.S) (tVar 2) (tC (.int 3))))) (tAsg (tOp rSub (tOp rSub (tC (.int 0)) (tC (.int 1))) (tCall (sp_far a) [] E (tCons (tVar 0) tNil))) (gName 3)) (tIfS (tTest (tOp (rEqP a.S) (tVar 2) (tC (.int 1)))) (tAsg (tOp rAdd (tC (.int 61)) (tCall (sp_far a) [] E (tCons (tVar 0) tNil))) (gName 3)) (tAsg (tCall (sp_odd a) [] E (tCons (tVar 0) tNil)) (gName 3))))
    (tSeq (tAsg (tCall (sp_call a) [] E (tCons (tVar 1) (tCons (tOp rFdiv (tVar 2) (tC (.int 3))) (tCons (tVar 3) tNil)))) (gName 4))
    (tIfS (tOr (tTest (tOp (rNeP a.S) (tOp (rIx a.S) (tVar 4) (tC (.int 0))) (tC (.str "number")))) (tNot (tB (tCall (sp_same a) [] E (tCons (tOp (rIx a.S) (tVar 4) (tC (.int 1))) (tCons (tVar 3) tNil)))))) (tRet (tC (.bl false))) tNext))))
    (tRet (tC (.bl true)))) ⟨fun _ H' => Q .non H', Q, fun _ _ => False, fun _ _ => False⟩ [some v0, some v1, none, none, none] H) : sp_refuses a [v0, v1] H Q E := ⟨rfl, h⟩
def t_ticks (a : Cl) (E : XK) : TS :=
  (tSeq (tAsg (tCall (sp_take a) [] E (tCons (tVar 0) (tCons (tC (.int 6)) tNil))) (gName 2))
    (tSeq (tIfS (tTest (tOp (rEqP a.S) (tVar 2) (tC (.int 0)))) (tRet (tCall (sp_take a) [] E (tCons (tVar 0) (tCons (tC (.int 41)) tNil)))) tNext)
    (tSeq (tIfS (tTest (tOp (rEqP a.S) (tVar 2) (tC (.int 1)))) (tRet (tOp (rIx a.S) (tVar 1) (tC (.int 7)))) tNext)
    (tSeq (tIfS (tTest (tOp (rEqP a.S) (tVar 2) (tC (.int 2)))) (tRet (tCall (sp_greater a) [] E (tCons (tC (.int 0)) (tCons (tOp rSub (tOp rAdd (tOp rFdiv (tOp (rIx a.S) (tVar 1) (tC (.int 2))) (tC (.int 8))) (tCall (sp_take a) [] E (tCons (tVar 0) (tCons (tC (.int 3)) tNil)))) (tC (.int 1))) tNil)))) tNext)
    (tSeq (tIfS (tTest (tOp (rEqP a.S) (tVar 2) (tC (.int 3)))) (tRet (tCall (sp_take a) [] E (tCons (tVar 0) (tCons (tC (.int 100001)) tNil)))) tNext)
    (tSeq (tIfS (tTest (tOp (rEqP a.S) (tVar 2) (tC (.int 4)))) (tRet (tCall (sp_take a) [] E (tCons (tVar 0) (tCons (tOp rPow (tC (.int 10)) (tC (.int 11))) tNil)))) tNext)
    (tRet (tC (.int 0)))))))))
def sp_ticks (a : Cl) : Sp := spB 3 2 (t_ticks a)
theorem in_ticks {a : Cl} {v0 v1 : V} {H : Hp} {Q : VK} {E : XK} (h : (tSeq (tAsg (tCall (sp_take a) [] E (tCons (tVar 0) (tCons (tC (.int 6)) tNil))) (gName 2))
    (tSeq (tIfS (tTest (tOp (rEqP a.S) (tVar 2) (tC (.int 0)))) (tRet (tCall (sp_take a) [] E (tCons (tVar 0) (tCons (tC (.int 41)) tNil)))) tNext)
    (tSeq (tIfS (tTest (tOp (rEqP a.S) (tVar 2) (tC (.int 1)))) (tRet (tOp (rIx a.S) (tVar 1) (tC (.int 7)))) tNext)
    (tSeq (tIfS (tTest (tOp (rEqP a.S) (tVar 2) (tC (.int 2)))) (tRet (tCall (sp_greater a) [] E (tCons (tC (.int 0)) (tCons (tOp rSub (tOp rAdd (tOp rFdiv (tOp (rIx a.S) (tVar 1) (tC (.int 2))) (tC (.int 8))) (tCall (sp_take a) [] E (tCons (tVar 0) (tCons (tC (.int 3)) tNil)))) (tC (.int 1))) tNil)))) tNext)
    (tSeq (tIfS (tTest (tOp (rEqP a.S) (tVar 2) (tC (.int 3)))) (tRet (tCall (sp_take a) [] E (tCons (tVar 0) (tCons (tC (.int 100001)) tNil)))) tNext)
    (tSeq (tIfS (tTest (tOp (rEqP a.S) (tVar 2) (tC (.int 4)))) (tRet (tCall (sp_take a) [] E (tCons (tVar 0) (tCons (tOp rPow (tC (.int 10)) (tC (.int 11))) tNil)))) tNext)
    (tRet (tC (.int 0))))))))) ⟨fun _ H' => Q .non H', Q, fun _ _ => False, fun _ _ => False⟩ [some v0, some v1, none] H) : sp_ticks a [v0, v1] H Q E := ⟨rfl, h⟩
def t_enter (a : Cl) (E : XK) : TS :=
  (tSeq (tIfS (tTest (tOp (rEqP a.S) (tOp (rIx a.S) (tVar 0) (tC (.int 4))) (tC (.int 0)))) (tSeq (tAsg (tOp rMul (tC (.int 8)) (tVar 1)) (gSub (tVar 0) (tC (.int 2)) rSetL))
    (tSeq (tAsg (tOp rMul (tC (.int 2)) (tVar 1)) (gSub (tVar 0) (tC (.int 3)) rSetL))
    (tSeq (tAsg (tVar 1) (gSub (tVar 0) (tC (.int 5)) rSetL))
    (tAsg (tVar 1) (gSub (tVar 0) (tC (.int 6)) rSetL))))) (tSeq (tAsg (tOp rSub (tVar 1) (tOp rFdiv (tOp (rIx a.S) (tVar 0) (tC (.int 2))) (tC (.int 8)))) (gName 2))
    (tSeq (tAsg (tOp rAdd (tOp (rIx a.S) (tVar 0) (tC (.int 2))) (tVar 2)) (gSub (tVar 0) (tC (.int 2)) rSetL))
    (tSeq (tAsg (tOp rSub (tOp rAdd (tOp (rIx a.S) (tVar 0) (tC (.int 3))) (tCB rAbs (tCons (tVar 2) tNil))) (tOp rFdiv (tOp (rIx a.S) (tVar 0) (tC (.int 3))) (tC (.int 4)))) (gSub (tVar 0) (tC (.int 3)) rSetL))
    (tSeq (tAsg (tCall (sp_lesser a) [] E (tCons (tOp (rIx a.S) (tVar 0) (tC (.int 5))) (tCons (tVar 1) tNil))) (gSub (tVar 0) (tC (.int 5)) rSetL))
    (tAsg (tCall (sp_greater a) [] E (tCons (tOp (rIx a.S) (tVar 0) (tC (.int 6))) (tCons (tVar 1) tNil))) (gSub (tVar 0) (tC (.int 6)) rSetL)))))))
    (tSeq (tAsg (tOp rAdd (tOp (rIx a.S) (tVar 0) (tC (.int 4))) (tC (.int 1))) (gSub (tVar 0) (tC (.int 4)) rSetL))
    (tAsg (tVar 1) (gSub (tVar 0) (tC (.int 7)) rSetL))))
def sp_enter (a : Cl) : Sp := spB 3 2 (t_enter a)
theorem in_enter {a : Cl} {v0 v1 : V} {H : Hp} {Q : VK} {E : XK} (h : (tSeq (tIfS (tTest (tOp (rEqP a.S) (tOp (rIx a.S) (tVar 0) (tC (.int 4))) (tC (.int 0)))) (tSeq (tAsg (tOp rMul (tC (.int 8)) (tVar 1)) (gSub (tVar 0) (tC (.int 2)) rSetL))
    (tSeq (tAsg (tOp rMul (tC (.int 2)) (tVar 1)) (gSub (tVar 0) (tC (.int 3)) rSetL))
    (tSeq (tAsg (tVar 1) (gSub (tVar 0) (tC (.int 5)) rSetL))
    (tAsg (tVar 1) (gSub (tVar 0) (tC (.int 6)) rSetL))))) (tSeq (tAsg (tOp rSub (tVar 1) (tOp rFdiv (tOp (rIx a.S) (tVar 0) (tC (.int 2))) (tC (.int 8)))) (gName 2))
    (tSeq (tAsg (tOp rAdd (tOp (rIx a.S) (tVar 0) (tC (.int 2))) (tVar 2)) (gSub (tVar 0) (tC (.int 2)) rSetL))
    (tSeq (tAsg (tOp rSub (tOp rAdd (tOp (rIx a.S) (tVar 0) (tC (.int 3))) (tCB rAbs (tCons (tVar 2) tNil))) (tOp rFdiv (tOp (rIx a.S) (tVar 0) (tC (.int 3))) (tC (.int 4)))) (gSub (tVar 0) (tC (.int 3)) rSetL))
    (tSeq (tAsg (tCall (sp_lesser a) [] E (tCons (tOp (rIx a.S) (tVar 0) (tC (.int 5))) (tCons (tVar 1) tNil))) (gSub (tVar 0) (tC (.int 5)) rSetL))
    (tAsg (tCall (sp_greater a) [] E (tCons (tOp (rIx a.S) (tVar 0) (tC (.int 6))) (tCons (tVar 1) tNil))) (gSub (tVar 0) (tC (.int 6)) rSetL)))))))
    (tSeq (tAsg (tOp rAdd (tOp (rIx a.S) (tVar 0) (tC (.int 4))) (tC (.int 1))) (gSub (tVar 0) (tC (.int 4)) rSetL))
    (tAsg (tVar 1) (gSub (tVar 0) (tC (.int 7)) rSetL)))) ⟨fun _ H' => Q .non H', Q, fun _ _ => False, fun _ _ => False⟩ [some v0, some v1, none] H) : sp_enter a [v0, v1] H Q E := ⟨rfl, h⟩
def t_law (a : Cl) (E : XK) : TS :=
  (tSeq (tAsg (tCall (sp_bag a) [] E (tCons (tVar 0) tNil)) (gName 1))
    (tSeq (tAsg (tOp rAdd (tC (.int 1)) (tCall (sp_take a) [] E (tCons (tVar 1) (tCons (tC (.int 6)) tNil)))) (gName 2))
    (tSeq (sForR none (tC (.int 8)) (gName 3) (tIfS (tNot (tB (tCall (sp_new a) [] E (tCons (tVar 1) (tCons (tVar 3) tNil))))) (tRet (tC (.bl false))) tNext))
    (tSeq (tAsg (tLst (tCons (tCall (sp_row a) [] E (tCons (tCall (sp_bounds a) [] E (tCons (tVar 1) tNil)) tNil)) (tCons (tCall (sp_row a) [] E (tCons (tCall (sp_bounds a) [] E (tCons (tVar 1) tNil)) tNil)) tNil))) (gName 4))
    (tSeq (tAsg (eLc a.S (tVar 4) (gName 6) tYes (tMake a.c_Estimate (sp_Estimate___init__ a) [] E0 (tCons (tOp (rIx a.S) (tVar 6) (tC (.int 0))) (tCons (tOp (rIx a.S) (tVar 6) (tC (.int 1))) tNil))) [6]) (gName 5))
    (tSeq (tIfS (tOr (tNot (tB (tCall (sp_backs a) [] E (tCons (tOp (rIx a.S) (tVar 5) (tC (.int 0))) (tCons (tOp (rIx a.S) (tVar 4) (tC (.int 0))) (tCons (tC (.bl true)) tNil)))))) (tNot (tB (tCall (sp_backs a) [] E (tCons (tOp (rIx a.S) (tVar 5) (tC (.int 1))) (tCons (tOp (rIx a.S) (tVar 4) (tC (.int 1))) (tCons (tC (.bl false)) tNil))))))) (tRet (tC (.bl false))) tNext)
    (tSeq (sForR none (tVar 2) (gName 7) (tSeq (tAsg (tCall (sp_take a) [] E (tCons (tVar 1) (tCons (tC (.int 2)) tNil))) (gName 8))
    (tSeq (tIfS (tNot (tB (tCall (sp_refuses a) [] E (tCons (tVar 1) (tCons (tOp (rIx a.S) (tVar 5) (tVar 8)) tNil))))) (tRet (tC (.bl false))) tNext)
    (tSeq (tIfS (tOr (tNot (tB (tCall (sp_agrees a) [] E (tCons (tOp (rIx a.S) (tVar 5) (tC (.int 0))) (tCons (tOp (rIx a.S) (tVar 4) (tC (.int 0))) tNil))))) (tNot (tB (tCall (sp_agrees a) [] E (tCons (tOp (rIx a.S) (tVar 5) (tC (.int 1))) (tCons (tOp (rIx a.S) (tVar 4) (tC (.int 1))) tNil)))))) (tRet (tC (.bl false))) tNext)
    (tSeq (tAsg (tCall (sp_ticks a) [] E (tCons (tVar 1) (tCons (tOp (rIx a.S) (tVar 4) (tVar 8)) tNil))) (gName 9))
    (tSeq (tIfS (tTest (tOp (rNeP a.S) (tCall (sp_call a) [] E (tCons (tOp (rIx a.S) (tVar 5) (tVar 8)) (tCons (tC (.int 1)) (tCons (tVar 9) tNil)))) (tTup (tCons (tC (.str "told")) (tCons (tC .non) tNil))))) (tRet (tC (.bl false))) tNext)
    (tSeq (tDrop (tCall (sp_enter a) [] E (tCons (tOp (rIx a.S) (tVar 4) (tVar 8)) (tCons (tVar 9) tNil))))
    (tIfS (tOr (tNot (tB (tCall (sp_backs a) [] E (tCons (tOp (rIx a.S) (tVar 5) (tC (.int 0))) (tCons (tOp (rIx a.S) (tVar 4) (tC (.int 0))) (tCons (tC (.bl false)) tNil)))))) (tNot (tB (tCall (sp_backs a) [] E (tCons (tOp (rIx a.S) (tVar 5) (tC (.int 1))) (tCons (tOp (rIx a.S) (tVar 4) (tC (.int 1))) (tCons (tC (.bl true)) tNil))))))) (tRet (tC (.bl false))) tNext))))))))
    (tRet (tC (.bl true))))))))))
def sp_law (a : Cl) : Sp := spB 10 1 (t_law a)
theorem in_law {a : Cl} {v0 : V} {H : Hp} {Q : VK} {E : XK} (h : (tSeq (tAsg (tCall (sp_bag a) [] E (tCons (tVar 0) tNil)) (gName 1))
    (tSeq (tAsg (tOp rAdd (tC (.int 1)) (tCall (sp_take a) [] E (tCons (tVar 1) (tCons (tC (.int 6)) tNil)))) (gName 2))
    (tSeq (sForR none (tC (.int 8)) (gName 3) (tIfS (tNot (tB (tCall (sp_new a) [] E (tCons (tVar 1) (tCons (tVar 3) tNil))))) (tRet (tC (.bl false))) tNext))
    (tSeq (tAsg (tLst (tCons (tCall (sp_row a) [] E (tCons (tCall (sp_bounds a) [] E (tCons (tVar 1) tNil)) tNil)) (tCons (tCall (sp_row a) [] E (tCons (tCall (sp_bounds a) [] E (tCons (tVar 1) tNil)) tNil)) tNil))) (gName 4))
    (tSeq (tAsg (eLc a.S (tVar 4) (gName 6) tYes (tMake a.c_Estimate (sp_Estimate___init__ a) [] E0 (tCons (tOp (rIx a.S) (tVar 6) (tC (.int 0))) (tCons (tOp (rIx a.S) (tVar 6) (tC (.int 1))) tNil))) [6]) (gName 5))
    (tSeq (tIfS (tOr (tNot (tB (tCall (sp_backs a) [] E (tCons (tOp (rIx a.S) (tVar 5) (tC (.int 0))) (tCons (tOp (rIx a.S) (tVar 4) (tC (.int 0))) (tCons (tC (.bl true)) tNil)))))) (tNot (tB (tCall (sp_backs a) [] E (tCons (tOp (rIx a.S) (tVar 5) (tC (.int 1))) (tCons (tOp (rIx a.S) (tVar 4) (tC (.int 1))) (tCons (tC (.bl false)) tNil))))))) (tRet (tC (.bl false))) tNext)
    (tSeq (sForR none (tVar 2) (gName 7) (tSeq (tAsg (tCall (sp_take a) [] E (tCons (tVar 1) (tCons (tC (.int 2)) tNil))) (gName 8))
    (tSeq (tIfS (tNot (tB (tCall (sp_refuses a) [] E (tCons (tVar 1) (tCons (tOp (rIx a.S) (tVar 5) (tVar 8)) tNil))))) (tRet (tC (.bl false))) tNext)
    (tSeq (tIfS (tOr (tNot (tB (tCall (sp_agrees a) [] E (tCons (tOp (rIx a.S) (tVar 5) (tC (.int 0))) (tCons (tOp (rIx a.S) (tVar 4) (tC (.int 0))) tNil))))) (tNot (tB (tCall (sp_agrees a) [] E (tCons (tOp (rIx a.S) (tVar 5) (tC (.int 1))) (tCons (tOp (rIx a.S) (tVar 4) (tC (.int 1))) tNil)))))) (tRet (tC (.bl false))) tNext)
    (tSeq (tAsg (tCall (sp_ticks a) [] E (tCons (tVar 1) (tCons (tOp (rIx a.S) (tVar 4) (tVar 8)) tNil))) (gName 9))
    (tSeq (tIfS (tTest (tOp (rNeP a.S) (tCall (sp_call a) [] E (tCons (tOp (rIx a.S) (tVar 5) (tVar 8)) (tCons (tC (.int 1)) (tCons (tVar 9) tNil)))) (tTup (tCons (tC (.str "told")) (tCons (tC .non) tNil))))) (tRet (tC (.bl false))) tNext)
    (tSeq (tDrop (tCall (sp_enter a) [] E (tCons (tOp (rIx a.S) (tVar 4) (tVar 8)) (tCons (tVar 9) tNil))))
    (tIfS (tOr (tNot (tB (tCall (sp_backs a) [] E (tCons (tOp (rIx a.S) (tVar 5) (tC (.int 0))) (tCons (tOp (rIx a.S) (tVar 4) (tC (.int 0))) (tCons (tC (.bl false)) tNil)))))) (tNot (tB (tCall (sp_backs a) [] E (tCons (tOp (rIx a.S) (tVar 5) (tC (.int 1))) (tCons (tOp (rIx a.S) (tVar 4) (tC (.int 1))) (tCons (tC (.bl true)) tNil))))))) (tRet (tC (.bl false))) tNext))))))))
    (tRet (tC (.bl true)))))))))) ⟨fun _ H' => Q .non H', Q, fun _ _ => False, fun _ _ => False⟩ [some v0, none, none, none, none, none, none, none, none, none] H) : sp_law a [v0] H Q E := ⟨rfl, h⟩

/-! the walker: «walk_at "y 1"» one step, «walk_at "y"» as far as it goes -/
local macro_rules | `(tactic| walk_at "y mem") => `(tactic| repeat (first | assumption | exact List.Mem.head _ | apply List.Mem.tail))
local macro_rules | `(tactic| walk_at "y sub") => `(tactic| first | exact List.Sublist.refl _ | exact List.nil_sublist _ | (refine List.Sublist.cons₂ _ ?_; walk_at "y sub") | (refine List.Sublist.cons _ ?_; walk_at "y sub"))
local macro_rules | `(tactic| walk_at "y take") => `(tactic| first | exact Y.Take.here | (apply Y.Take.there; walk_at "y take"))
local macro_rules | `(tactic| walk_at "y sel") => `(tactic| first | exact Y.Sel.all | exact Y.Sel.nil | (refine' Y.Sel.cons ?h ?s; (case h => walk_at "y take"); (case s => walk_at "y sel")) | (apply Y.Sel.drop; walk_at "y sel"))
local macro_rules | `(tactic| walk_at "y src") => `(tactic| first | assumption | (refine Y.Src.is ?_; walk_at "y mem"; done) | (refine Y.Src.rd ?_; walk_at "y mem"; done) | (refine Y.Src.st ?_; assumption) | (apply Y.Src.cons; walk_at "y src"))
local macro_rules | `(tactic| walk_at "y put") => `(tactic| repeat (first | assumption | exact Y.Put.here | apply Y.Put.there))
local macro_rules | `(tactic| walk_at "y at") => `(tactic| first | exact Y.atI_at (j := 0) rfl rfl | exact Y.atI_at (j := 1) rfl rfl | exact Y.atI_at (j := 2) rfl rfl | exact Y.atI_at (j := 3) rfl rfl | exact Y.atI_at (j := 4) rfl rfl | exact Y.atI_at (j := 5) rfl rfl | exact Y.atI_at (j := 6) rfl rfl | exact Y.atI_at (j := 7) rfl rfl | exact Y.atI_at (j := 8) rfl rfl | exact Y.atI_at (j := 9) rfl rfl | exact Y.atI_at (j := 10) rfl rfl | exact Y.atI_at (j := 11) rfl rfl | exact Y.atI_at (j := 12) rfl rfl | exact Y.atI_at (j := 13) rfl rfl | exact Y.atI_at (j := 14) rfl rfl | exact Y.atI_at (j := 15) rfl rfl | assumption | exact Y.atI_ints (by omega) (by omega))
local macro_rules | `(tactic| walk_at "y ix") => `(tactic| first | exact Y.ixN_b (j := 0) rfl rfl | exact Y.ixN_b (j := 1) rfl rfl | exact Y.ixN_b (j := 2) rfl rfl | exact Y.ixN_b (j := 3) rfl rfl | exact Y.ixN_b (j := 4) rfl rfl | exact Y.ixN_b (j := 5) rfl rfl | exact Y.ixN_b (j := 6) rfl rfl | exact Y.ixN_b (j := 7) rfl rfl | exact Y.ixN_b (j := 8) rfl rfl | exact Y.ixN_b (j := 9) rfl rfl | exact Y.ixN_b (j := 10) rfl rfl | exact Y.ixN_b (j := 11) rfl rfl | exact Y.ixN_b (j := 12) rfl rfl | exact Y.ixN_b (j := 13) rfl rfl | exact Y.ixN_b (j := 14) rfl rfl | exact Y.ixN_b (j := 15) rfl rfl | assumption | exact Y.ixN_i (by omega) (by omega))
local macro_rules | `(tactic| walk_at "y field") => `(tactic| first | assumption | exact Y.look_hit | exact Y.look_nil | (refine' Y.look_miss ?hd ?tl; (case hd => decide +kernel); (case tl => walk_at "y field")))
local macro_rules | `(tactic| walk_at "y putf") => `(tactic| first | exact Y.put_nil | exact Y.put_hit | (refine' Y.put_miss ?hd ?tl; (case hd => decide +kernel); (case tl => walk_at "y putf")))
local macro_rules | `(tactic| walk_at "y size") => `(tactic| first | exact Y.len_leB rfl | exact Y.len_ltB rfl | exact Y.f_lt rfl | (refine Y.len_leN ?_; simp only [List.length_append, List.length_cons, List.length_nil, List.length_map]; omega) | (refine Y.len_ltN ?_; simp only [List.length_append, List.length_cons, List.length_nil, List.length_map]; omega))
local macro_rules | `(tactic| walk_at "y flat") => `(tactic| first | exact Y.flat_ints | rfl | assumption | (refine Y.flat_cons ?_ ?_; (first | rfl | decide +kernel | assumption); walk_at "y flat"))
local macro_rules | `(tactic| walk_at "y eqv") => `(tactic| first | exact Y.eqv_nil | exact Y.eqv_nc | exact Y.eqv_cn | exact Y.eqv_ints | assumption | ((try simp (disch := decide +kernel) only [Y.eqv_strS, Y.eqv_strD, Y.eqv_int, Y.eqv_bl, Y.eqv_nil, Y.eqv_nc, Y.eqv_cn, Y.eqv_nn, Y.eqv_ni, Y.eqv_in, Y.eqv_ns, Y.eqv_sn, Y.eqv_si, Y.eqv_is, decide_true, Bool.true_and, Bool.false_and, Bool.and_true, Bool.and_false, eq_self, List.cons_append, List.nil_append]); (try simp only [Y.eqv_str, Y.eqv_int, Y.eqv_bl, Y.eqv_nil, Y.eqv_nc, Y.eqv_cn, Y.eqv_nn, Y.eqv_ni, Y.eqv_in, Y.eqv_ns, Y.eqv_sn, Y.eqv_si, Y.eqv_is, decide_true, Bool.true_and, Bool.false_and, Bool.and_true, Bool.and_false, eq_self, List.cons_append, List.nil_append, ← Bool.decide_and]); rfl))
local macro_rules | `(tactic| walk_at "y side") => `(tactic| fail "side")
local macro_rules | `(tactic| walk_at "y spec") => `(tactic| fail "spec")
local macro_rules | `(tactic| walk_at "y 1") => `(tactic| first
  | (with_reducible refine Y.x_op ?_)
  | ((with_reducible refine Y.is_var ?_); first
    | (with_reducible refine Y.x_v0 ?_)
    | (with_reducible refine Y.x_v1 ?_)
    | (with_reducible refine Y.x_v2 ?_)
    | (with_reducible refine Y.x_v3 ?_)
    | (with_reducible refine Y.x_v4 ?_)
    | (with_reducible refine Y.x_v5 ?_)
    | (with_reducible refine Y.x_v6 ?_)
    | (with_reducible refine Y.x_v7 ?_)
    | (with_reducible refine Y.x_v8 ?_)
    | (with_reducible refine Y.x_v9 ?_)
    | (with_reducible refine Y.x_v10 ?_)
    | (with_reducible refine Y.x_v11 ?_)
    | (with_reducible refine Y.x_v12 ?_)
    | (with_reducible refine Y.x_v13 ?_)
    | (with_reducible refine Y.x_v14 ?_)
    | (with_reducible refine Y.x_v15 ?_)
    | (with_reducible refine Y.x_v16 ?_)
    | (with_reducible refine Y.x_v17 ?_)
    | (with_reducible refine Y.x_v18 ?_)
    | (with_reducible refine Y.x_v19 ?_)
    | (with_reducible refine Y.x_v20 ?_)
    | (with_reducible refine Y.x_v21 ?_)
    | (with_reducible refine Y.x_v22 ?_)
    | (with_reducible refine Y.x_v23 ?_))
  | (with_reducible refine Y.x_c ?_)
  | (with_reducible refine Y.x_seq ?_)
  | (with_reducible refine Y.x_asg ?_)
  | ((with_reducible refine Y.is_g ?_); first
    | (with_reducible refine Y.x_g0 ?_)
    | (with_reducible refine Y.x_g1 ?_)
    | (with_reducible refine Y.x_g2 ?_)
    | (with_reducible refine Y.x_g3 ?_)
    | (with_reducible refine Y.x_g4 ?_)
    | (with_reducible refine Y.x_g5 ?_)
    | (with_reducible refine Y.x_g6 ?_)
    | (with_reducible refine Y.x_g7 ?_)
    | (with_reducible refine Y.x_g8 ?_)
    | (with_reducible refine Y.x_g9 ?_)
    | (with_reducible refine Y.x_g10 ?_)
    | (with_reducible refine Y.x_g11 ?_)
    | (with_reducible refine Y.x_g12 ?_)
    | (with_reducible refine Y.x_g13 ?_)
    | (with_reducible refine Y.x_g14 ?_)
    | (with_reducible refine Y.x_g15 ?_)
    | (with_reducible refine Y.x_g16 ?_)
    | (with_reducible refine Y.x_g17 ?_)
    | (with_reducible refine Y.x_g18 ?_)
    | (with_reducible refine Y.x_g19 ?_)
    | (with_reducible refine Y.x_g20 ?_)
    | (with_reducible refine Y.x_g21 ?_)
    | (with_reducible refine Y.x_g22 ?_)
    | (with_reducible refine Y.x_g23 ?_))
  | (with_reducible refine Y.x_bl ?_)
  | (with_reducible refine Y.x_cons ?_)
  | (with_reducible refine Y.x_nil ?_)
  | (with_reducible refine Y.x_cb ?_)
  | (with_reducible refine Y.x_test ?_)
  | (with_reducible refine Y.x_ifS ?_)
  | (with_reducible refine Y.x_iteT ?_)
  | (with_reducible refine Y.x_iteF ?_)
  | (with_reducible refine Y.x_next ?_)
  | (with_reducible refine Y.x_call ?_)
  | (with_reducible refine Y.x_app ?_)
  | (with_reducible refine Y.x_ret ?_)
  | (with_reducible refine Y.x_add ?_)
  | (with_reducible refine Y.x_sub ?_)
  | ((with_reducible refine Y.is_eq ?_); first
    | (with_reducible refine Y.x_eqI ?_)
    | (with_reducible refine Y.x_eqB ?_)
    | (with_reducible refine Y.x_eqS ?_))
  | ((with_reducible refine Y.is_ne ?_); first
    | (with_reducible refine Y.x_neI ?_)
    | (with_reducible refine Y.x_neB ?_)
    | (with_reducible refine Y.x_neS ?_))
  | ((with_reducible refine Y.is_eqP ?_); first
    | (with_reducible refine Y.x_eqPI ?_)
    | (with_reducible refine Y.x_eqPB ?_)
    | (with_reducible refine Y.x_eqPSs ?_)
    | ((with_reducible refine' Y.x_eqPSd ?ne ?_); (case ne => decide +kernel))
    | (with_reducible refine Y.x_eqPS ?_)
    | (with_reducible refine Y.x_eqP_nn ?_)
    | (with_reducible refine Y.x_eqP_ni ?_)
    | (with_reducible refine Y.x_eqP_in ?_)
    | (with_reducible refine Y.x_eqP_nb ?_)
    | (with_reducible refine Y.x_eqP_bn ?_)
    | (with_reducible refine Y.x_eqP_ns ?_)
    | (with_reducible refine Y.x_eqP_sn ?_)
    | (with_reducible refine Y.x_eqP_is ?_)
    | (with_reducible refine Y.x_eqP_si ?_)
    | (with_reducible refine Y.x_eqP_bs ?_)
    | (with_reducible refine Y.x_eqP_sb ?_)
    | ((with_reducible refine' Y.x_eqPL ?F ?m ?n ?f1 ?f2 ?ev ?_); (case F => assumption); (case m => walk_at "y mem"); (case n => walk_at "y mem"); (case f1 => walk_at "y flat"); (case f2 => walk_at "y flat"); (case ev => walk_at "y eqv"))
    | ((with_reducible refine' Y.x_eqPT ?F ?m ?n ?f1 ?f2 ?ev ?_); (case F => assumption); (case m => walk_at "y mem"); (case n => walk_at "y mem"); (case f1 => walk_at "y flat"); (case f2 => walk_at "y flat"); (case ev => walk_at "y eqv")))
  | ((with_reducible refine Y.is_neP ?_); first
    | (with_reducible refine Y.x_nePI ?_)
    | (with_reducible refine Y.x_nePB ?_)
    | (with_reducible refine Y.x_nePSs ?_)
    | ((with_reducible refine' Y.x_nePSd ?ne ?_); (case ne => decide +kernel))
    | (with_reducible refine Y.x_nePS ?_)
    | (with_reducible refine Y.x_neP_nn ?_)
    | (with_reducible refine Y.x_neP_ni ?_)
    | (with_reducible refine Y.x_neP_in ?_)
    | (with_reducible refine Y.x_neP_nb ?_)
    | (with_reducible refine Y.x_neP_bn ?_)
    | (with_reducible refine Y.x_neP_ns ?_)
    | (with_reducible refine Y.x_neP_sn ?_)
    | (with_reducible refine Y.x_neP_is ?_)
    | (with_reducible refine Y.x_neP_si ?_)
    | (with_reducible refine Y.x_neP_bs ?_)
    | (with_reducible refine Y.x_neP_sb ?_)
    | ((with_reducible refine' Y.x_nePL ?F ?m ?n ?f1 ?f2 ?ev ?_); (case F => assumption); (case m => walk_at "y mem"); (case n => walk_at "y mem"); (case f1 => walk_at "y flat"); (case f2 => walk_at "y flat"); (case ev => walk_at "y eqv"))
    | ((with_reducible refine' Y.x_nePT ?F ?m ?n ?f1 ?f2 ?ev ?_); (case F => assumption); (case m => walk_at "y mem"); (case n => walk_at "y mem"); (case f1 => walk_at "y flat"); (case f2 => walk_at "y flat"); (case ev => walk_at "y eqv")))
  | ((with_reducible refine Y.is_is ?_); first
    | (with_reducible refine Y.x_isN ?_)
    | (with_reducible refine Y.x_isI ?_)
    | (with_reducible refine Y.x_isR ?_)
    | (with_reducible refine Y.x_isB ?_))
  | ((with_reducible refine Y.is_isn ?_); first
    | (with_reducible refine Y.x_isnN ?_)
    | (with_reducible refine Y.x_isnI ?_)
    | (with_reducible refine Y.x_isnR ?_)
    | (with_reducible refine Y.x_isnB ?_))
  | ((with_reducible refine Y.is_ix ?_); first
    | ((with_reducible refine' Y.x_ixL ?F ?m ?a ?_); (case F => assumption); (case m => walk_at "y mem"); (case a => walk_at "y at"))
    | ((with_reducible refine' Y.x_ixT ?F ?m ?a ?_); (case F => assumption); (case m => walk_at "y mem"); (case a => walk_at "y at"))
    | ((with_reducible refine' Y.x_ixR ?F ?m ?a ?_); (case F => assumption); (case m => walk_at "y mem"); (case a => walk_at "y at"))
    | ((with_reducible refine' Y.x_ixS ?ms ?a ?_); (case ms => assumption); (case a => walk_at "y at")))
  | ((with_reducible refine Y.is_len ?_); first
    | ((with_reducible refine' Y.x_lenL ?F ?m ?_); (case F => assumption); (case m => walk_at "y mem"))
    | ((with_reducible refine' Y.x_lenT ?F ?m ?_); (case F => assumption); (case m => walk_at "y mem"))
    | ((with_reducible refine' Y.x_lenR ?F ?m ?_); (case F => assumption); (case m => walk_at "y mem"))
    | ((with_reducible refine' Y.x_lenS ?ms ?_); (case ms => assumption)))
  | ((with_reducible refine Y.is_sl ?_); first
    | ((with_reducible refine' Y.x_sl1 ?F ?m ?_); (case F => assumption); (case m => walk_at "y mem"); intro _ _ _ _)
    | ((with_reducible refine' Y.x_slp1 ?F ?m ?_); (case F => assumption); (case m => walk_at "y mem"); intro _ _ _ _)
    | ((with_reducible refine' Y.x_slp2 ?F ?m ?_); (case F => assumption); (case m => walk_at "y mem"); intro _ _ _ _)
    | ((with_reducible refine' Y.x_slp3 ?F ?m ?_); (case F => assumption); (case m => walk_at "y mem"); intro _ _ _ _)
    | ((with_reducible refine' Y.x_slp4 ?F ?m ?_); (case F => assumption); (case m => walk_at "y mem"); intro _ _ _ _)
    | ((with_reducible refine' Y.x_slp5 ?F ?m ?_); (case F => assumption); (case m => walk_at "y mem"); intro _ _ _ _)
    | ((with_reducible refine' Y.x_slp6 ?F ?m ?_); (case F => assumption); (case m => walk_at "y mem"); intro _ _ _ _)
    | ((with_reducible refine' Y.x_slp7 ?F ?m ?_); (case F => assumption); (case m => walk_at "y mem"); intro _ _ _ _)
    | ((with_reducible refine' Y.x_slp8 ?F ?m ?_); (case F => assumption); (case m => walk_at "y mem"); intro _ _ _ _)
    | ((with_reducible refine' Y.x_slL ?F ?m ?_); (case F => assumption); (case m => walk_at "y mem"); intro _ _ _ _)
    | ((with_reducible refine' Y.x_slR ?F ?m ?_); (case F => assumption); (case m => walk_at "y mem"); intro _ _ _ _)
    | ((with_reducible refine' Y.x_slS ?F ?ms ?_); (case F => assumption); (case ms => assumption); intro _ _ _ _))
  | (with_reducible refine Y.x_lt ?_)
  | (with_reducible refine Y.x_le ?_)
  | (with_reducible refine Y.x_gt ?_)
  | (with_reducible refine Y.x_ge ?_)
  | (with_reducible refine Y.x_intI ?_)
  | (with_reducible refine Y.x_not ?_)
  | (with_reducible refine Y.x_and ?_)
  | (with_reducible refine Y.x_or ?_)
  | (with_reducible refine Y.x_tB ?_)
  | (with_reducible refine Y.x_chain ?_)
  | (with_reducible refine Y.x_andV ?_)
  | (with_reducible refine Y.x_orV ?_)
  | (with_reducible refine Y.x_notV ?_)
  | (with_reducible refine Y.x_con ?_)
  | (with_reducible refine Y.x_fld ?_)
  | (with_reducible refine Y.x_gsub ?_)
  | (with_reducible refine Y.x_meth ?_)
  | (with_reducible refine Y.x_lst ?_)
  | (with_reducible refine Y.x_tup ?_)
  | (with_reducible refine Y.x_apd ?_)
  | (with_reducible refine Y.x_setF ?_)
  | (with_reducible refine Y.x_drop ?_)
  | ((with_reducible refine Y.is_isi ?_); first
    | (with_reducible refine Y.x_isi_int_int ?_)
    | (with_reducible refine Y.x_isi_int_bool ?_)
    | (with_reducible refine Y.x_isi_int_str ?_)
    | (with_reducible refine Y.x_isi_int_list ?_)
    | (with_reducible refine Y.x_isi_int_tuple ?_)
    | (with_reducible refine Y.x_isi_int_dict ?_)
    | (with_reducible refine Y.x_isi_bool_int ?_)
    | (with_reducible refine Y.x_isi_bool_bool ?_)
    | (with_reducible refine Y.x_isi_bool_str ?_)
    | (with_reducible refine Y.x_isi_bool_list ?_)
    | (with_reducible refine Y.x_isi_bool_tuple ?_)
    | (with_reducible refine Y.x_isi_bool_dict ?_)
    | (with_reducible refine Y.x_isi_str_int ?_)
    | (with_reducible refine Y.x_isi_str_bool ?_)
    | (with_reducible refine Y.x_isi_str_str ?_)
    | (with_reducible refine Y.x_isi_str_list ?_)
    | (with_reducible refine Y.x_isi_str_tuple ?_)
    | (with_reducible refine Y.x_isi_str_dict ?_)
    | (with_reducible refine Y.x_isi_NoneType_int ?_)
    | (with_reducible refine Y.x_isi_NoneType_bool ?_)
    | (with_reducible refine Y.x_isi_NoneType_str ?_)
    | (with_reducible refine Y.x_isi_NoneType_list ?_)
    | (with_reducible refine Y.x_isi_NoneType_tuple ?_)
    | (with_reducible refine Y.x_isi_NoneType_dict ?_)
    | ((with_reducible refine' Y.x_isr_list_int ?F ?m ?_); (case F => assumption); (case m => walk_at "y mem"))
    | ((with_reducible refine' Y.x_isr_list_bool ?F ?m ?_); (case F => assumption); (case m => walk_at "y mem"))
    | ((with_reducible refine' Y.x_isr_list_str ?F ?m ?_); (case F => assumption); (case m => walk_at "y mem"))
    | ((with_reducible refine' Y.x_isr_list_list ?F ?m ?_); (case F => assumption); (case m => walk_at "y mem"))
    | ((with_reducible refine' Y.x_isr_list_tuple ?F ?m ?_); (case F => assumption); (case m => walk_at "y mem"))
    | ((with_reducible refine' Y.x_isr_list_dict ?F ?m ?_); (case F => assumption); (case m => walk_at "y mem"))
    | ((with_reducible refine' Y.x_isr_tuple_int ?F ?m ?_); (case F => assumption); (case m => walk_at "y mem"))
    | ((with_reducible refine' Y.x_isr_tuple_bool ?F ?m ?_); (case F => assumption); (case m => walk_at "y mem"))
    | ((with_reducible refine' Y.x_isr_tuple_str ?F ?m ?_); (case F => assumption); (case m => walk_at "y mem"))
    | ((with_reducible refine' Y.x_isr_tuple_list ?F ?m ?_); (case F => assumption); (case m => walk_at "y mem"))
    | ((with_reducible refine' Y.x_isr_tuple_tuple ?F ?m ?_); (case F => assumption); (case m => walk_at "y mem"))
    | ((with_reducible refine' Y.x_isr_tuple_dict ?F ?m ?_); (case F => assumption); (case m => walk_at "y mem")))
  | (with_reducible refine Y.x_tIf ?_)
  | (with_reducible refine Y.x_un ?_)
  | (with_reducible refine Y.x_retN ?_)
  | (with_reducible refine Y.x_brk ?_)
  | (with_reducible refine Y.x_cont ?_)
  | (with_reducible refine Y.x_cmeth ?_)
  | (with_reducible refine Y.x_raw ?_)
  | (with_reducible refine Y.x_make ?_)
  | (with_reducible refine Y.x_app' ?_)
  | (with_reducible refine Y.x_sl ?_)
  | (with_reducible refine Y.x_nopart ?_)
  | (with_reducible refine Y.x_part ?_)
  | (with_reducible refine Y.x_niteT ?_)
  | (with_reducible refine Y.x_niteF ?_)
  | (with_reducible refine Y.x_initEnd ?_)
  | (with_reducible refine Y.x_neg ?_)
  | (with_reducible refine Y.x_band ?_)
  | (with_reducible refine Y.x_intB ?_)
  | (with_reducible refine Y.x_augA ?_)
  | (with_reducible refine Y.x_augS ?_)
  | (with_reducible refine Y.x_forR1 ?_)
  | (with_reducible refine Y.x_forR2 ?_)
  | (with_reducible refine Y.x_forE ?_)
  | (with_reducible refine Y.x_lcE ?_)
  | (with_reducible refine Y.x_yes ?_)
  | (with_reducible refine Y.x_int1 ?_)
  | (with_reducible refine Y.x_int2 ?_)
  | (with_reducible refine Y.x_forK0 ?_)
  | (with_reducible refine Y.x_forK ?_)
  | (with_reducible refine Y.x_chn ?_)
  | (with_reducible refine Y.x_clast ?_)
  | (with_reducible refine Y.x_clink ?_)
  | (with_reducible refine Y.x_bits ?_)
  | (with_reducible refine Y.x_forKS ?_)
  | (with_reducible refine Y.x_forKS0 ?_)
  | (with_reducible refine Y.x_lcKS ?_)
  | (with_reducible refine Y.x_lcKS0 ?_)
  | (with_reducible refine Y.x_abs ?_)
  | (with_reducible refine Y.x_min2 ?_)
  | (with_reducible refine Y.x_max2 ?_)
  | (with_reducible refine Y.x_prop ?_)
  | (with_reducible refine Y.x_augF ?_)
  | (with_reducible refine Y.x_inAdd ?_)
  | (with_reducible refine Y.x_inSub ?_)
  | ((with_reducible refine Y.is_au ?_); first
    | (with_reducible refine Y.x_au0 ?_)
    | (with_reducible refine Y.x_au1 ?_)
    | (with_reducible refine Y.x_au2 ?_)
    | (with_reducible refine Y.x_au3 ?_)
    | (with_reducible refine Y.x_au4 ?_)
    | (with_reducible refine Y.x_au5 ?_)
    | (with_reducible refine Y.x_au6 ?_)
    | (with_reducible refine Y.x_au7 ?_)
    | (with_reducible refine Y.x_au8 ?_)
    | (with_reducible refine Y.x_au9 ?_)
    | (with_reducible refine Y.x_au10 ?_)
    | (with_reducible refine Y.x_au11 ?_)
    | (with_reducible refine Y.x_au12 ?_)
    | (with_reducible refine Y.x_au13 ?_)
    | (with_reducible refine Y.x_au14 ?_)
    | (with_reducible refine Y.x_au15 ?_)
    | (with_reducible refine Y.x_au16 ?_)
    | (with_reducible refine Y.x_au17 ?_)
    | (with_reducible refine Y.x_au18 ?_)
    | (with_reducible refine Y.x_au19 ?_)
    | (with_reducible refine Y.x_au20 ?_)
    | (with_reducible refine Y.x_au21 ?_)
    | (with_reducible refine Y.x_au22 ?_)
    | (with_reducible refine Y.x_au23 ?_))
  | ((with_reducible refine Y.is_ml ?_); first
    | (with_reducible refine Y.x_ml0 ?_)
    | (with_reducible refine Y.x_ml1 ?_))
  | (with_reducible refine Y.x_raise ?_)
  | (with_reducible refine Y.x_raiseS ?_)
  | (with_reducible refine Y.x_try ?_)
  | (with_reducible refine Y.x_cS ?_)
  | (with_reducible refine Y.x_mS ?_)
  | (with_reducible refine Y.x_newS ?_)
  | (with_reducible refine Y.x_xf ?_)
  | ((with_reducible refine Y.is_d ?_); first
    | (with_reducible refine Y.x_d0 ?_)
    | (with_reducible refine Y.x_d1 ?_)
    | (with_reducible refine Y.x_d2 ?_)
    | (with_reducible refine Y.x_d3 ?_)
    | (with_reducible refine Y.x_d4 ?_)
    | (with_reducible refine Y.x_d5 ?_)
    | (with_reducible refine Y.x_d6 ?_)
    | (with_reducible refine Y.x_d7 ?_)
    | (with_reducible refine Y.x_d8 ?_)
    | (with_reducible refine Y.x_d9 ?_)
    | (with_reducible refine Y.x_d10 ?_)
    | (with_reducible refine Y.x_d11 ?_)
    | (with_reducible refine Y.x_d12 ?_)
    | (with_reducible refine Y.x_d13 ?_)
    | (with_reducible refine Y.x_d14 ?_)
    | (with_reducible refine Y.x_d15 ?_)
    | (with_reducible refine Y.x_d16 ?_)
    | (with_reducible refine Y.x_d17 ?_)
    | (with_reducible refine Y.x_d18 ?_)
    | (with_reducible refine Y.x_d19 ?_)
    | (with_reducible refine Y.x_d20 ?_)
    | (with_reducible refine Y.x_d21 ?_)
    | (with_reducible refine Y.x_d22 ?_)
    | (with_reducible refine Y.x_d23 ?_))
  | ((with_reducible refine' Y.x_strI ?c ?_); (case c => omega))
  | ((with_reducible refine' Y.x_mod ?c ?_); (case c => first | omega | decide | walk_at "y side"))
  | ((with_reducible refine' Y.x_fdiv ?c ?_); (case c => first | exact Y.div_small (by omega) (by omega) | walk_at "y side"))
  | ((with_reducible refine' Y.x_mul ?c ?_); (case c => first | exact Y.mulR (by omega) (by omega) | exact Y.mulL (by omega) (by omega) | walk_at "y side"))
  | ((with_reducible refine Y.is_pow ?_); first
    | (with_reducible refine Y.x_pw10_1 ?_)
    | (with_reducible refine Y.x_pw10_2 ?_)
    | (with_reducible refine Y.x_pw10_3 ?_)
    | (with_reducible refine Y.x_pw10_4 ?_)
    | (with_reducible refine Y.x_pw10_5 ?_)
    | (with_reducible refine Y.x_pw10_6 ?_)
    | (with_reducible refine Y.x_pw10_7 ?_)
    | (with_reducible refine Y.x_pw10_8 ?_)
    | (with_reducible refine Y.x_pw10_9 ?_)
    | (with_reducible refine Y.x_pw10_10 ?_)
    | (with_reducible refine Y.x_pw10_11 ?_)
    | (with_reducible refine Y.x_pw10_12 ?_)
    | (with_reducible refine Y.x_pw10_13 ?_)
    | (with_reducible refine Y.x_pw10_14 ?_)
    | (with_reducible refine Y.x_pw10_15 ?_)
    | (with_reducible refine Y.x_pw10_16 ?_)
    | (with_reducible refine Y.x_pw10_17 ?_)
    | (with_reducible refine Y.x_pw10_18 ?_)
    | (with_reducible refine Y.x_pw10_19 ?_)
    | (with_reducible refine Y.x_pw10_20 ?_)
    | (with_reducible refine Y.x_pw10_21 ?_)
    | (with_reducible refine Y.x_pw10_22 ?_)
    | (with_reducible refine Y.x_pw10_23 ?_)
    | (with_reducible refine Y.x_pw10_24 ?_)
    | (with_reducible refine Y.x_pw2_6 ?_)
    | (with_reducible refine Y.x_pw2_10 ?_)
    | (with_reducible refine Y.x_pw2_16 ?_)
    | (with_reducible refine Y.x_pw2_20 ?_)
    | (with_reducible refine Y.x_pw2_30 ?_)
    | (with_reducible refine Y.x_pw2_31 ?_)
    | (with_reducible refine Y.x_pw2_32 ?_)
    | (with_reducible refine Y.x_pw2_40 ?_)
    | (with_reducible refine Y.x_pw2_48 ?_)
    | (with_reducible refine Y.x_pw2_60 ?_)
    | (with_reducible refine Y.x_pw2_62 ?_)
    | (with_reducible refine Y.x_pw2_63 ?_)
    | (with_reducible refine Y.x_pw2_64 ?_))
  | ((with_reducible refine' Y.x_pow ?c ?_); (case c => first | exact ⟨by decide, by decide, by decide⟩ | walk_at "y side"))
  | ((with_reducible refine' Y.x_shl ?c ?_); (case c => first | exact ⟨by omega, by omega, by decide⟩ | walk_at "y side"))
  | ((with_reducible refine' Y.x_wipe ?e ?_); (case e => rfl))
  | ((with_reducible refine' Y.x_lcPut ?F ?pu ?sz ?_); (case F => assumption); (case pu => walk_at "y put"); (case sz => walk_at "y size"); intro _ _)
  | ((with_reducible refine' Y.x_setA0 ?F ?m ?pu ?_); (case F => assumption); (case m => walk_at "y mem"); (case pu => walk_at "y put"); intro _ _)
  | ((with_reducible refine' Y.x_setA1 ?F ?m ?pu ?_); (case F => assumption); (case m => walk_at "y mem"); (case pu => walk_at "y put"); intro _ _)
  | ((with_reducible refine' Y.x_setA2 ?F ?m ?pu ?_); (case F => assumption); (case m => walk_at "y mem"); (case pu => walk_at "y put"); intro _ _)
  | ((with_reducible refine' Y.x_setA3 ?F ?m ?pu ?_); (case F => assumption); (case m => walk_at "y mem"); (case pu => walk_at "y put"); intro _ _)
  | ((with_reducible refine' Y.x_setA4 ?F ?m ?pu ?_); (case F => assumption); (case m => walk_at "y mem"); (case pu => walk_at "y put"); intro _ _)
  | ((with_reducible refine' Y.x_setA5 ?F ?m ?pu ?_); (case F => assumption); (case m => walk_at "y mem"); (case pu => walk_at "y put"); intro _ _)
  | ((with_reducible refine' Y.x_setA6 ?F ?m ?pu ?_); (case F => assumption); (case m => walk_at "y mem"); (case pu => walk_at "y put"); intro _ _)
  | ((with_reducible refine' Y.x_setA7 ?F ?m ?pu ?_); (case F => assumption); (case m => walk_at "y mem"); (case pu => walk_at "y put"); intro _ _)
  | ((with_reducible refine' Y.x_setA8 ?F ?m ?pu ?_); (case F => assumption); (case m => walk_at "y mem"); (case pu => walk_at "y put"); intro _ _)
  | ((with_reducible refine' Y.x_setA9 ?F ?m ?pu ?_); (case F => assumption); (case m => walk_at "y mem"); (case pu => walk_at "y put"); intro _ _)
  | ((with_reducible refine' Y.x_mkC1 ?F ?_); (case F => assumption); intro _ _ _)
  | ((with_reducible refine' Y.x_mkC2 ?F ?_); (case F => assumption); intro _ _ _)
  | ((with_reducible refine' Y.x_newSG ?F ?_); (case F => assumption); intro _ _ _ _)
  | ((with_reducible refine' Y.x_wTs ?mt ?rf ?_); (case mt => walk_at "y mem"); (case rf => rfl); intro _)
  | ((with_reducible refine' Y.x_wTn ?mt ?rf ?_); (case mt => walk_at "y mem"); (case rf => rfl); intro _)
  | ((with_reducible refine' Y.x_xfG ?F ?m ?mt ?l ?_); (case F => assumption); (case m => walk_at "y mem"); (case mt => walk_at "y mem"); (case l => walk_at "y field"))
  | ((with_reducible refine' Y.x_isX ?F ?m ?mt ?_); (case F => assumption); (case m => walk_at "y mem"); (case mt => walk_at "y mem"))
  | ((with_reducible refine' Y.x_isXi  ?_); )
  | ((with_reducible refine' Y.x_fldG ?F ?m ?l ?_); (case F => assumption); (case m => walk_at "y mem"); (case l => walk_at "y field"))
  | ((with_reducible refine' Y.x_methG ?F ?m ?l ?_); (case F => assumption); (case m => walk_at "y mem"); (case l => walk_at "y field"))
  | ((with_reducible refine' Y.x_inOwnF ?F ?m ?_); (case F => assumption); (case m => walk_at "y mem"))
  | ((with_reducible refine' Y.x_inOwnT ?F ?m ?_); (case F => assumption); (case m => walk_at "y mem"))
  | ((with_reducible refine' Y.x_setFG ?F ?m ?z ?e ?pu ?_); (case F => assumption); (case m => walk_at "y mem"); (case z => walk_at "y size"); (case e => walk_at "y putf"); (case pu => walk_at "y put"); intro _ _)
  | ((with_reducible refine' Y.x_setL ?F ?m ?ax ?pu ?_); (case F => assumption); (case m => walk_at "y mem"); (case ax => walk_at "y ix"); (case pu => walk_at "y put"); intro _ _)
  | ((with_reducible refine' Y.x_apdG ?F ?m ?_); (case F => assumption); (case m => walk_at "y mem"))
  | ((with_reducible refine' Y.x_append ?F ?m ?z ?pu ?_); (case F => assumption); (case m => walk_at "y mem"); (case z => walk_at "y size"); (case pu => walk_at "y put"); intro _ _)
  | ((with_reducible refine' Y.x_lstG ?F ?z ?_); (case F => assumption); (case z => walk_at "y size"); intro _ _ _ _)
  | ((with_reducible refine' Y.x_tupG ?F ?z ?_); (case F => assumption); (case z => walk_at "y size"); intro _ _ _ _)
  | ((with_reducible refine' Y.x_makeG ?F ?_); (case F => assumption); intro _ _ _ _)
  | ((with_reducible refine' Y.x_allT ?F ?m ?_); (case F => assumption); (case m => walk_at "y mem"))
  | ((with_reducible refine' Y.x_rdT ?F ?m ?_); (case F => assumption); (case m => walk_at "y mem"))
  | ((with_reducible refine' Y.x_rdL ?F ?m ?_); (case F => assumption); (case m => walk_at "y mem"))
  | ((with_reducible refine' Y.forTU ?F ?m ?_); (case F => assumption); (case m => walk_at "y mem"))
  | ((with_reducible refine' Y.x_sumL ?F ?m ?_); (case F => assumption); (case m => walk_at "y mem"))
  | ((with_reducible refine' Y.x_cat ?F ?m ?n ?z ?_); (case F => assumption); (case m => walk_at "y mem"); (case n => walk_at "y mem"); (case z => walk_at "y size"); intro _ _ _ _)
  | ((with_reducible refine' Y.x_propG ?F ?m ?_); (case F => assumption); (case m => walk_at "y mem"))
  | ((with_reducible refine' Y.x_augFG ?F ?m ?l ?_); (case F => assumption); (case m => walk_at "y mem"); (case l => walk_at "y field"))
  | ((with_reducible refine' Y.x_augFS ?F ?m ?z ?e ?pu ?_); (case F => assumption); (case m => walk_at "y mem"); (case z => walk_at "y size"); (case e => walk_at "y putf"); (case pu => walk_at "y put"); intro _ _))
local macro_rules | `(tactic| walk_at "y if") => `(tactic| first
  | ((with_reducible refine Y.x_ite ?_ ?_); all_goals (intro _; try (exfalso; omega)))
  | ((with_reducible refine Y.x_niteP ?_ ?_); all_goals (intro _; try (exfalso; omega)))
  | ((with_reducible refine Y.x_itec ?_ ?_); all_goals intro _)
  | ((with_reducible refine Y.x_nitec ?_ ?_); all_goals intro _))
local macro_rules | `(tactic| walk_at "y") => `(tactic| repeat' (first | walk_at "y 1" | walk_at "y if" | walk_at "y spec"))

/-! the bag of the draws -/
abbrev BagA := Addr × Addr × List Int × List Int × Int × Int
def bagE (p : Addr) (b : BagA) : List Ent := [(p, Is (.lst [.ref b.1, .ref b.2.1, .int b.2.2.2.2.1, .int b.2.2.2.2.2])), (b.1, Is (.lst (b.2.2.1.map V.int))), (b.2.1, Is (.lst (b.2.2.2.1.map V.int)))]
def bagP (b : BagA) : Prop := (∀ n ∈ b.2.2.1, 0 ≤ n) ∧ b.2.2.1.length ≤ 63 ∧ (∀ n ∈ b.2.2.2.1, 0 ≤ n ∧ n < 2147483647) ∧ b.2.2.2.1.length ≤ 63
def Bag : Pr := comp bagE bagP
theorem take_ok {a : Cl} {H : Hp} {L : List Ent} {p : Addr} {n : Int} {Q : VK} {E : XK} (F : FH H L) (m : (p, Bag) ∈ L) (hn : 0 < n) (hn2 : n ≤ 1000000000000) (k : ∀ r H', 0 ≤ r → r < n → FH H' L → Q (.int r) H') : sp_take a [.ref p, .int n] H Q E := by
  obtain ⟨R, hR⟩ := pull m
  obtain ⟨⟨g, c, gs, cs, i, s⟩, ⟨h1, h2, h3, h4⟩, F1⟩ := (F.perm hR).unfold
  have fin : ∀ (r : Int) (g' : Addr) (gs' : List Int) (i' : Int) (H' : Hp), 0 ≤ r → r < n → (∀ n ∈ gs', 0 ≤ n) → gs'.length ≤ 63 → FH H' ((p, Is (.lst [.ref g', .ref c, .int i', .int s])) :: (g', Is (.lst (gs'.map V.int))) :: (c, Is (.lst (cs.map V.int))) :: R) → Q (.int r) H' := fun r g' gs' i' H' b1 b2 b3 b4 F' =>
    k r H' b1 b2 ((FH.fold (E := bagE) (P := bagP) (g', c, gs', cs, i', s) ⟨b3, b4, h3, h4⟩ F' (List.mem_cons_self)).perm hR.symm)
  clear k F m hR
  have F2 : FH H ((p, Is (.lst [.ref g, .ref c, .int i, .int s])) :: (g, Is (.lst (gs.map V.int))) :: (c, Is (.lst (cs.map V.int))) :: R) := F1
  clear F1
  refine in_take ?_
  cases gs with
  | nil =>
    cases cs with
    | nil =>
      walk_at "y"
      exact fin _ _ [] _ _ (Int.emod_nonneg _ (by omega)) (Int.emod_lt_of_pos _ hn) h1 h2 (FH.sel (by assumption) (by walk_at "y sel"))
    | cons z zs =>
      have e0 : ((List.map V.int (z :: zs)).length : Int) = zs.length + 1 := by simp
      have e1 := Int.emod_nonneg (i + 1) (show ((List.map V.int (z :: zs)).length : Int) ≠ 0 by omega)
      have e2 := Int.emod_lt_of_pos (i + 1) (show 0 < ((List.map V.int (z :: zs)).length : Int) by omega)
      walk_at "y"
      exact fin _ _ [] _ _ (Int.emod_nonneg _ (by omega)) (Int.emod_lt_of_pos _ hn) h1 h2 (FH.sel (by assumption) (by walk_at "y sel"))
  | cons y ys =>
    simp only [List.length_cons] at h2
    have hy := h1 y List.mem_cons_self
    have hys : ∀ n ∈ ys, 0 ≤ n := fun n m => h1 n (List.mem_cons_of_mem _ m)
    walk_at "y"
    · exact fin _ _ (y / n :: ys) _ _ (Int.emod_nonneg _ (by omega)) (Int.emod_lt_of_pos _ hn) (fun z m => (List.mem_cons.mp m).elim (fun e => by rw [e]; exact Int.ediv_nonneg hy (by omega)) (hys z)) (by simp only [List.length_cons]; exact h2) (FH.sel (by assumption) (by walk_at "y sel"))
    · exact fin _ _ ys _ _ (Int.emod_nonneg _ (by omega)) (Int.emod_lt_of_pos _ hn) hys (by omega) (FH.sel (by assumption) (by walk_at "y sel"))

local macro_rules | `(tactic| walk_at "y spec") => `(tactic| first
  | ((with_reducible refine' take_ok ?F ?m ?hn ?hn2 ?_); (case F => assumption); (case m => walk_at "y mem"); (case hn => first | omega | exact Int.emod_nonneg _ (by omega) | exact Int.emod_lt_of_pos _ (by omega)); (case hn2 => first | omega | exact Int.emod_nonneg _ (by omega) | exact Int.emod_lt_of_pos _ (by omega)); intro _ _ _ _ _))

theorem bag_ok {a : Cl} {H : Hp} {L : List Ent} {q : Addr} {ns : List Int} {Q : VK} {E : XK} (F : FH H L) (m : Src a.S L q (ns.map V.int)) (hl : ns.length ≤ 63) (k : ∀ p H', FH H' ((p, Bag) :: L) → Q (.ref p) H') : sp_bag a [.ref q] H Q E := by
  refine in_bag ?_
  walk_at "y"
  refine lcIK (σw := [some (.ref q), none, none, none]) (fun i => if i < 0 then -i else i) (fun i => decide (1000000000000000000 ≤ if i < 0 then -i else i)) F m (by omega) rfl (fun y H QX A hy F' hk hA => ?_) fun D H' F' => ?_
  · walk_at "y"
    · exact hk (decide_eq_true (by assumption))
    · exact hA (decide_eq_false (by assumption))
  · have g1 : ∀ n ∈ (ns.filter fun i => decide (1000000000000000000 ≤ if i < 0 then -i else i)).map (fun i => if i < 0 then -i else i), 0 ≤ n := fun n hn => by
      obtain ⟨i, _, e⟩ := List.mem_map.mp hn
      subst e
      show 0 ≤ if i < 0 then -i else i
      split <;> omega
    have g2 : ((ns.filter fun i => decide (1000000000000000000 ≤ if i < 0 then -i else i)).map (fun i => if i < 0 then -i else i)).length ≤ 63 := by
      rw [List.length_map]
      exact Nat.le_trans (List.length_filter_le _ _) hl
    generalize (ns.filter fun i => decide (1000000000000000000 ≤ if i < 0 then -i else i)).map (fun i => if i < 0 then -i else i) = gs at F' g1 g2
    walk_at "y"
    refine lcII (σw := [some (.ref q), some (.ref D), none, none]) (fun i => i % 2147483647) F' (by walk_at "y src") (by omega) rfl (fun y H QX hy F' hk => ?_) fun D2 H2 F2 => ?_
    · walk_at "y"
      exact hk
    · have g3 : ∀ n ∈ ns.map (fun i => i % 2147483647), 0 ≤ n ∧ n < 2147483647 := fun n hn => by
        obtain ⟨i, _, e⟩ := List.mem_map.mp hn
        subst e
        exact ⟨Int.emod_nonneg _ (by decide), Int.emod_lt_of_pos _ (by decide)⟩
      have g4 : (ns.map (fun i => i % 2147483647)).length ≤ 63 := by rw [List.length_map]; exact hl
      generalize ns.map (fun i => i % 2147483647) = cs at F2 g3 g4
      walk_at "y"
      rename_i p H3 _ F3
      refine k p H3 (FH.fold (E := bagE) (P := bagP) (D, D2, gs, cs, 0, cs.sum % 2147483629) ⟨g1, g2, g3, g4⟩ (FH.sel F3 ?_) List.mem_cons_self)
      show Sel ((p, Is (.lst [.ref D, .ref D2, .int 0, .int (cs.sum % 2147483629)])) :: (D, Is (.lst (gs.map V.int))) :: (D2, Is (.lst (cs.map V.int))) :: L) _
      walk_at "y sel"

theorem whole_ok {a : Cl} {H : Hp} {i : Int} {Q : VK} {E : XK} (k : Q (.bl true) H) : sp_is_whole a [.int i] H Q E := by
  refine in_is_whole ?_
  walk_at "y"
  exact k
theorem whole2_ok {a : Cl} {H : Hp} {i : Int} {Q : VK} {E : XK} (k : Q (.bl true) H) : sp_whole a [.int i] H Q E := by
  refine in_whole ?_
  walk_at "y"
  exact k
local macro_rules | `(tactic| walk_at "y spec") => `(tactic| (with_reducible refine whole_ok ?_))
theorem range_ok {a : Cl} {H : Hp} {i l h : Int} {Q : VK} {E : XK} (k : Q (.bl (decide (l ≤ i ∧ i ≤ h))) H) : sp_in_range a [.int i, .int l, .int h] H Q E := by
  refine in_in_range ?_
  walk_at "y"
  · have e : decide (l ≤ i ∧ i ≤ h) = decide (i ≤ h) := by rw [Bool.eq_iff_iff]; simp; omega
    rw [e] at k; exact k
  · have e : decide (l ≤ i ∧ i ≤ h) = false := by rw [decide_eq_false_iff_not]; omega
    rw [e] at k; exact k
theorem lesser_ok {a : Cl} {H : Hp} {i j : Int} {Q : VK} {E : XK} (k : Q (.int (min i j)) H) : sp_lesser a [.int i, .int j] H Q E := by
  refine in_lesser ?_
  walk_at "y"
  · rw [show min i j = i by omega] at k; exact k
  · rw [show min i j = j by omega] at k; exact k
theorem greater_ok {a : Cl} {H : Hp} {i j : Int} {Q : VK} {E : XK} (k : Q (.int (max i j)) H) : sp_greater a [.int i, .int j] H Q E := by
  refine in_greater ?_
  walk_at "y"
  · rw [show max i j = i by omega] at k; exact k
  · rw [show max i j = j by omega] at k; exact k
/-! all([whole(x) for x in l]), l a list of integers -/
def isI : V → Bool
  | .int _ => true
  | _ => false
theorem wipe1 {σ : L2.St} {i : Nat} {y : V} (h : σ[i]? = some none) : wipe (σ.set i (some y)) [i] = σ := by
  show (σ.set i (some y)).set i none = σ
  rw [List.set_set]
  refine List.ext_getElem? fun j => ?_
  by_cases e : i = j
  · subst e
    rw [List.getElem?_set_self (by have := (List.getElem?_eq_some_iff.mp h).1; exact this), h]
  · rw [List.getElem?_set_ne e]
theorem all_whole {a : Cl} {L : List Ent} {p : Addr} {xs : List V} {i : Nat} {σ : L2.St} {H : Hp} {K : VK} (F : FH H L) (m : (p, Is (.lst xs)) ∈ L) (hx : xs.all isI = true) (z : Nat.blt xs.length 16777216 = true) (hn : σ[i]? = some none) (ew : wipe σ [i] = σ)
    (k : ∀ D H', FH H' ((D, AllT) :: L) → K (.ref D) H') : LcS a.S (gName i) tYes (tCall (sp_whole a) [] E0 (tCons (tVar i) tNil)) [i] K (.ref p) σ H := by
  refine lcT F (.is m) (by simpa [Nat.blt_eq] using z) ew (fun y H QX hy F' hk => ⟨wipe1 hn, ?_⟩) k
  have hy := List.all_eq_true.mp hx y hy
  cases y with
  | int n => exact ⟨.int n, by rw [List.getElem?_set_self (List.getElem?_eq_some_iff.mp hn).1], whole2_ok hk⟩
  | _ => cases hy

/-! values that are refused -/
def OddS (v : V) : Prop := v = .non ∨ (∃ b, v = .bl b) ∨ ∃ s, v = .str s
def OddO (o : HO) : Prop := (∃ xs, o = .tup xs ∧ xs.all flatOk = true ∧ eqvF xs xs = true) ∨ ∃ xs, o = .lst xs ∧ xs.all flatOk = true ∧ eqvF xs xs = true
/-- a value that is no integer, or an integer with P; the objects in R -/
inductive Bad (P : Int → Prop) (R : List Ent) : V → Prop
  | int (i : Int) (h : P i) : Bad P R (.int i)
  | non : Bad P R .non
  | bl (b : Bool) : Bad P R (.bl b)
  | str (s : Str) : Bad P R (.str s)
  | tup (q : Addr) (xs : List V) (m : (q, Is (.tup xs)) ∈ R) (f : xs.all flatOk = true) (e : eqvF xs xs = true) : Bad P R (.ref q)
  | lst (q : Addr) (xs : List V) (m : (q, Is (.lst xs)) ∈ R) (f : xs.all flatOk = true) (e : eqvF xs xs = true) : Bad P R (.ref q)
theorem Bad.sub {P P' : Int → Prop} {R R' : List Ent} {v : V} (b : Bad P R v) (hp : ∀ i, P i → P' i) (hr : ∀ x ∈ R, x ∈ R') : Bad P' R' v := by
  cases b with
  | int i h => exact .int i (hp i h)
  | non => exact .non
  | bl b => exact .bl b
  | str s => exact .str s
  | tup q xs m f e => exact .tup q xs (hr _ m) f e
  | lst q xs m f e => exact .lst q xs (hr _ m) f e
theorem OddS.bad {P : Int → Prop} {R : List Ent} {v : V} (h : OddS v) : Bad P R v := by
  rcases h with rfl | ⟨b, rfl⟩ | ⟨s, rfl⟩
  · exact .non
  · exact .bl b
  · exact .str s
theorem OddO.bad {P : Int → Prop} {R : List Ent} {q : Addr} {o : HO} (h : OddO o) (m : (q, Is o) ∈ R) : Bad P R (.ref q) := by
  rcases h with ⟨xs, rfl, f, e⟩ | ⟨xs, rfl, f, e⟩
  · exact .tup q xs m f e
  · exact .lst q xs m f e
local macro_rules | `(tactic| walk_at "y bad") => `(tactic| first | assumption | (refine Bad.sub (by assumption) (fun _ h => h) ?_; intro x m; walk_at "y mem"))
local macro_rules | `(tactic| walk_at "y spec") => `(tactic| fail "spec")
theorem whole_bad {a : Cl} {H : Hp} {L : List Ent} {v : V} {P : Int → Prop} {Q : VK} {E : XK} (F : FH H L) (b : Bad P L v) (k0 : ∀ i, v = .int i → P i → Q (.bl true) H) (k1 : Q (.bl false) H) : sp_is_whole a [v] H Q E := by
  refine in_is_whole ?_
  cases b with
  | int i h =>
    walk_at "y"
    exact k0 i rfl h
  | _ =>
    walk_at "y"
    exact k1
local macro_rules | `(tactic| walk_at "y spec") => `(tactic| first | (with_reducible refine whole_ok ?_) | ((with_reducible refine' whole_bad ?F ?b ?k0 ?k1); (case F => assumption); (case b => walk_at "y bad"); (all_goals intros)))
theorem range_bad {a : Cl} {H : Hp} {L : List Ent} {v : V} {l h : Int} {Q : VK} {E : XK} (F : FH H L) (b : Bad (fun i => i < l ∨ h < i) L v) (k : Q (.bl false) H) : sp_in_range a [v, .int l, .int h] H Q E := by
  cases b with
  | int i hi =>
    refine range_ok ?_
    rw [decide_eq_false (by omega)]
    exact k
  | _ =>
    refine in_in_range ?_
    repeat' walk_at "y 1"
    refine whole_bad (P := fun _ => False) F (by first | exact .non | exact .bl _ | exact .str _ | exact .tup _ _ (by assumption) (by assumption) (by assumption) | exact .lst _ _ (by assumption) (by assumption) (by assumption)) (fun i e h => h.elim) ?_
    walk_at "y"
    exact k
theorem whole_non {a : Cl} {H : Hp} {Q : VK} {E : XK} (k : Q (.bl false) H) : sp_is_whole a [.non] H Q E := whole_bad (P := fun _ => False) FH.nil .non (fun _ _ h => h.elim) k
theorem whole_bl {a : Cl} {H : Hp} {b : Bool} {Q : VK} {E : XK} (k : Q (.bl false) H) : sp_is_whole a [.bl b] H Q E := whole_bad (P := fun _ => False) FH.nil (.bl b) (fun _ _ h => h.elim) k
theorem whole_str {a : Cl} {H : Hp} {s : Str} {Q : VK} {E : XK} (k : Q (.bl false) H) : sp_is_whole a [.str s] H Q E := whole_bad (P := fun _ => False) FH.nil (.str s) (fun _ _ h => h.elim) k
theorem whole_tup {a : Cl} {H : Hp} {L : List Ent} {q : Addr} {xs : List V} {Q : VK} {E : XK} (F : FH H L) (m : (q, Is (.tup xs)) ∈ L) (k : Q (.bl false) H) : sp_is_whole a [.ref q] H Q E := by
  refine in_is_whole ?_
  walk_at "y"
  exact k
theorem whole_lst {a : Cl} {H : Hp} {L : List Ent} {q : Addr} {xs : List V} {Q : VK} {E : XK} (F : FH H L) (m : (q, Is (.lst xs)) ∈ L) (k : Q (.bl false) H) : sp_is_whole a [.ref q] H Q E := by
  refine in_is_whole ?_
  walk_at "y"
  exact k

local macro_rules | `(tactic| walk_at "y spec") => `(tactic| first
  | ((with_reducible refine' take_ok ?F ?m ?hn ?hn2 ?_); (case F => assumption); (case m => walk_at "y mem"); (case hn => first | omega | exact Int.emod_nonneg _ (by omega) | exact Int.emod_lt_of_pos _ (by omega)); (case hn2 => first | omega | exact Int.emod_nonneg _ (by omega) | exact Int.emod_lt_of_pos _ (by omega)); intro _ _ _ _ _)
  | ((with_reducible refine' bag_ok ?F ?m ?hl ?_); (case F => assumption); (case m => walk_at "y src"); (case hl => assumption); intro _ _ _)
  | ((with_reducible refine whole_ok ?_))
  | ((with_reducible refine whole2_ok ?_))
  | ((with_reducible refine range_ok ?_))
  | ((with_reducible refine lesser_ok ?_))
  | ((with_reducible refine greater_ok ?_))
  | ((with_reducible refine' all_whole ?F ?m ?hx ?z ?hn ?ew ?_); (case F => assumption); (case m => walk_at "y mem"); (case hx => rfl); (case z => rfl); (case hn => rfl); (case ew => rfl); intro _ _ _))

theorem bounds_ok {a : Cl} {H : Hp} {L : List Ent} {p : Addr} {Q : VK} {E : XK} (F : FH H L) (m : (p, Bag) ∈ L) (k : ∀ r f t H', 1 ≤ f ∧ f ≤ t ∧ t ≤ 100000 → FH H' ((r, Is (.lst [.int f, .int t])) :: L) → Q (.ref r) H') : sp_bounds a [.ref p] H Q E := by
  refine in_bounds ?_
  walk_at "y"
  all_goals
    refine k _ _ _ _ ?_ (by assumption)
    omega
theorem far_ok {a : Cl} {H : Hp} {L : List Ent} {p : Addr} {Q : VK} {E : XK} (F : FH H L) (m : (p, Bag) ∈ L) (k : ∀ r H', 0 ≤ r → FH H' L → Q (.int r) H') : sp_far a [.ref p] H Q E := by
  refine in_far ?_
  walk_at "y"
  exact k _ _ (Int.mul_nonneg (by assumption) (by assumption)) (by assumption)
theorem odd_ok {a : Cl} {H : Hp} {L : List Ent} {p : Addr} {Q : VK} {E : XK} (F : FH H L) (m : (p, Bag) ∈ L) (k0 : ∀ v H', OddS v → FH H' L → Q v H') (k1 : ∀ q o H', OddO o → FH H' ((q, Is o) :: L) → Q (.ref q) H') : sp_odd a [.ref p] H Q E := by
  refine in_odd ?_
  walk_at "y"
  all_goals first
    | exact k0 _ _ (.inl rfl) (by assumption)
    | exact k0 _ _ (.inr (.inl ⟨_, rfl⟩)) (by assumption)
    | exact k0 _ _ (.inr (.inr ⟨_, rfl⟩)) (by assumption)
    | (refine' k1 _ _ _ ?o ?F
       case F => assumption
       case o => first | exact .inl ⟨_, rfl, rfl, by simp [eqv_int, eqv_nil]⟩ | exact .inr ⟨_, rfl, rfl, by simp [eqv_int, eqv_nil]⟩)

local macro_rules | `(tactic| walk_at "y spec") => `(tactic| first
  | ((with_reducible refine' take_ok ?F ?m ?hn ?hn2 ?_); (case F => assumption); (case m => walk_at "y mem"); (case hn => first | omega | exact Int.emod_nonneg _ (by omega) | exact Int.emod_lt_of_pos _ (by omega)); (case hn2 => first | omega | exact Int.emod_nonneg _ (by omega) | exact Int.emod_lt_of_pos _ (by omega)); intro _ _ _ _ _)
  | ((with_reducible refine' bag_ok ?F ?m ?hl ?_); (case F => assumption); (case m => walk_at "y src"); (case hl => assumption); intro _ _ _)
  | ((with_reducible refine whole_ok ?_))
  | ((with_reducible refine whole2_ok ?_))
  | ((with_reducible refine range_ok ?_))
  | ((with_reducible refine lesser_ok ?_))
  | ((with_reducible refine greater_ok ?_))
  | ((with_reducible refine' all_whole ?F ?m ?hx ?z ?hn ?ew ?_); (case F => assumption); (case m => walk_at "y mem"); (case hx => rfl); (case z => rfl); (case hn => rfl); (case ew => rfl); intro _ _ _)
  | ((with_reducible refine' bounds_ok ?F ?m ?_); (case F => assumption); (case m => walk_at "y mem"); intro _ _ _ _ _ _)
  | ((with_reducible refine' far_ok ?F ?m ?_); (case F => assumption); (case m => walk_at "y mem"); intro _ _ _ _)
  | ((with_reducible refine' range_bad ?F ?b ?_); (case F => assumption); (case b => walk_at "y bad"))
  | ((with_reducible refine whole_non ?_))
  | ((with_reducible refine whole_bl ?_))
  | ((with_reducible refine whole_str ?_))
  | ((with_reducible refine' whole_tup ?F ?m ?_); (case F => assumption); (case m => walk_at "y mem"))
  | ((with_reducible refine' whole_lst ?F ?m ?_); (case F => assumption); (case m => walk_at "y mem"))
  | ((with_reducible refine' odd_ok ?F ?m ?_ ?_); (case F => assumption); (case m => walk_at "y mem"); (all_goals intros)))

local macro_rules | `(tactic| walk_at "y bad") => `(tactic| first | assumption | (refine Bad.sub (by assumption) (fun _ h => h) ?_; intro x m; walk_at "y mem"))
theorem bent_ok {a : Cl} {H : Hp} {L : List Ent} {p : Addr} {w : Int} {Q : VK} {E : XK} (F : FH H L) (m : (p, Bag) ∈ L) (hw : 0 ≤ w ∧ w ≤ 7)
    (k : ∀ r v0 v1 R H', (∀ H, FH H ((p, Bag) :: R) → FH H L) → FH H' ((r, Is (.lst [v0, v1])) :: (p, Bag) :: R) → (w < 3 ∨ 5 < w → Bad (fun i => i < 1 ∨ 100000 < i) R v0) → (3 ≤ w ∧ w ≤ 5 → ∃ f, v0 = .int f ∧ 1 ≤ f ∧ f ≤ 100000 ∧ Bad (fun i => i < f ∨ 100000 < i) R v1) → Q (.ref r) H') :
    sp_bent a [.ref p, .int w] H Q E := by
  obtain ⟨R, hR⟩ := pull m
  have F1 := F.perm hR
  have lo : w < 3 ∨ 5 < w → ∀ r v0 v1 R' H', (∀ H, FH H ((p, Bag) :: R') → FH H ((p, Bag) :: R)) → FH H' ((r, Is (.lst [v0, v1])) :: (p, Bag) :: R') → Bad (fun i => i < 1 ∨ 100000 < i) R' v0 → Q (.ref r) H' := fun h r v0 v1 R' H' hr F' b =>
    k r v0 v1 R' H' (fun H F => (hr H F).perm hR.symm) F' (fun _ => b) (fun h' => by omega)
  have hi : 3 ≤ w ∧ w ≤ 5 → ∀ r f v1 R' H', (∀ H, FH H ((p, Bag) :: R') → FH H ((p, Bag) :: R)) → FH H' ((r, Is (.lst [.int f, v1])) :: (p, Bag) :: R') → 1 ≤ f ∧ f ≤ 100000 → Bad (fun i => i < f ∨ 100000 < i) R' v1 → Q (.ref r) H' := fun h r f v1 R' H' hr F' hf b =>
    k r (.int f) v1 R' H' (fun H F => (hr H F).perm hR.symm) F' (fun h' => by omega) (fun _ => ⟨f, rfl, hf.1, hf.2, b⟩)
  clear F m k
  refine in_bent ?_
  rcases (by omega : w = 0 ∨ w = 1 ∨ w = 2 ∨ w = 3 ∨ w = 4 ∨ w = 5 ∨ w = 6 ∨ w = 7) with rfl | rfl | rfl | rfl | rfl | rfl | rfl | rfl
  all_goals walk_at "y"
  all_goals first
    | (refine lo (by omega) _ _ _ R _ (fun _ F => F) (by assumption) ?_; first | exact .int _ (by omega) | exact OddS.bad (by assumption) | (refine' OddO.bad ?hh ?mm; (case mm => walk_at "y mem"); (case hh => assumption)))
    | (refine hi (by omega) _ _ _ R _ (fun _ F => F) (by assumption) (by omega) ?_; first | exact .int _ (by omega) | exact OddS.bad (by assumption) | (refine' OddO.bad ?hh ?mm; (case mm => walk_at "y mem"); (case hh => assumption)))
    | (refine lo (by omega) _ _ _ _ _ ?_ (FH.sel (by assumption) (Sel.cons (.there .here) (Sel.cons (.there .here) Sel.all))) ?_; (exact fun _ F => FH.sel F (by walk_at "y sel")); first | exact .int _ (by omega) | exact OddS.bad (by assumption) | (refine' OddO.bad ?hh ?mm; (case mm => walk_at "y mem"); (case hh => assumption)))
    | (refine hi (by omega) _ _ _ _ _ ?_ (FH.sel (by assumption) (Sel.cons (.there .here) (Sel.cons (.there .here) Sel.all))) (by omega) ?_; (exact fun _ F => FH.sel F (by walk_at "y sel")); first | exact .int _ (by omega) | exact OddS.bad (by assumption) | (refine' OddO.bad ?hh ?mm; (case mm => walk_at "y mem"); (case hh => assumption)))
    | (refine lo (by omega) _ _ _ _ _ ?_ (FH.sel (by assumption) (Sel.cons (.there (.there .here)) (Sel.cons (.there (.there .here)) Sel.all))) ?_; (exact fun _ F => FH.sel F (by walk_at "y sel")); first | exact .int _ (by omega) | exact OddS.bad (by assumption) | (refine' OddO.bad ?hh ?mm; (case mm => walk_at "y mem"); (case hh => assumption)))
    | (refine hi (by omega) _ _ _ _ _ ?_ (FH.sel (by assumption) (Sel.cons (.there (.there .here)) (Sel.cons (.there (.there .here)) Sel.all))) (by omega) ?_; (exact fun _ F => FH.sel F (by walk_at "y sel")); first | exact .int _ (by omega) | exact OddS.bad (by assumption) | (refine' OddO.bad ?hh ?mm; (case mm => walk_at "y mem"); (case hh => assumption)))
    | skip

local macro_rules | `(tactic| walk_at "y spec") => `(tactic| first
  | ((with_reducible refine' take_ok ?F ?m ?hn ?hn2 ?_); (case F => assumption); (case m => walk_at "y mem"); (case hn => first | omega | exact Int.emod_nonneg _ (by omega) | exact Int.emod_lt_of_pos _ (by omega)); (case hn2 => first | omega | exact Int.emod_nonneg _ (by omega) | exact Int.emod_lt_of_pos _ (by omega)); intro _ _ _ _ _)
  | ((with_reducible refine' bag_ok ?F ?m ?hl ?_); (case F => assumption); (case m => walk_at "y src"); (case hl => assumption); intro _ _ _)
  | ((with_reducible refine whole_ok ?_))
  | ((with_reducible refine whole2_ok ?_))
  | ((with_reducible refine range_ok ?_))
  | ((with_reducible refine lesser_ok ?_))
  | ((with_reducible refine greater_ok ?_))
  | ((with_reducible refine' all_whole ?F ?m ?hx ?z ?hn ?ew ?_); (case F => assumption); (case m => walk_at "y mem"); (case hx => rfl); (case z => rfl); (case hn => rfl); (case ew => rfl); intro _ _ _)
  | ((with_reducible refine' bounds_ok ?F ?m ?_); (case F => assumption); (case m => walk_at "y mem"); intro _ _ _ _ _ _)
  | ((with_reducible refine' far_ok ?F ?m ?_); (case F => assumption); (case m => walk_at "y mem"); intro _ _ _ _)
  | ((with_reducible refine' range_bad ?F ?b ?_); (case F => assumption); (case b => walk_at "y bad"))
  | ((with_reducible refine whole_non ?_))
  | ((with_reducible refine whole_bl ?_))
  | ((with_reducible refine whole_str ?_))
  | ((with_reducible refine' whole_tup ?F ?m ?_); (case F => assumption); (case m => walk_at "y mem"))
  | ((with_reducible refine' whole_lst ?F ?m ?_); (case F => assumption); (case m => walk_at "y mem"))
  | ((with_reducible refine' odd_ok ?F ?m ?_ ?_); (case F => assumption); (case m => walk_at "y mem"); (all_goals intros)))

local macro_rules | `(tactic| walk_at "y bad") => `(tactic| first | assumption | (refine Bad.sub (by assumption) (fun _ h => h) ?_; intro x m; walk_at "y mem"))
/-- an estimate and what the law keeps of it -/
structure Es where
  lo : Int
  hi : Int
  sm : Int
  sp : Int
  n : Int
  le : Int
  gr : Int
  la : Int
abbrev estF (s : Es) : List (Str × V) := [("low", .int s.lo), ("high", .int s.hi), ("smooth", .int s.sm), ("spread", .int s.sp), ("samples", .int s.n)]
abbrev rowL (s : Es) : List V := [.int s.lo, .int s.hi, .int s.sm, .int s.sp, .int s.n, .int s.le, .int s.gr, .int s.la]
def Es.wait (s : Es) : Int := if s.n = 0 then min s.hi (4 * s.lo) else min s.hi (max s.lo (s.sm / 8 + max 1 s.sp))
def Es.ab (e : Int) : Int := if e < 0 then -e else e
def Es.next (s : Es) (t : Int) : Es :=
  if s.n = 0 then { s with sm := 8 * t, sp := 2 * t, n := s.n + 1, le := t, gr := t, la := t }
  else { s with sm := s.sm + (t - s.sm / 8), sp := s.sp + (Es.ab (t - s.sm / 8) - s.sp / 4), n := s.n + 1, le := min s.le t, gr := max s.gr t, la := t }
structure Good (s : Es) : Prop where
  b : 1 ≤ s.lo ∧ s.lo ≤ s.hi ∧ s.hi ≤ 100000
  n : 0 ≤ s.n
  in_ : s.n ≠ 0 → 8 * s.le ≤ s.sm ∧ s.sm ≤ 8 * s.gr
  la : 0 ≤ s.la
theorem Good.next {s : Es} (g : Good s) {t : Int} (ht : 0 ≤ t) : Good (s.next t) := by
  obtain ⟨b, n, i, l⟩ := g
  unfold Es.next
  by_cases e : s.n = 0
  · rw [if_pos e]
    exact ⟨b, by show 0 ≤ s.n + 1; omega, fun _ => ⟨by show 8 * t ≤ 8 * t; omega, by show 8 * t ≤ 8 * t; omega⟩, ht⟩
  · rw [if_neg e]
    have i := i e
    refine ⟨b, by show 0 ≤ s.n + 1; omega, fun _ => ⟨?_, ?_⟩, ht⟩
    · show 8 * min s.le t ≤ s.sm + (t - s.sm / 8)
      omega
    · show s.sm + (t - s.sm / 8) ≤ 8 * max s.gr t
      omega
def new (f t : Int) : Es := ⟨f, t, 0, 0, 0, 0, 0, 0⟩
theorem new_good {f t : Int} (h : 1 ≤ f ∧ f ≤ t ∧ t ≤ 100000) : Good (new f t) := ⟨h, Int.le_refl 0, fun h => absurd rfl h, Int.le_refl 0⟩
theorem row_ok {a : Cl} {H : Hp} {L : List Ent} {r : Addr} {f t : Int} {Q : VK} {E : XK} (F : FH H L) (m : (r, Is (.lst [.int f, .int t])) ∈ L) (k : ∀ q H', FH H' ((q, Is (.lst (rowL (new f t)))) :: L) → Q (.ref q) H') : sp_row a [.ref r] H Q E := by
  refine in_row ?_
  walk_at "y"
  exact k _ _ (by assumption)
theorem init_ok {a : Cl} {H : Hp} {L : List Ent} {e dx : Addr} {f t : Int} {Q : VK} {E : XK} (F : FH H ((e, Is (.ins a.c_Estimate dx [])) :: L)) (hb : 1 ≤ f ∧ f ≤ t ∧ t ≤ 100000) (k : ∀ H', FH H' ((e, Is (.ins a.c_Estimate dx (estF (new f t)))) :: L) → Q .non H') :
    sp_Estimate___init__ a [.ref e, .int f, .int t] H Q E := by
  refine in_Estimate___init__ ?_
  walk_at "y"
  exact k _ (by assumption)
theorem timeout_ok {a : Cl} {H : Hp} {L : List Ent} {e dx : Addr} {s : Es} {Q : VK} {E : XK} (F : FH H L) (m : (e, Is (.ins a.c_Estimate dx (estF s))) ∈ L) (k : Q (.int s.wait) H) : sp_Estimate_timeout a [.ref e] H Q E := by
  refine in_Estimate_timeout ?_
  walk_at "y"
  · rw [show s.wait = min s.hi (4 * s.lo) by unfold Es.wait; rw [if_pos (by assumption)]] at k; exact k
  · rw [show s.wait = min s.hi (max s.lo (s.sm / 8 + max 1 s.sp)) by unfold Es.wait; rw [if_neg (by assumption)]] at k; exact k
theorem wait_ok {a : Cl} {H : Hp} {L : List Ent} {r : Addr} {s : Es} {Q : VK} {E : XK} (F : FH H L) (m : (r, Is (.lst (rowL s))) ∈ L) (k : Q (.int s.wait) H) : sp_wait a [.ref r] H Q E := by
  refine in_wait ?_
  walk_at "y"
  · rw [show s.wait = min s.hi (4 * s.lo) by unfold Es.wait; rw [if_pos (by assumption)]] at k; exact k
  · rw [show s.wait = min s.hi (max s.lo (s.sm / 8 + max 1 s.sp)) by unfold Es.wait; rw [if_neg (by assumption)]] at k; exact k
theorem sample_ok {a : Cl} {H : Hp} {L L' : List Ent} {e dx : Addr} {s : Es} {t : Int} {Q : VK} {E : XK} (F : FH H L) (ht : 0 ≤ t) (pu : Put e (Is (.ins a.c_Estimate dx (estF s))) (Is (.ins a.c_Estimate dx (estF (s.next t)))) L L') (k : ∀ H', FH H' L' → Q .non H') :
    sp_Estimate_sample a [.ref e, .int t] H Q E := by
  obtain ⟨R, h1, h2⟩ := pu.perm
  have F1 := F.perm h1
  have k' : ∀ H', FH H' ((e, Is (.ins a.c_Estimate dx (estF (s.next t)))) :: R) → Q .non H' := fun H' F' => k H' (F'.perm h2.symm)
  clear F k pu
  refine in_Estimate_sample ?_
  walk_at "y"
  · have e : s.next t = { s with sm := 8 * t, sp := 2 * t, n := s.n + 1, le := t, gr := t, la := t } := if_pos (by assumption)
    rw [e] at k'
    exact k' _ (by assumption)
  · have e : s.next t = { s with sm := s.sm + (t - s.sm / 8), sp := s.sp + (Es.ab (t - s.sm / 8) - s.sp / 4), n := s.n + 1, le := min s.le t, gr := max s.gr t, la := t } := if_neg (by assumption)
    rw [e] at k'
    exact k' _ (by assumption)
theorem enter_ok {a : Cl} {H : Hp} {L L' : List Ent} {r : Addr} {s : Es} {t : Int} {Q : VK} {E : XK} (F : FH H L) (pu : Put r (Is (.lst (rowL s))) (Is (.lst (rowL (s.next t)))) L L') (k : ∀ H', FH H' L' → Q .non H') :
    sp_enter a [.ref r, .int t] H Q E := by
  obtain ⟨R, h1, h2⟩ := pu.perm
  have F1 := F.perm h1
  have k' : ∀ H', FH H' ((r, Is (.lst (rowL (s.next t)))) :: R) → Q .non H' := fun H' F' => k H' (F'.perm h2.symm)
  clear F k pu
  refine in_enter ?_
  walk_at "y"
  · have e : s.next t = { s with sm := 8 * t, sp := 2 * t, n := s.n + 1, le := t, gr := t, la := t } := if_pos (by assumption)
    rw [e] at k'
    exact k' _ (by assumption)
  · have e : s.next t = { s with sm := s.sm + (t - s.sm / 8), sp := s.sp + (Es.ab (t - s.sm / 8) - s.sp / 4), n := s.n + 1, le := min s.le t, gr := max s.gr t, la := t } := if_neg (by assumption)
    rw [e] at k'
    have e2 : (s.sp + if t - s.sm / 8 < 0 then -(t - s.sm / 8) else t - s.sm / 8) - s.sp / 4 = s.sp + (Es.ab (t - s.sm / 8) - s.sp / 4) := by
      unfold Es.ab
      omega
    rename_i F9
    rw [e2] at F9
    exact k' _ F9
theorem init_low {a : Cl} {H : Hp} {L : List Ent} {e : Addr} {v0 v1 : V} {Q : VK} {E : XK} (F : FH H L) (b : Bad (fun i => i < 1 ∨ 100000 < i) L v0) (k : ∀ d H', FH H' ((d, Is (.xd [("setting", .str "low")])) :: L) → E (.ref a.c_InvalidSetting) (some d) H') :
    sp_Estimate___init__ a [.ref e, v0, v1] H Q E := by
  refine in_Estimate___init__ ?_
  walk_at "y"
  exact k _ _ (by assumption)
theorem init_high {a : Cl} {H : Hp} {L : List Ent} {e : Addr} {f : Int} {v1 : V} {Q : VK} {E : XK} (F : FH H L) (hf : 1 ≤ f ∧ f ≤ 100000) (b : Bad (fun i => i < f ∨ 100000 < i) L v1) (k : ∀ d H', FH H' ((d, Is (.xd [("setting", .str "high")])) :: L) → E (.ref a.c_InvalidSetting) (some d) H') :
    sp_Estimate___init__ a [.ref e, .int f, v1] H Q E := by
  refine in_Estimate___init__ ?_
  walk_at "y"
  exact k _ _ (by assumption)

local macro_rules | `(tactic| walk_at "y spec") => `(tactic| first
  | ((with_reducible refine' take_ok ?F ?m ?hn ?hn2 ?_); (case F => assumption); (case m => walk_at "y mem"); (case hn => first | omega | exact Int.emod_nonneg _ (by omega) | exact Int.emod_lt_of_pos _ (by omega)); (case hn2 => first | omega | exact Int.emod_nonneg _ (by omega) | exact Int.emod_lt_of_pos _ (by omega)); intro _ _ _ _ _)
  | ((with_reducible refine' bag_ok ?F ?m ?hl ?_); (case F => assumption); (case m => walk_at "y src"); (case hl => assumption); intro _ _ _)
  | ((with_reducible refine whole_ok ?_))
  | ((with_reducible refine whole2_ok ?_))
  | ((with_reducible refine range_ok ?_))
  | ((with_reducible refine lesser_ok ?_))
  | ((with_reducible refine greater_ok ?_))
  | ((with_reducible refine' all_whole ?F ?m ?hx ?z ?hn ?ew ?_); (case F => assumption); (case m => walk_at "y mem"); (case hx => rfl); (case z => rfl); (case hn => rfl); (case ew => rfl); intro _ _ _)
  | ((with_reducible refine' bounds_ok ?F ?m ?_); (case F => assumption); (case m => walk_at "y mem"); intro _ _ _ _ _ _)
  | ((with_reducible refine' far_ok ?F ?m ?_); (case F => assumption); (case m => walk_at "y mem"); intro _ _ _ _)
  | ((with_reducible refine' range_bad ?F ?b ?_); (case F => assumption); (case b => walk_at "y bad"))
  | ((with_reducible refine whole_non ?_))
  | ((with_reducible refine whole_bl ?_))
  | ((with_reducible refine whole_str ?_))
  | ((with_reducible refine' whole_tup ?F ?m ?_); (case F => assumption); (case m => walk_at "y mem"))
  | ((with_reducible refine' whole_lst ?F ?m ?_); (case F => assumption); (case m => walk_at "y mem"))
  | ((with_reducible refine' odd_ok ?F ?m ?_ ?_); (case F => assumption); (case m => walk_at "y mem"); (all_goals intros))
  | ((with_reducible refine' init_ok ?F ?hb ?_); (case F => assumption); (case hb => first | omega | exact Int.emod_nonneg _ (by omega) | exact Int.emod_lt_of_pos _ (by omega)); intro _ _)
  | ((with_reducible refine' init_low ?F ?b ?_); (case F => assumption); (case b => walk_at "y bad"); intro _ _ _)
  | ((with_reducible refine' init_high ?F ?hf ?b ?_); (case F => assumption); (case hf => first | omega | exact Int.emod_nonneg _ (by omega) | exact Int.emod_lt_of_pos _ (by omega)); (case b => walk_at "y bad"); intro _ _ _)
  | ((with_reducible refine' timeout_ok ?F ?m ?_); (case F => assumption); (case m => walk_at "y mem"))
  | ((with_reducible refine' wait_ok ?F ?m ?_); (case F => assumption); (case m => walk_at "y mem"))
  | ((with_reducible refine' row_ok ?F ?m ?_); (case F => assumption); (case m => walk_at "y mem"); intro _ _ _)
  | ((with_reducible refine' sample_ok ?F ?ht ?pu ?_); (case F => assumption); (case ht => first | omega | exact Int.emod_nonneg _ (by omega) | exact Int.emod_lt_of_pos _ (by omega)); (case pu => walk_at "y put"); intro _ _)
  | ((with_reducible refine' enter_ok ?F ?pu ?_); (case F => assumption); (case pu => walk_at "y put"); intro _ _))

local macro_rules | `(tactic| walk_at "y bad") => `(tactic| first | assumption | (refine Bad.sub (by assumption) (fun _ h => h) ?_; intro x m; walk_at "y mem"))
theorem made_low {a : Cl} {H : Hp} {L : List Ent} {v0 v1 : V} {Q : VK} {E : XK} (F : FH H L) (b : Bad (fun i => i < 1 ∨ 100000 < i) L v0) (k : ∀ t H', FH H' ((t, Is (.tup [.str "setting", .str "low"])) :: L) → Q (.ref t) H') : sp_made a [v0, v1] H Q E := by
  refine in_made ?_
  walk_at "y"
  all_goals exact k _ _ (FH.sel (by assumption) (by walk_at "y sel"))
theorem made_high {a : Cl} {H : Hp} {L : List Ent} {f : Int} {v1 : V} {Q : VK} {E : XK} (F : FH H L) (hf : 1 ≤ f ∧ f ≤ 100000) (b : Bad (fun i => i < f ∨ 100000 < i) L v1) (k : ∀ t H', FH H' ((t, Is (.tup [.str "setting", .str "high"])) :: L) → Q (.ref t) H') : sp_made a [.int f, v1] H Q E := by
  refine in_made ?_
  walk_at "y"
  all_goals exact k _ _ (FH.sel (by assumption) (by walk_at "y sel"))
theorem made_ok {a : Cl} {H : Hp} {L : List Ent} {f t : Int} {Q : VK} {E : XK} (F : FH H L) (hb : 1 ≤ f ∧ f ≤ t ∧ t ≤ 100000) (k : ∀ r l H', FH H' ((r, Is (.tup [.str "made", .ref l])) :: (l, Is (.lst [.int f, .int t, .int 0, .int 0, .int 0, .int (new f t).wait])) :: L) → Q (.ref r) H') : sp_made a [.int f, .int t] H Q E := by
  refine in_made ?_
  walk_at "y"
  all_goals exact k _ _ _ (FH.sel (by assumption) (by walk_at "y sel"))

local macro_rules | `(tactic| walk_at "y spec") => `(tactic| first
  | ((with_reducible refine' take_ok ?F ?m ?hn ?hn2 ?_); (case F => assumption); (case m => walk_at "y mem"); (case hn => first | omega | exact Int.emod_nonneg _ (by omega) | exact Int.emod_lt_of_pos _ (by omega)); (case hn2 => first | omega | exact Int.emod_nonneg _ (by omega) | exact Int.emod_lt_of_pos _ (by omega)); intro _ _ _ _ _)
  | ((with_reducible refine' bag_ok ?F ?m ?hl ?_); (case F => assumption); (case m => walk_at "y src"); (case hl => assumption); intro _ _ _)
  | ((with_reducible refine whole_ok ?_))
  | ((with_reducible refine whole2_ok ?_))
  | ((with_reducible refine range_ok ?_))
  | ((with_reducible refine lesser_ok ?_))
  | ((with_reducible refine greater_ok ?_))
  | ((with_reducible refine' all_whole ?F ?m ?hx ?z ?hn ?ew ?_); (case F => assumption); (case m => walk_at "y mem"); (case hx => rfl); (case z => rfl); (case hn => rfl); (case ew => rfl); intro _ _ _)
  | ((with_reducible refine' bounds_ok ?F ?m ?_); (case F => assumption); (case m => walk_at "y mem"); intro _ _ _ _ _ _)
  | ((with_reducible refine' far_ok ?F ?m ?_); (case F => assumption); (case m => walk_at "y mem"); intro _ _ _ _)
  | ((with_reducible refine' range_bad ?F ?b ?_); (case F => assumption); (case b => walk_at "y bad"))
  | ((with_reducible refine whole_non ?_))
  | ((with_reducible refine whole_bl ?_))
  | ((with_reducible refine whole_str ?_))
  | ((with_reducible refine' whole_tup ?F ?m ?_); (case F => assumption); (case m => walk_at "y mem"))
  | ((with_reducible refine' whole_lst ?F ?m ?_); (case F => assumption); (case m => walk_at "y mem"))
  | ((with_reducible refine' odd_ok ?F ?m ?_ ?_); (case F => assumption); (case m => walk_at "y mem"); (all_goals intros))
  | ((with_reducible refine' init_ok ?F ?hb ?_); (case F => assumption); (case hb => first | omega | exact Int.emod_nonneg _ (by omega) | exact Int.emod_lt_of_pos _ (by omega)); intro _ _)
  | ((with_reducible refine' init_low ?F ?b ?_); (case F => assumption); (case b => walk_at "y bad"); intro _ _ _)
  | ((with_reducible refine' init_high ?F ?hf ?b ?_); (case F => assumption); (case hf => first | omega | exact Int.emod_nonneg _ (by omega) | exact Int.emod_lt_of_pos _ (by omega)); (case b => walk_at "y bad"); intro _ _ _)
  | ((with_reducible refine' timeout_ok ?F ?m ?_); (case F => assumption); (case m => walk_at "y mem"))
  | ((with_reducible refine' wait_ok ?F ?m ?_); (case F => assumption); (case m => walk_at "y mem"))
  | ((with_reducible refine' row_ok ?F ?m ?_); (case F => assumption); (case m => walk_at "y mem"); intro _ _ _)
  | ((with_reducible refine' sample_ok ?F ?ht ?pu ?_); (case F => assumption); (case ht => first | omega | exact Int.emod_nonneg _ (by omega) | exact Int.emod_lt_of_pos _ (by omega)); (case pu => walk_at "y put"); intro _ _)
  | ((with_reducible refine' enter_ok ?F ?pu ?_); (case F => assumption); (case pu => walk_at "y put"); intro _ _)
  | ((with_reducible refine' made_low ?F ?b ?_); (case F => assumption); (case b => walk_at "y bad"); intro _ _ _)
  | ((with_reducible refine' made_high ?F ?hf ?b ?_); (case F => assumption); (case hf => first | omega | exact Int.emod_nonneg _ (by omega) | exact Int.emod_lt_of_pos _ (by omega)); (case b => walk_at "y bad"); intro _ _ _)
  | ((with_reducible refine' made_ok ?F ?hb ?_); (case F => assumption); (case hb => first | omega | exact Int.emod_nonneg _ (by omega) | exact Int.emod_lt_of_pos _ (by omega)); intro _ _ _ _))

local macro_rules | `(tactic| walk_at "y bad") => `(tactic| first | assumption | (refine Bad.sub (by assumption) (fun _ h => h) ?_; intro x m; walk_at "y mem"))
theorem new_wait (f t : Int) : (new f t).wait = min t (4 * f) := if_pos rfl
theorem new_ok {a : Cl} {H : Hp} {L : List Ent} {p : Addr} {w : Int} {Q : VK} {E : XK} (F : FH H L) (m : (p, Bag) ∈ L) (hw : 0 ≤ w ∧ w ≤ 7) (k : ∀ H', FH H' L → Q (.bl true) H') : sp_new a [.ref p, .int w] H Q E := by
  refine in_new ?_
  walk_at "y"
  refine bent_ok F m hw fun r v0 v1 R H' hR F' b0 b1 => ?_
  have k' : ∀ H', FH H' ((p, Bag) :: R) → Q (.bl true) H' := fun H' F => k H' (hR H' F)
  clear F m k hR
  by_cases h : 3 ≤ w ∧ w ≤ 5
  · obtain ⟨f, rfl, hf1, hf2, b⟩ := b1 h
    clear b0 b1
    walk_at "y"
    all_goals rw [decide_eq_true (new_wait _ _)]
    all_goals exact k' _ (FH.sel (by assumption) (by walk_at "y sel"))
  · have b := b0 (by omega)
    clear b0 b1
    walk_at "y"
    all_goals rw [decide_eq_true (new_wait _ _)]
    all_goals exact k' _ (FH.sel (by assumption) (by walk_at "y sel"))

local macro_rules | `(tactic| walk_at "y spec") => `(tactic| first
  | ((with_reducible refine' take_ok ?F ?m ?hn ?hn2 ?_); (case F => assumption); (case m => walk_at "y mem"); (case hn => first | omega | exact Int.emod_nonneg _ (by omega) | exact Int.emod_lt_of_pos _ (by omega)); (case hn2 => first | omega | exact Int.emod_nonneg _ (by omega) | exact Int.emod_lt_of_pos _ (by omega)); intro _ _ _ _ _)
  | ((with_reducible refine' bag_ok ?F ?m ?hl ?_); (case F => assumption); (case m => walk_at "y src"); (case hl => assumption); intro _ _ _)
  | ((with_reducible refine whole_ok ?_))
  | ((with_reducible refine whole2_ok ?_))
  | ((with_reducible refine range_ok ?_))
  | ((with_reducible refine lesser_ok ?_))
  | ((with_reducible refine greater_ok ?_))
  | ((with_reducible refine' all_whole ?F ?m ?hx ?z ?hn ?ew ?_); (case F => assumption); (case m => walk_at "y mem"); (case hx => rfl); (case z => rfl); (case hn => rfl); (case ew => rfl); intro _ _ _)
  | ((with_reducible refine' bounds_ok ?F ?m ?_); (case F => assumption); (case m => walk_at "y mem"); intro _ _ _ _ _ _)
  | ((with_reducible refine' far_ok ?F ?m ?_); (case F => assumption); (case m => walk_at "y mem"); intro _ _ _ _)
  | ((with_reducible refine' range_bad ?F ?b ?_); (case F => assumption); (case b => walk_at "y bad"))
  | ((with_reducible refine whole_non ?_))
  | ((with_reducible refine whole_bl ?_))
  | ((with_reducible refine whole_str ?_))
  | ((with_reducible refine' whole_tup ?F ?m ?_); (case F => assumption); (case m => walk_at "y mem"))
  | ((with_reducible refine' whole_lst ?F ?m ?_); (case F => assumption); (case m => walk_at "y mem"))
  | ((with_reducible refine' odd_ok ?F ?m ?_ ?_); (case F => assumption); (case m => walk_at "y mem"); (all_goals intros))
  | ((with_reducible refine' init_ok ?F ?hb ?_); (case F => assumption); (case hb => first | omega | exact Int.emod_nonneg _ (by omega) | exact Int.emod_lt_of_pos _ (by omega)); intro _ _)
  | ((with_reducible refine' init_low ?F ?b ?_); (case F => assumption); (case b => walk_at "y bad"); intro _ _ _)
  | ((with_reducible refine' init_high ?F ?hf ?b ?_); (case F => assumption); (case hf => first | omega | exact Int.emod_nonneg _ (by omega) | exact Int.emod_lt_of_pos _ (by omega)); (case b => walk_at "y bad"); intro _ _ _)
  | ((with_reducible refine' timeout_ok ?F ?m ?_); (case F => assumption); (case m => walk_at "y mem"))
  | ((with_reducible refine' wait_ok ?F ?m ?_); (case F => assumption); (case m => walk_at "y mem"))
  | ((with_reducible refine' row_ok ?F ?m ?_); (case F => assumption); (case m => walk_at "y mem"); intro _ _ _)
  | ((with_reducible refine' sample_ok ?F ?ht ?pu ?_); (case F => assumption); (case ht => first | omega | exact Int.emod_nonneg _ (by omega) | exact Int.emod_lt_of_pos _ (by omega)); (case pu => walk_at "y put"); intro _ _)
  | ((with_reducible refine' enter_ok ?F ?pu ?_); (case F => assumption); (case pu => walk_at "y put"); intro _ _)
  | ((with_reducible refine' made_low ?F ?b ?_); (case F => assumption); (case b => walk_at "y bad"); intro _ _ _)
  | ((with_reducible refine' made_high ?F ?hf ?b ?_); (case F => assumption); (case hf => first | omega | exact Int.emod_nonneg _ (by omega) | exact Int.emod_lt_of_pos _ (by omega)); (case b => walk_at "y bad"); intro _ _ _)
  | ((with_reducible refine' made_ok ?F ?hb ?_); (case F => assumption); (case hb => first | omega | exact Int.emod_nonneg _ (by omega) | exact Int.emod_lt_of_pos _ (by omega)); intro _ _ _ _)
  | ((with_reducible refine' new_ok ?F ?m ?hw ?_); (case F => assumption); (case m => walk_at "y mem"); (case hw => first | omega | exact Int.emod_nonneg _ (by omega) | exact Int.emod_lt_of_pos _ (by omega)); intro _ _))

local macro_rules | `(tactic| walk_at "y bad") => `(tactic| first | assumption | (refine Bad.sub (by assumption) (fun _ h => h) ?_; intro x m; walk_at "y mem"))
/-- backed k times -/
def Es.pw (s : Es) : Nat → Int
  | 0 => s.wait
  | k + 1 => min s.hi (2 * s.pw k)
theorem Good.wait {s : Es} (g : Good s) : s.lo ≤ s.wait ∧ s.wait ≤ s.hi := by
  obtain ⟨b, n, i, l⟩ := g
  unfold Es.wait
  split <;> omega
theorem pw_b {s : Es} (g : Good s) : ∀ k, 1 ≤ s.pw k ∧ s.pw k ≤ 100000
  | 0 => by
    have := g.wait
    have := g.b
    show 1 ≤ s.wait ∧ s.wait ≤ 100000
    omega
  | k + 1 => by
    have := pw_b g k
    have := g.b
    show 1 ≤ min s.hi (2 * s.pw k) ∧ min s.hi (2 * s.pw k) ≤ 100000
    omega
theorem backed_ok {a : Cl} {H : Hp} {L : List Ent} {e dx : Addr} {s : Es} {n : Int} {Q : VK} {E : XK} (F : FH H L) (m : (e, Is (.ins a.c_Estimate dx (estF s))) ∈ L) (g : Good s) (hn : 0 ≤ n ∧ n ≤ 60) (k : Q (.int (s.pw n.toNat)) H) : sp_Estimate_backed a [.ref e, .int n] H Q E := by
  have b := pw_b g
  refine in_Estimate_backed ?_
  walk_at "y"
  refine forG (fun i σ H' => H' = H ∧ ∃ y, σ = [some (.ref e), some (.int n), some (.int (s.pw i)), y]) (by omega) (by omega) ⟨rfl, _, rfl⟩ ?_ ?_
  · intro i σ H' hi ⟨e0, y, e1⟩
    subst e0
    subst e1
    have bi := b i
    walk_at "y"
    exact ⟨rfl, _, rfl⟩
  · intro σ H' ⟨e0, y, e1⟩
    subst e0
    subst e1
    walk_at "y"
    exact k
theorem backed_bad {a : Cl} {H : Hp} {L : List Ent} {e : Addr} {v : V} {Q : VK} {E : XK} (F : FH H L) (b : Bad (fun i => i < 0 ∨ 60 < i) L v) (k : ∀ d H', FH H' ((d, Is (.xd [("number", v)])) :: L) → E (.ref a.c_InvalidNumber) (some d) H') : sp_Estimate_backed a [.ref e, v] H Q E := by
  refine in_Estimate_backed ?_
  walk_at "y"
  exact k _ _ (by assumption)
theorem sample_bad {a : Cl} {H : Hp} {L : List Ent} {e : Addr} {v : V} {Q : VK} {E : XK} (F : FH H L) (b : Bad (fun i => i < 0) L v) (k : ∀ d H', FH H' ((d, Is (.xd [("number", v)])) :: L) → E (.ref a.c_InvalidNumber) (some d) H') : sp_Estimate_sample a [.ref e, v] H Q E := by
  refine in_Estimate_sample ?_
  cases b
  all_goals
    walk_at "y"
    exact k _ _ (by assumption)
theorem same_bad {a : Cl} {H : Hp} {L : List Ent} {v : V} {Q : VK} {E : XK} (F : FH H L) (b : Bad (fun _ => True) L v) (k : Q (.bl true) H) : sp_same a [v, v] H Q E := by
  refine in_same ?_
  cases b with
  | tup q xs m f e =>
    walk_at "y"
    exact k
  | lst q xs m f e =>
    walk_at "y"
    exact k
  | _ =>
    walk_at "y"
    first | exact k | (rw [decide_eq_true rfl]; exact k)
theorem powers_ok {a : Cl} {H : Hp} {L : List Ent} {r : Addr} {s : Es} {Q : VK} {E : XK} (F : FH H L) (m : (r, Is (.lst (rowL s))) ∈ L) (g : Good s) (k : ∀ (q : Addr) (ns : List Int) (H' : Hp), ns.length = 61 → (∀ j, j ≤ 60 → ns.getD j 0 = s.pw j) → FH H' ((q, Is (.lst (ns.map V.int))) :: L) → Q (.ref q) H') : sp_powers a [.ref r] H Q E := by
  have b := pw_b g
  refine in_powers ?_
  walk_at "y"
  rename_i q H1 hq F1
  refine forG (fun i σ H' => (∃ y, σ = [some (.ref r), some (.ref q), y]) ∧ ∃ ns : List Int, ns.length = i + 1 ∧ (∀ j, j ≤ i → ns.getD j 0 = s.pw j) ∧ FH H' ((q, Is (.lst (ns.map V.int))) :: L)) (by omega) (by omega) ⟨⟨_, rfl⟩, [s.wait], rfl, fun j hj => ?_, F1⟩ ?_ ?_
  · have e : j = 0 := by omega
    subst e
    rfl
  · clear F1
    intro i σ H' hi ⟨⟨y, e1⟩, ns, hl, hv, F1⟩
    subst e1
    have bi := b i
    have hvi : ns.getD i 0 = s.pw i := hv i (Nat.le_refl _)
    have hln : ((ns.map V.int).length : Int) = i + 1 := by rw [List.length_map]; omega
    have hti : (i : Int).toNat = i := Int.toNat_natCast i
    walk_at "y"
    rename_i H9 F9
    refine ⟨⟨_, rfl⟩, ns ++ [s.pw (i + 1)], by rw [List.length_append, hl]; rfl, fun j hj => ?_, ?_⟩
    · by_cases e : j ≤ i
      · rw [List.getD_eq_getElem?_getD, List.getElem?_append_left (by omega), ← List.getD_eq_getElem?_getD]
        exact hv j e
      · have e2 : j = i + 1 := by omega
        subst e2
        rw [List.getD_eq_getElem?_getD, List.getElem?_append_right (by omega), hl, Nat.sub_self]
        rfl
    · rw [hti, hvi] at F9
      rw [List.map_append]
      exact F9
  · clear F1
    intro σ H' ⟨⟨y, e1⟩, ns, hl, hv, F1⟩
    subst e1
    walk_at "y"
    exact k _ ns _ hl hv F1

local macro_rules | `(tactic| walk_at "y spec") => `(tactic| first
  | ((with_reducible refine' take_ok ?F ?m ?hn ?hn2 ?_); (case F => assumption); (case m => walk_at "y mem"); (case hn => first | omega | exact Int.emod_nonneg _ (by omega) | exact Int.emod_lt_of_pos _ (by omega)); (case hn2 => first | omega | exact Int.emod_nonneg _ (by omega) | exact Int.emod_lt_of_pos _ (by omega)); intro _ _ _ _ _)
  | ((with_reducible refine' bag_ok ?F ?m ?hl ?_); (case F => assumption); (case m => walk_at "y src"); (case hl => assumption); intro _ _ _)
  | ((with_reducible refine whole_ok ?_))
  | ((with_reducible refine whole2_ok ?_))
  | ((with_reducible refine range_ok ?_))
  | ((with_reducible refine lesser_ok ?_))
  | ((with_reducible refine greater_ok ?_))
  | ((with_reducible refine' all_whole ?F ?m ?hx ?z ?hn ?ew ?_); (case F => assumption); (case m => walk_at "y mem"); (case hx => rfl); (case z => rfl); (case hn => rfl); (case ew => rfl); intro _ _ _)
  | ((with_reducible refine' bounds_ok ?F ?m ?_); (case F => assumption); (case m => walk_at "y mem"); intro _ _ _ _ _ _)
  | ((with_reducible refine' far_ok ?F ?m ?_); (case F => assumption); (case m => walk_at "y mem"); intro _ _ _ _)
  | ((with_reducible refine' range_bad ?F ?b ?_); (case F => assumption); (case b => walk_at "y bad"))
  | ((with_reducible refine whole_non ?_))
  | ((with_reducible refine whole_bl ?_))
  | ((with_reducible refine whole_str ?_))
  | ((with_reducible refine' whole_tup ?F ?m ?_); (case F => assumption); (case m => walk_at "y mem"))
  | ((with_reducible refine' whole_lst ?F ?m ?_); (case F => assumption); (case m => walk_at "y mem"))
  | ((with_reducible refine' odd_ok ?F ?m ?_ ?_); (case F => assumption); (case m => walk_at "y mem"); (all_goals intros))
  | ((with_reducible refine' init_ok ?F ?hb ?_); (case F => assumption); (case hb => first | omega | exact Int.emod_nonneg _ (by omega) | exact Int.emod_lt_of_pos _ (by omega)); intro _ _)
  | ((with_reducible refine' init_low ?F ?b ?_); (case F => assumption); (case b => walk_at "y bad"); intro _ _ _)
  | ((with_reducible refine' init_high ?F ?hf ?b ?_); (case F => assumption); (case hf => first | omega | exact Int.emod_nonneg _ (by omega) | exact Int.emod_lt_of_pos _ (by omega)); (case b => walk_at "y bad"); intro _ _ _)
  | ((with_reducible refine' timeout_ok ?F ?m ?_); (case F => assumption); (case m => walk_at "y mem"))
  | ((with_reducible refine' wait_ok ?F ?m ?_); (case F => assumption); (case m => walk_at "y mem"))
  | ((with_reducible refine' row_ok ?F ?m ?_); (case F => assumption); (case m => walk_at "y mem"); intro _ _ _)
  | ((with_reducible refine' sample_ok ?F ?ht ?pu ?_); (case F => assumption); (case ht => first | omega | exact Int.emod_nonneg _ (by omega) | exact Int.emod_lt_of_pos _ (by omega)); (case pu => walk_at "y put"); intro _ _)
  | ((with_reducible refine' enter_ok ?F ?pu ?_); (case F => assumption); (case pu => walk_at "y put"); intro _ _)
  | ((with_reducible refine' made_low ?F ?b ?_); (case F => assumption); (case b => walk_at "y bad"); intro _ _ _)
  | ((with_reducible refine' made_high ?F ?hf ?b ?_); (case F => assumption); (case hf => first | omega | exact Int.emod_nonneg _ (by omega) | exact Int.emod_lt_of_pos _ (by omega)); (case b => walk_at "y bad"); intro _ _ _)
  | ((with_reducible refine' made_ok ?F ?hb ?_); (case F => assumption); (case hb => first | omega | exact Int.emod_nonneg _ (by omega) | exact Int.emod_lt_of_pos _ (by omega)); intro _ _ _ _)
  | ((with_reducible refine' new_ok ?F ?m ?hw ?_); (case F => assumption); (case m => walk_at "y mem"); (case hw => first | omega | exact Int.emod_nonneg _ (by omega) | exact Int.emod_lt_of_pos _ (by omega)); intro _ _)
  | ((with_reducible refine' backed_ok ?F ?m ?g ?hn ?_); (case F => assumption); (case m => walk_at "y mem"); (case g => assumption); (case hn => first | omega | exact Int.emod_nonneg _ (by omega) | exact Int.emod_lt_of_pos _ (by omega)))
  | ((with_reducible refine' backed_bad ?F ?b ?_); (case F => assumption); (case b => walk_at "y bad"); intro _ _ _)
  | ((with_reducible refine' sample_bad ?F ?b ?_); (case F => assumption); (case b => walk_at "y bad"); intro _ _ _)
  | ((with_reducible refine' same_bad ?F ?b ?_); (case F => assumption); (case b => walk_at "y bad"))
  | ((with_reducible refine' powers_ok ?F ?m ?g ?_); (case F => assumption); (case m => walk_at "y mem"); (case g => assumption); intro _ _ _ _ _ _))

local macro_rules | `(tactic| walk_at "y bad") => `(tactic| first | assumption | (refine Bad.sub (by assumption) (fun _ h => h) ?_; intro x m; walk_at "y mem"))
theorem call_back {a : Cl} {H : Hp} {L : List Ent} {e dx : Addr} {s : Es} {n : Int} {Q : VK} {E : XK} (F : FH H L) (m : (e, Is (.ins a.c_Estimate dx (estF s))) ∈ L) (g : Good s) (hn : 0 ≤ n ∧ n ≤ 60) (k : ∀ t H', FH H' ((t, Is (.tup [.str "told", .int (s.pw n.toNat)])) :: L) → Q (.ref t) H') : sp_call a [.ref e, .int 0, .int n] H Q E := by
  refine in_call ?_
  walk_at "y"
  exact k _ _ (by assumption)
theorem call_samp {a : Cl} {H : Hp} {L L' : List Ent} {e dx : Addr} {s : Es} {t : Int} {Q : VK} {E : XK} (F : FH H L) (ht : 0 ≤ t) (pu : Put e (Is (.ins a.c_Estimate dx (estF s))) (Is (.ins a.c_Estimate dx (estF (s.next t)))) L L') (k : ∀ q H', FH H' ((q, Is (.tup [.str "told", .non])) :: L') → Q (.ref q) H') : sp_call a [.ref e, .int 1, .int t] H Q E := by
  have m := pu.mem
  refine in_call ?_
  walk_at "y"
  exact k _ _ (by assumption)
theorem call_bad0 {a : Cl} {H : Hp} {L : List Ent} {e dx : Addr} {s : Es} {v : V} {Q : VK} {E : XK} (F : FH H L) (m : (e, Is (.ins a.c_Estimate dx (estF s))) ∈ L) (b : Bad (fun i => i < 0 ∨ 60 < i) L v) (k : ∀ t H', FH H' ((t, Is (.tup [.str "number", v])) :: L) → Q (.ref t) H') : sp_call a [.ref e, .int 0, v] H Q E := by
  refine in_call ?_
  walk_at "y"
  all_goals exact k _ _ (FH.sel (by assumption) (by walk_at "y sel"))
theorem call_bad1 {a : Cl} {H : Hp} {L : List Ent} {e dx : Addr} {s : Es} {v : V} {Q : VK} {E : XK} (F : FH H L) (m : (e, Is (.ins a.c_Estimate dx (estF s))) ∈ L) (b : Bad (fun i => i < 0) L v) (k : ∀ t H', FH H' ((t, Is (.tup [.str "number", v])) :: L) → Q (.ref t) H') : sp_call a [.ref e, .int 1, v] H Q E := by
  refine in_call ?_
  walk_at "y"
  all_goals exact k _ _ (FH.sel (by assumption) (by walk_at "y sel"))
theorem agrees_ok {a : Cl} {H : Hp} {L : List Ent} {e r dx : Addr} {s : Es} {Q : VK} {E : XK} (F : FH H L) (me : (e, Is (.ins a.c_Estimate dx (estF s))) ∈ L) (mr : (r, Is (.lst (rowL s))) ∈ L) (k : ∀ H', FH H' L → Q (.bl true) H') : sp_agrees a [.ref e, .ref r] H Q E := by
  refine in_agrees ?_
  walk_at "y"
  all_goals exact k _ (FH.sub (by assumption) (by walk_at "y sub"))
theorem ticks_ok {a : Cl} {H : Hp} {L : List Ent} {p r : Addr} {s : Es} {Q : VK} {E : XK} (F : FH H L) (m : (p, Bag) ∈ L) (mr : (r, Is (.lst (rowL s))) ∈ L) (g : Good s) (k : ∀ t H', 0 ≤ t → FH H' L → Q (.int t) H') : sp_ticks a [.ref p, .ref r] H Q E := by
  have hl := g.la
  refine in_ticks ?_
  walk_at "y"
  all_goals exact k _ _ (by omega) (by assumption)

local macro_rules | `(tactic| walk_at "y spec") => `(tactic| first
  | ((with_reducible refine' take_ok ?F ?m ?hn ?hn2 ?_); (case F => assumption); (case m => walk_at "y mem"); (case hn => first | omega | exact Int.emod_nonneg _ (by omega) | exact Int.emod_lt_of_pos _ (by omega)); (case hn2 => first | omega | exact Int.emod_nonneg _ (by omega) | exact Int.emod_lt_of_pos _ (by omega)); intro _ _ _ _ _)
  | ((with_reducible refine' bag_ok ?F ?m ?hl ?_); (case F => assumption); (case m => walk_at "y src"); (case hl => assumption); intro _ _ _)
  | ((with_reducible refine whole_ok ?_))
  | ((with_reducible refine whole2_ok ?_))
  | ((with_reducible refine range_ok ?_))
  | ((with_reducible refine lesser_ok ?_))
  | ((with_reducible refine greater_ok ?_))
  | ((with_reducible refine' all_whole ?F ?m ?hx ?z ?hn ?ew ?_); (case F => assumption); (case m => walk_at "y mem"); (case hx => rfl); (case z => rfl); (case hn => rfl); (case ew => rfl); intro _ _ _)
  | ((with_reducible refine' bounds_ok ?F ?m ?_); (case F => assumption); (case m => walk_at "y mem"); intro _ _ _ _ _ _)
  | ((with_reducible refine' far_ok ?F ?m ?_); (case F => assumption); (case m => walk_at "y mem"); intro _ _ _ _)
  | ((with_reducible refine' range_bad ?F ?b ?_); (case F => assumption); (case b => walk_at "y bad"))
  | ((with_reducible refine whole_non ?_))
  | ((with_reducible refine whole_bl ?_))
  | ((with_reducible refine whole_str ?_))
  | ((with_reducible refine' whole_tup ?F ?m ?_); (case F => assumption); (case m => walk_at "y mem"))
  | ((with_reducible refine' whole_lst ?F ?m ?_); (case F => assumption); (case m => walk_at "y mem"))
  | ((with_reducible refine' odd_ok ?F ?m ?_ ?_); (case F => assumption); (case m => walk_at "y mem"); (all_goals intros))
  | ((with_reducible refine' init_ok ?F ?hb ?_); (case F => assumption); (case hb => first | omega | exact Int.emod_nonneg _ (by omega) | exact Int.emod_lt_of_pos _ (by omega)); intro _ _)
  | ((with_reducible refine' init_low ?F ?b ?_); (case F => assumption); (case b => walk_at "y bad"); intro _ _ _)
  | ((with_reducible refine' init_high ?F ?hf ?b ?_); (case F => assumption); (case hf => first | omega | exact Int.emod_nonneg _ (by omega) | exact Int.emod_lt_of_pos _ (by omega)); (case b => walk_at "y bad"); intro _ _ _)
  | ((with_reducible refine' timeout_ok ?F ?m ?_); (case F => assumption); (case m => walk_at "y mem"))
  | ((with_reducible refine' wait_ok ?F ?m ?_); (case F => assumption); (case m => walk_at "y mem"))
  | ((with_reducible refine' row_ok ?F ?m ?_); (case F => assumption); (case m => walk_at "y mem"); intro _ _ _)
  | ((with_reducible refine' sample_ok ?F ?ht ?pu ?_); (case F => assumption); (case ht => first | omega | exact Int.emod_nonneg _ (by omega) | exact Int.emod_lt_of_pos _ (by omega)); (case pu => walk_at "y put"); intro _ _)
  | ((with_reducible refine' enter_ok ?F ?pu ?_); (case F => assumption); (case pu => walk_at "y put"); intro _ _)
  | ((with_reducible refine' made_low ?F ?b ?_); (case F => assumption); (case b => walk_at "y bad"); intro _ _ _)
  | ((with_reducible refine' made_high ?F ?hf ?b ?_); (case F => assumption); (case hf => first | omega | exact Int.emod_nonneg _ (by omega) | exact Int.emod_lt_of_pos _ (by omega)); (case b => walk_at "y bad"); intro _ _ _)
  | ((with_reducible refine' made_ok ?F ?hb ?_); (case F => assumption); (case hb => first | omega | exact Int.emod_nonneg _ (by omega) | exact Int.emod_lt_of_pos _ (by omega)); intro _ _ _ _)
  | ((with_reducible refine' new_ok ?F ?m ?hw ?_); (case F => assumption); (case m => walk_at "y mem"); (case hw => first | omega | exact Int.emod_nonneg _ (by omega) | exact Int.emod_lt_of_pos _ (by omega)); intro _ _)
  | ((with_reducible refine' backed_ok ?F ?m ?g ?hn ?_); (case F => assumption); (case m => walk_at "y mem"); (case g => assumption); (case hn => first | omega | exact Int.emod_nonneg _ (by omega) | exact Int.emod_lt_of_pos _ (by omega)))
  | ((with_reducible refine' backed_bad ?F ?b ?_); (case F => assumption); (case b => walk_at "y bad"); intro _ _ _)
  | ((with_reducible refine' sample_bad ?F ?b ?_); (case F => assumption); (case b => walk_at "y bad"); intro _ _ _)
  | ((with_reducible refine' same_bad ?F ?b ?_); (case F => assumption); (case b => walk_at "y bad"))
  | ((with_reducible refine' powers_ok ?F ?m ?g ?_); (case F => assumption); (case m => walk_at "y mem"); (case g => assumption); intro _ _ _ _ _ _)
  | ((with_reducible refine' call_back ?F ?m ?g ?hn ?_); (case F => assumption); (case m => walk_at "y mem"); (case g => assumption); (case hn => first | omega | exact Int.emod_nonneg _ (by omega) | exact Int.emod_lt_of_pos _ (by omega)); intro _ _ _)
  | ((with_reducible refine' call_samp ?F ?ht ?pu ?_); (case F => assumption); (case ht => first | omega | exact Int.emod_nonneg _ (by omega) | exact Int.emod_lt_of_pos _ (by omega)); (case pu => walk_at "y put"); intro _ _ _)
  | ((with_reducible refine' call_bad0 ?F ?m ?b ?_); (case F => assumption); (case m => walk_at "y mem"); (case b => walk_at "y bad"); intro _ _ _)
  | ((with_reducible refine' call_bad1 ?F ?m ?b ?_); (case F => assumption); (case m => walk_at "y mem"); (case b => walk_at "y bad"); intro _ _ _)
  | ((with_reducible refine' agrees_ok ?F ?me ?mr ?_); (case F => assumption); (case me => walk_at "y mem"); (case mr => walk_at "y mem"); intro _ _)
  | ((with_reducible refine' ticks_ok ?F ?m ?mr ?g ?_); (case F => assumption); (case m => walk_at "y mem"); (case mr => walk_at "y mem"); (case g => assumption); intro _ _ _ _))

local macro_rules | `(tactic| walk_at "y bad") => `(tactic| first | assumption | exact .int _ (by first | omega | trivial) | exact OddS.bad (by assumption) | (refine' OddO.bad ?hh ?mm; (case mm => walk_at "y mem"); (case hh => assumption)) | (refine Bad.sub (by assumption) (fun _ h => h) ?_; intro x m; walk_at "y mem"))
theorem refuses_ok {a : Cl} {H : Hp} {L : List Ent} {p e dx : Addr} {s : Es} {Q : VK} {E : XK} (F : FH H L) (m : (p, Bag) ∈ L) (me : (e, Is (.ins a.c_Estimate dx (estF s))) ∈ L) (k : ∀ H', FH H' L → Q (.bl true) H') : sp_refuses a [.ref p, .ref e] H Q E := by
  refine in_refuses ?_
  walk_at "y"
  refine forG (fun i σ H => (∃ y2 y3 y4, σ = [some (.ref p), some (.ref e), y2, y3, y4]) ∧ FH H L) (by omega) (by omega) ⟨⟨_, _, _, rfl⟩, F⟩ ?_ ?_
  · clear F
    intro i σ H hi ⟨⟨y2, y3, y4, e1⟩, F⟩
    subst e1
    rcases (by omega : i = 0 ∨ i = 1 ∨ i = 2 ∨ i = 3 ∨ i = 4) with rfl | rfl | rfl | rfl | rfl
    all_goals
      simp only [Int.natCast_zero, Int.natCast_one, Int.cast_ofNat_Int]
      walk_at "y"
      all_goals simp only [Int.reduceDiv]
      all_goals walk_at "y"
      all_goals first
        | exact ⟨⟨_, _, _, rfl⟩, FH.sub (by assumption) (by walk_at "y sub")⟩
        | skip
  · intro σ H ⟨⟨y2, y3, y4, e1⟩, F⟩
    subst e1
    walk_at "y"
    exact k _ F
theorem backs_ok {a : Cl} {H : Hp} {L : List Ent} {e r dx : Addr} {s : Es} {dw : Bool} {Q : VK} {E : XK} (F : FH H L) (me : (e, Is (.ins a.c_Estimate dx (estF s))) ∈ L) (mr : (r, Is (.lst (rowL s))) ∈ L) (g : Good s) (k : ∀ H', FH H' L → Q (.bl true) H') : sp_backs a [.ref e, .ref r, .bl dw] H Q E := by
  refine in_backs ?_
  walk_at "y"
  rename_i q ns H1 hl hv F1
  refine forG (fun i σ H => (∃ y4 y5 y6, σ = [some (.ref e), some (.ref r), some (.bl dw), some (.ref q), y4, y5, y6]) ∧ FH H ((q, Is (.lst (ns.map V.int))) :: L)) (by omega) (by omega) ⟨⟨_, _, _, rfl⟩, F1⟩ ?_ ?_
  · clear F F1
    intro i σ H hi ⟨⟨y4, y5, y6, e1⟩, F⟩
    subst e1
    have hln : ((ns.map V.int).length : Int) = 61 := by rw [List.length_map]; omega
    have v1 : ns.getD (i : Int).toNat 0 = s.pw (i : Int).toNat := hv _ (by omega)
    have v2 : ns.getD (60 - (i : Int)).toNat 0 = s.pw (60 - (i : Int)).toNat := hv _ (by omega)
    walk_at "y"
    all_goals first
      | exact ⟨⟨_, _, _, rfl⟩, FH.sub (by assumption) (by walk_at "y sub")⟩
      | (exfalso; rename_i h; exact h v1.symm)
      | (exfalso; rename_i h; exact h v2.symm)
      | skip
  · intro σ H ⟨⟨y4, y5, y6, e1⟩, F⟩
    subst e1
    walk_at "y"
    all_goals exact k _ (FH.sub (by assumption) (by walk_at "y sub"))

local macro_rules | `(tactic| walk_at "y spec") => `(tactic| first
  | ((with_reducible refine' take_ok ?F ?m ?hn ?hn2 ?_); (case F => assumption); (case m => walk_at "y mem"); (case hn => first | omega | exact Int.emod_nonneg _ (by omega) | exact Int.emod_lt_of_pos _ (by omega)); (case hn2 => first | omega | exact Int.emod_nonneg _ (by omega) | exact Int.emod_lt_of_pos _ (by omega)); intro _ _ _ _ _)
  | ((with_reducible refine' bag_ok ?F ?m ?hl ?_); (case F => assumption); (case m => walk_at "y src"); (case hl => assumption); intro _ _ _)
  | ((with_reducible refine whole_ok ?_))
  | ((with_reducible refine whole2_ok ?_))
  | ((with_reducible refine range_ok ?_))
  | ((with_reducible refine lesser_ok ?_))
  | ((with_reducible refine greater_ok ?_))
  | ((with_reducible refine' all_whole ?F ?m ?hx ?z ?hn ?ew ?_); (case F => assumption); (case m => walk_at "y mem"); (case hx => rfl); (case z => rfl); (case hn => rfl); (case ew => rfl); intro _ _ _)
  | ((with_reducible refine' bounds_ok ?F ?m ?_); (case F => assumption); (case m => walk_at "y mem"); intro _ _ _ _ _ _)
  | ((with_reducible refine' far_ok ?F ?m ?_); (case F => assumption); (case m => walk_at "y mem"); intro _ _ _ _)
  | ((with_reducible refine' range_bad ?F ?b ?_); (case F => assumption); (case b => walk_at "y bad"))
  | ((with_reducible refine whole_non ?_))
  | ((with_reducible refine whole_bl ?_))
  | ((with_reducible refine whole_str ?_))
  | ((with_reducible refine' whole_tup ?F ?m ?_); (case F => assumption); (case m => walk_at "y mem"))
  | ((with_reducible refine' whole_lst ?F ?m ?_); (case F => assumption); (case m => walk_at "y mem"))
  | ((with_reducible refine' odd_ok ?F ?m ?_ ?_); (case F => assumption); (case m => walk_at "y mem"); (all_goals intros))
  | ((with_reducible refine' init_ok ?F ?hb ?_); (case F => assumption); (case hb => first | omega | exact Int.emod_nonneg _ (by omega) | exact Int.emod_lt_of_pos _ (by omega)); intro _ _)
  | ((with_reducible refine' init_low ?F ?b ?_); (case F => assumption); (case b => walk_at "y bad"); intro _ _ _)
  | ((with_reducible refine' init_high ?F ?hf ?b ?_); (case F => assumption); (case hf => first | omega | exact Int.emod_nonneg _ (by omega) | exact Int.emod_lt_of_pos _ (by omega)); (case b => walk_at "y bad"); intro _ _ _)
  | ((with_reducible refine' timeout_ok ?F ?m ?_); (case F => assumption); (case m => walk_at "y mem"))
  | ((with_reducible refine' wait_ok ?F ?m ?_); (case F => assumption); (case m => walk_at "y mem"))
  | ((with_reducible refine' row_ok ?F ?m ?_); (case F => assumption); (case m => walk_at "y mem"); intro _ _ _)
  | ((with_reducible refine' sample_ok ?F ?ht ?pu ?_); (case F => assumption); (case ht => first | omega | exact Int.emod_nonneg _ (by omega) | exact Int.emod_lt_of_pos _ (by omega)); (case pu => walk_at "y put"); intro _ _)
  | ((with_reducible refine' enter_ok ?F ?pu ?_); (case F => assumption); (case pu => walk_at "y put"); intro _ _)
  | ((with_reducible refine' made_low ?F ?b ?_); (case F => assumption); (case b => walk_at "y bad"); intro _ _ _)
  | ((with_reducible refine' made_high ?F ?hf ?b ?_); (case F => assumption); (case hf => first | omega | exact Int.emod_nonneg _ (by omega) | exact Int.emod_lt_of_pos _ (by omega)); (case b => walk_at "y bad"); intro _ _ _)
  | ((with_reducible refine' made_ok ?F ?hb ?_); (case F => assumption); (case hb => first | omega | exact Int.emod_nonneg _ (by omega) | exact Int.emod_lt_of_pos _ (by omega)); intro _ _ _ _)
  | ((with_reducible refine' new_ok ?F ?m ?hw ?_); (case F => assumption); (case m => walk_at "y mem"); (case hw => first | omega | exact Int.emod_nonneg _ (by omega) | exact Int.emod_lt_of_pos _ (by omega)); intro _ _)
  | ((with_reducible refine' backed_ok ?F ?m ?g ?hn ?_); (case F => assumption); (case m => walk_at "y mem"); (case g => assumption); (case hn => first | omega | exact Int.emod_nonneg _ (by omega) | exact Int.emod_lt_of_pos _ (by omega)))
  | ((with_reducible refine' backed_bad ?F ?b ?_); (case F => assumption); (case b => walk_at "y bad"); intro _ _ _)
  | ((with_reducible refine' sample_bad ?F ?b ?_); (case F => assumption); (case b => walk_at "y bad"); intro _ _ _)
  | ((with_reducible refine' same_bad ?F ?b ?_); (case F => assumption); (case b => walk_at "y bad"))
  | ((with_reducible refine' powers_ok ?F ?m ?g ?_); (case F => assumption); (case m => walk_at "y mem"); (case g => assumption); intro _ _ _ _ _ _)
  | ((with_reducible refine' call_back ?F ?m ?g ?hn ?_); (case F => assumption); (case m => walk_at "y mem"); (case g => assumption); (case hn => first | omega | exact Int.emod_nonneg _ (by omega) | exact Int.emod_lt_of_pos _ (by omega)); intro _ _ _)
  | ((with_reducible refine' call_samp ?F ?ht ?pu ?_); (case F => assumption); (case ht => first | omega | exact Int.emod_nonneg _ (by omega) | exact Int.emod_lt_of_pos _ (by omega)); (case pu => walk_at "y put"); intro _ _ _)
  | ((with_reducible refine' call_bad0 ?F ?m ?b ?_); (case F => assumption); (case m => walk_at "y mem"); (case b => walk_at "y bad"); intro _ _ _)
  | ((with_reducible refine' call_bad1 ?F ?m ?b ?_); (case F => assumption); (case m => walk_at "y mem"); (case b => walk_at "y bad"); intro _ _ _)
  | ((with_reducible refine' agrees_ok ?F ?me ?mr ?_); (case F => assumption); (case me => walk_at "y mem"); (case mr => walk_at "y mem"); intro _ _)
  | ((with_reducible refine' ticks_ok ?F ?m ?mr ?g ?_); (case F => assumption); (case m => walk_at "y mem"); (case mr => walk_at "y mem"); (case g => assumption); intro _ _ _ _)
  | ((with_reducible refine' refuses_ok ?F ?m ?me ?_); (case F => assumption); (case m => walk_at "y mem"); (case me => walk_at "y mem"); intro _ _)
  | ((with_reducible refine' backs_ok ?F ?me ?mr ?g ?_); (case F => assumption); (case me => walk_at "y mem"); (case mr => walk_at "y mem"); (case g => first | assumption | exact Good.next (by assumption) (by assumption)); intro _ _))

theorem take2_ok {a : Cl} {H : Hp} {L : List Ent} {p : Addr} {Q : VK} {E : XK} (F : FH H L) (m : (p, Bag) ∈ L) (k0 : ∀ H', FH H' L → Q (.int 0) H') (k1 : ∀ H', FH H' L → Q (.int 1) H') : sp_take a [.ref p, .int 2] H Q E :=
  take_ok F m (by decide) (by decide) fun r H' h0 h1 F' => by
    rcases (by omega : r = 0 ∨ r = 1) with rfl | rfl
    · exact k0 _ F'
    · exact k1 _ F'
local macro_rules | `(tactic| walk_at "y 2") => `(tactic| ((with_reducible refine' take2_ok ?F ?m ?_ ?_); (case F => assumption); (case m => walk_at "y mem"); (all_goals intros)))
local macro_rules | `(tactic| walk_at "y") => `(tactic| repeat' (first | walk_at "y 1" | walk_at "y if" | walk_at "y 2" | walk_at "y spec"))
abbrev LL (a : Cl) (c pp e0 e1 r0 r1 p d0 d1 : Addr) (f0 f1 : Es) : List Ent := [(c, Is (.lst [.ref e0, .ref e1])), (pp, Is (.lst [.ref r0, .ref r1])), (e0, Is (.ins a.c_Estimate d0 (estF f0))), (e1, Is (.ins a.c_Estimate d1 (estF f1))), (r0, Is (.lst (rowL f0))), (r1, Is (.lst (rowL f1))), (p, Bag)]
theorem law_ok {a : Cl} {H : Hp} {q : Addr} {ns : List Int} {L : List Ent} {Q : VK} {E : XK} (F : FH H L) (m : Src a.S L q (ns.map V.int)) (hl : ns.length ≤ 63) (k : ∀ H', Q (.bl true) H') : sp_law a [.ref q] H Q E := by
  refine in_law ?_
  walk_at "y"
  rename_i p H1 F1 n H2 hn0 hn1 F2
  have F2' : FH H2 [(p, Bag)] := FH.sel F2 (by walk_at "y sel")
  clear F2 F1
  refine forG (fun i σ H => (∃ y3, σ = [some (.ref q), some (.ref p), some (.int (1 + n)), y3, none, none, none, none, none, none]) ∧ FH H [(p, Bag)]) (by omega) (by omega) ⟨⟨_, rfl⟩, F2'⟩ ?_ ?_
  · clear F2'
    intro i σ H hi ⟨⟨y3, e1⟩, F⟩
    subst e1
    walk_at "y"
    exact ⟨⟨_, rfl⟩, by assumption⟩
  · clear F2'
    intro σ H ⟨⟨y3, e1⟩, F⟩
    subst e1
    walk_at "y"
    rename_i g0 s0 c0 H3 hb0 F3 r0 H4 F4 g1 s1 c1 H5 hb1 F5 r1 H6 F6 pp H7 hn7 F7
    have F11 : FH H7 [(pp, Is (.lst [.ref r0, .ref r1])), (r0, Is (.lst (rowL (new s0 c0)))), (r1, Is (.lst (rowL (new s1 c1)))), (p, Bag)] := FH.sel F7 (by walk_at "y sel")
    clear F3 F4 F5 F6 F7
    have g0 := new_good hb0
    have g1 := new_good hb1
    have q0 : (new s0 c0).lo = s0 ∧ (new s0 c0).hi = c0 := ⟨rfl, rfl⟩
    have q1 : (new s1 c1).lo = s1 ∧ (new s1 c1).hi = c1 := ⟨rfl, rfl⟩
    refine lcLU (σw := [some (.ref q), some (.ref p), some (.int (1 + n)), y3, some (.ref pp), none, none, none, none, none]) F11 (List.Mem.head _) rfl fun c Hc Fc => ?_
    walk_at "y"
    rename_i H11 F12
    obtain ⟨e0, e1, d0, d1, F13⟩ : ∃ e0 e1 d0 d1, FH H11 (LL a c pp e0 e1 r0 r1 p d0 d1 (new s0 c0) (new s1 c1)) := ⟨_, _, _, _, FH.sel F12 (by walk_at "y sel")⟩
    clear F12 Fc F11 q0 q1
    generalize new s0 c0 = f0 at *
    generalize new s1 c1 = f1 at *
    refine forG (fun i σ H => (∃ y7 y8 y9, σ = [some (.ref q), some (.ref p), some (.int (1 + n)), y3, some (.ref pp), some (.ref c), none, y7, y8, y9]) ∧ ∃ f0 f1, Good f0 ∧ Good f1 ∧ FH H (LL a c pp e0 e1 r0 r1 p d0 d1 f0 f1)) (by omega) (by omega) ⟨⟨_, _, _, rfl⟩, f0, f1, g0, g1, F13⟩ ?_ ?_
    · clear F13 g0 g1
      intro i σ H hi ⟨⟨y7, y8, y9, e⟩, f0, f1, g0, g1, F⟩
      subst e
      walk_at "y"
      all_goals
        refine ⟨⟨_, _, _, rfl⟩, _, _, ?_, ?_, FH.sel (by assumption) (by walk_at "y sel")⟩
        · first | assumption | exact Good.next (by assumption) (by assumption)
        · first | assumption | exact Good.next (by assumption) (by assumption)
    · intro σ H ⟨⟨y7, y8, y9, e⟩, f0, f1, g0, g1, F⟩
      subst e
      walk_at "y"
      all_goals exact k _
theorem law_holds (a : Cl) {K : PySem.W.Frag} (st : a.S = SK K) (vs : List V) (H : Hp) (Q : VK) (E : XK) (h : ∃ (p : Addr) (ns : List Int), vs = [.ref p] ∧ SqL K H p (ns.map V.int) ∧ ns.length ≤ 63 ∧ Only H ∧ ∀ H', Q (.bl true) H') : sp_law a vs H Q E := by
  obtain ⟨p, ns, rfl, hS, hl, hO, k⟩ := h
  obtain ⟨L, F, m⟩ := src_of st hS
  exact law_ok F m hl k

/-! ### the text, by places -/
abbrev top (i : Nat) : Stmt := PySem.Challenge.pw_lossway_k16_estimate_backs.main.body.getD i (.Pass ⟨0, 0, 0, 0⟩)
structure Ad extends Cl where
  f_bag : Addr
  d_bag : FuncData
  f_take : Addr
  d_take : FuncData
  f_lesser : Addr
  d_lesser : FuncData
  f_bounds : Addr
  d_bounds : FuncData
  f_far : Addr
  d_far : FuncData
  f_odd : Addr
  d_odd : FuncData
  f_bent : Addr
  d_bent : FuncData
  f_is_whole : Addr
  d_is_whole : FuncData
  f_in_range : Addr
  d_in_range : FuncData
  f_Estimate___init__ : Addr
  d_Estimate___init__ : FuncData
  f_Estimate_timeout : Addr
  d_Estimate_timeout : FuncData
  f_made : Addr
  d_made : FuncData
  f_whole : Addr
  d_whole : FuncData
  f_new : Addr
  d_new : FuncData
  f_row : Addr
  d_row : FuncData
  f_greater : Addr
  d_greater : FuncData
  f_wait : Addr
  d_wait : FuncData
  f_powers : Addr
  d_powers : FuncData
  f_Estimate_backed : Addr
  d_Estimate_backed : FuncData
  f_Estimate_sample : Addr
  d_Estimate_sample : FuncData
  f_call : Addr
  d_call : FuncData
  f_agrees : Addr
  d_agrees : FuncData
  f_backs : Addr
  d_backs : FuncData
  f_same : Addr
  d_same : FuncData
  f_refuses : Addr
  d_refuses : FuncData
  f_ticks : Addr
  d_ticks : FuncData
  f_enter : Addr
  d_enter : FuncData
  f_law : Addr
  d_law : FuncData
  f_InvalidSetting___init__ : Addr
  d_InvalidSetting___init__ : FuncData
  f_InvalidNumber___init__ : Addr
  d_InvalidNumber___init__ : FuncData
structure Txt (P : Program) (K : PySem.W.Frag) (mg : Str → Option Value) (a : Ad) : Prop where
  st : a.S = SK K
  no_abs : mg "abs" = none
  no_int : mg "int" = none
  no_sum : mg "sum" = none
  mg_bag : mg "_law_bag" = some (.ref a.f_bag)
  bd_bag : Binds K a.d_bag ["_law_script"] []
  fn_bag : Fun K "_law_bag" "_law_bag" (top 13) a.f_bag a.d_bag
  no_len : mg "len" = none
  mg_take : mg "_law_take" = some (.ref a.f_take)
  bd_take : Binds K a.d_take ["_law_bag_here", "_law_many"] []
  fn_take : Fun K "_law_take" "_law_take" (top 14) a.f_take a.d_take
  no_range : mg "range" = none
  mg_lesser : mg "_law_lesser" = some (.ref a.f_lesser)
  bd_lesser : Binds K a.d_lesser ["_law_one", "_law_two"] []
  fn_lesser : Fun K "_law_lesser" "_law_lesser" (top 15) a.f_lesser a.d_lesser
  mg_bounds : mg "_law_bounds" = some (.ref a.f_bounds)
  bd_bounds : Binds K a.d_bounds ["_law_bag_here"] []
  fn_bounds : Fun K "_law_bounds" "_law_bounds" (top 17) a.f_bounds a.d_bounds
  mg_far : mg "_law_far" = some (.ref a.f_far)
  bd_far : Binds K a.d_far ["_law_bag_here"] []
  fn_far : Fun K "_law_far" "_law_far" (top 22) a.f_far a.d_far
  no_str : mg "str" = none
  mg_odd : mg "_law_odd" = some (.ref a.f_odd)
  bd_odd : Binds K a.d_odd ["_law_bag_here"] []
  fn_odd : Fun K "_law_odd" "_law_odd" (top 23) a.f_odd a.d_odd
  mg_bent : mg "_law_bent" = some (.ref a.f_bent)
  bd_bent : Binds K a.d_bent ["_law_bag_here", "_law_way"] []
  fn_bent : Fun K "_law_bent" "_law_bent" (top 27) a.f_bent a.d_bent
  ex_InvalidNumber_LossError : PySem.W.exmOne K (.ref a.c_InvalidNumber) (.ref a.c_LossError) = some true
  ex_InvalidSetting_LossError : PySem.W.exmOne K (.ref a.c_InvalidSetting) (.ref a.c_LossError) = some true
  no_isinstance : mg "isinstance" = none
  no_bool : mg "bool" = none
  mg_is_whole : mg "is_whole" = some (.ref a.f_is_whole)
  bd_is_whole : Binds K a.d_is_whole ["value"] []
  fn_is_whole : Fun K "is_whole" "is_whole" (top 5) a.f_is_whole a.d_is_whole
  mg_in_range : mg "in_range" = some (.ref a.f_in_range)
  bd_in_range : Binds K a.d_in_range ["value", "low", "high"] []
  mg_GREATEST_TIMEOUT : ∃ t, mg "GREATEST_TIMEOUT" = some (.int 100000 t)
  fn_in_range : Fun K "in_range" "in_range" (top 6) a.f_in_range a.d_in_range
  oe_InvalidSetting : OexC K a.c_InvalidSetting
  ii_InvalidSetting_InvalidSetting : PySem.W.findIn K (.ref a.c_InvalidSetting) "__init__" = some (some (.ref a.f_InvalidSetting___init__))
  it_InvalidSetting : PySem.W.typeIn K (.ref a.f_InvalidSetting___init__) = some (.type "function")
  mg_InvalidSetting : mg "InvalidSetting" = some (.ref a.c_InvalidSetting)
  be_InvalidSetting : Binds K a.d_InvalidSetting___init__ ["self", "setting"] []
  cl_Estimate : Cls K a.c_Estimate
  na_Estimate_low : NoAttr K a.c_Estimate "low"
  na_Estimate_high : NoAttr K a.c_Estimate "high"
  na_Estimate_smooth : NoAttr K a.c_Estimate "smooth"
  na_Estimate_spread : NoAttr K a.c_Estimate "spread"
  na_Estimate_samples : NoAttr K a.c_Estimate "samples"
  mk_Estimate : Mk K a.c_Estimate a.f_Estimate___init__
  bd_Estimate___init__ : Binds K a.d_Estimate___init__ ["self", "low", "high"] []
  mg_Estimate : mg "Estimate" = some (.ref a.c_Estimate)
  no_min : mg "min" = none
  no_max : mg "max" = none
  pp_Estimate_timeout : ∃ p, PropOf K a.c_Estimate "timeout" p a.f_Estimate_timeout
  bd_Estimate_timeout : Binds K a.d_Estimate_timeout ["self"] []
  is_InvalidNumber_InvalidSetting : IsOk K (.ref a.c_InvalidNumber) (.ref a.c_InvalidSetting) false
  is_InvalidSetting_InvalidSetting : IsOk K (.ref a.c_InvalidSetting) (.ref a.c_InvalidSetting) true
  is_InvalidNumber_ValueError : IsOk K (.ref a.c_InvalidNumber) (.ty "ValueError") true
  is_InvalidSetting_ValueError : IsOk K (.ref a.c_InvalidSetting) (.ty "ValueError") true
  no_ValueError : mg "ValueError" = none
  is_InvalidNumber_InvalidNumber : IsOk K (.ref a.c_InvalidNumber) (.ref a.c_InvalidNumber) true
  is_InvalidSetting_InvalidNumber : IsOk K (.ref a.c_InvalidSetting) (.ref a.c_InvalidNumber) false
  mg_InvalidNumber : mg "InvalidNumber" = some (.ref a.c_InvalidNumber)
  xf_InvalidSetting_setting : XfOk K a.c_InvalidSetting "setting"
  mg_LossError : mg "LossError" = some (.ref a.c_LossError)
  mg_made : mg "_law_made" = some (.ref a.f_made)
  bd_made : Binds K a.d_made ["_law_low_bound", "_law_high_bound"] []
  fn_made : Fun K "_law_made" "_law_made" (top 25) a.f_made a.d_made
  no_all : mg "all" = none
  mg_whole : mg "_law_whole" = some (.ref a.f_whole)
  bd_whole : Binds K a.d_whole ["_law_value"] []
  fn_whole : Fun K "_law_whole" "_law_whole" (top 12) a.f_whole a.d_whole
  mg_new : mg "_law_new" = some (.ref a.f_new)
  bd_new : Binds K a.d_new ["_law_bag_here", "_law_way"] []
  fn_new : Fun K "_law_new" "_law_new" (top 28) a.f_new a.d_new
  mg_row : mg "_law_row" = some (.ref a.f_row)
  bd_row : Binds K a.d_row ["_law_pair"] []
  fn_row : Fun K "_law_row" "_law_row" (top 18) a.f_row a.d_row
  mg_greater : mg "_law_greater" = some (.ref a.f_greater)
  bd_greater : Binds K a.d_greater ["_law_one", "_law_two"] []
  fn_greater : Fun K "_law_greater" "_law_greater" (top 16) a.f_greater a.d_greater
  mg_wait : mg "_law_wait" = some (.ref a.f_wait)
  bd_wait : Binds K a.d_wait ["_law_row_here"] []
  fn_wait : Fun K "_law_wait" "_law_wait" (top 20) a.f_wait a.d_wait
  mg_powers : mg "_law_powers" = some (.ref a.f_powers)
  bd_powers : Binds K a.d_powers ["_law_row_here"] []
  fn_powers : Fun K "_law_powers" "_law_powers" (top 31) a.f_powers a.d_powers
  mg_GREATEST_BACKING : ∃ t, mg "GREATEST_BACKING" = some (.int 60 t)
  oe_InvalidNumber : OexC K a.c_InvalidNumber
  ii_InvalidNumber_InvalidNumber : PySem.W.findIn K (.ref a.c_InvalidNumber) "__init__" = some (some (.ref a.f_InvalidNumber___init__))
  it_InvalidNumber : PySem.W.typeIn K (.ref a.f_InvalidNumber___init__) = some (.type "function")
  be_InvalidNumber : Binds K a.d_InvalidNumber___init__ ["self", "number"] []
  mt_Estimate_backed : Meth K a.c_Estimate "backed" a.f_Estimate_backed
  bd_Estimate_backed : Binds K a.d_Estimate_backed ["self", "count"] []
  mt_Estimate_sample : Meth K a.c_Estimate "sample" a.f_Estimate_sample
  bd_Estimate_sample : Binds K a.d_Estimate_sample ["self", "ticks"] []
  xf_InvalidNumber_number : XfOk K a.c_InvalidNumber "number"
  mg_call : mg "_law_call" = some (.ref a.f_call)
  bd_call : Binds K a.d_call ["_law_estimate", "_law_deed", "_law_value"] []
  fn_call : Fun K "_law_call" "_law_call" (top 26) a.f_call a.d_call
  mg_agrees : mg "_law_agrees" = some (.ref a.f_agrees)
  bd_agrees : Binds K a.d_agrees ["_law_estimate", "_law_row_here"] []
  fn_agrees : Fun K "_law_agrees" "_law_agrees" (top 30) a.f_agrees a.d_agrees
  mg_backs : mg "_law_backs" = some (.ref a.f_backs)
  bd_backs : Binds K a.d_backs ["_law_estimate", "_law_row_here", "_law_downwards"] []
  fn_backs : Fun K "_law_backs" "_law_backs" (top 32) a.f_backs a.d_backs
  mg_same : mg "_law_same" = some (.ref a.f_same)
  bd_same : Binds K a.d_same ["_law_told", "_law_due"] []
  fn_same : Fun K "_law_same" "_law_same" (top 24) a.f_same a.d_same
  mg_refuses : mg "_law_refuses" = some (.ref a.f_refuses)
  bd_refuses : Binds K a.d_refuses ["_law_bag_here", "_law_estimate"] []
  fn_refuses : Fun K "_law_refuses" "_law_refuses" (top 29) a.f_refuses a.d_refuses
  mg_ticks : mg "_law_ticks" = some (.ref a.f_ticks)
  bd_ticks : Binds K a.d_ticks ["_law_bag_here", "_law_row_here"] []
  fn_ticks : Fun K "_law_ticks" "_law_ticks" (top 21) a.f_ticks a.d_ticks
  mg_enter : mg "_law_enter" = some (.ref a.f_enter)
  bd_enter : Binds K a.d_enter ["_law_row_here", "_law_ticks_here"] []
  fn_enter : Fun K "_law_enter" "_law_enter" (top 19) a.f_enter a.d_enter
  fn_Estimate___init__ : Fun K "__init__" "Estimate.__init__" (inClass (top 10) 0) a.f_Estimate___init__ a.d_Estimate___init__
  fn_Estimate_timeout : Fun K "timeout" "Estimate.timeout" (inClass (top 10) 1) a.f_Estimate_timeout a.d_Estimate_timeout
  fn_Estimate_backed : Fun K "backed" "Estimate.backed" (inClass (top 10) 3) a.f_Estimate_backed a.d_Estimate_backed
  fn_Estimate_sample : Fun K "sample" "Estimate.sample" (inClass (top 10) 2) a.f_Estimate_sample a.d_Estimate_sample
  fn_law : Fun K "law" "law" (top 33) a.f_law a.d_law
  bd_law : Binds K a.d_law ["_law_script"] []
  mg_law : mg "law" = some (.ref a.f_law)
  fs_InvalidSetting : FunS P K "__init__" "InvalidSetting.__init__" (inClass (top 3) 0) a.f_InvalidSetting___init__ a.d_InvalidSetting___init__ a.c_InvalidSetting
  sv_InvalidSetting_InvalidSetting : SupV K a.c_InvalidSetting a.c_InvalidSetting
  nf_InvalidSetting_setting : PySem.W.findIn K (.ref a.c_InvalidSetting) "setting" = some none
  fs_InvalidNumber : FunS P K "__init__" "InvalidNumber.__init__" (inClass (top 2) 0) a.f_InvalidNumber___init__ a.d_InvalidNumber___init__ a.c_InvalidNumber
  sv_InvalidNumber_InvalidNumber : SupV K a.c_InvalidNumber a.c_InvalidNumber
  nf_InvalidNumber_number : PySem.W.findIn K (.ref a.c_InvalidNumber) "number" = some none
  no_super : mg "super" = none
  sup_top : (P.main.scope.names.lookup ("super" : Str)).isSome = false
section
variable {P : Program} {w : World} {K : PySem.W.Frag} {mg : Str → Option Value} {base : Heap} {a : Ad}
theorem se_InvalidSetting : FnScS ["self", "setting"] ["self", "setting"] (defScope (inClass (top 3) 0)) := ⟨rfl, rfl, rfl, by decide +kernel, rfl, by decide +kernel, by decide +kernel, by decide +kernel⟩
theorem ok_InvalidSetting___init__ (T : Txt P K mg a) : FnOk P w K mg base (L2.CX P w) 1 a.f_InvalidSetting___init__ a.d_InvalidSetting___init__ ["self", "setting"] (spEx [a.c_InvalidSetting] ["setting"]) :=
  T.fs_InvalidSetting.ok se_InvalidSetting rfl rfl rfl rfl rfl T.sup_top T.no_super (fun vs H Q E q => show vs.length = 2 from spEx_len (fs := ["setting"]) vs H Q E q) fun cdv cc A outer s H vs Q E hr T1 q =>
    ⟨_, pssa_cons (psa_supV T1 (pa_cons pe_str pa_nil)) (pssa_one (psa_of (ps_ost (pv 0) (pv 1)))), ex1 (m := "the setting is invalid or unknown") (all_cons (p := fun C => SupV K C a.c_InvalidSetting ∧ PySem.W.findIn K (.ref C) "setting" = some none) ⟨T.sv_InvalidSetting_InvalidSetting, T.nf_InvalidSetting_setting⟩ (all_nil)) q⟩
theorem se_InvalidNumber : FnScS ["self", "number"] ["self", "number"] (defScope (inClass (top 2) 0)) := ⟨rfl, rfl, rfl, by decide +kernel, rfl, by decide +kernel, by decide +kernel, by decide +kernel⟩
theorem ok_InvalidNumber___init__ (T : Txt P K mg a) : FnOk P w K mg base (L2.CX P w) 1 a.f_InvalidNumber___init__ a.d_InvalidNumber___init__ ["self", "number"] (spEx [a.c_InvalidNumber] ["number"]) :=
  T.fs_InvalidNumber.ok se_InvalidNumber rfl rfl rfl rfl rfl T.sup_top T.no_super (fun vs H Q E q => show vs.length = 2 from spEx_len (fs := ["number"]) vs H Q E q) fun cdv cc A outer s H vs Q E hr T1 q =>
    ⟨_, pssa_cons (psa_supV T1 (pa_cons pe_str pa_nil)) (pssa_one (psa_of (ps_ost (pv 0) (pv 1)))), ex1 (m := "the number, or another argument, is invalid") (all_cons (p := fun C => SupV K C a.c_InvalidNumber ∧ PySem.W.findIn K (.ref C) "number" = some none) ⟨T.sv_InvalidNumber_InvalidNumber, T.nf_InvalidNumber_number⟩ (all_nil)) q⟩
abbrev nm_bag : List Str := ["_law_script", "_law_great", "_law_cell", "_law_cells"]
theorem sc_bag : FnScope nm_bag ["_law_script"] (defScope (top 13)) := ⟨rfl, rfl, rfl, by decide +kernel, rfl, by decide +kernel, by decide +kernel⟩
theorem ok_bag (T : Txt P K mg a) : FnOk P w K mg base (L2.CX P w) 1 a.f_bag a.d_bag ["_law_script"] (sp_bag a.toCl) := by
  refine ok_body T.fn_bag sc_bag rfl rfl fun cdv A outer s H E hr => ?_
  exact (pss_cons (ps_lcSeq (i := 1) (own := [("_law_cell", 2)]) T.st rfl sc_bag.nd rfl rfl (sw_true rfl rfl rfl (by decide +kernel)) (pv 0) (blkOk_by (own := [("_law_cell", 2)]) (N := nm_bag) (sc := defScope (top 13)) (by decide +kernel)) ⟨fun _ _ _ _ _ => (pg_name (i := 2) sc_bag.nd rfl (by first | exact Or.inl rfl | exact Or.inr rfl)), fun _ _ _ _ _ => (pts_one (pt_cmpR o_ge (pe_callB c_abs (by rfl) T.no_abs (by decide +kernel) (pa_cons (pv 2) pa_nil)) (pe_op o_pow pe_int pe_int) (nomark _))), fun _ _ _ _ _ => (pe_callB c_abs (by rfl) T.no_abs (by decide +kernel) (pa_cons (pv 2) pa_nil))⟩)
    (pss_cons (ps_lcSeq (i := 3) (own := [("_law_cell", 2)]) T.st rfl sc_bag.nd rfl rfl (sw_true rfl rfl rfl (by decide +kernel)) (pv 0) (blkOk_by (own := [("_law_cell", 2)]) (N := nm_bag) (sc := defScope (top 13)) (by decide +kernel)) ⟨fun _ _ _ _ _ => (pg_name (i := 2) sc_bag.nd rfl (by first | exact Or.inl rfl | exact Or.inr rfl)), fun _ _ _ _ _ => pts_nil, fun _ _ _ _ _ => (pe_op o_mod (pe_callTy c_int (by rfl) T.no_int (by decide +kernel) (pa_cons (pv 2) pa_nil)) pe_int)⟩)
    (pss_one (ps_ret (pe_lst (pa_cons (pv 1) (pa_cons (pv 3) (pa_cons pe_int (pa_cons (pe_op o_mod (pe_callTy c_int (by rfl) T.no_int (by decide +kernel) (pa_cons (pe_callB (c_sum T.st rfl) (by rfl) T.no_sum (by decide +kernel) (pa_cons (pv 3) pa_nil)) pa_nil)) pe_int) pa_nil)))))))))
abbrev nm_take : List Str := ["_law_bag_here", "_law_many", "_law_left", "_law_cell", "_law_one", "_law_two"]
theorem sc_take : FnScope nm_take ["_law_bag_here", "_law_many"] (defScope (top 14)) := ⟨rfl, rfl, rfl, by decide +kernel, rfl, by decide +kernel, by decide +kernel⟩
theorem ok_take (T : Txt P K mg a) : FnOk P w K mg base (L2.CX P w) 1 a.f_take a.d_take ["_law_bag_here", "_law_many"] (sp_take a.toCl) := by
  refine ok_body T.fn_take sc_take rfl rfl fun cdv A outer s H E hr => ?_
  exact (pss_cons (ps_asg (pe_op o_add (pe_ix (o_ix T.st) (pv 0) pe_int (fun _ _ => rfl)) pe_int) (pg_sub (pv 0) pe_int set_list))
    (pss_cons (ps_if (pt_cmpR (o_neP T.st hr.units) (pe_ix (o_ix T.st) (pv 0) pe_int (fun _ _ => rfl)) (pe_lst pa_nil) (nomark _)) (pss_cons (ps_set (i := 2) sc_take.nd rfl (by first | exact Or.inl rfl | exact Or.inr rfl) (pe_ix (o_ix T.st) (pe_ix (o_ix T.st) (pv 0) pe_int (fun _ _ => rfl)) pe_int (fun _ _ => rfl)))
    (pss_cons (ps_if (pt_cmpR o_ge (pv 2) (pv 1) (nomark _)) (pss_one (ps_asg (pe_op o_add (pe_lst (pa_cons (pe_op o_fdiv (pv 2) (pv 1)) pa_nil)) (pe_slice (o_sl T.st) (pe_ix (o_ix T.st) (pv 0) pe_int (fun _ _ => rfl)) (po_some pe_int) po_none)) (pg_sub (pv 0) pe_int set_list))) (pss_one (ps_asg (pe_slice (o_sl T.st) (pe_ix (o_ix T.st) (pv 0) pe_int (fun _ _ => rfl)) (po_some pe_int) po_none) (pg_sub (pv 0) pe_int set_list))))
    (pss_one (ps_ret (pe_op o_mod (pe_callTy c_int (by rfl) T.no_int (by decide +kernel) (pa_cons (pv 2) pa_nil)) (pv 1)))))) pss_nil)
    (pss_cons (ps_if (pt_cmpR (o_eqP T.st hr.units) (pe_ix (o_ix T.st) (pv 0) pe_int (fun _ _ => rfl)) (pe_lst pa_nil) (nomark _)) (pss_one (ps_ret (pe_op o_mod (pe_callTy c_int (by rfl) T.no_int (by decide +kernel) (pa_cons (pe_ix (o_ix T.st) (pv 0) pe_int (fun _ _ => rfl)) pa_nil)) (pv 1)))) pss_nil)
    (pss_cons (ps_set (i := 3) sc_take.nd rfl (by first | exact Or.inl rfl | exact Or.inr rfl) (pe_ix (o_ix T.st) (pe_ix (o_ix T.st) (pv 0) pe_int (fun _ _ => rfl)) (pe_op o_mod (pe_callTy c_int (by rfl) T.no_int (by decide +kernel) (pa_cons (pe_ix (o_ix T.st) (pv 0) pe_int (fun _ _ => rfl)) pa_nil)) (pe_callB (c_len T.st) (by rfl) T.no_len (by decide +kernel) (pa_cons (pe_ix (o_ix T.st) (pv 0) pe_int (fun _ _ => rfl)) pa_nil))) (fun _ _ => rfl)))
    (pss_cons (ps_set (i := 4) sc_take.nd rfl (by first | exact Or.inl rfl | exact Or.inr rfl) (pe_op o_mod (pe_callTy c_int (by rfl) T.no_int (by decide +kernel) (pa_cons (pe_op o_add (pe_op o_add (pe_op o_add (pe_op o_mul (pv 3) pe_int) (pe_op o_mul (pe_ix (o_ix T.st) (pv 0) pe_int (fun _ _ => rfl)) pe_int)) (pe_op o_mul (pe_ix (o_ix T.st) (pv 0) pe_int (fun _ _ => rfl)) pe_int)) pe_int) pa_nil)) pe_int))
    (pss_cons (ps_set (i := 5) sc_take.nd rfl (by first | exact Or.inl rfl | exact Or.inr rfl) (pe_op o_mod (pe_callTy c_int (by rfl) T.no_int (by decide +kernel) (pa_cons (pe_op o_add (pe_op o_add (pe_op o_fdiv (pe_op o_mul (pv 4) (pv 4)) pe_int) (pe_op o_mul (pv 4) pe_int)) (pe_op o_mul (pe_ix (o_ix T.st) (pv 0) pe_int (fun _ _ => rfl)) pe_int)) pa_nil)) pe_int))
    (pss_one (ps_ret (pe_op o_mod (pe_callTy c_int (by rfl) T.no_int (by decide +kernel) (pa_cons (pe_op o_fdiv (pe_op o_add (pe_op o_mul (pv 4) pe_int) (pv 5)) pe_int) pa_nil)) (pv 1))))))))))
abbrev nm_lesser : List Str := ["_law_one", "_law_two"]
theorem sc_lesser : FnScope nm_lesser ["_law_one", "_law_two"] (defScope (top 15)) := ⟨rfl, rfl, rfl, by decide +kernel, rfl, by decide +kernel, by decide +kernel⟩
theorem ok_lesser (T : Txt P K mg a) : FnOk P w K mg base (L2.CX P w) 1 a.f_lesser a.d_lesser ["_law_one", "_law_two"] (sp_lesser a.toCl) := by
  refine ok_body T.fn_lesser sc_lesser rfl rfl fun cdv A outer s H E hr => ?_
  exact (pss_cons (ps_if (pt_cmpR o_lt (pv 0) (pv 1) (nomark _)) (pss_one (ps_ret (pv 0))) pss_nil)
    (pss_one (ps_ret (pv 1))))
abbrev nm_bounds : List Str := ["_law_bag_here", "_law_floor", "_law_way", "_law_roof"]
theorem sc_bounds : FnScope nm_bounds ["_law_bag_here"] (defScope (top 17)) := ⟨rfl, rfl, rfl, by decide +kernel, rfl, by decide +kernel, by decide +kernel⟩
theorem ok_bounds (T : Txt P K mg a) : FnOk P w K mg base (L2.CX P w) 2 a.f_bounds a.d_bounds ["_law_bag_here"] (sp_bounds a.toCl) := by
  refine ok_body T.fn_bounds sc_bounds rfl rfl fun cdv A outer s H E hr => ?_
  exact (pss_cons (ps_set (i := 1) sc_bounds.nd rfl (by first | exact Or.inl rfl | exact Or.inr rfl) (pe_op o_add pe_int (pe_call (ok_take T) (hr.mono (by decide)) rfl T.mg_take (T.fn_take).kp T.bd_take .nil passE (pa_cons (pv 0) (pa_cons pe_int pa_nil)))))
    (pss_cons (ps_if (pt_cmpR (o_eqP T.st hr.units) (pe_call (ok_take T) (hr.mono (by decide)) rfl T.mg_take (T.fn_take).kp T.bd_take .nil passE (pa_cons (pv 0) (pa_cons pe_int pa_nil))) pe_int (nomark _)) (pss_one (ps_set (i := 1) sc_bounds.nd rfl (by first | exact Or.inl rfl | exact Or.inr rfl) (pe_op o_add pe_int (pe_call (ok_take T) (hr.mono (by decide)) rfl T.mg_take (T.fn_take).kp T.bd_take .nil passE (pa_cons (pv 0) (pa_cons pe_int pa_nil)))))) pss_nil)
    (pss_cons (ps_set (i := 2) sc_bounds.nd rfl (by first | exact Or.inl rfl | exact Or.inr rfl) (pe_call (ok_take T) (hr.mono (by decide)) rfl T.mg_take (T.fn_take).kp T.bd_take .nil passE (pa_cons (pv 0) (pa_cons pe_int pa_nil))))
    (pss_cons (ps_set (i := 3) sc_bounds.nd rfl (by first | exact Or.inl rfl | exact Or.inr rfl) (pv 1))
    (pss_cons (ps_if (pt_cmpR (o_eqP T.st hr.units) (pv 2) pe_int (nomark _)) (pss_one (ps_set (i := 3) sc_bounds.nd rfl (by first | exact Or.inl rfl | exact Or.inr rfl) (pe_call (ok_lesser T) (hr.mono (by decide)) rfl T.mg_lesser (T.fn_lesser).kp T.bd_lesser .nil passE (pa_cons pe_int (pa_cons (pe_op o_add (pe_op o_add (pv 1) pe_int) (pe_call (ok_take T) (hr.mono (by decide)) rfl T.mg_take (T.fn_take).kp T.bd_take .nil passE (pa_cons (pv 0) (pa_cons pe_int pa_nil)))) pa_nil))))) (pss_one (ps_if (pt_cmpR (o_eqP T.st hr.units) (pv 2) pe_int (nomark _)) (pss_one (ps_set (i := 3) sc_bounds.nd rfl (by first | exact Or.inl rfl | exact Or.inr rfl) pe_int)) (pss_one (ps_if (pt_cmpR (o_eqP T.st hr.units) (pv 2) pe_int (nomark _)) (pss_one (ps_set (i := 3) sc_bounds.nd rfl (by first | exact Or.inl rfl | exact Or.inr rfl) (pe_op o_add (pv 1) (pe_call (ok_take T) (hr.mono (by decide)) rfl T.mg_take (T.fn_take).kp T.bd_take .nil passE (pa_cons (pv 0) (pa_cons (pe_op o_sub pe_int (pv 1)) pa_nil)))))) pss_nil)))))
    (pss_one (ps_ret (pe_lst (pa_cons (pv 1) (pa_cons (pv 3) pa_nil))))))))))
abbrev nm_far : List Str := ["_law_bag_here", "_law_factor"]
theorem sc_far : FnScope nm_far ["_law_bag_here"] (defScope (top 22)) := ⟨rfl, rfl, rfl, by decide +kernel, rfl, by decide +kernel, by decide +kernel⟩
theorem ok_far (T : Txt P K mg a) : FnOk P w K mg base (L2.CX P w) 2 a.f_far a.d_far ["_law_bag_here"] (sp_far a.toCl) := by
  refine ok_body T.fn_far sc_far rfl rfl fun cdv A outer s H E hr => ?_
  exact (pss_cons (ps_set (i := 1) sc_far.nd rfl (by first | exact Or.inl rfl | exact Or.inr rfl) (pe_call (ok_take T) (hr.mono (by decide)) rfl T.mg_take (T.fn_take).kp T.bd_take .nil passE (pa_cons (pv 0) (pa_cons pe_int pa_nil))))
    (pss_one (ps_ret (pe_op o_mul (pv 1) (pe_call (ok_take T) (hr.mono (by decide)) rfl T.mg_take (T.fn_take).kp T.bd_take .nil passE (pa_cons (pv 0) (pa_cons (pe_op o_pow pe_int pe_int) pa_nil)))))))
abbrev nm_odd : List Str := ["_law_bag_here", "_law_way"]
theorem sc_odd : FnScope nm_odd ["_law_bag_here"] (defScope (top 23)) := ⟨rfl, rfl, rfl, by decide +kernel, rfl, by decide +kernel, by decide +kernel⟩
theorem ok_odd (T : Txt P K mg a) : FnOk P w K mg base (L2.CX P w) 2 a.f_odd a.d_odd ["_law_bag_here"] (sp_odd a.toCl) := by
  refine ok_body T.fn_odd sc_odd rfl rfl fun cdv A outer s H E hr => ?_
  exact (pss_cons (ps_set (i := 1) sc_odd.nd rfl (by first | exact Or.inl rfl | exact Or.inr rfl) (pe_call (ok_take T) (hr.mono (by decide)) rfl T.mg_take (T.fn_take).kp T.bd_take .nil passE (pa_cons (pv 0) (pa_cons pe_int pa_nil))))
    (pss_cons (ps_if (pt_cmpR (o_eqP T.st hr.units) (pv 1) pe_int (nomark _)) (pss_one (ps_ret pe_non)) pss_nil)
    (pss_cons (ps_if (pt_cmpR (o_eqP T.st hr.units) (pv 1) pe_int (nomark _)) (pss_one (ps_ret pe_bl)) pss_nil)
    (pss_cons (ps_if (pt_cmpR (o_eqP T.st hr.units) (pv 1) pe_int (nomark _)) (pss_one (ps_ret pe_bl)) pss_nil)
    (pss_cons (ps_if (pt_cmpR (o_eqP T.st hr.units) (pv 1) pe_int (nomark _)) (pss_one (ps_ret pe_str)) pss_nil)
    (pss_cons (ps_if (pt_cmpR (o_eqP T.st hr.units) (pv 1) pe_int (nomark _)) (pss_one (ps_ret (pe_callTy c_strI (by rfl) T.no_str (by decide +kernel) (pa_cons (pe_call (ok_take T) (hr.mono (by decide)) rfl T.mg_take (T.fn_take).kp T.bd_take .nil passE (pa_cons (pv 0) (pa_cons pe_int pa_nil))) pa_nil)))) pss_nil)
    (pss_cons (ps_if (pt_cmpR (o_eqP T.st hr.units) (pv 1) pe_int (nomark _)) (pss_one (ps_ret (pe_tup (pa_cons (pe_call (ok_take T) (hr.mono (by decide)) rfl T.mg_take (T.fn_take).kp T.bd_take .nil passE (pa_cons (pv 0) (pa_cons pe_int pa_nil))) pa_nil)))) pss_nil)
    (pss_cons (ps_if (pt_cmpR (o_eqP T.st hr.units) (pv 1) pe_int (nomark _)) (pss_one (ps_ret (pe_tup pa_nil))) pss_nil)
    (pss_one (ps_ret (pe_lst (pa_cons (pe_call (ok_take T) (hr.mono (by decide)) rfl T.mg_take (T.fn_take).kp T.bd_take .nil passE (pa_cons (pv 0) (pa_cons pe_int pa_nil))) pa_nil))))))))))))
abbrev nm_bent : List Str := ["_law_bag_here", "_law_way", "_law_pair"]
theorem sc_bent : FnScope nm_bent ["_law_bag_here", "_law_way"] (defScope (top 27)) := ⟨rfl, rfl, rfl, by decide +kernel, rfl, by decide +kernel, by decide +kernel⟩
theorem ok_bent (T : Txt P K mg a) : FnOk P w K mg base (L2.CX P w) 3 a.f_bent a.d_bent ["_law_bag_here", "_law_way"] (sp_bent a.toCl) := by
  refine ok_body T.fn_bent sc_bent rfl rfl fun cdv A outer s H E hr => ?_
  exact (pss_cons (ps_set (i := 2) sc_bent.nd rfl (by first | exact Or.inl rfl | exact Or.inr rfl) (pe_call (ok_bounds T) (hr.mono (by decide)) rfl T.mg_bounds (T.fn_bounds).kp T.bd_bounds .nil passE (pa_cons (pv 0) pa_nil)))
    (pss_cons (ps_if (PW.pt (pw_or (pt_cmpR (o_eqP T.st hr.units) (pv 1) pe_int (nomark _)) (pw_or1 (pt_cmpR (o_eqP T.st hr.units) (pv 1) pe_int (nomark _))))) (pss_one (ps_asg (pe_op o_sub pe_int (pe_call (ok_far T) (hr.mono (by decide)) rfl T.mg_far (T.fn_far).kp T.bd_far .nil passE (pa_cons (pv 0) pa_nil))) (pg_sub (pv 2) pe_int set_list))) (pss_one (ps_if (pt_cmpR (o_eqP T.st hr.units) (pv 1) pe_int (nomark _)) (pss_one (ps_asg (pe_op o_add pe_int (pe_call (ok_far T) (hr.mono (by decide)) rfl T.mg_far (T.fn_far).kp T.bd_far .nil passE (pa_cons (pv 0) pa_nil))) (pg_sub (pv 2) pe_int set_list))) (pss_one (ps_if (PW.pt (pw_or (pt_cmpR (o_eqP T.st hr.units) (pv 1) pe_int (nomark _)) (pw_or1 (pt_cmpR (o_eqP T.st hr.units) (pv 1) pe_int (nomark _))))) (pss_one (ps_asg (pe_call (ok_odd T) (hr.mono (by decide)) rfl T.mg_odd (T.fn_odd).kp T.bd_odd .nil passE (pa_cons (pv 0) pa_nil)) (pg_sub (pv 2) pe_int set_list))) (pss_one (ps_if (pt_cmpR (o_eqP T.st hr.units) (pv 1) pe_int (nomark _)) (pss_one (ps_asg (pe_op o_sub (pe_op o_sub (pe_ix (o_ix T.st) (pv 2) pe_int (fun _ _ => rfl)) pe_int) (pe_call (ok_take T) (hr.mono (by decide)) rfl T.mg_take (T.fn_take).kp T.bd_take .nil passE (pa_cons (pv 0) (pa_cons (pe_op o_add (pe_ix (o_ix T.st) (pv 2) pe_int (fun _ _ => rfl)) pe_int) pa_nil)))) (pg_sub (pv 2) pe_int set_list))) pss_nil)))))))
    (pss_cons (ps_if (PW.pt (pw_or (pt_cmpR (o_eqP T.st hr.units) (pv 1) pe_int (nomark _)) (pw_or1 (pt_cmpR (o_eqP T.st hr.units) (pv 1) pe_int (nomark _))))) (pss_one (ps_asg (pe_op o_add pe_int (pe_call (ok_far T) (hr.mono (by decide)) rfl T.mg_far (T.fn_far).kp T.bd_far .nil passE (pa_cons (pv 0) pa_nil))) (pg_sub (pv 2) pe_int set_list))) (pss_one (ps_if (PW.pt (pw_or (pt_cmpR (o_eqP T.st hr.units) (pv 1) pe_int (nomark _)) (pw_or1 (pt_cmpR (o_eqP T.st hr.units) (pv 1) pe_int (nomark _))))) (pss_one (ps_asg (pe_call (ok_odd T) (hr.mono (by decide)) rfl T.mg_odd (T.fn_odd).kp T.bd_odd .nil passE (pa_cons (pv 0) pa_nil)) (pg_sub (pv 2) pe_int set_list))) pss_nil)))
    (pss_one (ps_ret (pv 2))))))
abbrev nm_is_whole : List Str := ["value"]
theorem sc_is_whole : FnScope nm_is_whole ["value"] (defScope (top 5)) := ⟨rfl, rfl, rfl, by decide +kernel, rfl, by decide +kernel, by decide +kernel⟩
theorem ok_is_whole (T : Txt P K mg a) : FnOk P w K mg base (L2.CX P w) 1 a.f_is_whole a.d_is_whole ["value"] (sp_is_whole a.toCl) := by
  refine ok_body T.fn_is_whole sc_is_whole rfl rfl fun cdv A outer s H E hr => ?_
  exact (pss_one (ps_ret (pe_and (pe_callB c_isi (by rfl) T.no_isinstance (by decide +kernel) (pa_cons (pv 0) (pa_cons (pe_bltn (v := .ty "int") (by rfl) T.no_int (by decide +kernel) rfl) pa_nil))) (pe_one (pe_not (pe_callB c_isi (by rfl) T.no_isinstance (by decide +kernel) (pa_cons (pv 0) (pa_cons (pe_bltn (v := .ty "bool") (by rfl) T.no_bool (by decide +kernel) rfl) pa_nil))))))))
abbrev nm_in_range : List Str := ["value", "low", "high"]
theorem sc_in_range : FnScope nm_in_range ["value", "low", "high"] (defScope (top 6)) := ⟨rfl, rfl, rfl, by decide +kernel, rfl, by decide +kernel, by decide +kernel⟩
theorem ok_in_range (T : Txt P K mg a) : FnOk P w K mg base (L2.CX P w) 2 a.f_in_range a.d_in_range ["value", "low", "high"] (sp_in_range a.toCl) := by
  refine ok_body T.fn_in_range sc_in_range rfl rfl fun cdv A outer s H E hr => ?_
  exact (pss_one (ps_ret (pe_and (pe_call (ok_is_whole T) (hr.mono (by decide)) rfl T.mg_is_whole (T.fn_is_whole).kp T.bd_is_whole .nil passE (pa_cons (pv 0) pa_nil)) (pe_one (pe_chain o_le o_le (pv 1) (pv 0) (pv 2))))))
abbrev nm_Estimate___init__ : List Str := ["self", "low", "high"]
theorem sc_Estimate___init__ : FnScope nm_Estimate___init__ ["self", "low", "high"] (defScope (inClass (top 10) 0)) := ⟨rfl, rfl, rfl, by decide +kernel, rfl, by decide +kernel, by decide +kernel⟩
theorem ok_Estimate___init__ (T : Txt P K mg a) : FnOk P w K mg base (L2.CX P w) 3 a.f_Estimate___init__ a.d_Estimate___init__ ["self", "low", "high"] (sp_Estimate___init__ a.toCl) := by
  obtain ⟨_, mg_GREATEST_TIMEOUT_⟩ := T.mg_GREATEST_TIMEOUT
  refine ok_body T.fn_Estimate___init__ sc_Estimate___init__ rfl rfl fun cdv A outer s H E hr => ?_
  exact (pss_cons (ps_if (pt_not (pt_val (pe_call (ok_in_range T) (hr.mono (by decide)) rfl T.mg_in_range (T.fn_in_range).kp T.bd_in_range .nil passE (pa_cons (pv 1) (pa_cons pe_int (pa_cons (pe_constI mg_GREATEST_TIMEOUT_ rfl) pa_nil)))))) (pss_one (ps_raiseE rfl (takes_of rfl rfl rfl rfl) (pmk_ex T.oe_InvalidSetting T.ii_InvalidSetting_InvalidSetting T.it_InvalidSetting (ok_InvalidSetting___init__ T) (by repeat first | exact List.Mem.head _ | apply List.Mem.tail) (by decide) (hr.mono (by decide)) T.be_InvalidSetting passL rfl T.mg_InvalidSetting (pa_cons pe_str pa_nil)))) pss_nil)
    (pss_cons (ps_if (pt_not (pt_val (pe_call (ok_in_range T) (hr.mono (by decide)) rfl T.mg_in_range (T.fn_in_range).kp T.bd_in_range .nil passE (pa_cons (pv 2) (pa_cons (pv 1) (pa_cons (pe_constI mg_GREATEST_TIMEOUT_ rfl) pa_nil)))))) (pss_one (ps_raiseE rfl (takes_of rfl rfl rfl rfl) (pmk_ex T.oe_InvalidSetting T.ii_InvalidSetting_InvalidSetting T.it_InvalidSetting (ok_InvalidSetting___init__ T) (by repeat first | exact List.Mem.head _ | apply List.Mem.tail) (by decide) (hr.mono (by decide)) T.be_InvalidSetting passL rfl T.mg_InvalidSetting (pa_cons pe_str pa_nil)))) pss_nil)
    (pss_cons (ps_setF T.cl_Estimate T.na_Estimate_low (pv 0) (pv 1))
    (pss_cons (ps_setF T.cl_Estimate T.na_Estimate_high (pv 0) (pv 2))
    (pss_cons (ps_setF T.cl_Estimate T.na_Estimate_smooth (pv 0) pe_int)
    (pss_cons (ps_setF T.cl_Estimate T.na_Estimate_spread (pv 0) pe_int)
    (pss_one (ps_setF T.cl_Estimate T.na_Estimate_samples (pv 0) pe_int))))))))
abbrev nm_Estimate_timeout : List Str := ["self", "wait"]
theorem sc_Estimate_timeout : FnScope nm_Estimate_timeout ["self"] (defScope (inClass (top 10) 1)) := ⟨rfl, rfl, rfl, by decide +kernel, rfl, by decide +kernel, by decide +kernel⟩
theorem ok_Estimate_timeout (T : Txt P K mg a) : FnOk P w K mg base (L2.CX P w) 1 a.f_Estimate_timeout a.d_Estimate_timeout ["self"] (sp_Estimate_timeout a.toCl) := by
  refine ok_body T.fn_Estimate_timeout sc_Estimate_timeout rfl rfl fun cdv A outer s H E hr => ?_
  exact (pss_cons (ps_if (pt_cmpR (o_eqP T.st hr.units) (pe_fldC T.cl_Estimate T.na_Estimate_samples (pv 0)) pe_int (nomark _)) (pss_one (ps_ret (pe_callB (c_min2 rfl) (by rfl) T.no_min (by decide +kernel) (pa_cons (pe_fldC T.cl_Estimate T.na_Estimate_high (pv 0)) (pa_cons (pe_op o_mul pe_int (pe_fldC T.cl_Estimate T.na_Estimate_low (pv 0))) pa_nil))))) pss_nil)
    (pss_cons (ps_set (i := 1) sc_Estimate_timeout.nd rfl (by first | exact Or.inl rfl | exact Or.inr rfl) (pe_op o_add (pe_op o_fdiv (pe_fldC T.cl_Estimate T.na_Estimate_smooth (pv 0)) pe_int) (pe_callB (c_max2 rfl) (by rfl) T.no_max (by decide +kernel) (pa_cons pe_int (pa_cons (pe_fldC T.cl_Estimate T.na_Estimate_spread (pv 0)) pa_nil)))))
    (pss_one (ps_ret (pe_callB (c_min2 rfl) (by rfl) T.no_min (by decide +kernel) (pa_cons (pe_fldC T.cl_Estimate T.na_Estimate_high (pv 0)) (pa_cons (pe_callB (c_max2 rfl) (by rfl) T.no_max (by decide +kernel) (pa_cons (pe_fldC T.cl_Estimate T.na_Estimate_low (pv 0)) (pa_cons (pv 1) pa_nil))) pa_nil)))))))
abbrev nm_made : List Str := ["_law_low_bound", "_law_high_bound", "_law_new_here", "e"]
theorem sc_made : FnScope nm_made ["_law_low_bound", "_law_high_bound"] (defScope (top 25)) := ⟨rfl, rfl, rfl, by decide +kernel, rfl, by decide +kernel, by decide +kernel⟩
theorem ok_made (T : Txt P K mg a) : FnOk P w K mg base (L2.CX P w) 5 a.f_made a.d_made ["_law_low_bound", "_law_high_bound"] (sp_made a.toCl) := by
  obtain ⟨_, pp_Estimate_timeout_⟩ := T.pp_Estimate_timeout
  refine ok_body T.fn_made sc_made rfl rfl fun cdv A outer s H E hr => ?_
  exact (pss_cons (ps_tryT (tab := [(.ref a.c_InvalidNumber, 0), (.ref a.c_InvalidSetting, 0)]) (tb := fun W => (tSeq (tAsg (tNewS a.c_Estimate (sp_Estimate___init__ a.toCl) (WE W) (tCons (tVar 0) (tCons (tVar 1) tNil))) (gName 2))
    (tRet (tTup (tCons (tC (.str "made")) (tCons (tLst (tCons (eFld a.c_Estimate "low" (tVar 2)) (tCons (eFld a.c_Estimate "high" (tVar 2)) (tCons (eFld a.c_Estimate "smooth" (tVar 2)) (tCons (eFld a.c_Estimate "spread" (tVar 2)) (tCons (eFld a.c_Estimate "samples" (tVar 2)) (tCons (eProp a.c_Estimate (sp_Estimate_timeout a.toCl) (tVar 2)) tNil))))))) tNil)))))) (l := [⟨.ref a.c_LossError, some 3, fun b cls d => (tIfS (tAnd (tB (tCB (rIsX [(.ref a.c_InvalidSetting, .ref a.c_InvalidSetting, true), (.ref a.c_InvalidNumber, .ref a.c_InvalidSetting, false)] b cls d) (tCons (tVar 3) (tCons (eCon (.ref a.c_InvalidSetting)) tNil)))) (tAnd (tB (tCB (rIsX [(.ref a.c_InvalidSetting, .ty "ValueError", true), (.ref a.c_InvalidNumber, .ty "ValueError", true)] b cls d) (tCons (tVar 3) (tCons (tC (.ty "ValueError")) tNil)))) (tNot (tB (tCB (rIsX [(.ref a.c_InvalidSetting, .ref a.c_InvalidNumber, false), (.ref a.c_InvalidNumber, .ref a.c_InvalidNumber, true)] b cls d) (tCons (tVar 3) (tCons (eCon (.ref a.c_InvalidNumber)) tNil))))))) (tRet (tTup (tCons (tC (.str "setting")) (tCons (eXf b cls d [a.c_InvalidSetting] "setting" (tVar 3)) tNil)))) tNext)⟩]) (all_cons (Hits.here T.ex_InvalidNumber_LossError) (all_cons (Hits.here T.ex_InvalidSetting_LossError) all_nil)) rfl rfl sc_made.nd (fun W pn xe tk pa => (pss_cons (ps_set (i := 2) sc_made.nd rfl (by first | exact Or.inl rfl | exact Or.inr rfl) (pe_newS T.mk_Estimate (ok_Estimate___init__ T) (hr.mono (by decide)) rfl T.mg_Estimate T.bd_Estimate___init__ (fun σ => passAt tk σ) (pa_cons (pv 0) (pa_cons (pv 1) pa_nil))))
    (pss_one (ps_ret (pe_tup (pa_cons pe_str (pa_cons (pe_lst (pa_cons (pe_fldC T.cl_Estimate T.na_Estimate_low (pv 2)) (pa_cons (pe_fldC T.cl_Estimate T.na_Estimate_high (pv 2)) (pa_cons (pe_fldC T.cl_Estimate T.na_Estimate_smooth (pv 2)) (pa_cons (pe_fldC T.cl_Estimate T.na_Estimate_spread (pv 2)) (pa_cons (pe_fldC T.cl_Estimate T.na_Estimate_samples (pv 2)) (pa_cons (pe_propC (pv 2) T.cl_Estimate pp_Estimate_timeout_ (ok_Estimate_timeout T) (hr.mono (by decide)) T.bd_Estimate_timeout passN) pa_nil))))))) pa_nil))))))) (HnOk.named ⟨rfl, by decide, .inl T.mg_LossError⟩ (i := 3) rfl rfl (fun b oe cls d pn hz hf => (pss_one (ps_if (PW.pt (pw_and (pt_val (pe_callB (c_isX (tbl := [(.ref a.c_InvalidSetting, .ref a.c_InvalidSetting, true), (.ref a.c_InvalidNumber, .ref a.c_InvalidSetting, false)]) (all_cons T.is_InvalidSetting_InvalidSetting (all_cons T.is_InvalidNumber_InvalidSetting (all_nil))) hz hf) (by rfl) T.no_isinstance (by decide +kernel) (pa_cons (pv 3) (pa_cons (pe_clsName rfl T.mg_InvalidSetting) pa_nil)))) (pw_and (pt_val (pe_callB (c_isX (tbl := [(.ref a.c_InvalidSetting, .ty "ValueError", true), (.ref a.c_InvalidNumber, .ty "ValueError", true)]) (all_cons T.is_InvalidSetting_ValueError (all_cons T.is_InvalidNumber_ValueError (all_nil))) hz hf) (by rfl) T.no_isinstance (by decide +kernel) (pa_cons (pv 3) (pa_cons (pe_bltn (v := .ty "ValueError") (by rfl) T.no_ValueError (by decide +kernel) rfl) pa_nil)))) (pw_and1 (pt_not (pt_val (pe_callB (c_isX (tbl := [(.ref a.c_InvalidSetting, .ref a.c_InvalidNumber, false), (.ref a.c_InvalidNumber, .ref a.c_InvalidNumber, true)]) (all_cons T.is_InvalidSetting_InvalidNumber (all_cons T.is_InvalidNumber_InvalidNumber (all_nil))) hz hf) (by rfl) T.no_isinstance (by decide +kernel) (pa_cons (pv 3) (pa_cons (pe_clsName rfl T.mg_InvalidNumber) pa_nil))))))))) (pss_one (ps_ret (pe_tup (pa_cons pe_str (pa_cons (pe_eXf (Cs := [a.c_InvalidSetting]) (all_cons T.xf_InvalidSetting_setting (all_nil)) hz hf (pv 3)) pa_nil))))) pss_nil))) HnOk.nil))
    (pss_one (ps_ret (pe_tup (pa_cons pe_str (pa_cons pe_non pa_nil))))))
abbrev nm_whole : List Str := ["_law_value"]
theorem sc_whole : FnScope nm_whole ["_law_value"] (defScope (top 12)) := ⟨rfl, rfl, rfl, by decide +kernel, rfl, by decide +kernel, by decide +kernel⟩
theorem ok_whole (T : Txt P K mg a) : FnOk P w K mg base (L2.CX P w) 1 a.f_whole a.d_whole ["_law_value"] (sp_whole a.toCl) := by
  refine ok_body T.fn_whole sc_whole rfl rfl fun cdv A outer s H E hr => ?_
  exact (pss_one (ps_ret (pe_and (pe_callB c_isi (by rfl) T.no_isinstance (by decide +kernel) (pa_cons (pv 0) (pa_cons (pe_bltn (v := .ty "int") (by rfl) T.no_int (by decide +kernel) rfl) pa_nil))) (pe_one (pe_not (pe_callB c_isi (by rfl) T.no_isinstance (by decide +kernel) (pa_cons (pv 0) (pa_cons (pe_bltn (v := .ty "bool") (by rfl) T.no_bool (by decide +kernel) rfl) pa_nil))))))))
abbrev nm_new : List Str := ["_law_bag_here", "_law_way", "_law_pair", "_law_due", "_law_good", "_law_told", "_law_one"]
theorem sc_new : FnScope nm_new ["_law_bag_here", "_law_way"] (defScope (top 28)) := ⟨rfl, rfl, rfl, by decide +kernel, rfl, by decide +kernel, by decide +kernel⟩
theorem ok_new (T : Txt P K mg a) : FnOk P w K mg base (L2.CX P w) 6 a.f_new a.d_new ["_law_bag_here", "_law_way"] (sp_new a.toCl) := by
  refine ok_body T.fn_new sc_new rfl rfl fun cdv A outer s H E hr => ?_
  exact (pss_cons (ps_set (i := 2) sc_new.nd rfl (by first | exact Or.inl rfl | exact Or.inr rfl) (pe_call (ok_bent T) (hr.mono (by decide)) rfl T.mg_bent (T.fn_bent).kp T.bd_bent .nil passE (pa_cons (pv 0) (pa_cons (pv 1) pa_nil))))
    (pss_cons (ps_set (i := 3) sc_new.nd rfl (by first | exact Or.inl rfl | exact Or.inr rfl) pe_str)
    (pss_cons (ps_if (pt_chain o_le o_le pe_int (pv 1) pe_int) (pss_one (ps_set (i := 3) sc_new.nd rfl (by first | exact Or.inl rfl | exact Or.inr rfl) pe_str)) pss_nil)
    (pss_cons (ps_if (pt_cmpR (o_neP T.st hr.units) (pe_call (ok_made T) (hr.mono (by decide)) rfl T.mg_made (T.fn_made).kp T.bd_made .nil passE (pa_cons (pe_ix (o_ix T.st) (pv 2) pe_int (fun _ _ => rfl)) (pa_cons (pe_ix (o_ix T.st) (pv 2) pe_int (fun _ _ => rfl)) pa_nil))) (pe_tup (pa_cons pe_str (pa_cons (pv 3) pa_nil))) (nomark _)) (pss_one (ps_ret pe_bl)) pss_nil)
    (pss_cons (ps_set (i := 4) sc_new.nd rfl (by first | exact Or.inl rfl | exact Or.inr rfl) (pe_call (ok_bounds T) (hr.mono (by decide)) rfl T.mg_bounds (T.fn_bounds).kp T.bd_bounds .nil passE (pa_cons (pv 0) pa_nil)))
    (pss_cons (ps_set (i := 5) sc_new.nd rfl (by first | exact Or.inl rfl | exact Or.inr rfl) (pe_call (ok_made T) (hr.mono (by decide)) rfl T.mg_made (T.fn_made).kp T.bd_made .nil passE (pa_cons (pe_ix (o_ix T.st) (pv 4) pe_int (fun _ _ => rfl)) (pa_cons (pe_ix (o_ix T.st) (pv 4) pe_int (fun _ _ => rfl)) pa_nil))))
    (pss_cons (ps_if (PW.pt (pw_or (pt_cmpR (o_neP T.st hr.units) (pe_ix (o_ix T.st) (pv 5) pe_int (fun _ _ => rfl)) pe_str (nomark _)) (pw_or1 (pt_not (pt_val (pe_callB (c_all T.st rfl) (by rfl) T.no_all (by decide +kernel) (pa_cons (pe_lcSeq (own := [("_law_one", 6)]) T.st rfl sc_new.nd (pe_ix (o_ix T.st) (pv 5) pe_int (fun _ _ => rfl)) (blkOk_by (own := [("_law_one", 6)]) (N := nm_new) (sc := defScope (top 28)) (by decide +kernel)) ⟨fun _ _ _ _ _ => (pg_name (i := 6) sc_new.nd rfl (by first | exact Or.inl rfl | exact Or.inr rfl)), fun _ _ _ _ _ => pts_nil, fun _ _ _ _ _ => (pe_call (ok_whole T) (hr.mono (by decide)) rfl T.mg_whole (T.fn_whole).kp T.bd_whole .nil passL (pa_cons (pv 6) pa_nil))⟩) pa_nil))))))) (pss_one (ps_ret pe_bl)) pss_nil)
    (pss_one (ps_ret (pe_cmpR (o_eqP T.st hr.units) (pe_ix (o_ix T.st) (pv 5) pe_int (fun _ _ => rfl)) (pe_lst (pa_cons (pe_ix (o_ix T.st) (pv 4) pe_int (fun _ _ => rfl)) (pa_cons (pe_ix (o_ix T.st) (pv 4) pe_int (fun _ _ => rfl)) (pa_cons pe_int (pa_cons pe_int (pa_cons pe_int (pa_cons (pe_call (ok_lesser T) (hr.mono (by decide)) rfl T.mg_lesser (T.fn_lesser).kp T.bd_lesser .nil passE (pa_cons (pe_ix (o_ix T.st) (pv 4) pe_int (fun _ _ => rfl)) (pa_cons (pe_op o_mul pe_int (pe_ix (o_ix T.st) (pv 4) pe_int (fun _ _ => rfl))) pa_nil))) pa_nil))))))) (nomark _)))))))))))
abbrev nm_row : List Str := ["_law_pair"]
theorem sc_row : FnScope nm_row ["_law_pair"] (defScope (top 18)) := ⟨rfl, rfl, rfl, by decide +kernel, rfl, by decide +kernel, by decide +kernel⟩
theorem ok_row (T : Txt P K mg a) : FnOk P w K mg base (L2.CX P w) 1 a.f_row a.d_row ["_law_pair"] (sp_row a.toCl) := by
  refine ok_body T.fn_row sc_row rfl rfl fun cdv A outer s H E hr => ?_
  exact (pss_one (ps_ret (pe_lst (pa_cons (pe_ix (o_ix T.st) (pv 0) pe_int (fun _ _ => rfl)) (pa_cons (pe_ix (o_ix T.st) (pv 0) pe_int (fun _ _ => rfl)) (pa_cons pe_int (pa_cons pe_int (pa_cons pe_int (pa_cons pe_int (pa_cons pe_int (pa_cons pe_int pa_nil)))))))))))
abbrev nm_greater : List Str := ["_law_one", "_law_two"]
theorem sc_greater : FnScope nm_greater ["_law_one", "_law_two"] (defScope (top 16)) := ⟨rfl, rfl, rfl, by decide +kernel, rfl, by decide +kernel, by decide +kernel⟩
theorem ok_greater (T : Txt P K mg a) : FnOk P w K mg base (L2.CX P w) 1 a.f_greater a.d_greater ["_law_one", "_law_two"] (sp_greater a.toCl) := by
  refine ok_body T.fn_greater sc_greater rfl rfl fun cdv A outer s H E hr => ?_
  exact (pss_cons (ps_if (pt_cmpR o_gt (pv 0) (pv 1) (nomark _)) (pss_one (ps_ret (pv 0))) pss_nil)
    (pss_one (ps_ret (pv 1))))
abbrev nm_wait : List Str := ["_law_row_here"]
theorem sc_wait : FnScope nm_wait ["_law_row_here"] (defScope (top 20)) := ⟨rfl, rfl, rfl, by decide +kernel, rfl, by decide +kernel, by decide +kernel⟩
theorem ok_wait (T : Txt P K mg a) : FnOk P w K mg base (L2.CX P w) 2 a.f_wait a.d_wait ["_law_row_here"] (sp_wait a.toCl) := by
  refine ok_body T.fn_wait sc_wait rfl rfl fun cdv A outer s H E hr => ?_
  exact (pss_cons (ps_if (pt_cmpR (o_eqP T.st hr.units) (pe_ix (o_ix T.st) (pv 0) pe_int (fun _ _ => rfl)) pe_int (nomark _)) (pss_one (ps_ret (pe_call (ok_lesser T) (hr.mono (by decide)) rfl T.mg_lesser (T.fn_lesser).kp T.bd_lesser .nil passE (pa_cons (pe_ix (o_ix T.st) (pv 0) pe_int (fun _ _ => rfl)) (pa_cons (pe_op o_mul pe_int (pe_ix (o_ix T.st) (pv 0) pe_int (fun _ _ => rfl))) pa_nil))))) pss_nil)
    (pss_one (ps_ret (pe_call (ok_lesser T) (hr.mono (by decide)) rfl T.mg_lesser (T.fn_lesser).kp T.bd_lesser .nil passE (pa_cons (pe_ix (o_ix T.st) (pv 0) pe_int (fun _ _ => rfl)) (pa_cons (pe_call (ok_greater T) (hr.mono (by decide)) rfl T.mg_greater (T.fn_greater).kp T.bd_greater .nil passE (pa_cons (pe_ix (o_ix T.st) (pv 0) pe_int (fun _ _ => rfl)) (pa_cons (pe_op o_add (pe_op o_fdiv (pe_ix (o_ix T.st) (pv 0) pe_int (fun _ _ => rfl)) pe_int) (pe_call (ok_greater T) (hr.mono (by decide)) rfl T.mg_greater (T.fn_greater).kp T.bd_greater .nil passE (pa_cons pe_int (pa_cons (pe_ix (o_ix T.st) (pv 0) pe_int (fun _ _ => rfl)) pa_nil)))) pa_nil))) pa_nil))))))
abbrev nm_powers : List Str := ["_law_row_here", "_law_dues", "_law_k"]
theorem sc_powers : FnScope nm_powers ["_law_row_here"] (defScope (top 31)) := ⟨rfl, rfl, rfl, by decide +kernel, rfl, by decide +kernel, by decide +kernel⟩
theorem ok_powers (T : Txt P K mg a) : FnOk P w K mg base (L2.CX P w) 3 a.f_powers a.d_powers ["_law_row_here"] (sp_powers a.toCl) := by
  refine ok_body T.fn_powers sc_powers rfl rfl fun cdv A outer s H E hr => ?_
  exact (pss_cons (ps_set (i := 1) sc_powers.nd rfl (by first | exact Or.inl rfl | exact Or.inr rfl) (pe_lst (pa_cons (pe_call (ok_wait T) (hr.mono (by decide)) rfl T.mg_wait (T.fn_wait).kp T.bd_wait .nil passE (pa_cons (pv 0) pa_nil)) pa_nil)))
    (pss_cons (ps_forR1 (passes_of rfl) rfl rfl T.no_range pe_int (pg_name (i := 2) sc_powers.nd rfl (by first | exact Or.inl rfl | exact Or.inr rfl)) (pss_one (ps_expr (pe_app (pv 1) (pa_cons (pe_call (ok_lesser T) (hr.mono (by decide)) rfl T.mg_lesser (T.fn_lesser).kp T.bd_lesser .nil passE (pa_cons (pe_ix (o_ix T.st) (pv 0) pe_int (fun _ _ => rfl)) (pa_cons (pe_op o_mul pe_int (pe_ix (o_ix T.st) (pv 1) (pv 2) (fun _ _ => rfl))) pa_nil))) pa_nil)))))
    (pss_one (ps_ret (pv 1)))))
abbrev nm_Estimate_backed : List Str := ["self", "count", "wait", "turn"]
theorem sc_Estimate_backed : FnScope nm_Estimate_backed ["self", "count"] (defScope (inClass (top 10) 3)) := ⟨rfl, rfl, rfl, by decide +kernel, rfl, by decide +kernel, by decide +kernel⟩
theorem ok_Estimate_backed (T : Txt P K mg a) : FnOk P w K mg base (L2.CX P w) 3 a.f_Estimate_backed a.d_Estimate_backed ["self", "count"] (sp_Estimate_backed a.toCl) := by
  obtain ⟨_, pp_Estimate_timeout_⟩ := T.pp_Estimate_timeout
  obtain ⟨_, mg_GREATEST_BACKING_⟩ := T.mg_GREATEST_BACKING
  refine ok_body T.fn_Estimate_backed sc_Estimate_backed rfl rfl fun cdv A outer s H E hr => ?_
  exact (pss_cons (ps_if (pt_not (pt_val (pe_call (ok_in_range T) (hr.mono (by decide)) rfl T.mg_in_range (T.fn_in_range).kp T.bd_in_range .nil passE (pa_cons (pv 1) (pa_cons pe_int (pa_cons (pe_constI mg_GREATEST_BACKING_ rfl) pa_nil)))))) (pss_one (ps_raiseE rfl (takes_of rfl rfl rfl rfl) (pmk_ex T.oe_InvalidNumber T.ii_InvalidNumber_InvalidNumber T.it_InvalidNumber (ok_InvalidNumber___init__ T) (by repeat first | exact List.Mem.head _ | apply List.Mem.tail) (by decide) (hr.mono (by decide)) T.be_InvalidNumber passL rfl T.mg_InvalidNumber (pa_cons (pv 1) pa_nil)))) pss_nil)
    (pss_cons (ps_set (i := 2) sc_Estimate_backed.nd rfl (by first | exact Or.inl rfl | exact Or.inr rfl) (pe_propC (pv 0) T.cl_Estimate pp_Estimate_timeout_ (ok_Estimate_timeout T) (hr.mono (by decide)) T.bd_Estimate_timeout passN))
    (pss_cons (ps_forR1 (passes_of rfl) rfl rfl T.no_range (pv 1) (pg_name (i := 3) sc_Estimate_backed.nd rfl (by first | exact Or.inl rfl | exact Or.inr rfl)) (pss_one (ps_set (i := 2) sc_Estimate_backed.nd rfl (by first | exact Or.inl rfl | exact Or.inr rfl) (pe_callB (c_min2 rfl) (by rfl) T.no_min (by decide +kernel) (pa_cons (pe_fldC T.cl_Estimate T.na_Estimate_high (pv 0)) (pa_cons (pe_op o_mul pe_int (pv 2)) pa_nil))))))
    (pss_one (ps_ret (pv 2))))))
abbrev nm_Estimate_sample : List Str := ["self", "ticks", "error"]
theorem sc_Estimate_sample : FnScope nm_Estimate_sample ["self", "ticks"] (defScope (inClass (top 10) 2)) := ⟨rfl, rfl, rfl, by decide +kernel, rfl, by decide +kernel, by decide +kernel⟩
theorem ok_Estimate_sample (T : Txt P K mg a) : FnOk P w K mg base (L2.CX P w) 3 a.f_Estimate_sample a.d_Estimate_sample ["self", "ticks"] (sp_Estimate_sample a.toCl) := by
  refine ok_body T.fn_Estimate_sample sc_Estimate_sample rfl rfl fun cdv A outer s H E hr => ?_
  exact (pss_cons (ps_if (PW.pt (pw_or (pt_not (pt_val (pe_call (ok_is_whole T) (hr.mono (by decide)) rfl T.mg_is_whole (T.fn_is_whole).kp T.bd_is_whole .nil passE (pa_cons (pv 1) pa_nil)))) (pw_or1 (pt_cmpR o_lt (pv 1) pe_int (nomark _))))) (pss_one (ps_raiseE rfl (takes_of rfl rfl rfl rfl) (pmk_ex T.oe_InvalidNumber T.ii_InvalidNumber_InvalidNumber T.it_InvalidNumber (ok_InvalidNumber___init__ T) (by repeat first | exact List.Mem.head _ | apply List.Mem.tail) (by decide) (hr.mono (by decide)) T.be_InvalidNumber passL rfl T.mg_InvalidNumber (pa_cons (pv 1) pa_nil)))) pss_nil)
    (pss_cons (ps_if (pt_cmpR (o_eqP T.st hr.units) (pe_fldC T.cl_Estimate T.na_Estimate_samples (pv 0)) pe_int (nomark _)) (pss_cons (ps_setF T.cl_Estimate T.na_Estimate_smooth (pv 0) (pe_op o_mul pe_int (pv 1)))
    (pss_one (ps_setF T.cl_Estimate T.na_Estimate_spread (pv 0) (pe_op o_mul pe_int (pv 1))))) (pss_cons (ps_set (i := 2) sc_Estimate_sample.nd rfl (by first | exact Or.inl rfl | exact Or.inr rfl) (pe_op o_sub (pv 1) (pe_op o_fdiv (pe_fldC T.cl_Estimate T.na_Estimate_smooth (pv 0)) pe_int)))
    (pss_cons (ps_augF T.cl_Estimate T.na_Estimate_smooth (pv 0) (pv 2) in_addI)
    (pss_one (ps_augF T.cl_Estimate T.na_Estimate_spread (pv 0) (pe_op o_sub (pe_callB c_abs (by rfl) T.no_abs (by decide +kernel) (pa_cons (pv 2) pa_nil)) (pe_op o_fdiv (pe_fldC T.cl_Estimate T.na_Estimate_spread (pv 0)) pe_int)) in_addI)))))
    (pss_one (ps_augF T.cl_Estimate T.na_Estimate_samples (pv 0) pe_int in_addI))))
abbrev nm_call : List Str := ["_law_estimate", "_law_deed", "_law_value", "e"]
theorem sc_call : FnScope nm_call ["_law_estimate", "_law_deed", "_law_value"] (defScope (top 26)) := ⟨rfl, rfl, rfl, by decide +kernel, rfl, by decide +kernel, by decide +kernel⟩
theorem ok_call (T : Txt P K mg a) : FnOk P w K mg base (L2.CX P w) 4 a.f_call a.d_call ["_law_estimate", "_law_deed", "_law_value"] (sp_call a.toCl) := by
  refine ok_body T.fn_call sc_call rfl rfl fun cdv A outer s H E hr => ?_
  exact (pss_cons (ps_tryT (tab := [(.ref a.c_InvalidNumber, 0), (.ref a.c_InvalidSetting, 0)]) (tb := fun W => (tSeq (tIfS (tTest (tOp (rEqP a.S) (tVar 1) (tC (.int 0)))) (tRet (tTup (tCons (tC (.str "told")) (tCons (tMS a.c_Estimate "backed" (sp_Estimate_backed a.toCl) (WE W) (tVar 0) (tCons (tVar 2) tNil)) tNil)))) tNext)
    (tRet (tTup (tCons (tC (.str "told")) (tCons (tMS a.c_Estimate "sample" (sp_Estimate_sample a.toCl) (WE W) (tVar 0) (tCons (tVar 2) tNil)) tNil)))))) (l := [⟨.ref a.c_LossError, some 3, fun b cls d => (tIfS (tAnd (tB (tCB (rIsX [(.ref a.c_InvalidSetting, .ref a.c_InvalidNumber, false), (.ref a.c_InvalidNumber, .ref a.c_InvalidNumber, true)] b cls d) (tCons (tVar 3) (tCons (eCon (.ref a.c_InvalidNumber)) tNil)))) (tAnd (tB (tCB (rIsX [(.ref a.c_InvalidSetting, .ty "ValueError", true), (.ref a.c_InvalidNumber, .ty "ValueError", true)] b cls d) (tCons (tVar 3) (tCons (tC (.ty "ValueError")) tNil)))) (tNot (tB (tCB (rIsX [(.ref a.c_InvalidSetting, .ref a.c_InvalidSetting, true), (.ref a.c_InvalidNumber, .ref a.c_InvalidSetting, false)] b cls d) (tCons (tVar 3) (tCons (eCon (.ref a.c_InvalidSetting)) tNil))))))) (tRet (tTup (tCons (tC (.str "number")) (tCons (eXf b cls d [a.c_InvalidNumber] "number" (tVar 3)) tNil)))) tNext)⟩]) (all_cons (Hits.here T.ex_InvalidNumber_LossError) (all_cons (Hits.here T.ex_InvalidSetting_LossError) all_nil)) rfl rfl sc_call.nd (fun W pn xe tk pa => (pss_cons (ps_if (pt_cmpR (o_eqP T.st hr.units) (pv 1) pe_int (nomark _)) (pss_one (ps_ret (pe_tup (pa_cons pe_str (pa_cons (pe_mS (pv 0) T.cl_Estimate T.mt_Estimate_backed (ok_Estimate_backed T) (hr.mono (by decide)) T.bd_Estimate_backed (fun σ => passAt tk σ) (pa_cons (pv 2) pa_nil)) pa_nil))))) pss_nil)
    (pss_one (ps_ret (pe_tup (pa_cons pe_str (pa_cons (pe_mS (pv 0) T.cl_Estimate T.mt_Estimate_sample (ok_Estimate_sample T) (hr.mono (by decide)) T.bd_Estimate_sample (fun σ => passAt tk σ) (pa_cons (pv 2) pa_nil)) pa_nil))))))) (HnOk.named ⟨rfl, by decide, .inl T.mg_LossError⟩ (i := 3) rfl rfl (fun b oe cls d pn hz hf => (pss_one (ps_if (PW.pt (pw_and (pt_val (pe_callB (c_isX (tbl := [(.ref a.c_InvalidSetting, .ref a.c_InvalidNumber, false), (.ref a.c_InvalidNumber, .ref a.c_InvalidNumber, true)]) (all_cons T.is_InvalidSetting_InvalidNumber (all_cons T.is_InvalidNumber_InvalidNumber (all_nil))) hz hf) (by rfl) T.no_isinstance (by decide +kernel) (pa_cons (pv 3) (pa_cons (pe_clsName rfl T.mg_InvalidNumber) pa_nil)))) (pw_and (pt_val (pe_callB (c_isX (tbl := [(.ref a.c_InvalidSetting, .ty "ValueError", true), (.ref a.c_InvalidNumber, .ty "ValueError", true)]) (all_cons T.is_InvalidSetting_ValueError (all_cons T.is_InvalidNumber_ValueError (all_nil))) hz hf) (by rfl) T.no_isinstance (by decide +kernel) (pa_cons (pv 3) (pa_cons (pe_bltn (v := .ty "ValueError") (by rfl) T.no_ValueError (by decide +kernel) rfl) pa_nil)))) (pw_and1 (pt_not (pt_val (pe_callB (c_isX (tbl := [(.ref a.c_InvalidSetting, .ref a.c_InvalidSetting, true), (.ref a.c_InvalidNumber, .ref a.c_InvalidSetting, false)]) (all_cons T.is_InvalidSetting_InvalidSetting (all_cons T.is_InvalidNumber_InvalidSetting (all_nil))) hz hf) (by rfl) T.no_isinstance (by decide +kernel) (pa_cons (pv 3) (pa_cons (pe_clsName rfl T.mg_InvalidSetting) pa_nil))))))))) (pss_one (ps_ret (pe_tup (pa_cons pe_str (pa_cons (pe_eXf (Cs := [a.c_InvalidNumber]) (all_cons T.xf_InvalidNumber_number (all_nil)) hz hf (pv 3)) pa_nil))))) pss_nil))) HnOk.nil))
    (pss_one (ps_ret (pe_tup (pa_cons pe_str (pa_cons pe_non pa_nil))))))
abbrev nm_agrees : List Str := ["_law_estimate", "_law_row_here", "_law_told", "_law_one"]
theorem sc_agrees : FnScope nm_agrees ["_law_estimate", "_law_row_here"] (defScope (top 30)) := ⟨rfl, rfl, rfl, by decide +kernel, rfl, by decide +kernel, by decide +kernel⟩
theorem ok_agrees (T : Txt P K mg a) : FnOk P w K mg base (L2.CX P w) 3 a.f_agrees a.d_agrees ["_law_estimate", "_law_row_here"] (sp_agrees a.toCl) := by
  obtain ⟨_, pp_Estimate_timeout_⟩ := T.pp_Estimate_timeout
  refine ok_body T.fn_agrees sc_agrees rfl rfl fun cdv A outer s H E hr => ?_
  exact (pss_cons (ps_set (i := 2) sc_agrees.nd rfl (by first | exact Or.inl rfl | exact Or.inr rfl) (pe_lst (pa_cons (pe_fldC T.cl_Estimate T.na_Estimate_low (pv 0)) (pa_cons (pe_fldC T.cl_Estimate T.na_Estimate_high (pv 0)) (pa_cons (pe_fldC T.cl_Estimate T.na_Estimate_smooth (pv 0)) (pa_cons (pe_fldC T.cl_Estimate T.na_Estimate_spread (pv 0)) (pa_cons (pe_fldC T.cl_Estimate T.na_Estimate_samples (pv 0)) (pa_cons (pe_propC (pv 0) T.cl_Estimate pp_Estimate_timeout_ (ok_Estimate_timeout T) (hr.mono (by decide)) T.bd_Estimate_timeout passN) pa_nil))))))))
    (pss_cons (ps_if (pt_not (pt_val (pe_callB (c_all T.st rfl) (by rfl) T.no_all (by decide +kernel) (pa_cons (pe_lcSeq (own := [("_law_one", 3)]) T.st rfl sc_agrees.nd (pv 2) (blkOk_by (own := [("_law_one", 3)]) (N := nm_agrees) (sc := defScope (top 30)) (by decide +kernel)) ⟨fun _ _ _ _ _ => (pg_name (i := 3) sc_agrees.nd rfl (by first | exact Or.inl rfl | exact Or.inr rfl)), fun _ _ _ _ _ => pts_nil, fun _ _ _ _ _ => (pe_call (ok_whole T) (hr.mono (by decide)) rfl T.mg_whole (T.fn_whole).kp T.bd_whole .nil passL (pa_cons (pv 3) pa_nil))⟩) pa_nil)))) (pss_one (ps_ret pe_bl)) pss_nil)
    (pss_one (ps_ret (pe_cmpR (o_eqP T.st hr.units) (pv 2) (pe_op o_add (pe_slice (o_sl T.st) (pv 1) po_none (po_some pe_int)) (pe_lst (pa_cons (pe_call (ok_wait T) (hr.mono (by decide)) rfl T.mg_wait (T.fn_wait).kp T.bd_wait .nil passE (pa_cons (pv 1) pa_nil)) pa_nil))) (nomark _))))))
abbrev nm_backs : List Str := ["_law_estimate", "_law_row_here", "_law_downwards", "_law_dues", "_law_k", "_law_place", "_law_told"]
theorem sc_backs : FnScope nm_backs ["_law_estimate", "_law_row_here", "_law_downwards"] (defScope (top 32)) := ⟨rfl, rfl, rfl, by decide +kernel, rfl, by decide +kernel, by decide +kernel⟩
theorem ok_backs (T : Txt P K mg a) : FnOk P w K mg base (L2.CX P w) 5 a.f_backs a.d_backs ["_law_estimate", "_law_row_here", "_law_downwards"] (sp_backs a.toCl) := by
  refine ok_body T.fn_backs sc_backs rfl rfl fun cdv A outer s H E hr => ?_
  exact (pss_cons (ps_set (i := 3) sc_backs.nd rfl (by first | exact Or.inl rfl | exact Or.inr rfl) (pe_call (ok_powers T) (hr.mono (by decide)) rfl T.mg_powers (T.fn_powers).kp T.bd_powers .nil passE (pa_cons (pv 1) pa_nil)))
    (pss_cons (ps_forR1 (passes_of rfl) rfl rfl T.no_range pe_int (pg_name (i := 4) sc_backs.nd rfl (by first | exact Or.inl rfl | exact Or.inr rfl)) (pss_cons (ps_set (i := 5) sc_backs.nd rfl (by first | exact Or.inl rfl | exact Or.inr rfl) (pv 4))
    (pss_cons (ps_if (pt_val (pv 2)) (pss_one (ps_set (i := 5) sc_backs.nd rfl (by first | exact Or.inl rfl | exact Or.inr rfl) (pe_op o_sub pe_int (pv 4)))) pss_nil)
    (pss_cons (ps_set (i := 6) sc_backs.nd rfl (by first | exact Or.inl rfl | exact Or.inr rfl) (pe_call (ok_call T) (hr.mono (by decide)) rfl T.mg_call (T.fn_call).kp T.bd_call .nil passE (pa_cons (pv 0) (pa_cons pe_int (pa_cons (pv 5) pa_nil)))))
    (pss_one (ps_if (PW.pt (pw_or (pt_cmpR (o_neP T.st hr.units) (pe_ix (o_ix T.st) (pv 6) pe_int (fun _ _ => rfl)) pe_str (nomark _)) (pw_or (pt_not (pt_val (pe_call (ok_whole T) (hr.mono (by decide)) rfl T.mg_whole (T.fn_whole).kp T.bd_whole .nil passE (pa_cons (pe_ix (o_ix T.st) (pv 6) pe_int (fun _ _ => rfl)) pa_nil)))) (pw_or1 (pt_cmpR (o_neP T.st hr.units) (pe_ix (o_ix T.st) (pv 6) pe_int (fun _ _ => rfl)) (pe_ix (o_ix T.st) (pv 3) (pv 5) (fun _ _ => rfl)) (nomark _)))))) (pss_one (ps_ret pe_bl)) pss_nil))))))
    (pss_one (ps_ret (pe_call (ok_agrees T) (hr.mono (by decide)) rfl T.mg_agrees (T.fn_agrees).kp T.bd_agrees .nil passE (pa_cons (pv 0) (pa_cons (pv 1) pa_nil)))))))
abbrev nm_same : List Str := ["_law_told", "_law_due"]
theorem sc_same : FnScope nm_same ["_law_told", "_law_due"] (defScope (top 24)) := ⟨rfl, rfl, rfl, by decide +kernel, rfl, by decide +kernel, by decide +kernel⟩
theorem ok_same (T : Txt P K mg a) : FnOk P w K mg base (L2.CX P w) 1 a.f_same a.d_same ["_law_told", "_law_due"] (sp_same a.toCl) := by
  refine ok_body T.fn_same sc_same rfl rfl fun cdv A outer s H E hr => ?_
  exact (pss_cons (ps_if (PW.pt (pw_or (pt_val (pe_callB c_isi (by rfl) T.no_isinstance (by decide +kernel) (pa_cons (pv 0) (pa_cons (pe_bltn (v := .ty "bool") (by rfl) T.no_bool (by decide +kernel) rfl) pa_nil)))) (pw_or1 (pt_val (pe_callB c_isi (by rfl) T.no_isinstance (by decide +kernel) (pa_cons (pv 1) (pa_cons (pe_bltn (v := .ty "bool") (by rfl) T.no_bool (by decide +kernel) rfl) pa_nil))))))) (pss_one (ps_ret (pe_and (pe_callB c_isi (by rfl) T.no_isinstance (by decide +kernel) (pa_cons (pv 0) (pa_cons (pe_bltn (v := .ty "bool") (by rfl) T.no_bool (by decide +kernel) rfl) pa_nil))) (pe_and (pe_callB c_isi (by rfl) T.no_isinstance (by decide +kernel) (pa_cons (pv 1) (pa_cons (pe_bltn (v := .ty "bool") (by rfl) T.no_bool (by decide +kernel) rfl) pa_nil))) (pe_one (pe_cmpR (o_eqP T.st hr.units) (pv 0) (pv 1) (nomark _))))))) pss_nil)
    (pss_one (ps_ret (pe_cmpR (o_eqP T.st hr.units) (pv 0) (pv 1) (nomark _)))))
abbrev nm_refuses : List Str := ["_law_bag_here", "_law_estimate", "_law_way", "_law_wrong", "_law_told"]
theorem sc_refuses : FnScope nm_refuses ["_law_bag_here", "_law_estimate"] (defScope (top 29)) := ⟨rfl, rfl, rfl, by decide +kernel, rfl, by decide +kernel, by decide +kernel⟩
theorem ok_refuses (T : Txt P K mg a) : FnOk P w K mg base (L2.CX P w) 5 a.f_refuses a.d_refuses ["_law_bag_here", "_law_estimate"] (sp_refuses a.toCl) := by
  refine ok_body T.fn_refuses sc_refuses rfl rfl fun cdv A outer s H E hr => ?_
  exact (pss_cons (ps_forR1 (passes_of rfl) rfl rfl T.no_range pe_int (pg_name (i := 2) sc_refuses.nd rfl (by first | exact Or.inl rfl | exact Or.inr rfl)) (pss_cons (ps_if (PW.pt (pw_or (pt_cmpR (o_eqP T.st hr.units) (pv 2) pe_int (nomark _)) (pw_or1 (pt_cmpR (o_eqP T.st hr.units) (pv 2) pe_int (nomark _))))) (pss_one (ps_set (i := 3) sc_refuses.nd rfl (by first | exact Or.inl rfl | exact Or.inr rfl) (pe_op o_sub (pe_op o_sub pe_int pe_int) (pe_call (ok_far T) (hr.mono (by decide)) rfl T.mg_far (T.fn_far).kp T.bd_far .nil passE (pa_cons (pv 0) pa_nil))))) (pss_one (ps_if (pt_cmpR (o_eqP T.st hr.units) (pv 2) pe_int (nomark _)) (pss_one (ps_set (i := 3) sc_refuses.nd rfl (by first | exact Or.inl rfl | exact Or.inr rfl) (pe_op o_add pe_int (pe_call (ok_far T) (hr.mono (by decide)) rfl T.mg_far (T.fn_far).kp T.bd_far .nil passE (pa_cons (pv 0) pa_nil))))) (pss_one (ps_set (i := 3) sc_refuses.nd rfl (by first | exact Or.inl rfl | exact Or.inr rfl) (pe_call (ok_odd T) (hr.mono (by decide)) rfl T.mg_odd (T.fn_odd).kp T.bd_odd .nil passE (pa_cons (pv 0) pa_nil)))))))
    (pss_cons (ps_set (i := 4) sc_refuses.nd rfl (by first | exact Or.inl rfl | exact Or.inr rfl) (pe_call (ok_call T) (hr.mono (by decide)) rfl T.mg_call (T.fn_call).kp T.bd_call .nil passE (pa_cons (pv 1) (pa_cons (pe_op o_fdiv (pv 2) pe_int) (pa_cons (pv 3) pa_nil)))))
    (pss_one (ps_if (PW.pt (pw_or (pt_cmpR (o_neP T.st hr.units) (pe_ix (o_ix T.st) (pv 4) pe_int (fun _ _ => rfl)) pe_str (nomark _)) (pw_or1 (pt_not (pt_val (pe_call (ok_same T) (hr.mono (by decide)) rfl T.mg_same (T.fn_same).kp T.bd_same .nil passE (pa_cons (pe_ix (o_ix T.st) (pv 4) pe_int (fun _ _ => rfl)) (pa_cons (pv 3) pa_nil)))))))) (pss_one (ps_ret pe_bl)) pss_nil)))))
    (pss_one (ps_ret pe_bl)))
abbrev nm_ticks : List Str := ["_law_bag_here", "_law_row_here", "_law_way"]
theorem sc_ticks : FnScope nm_ticks ["_law_bag_here", "_law_row_here"] (defScope (top 21)) := ⟨rfl, rfl, rfl, by decide +kernel, rfl, by decide +kernel, by decide +kernel⟩
theorem ok_ticks (T : Txt P K mg a) : FnOk P w K mg base (L2.CX P w) 2 a.f_ticks a.d_ticks ["_law_bag_here", "_law_row_here"] (sp_ticks a.toCl) := by
  refine ok_body T.fn_ticks sc_ticks rfl rfl fun cdv A outer s H E hr => ?_
  exact (pss_cons (ps_set (i := 2) sc_ticks.nd rfl (by first | exact Or.inl rfl | exact Or.inr rfl) (pe_call (ok_take T) (hr.mono (by decide)) rfl T.mg_take (T.fn_take).kp T.bd_take .nil passE (pa_cons (pv 0) (pa_cons pe_int pa_nil))))
    (pss_cons (ps_if (pt_cmpR (o_eqP T.st hr.units) (pv 2) pe_int (nomark _)) (pss_one (ps_ret (pe_call (ok_take T) (hr.mono (by decide)) rfl T.mg_take (T.fn_take).kp T.bd_take .nil passE (pa_cons (pv 0) (pa_cons pe_int pa_nil))))) pss_nil)
    (pss_cons (ps_if (pt_cmpR (o_eqP T.st hr.units) (pv 2) pe_int (nomark _)) (pss_one (ps_ret (pe_ix (o_ix T.st) (pv 1) pe_int (fun _ _ => rfl)))) pss_nil)
    (pss_cons (ps_if (pt_cmpR (o_eqP T.st hr.units) (pv 2) pe_int (nomark _)) (pss_one (ps_ret (pe_call (ok_greater T) (hr.mono (by decide)) rfl T.mg_greater (T.fn_greater).kp T.bd_greater .nil passE (pa_cons pe_int (pa_cons (pe_op o_sub (pe_op o_add (pe_op o_fdiv (pe_ix (o_ix T.st) (pv 1) pe_int (fun _ _ => rfl)) pe_int) (pe_call (ok_take T) (hr.mono (by decide)) rfl T.mg_take (T.fn_take).kp T.bd_take .nil passE (pa_cons (pv 0) (pa_cons pe_int pa_nil)))) pe_int) pa_nil))))) pss_nil)
    (pss_cons (ps_if (pt_cmpR (o_eqP T.st hr.units) (pv 2) pe_int (nomark _)) (pss_one (ps_ret (pe_call (ok_take T) (hr.mono (by decide)) rfl T.mg_take (T.fn_take).kp T.bd_take .nil passE (pa_cons (pv 0) (pa_cons pe_int pa_nil))))) pss_nil)
    (pss_cons (ps_if (pt_cmpR (o_eqP T.st hr.units) (pv 2) pe_int (nomark _)) (pss_one (ps_ret (pe_call (ok_take T) (hr.mono (by decide)) rfl T.mg_take (T.fn_take).kp T.bd_take .nil passE (pa_cons (pv 0) (pa_cons (pe_op o_pow pe_int pe_int) pa_nil))))) pss_nil)
    (pss_one (ps_ret pe_int))))))))
abbrev nm_enter : List Str := ["_law_row_here", "_law_ticks_here", "_law_error"]
theorem sc_enter : FnScope nm_enter ["_law_row_here", "_law_ticks_here"] (defScope (top 19)) := ⟨rfl, rfl, rfl, by decide +kernel, rfl, by decide +kernel, by decide +kernel⟩
theorem ok_enter (T : Txt P K mg a) : FnOk P w K mg base (L2.CX P w) 2 a.f_enter a.d_enter ["_law_row_here", "_law_ticks_here"] (sp_enter a.toCl) := by
  refine ok_body T.fn_enter sc_enter rfl rfl fun cdv A outer s H E hr => ?_
  exact (pss_cons (ps_if (pt_cmpR (o_eqP T.st hr.units) (pe_ix (o_ix T.st) (pv 0) pe_int (fun _ _ => rfl)) pe_int (nomark _)) (pss_cons (ps_asg (pe_op o_mul pe_int (pv 1)) (pg_sub (pv 0) pe_int set_list))
    (pss_cons (ps_asg (pe_op o_mul pe_int (pv 1)) (pg_sub (pv 0) pe_int set_list))
    (pss_cons (ps_asg (pv 1) (pg_sub (pv 0) pe_int set_list))
    (pss_one (ps_asg (pv 1) (pg_sub (pv 0) pe_int set_list)))))) (pss_cons (ps_set (i := 2) sc_enter.nd rfl (by first | exact Or.inl rfl | exact Or.inr rfl) (pe_op o_sub (pv 1) (pe_op o_fdiv (pe_ix (o_ix T.st) (pv 0) pe_int (fun _ _ => rfl)) pe_int)))
    (pss_cons (ps_asg (pe_op o_add (pe_ix (o_ix T.st) (pv 0) pe_int (fun _ _ => rfl)) (pv 2)) (pg_sub (pv 0) pe_int set_list))
    (pss_cons (ps_asg (pe_op o_sub (pe_op o_add (pe_ix (o_ix T.st) (pv 0) pe_int (fun _ _ => rfl)) (pe_callB c_abs (by rfl) T.no_abs (by decide +kernel) (pa_cons (pv 2) pa_nil))) (pe_op o_fdiv (pe_ix (o_ix T.st) (pv 0) pe_int (fun _ _ => rfl)) pe_int)) (pg_sub (pv 0) pe_int set_list))
    (pss_cons (ps_asg (pe_call (ok_lesser T) (hr.mono (by decide)) rfl T.mg_lesser (T.fn_lesser).kp T.bd_lesser .nil passE (pa_cons (pe_ix (o_ix T.st) (pv 0) pe_int (fun _ _ => rfl)) (pa_cons (pv 1) pa_nil))) (pg_sub (pv 0) pe_int set_list))
    (pss_one (ps_asg (pe_call (ok_greater T) (hr.mono (by decide)) rfl T.mg_greater (T.fn_greater).kp T.bd_greater .nil passE (pa_cons (pe_ix (o_ix T.st) (pv 0) pe_int (fun _ _ => rfl)) (pa_cons (pv 1) pa_nil))) (pg_sub (pv 0) pe_int set_list))))))))
    (pss_cons (ps_asg (pe_op o_add (pe_ix (o_ix T.st) (pv 0) pe_int (fun _ _ => rfl)) pe_int) (pg_sub (pv 0) pe_int set_list))
    (pss_one (ps_asg (pv 1) (pg_sub (pv 0) pe_int set_list)))))
abbrev nm_law : List Str := ["_law_script", "_law_bag_here", "_law_turns", "_law_way", "_law_rows", "_law_clocks", "_law_row_here", "_law_turn", "_law_side", "_law_ticks_here"]
theorem sc_law : FnScope nm_law ["_law_script"] (defScope (top 33)) := ⟨rfl, rfl, rfl, by decide +kernel, rfl, by decide +kernel, by decide +kernel⟩
theorem ok_law (T : Txt P K mg a) : FnOk P w K mg base (L2.CX P w) 7 a.f_law a.d_law ["_law_script"] (sp_law a.toCl) := by
  refine ok_body T.fn_law sc_law rfl rfl fun cdv A outer s H E hr => ?_
  exact (pss_cons (ps_set (i := 1) sc_law.nd rfl (by first | exact Or.inl rfl | exact Or.inr rfl) (pe_call (ok_bag T) (hr.mono (by decide)) rfl T.mg_bag (T.fn_bag).kp T.bd_bag .nil passE (pa_cons (pv 0) pa_nil)))
    (pss_cons (ps_set (i := 2) sc_law.nd rfl (by first | exact Or.inl rfl | exact Or.inr rfl) (pe_op o_add pe_int (pe_call (ok_take T) (hr.mono (by decide)) rfl T.mg_take (T.fn_take).kp T.bd_take .nil passE (pa_cons (pv 1) (pa_cons pe_int pa_nil)))))
    (pss_cons (ps_forR1 (passes_of rfl) rfl rfl T.no_range pe_int (pg_name (i := 3) sc_law.nd rfl (by first | exact Or.inl rfl | exact Or.inr rfl)) (pss_one (ps_if (pt_not (pt_val (pe_call (ok_new T) (hr.mono (by decide)) rfl T.mg_new (T.fn_new).kp T.bd_new .nil passE (pa_cons (pv 1) (pa_cons (pv 3) pa_nil))))) (pss_one (ps_ret pe_bl)) pss_nil)))
    (pss_cons (ps_set (i := 4) sc_law.nd rfl (by first | exact Or.inl rfl | exact Or.inr rfl) (pe_lst (pa_cons (pe_call (ok_row T) (hr.mono (by decide)) rfl T.mg_row (T.fn_row).kp T.bd_row .nil passE (pa_cons (pe_call (ok_bounds T) (hr.mono (by decide)) rfl T.mg_bounds (T.fn_bounds).kp T.bd_bounds .nil passE (pa_cons (pv 1) pa_nil)) pa_nil)) (pa_cons (pe_call (ok_row T) (hr.mono (by decide)) rfl T.mg_row (T.fn_row).kp T.bd_row .nil passE (pa_cons (pe_call (ok_bounds T) (hr.mono (by decide)) rfl T.mg_bounds (T.fn_bounds).kp T.bd_bounds .nil passE (pa_cons (pv 1) pa_nil)) pa_nil)) pa_nil))))
    (pss_cons (ps_lcSeq (i := 5) (own := [("_law_row_here", 6)]) T.st rfl sc_law.nd rfl rfl (sw_true rfl rfl rfl (by decide +kernel)) (pv 4) (blkOk_by (own := [("_law_row_here", 6)]) (N := nm_law) (sc := defScope (top 33)) (by decide +kernel)) ⟨fun _ _ _ _ _ => (pg_name (i := 6) sc_law.nd rfl (by first | exact Or.inl rfl | exact Or.inr rfl)), fun _ _ _ _ _ => pts_nil, fun _ _ _ _ _ => (pe_make T.mk_Estimate (ok_Estimate___init__ T) (hr.mono (by decide)) rfl T.mg_Estimate T.bd_Estimate___init__ .nil passL (pa_cons (pe_ix (o_ix T.st) (pv 6) pe_int (fun _ _ => rfl)) (pa_cons (pe_ix (o_ix T.st) (pv 6) pe_int (fun _ _ => rfl)) pa_nil)))⟩)
    (pss_cons (ps_if (PW.pt (pw_or (pt_not (pt_val (pe_call (ok_backs T) (hr.mono (by decide)) rfl T.mg_backs (T.fn_backs).kp T.bd_backs .nil passE (pa_cons (pe_ix (o_ix T.st) (pv 5) pe_int (fun _ _ => rfl)) (pa_cons (pe_ix (o_ix T.st) (pv 4) pe_int (fun _ _ => rfl)) (pa_cons pe_bl pa_nil)))))) (pw_or1 (pt_not (pt_val (pe_call (ok_backs T) (hr.mono (by decide)) rfl T.mg_backs (T.fn_backs).kp T.bd_backs .nil passE (pa_cons (pe_ix (o_ix T.st) (pv 5) pe_int (fun _ _ => rfl)) (pa_cons (pe_ix (o_ix T.st) (pv 4) pe_int (fun _ _ => rfl)) (pa_cons pe_bl pa_nil))))))))) (pss_one (ps_ret pe_bl)) pss_nil)
    (pss_cons (ps_forR1 (passes_of rfl) rfl rfl T.no_range (pv 2) (pg_name (i := 7) sc_law.nd rfl (by first | exact Or.inl rfl | exact Or.inr rfl)) (pss_cons (ps_set (i := 8) sc_law.nd rfl (by first | exact Or.inl rfl | exact Or.inr rfl) (pe_call (ok_take T) (hr.mono (by decide)) rfl T.mg_take (T.fn_take).kp T.bd_take .nil passE (pa_cons (pv 1) (pa_cons pe_int pa_nil))))
    (pss_cons (ps_if (pt_not (pt_val (pe_call (ok_refuses T) (hr.mono (by decide)) rfl T.mg_refuses (T.fn_refuses).kp T.bd_refuses .nil passE (pa_cons (pv 1) (pa_cons (pe_ix (o_ix T.st) (pv 5) (pv 8) (fun _ _ => rfl)) pa_nil))))) (pss_one (ps_ret pe_bl)) pss_nil)
    (pss_cons (ps_if (PW.pt (pw_or (pt_not (pt_val (pe_call (ok_agrees T) (hr.mono (by decide)) rfl T.mg_agrees (T.fn_agrees).kp T.bd_agrees .nil passE (pa_cons (pe_ix (o_ix T.st) (pv 5) pe_int (fun _ _ => rfl)) (pa_cons (pe_ix (o_ix T.st) (pv 4) pe_int (fun _ _ => rfl)) pa_nil))))) (pw_or1 (pt_not (pt_val (pe_call (ok_agrees T) (hr.mono (by decide)) rfl T.mg_agrees (T.fn_agrees).kp T.bd_agrees .nil passE (pa_cons (pe_ix (o_ix T.st) (pv 5) pe_int (fun _ _ => rfl)) (pa_cons (pe_ix (o_ix T.st) (pv 4) pe_int (fun _ _ => rfl)) pa_nil)))))))) (pss_one (ps_ret pe_bl)) pss_nil)
    (pss_cons (ps_set (i := 9) sc_law.nd rfl (by first | exact Or.inl rfl | exact Or.inr rfl) (pe_call (ok_ticks T) (hr.mono (by decide)) rfl T.mg_ticks (T.fn_ticks).kp T.bd_ticks .nil passE (pa_cons (pv 1) (pa_cons (pe_ix (o_ix T.st) (pv 4) (pv 8) (fun _ _ => rfl)) pa_nil))))
    (pss_cons (ps_if (pt_cmpR (o_neP T.st hr.units) (pe_call (ok_call T) (hr.mono (by decide)) rfl T.mg_call (T.fn_call).kp T.bd_call .nil passE (pa_cons (pe_ix (o_ix T.st) (pv 5) (pv 8) (fun _ _ => rfl)) (pa_cons pe_int (pa_cons (pv 9) pa_nil)))) (pe_tup (pa_cons pe_str (pa_cons pe_non pa_nil))) (nomark _)) (pss_one (ps_ret pe_bl)) pss_nil)
    (pss_cons (ps_expr (pe_call (ok_enter T) (hr.mono (by decide)) rfl T.mg_enter (T.fn_enter).kp T.bd_enter .nil passE (pa_cons (pe_ix (o_ix T.st) (pv 4) (pv 8) (fun _ _ => rfl)) (pa_cons (pv 9) pa_nil))))
    (pss_one (ps_if (PW.pt (pw_or (pt_not (pt_val (pe_call (ok_backs T) (hr.mono (by decide)) rfl T.mg_backs (T.fn_backs).kp T.bd_backs .nil passE (pa_cons (pe_ix (o_ix T.st) (pv 5) pe_int (fun _ _ => rfl)) (pa_cons (pe_ix (o_ix T.st) (pv 4) pe_int (fun _ _ => rfl)) (pa_cons pe_bl pa_nil)))))) (pw_or1 (pt_not (pt_val (pe_call (ok_backs T) (hr.mono (by decide)) rfl T.mg_backs (T.fn_backs).kp T.bd_backs .nil passE (pa_cons (pe_ix (o_ix T.st) (pv 5) pe_int (fun _ _ => rfl)) (pa_cons (pe_ix (o_ix T.st) (pv 4) pe_int (fun _ _ => rfl)) (pa_cons pe_bl pa_nil))))))))) (pss_one (ps_ret pe_bl)) pss_nil)))))))))
    (pss_one (ps_ret pe_bl)))))))))
end
/-! ### what the top has written -/
theorem useFn {R : Prop} {K : PySem.W.Frag} {h : Heap} {mg : Str → Option Value} (X : K.In h) (G : h.Ns mainGlobals mg) {x : Str} {st : Stmt} {f : Addr} {ps : List Str} {oc kV doc pm cd ct : Value} {od an : Option Addr} {sl : Array (Option Value)}
    (n : PySem.W.nsIn K mainGlobals x = some (some (.ref f))) (l : K.lookup f = some ⟨oc, od, .func (PySem.W.fnOf x x (defArgs st) (defBody st) (defScope st) .none kV doc pm an cd ct), sl⟩) (c : PySem.W.codeIn K cd x = true) (k : PySem.W.keepIn K (.ref f) = true)
    (hb : ∀ (kV doc pm : Value) (an : Option Addr) (cdv ct : Value) (us : List Value), us.length = ps.length → bindArgs (PySem.W.fnOf x x (defArgs st) (defBody st) (defScope st) .none kV doc pm an cdv ct) ⟨us, []⟩ = pure (ps.zip us))
    (r : ∀ (f : Addr) (fd : FuncData), mg x = some (.ref f) → Fun K x x st f fd → (∀ us : List Value, us.length = ps.length → bindArgs fd ⟨us, []⟩ = pure (ps.zip us)) → R) : R :=
  r f _ (PySem.W.mg_of X G n) (fun_mk l c k) fun us hl => hb kV doc pm an cd ct us hl
theorem useConst {R : Prop} {K : PySem.W.Frag} {h : Heap} {mg : Str → Option Value} (X : K.In h) (G : h.Ns mainGlobals mg) {x : Str} {i : Int} {t : Tok} (n : PySem.W.nsIn K mainGlobals x = some (some (.int i t))) (r : (∃ t, mg x = some (.int i t)) → R) : R := r ⟨t, PySem.W.mg_of X G n⟩
theorem useC_Estimate {R : Prop} {K : PySem.W.Frag} {h : Heap} {mg : Str → Option Value} (X : K.In h) (G : h.Ns mainGlobals mg) {C : Addr} {f___init__ : Addr} {oc___init__ kV___init__ doc___init__ pm___init__ cd___init__ ct___init__ : Value} {od___init__ an___init__ : Option Addr} {sl___init__ : Array (Option Value)} {f_timeout : Addr} {oc_timeout kV_timeout doc_timeout pm_timeout cd_timeout ct_timeout : Value} {od_timeout an_timeout : Option Addr} {sl_timeout : Array (Option Value)} {p_timeout : Addr} {rest_timeout : List Value} {f_backed : Addr} {oc_backed kV_backed doc_backed pm_backed cd_backed ct_backed : Value} {od_backed an_backed : Option Addr} {sl_backed : Array (Option Value)} {f_sample : Addr} {oc_sample kV_sample doc_sample pm_sample cd_sample ct_sample : Value} {od_sample an_sample : Option Addr} {sl_sample : Array (Option Value)}
    (n : PySem.W.nsIn K mainGlobals "Estimate" = some (some (.ref C)))
    (pg : PySem.W.plainGet K C Str.empty = true)
    (hd : PySem.W.hasDictIn K C = true)
    (po : PySem.W.plainOver K C = true)
    (sa : PySem.W.findIn K (.ref C) "__setattr__" = some (some (.builtin "object.__setattr__")))
    (mk : PySem.W.makesIn K C = true)
    (kc : PySem.W.keepIn K (.ref C) = true)
    (na_low : PySem.W.findIn K (.ref C) "low" = some none)
    (na_high : PySem.W.findIn K (.ref C) "high" = some none)
    (na_smooth : PySem.W.findIn K (.ref C) "smooth" = some none)
    (na_spread : PySem.W.findIn K (.ref C) "spread" = some none)
    (na_samples : PySem.W.findIn K (.ref C) "samples" = some none)
    (n___init__ : PySem.W.findIn K (.ref C) "__init__" = some (some (.ref f___init__)))
    (i___init__ : PySem.W.isFn K (.ref f___init__) = true)
    (l___init__ : K.lookup f___init__ = some ⟨oc___init__, od___init__, .func (PySem.W.fnOf "__init__" "Estimate.__init__" (defArgs (inClass (top 10) 0)) (defBody (inClass (top 10) 0)) (defScope (inClass (top 10) 0)) .none kV___init__ doc___init__ pm___init__ an___init__ cd___init__ ct___init__), sl___init__⟩)
    (c___init__ : PySem.W.codeIn K cd___init__ "Estimate.__init__" = true)
    (k___init__ : PySem.W.keepIn K (.ref f___init__) = true)
    (n_timeout : PySem.W.findIn K (.ref C) "timeout" = some (some (.ref p_timeout)))
    (g_timeout : PySem.W.specialIn K (.ref p_timeout) "__get__" = some (some (.builtin "property.__get__")))
    (t_timeout : PySem.W.takesIn K (.ref p_timeout) = some true)
    (r_timeout : PySem.W.recIn K p_timeout "property" = some (.ref f_timeout :: rest_timeout))
    (l_timeout : K.lookup f_timeout = some ⟨oc_timeout, od_timeout, .func (PySem.W.fnOf "timeout" "Estimate.timeout" (defArgs (inClass (top 10) 1)) (defBody (inClass (top 10) 1)) (defScope (inClass (top 10) 1)) .none kV_timeout doc_timeout pm_timeout an_timeout cd_timeout ct_timeout), sl_timeout⟩)
    (c_timeout : PySem.W.codeIn K cd_timeout "Estimate.timeout" = true)
    (k_timeout : PySem.W.keepIn K (.ref f_timeout) = true)
    (n_backed : PySem.W.findIn K (.ref C) "backed" = some (some (.ref f_backed)))
    (i_backed : PySem.W.isFn K (.ref f_backed) = true)
    (l_backed : K.lookup f_backed = some ⟨oc_backed, od_backed, .func (PySem.W.fnOf "backed" "Estimate.backed" (defArgs (inClass (top 10) 3)) (defBody (inClass (top 10) 3)) (defScope (inClass (top 10) 3)) .none kV_backed doc_backed pm_backed an_backed cd_backed ct_backed), sl_backed⟩)
    (c_backed : PySem.W.codeIn K cd_backed "Estimate.backed" = true)
    (k_backed : PySem.W.keepIn K (.ref f_backed) = true)
    (n_sample : PySem.W.findIn K (.ref C) "sample" = some (some (.ref f_sample)))
    (i_sample : PySem.W.isFn K (.ref f_sample) = true)
    (l_sample : K.lookup f_sample = some ⟨oc_sample, od_sample, .func (PySem.W.fnOf "sample" "Estimate.sample" (defArgs (inClass (top 10) 2)) (defBody (inClass (top 10) 2)) (defScope (inClass (top 10) 2)) .none kV_sample doc_sample pm_sample an_sample cd_sample ct_sample), sl_sample⟩)
    (c_sample : PySem.W.codeIn K cd_sample "Estimate.sample" = true)
    (k_sample : PySem.W.keepIn K (.ref f_sample) = true)
    (r : ∀ (C : Addr) (f___init__ : Addr) (d___init__ : FuncData) (f_timeout : Addr) (d_timeout : FuncData) (f_backed : Addr) (d_backed : FuncData) (f_sample : Addr) (d_sample : FuncData), (Fun K "__init__" "Estimate.__init__" (inClass (top 10) 0) f___init__ d___init__) → (Binds K d___init__ ["self", "low", "high"] []) → (Fun K "timeout" "Estimate.timeout" (inClass (top 10) 1) f_timeout d_timeout) → (Binds K d_timeout ["self"] []) → (Fun K "backed" "Estimate.backed" (inClass (top 10) 3) f_backed d_backed) → (Binds K d_backed ["self", "count"] []) → (Fun K "sample" "Estimate.sample" (inClass (top 10) 2) f_sample d_sample) → (Binds K d_sample ["self", "ticks"] []) → (Cls K C) → (NoAttr K C "low") → (NoAttr K C "high") → (NoAttr K C "smooth") → (NoAttr K C "spread") → (NoAttr K C "samples") → (Mk K C f___init__) → (mg "Estimate" = some (.ref C)) → (∃ p, PropOf K C "timeout" p f_timeout) → (Meth K C "backed" f_backed) → (Meth K C "sample" f_sample) → R) : R :=
  r C f___init__ _ f_timeout _ f_backed _ f_sample _ (fun_mk l___init__ c___init__ k___init__) ((fun_mk (st := inClass (top 10) 0) l___init__ c___init__ k___init__).binds (ps := ["self", "low", "high"]) (fun _ _ _ _ _ _ us hl => match us, hl with | [_, _, _], _ => rfl)) (fun_mk l_timeout c_timeout k_timeout) ((fun_mk (st := inClass (top 10) 1) l_timeout c_timeout k_timeout).binds (ps := ["self"]) (fun _ _ _ _ _ _ us hl => match us, hl with | [_], _ => rfl)) (fun_mk l_backed c_backed k_backed) ((fun_mk (st := inClass (top 10) 3) l_backed c_backed k_backed).binds (ps := ["self", "count"]) (fun _ _ _ _ _ _ us hl => match us, hl with | [_, _], _ => rfl)) (fun_mk l_sample c_sample k_sample) ((fun_mk (st := inClass (top 10) 2) l_sample c_sample k_sample).binds (ps := ["self", "ticks"]) (fun _ _ _ _ _ _ us hl => match us, hl with | [_, _], _ => rfl)) (⟨pg, hd, po, sa⟩) (na_low) (na_high) (na_smooth) (na_spread) (na_samples) (⟨mk, n___init__, i___init__, kc⟩) (PySem.W.mg_of X G n) (⟨p_timeout, n_timeout, g_timeout, t_timeout, ⟨rest_timeout, r_timeout⟩⟩) (⟨n_backed, i_backed, k_backed⟩) (⟨n_sample, i_sample, k_sample⟩)
theorem useExc {K : PySem.W.Frag} {h : Heap} {mg : Str → Option Value} {P : Program} {R : Prop} {c_InvalidNumber : Addr} {nm_InvalidNumber q_InvalidNumber : Str} {N_InvalidNumber : Addr} {bs_InvalidNumber bm_InvalidNumber : List Value} {sn_InvalidNumber : List Str} {sub_InvalidNumber : List Value} {ab_InvalidNumber : Bool} {col_InvalidNumber : Option Bool} {dd_InvalidNumber : Option Addr} {m0_InvalidNumber m1_InvalidNumber m2_InvalidNumber m3_InvalidNumber m5_InvalidNumber : Option Value} {c_LossError : Addr} {c_InvalidSetting : Addr} {nm_InvalidSetting q_InvalidSetting : Str} {N_InvalidSetting : Addr} {bs_InvalidSetting bm_InvalidSetting : List Value} {sn_InvalidSetting : List Str} {sub_InvalidSetting : List Value} {ab_InvalidSetting : Bool} {col_InvalidSetting : Option Bool} {dd_InvalidSetting : Option Addr} {m0_InvalidSetting m1_InvalidSetting m2_InvalidSetting m3_InvalidSetting m5_InvalidSetting : Option Value} {f_InvalidSetting_i : Addr} {oc_InvalidSetting_i kV_InvalidSetting_i doc_InvalidSetting_i pm_InvalidSetting_i ct_InvalidSetting_i cl_InvalidSetting_i ccl_InvalidSetting_i : Value} {od_InvalidSetting_i an_InvalidSetting_i cld_InvalidSetting_i cdd_InvalidSetting_i : Option Addr} {sl_InvalidSetting_i csl_InvalidSetting_i ccs_InvalidSetting_i : Array (Option Value)} {cda_InvalidSetting_i cc_InvalidSetting_i : Addr} {vs_InvalidSetting_i : Array Value} {file_InvalidSetting_i : Str} {tf_InvalidSetting_i : Tok} {f_InvalidNumber_i : Addr} {oc_InvalidNumber_i kV_InvalidNumber_i doc_InvalidNumber_i pm_InvalidNumber_i ct_InvalidNumber_i cl_InvalidNumber_i ccl_InvalidNumber_i : Value} {od_InvalidNumber_i an_InvalidNumber_i cld_InvalidNumber_i cdd_InvalidNumber_i : Option Addr} {sl_InvalidNumber_i csl_InvalidNumber_i ccs_InvalidNumber_i : Array (Option Value)} {cda_InvalidNumber_i cc_InvalidNumber_i : Addr} {vs_InvalidNumber_i : Array Value} {file_InvalidNumber_i : Str} {tf_InvalidNumber_i : Tok} (X : K.In h) (G : h.Ns mainGlobals mg)
    (opq : PySem.W.nsIn K PySem.cStatics "thirdparty.any" = some none)
    (hn : PySem.W.specialIn K (.builtin "object.__class__") "__get__" = some (some (.builtin "getset_descriptor.__get__")))
    (ht : PySem.W.takesIn K (.builtin "object.__class__") = some true)
    (n_InvalidNumber : PySem.W.nsIn K mainGlobals "InvalidNumber" = some (some (.ref c_InvalidNumber)))
    (eC_InvalidNumber : PySem.W.subIn K (.ref c_InvalidNumber) (.type "BaseException") = some true)
    (tC_InvalidNumber : PySem.W.typeIn K (.ref c_InvalidNumber) = some (.type "type"))
    (hC_InvalidNumber : PySem.W.hasDictIn K c_InvalidNumber = true)
    (l_InvalidNumber : K.lookup c_InvalidNumber = some (excClassObj nm_InvalidNumber q_InvalidNumber c_InvalidNumber N_InvalidNumber bs_InvalidNumber bm_InvalidNumber true sn_InvalidNumber sub_InvalidNumber ab_InvalidNumber col_InvalidNumber dd_InvalidNumber m0_InvalidNumber m1_InvalidNumber m2_InvalidNumber m3_InvalidNumber m5_InvalidNumber "ValueError.__new__"))
    (hb_InvalidNumber : PySem.HandSPX.refsVE bm_InvalidNumber = true)
    (sa_InvalidNumber : PySem.W.findIn K (.ref c_InvalidNumber) "__setattr__" = some (some (.builtin "object.__setattr__")))
    (kC_InvalidNumber : PySem.W.keepIn K (.ref c_InvalidNumber) = true)
    (ga_InvalidNumber : PySem.W.findIn K (.ref c_InvalidNumber) "__getattribute__" = some (some (.builtin "BaseException.__getattribute__")))
    (gg_InvalidNumber : PySem.W.findIn K (.ref c_InvalidNumber) "__getattr__" = some none)
    (ha_InvalidNumber : PySem.W.findIn K (.ref c_InvalidNumber) "__class__" = some (some (.builtin "object.__class__")))
    (hm_InvalidNumber : PySem.W.mroIn K c_InvalidNumber (.type "object") = some true)
    (vs_InvalidNumber : PySem.W.subIn K (.ref c_InvalidNumber) (.type "ValueError") = some true)
    (i_InvalidNumber : PySem.W.findIn K (.ref c_InvalidNumber) "__init__" = some (some (.ref f_InvalidNumber_i)))
    (n_LossError : PySem.W.nsIn K mainGlobals "LossError" = some (some (.ref c_LossError)))
    (eC_LossError : PySem.W.subIn K (.ref c_LossError) (.type "BaseException") = some true)
    (tC_LossError : PySem.W.typeIn K (.ref c_LossError) = some (.type "type"))
    (hC_LossError : PySem.W.hasDictIn K c_LossError = true)
    (n_InvalidSetting : PySem.W.nsIn K mainGlobals "InvalidSetting" = some (some (.ref c_InvalidSetting)))
    (eC_InvalidSetting : PySem.W.subIn K (.ref c_InvalidSetting) (.type "BaseException") = some true)
    (tC_InvalidSetting : PySem.W.typeIn K (.ref c_InvalidSetting) = some (.type "type"))
    (hC_InvalidSetting : PySem.W.hasDictIn K c_InvalidSetting = true)
    (l_InvalidSetting : K.lookup c_InvalidSetting = some (excClassObj nm_InvalidSetting q_InvalidSetting c_InvalidSetting N_InvalidSetting bs_InvalidSetting bm_InvalidSetting true sn_InvalidSetting sub_InvalidSetting ab_InvalidSetting col_InvalidSetting dd_InvalidSetting m0_InvalidSetting m1_InvalidSetting m2_InvalidSetting m3_InvalidSetting m5_InvalidSetting "ValueError.__new__"))
    (hb_InvalidSetting : PySem.HandSPX.refsVE bm_InvalidSetting = true)
    (sa_InvalidSetting : PySem.W.findIn K (.ref c_InvalidSetting) "__setattr__" = some (some (.builtin "object.__setattr__")))
    (kC_InvalidSetting : PySem.W.keepIn K (.ref c_InvalidSetting) = true)
    (ga_InvalidSetting : PySem.W.findIn K (.ref c_InvalidSetting) "__getattribute__" = some (some (.builtin "BaseException.__getattribute__")))
    (gg_InvalidSetting : PySem.W.findIn K (.ref c_InvalidSetting) "__getattr__" = some none)
    (ha_InvalidSetting : PySem.W.findIn K (.ref c_InvalidSetting) "__class__" = some (some (.builtin "object.__class__")))
    (hm_InvalidSetting : PySem.W.mroIn K c_InvalidSetting (.type "object") = some true)
    (vs_InvalidSetting : PySem.W.subIn K (.ref c_InvalidSetting) (.type "ValueError") = some true)
    (i_InvalidSetting : PySem.W.findIn K (.ref c_InvalidSetting) "__init__" = some (some (.ref f_InvalidSetting_i)))
    (l_InvalidSetting_i : K.lookup f_InvalidSetting_i = some ⟨oc_InvalidSetting_i, od_InvalidSetting_i, .func (PySem.W.ksFn "__init__" "InvalidSetting.__init__" (defArgs (inClass (top 3) 0)) (defBody (inClass (top 3) 0)) (defScope (inClass (top 3) 0)) .none kV_InvalidSetting_i doc_InvalidSetting_i pm_InvalidSetting_i an_InvalidSetting_i (.ref cda_InvalidSetting_i) ct_InvalidSetting_i cc_InvalidSetting_i), sl_InvalidSetting_i⟩)
    (c_InvalidSetting_i : PySem.W.codeIn K (.ref cda_InvalidSetting_i) "InvalidSetting.__init__" = true)
    (k_InvalidSetting_i : PySem.W.keepIn K (.ref f_InvalidSetting_i) = true)
    (t_InvalidSetting_i : PySem.W.typeIn K (.ref f_InvalidSetting_i) = some (.type "function"))
    (cc_InvalidSetting_i : K.lookup cc_InvalidSetting_i = some ⟨cl_InvalidSetting_i, cld_InvalidSetting_i, .cell (some (.ref c_InvalidSetting)), csl_InvalidSetting_i⟩)
    (cd_InvalidSetting_i : K.lookup cda_InvalidSetting_i = some ⟨ccl_InvalidSetting_i, cdd_InvalidSetting_i, .fields vs_InvalidSetting_i, ccs_InvalidSetting_i⟩)
    (v_InvalidSetting_i : vs_InvalidSetting_i[2]? = some (.str file_InvalidSetting_i tf_InvalidSetting_i))
    (fl_InvalidSetting_i : ((P.main.file : Str) == file_InvalidSetting_i) = true)
    (l_InvalidNumber_i : K.lookup f_InvalidNumber_i = some ⟨oc_InvalidNumber_i, od_InvalidNumber_i, .func (PySem.W.ksFn "__init__" "InvalidNumber.__init__" (defArgs (inClass (top 2) 0)) (defBody (inClass (top 2) 0)) (defScope (inClass (top 2) 0)) .none kV_InvalidNumber_i doc_InvalidNumber_i pm_InvalidNumber_i an_InvalidNumber_i (.ref cda_InvalidNumber_i) ct_InvalidNumber_i cc_InvalidNumber_i), sl_InvalidNumber_i⟩)
    (c_InvalidNumber_i : PySem.W.codeIn K (.ref cda_InvalidNumber_i) "InvalidNumber.__init__" = true)
    (k_InvalidNumber_i : PySem.W.keepIn K (.ref f_InvalidNumber_i) = true)
    (t_InvalidNumber_i : PySem.W.typeIn K (.ref f_InvalidNumber_i) = some (.type "function"))
    (cc_InvalidNumber_i : K.lookup cc_InvalidNumber_i = some ⟨cl_InvalidNumber_i, cld_InvalidNumber_i, .cell (some (.ref c_InvalidNumber)), csl_InvalidNumber_i⟩)
    (cd_InvalidNumber_i : K.lookup cda_InvalidNumber_i = some ⟨ccl_InvalidNumber_i, cdd_InvalidNumber_i, .fields vs_InvalidNumber_i, ccs_InvalidNumber_i⟩)
    (v_InvalidNumber_i : vs_InvalidNumber_i[2]? = some (.str file_InvalidNumber_i tf_InvalidNumber_i))
    (fl_InvalidNumber_i : ((P.main.file : Str) == file_InvalidNumber_i) = true)
    (su_InvalidNumber_LossError : PySem.W.subIn K (.ref c_InvalidNumber) (.ref c_LossError) = some true)
    (su_InvalidSetting_LossError : PySem.W.subIn K (.ref c_InvalidSetting) (.ref c_LossError) = some true)
    (ki_InvalidNumber_InvalidSetting : PySem.W.kitOne K (.ref c_InvalidNumber) (.ref c_InvalidSetting) = some false)
    (ki_InvalidSetting_InvalidSetting : PySem.W.kitOne K (.ref c_InvalidSetting) (.ref c_InvalidSetting) = some true)
    (ki_InvalidNumber_ValueError : PySem.W.kitOne K (.ref c_InvalidNumber) (.type "ValueError") = some true)
    (ki_InvalidSetting_ValueError : PySem.W.kitOne K (.ref c_InvalidSetting) (.type "ValueError") = some true)
    (ki_InvalidNumber_InvalidNumber : PySem.W.kitOne K (.ref c_InvalidNumber) (.ref c_InvalidNumber) = some true)
    (ki_InvalidSetting_InvalidNumber : PySem.W.kitOne K (.ref c_InvalidSetting) (.ref c_InvalidNumber) = some false)
    (nf_InvalidSetting_setting : PySem.W.findIn K (.ref c_InvalidSetting) "setting" = some none)
    (nf_InvalidNumber_number : PySem.W.findIn K (.ref c_InvalidNumber) "number" = some none)
    (sf_InvalidSetting_InvalidSetting : PySem.W.ks_superIn K c_InvalidSetting c_InvalidSetting "__init__" = some (some (.builtin "ValueError.__init__")))
    (sm_InvalidSetting_InvalidSetting : PySem.W.mroIn K c_InvalidSetting (.ref c_InvalidSetting) = some true)
    (nf_InvalidSetting_setting : PySem.W.findIn K (.ref c_InvalidSetting) "setting" = some none)
    (sf_InvalidNumber_InvalidNumber : PySem.W.ks_superIn K c_InvalidNumber c_InvalidNumber "__init__" = some (some (.builtin "ValueError.__init__")))
    (sm_InvalidNumber_InvalidNumber : PySem.W.mroIn K c_InvalidNumber (.ref c_InvalidNumber) = some true)
    (nf_InvalidNumber_number : PySem.W.findIn K (.ref c_InvalidNumber) "number" = some none)
    (r : ∀ (c_InvalidNumber : Addr) (c_LossError : Addr) (c_InvalidSetting : Addr) (f_InvalidSetting_i : Addr) (d_InvalidSetting_i : FuncData) (f_InvalidNumber_i : Addr) (d_InvalidNumber_i : FuncData), (PySem.W.exmOne K (.ref c_InvalidNumber) (.ref c_LossError) = some true) → (PySem.W.exmOne K (.ref c_InvalidSetting) (.ref c_LossError) = some true) → (OexC K c_InvalidSetting) → (PySem.W.findIn K (.ref c_InvalidSetting) "__init__" = some (some (.ref f_InvalidSetting_i))) → (PySem.W.typeIn K (.ref f_InvalidSetting_i) = some (.type "function")) → (mg "InvalidSetting" = some (.ref c_InvalidSetting)) → (Binds K d_InvalidSetting_i ["self", "setting"] []) → (IsOk K (.ref c_InvalidNumber) (.ref c_InvalidSetting) false) → (IsOk K (.ref c_InvalidSetting) (.ref c_InvalidSetting) true) → (IsOk K (.ref c_InvalidNumber) (.ty "ValueError") true) → (IsOk K (.ref c_InvalidSetting) (.ty "ValueError") true) → (IsOk K (.ref c_InvalidNumber) (.ref c_InvalidNumber) true) → (IsOk K (.ref c_InvalidSetting) (.ref c_InvalidNumber) false) → (mg "InvalidNumber" = some (.ref c_InvalidNumber)) → (XfOk K c_InvalidSetting "setting") → (mg "LossError" = some (.ref c_LossError)) → (OexC K c_InvalidNumber) → (PySem.W.findIn K (.ref c_InvalidNumber) "__init__" = some (some (.ref f_InvalidNumber_i))) → (PySem.W.typeIn K (.ref f_InvalidNumber_i) = some (.type "function")) → (Binds K d_InvalidNumber_i ["self", "number"] []) → (XfOk K c_InvalidNumber "number") → (FunS P K "__init__" "InvalidSetting.__init__" (inClass (top 3) 0) f_InvalidSetting_i d_InvalidSetting_i c_InvalidSetting) → (SupV K c_InvalidSetting c_InvalidSetting) → (PySem.W.findIn K (.ref c_InvalidSetting) "setting" = some none) → (FunS P K "__init__" "InvalidNumber.__init__" (inClass (top 2) 0) f_InvalidNumber_i d_InvalidNumber_i c_InvalidNumber) → (SupV K c_InvalidNumber c_InvalidNumber) → (PySem.W.findIn K (.ref c_InvalidNumber) "number" = some none) → R) : R :=
  r c_InvalidNumber c_LossError c_InvalidSetting f_InvalidSetting_i _ f_InvalidNumber_i _ (PySem.W.exm_ref eC_LossError hC_LossError tC_LossError su_InvalidNumber_LossError) (PySem.W.exm_ref eC_LossError hC_LossError tC_LossError su_InvalidSetting_LossError) (⟨⟨_, _, _, _, _, _, _, _, _, _, _, _, _, _, _, l_InvalidSetting, hb_InvalidSetting⟩, sa_InvalidSetting, eC_InvalidSetting, tC_InvalidSetting, kC_InvalidSetting⟩) (i_InvalidSetting) (t_InvalidSetting_i) (PySem.W.mg_of X G n_InvalidSetting) (.all (fun us hl => match us, hl with | [_, _], _ => rfl)) (⟨⟨_, _, rfl, ⟨ga_InvalidNumber, gg_InvalidNumber, eC_InvalidNumber, hC_InvalidNumber, ha_InvalidNumber, hn, ht, hm_InvalidNumber⟩, fun _ r => r, ki_InvalidNumber_InvalidSetting⟩⟩) (⟨⟨_, _, rfl, ⟨ga_InvalidSetting, gg_InvalidSetting, eC_InvalidSetting, hC_InvalidSetting, ha_InvalidSetting, hn, ht, hm_InvalidSetting⟩, fun _ r => r, ki_InvalidSetting_InvalidSetting⟩⟩) (⟨⟨_, _, rfl, ⟨ga_InvalidNumber, gg_InvalidNumber, eC_InvalidNumber, hC_InvalidNumber, ha_InvalidNumber, hn, ht, hm_InvalidNumber⟩, fun _ r => r, ki_InvalidNumber_ValueError⟩⟩) (⟨⟨_, _, rfl, ⟨ga_InvalidSetting, gg_InvalidSetting, eC_InvalidSetting, hC_InvalidSetting, ha_InvalidSetting, hn, ht, hm_InvalidSetting⟩, fun _ r => r, ki_InvalidSetting_ValueError⟩⟩) (⟨⟨_, _, rfl, ⟨ga_InvalidNumber, gg_InvalidNumber, eC_InvalidNumber, hC_InvalidNumber, ha_InvalidNumber, hn, ht, hm_InvalidNumber⟩, fun _ r => r, ki_InvalidNumber_InvalidNumber⟩⟩) (⟨⟨_, _, rfl, ⟨ga_InvalidSetting, gg_InvalidSetting, eC_InvalidSetting, hC_InvalidSetting, ha_InvalidSetting, hn, ht, hm_InvalidSetting⟩, fun _ r => r, ki_InvalidSetting_InvalidNumber⟩⟩) (PySem.W.mg_of X G n_InvalidNumber) (⟨⟨ga_InvalidSetting, gg_InvalidSetting, eC_InvalidSetting, hC_InvalidSetting⟩, nf_InvalidSetting_setting⟩) (PySem.W.mg_of X G n_LossError) (⟨⟨_, _, _, _, _, _, _, _, _, _, _, _, _, _, _, l_InvalidNumber, hb_InvalidNumber⟩, sa_InvalidNumber, eC_InvalidNumber, tC_InvalidNumber, kC_InvalidNumber⟩) (i_InvalidNumber) (t_InvalidNumber_i) (.all (fun us hl => match us, hl with | [_, _], _ => rfl)) (⟨⟨ga_InvalidNumber, gg_InvalidNumber, eC_InvalidNumber, hC_InvalidNumber⟩, nf_InvalidNumber_number⟩) (⟨⟨_, _, _, _, _, _, _, _, _, _, _, _, _, _, _, _, _, _, _, _, rfl, l_InvalidSetting_i, c_InvalidSetting_i, cc_InvalidSetting_i, cd_InvalidSetting_i, v_InvalidSetting_i, fl_InvalidSetting_i, (by unfold PySem.W.clsIn; rw [l_InvalidSetting] <;> rfl)⟩, k_InvalidSetting_i⟩) (⟨⟨⟨_, _, _, _, _, _, _, _, _, _, _, _, _, _, _, l_InvalidSetting, hb_InvalidSetting⟩, sa_InvalidSetting, eC_InvalidSetting, tC_InvalidSetting, kC_InvalidSetting⟩, opq, sf_InvalidSetting_InvalidSetting, vs_InvalidSetting, sm_InvalidSetting_InvalidSetting⟩) (nf_InvalidSetting_setting) (⟨⟨_, _, _, _, _, _, _, _, _, _, _, _, _, _, _, _, _, _, _, _, rfl, l_InvalidNumber_i, c_InvalidNumber_i, cc_InvalidNumber_i, cd_InvalidNumber_i, v_InvalidNumber_i, fl_InvalidNumber_i, (by unfold PySem.W.clsIn; rw [l_InvalidNumber] <;> rfl)⟩, k_InvalidNumber_i⟩) (⟨⟨⟨_, _, _, _, _, _, _, _, _, _, _, _, _, _, _, l_InvalidNumber, hb_InvalidNumber⟩, sa_InvalidNumber, eC_InvalidNumber, tC_InvalidNumber, kC_InvalidNumber⟩, opq, sf_InvalidNumber_InvalidNumber, vs_InvalidNumber, sm_InvalidNumber_InvalidNumber⟩) (nf_InvalidNumber_number)
def spLaw (K : PySem.W.Frag) : Sp := fun vs H Q _ => ∃ (a : Addr) (ns : List Int), vs = [.ref a] ∧ SqL K H a (ns.map V.int) ∧ ns.length ≤ 63 ∧ Only H ∧ ∀ H', Q (.bl true) H'
theorem walk {l : PySem.W.OpenLaw} {q : Program} {loose : List Str} {XP : (Str → Option Value) → Heap → Prop} {YP : World → Heap → Prop} {d : DefRec} {K : Params → PySem.W.Frag} (hn : l.most = some 63) (hdf : d.params.defaults = [])
    (hY : ∀ (w : World) (h : Heap), YP w h → (K w.params).In h)
    (F : ∀ (w : World) (mg : Str → Option Value) (fa : Addr) (h : Heap), (K w.params).In h → h.Ns mainGlobals mg → mg d.name = some (.ref fa) →
      ∃ fd : FuncData, (∀ (s : Shared) (u : Value), BindsTo s fd ⟨[u], []⟩ [("_law_script", u)]) ∧ ∀ base : Heap, (K w.params).In base → base.Ns mainGlobals mg → FnOk l.prog w (K w.params) mg base (L2.CX l.prog w) 7 fa fd ["_law_script"] (spLaw (K w.params))) :
    PySem.W.WalkO q loose XP YP l.row.toRowW d [] (fun f vs => PySem.call f vs) :=
  L2.walk_of (n := 63) (k := 7) (x := "_law_script") (CX := fun w => L2.CX l.prog w) (sp := fun w => spLaw (K w.params)) hn (by decide) hdf ⟨rfl, by decide, by decide⟩ hY F (fun _ _ a ns hl hO hS => ⟨a, ns, rfl, hS, hl, hO, fun _ => rfl⟩) fun w H s e s' z => by
    obtain ⟨_, _, _, _, _, _, _, _, _, _, _, _, z⟩ := z
    exact z.elim
end Y.k16
open PySem PySem.W PyProof.Rows
set_option maxRecDepth 100000 in
set_option maxHeartbeats 0 in
theorem PySem.Challenge.cw_lossway_k16_estimate_backs_holds : PySem.Challenge.rw_lossway_k16_estimate_backs.Holds := by
  w_on; o_law; k_head; (case hw => w_witness2)
  k_fill
  refine Y.k16.walk (l := PySem.Challenge.rw_lossway_k16_estimate_backs) rfl rfl (fun w h Y => PySem.W.kIn_of Y) ?F
  case F =>
    intro w mg fa h KX G hmg
    refine' Y.k16.useFn KX G (x := "_law_bag") (st := Y.k16.top 13) (ps := ["_law_script"]) ?nbag ?lbag ?cbag ?kbag (fun _ _ _ _ _ _ us hl => match us, hl with | [_], _ => rfl) ?rbag
    (case nbag => k_is); (case lbag => k_is); (case cbag => k_is); (case kbag => k_is)
    intro f_bag d_bag m_bag F_bag b_bag
    refine' Y.k16.useFn KX G (x := "_law_take") (st := Y.k16.top 14) (ps := ["_law_bag_here", "_law_many"]) ?ntake ?ltake ?ctake ?ktake (fun _ _ _ _ _ _ us hl => match us, hl with | [_, _], _ => rfl) ?rtake
    (case ntake => k_is); (case ltake => k_is); (case ctake => k_is); (case ktake => k_is)
    intro f_take d_take m_take F_take b_take
    refine' Y.k16.useFn KX G (x := "_law_lesser") (st := Y.k16.top 15) (ps := ["_law_one", "_law_two"]) ?nlesser ?llesser ?clesser ?klesser (fun _ _ _ _ _ _ us hl => match us, hl with | [_, _], _ => rfl) ?rlesser
    (case nlesser => k_is); (case llesser => k_is); (case clesser => k_is); (case klesser => k_is)
    intro f_lesser d_lesser m_lesser F_lesser b_lesser
    refine' Y.k16.useFn KX G (x := "_law_bounds") (st := Y.k16.top 17) (ps := ["_law_bag_here"]) ?nbounds ?lbounds ?cbounds ?kbounds (fun _ _ _ _ _ _ us hl => match us, hl with | [_], _ => rfl) ?rbounds
    (case nbounds => k_is); (case lbounds => k_is); (case cbounds => k_is); (case kbounds => k_is)
    intro f_bounds d_bounds m_bounds F_bounds b_bounds
    refine' Y.k16.useFn KX G (x := "_law_far") (st := Y.k16.top 22) (ps := ["_law_bag_here"]) ?nfar ?lfar ?cfar ?kfar (fun _ _ _ _ _ _ us hl => match us, hl with | [_], _ => rfl) ?rfar
    (case nfar => k_is); (case lfar => k_is); (case cfar => k_is); (case kfar => k_is)
    intro f_far d_far m_far F_far b_far
    refine' Y.k16.useFn KX G (x := "_law_odd") (st := Y.k16.top 23) (ps := ["_law_bag_here"]) ?nodd ?lodd ?codd ?kodd (fun _ _ _ _ _ _ us hl => match us, hl with | [_], _ => rfl) ?rodd
    (case nodd => k_is); (case lodd => k_is); (case codd => k_is); (case kodd => k_is)
    intro f_odd d_odd m_odd F_odd b_odd
    refine' Y.k16.useFn KX G (x := "_law_bent") (st := Y.k16.top 27) (ps := ["_law_bag_here", "_law_way"]) ?nbent ?lbent ?cbent ?kbent (fun _ _ _ _ _ _ us hl => match us, hl with | [_, _], _ => rfl) ?rbent
    (case nbent => k_is); (case lbent => k_is); (case cbent => k_is); (case kbent => k_is)
    intro f_bent d_bent m_bent F_bent b_bent
    refine' Y.k16.useFn KX G (x := "is_whole") (st := Y.k16.top 5) (ps := ["value"]) ?nis_whole ?lis_whole ?cis_whole ?kis_whole (fun _ _ _ _ _ _ us hl => match us, hl with | [_], _ => rfl) ?ris_whole
    (case nis_whole => k_is); (case lis_whole => k_is); (case cis_whole => k_is); (case kis_whole => k_is)
    intro f_is_whole d_is_whole m_is_whole F_is_whole b_is_whole
    refine' Y.k16.useFn KX G (x := "in_range") (st := Y.k16.top 6) (ps := ["value", "low", "high"]) ?nin_range ?lin_range ?cin_range ?kin_range (fun _ _ _ _ _ _ us hl => match us, hl with | [_, _, _], _ => rfl) ?rin_range
    (case nin_range => k_is); (case lin_range => k_is); (case cin_range => k_is); (case kin_range => k_is)
    intro f_in_range d_in_range m_in_range F_in_range b_in_range
    refine' Y.k16.useFn KX G (x := "_law_made") (st := Y.k16.top 25) (ps := ["_law_low_bound", "_law_high_bound"]) ?nmade ?lmade ?cmade ?kmade (fun _ _ _ _ _ _ us hl => match us, hl with | [_, _], _ => rfl) ?rmade
    (case nmade => k_is); (case lmade => k_is); (case cmade => k_is); (case kmade => k_is)
    intro f_made d_made m_made F_made b_made
    refine' Y.k16.useFn KX G (x := "_law_whole") (st := Y.k16.top 12) (ps := ["_law_value"]) ?nwhole ?lwhole ?cwhole ?kwhole (fun _ _ _ _ _ _ us hl => match us, hl with | [_], _ => rfl) ?rwhole
    (case nwhole => k_is); (case lwhole => k_is); (case cwhole => k_is); (case kwhole => k_is)
    intro f_whole d_whole m_whole F_whole b_whole
    refine' Y.k16.useFn KX G (x := "_law_new") (st := Y.k16.top 28) (ps := ["_law_bag_here", "_law_way"]) ?nnew ?lnew ?cnew ?knew (fun _ _ _ _ _ _ us hl => match us, hl with | [_, _], _ => rfl) ?rnew
    (case nnew => k_is); (case lnew => k_is); (case cnew => k_is); (case knew => k_is)
    intro f_new d_new m_new F_new b_new
    refine' Y.k16.useFn KX G (x := "_law_row") (st := Y.k16.top 18) (ps := ["_law_pair"]) ?nrow ?lrow ?crow ?krow (fun _ _ _ _ _ _ us hl => match us, hl with | [_], _ => rfl) ?rrow
    (case nrow => k_is); (case lrow => k_is); (case crow => k_is); (case krow => k_is)
    intro f_row d_row m_row F_row b_row
    refine' Y.k16.useFn KX G (x := "_law_greater") (st := Y.k16.top 16) (ps := ["_law_one", "_law_two"]) ?ngreater ?lgreater ?cgreater ?kgreater (fun _ _ _ _ _ _ us hl => match us, hl with | [_, _], _ => rfl) ?rgreater
    (case ngreater => k_is); (case lgreater => k_is); (case cgreater => k_is); (case kgreater => k_is)
    intro f_greater d_greater m_greater F_greater b_greater
    refine' Y.k16.useFn KX G (x := "_law_wait") (st := Y.k16.top 20) (ps := ["_law_row_here"]) ?nwait ?lwait ?cwait ?kwait (fun _ _ _ _ _ _ us hl => match us, hl with | [_], _ => rfl) ?rwait
    (case nwait => k_is); (case lwait => k_is); (case cwait => k_is); (case kwait => k_is)
    intro f_wait d_wait m_wait F_wait b_wait
    refine' Y.k16.useFn KX G (x := "_law_powers") (st := Y.k16.top 31) (ps := ["_law_row_here"]) ?npowers ?lpowers ?cpowers ?kpowers (fun _ _ _ _ _ _ us hl => match us, hl with | [_], _ => rfl) ?rpowers
    (case npowers => k_is); (case lpowers => k_is); (case cpowers => k_is); (case kpowers => k_is)
    intro f_powers d_powers m_powers F_powers b_powers
    refine' Y.k16.useFn KX G (x := "_law_call") (st := Y.k16.top 26) (ps := ["_law_estimate", "_law_deed", "_law_value"]) ?ncall ?lcall ?ccall ?kcall (fun _ _ _ _ _ _ us hl => match us, hl with | [_, _, _], _ => rfl) ?rcall
    (case ncall => k_is); (case lcall => k_is); (case ccall => k_is); (case kcall => k_is)
    intro f_call d_call m_call F_call b_call
    refine' Y.k16.useFn KX G (x := "_law_agrees") (st := Y.k16.top 30) (ps := ["_law_estimate", "_law_row_here"]) ?nagrees ?lagrees ?cagrees ?kagrees (fun _ _ _ _ _ _ us hl => match us, hl with | [_, _], _ => rfl) ?ragrees
    (case nagrees => k_is); (case lagrees => k_is); (case cagrees => k_is); (case kagrees => k_is)
    intro f_agrees d_agrees m_agrees F_agrees b_agrees
    refine' Y.k16.useFn KX G (x := "_law_backs") (st := Y.k16.top 32) (ps := ["_law_estimate", "_law_row_here", "_law_downwards"]) ?nbacks ?lbacks ?cbacks ?kbacks (fun _ _ _ _ _ _ us hl => match us, hl with | [_, _, _], _ => rfl) ?rbacks
    (case nbacks => k_is); (case lbacks => k_is); (case cbacks => k_is); (case kbacks => k_is)
    intro f_backs d_backs m_backs F_backs b_backs
    refine' Y.k16.useFn KX G (x := "_law_same") (st := Y.k16.top 24) (ps := ["_law_told", "_law_due"]) ?nsame ?lsame ?csame ?ksame (fun _ _ _ _ _ _ us hl => match us, hl with | [_, _], _ => rfl) ?rsame
    (case nsame => k_is); (case lsame => k_is); (case csame => k_is); (case ksame => k_is)
    intro f_same d_same m_same F_same b_same
    refine' Y.k16.useFn KX G (x := "_law_refuses") (st := Y.k16.top 29) (ps := ["_law_bag_here", "_law_estimate"]) ?nrefuses ?lrefuses ?crefuses ?krefuses (fun _ _ _ _ _ _ us hl => match us, hl with | [_, _], _ => rfl) ?rrefuses
    (case nrefuses => k_is); (case lrefuses => k_is); (case crefuses => k_is); (case krefuses => k_is)
    intro f_refuses d_refuses m_refuses F_refuses b_refuses
    refine' Y.k16.useFn KX G (x := "_law_ticks") (st := Y.k16.top 21) (ps := ["_law_bag_here", "_law_row_here"]) ?nticks ?lticks ?cticks ?kticks (fun _ _ _ _ _ _ us hl => match us, hl with | [_, _], _ => rfl) ?rticks
    (case nticks => k_is); (case lticks => k_is); (case cticks => k_is); (case kticks => k_is)
    intro f_ticks d_ticks m_ticks F_ticks b_ticks
    refine' Y.k16.useFn KX G (x := "_law_enter") (st := Y.k16.top 19) (ps := ["_law_row_here", "_law_ticks_here"]) ?nenter ?lenter ?center ?kenter (fun _ _ _ _ _ _ us hl => match us, hl with | [_, _], _ => rfl) ?renter
    (case nenter => k_is); (case lenter => k_is); (case center => k_is); (case kenter => k_is)
    intro f_enter d_enter m_enter F_enter b_enter
    refine' Y.k16.useFn KX G (x := "law") (st := Y.k16.top 33) (ps := ["_law_script"]) ?nlaw ?llaw ?claw ?klaw (fun _ _ _ _ _ _ us hl => match us, hl with | [_], _ => rfl) ?rlaw
    (case nlaw => k_is); (case llaw => k_is); (case claw => k_is); (case klaw => k_is)
    intro f_law d_law m_law F_law b_law
    refine' Y.k16.useC_Estimate KX G ?qEstimate0 ?qEstimate1 ?qEstimate2 ?qEstimate3 ?qEstimate4 ?qEstimate5 ?qEstimate6 ?qEstimate7 ?qEstimate8 ?qEstimate9 ?qEstimate10 ?qEstimate11 ?qEstimate12 ?qEstimate13 ?qEstimate14 ?qEstimate15 ?qEstimate16 ?qEstimate17 ?qEstimate18 ?qEstimate19 ?qEstimate20 ?qEstimate21 ?qEstimate22 ?qEstimate23 ?qEstimate24 ?qEstimate25 ?qEstimate26 ?qEstimate27 ?qEstimate28 ?qEstimate29 ?qEstimate30 ?qEstimate31 ?qEstimate32 ?qEstimate33 ?rEstimate
    (case qEstimate0 => k_is); (case qEstimate1 => k_is); (case qEstimate2 => k_is); (case qEstimate3 => k_is); (case qEstimate4 => k_is); (case qEstimate5 => k_is); (case qEstimate6 => k_is); (case qEstimate7 => k_is); (case qEstimate8 => k_is); (case qEstimate9 => k_is); (case qEstimate10 => k_is); (case qEstimate11 => k_is); (case qEstimate12 => k_is); (case qEstimate13 => k_is); (case qEstimate14 => k_is); (case qEstimate15 => k_is); (case qEstimate16 => k_is); (case qEstimate17 => k_is); (case qEstimate18 => k_is); (case qEstimate19 => k_is); (case qEstimate20 => k_is); (case qEstimate21 => k_is); (case qEstimate22 => k_is); (case qEstimate23 => k_is); (case qEstimate24 => k_is); (case qEstimate25 => k_is); (case qEstimate26 => k_is); (case qEstimate27 => k_is); (case qEstimate28 => k_is); (case qEstimate29 => k_is); (case qEstimate30 => k_is); (case qEstimate31 => k_is); (case qEstimate32 => k_is); (case qEstimate33 => k_is)
    intro c_Estimate f_Estimate___init__ d_Estimate___init__ f_Estimate_timeout d_Estimate_timeout f_Estimate_backed d_Estimate_backed f_Estimate_sample d_Estimate_sample F_Estimate___init__ b_Estimate___init__ F_Estimate_timeout b_Estimate_timeout F_Estimate_backed b_Estimate_backed F_Estimate_sample b_Estimate_sample x_cl_Estimate x_na_Estimate_low x_na_Estimate_high x_na_Estimate_smooth x_na_Estimate_spread x_na_Estimate_samples x_mk_Estimate x_mg_Estimate x_pp_Estimate_timeout x_mt_Estimate_backed x_mt_Estimate_sample
    refine' Y.k16.useExc (P := (PySem.Challenge.rw_lossway_k16_estimate_backs).prog) KX G ?qx0 ?qx1 ?qx2 ?qx3 ?qx4 ?qx5 ?qx6 ?qx7 ?qx8 ?qx9 ?qx10 ?qx11 ?qx12 ?qx13 ?qx14 ?qx15 ?qx16 ?qx17 ?qx18 ?qx19 ?qx20 ?qx21 ?qx22 ?qx23 ?qx24 ?qx25 ?qx26 ?qx27 ?qx28 ?qx29 ?qx30 ?qx31 ?qx32 ?qx33 ?qx34 ?qx35 ?qx36 ?qx37 ?qx38 ?qx39 ?qx40 ?qx41 ?qx42 ?qx43 ?qx44 ?qx45 ?qx46 ?qx47 ?qx48 ?qx49 ?qx50 ?qx51 ?qx52 ?qx53 ?qx54 ?qx55 ?qx56 ?qx57 ?qx58 ?qx59 ?qx60 ?qx61 ?qx62 ?qx63 ?qx64 ?qx65 ?qx66 ?rExc
    (case qx0 => k_is); (case qx1 => k_is); (case qx2 => k_is); (case qx3 => k_is); (case qx4 => k_is); (case qx5 => k_is); (case qx6 => k_is); (case qx7 => k_is); (case qx8 => first | rfl | decide +kernel); (case qx9 => k_is); (case qx10 => k_is); (case qx11 => k_is); (case qx12 => k_is); (case qx13 => k_is); (case qx14 => k_is); (case qx15 => k_is); (case qx16 => k_is); (case qx17 => k_is); (case qx18 => k_is); (case qx19 => k_is); (case qx20 => k_is); (case qx21 => k_is); (case qx22 => k_is); (case qx23 => k_is); (case qx24 => k_is); (case qx25 => k_is); (case qx26 => first | rfl | decide +kernel); (case qx27 => k_is); (case qx28 => k_is); (case qx29 => k_is); (case qx30 => k_is); (case qx31 => k_is); (case qx32 => k_is); (case qx33 => k_is); (case qx34 => k_is); (case qx35 => k_is); (case qx36 => k_is); (case qx37 => k_is); (case qx38 => k_is); (case qx39 => k_is); (case qx40 => k_is); (case qx41 => first | rfl | k_is); (case qx42 => first | rfl | decide +kernel); (case qx43 => k_is); (case qx44 => k_is); (case qx45 => k_is); (case qx46 => k_is); (case qx47 => k_is); (case qx48 => k_is); (case qx49 => first | rfl | k_is); (case qx50 => first | rfl | decide +kernel); (case qx51 => first | k_is | rfl); (case qx52 => first | k_is | rfl); (case qx53 => first | kit_is | k_is | rfl); (case qx54 => first | kit_is | k_is | rfl); (case qx55 => first | kit_is | k_is | rfl); (case qx56 => first | kit_is | k_is | rfl); (case qx57 => first | kit_is | k_is | rfl); (case qx58 => first | kit_is | k_is | rfl); (case qx59 => k_is); (case qx60 => k_is); (case qx61 => ks_is); (case qx62 => k_is); (case qx63 => k_is); (case qx64 => ks_is); (case qx65 => k_is); (case qx66 => k_is)
    intro c_InvalidNumber c_LossError c_InvalidSetting f_InvalidSetting___init__ d_InvalidSetting___init__ f_InvalidNumber___init__ d_InvalidNumber___init__ x_ex_InvalidNumber_LossError x_ex_InvalidSetting_LossError x_oe_InvalidSetting x_ii_InvalidSetting_InvalidSetting x_it_InvalidSetting x_mg_InvalidSetting x_be_InvalidSetting x_is_InvalidNumber_InvalidSetting x_is_InvalidSetting_InvalidSetting x_is_InvalidNumber_ValueError x_is_InvalidSetting_ValueError x_is_InvalidNumber_InvalidNumber x_is_InvalidSetting_InvalidNumber x_mg_InvalidNumber x_xf_InvalidSetting_setting x_mg_LossError x_oe_InvalidNumber x_ii_InvalidNumber_InvalidNumber x_it_InvalidNumber x_be_InvalidNumber x_xf_InvalidNumber_number x_fs_InvalidSetting x_sv_InvalidSetting_InvalidSetting x_nf_InvalidSetting_setting x_fs_InvalidNumber x_sv_InvalidNumber_InvalidNumber x_nf_InvalidNumber_number
    have x_no_abs : mg "abs" = none := by
      refine' PySem.W.mg_none_of KX G ?nno_abs
      (case nno_abs => k_is)
    have x_no_int : mg "int" = none := by
      refine' PySem.W.mg_none_of KX G ?nno_int
      (case nno_int => k_is)
    have x_no_sum : mg "sum" = none := by
      refine' PySem.W.mg_none_of KX G ?nno_sum
      (case nno_sum => k_is)
    have x_no_len : mg "len" = none := by
      refine' PySem.W.mg_none_of KX G ?nno_len
      (case nno_len => k_is)
    have x_no_range : mg "range" = none := by
      refine' PySem.W.mg_none_of KX G ?nno_range
      (case nno_range => k_is)
    have x_no_str : mg "str" = none := by
      refine' PySem.W.mg_none_of KX G ?nno_str
      (case nno_str => k_is)
    have x_no_isinstance : mg "isinstance" = none := by
      refine' PySem.W.mg_none_of KX G ?nno_isinstance
      (case nno_isinstance => k_is)
    have x_no_bool : mg "bool" = none := by
      refine' PySem.W.mg_none_of KX G ?nno_bool
      (case nno_bool => k_is)
    refine' Y.k16.useConst KX G (x := "GREATEST_TIMEOUT") (i := 100000) ?nmg_GREATEST_TIMEOUT ?rmg_GREATEST_TIMEOUT
    (case nmg_GREATEST_TIMEOUT => k_is)
    intro x_mg_GREATEST_TIMEOUT
    have x_no_min : mg "min" = none := by
      refine' PySem.W.mg_none_of KX G ?nno_min
      (case nno_min => k_is)
    have x_no_max : mg "max" = none := by
      refine' PySem.W.mg_none_of KX G ?nno_max
      (case nno_max => k_is)
    have x_no_ValueError : mg "ValueError" = none := by
      refine' PySem.W.mg_none_of KX G ?nno_ValueError
      (case nno_ValueError => k_is)
    have x_no_all : mg "all" = none := by
      refine' PySem.W.mg_none_of KX G ?nno_all
      (case nno_all => k_is)
    refine' Y.k16.useConst KX G (x := "GREATEST_BACKING") (i := 60) ?nmg_GREATEST_BACKING ?rmg_GREATEST_BACKING
    (case nmg_GREATEST_BACKING => k_is)
    intro x_mg_GREATEST_BACKING
    have x_no_super : mg "super" = none := by
      refine' PySem.W.mg_none_of KX G ?nno_super
      (case nno_super => k_is)
    have x_sup_top : ((PySem.Challenge.rw_lossway_k16_estimate_backs).prog.main.scope.names.lookup ("super" : Str)).isSome = false := by first | rfl | decide +kernel
    have e := hmg.symm.trans m_law
    cases e
    refine ⟨d_law, fun s u => .of_eq (b_law [u] rfl), fun base hb hg => ?_⟩
    exact (Y.k16.ok_law (a := { S := Y.SK _, f_bag := f_bag, d_bag := d_bag, f_take := f_take, d_take := d_take, f_lesser := f_lesser, d_lesser := d_lesser, f_bounds := f_bounds, d_bounds := d_bounds, f_far := f_far, d_far := d_far, f_odd := f_odd, d_odd := d_odd, f_bent := f_bent, d_bent := d_bent, f_is_whole := f_is_whole, d_is_whole := d_is_whole, f_in_range := f_in_range, d_in_range := d_in_range, f_Estimate___init__ := f_Estimate___init__, d_Estimate___init__ := d_Estimate___init__, f_Estimate_timeout := f_Estimate_timeout, d_Estimate_timeout := d_Estimate_timeout, f_made := f_made, d_made := d_made, f_whole := f_whole, d_whole := d_whole, f_new := f_new, d_new := d_new, f_row := f_row, d_row := d_row, f_greater := f_greater, d_greater := d_greater, f_wait := f_wait, d_wait := d_wait, f_powers := f_powers, d_powers := d_powers, f_Estimate_backed := f_Estimate_backed, d_Estimate_backed := d_Estimate_backed, f_Estimate_sample := f_Estimate_sample, d_Estimate_sample := d_Estimate_sample, f_call := f_call, d_call := d_call, f_agrees := f_agrees, d_agrees := d_agrees, f_backs := f_backs, d_backs := d_backs, f_same := f_same, d_same := d_same, f_refuses := f_refuses, d_refuses := d_refuses, f_ticks := f_ticks, d_ticks := d_ticks, f_enter := f_enter, d_enter := d_enter, f_law := _, d_law := d_law, f_InvalidSetting___init__ := f_InvalidSetting___init__, d_InvalidSetting___init__ := d_InvalidSetting___init__, f_InvalidNumber___init__ := f_InvalidNumber___init__, d_InvalidNumber___init__ := d_InvalidNumber___init__, c_Estimate := c_Estimate, c_InvalidNumber := c_InvalidNumber, c_LossError := c_LossError, c_InvalidSetting := c_InvalidSetting }) { st := rfl, no_abs := x_no_abs, no_int := x_no_int, no_sum := x_no_sum, mg_bag := m_bag, bd_bag := .all b_bag, fn_bag := F_bag, no_len := x_no_len, mg_take := m_take, bd_take := .all b_take, fn_take := F_take, no_range := x_no_range, mg_lesser := m_lesser, bd_lesser := .all b_lesser, fn_lesser := F_lesser, mg_bounds := m_bounds, bd_bounds := .all b_bounds, fn_bounds := F_bounds, mg_far := m_far, bd_far := .all b_far, fn_far := F_far, no_str := x_no_str, mg_odd := m_odd, bd_odd := .all b_odd, fn_odd := F_odd, mg_bent := m_bent, bd_bent := .all b_bent, fn_bent := F_bent, ex_InvalidNumber_LossError := x_ex_InvalidNumber_LossError, ex_InvalidSetting_LossError := x_ex_InvalidSetting_LossError, no_isinstance := x_no_isinstance, no_bool := x_no_bool, mg_is_whole := m_is_whole, bd_is_whole := .all b_is_whole, fn_is_whole := F_is_whole, mg_in_range := m_in_range, bd_in_range := .all b_in_range, mg_GREATEST_TIMEOUT := x_mg_GREATEST_TIMEOUT, fn_in_range := F_in_range, oe_InvalidSetting := x_oe_InvalidSetting, ii_InvalidSetting_InvalidSetting := x_ii_InvalidSetting_InvalidSetting, it_InvalidSetting := x_it_InvalidSetting, mg_InvalidSetting := x_mg_InvalidSetting, be_InvalidSetting := x_be_InvalidSetting, cl_Estimate := x_cl_Estimate, na_Estimate_low := x_na_Estimate_low, na_Estimate_high := x_na_Estimate_high, na_Estimate_smooth := x_na_Estimate_smooth, na_Estimate_spread := x_na_Estimate_spread, na_Estimate_samples := x_na_Estimate_samples, mk_Estimate := x_mk_Estimate, bd_Estimate___init__ := b_Estimate___init__, mg_Estimate := x_mg_Estimate, no_min := x_no_min, no_max := x_no_max, pp_Estimate_timeout := x_pp_Estimate_timeout, bd_Estimate_timeout := b_Estimate_timeout, is_InvalidNumber_InvalidSetting := x_is_InvalidNumber_InvalidSetting, is_InvalidSetting_InvalidSetting := x_is_InvalidSetting_InvalidSetting, is_InvalidNumber_ValueError := x_is_InvalidNumber_ValueError, is_InvalidSetting_ValueError := x_is_InvalidSetting_ValueError, no_ValueError := x_no_ValueError, is_InvalidNumber_InvalidNumber := x_is_InvalidNumber_InvalidNumber, is_InvalidSetting_InvalidNumber := x_is_InvalidSetting_InvalidNumber, mg_InvalidNumber := x_mg_InvalidNumber, xf_InvalidSetting_setting := x_xf_InvalidSetting_setting, mg_LossError := x_mg_LossError, mg_made := m_made, bd_made := .all b_made, fn_made := F_made, no_all := x_no_all, mg_whole := m_whole, bd_whole := .all b_whole, fn_whole := F_whole, mg_new := m_new, bd_new := .all b_new, fn_new := F_new, mg_row := m_row, bd_row := .all b_row, fn_row := F_row, mg_greater := m_greater, bd_greater := .all b_greater, fn_greater := F_greater, mg_wait := m_wait, bd_wait := .all b_wait, fn_wait := F_wait, mg_powers := m_powers, bd_powers := .all b_powers, fn_powers := F_powers, mg_GREATEST_BACKING := x_mg_GREATEST_BACKING, oe_InvalidNumber := x_oe_InvalidNumber, ii_InvalidNumber_InvalidNumber := x_ii_InvalidNumber_InvalidNumber, it_InvalidNumber := x_it_InvalidNumber, be_InvalidNumber := x_be_InvalidNumber, mt_Estimate_backed := x_mt_Estimate_backed, bd_Estimate_backed := b_Estimate_backed, mt_Estimate_sample := x_mt_Estimate_sample, bd_Estimate_sample := b_Estimate_sample, xf_InvalidNumber_number := x_xf_InvalidNumber_number, mg_call := m_call, bd_call := .all b_call, fn_call := F_call, mg_agrees := m_agrees, bd_agrees := .all b_agrees, fn_agrees := F_agrees, mg_backs := m_backs, bd_backs := .all b_backs, fn_backs := F_backs, mg_same := m_same, bd_same := .all b_same, fn_same := F_same, mg_refuses := m_refuses, bd_refuses := .all b_refuses, fn_refuses := F_refuses, mg_ticks := m_ticks, bd_ticks := .all b_ticks, fn_ticks := F_ticks, mg_enter := m_enter, bd_enter := .all b_enter, fn_enter := F_enter, fn_Estimate___init__ := F_Estimate___init__, fn_Estimate_timeout := F_Estimate_timeout, fn_Estimate_backed := F_Estimate_backed, fn_Estimate_sample := F_Estimate_sample, fn_law := F_law, bd_law := .all b_law, mg_law := m_law, fs_InvalidSetting := x_fs_InvalidSetting, sv_InvalidSetting_InvalidSetting := x_sv_InvalidSetting_InvalidSetting, nf_InvalidSetting_setting := x_nf_InvalidSetting_setting, fs_InvalidNumber := x_fs_InvalidNumber, sv_InvalidNumber_InvalidNumber := x_sv_InvalidNumber_InvalidNumber, nf_InvalidNumber_number := x_nf_InvalidNumber_number, no_super := x_no_super, sup_top := x_sup_top }).imp fun vs H Q E h => Y.k16.law_holds _ rfl vs H Q E h

