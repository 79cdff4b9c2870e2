import PyProof.Rows.All
import Wide.All
import OpenK.AllK
import Wide.FinOn
import HandS.ForMost
import HandS.ForExc
import HandS.IsInst
import HandS.ClsMeth
import HandS.Wide
import HandS.Flow
import HandS.Property
import HandS.WideBits
import PySem.Challenge.RW_lossway_k19_whole_finder_finds
set_option Elab.async false
set_option linter.all false
set_option maxRecDepth 100000
set_option maxHeartbeats 4000000
/-! The layer of this work: readings without the written part, a def's promise by its own body. -/
namespace Y
open PySem PySem.Spec PyProof.Rows L2

/-! ### weaker readings -/
section
variable {X : Cx}
theorem pe_imp {e : Expr} {t t' : TE} (h : PE X e t) (hi : ∀ σ H Q, t' σ H Q → t σ H Q) : PE X e t' := ⟨fun pins s σ H Q I q => h.run pins s σ H Q I (hi σ H Q q)⟩
theorem ps_imp {e : Stmt} {t t' : TS} (h : PS X e t) (hi : ∀ D σ H, t' D σ H → t D σ H) : PS X e t' := ⟨fun pins s σ H D I q => h.run pins s σ H D I (hi D σ H q)⟩
theorem op_imp {f : Value → Value → Sem Value} {r r' : R2} (h : OpR X f r) (hi : ∀ x y H Q, r' x y H Q → r x y H Q) : OpR X f r' := fun pins s σ H x y v u Q I rx ry q => h pins s σ H x y v u Q I rx ry (hi x y H Q q)
theorem op_or {f : Value → Value → Sem Value} {r r' : R2} (h : OpR X f r) (h' : OpR X f r') : OpR X f (fun x y H Q => r x y H Q ∨ r' x y H Q) := fun pins s σ H x y v u Q I rx ry q =>
  q.elim (h pins s σ H x y v u Q I rx ry) (h' pins s σ H x y v u Q I rx ry)
theorem ix_imp {r r' : R2} (h : IxR X r) (hi : ∀ x y H Q, r' x y H Q → r x y H Q) : IxR X r' := fun value slice pins s σ H x y v u Q I rx ry q hs => h value slice pins s σ H x y v u Q I rx ry (hi x y H Q q) hs
theorem call_imp {f : Value} {r r' : List V → Hp → VK → Prop} (h : CallR X f r) (hi : ∀ xs H Q, r' xs H Q → r xs H Q) : CallR X f r' := fun pins s σ H xs us Q I rx q => h pins s σ H xs us Q I rx (hi xs H Q q)
end

/-! ### what stands at an address; S: static things, of the written part -/
abbrev Sta := Addr → HO → Prop
def SK (K : PySem.W.Frag) : Sta := fun a u => match u with
  | .lst xs => ∃ (o : Obj) (its : Array Value) (n : Nat), K.lookup a = some o ∧ o.cls = .type "list" ∧ o.dict = none ∧ o.data = .seq its n ∧ its.size ≤ sizeLine ∧ Vals xs its.toList
  | .tup xs => ∃ (o : Obj) (its : Array Value) (n : Nat), K.lookup a = some o ∧ o.cls = .type "tuple" ∧ o.data = .seq its n ∧ its.size ≤ sizeLine ∧ Vals xs its.toList
  | _ => False
def RdS (S : Sta) (H : Hp) (p : Addr) (u : HO) : Prop := Rd H p u ∨ S p u
theorem sqL {K : PySem.W.Frag} {S : Sta} {H : Hp} {p : Addr} {xs : List V} (e : S = SK K) (h : RdS S H p (.lst xs)) : SqL K H p xs := by subst e; exact h
theorem sqT {K : PySem.W.Frag} {S : Sta} {H : Hp} {p : Addr} {xs : List V} (e : S = SK K) (h : RdS S H p (.tup xs)) : SqT K H p xs := by subst e; exact h
/-- a list or a tuple -/
def Seq (S : Sta) (H : Hp) (p : Addr) (xs : List V) : Prop := RdS S H p (.lst xs) ∨ RdS S H p (.tup xs)

/-! ### operators -/
def rAdd : R2 := fun x y H Q => (∃ i j, x = .int i ∧ y = .int j ∧ Q (.int (i + j)) H) ∨ (∃ i j, x = .str i ∧ y = .str j ∧ i.length + j.length ≤ sizeLine ∧ Q (.str (i ++ j)) H)
  ∨ (∃ p q a b, x = .ref p ∧ y = .ref q ∧ H p = some (.lst a) ∧ H q = some (.lst b) ∧ a.length + b.length ≤ sizeLine ∧ ∀ r, H r = none → Q (.ref r) (upd H r (.lst (a ++ b))))
def rSub : R2 := rI0 fun i j => .int (i - j)
def rMul : R2 := rI CMul fun i j => .int (i * j)
def rFdiv : R2 := rI CDivW fun i j => .int (i / j)
def rMod : R2 := rI (fun _ j => 0 < j) fun i j => .int (i % j)
def rPow : R2 := rI CPow fun i j => .int (i ^ j.toNat)
def rShl : R2 := rI CPow fun i j => .int (i * 2 ^ j.toNat)
def rAnd : R2 := rI0 fun i j => .int (Builtin.bitAnd i j)
def rLt : R2 := rI0 fun i j => .bl (decide (i < j))
def rLe : R2 := rI0 fun i j => .bl (decide (i ≤ j))
def rGt : R2 := rI0 fun i j => .bl (decide (j < i))
def rGe : R2 := rI0 fun i j => .bl (decide (j ≤ i))
def rNeg : V → Hp → VK → Prop := rU fun i => .int (-i)
def rIs : R2 := fun x y H Q => y = .non ∧ Q (.bl (decide (x = .non))) H
def rIsNot : R2 := fun x y H Q => y = .non ∧ Q (.bl (!decide (x = .non))) H
section
variable {X : Cx}
theorem o_add : OpR X (binaryOp .Add) rAdd := op_imp (op_or op_add (op_or op_add_str op_cat)) fun x y H Q q => by
  rcases q with q | q | ⟨p, q, a, b, e1, e2, h1, h2, h3, h4⟩
  · exact .inl q
  · exact .inr (.inl q)
  · exact .inr (.inr ⟨p, q, a, b, e1, e2, h1, h2, h3, h4⟩)
theorem o_sub : OpR X (binaryOp .Sub) rSub := op_sub
theorem o_mul : OpR X (binaryOp .Mult) rMul := op_mul
theorem o_fdiv : OpR X (binaryOp .FloorDiv) rFdiv := op_fdivW
theorem o_mod : OpR X (binaryOp .Mod) rMod := op_mod
theorem o_pow : OpR X (binaryOp .Pow) rPow := op_pow
theorem o_shl : OpR X (binaryOp .LShift) rShl := op_shl
theorem o_and : OpR X (binaryOp .BitAnd) rAnd := op_and
theorem o_lt : OpR X (compareOp .Lt) rLt := op_lt
theorem o_le : OpR X (compareOp .LtE) rLe := op_le
theorem o_gt : OpR X (compareOp .Gt) rGt := op_gt
theorem o_ge : OpR X (compareOp .GtE) rGe := op_ge
theorem o_eq : OpR X (compareOp .Eq) rEq := op_eq
theorem o_ne : OpR X (compareOp .NotEq) rNe := op_ne
theorem o_is : OpR X (compareOp .Is) rIs := op_isN
theorem o_isnot : OpR X (compareOp .IsNot) rIsNot := op_notN
theorem o_neg : UnR X (unaryOp .USub) rNeg := un_neg
end

/-! ### subscripts, len, slices -/
def rIx (S : Sta) : R2 := fun x y H Q => (∃ p xs i v, x = .ref p ∧ y = .int i ∧ Seq S H p xs ∧ atI xs i = some v ∧ Q v H) ∨ (∃ z i c, x = .str z ∧ y = .int i ∧ z.length ≤ sizeLine ∧ atI z.cps.toList i = some c ∧ Q (.str ⟨#[c]⟩) H)
def rLen (S : Sta) : List V → Hp → VK → Prop := fun xs H Q => (∃ p ys, xs = [.ref p] ∧ Seq S H p ys ∧ Q (.int ys.length) H) ∨ (∃ z, xs = [.str z] ∧ z.length ≤ sizeLine ∧ Q (.int z.length) H)
def rInt : List V → Hp → VK → Prop := fun xs H Q => (∃ i, xs = [.int i] ∧ Q (.int i) H) ∨ ∃ k, xs = [.bl k] ∧ Q (.int (if k then 1 else 0)) H
def rSl (S : Sta) : V → Option Int → Option Int → Hp → VK → Prop := fun x lo hi H Q => ∃ a xs, x = .ref a ∧ RdS S H a (.lst xs) ∧ ∀ p, H p = none → Q (.ref p) (upd H p (.lst (cutV xs lo hi)))
section
variable {X : Cx}
variable {S : Sta}
theorem o_ix (st : S = SK X.K) : IxR X (rIx S) := ix_imp (ix_list.or (ix_tup.or ix_str)) fun x y H Q q => by
  rcases q with ⟨p, xs, i, v, e1, e2, h | h, h2, h3⟩ | q
  · exact .inl ⟨p, xs, i, v, e1, e2, sqL st h, h2, h3⟩
  · exact .inr (.inl ⟨p, xs, i, v, e1, e2, sqT st h, h2, h3⟩)
  · exact .inr (.inr q)
theorem c_len (st : S = SK X.K) : CallR X (.builtin "len") (rLen S) := call_imp call_len fun xs H Q q => by
  rcases q with ⟨p, ys, e, h | h, q⟩ | ⟨z, e, h, q⟩
  · exact ⟨_, _, e, .inl ⟨_, sqL st h, rfl⟩, q⟩
  · exact ⟨_, _, e, .inr ⟨_, sqT st h, rfl⟩, q⟩
  · exact ⟨_, _, e, ⟨h, rfl⟩, q⟩
theorem c_int : CallR X (.type "int") rInt := call_int1
theorem o_sl (st : S = SK X.K) : SlR X (rSl S) := fun pins s σ H x v vl vu lo hi sl Q I rx hs pl pu h => by
  obtain ⟨a, xs, e, hx, q⟩ := h
  exact sl_list pins s σ H x v vl vu lo hi sl Q I rx hs pl pu ⟨a, xs, e, sqL st hx, q⟩
end

/-! ### small built-ins -/
def rAbs : List V → Hp → VK → Prop := fun xs H Q => ∃ i, xs = [.int i] ∧ Q (.int (if i < 0 then -i else i)) H
def rMin2 : List V → Hp → VK → Prop := fun xs H Q => ∃ i j, xs = [.int i, .int j] ∧ Q (.int (if j < i then j else i)) H
def rMax2 : List V → Hp → VK → Prop := fun xs H Q => ∃ i j, xs = [.int i, .int j] ∧ Q (.int (if j > i then j else i)) H
def rSum (S : Sta) : List V → Hp → VK → Prop := fun vs H Q => ∃ (a : Addr) (ns : List Int), vs = [V.ref a] ∧ RdS S H a (.lst (ns.map V.int)) ∧ Q (.int ns.sum) H
def rAll (S : Sta) : List V → Hp → VK → Prop := fun vs H Q => ∃ (a : Addr) (bs : List Bool), vs = [V.ref a] ∧ RdS S H a (.lst (bs.map V.bl)) ∧ Q (.bl (bs.all id)) H
def rMaxL (S : Sta) : List V → Hp → VK → Prop := fun vs H Q => ∃ (a : Addr) (ns : List Int), vs = [V.ref a] ∧ RdS S H a (.lst (ns.map V.int)) ∧ 0 < ns.length ∧ ∀ m, m ∈ ns → (∀ y, y ∈ ns → y ≤ m) → Q (.int m) H
def rMinL (S : Sta) : List V → Hp → VK → Prop := fun vs H Q => ∃ (a : Addr) (ns : List Int), vs = [V.ref a] ∧ RdS S H a (.lst (ns.map V.int)) ∧ 0 < ns.length ∧ ∀ m, m ∈ ns → (∀ y, y ∈ ns → m ≤ y) → Q (.int m) H
def rListOf (S : Sta) : List V → Hp → VK → Prop := fun xs H Q => ∃ p ys, xs = [.ref p] ∧ Seq S H p ys ∧ ∀ l, H l = none → Q (.ref l) (upd H l (.lst ys))
def rTupleOf (S : Sta) : List V → Hp → VK → Prop := fun xs H Q => ∃ p ys, xs = [.ref p] ∧ ((RdS S H p (.lst ys) ∧ ∀ l, H l = none → Q (.ref l) (upd H l (.tup ys))) ∨ (RdS S H p (.tup ys) ∧ Q (.ref p) H))
section
variable {X : Cx} {S : Sta}
theorem c_abs : CallR X (.builtin "abs") rAbs := call_abs
theorem c_min2 (hc : X.calm = true) : CallR X (.builtin "min") rMin2 := call_min2 hc
theorem c_max2 (hc : X.calm = true) : CallR X (.builtin "max") rMax2 := call_max2 hc
theorem c_sum (st : S = SK X.K) (hc : X.calm = true) : CallR X (.builtin "sum") (rSum S) := call_imp (cr_sum hc) fun xs H Q ⟨a, ns, e, h, q⟩ => ⟨a, ns, e, sqL st h, q⟩
theorem c_all (st : S = SK X.K) (hc : X.calm = true) : CallR X (.builtin "all") (rAll S) := call_imp (cr_all hc) fun xs H Q ⟨a, ns, e, h, q⟩ => ⟨a, ns, e, sqL st h, q⟩
theorem c_maxL (st : S = SK X.K) (hc : X.calm = true) : CallR X (.builtin "max") (rMaxL S) := call_imp (cr_max hc) fun xs H Q ⟨a, ns, e, h, q⟩ => ⟨a, ns, e, sqL st h, q⟩
theorem c_minL (st : S = SK X.K) (hc : X.calm = true) : CallR X (.builtin "min") (rMinL S) := call_imp (cr_min hc) fun xs H Q ⟨a, ns, e, h, q⟩ => ⟨a, ns, e, sqL st h, q⟩
theorem c_list (st : S = SK X.K) : CallR X (.type "list") (rListOf S) := call_imp call_list_of fun xs H Q ⟨p, ys, e, h, q⟩ => ⟨p, ys, e, h.elim (fun h => .inl (sqL st h)) (fun h => .inr (sqT st h)), q⟩
theorem c_tuple (st : S = SK X.K) : CallR X (.type "tuple") (rTupleOf S) := call_imp call_tuple_of fun xs H Q ⟨p, ys, e, h⟩ => ⟨p, ys, e, h.elim (fun h => .inl ⟨sqL st h.1, h.2⟩) (fun h => .inr ⟨sqT st h.1, h.2⟩)⟩
end

/-! ### == of data at any depth -/
mutual
inductive DpS (S : Sta) (H : Hp) : V → PyData → Prop
  | non : DpS S H .non .none
  | bl (b : Bool) : DpS S H (.bl b) (.bool b)
  | int (i : Int) : DpS S H (.int i) (.int i)
  | str (x : Str) : DpS S H (.str x) (.str x)
  | lst {a : Addr} {xs : List V} {ds : List PyData} : RdS S H a (.lst xs) → DpSs S H xs ds → DpS S H (.ref a) (.list ds)
  | tup {a : Addr} {xs : List V} {ds : List PyData} : RdS S H a (.tup xs) → DpSs S H xs ds → DpS S H (.ref a) (.tuple ds)
inductive DpSs (S : Sta) (H : Hp) : List V → List PyData → Prop
  | nil : DpSs S H [] []
  | cons {v : V} {vs : List V} {d : PyData} {ds : List PyData} : DpS S H v d → DpSs S H vs ds → DpSs S H (v :: vs) (d :: ds)
end
mutual
theorem DpS.dp {K : PySem.W.Frag} {S : Sta} (st : S = SK K) {H : Hp} : ∀ {v : V} {d : PyData}, DpS S H v d → Dp K H v d
  | _, _, .non => .non
  | _, _, .bl b => .bl b
  | _, _, .int i => .int i
  | _, _, .str x => .str x
  | _, _, .lst h r => .lst (sqL st h) (DpSs.dp st r)
  | _, _, .tup h r => .tup (sqT st h) (DpSs.dp st r)
theorem DpSs.dp {K : PySem.W.Frag} {S : Sta} (st : S = SK K) {H : Hp} : ∀ {v : List V} {d : List PyData}, DpSs S H v d → DpAll K H v d
  | _, _, .nil => .nil
  | _, _, .cons h r => .cons (DpS.dp st h) (DpSs.dp st r)
end
def rEqP (S : Sta) : R2 := fun x y H Q => rEq x y H Q ∨ ∃ d e, DpS S H x d ∧ DpS S H y e ∧ SeqAt.shaped d = true ∧ SeqAt.shaped e = true ∧ Q (.bl (PyData.eqv d e)) H
def rNeP (S : Sta) : R2 := fun x y H Q => rNe x y H Q ∨ ∃ d e, DpS S H x d ∧ DpS S H y e ∧ SeqAt.shaped d = true ∧ SeqAt.shaped e = true ∧ Q (.bl (!PyData.eqv d e)) H
section
variable {X : Cx} {S : Sta}
theorem o_eqP (st : S = SK X.K) (hu : X.A.units + 64 < cLine) : OpR X (compareOp .Eq) (rEqP S) := op_imp (op_or op_eq (op_eqD hu)) fun x y H Q q => q.elim .inl fun ⟨d, e, h1, h2, q⟩ => .inr ⟨d, e, h1.dp st, h2.dp st, q⟩
theorem o_neP (st : S = SK X.K) (hu : X.A.units + 64 < cLine) : OpR X (compareOp .NotEq) (rNeP S) := op_imp (op_or op_ne (op_neD hu)) fun x y H Q q => q.elim .inl fun ⟨d, e, h1, h2, q⟩ => .inr ⟨d, e, h1.dp st, h2.dp st, q⟩
end

/-! ### types -/
inductive TyN (H : Hp) : V → String → Prop where
  | non : TyN H .non "NoneType"
  | bl (b : Bool) : TyN H (.bl b) "bool"
  | int (i : Int) : TyN H (.int i) "int"
  | str (s : Str) : TyN H (.str s) "str"
  | lst {a : Addr} {xs : List V} (e : Rd H a (.lst xs)) : TyN H (.ref a) "list"
  | tup {a : Addr} {xs : List V} (e : Rd H a (.tup xs)) : TyN H (.ref a) "tuple"
  | dK {a : Addr} {kvs : List (Key × V)} (e : H a = some (.dK kvs)) : TyN H (.ref a) "dict"
theorem TyN.x {K : PySem.W.Frag} {H : Hp} {x : V} {n : String} (t : TyN H x n) : TyX K H x (.type n) := by
  cases t with
  | non => exact .base .non
  | bl b => exact .base (.bl b)
  | int i => exact .base (.int i)
  | str s => exact .base (.str s)
  | lst e =>
    rcases e with e | ⟨o, e⟩
    · exact .base (.lst e)
    · exact .base (.frz e)
  | tup e =>
    rcases e with e | ⟨o, e⟩
    · exact .base (.tup e)
    · exact .fTuple e
  | dK e => exact .base (.dK e)
/-- isinstance(x, n) of a built-in class n, for the types above -/
def isA (t n : String) : Bool := t == n || (t == "bool" && n == "int")
def rIsI : List V → Hp → VK → Prop := fun xs H Q => ∃ x n t, xs = [x, .ty n] ∧ TyN H x t ∧ kitB t n = some (isA t n) ∧ Q (.bl (isA t n)) H
theorem c_isi {X : Cx} : CallR X (.builtin "isinstance") rIsI := call_imp call_isi fun xs H Q q => by
  obtain ⟨x, n, t, e, ty, k, q⟩ := q
  exact ⟨x, .ty n, .type t, .type n, isA t n, e, .ty n, ty.x, kit_ty k, q⟩

/-! ### fields, methods -/
/-- a reading closed under weaker ends -/
def mo (te : TE) : TE := fun σ H Q => ∃ Q0 : VK, te σ H Q0 ∧ ∀ v H', Q0 v H' → Q v H'
def moA (ta : TA) : TA := fun σ H Q => ∃ Q0 : List V → Hp → Prop, ta σ H Q0 ∧ ∀ v H', Q0 v H' → Q v H'
def eFld (C : Addr) (f : Str) (te : TE) : TE := fun σ H Q => te σ H fun x H1 => ∃ a dx fs v, x = .ref a ∧ H1 a = some (.ins C dx fs) ∧ fs.lookup f = some v ∧ Q v H1
def sSetF (C : Addr) (f : Str) (te tv : TE) : TS := fun D σ H => tv σ H fun y H1 => te σ H1 fun x H2 => ∃ a dx fs, x = .ref a ∧ H2 a = some (.ins C dx fs) ∧ fs.length < 1000 ∧ D.nx σ (upd H2 a (.ins C dx (putF f y fs)))
/-- o.f, a property -/
def eProp (C : Addr) (sp : Sp) (te : TE) : TE := fun σ H Q => te σ H fun x H1 => ∃ a dx fs, x = .ref a ∧ H1 a = some (.ins C dx fs) ∧ sp [.ref a] H1 Q E0
/-- o.f += e -/
def sAugF (C : Addr) (f : Str) (te tv : TE) (rd : V → V → Hp → VK → Prop) : TS := fun D σ H => te σ H fun x H1 => ∃ a dx fs v, x = .ref a ∧ H1 a = some (.ins C dx fs) ∧ fs.lookup f = some v ∧
  tv σ H1 fun y H2 => rd v y H2 fun z H3 => ∃ dx' fs', H3 a = some (.ins C dx' fs') ∧ fs'.length < 1000 ∧ D.nx σ (upd H3 a (.ins C dx' (putF f z fs')))
/-- x.append(e) -/
def eApp (te : TE) (ta : TA) : TE := fun σ H Q => te σ H fun x H1 => ∃ l, x = .ref l ∧ (∃ xs, H1 l = some (.lst xs)) ∧ ta σ H1 fun vs H2 => rAppend x vs H2 Q
section
variable {X : Cx} {C : Addr} {f : Str} {e ev o : Expr} {es : List Expr} {te tv : TE} {ta : TA} {pos pos' pos2 apos cpos : Pos}
theorem pe_mo (he : PE X e te) : PE X e (mo te) := ⟨fun pins s σ H Q I ⟨Q0, h, hq⟩ => thn (he.run pins s σ H Q0 I h) fun _ _ ⟨v, H', I', r, q⟩ => ⟨v, H', I', r, hq v H' q⟩⟩
theorem pa_mo (he : PA X es ta) : PA X es (moA ta) := ⟨fun pos pins s σ H Q I ⟨Q0, h, hq⟩ => thn (he.run pos pins s σ H Q0 I h) fun _ _ ⟨v, H', I', r, q⟩ => ⟨v, H', I', r, hq v H' q⟩⟩
theorem pe_fldC (c : Cls X.K C) (n : NoAttr X.K C f) (he : PE X e te) (hb : attributeBase e f X.env (eval e X.env) = eval e X.env := by rfl) : PE X (.Attribute e f pos) (eFld C f te) :=
  pe_imp (pe_fld (pe_mo he) hb) fun σ H Q q => ⟨_, q, fun v H' ⟨a, dx, fs, w, e1, e2, l, q⟩ => ⟨a, C, dx, fs, w, e1, e2, c, n, l, q⟩⟩
theorem ps_setF (c : Cls X.K C) (n : NoAttr X.K C f) (ha : PE X o te) (hv : PE X ev tv) (hs : swapsWith ev (some (.Attribute o f pos')) pos.line X.env = pure false := by rfl) :
    PS X (.Assign [.Attribute o f pos'] ev pos) (sSetF C f te tv) :=
  ps_imp (ps_fld (pe_mo ha) (pe_mo hv) hs) fun D σ H q => ⟨_, q, fun y H1 q1 => ⟨_, q1, fun x H2 ⟨a, dx, fs, e1, e2, l, q2⟩ => ⟨a, C, dx, fs, e1, e2, c, n, l, q2⟩⟩⟩
theorem pe_propC {CX : CXT} {k : Nat} {p g : Addr} {fd : FuncData} {ps : List Str} {sp : Sp} (he : PE X e te) (c : Cls X.K C) (hp : PropOf X.K C f p g) (F : FnOk X.prog X.w X.K X.mg X.base CX k g fd ps sp) (hr : Room (k + 1) X.A) (hb : Binds X.K fd ps []) (hx : Passes CX X.nox E0)
    (hab : attributeBase e f X.env (eval e X.env) = eval e X.env := by rfl) : PE X (.Attribute e f pos) (eProp C sp te) := pe_imp (pe_prop he c hp F hr hb .nil hx hab) fun _ _ _ q => q
theorem ps_augF {op : Operator} {rd : V → V → Hp → VK → Prop} (c : Cls X.K C) (n : NoAttr X.K C f) (ha : PE X o te) (hv : PE X ev tv) (hop : InOp X op rd) : PS X (.AugAssign (.Attribute o f pos') op ev pos) (sAugF C f te tv rd) :=
  ps_imp (ps_fldaug (pe_mo ha) (pe_mo hv) hop) fun D σ H q => ⟨_, q, fun x H1 ⟨a, dx, fs, v, e1, e2, l, q2⟩ => ⟨a, C, dx, fs, v, e1, e2, c, n, l, ⟨_, q2, fun y H2 q3 => q3⟩⟩⟩
theorem pe_app (ho : PE X o te) (ha : PA X (e :: es) ta)
    (hbase : attributeBase o "append" X.env (eval o X.env) = eval o X.env := by rfl)
    (hfew : ((backTo cpos (starEach (e :: es) X.env)).all (fun x => !x.1) && (backToKw cpos (keywordEach [] X.env)).all (fun x => x.1.isSome)
      && decide ((e :: es).length + ([] : List Keyword).length + (if ([] : List Keyword).isEmpty then 0 else 1) < 30)) = true := by rfl)
    (hline : (apos.endLine == cpos.line) = true := by rfl) (hs : starEach (e :: es) X.env = (false, eval e X.env) :: starEach es X.env := by rfl) (hplain : (backTo cpos (starEach es X.env)).any (·.1) = false := by rfl) :
    PE X (.Call (.Attribute o "append" apos) (e :: es) [] cpos) (eApp te ta) :=
  pe_imp (pe_bm PySem.F.plainAttrs_list PySem.F.slot_list_append PySem.F.type_list_append mt_append (pe_mo ho) ha hbase hfew hline hs hplain) fun σ H Q q =>
    ⟨_, q, fun x H1 ⟨l, e1, ⟨xs, hl⟩, q1⟩ => by subst e1; exact ⟨.inl ⟨rfl, _, .inl (.inl hl)⟩, q1⟩⟩
end

/-! ### for, over a list or a tuple; over a range -/
/-- what is walked stays as it is -/
def Stays (S : Sta) (a : Addr) (xs : List V) (R : Nat → Hp → Prop) : Prop := (∀ i H, i ≤ xs.length → R i H → RdS S H a (.lst xs)) ∨ (∀ i H, i ≤ xs.length → R i H → RdS S H a (.tup xs))
def iSeq (K : PySem.W.Frag) (te : TE) : TI := fun σ H R => te σ H fun x H1 => ∃ a, x = .ref a ∧ (((∃ xs, SqL K H1 a xs) ∧ R (Itl K a) H1) ∨ ((∃ xs, SqT K H1 a xs) ∧ R (Itt K a) H1))
def sFor (S : Sta) (te : TE) (g : TG) (tb : TS) : TS := fun D σ H => te σ H fun x H1 => ∃ a xs, x = .ref a ∧ ∃ Pv : Nat → L2.St → Hp → Prop, Pv 0 σ H1 ∧ Stays S a xs (fun i H => ∃ σ, Pv i σ H) ∧
  (∀ i y σ H, xs[i]? = some y → Pv i σ H → g y σ H fun σ' H' => tb ⟨Pv (i + 1), D.rt, D.nx, Pv (i + 1)⟩ σ' H') ∧ ∀ σ H, Pv xs.length σ H → D.nx σ H
def sForR (lo : Option TE) (hi : TE) (g : TG) (tb : TS) : TS := fun D σ H =>
  let body : Int → Int → L2.St → Hp → Prop := fun lo hi σ1 H1 => (-(2 ^ 62) ≤ lo ∧ lo < 2 ^ 62 ∧ -(2 ^ 62) ≤ hi ∧ hi < 2 ^ 62) ∧ ∃ Pv : Nat → L2.St → Hp → Prop, Pv 0 σ1 H1 ∧
    (∀ (i : Nat) σ H, lo + i < hi → Pv i σ H → g (.int (lo + i)) σ H fun σ' H' => tb ⟨Pv (i + 1), D.rt, D.nx, Pv (i + 1)⟩ σ' H') ∧ ∀ σ H, Pv (hi - lo).toNat σ H → D.nx σ H
  match lo with
  | none => hi σ H fun y H1 => ∃ j, y = .int j ∧ body 0 j σ H1
  | some lo => lo σ H fun x H1 => hi σ H1 fun y H2 => ∃ i j, x = .int i ∧ y = .int j ∧ body i j σ H2
section
variable {X : Cx} {tg l a b : Expr} {te ta tb' : TE} {g : TG} {tb : TS} {body : List Stmt} {pos p : Pos}
theorem pi_seq (hl : PE X l te) : PI X tg l (iSeq X.K te) := by
  refine ⟨fun pins s σ H R I h => ?_⟩
  refine thn (hl.run pins s σ H _ I h) fun v s1 ⟨x, H1, I1, r1, q1⟩ => ?_
  obtain ⟨a, e, q⟩ := q1
  subst e
  cases r1
  have fp : ∀ b ∈ [s1.heap.objs.size], ∀ {s2 : Shared} , Inv X pins σ H1 s2 → s2.heap.objs.size = s1.heap.objs.size → FpOk X pins H1 b := fun b hb s2 I2 hs => by
    have e : b = s1.heap.objs.size := by simpa using hb
    subst e
    exact I1.fpOk (Nat.le_refl _) (I1.hok.fresh (Nat.le_refl _))
  rcases q with ⟨⟨xs, hq⟩, q⟩ | ⟨⟨xs, hq⟩, q⟩
  · obtain ⟨its, rv, p, hz⟩ := I1.list hq
    refine wpAny_pyIter_list p.isList ?_
    refine ⟨s1.heap.objs.size, [s1.heap.objs.size], _, _, H1, rfl, I1.kept (t' := s1.toks) fun b o e => Heap.get?_push_of_some _ e, turn_list a _, ⟨_, Heap.get?_push_size _ rfl, rfl, rfl⟩, fun b hb => fp b hb I1 rfl, q⟩
  · obtain ⟨its, rv, p, hz⟩ := I1.tuple hq
    refine wpAny_pyIter_tuple (show s1.heap.IsTuple a its.toArray from p) ?_
    refine ⟨s1.heap.objs.size, [s1.heap.objs.size], _, _, H1, rfl, I1.kept (t' := s1.toks) fun b o e => Heap.get?_push_of_some _ e, turn_tuple a _, ⟨_, Heap.get?_push_size _ rfl, rfl, rfl⟩, fun b hb => fp b hb I1 rfl, q⟩
theorem ps_forSeq {S : Sta} (st : S = SK X.K) (hp : PassesOwn (model X.prog X.w) X.A X.env X.xe) (hc : X.calm = true) (hl : PE X l te) (hg : PG X tg g) (hb : PSs X body tb) (hs : ∀ x, foldedSetIterable l X.env x = pure x := by intro _; rfl) :
    PS X (.For tg l body [] pos) (sFor S te g tb) :=
  ps_imp (ps_for hp hc (pi_seq (pe_mo hl)) hg hb hs) fun D σ H q => ⟨_, q, fun x H1 ⟨a, xs, e, Pv, h0, hst, ht, hd⟩ => by
    refine ⟨a, e, ?_⟩
    rcases hst with z | z
    · exact .inl ⟨⟨xs, sqL st (z 0 H1 (Nat.zero_le _) ⟨σ, h0⟩)⟩, for_list (K := X.K) (a := a) (xs := xs) Pv h0 (fun i σ H hi p => sqL st (z i H hi ⟨σ, p⟩)) ht hd⟩
    · exact .inr ⟨⟨xs, sqT st (z 0 H1 (Nat.zero_le _) ⟨σ, h0⟩)⟩, for_tup (K := X.K) (a := a) (xs := xs) Pv h0 (fun i σ H hi p => sqT st (z i H hi ⟨σ, p⟩)) ht hd⟩⟩
theorem ps_forR1 (hp : PassesOwn (model X.prog X.w) X.A X.env X.xe) (hc : X.calm = true) (hgl : Gl X "range") (hm : X.mg "range" = none) (ha : PE X a ta) (hg : PG X tg g) (hb : PSs X body tb) (hs : starEach [a] X.env = (false, eval a X.env) :: starEach [] X.env := by rfl)
    (hs' : ∀ x, foldedSetIterable (.Call (.Name "range" p) [a] [] pos2) X.env x = pure x := by intro _; rfl) :
    PS X (.For tg (.Call (.Name "range" p) [a] [] pos2) body [] pos) (sForR none ta g tb) :=
  ps_imp (ps_for hp hc (pi_range1 hgl hm (pa_cons (pe_mo ha) pa_nil hs) hs) hg hb hs') fun D σ H q => ⟨_, q, fun y H1 ⟨j, e, ⟨_, _, h1, h2⟩, Pv, h0, ht, hd⟩ => by
    subst e
    refine ⟨j, rfl, h1, h2, for_range (lo := 0) (n := j.toNat) Pv h0 (fun i σ H hi p => ht i σ H (by omega) p) fun σ H p => hd σ H (by rw [Int.sub_zero]; exact p)⟩⟩
theorem ps_forR2 (hp : PassesOwn (model X.prog X.w) X.A X.env X.xe) (hc : X.calm = true) (hgl : Gl X "range") (hm : X.mg "range" = none) (ha : PE X a ta) (hb' : PE X b tb') (hg : PG X tg g) (hb : PSs X body tb) (hs : starEach [a, b] X.env = (false, eval a X.env) :: starEach [b] X.env := by rfl) (hs2 : starEach [b] X.env = (false, eval b X.env) :: starEach [] X.env := by rfl)
    (hs' : ∀ x, foldedSetIterable (.Call (.Name "range" p) [a, b] [] pos2) X.env x = pure x := by intro _; rfl) :
    PS X (.For tg (.Call (.Name "range" p) [a, b] [] pos2) body [] pos) (sForR (some ta) tb' g tb) :=
  ps_imp (ps_for hp hc (pi_range2 hgl hm (pa_cons (pe_mo ha) (pa_cons (pe_mo hb') pa_nil hs2) hs) (hs.trans (by rw [hs2]; rfl)) hs2) hg hb hs') fun D σ H q => ⟨_, q, fun x H1 q1 => ⟨_, q1, fun y H2 ⟨i, j, e, e', ⟨h1, h2, h3, h4⟩, Pv, h0, ht, hd⟩ => by
    subst e e'
    exact ⟨i, j, rfl, ⟨h1, h2, h3, h4⟩, for_range (lo := i) (n := (j - i).toNat) Pv h0 (fun k σ H hi p => ht k σ H (by omega) p) hd⟩⟩⟩
end

/-! ### list comprehensions -/
def eLc (S : Sta) (te : TE) (g : TG) (tt : TT) (tel : TE) (vs : List Nat) : TE := fun σ H Q => te σ H fun x H1 => ∃ a xs, x = .ref a ∧ ∃ k : Bool, RdS S H1 a (if k then .lst xs else .tup xs) ∧ ∀ D, H1 D = none → ∃ Pv : Nat → Hp → Prop, Pv 0 (upd H1 D (.lst [])) ∧ (∀ i H, i ≤ xs.length → Pv i H → RdS S H a (if k then .lst xs else .tup xs)) ∧
  (∀ i y H, xs[i]? = some y → Pv i H → g y (wipe σ vs) H fun σ2 H2 => wipe σ2 vs = wipe σ vs ∧ tt σ2 H2 fun b H3 => if b = true then tel σ2 H3 fun z H4 => ∃ acc, H4 D = some (.lst acc) ∧ acc.length < sizeLine ∧ Pv (i + 1) (upd H4 D (.lst (acc ++ [z]))) else Pv (i + 1) H3) ∧
  ∀ H, Pv xs.length H → Q (.ref D) H
def eLcR (lo : Option TE) (hi : TE) (g : TG) (tt : TT) (tel : TE) (vs : List Nat) : TE := fun σ H Q =>
  let body : Int → Int → Hp → Prop := fun lo hi H1 => (-(2 ^ 62) ≤ lo ∧ lo < 2 ^ 62 ∧ -(2 ^ 62) ≤ hi ∧ hi < 2 ^ 62) ∧ ∀ D, H1 D = none → ∃ Pv : Nat → Hp → Prop, Pv 0 (upd H1 D (.lst [])) ∧
    (∀ (i : Nat) H, lo + i < hi → Pv i H → g (.int (lo + i)) (wipe σ vs) H fun σ2 H2 => wipe σ2 vs = wipe σ vs ∧ tt σ2 H2 fun b H3 => if b = true then tel σ2 H3 fun z H4 => ∃ acc, H4 D = some (.lst acc) ∧ acc.length < sizeLine ∧ Pv (i + 1) (upd H4 D (.lst (acc ++ [z]))) else Pv (i + 1) H3) ∧
    ∀ H, Pv (hi - lo).toNat H → Q (.ref D) H
  match lo with
  | none => hi σ H fun y H1 => ∃ j, y = .int j ∧ body 0 j H1
  | some lo => lo σ H fun x H1 => hi σ H1 fun y H2 => ∃ i j, x = .int i ∧ y = .int j ∧ body i j H2
section
variable {X : Cx} {tg l a b elt : Expr} {ifs : List Expr} {te ta tb' tel : TE} {tt : TT} {g : TG} {scope : Scope} {own : List (Str × Nat)} {pos p pos2 spos py : Pos}
/-- what a block of a comprehension asks -/
structure Blk (X : Cx) (scope : Scope) (tg elt : Expr) (ifs : List Expr) (g : TG) (tt : TT) (tel : TE) : Prop where
  hg : ∀ (s : Shared) (H : Hp) (C : Addr) (cl : List (Str × Addr)) (fp : List Addr), PG (X.blk s H scope (compEnvC scope cl C X.env) fp) tg g
  ht : ∀ (s : Shared) (H : Hp) (C : Addr) (cl : List (Str × Addr)) (fp : List Addr), PTs (X.blk s H scope (compEnvC scope cl C X.env) fp) ifs tt
  he : ∀ (s : Shared) (H : Hp) (C : Addr) (cl : List (Str × Addr)) (fp : List Addr), PE (X.blk s H scope (compEnvC scope cl C X.env) fp) elt tel
theorem lc_of {K : PySem.W.Frag} {S : Sta} (st : S = SK K) {vs : List Nat} {σ : L2.St} {H : Hp} {Q : VK} (q : eLc S te g tt tel vs σ H Q) : tLc (iSeq K (mo te)) g tt tel vs σ H Q := ⟨_, q, fun x H1 ⟨a, xs, e, k, rd, q⟩ => by
    refine ⟨a, e, ?_⟩
    cases k with
    | true =>
      refine .inl ⟨⟨xs, sqL st rd⟩, fun D hD => ?_⟩
      obtain ⟨Pv, h0, z, ht, hd⟩ := q D hD
      exact lc_list (K := K) (a := a) (xs := xs) Pv h0 (fun i H hi p => sqL st (z i H hi p)) ht hd
    | false =>
      refine .inr ⟨⟨xs, sqT st rd⟩, fun D hD => ?_⟩
      obtain ⟨Pv, h0, z, ht, hd⟩ := q D hD
      exact lc_tup (K := K) (a := a) (xs := xs) Pv h0 (fun i H hi p => sqT st (z i H hi p)) ht hd⟩
theorem pe_lcSeq {S : Sta} (st : S = SK X.K) (hc : X.calm = true) (hN : X.N.Nodup) (hl : PE X l te) (ok : BlkOk X.N X.env.scope scope own) (B : Blk X scope tg elt ifs g tt tel) (hs : ∀ x, foldedSetIterable l X.env x = pure x := by intro _; rfl) :
    PE X (.ListComp elt [⟨tg, l, ifs, 0⟩] scope pos) (eLc S te g tt tel (own.map (·.2))) := pe_imp (pe_lc hc hN (pi_seq (pe_mo hl)) ok B.hg B.ht B.he hs) fun _ _ _ q => lc_of st q
theorem ps_lcSeq {S : Sta} {i : Nat} {y : Str} (st : S = SK X.K) (hc : X.calm = true) (hN : X.N.Nodup) (hy : X.N[i]? = some y) (hyl : X.env.scope.names.lookup y = some .local)
    (hsw : swapsWith (.ListComp elt [⟨tg, l, ifs, 0⟩] scope pos) (some (.Name y py)) spos.line X.env = pure true) (hl : PE X l te) (ok : BlkOk X.N X.env.scope scope own) (B : Blk X scope tg elt ifs g tt tel) (hs : ∀ x, foldedSetIterable l X.env x = pure x := by intro _; rfl) :
    PS X (.Assign [.Name y py] (.ListComp elt [⟨tg, l, ifs, 0⟩] scope pos) spos) (tAsg (eLc S te g tt tel (own.map (·.2))) (gName i)) :=
  ps_imp (ps_setLc hc hN hy hyl hsw (pi_seq (pe_mo hl)) ok B.hg B.ht B.he hs) fun _ _ _ q => lc_of st q
theorem lcR1_of {vs : List Nat} {σ : L2.St} {H : Hp} {Q : VK} (q : eLcR none ta g tt tel vs σ H Q) : tLc (iRng1 (tCons (mo ta) tNil)) g tt tel vs σ H Q := ⟨_, q, fun y H1 ⟨j, e, ⟨_, _, h1, h2⟩, q⟩ => by
    subst e
    refine ⟨j, rfl, h1, h2, fun D hD => ?_⟩
    obtain ⟨Pv, h0, ht, hd⟩ := q D hD
    exact lc_range (lo := 0) (n := j.toNat) Pv h0 (fun i H hi p => ht i H (by omega) p) fun H p => hd H (by rw [Int.sub_zero]; exact p)⟩
theorem pe_lcR1 (hc : X.calm = true) (hN : X.N.Nodup) (hgl : Gl X "range") (hm : X.mg "range" = none) (ha : PE X a ta) (ok : BlkOk X.N X.env.scope scope own) (B : Blk X scope tg elt ifs g tt tel) (hs : starEach [a] X.env = (false, eval a X.env) :: starEach [] X.env := by rfl)
    (hs' : ∀ x, foldedSetIterable (.Call (.Name "range" p) [a] [] pos2) X.env x = pure x := by intro _; rfl) :
    PE X (.ListComp elt [⟨tg, .Call (.Name "range" p) [a] [] pos2, ifs, 0⟩] scope pos) (eLcR none ta g tt tel (own.map (·.2))) := pe_imp (pe_lc hc hN (pi_range1 hgl hm (pa_cons (pe_mo ha) pa_nil hs) hs) ok B.hg B.ht B.he hs') fun _ _ _ q => lcR1_of q
theorem ps_lcR1 {i : Nat} {y : Str} (hc : X.calm = true) (hN : X.N.Nodup) (hy : X.N[i]? = some y) (hyl : X.env.scope.names.lookup y = some .local) (hgl : Gl X "range") (hm : X.mg "range" = none)
    (hsw : swapsWith (.ListComp elt [⟨tg, .Call (.Name "range" p) [a] [] pos2, ifs, 0⟩] scope pos) (some (.Name y py)) spos.line X.env = pure true) (ha : PE X a ta) (ok : BlkOk X.N X.env.scope scope own) (B : Blk X scope tg elt ifs g tt tel)
    (hs : starEach [a] X.env = (false, eval a X.env) :: starEach [] X.env := by rfl) (hs' : ∀ x, foldedSetIterable (.Call (.Name "range" p) [a] [] pos2) X.env x = pure x := by intro _; rfl) :
    PS X (.Assign [.Name y py] (.ListComp elt [⟨tg, .Call (.Name "range" p) [a] [] pos2, ifs, 0⟩] scope pos) spos) (tAsg (eLcR none ta g tt tel (own.map (·.2))) (gName i)) :=
  ps_imp (ps_setLc hc hN hy hyl hsw (pi_range1 hgl hm (pa_cons (pe_mo ha) pa_nil hs) hs) ok B.hg B.ht B.he hs') fun _ _ _ q => lcR1_of q
end

/-! ### in, by an own __contains__ -/
section
open PySem.W
variable {prog : Program} {w : World} {A : Around} {E : Value → Shared → Prop} {s : Shared} {K : Frag} {x C f : Addr} {ox : Obj} {od : Option Obj}
theorem unlessNone_K {M : Model} {name : Str} {args : List Value} {refuse : Sem Value} {Q : Option Value → Shared → Prop} (X : K.In s.heap) (I : InstAt s.heap x ox C od) (hs : findIn K (.ref C) name = some (some (.ref f))) (hf : isFn K (.ref f) = true)
    (h : wpAny M A (call (.ref f) (.ref x :: args)) (fun v => Q (some v)) E s) : wpAny M A (callSpecialUnlessNone? (.ref x) name args refuse) Q E s := by
  simp only [callSpecialUnlessNone?]
  refine wpAny_bind (wpAny_bind (I.type.here ((looks_findIn X hs).here ?_)))
  refine wpAny_holding (wpAny_bind ((bind_fn X _ (beq_iff_eq.mp hf)).here ?_))
  show wpAny _ _ (if (Value.ref f == Value.none) = true then _ else _) _ _ _
  rw [if_neg (by simp)]
  exact wpAny_bind (wpAny_mono h (fun v s' h' => wpAny_pure h') fun _ _ h' => h')
theorem contains_K {v : Value} {Q : Bool → Shared → Prop} (X : K.In s.heap) (I : InstAt s.heap x ox C od) (hs : findIn K (.ref C) "__contains__" = some (some (.ref f))) (hf : isFn K (.ref f) = true)
    (h : wpAny (model prog w) A (call (.ref f) [.ref x, v]) (PySem.W.BoolBack Q) E s) : wpAny (model prog w) A (contains (.ref x) v) Q E s := by
  unfold contains
  refine wpAny_holding ?_
  show wpAny _ _ (specialOf (.ref x) (Str.ofString "__contains__") >>= _) _ _ _
  refine wpAny_bind (wpAny_bind (I.type.here ((looks_findIn X hs).here ?_)))
  show wpAny _ _ (if (some (Value.ref f) == some Value.none) = true then _ else _) _ _ _
  rw [if_neg (by simp)]
  refine wpAny_bind (unlessNone_K X I hs hf (wpAny_mono h (fun r s' hr => ?_) fun _ _ y => y))
  cases r <;> first | exact hr.elim | skip
  exact wpAny_truthy_bool hr
end
section
variable {X : Cx} {CX : CXT} {C f : Addr} {fd : FuncData} {ps : List Str} {sp : Sp} {E : XK} {k : Nat}
/-- y in x, x an instance of the class at C, by its __contains__ -/
def rInOwn (C : Addr) (neg : Bool) (sp : Sp) (E : XK) : R2 := fun y x H Q => ∃ a dx fs, x = .ref a ∧ H a = some (.ins C dx fs) ∧ sp [x, y] H (fun v H' => ∃ b, v = .bl b ∧ Q (.bl (if neg then !b else b)) H') E
theorem in_own {pins : List (Addr × Obj)} {σ : L2.St} {H : Hp} {s : Shared} {a dx : Addr} {fs : List (Str × V)} {y : V} {u : Value} {Q : Bool → Hp → Prop} (F : FnOk X.prog X.w X.K X.mg X.base CX k f fd ps sp) (hm : Meth X.K C "__contains__" f) (hr : Room k X.A) (hb : Binds X.K fd ps []) (hx : Passes CX X E)
    (I : Inv X pins σ H s) (ry : RelV y u) (ha : H a = some (.ins C dx fs)) (h : sp [.ref a, y] H (fun v H' => ∃ b, v = .bl b ∧ Q b H') E) :
    wpAny (model X.prog X.w) X.A (contains (.ref a) u) (TP X pins σ Q) X.xe s := by
  obtain ⟨mA, J, _⟩ := ins_get I.hok ha
  obtain ⟨od, J, _⟩ := J.look
  refine contains_K I.kIn J hm.at_ hm.fn (thn (run_fn (us := [.ref a, u]) (vs := [.ref a, y]) (dvs := []) (ds := []) F hr hb .nil hx I (.cons rfl (.cons ry .nil)) h) fun v s' q => ?_)
  obtain ⟨z, H', I', rz, b, ez, q⟩ := q
  subst ez
  cases rz
  exact ⟨H', I', q⟩
theorem o_inOwn (F : FnOk X.prog X.w X.K X.mg X.base CX k f fd ps sp) (hm : Meth X.K C "__contains__" f) (hr : Room k X.A) (hb : Binds X.K fd ps []) (hx : Passes CX X E) : OpR X (compareOp .In) (rInOwn C false sp E) := fun pins s σ H y x u v Q I ry rx h => by
  obtain ⟨a, dx, fs, e, ha, q⟩ := h
  subst e
  cases rx
  show wpAny _ _ (contains (.ref a) u >>= fun b => pure (Value.bool b)) _ _ _
  refine wpAny_bind (thn (in_own F hm hr hb hx I ry ha (Q := fun b H' => Q (.bl b) H') q) fun b s' hq => ?_)
  obtain ⟨H', I', q⟩ := hq
  exact wpAny_pure ⟨.bl b, H', I', rfl, q⟩
theorem o_notInOwn (F : FnOk X.prog X.w X.K X.mg X.base CX k f fd ps sp) (hm : Meth X.K C "__contains__" f) (hr : Room k X.A) (hb : Binds X.K fd ps []) (hx : Passes CX X E) : OpR X (compareOp .NotIn) (rInOwn C true sp E) := fun pins s σ H y x u v Q I ry rx h => by
  obtain ⟨a, dx, fs, e, ha, q⟩ := h
  subst e
  cases rx
  show wpAny _ _ (contains (.ref a) u >>= fun b => pure (Value.bool (!b))) _ _ _
  refine wpAny_bind (thn (in_own F hm hr hb hx I ry ha (Q := fun b H' => Q (.bl (!b)) H') q) fun b s' hq => ?_)
  obtain ⟨H', I', q⟩ := hq
  exact wpAny_pure ⟨.bl (!b), H', I', rfl, q⟩
end

/-! ### classes: constants, classmethods, a class held in a name -/
def eCon (v : V) : TE := fun _ H Q => Q v H
/-- the argument's heap, then a new instance and __init__ (tMake), the class in slot i -/
def eMakeL (i : Nat) (C : Addr) (sp : Sp) (dvs : List V) (E : XK) (t : TA) : TE := fun σ H Q => σ[i]? = some (some (.ref C)) ∧ tMake C sp dvs E t σ H Q
section
variable {X : Cx} {CX : CXT} {C f p g : Addr} {mc u : Value} {fd : FuncData} {ps : List Str} {sp : Sp} {E : XK} {k i : Nat} {x y m : Str} {v : V} {pos pos2 p2 apos : Pos} {e : Expr} {es : List Expr} {t : TA} {dvs : List V} {ds : List Value}
theorem pe_clsName (hg : Gl X x) (hm : X.mg x = some (.ref C)) (hdb : (x == ("__debug__" : Str)) = false := by decide) : PE X (.Name x p2) (eCon (.ref C)) := pe_imp (pe_glob hg hm (v := .ref C) rfl hdb) fun _ _ _ q => q
theorem pe_clsCon (r : ClX.CRead X.K C mc) (c : ClX.CVal X.K C mc y v u) (hg : Gl X x) (hm : X.mg x = some (.ref C)) (hdb : (x == ("__debug__" : Str)) = false := by decide)
    (hb : attributeBase (.Name x p2) y X.env (eval (.Name x p2) X.env) = eval (.Name x p2) X.env := by rfl) : PE X (.Attribute (.Name x p2) y pos) (eCon v) :=
  pe_imp (ClX.pe_cval (pe_clsName hg hm hdb) hb) fun _ _ _ q => ⟨C, mc, v, u, rfl, r, c, q⟩
theorem pe_makeL (M : Mk X.K C f) (F : FnOk X.prog X.w X.K X.mg X.base CX k f fd ps sp) (hr : Room (k + 1) X.A) (hN : X.N[i]? = some x) (hv : Vis X.env.scope x) (hb : Binds X.K fd ps ds) (hd : Vals dvs ds) (hx : Passes CX X E)
    (ha : PA X (e :: es) t) (hdb : (x == ("__debug__" : Str)) = false := by decide) (hcd : (x == ("__classdict__" : Str)) = false := by decide) (he : starEach (e :: es) X.env = (false, eval e X.env) :: starEach es X.env := by rfl) (hpl : (backTo pos (starEach es X.env)).any (·.1) = false := by rfl) :
    PE X (.Call (.Name x p2) (e :: es) [] pos) (eMakeL i C sp dvs E t) := by
  refine ⟨fun pins s σ H Q I h => ?_⟩
  obtain ⟨hs, ht⟩ := h
  refine wpAny_Call_Name_kw (thn ((pe_var (pos := p2) hN hv hdb hcd).run pins s σ H (fun v H1 => v = .ref C ∧ H1 = H) I ⟨.ref C, hs, rfl, rfl⟩) fun u s1 ⟨v, H1, I1, r1, q1⟩ => ?_)
  obtain ⟨rfl, rfl⟩ := q1
  cases r1
  refine PySem.W.callWith_K (h₀ := X.base) I.ok.mod.kin M.kp (thn (ha.run pos pins s1 σ _ _ I1 ht) fun us s2 ⟨vs, H2, I2, r, q⟩ => ⟨I2.kIn, ?_⟩) he hpl
  exact run_make M F hr hb hd hx I2 r q
end

/-- a module's constant -/
theorem pe_constI {X : Cx} {x : Str} {i : Int} {t : Tok} {p2 : Pos} (hm : X.mg x = some (.int i t)) (hg : Gl X x) (hdb : (x == ("__debug__" : Str)) = false := by decide) : PE X (.Name x p2) (tC (.int i)) := pe_imp (pe_glob hg hm (v := .int i) ⟨t, rfl⟩ hdb) fun _ _ _ q => q
def rAug : TIp := ipI fun i j => i + j
def rAugS : TIp := ipI fun i j => i - j
theorem ip_addI {X : Cx} : PIp X .Add rAug := ip_add
def rInAdd : V → V → Hp → VK → Prop := fun x y H Q => ∃ i j, x = .int i ∧ y = .int j ∧ Q (.int (i + j)) H
def rInSub : V → V → Hp → VK → Prop := fun x y H Q => ∃ i j, x = .int i ∧ y = .int j ∧ Q (.int (i - j)) H
theorem in_addI {X : Cx} : InOp X .Add rInAdd := in_add
theorem in_subI {X : Cx} : InOp X .Sub rInSub := in_sub
theorem ip_subI {X : Cx} : PIp X .Sub rAugS := ip_sub
def spRaw (sp : Sp) : Sp := fun vs H Q E => sp (vs ++ []) H Q E
/-! ### a def's promise, by its own body -/
def start (n : Nat) (vs : List V) : L2.St := vs.map some ++ List.replicate (n - vs.length) none
/-- n slots, m parameters -/
def spB (n m : Nat) (t : XK → TS) : Sp := fun vs H Q E => vs.length = m ∧ t E { nx := fun _ H' => Q .non H', rt := Q } (start n vs) H
theorem start_eq (N : List Str) (vs : List V) : L2.start N vs = start N.length vs := rfl
theorem passE {P : Program} {w : World} {K : PySem.W.Frag} {mg : Str → Option Value} {base : Heap} {N : List Str} {qual : Str} {scope : Scope} {f : Addr} {cd : Value} {A : Around} {outer : List Env} {s : Shared} {H : Hp} {E : XK} :
    Passes (L2.CX P w) (cxOf (L2.CX P w) P w K mg base N qual scope f cd A outer s H E) E := passes_call (takes_of rfl rfl rfl rfl) fun _ _ _ _ h => h
/-- where nothing is let out -/
theorem passN {X : Cx} : Passes (L2.CX X.prog X.w) X E0 := fun _ _ _ _ _ _ _ h => by
  obtain ⟨_, _, _, _, _, _, _, _, _, _, _, _, z⟩ := h
  exact z.elim
theorem ok_body {P : Program} {w : World} {K : PySem.W.Frag} {mg : Str → Option Value} {base : Heap} {x qual : Str} {st : Stmt} {f : Addr} {fd : FuncData} {N ps : List Str} {n m k : Nat} {t : XK → TS} (F : Fun K x qual st f fd) (S : FnScope N ps (defScope st)) (hn : N.length = n) (hm : ps.length = m)
    (h : ∀ (cdv : Value) (A : Around) (outer : List Env) (s : Shared) (H : Hp) (E : XK), Room k (A.deeper (envOfC qual (defScope st) s.heap.objs.size f cdv)) → PSs (cxOf (L2.CX P w) P w K mg base N qual (defScope st) f cdv A outer s H E) (defBody st) (t E)) :
    FnOk P w K mg base (L2.CX P w) (k + 1) f fd ps (spB n m t) := by
  subst hn
  subst hm
  exact F.okX S (fun vs H Q E q => q.1) fun cdv A outer s H vs Q E hr q => ⟨t E, h cdv A outer s H E hr, q.2⟩
/-! ### chains of comparisons, as tests -/
abbrev TC := L2.St → V → Hp → VK → Prop
def cLast (r : R2) (tb : TE) : TC := fun σ x H Q => tb σ H fun y H1 => r x y H1 Q
def cLink (r : R2) (tb : TE) (tl : TC) : TC := fun σ x H Q => tb σ H fun y H1 => r x y H1 fun z H2 => ∃ k, z = .bl k ∧ (if k = true then tl σ y H2 Q else Q (.bl false) H2)
def tChn (ta : TE) (tl : TC) : TE := fun σ H Q => ta σ H fun x H1 => tl σ x H1 Q
structure PCh (X : Cx) (ops : List CmpOp) (es : List Expr) (tl : TC) : Prop where
  run : ∀ (pos : Pos) (pins : List (Addr × Obj)) (s : Shared) (σ : L2.St) (H : Hp) (x : V) (v : Value) (Q : Bool → Hp → Prop), Inv X pins σ H s → RelV x v → tl σ x H (fun z H' => ∃ k, z = .bl k ∧ Q k H') → wpAny (model X.prog X.w) X.A (testChain pos v ops (evalEach es X.env)) (TP X pins σ Q) X.xe s
section
variable {X : Cx} {a b e e' : Expr} {es : List Expr} {ta tb : TE} {tl : TC} {r : R2} {op op' : CmpOp} {ops : List CmpOp} {pos : Pos}
theorem pch_last (ho : OpR X (compareOp op) r) (hb : PE X b tb) : PCh X [op] [b] (cLast r tb) :=
  ⟨fun pos pins s σ H x v Q I rx q => test_last (thn (hb.run pins s σ H _ I q) fun u s1 ⟨y, H1, I1, r1, q1⟩ => thn (ho pins s1 σ H1 x y v u _ I1 rx r1 q1) fun d s2 ⟨z, H2, I2, r2, k, e, q2⟩ => by
    subst e
    cases r2
    exact wpAny_truthy_bool ⟨H2, I2, q2⟩)⟩
theorem pch_link (ho : OpR X (compareOp op) r) (hb : PE X b tb) (hl : PCh X (op' :: ops) (e :: es) tl) : PCh X (op :: op' :: ops) (b :: e :: es) (cLink r tb tl) :=
  ⟨fun pos pins s σ H x v Q I rx q => test_link (thn (hb.run pins s σ H _ I q) fun u s1 ⟨y, H1, I1, r1, q1⟩ => thn (ho pins s1 σ H1 x y v u _ I1 rx r1 q1) fun d s2 ⟨z, H2, I2, r2, k, e, q2⟩ => by
    subst e
    cases r2
    refine wpAny_truthy_bool ?_
    cases k with
    | false =>
      obtain ⟨k', e', q'⟩ := q2
      cases e'
      exact ite_ff ⟨H2, I2, q'⟩
    | true => exact ite_tt (hl.run pos pins s2 σ H2 y u Q I2 r1 q2))⟩
theorem pt_chn (ha : PE X a ta) (hl : PCh X (op :: op' :: ops) (e :: e' :: es) tl) (hm : lastMarks (op :: op' :: ops) (e :: e' :: es) = false := by with_unfolding_all rfl) : PT X (.Compare a (op :: op' :: ops) (e :: e' :: es) pos) (tTest (tChn ta tl)) :=
  ⟨fun pins s σ H Q I h => isTrue_chain (thn (ha.run pins s σ H _ I h) fun v s1 ⟨x, H1, I1, r1, q1⟩ => hl.run pos pins s1 σ H1 x v Q I1 r1 q1) hm⟩
/-! ### x.bit_length() -/
def rBits : V → Hp → VK → Prop := fun x H Q => ∃ i, x = .int i ∧ Q (.int (Builtin.Int.intBits i : Nat)) H
theorem pe_bitsU {o : Expr} {to : TE} {apos pos : Pos} (ho : PE X o to) (hbase : attributeBase o "bit_length" X.env (eval o X.env) = eval o X.env := by rfl) (hline : (apos.endLine == pos.line) = true := by rfl) : PE X (.Call (.Attribute o "bit_length" apos) [] [] pos) (tUn rBits to) := pe_bits ho hbase hline
end
end Y

/-! Symbolic execution of readings: what is known of a heap (FH), one rule a construct. -/
namespace Y
open PySem PySem.Spec PyProof.Rows L2

/-! ### what is known of a heap -/
/-- tuples stay -/
def Per (H H' : Hp) : Prop := ∀ t xs, H t = some (.tup xs) → H' t = some (.tup xs)
theorem Per.refl (H : Hp) : Per H H := fun _ _ h => h
theorem per_new {H : Hp} {p : Addr} {o : HO} (h : H p = none) : Per H (upd H p o) := fun t xs e => (upd_ne (ne_of_none e h)).trans e
def NoTup : HO → Prop
  | .tup _ => False
  | _ => True
theorem per_put {H : Hp} {p : Addr} {o o' : HO} (h : H p = some o) (n : NoTup o) : Per H (upd H p o') := fun t xs e => by
  refine (upd_ne ?_).trans e
  intro z
  subst z
  rw [h] at e
  cases e
  exact n
/-- a statement of the object at an address and of the objects that it owns -/
structure Pr where
  s : Addr → Hp → List Addr → Prop
  loc : ∀ {p H H' ks}, s p H ks → (∀ a ∈ ks, H' a = H a) → Per H H' → s p H' ks
  liv : ∀ {p H ks}, s p H ks → ∀ a ∈ ks, H a ≠ none
  key : ∀ {p H ks}, s p H ks → p ∈ ks
abbrev Ent := Addr × Pr
inductive FHs (H : Hp) : List Ent → List Addr → Prop
  | nil : FHs H [] []
  | cons {p φ k L ks} (h : φ.s p H k) (r : FHs H L ks) (nd : k.Nodup) (dj : ∀ a ∈ k, a ∉ ks) : FHs H ((p, φ) :: L) (k ++ ks)
structure FH (H : Hp) (L : List Ent) : Prop where
  ex : ∃ ks, FHs H L ks
/-- of the object alone -/
def lift (φ : HO → Prop) : Pr where
  s := fun p H ks => ks = [p] ∧ ∃ o, H p = some o ∧ φ o
  loc := fun {p H H' ks} ⟨e, o, h, hφ⟩ k _ => ⟨e, o, (k p (by rw [e]; exact List.mem_cons_self)).trans h, hφ⟩
  liv := fun {p H ks} ⟨e, o, h, _⟩ a m => by
    rw [e] at m
    have e2 : a = p := by simpa using m
    rw [e2, h]
    simp
  key := fun {p H ks} ⟨e, _⟩ => by rw [e]; exact List.mem_cons_self
def Is (o : HO) : Pr := lift fun x => x = o
/-- a list that is read: tracked or locked -/
def IsR (xs : List V) : Pr := lift fun x => x = .lst xs ∨ ∃ o, x = .frz o (.lst xs)
inductive Put (p : Addr) (φ φ' : Pr) : List Ent → List Ent → Prop where
  | here {L} : Put p φ φ' ((p, φ) :: L) ((p, φ') :: L)
  | there {q L L'} (h : Put p φ φ' L L') : Put p φ φ' (q :: L) (q :: L')
section
variable {H H' : Hp} {L L' R : List Ent} {p q : Addr} {o o' : HO} {φ φ' : Pr} {xs : List V} {ks : List Addr} {x y : Ent}
theorem FHs.liv (F : FHs H L ks) : ∀ a ∈ ks, H a ≠ none := by
  induction F with
  | nil => intro a m; cases m
  | cons h r nd dj ih => exact fun a m => (List.mem_append.mp m).elim (Pr.liv _ h a) (ih a)
theorem FHs.keep (F : FHs H L ks) (k : ∀ a ∈ ks, H' a = H a) (e : Per H H') : FHs H' L ks := by
  induction F with
  | nil => exact .nil
  | cons h r nd dj ih => exact .cons (Pr.loc _ h (fun a m => k a (List.mem_append_left _ m)) e) (ih fun a m => k a (List.mem_append_right _ m)) nd dj
theorem FHs.nodup (F : FHs H L ks) : ks.Nodup := by
  induction F with
  | nil => exact List.nodup_nil
  | cons h r nd dj ih => exact List.nodup_append.mpr ⟨nd, ih, fun a m b m' e => dj a m (e ▸ m')⟩
theorem FHs.mem (F : FHs H L ks) (m : (p, φ) ∈ L) : ∃ k, φ.s p H k ∧ ∀ a ∈ k, a ∈ ks := by
  induction F with
  | nil => cases m
  | cons h r nd dj ih =>
    rcases List.mem_cons.mp m with e | m
    · cases e
      exact ⟨_, h, fun a m => List.mem_append_left _ m⟩
    · obtain ⟨k, h1, h2⟩ := ih m
      exact ⟨k, h1, fun a m => List.mem_append_right _ (h2 a m)⟩
theorem FHs.perm (F : FHs H L ks) (e : L.Perm L') : ∃ ks', FHs H L' ks' ∧ ks.Perm ks' := by
  induction e generalizing ks with
  | nil => exact ⟨_, F, List.Perm.refl _⟩
  | cons x _ ih =>
    cases F with
    | cons h r nd dj =>
      obtain ⟨ks', r', e'⟩ := ih r
      exact ⟨_, .cons h r' nd (fun a m m' => dj a m (e'.mem_iff.mpr m')), e'.append_left _⟩
  | swap x y l =>
    cases F with
    | cons h r nd dj =>
      cases r with
      | @cons p2 φ2 k2 L2 ks2 h2 r2 nd2 dj2 =>
        rename_i k1
        refine ⟨_, .cons h2 (.cons h r2 nd fun a m m' => dj a m (List.mem_append_right _ m')) nd2 fun a m m' => ?_, ?_⟩
        · rcases List.mem_append.mp m' with m' | m'
          · exact dj a m' (List.mem_append_left _ m)
          · exact dj2 a m m'
        · rw [← List.append_assoc, ← List.append_assoc]
          exact List.perm_append_comm.append_right _
  | trans _ _ ih1 ih2 =>
    obtain ⟨k1, F1, e1⟩ := ih1 F
    obtain ⟨k2, F2, e2⟩ := ih2 F1
    exact ⟨k2, F2, e1.trans e2⟩
theorem FHs.app {A B : List Ent} : ∀ {ks : List Addr}, FHs H (A ++ B) ks → ∃ k1 k2, FHs H A k1 ∧ FHs H B k2 ∧ ks = k1 ++ k2 := by
  induction A with
  | nil => exact fun {ks} F => ⟨[], ks, .nil, F, rfl⟩
  | cons x A ih =>
    intro ks F
    cases F with
    | cons h r nd dj =>
      obtain ⟨k1, k2, F1, F2, e⟩ := ih r
      subst e
      exact ⟨_, k2, .cons h F1 nd (fun a m m' => dj a m (List.mem_append_left _ m')), F2, (List.append_assoc _ _ _).symm⟩
theorem FHs.join {A B : List Ent} {k1 k2 : List Addr} (F1 : FHs H A k1) (F2 : FHs H B k2) (dj : ∀ a ∈ k1, a ∉ k2) : FHs H (A ++ B) (k1 ++ k2) := by
  induction F1 with
  | nil => exact F2
  | cons h r nd dj' ih =>
    rw [List.append_assoc]
    refine .cons h (ih fun a m => dj a (List.mem_append_right _ m)) nd fun a m m' => ?_
    rcases List.mem_append.mp m' with m' | m'
    · exact dj' a m m'
    · exact dj a (List.mem_append_left _ m) m'
theorem FHs.sub (F : FHs H L ks) (s : L'.Sublist L) : ∃ ks', FHs H L' ks' ∧ ks'.Sublist ks := by
  induction s generalizing ks with
  | slnil => exact ⟨_, F, List.Sublist.refl _⟩
  | cons x _ ih =>
    cases F with
    | cons h r nd dj =>
      obtain ⟨ks', r', e'⟩ := ih r
      exact ⟨ks', r', e'.trans (List.sublist_append_right _ _)⟩
  | cons_cons x _ ih =>
    cases F with
    | cons h r nd dj =>
      obtain ⟨ks', r', e'⟩ := ih r
      exact ⟨_, .cons h r' nd (fun a m m' => dj a m (e'.subset m')), (List.Sublist.refl _).append e'⟩
theorem FH.is (F : FH H L) {φ : HO → Prop} (m : (p, lift φ) ∈ L) : ∃ o, H p = some o ∧ φ o := by
  obtain ⟨ks, F⟩ := F.ex
  obtain ⟨k, ⟨_, h⟩, _⟩ := F.mem m
  exact h
theorem FH.get (F : FH H L) (m : (p, Is o) ∈ L) : H p = some o := by
  obtain ⟨o', h, e⟩ := F.is m
  exact h.trans (congrArg some e)
theorem FH.getR (F : FH H L) (m : (p, IsR xs) ∈ L) : Rd H p (.lst xs) := by
  obtain ⟨o', h, e | ⟨o, e⟩⟩ := F.is m
  · subst e; exact .inl h
  · subst e; exact .inr ⟨o, h⟩
theorem RdS.of {S : Sta} {u : HO} (h : Rd H p u) : RdS S H p u := .inl h
theorem FHs.other (F : FHs H L ks) (h : H p = none) : FHs (upd H p o) L ks := F.keep (fun a m => upd_ne fun e => F.liv a m (by rw [e]; exact h)) (per_new h)
theorem FH.other (F : FH H L) (h : H p = none) : FH (upd H p o) L := by
  obtain ⟨ks, F⟩ := F.ex
  exact ⟨ks, F.other h⟩
theorem FH.new (F : FH H L) (h : H p = none) : FH (upd H p o) ((p, Is o) :: L) := by
  obtain ⟨ks, F⟩ := F.ex
  refine ⟨[p] ++ ks, .cons ⟨rfl, o, upd_same, rfl⟩ (F.other h) (by simp) fun a m m' => ?_⟩
  have e : a = p := by simpa using m
  exact F.liv a m' (by rw [e]; exact h)
theorem Put.mem (m : Put p φ φ' L L') : (p, φ) ∈ L := by
  induction m with
  | here => exact List.mem_cons_self
  | there _ ih => exact List.mem_cons_of_mem _ ih
theorem Put.perm (m : Put p φ φ' L L') : ∃ R, L.Perm ((p, φ) :: R) ∧ L'.Perm ((p, φ') :: R) := by
  induction m with
  | @here L => exact ⟨L, List.Perm.refl _, List.Perm.refl _⟩
  | @there q _ _ _ ih =>
    obtain ⟨R, h1, h2⟩ := ih
    exact ⟨q :: R, (h1.cons _).trans (List.Perm.swap _ _ _), (h2.cons _).trans (List.Perm.swap _ _ _)⟩
theorem FHs.put (F : FHs H L ks) (m : Put p (Is o) (Is o') L L') (n : NoTup o) (h : H p = some o) : FHs (upd H p o') L' ks := by
  induction m generalizing ks with
  | here =>
    cases F with
    | cons h' r nd dj =>
      obtain ⟨e, _⟩ := h'
      subst e
      exact .cons ⟨rfl, o', upd_same, rfl⟩ (r.keep (fun a m => upd_ne fun e => dj a (by rw [e]; exact List.mem_cons_self) m) (per_put h n)) nd dj
  | there m ih =>
    cases F with
    | @cons p1 φ1 k1 L1 ks1 h' r nd dj =>
      have hp : p ∈ ks1 := by
        obtain ⟨k, hk, hs⟩ := r.mem m.mem
        exact hs p (Pr.key _ hk)
      exact .cons (Pr.loc _ h' (fun a m => upd_ne fun e => dj a m (by rw [e]; exact hp)) (per_put h n)) (ih r) nd dj
theorem FH.put (F : FH H L) (m : Put p (Is o) (Is o') L L') (n : NoTup o) : FH (upd H p o') L' := by
  have h := F.get m.mem
  obtain ⟨ks, F⟩ := F.ex
  exact ⟨ks, F.put m n h⟩
theorem FHs.weak (F : FHs H L ks) (m : Put p φ φ' L L') (i : ∀ k, φ.s p H k → φ'.s p H k) : FHs H L' ks := by
  induction m generalizing ks with
  | here =>
    cases F with
    | cons h' r nd dj => exact .cons (i _ h') r nd dj
  | there m ih =>
    cases F with
    | cons h' r nd dj => exact .cons h' (ih r) nd dj
/-- an entry says something else -/
theorem FH.weak (F : FH H L) (m : Put p φ φ' L L') (i : ∀ k, φ.s p H k → φ'.s p H k) : FH H L' := by
  obtain ⟨ks, F⟩ := F.ex
  exact ⟨ks, F.weak m i⟩
theorem FH.open_ {φ : HO → Prop} (F : FH H L) (m : (p, lift φ) ∈ L) : ∃ o, φ o ∧ ∀ L', Put p (lift φ) (Is o) L L' → FH H L' := by
  obtain ⟨o, h, hφ⟩ := F.is m
  exact ⟨o, hφ, fun L' pu => F.weak pu fun k ⟨e, _⟩ => ⟨e, o, h, rfl⟩⟩
theorem FH.close {φ : HO → Prop} (F : FH H L) (hφ : φ o) (pu : Put p (Is o) (lift φ) L L') : FH H L' := F.weak pu fun k ⟨e, o', h, e'⟩ => ⟨e, o', h, by rw [e']; exact hφ⟩
theorem FH.sub (F : FH H L) (s : L'.Sublist L) : FH H L' := by
  obtain ⟨ks, F⟩ := F.ex
  obtain ⟨ks', F', _⟩ := F.sub s
  exact ⟨ks', F'⟩
theorem FH.tail (F : FH H (x :: L)) : FH H L := F.sub (List.sublist_cons_self _ _)
theorem FH.perm (F : FH H L) (e : L.Perm L') : FH H L' := by
  obtain ⟨ks, F⟩ := F.ex
  obtain ⟨ks', F', _⟩ := F.perm e
  exact ⟨ks', F'⟩
theorem FH.nil : FH H [] := ⟨[], .nil⟩
/-- an entry to the front -/
theorem pull (m : x ∈ L) : ∃ R, L.Perm (x :: R) := by
  obtain ⟨s, t, e⟩ := List.append_of_mem m
  subst e
  exact ⟨s ++ t, List.perm_middle⟩
theorem pull2 (m : x ∈ L) (m' : y ∈ L) (ne : x.1 ≠ y.1) : ∃ R, L.Perm (x :: y :: R) := by
  obtain ⟨R, h⟩ := pull m
  have m2 := h.mem_iff.mp m'
  rcases List.mem_cons.mp m2 with e | m2
  · exact absurd (congrArg Prod.fst e).symm ne
  · obtain ⟨R', h'⟩ := pull m2
    exact ⟨R', h.trans (h'.cons _)⟩
theorem FH.diff {φ ψ : HO → Prop} (F : FH H L) (m : (p, lift φ) ∈ L) (m' : (q, lift ψ) ∈ L) (h : ∀ o, φ o → ψ o → False) : p ≠ q := by
  intro e
  subst e
  obtain ⟨o, h1, ho⟩ := F.is m
  obtain ⟨o', h2, ho'⟩ := F.is m'
  rw [h1] at h2
  cases h2
  exact h o ho ho'
/-! a thing of several objects -/
def comp {α : Type} (E : Addr → α → List Ent) (P : α → Prop) : Pr where
  s := fun p H ks => p ∈ ks ∧ ∃ a, P a ∧ FHs H (E p a) ks
  loc := fun {p H H' ks} ⟨m, a, h, F⟩ k e => ⟨m, a, h, F.keep k e⟩
  liv := fun {p H ks} ⟨m, a, h, F⟩ => F.liv
  key := fun {p H ks} ⟨m, _⟩ => m
theorem FH.unfold {α : Type} {E : Addr → α → List Ent} {P : α → Prop} (F : FH H ((p, comp E P) :: L)) : ∃ a, P a ∧ FH H (E p a ++ L) := by
  obtain ⟨ks, F⟩ := F.ex
  cases F with
  | cons h r nd dj =>
    obtain ⟨m, a, hp, F'⟩ := h
    exact ⟨a, hp, _, F'.join r dj⟩
theorem FH.fold {α : Type} {E : Addr → α → List Ent} {P : α → Prop} (a : α) (hp : P a) (F : FH H (E p a ++ L)) (m : p ∈ (E p a).map (·.1)) : FH H ((p, comp E P) :: L) := by
  obtain ⟨ks, F⟩ := F.ex
  obtain ⟨k1, k2, F1, F2, e⟩ := F.app
  subst e
  have nd := List.nodup_append.mp (F1.join F2 (fun a m m' => (List.nodup_append.mp F.nodup).2.2 a m a m' rfl)).nodup
  obtain ⟨x, hx, ex⟩ := List.mem_map.mp m
  obtain ⟨k, hk, hs⟩ := F1.mem (p := x.1) (φ := x.2) hx
  exact ⟨k1 ++ k2, .cons ⟨by rw [← ex]; exact hs _ (Pr.key _ hk), a, hp, F1⟩ F2 nd.1 fun a m m' => nd.2.2 a m a m' rfl⟩
end
/-- x is taken out of L -/
inductive Take (x : Ent) : List Ent → List Ent → Prop where
  | here {L} : Take x (x :: L) L
  | there {y L L'} (h : Take x L L') : Take x (y :: L) (y :: L')
/-- some of L, in any order -/
inductive Sel : List Ent → List Ent → Prop where
  | nil {L} : Sel [] L
  | all {L} : Sel L L
  | cons {x R L L'} (h : Take x L L') (s : Sel R L') : Sel (x :: R) L
  | drop {x R L} (s : Sel R L) : Sel R (x :: L)
theorem Take.perm {x : Ent} {L L' : List Ent} (h : Take x L L') : L.Perm (x :: L') := by
  induction h with
  | here => exact List.Perm.refl _
  | there _ ih => exact (ih.cons _).trans (List.Perm.swap _ _ _)
theorem Sel.ok {R L : List Ent} (s : Sel R L) : ∃ M, L.Perm (R ++ M) := by
  induction s with
  | nil => exact ⟨_, List.Perm.refl _⟩
  | all => exact ⟨[], by rw [List.append_nil]⟩
  | cons h _ ih =>
    obtain ⟨M, e⟩ := ih
    exact ⟨M, h.perm.trans (e.cons _)⟩
  | @drop x _ _ _ ih =>
    obtain ⟨M, e⟩ := ih
    exact ⟨x :: M, (e.cons x).trans List.perm_middle.symm⟩
theorem FH.sel {H : Hp} {L R : List Ent} (F : FH H L) (s : Sel R L) : FH H R := by
  obtain ⟨M, e⟩ := s.ok
  exact (F.perm e).sub (List.sublist_append_left _ _)

/-! ### one rule a construct -/
abbrev K0 := L2.St → Hp → Prop
section
variable {σ : L2.St} {H H' : Hp} {Q : VK} {QB : Bool → Hp → Prop} {QL : List V → Hp → Prop} {QO : Option Int → Hp → Prop} {QS : L2.St → Hp → Prop} {te ta tb tc : TE} {t u : TT} {tl : TA} {r r' : R2} {rc : List V → Hp → VK → Prop} {s1 s2 : TS} {nx bk ct : K0} {rt : VK} {v x y : V} {g : TG} {i j : Int} {b : Bool} {E : XK} {sp : Sp} {C : Addr} {P : Prop} [Decidable P] {A B : Prop} {S : Sta}
theorem is_var {n : Nat} (h : tVar n σ H Q) : tVar n σ H Q := h
theorem is_g {n : Nat} (h : gName n v σ H QS) : gName n v σ H QS := h
theorem is_au {n : Nat} {te : TE} {ti : TIp} {D : Ends} (h : tAug n te ti D σ H) : tAug n te ti D σ H := h
theorem is_ml {n : Nat} {D : List V} (h : eMakeL n C sp D E tl σ H Q) : eMakeL n C sp D E tl σ H Q := h
theorem is_isi {l : List V} (h : rIsI l H Q) : rIsI l H Q := h
theorem is_pow (h : rPow x y H Q) : rPow x y H Q := h
theorem is_ix (h : rIx S x y H Q) : rIx S x y H Q := h
theorem is_len {l : List V} (h : rLen S l H Q) : rLen S l H Q := h
theorem is_sl {x : V} {lo hi : Option Int} (h : rSl S x lo hi H Q) : rSl S x lo hi H Q := h
theorem is_eq (h : rEq x y H Q) : rEq x y H Q := h
theorem is_ne (h : rNe x y H Q) : rNe x y H Q := h
theorem is_is (h : rIs x y H Q) : rIs x y H Q := h
theorem is_isn (h : rIsNot x y H Q) : rIsNot x y H Q := h
theorem x_c (h : Q v H) : tC v σ H Q := h
theorem x_con (h : Q v H) : eCon v σ H Q := h
theorem x_op (h : ta σ H fun x H1 => tb σ H1 fun y H2 => r x y H2 Q) : tOp r ta tb σ H Q := h
theorem x_un {ru : V → Hp → VK → Prop} (h : ta σ H fun x H1 => ru x H1 Q) : tUn ru ta σ H Q := h
theorem x_add (h : Q (.int (i + j)) H) : rAdd (.int i) (.int j) H Q := .inl ⟨i, j, rfl, rfl, h⟩
theorem x_sub (h : Q (.int (i - j)) H) : rSub (.int i) (.int j) H Q := ⟨i, j, rfl, rfl, h⟩
theorem x_mul (c : CMul i j) (h : Q (.int (i * j)) H) : rMul (.int i) (.int j) H Q := ⟨i, j, rfl, rfl, c, h⟩
theorem x_fdiv (c : CDivW i j) (h : Q (.int (i / j)) H) : rFdiv (.int i) (.int j) H Q := ⟨i, j, rfl, rfl, c, h⟩
theorem x_mod (c : 0 < j) (h : Q (.int (i % j)) H) : rMod (.int i) (.int j) H Q := ⟨i, j, rfl, rfl, c, h⟩
theorem x_pow (c : CPow i j) (h : Q (.int (i ^ j.toNat)) H) : rPow (.int i) (.int j) H Q := ⟨i, j, rfl, rfl, c, h⟩
theorem x_shl (c : CPow i j) (h : Q (.int (i * 2 ^ j.toNat)) H) : rShl (.int i) (.int j) H Q := ⟨i, j, rfl, rfl, c, h⟩
theorem x_band (h : Q (.int (Builtin.bitAnd i j)) H) : rAnd (.int i) (.int j) H Q := ⟨i, j, rfl, rfl, h⟩
theorem x_neg (h : Q (.int (-i)) H) : rNeg (.int i) H Q := ⟨i, rfl, h⟩
theorem x_lt (h : Q (.bl (decide (i < j))) H) : rLt (.int i) (.int j) H Q := ⟨i, j, rfl, rfl, h⟩
theorem x_le (h : Q (.bl (decide (i ≤ j))) H) : rLe (.int i) (.int j) H Q := ⟨i, j, rfl, rfl, h⟩
theorem x_gt (h : Q (.bl (decide (j < i))) H) : rGt (.int i) (.int j) H Q := ⟨i, j, rfl, rfl, h⟩
theorem x_ge (h : Q (.bl (decide (j ≤ i))) H) : rGe (.int i) (.int j) H Q := ⟨i, j, rfl, rfl, h⟩
theorem x_eqI (h : Q (.bl (decide (i = j))) H) : rEq (.int i) (.int j) H Q := ⟨rfl, by rw [show decide (V.int i = V.int j) = decide (i = j) by rw [Bool.eq_iff_iff]; simp]; exact h⟩
theorem x_neI (h : Q (.bl (decide (i ≠ j))) H) : rNe (.int i) (.int j) H Q := ⟨rfl, by rw [show (!decide (V.int i = V.int j)) = decide (i ≠ j) by rw [Bool.eq_iff_iff]; simp]; exact h⟩
theorem x_eqB {a b : Bool} (h : Q (.bl (decide (a = b))) H) : rEq (.bl a) (.bl b) H Q := ⟨rfl, by rw [show decide (V.bl a = V.bl b) = decide (a = b) by rw [Bool.eq_iff_iff]; simp]; exact h⟩
theorem x_neB {a b : Bool} (h : Q (.bl (decide (a ≠ b))) H) : rNe (.bl a) (.bl b) H Q := ⟨rfl, by rw [show (!decide (V.bl a = V.bl b)) = decide (a ≠ b) by rw [Bool.eq_iff_iff]; simp]; exact h⟩
theorem x_eqS {a b : Str} (h : Q (.bl (decide (a = b))) H) : rEq (.str a) (.str b) H Q := ⟨rfl, by rw [show decide (V.str a = V.str b) = decide (a = b) by rw [Bool.eq_iff_iff]; simp]; exact h⟩
theorem x_neS {a b : Str} (h : Q (.bl (decide (a ≠ b))) H) : rNe (.str a) (.str b) H Q := ⟨rfl, by rw [show (!decide (V.str a = V.str b)) = decide (a ≠ b) by rw [Bool.eq_iff_iff]; simp]; exact h⟩
theorem x_isN (h : Q (.bl true) H) : rIs .non .non H Q := ⟨rfl, h⟩
theorem x_isnN (h : Q (.bl false) H) : rIsNot .non .non H Q := ⟨rfl, h⟩
theorem x_isI (h : Q (.bl false) H) : rIs (.int i) .non H Q := ⟨rfl, h⟩
theorem x_isnI (h : Q (.bl true) H) : rIsNot (.int i) .non H Q := ⟨rfl, h⟩
theorem x_isR (h : Q (.bl false) H) : rIs (.ref C) .non H Q := ⟨rfl, h⟩
theorem x_isnR (h : Q (.bl true) H) : rIsNot (.ref C) .non H Q := ⟨rfl, h⟩
theorem x_isB (h : Q (.bl false) H) : rIs (.bl b) .non H Q := ⟨rfl, h⟩
theorem x_isnB (h : Q (.bl true) H) : rIsNot (.bl b) .non H Q := ⟨rfl, h⟩
/-! tests -/
theorem x_test (h : te σ H fun x H' => ∃ k, x = .bl k ∧ QB k H') : tTest te σ H QB := h
theorem x_tB (h : te σ H fun x H' => ∃ k, x = .bl k ∧ QB k H') : tB te σ H QB := h
theorem x_bl {QK : Bool → Prop} (h : QK b) : ∃ k, V.bl b = .bl k ∧ QK k := ⟨b, rfl, h⟩
theorem x_not (h : t σ H fun c H1 => QB (!c) H1) : tNot t σ H QB := h
theorem x_and (h : t σ H fun c H1 => if c = true then u σ H1 QB else QB false H1) : tAnd t u σ H QB := h
theorem x_or (h : t σ H fun c H1 => if c = true then QB true H1 else u σ H1 QB) : tOr t u σ H QB := h
theorem x_andV (h : ta σ H fun x H1 => ∃ c, x = .bl c ∧ if c = true then tb σ H1 Q else Q (.bl false) H1) : tAndV ta tb σ H Q := h
theorem x_orV (h : ta σ H fun x H1 => ∃ c, x = .bl c ∧ if c = true then Q (.bl true) H1 else tb σ H1 Q) : tOrV ta tb σ H Q := h
theorem x_notV (h : ta σ H fun x H1 => ∃ c, x = .bl c ∧ Q (.bl (!c)) H1) : tNotV ta σ H Q := h
theorem x_tIf (h : t σ H fun c H1 => if c = true then ta σ H1 Q else tb σ H1 Q) : tIf t ta tb σ H Q := h
theorem x_chain (h : ta σ H fun x H1 => tb σ H1 fun y H2 => r x y H2 fun z H3 => ∃ k, z = .bl k ∧ (if k = true then tc σ H3 fun w' H4 => r' y w' H4 Q else Q (.bl false) H3)) : tChain r r' ta tb tc σ H Q := h
/-! decisions -/
theorem x_ite (h1 : P → A) (h2 : ¬ P → B) : if decide P = true then A else B := by
  by_cases h : P
  · rw [if_pos (decide_eq_true h)]; exact h1 h
  · rw [if_neg (by rw [decide_eq_false h]; exact Bool.false_ne_true)]; exact h2 h
theorem x_niteP (h1 : ¬ P → A) (h2 : P → B) : if (!decide P) = true then A else B := by
  by_cases h : P
  · rw [decide_eq_true h, if_neg (by simp)]; exact h2 h
  · rw [decide_eq_false h, if_pos (by simp)]; exact h1 h
theorem x_iteT (h : A) : if true = true then A else B := by rw [if_pos rfl]; exact h
theorem x_iteF (h : B) : if false = true then A else B := by rw [if_neg Bool.false_ne_true]; exact h
theorem x_niteT (h : B) : if (!true) = true then A else B := x_iteF h
theorem x_niteF (h : A) : if (!false) = true then A else B := x_iteT h
theorem x_itec (h1 : b = true → A) (h2 : b = false → B) : if b = true then A else B := by
  cases b with
  | true => exact x_iteT (h1 rfl)
  | false => exact x_iteF (h2 rfl)
theorem x_nitec (h1 : b = false → A) (h2 : b = true → B) : if (!b) = true then A else B := by
  cases b with
  | true => exact x_iteF (h2 rfl)
  | false => exact x_iteT (h1 rfl)
/-! statements -/
theorem x_seq (h : s1 ⟨s2 ⟨nx, rt, bk, ct⟩, rt, bk, ct⟩ σ H) : tSeq s1 s2 ⟨nx, rt, bk, ct⟩ σ H := h
theorem x_next (h : nx σ H) : tNext ⟨nx, rt, bk, ct⟩ σ H := h
theorem x_brk (h : bk σ H) : tBreak ⟨nx, rt, bk, ct⟩ σ H := h
theorem x_cont (h : ct σ H) : tCont ⟨nx, rt, bk, ct⟩ σ H := h
theorem x_drop (h : te σ H fun _ H1 => nx σ H1) : tDrop te ⟨nx, rt, bk, ct⟩ σ H := h
theorem x_ret (h : te σ H rt) : tRet te ⟨nx, rt, bk, ct⟩ σ H := h
theorem x_retN (h : rt .non H) : tRetN ⟨nx, rt, bk, ct⟩ σ H := h
theorem x_ifS (h : t σ H fun b H1 => if b = true then s1 ⟨nx, rt, bk, ct⟩ σ H1 else s2 ⟨nx, rt, bk, ct⟩ σ H1) : tIfS t s1 s2 ⟨nx, rt, bk, ct⟩ σ H := h
theorem x_asg (h : te σ H fun x H1 => g x σ H1 nx) : tAsg te g ⟨nx, rt, bk, ct⟩ σ H := h
theorem x_augA (h : Q (.int (i + j)) H) : rAug (.int i) (.int j) H Q := ⟨i, j, rfl, rfl, h⟩
theorem x_augS (h : Q (.int (i - j)) H) : rAugS (.int i) (.int j) H Q := ⟨i, j, rfl, rfl, h⟩
/-! calls, displays -/
theorem x_nil (h : QL [] H) : tNil σ H QL := h
theorem x_cons (h : ta σ H fun x H1 => tl σ H1 fun xs H2 => QL (x :: xs) H2) : tCons ta tl σ H QL := h
theorem x_cb (h : tl σ H fun vs H1 => rc vs H1 Q) : tCB rc tl σ H Q := h
theorem x_call (h : tl σ H fun vs H1 => sp (vs ++ []) H1 Q E) : tCall sp [] E tl σ H Q := h
theorem x_chn {tl : TC} (h : ta σ H fun x H1 => tl σ x H1 Q) : tChn ta tl σ H Q := h
theorem x_clast (h : tb σ H fun y H1 => r x y H1 Q) : cLast r tb σ x H Q := h
theorem x_clink {tl : TC} (h : tb σ H fun y H1 => r x y H1 fun z H2 => ∃ k, z = .bl k ∧ (if k = true then tl σ y H2 Q else Q (.bl false) H2)) : cLink r tb tl σ x H Q := h
theorem x_bits (h : Q (.int (Builtin.Int.intBits i : Nat)) H) : rBits (.int i) H Q := ⟨i, rfl, h⟩
theorem x_app {vs : List V} (h : sp vs H Q E) : sp (vs ++ []) H Q E := by rw [List.append_nil]; exact h
theorem x_app' {vs : List V} (h : sp (x :: vs) H Q E) : sp (x :: (vs ++ [])) H Q E := by rw [List.append_nil]; exact h
theorem x_raw {vs : List V} (h : sp vs H Q E) : spRaw sp vs H Q E := by unfold spRaw; rw [List.append_nil]; exact h
theorem x_cmeth (h : tl σ H fun vs H2 => sp (.ref C :: vs) H2 Q E) : ClX.tCMeth C sp E (eCon (.ref C)) tl σ H Q := ⟨rfl, h⟩
def Kmake (C : Addr) (sp : Sp) (vs : List V) (H1 : Hp) (Q : VK) (E : XK) : Prop := ∀ x dx, H1 x = none → H1 dx = none → dx ≠ x → sp (.ref x :: (vs ++ [])) (upd (upd H1 dx (.own x)) x (.ins C dx [])) (fun v H2 => v = .non ∧ Q (.ref x) H2) E
theorem x_make (h : tl σ H fun vs H1 => Kmake C sp vs H1 Q E) : tMake C sp [] E tl σ H Q := h
theorem x_meth {m : Str} (h : ta σ H fun x H1 => ∃ a dx fs, x = .ref a ∧ H1 a = some (.ins C dx fs) ∧ fs.lookup m = none ∧ tl σ H1 fun vs H2 => sp (x :: (vs ++ [])) H2 Q E) : tMeth C m sp [] E ta tl σ H Q := h
def Klst (xs : List V) (H1 : Hp) (Q : VK) : Prop := xs.length ≤ sizeLine ∧ ∀ p, H1 p = none → Q (.ref p) (upd H1 p (.lst xs))
theorem x_lst (h : tl σ H fun xs H1 => Klst xs H1 Q) : tLst tl σ H Q := h
def Ktup (xs : List V) (H1 : Hp) (Q : VK) : Prop := xs.length ≤ sizeLine ∧ ∀ p, H1 p = none → Q (.ref p) (upd H1 p (.tup xs))
theorem x_tup (h : tl σ H fun xs H1 => Ktup xs H1 Q) : tTup tl σ H Q := h
theorem x_intI (h : Q (.int i) H) : rInt [.int i] H Q := .inl ⟨i, rfl, h⟩
theorem x_intB (h : Q (.int (if b then 1 else 0)) H) : rInt [.bl b] H Q := .inr ⟨b, rfl, h⟩
theorem isi_of {n t : String} {bb : Bool} (ty : TyN H x t) (k : kitB t n = some bb) (e : isA t n = bb) (h : Q (.bl bb) H) : rIsI [x, .ty n] H Q := ⟨x, n, t, rfl, ty, by rw [e]; exact k, by rw [e]; exact h⟩

theorem kit_int_int : kitB "int" "int" = some true := by decide +kernel
theorem x_isi_int_int (h : Q (.bl true) H) : rIsI [.int i, .ty "int"] H Q := isi_of (.int i) kit_int_int rfl h
theorem kit_int_bool : kitB "int" "bool" = some false := by decide +kernel
theorem x_isi_int_bool (h : Q (.bl false) H) : rIsI [.int i, .ty "bool"] H Q := isi_of (.int i) kit_int_bool rfl h
theorem kit_int_str : kitB "int" "str" = some false := by decide +kernel
theorem x_isi_int_str (h : Q (.bl false) H) : rIsI [.int i, .ty "str"] H Q := isi_of (.int i) kit_int_str rfl h
theorem kit_int_list : kitB "int" "list" = some false := by decide +kernel
theorem x_isi_int_list (h : Q (.bl false) H) : rIsI [.int i, .ty "list"] H Q := isi_of (.int i) kit_int_list rfl h
theorem kit_int_tuple : kitB "int" "tuple" = some false := by decide +kernel
theorem x_isi_int_tuple (h : Q (.bl false) H) : rIsI [.int i, .ty "tuple"] H Q := isi_of (.int i) kit_int_tuple rfl h
theorem kit_int_dict : kitB "int" "dict" = some false := by decide +kernel
theorem x_isi_int_dict (h : Q (.bl false) H) : rIsI [.int i, .ty "dict"] H Q := isi_of (.int i) kit_int_dict rfl h
theorem kit_bool_int : kitB "bool" "int" = some true := by decide +kernel
theorem x_isi_bool_int (h : Q (.bl true) H) : rIsI [.bl b, .ty "int"] H Q := isi_of (.bl b) kit_bool_int rfl h
theorem kit_bool_bool : kitB "bool" "bool" = some true := by decide +kernel
theorem x_isi_bool_bool (h : Q (.bl true) H) : rIsI [.bl b, .ty "bool"] H Q := isi_of (.bl b) kit_bool_bool rfl h
theorem kit_bool_str : kitB "bool" "str" = some false := by decide +kernel
theorem x_isi_bool_str (h : Q (.bl false) H) : rIsI [.bl b, .ty "str"] H Q := isi_of (.bl b) kit_bool_str rfl h
theorem kit_bool_list : kitB "bool" "list" = some false := by decide +kernel
theorem x_isi_bool_list (h : Q (.bl false) H) : rIsI [.bl b, .ty "list"] H Q := isi_of (.bl b) kit_bool_list rfl h
theorem kit_bool_tuple : kitB "bool" "tuple" = some false := by decide +kernel
theorem x_isi_bool_tuple (h : Q (.bl false) H) : rIsI [.bl b, .ty "tuple"] H Q := isi_of (.bl b) kit_bool_tuple rfl h
theorem kit_bool_dict : kitB "bool" "dict" = some false := by decide +kernel
theorem x_isi_bool_dict (h : Q (.bl false) H) : rIsI [.bl b, .ty "dict"] H Q := isi_of (.bl b) kit_bool_dict rfl h
theorem kit_str_int : kitB "str" "int" = some false := by decide +kernel
theorem x_isi_str_int {zs : Str} (h : Q (.bl false) H) : rIsI [.str zs, .ty "int"] H Q := isi_of (.str zs) kit_str_int rfl h
theorem kit_str_bool : kitB "str" "bool" = some false := by decide +kernel
theorem x_isi_str_bool {zs : Str} (h : Q (.bl false) H) : rIsI [.str zs, .ty "bool"] H Q := isi_of (.str zs) kit_str_bool rfl h
theorem kit_str_str : kitB "str" "str" = some true := by decide +kernel
theorem x_isi_str_str {zs : Str} (h : Q (.bl true) H) : rIsI [.str zs, .ty "str"] H Q := isi_of (.str zs) kit_str_str rfl h
theorem kit_str_list : kitB "str" "list" = some false := by decide +kernel
theorem x_isi_str_list {zs : Str} (h : Q (.bl false) H) : rIsI [.str zs, .ty "list"] H Q := isi_of (.str zs) kit_str_list rfl h
theorem kit_str_tuple : kitB "str" "tuple" = some false := by decide +kernel
theorem x_isi_str_tuple {zs : Str} (h : Q (.bl false) H) : rIsI [.str zs, .ty "tuple"] H Q := isi_of (.str zs) kit_str_tuple rfl h
theorem kit_str_dict : kitB "str" "dict" = some false := by decide +kernel
theorem x_isi_str_dict {zs : Str} (h : Q (.bl false) H) : rIsI [.str zs, .ty "dict"] H Q := isi_of (.str zs) kit_str_dict rfl h
theorem kit_NoneType_int : kitB "NoneType" "int" = some false := by decide +kernel
theorem x_isi_NoneType_int (h : Q (.bl false) H) : rIsI [.non, .ty "int"] H Q := isi_of (.non) kit_NoneType_int rfl h
theorem kit_NoneType_bool : kitB "NoneType" "bool" = some false := by decide +kernel
theorem x_isi_NoneType_bool (h : Q (.bl false) H) : rIsI [.non, .ty "bool"] H Q := isi_of (.non) kit_NoneType_bool rfl h
theorem kit_NoneType_str : kitB "NoneType" "str" = some false := by decide +kernel
theorem x_isi_NoneType_str (h : Q (.bl false) H) : rIsI [.non, .ty "str"] H Q := isi_of (.non) kit_NoneType_str rfl h
theorem kit_NoneType_list : kitB "NoneType" "list" = some false := by decide +kernel
theorem x_isi_NoneType_list (h : Q (.bl false) H) : rIsI [.non, .ty "list"] H Q := isi_of (.non) kit_NoneType_list rfl h
theorem kit_NoneType_tuple : kitB "NoneType" "tuple" = some false := by decide +kernel
theorem x_isi_NoneType_tuple (h : Q (.bl false) H) : rIsI [.non, .ty "tuple"] H Q := isi_of (.non) kit_NoneType_tuple rfl h
theorem kit_NoneType_dict : kitB "NoneType" "dict" = some false := by decide +kernel
theorem x_isi_NoneType_dict (h : Q (.bl false) H) : rIsI [.non, .ty "dict"] H Q := isi_of (.non) kit_NoneType_dict rfl h
theorem kit_list_int : kitB "list" "int" = some false := by decide +kernel
theorem kit_list_bool : kitB "list" "bool" = some false := by decide +kernel
theorem kit_list_str : kitB "list" "str" = some false := by decide +kernel
theorem kit_list_list : kitB "list" "list" = some true := by decide +kernel
theorem kit_list_tuple : kitB "list" "tuple" = some false := by decide +kernel
theorem kit_list_dict : kitB "list" "dict" = some false := by decide +kernel
theorem kit_tuple_int : kitB "tuple" "int" = some false := by decide +kernel
theorem kit_tuple_bool : kitB "tuple" "bool" = some false := by decide +kernel
theorem kit_tuple_str : kitB "tuple" "str" = some false := by decide +kernel
theorem kit_tuple_list : kitB "tuple" "list" = some false := by decide +kernel
theorem kit_tuple_tuple : kitB "tuple" "tuple" = some true := by decide +kernel
theorem kit_tuple_dict : kitB "tuple" "dict" = some false := by decide +kernel
theorem kit_dict_int : kitB "dict" "int" = some false := by decide +kernel
theorem kit_dict_bool : kitB "dict" "bool" = some false := by decide +kernel
theorem kit_dict_str : kitB "dict" "str" = some false := by decide +kernel
theorem kit_dict_list : kitB "dict" "list" = some false := by decide +kernel
theorem kit_dict_tuple : kitB "dict" "tuple" = some false := by decide +kernel
theorem kit_dict_dict : kitB "dict" "dict" = some true := by decide +kernel

/-! the heap -/
variable {L L' : List Ent} {p q : Addr} {xs : List V} {f : Str} {dx : Addr} {fs : List (Str × V)} {lo hi : Option Int}
theorem x_ixL (F : FH H L) (m : (p, Is (.lst xs)) ∈ L) (a : atI xs i = some v) (h : Q v H) : rIx S (.ref p) (.int i) H Q := .inl ⟨p, xs, i, v, rfl, rfl, .inl (.inl (.inl (F.get m))), a, h⟩
theorem x_ixT (F : FH H L) (m : (p, Is (.tup xs)) ∈ L) (a : atI xs i = some v) (h : Q v H) : rIx S (.ref p) (.int i) H Q := .inl ⟨p, xs, i, v, rfl, rfl, .inr (.inl (.inl (F.get m))), a, h⟩
theorem x_ixR (F : FH H L) (m : (p, IsR xs) ∈ L) (a : atI xs i = some v) (h : Q v H) : rIx S (.ref p) (.int i) H Q := .inl ⟨p, xs, i, v, rfl, rfl, .inl (.inl (F.getR m)), a, h⟩
theorem x_lenL (F : FH H L) (m : (p, Is (.lst xs)) ∈ L) (h : Q (.int (xs.length : Int)) H) : rLen S [.ref p] H Q := .inl ⟨p, xs, rfl, .inl (.inl (.inl (F.get m))), h⟩
theorem x_lenT (F : FH H L) (m : (p, Is (.tup xs)) ∈ L) (h : Q (.int (xs.length : Int)) H) : rLen S [.ref p] H Q := .inl ⟨p, xs, rfl, .inr (.inl (.inl (F.get m))), h⟩
theorem x_lenR (F : FH H L) (m : (p, IsR xs) ∈ L) (h : Q (.int (xs.length : Int)) H) : rLen S [.ref p] H Q := .inl ⟨p, xs, rfl, .inl (.inl (F.getR m)), h⟩
theorem x_fld (h : te σ H fun x H1 => ∃ a dx fs v, x = .ref a ∧ H1 a = some (.ins C dx fs) ∧ fs.lookup f = some v ∧ Q v H1) : eFld C f te σ H Q := h
theorem x_fldG {QV : V → Prop} (F : FH H L) (m : (p, Is (.ins C dx fs)) ∈ L) (l : fs.lookup f = some v) (h : QV v) : ∃ a dx fs v, V.ref p = .ref a ∧ H a = some (.ins C dx fs) ∧ fs.lookup f = some v ∧ QV v := ⟨p, dx, fs, v, rfl, F.get m, l, h⟩
theorem x_methG {m : Str} {B : Prop} (F : FH H L) (hm : (p, Is (.ins C dx fs)) ∈ L) (l : fs.lookup m = none) (h : B) : ∃ a dx fs, V.ref p = .ref a ∧ H a = some (.ins C dx fs) ∧ fs.lookup m = none ∧ B := ⟨p, dx, fs, rfl, F.get hm, l, h⟩
theorem x_inOwnF (F : FH H L) (m : (p, Is (.ins C dx fs)) ∈ L) (h : sp [.ref p, y] H (fun v H' => ∃ b, v = .bl b ∧ Q (.bl b) H') E) : rInOwn C false sp E y (.ref p) H Q := ⟨p, dx, fs, rfl, F.get m, h⟩
theorem x_inOwnT (F : FH H L) (m : (p, Is (.ins C dx fs)) ∈ L) (h : sp [.ref p, y] H (fun v H' => ∃ b, v = .bl b ∧ Q (.bl (!b)) H') E) : rInOwn C true sp E y (.ref p) H Q := ⟨p, dx, fs, rfl, F.get m, h⟩
theorem x_setF (h : tb σ H fun y H1 => te σ H1 fun x H2 => ∃ a dx fs, x = .ref a ∧ H2 a = some (.ins C dx fs) ∧ fs.length < 1000 ∧ nx σ (upd H2 a (.ins C dx (putF f y fs)))) : sSetF C f te tb ⟨nx, rt, bk, ct⟩ σ H := h
theorem x_setFG {QH : Hp → Prop} {fs' : List (Str × V)} (F : FH H L) (m : (p, Is (.ins C dx fs)) ∈ L) (hl : fs.length < 1000) (e : putF f y fs = fs') (pu : Put p (Is (.ins C dx fs)) (Is (.ins C dx fs')) L L') (h : ∀ H', FH H' L' → QH H') : ∃ a dx fs, V.ref p = .ref a ∧ H a = some (.ins C dx fs) ∧ fs.length < 1000 ∧ QH (upd H a (.ins C dx (putF f y fs))) :=
  ⟨p, dx, fs, rfl, F.get m, hl, by rw [e]; exact h _ (F.put pu trivial)⟩
theorem x_gsub {to ti : TE} {ts : TSet} (h : to σ H fun o H1 => ti σ H1 fun i H2 => ts o i v H2 fun H3 => QS σ H3) : gSub to ti ts v σ H QS := h
theorem x_setL {k : Nat} {QH : Hp → Prop} (F : FH H L) (m : (p, Is (.lst xs)) ∈ L) (a : ixN xs.length i = some k) (pu : Put p (Is (.lst xs)) (Is (.lst (xs.set k v))) L L') (h : ∀ H', FH H' L' → QH H') : rSetL (.ref p) (.int i) v H QH :=
  ⟨p, xs, i, k, rfl, rfl, F.get m, a, h _ (F.put pu trivial)⟩
theorem x_apd (h : te σ H fun x H1 => ∃ l, x = .ref l ∧ (∃ xs, H1 l = some (.lst xs)) ∧ tl σ H1 fun vs H2 => rAppend x vs H2 Q) : eApp te tl σ H Q := h
theorem x_apdG {B : Prop} (F : FH H L) (m : (p, Is (.lst xs)) ∈ L) (h : B) : ∃ l, V.ref p = .ref l ∧ (∃ xs, H l = some (.lst xs)) ∧ B := ⟨p, rfl, ⟨xs, F.get m⟩, h⟩
theorem x_append (F : FH H L) (m : (p, Is (.lst xs)) ∈ L) (z : xs.length < sizeLine) (pu : Put p (Is (.lst xs)) (Is (.lst (xs ++ [v]))) L L') (h : ∀ H', FH H' L' → Q .non H') : rAppend (.ref p) [v] H Q :=
  ⟨p, xs, v, rfl, rfl, F.get m, z, h _ (F.put pu trivial)⟩
theorem x_lstG {xs : List V} (F : FH H L) (z : xs.length ≤ sizeLine) (h : ∀ p H', H p = none → FH H' ((p, Is (.lst xs)) :: L) → Q (.ref p) H') : Klst xs H Q := ⟨z, fun p hp => h p _ hp (F.new hp)⟩
theorem x_tupG {xs : List V} (F : FH H L) (z : xs.length ≤ sizeLine) (h : ∀ p H', H p = none → FH H' ((p, Is (.tup xs)) :: L) → Q (.ref p) H') : Ktup xs H Q := ⟨z, fun p hp => h p _ hp (F.new hp)⟩
theorem x_makeG {C : Addr} {vs : List V} (F : FH H L) (h : ∀ x dx H', FH H' ((x, Is (.ins C dx [])) :: L) → sp (.ref x :: vs) H' (fun v H2 => v = .non ∧ Q (.ref x) H2) E) :
    Kmake C sp vs H Q E := fun x dx hx hd ne => by
  rw [List.append_nil]
  exact h x dx _ ((F.other hd).new (by rw [upd_ne (Ne.symm ne)]; exact hx))
theorem x_sl {tlo thi : TO} {rs : V → Option Int → Option Int → Hp → VK → Prop} (h : te σ H fun x H1 => tlo σ H1 fun l H2 => thi σ H2 fun u H3 => rs x l u H3 Q) : L2.tSl rs te tlo thi σ H Q := h
theorem x_nopart (h : QO none H) : tNoPart σ H QO := h
theorem x_part (h : te σ H fun x H1 => ∃ i, x = .int i ∧ QO (some i) H1) : tPart te σ H QO := h
theorem cutV_tail {x : V} : cutV (x :: xs) (some 1) none = xs := by
  unfold cutV
  rw [HT.sIx_none, show (1 : Int) = ((1 : Nat) : Int) from rfl, HT.sIx_nat]
  rw [show min 1 (x :: xs).length = 1 by rw [List.length_cons]; omega]
  show xs.take _ = xs
  rw [List.length_cons, show xs.length + 1 - 1 = xs.length by omega, List.take_length]
theorem x_slL (F : FH H L) (m : (p, Is (.lst xs)) ∈ L) (h : ∀ q H', H q = none → FH H' ((q, Is (.lst (cutV xs lo hi))) :: L) → Q (.ref q) H') : rSl S (.ref p) lo hi H Q := ⟨p, xs, rfl, .inl (.inl (F.get m)), fun q hq => h q _ hq (F.new hq)⟩
theorem x_sl1 {v : V} (F : FH H L) (m : (p, Is (.lst (v :: xs))) ∈ L) (h : ∀ q H', H q = none → FH H' ((q, Is (.lst xs)) :: L) → Q (.ref q) H') : rSl S (.ref p) (some 1) none H Q := ⟨p, _, rfl, .inl (.inl (F.get m)), fun q hq => h q _ hq (by rw [show cutV (v :: xs) (some 1) none = xs from cutV_tail]; exact F.new hq)⟩
theorem cutV_pre {n : Nat} {ys zs : List V} (e : ys.length = n) : cutV (ys ++ zs) none (some (n : Int)) = ys := by
  unfold cutV
  rw [HT.sIx_none, HT.sIx_nat, List.drop_zero, Nat.sub_zero, Nat.min_eq_left (by rw [List.length_append]; omega), ← e, List.take_left]
theorem x_slp1 {v0 : V} (F : FH H L) (m : (p, Is (.lst (v0 :: xs))) ∈ L) (h : ∀ q H', H q = none → FH H' ((q, Is (.lst [v0])) :: L) → Q (.ref q) H') : rSl S (.ref p) none (some 1) H Q := ⟨p, _, rfl, .inl (.inl (F.get m)), fun q hq => h q _ hq (by rw [show cutV (v0 :: xs) none (some 1) = [v0] from cutV_pre (ys := [v0]) (n := 1) rfl]; exact F.new hq)⟩
theorem x_slp2 {v0 v1 : V} (F : FH H L) (m : (p, Is (.lst (v0 :: v1 :: xs))) ∈ L) (h : ∀ q H', H q = none → FH H' ((q, Is (.lst [v0, v1])) :: L) → Q (.ref q) H') : rSl S (.ref p) none (some 2) H Q := ⟨p, _, rfl, .inl (.inl (F.get m)), fun q hq => h q _ hq (by rw [show cutV (v0 :: v1 :: xs) none (some 2) = [v0, v1] from cutV_pre (ys := [v0, v1]) (n := 2) rfl]; exact F.new hq)⟩
theorem x_slp3 {v0 v1 v2 : V} (F : FH H L) (m : (p, Is (.lst (v0 :: v1 :: v2 :: xs))) ∈ L) (h : ∀ q H', H q = none → FH H' ((q, Is (.lst [v0, v1, v2])) :: L) → Q (.ref q) H') : rSl S (.ref p) none (some 3) H Q := ⟨p, _, rfl, .inl (.inl (F.get m)), fun q hq => h q _ hq (by rw [show cutV (v0 :: v1 :: v2 :: xs) none (some 3) = [v0, v1, v2] from cutV_pre (ys := [v0, v1, v2]) (n := 3) rfl]; exact F.new hq)⟩
theorem x_slp4 {v0 v1 v2 v3 : V} (F : FH H L) (m : (p, Is (.lst (v0 :: v1 :: v2 :: v3 :: xs))) ∈ L) (h : ∀ q H', H q = none → FH H' ((q, Is (.lst [v0, v1, v2, v3])) :: L) → Q (.ref q) H') : rSl S (.ref p) none (some 4) H Q := ⟨p, _, rfl, .inl (.inl (F.get m)), fun q hq => h q _ hq (by rw [show cutV (v0 :: v1 :: v2 :: v3 :: xs) none (some 4) = [v0, v1, v2, v3] from cutV_pre (ys := [v0, v1, v2, v3]) (n := 4) rfl]; exact F.new hq)⟩
theorem x_slp5 {v0 v1 v2 v3 v4 : V} (F : FH H L) (m : (p, Is (.lst (v0 :: v1 :: v2 :: v3 :: v4 :: xs))) ∈ L) (h : ∀ q H', H q = none → FH H' ((q, Is (.lst [v0, v1, v2, v3, v4])) :: L) → Q (.ref q) H') : rSl S (.ref p) none (some 5) H Q := ⟨p, _, rfl, .inl (.inl (F.get m)), fun q hq => h q _ hq (by rw [show cutV (v0 :: v1 :: v2 :: v3 :: v4 :: xs) none (some 5) = [v0, v1, v2, v3, v4] from cutV_pre (ys := [v0, v1, v2, v3, v4]) (n := 5) rfl]; exact F.new hq)⟩
theorem x_slp6 {v0 v1 v2 v3 v4 v5 : V} (F : FH H L) (m : (p, Is (.lst (v0 :: v1 :: v2 :: v3 :: v4 :: v5 :: xs))) ∈ L) (h : ∀ q H', H q = none → FH H' ((q, Is (.lst [v0, v1, v2, v3, v4, v5])) :: L) → Q (.ref q) H') : rSl S (.ref p) none (some 6) H Q := ⟨p, _, rfl, .inl (.inl (F.get m)), fun q hq => h q _ hq (by rw [show cutV (v0 :: v1 :: v2 :: v3 :: v4 :: v5 :: xs) none (some 6) = [v0, v1, v2, v3, v4, v5] from cutV_pre (ys := [v0, v1, v2, v3, v4, v5]) (n := 6) rfl]; exact F.new hq)⟩
theorem x_slp7 {v0 v1 v2 v3 v4 v5 v6 : V} (F : FH H L) (m : (p, Is (.lst (v0 :: v1 :: v2 :: v3 :: v4 :: v5 :: v6 :: xs))) ∈ L) (h : ∀ q H', H q = none → FH H' ((q, Is (.lst [v0, v1, v2, v3, v4, v5, v6])) :: L) → Q (.ref q) H') : rSl S (.ref p) none (some 7) H Q := ⟨p, _, rfl, .inl (.inl (F.get m)), fun q hq => h q _ hq (by rw [show cutV (v0 :: v1 :: v2 :: v3 :: v4 :: v5 :: v6 :: xs) none (some 7) = [v0, v1, v2, v3, v4, v5, v6] from cutV_pre (ys := [v0, v1, v2, v3, v4, v5, v6]) (n := 7) rfl]; exact F.new hq)⟩
theorem x_slp8 {v0 v1 v2 v3 v4 v5 v6 v7 : V} (F : FH H L) (m : (p, Is (.lst (v0 :: v1 :: v2 :: v3 :: v4 :: v5 :: v6 :: v7 :: xs))) ∈ L) (h : ∀ q H', H q = none → FH H' ((q, Is (.lst [v0, v1, v2, v3, v4, v5, v6, v7])) :: L) → Q (.ref q) H') : rSl S (.ref p) none (some 8) H Q := ⟨p, _, rfl, .inl (.inl (F.get m)), fun q hq => h q _ hq (by rw [show cutV (v0 :: v1 :: v2 :: v3 :: v4 :: v5 :: v6 :: v7 :: xs) none (some 8) = [v0, v1, v2, v3, v4, v5, v6, v7] from cutV_pre (ys := [v0, v1, v2, v3, v4, v5, v6, v7]) (n := 8) rfl]; exact F.new hq)⟩
theorem x_slR (F : FH H L) (m : (p, IsR xs) ∈ L) (h : ∀ q H', H q = none → FH H' ((q, Is (.lst (cutV xs lo hi))) :: L) → Q (.ref q) H') : rSl S (.ref p) lo hi H Q := ⟨p, xs, rfl, .inl (F.getR m), fun q hq => h q _ hq (F.new hq)⟩
theorem x_slS (F : FH H L) (m : S p (.lst xs)) (h : ∀ q H', H q = none → FH H' ((q, Is (.lst (cutV xs lo hi))) :: L) → Q (.ref q) H') : rSl S (.ref p) lo hi H Q := ⟨p, xs, rfl, .inr m, fun q hq => h q _ hq (F.new hq)⟩
theorem x_ixS (m : S p (.lst xs)) (a : atI xs i = some v) (h : Q v H) : rIx S (.ref p) (.int i) H Q := .inl ⟨p, xs, i, v, rfl, rfl, .inl (.inr m), a, h⟩
theorem x_lenS (m : S p (.lst xs)) (h : Q (.int (xs.length : Int)) H) : rLen S [.ref p] H Q := .inl ⟨p, xs, rfl, .inl (.inr m), h⟩
theorem x_none (h : v = .non → Q v H) : v = .non → Q v H := h
theorem x_initEnd {B : Prop} (h : B) : V.non = .non ∧ B := ⟨rfl, h⟩
/-! loops -/
def ForR (g : TG) (s1 : TS) (nx : K0) (rt : VK) (lo hi : Int) (σ : L2.St) (H : Hp) : Prop := (-(2 ^ 62) ≤ lo ∧ lo < 2 ^ 62 ∧ -(2 ^ 62) ≤ hi ∧ hi < 2 ^ 62) ∧ ∃ Pv : Nat → L2.St → Hp → Prop, Pv 0 σ H ∧
    (∀ (i : Nat) σ H, lo + i < hi → Pv i σ H → g (.int (lo + i)) σ H fun σ' H' => s1 ⟨Pv (i + 1), rt, nx, Pv (i + 1)⟩ σ' H') ∧ ∀ σ H, Pv (hi - lo).toNat σ H → nx σ H
theorem x_forR1 (h : te σ H fun y H1 => ∃ j, y = .int j ∧ ForR g s1 nx rt 0 j σ H1) : sForR none te g s1 ⟨nx, rt, bk, ct⟩ σ H := h
theorem x_forR2 (h : ta σ H fun x H1 => tb σ H1 fun y H2 => ∃ i j, x = .int i ∧ y = .int j ∧ ForR g s1 nx rt i j σ H2) : sForR (some ta) tb g s1 ⟨nx, rt, bk, ct⟩ σ H := h
theorem x_int1 {QK : Int → Prop} (h : QK i) : ∃ k, V.int i = .int k ∧ QK k := ⟨i, rfl, h⟩
theorem x_int2 {QK : Int → Int → Prop} (h : QK i j) : ∃ k l, V.int i = .int k ∧ V.int j = .int l ∧ QK k l := ⟨i, j, rfl, rfl, h⟩
/-- a range from 0 by an invariant -/
theorem forG (Pv : Nat → L2.St → Hp → Prop) (h2 : j < 4611686018427387904) (h1 : -4611686018427387904 ≤ j) (h0 : Pv 0 σ H)
    (hs : ∀ (i : Nat) σ H, (i : Int) < j → Pv i σ H → g (.int (i : Int)) σ H fun σ' H' => s1 ⟨Pv (i + 1), rt, nx, Pv (i + 1)⟩ σ' H') (hd : ∀ σ H, Pv j.toNat σ H → nx σ H) : ForR g s1 nx rt 0 j σ H :=
  ⟨⟨by decide, by decide, h1, h2⟩, Pv, h0, fun i σ H h p => by rw [Int.zero_add] at h ⊢; exact hs i σ H h p, fun σ H p => hd σ H (by rw [Int.sub_zero] at p; exact p)⟩
theorem forG2 (Pv : Nat → L2.St → Hp → Prop) (h : -4611686018427387904 ≤ i ∧ i < 4611686018427387904 ∧ -4611686018427387904 ≤ j ∧ j < 4611686018427387904) (h0 : Pv 0 σ H)
    (hs : ∀ (n : Nat) σ H, i + n < j → Pv n σ H → g (.int (i + n)) σ H fun σ' H' => s1 ⟨Pv (n + 1), rt, nx, Pv (n + 1)⟩ σ' H') (hd : ∀ σ H, Pv (j - i).toNat σ H → nx σ H) : ForR g s1 nx rt i j σ H := ⟨h, Pv, h0, hs, hd⟩
/-- the turns one by one: n turns from lo on; P behind them, bk behind a break -/
def forK (g : TG) (s1 : TS) (P bk : K0) (rt : VK) : Nat → Int → L2.St → Hp → Prop
  | 0, _, σ, H => P σ H
  | n + 1, lo, σ, H => g (.int lo) σ H fun σ' H' => s1 ⟨forK g s1 P bk rt n (lo + 1), rt, bk, forK g s1 P bk rt n (lo + 1)⟩ σ' H'
theorem forUC (n : Nat) (Post : L2.St → Hp → Prop) (e : j = (n : Int)) (h2 : j < 4611686018427387904) (h : forK g s1 Post nx rt n 0 σ H) (hd : ∀ σ H, Post σ H → nx σ H) : ForR g s1 nx rt 0 j σ H := by
  refine forG (fun i σ H => i ≤ n ∧ forK g s1 Post nx rt (n - i) (i : Int) σ H) h2 (by omega) ⟨Nat.zero_le _, h⟩ (fun i σ H hi p => ?_) fun σ H p => ?_
  · obtain ⟨q1, q2⟩ := p
    have e1 : n - i = (n - (i + 1)) + 1 := by omega
    rw [e1] at q2
    have e2 : ((i + 1 : Nat) : Int) = (i : Int) + 1 := by omega
    have e3 : (fun σ H => i + 1 ≤ n ∧ forK g s1 Post nx rt (n - (i + 1)) ((i + 1 : Nat) : Int) σ H) = forK g s1 Post nx rt (n - (i + 1)) ((i : Int) + 1) := by
      funext σ H
      rw [e2]
      exact propext ⟨fun h => h.2, fun h => ⟨by omega, h⟩⟩
    show g (.int (i : Int)) σ H fun σ' H' => s1 ⟨fun σ H => i + 1 ≤ n ∧ forK g s1 Post nx rt (n - (i + 1)) ((i + 1 : Nat) : Int) σ H, rt, nx, fun σ H => i + 1 ≤ n ∧ forK g s1 Post nx rt (n - (i + 1)) ((i + 1 : Nat) : Int) σ H⟩ σ' H'
    rw [e3]
    exact q2
  · obtain ⟨_, q⟩ := p
    have e4 : n - j.toNat = 0 := by omega
    rw [e4] at q
    exact hd _ _ q
theorem forU (n : Nat) (e : j = (n : Int)) (h2 : j < 4611686018427387904) (h : forK g s1 nx nx rt n 0 σ H) : ForR g s1 nx rt 0 j σ H := forUC n nx e h2 h fun _ _ h => h
theorem x_forK {n : Nat} (h : g (.int i) σ H fun σ' H' => s1 ⟨forK g s1 nx bk rt n (i + 1), rt, bk, forK g s1 nx bk rt n (i + 1)⟩ σ' H') : forK g s1 nx bk rt (n + 1) i σ H := h
theorem x_forK0 (h : nx σ H) : forK g s1 nx bk rt 0 i σ H := h
/-- where a list is read -/
inductive Src (S : Sta) (L : List Ent) (p : Addr) (xs : List V) : Prop where
  | is (m : (p, Is (.lst xs)) ∈ L)
  | rd (m : (p, IsR xs) ∈ L)
  | st (m : S p (.lst xs))
theorem Src.rdS {L : List Ent} (m : Src S L p xs) (F : FH H L) : RdS S H p (.lst xs) := by
  cases m with
  | is m => exact .inl (.inl (F.get m))
  | rd m => exact .inl (F.getR m)
  | st m => exact .inr m
theorem src_of {K : PySem.W.Frag} (st : S = SK K) (h : SqL K H p xs) : ∃ L, FH H L ∧ Src S L p xs := by
  subst st
  rcases h with h | h
  · refine ⟨[(p, IsR xs)], ⟨[p] ++ [], .cons (p := p) (φ := IsR xs) (k := [p]) ⟨rfl, ?_⟩ .nil (by simp) (fun a _ m => by cases m)⟩, .rd (List.Mem.head _)⟩
    rcases h with h | ⟨o, h⟩
    · exact ⟨_, h, .inl rfl⟩
    · exact ⟨_, h, .inr ⟨o, rfl⟩⟩
  · exact ⟨[], .nil, .st h⟩
def ForS (S : Sta) (g : TG) (s1 : TS) (nx : K0) (rt : VK) (x : V) (σ : L2.St) (H : Hp) : Prop := ∃ a xs, x = .ref a ∧ ∃ Pv : Nat → L2.St → Hp → Prop, Pv 0 σ H ∧ Stays S a xs (fun i H => ∃ σ, Pv i σ H) ∧
  (∀ i y σ H, xs[i]? = some y → Pv i σ H → g y σ H fun σ' H' => s1 ⟨Pv (i + 1), rt, nx, Pv (i + 1)⟩ σ' H') ∧ ∀ σ H, Pv xs.length σ H → nx σ H
theorem x_forE (h : te σ H fun x H1 => ForS S g s1 nx rt x σ H1) : sFor S te g s1 ⟨nx, rt, bk, ct⟩ σ H := h
/-- a list by an invariant -/
theorem forS (Pv : Nat → L2.St → Hp → Prop) (h0 : Pv 0 σ H) (hst : ∀ i σ H, i ≤ xs.length → Pv i σ H → RdS S H p (.lst xs))
    (hs : ∀ i y σ H, xs[i]? = some y → Pv i σ H → g y σ H fun σ' H' => s1 ⟨Pv (i + 1), rt, nx, Pv (i + 1)⟩ σ' H') (hd : ∀ σ H, Pv xs.length σ H → nx σ H) : ForS S g s1 nx rt (.ref p) σ H :=
  ⟨p, xs, rfl, Pv, h0, .inl fun i H hi ⟨σ, q⟩ => hst i σ H hi q, hs, hd⟩
/-- a list that stands: what is known of the heap is the same at each turn -/
theorem forL (Pv : Nat → L2.St → Prop) (F : FH H L) (m : Src S L p xs) (h0 : Pv 0 σ)
    (hs : ∀ i y σ H, xs[i]? = some y → Pv i σ → FH H L → g y σ H fun σ' H' => s1 ⟨fun σ H => Pv (i + 1) σ ∧ FH H L, rt, nx, fun σ H => Pv (i + 1) σ ∧ FH H L⟩ σ' H') (hd : ∀ σ H, Pv xs.length σ → FH H L → nx σ H) : ForS S g s1 nx rt (.ref p) σ H :=
  forS (fun i σ H => Pv i σ ∧ FH H L) ⟨h0, F⟩ (fun i σ H _ q => m.rdS q.2) (fun i y σ H e q => hs i y σ H e q.1 q.2) fun σ H q => hd σ H q.1 q.2
/-- the turns one by one over a known tuple -/
def forKS (S : Sta) (a : Addr) (u : HO) (g : TG) (s1 : TS) (P bk : K0) (rt : VK) : List V → L2.St → Hp → Prop
  | [], σ, H => P σ H
  | x :: xs, σ, H => g x σ H fun σ' H' => s1 ⟨fun σ H => RdS S H a u ∧ forKS S a u g s1 P bk rt xs σ H, rt, bk, fun σ H => RdS S H a u ∧ forKS S a u g s1 P bk rt xs σ H⟩ σ' H'
theorem forSU {k : Bool} (rd : RdS S H p (if k then .lst xs else .tup xs)) (Post : K0) (h : forKS S p (if k then .lst xs else .tup xs) g s1 Post nx rt xs σ H) (hp : ∀ σ H, Post σ H → nx σ H) : ForS S g s1 nx rt (.ref p) σ H := by
  refine ⟨p, xs, rfl, fun i σ H => RdS S H p (if k then .lst xs else .tup xs) ∧ forKS S p (if k then .lst xs else .tup xs) g s1 Post nx rt (xs.drop i) σ H, ⟨rd, by rw [List.drop_zero]; exact h⟩, ?_, fun i y σ H e q => ?_, fun σ H q => ?_⟩
  · cases k with
    | true => exact .inl fun i H _ ⟨σ, q, _⟩ => q
    | false => exact .inr fun i H _ ⟨σ, q, _⟩ => q
  · obtain ⟨_, q⟩ := q
    have hi := (List.getElem?_eq_some_iff.mp e)
    rw [List.drop_eq_getElem_cons hi.1, hi.2] at q
    exact q
  · obtain ⟨_, q⟩ := q
    rw [List.drop_length] at q
    exact hp σ H q
theorem forTU (F : FH H L) (m : (p, Is (.tup xs)) ∈ L) (h : forKS S p (.tup xs) g s1 nx nx rt xs σ H) : ForS S g s1 nx rt (.ref p) σ H := forSU (k := false) (.inl (.inl (F.get m))) nx h fun _ _ h => h
theorem forLU (F : FH H L) (m : (p, Is (.lst xs)) ∈ L) (h : forKS S p (.lst xs) g s1 nx nx rt xs σ H) : ForS S g s1 nx rt (.ref p) σ H := forSU (k := true) (.inl (.inl (F.get m))) nx h fun _ _ h => h
theorem x_forKS {a : Addr} {u : HO} (h : g x σ H fun σ' H' => s1 ⟨fun σ H => RdS S H a u ∧ forKS S a u g s1 nx bk rt xs σ H, rt, bk, fun σ H => RdS S H a u ∧ forKS S a u g s1 nx bk rt xs σ H⟩ σ' H') : forKS S a u g s1 nx bk rt (x :: xs) σ H := h
theorem x_forKS0 {a : Addr} {u : HO} (h : nx σ H) : forKS S a u g s1 nx bk rt [] σ H := h
theorem x_rdT (F : FH H L) (m : (p, Is (.tup xs)) ∈ L) (h : A) : RdS S H p (.tup xs) ∧ A := ⟨.inl (.inl (F.get m)), h⟩
theorem x_rdL (F : FH H L) (m : (p, Is (.lst xs)) ∈ L) (h : A) : RdS S H p (.lst xs) ∧ A := ⟨.inl (.inl (F.get m)), h⟩
/-! comprehensions -/
def LcS (S : Sta) (g : TG) (tt : TT) (tel : TE) (vs : List Nat) (Q : VK) (x : V) (σ : L2.St) (H1 : Hp) : Prop := ∃ a xs, x = .ref a ∧ ∃ k : Bool, RdS S H1 a (if k then .lst xs else .tup xs) ∧ ∀ D, H1 D = none → ∃ Pv : Nat → Hp → Prop, Pv 0 (upd H1 D (.lst [])) ∧ (∀ i H, i ≤ xs.length → Pv i H → RdS S H a (if k then .lst xs else .tup xs)) ∧
  (∀ i y H, xs[i]? = some y → Pv i H → g y (wipe σ vs) H fun σ2 H2 => wipe σ2 vs = wipe σ vs ∧ tt σ2 H2 fun b H3 => if b = true then tel σ2 H3 fun z H4 => ∃ acc, H4 D = some (.lst acc) ∧ acc.length < sizeLine ∧ Pv (i + 1) (upd H4 D (.lst (acc ++ [z]))) else Pv (i + 1) H3) ∧
  ∀ H, Pv xs.length H → Q (.ref D) H
theorem x_lcE {tt : TT} {tel : TE} {vs : List Nat} (h : te σ H fun x H1 => LcS S g tt tel vs Q x σ H1) : eLc S te g tt tel vs σ H Q := h
theorem x_wipe {σ2 σw : L2.St} {vs : List Nat} (e : wipe σ2 vs = σw) (h : A) : wipe σ2 vs = σw ∧ A := ⟨e, h⟩
theorem x_yes (h : QB true H) : tYes σ H QB := h
/-- a comprehension over a list that stands, whose element leaves the heap as it is -/
theorem lcFM {tt : TT} {tel : TE} {vs : List Nat} {σw : L2.St} (f : V → V) (keep : V → Bool) (F : FH H L) (m : Src S L p xs) (z : xs.length < 16777216) (ew : wipe σ vs = σw)
    (hs : ∀ y H (QX : V → Hp → Prop) (A : Hp → Prop), y ∈ xs → FH H L → (keep y = true → QX (f y) H) → (keep y = false → A H) → g y σw H fun σ2 H2 => wipe σ2 vs = σw ∧ tt σ2 H2 fun b H3 => if b = true then tel σ2 H3 QX else A H3)
    (hd : ∀ D H', FH H' ((D, Is (.lst ((xs.filter keep).map f))) :: L) → Q (.ref D) H') : LcS S g tt tel vs Q (.ref p) σ H := by
  have rd : ∀ H, FH H L → RdS S H p (.lst xs) := fun H F => m.rdS F
  subst ew
  refine ⟨p, xs, rfl, true, rd H F, fun D hD => ⟨fun i H => FH H ((D, Is (.lst (((xs.take i).filter keep).map f))) :: L), F.new hD, fun i H _ q => rd H q.tail, fun i y H e q => ?_, fun H q => hd D H ?_⟩⟩
  · have hi : i < xs.length := (List.getElem?_eq_some_iff.mp e).1
    have et : xs.take (i + 1) = xs.take i ++ [y] := by rw [List.take_add_one, e]; rfl
    refine hs y H _ _ (List.mem_of_getElem? e) q.tail (fun k => ⟨_, q.get (List.Mem.head _), ?_, ?_⟩) fun k => ?_
    · have h1 : (((xs.take i).filter keep).map f).length ≤ i := by
        rw [List.length_map]
        exact Nat.le_trans (List.length_filter_le _ _) (by rw [List.length_take]; exact Nat.min_le_left _ _)
      rw [sizeLine_eq]; omega
    · show FH _ ((D, Is (.lst (((xs.take (i + 1)).filter keep).map f))) :: L)
      rw [et, List.filter_append, List.map_append]
      have e1 : ([y].filter keep).map f = [f y] := by simp [k]
      rw [e1]
      exact q.put .here trivial
    · show FH _ ((D, Is (.lst (((xs.take (i + 1)).filter keep).map f))) :: L)
      rw [et, List.filter_append, List.map_append]
      have e1 : ([y].filter keep).map f = [] := by simp [k]
      rw [e1, List.append_nil]
      exact q
  · have q : FH H ((D, Is (.lst (((xs.take xs.length).filter keep).map f))) :: L) := q
    rw [List.take_length] at q
    exact q
/-- .. of ints by a map of ints -/
theorem lcII {ns : List Int} {tel : TE} {vs : List Nat} {σw : L2.St} (f : Int → Int) (F : FH H L) (m : Src S L p (ns.map V.int)) (z : ns.length < 16777216) (ew : wipe σ vs = σw)
    (hs : ∀ y H (QX : V → Hp → Prop), y ∈ ns → FH H L → QX (.int (f y)) H → g (.int y) σw H fun σ2 H2 => wipe σ2 vs = σw ∧ tel σ2 H2 QX)
    (hd : ∀ D H', FH H' ((D, Is (.lst ((ns.map f).map V.int))) :: L) → Q (.ref D) H') : LcS S g tYes tel vs Q (.ref p) σ H := by
  refine lcFM (xs := ns.map V.int) (fun v => match v with | .int i => .int (f i) | v => v) (fun _ => true) F m (by rw [List.length_map]; exact z) ew (fun y H QX A hy F' hk hA => ?_) fun D H' F' => hd D H' ?_
  · obtain ⟨n, hn, e⟩ := List.mem_map.mp hy
    subst e
    exact hs n H QX hn F' (hk rfl)
  · have e : ((ns.map V.int).filter fun _ => true).map (fun v => match v with | .int i => V.int (f i) | v => v) = (ns.map f).map V.int := by
      rw [List.filter_eq_self.mpr (fun _ _ => rfl), List.map_map, List.map_map]
      rfl
    rw [e] at F'
    exact F'
/-- .. of ints, with a test -/
theorem lcIK {ns : List Int} {tt : TT} {tel : TE} {vs : List Nat} {σw : L2.St} (f : Int → Int) (keep : Int → Bool) (F : FH H L) (m : Src S L p (ns.map V.int)) (z : ns.length < 16777216) (ew : wipe σ vs = σw)
    (hs : ∀ y H (QX : V → Hp → Prop) (A : Hp → Prop), y ∈ ns → FH H L → (keep y = true → QX (.int (f y)) H) → (keep y = false → A H) → g (.int y) σw H fun σ2 H2 => wipe σ2 vs = σw ∧ tt σ2 H2 fun b H3 => if b = true then tel σ2 H3 QX else A H3)
    (hd : ∀ D H', FH H' ((D, Is (.lst (((ns.filter keep).map f).map V.int))) :: L) → Q (.ref D) H') : LcS S g tt tel vs Q (.ref p) σ H := by
  refine lcFM (xs := ns.map V.int) (fun v => match v with | .int i => .int (f i) | v => v) (fun v => match v with | .int i => keep i | _ => false) F m (by rw [List.length_map]; exact z) ew (fun y H QX A hy F' hk hA => ?_) fun D H' F' => hd D H' ?_
  · obtain ⟨n, hn, e⟩ := List.mem_map.mp hy
    subst e
    exact hs n H QX A hn F' hk hA
  · have e : ((ns.map V.int).filter fun v => match v with | .int i => keep i | _ => false).map (fun v => match v with | .int i => V.int (f i) | v => v) = ((ns.filter keep).map f).map V.int := by
      rw [List.filter_map, List.map_map, List.map_map]
      rfl
    rw [e] at F'
    exact F'
/-- a known list, the turns one by one -/
def lcPut (D : Addr) (z : V) (k : Hp → Prop) (H : Hp) : Prop := ∃ acc, H D = some (.lst acc) ∧ acc.length < sizeLine ∧ k (upd H D (.lst (acc ++ [z])))
theorem x_lcPut {D : Addr} {z : V} {acc : List V} {k : Hp → Prop} {L' : List Ent} (F : FH H L) (pu : Put D (Is (.lst acc)) (Is (.lst (acc ++ [z]))) L L') (sz : acc.length < 16777216) (h : ∀ H', FH H' L' → k H') : lcPut D z k H :=
  ⟨acc, F.get pu.mem, by rw [sizeLine_eq]; exact sz, h _ (F.put pu trivial)⟩
def lcKS (S : Sta) (a : Addr) (u : HO) (g : TG) (tt : TT) (tel : TE) (vs : List Nat) (σw : L2.St) (D : Addr) (Q : VK) : List V → Hp → Prop
  | [], H => Q (.ref D) H
  | x :: xs, H => g x σw H fun σ2 H2 => wipe σ2 vs = σw ∧ tt σ2 H2 fun b H3 => if b = true then tel σ2 H3 fun z H4 => lcPut D z (fun H => RdS S H a u ∧ lcKS S a u g tt tel vs σw D Q xs H) H4 else RdS S H3 a u ∧ lcKS S a u g tt tel vs σw D Q xs H3
theorem lcLU {tt : TT} {tel : TE} {vs : List Nat} {σw : L2.St} (F : FH H L) (m : (p, Is (.lst xs)) ∈ L) (ew : wipe σ vs = σw) (h : ∀ D H', FH H' ((D, Is (.lst [])) :: L) → lcKS S p (.lst xs) g tt tel vs σw D Q xs H') : LcS S g tt tel vs Q (.ref p) σ H := by
  subst ew
  refine ⟨p, xs, rfl, true, .inl (.inl (F.get m)), fun D hD => ⟨fun i H => RdS S H p (.lst xs) ∧ lcKS S p (.lst xs) g tt tel vs (wipe σ vs) D Q (xs.drop i) H, ⟨.inl (.inl ((F.new hD).get (List.mem_cons_of_mem _ m))), by rw [List.drop_zero]; exact h D _ (F.new hD)⟩, fun i H _ q => q.1, fun i y H e q => ?_, fun H q => ?_⟩⟩
  · obtain ⟨_, q⟩ := q
    have hi := (List.getElem?_eq_some_iff.mp e)
    rw [List.drop_eq_getElem_cons hi.1, hi.2] at q
    exact q
  · obtain ⟨_, q⟩ := q
    rw [List.drop_length] at q
    exact q
theorem x_lcKS {a D : Addr} {u : HO} {tt : TT} {tel : TE} {vs : List Nat} {σw : L2.St} (h : g x σw H fun σ2 H2 => wipe σ2 vs = σw ∧ tt σ2 H2 fun b H3 => if b = true then tel σ2 H3 fun z H4 => lcPut D z (fun H => RdS S H a u ∧ lcKS S a u g tt tel vs σw D Q xs H) H4 else RdS S H3 a u ∧ lcKS S a u g tt tel vs σw D Q xs H3) : lcKS S a u g tt tel vs σw D Q (x :: xs) H := h
theorem x_lcKS0 {a D : Addr} {u : HO} {tt : TT} {tel : TE} {vs : List Nat} {σw : L2.St} (h : Q (.ref D) H) : lcKS S a u g tt tel vs σw D Q [] H := h
/-- all are True -/
def AllT : Pr := lift fun o => ∃ bs : List Bool, o = .lst (bs.map V.bl) ∧ bs.all id = true
theorem lcT {tel : TE} {vs : List Nat} {σw : L2.St} (F : FH H L) (m : Src S L p xs) (z : xs.length < 16777216) (ew : wipe σ vs = σw)
    (hs : ∀ y H (QX : V → Hp → Prop), y ∈ xs → FH H L → QX (.bl true) H → g y σw H fun σ2 H2 => wipe σ2 vs = σw ∧ tel σ2 H2 QX)
    (hd : ∀ D H', FH H' ((D, AllT) :: L) → Q (.ref D) H') : LcS S g tYes tel vs Q (.ref p) σ H := by
  refine lcFM (fun _ => .bl true) (fun _ => true) F m z ew (fun y H QX A hy F' hk hA => hs y H QX hy F' (hk rfl)) fun D H' F' => hd D H' (F'.close (φ := fun o => ∃ bs : List Bool, o = .lst (bs.map V.bl) ∧ bs.all id = true) ⟨List.replicate xs.length true, ?_, ?_⟩ .here)
  · rw [List.filter_eq_self.mpr (fun _ _ => rfl)]
    congr 1
    clear m z hs F'
    induction xs with
    | nil => rfl
    | cons x xs ih => rw [List.map_cons, List.length_cons, List.replicate_succ, List.map_cons, ih]
  · generalize xs.length = n
    induction n with
    | zero => rfl
    | succ n ih => rw [List.replicate_succ, List.all_cons, ih]; rfl
theorem x_allT (F : FH H L) (m : (p, AllT) ∈ L) (h : Q (.bl true) H) : rAll S [.ref p] H Q := by
  obtain ⟨o, ho, bs, e, hb⟩ := F.is m
  subst e
  exact ⟨p, bs, rfl, .inl (.inl ho), by rw [hb]; exact h⟩
theorem Src.cons {L : List Ent} {x : Ent} (m : Src S L p xs) : Src S (x :: L) p xs := by
  cases m with
  | is m => exact .is (List.mem_cons_of_mem _ m)
  | rd m => exact .rd (List.mem_cons_of_mem _ m)
  | st m => exact .st m
theorem cutV_take {n : Nat} (h : xs.length ≤ n) : cutV xs none (some (n : Int)) = xs := by
  unfold cutV
  rw [HT.sIx_none, HT.sIx_nat, List.drop_zero, Nat.sub_zero, Nat.min_eq_right h, List.take_length]
/-! fields -/
theorem look_hit {f : Str} {v : V} {t : List (Str × V)} : List.lookup f ((f, v) :: t) = some v := by simp [List.lookup]
theorem look_nil {f : Str} : List.lookup f ([] : List (Str × V)) = none := rfl
theorem look_miss {f g : Str} {v : V} {r : Option V} {t : List (Str × V)} (h : ¬ f = g) (e : List.lookup f t = r) : List.lookup f ((g, v) :: t) = r := by
  have h' : (f == g) = false := by simpa using h
  simp only [List.lookup, h']
  exact e
theorem put_nil {f : Str} {v : V} : putF f v [] = [(f, v)] := rfl
theorem put_hit {f : Str} {v w : V} {t : List (Str × V)} : putF f v ((f, w) :: t) = (f, v) :: t := by
  show (if f = f then _ else _) = _
  rw [if_pos rfl]
theorem put_miss {f g : Str} {v w : V} {t t' : List (Str × V)} (h : ¬ g = f) (e : putF f v t = t') : putF f v ((g, w) :: t) = (g, w) :: t' := by
  show (if g = f then _ else _) = _
  rw [if_neg h, e]
/-! == of flat lists and tuples -/
def flatOk : V → Bool
  | .non => true
  | .bl _ => true
  | .int _ => true
  | .str s => PyData.canLay0 (.str s)
  | _ => false
def flatD : V → PyData
  | .bl b => .bool b
  | .int i => .int i
  | .str s => .str s
  | _ => .none
def eqvF (xs ys : List V) : Bool := PyData.eqvAll (xs.map flatD) (ys.map flatD)
theorem dp_flat {v : V} (h : flatOk v = true) : DpS S H v (flatD v) := by
  cases v with
  | non => exact .non
  | bl b => exact .bl b
  | int i => exact .int i
  | str s => exact .str s
  | _ => cases h
theorem dps_flat : ∀ {xs : List V}, xs.all flatOk = true → DpSs S H xs (xs.map flatD)
  | [], _ => .nil
  | x :: xs, h => by
    rw [List.all_cons, Bool.and_eq_true] at h
    exact .cons (dp_flat h.1) (dps_flat h.2)
theorem lay_flat : ∀ {xs : List V}, xs.all flatOk = true → PyData.canLayAll0 (xs.map flatD) = true ∧ PyData.depthAll (xs.map flatD) = 0
  | [], _ => ⟨rfl, rfl⟩
  | x :: xs, h => by
    rw [List.all_cons, Bool.and_eq_true] at h
    obtain ⟨h1, h2⟩ := lay_flat h.2
    rw [List.map_cons]
    have e : PyData.canLay0 (flatD x) = true ∧ PyData.depth (flatD x) = 0 := by
      cases x with
      | non => exact ⟨rfl, rfl⟩
      | bl b => exact ⟨rfl, rfl⟩
      | int i => exact ⟨rfl, rfl⟩
      | str s => exact ⟨h.1, rfl⟩
      | _ => cases h.1
    constructor
    · rw [PyData.canLayAll0, e.1, h1]; rfl
    · rw [PyData.depthAll, e.2, h2]; rfl
theorem shaped_flatL {xs : List V} (h : xs.all flatOk = true) : SeqAt.shaped (.list (xs.map flatD)) = true := by
  obtain ⟨h1, h2⟩ := lay_flat h
  unfold SeqAt.shaped
  rw [PyData.canLay0, h1, PyData.depth, h2]
  rfl
theorem shaped_flatT {xs : List V} (h : xs.all flatOk = true) : SeqAt.shaped (.tuple (xs.map flatD)) = true := by
  obtain ⟨h1, h2⟩ := lay_flat h
  unfold SeqAt.shaped
  rw [PyData.canLay0, h1, PyData.depth, h2]
  rfl
theorem eqv_nil : eqvF [] [] = true := rfl
theorem eqv_nc {x : V} {xs : List V} : eqvF [] (x :: xs) = false := rfl
theorem eqv_cn {x : V} {xs : List V} : eqvF (x :: xs) [] = false := rfl
theorem eqv_int {i j : Int} {xs ys : List V} : eqvF (.int i :: xs) (.int j :: ys) = (decide (i = j) && eqvF xs ys) := by
  show (i == j && _) = _
  rfl
theorem eqv_bl {i j : Bool} {xs ys : List V} : eqvF (.bl i :: xs) (.bl j :: ys) = (decide (i = j) && eqvF xs ys) := by
  show (i == j && _) = _
  cases i <;> cases j <;> rfl
theorem eqv_str {i j : Str} {xs ys : List V} : eqvF (.str i :: xs) (.str j :: ys) = (decide (i = j) && eqvF xs ys) := by
  show (i == j && _) = _
  congr 1
theorem eqv_ints : ∀ {ns ms : List Int}, eqvF (ns.map V.int) (ms.map V.int) = decide (ns = ms)
  | [], [] => rfl
  | [], _ :: _ => rfl
  | _ :: _, [] => rfl
  | n :: ns, m :: ms => by
    rw [List.map_cons, List.map_cons, eqv_int, eqv_ints, Bool.eq_iff_iff]
    simp only [Bool.and_eq_true, decide_eq_true_eq, List.cons.injEq]
theorem flat_ints : ∀ {ns : List Int}, (ns.map V.int).all flatOk = true
  | [] => rfl
  | _ :: ns => by rw [List.map_cons, List.all_cons, flat_ints]; rfl
theorem x_eqPL (F : FH H L) {q : Addr} {ys : List V} {b : Bool} (m : (p, Is (.lst xs)) ∈ L) (n : (q, Is (.lst ys)) ∈ L) (f1 : xs.all flatOk = true) (f2 : ys.all flatOk = true) (e : eqvF xs ys = b) (h : Q (.bl b) H) : rEqP S (.ref p) (.ref q) H Q :=
  .inr ⟨_, _, .lst (.inl (.inl (F.get m))) (dps_flat f1), .lst (.inl (.inl (F.get n))) (dps_flat f2), shaped_flatL f1, shaped_flatL f2, by
    show Q (.bl (eqvF xs ys)) H
    rw [e]; exact h⟩
theorem x_nePL (F : FH H L) {q : Addr} {ys : List V} {b : Bool} (m : (p, Is (.lst xs)) ∈ L) (n : (q, Is (.lst ys)) ∈ L) (f1 : xs.all flatOk = true) (f2 : ys.all flatOk = true) (e : eqvF xs ys = b) (h : Q (.bl (!b)) H) : rNeP S (.ref p) (.ref q) H Q :=
  .inr ⟨_, _, .lst (.inl (.inl (F.get m))) (dps_flat f1), .lst (.inl (.inl (F.get n))) (dps_flat f2), shaped_flatL f1, shaped_flatL f2, by
    show Q (.bl (!eqvF xs ys)) H
    rw [e]; exact h⟩
theorem is_eqP (h : rEqP S x y H Q) : rEqP S x y H Q := h
theorem is_neP (h : rNeP S x y H Q) : rNeP S x y H Q := h
theorem x_eqPI (h : Q (.bl (decide (i = j))) H) : rEqP S (.int i) (.int j) H Q := .inl (x_eqI h)
theorem x_nePI (h : Q (.bl (decide (i ≠ j))) H) : rNeP S (.int i) (.int j) H Q := .inl (x_neI h)
theorem x_eqPB {a b : Bool} (h : Q (.bl (decide (a = b))) H) : rEqP S (.bl a) (.bl b) H Q := .inl (x_eqB h)
theorem x_nePB {a b : Bool} (h : Q (.bl (decide (a ≠ b))) H) : rNeP S (.bl a) (.bl b) H Q := .inl (x_neB h)
theorem x_eqPS {a b : Str} (h : Q (.bl (decide (a = b))) H) : rEqP S (.str a) (.str b) H Q := .inl (x_eqS h)
theorem x_nePS {a b : Str} (h : Q (.bl (decide (a ≠ b))) H) : rNeP S (.str a) (.str b) H Q := .inl (x_neS h)
/-! small built-ins -/
theorem x_abs (h : Q (.int (if i < 0 then -i else i)) H) : rAbs [.int i] H Q := ⟨i, rfl, h⟩
theorem x_min2 (h : Q (.int (min i j)) H) : rMin2 [.int i, .int j] H Q := ⟨i, j, rfl, by rw [show (if j < i then j else i) = min i j by omega]; exact h⟩
theorem x_max2 (h : Q (.int (max i j)) H) : rMax2 [.int i, .int j] H Q := ⟨i, j, rfl, by rw [show (if j > i then j else i) = max i j by omega]; exact h⟩
theorem x_sumL {ns : List Int} (F : FH H L) (m : (p, Is (.lst (ns.map V.int))) ∈ L) (h : Q (.int ns.sum) H) : rSum S [.ref p] H Q := ⟨p, ns, rfl, .inl (.inl (F.get m)), h⟩
theorem x_allL {bs : List Bool} (F : FH H L) (m : (p, Is (.lst xs)) ∈ L) (e : xs = bs.map V.bl) (h : Q (.bl (bs.all id)) H) : rAll S [.ref p] H Q := ⟨p, bs, rfl, .inl (.inl (by rw [← e]; exact F.get m)), h⟩
theorem x_cat (F : FH H L) {q : Addr} {ys : List V} (m : (p, Is (.lst xs)) ∈ L) (n : (q, Is (.lst ys)) ∈ L) (z : (xs ++ ys).length ≤ sizeLine) (h : ∀ r H', H r = none → FH H' ((r, Is (.lst (xs ++ ys))) :: L) → Q (.ref r) H') : rAdd (.ref p) (.ref q) H Q :=
  .inr (.inr ⟨p, q, xs, ys, rfl, rfl, F.get m, F.get n, by rw [← List.length_append]; exact z, fun r hr => h r _ hr (F.new hr)⟩)
theorem x_prop {C : Addr} (h : te σ H fun x H1 => ∃ a dx fs, x = .ref a ∧ H1 a = some (.ins C dx fs) ∧ sp [.ref a] H1 Q E0) : eProp C sp te σ H Q := h
theorem x_propG {C : Addr} {B : Addr → Prop} (F : FH H L) (m : (p, Is (.ins C dx fs)) ∈ L) (h : B p) : ∃ a dx fs, V.ref p = .ref a ∧ H a = some (.ins C dx fs) ∧ B a := ⟨p, dx, fs, rfl, F.get m, h⟩
theorem x_augF {C : Addr} {rd : V → V → Hp → VK → Prop} (h : te σ H fun x H1 => ∃ a dx fs v, x = .ref a ∧ H1 a = some (.ins C dx fs) ∧ fs.lookup f = some v ∧
  tb σ H1 fun y H2 => rd v y H2 fun z H3 => ∃ dx' fs', H3 a = some (.ins C dx' fs') ∧ fs'.length < 1000 ∧ nx σ (upd H3 a (.ins C dx' (putF f z fs')))) : sAugF C f te tb rd ⟨nx, rt, bk, ct⟩ σ H := h
theorem x_augFG {C : Addr} {QAV : Addr → V → Prop} (F : FH H L) (m : (p, Is (.ins C dx fs)) ∈ L) (l : fs.lookup f = some v) (h : QAV p v) : ∃ a dx fs v, V.ref p = .ref a ∧ H a = some (.ins C dx fs) ∧ fs.lookup f = some v ∧ QAV a v := ⟨p, dx, fs, v, rfl, F.get m, l, h⟩
theorem x_augFS {C : Addr} {z : V} {QH : Hp → Prop} {fs' : List (Str × V)} (F : FH H L) (m : (p, Is (.ins C dx fs)) ∈ L) (hl : fs.length < 1000) (e : putF f z fs = fs') (pu : Put p (Is (.ins C dx fs)) (Is (.ins C dx fs')) L L') (h : ∀ H', FH H' L' → QH H') : ∃ dx' fs', H p = some (.ins C dx' fs') ∧ fs'.length < 1000 ∧ QH (upd H p (.ins C dx' (putF f z fs'))) :=
  ⟨dx, fs, F.get m, hl, by rw [e]; exact h _ (F.put pu trivial)⟩
theorem x_inAdd (h : Q (.int (i + j)) H) : rInAdd (.int i) (.int j) H Q := ⟨i, j, rfl, rfl, h⟩
theorem x_inSub (h : Q (.int (i - j)) H) : rInSub (.int i) (.int j) H Q := ⟨i, j, rfl, rfl, h⟩
/-! places -/
theorem atI_at {α : Type} {xs : List α} {j : Nat} {v : α} (e : i = (j : Int)) (h : xs[j]? = some v) : atI xs i = some v := by subst e; exact atI_nat h
theorem ixN_at {n j : Nat} (e : i = (j : Int)) (h : j < n) : ixN n i = some j := by
  subst e
  unfold ixN
  rw [if_pos (by omega), if_pos (by omega)]
  simp
theorem atI_ints {ns : List Int} (h0 : 0 ≤ i) (h1 : i < ((ns.map V.int).length : Int)) : atI (ns.map V.int) i = some (.int (ns.getD i.toNat 0)) := by
  have hl : i.toNat < ns.length := by rw [List.length_map] at h1; omega
  refine atI_at (j := i.toNat) (by omega) ?_
  rw [List.getElem?_map, List.getElem?_eq_getElem hl, List.getD_eq_getElem?_getD, List.getElem?_eq_getElem hl]
  rfl
theorem getD_nn {ns : List Int} (h : ∀ n ∈ ns, 0 ≤ n) (k : Nat) : 0 ≤ ns.getD k 0 := by
  rw [List.getD_eq_getElem?_getD]
  cases e : ns[k]? with
  | none => exact Int.le_refl 0
  | some z => exact h z (List.mem_of_getElem? e)
theorem ixN_b {n j : Nat} (e : i = (j : Int)) (h : Nat.blt j n = true) : ixN n i = some j := ixN_at e (by simpa [Nat.blt_eq] using h)
theorem ixN_i {n : Nat} (h0 : 0 ≤ i) (h1 : i < (n : Int)) : ixN n i = some i.toNat := by
  unfold ixN
  rw [if_pos h0, if_pos h1]
theorem len_leB {xs : List V} (h : Nat.ble xs.length 16777216 = true) : xs.length ≤ sizeLine := by rw [sizeLine_eq]; exact Nat.le_of_ble_eq_true h
theorem len_ltB {xs : List V} (h : Nat.blt xs.length 16777216 = true) : xs.length < sizeLine := by rw [sizeLine_eq]; simpa [Nat.blt_eq] using h
theorem f_lt {fs : List (Str × V)} (h : Nat.blt fs.length 1000 = true) : fs.length < 1000 := by simpa [Nat.blt_eq] using h
theorem len_leN {xs : List V} (h : xs.length ≤ 16777216) : xs.length ≤ sizeLine := by rw [sizeLine_eq]; exact h
theorem len_ltN {xs : List V} (h : xs.length < 16777216) : xs.length < sizeLine := by rw [sizeLine_eq]; exact h
theorem len_le {xs : List V} {n : Nat} (e : xs.length = n) (h : n ≤ 16777216) : xs.length ≤ sizeLine := by rw [e, sizeLine_eq]; exact h
theorem len_lt {xs : List V} {n : Nat} (e : xs.length = n) (h : n < 16777216) : xs.length < sizeLine := by rw [e, sizeLine_eq]; exact h
theorem div_small (h1 : 0 < j) (h2 : j < 18446744073709551616) : CDivW i j := wide_div (b := 64) h1 (by omega) (by decide) (by decide)
theorem mulL (h1 : -18446744073709551616 < i) (h2 : i < 18446744073709551616) : CMul i j := .inl ⟨h1, h2⟩
theorem mulR (h1 : -18446744073709551616 < j) (h2 : j < 18446744073709551616) : CMul i j := .inr ⟨h1, h2⟩

theorem x_pw10_1 (h : Q (.int 10) H) : rPow (.int 10) (.int 1) H Q := x_pow ⟨by decide, by decide, by decide⟩ (by rw [show (10 : Int) ^ (Int.toNat 1) = 10 by decide]; exact h)
theorem x_pw10_2 (h : Q (.int 100) H) : rPow (.int 10) (.int 2) H Q := x_pow ⟨by decide, by decide, by decide⟩ (by rw [show (10 : Int) ^ (Int.toNat 2) = 100 by decide]; exact h)
theorem x_pw10_3 (h : Q (.int 1000) H) : rPow (.int 10) (.int 3) H Q := x_pow ⟨by decide, by decide, by decide⟩ (by rw [show (10 : Int) ^ (Int.toNat 3) = 1000 by decide]; exact h)
theorem x_pw10_4 (h : Q (.int 10000) H) : rPow (.int 10) (.int 4) H Q := x_pow ⟨by decide, by decide, by decide⟩ (by rw [show (10 : Int) ^ (Int.toNat 4) = 10000 by decide]; exact h)
theorem x_pw10_5 (h : Q (.int 100000) H) : rPow (.int 10) (.int 5) H Q := x_pow ⟨by decide, by decide, by decide⟩ (by rw [show (10 : Int) ^ (Int.toNat 5) = 100000 by decide]; exact h)
theorem x_pw10_6 (h : Q (.int 1000000) H) : rPow (.int 10) (.int 6) H Q := x_pow ⟨by decide, by decide, by decide⟩ (by rw [show (10 : Int) ^ (Int.toNat 6) = 1000000 by decide]; exact h)
theorem x_pw10_7 (h : Q (.int 10000000) H) : rPow (.int 10) (.int 7) H Q := x_pow ⟨by decide, by decide, by decide⟩ (by rw [show (10 : Int) ^ (Int.toNat 7) = 10000000 by decide]; exact h)
theorem x_pw10_8 (h : Q (.int 100000000) H) : rPow (.int 10) (.int 8) H Q := x_pow ⟨by decide, by decide, by decide⟩ (by rw [show (10 : Int) ^ (Int.toNat 8) = 100000000 by decide]; exact h)
theorem x_pw10_9 (h : Q (.int 1000000000) H) : rPow (.int 10) (.int 9) H Q := x_pow ⟨by decide, by decide, by decide⟩ (by rw [show (10 : Int) ^ (Int.toNat 9) = 1000000000 by decide]; exact h)
theorem x_pw10_10 (h : Q (.int 10000000000) H) : rPow (.int 10) (.int 10) H Q := x_pow ⟨by decide, by decide, by decide⟩ (by rw [show (10 : Int) ^ (Int.toNat 10) = 10000000000 by decide]; exact h)
theorem x_pw10_11 (h : Q (.int 100000000000) H) : rPow (.int 10) (.int 11) H Q := x_pow ⟨by decide, by decide, by decide⟩ (by rw [show (10 : Int) ^ (Int.toNat 11) = 100000000000 by decide]; exact h)
theorem x_pw10_12 (h : Q (.int 1000000000000) H) : rPow (.int 10) (.int 12) H Q := x_pow ⟨by decide, by decide, by decide⟩ (by rw [show (10 : Int) ^ (Int.toNat 12) = 1000000000000 by decide]; exact h)
theorem x_pw10_13 (h : Q (.int 10000000000000) H) : rPow (.int 10) (.int 13) H Q := x_pow ⟨by decide, by decide, by decide⟩ (by rw [show (10 : Int) ^ (Int.toNat 13) = 10000000000000 by decide]; exact h)
theorem x_pw10_14 (h : Q (.int 100000000000000) H) : rPow (.int 10) (.int 14) H Q := x_pow ⟨by decide, by decide, by decide⟩ (by rw [show (10 : Int) ^ (Int.toNat 14) = 100000000000000 by decide]; exact h)
theorem x_pw10_15 (h : Q (.int 1000000000000000) H) : rPow (.int 10) (.int 15) H Q := x_pow ⟨by decide, by decide, by decide⟩ (by rw [show (10 : Int) ^ (Int.toNat 15) = 1000000000000000 by decide]; exact h)
theorem x_pw10_16 (h : Q (.int 10000000000000000) H) : rPow (.int 10) (.int 16) H Q := x_pow ⟨by decide, by decide, by decide⟩ (by rw [show (10 : Int) ^ (Int.toNat 16) = 10000000000000000 by decide]; exact h)
theorem x_pw10_17 (h : Q (.int 100000000000000000) H) : rPow (.int 10) (.int 17) H Q := x_pow ⟨by decide, by decide, by decide⟩ (by rw [show (10 : Int) ^ (Int.toNat 17) = 100000000000000000 by decide]; exact h)
theorem x_pw10_18 (h : Q (.int 1000000000000000000) H) : rPow (.int 10) (.int 18) H Q := x_pow ⟨by decide, by decide, by decide⟩ (by rw [show (10 : Int) ^ (Int.toNat 18) = 1000000000000000000 by decide]; exact h)
theorem x_pw10_19 (h : Q (.int 10000000000000000000) H) : rPow (.int 10) (.int 19) H Q := x_pow ⟨by decide, by decide, by decide⟩ (by rw [show (10 : Int) ^ (Int.toNat 19) = 10000000000000000000 by decide]; exact h)
theorem x_pw10_20 (h : Q (.int 100000000000000000000) H) : rPow (.int 10) (.int 20) H Q := x_pow ⟨by decide, by decide, by decide⟩ (by rw [show (10 : Int) ^ (Int.toNat 20) = 100000000000000000000 by decide]; exact h)
theorem x_pw10_21 (h : Q (.int 1000000000000000000000) H) : rPow (.int 10) (.int 21) H Q := x_pow ⟨by decide, by decide, by decide⟩ (by rw [show (10 : Int) ^ (Int.toNat 21) = 1000000000000000000000 by decide]; exact h)
theorem x_pw10_22 (h : Q (.int 10000000000000000000000) H) : rPow (.int 10) (.int 22) H Q := x_pow ⟨by decide, by decide, by decide⟩ (by rw [show (10 : Int) ^ (Int.toNat 22) = 10000000000000000000000 by decide]; exact h)
theorem x_pw10_23 (h : Q (.int 100000000000000000000000) H) : rPow (.int 10) (.int 23) H Q := x_pow ⟨by decide, by decide, by decide⟩ (by rw [show (10 : Int) ^ (Int.toNat 23) = 100000000000000000000000 by decide]; exact h)
theorem x_pw10_24 (h : Q (.int 1000000000000000000000000) H) : rPow (.int 10) (.int 24) H Q := x_pow ⟨by decide, by decide, by decide⟩ (by rw [show (10 : Int) ^ (Int.toNat 24) = 1000000000000000000000000 by decide]; exact h)
theorem x_pw2_6 (h : Q (.int 64) H) : rPow (.int 2) (.int 6) H Q := x_pow ⟨by decide, by decide, by decide⟩ (by rw [show (2 : Int) ^ (Int.toNat 6) = 64 by decide]; exact h)
theorem x_pw2_10 (h : Q (.int 1024) H) : rPow (.int 2) (.int 10) H Q := x_pow ⟨by decide, by decide, by decide⟩ (by rw [show (2 : Int) ^ (Int.toNat 10) = 1024 by decide]; exact h)
theorem x_pw2_16 (h : Q (.int 65536) H) : rPow (.int 2) (.int 16) H Q := x_pow ⟨by decide, by decide, by decide⟩ (by rw [show (2 : Int) ^ (Int.toNat 16) = 65536 by decide]; exact h)
theorem x_pw2_20 (h : Q (.int 1048576) H) : rPow (.int 2) (.int 20) H Q := x_pow ⟨by decide, by decide, by decide⟩ (by rw [show (2 : Int) ^ (Int.toNat 20) = 1048576 by decide]; exact h)
theorem x_pw2_30 (h : Q (.int 1073741824) H) : rPow (.int 2) (.int 30) H Q := x_pow ⟨by decide, by decide, by decide⟩ (by rw [show (2 : Int) ^ (Int.toNat 30) = 1073741824 by decide]; exact h)
theorem x_pw2_31 (h : Q (.int 2147483648) H) : rPow (.int 2) (.int 31) H Q := x_pow ⟨by decide, by decide, by decide⟩ (by rw [show (2 : Int) ^ (Int.toNat 31) = 2147483648 by decide]; exact h)
theorem x_pw2_32 (h : Q (.int 4294967296) H) : rPow (.int 2) (.int 32) H Q := x_pow ⟨by decide, by decide, by decide⟩ (by rw [show (2 : Int) ^ (Int.toNat 32) = 4294967296 by decide]; exact h)
theorem x_pw2_40 (h : Q (.int 1099511627776) H) : rPow (.int 2) (.int 40) H Q := x_pow ⟨by decide, by decide, by decide⟩ (by rw [show (2 : Int) ^ (Int.toNat 40) = 1099511627776 by decide]; exact h)
theorem x_pw2_48 (h : Q (.int 281474976710656) H) : rPow (.int 2) (.int 48) H Q := x_pow ⟨by decide, by decide, by decide⟩ (by rw [show (2 : Int) ^ (Int.toNat 48) = 281474976710656 by decide]; exact h)
theorem x_pw2_60 (h : Q (.int 1152921504606846976) H) : rPow (.int 2) (.int 60) H Q := x_pow ⟨by decide, by decide, by decide⟩ (by rw [show (2 : Int) ^ (Int.toNat 60) = 1152921504606846976 by decide]; exact h)
theorem x_pw2_62 (h : Q (.int 4611686018427387904) H) : rPow (.int 2) (.int 62) H Q := x_pow ⟨by decide, by decide, by decide⟩ (by rw [show (2 : Int) ^ (Int.toNat 62) = 4611686018427387904 by decide]; exact h)
theorem x_pw2_63 (h : Q (.int 9223372036854775808) H) : rPow (.int 2) (.int 63) H Q := x_pow ⟨by decide, by decide, by decide⟩ (by rw [show (2 : Int) ^ (Int.toNat 63) = 9223372036854775808 by decide]; exact h)
theorem x_pw2_64 (h : Q (.int 18446744073709551616) H) : rPow (.int 2) (.int 64) H Q := x_pow ⟨by decide, by decide, by decide⟩ (by rw [show (2 : Int) ^ (Int.toNat 64) = 18446744073709551616 by decide]; exact h)
theorem x_v0 {σ : L2.St} (h : Q v H) : tVar 0 (some v :: σ) H Q := ⟨v, rfl, h⟩
theorem x_g0 {x : Option V} {σ : L2.St} (h : QS (some v :: σ) H) : gName 0 v (x :: σ) H QS := h
theorem x_ml0 {σ : L2.St} (h : tMake C sp [] E tl (some (.ref C) :: σ) H Q) : eMakeL 0 C sp [] E tl (some (.ref C) :: σ) H Q := ⟨rfl, h⟩
theorem x_au0 {te : TE} {ti : TIp} {σ : L2.St} (h : te (some x :: σ) H fun y H1 => ti x y H1 fun z H2 => nx (some z :: σ) H2) : tAug 0 te ti ⟨nx, rt, bk, ct⟩ (some x :: σ) H := ⟨x, rfl, h⟩
theorem x_v1 {a0 : Option V} {σ : L2.St} (h : Q v H) : tVar 1 (a0 :: some v :: σ) H Q := ⟨v, rfl, h⟩
theorem x_g1 {a0 : Option V} {x : Option V} {σ : L2.St} (h : QS (a0 :: some v :: σ) H) : gName 1 v (a0 :: x :: σ) H QS := h
theorem x_ml1 {a0 : Option V} {σ : L2.St} (h : tMake C sp [] E tl (a0 :: some (.ref C) :: σ) H Q) : eMakeL 1 C sp [] E tl (a0 :: some (.ref C) :: σ) H Q := ⟨rfl, h⟩
theorem x_au1 {te : TE} {ti : TIp} {a0 : Option V} {σ : L2.St} (h : te (a0 :: some x :: σ) H fun y H1 => ti x y H1 fun z H2 => nx (a0 :: some z :: σ) H2) : tAug 1 te ti ⟨nx, rt, bk, ct⟩ (a0 :: some x :: σ) H := ⟨x, rfl, h⟩
theorem x_v2 {a0 a1 : Option V} {σ : L2.St} (h : Q v H) : tVar 2 (a0 :: a1 :: some v :: σ) H Q := ⟨v, rfl, h⟩
theorem x_g2 {a0 a1 : Option V} {x : Option V} {σ : L2.St} (h : QS (a0 :: a1 :: some v :: σ) H) : gName 2 v (a0 :: a1 :: x :: σ) H QS := h
theorem x_ml2 {a0 a1 : Option V} {σ : L2.St} (h : tMake C sp [] E tl (a0 :: a1 :: some (.ref C) :: σ) H Q) : eMakeL 2 C sp [] E tl (a0 :: a1 :: some (.ref C) :: σ) H Q := ⟨rfl, h⟩
theorem x_au2 {te : TE} {ti : TIp} {a0 a1 : Option V} {σ : L2.St} (h : te (a0 :: a1 :: some x :: σ) H fun y H1 => ti x y H1 fun z H2 => nx (a0 :: a1 :: some z :: σ) H2) : tAug 2 te ti ⟨nx, rt, bk, ct⟩ (a0 :: a1 :: some x :: σ) H := ⟨x, rfl, h⟩
theorem x_v3 {a0 a1 a2 : Option V} {σ : L2.St} (h : Q v H) : tVar 3 (a0 :: a1 :: a2 :: some v :: σ) H Q := ⟨v, rfl, h⟩
theorem x_g3 {a0 a1 a2 : Option V} {x : Option V} {σ : L2.St} (h : QS (a0 :: a1 :: a2 :: some v :: σ) H) : gName 3 v (a0 :: a1 :: a2 :: x :: σ) H QS := h
theorem x_ml3 {a0 a1 a2 : Option V} {σ : L2.St} (h : tMake C sp [] E tl (a0 :: a1 :: a2 :: some (.ref C) :: σ) H Q) : eMakeL 3 C sp [] E tl (a0 :: a1 :: a2 :: some (.ref C) :: σ) H Q := ⟨rfl, h⟩
theorem x_au3 {te : TE} {ti : TIp} {a0 a1 a2 : Option V} {σ : L2.St} (h : te (a0 :: a1 :: a2 :: some x :: σ) H fun y H1 => ti x y H1 fun z H2 => nx (a0 :: a1 :: a2 :: some z :: σ) H2) : tAug 3 te ti ⟨nx, rt, bk, ct⟩ (a0 :: a1 :: a2 :: some x :: σ) H := ⟨x, rfl, h⟩
theorem x_v4 {a0 a1 a2 a3 : Option V} {σ : L2.St} (h : Q v H) : tVar 4 (a0 :: a1 :: a2 :: a3 :: some v :: σ) H Q := ⟨v, rfl, h⟩
theorem x_g4 {a0 a1 a2 a3 : Option V} {x : Option V} {σ : L2.St} (h : QS (a0 :: a1 :: a2 :: a3 :: some v :: σ) H) : gName 4 v (a0 :: a1 :: a2 :: a3 :: x :: σ) H QS := h
theorem x_ml4 {a0 a1 a2 a3 : Option V} {σ : L2.St} (h : tMake C sp [] E tl (a0 :: a1 :: a2 :: a3 :: some (.ref C) :: σ) H Q) : eMakeL 4 C sp [] E tl (a0 :: a1 :: a2 :: a3 :: some (.ref C) :: σ) H Q := ⟨rfl, h⟩
theorem x_au4 {te : TE} {ti : TIp} {a0 a1 a2 a3 : Option V} {σ : L2.St} (h : te (a0 :: a1 :: a2 :: a3 :: some x :: σ) H fun y H1 => ti x y H1 fun z H2 => nx (a0 :: a1 :: a2 :: a3 :: some z :: σ) H2) : tAug 4 te ti ⟨nx, rt, bk, ct⟩ (a0 :: a1 :: a2 :: a3 :: some x :: σ) H := ⟨x, rfl, h⟩
theorem x_v5 {a0 a1 a2 a3 a4 : Option V} {σ : L2.St} (h : Q v H) : tVar 5 (a0 :: a1 :: a2 :: a3 :: a4 :: some v :: σ) H Q := ⟨v, rfl, h⟩
theorem x_g5 {a0 a1 a2 a3 a4 : Option V} {x : Option V} {σ : L2.St} (h : QS (a0 :: a1 :: a2 :: a3 :: a4 :: some v :: σ) H) : gName 5 v (a0 :: a1 :: a2 :: a3 :: a4 :: x :: σ) H QS := h
theorem x_ml5 {a0 a1 a2 a3 a4 : Option V} {σ : L2.St} (h : tMake C sp [] E tl (a0 :: a1 :: a2 :: a3 :: a4 :: some (.ref C) :: σ) H Q) : eMakeL 5 C sp [] E tl (a0 :: a1 :: a2 :: a3 :: a4 :: some (.ref C) :: σ) H Q := ⟨rfl, h⟩
theorem x_au5 {te : TE} {ti : TIp} {a0 a1 a2 a3 a4 : Option V} {σ : L2.St} (h : te (a0 :: a1 :: a2 :: a3 :: a4 :: some x :: σ) H fun y H1 => ti x y H1 fun z H2 => nx (a0 :: a1 :: a2 :: a3 :: a4 :: some z :: σ) H2) : tAug 5 te ti ⟨nx, rt, bk, ct⟩ (a0 :: a1 :: a2 :: a3 :: a4 :: some x :: σ) H := ⟨x, rfl, h⟩
theorem x_v6 {a0 a1 a2 a3 a4 a5 : Option V} {σ : L2.St} (h : Q v H) : tVar 6 (a0 :: a1 :: a2 :: a3 :: a4 :: a5 :: some v :: σ) H Q := ⟨v, rfl, h⟩
theorem x_g6 {a0 a1 a2 a3 a4 a5 : Option V} {x : Option V} {σ : L2.St} (h : QS (a0 :: a1 :: a2 :: a3 :: a4 :: a5 :: some v :: σ) H) : gName 6 v (a0 :: a1 :: a2 :: a3 :: a4 :: a5 :: x :: σ) H QS := h
theorem x_ml6 {a0 a1 a2 a3 a4 a5 : Option V} {σ : L2.St} (h : tMake C sp [] E tl (a0 :: a1 :: a2 :: a3 :: a4 :: a5 :: some (.ref C) :: σ) H Q) : eMakeL 6 C sp [] E tl (a0 :: a1 :: a2 :: a3 :: a4 :: a5 :: some (.ref C) :: σ) H Q := ⟨rfl, h⟩
theorem x_au6 {te : TE} {ti : TIp} {a0 a1 a2 a3 a4 a5 : Option V} {σ : L2.St} (h : te (a0 :: a1 :: a2 :: a3 :: a4 :: a5 :: some x :: σ) H fun y H1 => ti x y H1 fun z H2 => nx (a0 :: a1 :: a2 :: a3 :: a4 :: a5 :: some z :: σ) H2) : tAug 6 te ti ⟨nx, rt, bk, ct⟩ (a0 :: a1 :: a2 :: a3 :: a4 :: a5 :: some x :: σ) H := ⟨x, rfl, h⟩
theorem x_v7 {a0 a1 a2 a3 a4 a5 a6 : Option V} {σ : L2.St} (h : Q v H) : tVar 7 (a0 :: a1 :: a2 :: a3 :: a4 :: a5 :: a6 :: some v :: σ) H Q := ⟨v, rfl, h⟩
theorem x_g7 {a0 a1 a2 a3 a4 a5 a6 : Option V} {x : Option V} {σ : L2.St} (h : QS (a0 :: a1 :: a2 :: a3 :: a4 :: a5 :: a6 :: some v :: σ) H) : gName 7 v (a0 :: a1 :: a2 :: a3 :: a4 :: a5 :: a6 :: x :: σ) H QS := h
theorem x_ml7 {a0 a1 a2 a3 a4 a5 a6 : Option V} {σ : L2.St} (h : tMake C sp [] E tl (a0 :: a1 :: a2 :: a3 :: a4 :: a5 :: a6 :: some (.ref C) :: σ) H Q) : eMakeL 7 C sp [] E tl (a0 :: a1 :: a2 :: a3 :: a4 :: a5 :: a6 :: some (.ref C) :: σ) H Q := ⟨rfl, h⟩
theorem x_au7 {te : TE} {ti : TIp} {a0 a1 a2 a3 a4 a5 a6 : Option V} {σ : L2.St} (h : te (a0 :: a1 :: a2 :: a3 :: a4 :: a5 :: a6 :: some x :: σ) H fun y H1 => ti x y H1 fun z H2 => nx (a0 :: a1 :: a2 :: a3 :: a4 :: a5 :: a6 :: some z :: σ) H2) : tAug 7 te ti ⟨nx, rt, bk, ct⟩ (a0 :: a1 :: a2 :: a3 :: a4 :: a5 :: a6 :: some x :: σ) H := ⟨x, rfl, h⟩
theorem x_v8 {a0 a1 a2 a3 a4 a5 a6 a7 : Option V} {σ : L2.St} (h : Q v H) : tVar 8 (a0 :: a1 :: a2 :: a3 :: a4 :: a5 :: a6 :: a7 :: some v :: σ) H Q := ⟨v, rfl, h⟩
theorem x_g8 {a0 a1 a2 a3 a4 a5 a6 a7 : Option V} {x : Option V} {σ : L2.St} (h : QS (a0 :: a1 :: a2 :: a3 :: a4 :: a5 :: a6 :: a7 :: some v :: σ) H) : gName 8 v (a0 :: a1 :: a2 :: a3 :: a4 :: a5 :: a6 :: a7 :: x :: σ) H QS := h
theorem x_ml8 {a0 a1 a2 a3 a4 a5 a6 a7 : Option V} {σ : L2.St} (h : tMake C sp [] E tl (a0 :: a1 :: a2 :: a3 :: a4 :: a5 :: a6 :: a7 :: some (.ref C) :: σ) H Q) : eMakeL 8 C sp [] E tl (a0 :: a1 :: a2 :: a3 :: a4 :: a5 :: a6 :: a7 :: some (.ref C) :: σ) H Q := ⟨rfl, h⟩
theorem x_au8 {te : TE} {ti : TIp} {a0 a1 a2 a3 a4 a5 a6 a7 : Option V} {σ : L2.St} (h : te (a0 :: a1 :: a2 :: a3 :: a4 :: a5 :: a6 :: a7 :: some x :: σ) H fun y H1 => ti x y H1 fun z H2 => nx (a0 :: a1 :: a2 :: a3 :: a4 :: a5 :: a6 :: a7 :: some z :: σ) H2) : tAug 8 te ti ⟨nx, rt, bk, ct⟩ (a0 :: a1 :: a2 :: a3 :: a4 :: a5 :: a6 :: a7 :: some x :: σ) H := ⟨x, rfl, h⟩
theorem x_v9 {a0 a1 a2 a3 a4 a5 a6 a7 a8 : Option V} {σ : L2.St} (h : Q v H) : tVar 9 (a0 :: a1 :: a2 :: a3 :: a4 :: a5 :: a6 :: a7 :: a8 :: some v :: σ) H Q := ⟨v, rfl, h⟩
theorem x_g9 {a0 a1 a2 a3 a4 a5 a6 a7 a8 : Option V} {x : Option V} {σ : L2.St} (h : QS (a0 :: a1 :: a2 :: a3 :: a4 :: a5 :: a6 :: a7 :: a8 :: some v :: σ) H) : gName 9 v (a0 :: a1 :: a2 :: a3 :: a4 :: a5 :: a6 :: a7 :: a8 :: x :: σ) H QS := h
theorem x_ml9 {a0 a1 a2 a3 a4 a5 a6 a7 a8 : Option V} {σ : L2.St} (h : tMake C sp [] E tl (a0 :: a1 :: a2 :: a3 :: a4 :: a5 :: a6 :: a7 :: a8 :: some (.ref C) :: σ) H Q) : eMakeL 9 C sp [] E tl (a0 :: a1 :: a2 :: a3 :: a4 :: a5 :: a6 :: a7 :: a8 :: some (.ref C) :: σ) H Q := ⟨rfl, h⟩
theorem x_au9 {te : TE} {ti : TIp} {a0 a1 a2 a3 a4 a5 a6 a7 a8 : Option V} {σ : L2.St} (h : te (a0 :: a1 :: a2 :: a3 :: a4 :: a5 :: a6 :: a7 :: a8 :: some x :: σ) H fun y H1 => ti x y H1 fun z H2 => nx (a0 :: a1 :: a2 :: a3 :: a4 :: a5 :: a6 :: a7 :: a8 :: some z :: σ) H2) : tAug 9 te ti ⟨nx, rt, bk, ct⟩ (a0 :: a1 :: a2 :: a3 :: a4 :: a5 :: a6 :: a7 :: a8 :: some x :: σ) H := ⟨x, rfl, h⟩
theorem x_v10 {a0 a1 a2 a3 a4 a5 a6 a7 a8 a9 : Option V} {σ : L2.St} (h : Q v H) : tVar 10 (a0 :: a1 :: a2 :: a3 :: a4 :: a5 :: a6 :: a7 :: a8 :: a9 :: some v :: σ) H Q := ⟨v, rfl, h⟩
theorem x_g10 {a0 a1 a2 a3 a4 a5 a6 a7 a8 a9 : Option V} {x : Option V} {σ : L2.St} (h : QS (a0 :: a1 :: a2 :: a3 :: a4 :: a5 :: a6 :: a7 :: a8 :: a9 :: some v :: σ) H) : gName 10 v (a0 :: a1 :: a2 :: a3 :: a4 :: a5 :: a6 :: a7 :: a8 :: a9 :: x :: σ) H QS := h
theorem x_ml10 {a0 a1 a2 a3 a4 a5 a6 a7 a8 a9 : Option V} {σ : L2.St} (h : tMake C sp [] E tl (a0 :: a1 :: a2 :: a3 :: a4 :: a5 :: a6 :: a7 :: a8 :: a9 :: some (.ref C) :: σ) H Q) : eMakeL 10 C sp [] E tl (a0 :: a1 :: a2 :: a3 :: a4 :: a5 :: a6 :: a7 :: a8 :: a9 :: some (.ref C) :: σ) H Q := ⟨rfl, h⟩
theorem x_au10 {te : TE} {ti : TIp} {a0 a1 a2 a3 a4 a5 a6 a7 a8 a9 : Option V} {σ : L2.St} (h : te (a0 :: a1 :: a2 :: a3 :: a4 :: a5 :: a6 :: a7 :: a8 :: a9 :: some x :: σ) H fun y H1 => ti x y H1 fun z H2 => nx (a0 :: a1 :: a2 :: a3 :: a4 :: a5 :: a6 :: a7 :: a8 :: a9 :: some z :: σ) H2) : tAug 10 te ti ⟨nx, rt, bk, ct⟩ (a0 :: a1 :: a2 :: a3 :: a4 :: a5 :: a6 :: a7 :: a8 :: a9 :: some x :: σ) H := ⟨x, rfl, h⟩
theorem x_v11 {a0 a1 a2 a3 a4 a5 a6 a7 a8 a9 a10 : Option V} {σ : L2.St} (h : Q v H) : tVar 11 (a0 :: a1 :: a2 :: a3 :: a4 :: a5 :: a6 :: a7 :: a8 :: a9 :: a10 :: some v :: σ) H Q := ⟨v, rfl, h⟩
theorem x_g11 {a0 a1 a2 a3 a4 a5 a6 a7 a8 a9 a10 : Option V} {x : Option V} {σ : L2.St} (h : QS (a0 :: a1 :: a2 :: a3 :: a4 :: a5 :: a6 :: a7 :: a8 :: a9 :: a10 :: some v :: σ) H) : gName 11 v (a0 :: a1 :: a2 :: a3 :: a4 :: a5 :: a6 :: a7 :: a8 :: a9 :: a10 :: x :: σ) H QS := h
theorem x_ml11 {a0 a1 a2 a3 a4 a5 a6 a7 a8 a9 a10 : Option V} {σ : L2.St} (h : tMake C sp [] E tl (a0 :: a1 :: a2 :: a3 :: a4 :: a5 :: a6 :: a7 :: a8 :: a9 :: a10 :: some (.ref C) :: σ) H Q) : eMakeL 11 C sp [] E tl (a0 :: a1 :: a2 :: a3 :: a4 :: a5 :: a6 :: a7 :: a8 :: a9 :: a10 :: some (.ref C) :: σ) H Q := ⟨rfl, h⟩
theorem x_au11 {te : TE} {ti : TIp} {a0 a1 a2 a3 a4 a5 a6 a7 a8 a9 a10 : Option V} {σ : L2.St} (h : te (a0 :: a1 :: a2 :: a3 :: a4 :: a5 :: a6 :: a7 :: a8 :: a9 :: a10 :: some x :: σ) H fun y H1 => ti x y H1 fun z H2 => nx (a0 :: a1 :: a2 :: a3 :: a4 :: a5 :: a6 :: a7 :: a8 :: a9 :: a10 :: some z :: σ) H2) : tAug 11 te ti ⟨nx, rt, bk, ct⟩ (a0 :: a1 :: a2 :: a3 :: a4 :: a5 :: a6 :: a7 :: a8 :: a9 :: a10 :: some x :: σ) H := ⟨x, rfl, h⟩
theorem x_v12 {a0 a1 a2 a3 a4 a5 a6 a7 a8 a9 a10 a11 : Option V} {σ : L2.St} (h : Q v H) : tVar 12 (a0 :: a1 :: a2 :: a3 :: a4 :: a5 :: a6 :: a7 :: a8 :: a9 :: a10 :: a11 :: some v :: σ) H Q := ⟨v, rfl, h⟩
theorem x_g12 {a0 a1 a2 a3 a4 a5 a6 a7 a8 a9 a10 a11 : Option V} {x : Option V} {σ : L2.St} (h : QS (a0 :: a1 :: a2 :: a3 :: a4 :: a5 :: a6 :: a7 :: a8 :: a9 :: a10 :: a11 :: some v :: σ) H) : gName 12 v (a0 :: a1 :: a2 :: a3 :: a4 :: a5 :: a6 :: a7 :: a8 :: a9 :: a10 :: a11 :: x :: σ) H QS := h
theorem x_ml12 {a0 a1 a2 a3 a4 a5 a6 a7 a8 a9 a10 a11 : Option V} {σ : L2.St} (h : tMake C sp [] E tl (a0 :: a1 :: a2 :: a3 :: a4 :: a5 :: a6 :: a7 :: a8 :: a9 :: a10 :: a11 :: some (.ref C) :: σ) H Q) : eMakeL 12 C sp [] E tl (a0 :: a1 :: a2 :: a3 :: a4 :: a5 :: a6 :: a7 :: a8 :: a9 :: a10 :: a11 :: some (.ref C) :: σ) H Q := ⟨rfl, h⟩
theorem x_au12 {te : TE} {ti : TIp} {a0 a1 a2 a3 a4 a5 a6 a7 a8 a9 a10 a11 : Option V} {σ : L2.St} (h : te (a0 :: a1 :: a2 :: a3 :: a4 :: a5 :: a6 :: a7 :: a8 :: a9 :: a10 :: a11 :: some x :: σ) H fun y H1 => ti x y H1 fun z H2 => nx (a0 :: a1 :: a2 :: a3 :: a4 :: a5 :: a6 :: a7 :: a8 :: a9 :: a10 :: a11 :: some z :: σ) H2) : tAug 12 te ti ⟨nx, rt, bk, ct⟩ (a0 :: a1 :: a2 :: a3 :: a4 :: a5 :: a6 :: a7 :: a8 :: a9 :: a10 :: a11 :: some x :: σ) H := ⟨x, rfl, h⟩
theorem x_v13 {a0 a1 a2 a3 a4 a5 a6 a7 a8 a9 a10 a11 a12 : Option V} {σ : L2.St} (h : Q v H) : tVar 13 (a0 :: a1 :: a2 :: a3 :: a4 :: a5 :: a6 :: a7 :: a8 :: a9 :: a10 :: a11 :: a12 :: some v :: σ) H Q := ⟨v, rfl, h⟩
theorem x_g13 {a0 a1 a2 a3 a4 a5 a6 a7 a8 a9 a10 a11 a12 : Option V} {x : Option V} {σ : L2.St} (h : QS (a0 :: a1 :: a2 :: a3 :: a4 :: a5 :: a6 :: a7 :: a8 :: a9 :: a10 :: a11 :: a12 :: some v :: σ) H) : gName 13 v (a0 :: a1 :: a2 :: a3 :: a4 :: a5 :: a6 :: a7 :: a8 :: a9 :: a10 :: a11 :: a12 :: x :: σ) H QS := h
theorem x_ml13 {a0 a1 a2 a3 a4 a5 a6 a7 a8 a9 a10 a11 a12 : Option V} {σ : L2.St} (h : tMake C sp [] E tl (a0 :: a1 :: a2 :: a3 :: a4 :: a5 :: a6 :: a7 :: a8 :: a9 :: a10 :: a11 :: a12 :: some (.ref C) :: σ) H Q) : eMakeL 13 C sp [] E tl (a0 :: a1 :: a2 :: a3 :: a4 :: a5 :: a6 :: a7 :: a8 :: a9 :: a10 :: a11 :: a12 :: some (.ref C) :: σ) H Q := ⟨rfl, h⟩
theorem x_au13 {te : TE} {ti : TIp} {a0 a1 a2 a3 a4 a5 a6 a7 a8 a9 a10 a11 a12 : Option V} {σ : L2.St} (h : te (a0 :: a1 :: a2 :: a3 :: a4 :: a5 :: a6 :: a7 :: a8 :: a9 :: a10 :: a11 :: a12 :: some x :: σ) H fun y H1 => ti x y H1 fun z H2 => nx (a0 :: a1 :: a2 :: a3 :: a4 :: a5 :: a6 :: a7 :: a8 :: a9 :: a10 :: a11 :: a12 :: some z :: σ) H2) : tAug 13 te ti ⟨nx, rt, bk, ct⟩ (a0 :: a1 :: a2 :: a3 :: a4 :: a5 :: a6 :: a7 :: a8 :: a9 :: a10 :: a11 :: a12 :: some x :: σ) H := ⟨x, rfl, h⟩
theorem x_v14 {a0 a1 a2 a3 a4 a5 a6 a7 a8 a9 a10 a11 a12 a13 : Option V} {σ : L2.St} (h : Q v H) : tVar 14 (a0 :: a1 :: a2 :: a3 :: a4 :: a5 :: a6 :: a7 :: a8 :: a9 :: a10 :: a11 :: a12 :: a13 :: some v :: σ) H Q := ⟨v, rfl, h⟩
theorem x_g14 {a0 a1 a2 a3 a4 a5 a6 a7 a8 a9 a10 a11 a12 a13 : Option V} {x : Option V} {σ : L2.St} (h : QS (a0 :: a1 :: a2 :: a3 :: a4 :: a5 :: a6 :: a7 :: a8 :: a9 :: a10 :: a11 :: a12 :: a13 :: some v :: σ) H) : gName 14 v (a0 :: a1 :: a2 :: a3 :: a4 :: a5 :: a6 :: a7 :: a8 :: a9 :: a10 :: a11 :: a12 :: a13 :: x :: σ) H QS := h
theorem x_ml14 {a0 a1 a2 a3 a4 a5 a6 a7 a8 a9 a10 a11 a12 a13 : Option V} {σ : L2.St} (h : tMake C sp [] E tl (a0 :: a1 :: a2 :: a3 :: a4 :: a5 :: a6 :: a7 :: a8 :: a9 :: a10 :: a11 :: a12 :: a13 :: some (.ref C) :: σ) H Q) : eMakeL 14 C sp [] E tl (a0 :: a1 :: a2 :: a3 :: a4 :: a5 :: a6 :: a7 :: a8 :: a9 :: a10 :: a11 :: a12 :: a13 :: some (.ref C) :: σ) H Q := ⟨rfl, h⟩
theorem x_au14 {te : TE} {ti : TIp} {a0 a1 a2 a3 a4 a5 a6 a7 a8 a9 a10 a11 a12 a13 : Option V} {σ : L2.St} (h : te (a0 :: a1 :: a2 :: a3 :: a4 :: a5 :: a6 :: a7 :: a8 :: a9 :: a10 :: a11 :: a12 :: a13 :: some x :: σ) H fun y H1 => ti x y H1 fun z H2 => nx (a0 :: a1 :: a2 :: a3 :: a4 :: a5 :: a6 :: a7 :: a8 :: a9 :: a10 :: a11 :: a12 :: a13 :: some z :: σ) H2) : tAug 14 te ti ⟨nx, rt, bk, ct⟩ (a0 :: a1 :: a2 :: a3 :: a4 :: a5 :: a6 :: a7 :: a8 :: a9 :: a10 :: a11 :: a12 :: a13 :: some x :: σ) H := ⟨x, rfl, h⟩
theorem x_v15 {a0 a1 a2 a3 a4 a5 a6 a7 a8 a9 a10 a11 a12 a13 a14 : Option V} {σ : L2.St} (h : Q v H) : tVar 15 (a0 :: a1 :: a2 :: a3 :: a4 :: a5 :: a6 :: a7 :: a8 :: a9 :: a10 :: a11 :: a12 :: a13 :: a14 :: some v :: σ) H Q := ⟨v, rfl, h⟩
theorem x_g15 {a0 a1 a2 a3 a4 a5 a6 a7 a8 a9 a10 a11 a12 a13 a14 : Option V} {x : Option V} {σ : L2.St} (h : QS (a0 :: a1 :: a2 :: a3 :: a4 :: a5 :: a6 :: a7 :: a8 :: a9 :: a10 :: a11 :: a12 :: a13 :: a14 :: some v :: σ) H) : gName 15 v (a0 :: a1 :: a2 :: a3 :: a4 :: a5 :: a6 :: a7 :: a8 :: a9 :: a10 :: a11 :: a12 :: a13 :: a14 :: x :: σ) H QS := h
theorem x_ml15 {a0 a1 a2 a3 a4 a5 a6 a7 a8 a9 a10 a11 a12 a13 a14 : Option V} {σ : L2.St} (h : tMake C sp [] E tl (a0 :: a1 :: a2 :: a3 :: a4 :: a5 :: a6 :: a7 :: a8 :: a9 :: a10 :: a11 :: a12 :: a13 :: a14 :: some (.ref C) :: σ) H Q) : eMakeL 15 C sp [] E tl (a0 :: a1 :: a2 :: a3 :: a4 :: a5 :: a6 :: a7 :: a8 :: a9 :: a10 :: a11 :: a12 :: a13 :: a14 :: some (.ref C) :: σ) H Q := ⟨rfl, h⟩
theorem x_au15 {te : TE} {ti : TIp} {a0 a1 a2 a3 a4 a5 a6 a7 a8 a9 a10 a11 a12 a13 a14 : Option V} {σ : L2.St} (h : te (a0 :: a1 :: a2 :: a3 :: a4 :: a5 :: a6 :: a7 :: a8 :: a9 :: a10 :: a11 :: a12 :: a13 :: a14 :: some x :: σ) H fun y H1 => ti x y H1 fun z H2 => nx (a0 :: a1 :: a2 :: a3 :: a4 :: a5 :: a6 :: a7 :: a8 :: a9 :: a10 :: a11 :: a12 :: a13 :: a14 :: some z :: σ) H2) : tAug 15 te ti ⟨nx, rt, bk, ct⟩ (a0 :: a1 :: a2 :: a3 :: a4 :: a5 :: a6 :: a7 :: a8 :: a9 :: a10 :: a11 :: a12 :: a13 :: a14 :: some x :: σ) H := ⟨x, rfl, h⟩
theorem x_v16 {a0 a1 a2 a3 a4 a5 a6 a7 a8 a9 a10 a11 a12 a13 a14 a15 : Option V} {σ : L2.St} (h : Q v H) : tVar 16 (a0 :: a1 :: a2 :: a3 :: a4 :: a5 :: a6 :: a7 :: a8 :: a9 :: a10 :: a11 :: a12 :: a13 :: a14 :: a15 :: some v :: σ) H Q := ⟨v, rfl, h⟩
theorem x_g16 {a0 a1 a2 a3 a4 a5 a6 a7 a8 a9 a10 a11 a12 a13 a14 a15 : Option V} {x : Option V} {σ : L2.St} (h : QS (a0 :: a1 :: a2 :: a3 :: a4 :: a5 :: a6 :: a7 :: a8 :: a9 :: a10 :: a11 :: a12 :: a13 :: a14 :: a15 :: some v :: σ) H) : gName 16 v (a0 :: a1 :: a2 :: a3 :: a4 :: a5 :: a6 :: a7 :: a8 :: a9 :: a10 :: a11 :: a12 :: a13 :: a14 :: a15 :: x :: σ) H QS := h
theorem x_ml16 {a0 a1 a2 a3 a4 a5 a6 a7 a8 a9 a10 a11 a12 a13 a14 a15 : Option V} {σ : L2.St} (h : tMake C sp [] E tl (a0 :: a1 :: a2 :: a3 :: a4 :: a5 :: a6 :: a7 :: a8 :: a9 :: a10 :: a11 :: a12 :: a13 :: a14 :: a15 :: some (.ref C) :: σ) H Q) : eMakeL 16 C sp [] E tl (a0 :: a1 :: a2 :: a3 :: a4 :: a5 :: a6 :: a7 :: a8 :: a9 :: a10 :: a11 :: a12 :: a13 :: a14 :: a15 :: some (.ref C) :: σ) H Q := ⟨rfl, h⟩
theorem x_au16 {te : TE} {ti : TIp} {a0 a1 a2 a3 a4 a5 a6 a7 a8 a9 a10 a11 a12 a13 a14 a15 : Option V} {σ : L2.St} (h : te (a0 :: a1 :: a2 :: a3 :: a4 :: a5 :: a6 :: a7 :: a8 :: a9 :: a10 :: a11 :: a12 :: a13 :: a14 :: a15 :: some x :: σ) H fun y H1 => ti x y H1 fun z H2 => nx (a0 :: a1 :: a2 :: a3 :: a4 :: a5 :: a6 :: a7 :: a8 :: a9 :: a10 :: a11 :: a12 :: a13 :: a14 :: a15 :: some z :: σ) H2) : tAug 16 te ti ⟨nx, rt, bk, ct⟩ (a0 :: a1 :: a2 :: a3 :: a4 :: a5 :: a6 :: a7 :: a8 :: a9 :: a10 :: a11 :: a12 :: a13 :: a14 :: a15 :: some x :: σ) H := ⟨x, rfl, h⟩
theorem x_v17 {a0 a1 a2 a3 a4 a5 a6 a7 a8 a9 a10 a11 a12 a13 a14 a15 a16 : Option V} {σ : L2.St} (h : Q v H) : tVar 17 (a0 :: a1 :: a2 :: a3 :: a4 :: a5 :: a6 :: a7 :: a8 :: a9 :: a10 :: a11 :: a12 :: a13 :: a14 :: a15 :: a16 :: some v :: σ) H Q := ⟨v, rfl, h⟩
theorem x_g17 {a0 a1 a2 a3 a4 a5 a6 a7 a8 a9 a10 a11 a12 a13 a14 a15 a16 : Option V} {x : Option V} {σ : L2.St} (h : QS (a0 :: a1 :: a2 :: a3 :: a4 :: a5 :: a6 :: a7 :: a8 :: a9 :: a10 :: a11 :: a12 :: a13 :: a14 :: a15 :: a16 :: some v :: σ) H) : gName 17 v (a0 :: a1 :: a2 :: a3 :: a4 :: a5 :: a6 :: a7 :: a8 :: a9 :: a10 :: a11 :: a12 :: a13 :: a14 :: a15 :: a16 :: x :: σ) H QS := h
theorem x_ml17 {a0 a1 a2 a3 a4 a5 a6 a7 a8 a9 a10 a11 a12 a13 a14 a15 a16 : Option V} {σ : L2.St} (h : tMake C sp [] E tl (a0 :: a1 :: a2 :: a3 :: a4 :: a5 :: a6 :: a7 :: a8 :: a9 :: a10 :: a11 :: a12 :: a13 :: a14 :: a15 :: a16 :: some (.ref C) :: σ) H Q) : eMakeL 17 C sp [] E tl (a0 :: a1 :: a2 :: a3 :: a4 :: a5 :: a6 :: a7 :: a8 :: a9 :: a10 :: a11 :: a12 :: a13 :: a14 :: a15 :: a16 :: some (.ref C) :: σ) H Q := ⟨rfl, h⟩
theorem x_au17 {te : TE} {ti : TIp} {a0 a1 a2 a3 a4 a5 a6 a7 a8 a9 a10 a11 a12 a13 a14 a15 a16 : Option V} {σ : L2.St} (h : te (a0 :: a1 :: a2 :: a3 :: a4 :: a5 :: a6 :: a7 :: a8 :: a9 :: a10 :: a11 :: a12 :: a13 :: a14 :: a15 :: a16 :: some x :: σ) H fun y H1 => ti x y H1 fun z H2 => nx (a0 :: a1 :: a2 :: a3 :: a4 :: a5 :: a6 :: a7 :: a8 :: a9 :: a10 :: a11 :: a12 :: a13 :: a14 :: a15 :: a16 :: some z :: σ) H2) : tAug 17 te ti ⟨nx, rt, bk, ct⟩ (a0 :: a1 :: a2 :: a3 :: a4 :: a5 :: a6 :: a7 :: a8 :: a9 :: a10 :: a11 :: a12 :: a13 :: a14 :: a15 :: a16 :: some x :: σ) H := ⟨x, rfl, h⟩
theorem x_v18 {a0 a1 a2 a3 a4 a5 a6 a7 a8 a9 a10 a11 a12 a13 a14 a15 a16 a17 : Option V} {σ : L2.St} (h : Q v H) : tVar 18 (a0 :: a1 :: a2 :: a3 :: a4 :: a5 :: a6 :: a7 :: a8 :: a9 :: a10 :: a11 :: a12 :: a13 :: a14 :: a15 :: a16 :: a17 :: some v :: σ) H Q := ⟨v, rfl, h⟩
theorem x_g18 {a0 a1 a2 a3 a4 a5 a6 a7 a8 a9 a10 a11 a12 a13 a14 a15 a16 a17 : Option V} {x : Option V} {σ : L2.St} (h : QS (a0 :: a1 :: a2 :: a3 :: a4 :: a5 :: a6 :: a7 :: a8 :: a9 :: a10 :: a11 :: a12 :: a13 :: a14 :: a15 :: a16 :: a17 :: some v :: σ) H) : gName 18 v (a0 :: a1 :: a2 :: a3 :: a4 :: a5 :: a6 :: a7 :: a8 :: a9 :: a10 :: a11 :: a12 :: a13 :: a14 :: a15 :: a16 :: a17 :: x :: σ) H QS := h
theorem x_ml18 {a0 a1 a2 a3 a4 a5 a6 a7 a8 a9 a10 a11 a12 a13 a14 a15 a16 a17 : Option V} {σ : L2.St} (h : tMake C sp [] E tl (a0 :: a1 :: a2 :: a3 :: a4 :: a5 :: a6 :: a7 :: a8 :: a9 :: a10 :: a11 :: a12 :: a13 :: a14 :: a15 :: a16 :: a17 :: some (.ref C) :: σ) H Q) : eMakeL 18 C sp [] E tl (a0 :: a1 :: a2 :: a3 :: a4 :: a5 :: a6 :: a7 :: a8 :: a9 :: a10 :: a11 :: a12 :: a13 :: a14 :: a15 :: a16 :: a17 :: some (.ref C) :: σ) H Q := ⟨rfl, h⟩
theorem x_au18 {te : TE} {ti : TIp} {a0 a1 a2 a3 a4 a5 a6 a7 a8 a9 a10 a11 a12 a13 a14 a15 a16 a17 : Option V} {σ : L2.St} (h : te (a0 :: a1 :: a2 :: a3 :: a4 :: a5 :: a6 :: a7 :: a8 :: a9 :: a10 :: a11 :: a12 :: a13 :: a14 :: a15 :: a16 :: a17 :: some x :: σ) H fun y H1 => ti x y H1 fun z H2 => nx (a0 :: a1 :: a2 :: a3 :: a4 :: a5 :: a6 :: a7 :: a8 :: a9 :: a10 :: a11 :: a12 :: a13 :: a14 :: a15 :: a16 :: a17 :: some z :: σ) H2) : tAug 18 te ti ⟨nx, rt, bk, ct⟩ (a0 :: a1 :: a2 :: a3 :: a4 :: a5 :: a6 :: a7 :: a8 :: a9 :: a10 :: a11 :: a12 :: a13 :: a14 :: a15 :: a16 :: a17 :: some x :: σ) H := ⟨x, rfl, h⟩
theorem x_v19 {a0 a1 a2 a3 a4 a5 a6 a7 a8 a9 a10 a11 a12 a13 a14 a15 a16 a17 a18 : Option V} {σ : L2.St} (h : Q v H) : tVar 19 (a0 :: a1 :: a2 :: a3 :: a4 :: a5 :: a6 :: a7 :: a8 :: a9 :: a10 :: a11 :: a12 :: a13 :: a14 :: a15 :: a16 :: a17 :: a18 :: some v :: σ) H Q := ⟨v, rfl, h⟩
theorem x_g19 {a0 a1 a2 a3 a4 a5 a6 a7 a8 a9 a10 a11 a12 a13 a14 a15 a16 a17 a18 : Option V} {x : Option V} {σ : L2.St} (h : QS (a0 :: a1 :: a2 :: a3 :: a4 :: a5 :: a6 :: a7 :: a8 :: a9 :: a10 :: a11 :: a12 :: a13 :: a14 :: a15 :: a16 :: a17 :: a18 :: some v :: σ) H) : gName 19 v (a0 :: a1 :: a2 :: a3 :: a4 :: a5 :: a6 :: a7 :: a8 :: a9 :: a10 :: a11 :: a12 :: a13 :: a14 :: a15 :: a16 :: a17 :: a18 :: x :: σ) H QS := h
theorem x_ml19 {a0 a1 a2 a3 a4 a5 a6 a7 a8 a9 a10 a11 a12 a13 a14 a15 a16 a17 a18 : Option V} {σ : L2.St} (h : tMake C sp [] E tl (a0 :: a1 :: a2 :: a3 :: a4 :: a5 :: a6 :: a7 :: a8 :: a9 :: a10 :: a11 :: a12 :: a13 :: a14 :: a15 :: a16 :: a17 :: a18 :: some (.ref C) :: σ) H Q) : eMakeL 19 C sp [] E tl (a0 :: a1 :: a2 :: a3 :: a4 :: a5 :: a6 :: a7 :: a8 :: a9 :: a10 :: a11 :: a12 :: a13 :: a14 :: a15 :: a16 :: a17 :: a18 :: some (.ref C) :: σ) H Q := ⟨rfl, h⟩
theorem x_au19 {te : TE} {ti : TIp} {a0 a1 a2 a3 a4 a5 a6 a7 a8 a9 a10 a11 a12 a13 a14 a15 a16 a17 a18 : Option V} {σ : L2.St} (h : te (a0 :: a1 :: a2 :: a3 :: a4 :: a5 :: a6 :: a7 :: a8 :: a9 :: a10 :: a11 :: a12 :: a13 :: a14 :: a15 :: a16 :: a17 :: a18 :: some x :: σ) H fun y H1 => ti x y H1 fun z H2 => nx (a0 :: a1 :: a2 :: a3 :: a4 :: a5 :: a6 :: a7 :: a8 :: a9 :: a10 :: a11 :: a12 :: a13 :: a14 :: a15 :: a16 :: a17 :: a18 :: some z :: σ) H2) : tAug 19 te ti ⟨nx, rt, bk, ct⟩ (a0 :: a1 :: a2 :: a3 :: a4 :: a5 :: a6 :: a7 :: a8 :: a9 :: a10 :: a11 :: a12 :: a13 :: a14 :: a15 :: a16 :: a17 :: a18 :: some x :: σ) H := ⟨x, rfl, h⟩
theorem x_v20 {a0 a1 a2 a3 a4 a5 a6 a7 a8 a9 a10 a11 a12 a13 a14 a15 a16 a17 a18 a19 : Option V} {σ : L2.St} (h : Q v H) : tVar 20 (a0 :: a1 :: a2 :: a3 :: a4 :: a5 :: a6 :: a7 :: a8 :: a9 :: a10 :: a11 :: a12 :: a13 :: a14 :: a15 :: a16 :: a17 :: a18 :: a19 :: some v :: σ) H Q := ⟨v, rfl, h⟩
theorem x_g20 {a0 a1 a2 a3 a4 a5 a6 a7 a8 a9 a10 a11 a12 a13 a14 a15 a16 a17 a18 a19 : Option V} {x : Option V} {σ : L2.St} (h : QS (a0 :: a1 :: a2 :: a3 :: a4 :: a5 :: a6 :: a7 :: a8 :: a9 :: a10 :: a11 :: a12 :: a13 :: a14 :: a15 :: a16 :: a17 :: a18 :: a19 :: some v :: σ) H) : gName 20 v (a0 :: a1 :: a2 :: a3 :: a4 :: a5 :: a6 :: a7 :: a8 :: a9 :: a10 :: a11 :: a12 :: a13 :: a14 :: a15 :: a16 :: a17 :: a18 :: a19 :: x :: σ) H QS := h
theorem x_ml20 {a0 a1 a2 a3 a4 a5 a6 a7 a8 a9 a10 a11 a12 a13 a14 a15 a16 a17 a18 a19 : Option V} {σ : L2.St} (h : tMake C sp [] E tl (a0 :: a1 :: a2 :: a3 :: a4 :: a5 :: a6 :: a7 :: a8 :: a9 :: a10 :: a11 :: a12 :: a13 :: a14 :: a15 :: a16 :: a17 :: a18 :: a19 :: some (.ref C) :: σ) H Q) : eMakeL 20 C sp [] E tl (a0 :: a1 :: a2 :: a3 :: a4 :: a5 :: a6 :: a7 :: a8 :: a9 :: a10 :: a11 :: a12 :: a13 :: a14 :: a15 :: a16 :: a17 :: a18 :: a19 :: some (.ref C) :: σ) H Q := ⟨rfl, h⟩
theorem x_au20 {te : TE} {ti : TIp} {a0 a1 a2 a3 a4 a5 a6 a7 a8 a9 a10 a11 a12 a13 a14 a15 a16 a17 a18 a19 : Option V} {σ : L2.St} (h : te (a0 :: a1 :: a2 :: a3 :: a4 :: a5 :: a6 :: a7 :: a8 :: a9 :: a10 :: a11 :: a12 :: a13 :: a14 :: a15 :: a16 :: a17 :: a18 :: a19 :: some x :: σ) H fun y H1 => ti x y H1 fun z H2 => nx (a0 :: a1 :: a2 :: a3 :: a4 :: a5 :: a6 :: a7 :: a8 :: a9 :: a10 :: a11 :: a12 :: a13 :: a14 :: a15 :: a16 :: a17 :: a18 :: a19 :: some z :: σ) H2) : tAug 20 te ti ⟨nx, rt, bk, ct⟩ (a0 :: a1 :: a2 :: a3 :: a4 :: a5 :: a6 :: a7 :: a8 :: a9 :: a10 :: a11 :: a12 :: a13 :: a14 :: a15 :: a16 :: a17 :: a18 :: a19 :: some x :: σ) H := ⟨x, rfl, h⟩
theorem x_v21 {a0 a1 a2 a3 a4 a5 a6 a7 a8 a9 a10 a11 a12 a13 a14 a15 a16 a17 a18 a19 a20 : Option V} {σ : L2.St} (h : Q v H) : tVar 21 (a0 :: a1 :: a2 :: a3 :: a4 :: a5 :: a6 :: a7 :: a8 :: a9 :: a10 :: a11 :: a12 :: a13 :: a14 :: a15 :: a16 :: a17 :: a18 :: a19 :: a20 :: some v :: σ) H Q := ⟨v, rfl, h⟩
theorem x_g21 {a0 a1 a2 a3 a4 a5 a6 a7 a8 a9 a10 a11 a12 a13 a14 a15 a16 a17 a18 a19 a20 : Option V} {x : Option V} {σ : L2.St} (h : QS (a0 :: a1 :: a2 :: a3 :: a4 :: a5 :: a6 :: a7 :: a8 :: a9 :: a10 :: a11 :: a12 :: a13 :: a14 :: a15 :: a16 :: a17 :: a18 :: a19 :: a20 :: some v :: σ) H) : gName 21 v (a0 :: a1 :: a2 :: a3 :: a4 :: a5 :: a6 :: a7 :: a8 :: a9 :: a10 :: a11 :: a12 :: a13 :: a14 :: a15 :: a16 :: a17 :: a18 :: a19 :: a20 :: x :: σ) H QS := h
theorem x_ml21 {a0 a1 a2 a3 a4 a5 a6 a7 a8 a9 a10 a11 a12 a13 a14 a15 a16 a17 a18 a19 a20 : Option V} {σ : L2.St} (h : tMake C sp [] E tl (a0 :: a1 :: a2 :: a3 :: a4 :: a5 :: a6 :: a7 :: a8 :: a9 :: a10 :: a11 :: a12 :: a13 :: a14 :: a15 :: a16 :: a17 :: a18 :: a19 :: a20 :: some (.ref C) :: σ) H Q) : eMakeL 21 C sp [] E tl (a0 :: a1 :: a2 :: a3 :: a4 :: a5 :: a6 :: a7 :: a8 :: a9 :: a10 :: a11 :: a12 :: a13 :: a14 :: a15 :: a16 :: a17 :: a18 :: a19 :: a20 :: some (.ref C) :: σ) H Q := ⟨rfl, h⟩
theorem x_au21 {te : TE} {ti : TIp} {a0 a1 a2 a3 a4 a5 a6 a7 a8 a9 a10 a11 a12 a13 a14 a15 a16 a17 a18 a19 a20 : Option V} {σ : L2.St} (h : te (a0 :: a1 :: a2 :: a3 :: a4 :: a5 :: a6 :: a7 :: a8 :: a9 :: a10 :: a11 :: a12 :: a13 :: a14 :: a15 :: a16 :: a17 :: a18 :: a19 :: a20 :: some x :: σ) H fun y H1 => ti x y H1 fun z H2 => nx (a0 :: a1 :: a2 :: a3 :: a4 :: a5 :: a6 :: a7 :: a8 :: a9 :: a10 :: a11 :: a12 :: a13 :: a14 :: a15 :: a16 :: a17 :: a18 :: a19 :: a20 :: some z :: σ) H2) : tAug 21 te ti ⟨nx, rt, bk, ct⟩ (a0 :: a1 :: a2 :: a3 :: a4 :: a5 :: a6 :: a7 :: a8 :: a9 :: a10 :: a11 :: a12 :: a13 :: a14 :: a15 :: a16 :: a17 :: a18 :: a19 :: a20 :: some x :: σ) H := ⟨x, rfl, h⟩
theorem x_v22 {a0 a1 a2 a3 a4 a5 a6 a7 a8 a9 a10 a11 a12 a13 a14 a15 a16 a17 a18 a19 a20 a21 : Option V} {σ : L2.St} (h : Q v H) : tVar 22 (a0 :: a1 :: a2 :: a3 :: a4 :: a5 :: a6 :: a7 :: a8 :: a9 :: a10 :: a11 :: a12 :: a13 :: a14 :: a15 :: a16 :: a17 :: a18 :: a19 :: a20 :: a21 :: some v :: σ) H Q := ⟨v, rfl, h⟩
theorem x_g22 {a0 a1 a2 a3 a4 a5 a6 a7 a8 a9 a10 a11 a12 a13 a14 a15 a16 a17 a18 a19 a20 a21 : Option V} {x : Option V} {σ : L2.St} (h : QS (a0 :: a1 :: a2 :: a3 :: a4 :: a5 :: a6 :: a7 :: a8 :: a9 :: a10 :: a11 :: a12 :: a13 :: a14 :: a15 :: a16 :: a17 :: a18 :: a19 :: a20 :: a21 :: some v :: σ) H) : gName 22 v (a0 :: a1 :: a2 :: a3 :: a4 :: a5 :: a6 :: a7 :: a8 :: a9 :: a10 :: a11 :: a12 :: a13 :: a14 :: a15 :: a16 :: a17 :: a18 :: a19 :: a20 :: a21 :: x :: σ) H QS := h
theorem x_ml22 {a0 a1 a2 a3 a4 a5 a6 a7 a8 a9 a10 a11 a12 a13 a14 a15 a16 a17 a18 a19 a20 a21 : Option V} {σ : L2.St} (h : tMake C sp [] E tl (a0 :: a1 :: a2 :: a3 :: a4 :: a5 :: a6 :: a7 :: a8 :: a9 :: a10 :: a11 :: a12 :: a13 :: a14 :: a15 :: a16 :: a17 :: a18 :: a19 :: a20 :: a21 :: some (.ref C) :: σ) H Q) : eMakeL 22 C sp [] E tl (a0 :: a1 :: a2 :: a3 :: a4 :: a5 :: a6 :: a7 :: a8 :: a9 :: a10 :: a11 :: a12 :: a13 :: a14 :: a15 :: a16 :: a17 :: a18 :: a19 :: a20 :: a21 :: some (.ref C) :: σ) H Q := ⟨rfl, h⟩
theorem x_au22 {te : TE} {ti : TIp} {a0 a1 a2 a3 a4 a5 a6 a7 a8 a9 a10 a11 a12 a13 a14 a15 a16 a17 a18 a19 a20 a21 : Option V} {σ : L2.St} (h : te (a0 :: a1 :: a2 :: a3 :: a4 :: a5 :: a6 :: a7 :: a8 :: a9 :: a10 :: a11 :: a12 :: a13 :: a14 :: a15 :: a16 :: a17 :: a18 :: a19 :: a20 :: a21 :: some x :: σ) H fun y H1 => ti x y H1 fun z H2 => nx (a0 :: a1 :: a2 :: a3 :: a4 :: a5 :: a6 :: a7 :: a8 :: a9 :: a10 :: a11 :: a12 :: a13 :: a14 :: a15 :: a16 :: a17 :: a18 :: a19 :: a20 :: a21 :: some z :: σ) H2) : tAug 22 te ti ⟨nx, rt, bk, ct⟩ (a0 :: a1 :: a2 :: a3 :: a4 :: a5 :: a6 :: a7 :: a8 :: a9 :: a10 :: a11 :: a12 :: a13 :: a14 :: a15 :: a16 :: a17 :: a18 :: a19 :: a20 :: a21 :: some x :: σ) H := ⟨x, rfl, h⟩
theorem x_v23 {a0 a1 a2 a3 a4 a5 a6 a7 a8 a9 a10 a11 a12 a13 a14 a15 a16 a17 a18 a19 a20 a21 a22 : Option V} {σ : L2.St} (h : Q v H) : tVar 23 (a0 :: a1 :: a2 :: a3 :: a4 :: a5 :: a6 :: a7 :: a8 :: a9 :: a10 :: a11 :: a12 :: a13 :: a14 :: a15 :: a16 :: a17 :: a18 :: a19 :: a20 :: a21 :: a22 :: some v :: σ) H Q := ⟨v, rfl, h⟩
theorem x_g23 {a0 a1 a2 a3 a4 a5 a6 a7 a8 a9 a10 a11 a12 a13 a14 a15 a16 a17 a18 a19 a20 a21 a22 : Option V} {x : Option V} {σ : L2.St} (h : QS (a0 :: a1 :: a2 :: a3 :: a4 :: a5 :: a6 :: a7 :: a8 :: a9 :: a10 :: a11 :: a12 :: a13 :: a14 :: a15 :: a16 :: a17 :: a18 :: a19 :: a20 :: a21 :: a22 :: some v :: σ) H) : gName 23 v (a0 :: a1 :: a2 :: a3 :: a4 :: a5 :: a6 :: a7 :: a8 :: a9 :: a10 :: a11 :: a12 :: a13 :: a14 :: a15 :: a16 :: a17 :: a18 :: a19 :: a20 :: a21 :: a22 :: x :: σ) H QS := h
theorem x_ml23 {a0 a1 a2 a3 a4 a5 a6 a7 a8 a9 a10 a11 a12 a13 a14 a15 a16 a17 a18 a19 a20 a21 a22 : Option V} {σ : L2.St} (h : tMake C sp [] E tl (a0 :: a1 :: a2 :: a3 :: a4 :: a5 :: a6 :: a7 :: a8 :: a9 :: a10 :: a11 :: a12 :: a13 :: a14 :: a15 :: a16 :: a17 :: a18 :: a19 :: a20 :: a21 :: a22 :: some (.ref C) :: σ) H Q) : eMakeL 23 C sp [] E tl (a0 :: a1 :: a2 :: a3 :: a4 :: a5 :: a6 :: a7 :: a8 :: a9 :: a10 :: a11 :: a12 :: a13 :: a14 :: a15 :: a16 :: a17 :: a18 :: a19 :: a20 :: a21 :: a22 :: some (.ref C) :: σ) H Q := ⟨rfl, h⟩
theorem x_au23 {te : TE} {ti : TIp} {a0 a1 a2 a3 a4 a5 a6 a7 a8 a9 a10 a11 a12 a13 a14 a15 a16 a17 a18 a19 a20 a21 a22 : Option V} {σ : L2.St} (h : te (a0 :: a1 :: a2 :: a3 :: a4 :: a5 :: a6 :: a7 :: a8 :: a9 :: a10 :: a11 :: a12 :: a13 :: a14 :: a15 :: a16 :: a17 :: a18 :: a19 :: a20 :: a21 :: a22 :: some x :: σ) H fun y H1 => ti x y H1 fun z H2 => nx (a0 :: a1 :: a2 :: a3 :: a4 :: a5 :: a6 :: a7 :: a8 :: a9 :: a10 :: a11 :: a12 :: a13 :: a14 :: a15 :: a16 :: a17 :: a18 :: a19 :: a20 :: a21 :: a22 :: some z :: σ) H2) : tAug 23 te ti ⟨nx, rt, bk, ct⟩ (a0 :: a1 :: a2 :: a3 :: a4 :: a5 :: a6 :: a7 :: a8 :: a9 :: a10 :: a11 :: a12 :: a13 :: a14 :: a15 :: a16 :: a17 :: a18 :: a19 :: a20 :: a21 :: a22 :: some x :: σ) H := ⟨x, rfl, h⟩
end
end Y

namespace Y.k19
open PySem PySem.Spec PyProof.Rows L2
/-! ### the readings -/
structure Cl where
  S : Sta
  c_Finder : Addr
def t_bag (a : Cl) (E : XK) : TS :=
  (tSeq (tAsg (eLc a.S (tVar 0) (gName 2) (tTest (tOp rGe (tCB rAbs (tCons (tVar 2) tNil)) (tOp rPow (tC (.int 10)) (tC (.int 18))))) (tCB rAbs (tCons (tVar 2) tNil)) [2]) (gName 1))
    (tSeq (tAsg (eLc a.S (tVar 0) (gName 2) tYes (tOp rMod (tCB rInt (tCons (tVar 2) tNil)) (tC (.int 2147483647))) [2]) (gName 3))
    (tRet (tLst (tCons (tVar 1) (tCons (tVar 3) (tCons (tC (.int 0)) (tCons (tOp rMod (tCB rInt (tCons (tCB (rSum a.S) (tCons (tVar 3) tNil)) tNil)) (tC (.int 2147483629))) tNil))))))))
def sp_bag (a : Cl) : Sp := spB 4 1 (t_bag a)
theorem in_bag {a : Cl} {v0 : V} {H : Hp} {Q : VK} {E : XK} (h : (tSeq (tAsg (eLc a.S (tVar 0) (gName 2) (tTest (tOp rGe (tCB rAbs (tCons (tVar 2) tNil)) (tOp rPow (tC (.int 10)) (tC (.int 18))))) (tCB rAbs (tCons (tVar 2) tNil)) [2]) (gName 1))
    (tSeq (tAsg (eLc a.S (tVar 0) (gName 2) tYes (tOp rMod (tCB rInt (tCons (tVar 2) tNil)) (tC (.int 2147483647))) [2]) (gName 3))
    (tRet (tLst (tCons (tVar 1) (tCons (tVar 3) (tCons (tC (.int 0)) (tCons (tOp rMod (tCB rInt (tCons (tCB (rSum a.S) (tCons (tVar 3) tNil)) tNil)) (tC (.int 2147483629))) tNil)))))))) ⟨fun _ H' => Q .non H', Q, fun _ _ => False, fun _ _ => False⟩ [some v0, none, none, none] H) : sp_bag a [v0] H Q E := ⟨rfl, h⟩
def t_take (a : Cl) (E : XK) : TS :=
  (tSeq (tAsg (tOp rAdd (tOp (rIx a.S) (tVar 0) (tC (.int 2))) (tC (.int 1))) (gSub (tVar 0) (tC (.int 2)) rSetL))
    (tSeq (tIfS (tTest (tOp (rNeP a.S) (tOp (rIx a.S) (tVar 0) (tC (.int 0))) (tLst tNil))) (tSeq (tAsg (tOp (rIx a.S) (tOp (rIx a.S) (tVar 0) (tC (.int 0))) (tC (.int 0))) (gName 2))
    (tSeq (tIfS (tTest (tOp rGe (tVar 2) (tVar 1))) (tAsg (tOp rAdd (tLst (tCons (tOp rFdiv (tVar 2) (tVar 1)) tNil)) (L2.tSl (rSl a.S) (tOp (rIx a.S) (tVar 0) (tC (.int 0))) (tPart (tC (.int 1))) tNoPart)) (gSub (tVar 0) (tC (.int 0)) rSetL)) (tAsg (L2.tSl (rSl a.S) (tOp (rIx a.S) (tVar 0) (tC (.int 0))) (tPart (tC (.int 1))) tNoPart) (gSub (tVar 0) (tC (.int 0)) rSetL)))
    (tRet (tOp rMod (tCB rInt (tCons (tVar 2) tNil)) (tVar 1))))) tNext)
    (tSeq (tIfS (tTest (tOp (rEqP a.S) (tOp (rIx a.S) (tVar 0) (tC (.int 1))) (tLst tNil))) (tRet (tOp rMod (tCB rInt (tCons (tOp (rIx a.S) (tVar 0) (tC (.int 2))) tNil)) (tVar 1))) tNext)
    (tSeq (tAsg (tOp (rIx a.S) (tOp (rIx a.S) (tVar 0) (tC (.int 1))) (tOp rMod (tCB rInt (tCons (tOp (rIx a.S) (tVar 0) (tC (.int 2))) tNil)) (tCB (rLen a.S) (tCons (tOp (rIx a.S) (tVar 0) (tC (.int 1))) tNil)))) (gName 3))
    (tSeq (tAsg (tOp rMod (tCB rInt (tCons (tOp rAdd (tOp rAdd (tOp rAdd (tOp rMul (tVar 3) (tC (.int 48271))) (tOp rMul (tOp (rIx a.S) (tVar 0) (tC (.int 3))) (tC (.int 16807)))) (tOp rMul (tOp (rIx a.S) (tVar 0) (tC (.int 2))) (tC (.int 69621)))) (tC (.int 11))) tNil)) (tC (.int 2147483647))) (gName 4))
    (tSeq (tAsg (tOp rMod (tCB rInt (tCons (tOp rAdd (tOp rAdd (tOp rFdiv (tOp rMul (tVar 4) (tVar 4)) (tC (.int 4096))) (tOp rMul (tVar 4) (tC (.int 40014)))) (tOp rMul (tOp (rIx a.S) (tVar 0) (tC (.int 2))) (tC (.int 271)))) tNil)) (tC (.int 2147483629))) (gName 5))
    (tRet (tOp rMod (tCB rInt (tCons (tOp rFdiv (tOp rAdd (tOp rMul (tVar 4) (tC (.int 2147483629))) (tVar 5)) (tC (.int 32))) tNil)) (tVar 1)))))))))
def sp_take (a : Cl) : Sp := spB 6 2 (t_take a)
theorem in_take {a : Cl} {v0 v1 : V} {H : Hp} {Q : VK} {E : XK} (h : (tSeq (tAsg (tOp rAdd (tOp (rIx a.S) (tVar 0) (tC (.int 2))) (tC (.int 1))) (gSub (tVar 0) (tC (.int 2)) rSetL))
    (tSeq (tIfS (tTest (tOp (rNeP a.S) (tOp (rIx a.S) (tVar 0) (tC (.int 0))) (tLst tNil))) (tSeq (tAsg (tOp (rIx a.S) (tOp (rIx a.S) (tVar 0) (tC (.int 0))) (tC (.int 0))) (gName 2))
    (tSeq (tIfS (tTest (tOp rGe (tVar 2) (tVar 1))) (tAsg (tOp rAdd (tLst (tCons (tOp rFdiv (tVar 2) (tVar 1)) tNil)) (L2.tSl (rSl a.S) (tOp (rIx a.S) (tVar 0) (tC (.int 0))) (tPart (tC (.int 1))) tNoPart)) (gSub (tVar 0) (tC (.int 0)) rSetL)) (tAsg (L2.tSl (rSl a.S) (tOp (rIx a.S) (tVar 0) (tC (.int 0))) (tPart (tC (.int 1))) tNoPart) (gSub (tVar 0) (tC (.int 0)) rSetL)))
    (tRet (tOp rMod (tCB rInt (tCons (tVar 2) tNil)) (tVar 1))))) tNext)
    (tSeq (tIfS (tTest (tOp (rEqP a.S) (tOp (rIx a.S) (tVar 0) (tC (.int 1))) (tLst tNil))) (tRet (tOp rMod (tCB rInt (tCons (tOp (rIx a.S) (tVar 0) (tC (.int 2))) tNil)) (tVar 1))) tNext)
    (tSeq (tAsg (tOp (rIx a.S) (tOp (rIx a.S) (tVar 0) (tC (.int 1))) (tOp rMod (tCB rInt (tCons (tOp (rIx a.S) (tVar 0) (tC (.int 2))) tNil)) (tCB (rLen a.S) (tCons (tOp (rIx a.S) (tVar 0) (tC (.int 1))) tNil)))) (gName 3))
    (tSeq (tAsg (tOp rMod (tCB rInt (tCons (tOp rAdd (tOp rAdd (tOp rAdd (tOp rMul (tVar 3) (tC (.int 48271))) (tOp rMul (tOp (rIx a.S) (tVar 0) (tC (.int 3))) (tC (.int 16807)))) (tOp rMul (tOp (rIx a.S) (tVar 0) (tC (.int 2))) (tC (.int 69621)))) (tC (.int 11))) tNil)) (tC (.int 2147483647))) (gName 4))
    (tSeq (tAsg (tOp rMod (tCB rInt (tCons (tOp rAdd (tOp rAdd (tOp rFdiv (tOp rMul (tVar 4) (tVar 4)) (tC (.int 4096))) (tOp rMul (tVar 4) (tC (.int 40014)))) (tOp rMul (tOp (rIx a.S) (tVar 0) (tC (.int 2))) (tC (.int 271)))) tNil)) (tC (.int 2147483629))) (gName 5))
    (tRet (tOp rMod (tCB rInt (tCons (tOp rFdiv (tOp rAdd (tOp rMul (tVar 4) (tC (.int 2147483629))) (tVar 5)) (tC (.int 32))) tNil)) (tVar 1))))))))) ⟨fun _ H' => Q .non H', Q, fun _ _ => False, fun _ _ => False⟩ [some v0, some v1, none, none, none, none] H) : sp_take a [v0, v1] H Q E := ⟨rfl, h⟩
def t_lesser (a : Cl) (E : XK) : TS :=
  (tSeq (tIfS (tTest (tOp rLt (tVar 0) (tVar 1))) (tRet (tVar 0)) tNext)
    (tRet (tVar 1)))
def sp_lesser (a : Cl) : Sp := spB 2 2 (t_lesser a)
theorem in_lesser {a : Cl} {v0 v1 : V} {H : Hp} {Q : VK} {E : XK} (h : (tSeq (tIfS (tTest (tOp rLt (tVar 0) (tVar 1))) (tRet (tVar 0)) tNext)
    (tRet (tVar 1))) ⟨fun _ H' => Q .non H', Q, fun _ _ => False, fun _ _ => False⟩ [some v0, some v1] H) : sp_lesser a [v0, v1] H Q E := ⟨rfl, h⟩
def t_bounds (a : Cl) (E : XK) : TS :=
  (tSeq (tAsg (tOp rAdd (tC (.int 1)) (tCall (sp_take a) [] E (tCons (tVar 0) (tCons (tC (.int 20)) tNil)))) (gName 1))
    (tSeq (tIfS (tTest (tOp (rEqP a.S) (tCall (sp_take a) [] E (tCons (tVar 0) (tCons (tC (.int 2)) tNil))) (tC (.int 1)))) (tAsg (tOp rAdd (tC (.int 1)) (tCall (sp_take a) [] E (tCons (tVar 0) (tCons (tC (.int 1400)) tNil)))) (gName 1)) tNext)
    (tSeq (tAsg (tCall (sp_take a) [] E (tCons (tVar 0) (tCons (tC (.int 4)) tNil))) (gName 2))
    (tSeq (tAsg (tVar 1) (gName 3))
    (tSeq (tIfS (tTest (tOp (rEqP a.S) (tVar 2) (tC (.int 1)))) (tAsg (tCall (sp_lesser a) [] E (tCons (tC (.int 1400)) (tCons (tOp rAdd (tOp rAdd (tVar 1) (tC (.int 1))) (tCall (sp_take a) [] E (tCons (tVar 0) (tCons (tC (.int 40)) tNil)))) tNil))) (gName 3)) (tIfS (tTest (tOp (rEqP a.S) (tVar 2) (tC (.int 2)))) (tAsg (tC (.int 1400)) (gName 3)) (tIfS (tTest (tOp (rEqP a.S) (tVar 2) (tC (.int 3)))) (tAsg (tOp rAdd (tVar 1) (tCall (sp_take a) [] E (tCons (tVar 0) (tCons (tOp rSub (tC (.int 1401)) (tVar 1)) tNil)))) (gName 3)) tNext)))
    (tRet (tLst (tCons (tVar 1) (tCons (tVar 3) tNil)))))))))
def sp_bounds (a : Cl) : Sp := spB 4 1 (t_bounds a)
theorem in_bounds {a : Cl} {v0 : V} {H : Hp} {Q : VK} {E : XK} (h : (tSeq (tAsg (tOp rAdd (tC (.int 1)) (tCall (sp_take a) [] E (tCons (tVar 0) (tCons (tC (.int 20)) tNil)))) (gName 1))
    (tSeq (tIfS (tTest (tOp (rEqP a.S) (tCall (sp_take a) [] E (tCons (tVar 0) (tCons (tC (.int 2)) tNil))) (tC (.int 1)))) (tAsg (tOp rAdd (tC (.int 1)) (tCall (sp_take a) [] E (tCons (tVar 0) (tCons (tC (.int 1400)) tNil)))) (gName 1)) tNext)
    (tSeq (tAsg (tCall (sp_take a) [] E (tCons (tVar 0) (tCons (tC (.int 4)) tNil))) (gName 2))
    (tSeq (tAsg (tVar 1) (gName 3))
    (tSeq (tIfS (tTest (tOp (rEqP a.S) (tVar 2) (tC (.int 1)))) (tAsg (tCall (sp_lesser a) [] E (tCons (tC (.int 1400)) (tCons (tOp rAdd (tOp rAdd (tVar 1) (tC (.int 1))) (tCall (sp_take a) [] E (tCons (tVar 0) (tCons (tC (.int 40)) tNil)))) tNil))) (gName 3)) (tIfS (tTest (tOp (rEqP a.S) (tVar 2) (tC (.int 2)))) (tAsg (tC (.int 1400)) (gName 3)) (tIfS (tTest (tOp (rEqP a.S) (tVar 2) (tC (.int 3)))) (tAsg (tOp rAdd (tVar 1) (tCall (sp_take a) [] E (tCons (tVar 0) (tCons (tOp rSub (tC (.int 1401)) (tVar 1)) tNil)))) (gName 3)) tNext)))
    (tRet (tLst (tCons (tVar 1) (tCons (tVar 3) tNil))))))))) ⟨fun _ H' => Q .non H', Q, fun _ _ => False, fun _ _ => False⟩ [some v0, none, none, none] H) : sp_bounds a [v0] H Q E := ⟨rfl, h⟩
def t_path (a : Cl) (E : XK) : TS :=
  (tSeq (tAsg (tCall (sp_bounds a) [] E (tCons (tVar 0) tNil)) (gName 1))
    (tSeq (tAsg (tCall (sp_take a) [] E (tCons (tVar 0) (tCons (tC (.int 4)) tNil))) (gName 2))
    (tSeq (tAsg (tOp (rIx a.S) (tVar 1) (tC (.int 0))) (gName 3))
    (tSeq (tIfS (tTest (tOp (rEqP a.S) (tVar 2) (tC (.int 1)))) (tAsg (tOp (rIx a.S) (tVar 1) (tC (.int 1))) (gName 3)) (tIfS (tTest (tOp rGt (tVar 2) (tC (.int 1)))) (tAsg (tOp rAdd (tOp (rIx a.S) (tVar 1) (tC (.int 0))) (tCall (sp_take a) [] E (tCons (tVar 0) (tCons (tOp rAdd (tOp rSub (tOp (rIx a.S) (tVar 1) (tC (.int 1))) (tOp (rIx a.S) (tVar 1) (tC (.int 0)))) (tC (.int 1))) tNil)))) (gName 3)) tNext))
    (tRet (tLst (tCons (tOp (rIx a.S) (tVar 1) (tC (.int 0))) (tCons (tOp (rIx a.S) (tVar 1) (tC (.int 1))) (tCons (tVar 3) (tCons (tCall (sp_take a) [] E (tCons (tVar 0) (tCons (tC (.int 9)) tNil))) (tCons (tC (.int 0)) (tCons (tC (.int 0)) tNil))))))))))))
def sp_path (a : Cl) : Sp := spB 4 1 (t_path a)
theorem in_path {a : Cl} {v0 : V} {H : Hp} {Q : VK} {E : XK} (h : (tSeq (tAsg (tCall (sp_bounds a) [] E (tCons (tVar 0) tNil)) (gName 1))
    (tSeq (tAsg (tCall (sp_take a) [] E (tCons (tVar 0) (tCons (tC (.int 4)) tNil))) (gName 2))
    (tSeq (tAsg (tOp (rIx a.S) (tVar 1) (tC (.int 0))) (gName 3))
    (tSeq (tIfS (tTest (tOp (rEqP a.S) (tVar 2) (tC (.int 1)))) (tAsg (tOp (rIx a.S) (tVar 1) (tC (.int 1))) (gName 3)) (tIfS (tTest (tOp rGt (tVar 2) (tC (.int 1)))) (tAsg (tOp rAdd (tOp (rIx a.S) (tVar 1) (tC (.int 0))) (tCall (sp_take a) [] E (tCons (tVar 0) (tCons (tOp rAdd (tOp rSub (tOp (rIx a.S) (tVar 1) (tC (.int 1))) (tOp (rIx a.S) (tVar 1) (tC (.int 0)))) (tC (.int 1))) tNil)))) (gName 3)) tNext))
    (tRet (tLst (tCons (tOp (rIx a.S) (tVar 1) (tC (.int 0))) (tCons (tOp (rIx a.S) (tVar 1) (tC (.int 1))) (tCons (tVar 3) (tCons (tCall (sp_take a) [] E (tCons (tVar 0) (tCons (tC (.int 9)) tNil))) (tCons (tC (.int 0)) (tCons (tC (.int 0)) tNil)))))))))))) ⟨fun _ H' => Q .non H', Q, fun _ _ => False, fun _ _ => False⟩ [some v0, none, none, none] H) : sp_path a [v0] H Q E := ⟨rfl, h⟩
def t_is_whole (a : Cl) (E : XK) : TS :=
  (tRet (tAndV (tCB rIsI (tCons (tVar 0) (tCons (tC (.ty "int")) tNil))) (tNotV (tCB rIsI (tCons (tVar 0) (tCons (tC (.ty "bool")) tNil))))))
def sp_is_whole (a : Cl) : Sp := spB 1 1 (t_is_whole a)
theorem in_is_whole {a : Cl} {v0 : V} {H : Hp} {Q : VK} {E : XK} (h : (tRet (tAndV (tCB rIsI (tCons (tVar 0) (tCons (tC (.ty "int")) tNil))) (tNotV (tCB rIsI (tCons (tVar 0) (tCons (tC (.ty "bool")) tNil)))))) ⟨fun _ H' => Q .non H', Q, fun _ _ => False, fun _ _ => False⟩ [some v0] H) : sp_is_whole a [v0] H Q E := ⟨rfl, h⟩
def t_in_range (a : Cl) (E : XK) : TS :=
  (tRet (tAndV (tCall (sp_is_whole a) [] E (tCons (tVar 0) tNil)) (tChain rLe rLe (tVar 1) (tVar 0) (tVar 2))))
def sp_in_range (a : Cl) : Sp := spB 3 3 (t_in_range a)
theorem in_in_range {a : Cl} {v0 v1 v2 : V} {H : Hp} {Q : VK} {E : XK} (h : (tRet (tAndV (tCall (sp_is_whole a) [] E (tCons (tVar 0) tNil)) (tChain rLe rLe (tVar 1) (tVar 0) (tVar 2)))) ⟨fun _ H' => Q .non H', Q, fun _ _ => False, fun _ _ => False⟩ [some v0, some v1, some v2] H) : sp_in_range a [v0, v1, v2] H Q E := ⟨rfl, h⟩
def t_Finder___init__ (a : Cl) (E : XK) : TS :=
  (tSeq (tIfS (tNot (tB (tCall (sp_in_range a) [] E (tCons (tVar 1) (tCons (tC (.int 1)) (tCons (tC (.int 1400)) tNil)))))) tNever tNext)
    (tSeq (tIfS (tNot (tB (tCall (sp_in_range a) [] E (tCons (tVar 2) (tCons (tVar 1) (tCons (tC (.int 1400)) tNil)))))) tNever tNext)
    (tSeq (sSetF a.c_Finder "size" (tVar 0) (tVar 1))
    (tSeq (sSetF a.c_Finder "ceiling" (tVar 0) (tVar 2))
    (sSetF a.c_Finder "strikes" (tVar 0) (tC (.int 0)))))))
def sp_Finder___init__ (a : Cl) : Sp := spB 3 3 (t_Finder___init__ a)
theorem in_Finder___init__ {a : Cl} {v0 v1 v2 : V} {H : Hp} {Q : VK} {E : XK} (h : (tSeq (tIfS (tNot (tB (tCall (sp_in_range a) [] E (tCons (tVar 1) (tCons (tC (.int 1)) (tCons (tC (.int 1400)) tNil)))))) tNever tNext)
    (tSeq (tIfS (tNot (tB (tCall (sp_in_range a) [] E (tCons (tVar 2) (tCons (tVar 1) (tCons (tC (.int 1400)) tNil)))))) tNever tNext)
    (tSeq (sSetF a.c_Finder "size" (tVar 0) (tVar 1))
    (tSeq (sSetF a.c_Finder "ceiling" (tVar 0) (tVar 2))
    (sSetF a.c_Finder "strikes" (tVar 0) (tC (.int 0))))))) ⟨fun _ H' => Q .non H', Q, fun _ _ => False, fun _ _ => False⟩ [some v0, some v1, some v2] H) : sp_Finder___init__ a [v0, v1, v2] H Q E := ⟨rfl, h⟩
def t_Finder_trial (a : Cl) (E : XK) : TS :=
  (tSeq (tIfS (tTest (tOp rLt (eFld a.c_Finder "size" (tVar 0)) (eFld a.c_Finder "ceiling" (tVar 0)))) (tRet (tOp rFdiv (tOp rAdd (tOp rAdd (eFld a.c_Finder "size" (tVar 0)) (eFld a.c_Finder "ceiling" (tVar 0))) (tC (.int 1))) (tC (.int 2)))) tNext)
    (tRet (tC (.int 0))))
def sp_Finder_trial (a : Cl) : Sp := spB 1 1 (t_Finder_trial a)
theorem in_Finder_trial {a : Cl} {v0 : V} {H : Hp} {Q : VK} {E : XK} (h : (tSeq (tIfS (tTest (tOp rLt (eFld a.c_Finder "size" (tVar 0)) (eFld a.c_Finder "ceiling" (tVar 0)))) (tRet (tOp rFdiv (tOp rAdd (tOp rAdd (eFld a.c_Finder "size" (tVar 0)) (eFld a.c_Finder "ceiling" (tVar 0))) (tC (.int 1))) (tC (.int 2)))) tNext)
    (tRet (tC (.int 0)))) ⟨fun _ H' => Q .non H', Q, fun _ _ => False, fun _ _ => False⟩ [some v0] H) : sp_Finder_trial a [v0] H Q E := ⟨rfl, h⟩
def t_whole (a : Cl) (E : XK) : TS :=
  (tRet (tAndV (tCB rIsI (tCons (tVar 0) (tCons (tC (.ty "int")) tNil))) (tNotV (tCB rIsI (tCons (tVar 0) (tCons (tC (.ty "bool")) tNil))))))
def sp_whole (a : Cl) : Sp := spB 1 1 (t_whole a)
theorem in_whole {a : Cl} {v0 : V} {H : Hp} {Q : VK} {E : XK} (h : (tRet (tAndV (tCB rIsI (tCons (tVar 0) (tCons (tC (.ty "int")) tNil))) (tNotV (tCB rIsI (tCons (tVar 0) (tCons (tC (.ty "bool")) tNil)))))) ⟨fun _ H' => Q .non H', Q, fun _ _ => False, fun _ _ => False⟩ [some v0] H) : sp_whole a [v0] H Q E := ⟨rfl, h⟩
def t_seen (a : Cl) (E : XK) : TS :=
  (tSeq (tAsg (tLst (tCons (eFld a.c_Finder "size" (tVar 0)) (tCons (eFld a.c_Finder "ceiling" (tVar 0)) (tCons (eFld a.c_Finder "strikes" (tVar 0)) (tCons (tMeth a.c_Finder "trial" (sp_Finder_trial a) [] E (tVar 0) tNil) tNil))))) (gName 2))
    (tSeq (tIfS (tNot (tB (tCB (rAll a.S) (tCons (eLc a.S (tVar 2) (gName 3) tYes (tCall (sp_whole a) [] E0 (tCons (tVar 3) tNil)) [3]) tNil)))) (tRet (tLst tNil)) tNext)
    (tSeq (tIfS (tNot (tTest (tChn (tOp (rIx a.S) (tVar 1) (tC (.int 0))) (cLink rLe (tOp (rIx a.S) (tVar 2) (tC (.int 0))) (cLink rLe (tOp (rIx a.S) (tVar 1) (tC (.int 2))) (cLink rLe (tOp (rIx a.S) (tVar 2) (tC (.int 1))) (cLast rLe (tOp (rIx a.S) (tVar 1) (tC (.int 1)))))))))) (tRet (tLst tNil)) tNext)
    (tSeq (tIfS (tTest (tOp (rEqP a.S) (tOp (rIx a.S) (tVar 2) (tC (.int 0))) (tOp (rIx a.S) (tVar 2) (tC (.int 1))))) (tIfS (tOr (tTest (tOp (rNeP a.S) (tOp (rIx a.S) (tVar 2) (tC (.int 2))) (tC (.int 0)))) (tTest (tOp (rNeP a.S) (tOp (rIx a.S) (tVar 2) (tC (.int 3))) (tC (.int 0))))) (tRet (tLst tNil)) tNext) (tIfS (tOr (tTest (tOp rLt (tOp (rIx a.S) (tVar 2) (tC (.int 2))) (tC (.int 0)))) (tOr (tTest (tOp rGt (tOp (rIx a.S) (tVar 2) (tC (.int 2))) (tC (.int 1)))) (tNot (tTest (tChain rLt rLe (tOp (rIx a.S) (tVar 2) (tC (.int 0))) (tOp (rIx a.S) (tVar 2) (tC (.int 3))) (tOp (rIx a.S) (tVar 2) (tC (.int 1)))))))) (tRet (tLst tNil)) tNext))
    (tRet (tVar 2))))))
def sp_seen (a : Cl) : Sp := spB 4 2 (t_seen a)
theorem in_seen {a : Cl} {v0 v1 : V} {H : Hp} {Q : VK} {E : XK} (h : (tSeq (tAsg (tLst (tCons (eFld a.c_Finder "size" (tVar 0)) (tCons (eFld a.c_Finder "ceiling" (tVar 0)) (tCons (eFld a.c_Finder "strikes" (tVar 0)) (tCons (tMeth a.c_Finder "trial" (sp_Finder_trial a) [] E (tVar 0) tNil) tNil))))) (gName 2))
    (tSeq (tIfS (tNot (tB (tCB (rAll a.S) (tCons (eLc a.S (tVar 2) (gName 3) tYes (tCall (sp_whole a) [] E0 (tCons (tVar 3) tNil)) [3]) tNil)))) (tRet (tLst tNil)) tNext)
    (tSeq (tIfS (tNot (tTest (tChn (tOp (rIx a.S) (tVar 1) (tC (.int 0))) (cLink rLe (tOp (rIx a.S) (tVar 2) (tC (.int 0))) (cLink rLe (tOp (rIx a.S) (tVar 1) (tC (.int 2))) (cLink rLe (tOp (rIx a.S) (tVar 2) (tC (.int 1))) (cLast rLe (tOp (rIx a.S) (tVar 1) (tC (.int 1)))))))))) (tRet (tLst tNil)) tNext)
    (tSeq (tIfS (tTest (tOp (rEqP a.S) (tOp (rIx a.S) (tVar 2) (tC (.int 0))) (tOp (rIx a.S) (tVar 2) (tC (.int 1))))) (tIfS (tOr (tTest (tOp (rNeP a.S) (tOp (rIx a.S) (tVar 2) (tC (.int 2))) (tC (.int 0)))) (tTest (tOp (rNeP a.S) (tOp (rIx a.S) (tVar 2) (tC (.int 3))) (tC (.int 0))))) (tRet (tLst tNil)) tNext) (tIfS (tOr (tTest (tOp rLt (tOp (rIx a.S) (tVar 2) (tC (.int 2))) (tC (.int 0)))) (tOr (tTest (tOp rGt (tOp (rIx a.S) (tVar 2) (tC (.int 2))) (tC (.int 1)))) (tNot (tTest (tChain rLt rLe (tOp (rIx a.S) (tVar 2) (tC (.int 0))) (tOp (rIx a.S) (tVar 2) (tC (.int 3))) (tOp (rIx a.S) (tVar 2) (tC (.int 1)))))))) (tRet (tLst tNil)) tNext))
    (tRet (tVar 2)))))) ⟨fun _ H' => Q .non H', Q, fun _ _ => False, fun _ _ => False⟩ [some v0, some v1, none, none] H) : sp_seen a [v0, v1] H Q E := ⟨rfl, h⟩
def t_Finder_passed (a : Cl) (E : XK) : TS :=
  (tSeq (tIfS (tOr (tNot (tB (tCall (sp_is_whole a) [] E (tCons (tVar 1) tNil)))) (tTest (tOp rLt (tVar 1) (tC (.int 0))))) tNever tNext)
    (tIfS (tTest (tOp rGt (tVar 1) (eFld a.c_Finder "size" (tVar 0)))) (tSeq (sSetF a.c_Finder "size" (tVar 0) (tCB rMin2 (tCons (tVar 1) (tCons (eFld a.c_Finder "ceiling" (tVar 0)) tNil))))
    (sSetF a.c_Finder "strikes" (tVar 0) (tC (.int 0)))) tNext))
def sp_Finder_passed (a : Cl) : Sp := spB 2 2 (t_Finder_passed a)
theorem in_Finder_passed {a : Cl} {v0 v1 : V} {H : Hp} {Q : VK} {E : XK} (h : (tSeq (tIfS (tOr (tNot (tB (tCall (sp_is_whole a) [] E (tCons (tVar 1) tNil)))) (tTest (tOp rLt (tVar 1) (tC (.int 0))))) tNever tNext)
    (tIfS (tTest (tOp rGt (tVar 1) (eFld a.c_Finder "size" (tVar 0)))) (tSeq (sSetF a.c_Finder "size" (tVar 0) (tCB rMin2 (tCons (tVar 1) (tCons (eFld a.c_Finder "ceiling" (tVar 0)) tNil))))
    (sSetF a.c_Finder "strikes" (tVar 0) (tC (.int 0)))) tNext)) ⟨fun _ H' => Q .non H', Q, fun _ _ => False, fun _ _ => False⟩ [some v0, some v1] H) : sp_Finder_passed a [v0, v1] H Q E := ⟨rfl, h⟩
def t_greater (a : Cl) (E : XK) : TS :=
  (tSeq (tIfS (tTest (tOp rGt (tVar 0) (tVar 1))) (tRet (tVar 0)) tNext)
    (tRet (tVar 1)))
def sp_greater (a : Cl) : Sp := spB 2 2 (t_greater a)
theorem in_greater {a : Cl} {v0 v1 : V} {H : Hp} {Q : VK} {E : XK} (h : (tSeq (tIfS (tTest (tOp rGt (tVar 0) (tVar 1))) (tRet (tVar 0)) tNext)
    (tRet (tVar 1))) ⟨fun _ H' => Q .non H', Q, fun _ _ => False, fun _ _ => False⟩ [some v0, some v1] H) : sp_greater a [v0, v1] H Q E := ⟨rfl, h⟩
def t_Finder_failed (a : Cl) (E : XK) : TS :=
  (tSeq (tIfS (tOr (tNot (tB (tCall (sp_is_whole a) [] E (tCons (tVar 1) tNil)))) (tTest (tOp rLt (tVar 1) (tC (.int 0))))) tNever tNext)
    (tSeq (tIfS (tOr (tTest (tOp (rEqP a.S) (tVar 1) (tC (.int 0)))) (tTest (tOp (rNeP a.S) (tVar 1) (tMeth a.c_Finder "trial" (sp_Finder_trial a) [] E (tVar 0) tNil)))) tRetN tNext)
    (tSeq (sAugF a.c_Finder "strikes" (tVar 0) (tC (.int 1)) rInAdd)
    (tIfS (tTest (tOp (rEqP a.S) (eFld a.c_Finder "strikes" (tVar 0)) (tC (.int 2)))) (tSeq (sSetF a.c_Finder "ceiling" (tVar 0) (tOp rSub (tVar 1) (tC (.int 1))))
    (sSetF a.c_Finder "strikes" (tVar 0) (tC (.int 0)))) tNext))))
def sp_Finder_failed (a : Cl) : Sp := spB 2 2 (t_Finder_failed a)
theorem in_Finder_failed {a : Cl} {v0 v1 : V} {H : Hp} {Q : VK} {E : XK} (h : (tSeq (tIfS (tOr (tNot (tB (tCall (sp_is_whole a) [] E (tCons (tVar 1) tNil)))) (tTest (tOp rLt (tVar 1) (tC (.int 0))))) tNever tNext)
    (tSeq (tIfS (tOr (tTest (tOp (rEqP a.S) (tVar 1) (tC (.int 0)))) (tTest (tOp (rNeP a.S) (tVar 1) (tMeth a.c_Finder "trial" (sp_Finder_trial a) [] E (tVar 0) tNil)))) tRetN tNext)
    (tSeq (sAugF a.c_Finder "strikes" (tVar 0) (tC (.int 1)) rInAdd)
    (tIfS (tTest (tOp (rEqP a.S) (eFld a.c_Finder "strikes" (tVar 0)) (tC (.int 2)))) (tSeq (sSetF a.c_Finder "ceiling" (tVar 0) (tOp rSub (tVar 1) (tC (.int 1))))
    (sSetF a.c_Finder "strikes" (tVar 0) (tC (.int 0)))) tNext)))) ⟨fun _ H' => Q .non H', Q, fun _ _ => False, fun _ _ => False⟩ [some v0, some v1] H) : sp_Finder_failed a [v0, v1] H Q E := ⟨rfl, h⟩
def t_aside (a : Cl) (E : XK) : TS :=
  (tSeq (tAsg (tOp rSub (tOp (rIx a.S) (tVar 2) (tC (.int 3))) (tC (.int 1))) (gSub (tVar 2) (tC (.int 3)) rSetL))
    (tSeq (tIfS (tTest (tOp (rEqP a.S) (tCall (sp_take a) [] E (tCons (tVar 0) (tCons (tC (.int 2)) tNil))) (tC (.int 0)))) (tSeq (tAsg (tCall (sp_take a) [] E (tCons (tVar 0) (tCons (tOp rAdd (tOp (rIx a.S) (tVar 2) (tC (.int 2))) (tC (.int 1))) tNil))) (gName 4))
    (tSeq (tIfS (tTest (tOp rIsNot (tMeth a.c_Finder "passed" (sp_Finder_passed a) [] E (tVar 1) (tCons (tVar 4) tNil)) (tC .non))) (tRet (tC (.bl false))) tNext)
    (tSeq (tAsg (tCall (sp_seen a) [] E (tCons (tVar 1) (tCons (tVar 2) tNil))) (gName 5))
    (tRet (tAndV (tOp (rNeP a.S) (tVar 5) (tLst tNil)) (tOp (rEqP a.S) (L2.tSl (rSl a.S) (tVar 5) tNoPart (tPart (tC (.int 2)))) (tLst (tCons (tCall (sp_greater a) [] E (tCons (tOp (rIx a.S) (tVar 3) (tC (.int 0))) (tCons (tVar 4) tNil))) (tCons (tOp (rIx a.S) (tVar 3) (tC (.int 1))) tNil))))))))) tNext)
    (tSeq (tAsg (tCall (sp_take a) [] E (tCons (tVar 0) (tCons (tC (.int 1402)) tNil))) (gName 6))
    (tSeq (tIfS (tTest (tOp (rEqP a.S) (tVar 6) (tOp (rIx a.S) (tVar 3) (tC (.int 3))))) (tAsg (tOp rAdd (tVar 6) (tC (.int 1))) (gName 6)) tNext)
    (tRet (tAndV (tOp rIs (tMeth a.c_Finder "failed" (sp_Finder_failed a) [] E (tVar 1) (tCons (tVar 6) tNil)) (tC .non)) (tOp (rEqP a.S) (tCall (sp_seen a) [] E (tCons (tVar 1) (tCons (tVar 2) tNil))) (tVar 3))))))))
def sp_aside (a : Cl) : Sp := spB 7 4 (t_aside a)
theorem in_aside {a : Cl} {v0 v1 v2 v3 : V} {H : Hp} {Q : VK} {E : XK} (h : (tSeq (tAsg (tOp rSub (tOp (rIx a.S) (tVar 2) (tC (.int 3))) (tC (.int 1))) (gSub (tVar 2) (tC (.int 3)) rSetL))
    (tSeq (tIfS (tTest (tOp (rEqP a.S) (tCall (sp_take a) [] E (tCons (tVar 0) (tCons (tC (.int 2)) tNil))) (tC (.int 0)))) (tSeq (tAsg (tCall (sp_take a) [] E (tCons (tVar 0) (tCons (tOp rAdd (tOp (rIx a.S) (tVar 2) (tC (.int 2))) (tC (.int 1))) tNil))) (gName 4))
    (tSeq (tIfS (tTest (tOp rIsNot (tMeth a.c_Finder "passed" (sp_Finder_passed a) [] E (tVar 1) (tCons (tVar 4) tNil)) (tC .non))) (tRet (tC (.bl false))) tNext)
    (tSeq (tAsg (tCall (sp_seen a) [] E (tCons (tVar 1) (tCons (tVar 2) tNil))) (gName 5))
    (tRet (tAndV (tOp (rNeP a.S) (tVar 5) (tLst tNil)) (tOp (rEqP a.S) (L2.tSl (rSl a.S) (tVar 5) tNoPart (tPart (tC (.int 2)))) (tLst (tCons (tCall (sp_greater a) [] E (tCons (tOp (rIx a.S) (tVar 3) (tC (.int 0))) (tCons (tVar 4) tNil))) (tCons (tOp (rIx a.S) (tVar 3) (tC (.int 1))) tNil))))))))) tNext)
    (tSeq (tAsg (tCall (sp_take a) [] E (tCons (tVar 0) (tCons (tC (.int 1402)) tNil))) (gName 6))
    (tSeq (tIfS (tTest (tOp (rEqP a.S) (tVar 6) (tOp (rIx a.S) (tVar 3) (tC (.int 3))))) (tAsg (tOp rAdd (tVar 6) (tC (.int 1))) (gName 6)) tNext)
    (tRet (tAndV (tOp rIs (tMeth a.c_Finder "failed" (sp_Finder_failed a) [] E (tVar 1) (tCons (tVar 6) tNil)) (tC .non)) (tOp (rEqP a.S) (tCall (sp_seen a) [] E (tCons (tVar 1) (tCons (tVar 2) tNil))) (tVar 3)))))))) ⟨fun _ H' => Q .non H', Q, fun _ _ => False, fun _ _ => False⟩ [some v0, some v1, some v2, some v3, none, none, none] H) : sp_aside a [v0, v1, v2, v3] H Q E := ⟨rfl, h⟩
def t_answer (a : Cl) (E : XK) : TS :=
  (tSeq (tIfS (tTest (tOp rGt (tVar 3) (tOp (rIx a.S) (tVar 2) (tC (.int 2))))) (tRet (tOp rIs (tMeth a.c_Finder "failed" (sp_Finder_failed a) [] E (tVar 1) (tCons (tVar 3) tNil)) (tC .non))) tNext)
    (tSeq (tIfS (tAnd (tTest (tOp (rNeP a.S) (tOp (rIx a.S) (tVar 2) (tC (.int 5))) (tVar 3))) (tTest (tOp (rEqP a.S) (tCall (sp_take a) [] E (tCons (tVar 0) (tCons (tC (.int 4)) tNil))) (tC (.int 0))))) (tSeq (tAsg (tVar 3) (gSub (tVar 2) (tC (.int 5)) rSetL))
    (tRet (tOp rIs (tMeth a.c_Finder "failed" (sp_Finder_failed a) [] E (tVar 1) (tCons (tVar 3) tNil)) (tC .non)))) tNext)
    (tRet (tOp rIs (tMeth a.c_Finder "passed" (sp_Finder_passed a) [] E (tVar 1) (tCons (tVar 3) tNil)) (tC .non)))))
def sp_answer (a : Cl) : Sp := spB 4 4 (t_answer a)
theorem in_answer {a : Cl} {v0 v1 v2 v3 : V} {H : Hp} {Q : VK} {E : XK} (h : (tSeq (tIfS (tTest (tOp rGt (tVar 3) (tOp (rIx a.S) (tVar 2) (tC (.int 2))))) (tRet (tOp rIs (tMeth a.c_Finder "failed" (sp_Finder_failed a) [] E (tVar 1) (tCons (tVar 3) tNil)) (tC .non))) tNext)
    (tSeq (tIfS (tAnd (tTest (tOp (rNeP a.S) (tOp (rIx a.S) (tVar 2) (tC (.int 5))) (tVar 3))) (tTest (tOp (rEqP a.S) (tCall (sp_take a) [] E (tCons (tVar 0) (tCons (tC (.int 4)) tNil))) (tC (.int 0))))) (tSeq (tAsg (tVar 3) (gSub (tVar 2) (tC (.int 5)) rSetL))
    (tRet (tOp rIs (tMeth a.c_Finder "failed" (sp_Finder_failed a) [] E (tVar 1) (tCons (tVar 3) tNil)) (tC .non)))) tNext)
    (tRet (tOp rIs (tMeth a.c_Finder "passed" (sp_Finder_passed a) [] E (tVar 1) (tCons (tVar 3) tNil)) (tC .non))))) ⟨fun _ H' => Q .non H', Q, fun _ _ => False, fun _ _ => False⟩ [some v0, some v1, some v2, some v3] H) : sp_answer a [v0, v1, v2, v3] H Q E := ⟨rfl, h⟩
def t_step (a : Cl) (E : XK) : TS :=
  (tSeq (tAsg (tCall (sp_seen a) [] E (tCons (tVar 1) (tCons (tVar 2) tNil))) (gName 3))
    (tSeq (tIfS (tTest (tOp (rEqP a.S) (tVar 3) (tLst tNil))) (tRet (tC (.bl false))) tNext)
    (tSeq (tIfS (tAnd (tTest (tOp rGt (tOp (rIx a.S) (tVar 2) (tC (.int 3))) (tC (.int 0)))) (tTest (tOp (rEqP a.S) (tCall (sp_take a) [] E (tCons (tVar 0) (tCons (tC (.int 3)) tNil))) (tC (.int 0))))) (tRet (tCall (sp_aside a) [] E (tCons (tVar 0) (tCons (tVar 1) (tCons (tVar 2) (tCons (tVar 3) tNil)))))) tNext)
    (tSeq (tIfS (tNot (tB (tCall (sp_answer a) [] E (tCons (tVar 0) (tCons (tVar 1) (tCons (tVar 2) (tCons (tOp (rIx a.S) (tVar 3) (tC (.int 3))) tNil))))))) (tRet (tC (.bl false))) tNext)
    (tSeq (tAsg (tCall (sp_seen a) [] E (tCons (tVar 1) (tCons (tVar 2) tNil))) (gName 4))
    (tSeq (tIfS (tTest (tOp (rEqP a.S) (tVar 4) (tLst tNil))) (tRet (tC (.bl false))) tNext)
    (tSeq (tIfS (tTest (tOp (rEqP a.S) (L2.tSl (rSl a.S) (tVar 4) tNoPart (tPart (tC (.int 2)))) (L2.tSl (rSl a.S) (tVar 3) tNoPart (tPart (tC (.int 2)))))) (tRet (tAndV (tOp (rEqP a.S) (tOp (rIx a.S) (tVar 3) (tC (.int 2))) (tC (.int 0))) (tOp (rEqP a.S) (tOp (rIx a.S) (tVar 4) (tC (.int 2))) (tC (.int 1))))) tNext)
    (tSeq (tAsg (tOp rAdd (tOp (rIx a.S) (tVar 2) (tC (.int 4))) (tC (.int 1))) (gSub (tVar 2) (tC (.int 4)) rSetL))
    (tRet (tAndV (tOp (rEqP a.S) (tOp (rIx a.S) (tVar 4) (tC (.int 2))) (tC (.int 0))) (tOp rLe (tOp rMul (tC (.int 2)) (tOp rSub (tOp (rIx a.S) (tVar 4) (tC (.int 1))) (tOp (rIx a.S) (tVar 4) (tC (.int 0))))) (tOp rSub (tOp (rIx a.S) (tVar 3) (tC (.int 1))) (tOp (rIx a.S) (tVar 3) (tC (.int 0)))))))))))))))
def sp_step (a : Cl) : Sp := spB 5 3 (t_step a)
theorem in_step {a : Cl} {v0 v1 v2 : V} {H : Hp} {Q : VK} {E : XK} (h : (tSeq (tAsg (tCall (sp_seen a) [] E (tCons (tVar 1) (tCons (tVar 2) tNil))) (gName 3))
    (tSeq (tIfS (tTest (tOp (rEqP a.S) (tVar 3) (tLst tNil))) (tRet (tC (.bl false))) tNext)
    (tSeq (tIfS (tAnd (tTest (tOp rGt (tOp (rIx a.S) (tVar 2) (tC (.int 3))) (tC (.int 0)))) (tTest (tOp (rEqP a.S) (tCall (sp_take a) [] E (tCons (tVar 0) (tCons (tC (.int 3)) tNil))) (tC (.int 0))))) (tRet (tCall (sp_aside a) [] E (tCons (tVar 0) (tCons (tVar 1) (tCons (tVar 2) (tCons (tVar 3) tNil)))))) tNext)
    (tSeq (tIfS (tNot (tB (tCall (sp_answer a) [] E (tCons (tVar 0) (tCons (tVar 1) (tCons (tVar 2) (tCons (tOp (rIx a.S) (tVar 3) (tC (.int 3))) tNil))))))) (tRet (tC (.bl false))) tNext)
    (tSeq (tAsg (tCall (sp_seen a) [] E (tCons (tVar 1) (tCons (tVar 2) tNil))) (gName 4))
    (tSeq (tIfS (tTest (tOp (rEqP a.S) (tVar 4) (tLst tNil))) (tRet (tC (.bl false))) tNext)
    (tSeq (tIfS (tTest (tOp (rEqP a.S) (L2.tSl (rSl a.S) (tVar 4) tNoPart (tPart (tC (.int 2)))) (L2.tSl (rSl a.S) (tVar 3) tNoPart (tPart (tC (.int 2)))))) (tRet (tAndV (tOp (rEqP a.S) (tOp (rIx a.S) (tVar 3) (tC (.int 2))) (tC (.int 0))) (tOp (rEqP a.S) (tOp (rIx a.S) (tVar 4) (tC (.int 2))) (tC (.int 1))))) tNext)
    (tSeq (tAsg (tOp rAdd (tOp (rIx a.S) (tVar 2) (tC (.int 4))) (tC (.int 1))) (gSub (tVar 2) (tC (.int 4)) rSetL))
    (tRet (tAndV (tOp (rEqP a.S) (tOp (rIx a.S) (tVar 4) (tC (.int 2))) (tC (.int 0))) (tOp rLe (tOp rMul (tC (.int 2)) (tOp rSub (tOp (rIx a.S) (tVar 4) (tC (.int 1))) (tOp (rIx a.S) (tVar 4) (tC (.int 0))))) (tOp rSub (tOp (rIx a.S) (tVar 3) (tC (.int 1))) (tOp (rIx a.S) (tVar 3) (tC (.int 0))))))))))))))) ⟨fun _ H' => Q .non H', Q, fun _ _ => False, fun _ _ => False⟩ [some v0, some v1, some v2, none, none] H) : sp_step a [v0, v1, v2] H Q E := ⟨rfl, h⟩
def t_ended (a : Cl) (E : XK) : TS :=
  (tSeq (tAsg (tOp rSub (tOp (rIx a.S) (tVar 2) (tC (.int 1))) (tOp (rIx a.S) (tVar 2) (tC (.int 0)))) (gName 3))
    (tSeq (tAsg (tLst (tCons (tOp (rIx a.S) (tVar 2) (tC (.int 2))) (tCons (tOp (rIx a.S) (tVar 2) (tC (.int 2))) (tCons (tC (.int 0)) (tCons (tC (.int 0)) tNil))))) (gName 4))
    (tSeq (tIfS (tOr (tTest (tOp rGt (tOp (rIx a.S) (tVar 2) (tC (.int 4))) (tUn rBits (tVar 3)))) (tTest (tOp (rNeP a.S) (tCall (sp_seen a) [] E (tCons (tVar 1) (tCons (tVar 2) tNil))) (tVar 4)))) (tRet (tC (.bl false))) tNext)
    (tSeq (sFor a.S (tLst (tCons (tC (.int 0)) (tCons (tOp (rIx a.S) (tVar 2) (tC (.int 2))) (tCons (tOp rAdd (tOp (rIx a.S) (tVar 2) (tC (.int 2))) (tC (.int 1))) (tCons (tCall (sp_take a) [] E (tCons (tVar 0) (tCons (tC (.int 1402)) tNil))) tNil))))) (gName 5) (tSeq (tIfS (tOr (tTest (tOp rIsNot (tMeth a.c_Finder "failed" (sp_Finder_failed a) [] E (tVar 1) (tCons (tVar 5) tNil)) (tC .non))) (tTest (tOp (rNeP a.S) (tCall (sp_seen a) [] E (tCons (tVar 1) (tCons (tVar 2) tNil))) (tVar 4)))) (tRet (tC (.bl false))) tNext)
    (tIfS (tOr (tTest (tOp rIsNot (tMeth a.c_Finder "passed" (sp_Finder_passed a) [] E (tVar 1) (tCons (tVar 5) tNil)) (tC .non))) (tTest (tOp (rNeP a.S) (tCall (sp_seen a) [] E (tCons (tVar 1) (tCons (tVar 2) tNil))) (tVar 4)))) (tRet (tC (.bl false))) tNext)))
    (tRet (tC (.bl true)))))))
def sp_ended (a : Cl) : Sp := spB 6 3 (t_ended a)
theorem in_ended {a : Cl} {v0 v1 v2 : V} {H : Hp} {Q : VK} {E : XK} (h : (tSeq (tAsg (tOp rSub (tOp (rIx a.S) (tVar 2) (tC (.int 1))) (tOp (rIx a.S) (tVar 2) (tC (.int 0)))) (gName 3))
    (tSeq (tAsg (tLst (tCons (tOp (rIx a.S) (tVar 2) (tC (.int 2))) (tCons (tOp (rIx a.S) (tVar 2) (tC (.int 2))) (tCons (tC (.int 0)) (tCons (tC (.int 0)) tNil))))) (gName 4))
    (tSeq (tIfS (tOr (tTest (tOp rGt (tOp (rIx a.S) (tVar 2) (tC (.int 4))) (tUn rBits (tVar 3)))) (tTest (tOp (rNeP a.S) (tCall (sp_seen a) [] E (tCons (tVar 1) (tCons (tVar 2) tNil))) (tVar 4)))) (tRet (tC (.bl false))) tNext)
    (tSeq (sFor a.S (tLst (tCons (tC (.int 0)) (tCons (tOp (rIx a.S) (tVar 2) (tC (.int 2))) (tCons (tOp rAdd (tOp (rIx a.S) (tVar 2) (tC (.int 2))) (tC (.int 1))) (tCons (tCall (sp_take a) [] E (tCons (tVar 0) (tCons (tC (.int 1402)) tNil))) tNil))))) (gName 5) (tSeq (tIfS (tOr (tTest (tOp rIsNot (tMeth a.c_Finder "failed" (sp_Finder_failed a) [] E (tVar 1) (tCons (tVar 5) tNil)) (tC .non))) (tTest (tOp (rNeP a.S) (tCall (sp_seen a) [] E (tCons (tVar 1) (tCons (tVar 2) tNil))) (tVar 4)))) (tRet (tC (.bl false))) tNext)
    (tIfS (tOr (tTest (tOp rIsNot (tMeth a.c_Finder "passed" (sp_Finder_passed a) [] E (tVar 1) (tCons (tVar 5) tNil)) (tC .non))) (tTest (tOp (rNeP a.S) (tCall (sp_seen a) [] E (tCons (tVar 1) (tCons (tVar 2) tNil))) (tVar 4)))) (tRet (tC (.bl false))) tNext)))
    (tRet (tC (.bl true))))))) ⟨fun _ H' => Q .non H', Q, fun _ _ => False, fun _ _ => False⟩ [some v0, some v1, some v2, none, none, none] H) : sp_ended a [v0, v1, v2] H Q E := ⟨rfl, h⟩
def t_law (a : Cl) (E : XK) : TS :=
  (tSeq (tAsg (tCall (sp_bag a) [] E (tCons (tVar 0) tNil)) (gName 1))
    (tSeq (tAsg (tLst (tCons (tCall (sp_path a) [] E (tCons (tVar 1) tNil)) (tCons (tCall (sp_path a) [] E (tCons (tVar 1) tNil)) tNil))) (gName 2))
    (tSeq (tAsg (eLc a.S (tVar 2) (gName 4) tYes (tMake a.c_Finder (sp_Finder___init__ a) [] E0 (tCons (tOp (rIx a.S) (tVar 4) (tC (.int 0))) (tCons (tOp (rIx a.S) (tVar 4) (tC (.int 1))) tNil))) [4]) (gName 3))
    (tSeq (sForR none (tC (.int 120)) (gName 5) (tSeq (tAsg (tCall (sp_take a) [] E (tCons (tVar 1) (tCons (tC (.int 2)) tNil))) (gName 6))
    (tSeq (tIfS (tTest (tOp (rEqP a.S) (tMeth a.c_Finder "trial" (sp_Finder_trial a) [] E (tOp (rIx a.S) (tVar 3) (tVar 6)) tNil) (tC (.int 0)))) (tAsg (tOp rSub (tC (.int 1)) (tVar 6)) (gName 6)) tNext)
    (tSeq (tIfS (tTest (tOp (rEqP a.S) (tMeth a.c_Finder "trial" (sp_Finder_trial a) [] E (tOp (rIx a.S) (tVar 3) (tVar 6)) tNil) (tC (.int 0)))) tBreak tNext)
    (tSeq (tAsg (tCall (sp_seen a) [] E (tCons (tOp (rIx a.S) (tVar 3) (tOp rSub (tC (.int 1)) (tVar 6))) (tCons (tOp (rIx a.S) (tVar 2) (tOp rSub (tC (.int 1)) (tVar 6))) tNil))) (gName 7))
    (tSeq (tIfS (tOr (tTest (tOp (rEqP a.S) (tVar 7) (tLst tNil))) (tNot (tB (tCall (sp_step a) [] E (tCons (tVar 1) (tCons (tOp (rIx a.S) (tVar 3) (tVar 6)) (tCons (tOp (rIx a.S) (tVar 2) (tVar 6)) tNil))))))) (tRet (tC (.bl false))) tNext)
    (tIfS (tTest (tOp (rNeP a.S) (tCall (sp_seen a) [] E (tCons (tOp (rIx a.S) (tVar 3) (tOp rSub (tC (.int 1)) (tVar 6))) (tCons (tOp (rIx a.S) (tVar 2) (tOp rSub (tC (.int 1)) (tVar 6))) tNil))) (tVar 7))) (tRet (tC (.bl false))) tNext)))))))
    (tRet (tAndV (tCall (sp_ended a) [] E (tCons (tVar 1) (tCons (tOp (rIx a.S) (tVar 3) (tC (.int 0))) (tCons (tOp (rIx a.S) (tVar 2) (tC (.int 0))) tNil)))) (tCall (sp_ended a) [] E (tCons (tVar 1) (tCons (tOp (rIx a.S) (tVar 3) (tC (.int 1))) (tCons (tOp (rIx a.S) (tVar 2) (tC (.int 1))) tNil))))))))))
def sp_law (a : Cl) : Sp := spB 8 1 (t_law a)
theorem in_law {a : Cl} {v0 : V} {H : Hp} {Q : VK} {E : XK} (h : (tSeq (tAsg (tCall (sp_bag a) [] E (tCons (tVar 0) tNil)) (gName 1))
    (tSeq (tAsg (tLst (tCons (tCall (sp_path a) [] E (tCons (tVar 1) tNil)) (tCons (tCall (sp_path a) [] E (tCons (tVar 1) tNil)) tNil))) (gName 2))
    (tSeq (tAsg (eLc a.S (tVar 2) (gName 4) tYes (tMake a.c_Finder (sp_Finder___init__ a) [] E0 (tCons (tOp (rIx a.S) (tVar 4) (tC (.int 0))) (tCons (tOp (rIx a.S) (tVar 4) (tC (.int 1))) tNil))) [4]) (gName 3))
    (tSeq (sForR none (tC (.int 120)) (gName 5) (tSeq (tAsg (tCall (sp_take a) [] E (tCons (tVar 1) (tCons (tC (.int 2)) tNil))) (gName 6))
    (tSeq (tIfS (tTest (tOp (rEqP a.S) (tMeth a.c_Finder "trial" (sp_Finder_trial a) [] E (tOp (rIx a.S) (tVar 3) (tVar 6)) tNil) (tC (.int 0)))) (tAsg (tOp rSub (tC (.int 1)) (tVar 6)) (gName 6)) tNext)
    (tSeq (tIfS (tTest (tOp (rEqP a.S) (tMeth a.c_Finder "trial" (sp_Finder_trial a) [] E (tOp (rIx a.S) (tVar 3) (tVar 6)) tNil) (tC (.int 0)))) tBreak tNext)
    (tSeq (tAsg (tCall (sp_seen a) [] E (tCons (tOp (rIx a.S) (tVar 3) (tOp rSub (tC (.int 1)) (tVar 6))) (tCons (tOp (rIx a.S) (tVar 2) (tOp rSub (tC (.int 1)) (tVar 6))) tNil))) (gName 7))
    (tSeq (tIfS (tOr (tTest (tOp (rEqP a.S) (tVar 7) (tLst tNil))) (tNot (tB (tCall (sp_step a) [] E (tCons (tVar 1) (tCons (tOp (rIx a.S) (tVar 3) (tVar 6)) (tCons (tOp (rIx a.S) (tVar 2) (tVar 6)) tNil))))))) (tRet (tC (.bl false))) tNext)
    (tIfS (tTest (tOp (rNeP a.S) (tCall (sp_seen a) [] E (tCons (tOp (rIx a.S) (tVar 3) (tOp rSub (tC (.int 1)) (tVar 6))) (tCons (tOp (rIx a.S) (tVar 2) (tOp rSub (tC (.int 1)) (tVar 6))) tNil))) (tVar 7))) (tRet (tC (.bl false))) tNext)))))))
    (tRet (tAndV (tCall (sp_ended a) [] E (tCons (tVar 1) (tCons (tOp (rIx a.S) (tVar 3) (tC (.int 0))) (tCons (tOp (rIx a.S) (tVar 2) (tC (.int 0))) tNil)))) (tCall (sp_ended a) [] E (tCons (tVar 1) (tCons (tOp (rIx a.S) (tVar 3) (tC (.int 1))) (tCons (tOp (rIx a.S) (tVar 2) (tC (.int 1))) tNil)))))))))) ⟨fun _ H' => Q .non H', Q, fun _ _ => False, fun _ _ => False⟩ [some v0, none, none, none, none, none, none, none] H) : sp_law a [v0] H Q E := ⟨rfl, h⟩

/-! the walker: «walk_at "y 1"» one step, «walk_at "y"» as far as it goes -/
local macro_rules | `(tactic| walk_at "y mem") => `(tactic| repeat (first | assumption | exact List.Mem.head _ | apply List.Mem.tail))
local macro_rules | `(tactic| walk_at "y sub") => `(tactic| first | exact List.Sublist.refl _ | exact List.nil_sublist _ | (refine List.Sublist.cons₂ _ ?_; walk_at "y sub") | (refine List.Sublist.cons _ ?_; walk_at "y sub"))
local macro_rules | `(tactic| walk_at "y take") => `(tactic| first | exact Y.Take.here | (apply Y.Take.there; walk_at "y take"))
local macro_rules | `(tactic| walk_at "y sel") => `(tactic| first | exact Y.Sel.all | exact Y.Sel.nil | (refine' Y.Sel.cons ?h ?s; (case h => walk_at "y take"); (case s => walk_at "y sel")) | (apply Y.Sel.drop; walk_at "y sel"))
local macro_rules | `(tactic| walk_at "y src") => `(tactic| first | assumption | (refine Y.Src.is ?_; walk_at "y mem"; done) | (refine Y.Src.rd ?_; walk_at "y mem"; done) | (refine Y.Src.st ?_; assumption) | (apply Y.Src.cons; walk_at "y src"))
local macro_rules | `(tactic| walk_at "y put") => `(tactic| repeat (first | assumption | exact Y.Put.here | apply Y.Put.there))
local macro_rules | `(tactic| walk_at "y at") => `(tactic| first | exact Y.atI_at (j := 0) rfl rfl | exact Y.atI_at (j := 1) rfl rfl | exact Y.atI_at (j := 2) rfl rfl | exact Y.atI_at (j := 3) rfl rfl | exact Y.atI_at (j := 4) rfl rfl | exact Y.atI_at (j := 5) rfl rfl | exact Y.atI_at (j := 6) rfl rfl | exact Y.atI_at (j := 7) rfl rfl | exact Y.atI_at (j := 8) rfl rfl | exact Y.atI_at (j := 9) rfl rfl | exact Y.atI_at (j := 10) rfl rfl | exact Y.atI_at (j := 11) rfl rfl | exact Y.atI_at (j := 12) rfl rfl | exact Y.atI_at (j := 13) rfl rfl | exact Y.atI_at (j := 14) rfl rfl | exact Y.atI_at (j := 15) rfl rfl | assumption | exact Y.atI_ints (by omega) (by omega))
local macro_rules | `(tactic| walk_at "y ix") => `(tactic| first | exact Y.ixN_b (j := 0) rfl rfl | exact Y.ixN_b (j := 1) rfl rfl | exact Y.ixN_b (j := 2) rfl rfl | exact Y.ixN_b (j := 3) rfl rfl | exact Y.ixN_b (j := 4) rfl rfl | exact Y.ixN_b (j := 5) rfl rfl | exact Y.ixN_b (j := 6) rfl rfl | exact Y.ixN_b (j := 7) rfl rfl | exact Y.ixN_b (j := 8) rfl rfl | exact Y.ixN_b (j := 9) rfl rfl | exact Y.ixN_b (j := 10) rfl rfl | exact Y.ixN_b (j := 11) rfl rfl | exact Y.ixN_b (j := 12) rfl rfl | exact Y.ixN_b (j := 13) rfl rfl | exact Y.ixN_b (j := 14) rfl rfl | exact Y.ixN_b (j := 15) rfl rfl | assumption | exact Y.ixN_i (by omega) (by omega))
local macro_rules | `(tactic| walk_at "y field") => `(tactic| first | assumption | exact Y.look_hit | exact Y.look_nil | (refine' Y.look_miss ?hd ?tl; (case hd => decide +kernel); (case tl => walk_at "y field")))
local macro_rules | `(tactic| walk_at "y putf") => `(tactic| first | exact Y.put_nil | exact Y.put_hit | (refine' Y.put_miss ?hd ?tl; (case hd => decide +kernel); (case tl => walk_at "y putf")))
local macro_rules | `(tactic| walk_at "y size") => `(tactic| first | exact Y.len_leB rfl | exact Y.len_ltB rfl | exact Y.f_lt rfl | (refine Y.len_leN ?_; simp only [List.length_append, List.length_cons, List.length_nil, List.length_map]; omega) | (refine Y.len_ltN ?_; simp only [List.length_append, List.length_cons, List.length_nil, List.length_map]; omega))
local macro_rules | `(tactic| walk_at "y flat") => `(tactic| first | exact Y.flat_ints | rfl | assumption)
local macro_rules | `(tactic| walk_at "y eqv") => `(tactic| first | exact Y.eqv_nil | exact Y.eqv_nc | exact Y.eqv_cn | exact Y.eqv_ints | (simp only [Y.eqv_int, Y.eqv_bl, Y.eqv_str, Y.eqv_nil, Y.eqv_nc, Y.eqv_cn, Bool.and_true, Bool.and_false, ← Bool.decide_and]; rfl) | assumption)
local macro_rules | `(tactic| walk_at "y side") => `(tactic| fail "side")
local macro_rules | `(tactic| walk_at "y spec") => `(tactic| fail "spec")
local macro_rules | `(tactic| walk_at "y 1") => `(tactic| first
  | (with_reducible refine Y.x_op ?_)
  | ((with_reducible refine Y.is_var ?_); first
    | (with_reducible refine Y.x_v0 ?_)
    | (with_reducible refine Y.x_v1 ?_)
    | (with_reducible refine Y.x_v2 ?_)
    | (with_reducible refine Y.x_v3 ?_)
    | (with_reducible refine Y.x_v4 ?_)
    | (with_reducible refine Y.x_v5 ?_)
    | (with_reducible refine Y.x_v6 ?_)
    | (with_reducible refine Y.x_v7 ?_)
    | (with_reducible refine Y.x_v8 ?_)
    | (with_reducible refine Y.x_v9 ?_)
    | (with_reducible refine Y.x_v10 ?_)
    | (with_reducible refine Y.x_v11 ?_)
    | (with_reducible refine Y.x_v12 ?_)
    | (with_reducible refine Y.x_v13 ?_)
    | (with_reducible refine Y.x_v14 ?_)
    | (with_reducible refine Y.x_v15 ?_)
    | (with_reducible refine Y.x_v16 ?_)
    | (with_reducible refine Y.x_v17 ?_)
    | (with_reducible refine Y.x_v18 ?_)
    | (with_reducible refine Y.x_v19 ?_)
    | (with_reducible refine Y.x_v20 ?_)
    | (with_reducible refine Y.x_v21 ?_)
    | (with_reducible refine Y.x_v22 ?_)
    | (with_reducible refine Y.x_v23 ?_))
  | (with_reducible refine Y.x_c ?_)
  | (with_reducible refine Y.x_seq ?_)
  | (with_reducible refine Y.x_asg ?_)
  | ((with_reducible refine Y.is_g ?_); first
    | (with_reducible refine Y.x_g0 ?_)
    | (with_reducible refine Y.x_g1 ?_)
    | (with_reducible refine Y.x_g2 ?_)
    | (with_reducible refine Y.x_g3 ?_)
    | (with_reducible refine Y.x_g4 ?_)
    | (with_reducible refine Y.x_g5 ?_)
    | (with_reducible refine Y.x_g6 ?_)
    | (with_reducible refine Y.x_g7 ?_)
    | (with_reducible refine Y.x_g8 ?_)
    | (with_reducible refine Y.x_g9 ?_)
    | (with_reducible refine Y.x_g10 ?_)
    | (with_reducible refine Y.x_g11 ?_)
    | (with_reducible refine Y.x_g12 ?_)
    | (with_reducible refine Y.x_g13 ?_)
    | (with_reducible refine Y.x_g14 ?_)
    | (with_reducible refine Y.x_g15 ?_)
    | (with_reducible refine Y.x_g16 ?_)
    | (with_reducible refine Y.x_g17 ?_)
    | (with_reducible refine Y.x_g18 ?_)
    | (with_reducible refine Y.x_g19 ?_)
    | (with_reducible refine Y.x_g20 ?_)
    | (with_reducible refine Y.x_g21 ?_)
    | (with_reducible refine Y.x_g22 ?_)
    | (with_reducible refine Y.x_g23 ?_))
  | (with_reducible refine Y.x_bl ?_)
  | (with_reducible refine Y.x_cons ?_)
  | (with_reducible refine Y.x_nil ?_)
  | (with_reducible refine Y.x_cb ?_)
  | (with_reducible refine Y.x_test ?_)
  | (with_reducible refine Y.x_ifS ?_)
  | (with_reducible refine Y.x_iteT ?_)
  | (with_reducible refine Y.x_iteF ?_)
  | (with_reducible refine Y.x_next ?_)
  | (with_reducible refine Y.x_call ?_)
  | (with_reducible refine Y.x_app ?_)
  | (with_reducible refine Y.x_ret ?_)
  | (with_reducible refine Y.x_add ?_)
  | (with_reducible refine Y.x_sub ?_)
  | ((with_reducible refine Y.is_eq ?_); first
    | (with_reducible refine Y.x_eqI ?_)
    | (with_reducible refine Y.x_eqB ?_)
    | (with_reducible refine Y.x_eqS ?_))
  | ((with_reducible refine Y.is_ne ?_); first
    | (with_reducible refine Y.x_neI ?_)
    | (with_reducible refine Y.x_neB ?_)
    | (with_reducible refine Y.x_neS ?_))
  | ((with_reducible refine Y.is_eqP ?_); first
    | (with_reducible refine Y.x_eqPI ?_)
    | (with_reducible refine Y.x_eqPB ?_)
    | (with_reducible refine Y.x_eqPS ?_)
    | ((with_reducible refine' Y.x_eqPL ?F ?m ?n ?f1 ?f2 ?ev ?_); (case F => assumption); (case m => walk_at "y mem"); (case n => walk_at "y mem"); (case f1 => walk_at "y flat"); (case f2 => walk_at "y flat"); (case ev => walk_at "y eqv")))
  | ((with_reducible refine Y.is_neP ?_); first
    | (with_reducible refine Y.x_nePI ?_)
    | (with_reducible refine Y.x_nePB ?_)
    | (with_reducible refine Y.x_nePS ?_)
    | ((with_reducible refine' Y.x_nePL ?F ?m ?n ?f1 ?f2 ?ev ?_); (case F => assumption); (case m => walk_at "y mem"); (case n => walk_at "y mem"); (case f1 => walk_at "y flat"); (case f2 => walk_at "y flat"); (case ev => walk_at "y eqv")))
  | ((with_reducible refine Y.is_is ?_); first
    | (with_reducible refine Y.x_isN ?_)
    | (with_reducible refine Y.x_isI ?_)
    | (with_reducible refine Y.x_isR ?_)
    | (with_reducible refine Y.x_isB ?_))
  | ((with_reducible refine Y.is_isn ?_); first
    | (with_reducible refine Y.x_isnN ?_)
    | (with_reducible refine Y.x_isnI ?_)
    | (with_reducible refine Y.x_isnR ?_)
    | (with_reducible refine Y.x_isnB ?_))
  | ((with_reducible refine Y.is_ix ?_); first
    | ((with_reducible refine' Y.x_ixL ?F ?m ?a ?_); (case F => assumption); (case m => walk_at "y mem"); (case a => walk_at "y at"))
    | ((with_reducible refine' Y.x_ixT ?F ?m ?a ?_); (case F => assumption); (case m => walk_at "y mem"); (case a => walk_at "y at"))
    | ((with_reducible refine' Y.x_ixR ?F ?m ?a ?_); (case F => assumption); (case m => walk_at "y mem"); (case a => walk_at "y at"))
    | ((with_reducible refine' Y.x_ixS ?ms ?a ?_); (case ms => assumption); (case a => walk_at "y at")))
  | ((with_reducible refine Y.is_len ?_); first
    | ((with_reducible refine' Y.x_lenL ?F ?m ?_); (case F => assumption); (case m => walk_at "y mem"))
    | ((with_reducible refine' Y.x_lenT ?F ?m ?_); (case F => assumption); (case m => walk_at "y mem"))
    | ((with_reducible refine' Y.x_lenR ?F ?m ?_); (case F => assumption); (case m => walk_at "y mem"))
    | ((with_reducible refine' Y.x_lenS ?ms ?_); (case ms => assumption)))
  | ((with_reducible refine Y.is_sl ?_); first
    | ((with_reducible refine' Y.x_sl1 ?F ?m ?_); (case F => assumption); (case m => walk_at "y mem"); intro _ _ _ _)
    | ((with_reducible refine' Y.x_slp1 ?F ?m ?_); (case F => assumption); (case m => walk_at "y mem"); intro _ _ _ _)
    | ((with_reducible refine' Y.x_slp2 ?F ?m ?_); (case F => assumption); (case m => walk_at "y mem"); intro _ _ _ _)
    | ((with_reducible refine' Y.x_slp3 ?F ?m ?_); (case F => assumption); (case m => walk_at "y mem"); intro _ _ _ _)
    | ((with_reducible refine' Y.x_slp4 ?F ?m ?_); (case F => assumption); (case m => walk_at "y mem"); intro _ _ _ _)
    | ((with_reducible refine' Y.x_slp5 ?F ?m ?_); (case F => assumption); (case m => walk_at "y mem"); intro _ _ _ _)
    | ((with_reducible refine' Y.x_slp6 ?F ?m ?_); (case F => assumption); (case m => walk_at "y mem"); intro _ _ _ _)
    | ((with_reducible refine' Y.x_slp7 ?F ?m ?_); (case F => assumption); (case m => walk_at "y mem"); intro _ _ _ _)
    | ((with_reducible refine' Y.x_slp8 ?F ?m ?_); (case F => assumption); (case m => walk_at "y mem"); intro _ _ _ _)
    | ((with_reducible refine' Y.x_slL ?F ?m ?_); (case F => assumption); (case m => walk_at "y mem"); intro _ _ _ _)
    | ((with_reducible refine' Y.x_slR ?F ?m ?_); (case F => assumption); (case m => walk_at "y mem"); intro _ _ _ _)
    | ((with_reducible refine' Y.x_slS ?F ?ms ?_); (case F => assumption); (case ms => assumption); intro _ _ _ _))
  | (with_reducible refine Y.x_lt ?_)
  | (with_reducible refine Y.x_le ?_)
  | (with_reducible refine Y.x_gt ?_)
  | (with_reducible refine Y.x_ge ?_)
  | (with_reducible refine Y.x_intI ?_)
  | (with_reducible refine Y.x_not ?_)
  | (with_reducible refine Y.x_and ?_)
  | (with_reducible refine Y.x_or ?_)
  | (with_reducible refine Y.x_tB ?_)
  | (with_reducible refine Y.x_chain ?_)
  | (with_reducible refine Y.x_andV ?_)
  | (with_reducible refine Y.x_orV ?_)
  | (with_reducible refine Y.x_notV ?_)
  | (with_reducible refine Y.x_con ?_)
  | (with_reducible refine Y.x_fld ?_)
  | (with_reducible refine Y.x_gsub ?_)
  | (with_reducible refine Y.x_meth ?_)
  | (with_reducible refine Y.x_lst ?_)
  | (with_reducible refine Y.x_tup ?_)
  | (with_reducible refine Y.x_apd ?_)
  | (with_reducible refine Y.x_setF ?_)
  | (with_reducible refine Y.x_drop ?_)
  | ((with_reducible refine Y.is_isi ?_); first
    | (with_reducible refine Y.x_isi_int_int ?_)
    | (with_reducible refine Y.x_isi_int_bool ?_)
    | (with_reducible refine Y.x_isi_int_str ?_)
    | (with_reducible refine Y.x_isi_int_list ?_)
    | (with_reducible refine Y.x_isi_int_tuple ?_)
    | (with_reducible refine Y.x_isi_int_dict ?_)
    | (with_reducible refine Y.x_isi_bool_int ?_)
    | (with_reducible refine Y.x_isi_bool_bool ?_)
    | (with_reducible refine Y.x_isi_bool_str ?_)
    | (with_reducible refine Y.x_isi_bool_list ?_)
    | (with_reducible refine Y.x_isi_bool_tuple ?_)
    | (with_reducible refine Y.x_isi_bool_dict ?_)
    | (with_reducible refine Y.x_isi_str_int ?_)
    | (with_reducible refine Y.x_isi_str_bool ?_)
    | (with_reducible refine Y.x_isi_str_str ?_)
    | (with_reducible refine Y.x_isi_str_list ?_)
    | (with_reducible refine Y.x_isi_str_tuple ?_)
    | (with_reducible refine Y.x_isi_str_dict ?_)
    | (with_reducible refine Y.x_isi_NoneType_int ?_)
    | (with_reducible refine Y.x_isi_NoneType_bool ?_)
    | (with_reducible refine Y.x_isi_NoneType_str ?_)
    | (with_reducible refine Y.x_isi_NoneType_list ?_)
    | (with_reducible refine Y.x_isi_NoneType_tuple ?_)
    | (with_reducible refine Y.x_isi_NoneType_dict ?_))
  | (with_reducible refine Y.x_tIf ?_)
  | (with_reducible refine Y.x_un ?_)
  | (with_reducible refine Y.x_retN ?_)
  | (with_reducible refine Y.x_brk ?_)
  | (with_reducible refine Y.x_cont ?_)
  | (with_reducible refine Y.x_cmeth ?_)
  | (with_reducible refine Y.x_raw ?_)
  | (with_reducible refine Y.x_make ?_)
  | (with_reducible refine Y.x_app' ?_)
  | (with_reducible refine Y.x_sl ?_)
  | (with_reducible refine Y.x_nopart ?_)
  | (with_reducible refine Y.x_part ?_)
  | (with_reducible refine Y.x_niteT ?_)
  | (with_reducible refine Y.x_niteF ?_)
  | (with_reducible refine Y.x_initEnd ?_)
  | (with_reducible refine Y.x_neg ?_)
  | (with_reducible refine Y.x_band ?_)
  | (with_reducible refine Y.x_intB ?_)
  | (with_reducible refine Y.x_augA ?_)
  | (with_reducible refine Y.x_augS ?_)
  | (with_reducible refine Y.x_forR1 ?_)
  | (with_reducible refine Y.x_forR2 ?_)
  | (with_reducible refine Y.x_forE ?_)
  | (with_reducible refine Y.x_lcE ?_)
  | (with_reducible refine Y.x_yes ?_)
  | (with_reducible refine Y.x_int1 ?_)
  | (with_reducible refine Y.x_int2 ?_)
  | (with_reducible refine Y.x_forK0 ?_)
  | (with_reducible refine Y.x_forK ?_)
  | (with_reducible refine Y.x_chn ?_)
  | (with_reducible refine Y.x_clast ?_)
  | (with_reducible refine Y.x_clink ?_)
  | (with_reducible refine Y.x_bits ?_)
  | (with_reducible refine Y.x_forKS ?_)
  | (with_reducible refine Y.x_forKS0 ?_)
  | (with_reducible refine Y.x_lcKS ?_)
  | (with_reducible refine Y.x_lcKS0 ?_)
  | (with_reducible refine Y.x_abs ?_)
  | (with_reducible refine Y.x_min2 ?_)
  | (with_reducible refine Y.x_max2 ?_)
  | (with_reducible refine Y.x_prop ?_)
  | (with_reducible refine Y.x_augF ?_)
  | (with_reducible refine Y.x_inAdd ?_)
  | (with_reducible refine Y.x_inSub ?_)
  | ((with_reducible refine Y.is_au ?_); first
    | (with_reducible refine Y.x_au0 ?_)
    | (with_reducible refine Y.x_au1 ?_)
    | (with_reducible refine Y.x_au2 ?_)
    | (with_reducible refine Y.x_au3 ?_)
    | (with_reducible refine Y.x_au4 ?_)
    | (with_reducible refine Y.x_au5 ?_)
    | (with_reducible refine Y.x_au6 ?_)
    | (with_reducible refine Y.x_au7 ?_)
    | (with_reducible refine Y.x_au8 ?_)
    | (with_reducible refine Y.x_au9 ?_)
    | (with_reducible refine Y.x_au10 ?_)
    | (with_reducible refine Y.x_au11 ?_)
    | (with_reducible refine Y.x_au12 ?_)
    | (with_reducible refine Y.x_au13 ?_)
    | (with_reducible refine Y.x_au14 ?_)
    | (with_reducible refine Y.x_au15 ?_)
    | (with_reducible refine Y.x_au16 ?_)
    | (with_reducible refine Y.x_au17 ?_)
    | (with_reducible refine Y.x_au18 ?_)
    | (with_reducible refine Y.x_au19 ?_)
    | (with_reducible refine Y.x_au20 ?_)
    | (with_reducible refine Y.x_au21 ?_)
    | (with_reducible refine Y.x_au22 ?_)
    | (with_reducible refine Y.x_au23 ?_))
  | ((with_reducible refine Y.is_ml ?_); first
    | (with_reducible refine Y.x_ml0 ?_)
    | (with_reducible refine Y.x_ml1 ?_))
  | ((with_reducible refine' Y.x_mod ?c ?_); (case c => first | omega | decide | walk_at "y side"))
  | ((with_reducible refine' Y.x_fdiv ?c ?_); (case c => first | exact Y.div_small (by omega) (by omega) | walk_at "y side"))
  | ((with_reducible refine' Y.x_mul ?c ?_); (case c => first | exact Y.mulR (by omega) (by omega) | exact Y.mulL (by omega) (by omega) | walk_at "y side"))
  | ((with_reducible refine Y.is_pow ?_); first
    | (with_reducible refine Y.x_pw10_1 ?_)
    | (with_reducible refine Y.x_pw10_2 ?_)
    | (with_reducible refine Y.x_pw10_3 ?_)
    | (with_reducible refine Y.x_pw10_4 ?_)
    | (with_reducible refine Y.x_pw10_5 ?_)
    | (with_reducible refine Y.x_pw10_6 ?_)
    | (with_reducible refine Y.x_pw10_7 ?_)
    | (with_reducible refine Y.x_pw10_8 ?_)
    | (with_reducible refine Y.x_pw10_9 ?_)
    | (with_reducible refine Y.x_pw10_10 ?_)
    | (with_reducible refine Y.x_pw10_11 ?_)
    | (with_reducible refine Y.x_pw10_12 ?_)
    | (with_reducible refine Y.x_pw10_13 ?_)
    | (with_reducible refine Y.x_pw10_14 ?_)
    | (with_reducible refine Y.x_pw10_15 ?_)
    | (with_reducible refine Y.x_pw10_16 ?_)
    | (with_reducible refine Y.x_pw10_17 ?_)
    | (with_reducible refine Y.x_pw10_18 ?_)
    | (with_reducible refine Y.x_pw10_19 ?_)
    | (with_reducible refine Y.x_pw10_20 ?_)
    | (with_reducible refine Y.x_pw10_21 ?_)
    | (with_reducible refine Y.x_pw10_22 ?_)
    | (with_reducible refine Y.x_pw10_23 ?_)
    | (with_reducible refine Y.x_pw10_24 ?_)
    | (with_reducible refine Y.x_pw2_6 ?_)
    | (with_reducible refine Y.x_pw2_10 ?_)
    | (with_reducible refine Y.x_pw2_16 ?_)
    | (with_reducible refine Y.x_pw2_20 ?_)
    | (with_reducible refine Y.x_pw2_30 ?_)
    | (with_reducible refine Y.x_pw2_31 ?_)
    | (with_reducible refine Y.x_pw2_32 ?_)
    | (with_reducible refine Y.x_pw2_40 ?_)
    | (with_reducible refine Y.x_pw2_48 ?_)
    | (with_reducible refine Y.x_pw2_60 ?_)
    | (with_reducible refine Y.x_pw2_62 ?_)
    | (with_reducible refine Y.x_pw2_63 ?_)
    | (with_reducible refine Y.x_pw2_64 ?_))
  | ((with_reducible refine' Y.x_pow ?c ?_); (case c => first | exact ⟨by decide, by decide, by decide⟩ | walk_at "y side"))
  | ((with_reducible refine' Y.x_shl ?c ?_); (case c => first | exact ⟨by omega, by omega, by decide⟩ | walk_at "y side"))
  | ((with_reducible refine' Y.x_wipe ?e ?_); (case e => rfl))
  | ((with_reducible refine' Y.x_lcPut ?F ?pu ?sz ?_); (case F => assumption); (case pu => walk_at "y put"); (case sz => walk_at "y size"); intro _ _)
  | ((with_reducible refine' Y.x_fldG ?F ?m ?l ?_); (case F => assumption); (case m => walk_at "y mem"); (case l => walk_at "y field"))
  | ((with_reducible refine' Y.x_methG ?F ?m ?l ?_); (case F => assumption); (case m => walk_at "y mem"); (case l => walk_at "y field"))
  | ((with_reducible refine' Y.x_inOwnF ?F ?m ?_); (case F => assumption); (case m => walk_at "y mem"))
  | ((with_reducible refine' Y.x_inOwnT ?F ?m ?_); (case F => assumption); (case m => walk_at "y mem"))
  | ((with_reducible refine' Y.x_setFG ?F ?m ?z ?e ?pu ?_); (case F => assumption); (case m => walk_at "y mem"); (case z => walk_at "y size"); (case e => walk_at "y putf"); (case pu => walk_at "y put"); intro _ _)
  | ((with_reducible refine' Y.x_setL ?F ?m ?ax ?pu ?_); (case F => assumption); (case m => walk_at "y mem"); (case ax => walk_at "y ix"); (case pu => walk_at "y put"); intro _ _)
  | ((with_reducible refine' Y.x_apdG ?F ?m ?_); (case F => assumption); (case m => walk_at "y mem"))
  | ((with_reducible refine' Y.x_append ?F ?m ?z ?pu ?_); (case F => assumption); (case m => walk_at "y mem"); (case z => walk_at "y size"); (case pu => walk_at "y put"); intro _ _)
  | ((with_reducible refine' Y.x_lstG ?F ?z ?_); (case F => assumption); (case z => walk_at "y size"); intro _ _ _ _)
  | ((with_reducible refine' Y.x_tupG ?F ?z ?_); (case F => assumption); (case z => walk_at "y size"); intro _ _ _ _)
  | ((with_reducible refine' Y.x_makeG ?F ?_); (case F => assumption); intro _ _ _ _)
  | ((with_reducible refine' Y.x_allT ?F ?m ?_); (case F => assumption); (case m => walk_at "y mem"))
  | ((with_reducible refine' Y.x_rdT ?F ?m ?_); (case F => assumption); (case m => walk_at "y mem"))
  | ((with_reducible refine' Y.x_rdL ?F ?m ?_); (case F => assumption); (case m => walk_at "y mem"))
  | ((with_reducible refine' Y.forTU ?F ?m ?_); (case F => assumption); (case m => walk_at "y mem"))
  | ((with_reducible refine' Y.x_sumL ?F ?m ?_); (case F => assumption); (case m => walk_at "y mem"))
  | ((with_reducible refine' Y.x_cat ?F ?m ?n ?z ?_); (case F => assumption); (case m => walk_at "y mem"); (case n => walk_at "y mem"); (case z => walk_at "y size"); intro _ _ _ _)
  | ((with_reducible refine' Y.x_propG ?F ?m ?_); (case F => assumption); (case m => walk_at "y mem"))
  | ((with_reducible refine' Y.x_augFG ?F ?m ?l ?_); (case F => assumption); (case m => walk_at "y mem"); (case l => walk_at "y field"))
  | ((with_reducible refine' Y.x_augFS ?F ?m ?z ?e ?pu ?_); (case F => assumption); (case m => walk_at "y mem"); (case z => walk_at "y size"); (case e => walk_at "y putf"); (case pu => walk_at "y put"); intro _ _))
local macro_rules | `(tactic| walk_at "y if") => `(tactic| first
  | ((with_reducible refine Y.x_ite ?_ ?_); all_goals (intro _; try (exfalso; omega)))
  | ((with_reducible refine Y.x_niteP ?_ ?_); all_goals (intro _; try (exfalso; omega)))
  | ((with_reducible refine Y.x_itec ?_ ?_); all_goals intro _)
  | ((with_reducible refine Y.x_nitec ?_ ?_); all_goals intro _))
local macro_rules | `(tactic| walk_at "y") => `(tactic| repeat' (first | walk_at "y 1" | walk_at "y if" | walk_at "y spec"))

/-! the bag of the draws -/
abbrev BagA := Addr × Addr × List Int × List Int × Int × Int
def bagE (p : Addr) (b : BagA) : List Ent := [(p, Is (.lst [.ref b.1, .ref b.2.1, .int b.2.2.2.2.1, .int b.2.2.2.2.2])), (b.1, Is (.lst (b.2.2.1.map V.int))), (b.2.1, Is (.lst (b.2.2.2.1.map V.int)))]
def bagP (b : BagA) : Prop := (∀ n ∈ b.2.2.1, 0 ≤ n) ∧ b.2.2.1.length ≤ 63 ∧ (∀ n ∈ b.2.2.2.1, 0 ≤ n ∧ n < 2147483647) ∧ b.2.2.2.1.length ≤ 63
def Bag : Pr := comp bagE bagP
theorem take_ok {a : Cl} {H : Hp} {L : List Ent} {p : Addr} {n : Int} {Q : VK} {E : XK} (F : FH H L) (m : (p, Bag) ∈ L) (hn : 0 < n) (hn2 : n ≤ 1000000000000) (k : ∀ r H', 0 ≤ r → r < n → FH H' L → Q (.int r) H') : sp_take a [.ref p, .int n] H Q E := by
  obtain ⟨R, hR⟩ := pull m
  obtain ⟨⟨g, c, gs, cs, i, s⟩, ⟨h1, h2, h3, h4⟩, F1⟩ := (F.perm hR).unfold
  have fin : ∀ (r : Int) (g' : Addr) (gs' : List Int) (i' : Int) (H' : Hp), 0 ≤ r → r < n → (∀ n ∈ gs', 0 ≤ n) → gs'.length ≤ 63 → FH H' ((p, Is (.lst [.ref g', .ref c, .int i', .int s])) :: (g', Is (.lst (gs'.map V.int))) :: (c, Is (.lst (cs.map V.int))) :: R) → Q (.int r) H' := fun r g' gs' i' H' b1 b2 b3 b4 F' =>
    k r H' b1 b2 ((FH.fold (E := bagE) (P := bagP) (g', c, gs', cs, i', s) ⟨b3, b4, h3, h4⟩ F' (List.mem_cons_self)).perm hR.symm)
  clear k F m hR
  have F2 : FH H ((p, Is (.lst [.ref g, .ref c, .int i, .int s])) :: (g, Is (.lst (gs.map V.int))) :: (c, Is (.lst (cs.map V.int))) :: R) := F1
  clear F1
  refine in_take ?_
  cases gs with
  | nil =>
    cases cs with
    | nil =>
      walk_at "y"
      exact fin _ _ [] _ _ (Int.emod_nonneg _ (by omega)) (Int.emod_lt_of_pos _ hn) h1 h2 (FH.sel (by assumption) (by walk_at "y sel"))
    | cons z zs =>
      have e0 : ((List.map V.int (z :: zs)).length : Int) = zs.length + 1 := by simp
      have e1 := Int.emod_nonneg (i + 1) (show ((List.map V.int (z :: zs)).length : Int) ≠ 0 by omega)
      have e2 := Int.emod_lt_of_pos (i + 1) (show 0 < ((List.map V.int (z :: zs)).length : Int) by omega)
      walk_at "y"
      exact fin _ _ [] _ _ (Int.emod_nonneg _ (by omega)) (Int.emod_lt_of_pos _ hn) h1 h2 (FH.sel (by assumption) (by walk_at "y sel"))
  | cons y ys =>
    simp only [List.length_cons] at h2
    have hy := h1 y List.mem_cons_self
    have hys : ∀ n ∈ ys, 0 ≤ n := fun n m => h1 n (List.mem_cons_of_mem _ m)
    walk_at "y"
    · exact fin _ _ (y / n :: ys) _ _ (Int.emod_nonneg _ (by omega)) (Int.emod_lt_of_pos _ hn) (fun z m => (List.mem_cons.mp m).elim (fun e => by rw [e]; exact Int.ediv_nonneg hy (by omega)) (hys z)) (by simp only [List.length_cons]; exact h2) (FH.sel (by assumption) (by walk_at "y sel"))
    · exact fin _ _ ys _ _ (Int.emod_nonneg _ (by omega)) (Int.emod_lt_of_pos _ hn) hys (by omega) (FH.sel (by assumption) (by walk_at "y sel"))

local macro_rules | `(tactic| walk_at "y spec") => `(tactic| first
  | ((with_reducible refine' take_ok ?F ?m ?hn ?hn2 ?_); (case F => assumption); (case m => walk_at "y mem"); (case hn => first | omega | exact Int.emod_nonneg _ (by omega) | exact Int.emod_lt_of_pos _ (by omega)); (case hn2 => first | omega | exact Int.emod_nonneg _ (by omega) | exact Int.emod_lt_of_pos _ (by omega)); intro _ _ _ _ _))

theorem bag_ok {a : Cl} {H : Hp} {L : List Ent} {q : Addr} {ns : List Int} {Q : VK} {E : XK} (F : FH H L) (m : Src a.S L q (ns.map V.int)) (hl : ns.length ≤ 63) (k : ∀ p H', FH H' ((p, Bag) :: L) → Q (.ref p) H') : sp_bag a [.ref q] H Q E := by
  refine in_bag ?_
  walk_at "y"
  refine lcIK (σw := [some (.ref q), none, none, none]) (fun i => if i < 0 then -i else i) (fun i => decide (1000000000000000000 ≤ if i < 0 then -i else i)) F m (by omega) rfl (fun y H QX A hy F' hk hA => ?_) fun D H' F' => ?_
  · walk_at "y"
    · exact hk (decide_eq_true (by assumption))
    · exact hA (decide_eq_false (by assumption))
  · have g1 : ∀ n ∈ (ns.filter fun i => decide (1000000000000000000 ≤ if i < 0 then -i else i)).map (fun i => if i < 0 then -i else i), 0 ≤ n := fun n hn => by
      obtain ⟨i, _, e⟩ := List.mem_map.mp hn
      subst e
      show 0 ≤ if i < 0 then -i else i
      split <;> omega
    have g2 : ((ns.filter fun i => decide (1000000000000000000 ≤ if i < 0 then -i else i)).map (fun i => if i < 0 then -i else i)).length ≤ 63 := by
      rw [List.length_map]
      exact Nat.le_trans (List.length_filter_le _ _) hl
    generalize (ns.filter fun i => decide (1000000000000000000 ≤ if i < 0 then -i else i)).map (fun i => if i < 0 then -i else i) = gs at F' g1 g2
    walk_at "y"
    refine lcII (σw := [some (.ref q), some (.ref D), none, none]) (fun i => i % 2147483647) F' (by walk_at "y src") (by omega) rfl (fun y H QX hy F' hk => ?_) fun D2 H2 F2 => ?_
    · walk_at "y"
      exact hk
    · have g3 : ∀ n ∈ ns.map (fun i => i % 2147483647), 0 ≤ n ∧ n < 2147483647 := fun n hn => by
        obtain ⟨i, _, e⟩ := List.mem_map.mp hn
        subst e
        exact ⟨Int.emod_nonneg _ (by decide), Int.emod_lt_of_pos _ (by decide)⟩
      have g4 : (ns.map (fun i => i % 2147483647)).length ≤ 63 := by rw [List.length_map]; exact hl
      generalize ns.map (fun i => i % 2147483647) = cs at F2 g3 g4
      walk_at "y"
      rename_i p H3 _ F3
      refine k p H3 (FH.fold (E := bagE) (P := bagP) (D, D2, gs, cs, 0, cs.sum % 2147483629) ⟨g1, g2, g3, g4⟩ (FH.sel F3 ?_) List.mem_cons_self)
      show Sel ((p, Is (.lst [.ref D, .ref D2, .int 0, .int (cs.sum % 2147483629)])) :: (D, Is (.lst (gs.map V.int))) :: (D2, Is (.lst (cs.map V.int))) :: L) _
      walk_at "y sel"

local macro_rules | `(tactic| walk_at "y spec") => `(tactic| first
  | ((with_reducible refine' take_ok ?F ?m ?hn ?hn2 ?_); (case F => assumption); (case m => walk_at "y mem"); (case hn => first | omega | exact Int.emod_nonneg _ (by omega) | exact Int.emod_lt_of_pos _ (by omega)); (case hn2 => first | omega | exact Int.emod_nonneg _ (by omega) | exact Int.emod_lt_of_pos _ (by omega)); intro _ _ _ _ _)
  | ((with_reducible refine' bag_ok ?F ?m ?hl ?_); (case F => assumption); (case m => walk_at "y src"); (case hl => assumption); intro _ _ _))

/-! bits of a width -/
def bl (n : Int) : Int := (Builtin.Int.intBits n : Nat)
theorem bl_nn (n : Int) : 0 ≤ bl n := Int.natCast_nonneg _
theorem bl_eq {n : Int} (h : 1 ≤ n) : bl n = (n.natAbs.log2 + 1 : Nat) := by
  unfold bl Builtin.Int.intBits
  rw [if_neg (show ¬ (n == 0) = true by simpa using (show n ≠ 0 by omega))]
theorem bl_zero : bl 0 = 0 := rfl
theorem bl_pos {n : Int} (h : 1 ≤ n) : 1 ≤ bl n := by rw [bl_eq h]; omega
theorem log_mono {a b : Nat} (ha : a ≠ 0) (h : a ≤ b) : a.log2 ≤ b.log2 := by
  have h1 := Nat.log2_self_le ha
  have h2 := Nat.lt_log2_self (n := b)
  have h3 : 2 ^ a.log2 < 2 ^ (b.log2 + 1) := by omega
  have h4 := (Nat.pow_lt_pow_iff_right (by decide : 1 < 2)).mp h3
  omega
theorem bl_mono {m n : Int} (h0 : 0 ≤ m) (h : m ≤ n) : bl m ≤ bl n := by
  by_cases e : m = 0
  · rw [e, bl_zero]; exact bl_nn n
  · rw [bl_eq (by omega), bl_eq (by omega)]
    have := log_mono (a := m.natAbs) (b := n.natAbs) (by omega) (by omega)
    omega
theorem bl_half {m n : Int} (h0 : 0 ≤ m) (h : 2 * m ≤ n) (h1 : 1 ≤ n) : bl m + 1 ≤ bl n := by
  by_cases e : m = 0
  · rw [e, bl_zero]
    have := bl_pos h1
    omega
  · rw [bl_eq (by omega), bl_eq h1]
    have h2 := Nat.log2_self_le (n := m.natAbs) (by omega)
    have h3 := Nat.lt_log2_self (n := n.natAbs)
    have h4 : 2 ^ (m.natAbs.log2 + 1) < 2 ^ (n.natAbs.log2 + 1) := by
      rw [Nat.pow_succ]
      omega
    have h5 := (Nat.pow_lt_pow_iff_right (by decide : 1 < 2)).mp h4
    omega
theorem bl_le {n : Int} (h0 : 0 ≤ n) (h : n ≤ 1400) : bl n ≤ 11 := by
  by_cases e : n = 0
  · rw [e, bl_zero]; omega
  · rw [bl_eq (by omega)]
    have h2 := Nat.log2_self_le (n := n.natAbs) (by omega)
    have h4 : 2 ^ n.natAbs.log2 < 2 ^ 11 := by
      have : (2 : Nat) ^ 11 = 2048 := by decide
      omega
    have h5 := (Nat.pow_lt_pow_iff_right (by decide : 1 < 2)).mp h4
    omega
/-! a finder, and its path -/
abbrev finL (s c k : Int) : List (Str × V) := [("size", .int s), ("ceiling", .int c), ("strikes", .int k)]
def tr (s c : Int) : Int := if s < c then (s + c + 1) / 2 else 0
theorem tr_lt {s c : Int} (h : s < c) : tr s c = (s + c + 1) / 2 := if_pos h
theorem tr_ge {s c : Int} (h : ¬ s < c) : tr s c = 0 := if_neg h
structure Fi where
  lo : Int
  hi : Int
  mo : Int
  as : Int
  hv : Int
  la : Int
  s : Int
  c : Int
  k : Int
abbrev finF (f : Fi) : List (Str × V) := finL f.s f.c f.k
abbrev pathL (f : Fi) : List V := [.int f.lo, .int f.hi, .int f.mo, .int f.as, .int f.hv, .int f.la]
def GoodN (lo hi mo as hv la s c k : Int) : Prop := (1 ≤ lo ∧ lo ≤ s ∧ s ≤ mo ∧ mo ≤ c ∧ c ≤ hi ∧ hi ≤ 1400) ∧ (0 ≤ as ∧ as ≤ 8) ∧ (0 ≤ k ∧ k ≤ 1) ∧ (s = c → k = 0) ∧ (k = 1 → mo < (s + c + 1) / 2 ∨ la = (s + c + 1) / 2) ∧ hv + bl (c - s) ≤ bl (hi - lo)
def Good (f : Fi) : Prop := GoodN f.lo f.hi f.mo f.as f.hv f.la f.s f.c f.k
/-- what is left to do -/
def PN (as s c k : Int) : Int := 2 * as + 2 * bl (c - s) - k
def Fi.P (f : Fi) : Int := PN f.as f.s f.c f.k
def mk (lo hi mo as : Int) : Fi := ⟨lo, hi, mo, as, 0, 0, lo, hi, 0⟩
theorem mk_good {lo hi mo as : Int} (h : 1 ≤ lo ∧ lo ≤ mo ∧ mo ≤ hi ∧ hi ≤ 1400 ∧ 0 ≤ as ∧ as ≤ 8) : Good (mk lo hi mo as) ∧ (mk lo hi mo as).P ≤ 38 := by
  have e := bl_le (n := hi - lo) (by omega) (by omega)
  constructor
  · show GoodN lo hi mo as 0 0 lo hi 0
    unfold GoodN
    omega
  · show 2 * as + 2 * bl (hi - lo) - 0 ≤ 38
    omega
theorem whole_ok {a : Cl} {H : Hp} {i : Int} {Q : VK} {E : XK} (k : Q (.bl true) H) : sp_is_whole a [.int i] H Q E := by
  refine in_is_whole ?_
  walk_at "y"
  exact k
theorem whole2_ok {a : Cl} {H : Hp} {i : Int} {Q : VK} {E : XK} (k : Q (.bl true) H) : sp_whole a [.int i] H Q E := by
  refine in_whole ?_
  walk_at "y"
  exact k

local macro_rules | `(tactic| walk_at "y spec") => `(tactic| (with_reducible refine whole_ok ?_))
theorem range_ok {a : Cl} {H : Hp} {i l h : Int} {Q : VK} {E : XK} (k : Q (.bl (decide (l ≤ i ∧ i ≤ h))) H) : sp_in_range a [.int i, .int l, .int h] H Q E := by
  refine in_in_range ?_
  walk_at "y"
  · have e : decide (l ≤ i ∧ i ≤ h) = decide (i ≤ h) := by rw [Bool.eq_iff_iff]; simp; omega
    rw [e] at k; exact k
  · have e : decide (l ≤ i ∧ i ≤ h) = false := by rw [decide_eq_false_iff_not]; omega
    rw [e] at k; exact k
theorem lesser_ok {a : Cl} {H : Hp} {i j : Int} {Q : VK} {E : XK} (k : Q (.int (min i j)) H) : sp_lesser a [.int i, .int j] H Q E := by
  refine in_lesser ?_
  walk_at "y"
  · rw [show min i j = i by omega] at k; exact k
  · rw [show min i j = j by omega] at k; exact k
theorem greater_ok {a : Cl} {H : Hp} {i j : Int} {Q : VK} {E : XK} (k : Q (.int (max i j)) H) : sp_greater a [.int i, .int j] H Q E := by
  refine in_greater ?_
  walk_at "y"
  · rw [show max i j = i by omega] at k; exact k
  · rw [show max i j = j by omega] at k; exact k
local macro_rules | `(tactic| walk_at "y spec") => `(tactic| (with_reducible refine lesser_ok ?_))
theorem bounds_ok {a : Cl} {H : Hp} {L : List Ent} {p : Addr} {Q : VK} {E : XK} (F : FH H L) (m : (p, Bag) ∈ L) (k : ∀ r f t H', 1 ≤ f ∧ f ≤ t ∧ t ≤ 1400 → FH H' ((r, Is (.lst [.int f, .int t])) :: L) → Q (.ref r) H') : sp_bounds a [.ref p] H Q E := by
  refine in_bounds ?_
  walk_at "y"
  all_goals
    refine k _ _ _ _ ?_ (by assumption)
    omega

local macro_rules | `(tactic| walk_at "y spec") => `(tactic| first
  | ((with_reducible refine' take_ok ?F ?m ?hn ?hn2 ?_); (case F => assumption); (case m => walk_at "y mem"); (case hn => first | omega | exact Int.emod_nonneg _ (by omega) | exact Int.emod_lt_of_pos _ (by omega)); (case hn2 => first | omega | exact Int.emod_nonneg _ (by omega) | exact Int.emod_lt_of_pos _ (by omega)); intro _ _ _ _ _)
  | ((with_reducible refine' bag_ok ?F ?m ?hl ?_); (case F => assumption); (case m => walk_at "y src"); (case hl => assumption); intro _ _ _)
  | ((with_reducible refine whole_ok ?_))
  | ((with_reducible refine whole2_ok ?_))
  | ((with_reducible refine range_ok ?_))
  | ((with_reducible refine lesser_ok ?_))
  | ((with_reducible refine greater_ok ?_))
  | ((with_reducible refine' bounds_ok ?F ?m ?_); (case F => assumption); (case m => walk_at "y mem"); intro _ _ _ _ _ _))

theorem path_ok {a : Cl} {H : Hp} {L : List Ent} {p : Addr} {Q : VK} {E : XK} (F : FH H L) (m : (p, Bag) ∈ L) (k : ∀ r lo hi mo as H', (1 ≤ lo ∧ lo ≤ mo ∧ mo ≤ hi ∧ hi ≤ 1400 ∧ 0 ≤ as ∧ as ≤ 8) → FH H' ((r, Is (.lst (pathL (mk lo hi mo as)))) :: L) → Q (.ref r) H') : sp_path a [.ref p] H Q E := by
  refine in_path ?_
  walk_at "y"
  all_goals
    refine' k _ _ _ _ _ _ ?hb (FH.sub ?F (List.Sublist.cons₂ _ (List.Sublist.cons _ (List.Sublist.refl _))))
    case F => assumption
    case hb => omega
theorem init_ok {a : Cl} {H : Hp} {L : List Ent} {e dx : Addr} {f : Fi} {Q : VK} {E : XK} (F : FH H ((e, Is (.ins a.c_Finder dx [])) :: L)) (g : Good f) (z : f = mk f.lo f.hi f.mo f.as) (k : ∀ H', FH H' ((e, Is (.ins a.c_Finder dx (finF f))) :: L) → Q .non H') :
    sp_Finder___init__ a [.ref e, .int f.lo, .int f.hi] H Q E := by
  have hb := g.1
  have k' : ∀ H', FH H' ((e, Is (.ins a.c_Finder dx (finF (mk f.lo f.hi f.mo f.as)))) :: L) → Q .non H' := z ▸ k
  refine in_Finder___init__ ?_
  walk_at "y"
  exact k' _ (by assumption)
theorem trial_ok {a : Cl} {H : Hp} {L : List Ent} {e dx : Addr} {s c j : Int} {Q : VK} {E : XK} (F : FH H L) (m : (e, Is (.ins a.c_Finder dx (finL s c j))) ∈ L) (k : Q (.int (tr s c)) H) : sp_Finder_trial a [.ref e] H Q E := by
  refine in_Finder_trial ?_
  walk_at "y"
  · rw [tr_lt (by assumption)] at k; exact k
  · rw [tr_ge (by assumption)] at k; exact k
theorem passed_ok {a : Cl} {H : Hp} {L L' : List Ent} {e dx : Addr} {s c j n : Int} {Q : VK} {E : XK} (F : FH H L) (hn : 0 ≤ n) (pu : Put e (Is (.ins a.c_Finder dx (finL s c j))) (Is (.ins a.c_Finder dx (finL (min n c) c 0))) L L') (k : s < n → ∀ H', FH H' L' → Q .non H') (k2 : ¬ s < n → Q .non H) :
    sp_Finder_passed a [.ref e, .int n] H Q E := by
  obtain ⟨R, h1, h2⟩ := pu.perm
  have F1 := F.perm h1
  have k' : s < n → ∀ H', FH H' ((e, Is (.ins a.c_Finder dx (finL (min n c) c 0))) :: R) → Q .non H' := fun h H' F' => k h H' (F'.perm h2.symm)
  clear F k pu
  refine in_Finder_passed ?_
  walk_at "y"
  · exact k' (by assumption) _ (by assumption)
  · exact k2 (by assumption)

local macro_rules | `(tactic| walk_at "y spec") => `(tactic| first
  | ((with_reducible refine' take_ok ?F ?m ?hn ?hn2 ?_); (case F => assumption); (case m => walk_at "y mem"); (case hn => first | omega | exact Int.emod_nonneg _ (by omega) | exact Int.emod_lt_of_pos _ (by omega)); (case hn2 => first | omega | exact Int.emod_nonneg _ (by omega) | exact Int.emod_lt_of_pos _ (by omega)); intro _ _ _ _ _)
  | ((with_reducible refine' bag_ok ?F ?m ?hl ?_); (case F => assumption); (case m => walk_at "y src"); (case hl => assumption); intro _ _ _)
  | ((with_reducible refine whole_ok ?_))
  | ((with_reducible refine whole2_ok ?_))
  | ((with_reducible refine range_ok ?_))
  | ((with_reducible refine lesser_ok ?_))
  | ((with_reducible refine greater_ok ?_))
  | ((with_reducible refine' bounds_ok ?F ?m ?_); (case F => assumption); (case m => walk_at "y mem"); intro _ _ _ _ _ _)
  | ((with_reducible refine' path_ok ?F ?m ?_); (case F => assumption); (case m => walk_at "y mem"); intro _ _ _ _ _ _ _ _)
  | ((with_reducible refine' init_ok ?F ?g ?z ?_); (case F => assumption); (case g => assumption); (case z => assumption); intro _ _)
  | ((with_reducible refine' trial_ok ?F ?m ?_); (case F => assumption); (case m => walk_at "y mem"))
  | ((with_reducible refine' passed_ok ?F ?hn ?pu ?_ ?_); (case F => assumption); (case hn => first | omega | exact Int.emod_nonneg _ (by omega) | exact Int.emod_lt_of_pos _ (by omega)); (case pu => walk_at "y put"); (all_goals intros)))

theorem failed_ok {a : Cl} {H : Hp} {L L' L2 : List Ent} {e dx : Addr} {s c j n : Int} {Q : VK} {E : XK} (F : FH H L) (hn : 0 ≤ n) (pu : Put e (Is (.ins a.c_Finder dx (finL s c j))) (Is (.ins a.c_Finder dx (finL s (n - 1) 0))) L L') (pu2 : Put e (Is (.ins a.c_Finder dx (finL s c j))) (Is (.ins a.c_Finder dx (finL s c (j + 1)))) L L2)
    (k1 : (n = 0 ∨ n ≠ tr s c) → Q .non H) (k2 : n ≠ 0 ∧ n = tr s c ∧ j + 1 = 2 → ∀ H', FH H' L' → Q .non H') (k3 : n ≠ 0 ∧ n = tr s c ∧ ¬ j + 1 = 2 → ∀ H', FH H' L2 → Q .non H') :
    sp_Finder_failed a [.ref e, .int n] H Q E := by
  have k2' : n ≠ 0 ∧ n = tr s c ∧ j + 1 = 2 → ∀ R, L.Perm ((e, Is (.ins a.c_Finder dx (finL s c j))) :: R) → L'.Perm ((e, Is (.ins a.c_Finder dx (finL s (n - 1) 0))) :: R) → ∀ H', FH H' ((e, Is (.ins a.c_Finder dx (finL s (n - 1) 0))) :: R) → Q .non H' := fun h R _ p H' F' => k2 h H' (F'.perm p.symm)
  obtain ⟨R, h1, h2⟩ := pu.perm
  obtain ⟨R2, h3, h4⟩ := pu2.perm
  have F1 := F.perm h1
  refine in_Finder_failed ?_
  by_cases hj : j + 1 = 2
  · clear k3 pu2 h3 h4
    clear F k2
    walk_at "y"
    · exact k1 (.inl (by assumption))
    · exact k1 (.inr (by assumption))
    · exact k2' (by omega) R h1 h2 _ (by assumption)
  · have F3 := F.perm h3
    clear F F1 k2 k2'
    walk_at "y"
    · exact k1 (.inl (by assumption))
    · exact k1 (.inr (by assumption))
    · exact k3 (by omega) _ (FH.perm (by assumption) h4.symm)
theorem seen_ok {a : Cl} {H : Hp} {L : List Ent} {e r dx : Addr} {lo hi mo as hv la s c j : Int} {Q : VK} {E : XK} (F : FH H L) (me : (e, Is (.ins a.c_Finder dx (finL s c j))) ∈ L) (mr : (r, Is (.lst [.int lo, .int hi, .int mo, .int as, .int hv, .int la])) ∈ L) (g : lo ≤ s ∧ s ≤ mo ∧ mo ≤ c ∧ c ≤ hi ∧ 0 ≤ j ∧ j ≤ 1 ∧ (s = c → j = 0)) (k : ∀ q H', FH H' ((q, Is (.lst [.int s, .int c, .int j, .int (tr s c)])) :: L) → Q (.ref q) H') : sp_seen a [.ref e, .ref r] H Q E := by
  have t1 : s < c → tr s c = (s + c + 1) / 2 := tr_lt
  have t2 : ¬ s < c → tr s c = 0 := tr_ge
  refine in_seen ?_
  walk_at "y"
  rename_i t H1 _ F1
  refine lcT (xs := [.int s, .int c, .int j, .int (tr s c)]) (σw := [some (.ref e), some (.ref r), some (.ref t), none]) F1 (.is (List.Mem.head _)) (show 4 < 16777216 by decide) rfl (fun y H QX hy F' hk => ?_) fun D H2 F2 => ?_
  · have e : ∃ i, y = V.int i := by
      simp only [List.mem_cons, List.not_mem_nil, or_false] at hy
      rcases hy with h | h | h | h <;> exact ⟨_, h⟩
    obtain ⟨i, rfl⟩ := e
    walk_at "y"
    exact hk
  · walk_at "y"
    all_goals exact k _ _ F2.tail

local macro_rules | `(tactic| walk_at "y spec") => `(tactic| first
  | ((with_reducible refine' take_ok ?F ?m ?hn ?hn2 ?_); (case F => assumption); (case m => walk_at "y mem"); (case hn => first | omega | exact Int.emod_nonneg _ (by omega) | exact Int.emod_lt_of_pos _ (by omega)); (case hn2 => first | omega | exact Int.emod_nonneg _ (by omega) | exact Int.emod_lt_of_pos _ (by omega)); intro _ _ _ _ _)
  | ((with_reducible refine' bag_ok ?F ?m ?hl ?_); (case F => assumption); (case m => walk_at "y src"); (case hl => assumption); intro _ _ _)
  | ((with_reducible refine whole_ok ?_))
  | ((with_reducible refine whole2_ok ?_))
  | ((with_reducible refine range_ok ?_))
  | ((with_reducible refine lesser_ok ?_))
  | ((with_reducible refine greater_ok ?_))
  | ((with_reducible refine' bounds_ok ?F ?m ?_); (case F => assumption); (case m => walk_at "y mem"); intro _ _ _ _ _ _)
  | ((with_reducible refine' path_ok ?F ?m ?_); (case F => assumption); (case m => walk_at "y mem"); intro _ _ _ _ _ _ _ _)
  | ((with_reducible refine' init_ok ?F ?g ?z ?_); (case F => assumption); (case g => assumption); (case z => assumption); intro _ _)
  | ((with_reducible refine' trial_ok ?F ?m ?_); (case F => assumption); (case m => walk_at "y mem"))
  | ((with_reducible refine' passed_ok ?F ?hn ?pu ?_ ?_); (case F => assumption); (case hn => first | omega | exact Int.emod_nonneg _ (by omega) | exact Int.emod_lt_of_pos _ (by omega)); (case pu => walk_at "y put"); (all_goals intros))
  | ((with_reducible refine' failed_ok ?F ?hn ?pu ?pu2 ?_ ?_ ?_); (case F => assumption); (case hn => first | omega | exact Int.emod_nonneg _ (by omega) | exact Int.emod_lt_of_pos _ (by omega)); (case pu => walk_at "y put"); (case pu2 => walk_at "y put"); (all_goals intros))
  | ((with_reducible refine' seen_ok ?F ?me ?mr ?g ?_); (case F => assumption); (case me => walk_at "y mem"); (case mr => walk_at "y mem"); (case g => first | omega | exact Int.emod_nonneg _ (by omega) | exact Int.emod_lt_of_pos _ (by omega)); intro _ _ _))

theorem yes_ok {P : Prop} [Decidable P] {Q : VK} {H : Hp} (h : P) (k : Q (.bl true) H) : Q (.bl (decide P)) H := by
  rw [decide_eq_true h]
  exact k
theorem aside_ok {a : Cl} {H : Hp} {R : List Ent} {e r b q dx : Addr} {lo hi mo as hv la s c j : Int} {Q : VK} {E : XK} (F : FH H ((e, Is (.ins a.c_Finder dx (finL s c j))) :: (r, Is (.lst [.int lo, .int hi, .int mo, .int as, .int hv, .int la])) :: (b, Bag) :: (q, Is (.lst [.int s, .int c, .int j, .int (tr s c)])) :: R))
    (g : GoodN lo hi mo as hv la s c j) (h1 : 0 < as) (h2 : s < c)
    (k : ∀ f H', Good f → f.P + 1 ≤ PN as s c j → FH H' ((e, Is (.ins a.c_Finder dx (finF f))) :: (r, Is (.lst (pathL f))) :: (b, Bag) :: R) → Q (.bl true) H') : sp_aside a [.ref b, .ref e, .ref r, .ref q] H Q E := by
  have t1 := tr_lt h2
  have mono := fun m h => bl_mono (m := m) (n := c - s) h
  have fin : ∀ s' j' H', (s' = s ∧ j' = j ∨ s < s' ∧ s' ≤ mo ∧ j' = 0) → FH H' ((e, Is (.ins a.c_Finder dx (finL s' c j'))) :: (r, Is (.lst ([V.int lo, .int hi, .int mo, .int as, .int hv, .int la].set 3 (.int (as - 1))))) :: (b, Bag) :: R) → Q (.bl true) H' := fun s' j' H' h F' => by
    obtain ⟨g1, g2, g3, g4, g5, g6⟩ := g
    have m1 := mono (c - s') (by omega) (by omega)
    refine k ⟨lo, hi, mo, as - 1, hv, la, s', c, j'⟩ H' ?_ ?_ F'
    · show GoodN lo hi mo (as - 1) hv la s' c j'
      unfold GoodN
      rcases h with ⟨rfl, rfl⟩ | h
      · refine ⟨by omega, by omega, by omega, by omega, g5, by omega⟩
      · omega
    · show PN (as - 1) s' c j' + 1 ≤ PN as s c j
      unfold PN
      omega
  clear k mono
  obtain ⟨g1, g2, g3, g4, g5, g6⟩ := g
  refine in_aside ?_
  walk_at "y"
  all_goals first
    | (exfalso; omega)
    | (exfalso; simp only [true_and, and_true] at *; omega)
    | exact yes_ok (Q := Q) (by first | omega | (simp only [true_and, and_true]; omega) | simp) (fin s j _ (by omega) (FH.sel (by assumption) (by walk_at "y sel")))
    | skip
  · refine yes_ok (Q := Q) (by simp only [true_and, and_true]; omega) ?_
    refine' fin _ 0 _ ?hh ?FF
    case FF =>
      refine FH.sel (by assumption) ?_
      walk_at "y sel"
    case hh => omega

theorem answer_ok {a : Cl} {H : Hp} {R : List Ent} {e r b dx : Addr} {lo hi mo as hv la s c j : Int} {Q : VK} {E : XK} (F : FH H ((e, Is (.ins a.c_Finder dx (finL s c j))) :: (r, Is (.lst [.int lo, .int hi, .int mo, .int as, .int hv, .int la])) :: (b, Bag) :: R))
    (g : GoodN lo hi mo as hv la s c j) (h2 : s < c)
    (k : ∀ la' s' c' j' H', (s' = s ∧ c' = c ∧ j = 0 ∧ j' = 1 ∧ (mo < (s + c + 1) / 2 ∧ la' = la ∨ la' = (s + c + 1) / 2) ∨ j' = 0 ∧ (s' = s ∧ c' = (s + c + 1) / 2 - 1 ∧ mo < (s + c + 1) / 2 ∨ s' = (s + c + 1) / 2 ∧ c' = c ∧ (s + c + 1) / 2 ≤ mo)) → FH H' ((e, Is (.ins a.c_Finder dx (finL s' c' j'))) :: (r, Is (.lst [.int lo, .int hi, .int mo, .int as, .int hv, .int la'])) :: (b, Bag) :: R) → Q (.bl true) H') : sp_answer a [.ref b, .ref e, .ref r, .int (tr s c)] H Q E := by
  have t1 := tr_lt h2
  obtain ⟨g1, g2, g3, g4, g5, g6⟩ := g
  have d1 : (s + c + 1) / 2 ≤ c := by omega
  have d2 : s < (s + c + 1) / 2 := by omega
  rw [t1]
  generalize (s + c + 1) / 2 = t at *
  refine in_answer ?_
  walk_at "y"
  all_goals first
    | (exfalso; omega)
    | exact k la s (t - 1) 0 _ (by omega) (by assumption)
    | exact k la s c (j + 1) _ (by omega) (by assumption)
    | exact k t s c (j + 1) _ (by omega) (by assumption)
    | exact k la (min t c) c 0 _ (by omega) (by assumption)

theorem step_ok {a : Cl} {H : Hp} {R : List Ent} {e r b dx : Addr} {lo hi mo as hv la s c j : Int} {Q : VK} {E : XK} (F : FH H ((e, Is (.ins a.c_Finder dx (finL s c j))) :: (r, Is (.lst [.int lo, .int hi, .int mo, .int as, .int hv, .int la])) :: (b, Bag) :: R))
    (g : GoodN lo hi mo as hv la s c j) (h2 : s < c)
    (k : ∀ f H', Good f → f.P + 1 ≤ PN as s c j → FH H' ((e, Is (.ins a.c_Finder dx (finF f))) :: (r, Is (.lst (pathL f))) :: (b, Bag) :: R) → Q (.bl true) H') : sp_step a [.ref b, .ref e, .ref r] H Q E := by
  have g' := g
  obtain ⟨g1, g2, g3, g4, g5, g6⟩ := g'
  refine in_step ?_
  walk_at "y"
  · refine aside_ok (R := R) (FH.sel (by assumption) (by walk_at "y sel")) g (by assumption) h2 fun f H' hg hP F' => ?_
    walk_at "y"
    exact k f _ hg hP F'
  all_goals
    refine answer_ok (FH.sel (by assumption) (Sel.cons (.there (.there .here)) (Sel.cons (.there (.there .here)) (Sel.cons (.there (.there .here)) Sel.all)))) g h2 fun la' s' c' j' H2 hc F2 => ?_
    walk_at "y"
  all_goals first
    | (have e1 : s' = s ∧ c' = c ∧ j' = 1 := by omega
       obtain ⟨e1, e2, e3⟩ := e1
       refine yes_ok (Q := Q) e3 ?_
       refine k ⟨lo, hi, mo, as, hv, la', s', c', j'⟩ _ ?_ ?_ (FH.sel (by assumption) (by walk_at "y sel"))
       · show GoodN lo hi mo as hv la' s' c' j'
         unfold GoodN
         rw [e1, e2]
         omega
       · show PN as s' c' j' + 1 ≤ PN as s c j
         unfold PN
         rw [e1, e2]
         omega)
    | (have hb := bl_half (m := c' - s') (n := c - s) (by omega) (by omega) (by omega)
       have e9 : 2 * (c' - s') ≤ c - s := by omega
       refine yes_ok (Q := Q) e9 ?_
       refine k ⟨lo, hi, mo, as, hv + 1, la', s', c', j'⟩ _ ?_ ?_ (FH.sel (L := _ :: _ :: _ :: _ :: (e, Is (.ins a.c_Finder dx (finL s' c' j'))) :: (r, Is (.lst [.int lo, .int hi, .int mo, .int as, .int (hv + 1), .int la'])) :: (b, Bag) :: _ :: _ :: R) (by assumption) (by walk_at "y sel"))
       · show GoodN lo hi mo as (hv + 1) la' s' c' j'
         unfold GoodN
         omega
       · show PN as s' c' j' + 1 ≤ PN as s c j
         unfold PN
         omega)

theorem passed_done {a : Cl} {H : Hp} {L : List Ent} {e dx : Addr} {c n : Int} {Q : VK} {E : XK} (F : FH H L) (m : (e, Is (.ins a.c_Finder dx (finL c c 0))) ∈ L) (hn : 0 ≤ n) (k : ∀ H', FH H' L → Q .non H') : sp_Finder_passed a [.ref e, .int n] H Q E := by
  obtain ⟨R, hR⟩ := pull m
  refine passed_ok (F.perm hR) hn .here (fun h H' F' => ?_) (fun _ => k H F)
  rw [show min n c = c by omega] at F'
  exact k H' (F'.perm hR.symm)
theorem failed_done {a : Cl} {H : Hp} {L : List Ent} {e dx : Addr} {c n : Int} {Q : VK} {E : XK} (F : FH H L) (m : (e, Is (.ins a.c_Finder dx (finL c c 0))) ∈ L) (hn : 0 ≤ n) (k : Q .non H) : sp_Finder_failed a [.ref e, .int n] H Q E := by
  obtain ⟨R, hR⟩ := pull m
  have t0 : tr c c = 0 := tr_ge (by omega)
  exact failed_ok (F.perm hR) hn .here .here (fun _ => k) (fun h => absurd h (by omega)) (fun h => absurd h (by omega))
theorem seen_done {a : Cl} {H : Hp} {L : List Ent} {e r dx : Addr} {lo hi mo as hv la c : Int} {Q : VK} {E : XK} (F : FH H L) (me : (e, Is (.ins a.c_Finder dx (finL c c 0))) ∈ L) (mr : (r, Is (.lst [.int lo, .int hi, .int mo, .int as, .int hv, .int la])) ∈ L) (g : lo ≤ c ∧ c ≤ mo ∧ mo ≤ c ∧ c ≤ hi) (k : ∀ q H', FH H' ((q, Is (.lst [.int c, .int c, .int 0, .int 0])) :: L) → Q (.ref q) H') : sp_seen a [.ref e, .ref r] H Q E := by
  refine seen_ok F me mr (by omega) fun q H' F' => ?_
  rw [show tr c c = 0 from tr_ge (by omega)] at F'
  exact k q H' F'

local macro_rules | `(tactic| walk_at "y spec") => `(tactic| first
  | ((with_reducible refine' take_ok ?F ?m ?hn ?hn2 ?_); (case F => assumption); (case m => walk_at "y mem"); (case hn => first | omega | exact Int.emod_nonneg _ (by omega) | exact Int.emod_lt_of_pos _ (by omega)); (case hn2 => first | omega | exact Int.emod_nonneg _ (by omega) | exact Int.emod_lt_of_pos _ (by omega)); intro _ _ _ _ _)
  | ((with_reducible refine' bag_ok ?F ?m ?hl ?_); (case F => assumption); (case m => walk_at "y src"); (case hl => assumption); intro _ _ _)
  | ((with_reducible refine whole_ok ?_))
  | ((with_reducible refine whole2_ok ?_))
  | ((with_reducible refine range_ok ?_))
  | ((with_reducible refine lesser_ok ?_))
  | ((with_reducible refine greater_ok ?_))
  | ((with_reducible refine' bounds_ok ?F ?m ?_); (case F => assumption); (case m => walk_at "y mem"); intro _ _ _ _ _ _)
  | ((with_reducible refine' path_ok ?F ?m ?_); (case F => assumption); (case m => walk_at "y mem"); intro _ _ _ _ _ _ _ _)
  | ((with_reducible refine' init_ok ?F ?g ?z ?_); (case F => assumption); (case g => assumption); (case z => assumption); intro _ _)
  | ((with_reducible refine' trial_ok ?F ?m ?_); (case F => assumption); (case m => walk_at "y mem"))
  | ((with_reducible refine' passed_done ?F ?m ?hn ?_); (case F => assumption); (case m => walk_at "y mem"); (case hn => first | omega | exact Int.emod_nonneg _ (by omega) | exact Int.emod_lt_of_pos _ (by omega)); intro _ _)
  | ((with_reducible refine' failed_done ?F ?m ?hn ?_); (case F => assumption); (case m => walk_at "y mem"); (case hn => first | omega | exact Int.emod_nonneg _ (by omega) | exact Int.emod_lt_of_pos _ (by omega)))
  | ((with_reducible refine' seen_done ?F ?me ?mr ?g ?_); (case F => assumption); (case me => walk_at "y mem"); (case mr => walk_at "y mem"); (case g => first | omega | exact Int.emod_nonneg _ (by omega) | exact Int.emod_lt_of_pos _ (by omega)); intro _ _ _))

theorem ended_ok {a : Cl} {H : Hp} {L : List Ent} {e r b dx : Addr} {lo hi mo as hv la s c j : Int} {Q : VK} {E : XK} (F : FH H L) (me : (e, Is (.ins a.c_Finder dx (finL s c j))) ∈ L) (mr : (r, Is (.lst [.int lo, .int hi, .int mo, .int as, .int hv, .int la])) ∈ L) (mb : (b, Bag) ∈ L)
    (g : GoodN lo hi mo as hv la s c j) (h2 : s = c) (k : ∀ H', FH H' L → Q (.bl true) H') : sp_ended a [.ref b, .ref e, .ref r] H Q E := by
  obtain ⟨g1, g2, g3, g4, g5, g6⟩ := g
  have e1 : mo = s := by omega
  have e2 : j = 0 := by omega
  have e3 : c = s := by omega
  subst e1 e2 e3
  have t0 : tr c c = 0 := tr_ge (by omega)
  have g7 : hv ≤ (Builtin.Int.intBits (hi - lo) : Nat) := by
    have : bl (c - c) = 0 := by rw [Int.sub_self]; rfl
    show hv ≤ bl (hi - lo)
    omega
  refine in_ended ?_
  walk_at "y"
  · rename_i hx
    exact absurd (by simp) hx
  refine forLU (by assumption) (List.Mem.head _) ?_
  walk_at "y"
  all_goals first
    | exact k _ (FH.sub (by assumption) (by walk_at "y sub"))
    | (rename_i hx; exact absurd (by simp) hx)
    | trace_state

local macro_rules | `(tactic| walk_at "y spec") => `(tactic| first
  | ((with_reducible refine' take_ok ?F ?m ?hn ?hn2 ?_); (case F => assumption); (case m => walk_at "y mem"); (case hn => first | omega | exact Int.emod_nonneg _ (by omega) | exact Int.emod_lt_of_pos _ (by omega)); (case hn2 => first | omega | exact Int.emod_nonneg _ (by omega) | exact Int.emod_lt_of_pos _ (by omega)); intro _ _ _ _ _)
  | ((with_reducible refine' bag_ok ?F ?m ?hl ?_); (case F => assumption); (case m => walk_at "y src"); (case hl => assumption); intro _ _ _)
  | ((with_reducible refine whole_ok ?_))
  | ((with_reducible refine whole2_ok ?_))
  | ((with_reducible refine range_ok ?_))
  | ((with_reducible refine lesser_ok ?_))
  | ((with_reducible refine greater_ok ?_))
  | ((with_reducible refine' bounds_ok ?F ?m ?_); (case F => assumption); (case m => walk_at "y mem"); intro _ _ _ _ _ _)
  | ((with_reducible refine' path_ok ?F ?m ?_); (case F => assumption); (case m => walk_at "y mem"); intro _ _ _ _ _ _ _ _)
  | ((with_reducible refine' init_ok ?F ?g ?z ?_); (case F => assumption); (case g => assumption); (case z => assumption); intro _ _)
  | ((with_reducible refine' trial_ok ?F ?m ?_); (case F => assumption); (case m => walk_at "y mem"))
  | ((with_reducible refine' seen_ok ?F ?me ?mr ?g ?_); (case F => assumption); (case me => walk_at "y mem"); (case mr => walk_at "y mem"); (case g => first | omega | exact Int.emod_nonneg _ (by omega) | exact Int.emod_lt_of_pos _ (by omega)); intro _ _ _)
  | ((with_reducible refine' ended_ok ?F ?me ?mr ?mb ?g ?h2 ?_); (case F => assumption); (case me => walk_at "y mem"); (case mr => walk_at "y mem"); (case mb => walk_at "y mem"); (case g => assumption); (case h2 => first | omega | exact Int.emod_nonneg _ (by omega) | exact Int.emod_lt_of_pos _ (by omega)); intro _ _))

theorem Good.n {f : Fi} (g : Good f) : (f.lo ≤ f.s ∧ f.s ≤ f.mo ∧ f.mo ≤ f.c ∧ f.c ≤ f.hi ∧ 0 ≤ f.k ∧ f.k ≤ 1 ∧ (f.s = f.c → f.k = 0)) ∧ (tr f.s f.c = 0 → f.s = f.c) ∧ (tr f.s f.c ≠ 0 → f.s < f.c) ∧ 0 ≤ f.P := by
  obtain ⟨g1, g2, g3, g4, g5, g6⟩ := g
  have b1 := bl_nn (f.c - f.s)
  have b2 : f.s < f.c → 1 ≤ bl (f.c - f.s) := fun h => bl_pos (by omega)
  refine ⟨by omega, ?_, ?_, ?_⟩
  · intro h
    by_cases e : f.s < f.c
    · rw [tr_lt e] at h
      omega
    · omega
  · intro h
    by_cases e : f.s < f.c
    · exact e
    · exact absurd (tr_ge e) h
  · show 0 ≤ 2 * f.as + 2 * bl (f.c - f.s) - f.k
    by_cases e : f.s < f.c
    · have := b2 e
      omega
    · have : f.s = f.c := by omega
      have := g4 this
      omega
abbrev LL (a : Cl) (c pp e0 e1 r0 r1 p d0 d1 : Addr) (f0 f1 : Fi) : List Ent := [(c, Is (.lst [.ref e0, .ref e1])), (pp, Is (.lst [.ref r0, .ref r1])), (e0, Is (.ins a.c_Finder d0 (finF f0))), (e1, Is (.ins a.c_Finder d1 (finF f1))), (r0, Is (.lst (pathL f0))), (r1, Is (.lst (pathL f1))), (p, Bag)]
theorem law_ok {a : Cl} {H : Hp} {q : Addr} {ns : List Int} {L : List Ent} {Q : VK} {E : XK} (F : FH H L) (m : Src a.S L q (ns.map V.int)) (hl : ns.length ≤ 63) (k : ∀ H', Q (.bl true) H') : sp_law a [.ref q] H Q E := by
  refine in_law ?_
  walk_at "y"
  rename_i p H1 F1 r0 lo0 hi0 mo0 as0 H2 hb0 F2 r1 lo1 hi1 mo1 as1 H3 hb1 F3 pp H4 hn F4
  obtain ⟨g0, P0⟩ := mk_good hb0
  obtain ⟨g1, P1⟩ := mk_good hb1
  have z0 : mk lo0 hi0 mo0 as0 = mk (mk lo0 hi0 mo0 as0).lo (mk lo0 hi0 mo0 as0).hi (mk lo0 hi0 mo0 as0).mo (mk lo0 hi0 mo0 as0).as := rfl
  have z1 : mk lo1 hi1 mo1 as1 = mk (mk lo1 hi1 mo1 as1).lo (mk lo1 hi1 mo1 as1).hi (mk lo1 hi1 mo1 as1).mo (mk lo1 hi1 mo1 as1).as := rfl
  clear F1 F2 F3
  generalize mk lo0 hi0 mo0 as0 = f0 at *
  generalize mk lo1 hi1 mo1 as1 = f1 at *
  have F5 : FH H4 [(pp, Is (.lst [.ref r0, .ref r1])), (r0, Is (.lst (pathL f0))), (r1, Is (.lst (pathL f1))), (p, Bag)] := FH.sel F4 (by walk_at "y sel")
  clear F4
  refine lcLU (σw := [some (.ref q), some (.ref p), some (.ref pp), none, none, none, none, none]) F5 (List.Mem.head _) rfl fun c Hc Fc => ?_
  walk_at "y"
  rename_i e0 d0 _ _ _ _ _ _ e1 d1 _ _ _ _ H11 F11
  have F12 : FH H11 (LL a c pp e0 e1 r0 r1 p d0 d1 f0 f1) := FH.sel F11 (by walk_at "y sel")
  clear F11 Fc F5 z0 z1
  refine forG (fun i σ H => (∃ y5 y6 y7, σ = [some (.ref q), some (.ref p), some (.ref pp), some (.ref c), none, y5, y6, y7]) ∧ ∃ f0 f1, Good f0 ∧ Good f1 ∧ (i : Int) + f0.P + f1.P ≤ 76 ∧ FH H (LL a c pp e0 e1 r0 r1 p d0 d1 f0 f1)) (by omega) (by omega) ⟨⟨_, _, _, rfl⟩, f0, f1, g0, g1, by omega, F12⟩ ?_ ?_
  · clear F12 g0 g1 P0 P1
    intro i σ H hi ⟨⟨y5, y6, y7, e⟩, f0, f1, g0, g1, hP, F⟩
    subst e
    obtain ⟨n0, u0, v0, w0⟩ := g0.n
    obtain ⟨n1, u1, v1, w1⟩ := g1.n
    walk_at "y"
    rename_i r H20 hr0 hr1 F20
    rcases (by omega : r = 0 ∨ r = 1) with h | h
    · rw [h]
      walk_at "y"
      · exact k _
      · refine step_ok (FH.sel (by assumption) (Sel.cons (.there (.there (.there (.there (.there .here))))) (Sel.cons (.there (.there (.there (.there (.there (.there .here)))))) (Sel.cons (.there (.there (.there (.there (.there (.there .here)))))) Sel.all)))) g1 (v1 (by assumption)) fun f H' hg hp F' => ?_
        have hp : f.P + 1 ≤ f1.P := hp
        walk_at "y"
        all_goals first
          | (rename_i hx; exact absurd (by simp) hx)
          | (refine' ⟨⟨_, _, _, rfl⟩, f0, f, g0, hg, ?hP, ?F⟩
             case F =>
               refine FH.sel (by assumption) ?_
               walk_at "y sel"
             case hP => omega)
      · refine step_ok (FH.sel (by assumption) (Sel.cons (.there (.there (.there (.there .here)))) (Sel.cons (.there (.there (.there (.there (.there .here))))) (Sel.cons (.there (.there (.there (.there (.there (.there .here)))))) Sel.all)))) g0 (v0 (by assumption)) fun f H' hg hp F' => ?_
        have hp : f.P + 1 ≤ f0.P := hp
        walk_at "y"
        all_goals first
          | (rename_i hx; exact absurd (by simp) hx)
          | (refine' ⟨⟨_, _, _, rfl⟩, f, f1, hg, g1, ?hP, ?F⟩
             case F =>
               refine FH.sel (by assumption) ?_
               walk_at "y sel"
             case hP => omega)
    · rw [h]
      walk_at "y"
      · exact k _
      · refine step_ok (FH.sel (by assumption) (Sel.cons (.there (.there (.there (.there .here)))) (Sel.cons (.there (.there (.there (.there (.there .here))))) (Sel.cons (.there (.there (.there (.there (.there (.there .here)))))) Sel.all)))) g0 (v0 (by assumption)) fun f H' hg hp F' => ?_
        have hp : f.P + 1 ≤ f0.P := hp
        walk_at "y"
        all_goals first
          | (rename_i hx; exact absurd (by simp) hx)
          | (refine' ⟨⟨_, _, _, rfl⟩, f, f1, hg, g1, ?hP, ?F⟩
             case F =>
               refine FH.sel (by assumption) ?_
               walk_at "y sel"
             case hP => omega)
      · refine step_ok (FH.sel (by assumption) (Sel.cons (.there (.there (.there (.there (.there .here))))) (Sel.cons (.there (.there (.there (.there (.there (.there .here)))))) (Sel.cons (.there (.there (.there (.there (.there (.there .here)))))) Sel.all)))) g1 (v1 (by assumption)) fun f H' hg hp F' => ?_
        have hp : f.P + 1 ≤ f1.P := hp
        walk_at "y"
        all_goals first
          | (rename_i hx; exact absurd (by simp) hx)
          | (refine' ⟨⟨_, _, _, rfl⟩, f0, f, g0, hg, ?hP, ?F⟩
             case F =>
               refine FH.sel (by assumption) ?_
               walk_at "y sel"
             case hP => omega)
  · intro σ H ⟨⟨y5, y6, y7, e⟩, f0, f1, g0, g1, hP, F⟩
    obtain ⟨n0, u0, v0, w0⟩ := g0.n
    obtain ⟨n1, u1, v1, w1⟩ := g1.n
    exfalso
    omega
theorem law_holds (a : Cl) {K : PySem.W.Frag} (st : a.S = SK K) (vs : List V) (H : Hp) (Q : VK) (E : XK) (h : ∃ (p : Addr) (ns : List Int), vs = [.ref p] ∧ SqL K H p (ns.map V.int) ∧ ns.length ≤ 63 ∧ Only H ∧ ∀ H', Q (.bl true) H') : sp_law a vs H Q E := by
  obtain ⟨p, ns, rfl, hS, hl, hO, k⟩ := h
  obtain ⟨L, F, m⟩ := src_of st hS
  exact law_ok F m hl k

/-! ### the text, by places -/
abbrev top (i : Nat) : Stmt := PySem.Challenge.pw_lossway_k19_whole_finder_finds.main.body.getD i (.Pass ⟨0, 0, 0, 0⟩)
structure Ad extends Cl where
  f_bag : Addr
  d_bag : FuncData
  f_take : Addr
  d_take : FuncData
  f_lesser : Addr
  d_lesser : FuncData
  f_bounds : Addr
  d_bounds : FuncData
  f_path : Addr
  d_path : FuncData
  f_is_whole : Addr
  d_is_whole : FuncData
  f_in_range : Addr
  d_in_range : FuncData
  f_Finder___init__ : Addr
  d_Finder___init__ : FuncData
  f_Finder_trial : Addr
  d_Finder_trial : FuncData
  f_whole : Addr
  d_whole : FuncData
  f_seen : Addr
  d_seen : FuncData
  f_Finder_passed : Addr
  d_Finder_passed : FuncData
  f_greater : Addr
  d_greater : FuncData
  f_Finder_failed : Addr
  d_Finder_failed : FuncData
  f_aside : Addr
  d_aside : FuncData
  f_answer : Addr
  d_answer : FuncData
  f_step : Addr
  d_step : FuncData
  f_ended : Addr
  d_ended : FuncData
  f_law : Addr
  d_law : FuncData
structure Txt (K : PySem.W.Frag) (mg : Str → Option Value) (a : Ad) : Prop where
  st : a.S = SK K
  no_abs : mg "abs" = none
  no_int : mg "int" = none
  no_sum : mg "sum" = none
  mg_bag : mg "_law_bag" = some (.ref a.f_bag)
  bd_bag : Binds K a.d_bag ["_law_script"] []
  fn_bag : Fun K "_law_bag" "_law_bag" (top 13) a.f_bag a.d_bag
  no_len : mg "len" = none
  mg_take : mg "_law_take" = some (.ref a.f_take)
  bd_take : Binds K a.d_take ["_law_bag_here", "_law_many"] []
  fn_take : Fun K "_law_take" "_law_take" (top 14) a.f_take a.d_take
  mg_lesser : mg "_law_lesser" = some (.ref a.f_lesser)
  bd_lesser : Binds K a.d_lesser ["_law_one", "_law_two"] []
  fn_lesser : Fun K "_law_lesser" "_law_lesser" (top 15) a.f_lesser a.d_lesser
  mg_bounds : mg "_law_bounds" = some (.ref a.f_bounds)
  bd_bounds : Binds K a.d_bounds ["_law_bag_here"] []
  fn_bounds : Fun K "_law_bounds" "_law_bounds" (top 17) a.f_bounds a.d_bounds
  mg_path : mg "_law_path" = some (.ref a.f_path)
  bd_path : Binds K a.d_path ["_law_bag_here"] []
  fn_path : Fun K "_law_path" "_law_path" (top 18) a.f_path a.d_path
  no_isinstance : mg "isinstance" = none
  no_bool : mg "bool" = none
  mg_is_whole : mg "is_whole" = some (.ref a.f_is_whole)
  bd_is_whole : Binds K a.d_is_whole ["value"] []
  fn_is_whole : Fun K "is_whole" "is_whole" (top 5) a.f_is_whole a.d_is_whole
  mg_in_range : mg "in_range" = some (.ref a.f_in_range)
  bd_in_range : Binds K a.d_in_range ["value", "low", "high"] []
  mg_GREATEST_PIECE : ∃ t, mg "GREATEST_PIECE" = some (.int 1400 t)
  fn_in_range : Fun K "in_range" "in_range" (top 6) a.f_in_range a.d_in_range
  cl_Finder : Cls K a.c_Finder
  na_Finder_size : NoAttr K a.c_Finder "size"
  na_Finder_ceiling : NoAttr K a.c_Finder "ceiling"
  na_Finder_strikes : NoAttr K a.c_Finder "strikes"
  mk_Finder : Mk K a.c_Finder a.f_Finder___init__
  bd_Finder___init__ : Binds K a.d_Finder___init__ ["self", "low", "high"] []
  mg_Finder : mg "Finder" = some (.ref a.c_Finder)
  no_range : mg "range" = none
  mt_Finder_trial : Meth K a.c_Finder "trial" a.f_Finder_trial
  bd_Finder_trial : Binds K a.d_Finder_trial ["self"] []
  no_all : mg "all" = none
  mg_whole : mg "_law_whole" = some (.ref a.f_whole)
  bd_whole : Binds K a.d_whole ["_law_value"] []
  fn_whole : Fun K "_law_whole" "_law_whole" (top 12) a.f_whole a.d_whole
  mg_seen : mg "_law_seen" = some (.ref a.f_seen)
  bd_seen : Binds K a.d_seen ["_law_finder", "_law_path_here"] []
  fn_seen : Fun K "_law_seen" "_law_seen" (top 19) a.f_seen a.d_seen
  no_min : mg "min" = none
  mt_Finder_passed : Meth K a.c_Finder "passed" a.f_Finder_passed
  bd_Finder_passed : Binds K a.d_Finder_passed ["self", "count"] []
  mg_greater : mg "_law_greater" = some (.ref a.f_greater)
  bd_greater : Binds K a.d_greater ["_law_one", "_law_two"] []
  fn_greater : Fun K "_law_greater" "_law_greater" (top 16) a.f_greater a.d_greater
  mg_STRIKES : ∃ t, mg "STRIKES" = some (.int 2 t)
  mt_Finder_failed : Meth K a.c_Finder "failed" a.f_Finder_failed
  bd_Finder_failed : Binds K a.d_Finder_failed ["self", "count"] []
  mg_aside : mg "_law_aside" = some (.ref a.f_aside)
  bd_aside : Binds K a.d_aside ["_law_bag_here", "_law_finder", "_law_path_here", "_law_seen_here"] []
  fn_aside : Fun K "_law_aside" "_law_aside" (top 20) a.f_aside a.d_aside
  mg_answer : mg "_law_answer" = some (.ref a.f_answer)
  bd_answer : Binds K a.d_answer ["_law_bag_here", "_law_finder", "_law_path_here", "_law_aim"] []
  fn_answer : Fun K "_law_answer" "_law_answer" (top 21) a.f_answer a.d_answer
  mg_step : mg "_law_step" = some (.ref a.f_step)
  bd_step : Binds K a.d_step ["_law_bag_here", "_law_finder", "_law_path_here"] []
  fn_step : Fun K "_law_step" "_law_step" (top 22) a.f_step a.d_step
  mg_ended : mg "_law_ended" = some (.ref a.f_ended)
  bd_ended : Binds K a.d_ended ["_law_bag_here", "_law_finder", "_law_path_here"] []
  fn_ended : Fun K "_law_ended" "_law_ended" (top 23) a.f_ended a.d_ended
  fn_Finder___init__ : Fun K "__init__" "Finder.__init__" (inClass (top 10) 0) a.f_Finder___init__ a.d_Finder___init__
  fn_Finder_trial : Fun K "trial" "Finder.trial" (inClass (top 10) 1) a.f_Finder_trial a.d_Finder_trial
  fn_Finder_passed : Fun K "passed" "Finder.passed" (inClass (top 10) 2) a.f_Finder_passed a.d_Finder_passed
  fn_Finder_failed : Fun K "failed" "Finder.failed" (inClass (top 10) 3) a.f_Finder_failed a.d_Finder_failed
  fn_law : Fun K "law" "law" (top 24) a.f_law a.d_law
  bd_law : Binds K a.d_law ["_law_script"] []
  mg_law : mg "law" = some (.ref a.f_law)
section
variable {P : Program} {w : World} {K : PySem.W.Frag} {mg : Str → Option Value} {base : Heap} {a : Ad}
abbrev nm_bag : List Str := ["_law_script", "_law_great", "_law_cell", "_law_cells"]
theorem sc_bag : FnScope nm_bag ["_law_script"] (defScope (top 13)) := ⟨rfl, rfl, rfl, by decide +kernel, rfl, by decide +kernel, by decide +kernel⟩
theorem ok_bag (T : Txt K mg a) : FnOk P w K mg base (L2.CX P w) 1 a.f_bag a.d_bag ["_law_script"] (sp_bag a.toCl) := by
  refine ok_body T.fn_bag sc_bag rfl rfl fun cdv A outer s H E hr => ?_
  exact (pss_cons (ps_lcSeq (i := 1) (own := [("_law_cell", 2)]) T.st rfl sc_bag.nd rfl rfl (sw_true rfl rfl rfl (by decide +kernel)) (pv 0) (blkOk_by (own := [("_law_cell", 2)]) (N := nm_bag) (sc := defScope (top 13)) (by decide +kernel)) ⟨fun _ _ _ _ _ => (pg_name (i := 2) sc_bag.nd rfl (by first | exact Or.inl rfl | exact Or.inr rfl)), fun _ _ _ _ _ => (pts_one (pt_cmpR o_ge (pe_callB c_abs (by rfl) T.no_abs (by decide +kernel) (pa_cons (pv 2) pa_nil)) (pe_op o_pow pe_int pe_int) (nomark _))), fun _ _ _ _ _ => (pe_callB c_abs (by rfl) T.no_abs (by decide +kernel) (pa_cons (pv 2) pa_nil))⟩)
    (pss_cons (ps_lcSeq (i := 3) (own := [("_law_cell", 2)]) T.st rfl sc_bag.nd rfl rfl (sw_true rfl rfl rfl (by decide +kernel)) (pv 0) (blkOk_by (own := [("_law_cell", 2)]) (N := nm_bag) (sc := defScope (top 13)) (by decide +kernel)) ⟨fun _ _ _ _ _ => (pg_name (i := 2) sc_bag.nd rfl (by first | exact Or.inl rfl | exact Or.inr rfl)), fun _ _ _ _ _ => pts_nil, fun _ _ _ _ _ => (pe_op o_mod (pe_callTy c_int (by rfl) T.no_int (by decide +kernel) (pa_cons (pv 2) pa_nil)) pe_int)⟩)
    (pss_one (ps_ret (pe_lst (pa_cons (pv 1) (pa_cons (pv 3) (pa_cons pe_int (pa_cons (pe_op o_mod (pe_callTy c_int (by rfl) T.no_int (by decide +kernel) (pa_cons (pe_callB (c_sum T.st rfl) (by rfl) T.no_sum (by decide +kernel) (pa_cons (pv 3) pa_nil)) pa_nil)) pe_int) pa_nil)))))))))
abbrev nm_take : List Str := ["_law_bag_here", "_law_many", "_law_left", "_law_cell", "_law_one", "_law_two"]
theorem sc_take : FnScope nm_take ["_law_bag_here", "_law_many"] (defScope (top 14)) := ⟨rfl, rfl, rfl, by decide +kernel, rfl, by decide +kernel, by decide +kernel⟩
theorem ok_take (T : Txt K mg a) : FnOk P w K mg base (L2.CX P w) 1 a.f_take a.d_take ["_law_bag_here", "_law_many"] (sp_take a.toCl) := by
  refine ok_body T.fn_take sc_take rfl rfl fun cdv A outer s H E hr => ?_
  exact (pss_cons (ps_asg (pe_op o_add (pe_ix (o_ix T.st) (pv 0) pe_int (fun _ _ => rfl)) pe_int) (pg_sub (pv 0) pe_int set_list))
    (pss_cons (ps_if (pt_cmpR (o_neP T.st hr.units) (pe_ix (o_ix T.st) (pv 0) pe_int (fun _ _ => rfl)) (pe_lst pa_nil) (nomark _)) (pss_cons (ps_set (i := 2) sc_take.nd rfl (by first | exact Or.inl rfl | exact Or.inr rfl) (pe_ix (o_ix T.st) (pe_ix (o_ix T.st) (pv 0) pe_int (fun _ _ => rfl)) pe_int (fun _ _ => rfl)))
    (pss_cons (ps_if (pt_cmpR o_ge (pv 2) (pv 1) (nomark _)) (pss_one (ps_asg (pe_op o_add (pe_lst (pa_cons (pe_op o_fdiv (pv 2) (pv 1)) pa_nil)) (pe_slice (o_sl T.st) (pe_ix (o_ix T.st) (pv 0) pe_int (fun _ _ => rfl)) (po_some pe_int) po_none)) (pg_sub (pv 0) pe_int set_list))) (pss_one (ps_asg (pe_slice (o_sl T.st) (pe_ix (o_ix T.st) (pv 0) pe_int (fun _ _ => rfl)) (po_some pe_int) po_none) (pg_sub (pv 0) pe_int set_list))))
    (pss_one (ps_ret (pe_op o_mod (pe_callTy c_int (by rfl) T.no_int (by decide +kernel) (pa_cons (pv 2) pa_nil)) (pv 1)))))) pss_nil)
    (pss_cons (ps_if (pt_cmpR (o_eqP T.st hr.units) (pe_ix (o_ix T.st) (pv 0) pe_int (fun _ _ => rfl)) (pe_lst pa_nil) (nomark _)) (pss_one (ps_ret (pe_op o_mod (pe_callTy c_int (by rfl) T.no_int (by decide +kernel) (pa_cons (pe_ix (o_ix T.st) (pv 0) pe_int (fun _ _ => rfl)) pa_nil)) (pv 1)))) pss_nil)
    (pss_cons (ps_set (i := 3) sc_take.nd rfl (by first | exact Or.inl rfl | exact Or.inr rfl) (pe_ix (o_ix T.st) (pe_ix (o_ix T.st) (pv 0) pe_int (fun _ _ => rfl)) (pe_op o_mod (pe_callTy c_int (by rfl) T.no_int (by decide +kernel) (pa_cons (pe_ix (o_ix T.st) (pv 0) pe_int (fun _ _ => rfl)) pa_nil)) (pe_callB (c_len T.st) (by rfl) T.no_len (by decide +kernel) (pa_cons (pe_ix (o_ix T.st) (pv 0) pe_int (fun _ _ => rfl)) pa_nil))) (fun _ _ => rfl)))
    (pss_cons (ps_set (i := 4) sc_take.nd rfl (by first | exact Or.inl rfl | exact Or.inr rfl) (pe_op o_mod (pe_callTy c_int (by rfl) T.no_int (by decide +kernel) (pa_cons (pe_op o_add (pe_op o_add (pe_op o_add (pe_op o_mul (pv 3) pe_int) (pe_op o_mul (pe_ix (o_ix T.st) (pv 0) pe_int (fun _ _ => rfl)) pe_int)) (pe_op o_mul (pe_ix (o_ix T.st) (pv 0) pe_int (fun _ _ => rfl)) pe_int)) pe_int) pa_nil)) pe_int))
    (pss_cons (ps_set (i := 5) sc_take.nd rfl (by first | exact Or.inl rfl | exact Or.inr rfl) (pe_op o_mod (pe_callTy c_int (by rfl) T.no_int (by decide +kernel) (pa_cons (pe_op o_add (pe_op o_add (pe_op o_fdiv (pe_op o_mul (pv 4) (pv 4)) pe_int) (pe_op o_mul (pv 4) pe_int)) (pe_op o_mul (pe_ix (o_ix T.st) (pv 0) pe_int (fun _ _ => rfl)) pe_int)) pa_nil)) pe_int))
    (pss_one (ps_ret (pe_op o_mod (pe_callTy c_int (by rfl) T.no_int (by decide +kernel) (pa_cons (pe_op o_fdiv (pe_op o_add (pe_op o_mul (pv 4) pe_int) (pv 5)) pe_int) pa_nil)) (pv 1))))))))))
abbrev nm_lesser : List Str := ["_law_one", "_law_two"]
theorem sc_lesser : FnScope nm_lesser ["_law_one", "_law_two"] (defScope (top 15)) := ⟨rfl, rfl, rfl, by decide +kernel, rfl, by decide +kernel, by decide +kernel⟩
theorem ok_lesser (T : Txt K mg a) : FnOk P w K mg base (L2.CX P w) 1 a.f_lesser a.d_lesser ["_law_one", "_law_two"] (sp_lesser a.toCl) := by
  refine ok_body T.fn_lesser sc_lesser rfl rfl fun cdv A outer s H E hr => ?_
  exact (pss_cons (ps_if (pt_cmpR o_lt (pv 0) (pv 1) (nomark _)) (pss_one (ps_ret (pv 0))) pss_nil)
    (pss_one (ps_ret (pv 1))))
abbrev nm_bounds : List Str := ["_law_bag_here", "_law_floor", "_law_way", "_law_roof"]
theorem sc_bounds : FnScope nm_bounds ["_law_bag_here"] (defScope (top 17)) := ⟨rfl, rfl, rfl, by decide +kernel, rfl, by decide +kernel, by decide +kernel⟩
theorem ok_bounds (T : Txt K mg a) : FnOk P w K mg base (L2.CX P w) 2 a.f_bounds a.d_bounds ["_law_bag_here"] (sp_bounds a.toCl) := by
  refine ok_body T.fn_bounds sc_bounds rfl rfl fun cdv A outer s H E hr => ?_
  exact (pss_cons (ps_set (i := 1) sc_bounds.nd rfl (by first | exact Or.inl rfl | exact Or.inr rfl) (pe_op o_add pe_int (pe_call (ok_take T) (hr.mono (by decide)) rfl T.mg_take (T.fn_take).kp T.bd_take .nil passE (pa_cons (pv 0) (pa_cons pe_int pa_nil)))))
    (pss_cons (ps_if (pt_cmpR (o_eqP T.st hr.units) (pe_call (ok_take T) (hr.mono (by decide)) rfl T.mg_take (T.fn_take).kp T.bd_take .nil passE (pa_cons (pv 0) (pa_cons pe_int pa_nil))) pe_int (nomark _)) (pss_one (ps_set (i := 1) sc_bounds.nd rfl (by first | exact Or.inl rfl | exact Or.inr rfl) (pe_op o_add pe_int (pe_call (ok_take T) (hr.mono (by decide)) rfl T.mg_take (T.fn_take).kp T.bd_take .nil passE (pa_cons (pv 0) (pa_cons pe_int pa_nil)))))) pss_nil)
    (pss_cons (ps_set (i := 2) sc_bounds.nd rfl (by first | exact Or.inl rfl | exact Or.inr rfl) (pe_call (ok_take T) (hr.mono (by decide)) rfl T.mg_take (T.fn_take).kp T.bd_take .nil passE (pa_cons (pv 0) (pa_cons pe_int pa_nil))))
    (pss_cons (ps_set (i := 3) sc_bounds.nd rfl (by first | exact Or.inl rfl | exact Or.inr rfl) (pv 1))
    (pss_cons (ps_if (pt_cmpR (o_eqP T.st hr.units) (pv 2) pe_int (nomark _)) (pss_one (ps_set (i := 3) sc_bounds.nd rfl (by first | exact Or.inl rfl | exact Or.inr rfl) (pe_call (ok_lesser T) (hr.mono (by decide)) rfl T.mg_lesser (T.fn_lesser).kp T.bd_lesser .nil passE (pa_cons pe_int (pa_cons (pe_op o_add (pe_op o_add (pv 1) pe_int) (pe_call (ok_take T) (hr.mono (by decide)) rfl T.mg_take (T.fn_take).kp T.bd_take .nil passE (pa_cons (pv 0) (pa_cons pe_int pa_nil)))) pa_nil))))) (pss_one (ps_if (pt_cmpR (o_eqP T.st hr.units) (pv 2) pe_int (nomark _)) (pss_one (ps_set (i := 3) sc_bounds.nd rfl (by first | exact Or.inl rfl | exact Or.inr rfl) pe_int)) (pss_one (ps_if (pt_cmpR (o_eqP T.st hr.units) (pv 2) pe_int (nomark _)) (pss_one (ps_set (i := 3) sc_bounds.nd rfl (by first | exact Or.inl rfl | exact Or.inr rfl) (pe_op o_add (pv 1) (pe_call (ok_take T) (hr.mono (by decide)) rfl T.mg_take (T.fn_take).kp T.bd_take .nil passE (pa_cons (pv 0) (pa_cons (pe_op o_sub pe_int (pv 1)) pa_nil)))))) pss_nil)))))
    (pss_one (ps_ret (pe_lst (pa_cons (pv 1) (pa_cons (pv 3) pa_nil))))))))))
abbrev nm_path : List Str := ["_law_bag_here", "_law_pair", "_law_way", "_law_most"]
theorem sc_path : FnScope nm_path ["_law_bag_here"] (defScope (top 18)) := ⟨rfl, rfl, rfl, by decide +kernel, rfl, by decide +kernel, by decide +kernel⟩
theorem ok_path (T : Txt K mg a) : FnOk P w K mg base (L2.CX P w) 3 a.f_path a.d_path ["_law_bag_here"] (sp_path a.toCl) := by
  refine ok_body T.fn_path sc_path rfl rfl fun cdv A outer s H E hr => ?_
  exact (pss_cons (ps_set (i := 1) sc_path.nd rfl (by first | exact Or.inl rfl | exact Or.inr rfl) (pe_call (ok_bounds T) (hr.mono (by decide)) rfl T.mg_bounds (T.fn_bounds).kp T.bd_bounds .nil passE (pa_cons (pv 0) pa_nil)))
    (pss_cons (ps_set (i := 2) sc_path.nd rfl (by first | exact Or.inl rfl | exact Or.inr rfl) (pe_call (ok_take T) (hr.mono (by decide)) rfl T.mg_take (T.fn_take).kp T.bd_take .nil passE (pa_cons (pv 0) (pa_cons pe_int pa_nil))))
    (pss_cons (ps_set (i := 3) sc_path.nd rfl (by first | exact Or.inl rfl | exact Or.inr rfl) (pe_ix (o_ix T.st) (pv 1) pe_int (fun _ _ => rfl)))
    (pss_cons (ps_if (pt_cmpR (o_eqP T.st hr.units) (pv 2) pe_int (nomark _)) (pss_one (ps_set (i := 3) sc_path.nd rfl (by first | exact Or.inl rfl | exact Or.inr rfl) (pe_ix (o_ix T.st) (pv 1) pe_int (fun _ _ => rfl)))) (pss_one (ps_if (pt_cmpR o_gt (pv 2) pe_int (nomark _)) (pss_one (ps_set (i := 3) sc_path.nd rfl (by first | exact Or.inl rfl | exact Or.inr rfl) (pe_op o_add (pe_ix (o_ix T.st) (pv 1) pe_int (fun _ _ => rfl)) (pe_call (ok_take T) (hr.mono (by decide)) rfl T.mg_take (T.fn_take).kp T.bd_take .nil passE (pa_cons (pv 0) (pa_cons (pe_op o_add (pe_op o_sub (pe_ix (o_ix T.st) (pv 1) pe_int (fun _ _ => rfl)) (pe_ix (o_ix T.st) (pv 1) pe_int (fun _ _ => rfl))) pe_int) pa_nil)))))) pss_nil)))
    (pss_one (ps_ret (pe_lst (pa_cons (pe_ix (o_ix T.st) (pv 1) pe_int (fun _ _ => rfl)) (pa_cons (pe_ix (o_ix T.st) (pv 1) pe_int (fun _ _ => rfl)) (pa_cons (pv 3) (pa_cons (pe_call (ok_take T) (hr.mono (by decide)) rfl T.mg_take (T.fn_take).kp T.bd_take .nil passE (pa_cons (pv 0) (pa_cons pe_int pa_nil))) (pa_cons pe_int (pa_cons pe_int pa_nil)))))))))))))
abbrev nm_is_whole : List Str := ["value"]
theorem sc_is_whole : FnScope nm_is_whole ["value"] (defScope (top 5)) := ⟨rfl, rfl, rfl, by decide +kernel, rfl, by decide +kernel, by decide +kernel⟩
theorem ok_is_whole (T : Txt K mg a) : FnOk P w K mg base (L2.CX P w) 1 a.f_is_whole a.d_is_whole ["value"] (sp_is_whole a.toCl) := by
  refine ok_body T.fn_is_whole sc_is_whole rfl rfl fun cdv A outer s H E hr => ?_
  exact (pss_one (ps_ret (pe_and (pe_callB c_isi (by rfl) T.no_isinstance (by decide +kernel) (pa_cons (pv 0) (pa_cons (pe_bltn (v := .ty "int") (by rfl) T.no_int (by decide +kernel) rfl) pa_nil))) (pe_one (pe_not (pe_callB c_isi (by rfl) T.no_isinstance (by decide +kernel) (pa_cons (pv 0) (pa_cons (pe_bltn (v := .ty "bool") (by rfl) T.no_bool (by decide +kernel) rfl) pa_nil))))))))
abbrev nm_in_range : List Str := ["value", "low", "high"]
theorem sc_in_range : FnScope nm_in_range ["value", "low", "high"] (defScope (top 6)) := ⟨rfl, rfl, rfl, by decide +kernel, rfl, by decide +kernel, by decide +kernel⟩
theorem ok_in_range (T : Txt K mg a) : FnOk P w K mg base (L2.CX P w) 2 a.f_in_range a.d_in_range ["value", "low", "high"] (sp_in_range a.toCl) := by
  refine ok_body T.fn_in_range sc_in_range rfl rfl fun cdv A outer s H E hr => ?_
  exact (pss_one (ps_ret (pe_and (pe_call (ok_is_whole T) (hr.mono (by decide)) rfl T.mg_is_whole (T.fn_is_whole).kp T.bd_is_whole .nil passE (pa_cons (pv 0) pa_nil)) (pe_one (pe_chain o_le o_le (pv 1) (pv 0) (pv 2))))))
abbrev nm_Finder___init__ : List Str := ["self", "low", "high"]
theorem sc_Finder___init__ : FnScope nm_Finder___init__ ["self", "low", "high"] (defScope (inClass (top 10) 0)) := ⟨rfl, rfl, rfl, by decide +kernel, rfl, by decide +kernel, by decide +kernel⟩
theorem ok_Finder___init__ (T : Txt K mg a) : FnOk P w K mg base (L2.CX P w) 3 a.f_Finder___init__ a.d_Finder___init__ ["self", "low", "high"] (sp_Finder___init__ a.toCl) := by
  obtain ⟨_, mg_GREATEST_PIECE_⟩ := T.mg_GREATEST_PIECE
  refine ok_body T.fn_Finder___init__ sc_Finder___init__ rfl rfl fun cdv A outer s H E hr => ?_
  exact (pss_cons (ps_if (pt_not (pt_val (pe_call (ok_in_range T) (hr.mono (by decide)) rfl T.mg_in_range (T.fn_in_range).kp T.bd_in_range .nil passE (pa_cons (pv 1) (pa_cons pe_int (pa_cons (pe_constI mg_GREATEST_PIECE_ rfl) pa_nil)))))) (pss_one ps_never) pss_nil)
    (pss_cons (ps_if (pt_not (pt_val (pe_call (ok_in_range T) (hr.mono (by decide)) rfl T.mg_in_range (T.fn_in_range).kp T.bd_in_range .nil passE (pa_cons (pv 2) (pa_cons (pv 1) (pa_cons (pe_constI mg_GREATEST_PIECE_ rfl) pa_nil)))))) (pss_one ps_never) pss_nil)
    (pss_cons (ps_setF T.cl_Finder T.na_Finder_size (pv 0) (pv 1))
    (pss_cons (ps_setF T.cl_Finder T.na_Finder_ceiling (pv 0) (pv 2))
    (pss_one (ps_setF T.cl_Finder T.na_Finder_strikes (pv 0) pe_int))))))
abbrev nm_Finder_trial : List Str := ["self"]
theorem sc_Finder_trial : FnScope nm_Finder_trial ["self"] (defScope (inClass (top 10) 1)) := ⟨rfl, rfl, rfl, by decide +kernel, rfl, by decide +kernel, by decide +kernel⟩
theorem ok_Finder_trial (T : Txt K mg a) : FnOk P w K mg base (L2.CX P w) 1 a.f_Finder_trial a.d_Finder_trial ["self"] (sp_Finder_trial a.toCl) := by
  refine ok_body T.fn_Finder_trial sc_Finder_trial rfl rfl fun cdv A outer s H E hr => ?_
  exact (pss_cons (ps_if (pt_cmpR o_lt (pe_fldC T.cl_Finder T.na_Finder_size (pv 0)) (pe_fldC T.cl_Finder T.na_Finder_ceiling (pv 0)) (nomark _)) (pss_one (ps_ret (pe_op o_fdiv (pe_op o_add (pe_op o_add (pe_fldC T.cl_Finder T.na_Finder_size (pv 0)) (pe_fldC T.cl_Finder T.na_Finder_ceiling (pv 0))) pe_int) pe_int))) pss_nil)
    (pss_one (ps_ret pe_int)))
abbrev nm_whole : List Str := ["_law_value"]
theorem sc_whole : FnScope nm_whole ["_law_value"] (defScope (top 12)) := ⟨rfl, rfl, rfl, by decide +kernel, rfl, by decide +kernel, by decide +kernel⟩
theorem ok_whole (T : Txt K mg a) : FnOk P w K mg base (L2.CX P w) 1 a.f_whole a.d_whole ["_law_value"] (sp_whole a.toCl) := by
  refine ok_body T.fn_whole sc_whole rfl rfl fun cdv A outer s H E hr => ?_
  exact (pss_one (ps_ret (pe_and (pe_callB c_isi (by rfl) T.no_isinstance (by decide +kernel) (pa_cons (pv 0) (pa_cons (pe_bltn (v := .ty "int") (by rfl) T.no_int (by decide +kernel) rfl) pa_nil))) (pe_one (pe_not (pe_callB c_isi (by rfl) T.no_isinstance (by decide +kernel) (pa_cons (pv 0) (pa_cons (pe_bltn (v := .ty "bool") (by rfl) T.no_bool (by decide +kernel) rfl) pa_nil))))))))
abbrev nm_seen : List Str := ["_law_finder", "_law_path_here", "_law_told", "_law_one"]
theorem sc_seen : FnScope nm_seen ["_law_finder", "_law_path_here"] (defScope (top 19)) := ⟨rfl, rfl, rfl, by decide +kernel, rfl, by decide +kernel, by decide +kernel⟩
theorem ok_seen (T : Txt K mg a) : FnOk P w K mg base (L2.CX P w) 2 a.f_seen a.d_seen ["_law_finder", "_law_path_here"] (sp_seen a.toCl) := by
  refine ok_body T.fn_seen sc_seen rfl rfl fun cdv A outer s H E hr => ?_
  exact (pss_cons (ps_set (i := 2) sc_seen.nd rfl (by first | exact Or.inl rfl | exact Or.inr rfl) (pe_lst (pa_cons (pe_fldC T.cl_Finder T.na_Finder_size (pv 0)) (pa_cons (pe_fldC T.cl_Finder T.na_Finder_ceiling (pv 0)) (pa_cons (pe_fldC T.cl_Finder T.na_Finder_strikes (pv 0)) (pa_cons (pe_meth0 (pv 0) T.cl_Finder T.mt_Finder_trial (ok_Finder_trial T) (hr.mono (by decide)) T.bd_Finder_trial .nil passE ) pa_nil))))))
    (pss_cons (ps_if (pt_not (pt_val (pe_callB (c_all T.st rfl) (by rfl) T.no_all (by decide +kernel) (pa_cons (pe_lcSeq (own := [("_law_one", 3)]) T.st rfl sc_seen.nd (pv 2) (blkOk_by (own := [("_law_one", 3)]) (N := nm_seen) (sc := defScope (top 19)) (by decide +kernel)) ⟨fun _ _ _ _ _ => (pg_name (i := 3) sc_seen.nd rfl (by first | exact Or.inl rfl | exact Or.inr rfl)), fun _ _ _ _ _ => pts_nil, fun _ _ _ _ _ => (pe_call (ok_whole T) (hr.mono (by decide)) rfl T.mg_whole (T.fn_whole).kp T.bd_whole .nil passL (pa_cons (pv 3) pa_nil))⟩) pa_nil)))) (pss_one (ps_ret (pe_lst pa_nil))) pss_nil)
    (pss_cons (ps_if (pt_not (pt_chn (pe_ix (o_ix T.st) (pv 1) pe_int (fun _ _ => rfl)) (pch_link o_le (pe_ix (o_ix T.st) (pv 2) pe_int (fun _ _ => rfl)) (pch_link o_le (pe_ix (o_ix T.st) (pv 1) pe_int (fun _ _ => rfl)) (pch_link o_le (pe_ix (o_ix T.st) (pv 2) pe_int (fun _ _ => rfl)) (pch_last o_le (pe_ix (o_ix T.st) (pv 1) pe_int (fun _ _ => rfl)))))))) (pss_one (ps_ret (pe_lst pa_nil))) pss_nil)
    (pss_cons (ps_if (pt_cmpR (o_eqP T.st hr.units) (pe_ix (o_ix T.st) (pv 2) pe_int (fun _ _ => rfl)) (pe_ix (o_ix T.st) (pv 2) pe_int (fun _ _ => rfl)) (nomark _)) (pss_one (ps_if (PW.pt (pw_or (pt_cmpR (o_neP T.st hr.units) (pe_ix (o_ix T.st) (pv 2) pe_int (fun _ _ => rfl)) pe_int (nomark _)) (pw_or1 (pt_cmpR (o_neP T.st hr.units) (pe_ix (o_ix T.st) (pv 2) pe_int (fun _ _ => rfl)) pe_int (nomark _))))) (pss_one (ps_ret (pe_lst pa_nil))) pss_nil)) (pss_one (ps_if (PW.pt (pw_or (pt_cmpR o_lt (pe_ix (o_ix T.st) (pv 2) pe_int (fun _ _ => rfl)) pe_int (nomark _)) (pw_or (pt_cmpR o_gt (pe_ix (o_ix T.st) (pv 2) pe_int (fun _ _ => rfl)) pe_int (nomark _)) (pw_or1 (pt_not (pt_chain o_lt o_le (pe_ix (o_ix T.st) (pv 2) pe_int (fun _ _ => rfl)) (pe_ix (o_ix T.st) (pv 2) pe_int (fun _ _ => rfl)) (pe_ix (o_ix T.st) (pv 2) pe_int (fun _ _ => rfl)))))))) (pss_one (ps_ret (pe_lst pa_nil))) pss_nil)))
    (pss_one (ps_ret (pv 2)))))))
abbrev nm_Finder_passed : List Str := ["self", "count"]
theorem sc_Finder_passed : FnScope nm_Finder_passed ["self", "count"] (defScope (inClass (top 10) 2)) := ⟨rfl, rfl, rfl, by decide +kernel, rfl, by decide +kernel, by decide +kernel⟩
theorem ok_Finder_passed (T : Txt K mg a) : FnOk P w K mg base (L2.CX P w) 2 a.f_Finder_passed a.d_Finder_passed ["self", "count"] (sp_Finder_passed a.toCl) := by
  refine ok_body T.fn_Finder_passed sc_Finder_passed rfl rfl fun cdv A outer s H E hr => ?_
  exact (pss_cons (ps_if (PW.pt (pw_or (pt_not (pt_val (pe_call (ok_is_whole T) (hr.mono (by decide)) rfl T.mg_is_whole (T.fn_is_whole).kp T.bd_is_whole .nil passE (pa_cons (pv 1) pa_nil)))) (pw_or1 (pt_cmpR o_lt (pv 1) pe_int (nomark _))))) (pss_one ps_never) pss_nil)
    (pss_one (ps_if (pt_cmpR o_gt (pv 1) (pe_fldC T.cl_Finder T.na_Finder_size (pv 0)) (nomark _)) (pss_cons (ps_setF T.cl_Finder T.na_Finder_size (pv 0) (pe_callB (c_min2 rfl) (by rfl) T.no_min (by decide +kernel) (pa_cons (pv 1) (pa_cons (pe_fldC T.cl_Finder T.na_Finder_ceiling (pv 0)) pa_nil))))
    (pss_one (ps_setF T.cl_Finder T.na_Finder_strikes (pv 0) pe_int))) pss_nil)))
abbrev nm_greater : List Str := ["_law_one", "_law_two"]
theorem sc_greater : FnScope nm_greater ["_law_one", "_law_two"] (defScope (top 16)) := ⟨rfl, rfl, rfl, by decide +kernel, rfl, by decide +kernel, by decide +kernel⟩
theorem ok_greater (T : Txt K mg a) : FnOk P w K mg base (L2.CX P w) 1 a.f_greater a.d_greater ["_law_one", "_law_two"] (sp_greater a.toCl) := by
  refine ok_body T.fn_greater sc_greater rfl rfl fun cdv A outer s H E hr => ?_
  exact (pss_cons (ps_if (pt_cmpR o_gt (pv 0) (pv 1) (nomark _)) (pss_one (ps_ret (pv 0))) pss_nil)
    (pss_one (ps_ret (pv 1))))
abbrev nm_Finder_failed : List Str := ["self", "count"]
theorem sc_Finder_failed : FnScope nm_Finder_failed ["self", "count"] (defScope (inClass (top 10) 3)) := ⟨rfl, rfl, rfl, by decide +kernel, rfl, by decide +kernel, by decide +kernel⟩
theorem ok_Finder_failed (T : Txt K mg a) : FnOk P w K mg base (L2.CX P w) 2 a.f_Finder_failed a.d_Finder_failed ["self", "count"] (sp_Finder_failed a.toCl) := by
  obtain ⟨_, mg_STRIKES_⟩ := T.mg_STRIKES
  refine ok_body T.fn_Finder_failed sc_Finder_failed rfl rfl fun cdv A outer s H E hr => ?_
  exact (pss_cons (ps_if (PW.pt (pw_or (pt_not (pt_val (pe_call (ok_is_whole T) (hr.mono (by decide)) rfl T.mg_is_whole (T.fn_is_whole).kp T.bd_is_whole .nil passE (pa_cons (pv 1) pa_nil)))) (pw_or1 (pt_cmpR o_lt (pv 1) pe_int (nomark _))))) (pss_one ps_never) pss_nil)
    (pss_cons (ps_if (PW.pt (pw_or (pt_cmpR (o_eqP T.st hr.units) (pv 1) pe_int (nomark _)) (pw_or1 (pt_cmpR (o_neP T.st hr.units) (pv 1) (pe_meth0 (pv 0) T.cl_Finder T.mt_Finder_trial (ok_Finder_trial T) (hr.mono (by decide)) T.bd_Finder_trial .nil passE ) (nomark _))))) (pss_one ps_retN) pss_nil)
    (pss_cons (ps_augF T.cl_Finder T.na_Finder_strikes (pv 0) pe_int in_addI)
    (pss_one (ps_if (pt_cmpR (o_eqP T.st hr.units) (pe_fldC T.cl_Finder T.na_Finder_strikes (pv 0)) (pe_constI mg_STRIKES_ rfl) (nomark _)) (pss_cons (ps_setF T.cl_Finder T.na_Finder_ceiling (pv 0) (pe_op o_sub (pv 1) pe_int))
    (pss_one (ps_setF T.cl_Finder T.na_Finder_strikes (pv 0) pe_int))) pss_nil)))))
abbrev nm_aside : List Str := ["_law_bag_here", "_law_finder", "_law_path_here", "_law_seen_here", "_law_carried", "_law_now", "_law_other"]
theorem sc_aside : FnScope nm_aside ["_law_bag_here", "_law_finder", "_law_path_here", "_law_seen_here"] (defScope (top 20)) := ⟨rfl, rfl, rfl, by decide +kernel, rfl, by decide +kernel, by decide +kernel⟩
theorem ok_aside (T : Txt K mg a) : FnOk P w K mg base (L2.CX P w) 3 a.f_aside a.d_aside ["_law_bag_here", "_law_finder", "_law_path_here", "_law_seen_here"] (sp_aside a.toCl) := by
  refine ok_body T.fn_aside sc_aside rfl rfl fun cdv A outer s H E hr => ?_
  exact (pss_cons (ps_asg (pe_op o_sub (pe_ix (o_ix T.st) (pv 2) pe_int (fun _ _ => rfl)) pe_int) (pg_sub (pv 2) pe_int set_list))
    (pss_cons (ps_if (pt_cmpR (o_eqP T.st hr.units) (pe_call (ok_take T) (hr.mono (by decide)) rfl T.mg_take (T.fn_take).kp T.bd_take .nil passE (pa_cons (pv 0) (pa_cons pe_int pa_nil))) pe_int (nomark _)) (pss_cons (ps_set (i := 4) sc_aside.nd rfl (by first | exact Or.inl rfl | exact Or.inr rfl) (pe_call (ok_take T) (hr.mono (by decide)) rfl T.mg_take (T.fn_take).kp T.bd_take .nil passE (pa_cons (pv 0) (pa_cons (pe_op o_add (pe_ix (o_ix T.st) (pv 2) pe_int (fun _ _ => rfl)) pe_int) pa_nil))))
    (pss_cons (ps_if (pt_cmpR o_isnot (pe_meth (pv 1) T.cl_Finder T.mt_Finder_passed (ok_Finder_passed T) (hr.mono (by decide)) T.bd_Finder_passed .nil passE (pa_cons (pv 4) pa_nil)) pe_non (nomark _)) (pss_one (ps_ret pe_bl)) pss_nil)
    (pss_cons (ps_set (i := 5) sc_aside.nd rfl (by first | exact Or.inl rfl | exact Or.inr rfl) (pe_call (ok_seen T) (hr.mono (by decide)) rfl T.mg_seen (T.fn_seen).kp T.bd_seen .nil passE (pa_cons (pv 1) (pa_cons (pv 2) pa_nil))))
    (pss_one (ps_ret (pe_and (pe_cmpR (o_neP T.st hr.units) (pv 5) (pe_lst pa_nil) (nomark _)) (pe_one (pe_cmpR (o_eqP T.st hr.units) (pe_slice (o_sl T.st) (pv 5) po_none (po_some pe_int)) (pe_lst (pa_cons (pe_call (ok_greater T) (hr.mono (by decide)) rfl T.mg_greater (T.fn_greater).kp T.bd_greater .nil passE (pa_cons (pe_ix (o_ix T.st) (pv 3) pe_int (fun _ _ => rfl)) (pa_cons (pv 4) pa_nil))) (pa_cons (pe_ix (o_ix T.st) (pv 3) pe_int (fun _ _ => rfl)) pa_nil))) (nomark _))))))))) pss_nil)
    (pss_cons (ps_set (i := 6) sc_aside.nd rfl (by first | exact Or.inl rfl | exact Or.inr rfl) (pe_call (ok_take T) (hr.mono (by decide)) rfl T.mg_take (T.fn_take).kp T.bd_take .nil passE (pa_cons (pv 0) (pa_cons pe_int pa_nil))))
    (pss_cons (ps_if (pt_cmpR (o_eqP T.st hr.units) (pv 6) (pe_ix (o_ix T.st) (pv 3) pe_int (fun _ _ => rfl)) (nomark _)) (pss_one (ps_set (i := 6) sc_aside.nd rfl (by first | exact Or.inl rfl | exact Or.inr rfl) (pe_op o_add (pv 6) pe_int))) pss_nil)
    (pss_one (ps_ret (pe_and (pe_cmpR o_is (pe_meth (pv 1) T.cl_Finder T.mt_Finder_failed (ok_Finder_failed T) (hr.mono (by decide)) T.bd_Finder_failed .nil passE (pa_cons (pv 6) pa_nil)) pe_non (nomark _)) (pe_one (pe_cmpR (o_eqP T.st hr.units) (pe_call (ok_seen T) (hr.mono (by decide)) rfl T.mg_seen (T.fn_seen).kp T.bd_seen .nil passE (pa_cons (pv 1) (pa_cons (pv 2) pa_nil))) (pv 3) (nomark _))))))))))
abbrev nm_answer : List Str := ["_law_bag_here", "_law_finder", "_law_path_here", "_law_aim"]
theorem sc_answer : FnScope nm_answer ["_law_bag_here", "_law_finder", "_law_path_here", "_law_aim"] (defScope (top 21)) := ⟨rfl, rfl, rfl, by decide +kernel, rfl, by decide +kernel, by decide +kernel⟩
theorem ok_answer (T : Txt K mg a) : FnOk P w K mg base (L2.CX P w) 3 a.f_answer a.d_answer ["_law_bag_here", "_law_finder", "_law_path_here", "_law_aim"] (sp_answer a.toCl) := by
  refine ok_body T.fn_answer sc_answer rfl rfl fun cdv A outer s H E hr => ?_
  exact (pss_cons (ps_if (pt_cmpR o_gt (pv 3) (pe_ix (o_ix T.st) (pv 2) pe_int (fun _ _ => rfl)) (nomark _)) (pss_one (ps_ret (pe_cmpR o_is (pe_meth (pv 1) T.cl_Finder T.mt_Finder_failed (ok_Finder_failed T) (hr.mono (by decide)) T.bd_Finder_failed .nil passE (pa_cons (pv 3) pa_nil)) pe_non (nomark _)))) pss_nil)
    (pss_cons (ps_if (PW.pt (pw_and (pt_cmpR (o_neP T.st hr.units) (pe_ix (o_ix T.st) (pv 2) pe_int (fun _ _ => rfl)) (pv 3) (nomark _)) (pw_and1 (pt_cmpR (o_eqP T.st hr.units) (pe_call (ok_take T) (hr.mono (by decide)) rfl T.mg_take (T.fn_take).kp T.bd_take .nil passE (pa_cons (pv 0) (pa_cons pe_int pa_nil))) pe_int (nomark _))))) (pss_cons (ps_asg (pv 3) (pg_sub (pv 2) pe_int set_list))
    (pss_one (ps_ret (pe_cmpR o_is (pe_meth (pv 1) T.cl_Finder T.mt_Finder_failed (ok_Finder_failed T) (hr.mono (by decide)) T.bd_Finder_failed .nil passE (pa_cons (pv 3) pa_nil)) pe_non (nomark _))))) pss_nil)
    (pss_one (ps_ret (pe_cmpR o_is (pe_meth (pv 1) T.cl_Finder T.mt_Finder_passed (ok_Finder_passed T) (hr.mono (by decide)) T.bd_Finder_passed .nil passE (pa_cons (pv 3) pa_nil)) pe_non (nomark _))))))
abbrev nm_step : List Str := ["_law_bag_here", "_law_finder", "_law_path_here", "_law_seen_here", "_law_now"]
theorem sc_step : FnScope nm_step ["_law_bag_here", "_law_finder", "_law_path_here"] (defScope (top 22)) := ⟨rfl, rfl, rfl, by decide +kernel, rfl, by decide +kernel, by decide +kernel⟩
theorem ok_step (T : Txt K mg a) : FnOk P w K mg base (L2.CX P w) 4 a.f_step a.d_step ["_law_bag_here", "_law_finder", "_law_path_here"] (sp_step a.toCl) := by
  refine ok_body T.fn_step sc_step rfl rfl fun cdv A outer s H E hr => ?_
  exact (pss_cons (ps_set (i := 3) sc_step.nd rfl (by first | exact Or.inl rfl | exact Or.inr rfl) (pe_call (ok_seen T) (hr.mono (by decide)) rfl T.mg_seen (T.fn_seen).kp T.bd_seen .nil passE (pa_cons (pv 1) (pa_cons (pv 2) pa_nil))))
    (pss_cons (ps_if (pt_cmpR (o_eqP T.st hr.units) (pv 3) (pe_lst pa_nil) (nomark _)) (pss_one (ps_ret pe_bl)) pss_nil)
    (pss_cons (ps_if (PW.pt (pw_and (pt_cmpR o_gt (pe_ix (o_ix T.st) (pv 2) pe_int (fun _ _ => rfl)) pe_int (nomark _)) (pw_and1 (pt_cmpR (o_eqP T.st hr.units) (pe_call (ok_take T) (hr.mono (by decide)) rfl T.mg_take (T.fn_take).kp T.bd_take .nil passE (pa_cons (pv 0) (pa_cons pe_int pa_nil))) pe_int (nomark _))))) (pss_one (ps_ret (pe_call (ok_aside T) (hr.mono (by decide)) rfl T.mg_aside (T.fn_aside).kp T.bd_aside .nil passE (pa_cons (pv 0) (pa_cons (pv 1) (pa_cons (pv 2) (pa_cons (pv 3) pa_nil))))))) pss_nil)
    (pss_cons (ps_if (pt_not (pt_val (pe_call (ok_answer T) (hr.mono (by decide)) rfl T.mg_answer (T.fn_answer).kp T.bd_answer .nil passE (pa_cons (pv 0) (pa_cons (pv 1) (pa_cons (pv 2) (pa_cons (pe_ix (o_ix T.st) (pv 3) pe_int (fun _ _ => rfl)) pa_nil))))))) (pss_one (ps_ret pe_bl)) pss_nil)
    (pss_cons (ps_set (i := 4) sc_step.nd rfl (by first | exact Or.inl rfl | exact Or.inr rfl) (pe_call (ok_seen T) (hr.mono (by decide)) rfl T.mg_seen (T.fn_seen).kp T.bd_seen .nil passE (pa_cons (pv 1) (pa_cons (pv 2) pa_nil))))
    (pss_cons (ps_if (pt_cmpR (o_eqP T.st hr.units) (pv 4) (pe_lst pa_nil) (nomark _)) (pss_one (ps_ret pe_bl)) pss_nil)
    (pss_cons (ps_if (pt_cmpR (o_eqP T.st hr.units) (pe_slice (o_sl T.st) (pv 4) po_none (po_some pe_int)) (pe_slice (o_sl T.st) (pv 3) po_none (po_some pe_int)) (nomark _)) (pss_one (ps_ret (pe_and (pe_cmpR (o_eqP T.st hr.units) (pe_ix (o_ix T.st) (pv 3) pe_int (fun _ _ => rfl)) pe_int (nomark _)) (pe_one (pe_cmpR (o_eqP T.st hr.units) (pe_ix (o_ix T.st) (pv 4) pe_int (fun _ _ => rfl)) pe_int (nomark _)))))) pss_nil)
    (pss_cons (ps_asg (pe_op o_add (pe_ix (o_ix T.st) (pv 2) pe_int (fun _ _ => rfl)) pe_int) (pg_sub (pv 2) pe_int set_list))
    (pss_one (ps_ret (pe_and (pe_cmpR (o_eqP T.st hr.units) (pe_ix (o_ix T.st) (pv 4) pe_int (fun _ _ => rfl)) pe_int (nomark _)) (pe_one (pe_cmpR o_le (pe_op o_mul pe_int (pe_op o_sub (pe_ix (o_ix T.st) (pv 4) pe_int (fun _ _ => rfl)) (pe_ix (o_ix T.st) (pv 4) pe_int (fun _ _ => rfl)))) (pe_op o_sub (pe_ix (o_ix T.st) (pv 3) pe_int (fun _ _ => rfl)) (pe_ix (o_ix T.st) (pv 3) pe_int (fun _ _ => rfl))) (nomark _))))))))))))))
abbrev nm_ended : List Str := ["_law_bag_here", "_law_finder", "_law_path_here", "_law_width", "_law_due", "_law_one"]
theorem sc_ended : FnScope nm_ended ["_law_bag_here", "_law_finder", "_law_path_here"] (defScope (top 23)) := ⟨rfl, rfl, rfl, by decide +kernel, rfl, by decide +kernel, by decide +kernel⟩
theorem ok_ended (T : Txt K mg a) : FnOk P w K mg base (L2.CX P w) 3 a.f_ended a.d_ended ["_law_bag_here", "_law_finder", "_law_path_here"] (sp_ended a.toCl) := by
  refine ok_body T.fn_ended sc_ended rfl rfl fun cdv A outer s H E hr => ?_
  exact (pss_cons (ps_set (i := 3) sc_ended.nd rfl (by first | exact Or.inl rfl | exact Or.inr rfl) (pe_op o_sub (pe_ix (o_ix T.st) (pv 2) pe_int (fun _ _ => rfl)) (pe_ix (o_ix T.st) (pv 2) pe_int (fun _ _ => rfl))))
    (pss_cons (ps_set (i := 4) sc_ended.nd rfl (by first | exact Or.inl rfl | exact Or.inr rfl) (pe_lst (pa_cons (pe_ix (o_ix T.st) (pv 2) pe_int (fun _ _ => rfl)) (pa_cons (pe_ix (o_ix T.st) (pv 2) pe_int (fun _ _ => rfl)) (pa_cons pe_int (pa_cons pe_int pa_nil))))))
    (pss_cons (ps_if (PW.pt (pw_or (pt_cmpR o_gt (pe_ix (o_ix T.st) (pv 2) pe_int (fun _ _ => rfl)) (pe_bitsU (pv 3)) (nomark _)) (pw_or1 (pt_cmpR (o_neP T.st hr.units) (pe_call (ok_seen T) (hr.mono (by decide)) rfl T.mg_seen (T.fn_seen).kp T.bd_seen .nil passE (pa_cons (pv 1) (pa_cons (pv 2) pa_nil))) (pv 4) (nomark _))))) (pss_one (ps_ret pe_bl)) pss_nil)
    (pss_cons (ps_forSeq T.st (passes_of rfl) rfl (pe_lst (pa_cons pe_int (pa_cons (pe_ix (o_ix T.st) (pv 2) pe_int (fun _ _ => rfl)) (pa_cons (pe_op o_add (pe_ix (o_ix T.st) (pv 2) pe_int (fun _ _ => rfl)) pe_int) (pa_cons (pe_call (ok_take T) (hr.mono (by decide)) rfl T.mg_take (T.fn_take).kp T.bd_take .nil passE (pa_cons (pv 0) (pa_cons pe_int pa_nil))) pa_nil))))) (pg_name (i := 5) sc_ended.nd rfl (by first | exact Or.inl rfl | exact Or.inr rfl)) (pss_cons (ps_if (PW.pt (pw_or (pt_cmpR o_isnot (pe_meth (pv 1) T.cl_Finder T.mt_Finder_failed (ok_Finder_failed T) (hr.mono (by decide)) T.bd_Finder_failed .nil passE (pa_cons (pv 5) pa_nil)) pe_non (nomark _)) (pw_or1 (pt_cmpR (o_neP T.st hr.units) (pe_call (ok_seen T) (hr.mono (by decide)) rfl T.mg_seen (T.fn_seen).kp T.bd_seen .nil passE (pa_cons (pv 1) (pa_cons (pv 2) pa_nil))) (pv 4) (nomark _))))) (pss_one (ps_ret pe_bl)) pss_nil)
    (pss_one (ps_if (PW.pt (pw_or (pt_cmpR o_isnot (pe_meth (pv 1) T.cl_Finder T.mt_Finder_passed (ok_Finder_passed T) (hr.mono (by decide)) T.bd_Finder_passed .nil passE (pa_cons (pv 5) pa_nil)) pe_non (nomark _)) (pw_or1 (pt_cmpR (o_neP T.st hr.units) (pe_call (ok_seen T) (hr.mono (by decide)) rfl T.mg_seen (T.fn_seen).kp T.bd_seen .nil passE (pa_cons (pv 1) (pa_cons (pv 2) pa_nil))) (pv 4) (nomark _))))) (pss_one (ps_ret pe_bl)) pss_nil))))
    (pss_one (ps_ret pe_bl))))))
abbrev nm_law : List Str := ["_law_script", "_law_bag_here", "_law_paths", "_law_pair", "_law_path_here", "_law_turn", "_law_side", "_law_other"]
theorem sc_law : FnScope nm_law ["_law_script"] (defScope (top 24)) := ⟨rfl, rfl, rfl, by decide +kernel, rfl, by decide +kernel, by decide +kernel⟩
theorem ok_law (T : Txt K mg a) : FnOk P w K mg base (L2.CX P w) 5 a.f_law a.d_law ["_law_script"] (sp_law a.toCl) := by
  refine ok_body T.fn_law sc_law rfl rfl fun cdv A outer s H E hr => ?_
  exact (pss_cons (ps_set (i := 1) sc_law.nd rfl (by first | exact Or.inl rfl | exact Or.inr rfl) (pe_call (ok_bag T) (hr.mono (by decide)) rfl T.mg_bag (T.fn_bag).kp T.bd_bag .nil passE (pa_cons (pv 0) pa_nil)))
    (pss_cons (ps_set (i := 2) sc_law.nd rfl (by first | exact Or.inl rfl | exact Or.inr rfl) (pe_lst (pa_cons (pe_call (ok_path T) (hr.mono (by decide)) rfl T.mg_path (T.fn_path).kp T.bd_path .nil passE (pa_cons (pv 1) pa_nil)) (pa_cons (pe_call (ok_path T) (hr.mono (by decide)) rfl T.mg_path (T.fn_path).kp T.bd_path .nil passE (pa_cons (pv 1) pa_nil)) pa_nil))))
    (pss_cons (ps_lcSeq (i := 3) (own := [("_law_path_here", 4)]) T.st rfl sc_law.nd rfl rfl (sw_true rfl rfl rfl (by decide +kernel)) (pv 2) (blkOk_by (own := [("_law_path_here", 4)]) (N := nm_law) (sc := defScope (top 24)) (by decide +kernel)) ⟨fun _ _ _ _ _ => (pg_name (i := 4) sc_law.nd rfl (by first | exact Or.inl rfl | exact Or.inr rfl)), fun _ _ _ _ _ => pts_nil, fun _ _ _ _ _ => (pe_make T.mk_Finder (ok_Finder___init__ T) (hr.mono (by decide)) rfl T.mg_Finder T.bd_Finder___init__ .nil passL (pa_cons (pe_ix (o_ix T.st) (pv 4) pe_int (fun _ _ => rfl)) (pa_cons (pe_ix (o_ix T.st) (pv 4) pe_int (fun _ _ => rfl)) pa_nil)))⟩)
    (pss_cons (ps_forR1 (passes_of rfl) rfl rfl T.no_range pe_int (pg_name (i := 5) sc_law.nd rfl (by first | exact Or.inl rfl | exact Or.inr rfl)) (pss_cons (ps_set (i := 6) sc_law.nd rfl (by first | exact Or.inl rfl | exact Or.inr rfl) (pe_call (ok_take T) (hr.mono (by decide)) rfl T.mg_take (T.fn_take).kp T.bd_take .nil passE (pa_cons (pv 1) (pa_cons pe_int pa_nil))))
    (pss_cons (ps_if (pt_cmpR (o_eqP T.st hr.units) (pe_meth0 (pe_ix (o_ix T.st) (pv 3) (pv 6) (fun _ _ => rfl)) T.cl_Finder T.mt_Finder_trial (ok_Finder_trial T) (hr.mono (by decide)) T.bd_Finder_trial .nil passE ) pe_int (nomark _)) (pss_one (ps_set (i := 6) sc_law.nd rfl (by first | exact Or.inl rfl | exact Or.inr rfl) (pe_op o_sub pe_int (pv 6)))) pss_nil)
    (pss_cons (ps_if (pt_cmpR (o_eqP T.st hr.units) (pe_meth0 (pe_ix (o_ix T.st) (pv 3) (pv 6) (fun _ _ => rfl)) T.cl_Finder T.mt_Finder_trial (ok_Finder_trial T) (hr.mono (by decide)) T.bd_Finder_trial .nil passE ) pe_int (nomark _)) (pss_one ps_break) pss_nil)
    (pss_cons (ps_set (i := 7) sc_law.nd rfl (by first | exact Or.inl rfl | exact Or.inr rfl) (pe_call (ok_seen T) (hr.mono (by decide)) rfl T.mg_seen (T.fn_seen).kp T.bd_seen .nil passE (pa_cons (pe_ix (o_ix T.st) (pv 3) (pe_op o_sub pe_int (pv 6)) (fun _ _ => rfl)) (pa_cons (pe_ix (o_ix T.st) (pv 2) (pe_op o_sub pe_int (pv 6)) (fun _ _ => rfl)) pa_nil))))
    (pss_cons (ps_if (PW.pt (pw_or (pt_cmpR (o_eqP T.st hr.units) (pv 7) (pe_lst pa_nil) (nomark _)) (pw_or1 (pt_not (pt_val (pe_call (ok_step T) (hr.mono (by decide)) rfl T.mg_step (T.fn_step).kp T.bd_step .nil passE (pa_cons (pv 1) (pa_cons (pe_ix (o_ix T.st) (pv 3) (pv 6) (fun _ _ => rfl)) (pa_cons (pe_ix (o_ix T.st) (pv 2) (pv 6) (fun _ _ => rfl)) pa_nil))))))))) (pss_one (ps_ret pe_bl)) pss_nil)
    (pss_one (ps_if (pt_cmpR (o_neP T.st hr.units) (pe_call (ok_seen T) (hr.mono (by decide)) rfl T.mg_seen (T.fn_seen).kp T.bd_seen .nil passE (pa_cons (pe_ix (o_ix T.st) (pv 3) (pe_op o_sub pe_int (pv 6)) (fun _ _ => rfl)) (pa_cons (pe_ix (o_ix T.st) (pv 2) (pe_op o_sub pe_int (pv 6)) (fun _ _ => rfl)) pa_nil))) (pv 7) (nomark _)) (pss_one (ps_ret pe_bl)) pss_nil))))))))
    (pss_one (ps_ret (pe_and (pe_call (ok_ended T) (hr.mono (by decide)) rfl T.mg_ended (T.fn_ended).kp T.bd_ended .nil passE (pa_cons (pv 1) (pa_cons (pe_ix (o_ix T.st) (pv 3) pe_int (fun _ _ => rfl)) (pa_cons (pe_ix (o_ix T.st) (pv 2) pe_int (fun _ _ => rfl)) pa_nil)))) (pe_one (pe_call (ok_ended T) (hr.mono (by decide)) rfl T.mg_ended (T.fn_ended).kp T.bd_ended .nil passE (pa_cons (pv 1) (pa_cons (pe_ix (o_ix T.st) (pv 3) pe_int (fun _ _ => rfl)) (pa_cons (pe_ix (o_ix T.st) (pv 2) pe_int (fun _ _ => rfl)) pa_nil))))))))))))
end
/-! ### what the top has written -/
theorem useFn {R : Prop} {K : PySem.W.Frag} {h : Heap} {mg : Str → Option Value} (X : K.In h) (G : h.Ns mainGlobals mg) {x : Str} {st : Stmt} {f : Addr} {ps : List Str} {oc kV doc pm cd ct : Value} {od an : Option Addr} {sl : Array (Option Value)}
    (n : PySem.W.nsIn K mainGlobals x = some (some (.ref f))) (l : K.lookup f = some ⟨oc, od, .func (PySem.W.fnOf x x (defArgs st) (defBody st) (defScope st) .none kV doc pm an cd ct), sl⟩) (c : PySem.W.codeIn K cd x = true) (k : PySem.W.keepIn K (.ref f) = true)
    (hb : ∀ (kV doc pm : Value) (an : Option Addr) (cdv ct : Value) (us : List Value), us.length = ps.length → bindArgs (PySem.W.fnOf x x (defArgs st) (defBody st) (defScope st) .none kV doc pm an cdv ct) ⟨us, []⟩ = pure (ps.zip us))
    (r : ∀ (f : Addr) (fd : FuncData), mg x = some (.ref f) → Fun K x x st f fd → (∀ us : List Value, us.length = ps.length → bindArgs fd ⟨us, []⟩ = pure (ps.zip us)) → R) : R :=
  r f _ (PySem.W.mg_of X G n) (fun_mk l c k) fun us hl => hb kV doc pm an cd ct us hl
theorem useConst {R : Prop} {K : PySem.W.Frag} {h : Heap} {mg : Str → Option Value} (X : K.In h) (G : h.Ns mainGlobals mg) {x : Str} {i : Int} {t : Tok} (n : PySem.W.nsIn K mainGlobals x = some (some (.int i t))) (r : (∃ t, mg x = some (.int i t)) → R) : R := r ⟨t, PySem.W.mg_of X G n⟩
theorem useC_Finder {R : Prop} {K : PySem.W.Frag} {h : Heap} {mg : Str → Option Value} (X : K.In h) (G : h.Ns mainGlobals mg) {C : Addr} {f___init__ : Addr} {oc___init__ kV___init__ doc___init__ pm___init__ cd___init__ ct___init__ : Value} {od___init__ an___init__ : Option Addr} {sl___init__ : Array (Option Value)} {f_trial : Addr} {oc_trial kV_trial doc_trial pm_trial cd_trial ct_trial : Value} {od_trial an_trial : Option Addr} {sl_trial : Array (Option Value)} {f_passed : Addr} {oc_passed kV_passed doc_passed pm_passed cd_passed ct_passed : Value} {od_passed an_passed : Option Addr} {sl_passed : Array (Option Value)} {f_failed : Addr} {oc_failed kV_failed doc_failed pm_failed cd_failed ct_failed : Value} {od_failed an_failed : Option Addr} {sl_failed : Array (Option Value)}
    (n : PySem.W.nsIn K mainGlobals "Finder" = some (some (.ref C)))
    (pg : PySem.W.plainGet K C Str.empty = true)
    (hd : PySem.W.hasDictIn K C = true)
    (po : PySem.W.plainOver K C = true)
    (sa : PySem.W.findIn K (.ref C) "__setattr__" = some (some (.builtin "object.__setattr__")))
    (mk : PySem.W.makesIn K C = true)
    (kc : PySem.W.keepIn K (.ref C) = true)
    (na_size : PySem.W.findIn K (.ref C) "size" = some none)
    (na_ceiling : PySem.W.findIn K (.ref C) "ceiling" = some none)
    (na_strikes : PySem.W.findIn K (.ref C) "strikes" = some none)
    (n___init__ : PySem.W.findIn K (.ref C) "__init__" = some (some (.ref f___init__)))
    (i___init__ : PySem.W.isFn K (.ref f___init__) = true)
    (l___init__ : K.lookup f___init__ = some ⟨oc___init__, od___init__, .func (PySem.W.fnOf "__init__" "Finder.__init__" (defArgs (inClass (top 10) 0)) (defBody (inClass (top 10) 0)) (defScope (inClass (top 10) 0)) .none kV___init__ doc___init__ pm___init__ an___init__ cd___init__ ct___init__), sl___init__⟩)
    (c___init__ : PySem.W.codeIn K cd___init__ "Finder.__init__" = true)
    (k___init__ : PySem.W.keepIn K (.ref f___init__) = true)
    (n_trial : PySem.W.findIn K (.ref C) "trial" = some (some (.ref f_trial)))
    (i_trial : PySem.W.isFn K (.ref f_trial) = true)
    (l_trial : K.lookup f_trial = some ⟨oc_trial, od_trial, .func (PySem.W.fnOf "trial" "Finder.trial" (defArgs (inClass (top 10) 1)) (defBody (inClass (top 10) 1)) (defScope (inClass (top 10) 1)) .none kV_trial doc_trial pm_trial an_trial cd_trial ct_trial), sl_trial⟩)
    (c_trial : PySem.W.codeIn K cd_trial "Finder.trial" = true)
    (k_trial : PySem.W.keepIn K (.ref f_trial) = true)
    (n_passed : PySem.W.findIn K (.ref C) "passed" = some (some (.ref f_passed)))
    (i_passed : PySem.W.isFn K (.ref f_passed) = true)
    (l_passed : K.lookup f_passed = some ⟨oc_passed, od_passed, .func (PySem.W.fnOf "passed" "Finder.passed" (defArgs (inClass (top 10) 2)) (defBody (inClass (top 10) 2)) (defScope (inClass (top 10) 2)) .none kV_passed doc_passed pm_passed an_passed cd_passed ct_passed), sl_passed⟩)
    (c_passed : PySem.W.codeIn K cd_passed "Finder.passed" = true)
    (k_passed : PySem.W.keepIn K (.ref f_passed) = true)
    (n_failed : PySem.W.findIn K (.ref C) "failed" = some (some (.ref f_failed)))
    (i_failed : PySem.W.isFn K (.ref f_failed) = true)
    (l_failed : K.lookup f_failed = some ⟨oc_failed, od_failed, .func (PySem.W.fnOf "failed" "Finder.failed" (defArgs (inClass (top 10) 3)) (defBody (inClass (top 10) 3)) (defScope (inClass (top 10) 3)) .none kV_failed doc_failed pm_failed an_failed cd_failed ct_failed), sl_failed⟩)
    (c_failed : PySem.W.codeIn K cd_failed "Finder.failed" = true)
    (k_failed : PySem.W.keepIn K (.ref f_failed) = true)
    (r : ∀ (C : Addr) (f___init__ : Addr) (d___init__ : FuncData) (f_trial : Addr) (d_trial : FuncData) (f_passed : Addr) (d_passed : FuncData) (f_failed : Addr) (d_failed : FuncData), (Fun K "__init__" "Finder.__init__" (inClass (top 10) 0) f___init__ d___init__) → (Binds K d___init__ ["self", "low", "high"] []) → (Fun K "trial" "Finder.trial" (inClass (top 10) 1) f_trial d_trial) → (Binds K d_trial ["self"] []) → (Fun K "passed" "Finder.passed" (inClass (top 10) 2) f_passed d_passed) → (Binds K d_passed ["self", "count"] []) → (Fun K "failed" "Finder.failed" (inClass (top 10) 3) f_failed d_failed) → (Binds K d_failed ["self", "count"] []) → (Cls K C) → (NoAttr K C "size") → (NoAttr K C "ceiling") → (NoAttr K C "strikes") → (Mk K C f___init__) → (mg "Finder" = some (.ref C)) → (Meth K C "trial" f_trial) → (Meth K C "passed" f_passed) → (Meth K C "failed" f_failed) → R) : R :=
  r C f___init__ _ f_trial _ f_passed _ f_failed _ (fun_mk l___init__ c___init__ k___init__) ((fun_mk (st := inClass (top 10) 0) l___init__ c___init__ k___init__).binds (ps := ["self", "low", "high"]) (fun _ _ _ _ _ _ us hl => match us, hl with | [_, _, _], _ => rfl)) (fun_mk l_trial c_trial k_trial) ((fun_mk (st := inClass (top 10) 1) l_trial c_trial k_trial).binds (ps := ["self"]) (fun _ _ _ _ _ _ us hl => match us, hl with | [_], _ => rfl)) (fun_mk l_passed c_passed k_passed) ((fun_mk (st := inClass (top 10) 2) l_passed c_passed k_passed).binds (ps := ["self", "count"]) (fun _ _ _ _ _ _ us hl => match us, hl with | [_, _], _ => rfl)) (fun_mk l_failed c_failed k_failed) ((fun_mk (st := inClass (top 10) 3) l_failed c_failed k_failed).binds (ps := ["self", "count"]) (fun _ _ _ _ _ _ us hl => match us, hl with | [_, _], _ => rfl)) (⟨pg, hd, po, sa⟩) (na_size) (na_ceiling) (na_strikes) (⟨mk, n___init__, i___init__, kc⟩) (PySem.W.mg_of X G n) (⟨n_trial, i_trial, k_trial⟩) (⟨n_passed, i_passed, k_passed⟩) (⟨n_failed, i_failed, k_failed⟩)
def spLaw (K : PySem.W.Frag) : Sp := fun vs H Q _ => ∃ (a : Addr) (ns : List Int), vs = [.ref a] ∧ SqL K H a (ns.map V.int) ∧ ns.length ≤ 63 ∧ Only H ∧ ∀ H', Q (.bl true) H'
theorem walk {l : PySem.W.OpenLaw} {q : Program} {loose : List Str} {XP : (Str → Option Value) → Heap → Prop} {YP : World → Heap → Prop} {d : DefRec} {K : Params → PySem.W.Frag} (hn : l.most = some 63) (hdf : d.params.defaults = [])
    (hY : ∀ (w : World) (h : Heap), YP w h → (K w.params).In h)
    (F : ∀ (w : World) (mg : Str → Option Value) (fa : Addr) (h : Heap), (K w.params).In h → h.Ns mainGlobals mg → mg d.name = some (.ref fa) →
      ∃ fd : FuncData, (∀ (s : Shared) (u : Value), BindsTo s fd ⟨[u], []⟩ [("_law_script", u)]) ∧ ∀ base : Heap, (K w.params).In base → base.Ns mainGlobals mg → FnOk l.prog w (K w.params) mg base (L2.CX l.prog w) 5 fa fd ["_law_script"] (spLaw (K w.params))) :
    PySem.W.WalkO q loose XP YP l.row.toRowW d [] (fun f vs => PySem.call f vs) :=
  L2.walk_of (n := 63) (k := 5) (x := "_law_script") (CX := fun w => L2.CX l.prog w) (sp := fun w => spLaw (K w.params)) hn (by decide) hdf ⟨rfl, by decide, by decide⟩ hY F (fun _ _ a ns hl hO hS => ⟨a, ns, rfl, hS, hl, hO, fun _ => rfl⟩) fun w H s e s' z => by
    obtain ⟨_, _, _, _, _, _, _, _, _, _, _, _, z⟩ := z
    exact z.elim
end Y.k19
open PySem PySem.W PyProof.Rows
set_option maxRecDepth 100000 in
set_option maxHeartbeats 0 in
theorem PySem.Challenge.cw_lossway_k19_whole_finder_finds_holds : PySem.Challenge.rw_lossway_k19_whole_finder_finds.Holds := by
  w_on; o_law; k_head; (case hw => w_witness2)
  k_fill
  refine Y.k19.walk (l := PySem.Challenge.rw_lossway_k19_whole_finder_finds) rfl rfl (fun w h Y => PySem.W.kIn_of Y) ?F
  case F =>
    intro w mg fa h KX G hmg
    refine' Y.k19.useFn KX G (x := "_law_bag") (st := Y.k19.top 13) (ps := ["_law_script"]) ?nbag ?lbag ?cbag ?kbag (fun _ _ _ _ _ _ us hl => match us, hl with | [_], _ => rfl) ?rbag
    (case nbag => k_is); (case lbag => k_is); (case cbag => k_is); (case kbag => k_is)
    intro f_bag d_bag m_bag F_bag b_bag
    refine' Y.k19.useFn KX G (x := "_law_take") (st := Y.k19.top 14) (ps := ["_law_bag_here", "_law_many"]) ?ntake ?ltake ?ctake ?ktake (fun _ _ _ _ _ _ us hl => match us, hl with | [_, _], _ => rfl) ?rtake
    (case ntake => k_is); (case ltake => k_is); (case ctake => k_is); (case ktake => k_is)
    intro f_take d_take m_take F_take b_take
    refine' Y.k19.useFn KX G (x := "_law_lesser") (st := Y.k19.top 15) (ps := ["_law_one", "_law_two"]) ?nlesser ?llesser ?clesser ?klesser (fun _ _ _ _ _ _ us hl => match us, hl with | [_, _], _ => rfl) ?rlesser
    (case nlesser => k_is); (case llesser => k_is); (case clesser => k_is); (case klesser => k_is)
    intro f_lesser d_lesser m_lesser F_lesser b_lesser
    refine' Y.k19.useFn KX G (x := "_law_bounds") (st := Y.k19.top 17) (ps := ["_law_bag_here"]) ?nbounds ?lbounds ?cbounds ?kbounds (fun _ _ _ _ _ _ us hl => match us, hl with | [_], _ => rfl) ?rbounds
    (case nbounds => k_is); (case lbounds => k_is); (case cbounds => k_is); (case kbounds => k_is)
    intro f_bounds d_bounds m_bounds F_bounds b_bounds
    refine' Y.k19.useFn KX G (x := "_law_path") (st := Y.k19.top 18) (ps := ["_law_bag_here"]) ?npath ?lpath ?cpath ?kpath (fun _ _ _ _ _ _ us hl => match us, hl with | [_], _ => rfl) ?rpath
    (case npath => k_is); (case lpath => k_is); (case cpath => k_is); (case kpath => k_is)
    intro f_path d_path m_path F_path b_path
    refine' Y.k19.useFn KX G (x := "is_whole") (st := Y.k19.top 5) (ps := ["value"]) ?nis_whole ?lis_whole ?cis_whole ?kis_whole (fun _ _ _ _ _ _ us hl => match us, hl with | [_], _ => rfl) ?ris_whole
    (case nis_whole => k_is); (case lis_whole => k_is); (case cis_whole => k_is); (case kis_whole => k_is)
    intro f_is_whole d_is_whole m_is_whole F_is_whole b_is_whole
    refine' Y.k19.useFn KX G (x := "in_range") (st := Y.k19.top 6) (ps := ["value", "low", "high"]) ?nin_range ?lin_range ?cin_range ?kin_range (fun _ _ _ _ _ _ us hl => match us, hl with | [_, _, _], _ => rfl) ?rin_range
    (case nin_range => k_is); (case lin_range => k_is); (case cin_range => k_is); (case kin_range => k_is)
    intro f_in_range d_in_range m_in_range F_in_range b_in_range
    refine' Y.k19.useFn KX G (x := "_law_whole") (st := Y.k19.top 12) (ps := ["_law_value"]) ?nwhole ?lwhole ?cwhole ?kwhole (fun _ _ _ _ _ _ us hl => match us, hl with | [_], _ => rfl) ?rwhole
    (case nwhole => k_is); (case lwhole => k_is); (case cwhole => k_is); (case kwhole => k_is)
    intro f_whole d_whole m_whole F_whole b_whole
    refine' Y.k19.useFn KX G (x := "_law_seen") (st := Y.k19.top 19) (ps := ["_law_finder", "_law_path_here"]) ?nseen ?lseen ?cseen ?kseen (fun _ _ _ _ _ _ us hl => match us, hl with | [_, _], _ => rfl) ?rseen
    (case nseen => k_is); (case lseen => k_is); (case cseen => k_is); (case kseen => k_is)
    intro f_seen d_seen m_seen F_seen b_seen
    refine' Y.k19.useFn KX G (x := "_law_greater") (st := Y.k19.top 16) (ps := ["_law_one", "_law_two"]) ?ngreater ?lgreater ?cgreater ?kgreater (fun _ _ _ _ _ _ us hl => match us, hl with | [_, _], _ => rfl) ?rgreater
    (case ngreater => k_is); (case lgreater => k_is); (case cgreater => k_is); (case kgreater => k_is)
    intro f_greater d_greater m_greater F_greater b_greater
    refine' Y.k19.useFn KX G (x := "_law_aside") (st := Y.k19.top 20) (ps := ["_law_bag_here", "_law_finder", "_law_path_here", "_law_seen_here"]) ?naside ?laside ?caside ?kaside (fun _ _ _ _ _ _ us hl => match us, hl with | [_, _, _, _], _ => rfl) ?raside
    (case naside => k_is); (case laside => k_is); (case caside => k_is); (case kaside => k_is)
    intro f_aside d_aside m_aside F_aside b_aside
    refine' Y.k19.useFn KX G (x := "_law_answer") (st := Y.k19.top 21) (ps := ["_law_bag_here", "_law_finder", "_law_path_here", "_law_aim"]) ?nanswer ?lanswer ?canswer ?kanswer (fun _ _ _ _ _ _ us hl => match us, hl with | [_, _, _, _], _ => rfl) ?ranswer
    (case nanswer => k_is); (case lanswer => k_is); (case canswer => k_is); (case kanswer => k_is)
    intro f_answer d_answer m_answer F_answer b_answer
    refine' Y.k19.useFn KX G (x := "_law_step") (st := Y.k19.top 22) (ps := ["_law_bag_here", "_law_finder", "_law_path_here"]) ?nstep ?lstep ?cstep ?kstep (fun _ _ _ _ _ _ us hl => match us, hl with | [_, _, _], _ => rfl) ?rstep
    (case nstep => k_is); (case lstep => k_is); (case cstep => k_is); (case kstep => k_is)
    intro f_step d_step m_step F_step b_step
    refine' Y.k19.useFn KX G (x := "_law_ended") (st := Y.k19.top 23) (ps := ["_law_bag_here", "_law_finder", "_law_path_here"]) ?nended ?lended ?cended ?kended (fun _ _ _ _ _ _ us hl => match us, hl with | [_, _, _], _ => rfl) ?rended
    (case nended => k_is); (case lended => k_is); (case cended => k_is); (case kended => k_is)
    intro f_ended d_ended m_ended F_ended b_ended
    refine' Y.k19.useFn KX G (x := "law") (st := Y.k19.top 24) (ps := ["_law_script"]) ?nlaw ?llaw ?claw ?klaw (fun _ _ _ _ _ _ us hl => match us, hl with | [_], _ => rfl) ?rlaw
    (case nlaw => k_is); (case llaw => k_is); (case claw => k_is); (case klaw => k_is)
    intro f_law d_law m_law F_law b_law
    refine' Y.k19.useC_Finder KX G ?qFinder0 ?qFinder1 ?qFinder2 ?qFinder3 ?qFinder4 ?qFinder5 ?qFinder6 ?qFinder7 ?qFinder8 ?qFinder9 ?qFinder10 ?qFinder11 ?qFinder12 ?qFinder13 ?qFinder14 ?qFinder15 ?qFinder16 ?qFinder17 ?qFinder18 ?qFinder19 ?qFinder20 ?qFinder21 ?qFinder22 ?qFinder23 ?qFinder24 ?qFinder25 ?qFinder26 ?qFinder27 ?qFinder28 ?qFinder29 ?rFinder
    (case qFinder0 => k_is); (case qFinder1 => k_is); (case qFinder2 => k_is); (case qFinder3 => k_is); (case qFinder4 => k_is); (case qFinder5 => k_is); (case qFinder6 => k_is); (case qFinder7 => k_is); (case qFinder8 => k_is); (case qFinder9 => k_is); (case qFinder10 => k_is); (case qFinder11 => k_is); (case qFinder12 => k_is); (case qFinder13 => k_is); (case qFinder14 => k_is); (case qFinder15 => k_is); (case qFinder16 => k_is); (case qFinder17 => k_is); (case qFinder18 => k_is); (case qFinder19 => k_is); (case qFinder20 => k_is); (case qFinder21 => k_is); (case qFinder22 => k_is); (case qFinder23 => k_is); (case qFinder24 => k_is); (case qFinder25 => k_is); (case qFinder26 => k_is); (case qFinder27 => k_is); (case qFinder28 => k_is); (case qFinder29 => k_is)
    intro c_Finder f_Finder___init__ d_Finder___init__ f_Finder_trial d_Finder_trial f_Finder_passed d_Finder_passed f_Finder_failed d_Finder_failed F_Finder___init__ b_Finder___init__ F_Finder_trial b_Finder_trial F_Finder_passed b_Finder_passed F_Finder_failed b_Finder_failed x_cl_Finder x_na_Finder_size x_na_Finder_ceiling x_na_Finder_strikes x_mk_Finder x_mg_Finder x_mt_Finder_trial x_mt_Finder_passed x_mt_Finder_failed
    have x_no_abs : mg "abs" = none := by
      refine' PySem.W.mg_none_of KX G ?nno_abs
      (case nno_abs => k_is)
    have x_no_int : mg "int" = none := by
      refine' PySem.W.mg_none_of KX G ?nno_int
      (case nno_int => k_is)
    have x_no_sum : mg "sum" = none := by
      refine' PySem.W.mg_none_of KX G ?nno_sum
      (case nno_sum => k_is)
    have x_no_len : mg "len" = none := by
      refine' PySem.W.mg_none_of KX G ?nno_len
      (case nno_len => k_is)
    have x_no_isinstance : mg "isinstance" = none := by
      refine' PySem.W.mg_none_of KX G ?nno_isinstance
      (case nno_isinstance => k_is)
    have x_no_bool : mg "bool" = none := by
      refine' PySem.W.mg_none_of KX G ?nno_bool
      (case nno_bool => k_is)
    refine' Y.k19.useConst KX G (x := "GREATEST_PIECE") (i := 1400) ?nmg_GREATEST_PIECE ?rmg_GREATEST_PIECE
    (case nmg_GREATEST_PIECE => k_is)
    intro x_mg_GREATEST_PIECE
    have x_no_range : mg "range" = none := by
      refine' PySem.W.mg_none_of KX G ?nno_range
      (case nno_range => k_is)
    have x_no_all : mg "all" = none := by
      refine' PySem.W.mg_none_of KX G ?nno_all
      (case nno_all => k_is)
    have x_no_min : mg "min" = none := by
      refine' PySem.W.mg_none_of KX G ?nno_min
      (case nno_min => k_is)
    refine' Y.k19.useConst KX G (x := "STRIKES") (i := 2) ?nmg_STRIKES ?rmg_STRIKES
    (case nmg_STRIKES => k_is)
    intro x_mg_STRIKES
    have e := hmg.symm.trans m_law
    cases e
    refine ⟨d_law, fun s u => .of_eq (b_law [u] rfl), fun base hb hg => ?_⟩
    exact (Y.k19.ok_law (a := { S := Y.SK _, f_bag := f_bag, d_bag := d_bag, f_take := f_take, d_take := d_take, f_lesser := f_lesser, d_lesser := d_lesser, f_bounds := f_bounds, d_bounds := d_bounds, f_path := f_path, d_path := d_path, f_is_whole := f_is_whole, d_is_whole := d_is_whole, f_in_range := f_in_range, d_in_range := d_in_range, f_Finder___init__ := f_Finder___init__, d_Finder___init__ := d_Finder___init__, f_Finder_trial := f_Finder_trial, d_Finder_trial := d_Finder_trial, f_whole := f_whole, d_whole := d_whole, f_seen := f_seen, d_seen := d_seen, f_Finder_passed := f_Finder_passed, d_Finder_passed := d_Finder_passed, f_greater := f_greater, d_greater := d_greater, f_Finder_failed := f_Finder_failed, d_Finder_failed := d_Finder_failed, f_aside := f_aside, d_aside := d_aside, f_answer := f_answer, d_answer := d_answer, f_step := f_step, d_step := d_step, f_ended := f_ended, d_ended := d_ended, f_law := _, d_law := d_law, c_Finder := c_Finder }) { st := rfl, no_abs := x_no_abs, no_int := x_no_int, no_sum := x_no_sum, mg_bag := m_bag, bd_bag := .all b_bag, fn_bag := F_bag, no_len := x_no_len, mg_take := m_take, bd_take := .all b_take, fn_take := F_take, mg_lesser := m_lesser, bd_lesser := .all b_lesser, fn_lesser := F_lesser, mg_bounds := m_bounds, bd_bounds := .all b_bounds, fn_bounds := F_bounds, mg_path := m_path, bd_path := .all b_path, fn_path := F_path, no_isinstance := x_no_isinstance, no_bool := x_no_bool, mg_is_whole := m_is_whole, bd_is_whole := .all b_is_whole, fn_is_whole := F_is_whole, mg_in_range := m_in_range, bd_in_range := .all b_in_range, mg_GREATEST_PIECE := x_mg_GREATEST_PIECE, fn_in_range := F_in_range, cl_Finder := x_cl_Finder, na_Finder_size := x_na_Finder_size, na_Finder_ceiling := x_na_Finder_ceiling, na_Finder_strikes := x_na_Finder_strikes, mk_Finder := x_mk_Finder, bd_Finder___init__ := b_Finder___init__, mg_Finder := x_mg_Finder, no_range := x_no_range, mt_Finder_trial := x_mt_Finder_trial, bd_Finder_trial := b_Finder_trial, no_all := x_no_all, mg_whole := m_whole, bd_whole := .all b_whole, fn_whole := F_whole, mg_seen := m_seen, bd_seen := .all b_seen, fn_seen := F_seen, no_min := x_no_min, mt_Finder_passed := x_mt_Finder_passed, bd_Finder_passed := b_Finder_passed, mg_greater := m_greater, bd_greater := .all b_greater, fn_greater := F_greater, mg_STRIKES := x_mg_STRIKES, mt_Finder_failed := x_mt_Finder_failed, bd_Finder_failed := b_Finder_failed, mg_aside := m_aside, bd_aside := .all b_aside, fn_aside := F_aside, mg_answer := m_answer, bd_answer := .all b_answer, fn_answer := F_answer, mg_step := m_step, bd_step := .all b_step, fn_step := F_step, mg_ended := m_ended, bd_ended := .all b_ended, fn_ended := F_ended, fn_Finder___init__ := F_Finder___init__, fn_Finder_trial := F_Finder_trial, fn_Finder_passed := F_Finder_passed, fn_Finder_failed := F_Finder_failed, fn_law := F_law, bd_law := .all b_law, mg_law := m_law }).imp fun vs H Q E h => Y.k19.law_holds _ rfl vs H Q E h

