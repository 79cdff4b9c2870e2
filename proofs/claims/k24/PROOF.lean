import PyProof.Rows.All
import Wide.All
import OpenK.AllK
import Wide.FinOn
import HandS.ForMost
import HandS.ForExc
import HandS.IsInst
import HandS.ClsMeth
import HandS.Wide
import HandS.Flow
import HandS.Property
import HandS.WideBits
import HandS.Flt
import HandS.ExcInit
import HandS.ExcSuper
import HandS.ExcField
import HandS.ExcIs
import HandS.ExcOwn
import HandS.WordsExc
import KE.KExcSuper
import KE.KSuper
import KE.KExcIs
import HandS.Defaults
import KE.GoesEnum
import HandS.FStr
import HandS.More
import HandS.Walk
import PyProof.Rows.RegStrFacts
import HandS.MakeKw
import HandS.MakeKwOnly
import HandS.Text
import PySem.Challenge.RW_lossway_k24_controls_made
set_option Elab.async false
set_option linter.all false
set_option maxRecDepth 100000
set_option maxHeartbeats 4000000
set_option synthInstance.maxHeartbeats 0
set_option synthInstance.maxSize 1000000
set_option synthInstance.checkSynthOrder false
/-! The layer of this work: readings without the written part, a def's promise by its own body. -/
namespace Y
open PySem PySem.Spec PyProof.Rows L2

/-! ### weaker readings -/
section
variable {X : Cx}
theorem pe_imp {e : Expr} {t t' : TE} (h : PE X e t) (hi : ∀ σ H Q, t' σ H Q → t σ H Q) : PE X e t' := ⟨fun pins s σ H Q I q => h.run pins s σ H Q I (hi σ H Q q)⟩
theorem ps_imp {e : Stmt} {t t' : TS} (h : PS X e t) (hi : ∀ D σ H, t' D σ H → t D σ H) : PS X e t' := ⟨fun pins s σ H D I q => h.run pins s σ H D I (hi D σ H q)⟩
theorem op_imp {f : Value → Value → Sem Value} {r r' : R2} (h : OpR X f r) (hi : ∀ x y H Q, r' x y H Q → r x y H Q) : OpR X f r' := fun pins s σ H x y v u Q I rx ry q => h pins s σ H x y v u Q I rx ry (hi x y H Q q)
theorem op_or {f : Value → Value → Sem Value} {r r' : R2} (h : OpR X f r) (h' : OpR X f r') : OpR X f (fun x y H Q => r x y H Q ∨ r' x y H Q) := fun pins s σ H x y v u Q I rx ry q =>
  q.elim (h pins s σ H x y v u Q I rx ry) (h' pins s σ H x y v u Q I rx ry)
theorem ix_imp {r r' : R2} (h : IxR X r) (hi : ∀ x y H Q, r' x y H Q → r x y H Q) : IxR X r' := fun value slice pins s σ H x y v u Q I rx ry q hs => h value slice pins s σ H x y v u Q I rx ry (hi x y H Q q) hs
theorem call_imp {f : Value} {r r' : List V → Hp → VK → Prop} (h : CallR X f r) (hi : ∀ xs H Q, r' xs H Q → r xs H Q) : CallR X f r' := fun pins s σ H xs us Q I rx q => h pins s σ H xs us Q I rx (hi xs H Q q)
end

/-! ### what stands at an address; S: static things, of the written part -/
abbrev Sta := Addr → HO → Prop
def SK (K : PySem.W.Frag) : Sta := fun a u => match u with
  | .lst xs => ∃ (o : Obj) (its : Array Value) (n : Nat), K.lookup a = some o ∧ o.cls = .type "list" ∧ o.dict = none ∧ o.data = .seq its n ∧ its.size ≤ sizeLine ∧ Vals xs its.toList
  | .tup xs => ∃ (o : Obj) (its : Array Value) (n : Nat), K.lookup a = some o ∧ o.cls = .type "tuple" ∧ o.data = .seq its n ∧ its.size ≤ sizeLine ∧ Vals xs its.toList
  | _ => False
def RdS (S : Sta) (H : Hp) (p : Addr) (u : HO) : Prop := Rd H p u ∨ S p u
theorem sqL {K : PySem.W.Frag} {S : Sta} {H : Hp} {p : Addr} {xs : List V} (e : S = SK K) (h : RdS S H p (.lst xs)) : SqL K H p xs := by subst e; exact h
theorem sqT {K : PySem.W.Frag} {S : Sta} {H : Hp} {p : Addr} {xs : List V} (e : S = SK K) (h : RdS S H p (.tup xs)) : SqT K H p xs := by subst e; exact h
/-- a list or a tuple -/
def Seq (S : Sta) (H : Hp) (p : Addr) (xs : List V) : Prop := RdS S H p (.lst xs) ∨ RdS S H p (.tup xs)

/-! ### operators -/
def rAdd : R2 := fun x y H Q => (∃ i j, x = .int i ∧ y = .int j ∧ Q (.int (i + j)) H) ∨ (∃ i j, x = .str i ∧ y = .str j ∧ i.length + j.length ≤ sizeLine ∧ Q (.str (i ++ j)) H)
  ∨ (∃ p q a b, x = .ref p ∧ y = .ref q ∧ H p = some (.lst a) ∧ H q = some (.lst b) ∧ a.length + b.length ≤ sizeLine ∧ ∀ r, H r = none → Q (.ref r) (upd H r (.lst (a ++ b))))
def rSub : R2 := rI0 fun i j => .int (i - j)
def rMul : R2 := rI CMul fun i j => .int (i * j)
def rFdiv : R2 := rI CDivW fun i j => .int (i / j)
def rMod : R2 := rI (fun _ j => 0 < j) fun i j => .int (i % j)
def rPow : R2 := rI CPow fun i j => .int (i ^ j.toNat)
def rShl : R2 := rI CPow fun i j => .int (i * 2 ^ j.toNat)
def rAnd : R2 := rI0 fun i j => .int (Builtin.bitAnd i j)
def rLt : R2 := rI0 fun i j => .bl (decide (i < j))
def rLe : R2 := rI0 fun i j => .bl (decide (i ≤ j))
def rGt : R2 := rI0 fun i j => .bl (decide (j < i))
def rGe : R2 := rI0 fun i j => .bl (decide (j ≤ i))
def rNeg : V → Hp → VK → Prop := rU fun i => .int (-i)
def rIs : R2 := fun x y H Q => y = .non ∧ Q (.bl (decide (x = .non))) H
def rIsNot : R2 := fun x y H Q => y = .non ∧ Q (.bl (!decide (x = .non))) H
section
variable {X : Cx}
theorem o_add : OpR X (binaryOp .Add) rAdd := op_imp (op_or op_add (op_or op_add_str op_cat)) fun x y H Q q => by
  rcases q with q | q | ⟨p, q, a, b, e1, e2, h1, h2, h3, h4⟩
  · exact .inl q
  · exact .inr (.inl q)
  · exact .inr (.inr ⟨p, q, a, b, e1, e2, h1, h2, h3, h4⟩)
theorem o_sub : OpR X (binaryOp .Sub) rSub := op_sub
theorem o_mul : OpR X (binaryOp .Mult) rMul := op_mul
theorem o_fdiv : OpR X (binaryOp .FloorDiv) rFdiv := op_fdivW
theorem o_mod : OpR X (binaryOp .Mod) rMod := op_mod
theorem o_pow : OpR X (binaryOp .Pow) rPow := op_pow
theorem o_shl : OpR X (binaryOp .LShift) rShl := op_shl
theorem o_and : OpR X (binaryOp .BitAnd) rAnd := op_and
theorem o_lt : OpR X (compareOp .Lt) rLt := op_lt
theorem o_le : OpR X (compareOp .LtE) rLe := op_le
theorem o_gt : OpR X (compareOp .Gt) rGt := op_gt
theorem o_ge : OpR X (compareOp .GtE) rGe := op_ge
theorem o_eq : OpR X (compareOp .Eq) rEq := op_eq
theorem o_ne : OpR X (compareOp .NotEq) rNe := op_ne
theorem o_is : OpR X (compareOp .Is) rIs := op_isN
theorem o_isnot : OpR X (compareOp .IsNot) rIsNot := op_notN
theorem o_neg : UnR X (unaryOp .USub) rNeg := un_neg
end

/-! ### subscripts, len, slices -/
def rIx (S : Sta) : R2 := fun x y H Q => (∃ p xs i v, x = .ref p ∧ y = .int i ∧ Seq S H p xs ∧ atI xs i = some v ∧ Q v H) ∨ (∃ z i c, x = .str z ∧ y = .int i ∧ z.length ≤ sizeLine ∧ atI z.cps.toList i = some c ∧ Q (.str ⟨#[c]⟩) H)
def rLen (S : Sta) : List V → Hp → VK → Prop := fun xs H Q => (∃ p ys, xs = [.ref p] ∧ Seq S H p ys ∧ Q (.int ys.length) H) ∨ (∃ z, xs = [.str z] ∧ z.length ≤ sizeLine ∧ Q (.int z.length) H)
def rInt : List V → Hp → VK → Prop := fun xs H Q => (∃ i, xs = [.int i] ∧ Q (.int i) H) ∨ ∃ k, xs = [.bl k] ∧ Q (.int (if k then 1 else 0)) H
def rStrI : List V → Hp → VK → Prop := fun xs H Q => ∃ i, xs = [.int i] ∧ i.natAbs.log2 < 1920 ∧ Q (.str (toString i)) H
def rSl (S : Sta) : V → Option Int → Option Int → Hp → VK → Prop := fun x lo hi H Q => ∃ a xs, x = .ref a ∧ RdS S H a (.lst xs) ∧ ∀ p, H p = none → Q (.ref p) (upd H p (.lst (cutV xs lo hi)))
section
variable {X : Cx}
variable {S : Sta}
theorem o_ix (st : S = SK X.K) : IxR X (rIx S) := ix_imp (ix_list.or (ix_tup.or ix_str)) fun x y H Q q => by
  rcases q with ⟨p, xs, i, v, e1, e2, h | h, h2, h3⟩ | q
  · exact .inl ⟨p, xs, i, v, e1, e2, sqL st h, h2, h3⟩
  · exact .inr (.inl ⟨p, xs, i, v, e1, e2, sqT st h, h2, h3⟩)
  · exact .inr (.inr q)
theorem c_len (st : S = SK X.K) : CallR X (.builtin "len") (rLen S) := call_imp call_len fun xs H Q q => by
  rcases q with ⟨p, ys, e, h | h, q⟩ | ⟨z, e, h, q⟩
  · exact ⟨_, _, e, .inl ⟨_, sqL st h, rfl⟩, q⟩
  · exact ⟨_, _, e, .inr ⟨_, sqT st h, rfl⟩, q⟩
  · exact ⟨_, _, e, ⟨h, rfl⟩, q⟩
theorem c_int : CallR X (.type "int") rInt := call_int1
theorem c_strI : CallR X (.type "str") rStrI := call_str_int
theorem o_sl (st : S = SK X.K) : SlR X (rSl S) := fun pins s σ H x v vl vu lo hi sl Q I rx hs pl pu h => by
  obtain ⟨a, xs, e, hx, q⟩ := h
  exact sl_list pins s σ H x v vl vu lo hi sl Q I rx hs pl pu ⟨a, xs, e, sqL st hx, q⟩
end

/-! ### small built-ins -/
def rAbs : List V → Hp → VK → Prop := fun xs H Q => ∃ i, xs = [.int i] ∧ Q (.int (if i < 0 then -i else i)) H
def rMin2 : List V → Hp → VK → Prop := fun xs H Q => ∃ i j, xs = [.int i, .int j] ∧ Q (.int (if j < i then j else i)) H
def rMax2 : List V → Hp → VK → Prop := fun xs H Q => ∃ i j, xs = [.int i, .int j] ∧ Q (.int (if j > i then j else i)) H
def rMin3 : List V → Hp → VK → Prop := fun xs H Q => ∃ i j k, xs = [.int i, .int j, .int k] ∧ Q (.int (min (min i j) k)) H
def rSum (S : Sta) : List V → Hp → VK → Prop := fun vs H Q => ∃ (a : Addr) (ns : List Int), vs = [V.ref a] ∧ RdS S H a (.lst (ns.map V.int)) ∧ Q (.int ns.sum) H
def rAll (S : Sta) : List V → Hp → VK → Prop := fun vs H Q => ∃ (a : Addr) (bs : List Bool), vs = [V.ref a] ∧ RdS S H a (.lst (bs.map V.bl)) ∧ Q (.bl (bs.all id)) H
def rMaxL (S : Sta) : List V → Hp → VK → Prop := fun vs H Q => ∃ (a : Addr) (ns : List Int), vs = [V.ref a] ∧ RdS S H a (.lst (ns.map V.int)) ∧ 0 < ns.length ∧ ∀ m, m ∈ ns → (∀ y, y ∈ ns → y ≤ m) → Q (.int m) H
def rMinL (S : Sta) : List V → Hp → VK → Prop := fun vs H Q => ∃ (a : Addr) (ns : List Int), vs = [V.ref a] ∧ RdS S H a (.lst (ns.map V.int)) ∧ 0 < ns.length ∧ ∀ m, m ∈ ns → (∀ y, y ∈ ns → m ≤ y) → Q (.int m) H
def rListOf (S : Sta) : List V → Hp → VK → Prop := fun xs H Q => ∃ p ys, xs = [.ref p] ∧ Seq S H p ys ∧ ∀ l, H l = none → Q (.ref l) (upd H l (.lst ys))
def rTupleOf (S : Sta) : List V → Hp → VK → Prop := fun xs H Q => ∃ p ys, xs = [.ref p] ∧ ((RdS S H p (.lst ys) ∧ ∀ l, H l = none → Q (.ref l) (upd H l (.tup ys))) ∨ (RdS S H p (.tup ys) ∧ Q (.ref p) H))
section
variable {X : Cx} {S : Sta}
theorem c_abs : CallR X (.builtin "abs") rAbs := call_abs
theorem c_min2 (hc : X.calm = true) : CallR X (.builtin "min") rMin2 := call_min2 hc
theorem c_max2 (hc : X.calm = true) : CallR X (.builtin "max") rMax2 := call_max2 hc
theorem c_min3 (hc : X.calm = true) : CallR X (.builtin "min") rMin3 := call_imp (call_min3Nu hc) fun xs H Q ⟨i, j, k, e, q⟩ => by
  refine ⟨.int i, .int j, .int k, .int (min (min i j) k), e, ?_, q⟩
  have h2 : ∀ a b : Int, nuMin2 (.int a) (.int b) = some (.int (min a b)) := fun a b => by
    show some (if decide (b < a) = true then V.int b else V.int a) = _
    by_cases h : b < a
    · rw [decide_eq_true h, if_pos rfl, show min a b = b by omega]
    · rw [decide_eq_false h, if_neg Bool.false_ne_true, show min a b = a by omega]
  show (nuMin2 (.int i) (.int j)).bind _ = _
  rw [h2]
  exact h2 _ _
theorem c_sum (st : S = SK X.K) (hc : X.calm = true) : CallR X (.builtin "sum") (rSum S) := call_imp (cr_sum hc) fun xs H Q ⟨a, ns, e, h, q⟩ => ⟨a, ns, e, sqL st h, q⟩
theorem c_all (st : S = SK X.K) (hc : X.calm = true) : CallR X (.builtin "all") (rAll S) := call_imp (cr_all hc) fun xs H Q ⟨a, ns, e, h, q⟩ => ⟨a, ns, e, sqL st h, q⟩
theorem c_maxL (st : S = SK X.K) (hc : X.calm = true) : CallR X (.builtin "max") (rMaxL S) := call_imp (cr_max hc) fun xs H Q ⟨a, ns, e, h, q⟩ => ⟨a, ns, e, sqL st h, q⟩
theorem c_minL (st : S = SK X.K) (hc : X.calm = true) : CallR X (.builtin "min") (rMinL S) := call_imp (cr_min hc) fun xs H Q ⟨a, ns, e, h, q⟩ => ⟨a, ns, e, sqL st h, q⟩
theorem c_list (st : S = SK X.K) : CallR X (.type "list") (rListOf S) := call_imp call_list_of fun xs H Q ⟨p, ys, e, h, q⟩ => ⟨p, ys, e, h.elim (fun h => .inl (sqL st h)) (fun h => .inr (sqT st h)), q⟩
theorem c_tuple (st : S = SK X.K) : CallR X (.type "tuple") (rTupleOf S) := call_imp call_tuple_of fun xs H Q ⟨p, ys, e, h⟩ => ⟨p, ys, e, h.elim (fun h => .inl ⟨sqL st h.1, h.2⟩) (fun h => .inr ⟨sqT st h.1, h.2⟩)⟩
end

/-! ### == of data at any depth -/
mutual
inductive DpS (S : Sta) (H : Hp) : V → PyData → Prop
  | non : DpS S H .non .none
  | bl (b : Bool) : DpS S H (.bl b) (.bool b)
  | int (i : Int) : DpS S H (.int i) (.int i)
  | str (x : Str) : DpS S H (.str x) (.str x)
  | lst {a : Addr} {xs : List V} {ds : List PyData} : RdS S H a (.lst xs) → DpSs S H xs ds → DpS S H (.ref a) (.list ds)
  | tup {a : Addr} {xs : List V} {ds : List PyData} : RdS S H a (.tup xs) → DpSs S H xs ds → DpS S H (.ref a) (.tuple ds)
inductive DpSs (S : Sta) (H : Hp) : List V → List PyData → Prop
  | nil : DpSs S H [] []
  | cons {v : V} {vs : List V} {d : PyData} {ds : List PyData} : DpS S H v d → DpSs S H vs ds → DpSs S H (v :: vs) (d :: ds)
end
mutual
theorem DpS.dp {K : PySem.W.Frag} {S : Sta} (st : S = SK K) {H : Hp} : ∀ {v : V} {d : PyData}, DpS S H v d → Dp K H v d
  | _, _, .non => .non
  | _, _, .bl b => .bl b
  | _, _, .int i => .int i
  | _, _, .str x => .str x
  | _, _, .lst h r => .lst (sqL st h) (DpSs.dp st r)
  | _, _, .tup h r => .tup (sqT st h) (DpSs.dp st r)
theorem DpSs.dp {K : PySem.W.Frag} {S : Sta} (st : S = SK K) {H : Hp} : ∀ {v : List V} {d : List PyData}, DpSs S H v d → DpAll K H v d
  | _, _, .nil => .nil
  | _, _, .cons h r => .cons (DpS.dp st h) (DpSs.dp st r)
end
def rEqP (S : Sta) : R2 := fun x y H Q => rEq x y H Q ∨ ∃ d e, DpS S H x d ∧ DpS S H y e ∧ SeqAt.shaped d = true ∧ SeqAt.shaped e = true ∧ Q (.bl (PyData.eqv d e)) H
def rNeP (S : Sta) : R2 := fun x y H Q => rNe x y H Q ∨ ∃ d e, DpS S H x d ∧ DpS S H y e ∧ SeqAt.shaped d = true ∧ SeqAt.shaped e = true ∧ Q (.bl (!PyData.eqv d e)) H
section
variable {X : Cx} {S : Sta}
theorem o_eqP (st : S = SK X.K) (hu : X.A.units + 64 < cLine) : OpR X (compareOp .Eq) (rEqP S) := op_imp (op_or op_eq (op_eqD hu)) fun x y H Q q => q.elim .inl fun ⟨d, e, h1, h2, q⟩ => .inr ⟨d, e, h1.dp st, h2.dp st, q⟩
theorem o_neP (st : S = SK X.K) (hu : X.A.units + 64 < cLine) : OpR X (compareOp .NotEq) (rNeP S) := op_imp (op_or op_ne (op_neD hu)) fun x y H Q q => q.elim .inl fun ⟨d, e, h1, h2, q⟩ => .inr ⟨d, e, h1.dp st, h2.dp st, q⟩
end

/-! ### in: a sign in a text; a flat value in a list or a tuple -/
def rInA (S : Sta) (neg : Bool) : R2 := fun x y H Q => (∃ p xs, y = .ref p ∧ Seq S H p xs ∧ flatV x = true ∧ xs.all flatV = true ∧ Q (.bl (if neg then !inV x xs else inV x xs)) H)
  ∨ (∃ (c : Nat) (z : Str), x = .str ⟨#[c]⟩ ∧ y = .str z ∧ Q (.bl (if neg then !decide (c ∈ z.cps.toList) else decide (c ∈ z.cps.toList))) H)
section
variable {X : Cx} {S : Sta}
theorem o_inA (st : S = SK X.K) : OpR X (compareOp .In) (rInA S false) := op_imp (op_or op_in_seq op_in_sign) fun x y H Q q => by
  rcases q with ⟨p, xs, e, h, f, fs, q⟩ | q
  · exact .inl ⟨p, xs, e, h.elim (fun h => .inl (sqL st h)) (fun h => .inr (sqT st h)), f, fs, q⟩
  · exact .inr q
theorem o_notInA (st : S = SK X.K) : OpR X (compareOp .NotIn) (rInA S true) := op_imp (op_or op_notIn_seq op_notIn_sign) fun x y H Q q => by
  rcases q with ⟨p, xs, e, h, f, fs, q⟩ | q
  · exact .inl ⟨p, xs, e, h.elim (fun h => .inl (sqL st h)) (fun h => .inr (sqT st h)), f, fs, q⟩
  · exact .inr q
end

/-! ### types -/
inductive TyN (H : Hp) : V → String → Prop where
  | non : TyN H .non "NoneType"
  | bl (b : Bool) : TyN H (.bl b) "bool"
  | int (i : Int) : TyN H (.int i) "int"
  | str (s : Str) : TyN H (.str s) "str"
  | lst {a : Addr} {xs : List V} (e : Rd H a (.lst xs)) : TyN H (.ref a) "list"
  | tup {a : Addr} {xs : List V} (e : Rd H a (.tup xs)) : TyN H (.ref a) "tuple"
  | dK {a : Addr} {kvs : List (Key × V)} (e : H a = some (.dK kvs)) : TyN H (.ref a) "dict"
theorem TyN.x {K : PySem.W.Frag} {H : Hp} {x : V} {n : String} (t : TyN H x n) : TyX K H x (.type n) := by
  cases t with
  | non => exact .base .non
  | bl b => exact .base (.bl b)
  | int i => exact .base (.int i)
  | str s => exact .base (.str s)
  | lst e =>
    rcases e with e | ⟨o, e⟩
    · exact .base (.lst e)
    · exact .base (.frz e)
  | tup e =>
    rcases e with e | ⟨o, e⟩
    · exact .base (.tup e)
    · exact .fTuple e
  | dK e => exact .base (.dK e)
/-- isinstance(x, n) of a built-in class n, for the types above -/
def isA (t n : String) : Bool := t == n || (t == "bool" && n == "int")
def rIsI : List V → Hp → VK → Prop := fun xs H Q => ∃ x n t, xs = [x, .ty n] ∧ TyN H x t ∧ kitB t n = some (isA t n) ∧ Q (.bl (isA t n)) H
theorem c_isi {X : Cx} : CallR X (.builtin "isinstance") rIsI := call_imp call_isi fun xs H Q q => by
  obtain ⟨x, n, t, e, ty, k, q⟩ := q
  exact ⟨x, .ty n, .type t, .type n, isA t n, e, .ty n, ty.x, kit_ty k, q⟩

/-! ### fields, methods -/
/-- a reading closed under weaker ends -/
def mo (te : TE) : TE := fun σ H Q => ∃ Q0 : VK, te σ H Q0 ∧ ∀ v H', Q0 v H' → Q v H'
def moA (ta : TA) : TA := fun σ H Q => ∃ Q0 : List V → Hp → Prop, ta σ H Q0 ∧ ∀ v H', Q0 v H' → Q v H'
def eFld (C : Addr) (f : Str) (te : TE) : TE := fun σ H Q => te σ H fun x H1 => ∃ a dx fs v, x = .ref a ∧ H1 a = some (.ins C dx fs) ∧ fs.lookup f = some v ∧ Q v H1
def sSetF (C : Addr) (f : Str) (te tv : TE) : TS := fun D σ H => tv σ H fun y H1 => te σ H1 fun x H2 => ∃ a dx fs, x = .ref a ∧ H2 a = some (.ins C dx fs) ∧ fs.length < 1000 ∧ D.nx σ (upd H2 a (.ins C dx (putF f y fs)))
/-- o.f, a property -/
def eProp (C : Addr) (sp : Sp) (te : TE) : TE := fun σ H Q => te σ H fun x H1 => ∃ a dx fs, x = .ref a ∧ H1 a = some (.ins C dx fs) ∧ sp [.ref a] H1 Q E0
/-- o.f += e -/
def sAugF (C : Addr) (f : Str) (te tv : TE) (rd : V → V → Hp → VK → Prop) : TS := fun D σ H => te σ H fun x H1 => ∃ a dx fs v, x = .ref a ∧ H1 a = some (.ins C dx fs) ∧ fs.lookup f = some v ∧
  tv σ H1 fun y H2 => rd v y H2 fun z H3 => ∃ dx' fs', H3 a = some (.ins C dx' fs') ∧ fs'.length < 1000 ∧ D.nx σ (upd H3 a (.ins C dx' (putF f z fs')))
/-- x.append(e) -/
def eApp (te : TE) (ta : TA) : TE := fun σ H Q => te σ H fun x H1 => ∃ l, x = .ref l ∧ (∃ xs, H1 l = some (.lst xs)) ∧ ta σ H1 fun vs H2 => rAppend x vs H2 Q
section
variable {X : Cx} {C : Addr} {f : Str} {e ev o : Expr} {es : List Expr} {te tv : TE} {ta : TA} {pos pos' pos2 apos cpos : Pos}
theorem pe_mo (he : PE X e te) : PE X e (mo te) := ⟨fun pins s σ H Q I ⟨Q0, h, hq⟩ => thn (he.run pins s σ H Q0 I h) fun _ _ ⟨v, H', I', r, q⟩ => ⟨v, H', I', r, hq v H' q⟩⟩
theorem pa_mo (he : PA X es ta) : PA X es (moA ta) := ⟨fun pos pins s σ H Q I ⟨Q0, h, hq⟩ => thn (he.run pos pins s σ H Q0 I h) fun _ _ ⟨v, H', I', r, q⟩ => ⟨v, H', I', r, hq v H' q⟩⟩
theorem pe_fldC (c : Cls X.K C) (n : NoAttr X.K C f) (he : PE X e te) (hb : attributeBase e f X.env (eval e X.env) = eval e X.env := by rfl) : PE X (.Attribute e f pos) (eFld C f te) :=
  pe_imp (pe_fld (pe_mo he) hb) fun σ H Q q => ⟨_, q, fun v H' ⟨a, dx, fs, w, e1, e2, l, q⟩ => ⟨a, C, dx, fs, w, e1, e2, c, n, l, q⟩⟩
theorem ps_setF (c : Cls X.K C) (n : NoAttr X.K C f) (ha : PE X o te) (hv : PE X ev tv) (hs : swapsWith ev (some (.Attribute o f pos')) pos.line X.env = pure false := by rfl) :
    PS X (.Assign [.Attribute o f pos'] ev pos) (sSetF C f te tv) :=
  ps_imp (ps_fld (pe_mo ha) (pe_mo hv) hs) fun D σ H q => ⟨_, q, fun y H1 q1 => ⟨_, q1, fun x H2 ⟨a, dx, fs, e1, e2, l, q2⟩ => ⟨a, C, dx, fs, e1, e2, c, n, l, q2⟩⟩⟩
theorem pe_propC {CX : CXT} {k : Nat} {p g : Addr} {fd : FuncData} {ps : List Str} {sp : Sp} (he : PE X e te) (c : Cls X.K C) (hp : PropOf X.K C f p g) (F : FnOk X.prog X.w X.K X.mg X.base CX k g fd ps sp) (hr : Room (k + 1) X.A) (hb : Binds X.K fd ps []) (hx : Passes CX X.nox E0)
    (hab : attributeBase e f X.env (eval e X.env) = eval e X.env := by rfl) : PE X (.Attribute e f pos) (eProp C sp te) := pe_imp (pe_prop he c hp F hr hb .nil hx hab) fun _ _ _ q => q
theorem ps_augF {op : Operator} {rd : V → V → Hp → VK → Prop} (c : Cls X.K C) (n : NoAttr X.K C f) (ha : PE X o te) (hv : PE X ev tv) (hop : InOp X op rd) : PS X (.AugAssign (.Attribute o f pos') op ev pos) (sAugF C f te tv rd) :=
  ps_imp (ps_fldaug (pe_mo ha) (pe_mo hv) hop) fun D σ H q => ⟨_, q, fun x H1 ⟨a, dx, fs, v, e1, e2, l, q2⟩ => ⟨a, C, dx, fs, v, e1, e2, c, n, l, ⟨_, q2, fun y H2 q3 => q3⟩⟩⟩
theorem pe_app (ho : PE X o te) (ha : PA X (e :: es) ta)
    (hbase : attributeBase o "append" X.env (eval o X.env) = eval o X.env := by rfl)
    (hfew : ((backTo cpos (starEach (e :: es) X.env)).all (fun x => !x.1) && (backToKw cpos (keywordEach [] X.env)).all (fun x => x.1.isSome)
      && decide ((e :: es).length + ([] : List Keyword).length + (if ([] : List Keyword).isEmpty then 0 else 1) < 30)) = true := by rfl)
    (hline : (apos.endLine == cpos.line) = true := by rfl) (hs : starEach (e :: es) X.env = (false, eval e X.env) :: starEach es X.env := by rfl) (hplain : (backTo cpos (starEach es X.env)).any (·.1) = false := by rfl) :
    PE X (.Call (.Attribute o "append" apos) (e :: es) [] cpos) (eApp te ta) :=
  pe_imp (pe_bm PySem.F.plainAttrs_list PySem.F.slot_list_append PySem.F.type_list_append mt_append (pe_mo ho) ha hbase hfew hline hs hplain) fun σ H Q q =>
    ⟨_, q, fun x H1 ⟨l, e1, ⟨xs, hl⟩, q1⟩ => by subst e1; exact ⟨.inl ⟨rfl, _, .inl (.inl hl)⟩, q1⟩⟩
end

/-! ### for, over a list or a tuple; over a range -/
/-- what is walked stays as it is -/
def Stays (S : Sta) (a : Addr) (xs : List V) (R : Nat → Hp → Prop) : Prop := (∀ i H, i ≤ xs.length → R i H → RdS S H a (.lst xs)) ∨ (∀ i H, i ≤ xs.length → R i H → RdS S H a (.tup xs))
def iSeq (K : PySem.W.Frag) (te : TE) : TI := fun σ H R => te σ H fun x H1 => ∃ a, x = .ref a ∧ (((∃ xs, SqL K H1 a xs) ∧ R (Itl K a) H1) ∨ ((∃ xs, SqT K H1 a xs) ∧ R (Itt K a) H1))
def sFor (S : Sta) (te : TE) (g : TG) (tb : TS) : TS := fun D σ H => te σ H fun x H1 => ∃ a xs, x = .ref a ∧ ∃ Pv : Nat → L2.St → Hp → Prop, Pv 0 σ H1 ∧ Stays S a xs (fun i H => ∃ σ, Pv i σ H) ∧
  (∀ i y σ H, xs[i]? = some y → Pv i σ H → g y σ H fun σ' H' => tb ⟨Pv (i + 1), D.rt, D.nx, Pv (i + 1)⟩ σ' H') ∧ ∀ σ H, Pv xs.length σ H → D.nx σ H
def sForR (lo : Option TE) (hi : TE) (g : TG) (tb : TS) : TS := fun D σ H =>
  let body : Int → Int → L2.St → Hp → Prop := fun lo hi σ1 H1 => (-(2 ^ 62) ≤ lo ∧ lo < 2 ^ 62 ∧ -(2 ^ 62) ≤ hi ∧ hi < 2 ^ 62) ∧ ∃ Pv : Nat → L2.St → Hp → Prop, Pv 0 σ1 H1 ∧
    (∀ (i : Nat) σ H, lo + i < hi → Pv i σ H → g (.int (lo + i)) σ H fun σ' H' => tb ⟨Pv (i + 1), D.rt, D.nx, Pv (i + 1)⟩ σ' H') ∧ ∀ σ H, Pv (hi - lo).toNat σ H → D.nx σ H
  match lo with
  | none => hi σ H fun y H1 => ∃ j, y = .int j ∧ body 0 j σ H1
  | some lo => lo σ H fun x H1 => hi σ H1 fun y H2 => ∃ i j, x = .int i ∧ y = .int j ∧ body i j σ H2
section
variable {X : Cx} {tg l a b : Expr} {te ta tb' : TE} {g : TG} {tb : TS} {body : List Stmt} {pos p : Pos}
theorem pi_seq (hl : PE X l te) : PI X tg l (iSeq X.K te) := by
  refine ⟨fun pins s σ H R I h => ?_⟩
  refine thn (hl.run pins s σ H _ I h) fun v s1 ⟨x, H1, I1, r1, q1⟩ => ?_
  obtain ⟨a, e, q⟩ := q1
  subst e
  cases r1
  have fp : ∀ b ∈ [s1.heap.objs.size], ∀ {s2 : Shared} , Inv X pins σ H1 s2 → s2.heap.objs.size = s1.heap.objs.size → FpOk X pins H1 b := fun b hb s2 I2 hs => by
    have e : b = s1.heap.objs.size := by simpa using hb
    subst e
    exact I1.fpOk (Nat.le_refl _) (I1.hok.fresh (Nat.le_refl _))
  rcases q with ⟨⟨xs, hq⟩, q⟩ | ⟨⟨xs, hq⟩, q⟩
  · obtain ⟨its, rv, p, hz⟩ := I1.list hq
    refine wpAny_pyIter_list p.isList ?_
    refine ⟨s1.heap.objs.size, [s1.heap.objs.size], _, _, H1, rfl, I1.kept (t' := s1.toks) fun b o e => Heap.get?_push_of_some _ e, turn_list a _, ⟨_, Heap.get?_push_size _ rfl, rfl, rfl⟩, fun b hb => fp b hb I1 rfl, q⟩
  · obtain ⟨its, rv, p, hz⟩ := I1.tuple hq
    refine wpAny_pyIter_tuple (show s1.heap.IsTuple a its.toArray from p) ?_
    refine ⟨s1.heap.objs.size, [s1.heap.objs.size], _, _, H1, rfl, I1.kept (t' := s1.toks) fun b o e => Heap.get?_push_of_some _ e, turn_tuple a _, ⟨_, Heap.get?_push_size _ rfl, rfl, rfl⟩, fun b hb => fp b hb I1 rfl, q⟩
theorem ps_forSeq {S : Sta} (st : S = SK X.K) (hp : PassesOwn (model X.prog X.w) X.A X.env X.xe) (hc : X.calm = true) (hl : PE X l te) (hg : PG X tg g) (hb : PSs X body tb) (hs : ∀ x, foldedSetIterable l X.env x = pure x := by intro _; rfl) :
    PS X (.For tg l body [] pos) (sFor S te g tb) :=
  ps_imp (ps_for hp hc (pi_seq (pe_mo hl)) hg hb hs) fun D σ H q => ⟨_, q, fun x H1 ⟨a, xs, e, Pv, h0, hst, ht, hd⟩ => by
    refine ⟨a, e, ?_⟩
    rcases hst with z | z
    · exact .inl ⟨⟨xs, sqL st (z 0 H1 (Nat.zero_le _) ⟨σ, h0⟩)⟩, for_list (K := X.K) (a := a) (xs := xs) Pv h0 (fun i σ H hi p => sqL st (z i H hi ⟨σ, p⟩)) ht hd⟩
    · exact .inr ⟨⟨xs, sqT st (z 0 H1 (Nat.zero_le _) ⟨σ, h0⟩)⟩, for_tup (K := X.K) (a := a) (xs := xs) Pv h0 (fun i σ H hi p => sqT st (z i H hi ⟨σ, p⟩)) ht hd⟩⟩
theorem ps_forR1 (hp : PassesOwn (model X.prog X.w) X.A X.env X.xe) (hc : X.calm = true) (hgl : Gl X "range") (hm : X.mg "range" = none) (ha : PE X a ta) (hg : PG X tg g) (hb : PSs X body tb) (hs : starEach [a] X.env = (false, eval a X.env) :: starEach [] X.env := by rfl)
    (hs' : ∀ x, foldedSetIterable (.Call (.Name "range" p) [a] [] pos2) X.env x = pure x := by intro _; rfl) :
    PS X (.For tg (.Call (.Name "range" p) [a] [] pos2) body [] pos) (sForR none ta g tb) :=
  ps_imp (ps_for hp hc (pi_range1 hgl hm (pa_cons (pe_mo ha) pa_nil hs) hs) hg hb hs') fun D σ H q => ⟨_, q, fun y H1 ⟨j, e, ⟨_, _, h1, h2⟩, Pv, h0, ht, hd⟩ => by
    subst e
    refine ⟨j, rfl, h1, h2, for_range (lo := 0) (n := j.toNat) Pv h0 (fun i σ H hi p => ht i σ H (by omega) p) fun σ H p => hd σ H (by rw [Int.sub_zero]; exact p)⟩⟩
theorem ps_forR2 (hp : PassesOwn (model X.prog X.w) X.A X.env X.xe) (hc : X.calm = true) (hgl : Gl X "range") (hm : X.mg "range" = none) (ha : PE X a ta) (hb' : PE X b tb') (hg : PG X tg g) (hb : PSs X body tb) (hs : starEach [a, b] X.env = (false, eval a X.env) :: starEach [b] X.env := by rfl) (hs2 : starEach [b] X.env = (false, eval b X.env) :: starEach [] X.env := by rfl)
    (hs' : ∀ x, foldedSetIterable (.Call (.Name "range" p) [a, b] [] pos2) X.env x = pure x := by intro _; rfl) :
    PS X (.For tg (.Call (.Name "range" p) [a, b] [] pos2) body [] pos) (sForR (some ta) tb' g tb) :=
  ps_imp (ps_for hp hc (pi_range2 hgl hm (pa_cons (pe_mo ha) (pa_cons (pe_mo hb') pa_nil hs2) hs) (hs.trans (by rw [hs2]; rfl)) hs2) hg hb hs') fun D σ H q => ⟨_, q, fun x H1 q1 => ⟨_, q1, fun y H2 ⟨i, j, e, e', ⟨h1, h2, h3, h4⟩, Pv, h0, ht, hd⟩ => by
    subst e e'
    exact ⟨i, j, rfl, ⟨h1, h2, h3, h4⟩, for_range (lo := i) (n := (j - i).toNat) Pv h0 (fun k σ H hi p => ht k σ H (by omega) p) hd⟩⟩⟩
end

/-! ### list comprehensions -/
def eLc (S : Sta) (te : TE) (g : TG) (tt : TT) (tel : TE) (vs : List Nat) : TE := fun σ H Q => te σ H fun x H1 => ∃ a xs, x = .ref a ∧ ∃ k : Bool, RdS S H1 a (if k then .lst xs else .tup xs) ∧ ∀ D, H1 D = none → ∃ Pv : Nat → Hp → Prop, Pv 0 (upd H1 D (.lst [])) ∧ (∀ i H, i ≤ xs.length → Pv i H → RdS S H a (if k then .lst xs else .tup xs)) ∧
  (∀ i y H, xs[i]? = some y → Pv i H → g y (wipe σ vs) H fun σ2 H2 => wipe σ2 vs = wipe σ vs ∧ tt σ2 H2 fun b H3 => if b = true then tel σ2 H3 fun z H4 => ∃ acc, H4 D = some (.lst acc) ∧ acc.length < sizeLine ∧ Pv (i + 1) (upd H4 D (.lst (acc ++ [z]))) else Pv (i + 1) H3) ∧
  ∀ H, Pv xs.length H → Q (.ref D) H
def eLcR (lo : Option TE) (hi : TE) (g : TG) (tt : TT) (tel : TE) (vs : List Nat) : TE := fun σ H Q =>
  let body : Int → Int → Hp → Prop := fun lo hi H1 => (-(2 ^ 62) ≤ lo ∧ lo < 2 ^ 62 ∧ -(2 ^ 62) ≤ hi ∧ hi < 2 ^ 62) ∧ ∀ D, H1 D = none → ∃ Pv : Nat → Hp → Prop, Pv 0 (upd H1 D (.lst [])) ∧
    (∀ (i : Nat) H, lo + i < hi → Pv i H → g (.int (lo + i)) (wipe σ vs) H fun σ2 H2 => wipe σ2 vs = wipe σ vs ∧ tt σ2 H2 fun b H3 => if b = true then tel σ2 H3 fun z H4 => ∃ acc, H4 D = some (.lst acc) ∧ acc.length < sizeLine ∧ Pv (i + 1) (upd H4 D (.lst (acc ++ [z]))) else Pv (i + 1) H3) ∧
    ∀ H, Pv (hi - lo).toNat H → Q (.ref D) H
  match lo with
  | none => hi σ H fun y H1 => ∃ j, y = .int j ∧ body 0 j H1
  | some lo => lo σ H fun x H1 => hi σ H1 fun y H2 => ∃ i j, x = .int i ∧ y = .int j ∧ body i j H2
section
variable {X : Cx} {tg l a b elt : Expr} {ifs : List Expr} {te ta tb' tel : TE} {tt : TT} {g : TG} {scope : Scope} {own : List (Str × Nat)} {pos p pos2 spos py : Pos}
/-- what a block of a comprehension asks -/
structure Blk (X : Cx) (scope : Scope) (tg elt : Expr) (ifs : List Expr) (g : TG) (tt : TT) (tel : TE) : Prop where
  hg : ∀ (s : Shared) (H : Hp) (C : Addr) (cl : List (Str × Addr)) (fp : List Addr), PG (X.blk s H scope (compEnvC scope cl C X.env) fp) tg g
  ht : ∀ (s : Shared) (H : Hp) (C : Addr) (cl : List (Str × Addr)) (fp : List Addr), PTs (X.blk s H scope (compEnvC scope cl C X.env) fp) ifs tt
  he : ∀ (s : Shared) (H : Hp) (C : Addr) (cl : List (Str × Addr)) (fp : List Addr), PE (X.blk s H scope (compEnvC scope cl C X.env) fp) elt tel
theorem lc_of {K : PySem.W.Frag} {S : Sta} (st : S = SK K) {vs : List Nat} {σ : L2.St} {H : Hp} {Q : VK} (q : eLc S te g tt tel vs σ H Q) : tLc (iSeq K (mo te)) g tt tel vs σ H Q := ⟨_, q, fun x H1 ⟨a, xs, e, k, rd, q⟩ => by
    refine ⟨a, e, ?_⟩
    cases k with
    | true =>
      refine .inl ⟨⟨xs, sqL st rd⟩, fun D hD => ?_⟩
      obtain ⟨Pv, h0, z, ht, hd⟩ := q D hD
      exact lc_list (K := K) (a := a) (xs := xs) Pv h0 (fun i H hi p => sqL st (z i H hi p)) ht hd
    | false =>
      refine .inr ⟨⟨xs, sqT st rd⟩, fun D hD => ?_⟩
      obtain ⟨Pv, h0, z, ht, hd⟩ := q D hD
      exact lc_tup (K := K) (a := a) (xs := xs) Pv h0 (fun i H hi p => sqT st (z i H hi p)) ht hd⟩
theorem pe_lcSeq {S : Sta} (st : S = SK X.K) (hc : X.calm = true) (hN : X.N.Nodup) (hl : PE X l te) (ok : BlkOk X.N X.env.scope scope own) (B : Blk X scope tg elt ifs g tt tel) (hs : ∀ x, foldedSetIterable l X.env x = pure x := by intro _; rfl) :
    PE X (.ListComp elt [⟨tg, l, ifs, 0⟩] scope pos) (eLc S te g tt tel (own.map (·.2))) := pe_imp (pe_lc hc hN (pi_seq (pe_mo hl)) ok B.hg B.ht B.he hs) fun _ _ _ q => lc_of st q
theorem ps_lcSeq {S : Sta} {i : Nat} {y : Str} (st : S = SK X.K) (hc : X.calm = true) (hN : X.N.Nodup) (hy : X.N[i]? = some y) (hyl : X.env.scope.names.lookup y = some .local)
    (hsw : swapsWith (.ListComp elt [⟨tg, l, ifs, 0⟩] scope pos) (some (.Name y py)) spos.line X.env = pure true) (hl : PE X l te) (ok : BlkOk X.N X.env.scope scope own) (B : Blk X scope tg elt ifs g tt tel) (hs : ∀ x, foldedSetIterable l X.env x = pure x := by intro _; rfl) :
    PS X (.Assign [.Name y py] (.ListComp elt [⟨tg, l, ifs, 0⟩] scope pos) spos) (tAsg (eLc S te g tt tel (own.map (·.2))) (gName i)) :=
  ps_imp (ps_setLc hc hN hy hyl hsw (pi_seq (pe_mo hl)) ok B.hg B.ht B.he hs) fun _ _ _ q => lc_of st q
theorem lcR1_of {vs : List Nat} {σ : L2.St} {H : Hp} {Q : VK} (q : eLcR none ta g tt tel vs σ H Q) : tLc (iRng1 (tCons (mo ta) tNil)) g tt tel vs σ H Q := ⟨_, q, fun y H1 ⟨j, e, ⟨_, _, h1, h2⟩, q⟩ => by
    subst e
    refine ⟨j, rfl, h1, h2, fun D hD => ?_⟩
    obtain ⟨Pv, h0, ht, hd⟩ := q D hD
    exact lc_range (lo := 0) (n := j.toNat) Pv h0 (fun i H hi p => ht i H (by omega) p) fun H p => hd H (by rw [Int.sub_zero]; exact p)⟩
theorem pe_lcR1 (hc : X.calm = true) (hN : X.N.Nodup) (hgl : Gl X "range") (hm : X.mg "range" = none) (ha : PE X a ta) (ok : BlkOk X.N X.env.scope scope own) (B : Blk X scope tg elt ifs g tt tel) (hs : starEach [a] X.env = (false, eval a X.env) :: starEach [] X.env := by rfl)
    (hs' : ∀ x, foldedSetIterable (.Call (.Name "range" p) [a] [] pos2) X.env x = pure x := by intro _; rfl) :
    PE X (.ListComp elt [⟨tg, .Call (.Name "range" p) [a] [] pos2, ifs, 0⟩] scope pos) (eLcR none ta g tt tel (own.map (·.2))) := pe_imp (pe_lc hc hN (pi_range1 hgl hm (pa_cons (pe_mo ha) pa_nil hs) hs) ok B.hg B.ht B.he hs') fun _ _ _ q => lcR1_of q
theorem ps_lcR1 {i : Nat} {y : Str} (hc : X.calm = true) (hN : X.N.Nodup) (hy : X.N[i]? = some y) (hyl : X.env.scope.names.lookup y = some .local) (hgl : Gl X "range") (hm : X.mg "range" = none)
    (hsw : swapsWith (.ListComp elt [⟨tg, .Call (.Name "range" p) [a] [] pos2, ifs, 0⟩] scope pos) (some (.Name y py)) spos.line X.env = pure true) (ha : PE X a ta) (ok : BlkOk X.N X.env.scope scope own) (B : Blk X scope tg elt ifs g tt tel)
    (hs : starEach [a] X.env = (false, eval a X.env) :: starEach [] X.env := by rfl) (hs' : ∀ x, foldedSetIterable (.Call (.Name "range" p) [a] [] pos2) X.env x = pure x := by intro _; rfl) :
    PS X (.Assign [.Name y py] (.ListComp elt [⟨tg, .Call (.Name "range" p) [a] [] pos2, ifs, 0⟩] scope pos) spos) (tAsg (eLcR none ta g tt tel (own.map (·.2))) (gName i)) :=
  ps_imp (ps_setLc hc hN hy hyl hsw (pi_range1 hgl hm (pa_cons (pe_mo ha) pa_nil hs) hs) ok B.hg B.ht B.he hs') fun _ _ _ q => lcR1_of q
end

/-! ### in, by an own __contains__ -/
section
open PySem.W
variable {prog : Program} {w : World} {A : Around} {E : Value → Shared → Prop} {s : Shared} {K : Frag} {x C f : Addr} {ox : Obj} {od : Option Obj}
theorem unlessNone_K {M : Model} {name : Str} {args : List Value} {refuse : Sem Value} {Q : Option Value → Shared → Prop} (X : K.In s.heap) (I : InstAt s.heap x ox C od) (hs : findIn K (.ref C) name = some (some (.ref f))) (hf : isFn K (.ref f) = true)
    (h : wpAny M A (call (.ref f) (.ref x :: args)) (fun v => Q (some v)) E s) : wpAny M A (callSpecialUnlessNone? (.ref x) name args refuse) Q E s := by
  simp only [callSpecialUnlessNone?]
  refine wpAny_bind (wpAny_bind (I.type.here ((looks_findIn X hs).here ?_)))
  refine wpAny_holding (wpAny_bind ((bind_fn X _ (beq_iff_eq.mp hf)).here ?_))
  show wpAny _ _ (if (Value.ref f == Value.none) = true then _ else _) _ _ _
  rw [if_neg (by simp)]
  exact wpAny_bind (wpAny_mono h (fun v s' h' => wpAny_pure h') fun _ _ h' => h')
theorem contains_K {v : Value} {Q : Bool → Shared → Prop} (X : K.In s.heap) (I : InstAt s.heap x ox C od) (hs : findIn K (.ref C) "__contains__" = some (some (.ref f))) (hf : isFn K (.ref f) = true)
    (h : wpAny (model prog w) A (call (.ref f) [.ref x, v]) (PySem.W.BoolBack Q) E s) : wpAny (model prog w) A (contains (.ref x) v) Q E s := by
  unfold contains
  refine wpAny_holding ?_
  show wpAny _ _ (specialOf (.ref x) (Str.ofString "__contains__") >>= _) _ _ _
  refine wpAny_bind (wpAny_bind (I.type.here ((looks_findIn X hs).here ?_)))
  show wpAny _ _ (if (some (Value.ref f) == some Value.none) = true then _ else _) _ _ _
  rw [if_neg (by simp)]
  refine wpAny_bind (unlessNone_K X I hs hf (wpAny_mono h (fun r s' hr => ?_) fun _ _ y => y))
  cases r <;> first | exact hr.elim | skip
  exact wpAny_truthy_bool hr
end
section
variable {X : Cx} {CX : CXT} {C f : Addr} {fd : FuncData} {ps : List Str} {sp : Sp} {E : XK} {k : Nat}
/-- y in x, x an instance of the class at C, by its __contains__ -/
def rInOwn (C : Addr) (neg : Bool) (sp : Sp) (E : XK) : R2 := fun y x H Q => ∃ a dx fs, x = .ref a ∧ H a = some (.ins C dx fs) ∧ sp [x, y] H (fun v H' => ∃ b, v = .bl b ∧ Q (.bl (if neg then !b else b)) H') E
theorem in_own {pins : List (Addr × Obj)} {σ : L2.St} {H : Hp} {s : Shared} {a dx : Addr} {fs : List (Str × V)} {y : V} {u : Value} {Q : Bool → Hp → Prop} (F : FnOk X.prog X.w X.K X.mg X.base CX k f fd ps sp) (hm : Meth X.K C "__contains__" f) (hr : Room k X.A) (hb : Binds X.K fd ps []) (hx : Passes CX X E)
    (I : Inv X pins σ H s) (ry : RelV y u) (ha : H a = some (.ins C dx fs)) (h : sp [.ref a, y] H (fun v H' => ∃ b, v = .bl b ∧ Q b H') E) :
    wpAny (model X.prog X.w) X.A (contains (.ref a) u) (TP X pins σ Q) X.xe s := by
  obtain ⟨mA, J, _⟩ := ins_get I.hok ha
  obtain ⟨od, J, _⟩ := J.look
  refine contains_K I.kIn J hm.at_ hm.fn (thn (run_fn (us := [.ref a, u]) (vs := [.ref a, y]) (dvs := []) (ds := []) F hr hb .nil hx I (.cons rfl (.cons ry .nil)) h) fun v s' q => ?_)
  obtain ⟨z, H', I', rz, b, ez, q⟩ := q
  subst ez
  cases rz
  exact ⟨H', I', q⟩
theorem o_inOwn (F : FnOk X.prog X.w X.K X.mg X.base CX k f fd ps sp) (hm : Meth X.K C "__contains__" f) (hr : Room k X.A) (hb : Binds X.K fd ps []) (hx : Passes CX X E) : OpR X (compareOp .In) (rInOwn C false sp E) := fun pins s σ H y x u v Q I ry rx h => by
  obtain ⟨a, dx, fs, e, ha, q⟩ := h
  subst e
  cases rx
  show wpAny _ _ (contains (.ref a) u >>= fun b => pure (Value.bool b)) _ _ _
  refine wpAny_bind (thn (in_own F hm hr hb hx I ry ha (Q := fun b H' => Q (.bl b) H') q) fun b s' hq => ?_)
  obtain ⟨H', I', q⟩ := hq
  exact wpAny_pure ⟨.bl b, H', I', rfl, q⟩
theorem o_notInOwn (F : FnOk X.prog X.w X.K X.mg X.base CX k f fd ps sp) (hm : Meth X.K C "__contains__" f) (hr : Room k X.A) (hb : Binds X.K fd ps []) (hx : Passes CX X E) : OpR X (compareOp .NotIn) (rInOwn C true sp E) := fun pins s σ H y x u v Q I ry rx h => by
  obtain ⟨a, dx, fs, e, ha, q⟩ := h
  subst e
  cases rx
  show wpAny _ _ (contains (.ref a) u >>= fun b => pure (Value.bool (!b))) _ _ _
  refine wpAny_bind (thn (in_own F hm hr hb hx I ry ha (Q := fun b H' => Q (.bl (!b)) H') q) fun b s' hq => ?_)
  obtain ⟨H', I', q⟩ := hq
  exact wpAny_pure ⟨.bl (!b), H', I', rfl, q⟩
end

/-! ### classes: constants, classmethods, a class held in a name -/
def eCon (v : V) : TE := fun _ H Q => Q v H
/-- the argument's heap, then a new instance and __init__ (tMake), the class in slot i -/
def eMakeL (i : Nat) (C : Addr) (sp : Sp) (dvs : List V) (E : XK) (t : TA) : TE := fun σ H Q => σ[i]? = some (some (.ref C)) ∧ tMake C sp dvs E t σ H Q
section
variable {X : Cx} {CX : CXT} {C f p g : Addr} {mc u : Value} {fd : FuncData} {ps : List Str} {sp : Sp} {E : XK} {k i : Nat} {x y m : Str} {v : V} {pos pos2 p2 apos : Pos} {e : Expr} {es : List Expr} {t : TA} {dvs : List V} {ds : List Value}
theorem pe_clsName (hg : Gl X x) (hm : X.mg x = some (.ref C)) (hdb : (x == ("__debug__" : Str)) = false := by decide) : PE X (.Name x p2) (eCon (.ref C)) := pe_imp (pe_glob hg hm (v := .ref C) rfl hdb) fun _ _ _ q => q
theorem pe_clsCon (r : ClX.CRead X.K C mc) (c : ClX.CVal X.K C mc y v u) (hg : Gl X x) (hm : X.mg x = some (.ref C)) (hdb : (x == ("__debug__" : Str)) = false := by decide)
    (hb : attributeBase (.Name x p2) y X.env (eval (.Name x p2) X.env) = eval (.Name x p2) X.env := by rfl) : PE X (.Attribute (.Name x p2) y pos) (eCon v) :=
  pe_imp (ClX.pe_cval (pe_clsName hg hm hdb) hb) fun _ _ _ q => ⟨C, mc, v, u, rfl, r, c, q⟩
theorem pe_makeL (M : Mk X.K C f) (F : FnOk X.prog X.w X.K X.mg X.base CX k f fd ps sp) (hr : Room (k + 1) X.A) (hN : X.N[i]? = some x) (hv : Vis X.env.scope x) (hb : Binds X.K fd ps ds) (hd : Vals dvs ds) (hx : Passes CX X E)
    (ha : PA X (e :: es) t) (hdb : (x == ("__debug__" : Str)) = false := by decide) (hcd : (x == ("__classdict__" : Str)) = false := by decide) (he : starEach (e :: es) X.env = (false, eval e X.env) :: starEach es X.env := by rfl) (hpl : (backTo pos (starEach es X.env)).any (·.1) = false := by rfl) :
    PE X (.Call (.Name x p2) (e :: es) [] pos) (eMakeL i C sp dvs E t) := by
  refine ⟨fun pins s σ H Q I h => ?_⟩
  obtain ⟨hs, ht⟩ := h
  refine wpAny_Call_Name_kw (thn ((pe_var (pos := p2) hN hv hdb hcd).run pins s σ H (fun v H1 => v = .ref C ∧ H1 = H) I ⟨.ref C, hs, rfl, rfl⟩) fun u s1 ⟨v, H1, I1, r1, q1⟩ => ?_)
  obtain ⟨rfl, rfl⟩ := q1
  cases r1
  refine PySem.W.callWith_K (h₀ := X.base) I.ok.mod.kin M.kp (thn (ha.run pos pins s1 σ _ _ I1 ht) fun us s2 ⟨vs, H2, I2, r, q⟩ => ⟨I2.kIn, ?_⟩) he hpl
  exact run_make M F hr hb hd hx I2 r q
end

/-- a module's constant -/
theorem pe_constI {X : Cx} {x : Str} {i : Int} {t : Tok} {p2 : Pos} (hm : X.mg x = some (.int i t)) (hg : Gl X x) (hdb : (x == ("__debug__" : Str)) = false := by decide) : PE X (.Name x p2) (tC (.int i)) := pe_imp (pe_glob hg hm (v := .int i) ⟨t, rfl⟩ hdb) fun _ _ _ q => q
def rAug : TIp := ipI fun i j => i + j
def rAugS : TIp := ipI fun i j => i - j
theorem ip_addI {X : Cx} : PIp X .Add rAug := ip_add
def rInAdd : V → V → Hp → VK → Prop := fun x y H Q => ∃ i j, x = .int i ∧ y = .int j ∧ Q (.int (i + j)) H
def rInSub : V → V → Hp → VK → Prop := fun x y H Q => ∃ i j, x = .int i ∧ y = .int j ∧ Q (.int (i - j)) H
theorem in_addI {X : Cx} : InOp X .Add rInAdd := in_add
theorem in_subI {X : Cx} : InOp X .Sub rInSub := in_sub
theorem ip_subI {X : Cx} : PIp X .Sub rAugS := ip_sub
def spRaw (sp : Sp) : Sp := fun vs H Q E => sp (vs ++ []) H Q E
/-! ### a def's promise, by its own body -/
def start (n : Nat) (vs : List V) : L2.St := vs.map some ++ List.replicate (n - vs.length) none
/-- n slots, m parameters -/
def spB (n m : Nat) (t : XK → TS) : Sp := fun vs H Q E => vs.length = m ∧ t E { nx := fun _ H' => Q .non H', rt := Q } (start n vs) H
theorem start_eq (N : List Str) (vs : List V) : L2.start N vs = start N.length vs := rfl
theorem passE {P : Program} {w : World} {K : PySem.W.Frag} {mg : Str → Option Value} {base : Heap} {N : List Str} {qual : Str} {scope : Scope} {f : Addr} {cd : Value} {A : Around} {outer : List Env} {s : Shared} {H : Hp} {E : XK} :
    Passes (L2.CX P w) (cxOf (L2.CX P w) P w K mg base N qual scope f cd A outer s H E) E := passes_call (takes_of rfl rfl rfl rfl) fun _ _ _ _ h => h
/-- where nothing is let out -/
theorem passN {X : Cx} : Passes (L2.CX X.prog X.w) X E0 := fun _ _ _ _ _ _ _ h => by
  obtain ⟨_, _, _, _, _, _, _, _, _, _, _, _, z⟩ := h
  exact z.elim
theorem ok_body {P : Program} {w : World} {K : PySem.W.Frag} {mg : Str → Option Value} {base : Heap} {x qual : Str} {st : Stmt} {f : Addr} {fd : FuncData} {N ps : List Str} {n m k : Nat} {t : XK → TS} (F : Fun K x qual st f fd) (S : FnScope N ps (defScope st)) (hn : N.length = n) (hm : ps.length = m)
    (h : ∀ (cdv : Value) (A : Around) (outer : List Env) (s : Shared) (H : Hp) (E : XK), Room k (A.deeper (envOfC qual (defScope st) s.heap.objs.size f cdv)) → PSs (cxOf (L2.CX P w) P w K mg base N qual (defScope st) f cdv A outer s H E) (defBody st) (t E)) :
    FnOk P w K mg base (L2.CX P w) (k + 1) f fd ps (spB n m t) := by
  subst hn
  subst hm
  exact F.okX S (fun vs H Q E q => q.1) fun cdv A outer s H vs Q E hr q => ⟨t E, h cdv A outer s H E hr, q.2⟩
/-! ### chains of comparisons, as tests -/
abbrev TC := L2.St → V → Hp → VK → Prop
def cLast (r : R2) (tb : TE) : TC := fun σ x H Q => tb σ H fun y H1 => r x y H1 Q
def cLink (r : R2) (tb : TE) (tl : TC) : TC := fun σ x H Q => tb σ H fun y H1 => r x y H1 fun z H2 => ∃ k, z = .bl k ∧ (if k = true then tl σ y H2 Q else Q (.bl false) H2)
def tChn (ta : TE) (tl : TC) : TE := fun σ H Q => ta σ H fun x H1 => tl σ x H1 Q
structure PCh (X : Cx) (ops : List CmpOp) (es : List Expr) (tl : TC) : Prop where
  run : ∀ (pos : Pos) (pins : List (Addr × Obj)) (s : Shared) (σ : L2.St) (H : Hp) (x : V) (v : Value) (Q : Bool → Hp → Prop), Inv X pins σ H s → RelV x v → tl σ x H (fun z H' => ∃ k, z = .bl k ∧ Q k H') → wpAny (model X.prog X.w) X.A (testChain pos v ops (evalEach es X.env)) (TP X pins σ Q) X.xe s
section
variable {X : Cx} {a b e e' : Expr} {es : List Expr} {ta tb : TE} {tl : TC} {r : R2} {op op' : CmpOp} {ops : List CmpOp} {pos : Pos}
theorem pch_last (ho : OpR X (compareOp op) r) (hb : PE X b tb) : PCh X [op] [b] (cLast r tb) :=
  ⟨fun pos pins s σ H x v Q I rx q => test_last (thn (hb.run pins s σ H _ I q) fun u s1 ⟨y, H1, I1, r1, q1⟩ => thn (ho pins s1 σ H1 x y v u _ I1 rx r1 q1) fun d s2 ⟨z, H2, I2, r2, k, e, q2⟩ => by
    subst e
    cases r2
    exact wpAny_truthy_bool ⟨H2, I2, q2⟩)⟩
theorem pch_link (ho : OpR X (compareOp op) r) (hb : PE X b tb) (hl : PCh X (op' :: ops) (e :: es) tl) : PCh X (op :: op' :: ops) (b :: e :: es) (cLink r tb tl) :=
  ⟨fun pos pins s σ H x v Q I rx q => test_link (thn (hb.run pins s σ H _ I q) fun u s1 ⟨y, H1, I1, r1, q1⟩ => thn (ho pins s1 σ H1 x y v u _ I1 rx r1 q1) fun d s2 ⟨z, H2, I2, r2, k, e, q2⟩ => by
    subst e
    cases r2
    refine wpAny_truthy_bool ?_
    cases k with
    | false =>
      obtain ⟨k', e', q'⟩ := q2
      cases e'
      exact ite_ff ⟨H2, I2, q'⟩
    | true => exact ite_tt (hl.run pos pins s2 σ H2 y u Q I2 r1 q2))⟩
theorem pt_chn (ha : PE X a ta) (hl : PCh X (op :: op' :: ops) (e :: e' :: es) tl) (hm : lastMarks (op :: op' :: ops) (e :: e' :: es) = false := by with_unfolding_all rfl) : PT X (.Compare a (op :: op' :: ops) (e :: e' :: es) pos) (tTest (tChn ta tl)) :=
  ⟨fun pins s σ H Q I h => isTrue_chain (thn (ha.run pins s σ H _ I h) fun v s1 ⟨x, H1, I1, r1, q1⟩ => hl.run pos pins s1 σ H1 x v Q I1 r1 q1) hm⟩
/-! ### x.bit_length() -/
def rBits : V → Hp → VK → Prop := fun x H Q => ∃ i, x = .int i ∧ Q (.int (Builtin.Int.intBits i : Nat)) H
theorem pe_bitsU {o : Expr} {to : TE} {apos pos : Pos} (ho : PE X o to) (hbase : attributeBase o "bit_length" X.env (eval o X.env) = eval o X.env := by rfl) (hline : (apos.endLine == pos.line) = true := by rfl) : PE X (.Call (.Attribute o "bit_length" apos) [] [] pos) (tUn rBits to) := pe_bits ho hbase hline
end
end Y

/-! Errors: defs that say super(), own exceptions, try with several clauses. -/
namespace Y
open PySem PySem.Spec PyProof.Rows L2
open PySem.W (ksEnv ksFn)

/-! ### statements under a known activation -/
structure PSA (X : Cx) (c : Code) (st : Stmt) (t : TS) : Prop where
  run : ∀ (pins : List (Addr × Obj)) (s : Shared) (σ : L2.St) (H : Hp) (D : Ends), Inv X pins σ H s → t D σ H → _root_.PySem.wpAt (model X.prog X.w) X.A c (exec st X.env) (SP X pins D) X.xe s
structure PSsA (X : Cx) (c : Code) (st : List Stmt) (t : TS) : Prop where
  run : ∀ (pins : List (Addr × Obj)) (s : Shared) (σ : L2.St) (H : Hp) (D : Ends), Inv X pins σ H s → t D σ H → _root_.PySem.wpAt (model X.prog X.w) X.A c (execs st X.env) (SP X pins D) X.xe s
section
variable {X : Cx} {c : Code} {st : Stmt} {rest body orelse : List Stmt} {t u : TS} {tc : TT} {test : Expr} {pos : Pos}
theorem psa_of (h : PS X st t) : PSA X c st t := ⟨fun pins s σ H D I q => wpAt_of_wpAny (h.run pins s σ H D I q)⟩
theorem pssa_of (h : PSs X rest t) : PSsA X c rest t := ⟨fun pins s σ H D I q => wpAt_of_wpAny (h.run pins s σ H D I q)⟩
theorem pssa_cons (h : PSA X c st t) (r : PSsA X c rest u) : PSsA X c (st :: rest) (tSeq t u) := ⟨fun pins s σ H D I q => by
  refine ks_wpAt_execs_cons (ks_wpAt_mono (h.run pins s σ H { D with nx := u D } I q) (fun f s1 hs => ?_) fun _ _ z => z)
  cases f with
  | next =>
    obtain ⟨σ1, H1, I1, q1⟩ := hs
    exact r.run pins s1 σ1 H1 D I1 q1
  | ret v => exact hs
  | brk => exact hs
  | cont => exact hs⟩
theorem pssa_one (h : PSA X c st t) : PSsA X c [st] t := ⟨fun pins s σ H D I q => by
  refine ks_wpAt_execs_cons (ks_wpAt_mono (h.run pins s σ H D I q) (fun f s1 hs => ?_) fun _ _ z => z)
  cases f with
  | next =>
    obtain ⟨σ1, H1, I1, q1⟩ := hs
    exact wpAt_of_wpAny (wpAny_execs_nil ⟨σ1, H1, I1, q1⟩)
  | ret v => exact hs
  | brk => exact hs
  | cont => exact hs⟩
theorem psa_if (hc : PT X test tc) (ha : PSsA X c body t) (hb : PSsA X c orelse u) : PSA X c (.If test body orelse pos) (tIfS tc t u) := ⟨fun pins s σ H D I q => by
  refine ks_wpAt_If (wpAt_of_wpAny (thn (hc.run pins s σ H _ I q) fun b s1 ⟨H1, I1, q1⟩ => ?_))
  cases b with
  | true => exact ha.run pins s1 σ H1 D I1 q1
  | false => exact hb.run pins s1 σ H1 D I1 q1⟩
end

/-! ### a def that closes over __class__ -/
structure FnScS (N P : List Str) (sc : Scope) : Prop where
  kind : sc.kind = .function
  co : sc.isCoroutine = false
  gen : sc.isGenerator = false
  nd : N.Nodup
  pre : N.take P.length = P
  par : ∀ x ∈ P, sc.names.lookup x = some .local
  nocell : ∀ y ∈ sc.names, y.2 ≠ .cell
  free : ∀ y ∈ sc.names, y.2 = .free → y.1 = "__class__"
def cxS (P : Program) (w : World) (K : PySem.W.Frag) (mg : Str → Option Value) (base : Heap) (N : List Str) (qual : Str) (scope : Scope) (f : Addr) (cd : Value) (cc : Addr) (A : Around) (outer : List Env) (s : Shared) (H : Hp) (E : XK) : Cx where
  prog := P
  w := w
  K := K
  mg := mg
  base := base
  A := A.deeper (ksEnv qual scope s.heap.objs.size f cd cc)
  N := N
  s_0 := s
  H_0 := H
  env := ksEnv qual scope s.heap.objs.size f cd cc
  outer := outer
  stack := ksEnv qual scope s.heap.objs.size f cd cc :: outer
  ex := []
  calm := true
  fn := fun _ => false
  pn := []
  xe := fun e s' => wpAny (model P w) (A.deeper (ksEnv qual scope s.heap.objs.size f cd cc)) (leaving (ksEnv qual scope s.heap.objs.size f cd cc) e) (fun _ s'' => L2.CX P w outer H s E e s'') (fun e' s'' => L2.CX P w outer H s E e' s'') s'
theorem lookup_nd {l : List (Str × Value)} {x : Str} {v : Value} (nd : (l.map (·.1)).Nodup) (m : (x, v) ∈ l) : l.lookup x = some v := by
  induction l with
  | nil => cases m
  | cons p r ih =>
    obtain ⟨y, z⟩ := p
    rw [List.map_cons, List.nodup_cons] at nd
    rcases List.mem_cons.mp m with e | m
    · cases e
      simp [List.lookup]
    · have hne : x ≠ y := fun e => nd.1 (by rw [← e]; exact List.mem_map_of_mem (f := (·.1)) m)
      have hb : (x == y) = false := by simpa using hne
      show (match x == y with | true => some z | false => r.lookup x) = some v
      rw [hb]
      exact ih nd.2 m
theorem zip_get {P : List Str} {us : List Value} {i : Nat} {x : Str} {u : Value} (h1 : P[i]? = some x) (h2 : us[i]? = some u) : (x, u) ∈ P.zip us := by
  refine List.mem_of_getElem? (i := i) ?_
  rw [List.getElem?_zip_eq_some]
  exact ⟨h1, h2⟩
theorem zip_keys : ∀ {P : List Str} {us : List Value}, us.length = P.length → (P.zip us).map (·.1) = P
  | [], [], _ => rfl
  | p :: P, u :: us, h => by
    rw [List.zip_cons_cons, List.map_cons, zip_keys (by simpa using h)]
  | [], _ :: _, h => by simp at h
  | _ :: _, [], h => by simp at h
theorem inv_startS {P : Program} {w : World} {K : PySem.W.Frag} {mg : Str → Option Value} {base : Heap} {N ps : List Str} {qual : Str} {scope : Scope} {f cc D : Addr} {cd cl : Value} {cld : Option Addr} {csl : Array (Option Value)} {A : Around} {outer : List Env} {s : Shared} {h1 : Heap} {tk : Nat} {H : Hp} {E : XK} {us : List Value} {vs : List V}
    (S : FnScS N ps scope) (hcc : K.lookup cc = some ⟨cl, cld, .cell (some (.ref D)), csl⟩) (hd : A.handled = none) (e0 : Env0 P w K mg base A outer s H) (hl : vs.length = ps.length) (r : Vals vs us)
    (hns : h1.Ns s.heap.objs.size (fun x => (ps.zip us).reverse.lookup x)) (hk : ∀ b o, s.heap.get? b = some o → h1.get? b = some o) :
    Inv (cxS P w K mg base N qual scope f cd cc A outer s H E) [] (L2.start N vs) H { s with heap := h1, toks := tk } := by
  have hpl : ps.length ≤ N.length := by have := congrArg List.length S.pre; rw [List.length_take] at this; omega
  have noA : ∀ b : Addr, b ∉ (cxS P w K mg base N qual scope f cd cc A outer s H E).ex := fun b z => absurd (show b ∈ ([] : List Addr) from z) (by simp)
  have cells : ∀ (y : Str) (c : Addr), (cxS P w K mg base N qual scope f cd cc A outer s H E).env.cells.lookup y = some c → y = "__class__" ∧ c = cc := fun y c h => by
    have h : ([(("__class__" : Str), cc)] : List (Str × Addr)).lookup y = some c := h
    simp only [List.lookup] at h
    split at h
    · rename_i e
      exact ⟨by simpa using e, (Option.some.inj h).symm⟩
    · cases h
  have bcc := e0.mod.kin _ _ hcc
  have hus : us.length = ps.length := by rw [← r.length]; exact hl
  have ndP : ps.Nodup := by rw [← S.pre]; exact S.nd.sublist (List.take_sublist _ _)
  refine ⟨⟨e0.mod, S.kind, rfl, rfl, Nat.le_refl _, fun y z c h1 h2 => (cells y c h1).1.trans (cells z c h2).1.symm, fun y hy => ?_, fun y c z _ => absurd (show false = true from z) (by simp), fun _ => hd, Around.frames_deeper e0.frames, .inr ⟨rfl, rfl⟩, fun b z => absurd z (noA b), e0.bs, e0.bsz, fun b _ _ => noA b, fun b z => absurd z (noA b), e0.funs, e0.frf⟩,
    rfl, e0.bare, Un.kept hk, ⟨_, hns, fun i y v h1 h2 h3 => ?_⟩, fun y c h => ?_, e0.hok.fresh (Nat.le_refl _), fun y c h => ?_, fun p hp => absurd (show p ∈ ([] : List (Addr × Obj)) from hp) (by simp), e0.hok.kept hk, ?_⟩
  · have hy : scope.names.lookup y = some .cell ∨ scope.names.lookup y = some .free := hy
    rcases hy with hy | hy
    · exact absurd rfl (S.nocell _ (PySem.mem_of_lookup hy))
    · have e := S.free _ (PySem.mem_of_lookup hy) rfl
      have e : y = "__class__" := e
      subst e
      exact ⟨cc, by show List.lookup ("__class__" : Str) [(("__class__" : Str), cc)] = some cc; simp [List.lookup]⟩
  · have hi : i < vs.length := by
      unfold L2.start at h2
      by_cases hi : i < vs.length
      · exact hi
      · rw [List.getElem?_append_right (by simpa using hi), List.getElem?_replicate] at h2
        split at h2 <;> cases h2
    have ha : vs[i]? = some v := by
      unfold L2.start at h2
      rw [List.getElem?_append_left (by simpa using hi), List.getElem?_map] at h2
      cases e : vs[i]? with
      | none => rw [e] at h2; cases h2
      | some a => rw [e] at h2; cases h2; rfl
    obtain ⟨u, hu, rv⟩ := r.get ha
    have hp : ps[i]? = some y := by
      rw [← S.pre, List.getElem?_take_of_lt (by omega)]; exact h1
    refine ⟨u, rv, .inl ⟨S.par y (List.mem_of_getElem? hp), ?_⟩⟩
    show (ps.zip us).reverse.lookup y = some u
    have hk : ((ps.zip us).map (·.1)).Nodup := by rw [zip_keys hus]; exact ndP
    rw [PySem.lookup_reverse_of_nodup _ hk]
    exact lookup_nd hk (zip_get hp hu)
  · obtain ⟨rfl, rfl⟩ := cells y c h
    exact ⟨_, ⟨_, hk _ _ (e0.bs _ _ bcc).1, rfl⟩⟩
  · obtain ⟨rfl, rfl⟩ := cells y c h
    exact (e0.bs _ _ bcc).2
  · unfold L2.start
    show _ = N.length
    rw [List.length_append, List.length_map, List.length_replicate]
    omega
/-- the rule for such a def -/
theorem fn_ofS {P : Program} {w : World} {K : PySem.W.Frag} {mg : Str → Option Value} {base : Heap} {k : Nat} {f cc D : Addr} {name qual : Str} {params : Arguments} {body : List Stmt} {scope : Scope} {dV kV doc pm cdv ct oc cl : Value} {an od cld : Option Addr}
    {osl csl : Array (Option Value)} {N ps : List Str} {sp : Sp} (lk : K.lookup f = some ⟨oc, od, .func (ksFn name qual params body scope dV kV doc pm an cdv ct cc), osl⟩) (hcd : PySem.W.codeIn K cdv qual = true)
    (hcc : K.lookup cc = some ⟨cl, cld, .cell (some (.ref D)), csl⟩) (S : FnScS N ps scope) (len : ∀ vs H Q E, sp vs H Q E → vs.length = ps.length)
    (hbody : ∀ (A : Around) (outer : List Env) (s : Shared) (H : Hp) (vs : List V) (Q : VK) (E : XK), Room k (A.deeper (ksEnv qual scope s.heap.objs.size f cdv cc)) → sp vs H Q E →
      ∃ t, PSsA (cxS P w K mg base N qual scope f cdv cc A outer s H E) (.func body (ksEnv qual scope s.heap.objs.size f cdv cc)) body t ∧ t { nx := fun _ H' => Q .non H', rt := Q } (L2.start N vs) H) :
    FnOk P w K mg base (L2.CX P w) (k + 1) f (ksFn name qual params body scope dV kV doc pm an cdv ct cc) ps sp := by
  refine ⟨len, fun A outer s H args us vs Q E hr e0 hb r hsp => ?_⟩
  have hl := len _ _ _ _ hsp
  have hus : us.length = ps.length := by rw [← r.length]; exact hl
  have KX : K.In s.heap := e0.mod.kin.keeps fun b o e => (e0.bs b o e).1
  have lim : s.heap.NoLimit := e0.mod.nolimit.keeps fun b o e => (e0.bs b o e).1
  have hloc : ∀ x ∈ ps.zip us, scope.names.lookup x.1 = some .local := fun ⟨n, v⟩ hy => S.par n (List.of_mem_zip hy).1
  refine ks_codeAny_call_defAt (fd := ksFn name qual params body scope dV kV doc pm an cdv ct cc) (body := body) (binds := ps.zip us) hr.depth (KX _ _ lk) rfl lim (PySem.W.codeRec_of KX hcd) rfl hb S.nocell hloc (fun h1 hns hk => ?_) S.co S.gen S.kind
  obtain ⟨t, ht, hq⟩ := hbody A outer s H vs Q E (hr.deeper _) hsp
  have I := inv_startS (tk := s.toks + (ps.zip us).length) (f := f) (qual := qual) (cd := cdv) (E := E) S hcc hr.hd e0 hl r hns hk
  refine ks_wpAt_mono (ht.run [] _ (L2.start N vs) H _ I hq) (fun fl s' hs => ?_) fun e s' hs => hs
  have fin : ∀ {σ' : L2.St} {H' : Hp} {v : V} {u : Value}, Inv (cxS P w K mg base N qual scope f cdv cc A outer s H E) [] σ' H' s' → RelV v u → Q v H' → CE outer P w H s Q u s' :=
    fun {σ' H' v u} J rv q => ⟨v, H', J.os, J.bare, J.base, J.hok, rv, q⟩
  cases fl with
  | ret u =>
    obtain ⟨v, σ', H', J, rv, q⟩ := hs
    exact fin J rv q
  | next =>
    obtain ⟨σ', H', J, q⟩ := hs
    exact fin (v := V.non) (u := Value.none) J rfl q
  | brk =>
    obtain ⟨_, _, _, q⟩ := hs
    exact False.elim q
  | cont =>
    obtain ⟨_, _, _, q⟩ := hs
    exact False.elim q

/-! ### super() -/
theorem sup_base {X : Cx} {pins : List (Addr × Obj)} {σ : L2.St} {H : Hp} {s : Shared} {body : List Stmt} {p0 p1 : Pos} {attr : Str} {whole : Sem Value} {f cc cda D x C : Addr} {fd : FuncData} {ar : Arg} {vs : Array Value} {file : Str} {tf : Tok} {oc ccl cl : Value} {od cdd cld : Option Addr} {osl ccs csl : Array (Option Value)} {cdD : ClassData} {ox : Obj} {odx : Option Obj} {Q : Value → Shared → Prop} {E : Value → Shared → Prop}
    (I : Inv X pins σ H s) (hks : X.env.kindOf "super" = some .globalImplicit) (hkc : X.env.kindOf "__class__" = some .free) (hat : (attr == ("__class__" : Str)) = false) (hfu : X.env.func = some f) (hf : X.K.lookup f = some ⟨oc, od, .func fd, osl⟩) (hp : (fd.params.posonlyargs ++ fd.params.args).head? = some ar)
    (hco : X.env.code = .ref cda) (hcode : X.K.lookup cda = some ⟨ccl, cdd, .fields vs, ccs⟩) (hvs : vs[2]? = some (.str file tf)) (hfile : ((X.prog.main.file : Str) == file) = true) (htop : (X.prog.main.scope.names.lookup ("super" : Str)).isSome = false) (hm : X.mg "super" = none)
    (hcl : X.env.cells.lookup ("__class__" : Str) = some cc) (hcell : X.K.lookup cc = some ⟨cl, cld, .cell (some (.ref D)), csl⟩) (hD : PySem.W.clsIn X.K D = some cdD) (hka : X.env.kindOf ar.arg = some .local) (hN : X.N[0]? = some ar.arg) (hσ : σ[0]? = some (some (.ref x)))
    (J : PySem.W.InstAt s.heap x ox C odx) (hsub : PySem.W.mroIn X.K C (.ref D) = some true)
    (h : ∀ h', h'.get? s.heap.objs.size = some (PySem.W.ks_superObj D x C) → (∀ b o, s.heap.get? b = some o → h'.get? b = some o) → Q (.ref s.heap.objs.size) { s with heap := h' }) :
    _root_.PySem.wpAt (model X.prog X.w) X.A (.func body X.env) (attributeBase (.Call (.Name "super" p0) [] [] p1) attr X.env whole) Q E s := by
  have KX := I.kIn
  obtain ⟨m, hn, hl⟩ := id I.loc
  obtain ⟨u, ru, lk⟩ := hl 0 ar.arg (.ref x) hN hσ (.inl hka)
  obtain ⟨mb, b1, b2⟩ := I.mod.blt
  have hg : s.heap.Ns X.env.globals X.mg := by rw [I.ok.glob]; exact I.mod.glob.keeps I.bk
  have hb : s.heap.Ns X.env.builtins mb := by rw [I.ok.blt]; exact b1.keeps I.bk
  have hk := I.ok.kind
  have em : m ar.arg = some (.ref x) := by
    have ru' : u = Value.ref x := ru
    subst ru'
    rcases lk with ⟨_, e⟩ | ⟨e, _⟩
    · exact e
    · rw [hka] at e
      rcases e with e | e <;> cases e
  obtain ⟨oD, hD1, hD2⟩ : ∃ oD, s.heap.get? D = some oD ∧ oD.data = .cls cdD := by
    unfold PySem.W.clsIn at hD
    split at hD
    · rename_i q1 q2 q3 q4 ho
      cases hD
      exact ⟨_, KX _ _ ho, rfl⟩
    · cases hD
  obtain ⟨hh, g, d, t, os⟩ := s
  refine ks_wpAt_super_base hks hkc hat hfu (KX _ _ hf) rfl hp hco (KX _ _ hcode) rfl hvs hfile htop ?_
  refine PySem.W.ks_loadName_global hk hks (PySem.Calls.loadGlobal_builtin hg hm hb ((b2 _ (by decide)).trans PyProof.Rows.Boot.«super») ⟨rfl, ?_⟩)
  refine PySem.wpAny_loadName_free hk hkc hcl ⟨_, KX _ _ hcell, rfl⟩ ?_
  refine wpAny_loadName_local hk hka hn em ?_
  refine ks_wpAny_isType_cls hD1 hD2 ⟨rfl, ?_⟩
  refine ks_wpAny_call_super hD1 hD2 J.at_ J.cls (fun c e => ?_) (PySem.W.looks_mroIn KX hsub) fun h' e k => h h' e k
  have z := J.no
  unfold PySem.W.notCls at z
  rw [e] at z
  exact Bool.noConfusion z
/-- the bound ValueError.__init__ called -/
theorem call_vw {prog : Program} {w : World} {A : Around} {E : Value → Shared → Prop} {h : Heap} {g : Array GenState} {d : Drawn} {t : Nat} {os : OsState} {nm q : Str} {C N u e t0 : Addr} {bs bm : List Value} {hdct : Bool} {sn : List Str} {sub : List Value} {ab : Bool} {col : Option Bool} {dd : Option Addr} {k0 k1 k2 k3 k5 : Option Value}
    {rest : List Value} {Q : Value → Shared → Prop} (hC : h.get? C = some (excClassObj nm q C N bs bm hdct sn sub ab col dd k0 k1 k2 k3 k5 "ValueError.__new__")) (he : h.get? e = some (HandSPX.excO C t0)) (hu : h.get? u = some (PySem.W.kxs_mw "ValueError.__init__" e)) (hz : rest.length ≤ sizeLine)
    (hq : ∀ h' t1, (∀ b o, b ≠ e → h.get? b = some o → h'.get? b = some o) → h'.get? e = some (HandSPX.excO C t1) → Q .none ⟨h', g, d, t, os⟩) : wpAny (model prog w) A (call (.ref u) rest) Q E ⟨h, g, d, t, os⟩ := by
  refine wpAny_call (codeAny_of_tree ?_)
  show wpAny _ A.in1 (callAny (.ref u) ⟨rest, []⟩) _ _ _
  simp only [callAny]
  refine wpAny_bind (wpAny_load hu ?_)
  simp only [PySem.W.kxs_mw, (by decide : (Value.type "method-wrapper" == Value.type "method" || Value.type "method-wrapper" == Value.type "builtin_function_or_method" || Value.type "method-wrapper" == Value.type "method-wrapper") = true), if_true]
  refine PySem.W.KFB.if_so (by decide) ?_
  refine wpAny_bind (PySem.ESX.check_bound F.excBase_ValueError hC he rfl (wpAny_bind (wpAny_pure (wpAny_pure ⟨Code.quiet_builtin _ (by decide +kernel), codeAny_builtin F.excBase_ValueError.initEntry ?_⟩))))
  rw [Around.under_plainId F.excBase_ValueError.init.plain _]
  wp_walk
  refine hq _ h.objs.size (fun b o hb ho => (Heap.get?_update_other _ _ (Ne.symm hb)).trans (Heap.get?_push_of_some _ ho)) ?_
  rw [Heap.get?_update_self _ (Heap.get?_push_of_some _ he) rfl]
  rfl
/-- what the written part says of the class at C, where super() stands in a method of the class at D and finds ValueError.__init__ -/
structure SupV (K : PySem.W.Frag) (C D : Addr) : Prop where
  ex : OexC K C
  opq : PySem.W.nsIn K PySem.cStatics "thirdparty.any" = some none
  fnd : PySem.W.ks_superIn K C D "__init__" = some (some (.builtin "ValueError.__init__"))
  sub : PySem.W.subIn K (.ref C) (.type "ValueError") = some true
  mro : PySem.W.mroIn K C (.ref D) = some true
/-- super().__init__(..) of an exception that is being made -/
def tSupV (K : PySem.W.Frag) (D : Addr) (ta : TA) : TE := fun σ H Q => ∃ a C : Addr, σ[0]? = some (some (.ref a)) ∧ H a = some (exo a C none) ∧ SupV K C D ∧ ta σ H fun vs H1 => vs.length ≤ 1000 ∧ H1 a = some (exo a C none) ∧ Q .non H1
/-- what the text says of the method that says super() -/
structure SupT (X : Cx) (D : Addr) : Prop where
  ex : ∃ (f cc cda : Addr) (fd : FuncData) (ar : Arg) (vs : Array Value) (file : Str) (tf : Tok) (oc ccl cl : Value) (od cdd cld : Option Addr) (osl ccs csl : Array (Option Value)) (cdD : ClassData),
    X.env.func = some f ∧ X.K.lookup f = some ⟨oc, od, .func fd, osl⟩ ∧ (fd.params.posonlyargs ++ fd.params.args).head? = some ar ∧ X.env.code = .ref cda ∧ X.K.lookup cda = some ⟨ccl, cdd, .fields vs, ccs⟩ ∧ vs[2]? = some (.str file tf) ∧ ((X.prog.main.file : Str) == file) = true ∧
    X.env.cells.lookup ("__class__" : Str) = some cc ∧ X.K.lookup cc = some ⟨cl, cld, .cell (some (.ref D)), csl⟩ ∧ PySem.W.clsIn X.K D = some cdD ∧ X.env.kindOf ar.arg = some .local ∧ X.N[0]? = some ar.arg
  ks : X.env.kindOf "super" = some .globalImplicit
  kc : X.env.kindOf "__class__" = some .free
  top : (X.prog.main.scope.names.lookup ("super" : Str)).isSome = false
  mg : X.mg "super" = none
section
variable {X : Cx} {D : Addr} {body : List Stmt} {p0 p1 apos pos pos2 : Pos} {e : Expr} {es : List Expr} {ta : TA}
theorem psa_supV (T : SupT X D) (ha : PA X (e :: es) ta) {pl : Sem Bool}
    (hc : eval (.Call (.Attribute (.Call (.Name "super" p0) [] [] p1) "__init__" apos) (e :: es) [] pos) X.env = (do
      let ov ← attributeBase (.Call (.Name "super" p0) [] [] p1) "__init__" X.env (eval (.Call (.Name "super" p0) [] [] p1) X.env)
      standAt apos.atName
      let (f, first) ← holding [ov] (getMethod ov "__init__" pl)
      callWith pos f first (backTo pos (starEach (e :: es) X.env)) []) := by rfl)
    (hi : interactive X.env = false := by rfl) (hs : swapsWith (.Call (.Attribute (.Call (.Name "super" p0) [] [] p1) "__init__" apos) (e :: es) [] pos) none pos2.line X.env = pure false := by rfl)
    (he : starEach (e :: es) X.env = (false, eval e X.env) :: starEach es X.env := by rfl) (hpl : (backTo pos (starEach es X.env)).any (·.1) = false := by rfl) :
    PSA X (.func body X.env) (.Expr (.Call (.Attribute (.Call (.Name "super" p0) [] [] p1) "__init__" apos) (e :: es) [] pos) pos2) (tDrop (tSupV X.K D ta)) := by
  refine ⟨fun pins s σ H K I h => ?_⟩
  obtain ⟨a, C, hσ, ea, V, q⟩ := h
  obtain ⟨f, cc, cda, fd, ar, vs, file, tf, oc, ccl, cl, od, cdd, cld, osl, ccs, csl, cdD, z1, z2, z3, z4, z5, z6, z7, z8, z9, z10, z11, z12⟩ := T.ex
  obtain ⟨t0, ho⟩ := exo_at I.hok ea
  have J : PySem.W.InstAt s.heap a _ C none := ⟨ho, rfl, rfl, trivial⟩
  obtain ⟨nm, qq, N, bs, bm, sn, sub, ab, col, dd, k0, k1, k2, k3, k5, hC, hbm⟩ := V.ex.cls
  have hcl : PySem.W.clsIn X.K C = some { name := nm, bases := bs, mro := .ref C :: bm, ns := N, qualname := qq, hasDict := true, slotNames := sn, subclasses := sub, abstract := ab, collection := col, hasDel := false } := by unfold PySem.W.clsIn; rw [hC] <;> rfl
  refine ks_wpAt_Expr_any (ks_wpAt_MethodCall (sup_base I T.ks T.kc (by decide) z1 z2 z3 z4 z5 z6 z7 T.top T.mg z8 z9 z10 z11 z12 hσ J V.mro fun h1 o1 k1' => ?_) hc) hi hs
  have I1 : Inv X pins σ H { s with heap := h1 } := by
    have z := I.kept (t' := s.toks) k1'
    exact z
  have KX := I1.kIn
  obtain ⟨hp, g, d, t, os⟩ := s
  have hI : PySem.W.Looks (model X.prog X.w) h1 (isInstance (.ref a) (.type "ValueError")) true := (PySem.W.InstAt.type (M := model X.prog X.w) (⟨k1' _ _ ho, rfl, rfl, trivial⟩ : PySem.W.InstAt h1 a _ C none)).andThen (PySem.W.looks_subIn KX V.sub)
  have hf := V.fnd
  unfold PySem.W.ks_superIn at hf
  rw [hcl] at hf
  refine PySem.W.kxs_getMethod PySem.W.kxs_ValueError o1 (PySem.W.looks_opaque KX V.opq) (l₀ := .ref C :: bm) ?_ rfl KX hf hI (PySem.W.ks_ne I.kIn J hcl) (by decide) ?_
  · exact fun A Q E s k q => wpAny_bind ((PySem.W.looks_clsIn KX hcl) A _ E s k (wpAny_pure q))
  · have kk : ∀ b o, hp.get? b = some o → (h1.push (PySem.W.kxs_mw "ValueError.__init__" a)).get? b = some o := fun b o z => Heap.get?_push_of_some _ (k1' b o z)
    have hu : (h1.push (PySem.W.kxs_mw "ValueError.__init__" a)).get? h1.objs.size = some (PySem.W.kxs_mw "ValueError.__init__" a) := Heap.get?_push_at rfl rfl
    have szu : hp.objs.size ≤ h1.objs.size := by
      exact Nat.le_of_lt (Heap.lt_size o1)
    have I2 : Inv X ((h1.objs.size, PySem.W.kxs_mw "ValueError.__init__" a) :: pins) σ H ⟨h1.push (PySem.W.kxs_mw "ValueError.__init__" a), g, d, t + 1, os⟩ := by
      have z : Inv X pins σ H ⟨h1.push (PySem.W.kxs_mw "ValueError.__init__" a), g, d, t + 1, os⟩ := I.kept (t' := t + 1) kk
      refine z.pins_of fun p hp' => ?_
      rcases List.mem_cons.mp hp' with e | hp'
      · subst e
        have hl := I.lt
        refine ⟨hu, I.hok.fresh szu, fun y => ?_, I.nofs szu, fun v y => ?_⟩
        · have y : h1.objs.size = X.env.locals := y
          have hl : X.env.locals < hp.objs.size := hl
          rw [← y] at hl
          exact absurd (Nat.lt_of_lt_of_le hl szu) (Nat.lt_irrefl _)
        · cases y
      · exact z.pin p (List.mem_append_right _ hp')
    rw [he]
    refine PySem.W.kxs_callWith (i := "ValueError.__init__") (x := a) (by show (false || (backTo pos (starEach es X.env)).any (·.1)) = false; rw [hpl]; rfl) ?_
    have hsp := ha.run pos _ _ σ H _ I2 q
    rw [he] at hsp
    refine PySem.Calls.evalArgs_plain (wpAny_mono hsp (fun us s2 h2 => ?_) fun _ _ z => z)
    obtain ⟨ws, H2, I3, rw', hl, ea2, q2⟩ := h2
    have pu := (I3.pin (h1.objs.size, PySem.W.kxs_mw "ValueError.__init__" a) (List.mem_append_right _ List.mem_cons_self)).1
    refine ⟨pu, ?_⟩
    obtain ⟨t1, ho1⟩ := exo_at I3.hok ea2
    have I4 : Inv X pins σ H2 s2 := I3.pins_of fun p hp' => I3.pin p (by
      rcases List.mem_append.mp (List.mem_append_right X.pn hp') with z | z
      · exact List.mem_append_left _ z
      · exact List.mem_append_right _ (List.mem_cons_of_mem _ z))
    have hlen : us.length ≤ sizeLine := by
      rw [← Paired.length rw', sizeLine_eq]
      omega
    obtain ⟨hp2, g2, d2, tk2, os2⟩ := s2
    show wpAny _ _ (call (.ref h1.objs.size) us) _ _ _
    refine call_vw (I4.kIn _ _ hC) ho1 pu hlen fun h' t2 k hx => ?_
    have J4 := I4.write (t' := tk2) (x := a) (e := a) (o := exo a C none) (by rw [ea2]; exact True.intro) (.inl rfl) k ⟨_, hx⟩ (exo_ok hx)
    have eu : upd H2 a (exo a C none) = H2 := by
      funext b
      by_cases hb : b = a
      · rw [hb, upd_same, ea2]
      · rw [upd_ne hb]
    rw [eu] at J4
    exact ⟨σ, H2, J4, q2⟩
end

/-! ### an error's own __init__ -/
theorem lookup_fs_nil {f : Str} : (([] : List (Str × V)).lookup f) = none := rfl
/-- the promise of such an __init__: the fields fs are set, in this order -/
def exFs (fs : List Str) (ys : List V) : List (Str × V) := (fs.zip ys).reverse
def spEx (Cs : List Addr) (fs : List Str) : Sp := fun vs H Q _ => ∃ (a C : Addr) (ys : List V), C ∈ Cs ∧ vs = .ref a :: ys ∧ ys.length = fs.length ∧ H a = some (exo a C none) ∧
  ∀ d, H d = none → d ≠ a → Q .non (upd (upd H d (exd d (exFs fs ys))) a (exo a C (some d)))
/-- C(..), an error with its fields -/
def tMkC (C : Addr) (fs : List Str) (ta : TA) : L2.St → Hp → XK → Prop := fun σ H Q => ta σ H fun vs H1 => vs.length = fs.length ∧ ∀ d, H1 d = none → Q (.ref C) (some d) (upd H1 d (.xd (exFs fs vs)))
theorem pmk_imp {X : Cx} {e : Expr} {t t' : L2.St → Hp → XK → Prop} (h : PMk X e t) (i : ∀ σ H Q, t' σ H Q → t σ H Q) : PMk X e t' := fun pins s σ H Q I q => h pins s σ H Q I (i σ H Q q)
theorem mo_pa {X : Cx} {es : List Expr} {ta : TA} (h : PA X es ta) : PA X es (moA ta) := pa_mo h
theorem mkC_of {C : Addr} {Cs : List Addr} {fs : List Str} {ta : TA} (hC : C ∈ Cs) (hl : fs.length ≤ 900) {σ : L2.St} {H : Hp} {Q : XK} (q : tMkC C fs ta σ H Q) : tMkO C (spEx Cs fs) [] (moA ta) σ H Q := by
  refine ⟨_, q, fun vs H1 ⟨e, h⟩ => ⟨by omega, fun a ha => ⟨a, C, vs, hC, by rw [List.append_nil], e, upd_same, fun d hd hne => ⟨rfl, d, exFs fs vs, upd_same, ?_, ?_, ?_⟩⟩⟩⟩
  · rw [upd_ne hne, upd_same]
  · rw [upd_ne hne] at hd
    exact hd
  · rw [upd_ne hne] at hd
    have e2 : upd (del (upd (upd (upd H1 a (exo a C none)) d (exd d (exFs fs vs))) a (exo a C (some d))) a) d (.xd (exFs fs vs)) = upd H1 d (.xd (exFs fs vs)) := by
      funext b
      by_cases hb : b = d
      · rw [hb, upd_same, upd_same]
      · rw [upd_ne hb, upd_ne hb]
        by_cases hba : b = a
        · rw [hba, del_same, ha]
        · rw [del_ne hba, upd_ne hba, upd_ne hb, upd_ne hba]
    rw [e2]
    exact h d hd
theorem pmk_ex {X : Cx} {CX : CXT} {x : Str} {C fI : Addr} {Cs : List Addr} {fs : List Str} {k : Nat} {fd : FuncData} {ps : List Str} {e : Expr} {es : List Expr} {ta : TA} {p pos : Pos} (T : OexC X.K C) (iC : PySem.W.findIn X.K (.ref C) "__init__" = some (some (.ref fI))) (tI : PySem.W.typeIn X.K (.ref fI) = some (.type "function"))
    (F1 : FnOk X.prog X.w X.K X.mg X.base CX k fI fd ps (spEx Cs fs)) (hC : C ∈ Cs) (hl : fs.length ≤ 900) (hr : Room (k + 1) X.A) (hb : Binds X.K fd ps []) (hx : Passes CX X (fun _ _ _ => False)) (hg : Gl X x) (hm : X.mg x = some (.ref C)) (ha : PA X (e :: es) ta)
    (hdb : (x == ("__debug__" : Str)) = false := by decide) (he : starEach (e :: es) X.env = (false, eval e X.env) :: starEach es X.env := by rfl) (hpl : (backTo pos (starEach es X.env)).any (·.1) = false := by rfl) :
    PMk X (.Call (.Name x p) (e :: es) [] pos) (tMkC C fs ta) :=
  pmk_imp (pmk_oex (dvs := []) (ds := []) T iC tI F1 hr hb .nil hx hg hm (pa_mo ha) hdb he hpl) fun _ _ _ q => mkC_of hC hl q
/-- raise C(..) -/
def sRaise (E : XK) (t : L2.St → Hp → XK → Prop) : TS := fun _ σ H => t σ H E
def sRaiseS (W : WX) (t : L2.St → Hp → XK → Prop) : TS := fun _ σ H => t σ H fun cls d H' => W cls d σ H'
theorem ps_raiseE {X : Cx} {E : XK} {e : Expr} {t : L2.St → Hp → XK → Prop} {pos : Pos} (hc : X.calm = true) (tk : Takes X (fun cls d _ H => E cls d H)) (he : PMk X e t) : PS X (.Raise (some e) none pos) (sRaise E t) := ps_raise hc tk he
theorem ps_raiseS {X : Cx} {W : WX} {e : Expr} {t : L2.St → Hp → XK → Prop} {pos : Pos} (hc : X.calm = true) (tk : Takes X W) (he : PMk X e t) : PS X (.Raise (some e) none pos) (sRaiseS W t) := ps_raise hc tk he

/-! ### try, with several clauses -/
structure Clz where
  c : Value
  i : Option Nat
  ts : Addr → Value → Option Addr → TS
def endsI : Option Nat → Ends → Ends
  | none, D => D
  | some i, D => { nx := fun σ' H' => D.nx (σ'.set i none) H', rt := D.rt, bk := fun σ' H' => D.bk (σ'.set i none) H', ct := fun σ' H' => D.ct (σ'.set i none) H' }
def setI : Option Nat → V → L2.St → L2.St
  | none, _, σ => σ
  | some i, v, σ => σ.set i (some v)
/-- a clause takes the exception -/
def hitN (K : PySem.W.Frag) (D : Ends) (cls : Value) (d : Option Addr) (σ : L2.St) (H : Hp) : List Clz → Prop
  | [] => False
  | z :: r => (PySem.W.exmOne K cls z.c = some true ∧ ∀ a, H a = none → z.ts a cls d (endsI z.i D) (setI z.i (.ref a) σ) H) ∨ (PySem.W.exmOne K cls z.c = some false ∧ hitN K D cls d σ H r)
inductive HnOk (X : Cx) : List ExceptHandler → List Clz → Prop
  | nil : HnOk X [] []
  | anon {x : Str} {c : Value} {ts : Addr → Value → Option Addr → TS} {b₀ : Stmt} {suite : List Stmt} {np pos' : Pos} {hds : List ExceptHandler} {l : List Clz} (hc : Names X x c)
      (hsu : ∀ (a : Addr) (oe : Obj) (cls : Value) (d : Option Addr) (pn : List (Addr × Obj)), Zc cls d oe → (∃ vs, oe.data = .fields vs) → PSs (X.suite a ((a, oe) :: pn)) (b₀ :: suite) (ts a cls d)) (r : HnOk X hds l) :
      HnOk X (.ExceptHandler (some (.Name x np)) none (b₀ :: suite) pos' :: hds) (⟨c, none, ts⟩ :: l)
  | named {x n : Str} {i : Nat} {c : Value} {ts : Addr → Value → Option Addr → TS} {b₀ : Stmt} {suite : List Stmt} {np pos' : Pos} {hds : List ExceptHandler} {l : List Clz} (hc : Names X x c) (hi : X.N[i]? = some n) (hln : X.env.kindOf n = some .local)
      (hsu : ∀ (a : Addr) (oe : Obj) (cls : Value) (d : Option Addr) (pn : List (Addr × Obj)), Zc cls d oe → (∃ vs, oe.data = .fields vs) → PSs (X.suite a ((a, oe) :: pn)) (b₀ :: suite) (ts a cls d)) (r : HnOk X hds l) :
      HnOk X (.ExceptHandler (some (.Name x np)) (some n) (b₀ :: suite) pos' :: hds) (⟨c, some i, ts⟩ :: l)
section
variable {X : Cx} {body : List Stmt} {h₀ : ExceptHandler} {hds : List ExceptHandler} {l : List Clz} {pos : Pos} {tb : WX → TS}
theorem ps_tryN (hs : X.stack = X.env :: X.outer) (hf : X.env.frame = some X.env.locals) (hN : X.N.Nodup)
    (hb : ∀ (W : WX) (pn : List (Addr × Obj)) (xe : Value → Shared → Prop), Takes (X.tr pn xe) W → PassesOwn (model X.prog X.w) X.A X.env xe → PSs (X.tr pn xe) body (tb W))
    (hh : HnOk X (h₀ :: hds) l) : PS X (.Try body (h₀ :: hds) [] [] pos) (fun D σ H => tb (fun cls d σ H => hitN X.K D cls d σ H l) D σ H) := ⟨fun pins s σ H D I h => by
  have ok := I.ok
  have frame : X.A.frames = some (X.env :: X.outer) := ok.frames.trans (congrArg some hs)
  refine wpAny_Try_except (wpAny_mono ((hb _ (X.pn ++ pins) _ (fun u s' xx => ?_) PassesOwn.looking).run [] s σ H D (I.toTry _) h) (fun f s1 hsp => ?_) fun e s1 he => he)
  · obtain ⟨a, B, sI, pins', σ', H', cls, d, rfl, J', nb, up, sky, na, os, ag, w⟩ := xx
    have J : Inv X pins σ' H' sI := J'.ofTry ok
    have sk : Sky B (X.env :: X.outer) a (Zc cls d) X.env.locals s'.heap := hs ▸ sky
    refine Sky.land Zc.steady frame hf sk fun hL fL uL => ?_
    have JL : Inv X pins σ' H' { s' with heap := hL } := J.landed nb fL.1 (up.trans uL) os ag
    obtain ⟨oL, vL, gL, zL, dL⟩ := fL.there
    have apart : a ∉ frs (X.env :: X.outer) := fun hm => by
      obtain ⟨_, o', e', hnf⟩ := fL.2.2.1.mem hm
      rw [gL] at e'
      cases e'
      exact hnf _ dL
    have aL : a ≠ X.env.locals := fun z => apart (List.mem_filterMap.mpr ⟨X.env, List.mem_cons_self, by rw [hf, z]⟩)
    have aF : a ∉ X.fs := fun hm => by
      obtain ⟨e, he, q⟩ := List.mem_filterMap.mp hm
      exact apart (List.mem_filterMap.mpr ⟨e, List.mem_cons_of_mem _ he, q⟩)
    have SL := JL.suite gL dL na aL aF
    have LT : PySem.W.Looks (model X.prog X.w) hL (typeOf (.ref a)) cls := fun A Q E s k q => wpAny_typeOf_ref (k _ _ gL) (by rw [zL.1]; exact q)
    have names : ∀ {x : Str} {c : Value} {np : Pos} {Q : Value → Shared → Prop} {E : Value → Shared → Prop}, Names X x c → Q c { s' with heap := hL } → wpAny (model X.prog X.w) (X.A.mark (some (.ref a))) (eval (.Name x np) X.env) Q E { s' with heap := hL } := fun {x c np Q E} hc q => by
      obtain ⟨hg, hdbg, hm | ⟨hm, hv, hnn⟩⟩ := hc
      · exact ld_glob (X := X.suite a ((a, oL) :: (X.pn ++ pins))) SL hg hm q hdbg
      · exact ld_blt (X := X.suite a ((a, oL) :: (X.pn ++ pins))) SL hg hm hv q hnn hdbg
    suffices go : ∀ {hs' : List ExceptHandler} {l' : List Clz}, HnOk X hs' l' → hitN X.K D cls d σ' H' l' → wpAny (model X.prog X.w) X.A (handleBy (.ref a) X.env hs') (SP X pins D) X.xe { s' with heap := hL } from go hh w
    intro hs' l' hk
    induction hk with
    | nil => exact fun w => w.elim
    | @anon x c ts b₀ suite np pos' hds2 l2 hc hsu r ih =>
      intro w
      refine wpAny_handleBy_cons (codeAny_handlers_test ?_) (by intro q; cases q)
      rcases w with ⟨e, w⟩ | ⟨e, w⟩
      · refine names hc ((PySem.W.exm_one (M := model X.prog X.w) JL.kIn LT e).here ?_)
        refine codeAny_handlers_suite (HandSPX.lands_againZ fL fun h4 f4 u4 => ?_)
        have J4 : Inv X pins σ' H' { s' with heap := h4 } := J.landed nb f4.1 ((up.trans uL).trans u4) os ag
        obtain ⟨o4, v4, g4, z4, d4⟩ := f4.there
        refine wpAny_mono ((hsu a o4 cls d (X.pn ++ pins) z4 ⟨_, d4⟩).run [] _ σ' H' _ (J4.suite g4 d4 na aL aF) (w a na)) (fun f s6 hsp => ?_) (fun _ _ z => False.elim z)
        cases f with
        | ret u =>
          obtain ⟨v6, σ6, H6, S6, r6, q6⟩ := hsp
          exact ⟨_, _, _, S6.unsuite ok, r6, q6⟩
        | next | brk | cont =>
          obtain ⟨σ6, H6, S6, q6⟩ := hsp
          exact ⟨_, _, S6.unsuite ok, q6⟩
      · exact names hc ((PySem.W.exm_one (M := model X.prog X.w) JL.kIn LT e).here (ih w))
    | @named x n i c ts b₀ suite np pos' hds2 l2 hc hi hln hsu r ih =>
      intro w
      refine wpAny_handleBy_cons (codeAny_handlers_test ?_) (by intro q; cases q)
      rcases w with ⟨e, w⟩ | ⟨e, w⟩
      · refine names hc ((PySem.W.exm_one (M := model X.prog X.w) JL.kIn LT e).here ?_)
        refine codeAny_handlers_suite_as (HandSPX.lands_againZ fL fun h4 f4 u4 => ?_)
        have J4 : Inv X pins σ' H' { s' with heap := h4 } := J.landed nb f4.1 ((up.trans uL).trans u4) os ag
        obtain ⟨o4, v4, g4, z4, d4⟩ := f4.there
        refine store_ok (X := X.suite a ((a, o4) :: (X.pn ++ pins))) (v := .ref a) (J4.suite g4 d4 na aL aF) hN hi (.inl hln) rfl (fun s5 S5 => ?_) (.inr hln)
        refine wpAny_mono ((hsu a o4 cls d (X.pn ++ pins) z4 ⟨_, d4⟩).run [] s5 _ H' _ S5 (w a na)) (fun f s6 hsp => ?_) (fun _ _ z => False.elim z)
        have away : ∀ {σ6 : L2.St} {H6 : Hp} {Q : Shared → Prop}, Inv (X.suite a ((a, o4) :: (X.pn ++ pins))) [] σ6 H6 s6 → (∀ s7, Inv X pins (σ6.set i none) H6 s7 → Q s7) →
            wpAny (model X.prog X.w) X.A (do bindName X.env n .none; unbindBehindTheSuite X.env n pos') (fun _ s7 => Q s7) X.xe s6 := fun {σ6 H6 Q} S6 hq => gone_ok (S6.unsuite ok) hN hi hln hq
        cases f with
        | ret u =>
          obtain ⟨v6, σ6, H6, S6, r6, q6⟩ := hsp
          exact away S6 fun s7 J7 => ⟨_, _, _, J7, r6, q6⟩
        | next | brk | cont =>
          obtain ⟨σ6, H6, S6, q6⟩ := hsp
          exact away S6 fun s7 J7 => ⟨_, _, J7, q6⟩
      · exact names hc ((PySem.W.exm_one (M := model X.prog X.w) JL.kIn LT e).here (ih w))
  · cases f with
    | next =>
      obtain ⟨σ', H', J', q⟩ := hsp
      exact wpAny_execs_nil ⟨σ', H', J'.ofTry ok, q⟩
    | ret u =>
      obtain ⟨v, σ', H', J', r, q⟩ := hsp
      exact ⟨v, σ', H', J'.ofTry ok, r, q⟩
    | brk | cont =>
      obtain ⟨σ', H', J', q⟩ := hsp
      exact ⟨σ', H', J'.ofTry ok, q⟩⟩
/-- which clause takes the exception of the class cls -/
inductive Hits (K : PySem.W.Frag) (cls : Value) : List Value → Nat → Prop
  | here {c : Value} {r : List Value} (h : PySem.W.exmOne K cls c = some true) : Hits K cls (c :: r) 0
  | there {c : Value} {r : List Value} {k : Nat} (h : PySem.W.exmOne K cls c = some false) (t : Hits K cls r k) : Hits K cls (c :: r) (k + 1)
abbrev Sui := Option Nat × (Addr → Value → Option Addr → TS)
/-- the wish of a try's body, by a table of classes -/
def wT (tab : List (Value × Nat)) (cl : List Sui) (D : Ends) : WX := fun cls d σ H => ∃ k i ts, (cls, k) ∈ tab ∧ cl[k]? = some (i, ts) ∧ ∀ a, H a = none → ts a cls d (endsI i D) (setI i (.ref a) σ) H
def sTry (tab : List (Value × Nat)) (cl : List Sui) (tb : WX → TS) : TS := fun D σ H => tb (wT tab cl D) D σ H
theorem hits_of {K : PySem.W.Frag} {D : Ends} {cls : Value} {d : Option Addr} {σ : L2.St} {H : Hp} {i : Option Nat} {ts : Addr → Value → Option Addr → TS} (q : ∀ a, H a = none → ts a cls d (endsI i D) (setI i (.ref a) σ) H) :
    ∀ {l : List Clz} {k : Nat}, Hits K cls (l.map (·.c)) k → (l.map fun z => ((z.i, z.ts) : Sui))[k]? = some (i, ts) → hitN K D cls d σ H l
  | [], _, _, h => by cases h
  | z :: l, 0, h, e => by
    have e : ((z.i, z.ts) : Sui) = (i, ts) := by simpa using e
    cases e
    cases h with
    | here h => exact .inl ⟨h, q⟩
  | z :: l, k + 1, h, e => by
    cases h with
    | there h t => exact .inr ⟨h, hits_of q t (by simpa using e)⟩
theorem ps_tryT {tab : List (Value × Nat)} (tk0 : ∀ p ∈ tab, Hits X.K p.1 (l.map (·.c)) p.2) (hs : X.stack = X.env :: X.outer) (hf : X.env.frame = some X.env.locals) (hN : X.N.Nodup)
    (hb : ∀ (W : WX) (pn : List (Addr × Obj)) (xe : Value → Shared → Prop), Takes (X.tr pn xe) W → PassesOwn (model X.prog X.w) X.A X.env xe → PSs (X.tr pn xe) body (tb W))
    (hh : HnOk X (h₀ :: hds) l) : PS X (.Try body (h₀ :: hds) [] [] pos) (sTry tab (l.map fun z => (z.i, z.ts)) tb) := by
  refine ps_imp (ps_tryN (tb := fun W D σ H => ∃ W', (∀ c d σ H, W' c d σ H → W c d σ H) ∧ tb W' D σ H) hs hf hN (fun W pn xe tk pa => ⟨fun pins s σ H D I ⟨W', i, q⟩ => (hb W' pn xe (tk.imp i) pa).run pins s σ H D I q⟩) hh) fun D σ H q => ⟨_, fun c d σ H h => ?_, q⟩
  obtain ⟨k, i, ts, m, e, h⟩ := h
  exact hits_of h (tk0 _ m) e
end

/-! ### calls in a try's body: what is raised is wished for at the slots -/
section
variable {X : Cx} {CX : CXT} {k : Nat} {f C g p2' : Addr} {fd : FuncData} {ps : List Str} {sp : Sp} {E : L2.St → XK} {x m : Str} {p pos apos : Pos} {e o : Expr} {es : List Expr} {ta : TE} {t : TA}
def tCS (sp : Sp) (E : L2.St → XK) (t : TA) : TE := fun σ H Q => t σ H fun vs H1 => sp vs H1 Q (E σ)
def tMS (C : Addr) (m : Str) (sp : Sp) (E : L2.St → XK) (ta : TE) (t : TA) : TE := fun σ H Q => ta σ H fun x H1 => ∃ a dx fs, x = .ref a ∧ H1 a = some (.ins C dx fs) ∧ fs.lookup m = none ∧ t σ H1 fun vs H2 => sp (x :: vs) H2 Q (E σ)
def tNewS (C : Addr) (sp : Sp) (E : L2.St → XK) (t : TA) : TE := fun σ H Q => t σ H fun vs H1 => ∀ x dx, H1 x = none → H1 dx = none → dx ≠ x →
  sp (.ref x :: vs) (upd (upd H1 dx (.own x)) x (.ins C dx [])) (fun v H2 => v = .non ∧ Q (.ref x) H2) (E σ)
theorem pe_cS (F : FnOk X.prog X.w X.K X.mg X.base CX k f fd ps sp) (hr : Room k X.A) (hg : Gl X x) (hm : X.mg x = some (.ref f)) (hk : PySem.W.keepIn X.K (.ref f) = true) (hb : Binds X.K fd ps []) (hx : ∀ σ, PassesAt CX X σ (E σ))
    (ha : PA X (e :: es) t) (hdb : (x == ("__debug__" : Str)) = false := by decide) (he : starEach (e :: es) X.env = (false, eval e X.env) :: starEach es X.env := by rfl) (hpl : (backTo pos (starEach es X.env)).any (·.1) = false := by rfl) :
    PE X (.Call (.Name x p) (e :: es) [] pos) (tCS sp E t) := pe_callS F hr hg hm hk hb hx ha hdb he hpl
theorem pe_cS0 (F : FnOk X.prog X.w X.K X.mg X.base CX k f fd ps sp) (hr : Room k X.A) (hg : Gl X x) (hm : X.mg x = some (.ref f)) (hk : PySem.W.keepIn X.K (.ref f) = true) (hb : Binds X.K fd ps []) (hx : ∀ σ, PassesAt CX X σ (E σ))
    (hdb : (x == ("__debug__" : Str)) = false := by decide) : PE X (.Call (.Name x p) [] [] pos) (tCS sp E tNil) :=
  ⟨fun _ _ σ _ _ I h => wpAny_Call_Name_kw (ld_glob I hg hm (PySem.W.callWith_K0 I.kIn hk (run_fnS (us := []) F hr hb (hx σ) I .nil h)) hdb)⟩
theorem pe_mS {pl : Sem Bool} (he : PE X o ta) (c : Cls X.K C) (hm : Meth X.K C m f) (F : FnOk X.prog X.w X.K X.mg X.base CX k f fd ps sp) (hr : Room k X.A) (hb : Binds X.K fd ps []) (hx : ∀ σ, PassesAt CX X σ (E σ)) (ha : PA X (e :: es) t)
    (hst : starEach (e :: es) X.env = (false, eval e X.env) :: starEach es X.env := by rfl) (hpl : (backTo pos (starEach es X.env)).any (·.1) = false := by rfl)
    (ht : eval (.Call (.Attribute o m apos) (e :: es) [] pos) X.env = (do
      let ov ← eval o X.env
      standAt apos.atName
      let (f, first) ← holding [ov] (getMethod ov m pl)
      callWith pos f first (backTo pos (starEach (e :: es) X.env)) (backToKw pos (keywordEach [] X.env))) := by rfl) :
    PE X (.Call (.Attribute o m apos) (e :: es) [] pos) (tMS C m sp E ta t) := by
  refine ⟨fun pins s σ H Q I h => PySem.W.methodCall_KW (pl := pl) (thn (he.run pins s σ H _ I h) fun u s1 ⟨x, H1, I1, rx, a, dx, fs, ex, ea, l, q⟩ => ?_) ht⟩
  subst ex
  obtain rfl : u = Value.ref a := rx
  refine getmeth_ok I1 ea c hm l (PySem.W.callWith_K (first := [.ref a]) (h₀ := X.base) I.ok.mod.kin hm.kp (thn (ha.run pos pins s1 σ H1 _ I1 q) fun us s2 ⟨vs, H2, I2, r, q2⟩ => ⟨I2.kIn, ?_⟩) hst hpl)
  exact run_fnS (us := .ref a :: us) (vs := .ref a :: vs) F hr hb (hx σ) I2 (.cons rfl r) q2
theorem pe_mS0 {pl : Sem Bool} (he : PE X o ta) (c : Cls X.K C) (hm : Meth X.K C m f) (F : FnOk X.prog X.w X.K X.mg X.base CX k f fd ps sp) (hr : Room k X.A) (hb : Binds X.K fd ps []) (hx : ∀ σ, PassesAt CX X σ (E σ))
    (ht : eval (.Call (.Attribute o m apos) [] [] pos) X.env = (do
      let ov ← eval o X.env
      standAt apos.atName
      let (f, first) ← holding [ov] (getMethod ov m pl)
      callWith pos f first (backTo pos (starEach [] X.env)) (backToKw pos (keywordEach [] X.env))) := by rfl) :
    PE X (.Call (.Attribute o m apos) [] [] pos) (tMS C m sp E ta tNil) := by
  refine ⟨fun pins s σ H Q I h => PySem.W.methodCall_KW (pl := pl) (thn (he.run pins s σ H _ I h) fun u s1 ⟨x, H1, I1, rx, a, dx, fs, ex, ea, l, q⟩ => ?_) ht⟩
  subst ex
  obtain rfl : u = Value.ref a := rx
  exact getmeth_ok I1 ea c hm l (PySem.W.callWith_K0 (first := [.ref a]) I1.kIn hm.kp (run_fnS (us := [.ref a]) (vs := [.ref a]) F hr hb (hx σ) I1 (.cons rfl .nil) q))
theorem run_newS {E : XK} {pins : List (Addr × Obj)} {σ : L2.St} {H : Hp} {s : Shared} {Q : VK} {us : List Value} {vs : List V} (M : Mk X.K C f) (F : FnOk X.prog X.w X.K X.mg X.base CX k f fd ps sp) (hr : Room (k + 1) X.A) (hb : Binds X.K fd ps [])
    (hx : PassesAt CX X σ E) (I : Inv X pins σ H s) (r : Vals vs us)
    (h : ∀ x dx, H x = none → H dx = none → dx ≠ x → sp (.ref x :: vs) (upd (upd H dx (.own x)) x (.ins C dx [])) (fun v H2 => v = .non ∧ Q (.ref x) H2) E) : wpAny (model X.prog X.w) X.A (call (.ref C) us) (EP X pins σ Q) X.xe s := by
  have nn := Nat.le_refl s.heap.objs.size
  have hq := h (s.heap.objs.size + 1) s.heap.objs.size (I.hok.fresh (Nat.le_succ _)) (I.hok.fresh nn) (Nat.ne_of_lt (Nat.lt_succ_self _))
  have I2 := Inv.made (C := C) I
  have r2 : Vals (V.ref (s.heap.objs.size + 1) :: vs) (Value.ref (s.heap.objs.size + 1) :: us) := .cons rfl r
  have hl : (Value.ref (s.heap.objs.size + 1) :: us).length = ps.length := r2.length.symm.trans (F.len _ _ _ _ hq)
  have b := hb _ (Value.ref (s.heap.objs.size + 1) :: us) I2.kIn (by rw [List.append_nil]; exact hl)
  rw [List.append_nil] at b
  have e0 := I2.env0.make C us []
  refine wpAny_call (make_map (f := f) I.kIn M.makes M.init (beq_iff_eq.mp M.fn) (codeAny_mono (F.run _ X.stack _ _ ⟨Value.ref (s.heap.objs.size + 1) :: us, []⟩ _ _ _ _ (hr.make C us []) e0 b r2 hq) fun r s' hq' => ?_))
  cases r with
  | error e => exact hx pins _ _ e s' I2 hq'
  | ok fl =>
    cases fl with
    | ret u =>
      obtain ⟨v, H', I3, rv, ev, q3⟩ := I2.after hq'
      subst ev
      exact ⟨rv, V.ref (s.heap.objs.size + 1), H', I3, rfl, q3⟩
    | next | brk | cont => exact False.elim hq'
theorem pe_newS (M : Mk X.K C f) (F : FnOk X.prog X.w X.K X.mg X.base CX k f fd ps sp) (hr : Room (k + 1) X.A) (hg : Gl X x) (hm : X.mg x = some (.ref C)) (hb : Binds X.K fd ps []) (hx : ∀ σ, PassesAt CX X σ (E σ))
    (ha : PA X (e :: es) t) (hdb : (x == ("__debug__" : Str)) = false := by decide) (he : starEach (e :: es) X.env = (false, eval e X.env) :: starEach es X.env := by rfl) (hpl : (backTo pos (starEach es X.env)).any (·.1) = false := by rfl) :
    PE X (.Call (.Name x p) (e :: es) [] pos) (tNewS C sp E t) :=
  ⟨fun pins s σ H Q I h => wpAny_Call_Name_kw (ld_glob I hg hm (PySem.W.callWith_K (h₀ := X.base) I.ok.mod.kin M.kp (thn (ha.run pos pins s σ H _ I h) fun us s1 ⟨vs, H1, I1, r, q⟩ => ⟨I1.kIn, run_newS M F hr hb (hx σ) I1 r q⟩) he hpl) hdb)⟩
end

/-! ### in an except suite: isinstance, fields -/
/-- its dict stands -/
def DOk (d : Option Addr) (H : Hp) : Prop := ∃ dd fs, d = some dd ∧ H dd = some (.xd fs)
/-- isinstance(e, c), e the exception in hand, by a table -/
def rIsX (tbl : List (Value × V × Bool)) (a : Addr) (cls : Value) (d : Option Addr) : List V → Hp → VK → Prop := fun xs H Q => (∃ c b, xs = [.ref a, c] ∧ (cls, c, b) ∈ tbl ∧ DOk d H ∧ Q (.bl b) H) ∨ rIsI xs H Q
structure IsOk (K : PySem.W.Frag) (cls : Value) (c : V) (b : Bool) : Prop where
  ex : ∃ (D : Addr) (cv : Value), cls = .ref D ∧ ExcC K D ∧ (∀ u, RelV c u → u = cv) ∧ PySem.W.kitOne K (.ref D) cv = some b
theorem c_isX {X : Cx} {a : Addr} {oe : Obj} {cls : Value} {d : Option Addr} {pn : List (Addr × Obj)} {tbl : List (Value × V × Bool)} (T : ∀ p ∈ tbl, IsOk X.K p.1 p.2.1 p.2.2) (hz : Zc cls d oe) (hf : ∃ vs, oe.data = .fields vs) :
    CallR (X.suite a ((a, oe) :: pn)) (.builtin "isinstance") (rIsX tbl a cls d) := by
  intro pins s σ H xs us Q I r h
  rcases h with ⟨c, b, rfl, m, ⟨dd, fs, ed, ea⟩, q⟩ | h
  · obtain ⟨D, cv, ec, C, hcv, e⟩ := (T _ m).ex
    cases r with
    | cons rx rr =>
      cases rr with
      | cons rt rr =>
        cases rr
        obtain rfl := hcv _ rt
        cases rx
        obtain ⟨vs, hv⟩ := hf
        have hget := (I.pin (a, oe) (List.mem_append_left _ List.mem_cons_self)).1
        have ho : ObjOk X.prog X.w H s.heap dd (.xd fs) := I.hok dd _ ea
        obtain ⟨mA, ⟨od, es, ep, ho, _⟩, _⟩ := ho
        have J : PySem.W.InstAt s.heap a oe D (some od) := ⟨hget, by rw [hz.1]; exact ec, by unfold PySem.W.notCls; rw [hv] <;> rfl, by rw [hz.2, ed]; exact ho⟩
        have hcl : (PySem.W.clsIn X.K D).isSome = true := by
          obtain ⟨cd, hc, _⟩ := PySem.W.any_some C.hd
          rw [hc]
          rfl
        exact PySem.W.kia_one (PySem.W.kitx_exc hcl C.hg C.hk C.hs C.ha C.hn C.ht C.hm) I.kIn J e (fun z => nomatch z) fun tk => ⟨.bl b, H, I.kept (t' := tk) fun _ _ z => z, rfl, q⟩
  · exact c_isi pins s σ H xs us Q I r h
/-- e.f, e the exception in hand -/
def eXf (a : Addr) (cls : Value) (d : Option Addr) (Cs : List Addr) (f : Str) (te : TE) : TE := fun σ H Q => te σ H fun x H1 => x = .ref a ∧ ∃ C, C ∈ Cs ∧ cls = .ref C ∧ ∃ (dd : Addr) (fs : List (Str × V)) (v : V), d = some dd ∧ H1 dd = some (.xd fs) ∧ fs.lookup f = some v ∧ Q v H1
structure XfOk (K : PySem.W.Frag) (C : Addr) (f : Str) : Prop where
  xf : XfC K C
  no : PySem.W.findIn K (.ref C) f = some none
theorem pe_eXf {X : Cx} {a : Addr} {oe : Obj} {cls : Value} {d : Option Addr} {pn : List (Addr × Obj)} {e : Expr} {te : TE} {pos : Pos} {n : Str} {Cs : List Addr} (T : ∀ C ∈ Cs, XfOk X.K C n) (hz : Zc cls d oe) (hf : ∃ vs, oe.data = .fields vs) (he : PE (X.suite a ((a, oe) :: pn)) e te)
    (hb : attributeBase e n X.env (eval e X.env) = eval e X.env := by rfl) : PE (X.suite a ((a, oe) :: pn)) (.Attribute e n pos) (eXf a cls d Cs n te) := by
  refine ⟨fun pins s σ H Q I h => attr_of hb (thn (he.run pins s σ H _ I h) fun u s1 hh => ?_)⟩
  obtain ⟨x, H1, I1, rx, rfl, C, hC, rfl, dd, fs, v, rfl, ea, l, q⟩ := hh
  obtain rfl : u = Value.ref a := rx
  have T1 := (T C hC).xf
  obtain ⟨ha, _⟩ := I1.pin (a, oe) (List.mem_append_left _ List.mem_cons_self)
  obtain ⟨vs, hd⟩ := hf
  obtain ⟨mA, hns, hr⟩ : ObjOk X.prog X.w H1 s1.heap dd (.xd fs) := I1.hok dd _ ea
  obtain ⟨od, ho, hl⟩ := lookIn_ns hns
  obtain ⟨u, hu, ru⟩ := RelO.some_of (v := v) (o := mA n) (by rw [← l]; exact hr n)
  have J : PySem.W.InstAt s1.heap a oe C (some od) := ⟨ha, hz.1, by unfold PySem.W.notCls; rw [hd] <;> rfl, by rw [hz.2]; exact ho⟩
  exact HandSPX.exc_get I1.kIn J T1.ga T1.gg T1.exC (PySem.W.findObj_own T1.hdC (T C hC).no rfl (by rw [hl, hu])) (handed_of ru) ⟨v, H1, I1.tok _, ru, q⟩

/-! ### a def of the text that says super(), by its body -/
structure FunS (P : Program) (K : PySem.W.Frag) (x qual : Str) (st : Stmt) (f : Addr) (fd : FuncData) (D : Addr) : Prop where
  ex : ∃ (oc cl ccl dV kV doc pm ct : Value) (od cld cdd an : Option Addr) (osl csl ccs : Array (Option Value)) (cda cc : Addr) (vs : Array Value) (file : Str) (tf : Tok) (cdD : ClassData),
    fd = ksFn x qual (defArgs st) (defBody st) (defScope st) dV kV doc pm an (.ref cda) ct cc ∧ K.lookup f = some ⟨oc, od, .func fd, osl⟩ ∧ PySem.W.codeIn K (.ref cda) qual = true ∧ K.lookup cc = some ⟨cl, cld, .cell (some (.ref D)), csl⟩ ∧
    K.lookup cda = some ⟨ccl, cdd, .fields vs, ccs⟩ ∧ vs[2]? = some (.str file tf) ∧ ((P.main.file : Str) == file) = true ∧ PySem.W.clsIn K D = some cdD
  kp : PySem.W.keepIn K (.ref f) = true
theorem FunS.ok {P : Program} {w : World} {K : PySem.W.Frag} {mg : Str → Option Value} {base : Heap} {x qual : Str} {st : Stmt} {f D : Addr} {fd : FuncData} {N ps : List Str} {k : Nat} {sp : Sp} {ar : Arg} (F : FunS P K x qual st f fd D) (S : FnScS N ps (defScope st))
    (ha : ((defArgs st).posonlyargs ++ (defArgs st).args).head? = some ar) (hka : (defScope st).names.lookup ar.arg = some .local) (hN : N[0]? = some ar.arg) (hks : (defScope st).names.lookup ("super" : Str) = some .globalImplicit) (hkc : (defScope st).names.lookup ("__class__" : Str) = some .free)
    (htop : (P.main.scope.names.lookup ("super" : Str)).isSome = false) (hmg : mg "super" = none) (len : ∀ vs H Q E, sp vs H Q E → vs.length = ps.length)
    (hbody : ∀ (cdv : Value) (cc : Addr) (A : Around) (outer : List Env) (s : Shared) (H : Hp) (vs : List V) (Q : VK) (E : XK), Room k (A.deeper (ksEnv qual (defScope st) s.heap.objs.size f cdv cc)) → SupT (cxS P w K mg base N qual (defScope st) f cdv cc A outer s H E) D → sp vs H Q E →
      ∃ t, PSsA (cxS P w K mg base N qual (defScope st) f cdv cc A outer s H E) (.func (defBody st) (ksEnv qual (defScope st) s.heap.objs.size f cdv cc)) (defBody st) t ∧ t { nx := fun _ H' => Q .non H', rt := Q } (L2.start N vs) H) :
    FnOk P w K mg base (L2.CX P w) (k + 1) f fd ps sp := by
  obtain ⟨oc, cl, ccl, dV, kV, doc, pm, ct, od, cld, cdd, an, osl, csl, ccs, cda, cc, vs, file, tf, cdD, e, lk, hcd, hcc, hcode, hv, hfile, hD⟩ := F.ex
  subst e
  refine fn_ofS lk hcd hcc S len fun A outer s H vs' Q E hr hsp => hbody (.ref cda) cc A outer s H vs' Q E hr ?_ hsp
  refine ⟨⟨f, cc, cda, _, ar, vs, file, tf, oc, ccl, cl, od, cdd, cld, osl, ccs, csl, cdD, rfl, lk, ha, rfl, hcode, hv, hfile, ?_, hcc, hD, hka, hN⟩, hks, hkc, htop, hmg⟩
  show List.lookup ("__class__" : Str) [(("__class__" : Str), cc)] = some cc
  simp [List.lookup]
/-- an error with one field -/
theorem ex1 {K : PySem.W.Frag} {Cs : List Addr} {D : Addr} {f m : Str} (h : ∀ C ∈ Cs, SupV K C D ∧ PySem.W.findIn K (.ref C) f = some none) {vs : List V} {H : Hp} {Q : VK} {E : XK} (q : spEx Cs [f] vs H Q E) {n x : Str} :
    tSeq (tDrop (tSupV K D (tCons (tC (.str m)) tNil))) (tOst K f (tVar 0) (tVar 1)) { nx := fun _ H' => Q .non H', rt := Q } (L2.start [n, x] vs) H := by
  obtain ⟨a, C, ys, hC, rfl, hl, ea, q⟩ := q
  obtain ⟨V, na⟩ := h C hC
  cases ys with
  | nil => cases hl
  | cons y ys =>
    cases ys with
    | cons _ _ => cases hl
    | nil => exact ⟨a, C, rfl, ea, V, (by show 1 ≤ 1000; decide), ea, y, rfl, .ref a, rfl, a, C, rfl, V.ex, na, .inl ⟨ea, fun dx hd hne => q dx hd hne⟩⟩
theorem spEx_len {Cs : List Addr} {fs : List Str} (vs : List V) (H : Hp) (Q : VK) (E : XK) (q : spEx Cs fs vs H Q E) : vs.length = fs.length + 1 := by
  obtain ⟨a, C, ys, _, rfl, hl, _⟩ := q
  rw [List.length_cons, hl]
theorem all_nil {α : Type} {p : α → Prop} : ∀ x ∈ ([] : List α), p x := fun _ h => nomatch h
theorem all_cons {α : Type} {p : α → Prop} {a : α} {l : List α} (h : p a) (t : ∀ x ∈ l, p x) : ∀ x ∈ a :: l, p x := fun x m => by
  rcases List.mem_cons.mp m with e | m
  · rw [e]; exact h
  · exact t x m
end Y

/-! Objects of several classes: dispatch, inherited members, super().m(..), defaults. -/
namespace Y
open PySem PySem.Spec PyProof.Rows L2
open PySem.W (ksEnv ksFn)

/-! ### a method, a field, a property by the object's class -/
structure MD (X : Cx) (m : Str) (k : Nat) (p : Addr × Sp) : Prop where
  ex : ∃ (f : Addr) (fd : FuncData) (ps : List Str), Cls X.K p.1 ∧ Meth X.K p.1 m f ∧ FnOk X.prog X.w X.K X.mg X.base (L2.CX X.prog X.w) k f fd ps p.2 ∧ Binds X.K fd ps []
structure PD (X : Cx) (f : Str) (k : Nat) (p : Addr × Sp) : Prop where
  ex : ∃ (pa g : Addr) (fd : FuncData) (ps : List Str), Cls X.K p.1 ∧ PropOf X.K p.1 f pa g ∧ FnOk X.prog X.w X.K X.mg X.base (L2.CX X.prog X.w) k g fd ps p.2 ∧ Binds X.K fd ps []
structure FD (K : PySem.W.Frag) (f : Str) (C : Addr) : Prop where
  c : Cls K C
  n : NoAttr K C f
def tMD (l : List (Addr × Sp)) (m : Str) (E : L2.St → XK) (ta : TE) (t : TA) : TE := fun σ H Q => ta σ H fun x H1 => ∃ a C dx fs sp, x = .ref a ∧ H1 a = some (.ins C dx fs) ∧ (C, sp) ∈ l ∧ fs.lookup m = none ∧ t σ H1 fun vs H2 => sp (x :: vs) H2 Q (E σ)
def eFldD (Cs : List Addr) (f : Str) (te : TE) : TE := fun σ H Q => te σ H fun x H1 => ∃ a C dx fs v, x = .ref a ∧ H1 a = some (.ins C dx fs) ∧ C ∈ Cs ∧ fs.lookup f = some v ∧ Q v H1
def sSetFD (Cs : List Addr) (f : Str) (te tv : TE) : TS := fun D σ H => tv σ H fun y H1 => te σ H1 fun x H2 => ∃ a C dx fs, x = .ref a ∧ H2 a = some (.ins C dx fs) ∧ C ∈ Cs ∧ fs.length < 1000 ∧ D.nx σ (upd H2 a (.ins C dx (putF f y fs)))
def sAugFD (Cs : List Addr) (f : Str) (te tv : TE) (rd : V → V → Hp → VK → Prop) : TS := fun D σ H => te σ H fun x H1 => ∃ a C dx fs v, x = .ref a ∧ H1 a = some (.ins C dx fs) ∧ C ∈ Cs ∧ fs.lookup f = some v ∧
  tv σ H1 fun y H2 => rd v y H2 fun z H3 => ∃ dx' fs', H3 a = some (.ins C dx' fs') ∧ fs'.length < 1000 ∧ D.nx σ (upd H3 a (.ins C dx' (putF f z fs')))
def ePropD (l : List (Addr × Sp)) (te : TE) : TE := fun σ H Q => te σ H fun x H1 => ∃ a C dx fs sp, x = .ref a ∧ H1 a = some (.ins C dx fs) ∧ (C, sp) ∈ l ∧ sp [.ref a] H1 Q E0
theorem pass_at {X : Cx} {CX : CXT} {E : XK} (hx : Passes CX X E) (σ : L2.St) : PassesAt CX X σ ((fun _ => E) σ) := fun pins H s e s' I c => hx pins σ H s e s' I c
section
variable {X : Cx} {k : Nat} {l : List (Addr × Sp)} {Cs : List Addr} {m f : Str} {E : L2.St → XK} {p pos pos' apos : Pos} {e ev o : Expr} {es : List Expr} {ta te tv : TE} {t : TA}
theorem pe_mD {pl : Sem Bool} (he : PE X o ta) (T : ∀ p ∈ l, MD X m k p) (hr : Room k X.A) (hx : ∀ σ, PassesAt (L2.CX X.prog X.w) X σ (E σ)) (ha : PA X (e :: es) t)
    (hst : starEach (e :: es) X.env = (false, eval e X.env) :: starEach es X.env := by rfl) (hpl : (backTo pos (starEach es X.env)).any (·.1) = false := by rfl)
    (ht : eval (.Call (.Attribute o m apos) (e :: es) [] pos) X.env = (do
      let ov ← eval o X.env
      standAt apos.atName
      let (f, first) ← holding [ov] (getMethod ov m pl)
      callWith pos f first (backTo pos (starEach (e :: es) X.env)) (backToKw pos (keywordEach [] X.env))) := by rfl) :
    PE X (.Call (.Attribute o m apos) (e :: es) [] pos) (tMD l m E ta t) := by
  refine ⟨fun pins s σ H Q I h => PySem.W.methodCall_KW (pl := pl) (thn (he.run pins s σ H _ I h) fun u s1 ⟨x, H1, I1, rx, a, C, dx, fs, sp, ex, ea, hC, l, q⟩ => ?_) ht⟩
  obtain ⟨f, fd, ps, c, hm, F, hb⟩ := (T _ hC).ex
  subst ex
  obtain rfl : u = Value.ref a := rx
  refine getmeth_ok I1 ea c hm l (PySem.W.callWith_K (first := [.ref a]) (h₀ := X.base) I.ok.mod.kin hm.kp (thn (ha.run pos pins s1 σ H1 _ I1 q) fun us s2 ⟨vs, H2, I2, r, q2⟩ => ⟨I2.kIn, ?_⟩) hst hpl)
  exact run_fnS (us := .ref a :: us) (vs := .ref a :: vs) F hr hb (hx σ) I2 (.cons rfl r) q2
theorem pe_mD0 {pl : Sem Bool} (he : PE X o ta) (T : ∀ p ∈ l, MD X m k p) (hr : Room k X.A) (hx : ∀ σ, PassesAt (L2.CX X.prog X.w) X σ (E σ))
    (ht : eval (.Call (.Attribute o m apos) [] [] pos) X.env = (do
      let ov ← eval o X.env
      standAt apos.atName
      let (f, first) ← holding [ov] (getMethod ov m pl)
      callWith pos f first (backTo pos (starEach [] X.env)) (backToKw pos (keywordEach [] X.env))) := by rfl) :
    PE X (.Call (.Attribute o m apos) [] [] pos) (tMD l m E ta tNil) := by
  refine ⟨fun pins s σ H Q I h => PySem.W.methodCall_KW (pl := pl) (thn (he.run pins s σ H _ I h) fun u s1 ⟨x, H1, I1, rx, a, C, dx, fs, sp, ex, ea, hC, l, q⟩ => ?_) ht⟩
  obtain ⟨f, fd, ps, c, hm, F, hb⟩ := (T _ hC).ex
  subst ex
  obtain rfl : u = Value.ref a := rx
  exact getmeth_ok I1 ea c hm l (PySem.W.callWith_K0 (first := [.ref a]) I1.kIn hm.kp (run_fnS (us := [.ref a]) (vs := [.ref a]) F hr hb (hx σ) I1 (.cons rfl .nil) q))
theorem pe_fldD (T : ∀ C ∈ Cs, FD X.K f C) (he : PE X e te) (hb : attributeBase e f X.env (eval e X.env) = eval e X.env := by rfl) : PE X (.Attribute e f pos) (eFldD Cs f te) :=
  pe_imp (pe_fld (pe_mo he) hb) fun σ H Q q => ⟨_, q, fun v H' ⟨a, C, dx, fs, w, e1, e2, hC, l, q⟩ => ⟨a, C, dx, fs, w, e1, e2, (T C hC).c, (T C hC).n, l, q⟩⟩
theorem ps_setFD (T : ∀ C ∈ Cs, FD X.K f C) (ha : PE X o te) (hv : PE X ev tv) (hs : swapsWith ev (some (.Attribute o f pos')) pos.line X.env = pure false := by rfl) : PS X (.Assign [.Attribute o f pos'] ev pos) (sSetFD Cs f te tv) :=
  ps_imp (ps_fld (pe_mo ha) (pe_mo hv) hs) fun D σ H q => ⟨_, q, fun y H1 q1 => ⟨_, q1, fun x H2 ⟨a, C, dx, fs, e1, e2, hC, l, q2⟩ => ⟨a, C, dx, fs, e1, e2, (T C hC).c, (T C hC).n, l, q2⟩⟩⟩
theorem ps_augFD {op : Operator} {rd : V → V → Hp → VK → Prop} (T : ∀ C ∈ Cs, FD X.K f C) (ha : PE X o te) (hv : PE X ev tv) (hop : InOp X op rd) : PS X (.AugAssign (.Attribute o f pos') op ev pos) (sAugFD Cs f te tv rd) :=
  ps_imp (ps_fldaug (pe_mo ha) (pe_mo hv) hop) fun D σ H q => ⟨_, q, fun x H1 ⟨a, C, dx, fs, v, e1, e2, hC, l, q2⟩ => ⟨a, C, dx, fs, v, e1, e2, (T C hC).c, (T C hC).n, l, ⟨_, q2, fun y H2 q3 => q3⟩⟩⟩
theorem pe_propD (he : PE X e te) (T : ∀ p ∈ l, PD X f k p) (hr : Room (k + 1) X.A) (hx : Passes (L2.CX X.prog X.w) X.nox E0) (hab : attributeBase e f X.env (eval e X.env) = eval e X.env := by rfl) : PE X (.Attribute e f pos) (ePropD l te) := by
  refine ⟨fun pins s σ H Q I h => attr_of hab (thn (he.run pins s σ H _ I h) fun u s1 ⟨x, H1, I1, rx, a, C, dx, fs, sp, ex, ea, hC, q⟩ => ?_)⟩
  obtain ⟨pa, g, fd, ps, c, hp, F, hb⟩ := (T _ hC).ex
  subst ex
  obtain rfl : u = Value.ref a := rx
  exact getprop_ok I1 ea c hp F hr hb .nil hx q
end

/-! ### super().m(..), m of an own class -/
structure SupM (K : PySem.W.Frag) (m : Str) (D f2 : Addr) (C : Addr) : Prop where
  opq : PySem.W.nsIn K PySem.cStatics "thirdparty.any" = some none
  fnd : PySem.W.ks_superIn K C D m = some (some (.ref f2))
  ty : PySem.W.typeIn K (.ref f2) = some (.type "function")
  fn : PySem.W.fnIn K f2 = true
  cls : (PySem.W.clsIn K C).isSome = true
  mro : PySem.W.mroIn K C (.ref D) = some true
def tSupM (Cs : List Addr) (sp : Sp) (E : XK) (t : TA) : TE := fun σ H Q => ∃ a C dx fs, σ[0]? = some (some (.ref a)) ∧ H a = some (.ins C dx fs) ∧ C ∈ Cs ∧ t σ H fun vs H1 => sp (.ref a :: vs) H1 Q E
section
variable {X : Cx} {D f2 : Addr} {Cs : List Addr} {m : Str} {k : Nat} {fd2 : FuncData} {ps2 : List Str} {sp : Sp} {E : XK} {body : List Stmt} {p0 p1 apos pos pos2 : Pos} {e : Expr} {es : List Expr} {ta : TA}
theorem psa_supM (T : SupT X D) (S : ∀ C ∈ Cs, SupM X.K m D f2 C) (F : FnOk X.prog X.w X.K X.mg X.base (L2.CX X.prog X.w) k f2 fd2 ps2 sp) (hr : Room k X.A) (hb : Binds X.K fd2 ps2 []) (hx : Passes (L2.CX X.prog X.w) X E) (ha : PA X (e :: es) ta) (hmc : (m == ("__class__" : Str)) = false := by decide) {pl : Sem Bool}
    (hc : eval (.Call (.Attribute (.Call (.Name "super" p0) [] [] p1) m apos) (e :: es) [] pos) X.env = (do
      let ov ← attributeBase (.Call (.Name "super" p0) [] [] p1) m X.env (eval (.Call (.Name "super" p0) [] [] p1) X.env)
      standAt apos.atName
      let (f, first) ← holding [ov] (getMethod ov m pl)
      callWith pos f first (backTo pos (starEach (e :: es) X.env)) []) := by rfl)
    (hi : interactive X.env = false := by rfl) (hs : swapsWith (.Call (.Attribute (.Call (.Name "super" p0) [] [] p1) m apos) (e :: es) [] pos) none pos2.line X.env = pure false := by rfl)
    (he : starEach (e :: es) X.env = (false, eval e X.env) :: starEach es X.env := by rfl) (hpl : (backTo pos (starEach es X.env)).any (·.1) = false := by rfl) :
    PSA X (.func body X.env) (.Expr (.Call (.Attribute (.Call (.Name "super" p0) [] [] p1) m apos) (e :: es) [] pos) pos2) (tDrop (tSupM Cs sp E ta)) := by
  refine ⟨fun pins s σ H K I h => ?_⟩
  obtain ⟨a, C, dx, fs, hσ, ea, hC, q⟩ := h
  obtain ⟨f, cc, cda, fd, ar, vs, file, tf, oc, ccl, cl, od, cdd, cld, osl, ccs, csl, cdD, z1, z2, z3, z4, z5, z6, z7, z8, z9, z10, z11, z12⟩ := T.ex
  obtain ⟨opq, fnd, ty, fnn, cls, mro⟩ := S C hC
  obtain ⟨mA, J0, _⟩ := ins_get I.hok ea
  obtain ⟨odx, J, _⟩ := J0.look
  obtain ⟨cd, hcl⟩ := Option.isSome_iff_exists.mp cls
  refine ks_wpAt_Expr_any (ks_wpAt_MethodCall (sup_base I T.ks T.kc hmc z1 z2 z3 z4 z5 z6 z7 T.top T.mg z8 z9 z10 z11 z12 hσ J mro fun h1 o1 k1 => ?_) hc) hi hs
  have KX : X.K.In h1 := I.kIn.keeps k1
  obtain ⟨hp, g, d, t, os⟩ := s
  obtain ⟨of, hof, hofc⟩ : ∃ of, h1.get? f2 = some of ∧ of.cls = .type "function" := by
    have ht' : (X.K.lookup f2).map (·.cls) = some (.type "function") := ty
    cases z : X.K.lookup f2 with
    | none => rw [z] at ht'; cases ht'
    | some of => rw [z] at ht'; exact ⟨of, KX _ _ z, Option.some.inj ht'⟩
  have hf := fnd
  unfold PySem.W.ks_superIn at hf
  rw [hcl] at hf
  refine ks_wpAny_getMethod_super o1 (PySem.W.looks_opaque KX opq) (l₀ := cd.mro) (fun A Q E s k q => wpAny_bind ((PySem.W.looks_clsIn KX hcl) A _ E s k (wpAny_pure q))) rfl KX hf hof hofc (PySem.W.ks_ne I.kIn J hcl) hmc ?_
  have kk : ∀ b o, hp.get? b = some o → (h1.push { cls := .type "method", data := .fields #[.ref f2, .ref a] }).get? b = some o := fun b o z => Heap.get?_push_of_some _ (k1 b o z)
  have hu : (h1.push { cls := .type "method", data := .fields #[.ref f2, .ref a] }).get? h1.objs.size = some { cls := .type "method", data := .fields #[.ref f2, .ref a] } := Heap.get?_push_at rfl rfl
  have szu : hp.objs.size ≤ h1.objs.size := Nat.le_of_lt (Heap.lt_size o1)
  have I2 : Inv X ((h1.objs.size, { cls := .type "method", data := .fields #[.ref f2, .ref a] }) :: pins) σ H ⟨h1.push { cls := .type "method", data := .fields #[.ref f2, .ref a] }, g, d, t + 1, os⟩ := by
    have z : Inv X pins σ H ⟨h1.push { cls := .type "method", data := .fields #[.ref f2, .ref a] }, g, d, t + 1, os⟩ := I.kept (t' := t + 1) kk
    refine z.pins_of fun p hp' => ?_
    rcases List.mem_cons.mp hp' with e | hp'
    · subst e
      have hl := I.lt
      refine ⟨hu, I.hok.fresh szu, fun y => ?_, I.nofs szu, fun v y => ?_⟩
      · have y : h1.objs.size = X.env.locals := y
        have hl : X.env.locals < hp.objs.size := hl
        rw [← y] at hl
        exact absurd (Nat.lt_of_lt_of_le hl szu) (Nat.lt_irrefl _)
      · cases y
    · exact z.pin p (List.mem_append_right _ hp')
  rw [he]
  refine PySem.W.callWith_of (P := PySem.W.MethP X.K h1.objs.size f2 (.ref a)) (by show ((false || (backTo pos (starEach es X.env)).any (·.1)) || false) = false; rw [hpl]; rfl) (PySem.W.keeps_M fnn) ?_
  have hsp := ha.run pos _ _ σ H _ I2 q
  rw [he] at hsp
  refine PySem.Calls.evalArgs_plain (wpAny_mono hsp (fun us s2 h2 => ?_) fun _ _ z => z)
  obtain ⟨ws, H2, I3, rw', q2⟩ := h2
  have pu := (I3.pin (h1.objs.size, { cls := .type "method", data := .fields #[.ref f2, .ref a] }) (List.mem_append_right _ List.mem_cons_self)).1
  refine ⟨⟨pu, I3.kIn⟩, ?_⟩
  have I4 : Inv X pins σ H2 s2 := I3.pins_of fun p hp' => I3.pin p (by
    rcases List.mem_append.mp (List.mem_append_right X.pn hp') with z | z
    · exact List.mem_append_left _ z
    · exact List.mem_append_right _ (List.mem_cons_of_mem _ z))
  have r2 : Vals (V.ref a :: ws) (Value.ref a :: us) := .cons rfl rw'
  have hl : (Value.ref a :: us).length = ps2.length := r2.length.symm.trans (F.len _ _ _ _ q2)
  have b := hb s2 (Value.ref a :: us) I4.kIn (by rw [List.append_nil]; exact hl)
  rw [List.append_nil] at b
  refine wpAny_call (PySem.W.method_call pu (codeAny_mono (F.run X.A X.stack s2 H2 ⟨Value.ref a :: us, []⟩ (Value.ref a :: us) _ _ E hr I4.env0 b r2 q2) fun r s' hq => ?_))
  cases r with
  | error e => exact hx pins σ H2 s2 e s' I4 hq
  | ok fl =>
    cases fl with
    | ret u =>
      obtain ⟨v, H3, I5, rv, q3⟩ := I4.after hq
      exact ⟨σ, H3, I5, q3⟩
    | next | brk | cont => exact False.elim hq
end

/-! ### a def that says super(), by its body; defaults -/
theorem ok_bodyS {P : Program} {w : World} {K : PySem.W.Frag} {mg : Str → Option Value} {base : Heap} {x qual : Str} {st : Stmt} {f D : Addr} {fd : FuncData} {N ps : List Str} {n m k : Nat} {t : XK → TS} {ar : Arg} (F : FunS P K x qual st f fd D) (S : FnScS N ps (defScope st)) (hn : N.length = n) (hm : ps.length = m)
    (ha : ((defArgs st).posonlyargs ++ (defArgs st).args).head? = some ar) (hka : (defScope st).names.lookup ar.arg = some .local) (hN : N[0]? = some ar.arg) (hks : (defScope st).names.lookup ("super" : Str) = some .globalImplicit) (hkc : (defScope st).names.lookup ("__class__" : Str) = some .free)
    (htop : (P.main.scope.names.lookup ("super" : Str)).isSome = false) (hmg : mg "super" = none)
    (h : ∀ (cdv : Value) (cc : Addr) (A : Around) (outer : List Env) (s : Shared) (H : Hp) (E : XK), Room k (A.deeper (ksEnv qual (defScope st) s.heap.objs.size f cdv cc)) → SupT (cxS P w K mg base N qual (defScope st) f cdv cc A outer s H E) D →
      PSsA (cxS P w K mg base N qual (defScope st) f cdv cc A outer s H E) (.func (defBody st) (ksEnv qual (defScope st) s.heap.objs.size f cdv cc)) (defBody st) (t E)) :
    FnOk P w K mg base (L2.CX P w) (k + 1) f fd ps (spB n m t) := by
  subst hn
  subst hm
  exact F.ok S ha hka hN hks hkc htop hmg (fun vs H Q E q => q.1) fun cdv cc A outer s H vs Q E hr T q => ⟨t E, h cdv cc A outer s H E hr T, q.2⟩
theorem passS {P : Program} {w : World} {K : PySem.W.Frag} {mg : Str → Option Value} {base : Heap} {N : List Str} {qual : Str} {scope : Scope} {f cc : Addr} {cd : Value} {A : Around} {outer : List Env} {s : Shared} {H : Hp} {E : XK} :
    Passes (L2.CX P w) (cxS P w K mg base N qual scope f cd cc A outer s H E) E := passes_call (takes_of rfl rfl rfl rfl) fun _ _ _ _ h => h
/-- n values are written, the others are the defaults ds -/
theorem binds_dfl {K : PySem.W.Frag} {fd : FuncData} {ps : List Str} {T : Addr} {o : Obj} {its : Array Value} {n j : Nat} {ds : List Value} (lT : K.lookup T = some o) (oT : o.data = .seq its j) (hn : n + ds.length = ps.length)
    (h : ∀ us : List Value, us.length = n → ∃ k, bindArgs fd ⟨us, []⟩ = seqItems? (.ref T) >>= k ∧ k (some its) = pure (ps.zip (us ++ ds))) : Binds K fd ps ds := fun s us X hl => by
  have l2 : us.length = n := by
    rw [List.length_append] at hl
    omega
  obtain ⟨k, e1, e2⟩ := h us l2
  refine BindsTo.of_looks fun M => ?_
  rw [e1]
  exact looks_items X lT oT (.of_pure e2)

/-! ### tables, from the text's facts -/
theorem md_mk {X : Cx} {m : Str} {k k' : Nat} {C f : Addr} {fd : FuncData} {ps : List Str} {sp : Sp} (c : Cls X.K C) (hm : Meth X.K C m f) (F : FnOk X.prog X.w X.K X.mg X.base (L2.CX X.prog X.w) k' f fd ps sp) (hk : k' ≤ k) (hb : Binds X.K fd ps []) : MD X m k (C, sp) :=
  ⟨f, fd, ps, c, hm, F.mono hk, hb⟩
theorem pd_mk {X : Cx} {m : Str} {k k' : Nat} {C f : Addr} {fd : FuncData} {ps : List Str} {sp : Sp} (c : Cls X.K C) (hp : ∃ pa, PropOf X.K C m pa f) (F : FnOk X.prog X.w X.K X.mg X.base (L2.CX X.prog X.w) k' f fd ps sp) (hk : k' ≤ k) (hb : Binds X.K fd ps []) : PD X m k (C, sp) := by
  obtain ⟨pa, hp⟩ := hp
  exact ⟨pa, f, fd, ps, c, hp, F.mono hk, hb⟩
theorem fd_mk {K : PySem.W.Frag} {f : Str} {C : Addr} (c : Cls K C) (n : NoAttr K C f) : FD K f C := ⟨c, n⟩
theorem cls_some {K : PySem.W.Frag} {C : Addr} (h : PySem.W.hasDictIn K C = true) : (PySem.W.clsIn K C).isSome = true := by
  obtain ⟨cd, hc, _⟩ := PySem.W.any_some h
  rw [hc]
  rfl
theorem funS_mk {P : Program} {K : PySem.W.Frag} {x qual : Str} {st : Stmt} {f D cc cda : Addr} {oc cl ccl dV kV doc pm ct : Value} {od cld cdd an : Option Addr} {osl csl ccs : Array (Option Value)} {vs : Array Value} {file : Str} {tf : Tok}
    (lk : K.lookup f = some ⟨oc, od, .func (ksFn x qual (defArgs st) (defBody st) (defScope st) dV kV doc pm an (.ref cda) ct cc), osl⟩) (hc : PySem.W.codeIn K (.ref cda) qual = true) (hcc : K.lookup cc = some ⟨cl, cld, .cell (some (.ref D)), csl⟩)
    (hcode : K.lookup cda = some ⟨ccl, cdd, .fields vs, ccs⟩) (hv : vs[2]? = some (.str file tf)) (hf : ((P.main.file : Str) == file) = true) (hd : PySem.W.hasDictIn K D = true) (kp : PySem.W.keepIn K (.ref f) = true) :
    FunS P K x qual st f (ksFn x qual (defArgs st) (defBody st) (defScope st) dV kV doc pm an (.ref cda) ct cc) D := by
  obtain ⟨cd, hcl⟩ := Option.isSome_iff_exists.mp (cls_some hd)
  exact ⟨⟨oc, cl, ccl, dV, kV, doc, pm, ct, od, cld, cdd, an, osl, csl, ccs, cda, cc, vs, file, tf, cd, rfl, lk, hc, hcc, hcode, hv, hf, hcl⟩, kp⟩

/-! ### o[i] += e -/
def rGetL : V → V → Hp → VK → Prop := fun x y H Q => ∃ p xs i v, x = .ref p ∧ y = .int i ∧ H p = some (.lst xs) ∧ atI xs i = some v ∧ Q v H
theorem get_listI {X : Cx} : PGet X rGetL := by
  intro pins s σ H x y v u Q I rx ry h
  obtain ⟨p, xs, i, z, rfl, rfl, hq, he, q⟩ := h
  cases rx
  obtain ⟨t, rfl⟩ := ry
  obtain ⟨its, r, pl, hz⟩ := I.list (sqL (S := SK X.K) rfl (.inl (.inl hq)))
  obtain ⟨j, h1, h2, h3, h4, h5⟩ := atI_get he
  obtain ⟨w, ew, rw'⟩ := r.get h2
  have hl := r.length
  have hn := line63
  have fin : EP X pins σ Q w s := ⟨z, H, I, rw', q⟩
  by_cases h0 : 0 ≤ i
  · have hj : i.toNat = j := by
      rw [seqIndex_of h0 h5] at h1
      exact Option.some.inj h1
    exact wpAny_getItem_list pl.isList h0 (by omega) (by rw [hj]; simpa using ew) fin
  · have hj : (i + (its.toArray.size : Int)).toNat = j := by
      rw [seqIndex_neg (by omega) h4] at h1
      rw [List.size_toArray, ← hl]
      exact Option.some.inj h1
    exact wpAny_getItem_list_neg pl.isList (by omega) (by rw [List.size_toArray] <;> omega) (by omega) (by rw [hj]; simpa using ew) fin
theorem ps_augSI {X : Cx} {o i e : Expr} {to ti te : TE} {tip : TIp} {op : Operator} {pos tpos : Pos} (ho : PE X o to) (hi : PE X i ti) (he : PE X e te) (hp : PIp X op tip)
    (ha : ∀ ov iv new, augStore i ov iv new = (do holding [new, ov, iv] (setItem ov iv new); release [new, ov, iv] []; pure .next) := by intros; rfl) : PS X (.AugAssign (.Subscript o i tpos) op e pos) (tAugS to ti te rGetL tip rSetL) := ps_augS ho hi get_listI he hp set_list ha
end Y

/-! enumerate over a list or a tuple; isinstance with a tuple of types; insert; messages that are f-strings. -/
namespace Y
open PySem PySem.Spec PyProof.Rows L2

section
open Builtin
theorem meets_enum1 {v : Value} {o : Obj} {H : Heap → Prop} (B : Begins v o H) :
    Meets (Builtin.«enumerate.__new__» ⟨[.type "enumerate", v], []⟩) (fun _ R s => H s.heap ∧
      R (.ok (.ret (.ref (s.heap.push o).objs.size))) { s with heap := (s.heap.push o).push { cls := .type "enumerate", data := .fields #[.none, .bool false, .ref s.heap.objs.size, rawInt 0, .none, .none] } }) :=
  .of_wp fun prog w A R s h => by
    obtain ⟨hp, g, d, tk, os⟩ := s
    obtain ⟨h1, h⟩ := h
    have hsub := sub_enumerate
    have q1 : ∀ {A' : Around} {E : Value → Shared → Prop} {Q : Value → Shared → Prop}, Q (.ref hp.objs.size) ⟨hp.push o, g, d, tk, os⟩ → wpAny (model prog w) A' (pyIter v) Q E ⟨hp, g, d, tk, os⟩ :=
      fun q => B.iter prog w _ _ ⟨hp, g, d, tk, os⟩ _ h1 q
    wp_walk using q1
    refine wpAny_stack_any fun st => wpAny_pure ?_
    split
    · rename_i c _ _ _ _ _
      cases (c == Value.type "enumerate")
      · wp_walk using q1
        exact ⟨_, rfl, h⟩
      · wp_walk using q1
        exact ⟨_, rfl, h⟩
    · wp_walk using q1
      exact ⟨_, rfl, h⟩
end
theorem enum1_begins {prog : Program} {w : World} {A : Around} {E : Value → Shared → Prop} {s : Shared} {v : Value} {o : Obj} {H : Heap → Prop} {Q : Value → Shared → Prop} (B : Begins v o H) (h1 : H s.heap)
    (h : ∀ h', IsEnum h' (s.heap.objs.size + 1) s.heap.objs.size 0 .none → h'.get? s.heap.objs.size = some o → h'.objs.size = s.heap.objs.size + 2 →
      (∀ b o, s.heap.get? b = some o → h'.get? b = some o) → Q (.ref (s.heap.objs.size + 1)) { s with heap := h' }) :
    wpAny (model prog w) A (call (.type "enumerate") [v]) Q E s := by
  refine callType_new F.called_enumerate (by decide) (F.typeCall_enumerate_1 _) (F.newCall_enumerate_1 _) (fun obj => F.args_object_init_2 obj _) F.entry_enumerate_new
    (meets_enum1 B) ⟨h1, ?_⟩
  have hz : (s.heap.push o).objs.size = s.heap.objs.size + 1 := Heap.size_push ..
  show _ ∧ _
  rw [hz]
  have he : IsEnum ((s.heap.push o).push { cls := .type "enumerate", data := .fields #[.none, .bool false, .ref s.heap.objs.size, rawInt 0, .none, .none] }) (s.heap.objs.size + 1) s.heap.objs.size 0 .none := by
    have := Heap.get?_push_size (s.heap.push o) (o := { cls := .type "enumerate", data := .fields #[.none, .bool false, .ref s.heap.objs.size, rawInt 0, .none, .none] }) rfl
    rw [hz] at this
    exact this
  exact ⟨⟨_, he, rfl⟩, h _ he (Heap.get?_push_of_some _ (Heap.get?_push_size _ B.free)) (by rw [Heap.size_push, hz]) fun b o x => Heap.get?_push_of_some _ (Heap.get?_push_of_some _ x)⟩
def IteT (K : PySem.W.Frag) (a : Addr) : It :=
  ⟨fun i H => ∃ (xs : List V) (x : V), SqT K H a xs ∧ xs[i]? = some x, fun i H v H' => ∃ T x, v = .ref T ∧ H T = none ∧ H' = upd H T (.tup [.int (i : Nat), x]) ∧ ∀ xs, SqT K H a xs → xs[i]? = some x, fun i H => ∃ xs : List V, SqT K H a xs ∧ xs.length = i⟩
theorem turn_enumT {P : Program} {w : World} {K : PySem.W.Frag} {elts : List Expr} {kk : Nat} {tpos : Pos} (a e it : Addr) :
    Turn P w K (.Tuple elts kk tpos) (IteT K a) [e, it] e (fun i h => (∃ old, IsEnum h e it ((i : Nat) : Int) old) ∧ h.IsTupleIter it a i ∧ e ≠ it ∧ a ≠ it ∧ e ≠ a) where
  mem := by simp
  obj := fun i h st b hb => by
    obtain ⟨⟨old, he⟩, ⟨o, ho, hc, hd⟩, _⟩ := st
    have e' : b = e ∨ b = it := by simpa using hb
    rcases e' with z | z
    · rw [z]; exact ⟨_, he, fun v q => nomatch q⟩
    · rw [z]; exact ⟨o, ho, fun v q => by rw [hd] at q; cases q⟩
  keep := fun i h h' st k => by
    obtain ⟨⟨old, he⟩, ⟨o, ho, hc, hd⟩, hne⟩ := st
    exact ⟨⟨old, k e (by simp) _ he⟩, ⟨o, k it (by simp) o ho, hc, hd⟩, hne⟩
  item := by
    intro X hP hw hK hc i pins s σ H E I hf st hg
    subst hP hw hK
    obtain ⟨⟨old, he⟩, hit, hne, hna, hea⟩ := st
    obtain ⟨xs, x, hq, hx⟩ := hg
    obtain ⟨its, rv, p, hz⟩ := I.tuple hq
    have hi : i < xs.length := (List.getElem?_eq_some_iff.mp hx).1
    have hl := rv.length
    have hel : e < s.heap.objs.size := Heap.lt_size he
    have hil : it < s.heap.objs.size := by obtain ⟨_, q, _⟩ := hit; exact Heap.lt_size q
    have D := Draws.tuple (prog := X.prog) (w := X.w) (A := X.A.in1) (I.ok.hd hc) it a hna its.toArray
    refine wpAny_pyNext_enum_itemD D he ⟨hit, p⟩ (by rw [List.size_toArray]; omega) hne (by simp [hne, hea]) fun u h' tk hu ho hst hT hsz hk => ?_
    have ru : RelV x u := by
      obtain ⟨u', hu', ru⟩ := rv.get hx
      have hu2 : its[i]? = some u := by simpa using hu
      rw [hu'] at hu2
      cases hu2
      exact ru
    refine ⟨_, rfl, wpAny_letOwnedTupleGo_enum (s := { s with heap := h', toks := tk + 1 }) ho fun h'' he' sb => ?_⟩
    have hT2 : h''.get? s.heap.objs.size = some { cls := .type "tuple", data := .seq #[.int i tk, u] } := (sb.2 _ (Nat.ne_of_gt hel)).trans hT
    have new : ObjOk X.prog X.w (upd H s.heap.objs.size (.tup [.int (i : Nat), x])) h'' s.heap.objs.size (.tup [.int (i : Nat), x]) :=
      ⟨by show 2 ≤ sizeLine; decide, [.int i tk, u], .cons ⟨_, rfl⟩ (.cons ru .nil), ⟨_, hT2, rfl, _, rfl⟩⟩
    have I1 : Inv X pins σ (upd H s.heap.objs.size (.tup [.int (i : Nat), x])) { s with heap := h'', toks := tk + 1 } :=
      I.turnedNew (ch := [e, it]) (fun b ob hb q => (sb.2 b (fun z => hb (by simp [z]))).trans (hk b ob (fun z => hb (by simp [z])) (fun z => hb (by simp [z])) q)) hf (Nat.le_refl _) new
    refine ⟨.ref s.heap.objs.size, _, I1, rfl, ⟨_, x, rfl, I.hok.fresh (Nat.le_refl _), rfl, fun ys hy => by rw [I.tuple_inj hy hq]; exact hx⟩, ⟨⟨u, ?_⟩, ?_, hne, hna, hea⟩, fun b hb => ?_⟩
    · have e1 : ((i + 1 : Nat) : Int) = (i : Int) + 1 := by omega
      rw [e1]; exact he'
    · obtain ⟨o, ho1, ho2, ho3⟩ := hst.1
      exact ⟨o, (sb.2 it (Ne.symm hne)).trans ho1, ho2, ho3⟩
    · have hb' : b < s.heap.objs.size := by
        have e' : b = e ∨ b = it := by simpa using hb
        rcases e' with z | z
        · rw [z]; exact hel
        · rw [z]; exact hil
      rw [upd_ne (Nat.ne_of_lt hb')]
      exact (hf b hb).1
  done := by
    intro X hP hw hK hc i pins s σ H E I hf st hg
    subst hP hw hK
    obtain ⟨⟨old, he⟩, hit, hne, hna, hea⟩ := st
    obtain ⟨xs, hq, hx⟩ := hg
    obtain ⟨its, rv, p, hz⟩ := I.tuple hq
    obtain ⟨f0, f1, f2, f3, f4, f5⟩ := hf it (by simp)
    have hl := rv.length
    have D := Draws.tuple (prog := X.prog) (w := X.w) (A := X.A.in1) (I.ok.hd hc) it a hna its.toArray
    have hn : its.toArray.size = i := by rw [List.size_toArray]; omega
    exact wpAny_pyNext_enum_endD D he (by rw [hn]; exact ⟨hit, p⟩) fun h' eb => ⟨rfl, I.turned (t' := s.toks) (fun b o hb q => eb b o hb q) f0 f1 f3 f4 f5⟩
  self := fun A i s Q E st h => let ⟨⟨_, he⟩, _⟩ := st; wpAny_pyIter_enum he h
/-- enumerate(e), e a list or a tuple -/
def iEn (K : PySem.W.Frag) (te : TE) : TI := fun σ H R => te σ H fun x H1 => ∃ a, x = .ref a ∧ (((∃ xs, SqL K H1 a xs) ∧ R (Ite K a) H1) ∨ ((∃ xs, SqT K H1 a xs) ∧ R (IteT K a) H1))
theorem pi_en {X : Cx} {e : Expr} {te : TE} {p pos tpos : Pos} {elts : List Expr} {kk : Nat} (hg : Gl X "enumerate") (hm : X.mg "enumerate" = none) (he : PE X e te) (hs : starEach [e] X.env = (false, eval e X.env) :: starEach [] X.env := by rfl) (hs2 : starEach [e] X.env = [(false, eval e X.env)] := by rfl) :
    PI X (.Tuple elts kk tpos) (.Call (.Name "enumerate" p) [e] [] pos) (iEn X.K te) := by
  refine ⟨fun pins s σ H R I h => ?_⟩
  refine Call_ (ld_blt I hg hm boot_enumerate (PyProof.Rows.callWith_type1 (thn ((pa_cons (pe_mo he) pa_nil hs).run pos pins s σ H (fun vs H1 => ∃ x, vs = [x] ∧ ∃ a, x = .ref a ∧ (((∃ xs, SqL X.K H1 a xs) ∧ R (Ite X.K a) H1) ∨ ((∃ xs, SqT X.K H1 a xs) ∧ R (IteT X.K a) H1))) I ⟨_, h, fun v H' q => ⟨v, rfl, q⟩⟩) fun us s1 ⟨vs, H1, I1, r1, q1⟩ => ?_) hs2 rfl))
  obtain ⟨x, rfl, a, rfl, q⟩ := q1
  cases r1 with
  | cons r rr =>
    cases rr
    cases r
    have fp : ∀ {b : Addr}, b ∈ [s1.heap.objs.size + 1, s1.heap.objs.size] → FpOk X pins H1 b := fun {b} hb => by
      have e' : b = s1.heap.objs.size + 1 ∨ b = s1.heap.objs.size := by simpa using hb
      have hle : s1.heap.objs.size ≤ b := by
        rcases e' with z | z
        · rw [z]; exact Nat.le_add_right _ _
        · rw [z]; exact Nat.le_refl _
      exact I1.fpOk hle (I1.hok.fresh hle)
    rcases q with ⟨⟨xs, hq⟩, q⟩ | ⟨⟨xs, hq⟩, q⟩
    · obtain ⟨its, rv, p', hz⟩ := I1.list hq
      refine call_enumerate_list p'.isList fun h' he hit hsz hk => wpAny_pyIter_enum he ?_
      have I2 : Inv X pins σ H1 { s1 with heap := h' } := I1.kept (t' := s1.toks) hk
      exact ⟨s1.heap.objs.size + 1, [s1.heap.objs.size + 1, s1.heap.objs.size], _, _, H1, rfl, I2, turn_enum a (s1.heap.objs.size + 1) s1.heap.objs.size, ⟨⟨.none, he⟩, hit, Nat.succ_ne_self _⟩, fun b hb => fp hb, q⟩
    · obtain ⟨its, rv, p', hz⟩ := I1.tuple hq
      have pT : s1.heap.IsTuple a its.toArray := p'
      have hal : a < s1.heap.objs.size := by obtain ⟨o, ho, _⟩ := pT; exact Heap.lt_size ho
      refine enum1_begins (begins_tuple a its.toArray) pT fun h' he hit hsz hk => wpAny_pyIter_enum he ?_
      have I2 : Inv X pins σ H1 { s1 with heap := h' } := I1.kept (t' := s1.toks) hk
      exact ⟨s1.heap.objs.size + 1, [s1.heap.objs.size + 1, s1.heap.objs.size], _, _, H1, rfl, I2, turn_enumT a (s1.heap.objs.size + 1) s1.heap.objs.size, ⟨⟨.none, he⟩, ⟨_, hit, rfl, rfl⟩, Nat.succ_ne_self _, Nat.ne_of_lt hal, Nat.ne_of_gt (Nat.lt_succ_of_lt hal)⟩, fun b hb => fp hb, q⟩
theorem walk_enumT {K : PySem.W.Frag} {a : Addr} {xs : List V} : Walk (IteT K a) xs.length (fun H => SqT K H a xs) (YPair (fun i => some (.int (i : Nat))) (fun i => xs[i]?)) := by
  refine ⟨fun i _ hi q => ⟨xs, xs[i], q, by simp [hi]⟩, fun _ q => ⟨xs, q, rfl⟩, fun i H v H' _ q y => ?_⟩
  obtain ⟨T, x, h1, h2, h3, h4⟩ := y
  exact ⟨T, .int (i : Nat), x, h1, h2, h3, rfl, h4 xs q⟩
/-- the turns of for i, x in enumerate(p); the pair itself is a new tuple -/
def EnS (S : Sta) (gi gj : TG) (s1 : TS) (nx : L2.St → Hp → Prop) (rt : VK) (x : V) (σ : L2.St) (H : Hp) : Prop := ∃ p xs, x = .ref p ∧ ∃ Pv : Nat → L2.St → Hp → Prop, Pv 0 σ H ∧ Stays S p xs (fun i H => ∃ σ, Pv i σ H) ∧
  (∀ (i : Nat) y σ H T, xs[i]? = some y → Pv i σ H → H T = none → gi (.int (i : Int)) σ (upd H T (.tup [.int (i : Int), y])) fun σ' H' => gj y σ' H' fun σ2 H2 => s1 ⟨Pv (i + 1), rt, nx, Pv (i + 1)⟩ σ2 H2) ∧ ∀ σ H, Pv xs.length σ H → nx σ H
def sForEn (S : Sta) (te : TE) (gi gj : TG) (tb : TS) : TS := fun D σ H => te σ H fun x H1 => EnS S gi gj tb D.nx D.rt x σ H1
theorem gpair {gj : TG} {z : V} {Q : L2.St → Hp → Prop} : (fun σ' H' => gCons gj gNil [z] σ' H' Q) = fun σ' H' => gj z σ' H' Q := by
  funext σ' H'
  have e : (fun σ2 H2 => gNil [] σ2 H2 Q) = Q := by
    funext σ2 H2
    exact propext ⟨And.right, fun h => ⟨rfl, h⟩⟩
  refine propext ⟨fun ⟨v, r, e1, h⟩ => ?_, fun h => ⟨z, [], rfl, ?_⟩⟩
  · cases e1
    rw [e] at h
    exact h
  · rw [e]
    exact h
theorem ps_forEn {X : Cx} {S : Sta} {e ea eb : Expr} {te : TE} {gi gj : TG} {tb : TS} {body : List Stmt} {pos p pos2 tpos : Pos} {kk : Nat} (st : S = SK X.K) (hp : PassesOwn (model X.prog X.w) X.A X.env X.xe) (hc : X.calm = true) (hgl : Gl X "enumerate") (hm : X.mg "enumerate" = none) (he : PE X e te)
    (hgi : PG X ea gi) (hgj : PG X eb gj) (hb : PSs X body tb) (hs : starEach [e] X.env = (false, eval e X.env) :: starEach [] X.env := by rfl) (hs2 : starEach [e] X.env = [(false, eval e X.env)] := by rfl)
    (hs' : ∀ x, foldedSetIterable (.Call (.Name "enumerate" p) [e] [] pos2) X.env x = pure x := by intro _; rfl)
    (h1 : (assignEach [ea, eb] X.env).map (·.2) = assign ea X.env :: (assignEach [eb] X.env).map (·.2) := by rfl) (h2 : (assignEach [eb] X.env).map (·.2) = assign eb X.env :: (assignEach [] X.env).map (·.2) := by rfl)
    (h3 : (assignEach [ea, eb] X.env).length = 2 := by rfl) (h4 : (assignEach [ea, eb] X.env).findIdx? (·.1) = none := by rfl) :
    PS X (.For (.Tuple [ea, eb] kk tpos) (.Call (.Name "enumerate" p) [e] [] pos2) body [] pos) (sForEn S te gi gj tb) :=
  ps_imp (ps_for hp hc (pi_en hgl hm (pe_mo he) hs hs2) (pg_tup hc (pgs_cons hgi (pgs_cons hgj pgs_nil h2) h1) h3 h4) hb hs') fun D σ H q => ⟨_, q, fun x H1 ⟨a, xs, e, Pv, h0, hst, ht, hd⟩ => by
    refine ⟨a, e, ?_⟩
    have tn : ∀ (i : Nat) x σ H H', i < xs.length → Pv i σ H → YPair (fun i => some (.int (i : Nat))) (fun i => xs[i]?) i H x H' → gTup X.K 2 (gCons gi (gCons gj gNil)) x σ H' fun σ2 H2 => tb { D with nx := Pv (i + 1), ct := Pv (i + 1), bk := D.nx } σ2 H2 := by
      rintro i x σ H H' hi p ⟨T, y, z, rfl, hT, rfl, h5, h6⟩
      have e5 : V.int (i : Nat) = y := by injection h5
      subst e5
      exact ⟨T, [.int (i : Nat), z], rfl, .inl (.inl upd_same), rfl, .int (i : Nat), [z], rfl, by
        have h := ht i z σ H T h6 p hT
        rw [← gpair] at h
        exact h⟩
    rcases hst with z | z
    · exact .inl ⟨⟨xs, sqL st (z 0 H1 (Nat.zero_le _) ⟨σ, h0⟩)⟩, for_it walk_enum Pv h0 (fun i σ H hi p => sqL st (z i H hi ⟨σ, p⟩)) tn hd⟩
    · exact .inr ⟨⟨xs, sqT st (z 0 H1 (Nat.zero_le _) ⟨σ, h0⟩)⟩, for_it walk_enumT Pv h0 (fun i σ H hi p => sqT st (z i H hi ⟨σ, p⟩)) tn hd⟩⟩
/-! ### isinstance(x, (T1, T2, ..)) of built-in types -/
inductive Tys : List V → List String → Prop
  | nil : Tys [] []
  | cons {n : String} {vs : List V} {ns : List String} (h : Tys vs ns) : Tys (.ty n :: vs) (n :: ns)
def rIsT : List V → Hp → VK → Prop := fun xs H Q => ∃ x p vs ns t, xs = [x, .ref p] ∧ H p = some (.tup vs) ∧ Tys vs ns ∧ TyN H x t ∧ (∀ n ∈ ns, kitB t n = some (isA t n)) ∧ Q (.bl (ns.any (isA t))) H
theorem Tys.cls : ∀ {vs : List V} {ns : List String}, Tys vs ns → Paired ClsV vs (ns.map Value.type)
  | _, _, .nil => .nil
  | _, _, .cons h => .cons (.ty _) h.cls
theorem kit_any {K : PySem.W.Frag} {t : String} : ∀ {ns : List String}, (∀ n ∈ ns, kitB t n = some (isA t n)) → PySem.W.kitAny K (.type t) (ns.map Value.type) = some (ns.any (isA t))
  | [], _ => rfl
  | n :: ns, h => by
    have h1 := kit_ty (K := K) (h n List.mem_cons_self)
    have h2 := kit_any (K := K) (ns := ns) fun m hm => h m (List.mem_cons_of_mem _ hm)
    refine kitAny_cons h1 (fun hb => ?_) fun hb => ?_
    · rw [h2, List.any_cons, hb, Bool.false_or]
    · rw [List.any_cons, hb, Bool.true_or]
theorem c_isT {X : Cx} : CallR X (.builtin "isinstance") rIsT := call_imp call_isiT fun xs H Q q => by
  obtain ⟨x, p, vs, ns, t, e, h, k, ty, ha, q⟩ := q
  exact ⟨x, p, vs, .type t, ns.map Value.type, ns.any (isA t), e, h, k.cls, ty.x, kit_any ha, q⟩

/-! ### xs.insert(i, y) -/
def rIns : V → List V → Hp → VK → Prop := fun x vs H Q => ∃ (l : Addr) (xs : List V) (i : Int) (y : V), x = .ref l ∧ vs = [.int i, y] ∧ H l = some (.lst xs) ∧ xs.length < sizeLine ∧ 0 ≤ i ∧ i < 2 ^ 63 ∧ Q .non (upd H l (.lst (xs.take i.toNat ++ [y] ++ xs.drop i.toNat)))
def eIns (te : TE) (ta : TA) : TE := fun σ H Q => te σ H fun x H1 => ∃ l, x = .ref l ∧ (∃ xs, H1 l = some (.lst xs)) ∧ ta σ H1 fun vs H2 => rIns x vs H2 Q
theorem pe_ins {X : Cx} {o e : Expr} {es : List Expr} {te : TE} {ta : TA} {apos cpos : Pos} (ho : PE X o te) (ha : PA X (e :: es) ta)
    (hbase : attributeBase o "insert" X.env (eval o X.env) = eval o X.env := by rfl)
    (hfew : ((backTo cpos (starEach (e :: es) X.env)).all (fun x => !x.1) && (backToKw cpos (keywordEach [] X.env)).all (fun x => x.1.isSome)
      && decide ((e :: es).length + ([] : List Keyword).length + (if ([] : List Keyword).isEmpty then 0 else 1) < 30)) = true := by rfl)
    (hline : (apos.endLine == cpos.line) = true := by rfl) (hs : starEach (e :: es) X.env = (false, eval e X.env) :: starEach es X.env := by rfl) (hplain : (backTo cpos (starEach es X.env)).any (·.1) = false := by rfl) :
    PE X (.Call (.Attribute o "insert" apos) (e :: es) [] cpos) (eIns te ta) :=
  pe_imp (pe_bm PySem.F.plainAttrs_list PySem.F.slot_list_insert PySem.F.type_list_insert mt_insert (pe_mo ho) ha hbase hfew hline hs hplain) fun σ H Q q =>
    ⟨_, q, fun x H1 ⟨l, e1, ⟨xs, hl⟩, q1⟩ => by subst e1; exact ⟨.inl ⟨rfl, _, .inl (.inl hl)⟩, q1⟩⟩

/-! ### messages: f-strings of texts and small numbers -/
def fmtOk : V → Prop
  | .int i => i.natAbs.log2 < 1920
  | .str y => y.length ≤ 100000
  | _ => False
def ShortE (t : TE) (σ : L2.St) (H : Hp) : Prop := ∀ Q : VK, (∀ y : Str, y.length ≤ 100000 → Q (.str y) H) → t σ H Q
theorem short_c {m : Str} {σ : L2.St} {H : Hp} (h : m.length ≤ 100000) : ShortE (tC (.str m)) σ H := fun Q k => k m h
theorem short_f {n : Nat} {v : V} {σ : L2.St} {H : Hp} (e : σ[n]? = some (some v)) (h : fmtOk v) : ShortE (tFmt (tVar n)) σ H := fun Q k => by
  refine ⟨v, e, ?_⟩
  cases v with
  | int i => exact .inr ⟨i, rfl, h, k _ (Nat.le_trans (int_text_len_1921 h) (by decide))⟩
  | str y => exact .inl ⟨y, rfl, by have h : y.length ≤ 100000 := h; rw [sizeLine_eq]; omega, k _ h⟩
  | _ => exact h.elim
theorem tjs_ok : ∀ {ts : List TE} {acc : Str} {σ : L2.St} {H : Hp} {Q : Str → Hp → Prop}, (∀ t ∈ ts, ShortE t σ H) → acc.length + 100000 * ts.length ≤ 16777216 → (∀ z, Q z H) → tJs ts acc σ H Q
  | [], acc, σ, H, Q, _, _, k => k acc
  | t :: ts, acc, σ, H, Q, h, hl, k => h t List.mem_cons_self _ fun y hy => by
    rw [List.length_cons] at hl
    have e : (acc ++ y).length = acc.length + y.length := Str.length_append ..
    exact ⟨y, rfl, by rw [e, sizeLine_eq]; omega, tjs_ok (fun t ht => h t (List.mem_cons_of_mem _ ht)) (by rw [e]; omega) k⟩
/-! ### errors whose message shows their field -/
def spExF (Cs : List Addr) (fs : List Str) : Sp := fun vs H Q E => (∀ y ∈ vs.tail, fmtOk y) ∧ spEx Cs fs vs H Q E
def tMkF (C : Addr) (fs : List Str) (ta : TA) : L2.St → Hp → XK → Prop := fun σ H Q => ta σ H fun vs H1 => (∀ y ∈ vs, fmtOk y) ∧ vs.length = fs.length ∧ ∀ d, H1 d = none → Q (.ref C) (some d) (upd H1 d (.xd (exFs fs vs)))
theorem mkF_of {C : Addr} {Cs : List Addr} {fs : List Str} {ta : TA} (hC : C ∈ Cs) (hl : fs.length ≤ 900) {σ : L2.St} {H : Hp} {Q : XK} (q : tMkF C fs ta σ H Q) : tMkO C (spExF Cs fs) [] (moA ta) σ H Q := by
  refine ⟨_, q, fun vs H1 ⟨g, e, h⟩ => ⟨by omega, fun a ha => ⟨by rw [List.append_nil]; exact g, a, C, vs, hC, by rw [List.append_nil], e, upd_same, fun d hd hne => ⟨rfl, d, exFs fs vs, upd_same, ?_, ?_, ?_⟩⟩⟩⟩
  · rw [upd_ne hne, upd_same]
  · rw [upd_ne hne] at hd
    exact hd
  · rw [upd_ne hne] at hd
    have e2 : upd (del (upd (upd (upd H1 a (exo a C none)) d (exd d (exFs fs vs))) a (exo a C (some d))) a) d (.xd (exFs fs vs)) = upd H1 d (.xd (exFs fs vs)) := by
      funext b
      by_cases hb : b = d
      · rw [hb, upd_same, upd_same]
      · rw [upd_ne hb, upd_ne hb]
        by_cases hba : b = a
        · rw [hba, del_same, ha]
        · rw [del_ne hba, upd_ne hba, upd_ne hb, upd_ne hba]
    rw [e2]
    exact h d hd
theorem pmk_exF {X : Cx} {CX : CXT} {x : Str} {C fI : Addr} {Cs : List Addr} {fs : List Str} {k : Nat} {fd : FuncData} {ps : List Str} {e : Expr} {es : List Expr} {ta : TA} {p pos : Pos} (T : OexC X.K C) (iC : PySem.W.findIn X.K (.ref C) "__init__" = some (some (.ref fI))) (tI : PySem.W.typeIn X.K (.ref fI) = some (.type "function"))
    (F1 : FnOk X.prog X.w X.K X.mg X.base CX k fI fd ps (spExF Cs fs)) (hC : C ∈ Cs) (hl : fs.length ≤ 900) (hr : Room (k + 1) X.A) (hb : Binds X.K fd ps []) (hx : Passes CX X (fun _ _ _ => False)) (hg : Gl X x) (hm : X.mg x = some (.ref C)) (ha : PA X (e :: es) ta)
    (hdb : (x == ("__debug__" : Str)) = false := by decide) (he : starEach (e :: es) X.env = (false, eval e X.env) :: starEach es X.env := by rfl) (hpl : (backTo pos (starEach es X.env)).any (·.1) = false := by rfl) :
    PMk X (.Call (.Name x p) (e :: es) [] pos) (tMkF C fs ta) :=
  pmk_imp (pmk_oex (dvs := []) (ds := []) T iC tI F1 hr hb .nil hx hg hm (pa_mo ha) hdb he hpl) fun _ _ _ q => mkF_of hC hl q
theorem exF {K : PySem.W.Frag} {Cs : List Addr} {D : Addr} {f : Str} {ts : List TE} (hl : ts.length ≤ 100) (hts : ∀ (a : V) (x : V) (H : Hp), fmtOk x → ∀ t ∈ ts, ShortE t [some a, some x] H) (h : ∀ C ∈ Cs, SupV K C D ∧ PySem.W.findIn K (.ref C) f = some none) {vs : List V} {H : Hp} {Q : VK} {E : XK} (q : spExF Cs [f] vs H Q E) {n x : Str} :
    tSeq (tDrop (tSupV K D (tCons (fun σ H Q => tJs ts Str.empty σ H fun out H1 => Q (.str out) H1) tNil))) (tOst K f (tVar 0) (tVar 1)) { nx := fun _ H' => Q .non H', rt := Q } (L2.start [n, x] vs) H := by
  obtain ⟨g, a, C, ys, hC, rfl, hl2, ea, q⟩ := q
  obtain ⟨V, na⟩ := h C hC
  cases ys with
  | nil => cases hl2
  | cons y ys =>
    cases ys with
    | cons _ _ => cases hl2
    | nil =>
      refine ⟨a, C, rfl, ea, V, ?_⟩
      refine tjs_ok (hts (.ref a) y H (g y List.mem_cons_self)) (by have : (Str.empty).length = 0 := rfl; omega) fun z => ?_
      exact ⟨by show 1 ≤ 1000; decide, ea, y, rfl, .ref a, rfl, a, C, rfl, V.ex, na, .inl ⟨ea, fun dx hd hne => q dx hd hne⟩⟩
theorem spExF_len {Cs : List Addr} {fs : List Str} (vs : List V) (H : Hp) (Q : VK) (E : XK) (q : spExF Cs fs vs H Q E) : vs.length = fs.length + 1 := spEx_len vs H Q E q.2
end Y

/-! isinstance of an instance; a class constant read at an instance; static tuples; keywords of a class; slices of texts; index. -/
namespace Y
open PySem PySem.Spec PyProof.Rows L2

/-! ### isinstance(o, D), o an instance of one of the table's classes -/
structure IsOb (K : PySem.W.Frag) (D : Addr) (p : Addr × Bool) : Prop where
  c : Cls K p.1
  ha : PySem.W.findIn K (.ref p.1) "__class__" = some (some (.builtin "object.__class__"))
  hn : PySem.W.specialIn K (.builtin "object.__class__") "__get__" = some (some (.builtin "getset_descriptor.__get__"))
  ht : PySem.W.takesIn K (.builtin "object.__class__") = some true
  hm : PySem.W.mroIn K p.1 (.type "object") = some true
  k : PySem.W.kitOne K (.ref p.1) (.ref D) = some p.2
def rIsO (D : Addr) (tbl : List (Addr × Bool)) : List V → Hp → VK → Prop := fun xs H Q => ∃ a C dx fs b, xs = [.ref a, .ref D] ∧ H a = some (.ins C dx fs) ∧ (C, b) ∈ tbl ∧ Q (.bl b) H
theorem c_isO {X : Cx} {D : Addr} {tbl : List (Addr × Bool)} (T : ∀ p ∈ tbl, IsOb X.K D p) : CallR X (.builtin "isinstance") (rIsO D tbl) := call_imp call_isi fun xs H Q q => by
  obtain ⟨a, C, dx, fs, b, e, h, hm, q⟩ := q
  have t := T _ hm
  exact ⟨.ref a, .ref D, .ref C, .ref D, b, e, .own D, .base (.ins h t.c t.ha t.hn t.ht t.hm), t.k, q⟩
/-! ### o.F, F a constant of o's class -/
structure ConD (K : PySem.W.Frag) (f : Str) (p : Addr × V) : Prop where
  c : Cls K p.1
  k : ∃ u, Con K p.1 f p.2 u
def eConD (l : List (Addr × V)) (f : Str) (te : TE) : TE := fun σ H Q => te σ H fun x H1 => ∃ a C dx fs v, x = .ref a ∧ H1 a = some (.ins C dx fs) ∧ (C, v) ∈ l ∧ fs.lookup f = none ∧ Q v H1
theorem pe_conD {X : Cx} {f : Str} {l : List (Addr × V)} {e : Expr} {te : TE} {pos : Pos} (T : ∀ p ∈ l, ConD X.K f p) (he : PE X e te) (hb : attributeBase e f X.env (eval e X.env) = eval e X.env := by rfl) : PE X (.Attribute e f pos) (eConD l f te) :=
  pe_imp (pe_con (pe_mo he) hb) fun σ H Q q => ⟨_, q, fun v H' ⟨a, C, dx, fs, w, e1, e2, hC, l, q⟩ => by
    obtain ⟨u, k⟩ := (T _ hC).k
    exact ⟨a, C, dx, fs, w, u, e1, e2, (T _ hC).c, k, l, q⟩⟩
theorem con_mk {K : PySem.W.Frag} {C : Addr} {f : Str} {v : V} {u : Value} (c : Cls K C) (h1 : PySem.W.findIn K (.ref C) f = some (some u)) (r : RelV v u) (h2 : PySem.W.specialIn K u "__get__" = some none) (h3 : PySem.W.copiedNames.contains f = false) : ConD K f (C, v) := ⟨c, u, h1, r, h2, h3⟩
/-! ### a module's tuple -/
theorem pe_stat {X : Cx} {x : Str} {g : Addr} {p2 : Pos} (hm : X.mg x = some (.ref g)) (hg : Gl X x) (hdb : (x == ("__debug__" : Str)) = false := by decide) : PE X (.Name x p2) (eCon (.ref g)) := pe_imp (pe_glob hg hm (v := .ref g) rfl hdb) fun _ _ _ q => q
def rIsS (S : Sta) : List V → Hp → VK → Prop := fun xs H Q => ∃ p ys n, xs = [.ref p, .ty n] ∧ S p (.tup ys) ∧ kitB "tuple" n = some (isA "tuple" n) ∧ Q (.bl (isA "tuple" n)) H
theorem c_isS {X : Cx} {S : Sta} (st : S = SK X.K) : CallR X (.builtin "isinstance") (rIsS S) := call_imp call_isi fun xs H Q q => by
  subst st
  obtain ⟨p, ys, n, e, ⟨o, its, m, h1, h2, _⟩, k, q⟩ := q
  exact ⟨.ref p, .ty n, .type "tuple", .type n, _, e, .ty n, .kTuple h1 h2, kit_ty k, q⟩
/-! ### slices of texts -/
theorem pe_slS {X : Cx} {e : Expr} {te : TE} {lo hi : Option Expr} {tl th : TO} {p2 pos : Pos} (he : PE X e te) (hl : PO X lo tl) (hu : PO X hi th) : PE X (.Subscript e (.Slice lo hi none p2) pos) (L2.tSl rSlS te tl th) := pe_slice sl_str he hl hu
/-! ### xs.index(y) -/
def rIdx : V → List V → Hp → VK → Prop := fun x vs H Q => ∃ (l : Addr) (xs : List V) (y : V) (j : Nat) (z : V), x = .ref l ∧ vs = [y] ∧ H l = some (.lst xs) ∧ flatV y = true ∧ xs.all flatV = true ∧ xs[j]? = some z ∧ eqV z y = true ∧
  (∀ (m : Nat) (z' : V), m < j → xs[m]? = some z' → eqV z' y = false) ∧ Q (.int (j : Nat)) H
def eIdx (te : TE) (ta : TA) : TE := fun σ H Q => te σ H fun x H1 => ∃ l, x = .ref l ∧ (∃ xs, H1 l = some (.lst xs)) ∧ ta σ H1 fun vs H2 => rIdx x vs H2 Q
theorem mt_idx {X : Cx} : MtR X "list.index" rIdx := fun pins s σ H x xs v us Q I rx rxs h => mt_index pins s σ H x xs v us Q I rx rxs (by
  obtain ⟨l, ys, y, j, z, e1, e2, h, a, b, c, d, f, q⟩ := h
  exact ⟨l, ys, y, j, z, e1, e2, sqL (S := SK X.K) rfl (.inl (.inl h)), a, b, c, d, f, q⟩)
theorem pe_idx {X : Cx} {o e : Expr} {es : List Expr} {te : TE} {ta : TA} {apos cpos : Pos} (ho : PE X o te) (ha : PA X (e :: es) ta)
    (hbase : attributeBase o "index" X.env (eval o X.env) = eval o X.env := by rfl)
    (hfew : ((backTo cpos (starEach (e :: es) X.env)).all (fun x => !x.1) && (backToKw cpos (keywordEach [] X.env)).all (fun x => x.1.isSome)
      && decide ((e :: es).length + ([] : List Keyword).length + (if ([] : List Keyword).isEmpty then 0 else 1) < 30)) = true := by rfl)
    (hline : (apos.endLine == cpos.line) = true := by rfl) (hs : starEach (e :: es) X.env = (false, eval e X.env) :: starEach es X.env := by rfl) (hplain : (backTo cpos (starEach es X.env)).any (·.1) = false := by rfl) :
    PE X (.Call (.Attribute o "index" apos) (e :: es) [] cpos) (eIdx te ta) :=
  pe_imp (pe_bm PySem.F.plainAttrs_list PySem.F.slot_list_index PySem.F.type_list_index mt_idx (pe_mo ho) ha hbase hfew hline hs hplain) fun σ H Q q =>
    ⟨_, q, fun x H1 ⟨l, e1, ⟨xs, hl⟩, q1⟩ => by subst e1; exact ⟨.inl ⟨rfl, _, .inl (.inl hl)⟩, q1⟩⟩
/-! ### C(e, .., k = v): the keywords fill the last parameters in their order -/
def tMakeKw (C : Addr) (n m : Nat) (sp : Sp) (E : XK) (t tk : TA) : TE := fun σ H Q => t σ H fun vs H1 => tk σ H1 fun zs H2 => vs.length = n ∧ zs.length = m ∧
  ∀ x dx, H2 x = none → H2 dx = none → dx ≠ x → sp (.ref x :: (vs ++ zs)) (upd (upd H2 dx (.own x)) x (.ins C dx [])) (fun v H3 => v = .non ∧ Q (.ref x) H3) E
/-- n values us by place and the values ws of the keywords ks, all parameters named -/
structure BindsK (K : PySem.W.Frag) (fd : FuncData) (ps : List Str) (n : Nat) (ks : List Str) : Prop where
  to : ∀ (s : Shared) (us ws : List Value), K.In s.heap → us.length = n → ws.length = ks.length → BindsTo s fd ⟨us, ks.zip ws⟩ (ps.zip (us ++ ws))
theorem BindsK.kbn {K : PySem.W.Frag} {fd : FuncData} {ps : List Str} {n : Nat} {ks : List Str} (h : BindsK K fd ps n ks) : KBn K fd ps n ks (fun us ws => us ++ ws) (fun vs zs => vs ++ zs) := ⟨h.to, fun r1 r2 => r1.append r2⟩
theorem bindsk_dfl {K : PySem.W.Frag} {fd : FuncData} {ps : List Str} {T : Addr} {o : Obj} {its : Array Value} {n j : Nat} {ks : List Str} (lT : K.lookup T = some o) (oT : o.data = .seq its j)
    (h : ∀ us ws : List Value, us.length = n → ws.length = ks.length → ∃ k, bindArgs fd ⟨us, ks.zip ws⟩ = seqItems? (.ref T) >>= k ∧ k (some its) = pure (ps.zip (us ++ ws))) : BindsK K fd ps n ks := ⟨fun s us ws X l1 l2 => by
  obtain ⟨k, e1, e2⟩ := h us ws l1 l2
  refine BindsTo.of_looks fun M => ?_
  rw [e1]
  exact looks_items X lT oT (.of_pure e2)⟩
theorem pe_makeKw {X : Cx} {CX : CXT} {k n m : Nat} {f C : Addr} {fd : FuncData} {ps ks : List Str} {sp : Sp} {E : XK} {x : Str} {p pos : Pos} {e : Expr} {es : List Expr} {kws : List Keyword} {t tk : TA}
    (M : Mk X.K C f) (F : FnOk X.prog X.w X.K X.mg X.base CX k f fd ps sp) (hr : Room (k + 1) X.A) (hg : Gl X x) (hm : X.mg x = some (.ref C)) (hb : BindsK X.K fd ps (n + 1) ks) (hx : Passes CX X E)
    (ha : PA X (e :: es) t) (hkw : PK X kws tk) (hml : ks.length = m := by rfl) (hall : (backToKw pos (keywordEach kws X.env)).all (·.1.isSome) = true := by rfl) (hks : (backToKw pos (keywordEach kws X.env)).filterMap (·.1) = ks := by rfl)
    (hdb : (x == ("__debug__" : Str)) = false := by decide) (he : starEach (e :: es) X.env = (false, eval e X.env) :: starEach es X.env := by rfl)
    (hpl : ((backTo pos (starEach (e :: es) X.env)).any (·.1) || (backToKw pos (keywordEach kws X.env)).any (·.1.isNone)) = false := by rfl) :
    PE X (.Call (.Name x p) (e :: es) kws pos) (tMakeKw C n m sp E t tk) := by
  subst hml
  exact pe_makeN M F hr hg hm hb.kbn hx ha hkw hall hks hdb he hpl
end Y

/-! Symbolic execution of readings: what is known of a heap (FH), one rule a construct. -/
namespace Y
open PySem PySem.Spec PyProof.Rows L2

/-! ### what is known of a heap -/
/-- tuples stay -/
def Per (H H' : Hp) : Prop := ∀ t xs, H t = some (.tup xs) → H' t = some (.tup xs)
theorem Per.refl (H : Hp) : Per H H := fun _ _ h => h
theorem per_new {H : Hp} {p : Addr} {o : HO} (h : H p = none) : Per H (upd H p o) := fun t xs e => (upd_ne (ne_of_none e h)).trans e
def NoTup : HO → Prop
  | .tup _ => False
  | _ => True
theorem per_put {H : Hp} {p : Addr} {o o' : HO} (h : H p = some o) (n : NoTup o) : Per H (upd H p o') := fun t xs e => by
  refine (upd_ne ?_).trans e
  intro z
  subst z
  rw [h] at e
  cases e
  exact n
/-- a statement of the object at an address and of the objects that it owns -/
structure Pr where
  s : Addr → Hp → List Addr → Prop
  loc : ∀ {p H H' ks}, s p H ks → (∀ a ∈ ks, H' a = H a) → Per H H' → s p H' ks
  liv : ∀ {p H ks}, s p H ks → ∀ a ∈ ks, H a ≠ none
  key : ∀ {p H ks}, s p H ks → p ∈ ks
abbrev Ent := Addr × Pr
inductive FHs (H : Hp) : List Ent → List Addr → Prop
  | nil : FHs H [] []
  | cons {p φ k L ks} (h : φ.s p H k) (r : FHs H L ks) (nd : k.Nodup) (dj : ∀ a ∈ k, a ∉ ks) : FHs H ((p, φ) :: L) (k ++ ks)
class FH (H : Hp) (L : outParam (List Ent)) : Prop where
  ex : ∃ ks, FHs H L ks
/-- of the object alone -/
def lift (φ : HO → Prop) : Pr where
  s := fun p H ks => ks = [p] ∧ ∃ o, H p = some o ∧ φ o
  loc := fun {p H H' ks} ⟨e, o, h, hφ⟩ k _ => ⟨e, o, (k p (by rw [e]; exact List.mem_cons_self)).trans h, hφ⟩
  liv := fun {p H ks} ⟨e, o, h, _⟩ a m => by
    rw [e] at m
    have e2 : a = p := by simpa using m
    rw [e2, h]
    simp
  key := fun {p H ks} ⟨e, _⟩ => by rw [e]; exact List.mem_cons_self
def Is (o : HO) : Pr := lift fun x => x = o
/-- a list that is read: tracked or locked -/
def IsR (xs : List V) : Pr := lift fun x => x = .lst xs ∨ ∃ o, x = .frz o (.lst xs)
inductive Put (p : Addr) (φ φ' : Pr) : List Ent → List Ent → Prop where
  | here {L} : Put p φ φ' ((p, φ) :: L) ((p, φ') :: L)
  | there {q L L'} (h : Put p φ φ' L L') : Put p φ φ' (q :: L) (q :: L')
section
variable {H H' : Hp} {L L' R : List Ent} {p q : Addr} {o o' : HO} {φ φ' : Pr} {xs : List V} {ks : List Addr} {x y : Ent}
theorem FHs.liv (F : FHs H L ks) : ∀ a ∈ ks, H a ≠ none := by
  induction F with
  | nil => intro a m; cases m
  | cons h r nd dj ih => exact fun a m => (List.mem_append.mp m).elim (Pr.liv _ h a) (ih a)
theorem FHs.keep (F : FHs H L ks) (k : ∀ a ∈ ks, H' a = H a) (e : Per H H') : FHs H' L ks := by
  induction F with
  | nil => exact .nil
  | cons h r nd dj ih => exact .cons (Pr.loc _ h (fun a m => k a (List.mem_append_left _ m)) e) (ih fun a m => k a (List.mem_append_right _ m)) nd dj
theorem FHs.nodup (F : FHs H L ks) : ks.Nodup := by
  induction F with
  | nil => exact List.nodup_nil
  | cons h r nd dj ih => exact List.nodup_append.mpr ⟨nd, ih, fun a m b m' e => dj a m (e ▸ m')⟩
theorem FHs.mem (F : FHs H L ks) (m : (p, φ) ∈ L) : ∃ k, φ.s p H k ∧ ∀ a ∈ k, a ∈ ks := by
  induction F with
  | nil => cases m
  | cons h r nd dj ih =>
    rcases List.mem_cons.mp m with e | m
    · cases e
      exact ⟨_, h, fun a m => List.mem_append_left _ m⟩
    · obtain ⟨k, h1, h2⟩ := ih m
      exact ⟨k, h1, fun a m => List.mem_append_right _ (h2 a m)⟩
theorem FHs.perm (F : FHs H L ks) (e : L.Perm L') : ∃ ks', FHs H L' ks' ∧ ks.Perm ks' := by
  induction e generalizing ks with
  | nil => exact ⟨_, F, List.Perm.refl _⟩
  | cons x _ ih =>
    cases F with
    | cons h r nd dj =>
      obtain ⟨ks', r', e'⟩ := ih r
      exact ⟨_, .cons h r' nd (fun a m m' => dj a m (e'.mem_iff.mpr m')), e'.append_left _⟩
  | swap x y l =>
    cases F with
    | cons h r nd dj =>
      cases r with
      | @cons p2 φ2 k2 L2 ks2 h2 r2 nd2 dj2 =>
        rename_i k1
        refine ⟨_, .cons h2 (.cons h r2 nd fun a m m' => dj a m (List.mem_append_right _ m')) nd2 fun a m m' => ?_, ?_⟩
        · rcases List.mem_append.mp m' with m' | m'
          · exact dj a m' (List.mem_append_left _ m)
          · exact dj2 a m m'
        · rw [← List.append_assoc, ← List.append_assoc]
          exact List.perm_append_comm.append_right _
  | trans _ _ ih1 ih2 =>
    obtain ⟨k1, F1, e1⟩ := ih1 F
    obtain ⟨k2, F2, e2⟩ := ih2 F1
    exact ⟨k2, F2, e1.trans e2⟩
theorem FHs.app {A B : List Ent} : ∀ {ks : List Addr}, FHs H (A ++ B) ks → ∃ k1 k2, FHs H A k1 ∧ FHs H B k2 ∧ ks = k1 ++ k2 := by
  induction A with
  | nil => exact fun {ks} F => ⟨[], ks, .nil, F, rfl⟩
  | cons x A ih =>
    intro ks F
    cases F with
    | cons h r nd dj =>
      obtain ⟨k1, k2, F1, F2, e⟩ := ih r
      subst e
      exact ⟨_, k2, .cons h F1 nd (fun a m m' => dj a m (List.mem_append_left _ m')), F2, (List.append_assoc _ _ _).symm⟩
theorem FHs.join {A B : List Ent} {k1 k2 : List Addr} (F1 : FHs H A k1) (F2 : FHs H B k2) (dj : ∀ a ∈ k1, a ∉ k2) : FHs H (A ++ B) (k1 ++ k2) := by
  induction F1 with
  | nil => exact F2
  | cons h r nd dj' ih =>
    rw [List.append_assoc]
    refine .cons h (ih fun a m => dj a (List.mem_append_right _ m)) nd fun a m m' => ?_
    rcases List.mem_append.mp m' with m' | m'
    · exact dj' a m m'
    · exact dj a (List.mem_append_left _ m) m'
theorem FHs.sub (F : FHs H L ks) (s : L'.Sublist L) : ∃ ks', FHs H L' ks' ∧ ks'.Sublist ks := by
  induction s generalizing ks with
  | slnil => exact ⟨_, F, List.Sublist.refl _⟩
  | cons x _ ih =>
    cases F with
    | cons h r nd dj =>
      obtain ⟨ks', r', e'⟩ := ih r
      exact ⟨ks', r', e'.trans (List.sublist_append_right _ _)⟩
  | cons_cons x _ ih =>
    cases F with
    | cons h r nd dj =>
      obtain ⟨ks', r', e'⟩ := ih r
      exact ⟨_, .cons h r' nd (fun a m m' => dj a m (e'.subset m')), (List.Sublist.refl _).append e'⟩
theorem FH.is (F : FH H L) {φ : HO → Prop} (m : (p, lift φ) ∈ L) : ∃ o, H p = some o ∧ φ o := by
  obtain ⟨ks, F⟩ := F.ex
  obtain ⟨k, ⟨_, h⟩, _⟩ := F.mem m
  exact h
theorem FH.get (F : FH H L) (m : (p, Is o) ∈ L) : H p = some o := by
  obtain ⟨o', h, e⟩ := F.is m
  exact h.trans (congrArg some e)
theorem FH.getR (F : FH H L) (m : (p, IsR xs) ∈ L) : Rd H p (.lst xs) := by
  obtain ⟨o', h, e | ⟨o, e⟩⟩ := F.is m
  · subst e; exact .inl h
  · subst e; exact .inr ⟨o, h⟩
theorem RdS.of {S : Sta} {u : HO} (h : Rd H p u) : RdS S H p u := .inl h
theorem FHs.other (F : FHs H L ks) (h : H p = none) : FHs (upd H p o) L ks := F.keep (fun a m => upd_ne fun e => F.liv a m (by rw [e]; exact h)) (per_new h)
theorem FH.other (F : FH H L) (h : H p = none) : FH (upd H p o) L := by
  obtain ⟨ks, F⟩ := F.ex
  exact ⟨ks, F.other h⟩
theorem FH.new (F : FH H L) (h : H p = none) : FH (upd H p o) ((p, Is o) :: L) := by
  obtain ⟨ks, F⟩ := F.ex
  refine ⟨[p] ++ ks, .cons ⟨rfl, o, upd_same, rfl⟩ (F.other h) (by simp) fun a m m' => ?_⟩
  have e : a = p := by simpa using m
  exact F.liv a m' (by rw [e]; exact h)
theorem Put.mem (m : Put p φ φ' L L') : (p, φ) ∈ L := by
  induction m with
  | here => exact List.mem_cons_self
  | there _ ih => exact List.mem_cons_of_mem _ ih
theorem Put.perm (m : Put p φ φ' L L') : ∃ R, L.Perm ((p, φ) :: R) ∧ L'.Perm ((p, φ') :: R) := by
  induction m with
  | @here L => exact ⟨L, List.Perm.refl _, List.Perm.refl _⟩
  | @there q _ _ _ ih =>
    obtain ⟨R, h1, h2⟩ := ih
    exact ⟨q :: R, (h1.cons _).trans (List.Perm.swap _ _ _), (h2.cons _).trans (List.Perm.swap _ _ _)⟩
theorem FHs.put (F : FHs H L ks) (m : Put p (Is o) (Is o') L L') (n : NoTup o) (h : H p = some o) : FHs (upd H p o') L' ks := by
  induction m generalizing ks with
  | here =>
    cases F with
    | cons h' r nd dj =>
      obtain ⟨e, _⟩ := h'
      subst e
      exact .cons ⟨rfl, o', upd_same, rfl⟩ (r.keep (fun a m => upd_ne fun e => dj a (by rw [e]; exact List.mem_cons_self) m) (per_put h n)) nd dj
  | there m ih =>
    cases F with
    | @cons p1 φ1 k1 L1 ks1 h' r nd dj =>
      have hp : p ∈ ks1 := by
        obtain ⟨k, hk, hs⟩ := r.mem m.mem
        exact hs p (Pr.key _ hk)
      exact .cons (Pr.loc _ h' (fun a m => upd_ne fun e => dj a m (by rw [e]; exact hp)) (per_put h n)) (ih r) nd dj
theorem FH.put (F : FH H L) (m : Put p (Is o) (Is o') L L') (n : NoTup o) : FH (upd H p o') L' := by
  have h := F.get m.mem
  obtain ⟨ks, F⟩ := F.ex
  exact ⟨ks, F.put m n h⟩
theorem FHs.weak (F : FHs H L ks) (m : Put p φ φ' L L') (i : ∀ k, φ.s p H k → φ'.s p H k) : FHs H L' ks := by
  induction m generalizing ks with
  | here =>
    cases F with
    | cons h' r nd dj => exact .cons (i _ h') r nd dj
  | there m ih =>
    cases F with
    | cons h' r nd dj => exact .cons h' (ih r) nd dj
/-- an entry says something else -/
theorem FH.weak (F : FH H L) (m : Put p φ φ' L L') (i : ∀ k, φ.s p H k → φ'.s p H k) : FH H L' := by
  obtain ⟨ks, F⟩ := F.ex
  exact ⟨ks, F.weak m i⟩
theorem FH.open_ {φ : HO → Prop} (F : FH H L) (m : (p, lift φ) ∈ L) : ∃ o, φ o ∧ ∀ L', Put p (lift φ) (Is o) L L' → FH H L' := by
  obtain ⟨o, h, hφ⟩ := F.is m
  exact ⟨o, hφ, fun L' pu => F.weak pu fun k ⟨e, _⟩ => ⟨e, o, h, rfl⟩⟩
theorem FH.close {φ : HO → Prop} (F : FH H L) (hφ : φ o) (pu : Put p (Is o) (lift φ) L L') : FH H L' := F.weak pu fun k ⟨e, o', h, e'⟩ => ⟨e, o', h, by rw [e']; exact hφ⟩
theorem FH.sub (F : FH H L) (s : L'.Sublist L) : FH H L' := by
  obtain ⟨ks, F⟩ := F.ex
  obtain ⟨ks', F', _⟩ := F.sub s
  exact ⟨ks', F'⟩
theorem FH.tail (F : FH H (x :: L)) : FH H L := F.sub (List.sublist_cons_self _ _)
theorem FH.one {x : Ent} (F : FH H L) (m : x ∈ L) : FH H [x] := F.sub (List.singleton_sublist.mpr m)
theorem FH.perm (F : FH H L) (e : L.Perm L') : FH H L' := by
  obtain ⟨ks, F⟩ := F.ex
  obtain ⟨ks', F', _⟩ := F.perm e
  exact ⟨ks', F'⟩
theorem FH.nil : FH H [] := ⟨[], .nil⟩
/-- an entry to the front -/
theorem pull (m : x ∈ L) : ∃ R, L.Perm (x :: R) := by
  obtain ⟨s, t, e⟩ := List.append_of_mem m
  subst e
  exact ⟨s ++ t, List.perm_middle⟩
theorem pull2 (m : x ∈ L) (m' : y ∈ L) (ne : x.1 ≠ y.1) : ∃ R, L.Perm (x :: y :: R) := by
  obtain ⟨R, h⟩ := pull m
  have m2 := h.mem_iff.mp m'
  rcases List.mem_cons.mp m2 with e | m2
  · exact absurd (congrArg Prod.fst e).symm ne
  · obtain ⟨R', h'⟩ := pull m2
    exact ⟨R', h.trans (h'.cons _)⟩
theorem FH.diff {φ ψ : HO → Prop} (F : FH H L) (m : (p, lift φ) ∈ L) (m' : (q, lift ψ) ∈ L) (h : ∀ o, φ o → ψ o → False) : p ≠ q := by
  intro e
  subst e
  obtain ⟨o, h1, ho⟩ := F.is m
  obtain ⟨o', h2, ho'⟩ := F.is m'
  rw [h1] at h2
  cases h2
  exact h o ho ho'
/-! a thing of several objects -/
def comp {α : Type} (E : Addr → α → List Ent) (P : α → Prop) : Pr where
  s := fun p H ks => p ∈ ks ∧ ∃ a, P a ∧ FHs H (E p a) ks
  loc := fun {p H H' ks} ⟨m, a, h, F⟩ k e => ⟨m, a, h, F.keep k e⟩
  liv := fun {p H ks} ⟨m, a, h, F⟩ => F.liv
  key := fun {p H ks} ⟨m, _⟩ => m
theorem FH.unfold {α : Type} {E : Addr → α → List Ent} {P : α → Prop} (F : FH H ((p, comp E P) :: L)) : ∃ a, P a ∧ FH H (E p a ++ L) := by
  obtain ⟨ks, F⟩ := F.ex
  cases F with
  | cons h r nd dj =>
    obtain ⟨m, a, hp, F'⟩ := h
    exact ⟨a, hp, _, F'.join r dj⟩
theorem FH.fold {α : Type} {E : Addr → α → List Ent} {P : α → Prop} (a : α) (hp : P a) (F : FH H (E p a ++ L)) (m : p ∈ (E p a).map (·.1)) : FH H ((p, comp E P) :: L) := by
  obtain ⟨ks, F⟩ := F.ex
  obtain ⟨k1, k2, F1, F2, e⟩ := F.app
  subst e
  have nd := List.nodup_append.mp (F1.join F2 (fun a m m' => (List.nodup_append.mp F.nodup).2.2 a m a m' rfl)).nodup
  obtain ⟨x, hx, ex⟩ := List.mem_map.mp m
  obtain ⟨k, hk, hs⟩ := F1.mem (p := x.1) (φ := x.2) hx
  exact ⟨k1 ++ k2, .cons ⟨by rw [← ex]; exact hs _ (Pr.key _ hk), a, hp, F1⟩ F2 nd.1 fun a m m' => nd.2.2 a m a m' rfl⟩
end
/-- x is taken out of L -/
inductive Take (x : Ent) : List Ent → List Ent → Prop where
  | here {L} : Take x (x :: L) L
  | there {y L L'} (h : Take x L L') : Take x (y :: L) (y :: L')
/-- some of L, in any order -/
inductive Sel : List Ent → List Ent → Prop where
  | nil {L} : Sel [] L
  | all {L} : Sel L L
  | cons {x R L L'} (h : Take x L L') (s : Sel R L') : Sel (x :: R) L
  | drop {x R L} (s : Sel R L) : Sel R (x :: L)
theorem Take.perm {x : Ent} {L L' : List Ent} (h : Take x L L') : L.Perm (x :: L') := by
  induction h with
  | here => exact List.Perm.refl _
  | there _ ih => exact (ih.cons _).trans (List.Perm.swap _ _ _)
theorem Sel.ok {R L : List Ent} (s : Sel R L) : ∃ M, L.Perm (R ++ M) := by
  induction s with
  | nil => exact ⟨_, List.Perm.refl _⟩
  | all => exact ⟨[], by rw [List.append_nil]⟩
  | cons h _ ih =>
    obtain ⟨M, e⟩ := ih
    exact ⟨M, h.perm.trans (e.cons _)⟩
  | @drop x _ _ _ ih =>
    obtain ⟨M, e⟩ := ih
    exact ⟨x :: M, (e.cons x).trans List.perm_middle.symm⟩
theorem FH.sel {H : Hp} {L R : List Ent} (F : FH H L) (s : Sel R L) : FH H R := by
  obtain ⟨M, e⟩ := s.ok
  exact (F.perm e).sub (List.sublist_append_left _ _)

/-! ### one rule a construct -/
abbrev K0 := L2.St → Hp → Prop
section
variable {σ : L2.St} {H H' : Hp} {Q : VK} {QB : Bool → Hp → Prop} {QL : List V → Hp → Prop} {QO : Option Int → Hp → Prop} {QS : L2.St → Hp → Prop} {te ta tb tc : TE} {t u : TT} {tl : TA} {r r' : R2} {rc : List V → Hp → VK → Prop} {s1 s2 : TS} {nx bk ct : K0} {rt : VK} {v x y : V} {g : TG} {i j : Int} {b : Bool} {E : XK} {sp : Sp} {C : Addr} {P : Prop} [Decidable P] {A B : Prop} {S : Sta}
theorem is_var {n : Nat} (h : tVar n σ H Q) : tVar n σ H Q := h
theorem is_g {n : Nat} (h : gName n v σ H QS) : gName n v σ H QS := h
theorem is_au {n : Nat} {te : TE} {ti : TIp} {D : Ends} (h : tAug n te ti D σ H) : tAug n te ti D σ H := h
theorem is_ml {n : Nat} {D : List V} (h : eMakeL n C sp D E tl σ H Q) : eMakeL n C sp D E tl σ H Q := h
theorem is_isi {l : List V} (h : rIsI l H Q) : rIsI l H Q := h
theorem is_pow (h : rPow x y H Q) : rPow x y H Q := h
theorem is_ix (h : rIx S x y H Q) : rIx S x y H Q := h
theorem is_len {l : List V} (h : rLen S l H Q) : rLen S l H Q := h
theorem is_sl {x : V} {lo hi : Option Int} (h : rSl S x lo hi H Q) : rSl S x lo hi H Q := h
theorem is_eq (h : rEq x y H Q) : rEq x y H Q := h
theorem is_ne (h : rNe x y H Q) : rNe x y H Q := h
theorem is_is (h : rIs x y H Q) : rIs x y H Q := h
theorem is_isn (h : rIsNot x y H Q) : rIsNot x y H Q := h
theorem x_c (h : Q v H) : tC v σ H Q := h
theorem x_con (h : Q v H) : eCon v σ H Q := h
theorem x_op (h : ta σ H fun x H1 => tb σ H1 fun y H2 => r x y H2 Q) : tOp r ta tb σ H Q := h
theorem x_un {ru : V → Hp → VK → Prop} (h : ta σ H fun x H1 => ru x H1 Q) : tUn ru ta σ H Q := h
theorem x_add (h : Q (.int (i + j)) H) : rAdd (.int i) (.int j) H Q := .inl ⟨i, j, rfl, rfl, h⟩
theorem x_sub (h : Q (.int (i - j)) H) : rSub (.int i) (.int j) H Q := ⟨i, j, rfl, rfl, h⟩
theorem x_mul (c : CMul i j) (h : Q (.int (i * j)) H) : rMul (.int i) (.int j) H Q := ⟨i, j, rfl, rfl, c, h⟩
theorem x_fdiv (c : CDivW i j) (h : Q (.int (i / j)) H) : rFdiv (.int i) (.int j) H Q := ⟨i, j, rfl, rfl, c, h⟩
theorem x_mod (c : 0 < j) (h : Q (.int (i % j)) H) : rMod (.int i) (.int j) H Q := ⟨i, j, rfl, rfl, c, h⟩
theorem x_pow (c : CPow i j) (h : Q (.int (i ^ j.toNat)) H) : rPow (.int i) (.int j) H Q := ⟨i, j, rfl, rfl, c, h⟩
theorem x_shl (c : CPow i j) (h : Q (.int (i * 2 ^ j.toNat)) H) : rShl (.int i) (.int j) H Q := ⟨i, j, rfl, rfl, c, h⟩
theorem x_band (h : Q (.int (Builtin.bitAnd i j)) H) : rAnd (.int i) (.int j) H Q := ⟨i, j, rfl, rfl, h⟩
theorem x_neg (h : Q (.int (-i)) H) : rNeg (.int i) H Q := ⟨i, rfl, h⟩
theorem x_lt (h : Q (.bl (decide (i < j))) H) : rLt (.int i) (.int j) H Q := ⟨i, j, rfl, rfl, h⟩
theorem x_le (h : Q (.bl (decide (i ≤ j))) H) : rLe (.int i) (.int j) H Q := ⟨i, j, rfl, rfl, h⟩
theorem x_gt (h : Q (.bl (decide (j < i))) H) : rGt (.int i) (.int j) H Q := ⟨i, j, rfl, rfl, h⟩
theorem x_ge (h : Q (.bl (decide (j ≤ i))) H) : rGe (.int i) (.int j) H Q := ⟨i, j, rfl, rfl, h⟩
theorem x_eqI (h : Q (.bl (decide (i = j))) H) : rEq (.int i) (.int j) H Q := ⟨rfl, by rw [show decide (V.int i = V.int j) = decide (i = j) by rw [Bool.eq_iff_iff]; simp]; exact h⟩
theorem x_neI (h : Q (.bl (decide (i ≠ j))) H) : rNe (.int i) (.int j) H Q := ⟨rfl, by rw [show (!decide (V.int i = V.int j)) = decide (i ≠ j) by rw [Bool.eq_iff_iff]; simp]; exact h⟩
theorem x_eqB {a b : Bool} (h : Q (.bl (decide (a = b))) H) : rEq (.bl a) (.bl b) H Q := ⟨rfl, by rw [show decide (V.bl a = V.bl b) = decide (a = b) by rw [Bool.eq_iff_iff]; simp]; exact h⟩
theorem x_neB {a b : Bool} (h : Q (.bl (decide (a ≠ b))) H) : rNe (.bl a) (.bl b) H Q := ⟨rfl, by rw [show (!decide (V.bl a = V.bl b)) = decide (a ≠ b) by rw [Bool.eq_iff_iff]; simp]; exact h⟩
theorem x_eqS {a b : Str} (h : Q (.bl (decide (a = b))) H) : rEq (.str a) (.str b) H Q := ⟨rfl, by rw [show decide (V.str a = V.str b) = decide (a = b) by rw [Bool.eq_iff_iff]; simp]; exact h⟩
theorem x_neS {a b : Str} (h : Q (.bl (decide (a ≠ b))) H) : rNe (.str a) (.str b) H Q := ⟨rfl, by rw [show (!decide (V.str a = V.str b)) = decide (a ≠ b) by rw [Bool.eq_iff_iff]; simp]; exact h⟩
theorem x_isN (h : Q (.bl true) H) : rIs .non .non H Q := ⟨rfl, h⟩
theorem x_isnN (h : Q (.bl false) H) : rIsNot .non .non H Q := ⟨rfl, h⟩
theorem x_isI (h : Q (.bl false) H) : rIs (.int i) .non H Q := ⟨rfl, h⟩
theorem x_isnI (h : Q (.bl true) H) : rIsNot (.int i) .non H Q := ⟨rfl, h⟩
theorem x_isR (h : Q (.bl false) H) : rIs (.ref C) .non H Q := ⟨rfl, h⟩
theorem x_isnR (h : Q (.bl true) H) : rIsNot (.ref C) .non H Q := ⟨rfl, h⟩
theorem x_isB (h : Q (.bl false) H) : rIs (.bl b) .non H Q := ⟨rfl, h⟩
theorem x_isnB (h : Q (.bl true) H) : rIsNot (.bl b) .non H Q := ⟨rfl, h⟩
/-! tests -/
theorem x_test (h : te σ H fun x H' => ∃ k, x = .bl k ∧ QB k H') : tTest te σ H QB := h
theorem x_tB (h : te σ H fun x H' => ∃ k, x = .bl k ∧ QB k H') : tB te σ H QB := h
theorem x_bl {QK : Bool → Prop} (h : QK b) : ∃ k, V.bl b = .bl k ∧ QK k := ⟨b, rfl, h⟩
theorem x_not (h : t σ H fun c H1 => QB (!c) H1) : tNot t σ H QB := h
theorem x_and (h : t σ H fun c H1 => if c = true then u σ H1 QB else QB false H1) : tAnd t u σ H QB := h
theorem x_or (h : t σ H fun c H1 => if c = true then QB true H1 else u σ H1 QB) : tOr t u σ H QB := h
theorem x_andV (h : ta σ H fun x H1 => ∃ c, x = .bl c ∧ if c = true then tb σ H1 Q else Q (.bl false) H1) : tAndV ta tb σ H Q := h
theorem x_orV (h : ta σ H fun x H1 => ∃ c, x = .bl c ∧ if c = true then Q (.bl true) H1 else tb σ H1 Q) : tOrV ta tb σ H Q := h
theorem x_notV (h : ta σ H fun x H1 => ∃ c, x = .bl c ∧ Q (.bl (!c)) H1) : tNotV ta σ H Q := h
theorem x_tIf (h : t σ H fun c H1 => if c = true then ta σ H1 Q else tb σ H1 Q) : tIf t ta tb σ H Q := h
theorem x_chain (h : ta σ H fun x H1 => tb σ H1 fun y H2 => r x y H2 fun z H3 => ∃ k, z = .bl k ∧ (if k = true then tc σ H3 fun w' H4 => r' y w' H4 Q else Q (.bl false) H3)) : tChain r r' ta tb tc σ H Q := h
/-! decisions -/
theorem x_ite (h1 : P → A) (h2 : ¬ P → B) : if decide P = true then A else B := by
  by_cases h : P
  · rw [if_pos (decide_eq_true h)]; exact h1 h
  · rw [if_neg (by rw [decide_eq_false h]; exact Bool.false_ne_true)]; exact h2 h
theorem x_niteP (h1 : ¬ P → A) (h2 : P → B) : if (!decide P) = true then A else B := by
  by_cases h : P
  · rw [decide_eq_true h, if_neg (by simp)]; exact h2 h
  · rw [decide_eq_false h, if_pos (by simp)]; exact h1 h
theorem x_iteT (h : A) : if true = true then A else B := by rw [if_pos rfl]; exact h
theorem x_iteF (h : B) : if false = true then A else B := by rw [if_neg Bool.false_ne_true]; exact h
theorem x_niteT (h : B) : if (!true) = true then A else B := x_iteF h
theorem x_niteF (h : A) : if (!false) = true then A else B := x_iteT h
theorem x_itec (h1 : b = true → A) (h2 : b = false → B) : if b = true then A else B := by
  cases b with
  | true => exact x_iteT (h1 rfl)
  | false => exact x_iteF (h2 rfl)
theorem x_nitec (h1 : b = false → A) (h2 : b = true → B) : if (!b) = true then A else B := by
  cases b with
  | true => exact x_iteF (h2 rfl)
  | false => exact x_iteT (h1 rfl)
/-! statements -/
theorem x_seq (h : s1 ⟨s2 ⟨nx, rt, bk, ct⟩, rt, bk, ct⟩ σ H) : tSeq s1 s2 ⟨nx, rt, bk, ct⟩ σ H := h
theorem x_next (h : nx σ H) : tNext ⟨nx, rt, bk, ct⟩ σ H := h
theorem x_brk (h : bk σ H) : tBreak ⟨nx, rt, bk, ct⟩ σ H := h
theorem x_cont (h : ct σ H) : tCont ⟨nx, rt, bk, ct⟩ σ H := h
theorem x_drop (h : te σ H fun _ H1 => nx σ H1) : tDrop te ⟨nx, rt, bk, ct⟩ σ H := h
theorem x_ret (h : te σ H rt) : tRet te ⟨nx, rt, bk, ct⟩ σ H := h
theorem x_retN (h : rt .non H) : tRetN ⟨nx, rt, bk, ct⟩ σ H := h
theorem x_ifS (h : t σ H fun b H1 => if b = true then s1 ⟨nx, rt, bk, ct⟩ σ H1 else s2 ⟨nx, rt, bk, ct⟩ σ H1) : tIfS t s1 s2 ⟨nx, rt, bk, ct⟩ σ H := h
theorem x_asg (h : te σ H fun x H1 => g x σ H1 nx) : tAsg te g ⟨nx, rt, bk, ct⟩ σ H := h
theorem x_augA (h : Q (.int (i + j)) H) : rAug (.int i) (.int j) H Q := ⟨i, j, rfl, rfl, h⟩
theorem x_augS (h : Q (.int (i - j)) H) : rAugS (.int i) (.int j) H Q := ⟨i, j, rfl, rfl, h⟩
/-! calls, displays -/
theorem x_nil (h : QL [] H) : tNil σ H QL := h
theorem x_cons (h : ta σ H fun x H1 => tl σ H1 fun xs H2 => QL (x :: xs) H2) : tCons ta tl σ H QL := h
theorem x_cb (h : tl σ H fun vs H1 => rc vs H1 Q) : tCB rc tl σ H Q := h
theorem x_call (h : tl σ H fun vs H1 => sp (vs ++ []) H1 Q E) : tCall sp [] E tl σ H Q := h
theorem x_chn {tl : TC} (h : ta σ H fun x H1 => tl σ x H1 Q) : tChn ta tl σ H Q := h
theorem x_clast (h : tb σ H fun y H1 => r x y H1 Q) : cLast r tb σ x H Q := h
theorem x_clink {tl : TC} (h : tb σ H fun y H1 => r x y H1 fun z H2 => ∃ k, z = .bl k ∧ (if k = true then tl σ y H2 Q else Q (.bl false) H2)) : cLink r tb tl σ x H Q := h
theorem x_bits (h : Q (.int (Builtin.Int.intBits i : Nat)) H) : rBits (.int i) H Q := ⟨i, rfl, h⟩
theorem x_app {vs : List V} (h : sp vs H Q E) : sp (vs ++ []) H Q E := by rw [List.append_nil]; exact h
theorem x_app' {vs : List V} (h : sp (x :: vs) H Q E) : sp (x :: (vs ++ [])) H Q E := by rw [List.append_nil]; exact h
theorem x_raw {vs : List V} (h : sp vs H Q E) : spRaw sp vs H Q E := by unfold spRaw; rw [List.append_nil]; exact h
theorem x_cmeth (h : tl σ H fun vs H2 => sp (.ref C :: vs) H2 Q E) : ClX.tCMeth C sp E (eCon (.ref C)) tl σ H Q := ⟨rfl, h⟩
def Kmake (C : Addr) (sp : Sp) (vs : List V) (H1 : Hp) (Q : VK) (E : XK) : Prop := ∀ x dx, H1 x = none → H1 dx = none → dx ≠ x → sp (.ref x :: (vs ++ [])) (upd (upd H1 dx (.own x)) x (.ins C dx [])) (fun v H2 => v = .non ∧ Q (.ref x) H2) E
theorem x_make (h : tl σ H fun vs H1 => Kmake C sp vs H1 Q E) : tMake C sp [] E tl σ H Q := h
theorem x_meth {m : Str} (h : ta σ H fun x H1 => ∃ a dx fs, x = .ref a ∧ H1 a = some (.ins C dx fs) ∧ fs.lookup m = none ∧ tl σ H1 fun vs H2 => sp (x :: (vs ++ [])) H2 Q E) : tMeth C m sp [] E ta tl σ H Q := h
def Klst (xs : List V) (H1 : Hp) (Q : VK) : Prop := xs.length ≤ sizeLine ∧ ∀ p, H1 p = none → Q (.ref p) (upd H1 p (.lst xs))
theorem x_lst (h : tl σ H fun xs H1 => Klst xs H1 Q) : tLst tl σ H Q := h
def Ktup (xs : List V) (H1 : Hp) (Q : VK) : Prop := xs.length ≤ sizeLine ∧ ∀ p, H1 p = none → Q (.ref p) (upd H1 p (.tup xs))
theorem x_tup (h : tl σ H fun xs H1 => Ktup xs H1 Q) : tTup tl σ H Q := h
theorem x_intI (h : Q (.int i) H) : rInt [.int i] H Q := .inl ⟨i, rfl, h⟩
theorem x_intB (h : Q (.int (if b then 1 else 0)) H) : rInt [.bl b] H Q := .inr ⟨b, rfl, h⟩
theorem isi_of {n t : String} {bb : Bool} (ty : TyN H x t) (k : kitB t n = some bb) (e : isA t n = bb) (h : Q (.bl bb) H) : rIsI [x, .ty n] H Q := ⟨x, n, t, rfl, ty, by rw [e]; exact k, by rw [e]; exact h⟩

theorem kit_int_int : kitB "int" "int" = some true := by decide +kernel
theorem x_isi_int_int (h : Q (.bl true) H) : rIsI [.int i, .ty "int"] H Q := isi_of (.int i) kit_int_int rfl h
theorem kit_int_bool : kitB "int" "bool" = some false := by decide +kernel
theorem x_isi_int_bool (h : Q (.bl false) H) : rIsI [.int i, .ty "bool"] H Q := isi_of (.int i) kit_int_bool rfl h
theorem kit_int_str : kitB "int" "str" = some false := by decide +kernel
theorem x_isi_int_str (h : Q (.bl false) H) : rIsI [.int i, .ty "str"] H Q := isi_of (.int i) kit_int_str rfl h
theorem kit_int_list : kitB "int" "list" = some false := by decide +kernel
theorem x_isi_int_list (h : Q (.bl false) H) : rIsI [.int i, .ty "list"] H Q := isi_of (.int i) kit_int_list rfl h
theorem kit_int_tuple : kitB "int" "tuple" = some false := by decide +kernel
theorem x_isi_int_tuple (h : Q (.bl false) H) : rIsI [.int i, .ty "tuple"] H Q := isi_of (.int i) kit_int_tuple rfl h
theorem kit_int_dict : kitB "int" "dict" = some false := by decide +kernel
theorem x_isi_int_dict (h : Q (.bl false) H) : rIsI [.int i, .ty "dict"] H Q := isi_of (.int i) kit_int_dict rfl h
theorem kit_bool_int : kitB "bool" "int" = some true := by decide +kernel
theorem x_isi_bool_int (h : Q (.bl true) H) : rIsI [.bl b, .ty "int"] H Q := isi_of (.bl b) kit_bool_int rfl h
theorem kit_bool_bool : kitB "bool" "bool" = some true := by decide +kernel
theorem x_isi_bool_bool (h : Q (.bl true) H) : rIsI [.bl b, .ty "bool"] H Q := isi_of (.bl b) kit_bool_bool rfl h
theorem kit_bool_str : kitB "bool" "str" = some false := by decide +kernel
theorem x_isi_bool_str (h : Q (.bl false) H) : rIsI [.bl b, .ty "str"] H Q := isi_of (.bl b) kit_bool_str rfl h
theorem kit_bool_list : kitB "bool" "list" = some false := by decide +kernel
theorem x_isi_bool_list (h : Q (.bl false) H) : rIsI [.bl b, .ty "list"] H Q := isi_of (.bl b) kit_bool_list rfl h
theorem kit_bool_tuple : kitB "bool" "tuple" = some false := by decide +kernel
theorem x_isi_bool_tuple (h : Q (.bl false) H) : rIsI [.bl b, .ty "tuple"] H Q := isi_of (.bl b) kit_bool_tuple rfl h
theorem kit_bool_dict : kitB "bool" "dict" = some false := by decide +kernel
theorem x_isi_bool_dict (h : Q (.bl false) H) : rIsI [.bl b, .ty "dict"] H Q := isi_of (.bl b) kit_bool_dict rfl h
theorem kit_str_int : kitB "str" "int" = some false := by decide +kernel
theorem x_isi_str_int {zs : Str} (h : Q (.bl false) H) : rIsI [.str zs, .ty "int"] H Q := isi_of (.str zs) kit_str_int rfl h
theorem kit_str_bool : kitB "str" "bool" = some false := by decide +kernel
theorem x_isi_str_bool {zs : Str} (h : Q (.bl false) H) : rIsI [.str zs, .ty "bool"] H Q := isi_of (.str zs) kit_str_bool rfl h
theorem kit_str_str : kitB "str" "str" = some true := by decide +kernel
theorem x_isi_str_str {zs : Str} (h : Q (.bl true) H) : rIsI [.str zs, .ty "str"] H Q := isi_of (.str zs) kit_str_str rfl h
theorem kit_str_list : kitB "str" "list" = some false := by decide +kernel
theorem x_isi_str_list {zs : Str} (h : Q (.bl false) H) : rIsI [.str zs, .ty "list"] H Q := isi_of (.str zs) kit_str_list rfl h
theorem kit_str_tuple : kitB "str" "tuple" = some false := by decide +kernel
theorem x_isi_str_tuple {zs : Str} (h : Q (.bl false) H) : rIsI [.str zs, .ty "tuple"] H Q := isi_of (.str zs) kit_str_tuple rfl h
theorem kit_str_dict : kitB "str" "dict" = some false := by decide +kernel
theorem x_isi_str_dict {zs : Str} (h : Q (.bl false) H) : rIsI [.str zs, .ty "dict"] H Q := isi_of (.str zs) kit_str_dict rfl h
theorem kit_NoneType_int : kitB "NoneType" "int" = some false := by decide +kernel
theorem x_isi_NoneType_int (h : Q (.bl false) H) : rIsI [.non, .ty "int"] H Q := isi_of (.non) kit_NoneType_int rfl h
theorem kit_NoneType_bool : kitB "NoneType" "bool" = some false := by decide +kernel
theorem x_isi_NoneType_bool (h : Q (.bl false) H) : rIsI [.non, .ty "bool"] H Q := isi_of (.non) kit_NoneType_bool rfl h
theorem kit_NoneType_str : kitB "NoneType" "str" = some false := by decide +kernel
theorem x_isi_NoneType_str (h : Q (.bl false) H) : rIsI [.non, .ty "str"] H Q := isi_of (.non) kit_NoneType_str rfl h
theorem kit_NoneType_list : kitB "NoneType" "list" = some false := by decide +kernel
theorem x_isi_NoneType_list (h : Q (.bl false) H) : rIsI [.non, .ty "list"] H Q := isi_of (.non) kit_NoneType_list rfl h
theorem kit_NoneType_tuple : kitB "NoneType" "tuple" = some false := by decide +kernel
theorem x_isi_NoneType_tuple (h : Q (.bl false) H) : rIsI [.non, .ty "tuple"] H Q := isi_of (.non) kit_NoneType_tuple rfl h
theorem kit_NoneType_dict : kitB "NoneType" "dict" = some false := by decide +kernel
theorem x_isi_NoneType_dict (h : Q (.bl false) H) : rIsI [.non, .ty "dict"] H Q := isi_of (.non) kit_NoneType_dict rfl h
theorem kit_list_int : kitB "list" "int" = some false := by decide +kernel
theorem kit_list_bool : kitB "list" "bool" = some false := by decide +kernel
theorem kit_list_str : kitB "list" "str" = some false := by decide +kernel
theorem kit_list_list : kitB "list" "list" = some true := by decide +kernel
theorem kit_list_tuple : kitB "list" "tuple" = some false := by decide +kernel
theorem kit_list_dict : kitB "list" "dict" = some false := by decide +kernel
theorem kit_tuple_int : kitB "tuple" "int" = some false := by decide +kernel
theorem kit_tuple_bool : kitB "tuple" "bool" = some false := by decide +kernel
theorem kit_tuple_str : kitB "tuple" "str" = some false := by decide +kernel
theorem kit_tuple_list : kitB "tuple" "list" = some false := by decide +kernel
theorem kit_tuple_tuple : kitB "tuple" "tuple" = some true := by decide +kernel
theorem kit_tuple_dict : kitB "tuple" "dict" = some false := by decide +kernel
theorem kit_dict_int : kitB "dict" "int" = some false := by decide +kernel
theorem kit_dict_bool : kitB "dict" "bool" = some false := by decide +kernel
theorem kit_dict_str : kitB "dict" "str" = some false := by decide +kernel
theorem kit_dict_list : kitB "dict" "list" = some false := by decide +kernel
theorem kit_dict_tuple : kitB "dict" "tuple" = some false := by decide +kernel
theorem kit_dict_dict : kitB "dict" "dict" = some true := by decide +kernel

/-! the heap -/
variable {L L' : List Ent} {p q : Addr} {xs : List V} {f : Str} {dx : Addr} {fs : List (Str × V)} {lo hi : Option Int}
theorem x_ixL (F : FH H L) (m : (p, Is (.lst xs)) ∈ L) (a : atI xs i = some v) (h : Q v H) : rIx S (.ref p) (.int i) H Q := .inl ⟨p, xs, i, v, rfl, rfl, .inl (.inl (.inl (F.get m))), a, h⟩
theorem x_ixT (F : FH H L) (m : (p, Is (.tup xs)) ∈ L) (a : atI xs i = some v) (h : Q v H) : rIx S (.ref p) (.int i) H Q := .inl ⟨p, xs, i, v, rfl, rfl, .inr (.inl (.inl (F.get m))), a, h⟩
theorem x_ixR (F : FH H L) (m : (p, IsR xs) ∈ L) (a : atI xs i = some v) (h : Q v H) : rIx S (.ref p) (.int i) H Q := .inl ⟨p, xs, i, v, rfl, rfl, .inl (.inl (F.getR m)), a, h⟩
theorem x_lenL (F : FH H L) (m : (p, Is (.lst xs)) ∈ L) (h : Q (.int (xs.length : Int)) H) : rLen S [.ref p] H Q := .inl ⟨p, xs, rfl, .inl (.inl (.inl (F.get m))), h⟩
theorem x_lenT (F : FH H L) (m : (p, Is (.tup xs)) ∈ L) (h : Q (.int (xs.length : Int)) H) : rLen S [.ref p] H Q := .inl ⟨p, xs, rfl, .inr (.inl (.inl (F.get m))), h⟩
theorem x_lenR (F : FH H L) (m : (p, IsR xs) ∈ L) (h : Q (.int (xs.length : Int)) H) : rLen S [.ref p] H Q := .inl ⟨p, xs, rfl, .inl (.inl (F.getR m)), h⟩
theorem x_fld (h : te σ H fun x H1 => ∃ a dx fs v, x = .ref a ∧ H1 a = some (.ins C dx fs) ∧ fs.lookup f = some v ∧ Q v H1) : eFld C f te σ H Q := h
theorem x_fldG {QV : V → Prop} (F : FH H L) (m : (p, Is (.ins C dx fs)) ∈ L) (l : fs.lookup f = some v) (h : QV v) : ∃ a dx fs v, V.ref p = .ref a ∧ H a = some (.ins C dx fs) ∧ fs.lookup f = some v ∧ QV v := ⟨p, dx, fs, v, rfl, F.get m, l, h⟩
theorem x_methG {m : Str} {B : Prop} (F : FH H L) (hm : (p, Is (.ins C dx fs)) ∈ L) (l : fs.lookup m = none) (h : B) : ∃ a dx fs, V.ref p = .ref a ∧ H a = some (.ins C dx fs) ∧ fs.lookup m = none ∧ B := ⟨p, dx, fs, rfl, F.get hm, l, h⟩
theorem x_inOwnF (F : FH H L) (m : (p, Is (.ins C dx fs)) ∈ L) (h : sp [.ref p, y] H (fun v H' => ∃ b, v = .bl b ∧ Q (.bl b) H') E) : rInOwn C false sp E y (.ref p) H Q := ⟨p, dx, fs, rfl, F.get m, h⟩
theorem x_inOwnT (F : FH H L) (m : (p, Is (.ins C dx fs)) ∈ L) (h : sp [.ref p, y] H (fun v H' => ∃ b, v = .bl b ∧ Q (.bl (!b)) H') E) : rInOwn C true sp E y (.ref p) H Q := ⟨p, dx, fs, rfl, F.get m, h⟩
theorem x_setF (h : tb σ H fun y H1 => te σ H1 fun x H2 => ∃ a dx fs, x = .ref a ∧ H2 a = some (.ins C dx fs) ∧ fs.length < 1000 ∧ nx σ (upd H2 a (.ins C dx (putF f y fs)))) : sSetF C f te tb ⟨nx, rt, bk, ct⟩ σ H := h
theorem x_setFG {QH : Hp → Prop} {fs' : List (Str × V)} (F : FH H L) (m : (p, Is (.ins C dx fs)) ∈ L) (hl : fs.length < 1000) (e : putF f y fs = fs') (pu : Put p (Is (.ins C dx fs)) (Is (.ins C dx fs')) L L') (h : ∀ H', FH H' L' → QH H') : ∃ a dx fs, V.ref p = .ref a ∧ H a = some (.ins C dx fs) ∧ fs.length < 1000 ∧ QH (upd H a (.ins C dx (putF f y fs))) :=
  ⟨p, dx, fs, rfl, F.get m, hl, by rw [e]; exact h _ (F.put pu trivial)⟩
theorem x_gsub {to ti : TE} {ts : TSet} (h : to σ H fun o H1 => ti σ H1 fun i H2 => ts o i v H2 fun H3 => QS σ H3) : gSub to ti ts v σ H QS := h
theorem x_setL {k : Nat} {QH : Hp → Prop} (F : FH H L) (m : (p, Is (.lst xs)) ∈ L) (a : ixN xs.length i = some k) (pu : Put p (Is (.lst xs)) (Is (.lst (xs.set k v))) L L') (h : ∀ H', FH H' L' → QH H') : rSetL (.ref p) (.int i) v H QH :=
  ⟨p, xs, i, k, rfl, rfl, F.get m, a, h _ (F.put pu trivial)⟩
theorem x_apd (h : te σ H fun x H1 => ∃ l, x = .ref l ∧ (∃ xs, H1 l = some (.lst xs)) ∧ tl σ H1 fun vs H2 => rAppend x vs H2 Q) : eApp te tl σ H Q := h
theorem x_apdG {B : Prop} (F : FH H L) (m : (p, Is (.lst xs)) ∈ L) (h : B) : ∃ l, V.ref p = .ref l ∧ (∃ xs, H l = some (.lst xs)) ∧ B := ⟨p, rfl, ⟨xs, F.get m⟩, h⟩
theorem x_append (F : FH H L) (m : (p, Is (.lst xs)) ∈ L) (z : xs.length < sizeLine) (pu : Put p (Is (.lst xs)) (Is (.lst (xs ++ [v]))) L L') (h : ∀ H', FH H' L' → Q .non H') : rAppend (.ref p) [v] H Q :=
  ⟨p, xs, v, rfl, rfl, F.get m, z, h _ (F.put pu trivial)⟩
theorem x_lstG {xs : List V} (F : FH H L) (z : xs.length ≤ sizeLine) (h : ∀ p H', H p = none → FH H' ((p, Is (.lst xs)) :: L) → Q (.ref p) H') : Klst xs H Q := ⟨z, fun p hp => h p _ hp (F.new hp)⟩
theorem x_tupG {xs : List V} (F : FH H L) (z : xs.length ≤ sizeLine) (h : ∀ p H', H p = none → FH H' ((p, Is (.tup xs)) :: L) → Q (.ref p) H') : Ktup xs H Q := ⟨z, fun p hp => h p _ hp (F.new hp)⟩
theorem x_makeG {C : Addr} {vs : List V} (F : FH H L) (h : ∀ x dx H', FH H' ((x, Is (.ins C dx [])) :: L) → sp (.ref x :: vs) H' (fun v H2 => v = .non ∧ Q (.ref x) H2) E) :
    Kmake C sp vs H Q E := fun x dx hx hd ne => by
  rw [List.append_nil]
  exact h x dx _ ((F.other hd).new (by rw [upd_ne (Ne.symm ne)]; exact hx))
theorem x_sl {tlo thi : TO} {rs : V → Option Int → Option Int → Hp → VK → Prop} (h : te σ H fun x H1 => tlo σ H1 fun l H2 => thi σ H2 fun u H3 => rs x l u H3 Q) : L2.tSl rs te tlo thi σ H Q := h
theorem x_nopart (h : QO none H) : tNoPart σ H QO := h
theorem x_part (h : te σ H fun x H1 => ∃ i, x = .int i ∧ QO (some i) H1) : tPart te σ H QO := h
theorem cutV_tail {x : V} : cutV (x :: xs) (some 1) none = xs := by
  unfold cutV
  rw [HT.sIx_none, show (1 : Int) = ((1 : Nat) : Int) from rfl, HT.sIx_nat]
  rw [show min 1 (x :: xs).length = 1 by rw [List.length_cons]; omega]
  show xs.take _ = xs
  rw [List.length_cons, show xs.length + 1 - 1 = xs.length by omega, List.take_length]
theorem x_slL (F : FH H L) (m : (p, Is (.lst xs)) ∈ L) (h : ∀ q H', H q = none → FH H' ((q, Is (.lst (cutV xs lo hi))) :: L) → Q (.ref q) H') : rSl S (.ref p) lo hi H Q := ⟨p, xs, rfl, .inl (.inl (F.get m)), fun q hq => h q _ hq (F.new hq)⟩
theorem x_sl1 {v : V} (F : FH H L) (m : (p, Is (.lst (v :: xs))) ∈ L) (h : ∀ q H', H q = none → FH H' ((q, Is (.lst xs)) :: L) → Q (.ref q) H') : rSl S (.ref p) (some 1) none H Q := ⟨p, _, rfl, .inl (.inl (F.get m)), fun q hq => h q _ hq (by rw [show cutV (v :: xs) (some 1) none = xs from cutV_tail]; exact F.new hq)⟩
theorem cutV_pre {n : Nat} {ys zs : List V} (e : ys.length = n) : cutV (ys ++ zs) none (some (n : Int)) = ys := by
  unfold cutV
  rw [HT.sIx_none, HT.sIx_nat, List.drop_zero, Nat.sub_zero, Nat.min_eq_left (by rw [List.length_append]; omega), ← e, List.take_left]
theorem x_slp1 {v0 : V} (F : FH H L) (m : (p, Is (.lst (v0 :: xs))) ∈ L) (h : ∀ q H', H q = none → FH H' ((q, Is (.lst [v0])) :: L) → Q (.ref q) H') : rSl S (.ref p) none (some 1) H Q := ⟨p, _, rfl, .inl (.inl (F.get m)), fun q hq => h q _ hq (by rw [show cutV (v0 :: xs) none (some 1) = [v0] from cutV_pre (ys := [v0]) (n := 1) rfl]; exact F.new hq)⟩
theorem x_slp2 {v0 v1 : V} (F : FH H L) (m : (p, Is (.lst (v0 :: v1 :: xs))) ∈ L) (h : ∀ q H', H q = none → FH H' ((q, Is (.lst [v0, v1])) :: L) → Q (.ref q) H') : rSl S (.ref p) none (some 2) H Q := ⟨p, _, rfl, .inl (.inl (F.get m)), fun q hq => h q _ hq (by rw [show cutV (v0 :: v1 :: xs) none (some 2) = [v0, v1] from cutV_pre (ys := [v0, v1]) (n := 2) rfl]; exact F.new hq)⟩
theorem x_slp3 {v0 v1 v2 : V} (F : FH H L) (m : (p, Is (.lst (v0 :: v1 :: v2 :: xs))) ∈ L) (h : ∀ q H', H q = none → FH H' ((q, Is (.lst [v0, v1, v2])) :: L) → Q (.ref q) H') : rSl S (.ref p) none (some 3) H Q := ⟨p, _, rfl, .inl (.inl (F.get m)), fun q hq => h q _ hq (by rw [show cutV (v0 :: v1 :: v2 :: xs) none (some 3) = [v0, v1, v2] from cutV_pre (ys := [v0, v1, v2]) (n := 3) rfl]; exact F.new hq)⟩
theorem x_slp4 {v0 v1 v2 v3 : V} (F : FH H L) (m : (p, Is (.lst (v0 :: v1 :: v2 :: v3 :: xs))) ∈ L) (h : ∀ q H', H q = none → FH H' ((q, Is (.lst [v0, v1, v2, v3])) :: L) → Q (.ref q) H') : rSl S (.ref p) none (some 4) H Q := ⟨p, _, rfl, .inl (.inl (F.get m)), fun q hq => h q _ hq (by rw [show cutV (v0 :: v1 :: v2 :: v3 :: xs) none (some 4) = [v0, v1, v2, v3] from cutV_pre (ys := [v0, v1, v2, v3]) (n := 4) rfl]; exact F.new hq)⟩
theorem x_slp5 {v0 v1 v2 v3 v4 : V} (F : FH H L) (m : (p, Is (.lst (v0 :: v1 :: v2 :: v3 :: v4 :: xs))) ∈ L) (h : ∀ q H', H q = none → FH H' ((q, Is (.lst [v0, v1, v2, v3, v4])) :: L) → Q (.ref q) H') : rSl S (.ref p) none (some 5) H Q := ⟨p, _, rfl, .inl (.inl (F.get m)), fun q hq => h q _ hq (by rw [show cutV (v0 :: v1 :: v2 :: v3 :: v4 :: xs) none (some 5) = [v0, v1, v2, v3, v4] from cutV_pre (ys := [v0, v1, v2, v3, v4]) (n := 5) rfl]; exact F.new hq)⟩
theorem x_slp6 {v0 v1 v2 v3 v4 v5 : V} (F : FH H L) (m : (p, Is (.lst (v0 :: v1 :: v2 :: v3 :: v4 :: v5 :: xs))) ∈ L) (h : ∀ q H', H q = none → FH H' ((q, Is (.lst [v0, v1, v2, v3, v4, v5])) :: L) → Q (.ref q) H') : rSl S (.ref p) none (some 6) H Q := ⟨p, _, rfl, .inl (.inl (F.get m)), fun q hq => h q _ hq (by rw [show cutV (v0 :: v1 :: v2 :: v3 :: v4 :: v5 :: xs) none (some 6) = [v0, v1, v2, v3, v4, v5] from cutV_pre (ys := [v0, v1, v2, v3, v4, v5]) (n := 6) rfl]; exact F.new hq)⟩
theorem x_slp7 {v0 v1 v2 v3 v4 v5 v6 : V} (F : FH H L) (m : (p, Is (.lst (v0 :: v1 :: v2 :: v3 :: v4 :: v5 :: v6 :: xs))) ∈ L) (h : ∀ q H', H q = none → FH H' ((q, Is (.lst [v0, v1, v2, v3, v4, v5, v6])) :: L) → Q (.ref q) H') : rSl S (.ref p) none (some 7) H Q := ⟨p, _, rfl, .inl (.inl (F.get m)), fun q hq => h q _ hq (by rw [show cutV (v0 :: v1 :: v2 :: v3 :: v4 :: v5 :: v6 :: xs) none (some 7) = [v0, v1, v2, v3, v4, v5, v6] from cutV_pre (ys := [v0, v1, v2, v3, v4, v5, v6]) (n := 7) rfl]; exact F.new hq)⟩
theorem x_slp8 {v0 v1 v2 v3 v4 v5 v6 v7 : V} (F : FH H L) (m : (p, Is (.lst (v0 :: v1 :: v2 :: v3 :: v4 :: v5 :: v6 :: v7 :: xs))) ∈ L) (h : ∀ q H', H q = none → FH H' ((q, Is (.lst [v0, v1, v2, v3, v4, v5, v6, v7])) :: L) → Q (.ref q) H') : rSl S (.ref p) none (some 8) H Q := ⟨p, _, rfl, .inl (.inl (F.get m)), fun q hq => h q _ hq (by rw [show cutV (v0 :: v1 :: v2 :: v3 :: v4 :: v5 :: v6 :: v7 :: xs) none (some 8) = [v0, v1, v2, v3, v4, v5, v6, v7] from cutV_pre (ys := [v0, v1, v2, v3, v4, v5, v6, v7]) (n := 8) rfl]; exact F.new hq)⟩
theorem x_slR (F : FH H L) (m : (p, IsR xs) ∈ L) (h : ∀ q H', H q = none → FH H' ((q, Is (.lst (cutV xs lo hi))) :: L) → Q (.ref q) H') : rSl S (.ref p) lo hi H Q := ⟨p, xs, rfl, .inl (F.getR m), fun q hq => h q _ hq (F.new hq)⟩
theorem x_slS (F : FH H L) (m : S p (.lst xs)) (h : ∀ q H', H q = none → FH H' ((q, Is (.lst (cutV xs lo hi))) :: L) → Q (.ref q) H') : rSl S (.ref p) lo hi H Q := ⟨p, xs, rfl, .inr m, fun q hq => h q _ hq (F.new hq)⟩
theorem x_ixS (m : S p (.lst xs)) (a : atI xs i = some v) (h : Q v H) : rIx S (.ref p) (.int i) H Q := .inl ⟨p, xs, i, v, rfl, rfl, .inl (.inr m), a, h⟩
theorem x_lenS (m : S p (.lst xs)) (h : Q (.int (xs.length : Int)) H) : rLen S [.ref p] H Q := .inl ⟨p, xs, rfl, .inl (.inr m), h⟩
theorem x_none (h : v = .non → Q v H) : v = .non → Q v H := h
theorem x_initEnd {B : Prop} (h : B) : V.non = .non ∧ B := ⟨rfl, h⟩
/-! loops -/
def ForR (g : TG) (s1 : TS) (nx : K0) (rt : VK) (lo hi : Int) (σ : L2.St) (H : Hp) : Prop := (-(2 ^ 62) ≤ lo ∧ lo < 2 ^ 62 ∧ -(2 ^ 62) ≤ hi ∧ hi < 2 ^ 62) ∧ ∃ Pv : Nat → L2.St → Hp → Prop, Pv 0 σ H ∧
    (∀ (i : Nat) σ H, lo + i < hi → Pv i σ H → g (.int (lo + i)) σ H fun σ' H' => s1 ⟨Pv (i + 1), rt, nx, Pv (i + 1)⟩ σ' H') ∧ ∀ σ H, Pv (hi - lo).toNat σ H → nx σ H
theorem x_forR1 (h : te σ H fun y H1 => ∃ j, y = .int j ∧ ForR g s1 nx rt 0 j σ H1) : sForR none te g s1 ⟨nx, rt, bk, ct⟩ σ H := h
theorem x_forR2 (h : ta σ H fun x H1 => tb σ H1 fun y H2 => ∃ i j, x = .int i ∧ y = .int j ∧ ForR g s1 nx rt i j σ H2) : sForR (some ta) tb g s1 ⟨nx, rt, bk, ct⟩ σ H := h
theorem x_int1 {QK : Int → Prop} (h : QK i) : ∃ k, V.int i = .int k ∧ QK k := ⟨i, rfl, h⟩
theorem x_int2 {QK : Int → Int → Prop} (h : QK i j) : ∃ k l, V.int i = .int k ∧ V.int j = .int l ∧ QK k l := ⟨i, j, rfl, rfl, h⟩
/-- a range from 0 by an invariant -/
theorem forG (Pv : Nat → L2.St → Hp → Prop) (h2 : j < 4611686018427387904) (h1 : -4611686018427387904 ≤ j) (h0 : Pv 0 σ H)
    (hs : ∀ (i : Nat) σ H, (i : Int) < j → Pv i σ H → g (.int (i : Int)) σ H fun σ' H' => s1 ⟨Pv (i + 1), rt, nx, Pv (i + 1)⟩ σ' H') (hd : ∀ σ H, Pv j.toNat σ H → nx σ H) : ForR g s1 nx rt 0 j σ H :=
  ⟨⟨by decide, by decide, h1, h2⟩, Pv, h0, fun i σ H h p => by rw [Int.zero_add] at h ⊢; exact hs i σ H h p, fun σ H p => hd σ H (by rw [Int.sub_zero] at p; exact p)⟩
theorem forG2 (Pv : Nat → L2.St → Hp → Prop) (h : -4611686018427387904 ≤ i ∧ i < 4611686018427387904 ∧ -4611686018427387904 ≤ j ∧ j < 4611686018427387904) (h0 : Pv 0 σ H)
    (hs : ∀ (n : Nat) σ H, i + n < j → Pv n σ H → g (.int (i + n)) σ H fun σ' H' => s1 ⟨Pv (n + 1), rt, nx, Pv (n + 1)⟩ σ' H') (hd : ∀ σ H, Pv (j - i).toNat σ H → nx σ H) : ForR g s1 nx rt i j σ H := ⟨h, Pv, h0, hs, hd⟩
/-- a while by a measure -/
def WhB (W : Nat → L2.St → Hp → Prop) (m : Nat) (s1 : TS) (nx : K0) (rt : VK) (σ : L2.St) (H1 : Hp) : Prop := ∃ N : L2.St → Hp → Prop, (∀ σ' H', N σ' H' → ∃ m', m' < m ∧ W m' σ' H') ∧ s1 ⟨N, rt, nx, N⟩ σ H1
def WhN (W : Nat → L2.St → Hp → Prop) (m : Nat) : K0 := fun σ' H' => ∃ m', m' < m ∧ W m' σ' H'
theorem x_whB {W : Nat → L2.St → Hp → Prop} {m : Nat} (h : s1 ⟨WhN W m, rt, nx, WhN W m⟩ σ H) : WhB W m s1 nx rt σ H := ⟨_, fun _ _ h => h, h⟩
theorem whileG (W : Nat → L2.St → Hp → Prop) (m0 : Nat) (h0 : W m0 σ H) (hs : ∀ m σ H, W m σ H → t σ H fun b H1 => if b = true then WhB W m s1 nx rt σ H1 else nx σ H1) : tWhile t s1 ⟨nx, rt, bk, ct⟩ σ H := ⟨W, ⟨m0, h0⟩, hs⟩
/-- the turns one by one: n turns from lo on; P behind them, bk behind a break -/
def forK (g : TG) (s1 : TS) (P bk : K0) (rt : VK) : Nat → Int → L2.St → Hp → Prop
  | 0, _, σ, H => P σ H
  | n + 1, lo, σ, H => g (.int lo) σ H fun σ' H' => s1 ⟨forK g s1 P bk rt n (lo + 1), rt, bk, forK g s1 P bk rt n (lo + 1)⟩ σ' H'
theorem forUC (n : Nat) (Post : L2.St → Hp → Prop) (e : j = (n : Int)) (h2 : j < 4611686018427387904) (h : forK g s1 Post nx rt n 0 σ H) (hd : ∀ σ H, Post σ H → nx σ H) : ForR g s1 nx rt 0 j σ H := by
  refine forG (fun i σ H => i ≤ n ∧ forK g s1 Post nx rt (n - i) (i : Int) σ H) h2 (by omega) ⟨Nat.zero_le _, h⟩ (fun i σ H hi p => ?_) fun σ H p => ?_
  · obtain ⟨q1, q2⟩ := p
    have e1 : n - i = (n - (i + 1)) + 1 := by omega
    rw [e1] at q2
    have e2 : ((i + 1 : Nat) : Int) = (i : Int) + 1 := by omega
    have e3 : (fun σ H => i + 1 ≤ n ∧ forK g s1 Post nx rt (n - (i + 1)) ((i + 1 : Nat) : Int) σ H) = forK g s1 Post nx rt (n - (i + 1)) ((i : Int) + 1) := by
      funext σ H
      rw [e2]
      exact propext ⟨fun h => h.2, fun h => ⟨by omega, h⟩⟩
    show g (.int (i : Int)) σ H fun σ' H' => s1 ⟨fun σ H => i + 1 ≤ n ∧ forK g s1 Post nx rt (n - (i + 1)) ((i + 1 : Nat) : Int) σ H, rt, nx, fun σ H => i + 1 ≤ n ∧ forK g s1 Post nx rt (n - (i + 1)) ((i + 1 : Nat) : Int) σ H⟩ σ' H'
    rw [e3]
    exact q2
  · obtain ⟨_, q⟩ := p
    have e4 : n - j.toNat = 0 := by omega
    rw [e4] at q
    exact hd _ _ q
theorem forU (n : Nat) (e : j = (n : Int)) (h2 : j < 4611686018427387904) (h : forK g s1 nx nx rt n 0 σ H) : ForR g s1 nx rt 0 j σ H := forUC n nx e h2 h fun _ _ h => h
theorem x_forK {n : Nat} (h : g (.int i) σ H fun σ' H' => s1 ⟨forK g s1 nx bk rt n (i + 1), rt, bk, forK g s1 nx bk rt n (i + 1)⟩ σ' H') : forK g s1 nx bk rt (n + 1) i σ H := h
theorem x_forK0 (h : nx σ H) : forK g s1 nx bk rt 0 i σ H := h
/-- where a list is read -/
inductive Src (S : Sta) (L : List Ent) (p : Addr) (xs : List V) : Prop where
  | is (m : (p, Is (.lst xs)) ∈ L)
  | rd (m : (p, IsR xs) ∈ L)
  | st (m : S p (.lst xs))
theorem Src.rdS {L : List Ent} (m : Src S L p xs) (F : FH H L) : RdS S H p (.lst xs) := by
  cases m with
  | is m => exact .inl (.inl (F.get m))
  | rd m => exact .inl (F.getR m)
  | st m => exact .inr m
theorem src_of {K : PySem.W.Frag} (st : S = SK K) (h : SqL K H p xs) : ∃ L, FH H L ∧ Src S L p xs := by
  subst st
  rcases h with h | h
  · refine ⟨[(p, IsR xs)], ⟨[p] ++ [], .cons (p := p) (φ := IsR xs) (k := [p]) ⟨rfl, ?_⟩ .nil (by simp) (fun a _ m => by cases m)⟩, .rd (List.Mem.head _)⟩
    rcases h with h | ⟨o, h⟩
    · exact ⟨_, h, .inl rfl⟩
    · exact ⟨_, h, .inr ⟨o, rfl⟩⟩
  · exact ⟨[], .nil, .st h⟩
def ForS (S : Sta) (g : TG) (s1 : TS) (nx : K0) (rt : VK) (x : V) (σ : L2.St) (H : Hp) : Prop := ∃ a xs, x = .ref a ∧ ∃ Pv : Nat → L2.St → Hp → Prop, Pv 0 σ H ∧ Stays S a xs (fun i H => ∃ σ, Pv i σ H) ∧
  (∀ i y σ H, xs[i]? = some y → Pv i σ H → g y σ H fun σ' H' => s1 ⟨Pv (i + 1), rt, nx, Pv (i + 1)⟩ σ' H') ∧ ∀ σ H, Pv xs.length σ H → nx σ H
theorem x_forE (h : te σ H fun x H1 => ForS S g s1 nx rt x σ H1) : sFor S te g s1 ⟨nx, rt, bk, ct⟩ σ H := h
/-- a list by an invariant -/
theorem forS (Pv : Nat → L2.St → Hp → Prop) (h0 : Pv 0 σ H) (hst : ∀ i σ H, i ≤ xs.length → Pv i σ H → RdS S H p (.lst xs))
    (hs : ∀ i y σ H, xs[i]? = some y → Pv i σ H → g y σ H fun σ' H' => s1 ⟨Pv (i + 1), rt, nx, Pv (i + 1)⟩ σ' H') (hd : ∀ σ H, Pv xs.length σ H → nx σ H) : ForS S g s1 nx rt (.ref p) σ H :=
  ⟨p, xs, rfl, Pv, h0, .inl fun i H hi ⟨σ, q⟩ => hst i σ H hi q, hs, hd⟩
/-- a list that stands: what is known of the heap is the same at each turn -/
theorem forL (Pv : Nat → L2.St → Prop) (F : FH H L) (m : Src S L p xs) (h0 : Pv 0 σ)
    (hs : ∀ i y σ H, xs[i]? = some y → Pv i σ → FH H L → g y σ H fun σ' H' => s1 ⟨fun σ H => Pv (i + 1) σ ∧ FH H L, rt, nx, fun σ H => Pv (i + 1) σ ∧ FH H L⟩ σ' H') (hd : ∀ σ H, Pv xs.length σ → FH H L → nx σ H) : ForS S g s1 nx rt (.ref p) σ H :=
  forS (fun i σ H => Pv i σ ∧ FH H L) ⟨h0, F⟩ (fun i σ H _ q => m.rdS q.2) (fun i y σ H e q => hs i y σ H e q.1 q.2) fun σ H q => hd σ H q.1 q.2
/-- the turns one by one over a known tuple -/
def forKS (S : Sta) (a : Addr) (u : HO) (g : TG) (s1 : TS) (P bk : K0) (rt : VK) : List V → L2.St → Hp → Prop
  | [], σ, H => P σ H
  | x :: xs, σ, H => g x σ H fun σ' H' => s1 ⟨fun σ H => RdS S H a u ∧ forKS S a u g s1 P bk rt xs σ H, rt, bk, fun σ H => RdS S H a u ∧ forKS S a u g s1 P bk rt xs σ H⟩ σ' H'
theorem forSU {k : Bool} (rd : RdS S H p (if k then .lst xs else .tup xs)) (Post : K0) (h : forKS S p (if k then .lst xs else .tup xs) g s1 Post nx rt xs σ H) (hp : ∀ σ H, Post σ H → nx σ H) : ForS S g s1 nx rt (.ref p) σ H := by
  refine ⟨p, xs, rfl, fun i σ H => RdS S H p (if k then .lst xs else .tup xs) ∧ forKS S p (if k then .lst xs else .tup xs) g s1 Post nx rt (xs.drop i) σ H, ⟨rd, by rw [List.drop_zero]; exact h⟩, ?_, fun i y σ H e q => ?_, fun σ H q => ?_⟩
  · cases k with
    | true => exact .inl fun i H _ ⟨σ, q, _⟩ => q
    | false => exact .inr fun i H _ ⟨σ, q, _⟩ => q
  · obtain ⟨_, q⟩ := q
    have hi := (List.getElem?_eq_some_iff.mp e)
    rw [List.drop_eq_getElem_cons hi.1, hi.2] at q
    exact q
  · obtain ⟨_, q⟩ := q
    rw [List.drop_length] at q
    exact hp σ H q
theorem forTU (F : FH H L) (m : (p, Is (.tup xs)) ∈ L) (h : forKS S p (.tup xs) g s1 nx nx rt xs σ H) : ForS S g s1 nx rt (.ref p) σ H := forSU (k := false) (.inl (.inl (F.get m))) nx h fun _ _ h => h
theorem forLU (F : FH H L) (m : (p, Is (.lst xs)) ∈ L) (h : forKS S p (.lst xs) g s1 nx nx rt xs σ H) : ForS S g s1 nx rt (.ref p) σ H := forSU (k := true) (.inl (.inl (F.get m))) nx h fun _ _ h => h
theorem x_forKS {a : Addr} {u : HO} (h : g x σ H fun σ' H' => s1 ⟨fun σ H => RdS S H a u ∧ forKS S a u g s1 nx bk rt xs σ H, rt, bk, fun σ H => RdS S H a u ∧ forKS S a u g s1 nx bk rt xs σ H⟩ σ' H') : forKS S a u g s1 nx bk rt (x :: xs) σ H := h
theorem x_forKS0 {a : Addr} {u : HO} (h : nx σ H) : forKS S a u g s1 nx bk rt [] σ H := h
theorem x_rdT (F : FH H L) (m : (p, Is (.tup xs)) ∈ L) (h : A) : RdS S H p (.tup xs) ∧ A := ⟨.inl (.inl (F.get m)), h⟩
theorem x_rdL (F : FH H L) (m : (p, Is (.lst xs)) ∈ L) (h : A) : RdS S H p (.lst xs) ∧ A := ⟨.inl (.inl (F.get m)), h⟩
/-! comprehensions -/
def LcS (S : Sta) (g : TG) (tt : TT) (tel : TE) (vs : List Nat) (Q : VK) (x : V) (σ : L2.St) (H1 : Hp) : Prop := ∃ a xs, x = .ref a ∧ ∃ k : Bool, RdS S H1 a (if k then .lst xs else .tup xs) ∧ ∀ D, H1 D = none → ∃ Pv : Nat → Hp → Prop, Pv 0 (upd H1 D (.lst [])) ∧ (∀ i H, i ≤ xs.length → Pv i H → RdS S H a (if k then .lst xs else .tup xs)) ∧
  (∀ i y H, xs[i]? = some y → Pv i H → g y (wipe σ vs) H fun σ2 H2 => wipe σ2 vs = wipe σ vs ∧ tt σ2 H2 fun b H3 => if b = true then tel σ2 H3 fun z H4 => ∃ acc, H4 D = some (.lst acc) ∧ acc.length < sizeLine ∧ Pv (i + 1) (upd H4 D (.lst (acc ++ [z]))) else Pv (i + 1) H3) ∧
  ∀ H, Pv xs.length H → Q (.ref D) H
theorem x_lcE {tt : TT} {tel : TE} {vs : List Nat} (h : te σ H fun x H1 => LcS S g tt tel vs Q x σ H1) : eLc S te g tt tel vs σ H Q := h
theorem x_wipe {σ2 σw : L2.St} {vs : List Nat} (e : wipe σ2 vs = σw) (h : A) : wipe σ2 vs = σw ∧ A := ⟨e, h⟩
theorem x_yes (h : QB true H) : tYes σ H QB := h
/-- a comprehension over a list that stands, whose element leaves the heap as it is -/
theorem lcFM {tt : TT} {tel : TE} {vs : List Nat} {σw : L2.St} (f : V → V) (keep : V → Bool) (F : FH H L) (m : Src S L p xs) (z : xs.length < 16777216) (ew : wipe σ vs = σw)
    (hs : ∀ y H (QX : V → Hp → Prop) (A : Hp → Prop), y ∈ xs → FH H L → (keep y = true → QX (f y) H) → (keep y = false → A H) → g y σw H fun σ2 H2 => wipe σ2 vs = σw ∧ tt σ2 H2 fun b H3 => if b = true then tel σ2 H3 QX else A H3)
    (hd : ∀ D H', FH H' ((D, Is (.lst ((xs.filter keep).map f))) :: L) → Q (.ref D) H') : LcS S g tt tel vs Q (.ref p) σ H := by
  have rd : ∀ H, FH H L → RdS S H p (.lst xs) := fun H F => m.rdS F
  subst ew
  refine ⟨p, xs, rfl, true, rd H F, fun D hD => ⟨fun i H => FH H ((D, Is (.lst (((xs.take i).filter keep).map f))) :: L), F.new hD, fun i H _ q => rd H q.tail, fun i y H e q => ?_, fun H q => hd D H ?_⟩⟩
  · have hi : i < xs.length := (List.getElem?_eq_some_iff.mp e).1
    have et : xs.take (i + 1) = xs.take i ++ [y] := by rw [List.take_add_one, e]; rfl
    refine hs y H _ _ (List.mem_of_getElem? e) q.tail (fun k => ⟨_, q.get (List.Mem.head _), ?_, ?_⟩) fun k => ?_
    · have h1 : (((xs.take i).filter keep).map f).length ≤ i := by
        rw [List.length_map]
        exact Nat.le_trans (List.length_filter_le _ _) (by rw [List.length_take]; exact Nat.min_le_left _ _)
      rw [sizeLine_eq]; omega
    · show FH _ ((D, Is (.lst (((xs.take (i + 1)).filter keep).map f))) :: L)
      rw [et, List.filter_append, List.map_append]
      have e1 : ([y].filter keep).map f = [f y] := by simp [k]
      rw [e1]
      exact q.put .here trivial
    · show FH _ ((D, Is (.lst (((xs.take (i + 1)).filter keep).map f))) :: L)
      rw [et, List.filter_append, List.map_append]
      have e1 : ([y].filter keep).map f = [] := by simp [k]
      rw [e1, List.append_nil]
      exact q
  · have q : FH H ((D, Is (.lst (((xs.take xs.length).filter keep).map f))) :: L) := q
    rw [List.take_length] at q
    exact q
/-- .. of ints by a map of ints -/
theorem lcII {ns : List Int} {tel : TE} {vs : List Nat} {σw : L2.St} (f : Int → Int) (F : FH H L) (m : Src S L p (ns.map V.int)) (z : ns.length < 16777216) (ew : wipe σ vs = σw)
    (hs : ∀ y H (QX : V → Hp → Prop), y ∈ ns → FH H L → QX (.int (f y)) H → g (.int y) σw H fun σ2 H2 => wipe σ2 vs = σw ∧ tel σ2 H2 QX)
    (hd : ∀ D H', FH H' ((D, Is (.lst ((ns.map f).map V.int))) :: L) → Q (.ref D) H') : LcS S g tYes tel vs Q (.ref p) σ H := by
  refine lcFM (xs := ns.map V.int) (fun v => match v with | .int i => .int (f i) | v => v) (fun _ => true) F m (by rw [List.length_map]; exact z) ew (fun y H QX A hy F' hk hA => ?_) fun D H' F' => hd D H' ?_
  · obtain ⟨n, hn, e⟩ := List.mem_map.mp hy
    subst e
    exact hs n H QX hn F' (hk rfl)
  · have e : ((ns.map V.int).filter fun _ => true).map (fun v => match v with | .int i => V.int (f i) | v => v) = (ns.map f).map V.int := by
      rw [List.filter_eq_self.mpr (fun _ _ => rfl), List.map_map, List.map_map]
      rfl
    rw [e] at F'
    exact F'
/-- .. of ints, with a test -/
theorem lcIK {ns : List Int} {tt : TT} {tel : TE} {vs : List Nat} {σw : L2.St} (f : Int → Int) (keep : Int → Bool) (F : FH H L) (m : Src S L p (ns.map V.int)) (z : ns.length < 16777216) (ew : wipe σ vs = σw)
    (hs : ∀ y H (QX : V → Hp → Prop) (A : Hp → Prop), y ∈ ns → FH H L → (keep y = true → QX (.int (f y)) H) → (keep y = false → A H) → g (.int y) σw H fun σ2 H2 => wipe σ2 vs = σw ∧ tt σ2 H2 fun b H3 => if b = true then tel σ2 H3 QX else A H3)
    (hd : ∀ D H', FH H' ((D, Is (.lst (((ns.filter keep).map f).map V.int))) :: L) → Q (.ref D) H') : LcS S g tt tel vs Q (.ref p) σ H := by
  refine lcFM (xs := ns.map V.int) (fun v => match v with | .int i => .int (f i) | v => v) (fun v => match v with | .int i => keep i | _ => false) F m (by rw [List.length_map]; exact z) ew (fun y H QX A hy F' hk hA => ?_) fun D H' F' => hd D H' ?_
  · obtain ⟨n, hn, e⟩ := List.mem_map.mp hy
    subst e
    exact hs n H QX A hn F' hk hA
  · have e : ((ns.map V.int).filter fun v => match v with | .int i => keep i | _ => false).map (fun v => match v with | .int i => V.int (f i) | v => v) = ((ns.filter keep).map f).map V.int := by
      rw [List.filter_map, List.map_map, List.map_map]
      rfl
    rw [e] at F'
    exact F'
/-- a known list, the turns one by one -/
def lcPut (D : Addr) (z : V) (k : Hp → Prop) (H : Hp) : Prop := ∃ acc, H D = some (.lst acc) ∧ acc.length < sizeLine ∧ k (upd H D (.lst (acc ++ [z])))
theorem x_lcPut {D : Addr} {z : V} {acc : List V} {k : Hp → Prop} {L' : List Ent} (F : FH H L) (pu : Put D (Is (.lst acc)) (Is (.lst (acc ++ [z]))) L L') (sz : acc.length < 16777216) (h : ∀ H', FH H' L' → k H') : lcPut D z k H :=
  ⟨acc, F.get pu.mem, by rw [sizeLine_eq]; exact sz, h _ (F.put pu trivial)⟩
def lcKS (S : Sta) (a : Addr) (u : HO) (g : TG) (tt : TT) (tel : TE) (vs : List Nat) (σw : L2.St) (D : Addr) (Q : VK) : List V → Hp → Prop
  | [], H => Q (.ref D) H
  | x :: xs, H => g x σw H fun σ2 H2 => wipe σ2 vs = σw ∧ tt σ2 H2 fun b H3 => if b = true then tel σ2 H3 fun z H4 => lcPut D z (fun H => RdS S H a u ∧ lcKS S a u g tt tel vs σw D Q xs H) H4 else RdS S H3 a u ∧ lcKS S a u g tt tel vs σw D Q xs H3
theorem lcLU {tt : TT} {tel : TE} {vs : List Nat} {σw : L2.St} (F : FH H L) (m : (p, Is (.lst xs)) ∈ L) (ew : wipe σ vs = σw) (h : ∀ D H', FH H' ((D, Is (.lst [])) :: L) → lcKS S p (.lst xs) g tt tel vs σw D Q xs H') : LcS S g tt tel vs Q (.ref p) σ H := by
  subst ew
  refine ⟨p, xs, rfl, true, .inl (.inl (F.get m)), fun D hD => ⟨fun i H => RdS S H p (.lst xs) ∧ lcKS S p (.lst xs) g tt tel vs (wipe σ vs) D Q (xs.drop i) H, ⟨.inl (.inl ((F.new hD).get (List.mem_cons_of_mem _ m))), by rw [List.drop_zero]; exact h D _ (F.new hD)⟩, fun i H _ q => q.1, fun i y H e q => ?_, fun H q => ?_⟩⟩
  · obtain ⟨_, q⟩ := q
    have hi := (List.getElem?_eq_some_iff.mp e)
    rw [List.drop_eq_getElem_cons hi.1, hi.2] at q
    exact q
  · obtain ⟨_, q⟩ := q
    rw [List.drop_length] at q
    exact q
theorem x_lcKS {a D : Addr} {u : HO} {tt : TT} {tel : TE} {vs : List Nat} {σw : L2.St} (h : g x σw H fun σ2 H2 => wipe σ2 vs = σw ∧ tt σ2 H2 fun b H3 => if b = true then tel σ2 H3 fun z H4 => lcPut D z (fun H => RdS S H a u ∧ lcKS S a u g tt tel vs σw D Q xs H) H4 else RdS S H3 a u ∧ lcKS S a u g tt tel vs σw D Q xs H3) : lcKS S a u g tt tel vs σw D Q (x :: xs) H := h
theorem x_lcKS0 {a D : Addr} {u : HO} {tt : TT} {tel : TE} {vs : List Nat} {σw : L2.St} (h : Q (.ref D) H) : lcKS S a u g tt tel vs σw D Q [] H := h
/-- over a range, the turns one by one -/
def LcR (g : TG) (tt : TT) (tel : TE) (vs : List Nat) (Q : VK) (y : V) (σ : L2.St) (H1 : Hp) : Prop := ∃ j, y = .int j ∧ ((-(2 ^ 62) ≤ (0 : Int) ∧ (0 : Int) < 2 ^ 62 ∧ -(2 ^ 62) ≤ j ∧ j < 2 ^ 62) ∧ ∀ D, H1 D = none → ∃ Pv : Nat → Hp → Prop, Pv 0 (upd H1 D (.lst [])) ∧
    (∀ (i : Nat) H, 0 + (i : Int) < j → Pv i H → g (.int (0 + (i : Int))) (wipe σ vs) H fun σ2 H2 => wipe σ2 vs = wipe σ vs ∧ tt σ2 H2 fun b H3 => if b = true then tel σ2 H3 fun z H4 => ∃ acc, H4 D = some (.lst acc) ∧ acc.length < sizeLine ∧ Pv (i + 1) (upd H4 D (.lst (acc ++ [z]))) else Pv (i + 1) H3) ∧
    ∀ H, Pv (j - 0).toNat H → Q (.ref D) H)
theorem x_lcR {tt : TT} {tel : TE} {vs : List Nat} (h : te σ H fun y H1 => LcR g tt tel vs Q y σ H1) : eLcR none te g tt tel vs σ H Q := h
def lcKR (g : TG) (tt : TT) (tel : TE) (vs : List Nat) (σw : L2.St) (D : Addr) (Q : VK) : List V → Hp → Prop
  | [], H => Q (.ref D) H
  | x :: xs, H => g x σw H fun σ2 H2 => wipe σ2 vs = σw ∧ tt σ2 H2 fun b H3 => if b = true then tel σ2 H3 fun z H4 => lcPut D z (fun H => lcKR g tt tel vs σw D Q xs H) H4 else lcKR g tt tel vs σw D Q xs H3
theorem lcRU {tt : TT} {tel : TE} {vs : List Nat} {σw : L2.St} (n : Nat) (ej : j = (n : Int)) (hn : (n : Int) < 4611686018427387904) (exs : (List.range n).map (fun (i : Nat) => V.int (0 + (i : Int))) = xs) (F : FH H L) (ew : wipe σ vs = σw) (h : ∀ D H', FH H' ((D, Is (.lst [])) :: L) → lcKR g tt tel vs σw D Q xs H') : LcR g tt tel vs Q (.int j) σ H := by
  subst ew ej exs
  have e62 : (2 : Int) ^ 62 = 4611686018427387904 := by decide
  refine ⟨_, rfl, ⟨by rw [e62]; decide, by rw [e62]; decide, by rw [e62]; omega, by rw [e62]; exact hn⟩, fun D hD => ⟨fun i H => lcKR g tt tel vs (wipe σ vs) D Q (((List.range n).map (fun (i : Nat) => V.int (0 + (i : Int)))).drop i) H, by (dsimp only; rw [List.drop_zero]; exact h D _ (F.new hD)), fun i H hi q => ?_, fun H q => ?_⟩⟩
  · dsimp only at q
    have hl : i < ((List.range n).map (fun (i : Nat) => V.int (0 + (i : Int)))).length := by rw [List.length_map, List.length_range]; omega
    rw [List.drop_eq_getElem_cons hl] at q
    rw [List.getElem_map, List.getElem_range] at q
    exact q
  · have e1 : ((n : Int) - 0).toNat = n := by omega
    dsimp only at q
    rw [e1, List.drop_of_length_le (by rw [List.length_map, List.length_range]; exact Nat.le_refl _)] at q
    exact q
theorem x_lcKR {D : Addr} {tt : TT} {tel : TE} {vs : List Nat} {σw : L2.St} (h : g x σw H fun σ2 H2 => wipe σ2 vs = σw ∧ tt σ2 H2 fun b H3 => if b = true then tel σ2 H3 fun z H4 => lcPut D z (fun H => lcKR g tt tel vs σw D Q xs H) H4 else lcKR g tt tel vs σw D Q xs H3) : lcKR g tt tel vs σw D Q (x :: xs) H := h
theorem x_lcKR0 {D : Addr} {tt : TT} {tel : TE} {vs : List Nat} {σw : L2.St} (h : Q (.ref D) H) : lcKR g tt tel vs σw D Q [] H := h
theorem x_listL (F : FH H L) (m : (p, Is (.lst xs)) ∈ L) (h : ∀ r H', H r = none → FH H' ((r, Is (.lst xs)) :: L) → Q (.ref r) H') : rListOf S [.ref p] H Q := ⟨p, xs, rfl, .inl (RdS.of (.inl (F.get m))), fun r hr => h r _ hr (F.new hr)⟩
theorem x_listT (F : FH H L) (m : (p, Is (.tup xs)) ∈ L) (h : ∀ r H', H r = none → FH H' ((r, Is (.lst xs)) :: L) → Q (.ref r) H') : rListOf S [.ref p] H Q := ⟨p, xs, rfl, .inr (RdS.of (.inl (F.get m))), fun r hr => h r _ hr (F.new hr)⟩
theorem x_tupleL (F : FH H L) (m : (p, Is (.lst xs)) ∈ L) (h : ∀ r H', H r = none → FH H' ((r, Is (.tup xs)) :: L) → Q (.ref r) H') : rTupleOf S [.ref p] H Q := ⟨p, xs, rfl, .inl ⟨RdS.of (.inl (F.get m)), fun r hr => h r _ hr (F.new hr)⟩⟩
theorem x_tupleT (F : FH H L) (m : (p, Is (.tup xs)) ∈ L) (h : Q (.ref p) H) : rTupleOf S [.ref p] H Q := ⟨p, xs, rfl, .inr ⟨RdS.of (.inl (F.get m)), h⟩⟩
/-- all are True -/
def AllT : Pr := lift fun o => ∃ bs : List Bool, o = .lst (bs.map V.bl) ∧ bs.all id = true
theorem lcT {tel : TE} {vs : List Nat} {σw : L2.St} (F : FH H L) (m : Src S L p xs) (z : xs.length < 16777216) (ew : wipe σ vs = σw)
    (hs : ∀ y H (QX : V → Hp → Prop), y ∈ xs → FH H L → QX (.bl true) H → g y σw H fun σ2 H2 => wipe σ2 vs = σw ∧ tel σ2 H2 QX)
    (hd : ∀ D H', FH H' ((D, AllT) :: L) → Q (.ref D) H') : LcS S g tYes tel vs Q (.ref p) σ H := by
  refine lcFM (fun _ => .bl true) (fun _ => true) F m z ew (fun y H QX A hy F' hk hA => hs y H QX hy F' (hk rfl)) fun D H' F' => hd D H' (F'.close (φ := fun o => ∃ bs : List Bool, o = .lst (bs.map V.bl) ∧ bs.all id = true) ⟨List.replicate xs.length true, ?_, ?_⟩ .here)
  · rw [List.filter_eq_self.mpr (fun _ _ => rfl)]
    congr 1
    clear m z hs F'
    induction xs with
    | nil => rfl
    | cons x xs ih => rw [List.map_cons, List.length_cons, List.replicate_succ, List.map_cons, ih]
  · generalize xs.length = n
    induction n with
    | zero => rfl
    | succ n ih => rw [List.replicate_succ, List.all_cons, ih]; rfl
theorem x_allT (F : FH H L) (m : (p, AllT) ∈ L) (h : Q (.bl true) H) : rAll S [.ref p] H Q := by
  obtain ⟨o, ho, bs, e, hb⟩ := F.is m
  subst e
  exact ⟨p, bs, rfl, .inl (.inl ho), by rw [hb]; exact h⟩
theorem Src.cons {L : List Ent} {x : Ent} (m : Src S L p xs) : Src S (x :: L) p xs := by
  cases m with
  | is m => exact .is (List.mem_cons_of_mem _ m)
  | rd m => exact .rd (List.mem_cons_of_mem _ m)
  | st m => exact .st m
theorem cutV_take {n : Nat} (h : xs.length ≤ n) : cutV xs none (some (n : Int)) = xs := by
  unfold cutV
  rw [HT.sIx_none, HT.sIx_nat, List.drop_zero, Nat.sub_zero, Nat.min_eq_right h, List.take_length]
/-! fields -/
theorem look_hit {f : Str} {v : V} {t : List (Str × V)} : List.lookup f ((f, v) :: t) = some v := by simp [List.lookup]
theorem look_nil {f : Str} : List.lookup f ([] : List (Str × V)) = none := rfl
theorem look_miss {f g : Str} {v : V} {r : Option V} {t : List (Str × V)} (h : ¬ f = g) (e : List.lookup f t = r) : List.lookup f ((g, v) :: t) = r := by
  have h' : (f == g) = false := by simpa using h
  simp only [List.lookup, h']
  exact e
theorem put_nil {f : Str} {v : V} : putF f v [] = [(f, v)] := rfl
theorem put_hit {f : Str} {v w : V} {t : List (Str × V)} : putF f v ((f, w) :: t) = (f, v) :: t := by
  show (if f = f then _ else _) = _
  rw [if_pos rfl]
theorem put_miss {f g : Str} {v w : V} {t t' : List (Str × V)} (h : ¬ g = f) (e : putF f v t = t') : putF f v ((g, w) :: t) = (g, w) :: t' := by
  show (if g = f then _ else _) = _
  rw [if_neg h, e]
/-! == of flat lists and tuples -/
def flatOk : V → Bool
  | .non => true
  | .bl _ => true
  | .int _ => true
  | .str s => PyData.canLay0 (.str s)
  | _ => false
def flatD : V → PyData
  | .bl b => .bool b
  | .int i => .int i
  | .str s => .str s
  | _ => .none
def eqvF (xs ys : List V) : Bool := PyData.eqvAll (xs.map flatD) (ys.map flatD)
theorem dp_flat {v : V} (h : flatOk v = true) : DpS S H v (flatD v) := by
  cases v with
  | non => exact .non
  | bl b => exact .bl b
  | int i => exact .int i
  | str s => exact .str s
  | _ => cases h
theorem dps_flat : ∀ {xs : List V}, xs.all flatOk = true → DpSs S H xs (xs.map flatD)
  | [], _ => .nil
  | x :: xs, h => by
    rw [List.all_cons, Bool.and_eq_true] at h
    exact .cons (dp_flat h.1) (dps_flat h.2)
theorem lay_flat : ∀ {xs : List V}, xs.all flatOk = true → PyData.canLayAll0 (xs.map flatD) = true ∧ PyData.depthAll (xs.map flatD) = 0
  | [], _ => ⟨rfl, rfl⟩
  | x :: xs, h => by
    rw [List.all_cons, Bool.and_eq_true] at h
    obtain ⟨h1, h2⟩ := lay_flat h.2
    rw [List.map_cons]
    have e : PyData.canLay0 (flatD x) = true ∧ PyData.depth (flatD x) = 0 := by
      cases x with
      | non => exact ⟨rfl, rfl⟩
      | bl b => exact ⟨rfl, rfl⟩
      | int i => exact ⟨rfl, rfl⟩
      | str s => exact ⟨h.1, rfl⟩
      | _ => cases h.1
    constructor
    · rw [PyData.canLayAll0, e.1, h1]; rfl
    · rw [PyData.depthAll, e.2, h2]; rfl
theorem shaped_flatL {xs : List V} (h : xs.all flatOk = true) : SeqAt.shaped (.list (xs.map flatD)) = true := by
  obtain ⟨h1, h2⟩ := lay_flat h
  unfold SeqAt.shaped
  rw [PyData.canLay0, h1, PyData.depth, h2]
  rfl
theorem shaped_flatT {xs : List V} (h : xs.all flatOk = true) : SeqAt.shaped (.tuple (xs.map flatD)) = true := by
  obtain ⟨h1, h2⟩ := lay_flat h
  unfold SeqAt.shaped
  rw [PyData.canLay0, h1, PyData.depth, h2]
  rfl
theorem eqv_nil : eqvF [] [] = true := rfl
theorem eqv_nc {x : V} {xs : List V} : eqvF [] (x :: xs) = false := rfl
theorem eqv_cn {x : V} {xs : List V} : eqvF (x :: xs) [] = false := rfl
theorem eqv_int {i j : Int} {xs ys : List V} : eqvF (.int i :: xs) (.int j :: ys) = (decide (i = j) && eqvF xs ys) := by
  show (i == j && _) = _
  rfl
theorem eqv_bl {i j : Bool} {xs ys : List V} : eqvF (.bl i :: xs) (.bl j :: ys) = (decide (i = j) && eqvF xs ys) := by
  show (i == j && _) = _
  cases i <;> cases j <;> rfl
theorem eqv_str {i j : Str} {xs ys : List V} : eqvF (.str i :: xs) (.str j :: ys) = (decide (i = j) && eqvF xs ys) := by
  show (i == j && _) = _
  congr 1
theorem eqv_ints : ∀ {ns ms : List Int}, eqvF (ns.map V.int) (ms.map V.int) = decide (ns = ms)
  | [], [] => rfl
  | [], _ :: _ => rfl
  | _ :: _, [] => rfl
  | n :: ns, m :: ms => by
    rw [List.map_cons, List.map_cons, eqv_int, eqv_ints, Bool.eq_iff_iff]
    simp only [Bool.and_eq_true, decide_eq_true_eq, List.cons.injEq]
theorem flat_ints : ∀ {ns : List Int}, (ns.map V.int).all flatOk = true
  | [] => rfl
  | _ :: ns => by rw [List.map_cons, List.all_cons, flat_ints]; rfl
theorem x_eqPL (F : FH H L) {q : Addr} {ys : List V} {b : Bool} (m : (p, Is (.lst xs)) ∈ L) (n : (q, Is (.lst ys)) ∈ L) (f1 : xs.all flatOk = true) (f2 : ys.all flatOk = true) (e : eqvF xs ys = b) (h : Q (.bl b) H) : rEqP S (.ref p) (.ref q) H Q :=
  .inr ⟨_, _, .lst (.inl (.inl (F.get m))) (dps_flat f1), .lst (.inl (.inl (F.get n))) (dps_flat f2), shaped_flatL f1, shaped_flatL f2, by
    show Q (.bl (eqvF xs ys)) H
    rw [e]; exact h⟩
theorem x_nePL (F : FH H L) {q : Addr} {ys : List V} {b : Bool} (m : (p, Is (.lst xs)) ∈ L) (n : (q, Is (.lst ys)) ∈ L) (f1 : xs.all flatOk = true) (f2 : ys.all flatOk = true) (e : eqvF xs ys = b) (h : Q (.bl (!b)) H) : rNeP S (.ref p) (.ref q) H Q :=
  .inr ⟨_, _, .lst (.inl (.inl (F.get m))) (dps_flat f1), .lst (.inl (.inl (F.get n))) (dps_flat f2), shaped_flatL f1, shaped_flatL f2, by
    show Q (.bl (!eqvF xs ys)) H
    rw [e]; exact h⟩
theorem x_eqPT (F : FH H L) {q : Addr} {ys : List V} {b : Bool} (m : (p, Is (.tup xs)) ∈ L) (n : (q, Is (.tup ys)) ∈ L) (f1 : xs.all flatOk = true) (f2 : ys.all flatOk = true) (e : eqvF xs ys = b) (h : Q (.bl b) H) : rEqP S (.ref p) (.ref q) H Q :=
  .inr ⟨_, _, .tup (.inl (.inl (F.get m))) (dps_flat f1), .tup (.inl (.inl (F.get n))) (dps_flat f2), shaped_flatT f1, shaped_flatT f2, by
    show Q (.bl (eqvF xs ys)) H
    rw [e]; exact h⟩
theorem x_nePT (F : FH H L) {q : Addr} {ys : List V} {b : Bool} (m : (p, Is (.tup xs)) ∈ L) (n : (q, Is (.tup ys)) ∈ L) (f1 : xs.all flatOk = true) (f2 : ys.all flatOk = true) (e : eqvF xs ys = b) (h : Q (.bl (!b)) H) : rNeP S (.ref p) (.ref q) H Q :=
  .inr ⟨_, _, .tup (.inl (.inl (F.get m))) (dps_flat f1), .tup (.inl (.inl (F.get n))) (dps_flat f2), shaped_flatT f1, shaped_flatT f2, by
    show Q (.bl (!eqvF xs ys)) H
    rw [e]; exact h⟩
theorem eqv_strS {s : Str} {xs ys : List V} : eqvF (.str s :: xs) (.str s :: ys) = eqvF xs ys := by rw [eqv_str, decide_eq_true rfl, Bool.true_and]
theorem eqv_strD {s t : Str} {xs ys : List V} (h : s ≠ t) : eqvF (.str s :: xs) (.str t :: ys) = false := by rw [eqv_str, decide_eq_false h, Bool.false_and]
theorem flat_cons {x : V} {xs : List V} (h : flatOk x = true) (t : xs.all flatOk = true) : (x :: xs).all flatOk = true := by rw [List.all_cons, h, t]; rfl
theorem x_eqPSs {a : Str} (h : Q (.bl true) H) : rEqP S (.str a) (.str a) H Q := .inl (x_eqS (by rw [decide_eq_true rfl]; exact h))
theorem x_nePSs {a : Str} (h : Q (.bl false) H) : rNeP S (.str a) (.str a) H Q := .inl (x_neS (by rw [decide_eq_false (fun z => z rfl)]; exact h))
theorem x_eqPSd {a b : Str} (ne : a ≠ b) (h : Q (.bl false) H) : rEqP S (.str a) (.str b) H Q := .inl (x_eqS (by rw [decide_eq_false ne]; exact h))
theorem x_nePSd {a b : Str} (ne : a ≠ b) (h : Q (.bl true) H) : rNeP S (.str a) (.str b) H Q := .inl (x_neS (by rw [decide_eq_true ne]; exact h))
theorem eqv_nn {xs ys : List V} : eqvF (.non :: xs) (.non :: ys) = eqvF xs ys := by show (true && _) = _; rw [Bool.true_and]; rfl
theorem eqv_ni {i : Int} {xs ys : List V} : eqvF (.non :: xs) (.int i :: ys) = false := rfl
theorem eqv_in {i : Int} {xs ys : List V} : eqvF (.int i :: xs) (.non :: ys) = false := rfl
theorem eqv_ns {s : Str} {xs ys : List V} : eqvF (.non :: xs) (.str s :: ys) = false := rfl
theorem eqv_sn {s : Str} {xs ys : List V} : eqvF (.str s :: xs) (.non :: ys) = false := rfl
theorem eqv_si {s : Str} {i : Int} {xs ys : List V} : eqvF (.str s :: xs) (.int i :: ys) = false := rfl
theorem eqv_is {s : Str} {i : Int} {xs ys : List V} : eqvF (.int i :: xs) (.str s :: ys) = false := rfl
theorem sc_of {x y : V} {b : Bool} (s : scal x y = true) (e : decide (x = y) = b) (h : Q (.bl b) H) : rEqP S x y H Q := .inl ⟨s, by rw [e]; exact h⟩
theorem sn_of {x y : V} {b : Bool} (s : scal x y = true) (e : decide (x = y) = b) (h : Q (.bl (!b)) H) : rNeP S x y H Q := .inl ⟨s, by rw [e]; exact h⟩
theorem x_eqP_nn (h : Q (.bl true) H) : rEqP S (.non) (.non) H Q := sc_of rfl (decide_eq_true rfl) h
theorem x_neP_nn (h : Q (.bl (!true)) H) : rNeP S (.non) (.non) H Q := sn_of rfl (decide_eq_true rfl) h
theorem x_eqP_ni (h : Q (.bl false) H) : rEqP S (.non) (.int i) H Q := sc_of rfl (decide_eq_false (by simp)) h
theorem x_neP_ni (h : Q (.bl (!false)) H) : rNeP S (.non) (.int i) H Q := sn_of rfl (decide_eq_false (by simp)) h
theorem x_eqP_in (h : Q (.bl false) H) : rEqP S (.int i) (.non) H Q := sc_of rfl (decide_eq_false (by simp)) h
theorem x_neP_in (h : Q (.bl (!false)) H) : rNeP S (.int i) (.non) H Q := sn_of rfl (decide_eq_false (by simp)) h
theorem x_eqP_nb (h : Q (.bl false) H) : rEqP S (.non) (.bl b) H Q := sc_of rfl (decide_eq_false (by simp)) h
theorem x_neP_nb (h : Q (.bl (!false)) H) : rNeP S (.non) (.bl b) H Q := sn_of rfl (decide_eq_false (by simp)) h
theorem x_eqP_bn (h : Q (.bl false) H) : rEqP S (.bl b) (.non) H Q := sc_of rfl (decide_eq_false (by simp)) h
theorem x_neP_bn (h : Q (.bl (!false)) H) : rNeP S (.bl b) (.non) H Q := sn_of rfl (decide_eq_false (by simp)) h
theorem x_eqP_ns {z : Str} (h : Q (.bl false) H) : rEqP S (.non) (.str z) H Q := sc_of rfl (decide_eq_false (by simp)) h
theorem x_neP_ns {z : Str} (h : Q (.bl (!false)) H) : rNeP S (.non) (.str z) H Q := sn_of rfl (decide_eq_false (by simp)) h
theorem x_eqP_sn {z : Str} (h : Q (.bl false) H) : rEqP S (.str z) (.non) H Q := sc_of rfl (decide_eq_false (by simp)) h
theorem x_neP_sn {z : Str} (h : Q (.bl (!false)) H) : rNeP S (.str z) (.non) H Q := sn_of rfl (decide_eq_false (by simp)) h
theorem x_eqP_is {z : Str} (h : Q (.bl false) H) : rEqP S (.int i) (.str z) H Q := sc_of rfl (decide_eq_false (by simp)) h
theorem x_neP_is {z : Str} (h : Q (.bl (!false)) H) : rNeP S (.int i) (.str z) H Q := sn_of rfl (decide_eq_false (by simp)) h
theorem x_eqP_si {z : Str} (h : Q (.bl false) H) : rEqP S (.str z) (.int i) H Q := sc_of rfl (decide_eq_false (by simp)) h
theorem x_neP_si {z : Str} (h : Q (.bl (!false)) H) : rNeP S (.str z) (.int i) H Q := sn_of rfl (decide_eq_false (by simp)) h
theorem x_eqP_bs {z : Str} (h : Q (.bl false) H) : rEqP S (.bl b) (.str z) H Q := sc_of rfl (decide_eq_false (by simp)) h
theorem x_neP_bs {z : Str} (h : Q (.bl (!false)) H) : rNeP S (.bl b) (.str z) H Q := sn_of rfl (decide_eq_false (by simp)) h
theorem x_eqP_sb {z : Str} (h : Q (.bl false) H) : rEqP S (.str z) (.bl b) H Q := sc_of rfl (decide_eq_false (by simp)) h
theorem x_neP_sb {z : Str} (h : Q (.bl (!false)) H) : rNeP S (.str z) (.bl b) H Q := sn_of rfl (decide_eq_false (by simp)) h
theorem x_isr_list_int (F : FH H L) (m : (p, Is (.lst xs)) ∈ L) (h : Q (.bl false) H) : rIsI [.ref p, .ty "int"] H Q := isi_of (.lst (.inl (F.get m))) kit_list_int rfl h
theorem x_isr_list_bool (F : FH H L) (m : (p, Is (.lst xs)) ∈ L) (h : Q (.bl false) H) : rIsI [.ref p, .ty "bool"] H Q := isi_of (.lst (.inl (F.get m))) kit_list_bool rfl h
theorem x_isr_list_str (F : FH H L) (m : (p, Is (.lst xs)) ∈ L) (h : Q (.bl false) H) : rIsI [.ref p, .ty "str"] H Q := isi_of (.lst (.inl (F.get m))) kit_list_str rfl h
theorem x_isr_list_list (F : FH H L) (m : (p, Is (.lst xs)) ∈ L) (h : Q (.bl true) H) : rIsI [.ref p, .ty "list"] H Q := isi_of (.lst (.inl (F.get m))) kit_list_list rfl h
theorem x_isr_list_tuple (F : FH H L) (m : (p, Is (.lst xs)) ∈ L) (h : Q (.bl false) H) : rIsI [.ref p, .ty "tuple"] H Q := isi_of (.lst (.inl (F.get m))) kit_list_tuple rfl h
theorem x_isr_list_dict (F : FH H L) (m : (p, Is (.lst xs)) ∈ L) (h : Q (.bl false) H) : rIsI [.ref p, .ty "dict"] H Q := isi_of (.lst (.inl (F.get m))) kit_list_dict rfl h
theorem x_isr_tuple_int (F : FH H L) (m : (p, Is (.tup xs)) ∈ L) (h : Q (.bl false) H) : rIsI [.ref p, .ty "int"] H Q := isi_of (.tup (.inl (F.get m))) kit_tuple_int rfl h
theorem x_isr_tuple_bool (F : FH H L) (m : (p, Is (.tup xs)) ∈ L) (h : Q (.bl false) H) : rIsI [.ref p, .ty "bool"] H Q := isi_of (.tup (.inl (F.get m))) kit_tuple_bool rfl h
theorem x_isr_tuple_str (F : FH H L) (m : (p, Is (.tup xs)) ∈ L) (h : Q (.bl false) H) : rIsI [.ref p, .ty "str"] H Q := isi_of (.tup (.inl (F.get m))) kit_tuple_str rfl h
theorem x_isr_tuple_list (F : FH H L) (m : (p, Is (.tup xs)) ∈ L) (h : Q (.bl false) H) : rIsI [.ref p, .ty "list"] H Q := isi_of (.tup (.inl (F.get m))) kit_tuple_list rfl h
theorem x_isr_tuple_tuple (F : FH H L) (m : (p, Is (.tup xs)) ∈ L) (h : Q (.bl true) H) : rIsI [.ref p, .ty "tuple"] H Q := isi_of (.tup (.inl (F.get m))) kit_tuple_tuple rfl h
theorem x_isr_tuple_dict (F : FH H L) (m : (p, Is (.tup xs)) ∈ L) (h : Q (.bl false) H) : rIsI [.ref p, .ty "dict"] H Q := isi_of (.tup (.inl (F.get m))) kit_tuple_dict rfl h
theorem is_eqP (h : rEqP S x y H Q) : rEqP S x y H Q := h
theorem is_neP (h : rNeP S x y H Q) : rNeP S x y H Q := h
theorem x_eqPI (h : Q (.bl (decide (i = j))) H) : rEqP S (.int i) (.int j) H Q := .inl (x_eqI h)
theorem x_nePI (h : Q (.bl (decide (i ≠ j))) H) : rNeP S (.int i) (.int j) H Q := .inl (x_neI h)
theorem x_eqPB {a b : Bool} (h : Q (.bl (decide (a = b))) H) : rEqP S (.bl a) (.bl b) H Q := .inl (x_eqB h)
theorem x_nePB {a b : Bool} (h : Q (.bl (decide (a ≠ b))) H) : rNeP S (.bl a) (.bl b) H Q := .inl (x_neB h)
theorem x_eqPS {a b : Str} (h : Q (.bl (decide (a = b))) H) : rEqP S (.str a) (.str b) H Q := .inl (x_eqS h)
theorem x_nePS {a b : Str} (h : Q (.bl (decide (a ≠ b))) H) : rNeP S (.str a) (.str b) H Q := .inl (x_neS h)
/-! small built-ins -/
theorem x_abs (h : Q (.int (if i < 0 then -i else i)) H) : rAbs [.int i] H Q := ⟨i, rfl, h⟩
theorem x_inL {bb : Bool} (F : FH H L) (m : (p, Is (.lst xs)) ∈ L) (f : flatV x = true) (fs : xs.all flatV = true) (e : inV x xs = bb) (h : Q (.bl bb) H) : rInA S false x (.ref p) H Q := .inl ⟨p, xs, rfl, .inl (.inl (.inl (F.get m))), f, fs, by rw [e]; exact h⟩
theorem x_inT {bb : Bool} (F : FH H L) (m : (p, Is (.tup xs)) ∈ L) (f : flatV x = true) (fs : xs.all flatV = true) (e : inV x xs = bb) (h : Q (.bl bb) H) : rInA S false x (.ref p) H Q := .inl ⟨p, xs, rfl, .inr (.inl (.inl (F.get m))), f, fs, by rw [e]; exact h⟩
theorem x_ninL {bb : Bool} (F : FH H L) (m : (p, Is (.lst xs)) ∈ L) (f : flatV x = true) (fs : xs.all flatV = true) (e : inV x xs = bb) (h : Q (.bl (!bb)) H) : rInA S true x (.ref p) H Q := .inl ⟨p, xs, rfl, .inl (.inl (.inl (F.get m))), f, fs, by rw [e]; exact h⟩
theorem x_ninT {bb : Bool} (F : FH H L) (m : (p, Is (.tup xs)) ∈ L) (f : flatV x = true) (fs : xs.all flatV = true) (e : inV x xs = bb) (h : Q (.bl (!bb)) H) : rInA S true x (.ref p) H Q := .inl ⟨p, xs, rfl, .inr (.inl (.inl (F.get m))), f, fs, by rw [e]; exact h⟩
theorem x_min3 {k : Int} (h : Q (.int (min (min i j) k)) H) : rMin3 [.int i, .int j, .int k] H Q := ⟨i, j, k, rfl, h⟩
theorem x_min2 (h : Q (.int (min i j)) H) : rMin2 [.int i, .int j] H Q := ⟨i, j, rfl, by rw [show (if j < i then j else i) = min i j by omega]; exact h⟩
theorem x_max2 (h : Q (.int (max i j)) H) : rMax2 [.int i, .int j] H Q := ⟨i, j, rfl, by rw [show (if j > i then j else i) = max i j by omega]; exact h⟩
theorem x_sumL {ns : List Int} (F : FH H L) (m : (p, Is (.lst (ns.map V.int))) ∈ L) (h : Q (.int ns.sum) H) : rSum S [.ref p] H Q := ⟨p, ns, rfl, .inl (.inl (F.get m)), h⟩
theorem x_allL {bs : List Bool} (F : FH H L) (m : (p, Is (.lst xs)) ∈ L) (e : xs = bs.map V.bl) (h : Q (.bl (bs.all id)) H) : rAll S [.ref p] H Q := ⟨p, bs, rfl, .inl (.inl (by rw [← e]; exact F.get m)), h⟩
theorem x_cat (F : FH H L) {q : Addr} {ys : List V} (m : (p, Is (.lst xs)) ∈ L) (n : (q, Is (.lst ys)) ∈ L) (z : (xs ++ ys).length ≤ sizeLine) (h : ∀ r H', H r = none → FH H' ((r, Is (.lst (xs ++ ys))) :: L) → Q (.ref r) H') : rAdd (.ref p) (.ref q) H Q :=
  .inr (.inr ⟨p, q, xs, ys, rfl, rfl, F.get m, F.get n, by rw [← List.length_append]; exact z, fun r hr => h r _ hr (F.new hr)⟩)
theorem x_prop {C : Addr} (h : te σ H fun x H1 => ∃ a dx fs, x = .ref a ∧ H1 a = some (.ins C dx fs) ∧ sp [.ref a] H1 Q E0) : eProp C sp te σ H Q := h
theorem x_propG {C : Addr} {B : Addr → Prop} (F : FH H L) (m : (p, Is (.ins C dx fs)) ∈ L) (h : B p) : ∃ a dx fs, V.ref p = .ref a ∧ H a = some (.ins C dx fs) ∧ B a := ⟨p, dx, fs, rfl, F.get m, h⟩
theorem x_augF {C : Addr} {rd : V → V → Hp → VK → Prop} (h : te σ H fun x H1 => ∃ a dx fs v, x = .ref a ∧ H1 a = some (.ins C dx fs) ∧ fs.lookup f = some v ∧
  tb σ H1 fun y H2 => rd v y H2 fun z H3 => ∃ dx' fs', H3 a = some (.ins C dx' fs') ∧ fs'.length < 1000 ∧ nx σ (upd H3 a (.ins C dx' (putF f z fs')))) : sAugF C f te tb rd ⟨nx, rt, bk, ct⟩ σ H := h
theorem x_augFG {C : Addr} {QAV : Addr → V → Prop} (F : FH H L) (m : (p, Is (.ins C dx fs)) ∈ L) (l : fs.lookup f = some v) (h : QAV p v) : ∃ a dx fs v, V.ref p = .ref a ∧ H a = some (.ins C dx fs) ∧ fs.lookup f = some v ∧ QAV a v := ⟨p, dx, fs, v, rfl, F.get m, l, h⟩
theorem x_augFS {C : Addr} {z : V} {QH : Hp → Prop} {fs' : List (Str × V)} (F : FH H L) (m : (p, Is (.ins C dx fs)) ∈ L) (hl : fs.length < 1000) (e : putF f z fs = fs') (pu : Put p (Is (.ins C dx fs)) (Is (.ins C dx fs')) L L') (h : ∀ H', FH H' L' → QH H') : ∃ dx' fs', H p = some (.ins C dx' fs') ∧ fs'.length < 1000 ∧ QH (upd H p (.ins C dx' (putF f z fs'))) :=
  ⟨dx, fs, F.get m, hl, by rw [e]; exact h _ (F.put pu trivial)⟩
theorem x_inAdd (h : Q (.int (i + j)) H) : rInAdd (.int i) (.int j) H Q := ⟨i, j, rfl, rfl, h⟩
theorem x_inSub (h : Q (.int (i - j)) H) : rInSub (.int i) (.int j) H Q := ⟨i, j, rfl, rfl, h⟩
/-! objects of several classes -/
variable {Cs : List Addr} {ls : List (Addr × Sp)}
theorem x_mD {ES : L2.St → XK} {m : Str} (h : ta σ H fun x H1 => ∃ a C dx fs sp, x = .ref a ∧ H1 a = some (.ins C dx fs) ∧ (C, sp) ∈ ls ∧ fs.lookup m = none ∧ tl σ H1 fun vs H2 => sp (x :: vs) H2 Q (ES σ)) : tMD ls m ES ta tl σ H Q := h
theorem x_mDG {C : Addr} {m : Str} {B : Sp → Prop} {sp1 : Sp} (F : FH H L) (hm : (p, Is (.ins C dx fs)) ∈ L) (mt : (C, sp1) ∈ ls) (l : fs.lookup m = none) (h : B sp1) : ∃ a C dx fs sp, V.ref p = .ref a ∧ H a = some (.ins C dx fs) ∧ (C, sp) ∈ ls ∧ fs.lookup m = none ∧ B sp := ⟨p, C, dx, fs, sp1, rfl, F.get hm, mt, l, h⟩
theorem x_fldD (h : te σ H fun x H1 => ∃ a C dx fs v, x = .ref a ∧ H1 a = some (.ins C dx fs) ∧ C ∈ Cs ∧ fs.lookup f = some v ∧ Q v H1) : eFldD Cs f te σ H Q := h
theorem x_fldDG {C : Addr} {QV : V → Prop} (F : FH H L) (m : (p, Is (.ins C dx fs)) ∈ L) (mt : C ∈ Cs) (l : fs.lookup f = some v) (h : QV v) : ∃ a C dx fs v, V.ref p = .ref a ∧ H a = some (.ins C dx fs) ∧ C ∈ Cs ∧ fs.lookup f = some v ∧ QV v := ⟨p, C, dx, fs, v, rfl, F.get m, mt, l, h⟩
theorem x_setFD (h : tb σ H fun y H1 => te σ H1 fun x H2 => ∃ a C dx fs, x = .ref a ∧ H2 a = some (.ins C dx fs) ∧ C ∈ Cs ∧ fs.length < 1000 ∧ nx σ (upd H2 a (.ins C dx (putF f y fs)))) : sSetFD Cs f te tb ⟨nx, rt, bk, ct⟩ σ H := h
theorem x_setFDG {C : Addr} {QH : Hp → Prop} {fs' : List (Str × V)} (F : FH H L) (m : (p, Is (.ins C dx fs)) ∈ L) (mt : C ∈ Cs) (z : fs.length < 1000) (e : putF f y fs = fs') (pu : Put p (Is (.ins C dx fs)) (Is (.ins C dx fs')) L L') (h : ∀ H', FH H' L' → QH H') :
    ∃ a C dx fs, V.ref p = .ref a ∧ H a = some (.ins C dx fs) ∧ C ∈ Cs ∧ fs.length < 1000 ∧ QH (upd H a (.ins C dx (putF f y fs))) := ⟨p, C, dx, fs, rfl, F.get m, mt, z, by rw [e]; exact h _ (F.put pu trivial)⟩
theorem x_augFD {rd : V → V → Hp → VK → Prop} (h : te σ H fun x H1 => ∃ a C dx fs v, x = .ref a ∧ H1 a = some (.ins C dx fs) ∧ C ∈ Cs ∧ fs.lookup f = some v ∧
  tb σ H1 fun y H2 => rd v y H2 fun z H3 => ∃ dx' fs', H3 a = some (.ins C dx' fs') ∧ fs'.length < 1000 ∧ nx σ (upd H3 a (.ins C dx' (putF f z fs')))) : sAugFD Cs f te tb rd ⟨nx, rt, bk, ct⟩ σ H := h
theorem x_augFDG {C : Addr} {QAV : Addr → Addr → V → Prop} (F : FH H L) (m : (p, Is (.ins C dx fs)) ∈ L) (mt : C ∈ Cs) (l : fs.lookup f = some v) (h : QAV p C v) : ∃ a C dx fs v, V.ref p = .ref a ∧ H a = some (.ins C dx fs) ∧ C ∈ Cs ∧ fs.lookup f = some v ∧ QAV a C v := ⟨p, C, dx, fs, v, rfl, F.get m, mt, l, h⟩
theorem x_propD (h : te σ H fun x H1 => ∃ a C dx fs sp, x = .ref a ∧ H1 a = some (.ins C dx fs) ∧ (C, sp) ∈ ls ∧ sp [.ref a] H1 Q E0) : ePropD ls te σ H Q := h
theorem x_propDG {C : Addr} {sp1 : Sp} {B : Addr → Sp → Prop} (F : FH H L) (m : (p, Is (.ins C dx fs)) ∈ L) (mt : (C, sp1) ∈ ls) (h : B p sp1) : ∃ a C dx fs sp, V.ref p = .ref a ∧ H a = some (.ins C dx fs) ∧ (C, sp) ∈ ls ∧ B a sp := ⟨p, C, dx, fs, sp1, rfl, F.get m, mt, h⟩
theorem x_supM {C : Addr} {σ : L2.St} (F : FH H L) (m : (p, Is (.ins C dx fs)) ∈ L) (mt : C ∈ Cs) (h : tl (some (.ref p) :: σ) H fun vs H1 => sp (.ref p :: vs) H1 Q E) : tSupM Cs sp E tl (some (.ref p) :: σ) H Q := ⟨p, C, dx, fs, rfl, F.get m, mt, h⟩
theorem x_augSub {to ti : TE} {tg : V → V → Hp → VK → Prop} {tp : TIp} {ts : TSet} (h : to σ H fun o H1 => ti σ H1 fun i H2 => tg o i H2 fun x H3 => te σ H3 fun y H4 => tp x y H4 fun z H5 => ts o i z H5 fun H6 => nx σ H6) : tAugS to ti te tg tp ts ⟨nx, rt, bk, ct⟩ σ H := h
theorem x_getL (F : FH H L) (m : (p, Is (.lst xs)) ∈ L) (a : atI xs i = some v) (h : Q v H) : rGetL (.ref p) (.int i) H Q := ⟨p, xs, i, v, rfl, rfl, F.get m, a, h⟩
def KmakeD (C : Addr) (sp : Sp) (vs : List V) (H1 : Hp) (Q : VK) (E : XK) : Prop := ∀ x dx, H1 x = none → H1 dx = none → dx ≠ x → sp (.ref x :: vs) (upd (upd H1 dx (.own x)) x (.ins C dx [])) (fun v H2 => v = .non ∧ Q (.ref x) H2) E
theorem x_makeD {C : Addr} {d : V} {ds : List V} (h : tl σ H fun vs H1 => KmakeD C sp (vs ++ d :: ds) H1 Q E) : tMake C sp (d :: ds) E tl σ H Q := h
theorem app0 {α : Type} {ws : List α} : [] ++ ws = ws := rfl
theorem app1 {α : Type} {x : α} {ws : List α} : [x] ++ ws = x :: ws := rfl
theorem app2 {α : Type} {x y : α} {ws : List α} : [x, y] ++ ws = x :: y :: ws := rfl
theorem app3 {α : Type} {x y z : α} {ws : List α} : [x, y, z] ++ ws = x :: y :: z :: ws := rfl
theorem x_makeDG {C : Addr} {vs ws : List V} (F : FH H L) (ap : vs = ws) (h : ∀ x dx H', FH H' ((x, Is (.ins C dx [])) :: L) → sp (.ref x :: ws) H' (fun v H2 => v = .non ∧ Q (.ref x) H2) E) :
    KmakeD C sp vs H Q E := fun x dx hx hd ne => by
  rw [ap]
  exact h x dx _ ((F.other hd).new (by rw [upd_ne (Ne.symm ne)]; exact hx))
/-! errors -/
def KmkC (C : Addr) (fs : List Str) (E : XK) (vs : List V) (H1 : Hp) : Prop := vs.length = fs.length ∧ ∀ d, H1 d = none → E (.ref C) (some d) (upd H1 d (.xd (exFs fs vs)))
theorem x_raise {C : Addr} {fs : List Str} {D : Ends} (h : tl σ H fun vs H1 => KmkC C fs E vs H1) : sRaise E (tMkC C fs tl) D σ H := h
theorem x_raiseS {C : Addr} {fs : List Str} {D : Ends} {W : WX} (h : tl σ H fun vs H1 => KmkC C fs (WE W σ) vs H1) : sRaiseS W (tMkC C fs tl) D σ H := h
theorem x_mkC1 {C : Addr} {f : Str} (F : FH H L) (h : ∀ d H', FH H' ((d, Is (.xd [(f, v)])) :: L) → E (.ref C) (some d) H') : KmkC C [f] E [v] H := ⟨rfl, fun d hd => h d _ (F.new hd)⟩
theorem x_mkC2 {C : Addr} {f g : Str} {w : V} (F : FH H L) (h : ∀ d H', FH H' ((d, Is (.xd [(g, w), (f, v)])) :: L) → E (.ref C) (some d) H') : KmkC C [f, g] E [v, w] H := ⟨rfl, fun d hd => h d _ (F.new hd)⟩
theorem x_try {tab : List (Value × Nat)} {cl : List Sui} {tw : WX → TS} (h : tw (wT tab cl ⟨nx, rt, bk, ct⟩) ⟨nx, rt, bk, ct⟩ σ H) : sTry tab cl tw ⟨nx, rt, bk, ct⟩ σ H := h
theorem x_cS {ES : L2.St → XK} (h : tl σ H fun vs H1 => sp vs H1 Q (ES σ)) : tCS sp ES tl σ H Q := h
theorem x_mS {ES : L2.St → XK} {m : Str} (h : ta σ H fun x H1 => ∃ a dx fs, x = .ref a ∧ H1 a = some (.ins C dx fs) ∧ fs.lookup m = none ∧ tl σ H1 fun vs H2 => sp (x :: vs) H2 Q (ES σ)) : tMS C m sp ES ta tl σ H Q := h
def KnewS (C : Addr) (sp : Sp) (vs : List V) (H1 : Hp) (Q : VK) (E : XK) : Prop := ∀ x dx, H1 x = none → H1 dx = none → dx ≠ x → sp (.ref x :: vs) (upd (upd H1 dx (.own x)) x (.ins C dx [])) (fun v H2 => v = .non ∧ Q (.ref x) H2) E
theorem x_newS {ES : L2.St → XK} (h : tl σ H fun vs H1 => KnewS C sp vs H1 Q (ES σ)) : tNewS C sp ES tl σ H Q := h
theorem x_newSG {C : Addr} {vs : List V} (F : FH H L) (h : ∀ x dx H', FH H' ((x, Is (.ins C dx [])) :: L) → sp (.ref x :: vs) H' (fun v H2 => v = .non ∧ Q (.ref x) H2) E) : KnewS C sp vs H Q E := fun x dx hx hd ne =>
  h x dx _ ((F.other hd).new (by rw [upd_ne (Ne.symm ne)]; exact hx))
def gDel (i : Nat) (σ : L2.St) (H : Hp) (k : K0) : Prop := k (σ.set i none) H
theorem is_d {n : Nat} {k : K0} (h : gDel n σ H k) : gDel n σ H k := h
theorem x_wTs {tab : List (Value × Nat)} {cl : List Sui} {k i : Nat} {ts : Addr → Value → Option Addr → TS} {cls : Value} {d : Option Addr} (mt : (cls, k) ∈ tab) (rf : cl[k]? = some (some i, ts)) (h : ∀ a, gName i (.ref a) σ H fun σ' H' => ts a cls d ⟨fun σ' H' => gDel i σ' H' nx, rt, fun σ' H' => gDel i σ' H' bk, fun σ' H' => gDel i σ' H' ct⟩ σ' H') :
    wT tab cl ⟨nx, rt, bk, ct⟩ cls d σ H := ⟨k, some i, ts, mt, rf, fun a _ => h a⟩
theorem x_wTn {tab : List (Value × Nat)} {cl : List Sui} {k : Nat} {ts : Addr → Value → Option Addr → TS} {cls : Value} {d : Option Addr} (mt : (cls, k) ∈ tab) (rf : cl[k]? = some (none, ts)) (h : ∀ a, ts a cls d ⟨nx, rt, bk, ct⟩ σ H) :
    wT tab cl ⟨nx, rt, bk, ct⟩ cls d σ H := ⟨k, none, ts, mt, rf, fun a _ => h a⟩
theorem x_xf {b : Addr} {cls : Value} {d : Option Addr} {Cs : List Addr} {f : Str} (h : te σ H fun x H1 => x = .ref b ∧ ∃ C, C ∈ Cs ∧ cls = .ref C ∧ ∃ (dd : Addr) (fs : List (Str × V)) (v : V), d = some dd ∧ H1 dd = some (.xd fs) ∧ fs.lookup f = some v ∧ Q v H1) : eXf b cls d Cs f te σ H Q := h
theorem x_xfG {b C : Addr} {Cs : List Addr} {f : Str} {QV : V → Prop} {fs : List (Str × V)} (F : FH H L) (m : (p, Is (.xd fs)) ∈ L) (mt : C ∈ Cs) (l : fs.lookup f = some v) (h : QV v) :
    V.ref b = .ref b ∧ ∃ C', C' ∈ Cs ∧ Value.ref C = .ref C' ∧ ∃ (dd : Addr) (fs : List (Str × V)) (v : V), some p = some dd ∧ H dd = some (.xd fs) ∧ fs.lookup f = some v ∧ QV v := ⟨rfl, C, mt, rfl, p, fs, v, rfl, F.get m, l, h⟩
theorem x_isX {b C : Addr} {tbl : List (Value × V × Bool)} {c : V} {k : Bool} {fs : List (Str × V)} (F : FH H L) (m : (p, Is (.xd fs)) ∈ L) (mt : (Value.ref C, c, k) ∈ tbl) (h : Q (.bl k) H) : rIsX tbl b (.ref C) (some p) [.ref b, c] H Q := .inl ⟨c, k, rfl, mt, ⟨p, fs, rfl, F.get m⟩, h⟩
theorem x_isXi {b : Addr} {tbl : List (Value × V × Bool)} {cls : Value} {d : Option Addr} {xs : List V} (h : rIsI xs H Q) : rIsX tbl b cls d xs H Q := .inr h
theorem x_strI (h1 : -18446744073709551616 < i ∧ i < 18446744073709551616) (h : Q (.str (toString i)) H) : rStrI [.int i] H Q := ⟨i, rfl, by
  by_cases e : i.natAbs = 0
  · rw [e]; decide
  · have h2 := Nat.log2_self_le e
    have h3 : 2 ^ i.natAbs.log2 < 2 ^ 64 := by
      have : (2 : Nat) ^ 64 = 18446744073709551616 := by decide
      omega
    have := (Nat.pow_lt_pow_iff_right (by decide : 1 < 2)).mp h3
    omega, h⟩
/-! places -/
theorem atI_at {α : Type} {xs : List α} {j : Nat} {v : α} (e : i = (j : Int)) (h : xs[j]? = some v) : atI xs i = some v := by subst e; exact atI_nat h
theorem ixN_at {n j : Nat} (e : i = (j : Int)) (h : j < n) : ixN n i = some j := by
  subst e
  unfold ixN
  rw [if_pos (by omega), if_pos (by omega)]
  simp
theorem atI_ints {ns : List Int} (h0 : 0 ≤ i) (h1 : i < ((ns.map V.int).length : Int)) : atI (ns.map V.int) i = some (.int (ns.getD i.toNat 0)) := by
  have hl : i.toNat < ns.length := by rw [List.length_map] at h1; omega
  refine atI_at (j := i.toNat) (by omega) ?_
  rw [List.getElem?_map, List.getElem?_eq_getElem hl, List.getD_eq_getElem?_getD, List.getElem?_eq_getElem hl]
  rfl
theorem getD_nn {ns : List Int} (h : ∀ n ∈ ns, 0 ≤ n) (k : Nat) : 0 ≤ ns.getD k 0 := by
  rw [List.getD_eq_getElem?_getD]
  cases e : ns[k]? with
  | none => exact Int.le_refl 0
  | some z => exact h z (List.mem_of_getElem? e)
theorem ixN_b {n j : Nat} (e : i = (j : Int)) (h : Nat.blt j n = true) : ixN n i = some j := ixN_at e (by simpa [Nat.blt_eq] using h)
theorem ixN_i {n : Nat} (h0 : 0 ≤ i) (h1 : i < (n : Int)) : ixN n i = some i.toNat := by
  unfold ixN
  rw [if_pos h0, if_pos h1]
theorem len_leB {xs : List V} (h : Nat.ble xs.length 16777216 = true) : xs.length ≤ sizeLine := by rw [sizeLine_eq]; exact Nat.le_of_ble_eq_true h
theorem len_ltB {xs : List V} (h : Nat.blt xs.length 16777216 = true) : xs.length < sizeLine := by rw [sizeLine_eq]; simpa [Nat.blt_eq] using h
theorem f_lt {fs : List (Str × V)} (h : Nat.blt fs.length 1000 = true) : fs.length < 1000 := by simpa [Nat.blt_eq] using h
theorem len_leN {xs : List V} (h : xs.length ≤ 16777216) : xs.length ≤ sizeLine := by rw [sizeLine_eq]; exact h
theorem len_ltN {xs : List V} (h : xs.length < 16777216) : xs.length < sizeLine := by rw [sizeLine_eq]; exact h
theorem len_le {xs : List V} {n : Nat} (e : xs.length = n) (h : n ≤ 16777216) : xs.length ≤ sizeLine := by rw [e, sizeLine_eq]; exact h
theorem len_lt {xs : List V} {n : Nat} (e : xs.length = n) (h : n < 16777216) : xs.length < sizeLine := by rw [e, sizeLine_eq]; exact h
theorem div_small (h1 : 0 < j) (h2 : j < 18446744073709551616) : CDivW i j := wide_div (b := 64) h1 (by omega) (by decide) (by decide)
theorem mulL (h1 : -18446744073709551616 < i) (h2 : i < 18446744073709551616) : CMul i j := .inl ⟨h1, h2⟩
theorem mulR (h1 : -18446744073709551616 < j) (h2 : j < 18446744073709551616) : CMul i j := .inr ⟨h1, h2⟩

theorem x_pw10_1 (h : Q (.int 10) H) : rPow (.int 10) (.int 1) H Q := x_pow ⟨by decide, by decide, by decide⟩ (by rw [show (10 : Int) ^ (Int.toNat 1) = 10 by decide]; exact h)
theorem x_pw10_2 (h : Q (.int 100) H) : rPow (.int 10) (.int 2) H Q := x_pow ⟨by decide, by decide, by decide⟩ (by rw [show (10 : Int) ^ (Int.toNat 2) = 100 by decide]; exact h)
theorem x_pw10_3 (h : Q (.int 1000) H) : rPow (.int 10) (.int 3) H Q := x_pow ⟨by decide, by decide, by decide⟩ (by rw [show (10 : Int) ^ (Int.toNat 3) = 1000 by decide]; exact h)
theorem x_pw10_4 (h : Q (.int 10000) H) : rPow (.int 10) (.int 4) H Q := x_pow ⟨by decide, by decide, by decide⟩ (by rw [show (10 : Int) ^ (Int.toNat 4) = 10000 by decide]; exact h)
theorem x_pw10_5 (h : Q (.int 100000) H) : rPow (.int 10) (.int 5) H Q := x_pow ⟨by decide, by decide, by decide⟩ (by rw [show (10 : Int) ^ (Int.toNat 5) = 100000 by decide]; exact h)
theorem x_pw10_6 (h : Q (.int 1000000) H) : rPow (.int 10) (.int 6) H Q := x_pow ⟨by decide, by decide, by decide⟩ (by rw [show (10 : Int) ^ (Int.toNat 6) = 1000000 by decide]; exact h)
theorem x_pw10_7 (h : Q (.int 10000000) H) : rPow (.int 10) (.int 7) H Q := x_pow ⟨by decide, by decide, by decide⟩ (by rw [show (10 : Int) ^ (Int.toNat 7) = 10000000 by decide]; exact h)
theorem x_pw10_8 (h : Q (.int 100000000) H) : rPow (.int 10) (.int 8) H Q := x_pow ⟨by decide, by decide, by decide⟩ (by rw [show (10 : Int) ^ (Int.toNat 8) = 100000000 by decide]; exact h)
theorem x_pw10_9 (h : Q (.int 1000000000) H) : rPow (.int 10) (.int 9) H Q := x_pow ⟨by decide, by decide, by decide⟩ (by rw [show (10 : Int) ^ (Int.toNat 9) = 1000000000 by decide]; exact h)
theorem x_pw10_10 (h : Q (.int 10000000000) H) : rPow (.int 10) (.int 10) H Q := x_pow ⟨by decide, by decide, by decide⟩ (by rw [show (10 : Int) ^ (Int.toNat 10) = 10000000000 by decide]; exact h)
theorem x_pw10_11 (h : Q (.int 100000000000) H) : rPow (.int 10) (.int 11) H Q := x_pow ⟨by decide, by decide, by decide⟩ (by rw [show (10 : Int) ^ (Int.toNat 11) = 100000000000 by decide]; exact h)
theorem x_pw10_12 (h : Q (.int 1000000000000) H) : rPow (.int 10) (.int 12) H Q := x_pow ⟨by decide, by decide, by decide⟩ (by rw [show (10 : Int) ^ (Int.toNat 12) = 1000000000000 by decide]; exact h)
theorem x_pw10_13 (h : Q (.int 10000000000000) H) : rPow (.int 10) (.int 13) H Q := x_pow ⟨by decide, by decide, by decide⟩ (by rw [show (10 : Int) ^ (Int.toNat 13) = 10000000000000 by decide]; exact h)
theorem x_pw10_14 (h : Q (.int 100000000000000) H) : rPow (.int 10) (.int 14) H Q := x_pow ⟨by decide, by decide, by decide⟩ (by rw [show (10 : Int) ^ (Int.toNat 14) = 100000000000000 by decide]; exact h)
theorem x_pw10_15 (h : Q (.int 1000000000000000) H) : rPow (.int 10) (.int 15) H Q := x_pow ⟨by decide, by decide, by decide⟩ (by rw [show (10 : Int) ^ (Int.toNat 15) = 1000000000000000 by decide]; exact h)
theorem x_pw10_16 (h : Q (.int 10000000000000000) H) : rPow (.int 10) (.int 16) H Q := x_pow ⟨by decide, by decide, by decide⟩ (by rw [show (10 : Int) ^ (Int.toNat 16) = 10000000000000000 by decide]; exact h)
theorem x_pw10_17 (h : Q (.int 100000000000000000) H) : rPow (.int 10) (.int 17) H Q := x_pow ⟨by decide, by decide, by decide⟩ (by rw [show (10 : Int) ^ (Int.toNat 17) = 100000000000000000 by decide]; exact h)
theorem x_pw10_18 (h : Q (.int 1000000000000000000) H) : rPow (.int 10) (.int 18) H Q := x_pow ⟨by decide, by decide, by decide⟩ (by rw [show (10 : Int) ^ (Int.toNat 18) = 1000000000000000000 by decide]; exact h)
theorem x_pw10_19 (h : Q (.int 10000000000000000000) H) : rPow (.int 10) (.int 19) H Q := x_pow ⟨by decide, by decide, by decide⟩ (by rw [show (10 : Int) ^ (Int.toNat 19) = 10000000000000000000 by decide]; exact h)
theorem x_pw10_20 (h : Q (.int 100000000000000000000) H) : rPow (.int 10) (.int 20) H Q := x_pow ⟨by decide, by decide, by decide⟩ (by rw [show (10 : Int) ^ (Int.toNat 20) = 100000000000000000000 by decide]; exact h)
theorem x_pw10_21 (h : Q (.int 1000000000000000000000) H) : rPow (.int 10) (.int 21) H Q := x_pow ⟨by decide, by decide, by decide⟩ (by rw [show (10 : Int) ^ (Int.toNat 21) = 1000000000000000000000 by decide]; exact h)
theorem x_pw10_22 (h : Q (.int 10000000000000000000000) H) : rPow (.int 10) (.int 22) H Q := x_pow ⟨by decide, by decide, by decide⟩ (by rw [show (10 : Int) ^ (Int.toNat 22) = 10000000000000000000000 by decide]; exact h)
theorem x_pw10_23 (h : Q (.int 100000000000000000000000) H) : rPow (.int 10) (.int 23) H Q := x_pow ⟨by decide, by decide, by decide⟩ (by rw [show (10 : Int) ^ (Int.toNat 23) = 100000000000000000000000 by decide]; exact h)
theorem x_pw10_24 (h : Q (.int 1000000000000000000000000) H) : rPow (.int 10) (.int 24) H Q := x_pow ⟨by decide, by decide, by decide⟩ (by rw [show (10 : Int) ^ (Int.toNat 24) = 1000000000000000000000000 by decide]; exact h)
theorem x_pw2_6 (h : Q (.int 64) H) : rPow (.int 2) (.int 6) H Q := x_pow ⟨by decide, by decide, by decide⟩ (by rw [show (2 : Int) ^ (Int.toNat 6) = 64 by decide]; exact h)
theorem x_pw2_10 (h : Q (.int 1024) H) : rPow (.int 2) (.int 10) H Q := x_pow ⟨by decide, by decide, by decide⟩ (by rw [show (2 : Int) ^ (Int.toNat 10) = 1024 by decide]; exact h)
theorem x_pw2_16 (h : Q (.int 65536) H) : rPow (.int 2) (.int 16) H Q := x_pow ⟨by decide, by decide, by decide⟩ (by rw [show (2 : Int) ^ (Int.toNat 16) = 65536 by decide]; exact h)
theorem x_pw2_20 (h : Q (.int 1048576) H) : rPow (.int 2) (.int 20) H Q := x_pow ⟨by decide, by decide, by decide⟩ (by rw [show (2 : Int) ^ (Int.toNat 20) = 1048576 by decide]; exact h)
theorem x_pw2_30 (h : Q (.int 1073741824) H) : rPow (.int 2) (.int 30) H Q := x_pow ⟨by decide, by decide, by decide⟩ (by rw [show (2 : Int) ^ (Int.toNat 30) = 1073741824 by decide]; exact h)
theorem x_pw2_31 (h : Q (.int 2147483648) H) : rPow (.int 2) (.int 31) H Q := x_pow ⟨by decide, by decide, by decide⟩ (by rw [show (2 : Int) ^ (Int.toNat 31) = 2147483648 by decide]; exact h)
theorem x_pw2_32 (h : Q (.int 4294967296) H) : rPow (.int 2) (.int 32) H Q := x_pow ⟨by decide, by decide, by decide⟩ (by rw [show (2 : Int) ^ (Int.toNat 32) = 4294967296 by decide]; exact h)
theorem x_pw2_40 (h : Q (.int 1099511627776) H) : rPow (.int 2) (.int 40) H Q := x_pow ⟨by decide, by decide, by decide⟩ (by rw [show (2 : Int) ^ (Int.toNat 40) = 1099511627776 by decide]; exact h)
theorem x_pw2_48 (h : Q (.int 281474976710656) H) : rPow (.int 2) (.int 48) H Q := x_pow ⟨by decide, by decide, by decide⟩ (by rw [show (2 : Int) ^ (Int.toNat 48) = 281474976710656 by decide]; exact h)
theorem x_pw2_60 (h : Q (.int 1152921504606846976) H) : rPow (.int 2) (.int 60) H Q := x_pow ⟨by decide, by decide, by decide⟩ (by rw [show (2 : Int) ^ (Int.toNat 60) = 1152921504606846976 by decide]; exact h)
theorem x_pw2_62 (h : Q (.int 4611686018427387904) H) : rPow (.int 2) (.int 62) H Q := x_pow ⟨by decide, by decide, by decide⟩ (by rw [show (2 : Int) ^ (Int.toNat 62) = 4611686018427387904 by decide]; exact h)
theorem x_pw2_63 (h : Q (.int 9223372036854775808) H) : rPow (.int 2) (.int 63) H Q := x_pow ⟨by decide, by decide, by decide⟩ (by rw [show (2 : Int) ^ (Int.toNat 63) = 9223372036854775808 by decide]; exact h)
theorem x_pw2_64 (h : Q (.int 18446744073709551616) H) : rPow (.int 2) (.int 64) H Q := x_pow ⟨by decide, by decide, by decide⟩ (by rw [show (2 : Int) ^ (Int.toNat 64) = 18446744073709551616 by decide]; exact h)
theorem x_v0 {σ : L2.St} (h : Q v H) : tVar 0 (some v :: σ) H Q := ⟨v, rfl, h⟩
theorem x_g0 {x : Option V} {σ : L2.St} (h : QS (some v :: σ) H) : gName 0 v (x :: σ) H QS := h
theorem x_d0 {x : Option V} {σ : L2.St} {k : K0} (h : k (none :: σ) H) : gDel 0 (x :: σ) H k := h
theorem x_ml0 {σ : L2.St} (h : tMake C sp [] E tl (some (.ref C) :: σ) H Q) : eMakeL 0 C sp [] E tl (some (.ref C) :: σ) H Q := ⟨rfl, h⟩
theorem x_au0 {te : TE} {ti : TIp} {σ : L2.St} (h : te (some x :: σ) H fun y H1 => ti x y H1 fun z H2 => nx (some z :: σ) H2) : tAug 0 te ti ⟨nx, rt, bk, ct⟩ (some x :: σ) H := ⟨x, rfl, h⟩
theorem x_v1 {a0 : Option V} {σ : L2.St} (h : Q v H) : tVar 1 (a0 :: some v :: σ) H Q := ⟨v, rfl, h⟩
theorem x_g1 {a0 : Option V} {x : Option V} {σ : L2.St} (h : QS (a0 :: some v :: σ) H) : gName 1 v (a0 :: x :: σ) H QS := h
theorem x_d1 {a0 : Option V} {x : Option V} {σ : L2.St} {k : K0} (h : k (a0 :: none :: σ) H) : gDel 1 (a0 :: x :: σ) H k := h
theorem x_ml1 {a0 : Option V} {σ : L2.St} (h : tMake C sp [] E tl (a0 :: some (.ref C) :: σ) H Q) : eMakeL 1 C sp [] E tl (a0 :: some (.ref C) :: σ) H Q := ⟨rfl, h⟩
theorem x_au1 {te : TE} {ti : TIp} {a0 : Option V} {σ : L2.St} (h : te (a0 :: some x :: σ) H fun y H1 => ti x y H1 fun z H2 => nx (a0 :: some z :: σ) H2) : tAug 1 te ti ⟨nx, rt, bk, ct⟩ (a0 :: some x :: σ) H := ⟨x, rfl, h⟩
theorem x_v2 {a0 a1 : Option V} {σ : L2.St} (h : Q v H) : tVar 2 (a0 :: a1 :: some v :: σ) H Q := ⟨v, rfl, h⟩
theorem x_g2 {a0 a1 : Option V} {x : Option V} {σ : L2.St} (h : QS (a0 :: a1 :: some v :: σ) H) : gName 2 v (a0 :: a1 :: x :: σ) H QS := h
theorem x_d2 {a0 a1 : Option V} {x : Option V} {σ : L2.St} {k : K0} (h : k (a0 :: a1 :: none :: σ) H) : gDel 2 (a0 :: a1 :: x :: σ) H k := h
theorem x_ml2 {a0 a1 : Option V} {σ : L2.St} (h : tMake C sp [] E tl (a0 :: a1 :: some (.ref C) :: σ) H Q) : eMakeL 2 C sp [] E tl (a0 :: a1 :: some (.ref C) :: σ) H Q := ⟨rfl, h⟩
theorem x_au2 {te : TE} {ti : TIp} {a0 a1 : Option V} {σ : L2.St} (h : te (a0 :: a1 :: some x :: σ) H fun y H1 => ti x y H1 fun z H2 => nx (a0 :: a1 :: some z :: σ) H2) : tAug 2 te ti ⟨nx, rt, bk, ct⟩ (a0 :: a1 :: some x :: σ) H := ⟨x, rfl, h⟩
theorem x_v3 {a0 a1 a2 : Option V} {σ : L2.St} (h : Q v H) : tVar 3 (a0 :: a1 :: a2 :: some v :: σ) H Q := ⟨v, rfl, h⟩
theorem x_g3 {a0 a1 a2 : Option V} {x : Option V} {σ : L2.St} (h : QS (a0 :: a1 :: a2 :: some v :: σ) H) : gName 3 v (a0 :: a1 :: a2 :: x :: σ) H QS := h
theorem x_d3 {a0 a1 a2 : Option V} {x : Option V} {σ : L2.St} {k : K0} (h : k (a0 :: a1 :: a2 :: none :: σ) H) : gDel 3 (a0 :: a1 :: a2 :: x :: σ) H k := h
theorem x_ml3 {a0 a1 a2 : Option V} {σ : L2.St} (h : tMake C sp [] E tl (a0 :: a1 :: a2 :: some (.ref C) :: σ) H Q) : eMakeL 3 C sp [] E tl (a0 :: a1 :: a2 :: some (.ref C) :: σ) H Q := ⟨rfl, h⟩
theorem x_au3 {te : TE} {ti : TIp} {a0 a1 a2 : Option V} {σ : L2.St} (h : te (a0 :: a1 :: a2 :: some x :: σ) H fun y H1 => ti x y H1 fun z H2 => nx (a0 :: a1 :: a2 :: some z :: σ) H2) : tAug 3 te ti ⟨nx, rt, bk, ct⟩ (a0 :: a1 :: a2 :: some x :: σ) H := ⟨x, rfl, h⟩
theorem x_v4 {a0 a1 a2 a3 : Option V} {σ : L2.St} (h : Q v H) : tVar 4 (a0 :: a1 :: a2 :: a3 :: some v :: σ) H Q := ⟨v, rfl, h⟩
theorem x_g4 {a0 a1 a2 a3 : Option V} {x : Option V} {σ : L2.St} (h : QS (a0 :: a1 :: a2 :: a3 :: some v :: σ) H) : gName 4 v (a0 :: a1 :: a2 :: a3 :: x :: σ) H QS := h
theorem x_d4 {a0 a1 a2 a3 : Option V} {x : Option V} {σ : L2.St} {k : K0} (h : k (a0 :: a1 :: a2 :: a3 :: none :: σ) H) : gDel 4 (a0 :: a1 :: a2 :: a3 :: x :: σ) H k := h
theorem x_ml4 {a0 a1 a2 a3 : Option V} {σ : L2.St} (h : tMake C sp [] E tl (a0 :: a1 :: a2 :: a3 :: some (.ref C) :: σ) H Q) : eMakeL 4 C sp [] E tl (a0 :: a1 :: a2 :: a3 :: some (.ref C) :: σ) H Q := ⟨rfl, h⟩
theorem x_au4 {te : TE} {ti : TIp} {a0 a1 a2 a3 : Option V} {σ : L2.St} (h : te (a0 :: a1 :: a2 :: a3 :: some x :: σ) H fun y H1 => ti x y H1 fun z H2 => nx (a0 :: a1 :: a2 :: a3 :: some z :: σ) H2) : tAug 4 te ti ⟨nx, rt, bk, ct⟩ (a0 :: a1 :: a2 :: a3 :: some x :: σ) H := ⟨x, rfl, h⟩
theorem x_v5 {a0 a1 a2 a3 a4 : Option V} {σ : L2.St} (h : Q v H) : tVar 5 (a0 :: a1 :: a2 :: a3 :: a4 :: some v :: σ) H Q := ⟨v, rfl, h⟩
theorem x_g5 {a0 a1 a2 a3 a4 : Option V} {x : Option V} {σ : L2.St} (h : QS (a0 :: a1 :: a2 :: a3 :: a4 :: some v :: σ) H) : gName 5 v (a0 :: a1 :: a2 :: a3 :: a4 :: x :: σ) H QS := h
theorem x_d5 {a0 a1 a2 a3 a4 : Option V} {x : Option V} {σ : L2.St} {k : K0} (h : k (a0 :: a1 :: a2 :: a3 :: a4 :: none :: σ) H) : gDel 5 (a0 :: a1 :: a2 :: a3 :: a4 :: x :: σ) H k := h
theorem x_ml5 {a0 a1 a2 a3 a4 : Option V} {σ : L2.St} (h : tMake C sp [] E tl (a0 :: a1 :: a2 :: a3 :: a4 :: some (.ref C) :: σ) H Q) : eMakeL 5 C sp [] E tl (a0 :: a1 :: a2 :: a3 :: a4 :: some (.ref C) :: σ) H Q := ⟨rfl, h⟩
theorem x_au5 {te : TE} {ti : TIp} {a0 a1 a2 a3 a4 : Option V} {σ : L2.St} (h : te (a0 :: a1 :: a2 :: a3 :: a4 :: some x :: σ) H fun y H1 => ti x y H1 fun z H2 => nx (a0 :: a1 :: a2 :: a3 :: a4 :: some z :: σ) H2) : tAug 5 te ti ⟨nx, rt, bk, ct⟩ (a0 :: a1 :: a2 :: a3 :: a4 :: some x :: σ) H := ⟨x, rfl, h⟩
theorem x_v6 {a0 a1 a2 a3 a4 a5 : Option V} {σ : L2.St} (h : Q v H) : tVar 6 (a0 :: a1 :: a2 :: a3 :: a4 :: a5 :: some v :: σ) H Q := ⟨v, rfl, h⟩
theorem x_g6 {a0 a1 a2 a3 a4 a5 : Option V} {x : Option V} {σ : L2.St} (h : QS (a0 :: a1 :: a2 :: a3 :: a4 :: a5 :: some v :: σ) H) : gName 6 v (a0 :: a1 :: a2 :: a3 :: a4 :: a5 :: x :: σ) H QS := h
theorem x_d6 {a0 a1 a2 a3 a4 a5 : Option V} {x : Option V} {σ : L2.St} {k : K0} (h : k (a0 :: a1 :: a2 :: a3 :: a4 :: a5 :: none :: σ) H) : gDel 6 (a0 :: a1 :: a2 :: a3 :: a4 :: a5 :: x :: σ) H k := h
theorem x_ml6 {a0 a1 a2 a3 a4 a5 : Option V} {σ : L2.St} (h : tMake C sp [] E tl (a0 :: a1 :: a2 :: a3 :: a4 :: a5 :: some (.ref C) :: σ) H Q) : eMakeL 6 C sp [] E tl (a0 :: a1 :: a2 :: a3 :: a4 :: a5 :: some (.ref C) :: σ) H Q := ⟨rfl, h⟩
theorem x_au6 {te : TE} {ti : TIp} {a0 a1 a2 a3 a4 a5 : Option V} {σ : L2.St} (h : te (a0 :: a1 :: a2 :: a3 :: a4 :: a5 :: some x :: σ) H fun y H1 => ti x y H1 fun z H2 => nx (a0 :: a1 :: a2 :: a3 :: a4 :: a5 :: some z :: σ) H2) : tAug 6 te ti ⟨nx, rt, bk, ct⟩ (a0 :: a1 :: a2 :: a3 :: a4 :: a5 :: some x :: σ) H := ⟨x, rfl, h⟩
theorem x_v7 {a0 a1 a2 a3 a4 a5 a6 : Option V} {σ : L2.St} (h : Q v H) : tVar 7 (a0 :: a1 :: a2 :: a3 :: a4 :: a5 :: a6 :: some v :: σ) H Q := ⟨v, rfl, h⟩
theorem x_g7 {a0 a1 a2 a3 a4 a5 a6 : Option V} {x : Option V} {σ : L2.St} (h : QS (a0 :: a1 :: a2 :: a3 :: a4 :: a5 :: a6 :: some v :: σ) H) : gName 7 v (a0 :: a1 :: a2 :: a3 :: a4 :: a5 :: a6 :: x :: σ) H QS := h
theorem x_d7 {a0 a1 a2 a3 a4 a5 a6 : Option V} {x : Option V} {σ : L2.St} {k : K0} (h : k (a0 :: a1 :: a2 :: a3 :: a4 :: a5 :: a6 :: none :: σ) H) : gDel 7 (a0 :: a1 :: a2 :: a3 :: a4 :: a5 :: a6 :: x :: σ) H k := h
theorem x_ml7 {a0 a1 a2 a3 a4 a5 a6 : Option V} {σ : L2.St} (h : tMake C sp [] E tl (a0 :: a1 :: a2 :: a3 :: a4 :: a5 :: a6 :: some (.ref C) :: σ) H Q) : eMakeL 7 C sp [] E tl (a0 :: a1 :: a2 :: a3 :: a4 :: a5 :: a6 :: some (.ref C) :: σ) H Q := ⟨rfl, h⟩
theorem x_au7 {te : TE} {ti : TIp} {a0 a1 a2 a3 a4 a5 a6 : Option V} {σ : L2.St} (h : te (a0 :: a1 :: a2 :: a3 :: a4 :: a5 :: a6 :: some x :: σ) H fun y H1 => ti x y H1 fun z H2 => nx (a0 :: a1 :: a2 :: a3 :: a4 :: a5 :: a6 :: some z :: σ) H2) : tAug 7 te ti ⟨nx, rt, bk, ct⟩ (a0 :: a1 :: a2 :: a3 :: a4 :: a5 :: a6 :: some x :: σ) H := ⟨x, rfl, h⟩
theorem x_v8 {a0 a1 a2 a3 a4 a5 a6 a7 : Option V} {σ : L2.St} (h : Q v H) : tVar 8 (a0 :: a1 :: a2 :: a3 :: a4 :: a5 :: a6 :: a7 :: some v :: σ) H Q := ⟨v, rfl, h⟩
theorem x_g8 {a0 a1 a2 a3 a4 a5 a6 a7 : Option V} {x : Option V} {σ : L2.St} (h : QS (a0 :: a1 :: a2 :: a3 :: a4 :: a5 :: a6 :: a7 :: some v :: σ) H) : gName 8 v (a0 :: a1 :: a2 :: a3 :: a4 :: a5 :: a6 :: a7 :: x :: σ) H QS := h
theorem x_d8 {a0 a1 a2 a3 a4 a5 a6 a7 : Option V} {x : Option V} {σ : L2.St} {k : K0} (h : k (a0 :: a1 :: a2 :: a3 :: a4 :: a5 :: a6 :: a7 :: none :: σ) H) : gDel 8 (a0 :: a1 :: a2 :: a3 :: a4 :: a5 :: a6 :: a7 :: x :: σ) H k := h
theorem x_ml8 {a0 a1 a2 a3 a4 a5 a6 a7 : Option V} {σ : L2.St} (h : tMake C sp [] E tl (a0 :: a1 :: a2 :: a3 :: a4 :: a5 :: a6 :: a7 :: some (.ref C) :: σ) H Q) : eMakeL 8 C sp [] E tl (a0 :: a1 :: a2 :: a3 :: a4 :: a5 :: a6 :: a7 :: some (.ref C) :: σ) H Q := ⟨rfl, h⟩
theorem x_au8 {te : TE} {ti : TIp} {a0 a1 a2 a3 a4 a5 a6 a7 : Option V} {σ : L2.St} (h : te (a0 :: a1 :: a2 :: a3 :: a4 :: a5 :: a6 :: a7 :: some x :: σ) H fun y H1 => ti x y H1 fun z H2 => nx (a0 :: a1 :: a2 :: a3 :: a4 :: a5 :: a6 :: a7 :: some z :: σ) H2) : tAug 8 te ti ⟨nx, rt, bk, ct⟩ (a0 :: a1 :: a2 :: a3 :: a4 :: a5 :: a6 :: a7 :: some x :: σ) H := ⟨x, rfl, h⟩
theorem x_v9 {a0 a1 a2 a3 a4 a5 a6 a7 a8 : Option V} {σ : L2.St} (h : Q v H) : tVar 9 (a0 :: a1 :: a2 :: a3 :: a4 :: a5 :: a6 :: a7 :: a8 :: some v :: σ) H Q := ⟨v, rfl, h⟩
theorem x_g9 {a0 a1 a2 a3 a4 a5 a6 a7 a8 : Option V} {x : Option V} {σ : L2.St} (h : QS (a0 :: a1 :: a2 :: a3 :: a4 :: a5 :: a6 :: a7 :: a8 :: some v :: σ) H) : gName 9 v (a0 :: a1 :: a2 :: a3 :: a4 :: a5 :: a6 :: a7 :: a8 :: x :: σ) H QS := h
theorem x_d9 {a0 a1 a2 a3 a4 a5 a6 a7 a8 : Option V} {x : Option V} {σ : L2.St} {k : K0} (h : k (a0 :: a1 :: a2 :: a3 :: a4 :: a5 :: a6 :: a7 :: a8 :: none :: σ) H) : gDel 9 (a0 :: a1 :: a2 :: a3 :: a4 :: a5 :: a6 :: a7 :: a8 :: x :: σ) H k := h
theorem x_ml9 {a0 a1 a2 a3 a4 a5 a6 a7 a8 : Option V} {σ : L2.St} (h : tMake C sp [] E tl (a0 :: a1 :: a2 :: a3 :: a4 :: a5 :: a6 :: a7 :: a8 :: some (.ref C) :: σ) H Q) : eMakeL 9 C sp [] E tl (a0 :: a1 :: a2 :: a3 :: a4 :: a5 :: a6 :: a7 :: a8 :: some (.ref C) :: σ) H Q := ⟨rfl, h⟩
theorem x_au9 {te : TE} {ti : TIp} {a0 a1 a2 a3 a4 a5 a6 a7 a8 : Option V} {σ : L2.St} (h : te (a0 :: a1 :: a2 :: a3 :: a4 :: a5 :: a6 :: a7 :: a8 :: some x :: σ) H fun y H1 => ti x y H1 fun z H2 => nx (a0 :: a1 :: a2 :: a3 :: a4 :: a5 :: a6 :: a7 :: a8 :: some z :: σ) H2) : tAug 9 te ti ⟨nx, rt, bk, ct⟩ (a0 :: a1 :: a2 :: a3 :: a4 :: a5 :: a6 :: a7 :: a8 :: some x :: σ) H := ⟨x, rfl, h⟩
theorem x_v10 {a0 a1 a2 a3 a4 a5 a6 a7 a8 a9 : Option V} {σ : L2.St} (h : Q v H) : tVar 10 (a0 :: a1 :: a2 :: a3 :: a4 :: a5 :: a6 :: a7 :: a8 :: a9 :: some v :: σ) H Q := ⟨v, rfl, h⟩
theorem x_g10 {a0 a1 a2 a3 a4 a5 a6 a7 a8 a9 : Option V} {x : Option V} {σ : L2.St} (h : QS (a0 :: a1 :: a2 :: a3 :: a4 :: a5 :: a6 :: a7 :: a8 :: a9 :: some v :: σ) H) : gName 10 v (a0 :: a1 :: a2 :: a3 :: a4 :: a5 :: a6 :: a7 :: a8 :: a9 :: x :: σ) H QS := h
theorem x_d10 {a0 a1 a2 a3 a4 a5 a6 a7 a8 a9 : Option V} {x : Option V} {σ : L2.St} {k : K0} (h : k (a0 :: a1 :: a2 :: a3 :: a4 :: a5 :: a6 :: a7 :: a8 :: a9 :: none :: σ) H) : gDel 10 (a0 :: a1 :: a2 :: a3 :: a4 :: a5 :: a6 :: a7 :: a8 :: a9 :: x :: σ) H k := h
theorem x_ml10 {a0 a1 a2 a3 a4 a5 a6 a7 a8 a9 : Option V} {σ : L2.St} (h : tMake C sp [] E tl (a0 :: a1 :: a2 :: a3 :: a4 :: a5 :: a6 :: a7 :: a8 :: a9 :: some (.ref C) :: σ) H Q) : eMakeL 10 C sp [] E tl (a0 :: a1 :: a2 :: a3 :: a4 :: a5 :: a6 :: a7 :: a8 :: a9 :: some (.ref C) :: σ) H Q := ⟨rfl, h⟩
theorem x_au10 {te : TE} {ti : TIp} {a0 a1 a2 a3 a4 a5 a6 a7 a8 a9 : Option V} {σ : L2.St} (h : te (a0 :: a1 :: a2 :: a3 :: a4 :: a5 :: a6 :: a7 :: a8 :: a9 :: some x :: σ) H fun y H1 => ti x y H1 fun z H2 => nx (a0 :: a1 :: a2 :: a3 :: a4 :: a5 :: a6 :: a7 :: a8 :: a9 :: some z :: σ) H2) : tAug 10 te ti ⟨nx, rt, bk, ct⟩ (a0 :: a1 :: a2 :: a3 :: a4 :: a5 :: a6 :: a7 :: a8 :: a9 :: some x :: σ) H := ⟨x, rfl, h⟩
theorem x_v11 {a0 a1 a2 a3 a4 a5 a6 a7 a8 a9 a10 : Option V} {σ : L2.St} (h : Q v H) : tVar 11 (a0 :: a1 :: a2 :: a3 :: a4 :: a5 :: a6 :: a7 :: a8 :: a9 :: a10 :: some v :: σ) H Q := ⟨v, rfl, h⟩
theorem x_g11 {a0 a1 a2 a3 a4 a5 a6 a7 a8 a9 a10 : Option V} {x : Option V} {σ : L2.St} (h : QS (a0 :: a1 :: a2 :: a3 :: a4 :: a5 :: a6 :: a7 :: a8 :: a9 :: a10 :: some v :: σ) H) : gName 11 v (a0 :: a1 :: a2 :: a3 :: a4 :: a5 :: a6 :: a7 :: a8 :: a9 :: a10 :: x :: σ) H QS := h
theorem x_d11 {a0 a1 a2 a3 a4 a5 a6 a7 a8 a9 a10 : Option V} {x : Option V} {σ : L2.St} {k : K0} (h : k (a0 :: a1 :: a2 :: a3 :: a4 :: a5 :: a6 :: a7 :: a8 :: a9 :: a10 :: none :: σ) H) : gDel 11 (a0 :: a1 :: a2 :: a3 :: a4 :: a5 :: a6 :: a7 :: a8 :: a9 :: a10 :: x :: σ) H k := h
theorem x_ml11 {a0 a1 a2 a3 a4 a5 a6 a7 a8 a9 a10 : Option V} {σ : L2.St} (h : tMake C sp [] E tl (a0 :: a1 :: a2 :: a3 :: a4 :: a5 :: a6 :: a7 :: a8 :: a9 :: a10 :: some (.ref C) :: σ) H Q) : eMakeL 11 C sp [] E tl (a0 :: a1 :: a2 :: a3 :: a4 :: a5 :: a6 :: a7 :: a8 :: a9 :: a10 :: some (.ref C) :: σ) H Q := ⟨rfl, h⟩
theorem x_au11 {te : TE} {ti : TIp} {a0 a1 a2 a3 a4 a5 a6 a7 a8 a9 a10 : Option V} {σ : L2.St} (h : te (a0 :: a1 :: a2 :: a3 :: a4 :: a5 :: a6 :: a7 :: a8 :: a9 :: a10 :: some x :: σ) H fun y H1 => ti x y H1 fun z H2 => nx (a0 :: a1 :: a2 :: a3 :: a4 :: a5 :: a6 :: a7 :: a8 :: a9 :: a10 :: some z :: σ) H2) : tAug 11 te ti ⟨nx, rt, bk, ct⟩ (a0 :: a1 :: a2 :: a3 :: a4 :: a5 :: a6 :: a7 :: a8 :: a9 :: a10 :: some x :: σ) H := ⟨x, rfl, h⟩
theorem x_v12 {a0 a1 a2 a3 a4 a5 a6 a7 a8 a9 a10 a11 : Option V} {σ : L2.St} (h : Q v H) : tVar 12 (a0 :: a1 :: a2 :: a3 :: a4 :: a5 :: a6 :: a7 :: a8 :: a9 :: a10 :: a11 :: some v :: σ) H Q := ⟨v, rfl, h⟩
theorem x_g12 {a0 a1 a2 a3 a4 a5 a6 a7 a8 a9 a10 a11 : Option V} {x : Option V} {σ : L2.St} (h : QS (a0 :: a1 :: a2 :: a3 :: a4 :: a5 :: a6 :: a7 :: a8 :: a9 :: a10 :: a11 :: some v :: σ) H) : gName 12 v (a0 :: a1 :: a2 :: a3 :: a4 :: a5 :: a6 :: a7 :: a8 :: a9 :: a10 :: a11 :: x :: σ) H QS := h
theorem x_d12 {a0 a1 a2 a3 a4 a5 a6 a7 a8 a9 a10 a11 : Option V} {x : Option V} {σ : L2.St} {k : K0} (h : k (a0 :: a1 :: a2 :: a3 :: a4 :: a5 :: a6 :: a7 :: a8 :: a9 :: a10 :: a11 :: none :: σ) H) : gDel 12 (a0 :: a1 :: a2 :: a3 :: a4 :: a5 :: a6 :: a7 :: a8 :: a9 :: a10 :: a11 :: x :: σ) H k := h
theorem x_ml12 {a0 a1 a2 a3 a4 a5 a6 a7 a8 a9 a10 a11 : Option V} {σ : L2.St} (h : tMake C sp [] E tl (a0 :: a1 :: a2 :: a3 :: a4 :: a5 :: a6 :: a7 :: a8 :: a9 :: a10 :: a11 :: some (.ref C) :: σ) H Q) : eMakeL 12 C sp [] E tl (a0 :: a1 :: a2 :: a3 :: a4 :: a5 :: a6 :: a7 :: a8 :: a9 :: a10 :: a11 :: some (.ref C) :: σ) H Q := ⟨rfl, h⟩
theorem x_au12 {te : TE} {ti : TIp} {a0 a1 a2 a3 a4 a5 a6 a7 a8 a9 a10 a11 : Option V} {σ : L2.St} (h : te (a0 :: a1 :: a2 :: a3 :: a4 :: a5 :: a6 :: a7 :: a8 :: a9 :: a10 :: a11 :: some x :: σ) H fun y H1 => ti x y H1 fun z H2 => nx (a0 :: a1 :: a2 :: a3 :: a4 :: a5 :: a6 :: a7 :: a8 :: a9 :: a10 :: a11 :: some z :: σ) H2) : tAug 12 te ti ⟨nx, rt, bk, ct⟩ (a0 :: a1 :: a2 :: a3 :: a4 :: a5 :: a6 :: a7 :: a8 :: a9 :: a10 :: a11 :: some x :: σ) H := ⟨x, rfl, h⟩
theorem x_v13 {a0 a1 a2 a3 a4 a5 a6 a7 a8 a9 a10 a11 a12 : Option V} {σ : L2.St} (h : Q v H) : tVar 13 (a0 :: a1 :: a2 :: a3 :: a4 :: a5 :: a6 :: a7 :: a8 :: a9 :: a10 :: a11 :: a12 :: some v :: σ) H Q := ⟨v, rfl, h⟩
theorem x_g13 {a0 a1 a2 a3 a4 a5 a6 a7 a8 a9 a10 a11 a12 : Option V} {x : Option V} {σ : L2.St} (h : QS (a0 :: a1 :: a2 :: a3 :: a4 :: a5 :: a6 :: a7 :: a8 :: a9 :: a10 :: a11 :: a12 :: some v :: σ) H) : gName 13 v (a0 :: a1 :: a2 :: a3 :: a4 :: a5 :: a6 :: a7 :: a8 :: a9 :: a10 :: a11 :: a12 :: x :: σ) H QS := h
theorem x_d13 {a0 a1 a2 a3 a4 a5 a6 a7 a8 a9 a10 a11 a12 : Option V} {x : Option V} {σ : L2.St} {k : K0} (h : k (a0 :: a1 :: a2 :: a3 :: a4 :: a5 :: a6 :: a7 :: a8 :: a9 :: a10 :: a11 :: a12 :: none :: σ) H) : gDel 13 (a0 :: a1 :: a2 :: a3 :: a4 :: a5 :: a6 :: a7 :: a8 :: a9 :: a10 :: a11 :: a12 :: x :: σ) H k := h
theorem x_ml13 {a0 a1 a2 a3 a4 a5 a6 a7 a8 a9 a10 a11 a12 : Option V} {σ : L2.St} (h : tMake C sp [] E tl (a0 :: a1 :: a2 :: a3 :: a4 :: a5 :: a6 :: a7 :: a8 :: a9 :: a10 :: a11 :: a12 :: some (.ref C) :: σ) H Q) : eMakeL 13 C sp [] E tl (a0 :: a1 :: a2 :: a3 :: a4 :: a5 :: a6 :: a7 :: a8 :: a9 :: a10 :: a11 :: a12 :: some (.ref C) :: σ) H Q := ⟨rfl, h⟩
theorem x_au13 {te : TE} {ti : TIp} {a0 a1 a2 a3 a4 a5 a6 a7 a8 a9 a10 a11 a12 : Option V} {σ : L2.St} (h : te (a0 :: a1 :: a2 :: a3 :: a4 :: a5 :: a6 :: a7 :: a8 :: a9 :: a10 :: a11 :: a12 :: some x :: σ) H fun y H1 => ti x y H1 fun z H2 => nx (a0 :: a1 :: a2 :: a3 :: a4 :: a5 :: a6 :: a7 :: a8 :: a9 :: a10 :: a11 :: a12 :: some z :: σ) H2) : tAug 13 te ti ⟨nx, rt, bk, ct⟩ (a0 :: a1 :: a2 :: a3 :: a4 :: a5 :: a6 :: a7 :: a8 :: a9 :: a10 :: a11 :: a12 :: some x :: σ) H := ⟨x, rfl, h⟩
theorem x_v14 {a0 a1 a2 a3 a4 a5 a6 a7 a8 a9 a10 a11 a12 a13 : Option V} {σ : L2.St} (h : Q v H) : tVar 14 (a0 :: a1 :: a2 :: a3 :: a4 :: a5 :: a6 :: a7 :: a8 :: a9 :: a10 :: a11 :: a12 :: a13 :: some v :: σ) H Q := ⟨v, rfl, h⟩
theorem x_g14 {a0 a1 a2 a3 a4 a5 a6 a7 a8 a9 a10 a11 a12 a13 : Option V} {x : Option V} {σ : L2.St} (h : QS (a0 :: a1 :: a2 :: a3 :: a4 :: a5 :: a6 :: a7 :: a8 :: a9 :: a10 :: a11 :: a12 :: a13 :: some v :: σ) H) : gName 14 v (a0 :: a1 :: a2 :: a3 :: a4 :: a5 :: a6 :: a7 :: a8 :: a9 :: a10 :: a11 :: a12 :: a13 :: x :: σ) H QS := h
theorem x_d14 {a0 a1 a2 a3 a4 a5 a6 a7 a8 a9 a10 a11 a12 a13 : Option V} {x : Option V} {σ : L2.St} {k : K0} (h : k (a0 :: a1 :: a2 :: a3 :: a4 :: a5 :: a6 :: a7 :: a8 :: a9 :: a10 :: a11 :: a12 :: a13 :: none :: σ) H) : gDel 14 (a0 :: a1 :: a2 :: a3 :: a4 :: a5 :: a6 :: a7 :: a8 :: a9 :: a10 :: a11 :: a12 :: a13 :: x :: σ) H k := h
theorem x_ml14 {a0 a1 a2 a3 a4 a5 a6 a7 a8 a9 a10 a11 a12 a13 : Option V} {σ : L2.St} (h : tMake C sp [] E tl (a0 :: a1 :: a2 :: a3 :: a4 :: a5 :: a6 :: a7 :: a8 :: a9 :: a10 :: a11 :: a12 :: a13 :: some (.ref C) :: σ) H Q) : eMakeL 14 C sp [] E tl (a0 :: a1 :: a2 :: a3 :: a4 :: a5 :: a6 :: a7 :: a8 :: a9 :: a10 :: a11 :: a12 :: a13 :: some (.ref C) :: σ) H Q := ⟨rfl, h⟩
theorem x_au14 {te : TE} {ti : TIp} {a0 a1 a2 a3 a4 a5 a6 a7 a8 a9 a10 a11 a12 a13 : Option V} {σ : L2.St} (h : te (a0 :: a1 :: a2 :: a3 :: a4 :: a5 :: a6 :: a7 :: a8 :: a9 :: a10 :: a11 :: a12 :: a13 :: some x :: σ) H fun y H1 => ti x y H1 fun z H2 => nx (a0 :: a1 :: a2 :: a3 :: a4 :: a5 :: a6 :: a7 :: a8 :: a9 :: a10 :: a11 :: a12 :: a13 :: some z :: σ) H2) : tAug 14 te ti ⟨nx, rt, bk, ct⟩ (a0 :: a1 :: a2 :: a3 :: a4 :: a5 :: a6 :: a7 :: a8 :: a9 :: a10 :: a11 :: a12 :: a13 :: some x :: σ) H := ⟨x, rfl, h⟩
theorem x_v15 {a0 a1 a2 a3 a4 a5 a6 a7 a8 a9 a10 a11 a12 a13 a14 : Option V} {σ : L2.St} (h : Q v H) : tVar 15 (a0 :: a1 :: a2 :: a3 :: a4 :: a5 :: a6 :: a7 :: a8 :: a9 :: a10 :: a11 :: a12 :: a13 :: a14 :: some v :: σ) H Q := ⟨v, rfl, h⟩
theorem x_g15 {a0 a1 a2 a3 a4 a5 a6 a7 a8 a9 a10 a11 a12 a13 a14 : Option V} {x : Option V} {σ : L2.St} (h : QS (a0 :: a1 :: a2 :: a3 :: a4 :: a5 :: a6 :: a7 :: a8 :: a9 :: a10 :: a11 :: a12 :: a13 :: a14 :: some v :: σ) H) : gName 15 v (a0 :: a1 :: a2 :: a3 :: a4 :: a5 :: a6 :: a7 :: a8 :: a9 :: a10 :: a11 :: a12 :: a13 :: a14 :: x :: σ) H QS := h
theorem x_d15 {a0 a1 a2 a3 a4 a5 a6 a7 a8 a9 a10 a11 a12 a13 a14 : Option V} {x : Option V} {σ : L2.St} {k : K0} (h : k (a0 :: a1 :: a2 :: a3 :: a4 :: a5 :: a6 :: a7 :: a8 :: a9 :: a10 :: a11 :: a12 :: a13 :: a14 :: none :: σ) H) : gDel 15 (a0 :: a1 :: a2 :: a3 :: a4 :: a5 :: a6 :: a7 :: a8 :: a9 :: a10 :: a11 :: a12 :: a13 :: a14 :: x :: σ) H k := h
theorem x_ml15 {a0 a1 a2 a3 a4 a5 a6 a7 a8 a9 a10 a11 a12 a13 a14 : Option V} {σ : L2.St} (h : tMake C sp [] E tl (a0 :: a1 :: a2 :: a3 :: a4 :: a5 :: a6 :: a7 :: a8 :: a9 :: a10 :: a11 :: a12 :: a13 :: a14 :: some (.ref C) :: σ) H Q) : eMakeL 15 C sp [] E tl (a0 :: a1 :: a2 :: a3 :: a4 :: a5 :: a6 :: a7 :: a8 :: a9 :: a10 :: a11 :: a12 :: a13 :: a14 :: some (.ref C) :: σ) H Q := ⟨rfl, h⟩
theorem x_au15 {te : TE} {ti : TIp} {a0 a1 a2 a3 a4 a5 a6 a7 a8 a9 a10 a11 a12 a13 a14 : Option V} {σ : L2.St} (h : te (a0 :: a1 :: a2 :: a3 :: a4 :: a5 :: a6 :: a7 :: a8 :: a9 :: a10 :: a11 :: a12 :: a13 :: a14 :: some x :: σ) H fun y H1 => ti x y H1 fun z H2 => nx (a0 :: a1 :: a2 :: a3 :: a4 :: a5 :: a6 :: a7 :: a8 :: a9 :: a10 :: a11 :: a12 :: a13 :: a14 :: some z :: σ) H2) : tAug 15 te ti ⟨nx, rt, bk, ct⟩ (a0 :: a1 :: a2 :: a3 :: a4 :: a5 :: a6 :: a7 :: a8 :: a9 :: a10 :: a11 :: a12 :: a13 :: a14 :: some x :: σ) H := ⟨x, rfl, h⟩
theorem x_v16 {a0 a1 a2 a3 a4 a5 a6 a7 a8 a9 a10 a11 a12 a13 a14 a15 : Option V} {σ : L2.St} (h : Q v H) : tVar 16 (a0 :: a1 :: a2 :: a3 :: a4 :: a5 :: a6 :: a7 :: a8 :: a9 :: a10 :: a11 :: a12 :: a13 :: a14 :: a15 :: some v :: σ) H Q := ⟨v, rfl, h⟩
theorem x_g16 {a0 a1 a2 a3 a4 a5 a6 a7 a8 a9 a10 a11 a12 a13 a14 a15 : Option V} {x : Option V} {σ : L2.St} (h : QS (a0 :: a1 :: a2 :: a3 :: a4 :: a5 :: a6 :: a7 :: a8 :: a9 :: a10 :: a11 :: a12 :: a13 :: a14 :: a15 :: some v :: σ) H) : gName 16 v (a0 :: a1 :: a2 :: a3 :: a4 :: a5 :: a6 :: a7 :: a8 :: a9 :: a10 :: a11 :: a12 :: a13 :: a14 :: a15 :: x :: σ) H QS := h
theorem x_d16 {a0 a1 a2 a3 a4 a5 a6 a7 a8 a9 a10 a11 a12 a13 a14 a15 : Option V} {x : Option V} {σ : L2.St} {k : K0} (h : k (a0 :: a1 :: a2 :: a3 :: a4 :: a5 :: a6 :: a7 :: a8 :: a9 :: a10 :: a11 :: a12 :: a13 :: a14 :: a15 :: none :: σ) H) : gDel 16 (a0 :: a1 :: a2 :: a3 :: a4 :: a5 :: a6 :: a7 :: a8 :: a9 :: a10 :: a11 :: a12 :: a13 :: a14 :: a15 :: x :: σ) H k := h
theorem x_ml16 {a0 a1 a2 a3 a4 a5 a6 a7 a8 a9 a10 a11 a12 a13 a14 a15 : Option V} {σ : L2.St} (h : tMake C sp [] E tl (a0 :: a1 :: a2 :: a3 :: a4 :: a5 :: a6 :: a7 :: a8 :: a9 :: a10 :: a11 :: a12 :: a13 :: a14 :: a15 :: some (.ref C) :: σ) H Q) : eMakeL 16 C sp [] E tl (a0 :: a1 :: a2 :: a3 :: a4 :: a5 :: a6 :: a7 :: a8 :: a9 :: a10 :: a11 :: a12 :: a13 :: a14 :: a15 :: some (.ref C) :: σ) H Q := ⟨rfl, h⟩
theorem x_au16 {te : TE} {ti : TIp} {a0 a1 a2 a3 a4 a5 a6 a7 a8 a9 a10 a11 a12 a13 a14 a15 : Option V} {σ : L2.St} (h : te (a0 :: a1 :: a2 :: a3 :: a4 :: a5 :: a6 :: a7 :: a8 :: a9 :: a10 :: a11 :: a12 :: a13 :: a14 :: a15 :: some x :: σ) H fun y H1 => ti x y H1 fun z H2 => nx (a0 :: a1 :: a2 :: a3 :: a4 :: a5 :: a6 :: a7 :: a8 :: a9 :: a10 :: a11 :: a12 :: a13 :: a14 :: a15 :: some z :: σ) H2) : tAug 16 te ti ⟨nx, rt, bk, ct⟩ (a0 :: a1 :: a2 :: a3 :: a4 :: a5 :: a6 :: a7 :: a8 :: a9 :: a10 :: a11 :: a12 :: a13 :: a14 :: a15 :: some x :: σ) H := ⟨x, rfl, h⟩
theorem x_v17 {a0 a1 a2 a3 a4 a5 a6 a7 a8 a9 a10 a11 a12 a13 a14 a15 a16 : Option V} {σ : L2.St} (h : Q v H) : tVar 17 (a0 :: a1 :: a2 :: a3 :: a4 :: a5 :: a6 :: a7 :: a8 :: a9 :: a10 :: a11 :: a12 :: a13 :: a14 :: a15 :: a16 :: some v :: σ) H Q := ⟨v, rfl, h⟩
theorem x_g17 {a0 a1 a2 a3 a4 a5 a6 a7 a8 a9 a10 a11 a12 a13 a14 a15 a16 : Option V} {x : Option V} {σ : L2.St} (h : QS (a0 :: a1 :: a2 :: a3 :: a4 :: a5 :: a6 :: a7 :: a8 :: a9 :: a10 :: a11 :: a12 :: a13 :: a14 :: a15 :: a16 :: some v :: σ) H) : gName 17 v (a0 :: a1 :: a2 :: a3 :: a4 :: a5 :: a6 :: a7 :: a8 :: a9 :: a10 :: a11 :: a12 :: a13 :: a14 :: a15 :: a16 :: x :: σ) H QS := h
theorem x_d17 {a0 a1 a2 a3 a4 a5 a6 a7 a8 a9 a10 a11 a12 a13 a14 a15 a16 : Option V} {x : Option V} {σ : L2.St} {k : K0} (h : k (a0 :: a1 :: a2 :: a3 :: a4 :: a5 :: a6 :: a7 :: a8 :: a9 :: a10 :: a11 :: a12 :: a13 :: a14 :: a15 :: a16 :: none :: σ) H) : gDel 17 (a0 :: a1 :: a2 :: a3 :: a4 :: a5 :: a6 :: a7 :: a8 :: a9 :: a10 :: a11 :: a12 :: a13 :: a14 :: a15 :: a16 :: x :: σ) H k := h
theorem x_ml17 {a0 a1 a2 a3 a4 a5 a6 a7 a8 a9 a10 a11 a12 a13 a14 a15 a16 : Option V} {σ : L2.St} (h : tMake C sp [] E tl (a0 :: a1 :: a2 :: a3 :: a4 :: a5 :: a6 :: a7 :: a8 :: a9 :: a10 :: a11 :: a12 :: a13 :: a14 :: a15 :: a16 :: some (.ref C) :: σ) H Q) : eMakeL 17 C sp [] E tl (a0 :: a1 :: a2 :: a3 :: a4 :: a5 :: a6 :: a7 :: a8 :: a9 :: a10 :: a11 :: a12 :: a13 :: a14 :: a15 :: a16 :: some (.ref C) :: σ) H Q := ⟨rfl, h⟩
theorem x_au17 {te : TE} {ti : TIp} {a0 a1 a2 a3 a4 a5 a6 a7 a8 a9 a10 a11 a12 a13 a14 a15 a16 : Option V} {σ : L2.St} (h : te (a0 :: a1 :: a2 :: a3 :: a4 :: a5 :: a6 :: a7 :: a8 :: a9 :: a10 :: a11 :: a12 :: a13 :: a14 :: a15 :: a16 :: some x :: σ) H fun y H1 => ti x y H1 fun z H2 => nx (a0 :: a1 :: a2 :: a3 :: a4 :: a5 :: a6 :: a7 :: a8 :: a9 :: a10 :: a11 :: a12 :: a13 :: a14 :: a15 :: a16 :: some z :: σ) H2) : tAug 17 te ti ⟨nx, rt, bk, ct⟩ (a0 :: a1 :: a2 :: a3 :: a4 :: a5 :: a6 :: a7 :: a8 :: a9 :: a10 :: a11 :: a12 :: a13 :: a14 :: a15 :: a16 :: some x :: σ) H := ⟨x, rfl, h⟩
theorem x_v18 {a0 a1 a2 a3 a4 a5 a6 a7 a8 a9 a10 a11 a12 a13 a14 a15 a16 a17 : Option V} {σ : L2.St} (h : Q v H) : tVar 18 (a0 :: a1 :: a2 :: a3 :: a4 :: a5 :: a6 :: a7 :: a8 :: a9 :: a10 :: a11 :: a12 :: a13 :: a14 :: a15 :: a16 :: a17 :: some v :: σ) H Q := ⟨v, rfl, h⟩
theorem x_g18 {a0 a1 a2 a3 a4 a5 a6 a7 a8 a9 a10 a11 a12 a13 a14 a15 a16 a17 : Option V} {x : Option V} {σ : L2.St} (h : QS (a0 :: a1 :: a2 :: a3 :: a4 :: a5 :: a6 :: a7 :: a8 :: a9 :: a10 :: a11 :: a12 :: a13 :: a14 :: a15 :: a16 :: a17 :: some v :: σ) H) : gName 18 v (a0 :: a1 :: a2 :: a3 :: a4 :: a5 :: a6 :: a7 :: a8 :: a9 :: a10 :: a11 :: a12 :: a13 :: a14 :: a15 :: a16 :: a17 :: x :: σ) H QS := h
theorem x_d18 {a0 a1 a2 a3 a4 a5 a6 a7 a8 a9 a10 a11 a12 a13 a14 a15 a16 a17 : Option V} {x : Option V} {σ : L2.St} {k : K0} (h : k (a0 :: a1 :: a2 :: a3 :: a4 :: a5 :: a6 :: a7 :: a8 :: a9 :: a10 :: a11 :: a12 :: a13 :: a14 :: a15 :: a16 :: a17 :: none :: σ) H) : gDel 18 (a0 :: a1 :: a2 :: a3 :: a4 :: a5 :: a6 :: a7 :: a8 :: a9 :: a10 :: a11 :: a12 :: a13 :: a14 :: a15 :: a16 :: a17 :: x :: σ) H k := h
theorem x_ml18 {a0 a1 a2 a3 a4 a5 a6 a7 a8 a9 a10 a11 a12 a13 a14 a15 a16 a17 : Option V} {σ : L2.St} (h : tMake C sp [] E tl (a0 :: a1 :: a2 :: a3 :: a4 :: a5 :: a6 :: a7 :: a8 :: a9 :: a10 :: a11 :: a12 :: a13 :: a14 :: a15 :: a16 :: a17 :: some (.ref C) :: σ) H Q) : eMakeL 18 C sp [] E tl (a0 :: a1 :: a2 :: a3 :: a4 :: a5 :: a6 :: a7 :: a8 :: a9 :: a10 :: a11 :: a12 :: a13 :: a14 :: a15 :: a16 :: a17 :: some (.ref C) :: σ) H Q := ⟨rfl, h⟩
theorem x_au18 {te : TE} {ti : TIp} {a0 a1 a2 a3 a4 a5 a6 a7 a8 a9 a10 a11 a12 a13 a14 a15 a16 a17 : Option V} {σ : L2.St} (h : te (a0 :: a1 :: a2 :: a3 :: a4 :: a5 :: a6 :: a7 :: a8 :: a9 :: a10 :: a11 :: a12 :: a13 :: a14 :: a15 :: a16 :: a17 :: some x :: σ) H fun y H1 => ti x y H1 fun z H2 => nx (a0 :: a1 :: a2 :: a3 :: a4 :: a5 :: a6 :: a7 :: a8 :: a9 :: a10 :: a11 :: a12 :: a13 :: a14 :: a15 :: a16 :: a17 :: some z :: σ) H2) : tAug 18 te ti ⟨nx, rt, bk, ct⟩ (a0 :: a1 :: a2 :: a3 :: a4 :: a5 :: a6 :: a7 :: a8 :: a9 :: a10 :: a11 :: a12 :: a13 :: a14 :: a15 :: a16 :: a17 :: some x :: σ) H := ⟨x, rfl, h⟩
theorem x_v19 {a0 a1 a2 a3 a4 a5 a6 a7 a8 a9 a10 a11 a12 a13 a14 a15 a16 a17 a18 : Option V} {σ : L2.St} (h : Q v H) : tVar 19 (a0 :: a1 :: a2 :: a3 :: a4 :: a5 :: a6 :: a7 :: a8 :: a9 :: a10 :: a11 :: a12 :: a13 :: a14 :: a15 :: a16 :: a17 :: a18 :: some v :: σ) H Q := ⟨v, rfl, h⟩
theorem x_g19 {a0 a1 a2 a3 a4 a5 a6 a7 a8 a9 a10 a11 a12 a13 a14 a15 a16 a17 a18 : Option V} {x : Option V} {σ : L2.St} (h : QS (a0 :: a1 :: a2 :: a3 :: a4 :: a5 :: a6 :: a7 :: a8 :: a9 :: a10 :: a11 :: a12 :: a13 :: a14 :: a15 :: a16 :: a17 :: a18 :: some v :: σ) H) : gName 19 v (a0 :: a1 :: a2 :: a3 :: a4 :: a5 :: a6 :: a7 :: a8 :: a9 :: a10 :: a11 :: a12 :: a13 :: a14 :: a15 :: a16 :: a17 :: a18 :: x :: σ) H QS := h
theorem x_d19 {a0 a1 a2 a3 a4 a5 a6 a7 a8 a9 a10 a11 a12 a13 a14 a15 a16 a17 a18 : Option V} {x : Option V} {σ : L2.St} {k : K0} (h : k (a0 :: a1 :: a2 :: a3 :: a4 :: a5 :: a6 :: a7 :: a8 :: a9 :: a10 :: a11 :: a12 :: a13 :: a14 :: a15 :: a16 :: a17 :: a18 :: none :: σ) H) : gDel 19 (a0 :: a1 :: a2 :: a3 :: a4 :: a5 :: a6 :: a7 :: a8 :: a9 :: a10 :: a11 :: a12 :: a13 :: a14 :: a15 :: a16 :: a17 :: a18 :: x :: σ) H k := h
theorem x_ml19 {a0 a1 a2 a3 a4 a5 a6 a7 a8 a9 a10 a11 a12 a13 a14 a15 a16 a17 a18 : Option V} {σ : L2.St} (h : tMake C sp [] E tl (a0 :: a1 :: a2 :: a3 :: a4 :: a5 :: a6 :: a7 :: a8 :: a9 :: a10 :: a11 :: a12 :: a13 :: a14 :: a15 :: a16 :: a17 :: a18 :: some (.ref C) :: σ) H Q) : eMakeL 19 C sp [] E tl (a0 :: a1 :: a2 :: a3 :: a4 :: a5 :: a6 :: a7 :: a8 :: a9 :: a10 :: a11 :: a12 :: a13 :: a14 :: a15 :: a16 :: a17 :: a18 :: some (.ref C) :: σ) H Q := ⟨rfl, h⟩
theorem x_au19 {te : TE} {ti : TIp} {a0 a1 a2 a3 a4 a5 a6 a7 a8 a9 a10 a11 a12 a13 a14 a15 a16 a17 a18 : Option V} {σ : L2.St} (h : te (a0 :: a1 :: a2 :: a3 :: a4 :: a5 :: a6 :: a7 :: a8 :: a9 :: a10 :: a11 :: a12 :: a13 :: a14 :: a15 :: a16 :: a17 :: a18 :: some x :: σ) H fun y H1 => ti x y H1 fun z H2 => nx (a0 :: a1 :: a2 :: a3 :: a4 :: a5 :: a6 :: a7 :: a8 :: a9 :: a10 :: a11 :: a12 :: a13 :: a14 :: a15 :: a16 :: a17 :: a18 :: some z :: σ) H2) : tAug 19 te ti ⟨nx, rt, bk, ct⟩ (a0 :: a1 :: a2 :: a3 :: a4 :: a5 :: a6 :: a7 :: a8 :: a9 :: a10 :: a11 :: a12 :: a13 :: a14 :: a15 :: a16 :: a17 :: a18 :: some x :: σ) H := ⟨x, rfl, h⟩
theorem x_v20 {a0 a1 a2 a3 a4 a5 a6 a7 a8 a9 a10 a11 a12 a13 a14 a15 a16 a17 a18 a19 : Option V} {σ : L2.St} (h : Q v H) : tVar 20 (a0 :: a1 :: a2 :: a3 :: a4 :: a5 :: a6 :: a7 :: a8 :: a9 :: a10 :: a11 :: a12 :: a13 :: a14 :: a15 :: a16 :: a17 :: a18 :: a19 :: some v :: σ) H Q := ⟨v, rfl, h⟩
theorem x_g20 {a0 a1 a2 a3 a4 a5 a6 a7 a8 a9 a10 a11 a12 a13 a14 a15 a16 a17 a18 a19 : Option V} {x : Option V} {σ : L2.St} (h : QS (a0 :: a1 :: a2 :: a3 :: a4 :: a5 :: a6 :: a7 :: a8 :: a9 :: a10 :: a11 :: a12 :: a13 :: a14 :: a15 :: a16 :: a17 :: a18 :: a19 :: some v :: σ) H) : gName 20 v (a0 :: a1 :: a2 :: a3 :: a4 :: a5 :: a6 :: a7 :: a8 :: a9 :: a10 :: a11 :: a12 :: a13 :: a14 :: a15 :: a16 :: a17 :: a18 :: a19 :: x :: σ) H QS := h
theorem x_d20 {a0 a1 a2 a3 a4 a5 a6 a7 a8 a9 a10 a11 a12 a13 a14 a15 a16 a17 a18 a19 : Option V} {x : Option V} {σ : L2.St} {k : K0} (h : k (a0 :: a1 :: a2 :: a3 :: a4 :: a5 :: a6 :: a7 :: a8 :: a9 :: a10 :: a11 :: a12 :: a13 :: a14 :: a15 :: a16 :: a17 :: a18 :: a19 :: none :: σ) H) : gDel 20 (a0 :: a1 :: a2 :: a3 :: a4 :: a5 :: a6 :: a7 :: a8 :: a9 :: a10 :: a11 :: a12 :: a13 :: a14 :: a15 :: a16 :: a17 :: a18 :: a19 :: x :: σ) H k := h
theorem x_ml20 {a0 a1 a2 a3 a4 a5 a6 a7 a8 a9 a10 a11 a12 a13 a14 a15 a16 a17 a18 a19 : Option V} {σ : L2.St} (h : tMake C sp [] E tl (a0 :: a1 :: a2 :: a3 :: a4 :: a5 :: a6 :: a7 :: a8 :: a9 :: a10 :: a11 :: a12 :: a13 :: a14 :: a15 :: a16 :: a17 :: a18 :: a19 :: some (.ref C) :: σ) H Q) : eMakeL 20 C sp [] E tl (a0 :: a1 :: a2 :: a3 :: a4 :: a5 :: a6 :: a7 :: a8 :: a9 :: a10 :: a11 :: a12 :: a13 :: a14 :: a15 :: a16 :: a17 :: a18 :: a19 :: some (.ref C) :: σ) H Q := ⟨rfl, h⟩
theorem x_au20 {te : TE} {ti : TIp} {a0 a1 a2 a3 a4 a5 a6 a7 a8 a9 a10 a11 a12 a13 a14 a15 a16 a17 a18 a19 : Option V} {σ : L2.St} (h : te (a0 :: a1 :: a2 :: a3 :: a4 :: a5 :: a6 :: a7 :: a8 :: a9 :: a10 :: a11 :: a12 :: a13 :: a14 :: a15 :: a16 :: a17 :: a18 :: a19 :: some x :: σ) H fun y H1 => ti x y H1 fun z H2 => nx (a0 :: a1 :: a2 :: a3 :: a4 :: a5 :: a6 :: a7 :: a8 :: a9 :: a10 :: a11 :: a12 :: a13 :: a14 :: a15 :: a16 :: a17 :: a18 :: a19 :: some z :: σ) H2) : tAug 20 te ti ⟨nx, rt, bk, ct⟩ (a0 :: a1 :: a2 :: a3 :: a4 :: a5 :: a6 :: a7 :: a8 :: a9 :: a10 :: a11 :: a12 :: a13 :: a14 :: a15 :: a16 :: a17 :: a18 :: a19 :: some x :: σ) H := ⟨x, rfl, h⟩
theorem x_v21 {a0 a1 a2 a3 a4 a5 a6 a7 a8 a9 a10 a11 a12 a13 a14 a15 a16 a17 a18 a19 a20 : Option V} {σ : L2.St} (h : Q v H) : tVar 21 (a0 :: a1 :: a2 :: a3 :: a4 :: a5 :: a6 :: a7 :: a8 :: a9 :: a10 :: a11 :: a12 :: a13 :: a14 :: a15 :: a16 :: a17 :: a18 :: a19 :: a20 :: some v :: σ) H Q := ⟨v, rfl, h⟩
theorem x_g21 {a0 a1 a2 a3 a4 a5 a6 a7 a8 a9 a10 a11 a12 a13 a14 a15 a16 a17 a18 a19 a20 : Option V} {x : Option V} {σ : L2.St} (h : QS (a0 :: a1 :: a2 :: a3 :: a4 :: a5 :: a6 :: a7 :: a8 :: a9 :: a10 :: a11 :: a12 :: a13 :: a14 :: a15 :: a16 :: a17 :: a18 :: a19 :: a20 :: some v :: σ) H) : gName 21 v (a0 :: a1 :: a2 :: a3 :: a4 :: a5 :: a6 :: a7 :: a8 :: a9 :: a10 :: a11 :: a12 :: a13 :: a14 :: a15 :: a16 :: a17 :: a18 :: a19 :: a20 :: x :: σ) H QS := h
theorem x_d21 {a0 a1 a2 a3 a4 a5 a6 a7 a8 a9 a10 a11 a12 a13 a14 a15 a16 a17 a18 a19 a20 : Option V} {x : Option V} {σ : L2.St} {k : K0} (h : k (a0 :: a1 :: a2 :: a3 :: a4 :: a5 :: a6 :: a7 :: a8 :: a9 :: a10 :: a11 :: a12 :: a13 :: a14 :: a15 :: a16 :: a17 :: a18 :: a19 :: a20 :: none :: σ) H) : gDel 21 (a0 :: a1 :: a2 :: a3 :: a4 :: a5 :: a6 :: a7 :: a8 :: a9 :: a10 :: a11 :: a12 :: a13 :: a14 :: a15 :: a16 :: a17 :: a18 :: a19 :: a20 :: x :: σ) H k := h
theorem x_ml21 {a0 a1 a2 a3 a4 a5 a6 a7 a8 a9 a10 a11 a12 a13 a14 a15 a16 a17 a18 a19 a20 : Option V} {σ : L2.St} (h : tMake C sp [] E tl (a0 :: a1 :: a2 :: a3 :: a4 :: a5 :: a6 :: a7 :: a8 :: a9 :: a10 :: a11 :: a12 :: a13 :: a14 :: a15 :: a16 :: a17 :: a18 :: a19 :: a20 :: some (.ref C) :: σ) H Q) : eMakeL 21 C sp [] E tl (a0 :: a1 :: a2 :: a3 :: a4 :: a5 :: a6 :: a7 :: a8 :: a9 :: a10 :: a11 :: a12 :: a13 :: a14 :: a15 :: a16 :: a17 :: a18 :: a19 :: a20 :: some (.ref C) :: σ) H Q := ⟨rfl, h⟩
theorem x_au21 {te : TE} {ti : TIp} {a0 a1 a2 a3 a4 a5 a6 a7 a8 a9 a10 a11 a12 a13 a14 a15 a16 a17 a18 a19 a20 : Option V} {σ : L2.St} (h : te (a0 :: a1 :: a2 :: a3 :: a4 :: a5 :: a6 :: a7 :: a8 :: a9 :: a10 :: a11 :: a12 :: a13 :: a14 :: a15 :: a16 :: a17 :: a18 :: a19 :: a20 :: some x :: σ) H fun y H1 => ti x y H1 fun z H2 => nx (a0 :: a1 :: a2 :: a3 :: a4 :: a5 :: a6 :: a7 :: a8 :: a9 :: a10 :: a11 :: a12 :: a13 :: a14 :: a15 :: a16 :: a17 :: a18 :: a19 :: a20 :: some z :: σ) H2) : tAug 21 te ti ⟨nx, rt, bk, ct⟩ (a0 :: a1 :: a2 :: a3 :: a4 :: a5 :: a6 :: a7 :: a8 :: a9 :: a10 :: a11 :: a12 :: a13 :: a14 :: a15 :: a16 :: a17 :: a18 :: a19 :: a20 :: some x :: σ) H := ⟨x, rfl, h⟩
theorem x_v22 {a0 a1 a2 a3 a4 a5 a6 a7 a8 a9 a10 a11 a12 a13 a14 a15 a16 a17 a18 a19 a20 a21 : Option V} {σ : L2.St} (h : Q v H) : tVar 22 (a0 :: a1 :: a2 :: a3 :: a4 :: a5 :: a6 :: a7 :: a8 :: a9 :: a10 :: a11 :: a12 :: a13 :: a14 :: a15 :: a16 :: a17 :: a18 :: a19 :: a20 :: a21 :: some v :: σ) H Q := ⟨v, rfl, h⟩
theorem x_g22 {a0 a1 a2 a3 a4 a5 a6 a7 a8 a9 a10 a11 a12 a13 a14 a15 a16 a17 a18 a19 a20 a21 : Option V} {x : Option V} {σ : L2.St} (h : QS (a0 :: a1 :: a2 :: a3 :: a4 :: a5 :: a6 :: a7 :: a8 :: a9 :: a10 :: a11 :: a12 :: a13 :: a14 :: a15 :: a16 :: a17 :: a18 :: a19 :: a20 :: a21 :: some v :: σ) H) : gName 22 v (a0 :: a1 :: a2 :: a3 :: a4 :: a5 :: a6 :: a7 :: a8 :: a9 :: a10 :: a11 :: a12 :: a13 :: a14 :: a15 :: a16 :: a17 :: a18 :: a19 :: a20 :: a21 :: x :: σ) H QS := h
theorem x_d22 {a0 a1 a2 a3 a4 a5 a6 a7 a8 a9 a10 a11 a12 a13 a14 a15 a16 a17 a18 a19 a20 a21 : Option V} {x : Option V} {σ : L2.St} {k : K0} (h : k (a0 :: a1 :: a2 :: a3 :: a4 :: a5 :: a6 :: a7 :: a8 :: a9 :: a10 :: a11 :: a12 :: a13 :: a14 :: a15 :: a16 :: a17 :: a18 :: a19 :: a20 :: a21 :: none :: σ) H) : gDel 22 (a0 :: a1 :: a2 :: a3 :: a4 :: a5 :: a6 :: a7 :: a8 :: a9 :: a10 :: a11 :: a12 :: a13 :: a14 :: a15 :: a16 :: a17 :: a18 :: a19 :: a20 :: a21 :: x :: σ) H k := h
theorem x_ml22 {a0 a1 a2 a3 a4 a5 a6 a7 a8 a9 a10 a11 a12 a13 a14 a15 a16 a17 a18 a19 a20 a21 : Option V} {σ : L2.St} (h : tMake C sp [] E tl (a0 :: a1 :: a2 :: a3 :: a4 :: a5 :: a6 :: a7 :: a8 :: a9 :: a10 :: a11 :: a12 :: a13 :: a14 :: a15 :: a16 :: a17 :: a18 :: a19 :: a20 :: a21 :: some (.ref C) :: σ) H Q) : eMakeL 22 C sp [] E tl (a0 :: a1 :: a2 :: a3 :: a4 :: a5 :: a6 :: a7 :: a8 :: a9 :: a10 :: a11 :: a12 :: a13 :: a14 :: a15 :: a16 :: a17 :: a18 :: a19 :: a20 :: a21 :: some (.ref C) :: σ) H Q := ⟨rfl, h⟩
theorem x_au22 {te : TE} {ti : TIp} {a0 a1 a2 a3 a4 a5 a6 a7 a8 a9 a10 a11 a12 a13 a14 a15 a16 a17 a18 a19 a20 a21 : Option V} {σ : L2.St} (h : te (a0 :: a1 :: a2 :: a3 :: a4 :: a5 :: a6 :: a7 :: a8 :: a9 :: a10 :: a11 :: a12 :: a13 :: a14 :: a15 :: a16 :: a17 :: a18 :: a19 :: a20 :: a21 :: some x :: σ) H fun y H1 => ti x y H1 fun z H2 => nx (a0 :: a1 :: a2 :: a3 :: a4 :: a5 :: a6 :: a7 :: a8 :: a9 :: a10 :: a11 :: a12 :: a13 :: a14 :: a15 :: a16 :: a17 :: a18 :: a19 :: a20 :: a21 :: some z :: σ) H2) : tAug 22 te ti ⟨nx, rt, bk, ct⟩ (a0 :: a1 :: a2 :: a3 :: a4 :: a5 :: a6 :: a7 :: a8 :: a9 :: a10 :: a11 :: a12 :: a13 :: a14 :: a15 :: a16 :: a17 :: a18 :: a19 :: a20 :: a21 :: some x :: σ) H := ⟨x, rfl, h⟩
theorem x_v23 {a0 a1 a2 a3 a4 a5 a6 a7 a8 a9 a10 a11 a12 a13 a14 a15 a16 a17 a18 a19 a20 a21 a22 : Option V} {σ : L2.St} (h : Q v H) : tVar 23 (a0 :: a1 :: a2 :: a3 :: a4 :: a5 :: a6 :: a7 :: a8 :: a9 :: a10 :: a11 :: a12 :: a13 :: a14 :: a15 :: a16 :: a17 :: a18 :: a19 :: a20 :: a21 :: a22 :: some v :: σ) H Q := ⟨v, rfl, h⟩
theorem x_g23 {a0 a1 a2 a3 a4 a5 a6 a7 a8 a9 a10 a11 a12 a13 a14 a15 a16 a17 a18 a19 a20 a21 a22 : Option V} {x : Option V} {σ : L2.St} (h : QS (a0 :: a1 :: a2 :: a3 :: a4 :: a5 :: a6 :: a7 :: a8 :: a9 :: a10 :: a11 :: a12 :: a13 :: a14 :: a15 :: a16 :: a17 :: a18 :: a19 :: a20 :: a21 :: a22 :: some v :: σ) H) : gName 23 v (a0 :: a1 :: a2 :: a3 :: a4 :: a5 :: a6 :: a7 :: a8 :: a9 :: a10 :: a11 :: a12 :: a13 :: a14 :: a15 :: a16 :: a17 :: a18 :: a19 :: a20 :: a21 :: a22 :: x :: σ) H QS := h
theorem x_d23 {a0 a1 a2 a3 a4 a5 a6 a7 a8 a9 a10 a11 a12 a13 a14 a15 a16 a17 a18 a19 a20 a21 a22 : Option V} {x : Option V} {σ : L2.St} {k : K0} (h : k (a0 :: a1 :: a2 :: a3 :: a4 :: a5 :: a6 :: a7 :: a8 :: a9 :: a10 :: a11 :: a12 :: a13 :: a14 :: a15 :: a16 :: a17 :: a18 :: a19 :: a20 :: a21 :: a22 :: none :: σ) H) : gDel 23 (a0 :: a1 :: a2 :: a3 :: a4 :: a5 :: a6 :: a7 :: a8 :: a9 :: a10 :: a11 :: a12 :: a13 :: a14 :: a15 :: a16 :: a17 :: a18 :: a19 :: a20 :: a21 :: a22 :: x :: σ) H k := h
theorem x_ml23 {a0 a1 a2 a3 a4 a5 a6 a7 a8 a9 a10 a11 a12 a13 a14 a15 a16 a17 a18 a19 a20 a21 a22 : Option V} {σ : L2.St} (h : tMake C sp [] E tl (a0 :: a1 :: a2 :: a3 :: a4 :: a5 :: a6 :: a7 :: a8 :: a9 :: a10 :: a11 :: a12 :: a13 :: a14 :: a15 :: a16 :: a17 :: a18 :: a19 :: a20 :: a21 :: a22 :: some (.ref C) :: σ) H Q) : eMakeL 23 C sp [] E tl (a0 :: a1 :: a2 :: a3 :: a4 :: a5 :: a6 :: a7 :: a8 :: a9 :: a10 :: a11 :: a12 :: a13 :: a14 :: a15 :: a16 :: a17 :: a18 :: a19 :: a20 :: a21 :: a22 :: some (.ref C) :: σ) H Q := ⟨rfl, h⟩
theorem x_au23 {te : TE} {ti : TIp} {a0 a1 a2 a3 a4 a5 a6 a7 a8 a9 a10 a11 a12 a13 a14 a15 a16 a17 a18 a19 a20 a21 a22 : Option V} {σ : L2.St} (h : te (a0 :: a1 :: a2 :: a3 :: a4 :: a5 :: a6 :: a7 :: a8 :: a9 :: a10 :: a11 :: a12 :: a13 :: a14 :: a15 :: a16 :: a17 :: a18 :: a19 :: a20 :: a21 :: a22 :: some x :: σ) H fun y H1 => ti x y H1 fun z H2 => nx (a0 :: a1 :: a2 :: a3 :: a4 :: a5 :: a6 :: a7 :: a8 :: a9 :: a10 :: a11 :: a12 :: a13 :: a14 :: a15 :: a16 :: a17 :: a18 :: a19 :: a20 :: a21 :: a22 :: some z :: σ) H2) : tAug 23 te ti ⟨nx, rt, bk, ct⟩ (a0 :: a1 :: a2 :: a3 :: a4 :: a5 :: a6 :: a7 :: a8 :: a9 :: a10 :: a11 :: a12 :: a13 :: a14 :: a15 :: a16 :: a17 :: a18 :: a19 :: a20 :: a21 :: a22 :: some x :: σ) H := ⟨x, rfl, h⟩
theorem x_setA0 {w : V} {QH : Hp → Prop} (F : FH H L) (m : (p, Is (.lst (w :: xs))) ∈ L) (pu : Put p (Is (.lst (w :: xs))) (Is (.lst (v :: xs))) L L') (h : ∀ H', FH H' L' → QH H') : rSetL (.ref p) (.int 0) v H QH :=
  ⟨p, _, 0, 0, rfl, rfl, F.get m, ixN_b (j := 0) rfl (by simp [Nat.blt_eq, List.length_cons]), h _ (F.put pu trivial)⟩
theorem x_setA1 {b0 : V} {w : V} {QH : Hp → Prop} (F : FH H L) (m : (p, Is (.lst (b0 :: w :: xs))) ∈ L) (pu : Put p (Is (.lst (b0 :: w :: xs))) (Is (.lst (b0 :: v :: xs))) L L') (h : ∀ H', FH H' L' → QH H') : rSetL (.ref p) (.int 1) v H QH :=
  ⟨p, _, 1, 1, rfl, rfl, F.get m, ixN_b (j := 1) rfl (by simp [Nat.blt_eq, List.length_cons]), h _ (F.put pu trivial)⟩
theorem x_setA2 {b0 b1 : V} {w : V} {QH : Hp → Prop} (F : FH H L) (m : (p, Is (.lst (b0 :: b1 :: w :: xs))) ∈ L) (pu : Put p (Is (.lst (b0 :: b1 :: w :: xs))) (Is (.lst (b0 :: b1 :: v :: xs))) L L') (h : ∀ H', FH H' L' → QH H') : rSetL (.ref p) (.int 2) v H QH :=
  ⟨p, _, 2, 2, rfl, rfl, F.get m, ixN_b (j := 2) rfl (by simp [Nat.blt_eq, List.length_cons]), h _ (F.put pu trivial)⟩
theorem x_setA3 {b0 b1 b2 : V} {w : V} {QH : Hp → Prop} (F : FH H L) (m : (p, Is (.lst (b0 :: b1 :: b2 :: w :: xs))) ∈ L) (pu : Put p (Is (.lst (b0 :: b1 :: b2 :: w :: xs))) (Is (.lst (b0 :: b1 :: b2 :: v :: xs))) L L') (h : ∀ H', FH H' L' → QH H') : rSetL (.ref p) (.int 3) v H QH :=
  ⟨p, _, 3, 3, rfl, rfl, F.get m, ixN_b (j := 3) rfl (by simp [Nat.blt_eq, List.length_cons]), h _ (F.put pu trivial)⟩
theorem x_setA4 {b0 b1 b2 b3 : V} {w : V} {QH : Hp → Prop} (F : FH H L) (m : (p, Is (.lst (b0 :: b1 :: b2 :: b3 :: w :: xs))) ∈ L) (pu : Put p (Is (.lst (b0 :: b1 :: b2 :: b3 :: w :: xs))) (Is (.lst (b0 :: b1 :: b2 :: b3 :: v :: xs))) L L') (h : ∀ H', FH H' L' → QH H') : rSetL (.ref p) (.int 4) v H QH :=
  ⟨p, _, 4, 4, rfl, rfl, F.get m, ixN_b (j := 4) rfl (by simp [Nat.blt_eq, List.length_cons]), h _ (F.put pu trivial)⟩
theorem x_setA5 {b0 b1 b2 b3 b4 : V} {w : V} {QH : Hp → Prop} (F : FH H L) (m : (p, Is (.lst (b0 :: b1 :: b2 :: b3 :: b4 :: w :: xs))) ∈ L) (pu : Put p (Is (.lst (b0 :: b1 :: b2 :: b3 :: b4 :: w :: xs))) (Is (.lst (b0 :: b1 :: b2 :: b3 :: b4 :: v :: xs))) L L') (h : ∀ H', FH H' L' → QH H') : rSetL (.ref p) (.int 5) v H QH :=
  ⟨p, _, 5, 5, rfl, rfl, F.get m, ixN_b (j := 5) rfl (by simp [Nat.blt_eq, List.length_cons]), h _ (F.put pu trivial)⟩
theorem x_setA6 {b0 b1 b2 b3 b4 b5 : V} {w : V} {QH : Hp → Prop} (F : FH H L) (m : (p, Is (.lst (b0 :: b1 :: b2 :: b3 :: b4 :: b5 :: w :: xs))) ∈ L) (pu : Put p (Is (.lst (b0 :: b1 :: b2 :: b3 :: b4 :: b5 :: w :: xs))) (Is (.lst (b0 :: b1 :: b2 :: b3 :: b4 :: b5 :: v :: xs))) L L') (h : ∀ H', FH H' L' → QH H') : rSetL (.ref p) (.int 6) v H QH :=
  ⟨p, _, 6, 6, rfl, rfl, F.get m, ixN_b (j := 6) rfl (by simp [Nat.blt_eq, List.length_cons]), h _ (F.put pu trivial)⟩
theorem x_setA7 {b0 b1 b2 b3 b4 b5 b6 : V} {w : V} {QH : Hp → Prop} (F : FH H L) (m : (p, Is (.lst (b0 :: b1 :: b2 :: b3 :: b4 :: b5 :: b6 :: w :: xs))) ∈ L) (pu : Put p (Is (.lst (b0 :: b1 :: b2 :: b3 :: b4 :: b5 :: b6 :: w :: xs))) (Is (.lst (b0 :: b1 :: b2 :: b3 :: b4 :: b5 :: b6 :: v :: xs))) L L') (h : ∀ H', FH H' L' → QH H') : rSetL (.ref p) (.int 7) v H QH :=
  ⟨p, _, 7, 7, rfl, rfl, F.get m, ixN_b (j := 7) rfl (by simp [Nat.blt_eq, List.length_cons]), h _ (F.put pu trivial)⟩
theorem x_setA8 {b0 b1 b2 b3 b4 b5 b6 b7 : V} {w : V} {QH : Hp → Prop} (F : FH H L) (m : (p, Is (.lst (b0 :: b1 :: b2 :: b3 :: b4 :: b5 :: b6 :: b7 :: w :: xs))) ∈ L) (pu : Put p (Is (.lst (b0 :: b1 :: b2 :: b3 :: b4 :: b5 :: b6 :: b7 :: w :: xs))) (Is (.lst (b0 :: b1 :: b2 :: b3 :: b4 :: b5 :: b6 :: b7 :: v :: xs))) L L') (h : ∀ H', FH H' L' → QH H') : rSetL (.ref p) (.int 8) v H QH :=
  ⟨p, _, 8, 8, rfl, rfl, F.get m, ixN_b (j := 8) rfl (by simp [Nat.blt_eq, List.length_cons]), h _ (F.put pu trivial)⟩
theorem x_setA9 {b0 b1 b2 b3 b4 b5 b6 b7 b8 : V} {w : V} {QH : Hp → Prop} (F : FH H L) (m : (p, Is (.lst (b0 :: b1 :: b2 :: b3 :: b4 :: b5 :: b6 :: b7 :: b8 :: w :: xs))) ∈ L) (pu : Put p (Is (.lst (b0 :: b1 :: b2 :: b3 :: b4 :: b5 :: b6 :: b7 :: b8 :: w :: xs))) (Is (.lst (b0 :: b1 :: b2 :: b3 :: b4 :: b5 :: b6 :: b7 :: b8 :: v :: xs))) L L') (h : ∀ H', FH H' L' → QH H') : rSetL (.ref p) (.int 9) v H QH :=
  ⟨p, _, 9, 9, rfl, rfl, F.get m, ixN_b (j := 9) rfl (by simp [Nat.blt_eq, List.length_cons]), h _ (F.put pu trivial)⟩
end
end Y

/-! the walk by class search: one step St1, as many as there are Go1 -/
namespace Y
open PySem PySem.Spec PyProof.Rows L2
class St1 (G : Prop) (G' : outParam Prop) : Prop where
  imp : G' → G
class Go0 (G : Prop) (G' : outParam Prop) : Prop where
  imp : G' → G
instance (priority := 10) go_stop {G : Prop} : Go0 G G := ⟨id⟩
instance (priority := 1000) go_step {G G' G'' : Prop} [a : St1 G G'] [b : Go0 G' G''] : Go0 G G'' := ⟨fun h => a.imp (b.imp h)⟩
theorem go {G G' G'' : Prop} [a : St1 G G'] [b : Go0 G' G''] (h : G'') : G := a.imp (b.imp h)
/-- what stands in a list -/
class Mm {α : Type} (x : α) (L : List α) : Prop where
  m : x ∈ L
instance mm_tail {α : Type} {x y : α} {L : List α} [a : Mm x L] : Mm x (y :: L) := ⟨List.mem_cons_of_mem _ a.m⟩
instance (priority := 2000) mm_head {α : Type} {x : α} {L : List α} : Mm x (x :: L) := ⟨List.mem_cons_self⟩
class PutE (p : Addr) (φ φ' : Pr) (L : List Ent) (L' : outParam (List Ent)) : Prop where
  pu : Put p φ φ' L L'
instance put_tail {p : Addr} {φ φ' : Pr} {y : Ent} {L L' : List Ent} [a : PutE p φ φ' L L'] : PutE p φ φ' (y :: L) (y :: L') := ⟨.there a.pu⟩
instance (priority := 2000) put_head {p : Addr} {φ φ' : Pr} {L : List Ent} : PutE p φ φ' ((p, φ) :: L) ((p, φ') :: L) := ⟨.here⟩
class NeS (f g : Str) : Prop where
  ne : f ≠ g
class LookF (fs : List (Str × V)) (f : Str) (v : outParam V) : Prop where
  l : fs.lookup f = some v
instance look_tail {f g : Str} {v w : V} {t : List (Str × V)} [n : NeS f g] [a : LookF t f v] : LookF ((g, w) :: t) f v := ⟨look_miss n.ne a.l⟩
instance (priority := 2000) look_head {f : Str} {v : V} {t : List (Str × V)} : LookF ((f, v) :: t) f v := ⟨look_hit⟩
class NoF (fs : List (Str × V)) (f : Str) : Prop where
  l : fs.lookup f = none
instance nof_nil {f : Str} : NoF [] f := ⟨look_nil⟩
instance nof_cons {f g : Str} {w : V} {t : List (Str × V)} [n : NeS f g] [a : NoF t f] : NoF ((g, w) :: t) f := ⟨look_miss n.ne a.l⟩
class PutFd (f : Str) (v : V) (fs : List (Str × V)) (fs' : outParam (List (Str × V))) : Prop where
  e : putF f v fs = fs'
instance putfd_nil {f : Str} {v : V} : PutFd f v [] [(f, v)] := ⟨put_nil⟩
instance putfd_tail {f g : Str} {v w : V} {t t' : List (Str × V)} [n : NeS f g] [a : PutFd f v t t'] : PutFd f v ((g, w) :: t) ((g, w) :: t') := ⟨put_miss (Ne.symm n.ne) a.e⟩
instance (priority := 2000) putfd_head {f : Str} {v w : V} {t : List (Str × V)} : PutFd f v ((f, w) :: t) ((f, v) :: t) := ⟨put_hit⟩
class Shr {α : Type} (n : Nat) (xs : List α) : Prop where
  l : xs.length ≤ n
instance shr_nil {α : Type} {n : Nat} : Shr n ([] : List α) := ⟨Nat.zero_le _⟩
instance shr_cons {α : Type} {n : Nat} {x : α} {xs : List α} [a : Shr n xs] : Shr (n + 1) (x :: xs) := ⟨Nat.succ_le_succ a.l⟩
class AtE (xs : List V) (i : Int) (v : outParam V) : Prop where
  e : atI xs i = some v
class SetE (xs : List V) (i : Int) (v : V) (ys : outParam (List V)) : Prop where
  e : ∃ k, ixN xs.length i = some k ∧ xs.set k v = ys
class AppE {α : Type} (xs ys : List α) (zs : outParam (List α)) : Prop where
  e : xs ++ ys = zs
instance (priority := 10) app_any {α : Type} {xs ys : List α} : AppE xs ys (xs ++ ys) := ⟨rfl⟩
instance app_nil {α : Type} {ys : List α} : AppE [] ys ys := ⟨rfl⟩
instance app_cons {α : Type} {x : α} {xs ys zs : List α} [a : AppE xs ys zs] : AppE (x :: xs) ys (x :: zs) := ⟨congrArg (x :: ·) a.e⟩
class WipeE (σ : L2.St) (vs : List Nat) (σ' : outParam L2.St) : Prop where
  e : wipe σ vs = σ'
class SetO (σ : L2.St) (v : Nat) (σ' : outParam L2.St) : Prop where
  e : σ.set v none = σ'
class LenE {α : Type} (xs : List α) (n : outParam Nat) : Prop where
  e : xs.length = n
/-! heads that the written rules may still take -/
class Hd (G : Prop) : Prop where
  t : True
theorem hd_is {G : Prop} [Hd G] (h : G) : G := h
instance at0 {v : V} {xs : List V} : AtE (v :: xs) 0 v := ⟨atI_at (j := 0) rfl rfl⟩
instance set0 {w v : V} {xs : List V} : SetE (w :: xs) 0 v (v :: xs) := ⟨0, ixN_at (j := 0) rfl (by simp only [List.length_cons]; omega), rfl⟩
instance seto0 {w : Option V} {σ : L2.St} : SetO (w :: σ) 0 (none :: σ) := ⟨rfl⟩
instance len0 {α : Type} : LenE (α := α) [] 0 := ⟨rfl⟩
instance at1 {b0 : V} {v : V} {xs : List V} : AtE (b0 :: v :: xs) 1 v := ⟨atI_at (j := 1) rfl rfl⟩
instance set1 {b0 : V} {w v : V} {xs : List V} : SetE (b0 :: w :: xs) 1 v (b0 :: v :: xs) := ⟨1, ixN_at (j := 1) rfl (by simp only [List.length_cons]; omega), rfl⟩
instance seto1 {b0 : Option V} {w : Option V} {σ : L2.St} : SetO (b0 :: w :: σ) 1 (b0 :: none :: σ) := ⟨rfl⟩
instance len1 {α : Type} {b0 : α} : LenE (α := α) [b0] 1 := ⟨rfl⟩
instance at2 {b0 b1 : V} {v : V} {xs : List V} : AtE (b0 :: b1 :: v :: xs) 2 v := ⟨atI_at (j := 2) rfl rfl⟩
instance set2 {b0 b1 : V} {w v : V} {xs : List V} : SetE (b0 :: b1 :: w :: xs) 2 v (b0 :: b1 :: v :: xs) := ⟨2, ixN_at (j := 2) rfl (by simp only [List.length_cons]; omega), rfl⟩
instance seto2 {b0 b1 : Option V} {w : Option V} {σ : L2.St} : SetO (b0 :: b1 :: w :: σ) 2 (b0 :: b1 :: none :: σ) := ⟨rfl⟩
instance len2 {α : Type} {b0 b1 : α} : LenE (α := α) [b0, b1] 2 := ⟨rfl⟩
instance at3 {b0 b1 b2 : V} {v : V} {xs : List V} : AtE (b0 :: b1 :: b2 :: v :: xs) 3 v := ⟨atI_at (j := 3) rfl rfl⟩
instance set3 {b0 b1 b2 : V} {w v : V} {xs : List V} : SetE (b0 :: b1 :: b2 :: w :: xs) 3 v (b0 :: b1 :: b2 :: v :: xs) := ⟨3, ixN_at (j := 3) rfl (by simp only [List.length_cons]; omega), rfl⟩
instance seto3 {b0 b1 b2 : Option V} {w : Option V} {σ : L2.St} : SetO (b0 :: b1 :: b2 :: w :: σ) 3 (b0 :: b1 :: b2 :: none :: σ) := ⟨rfl⟩
instance len3 {α : Type} {b0 b1 b2 : α} : LenE (α := α) [b0, b1, b2] 3 := ⟨rfl⟩
instance at4 {b0 b1 b2 b3 : V} {v : V} {xs : List V} : AtE (b0 :: b1 :: b2 :: b3 :: v :: xs) 4 v := ⟨atI_at (j := 4) rfl rfl⟩
instance set4 {b0 b1 b2 b3 : V} {w v : V} {xs : List V} : SetE (b0 :: b1 :: b2 :: b3 :: w :: xs) 4 v (b0 :: b1 :: b2 :: b3 :: v :: xs) := ⟨4, ixN_at (j := 4) rfl (by simp only [List.length_cons]; omega), rfl⟩
instance seto4 {b0 b1 b2 b3 : Option V} {w : Option V} {σ : L2.St} : SetO (b0 :: b1 :: b2 :: b3 :: w :: σ) 4 (b0 :: b1 :: b2 :: b3 :: none :: σ) := ⟨rfl⟩
instance len4 {α : Type} {b0 b1 b2 b3 : α} : LenE (α := α) [b0, b1, b2, b3] 4 := ⟨rfl⟩
instance at5 {b0 b1 b2 b3 b4 : V} {v : V} {xs : List V} : AtE (b0 :: b1 :: b2 :: b3 :: b4 :: v :: xs) 5 v := ⟨atI_at (j := 5) rfl rfl⟩
instance set5 {b0 b1 b2 b3 b4 : V} {w v : V} {xs : List V} : SetE (b0 :: b1 :: b2 :: b3 :: b4 :: w :: xs) 5 v (b0 :: b1 :: b2 :: b3 :: b4 :: v :: xs) := ⟨5, ixN_at (j := 5) rfl (by simp only [List.length_cons]; omega), rfl⟩
instance seto5 {b0 b1 b2 b3 b4 : Option V} {w : Option V} {σ : L2.St} : SetO (b0 :: b1 :: b2 :: b3 :: b4 :: w :: σ) 5 (b0 :: b1 :: b2 :: b3 :: b4 :: none :: σ) := ⟨rfl⟩
instance len5 {α : Type} {b0 b1 b2 b3 b4 : α} : LenE (α := α) [b0, b1, b2, b3, b4] 5 := ⟨rfl⟩
instance at6 {b0 b1 b2 b3 b4 b5 : V} {v : V} {xs : List V} : AtE (b0 :: b1 :: b2 :: b3 :: b4 :: b5 :: v :: xs) 6 v := ⟨atI_at (j := 6) rfl rfl⟩
instance set6 {b0 b1 b2 b3 b4 b5 : V} {w v : V} {xs : List V} : SetE (b0 :: b1 :: b2 :: b3 :: b4 :: b5 :: w :: xs) 6 v (b0 :: b1 :: b2 :: b3 :: b4 :: b5 :: v :: xs) := ⟨6, ixN_at (j := 6) rfl (by simp only [List.length_cons]; omega), rfl⟩
instance seto6 {b0 b1 b2 b3 b4 b5 : Option V} {w : Option V} {σ : L2.St} : SetO (b0 :: b1 :: b2 :: b3 :: b4 :: b5 :: w :: σ) 6 (b0 :: b1 :: b2 :: b3 :: b4 :: b5 :: none :: σ) := ⟨rfl⟩
instance len6 {α : Type} {b0 b1 b2 b3 b4 b5 : α} : LenE (α := α) [b0, b1, b2, b3, b4, b5] 6 := ⟨rfl⟩
instance at7 {b0 b1 b2 b3 b4 b5 b6 : V} {v : V} {xs : List V} : AtE (b0 :: b1 :: b2 :: b3 :: b4 :: b5 :: b6 :: v :: xs) 7 v := ⟨atI_at (j := 7) rfl rfl⟩
instance set7 {b0 b1 b2 b3 b4 b5 b6 : V} {w v : V} {xs : List V} : SetE (b0 :: b1 :: b2 :: b3 :: b4 :: b5 :: b6 :: w :: xs) 7 v (b0 :: b1 :: b2 :: b3 :: b4 :: b5 :: b6 :: v :: xs) := ⟨7, ixN_at (j := 7) rfl (by simp only [List.length_cons]; omega), rfl⟩
instance seto7 {b0 b1 b2 b3 b4 b5 b6 : Option V} {w : Option V} {σ : L2.St} : SetO (b0 :: b1 :: b2 :: b3 :: b4 :: b5 :: b6 :: w :: σ) 7 (b0 :: b1 :: b2 :: b3 :: b4 :: b5 :: b6 :: none :: σ) := ⟨rfl⟩
instance len7 {α : Type} {b0 b1 b2 b3 b4 b5 b6 : α} : LenE (α := α) [b0, b1, b2, b3, b4, b5, b6] 7 := ⟨rfl⟩
instance at8 {b0 b1 b2 b3 b4 b5 b6 b7 : V} {v : V} {xs : List V} : AtE (b0 :: b1 :: b2 :: b3 :: b4 :: b5 :: b6 :: b7 :: v :: xs) 8 v := ⟨atI_at (j := 8) rfl rfl⟩
instance set8 {b0 b1 b2 b3 b4 b5 b6 b7 : V} {w v : V} {xs : List V} : SetE (b0 :: b1 :: b2 :: b3 :: b4 :: b5 :: b6 :: b7 :: w :: xs) 8 v (b0 :: b1 :: b2 :: b3 :: b4 :: b5 :: b6 :: b7 :: v :: xs) := ⟨8, ixN_at (j := 8) rfl (by simp only [List.length_cons]; omega), rfl⟩
instance seto8 {b0 b1 b2 b3 b4 b5 b6 b7 : Option V} {w : Option V} {σ : L2.St} : SetO (b0 :: b1 :: b2 :: b3 :: b4 :: b5 :: b6 :: b7 :: w :: σ) 8 (b0 :: b1 :: b2 :: b3 :: b4 :: b5 :: b6 :: b7 :: none :: σ) := ⟨rfl⟩
instance len8 {α : Type} {b0 b1 b2 b3 b4 b5 b6 b7 : α} : LenE (α := α) [b0, b1, b2, b3, b4, b5, b6, b7] 8 := ⟨rfl⟩
instance at9 {b0 b1 b2 b3 b4 b5 b6 b7 b8 : V} {v : V} {xs : List V} : AtE (b0 :: b1 :: b2 :: b3 :: b4 :: b5 :: b6 :: b7 :: b8 :: v :: xs) 9 v := ⟨atI_at (j := 9) rfl rfl⟩
instance set9 {b0 b1 b2 b3 b4 b5 b6 b7 b8 : V} {w v : V} {xs : List V} : SetE (b0 :: b1 :: b2 :: b3 :: b4 :: b5 :: b6 :: b7 :: b8 :: w :: xs) 9 v (b0 :: b1 :: b2 :: b3 :: b4 :: b5 :: b6 :: b7 :: b8 :: v :: xs) := ⟨9, ixN_at (j := 9) rfl (by simp only [List.length_cons]; omega), rfl⟩
instance seto9 {b0 b1 b2 b3 b4 b5 b6 b7 b8 : Option V} {w : Option V} {σ : L2.St} : SetO (b0 :: b1 :: b2 :: b3 :: b4 :: b5 :: b6 :: b7 :: b8 :: w :: σ) 9 (b0 :: b1 :: b2 :: b3 :: b4 :: b5 :: b6 :: b7 :: b8 :: none :: σ) := ⟨rfl⟩
instance len9 {α : Type} {b0 b1 b2 b3 b4 b5 b6 b7 b8 : α} : LenE (α := α) [b0, b1, b2, b3, b4, b5, b6, b7, b8] 9 := ⟨rfl⟩
instance at10 {b0 b1 b2 b3 b4 b5 b6 b7 b8 b9 : V} {v : V} {xs : List V} : AtE (b0 :: b1 :: b2 :: b3 :: b4 :: b5 :: b6 :: b7 :: b8 :: b9 :: v :: xs) 10 v := ⟨atI_at (j := 10) rfl rfl⟩
instance set10 {b0 b1 b2 b3 b4 b5 b6 b7 b8 b9 : V} {w v : V} {xs : List V} : SetE (b0 :: b1 :: b2 :: b3 :: b4 :: b5 :: b6 :: b7 :: b8 :: b9 :: w :: xs) 10 v (b0 :: b1 :: b2 :: b3 :: b4 :: b5 :: b6 :: b7 :: b8 :: b9 :: v :: xs) := ⟨10, ixN_at (j := 10) rfl (by simp only [List.length_cons]; omega), rfl⟩
instance seto10 {b0 b1 b2 b3 b4 b5 b6 b7 b8 b9 : Option V} {w : Option V} {σ : L2.St} : SetO (b0 :: b1 :: b2 :: b3 :: b4 :: b5 :: b6 :: b7 :: b8 :: b9 :: w :: σ) 10 (b0 :: b1 :: b2 :: b3 :: b4 :: b5 :: b6 :: b7 :: b8 :: b9 :: none :: σ) := ⟨rfl⟩
instance len10 {α : Type} {b0 b1 b2 b3 b4 b5 b6 b7 b8 b9 : α} : LenE (α := α) [b0, b1, b2, b3, b4, b5, b6, b7, b8, b9] 10 := ⟨rfl⟩
instance at11 {b0 b1 b2 b3 b4 b5 b6 b7 b8 b9 b10 : V} {v : V} {xs : List V} : AtE (b0 :: b1 :: b2 :: b3 :: b4 :: b5 :: b6 :: b7 :: b8 :: b9 :: b10 :: v :: xs) 11 v := ⟨atI_at (j := 11) rfl rfl⟩
instance set11 {b0 b1 b2 b3 b4 b5 b6 b7 b8 b9 b10 : V} {w v : V} {xs : List V} : SetE (b0 :: b1 :: b2 :: b3 :: b4 :: b5 :: b6 :: b7 :: b8 :: b9 :: b10 :: w :: xs) 11 v (b0 :: b1 :: b2 :: b3 :: b4 :: b5 :: b6 :: b7 :: b8 :: b9 :: b10 :: v :: xs) := ⟨11, ixN_at (j := 11) rfl (by simp only [List.length_cons]; omega), rfl⟩
instance seto11 {b0 b1 b2 b3 b4 b5 b6 b7 b8 b9 b10 : Option V} {w : Option V} {σ : L2.St} : SetO (b0 :: b1 :: b2 :: b3 :: b4 :: b5 :: b6 :: b7 :: b8 :: b9 :: b10 :: w :: σ) 11 (b0 :: b1 :: b2 :: b3 :: b4 :: b5 :: b6 :: b7 :: b8 :: b9 :: b10 :: none :: σ) := ⟨rfl⟩
instance len11 {α : Type} {b0 b1 b2 b3 b4 b5 b6 b7 b8 b9 b10 : α} : LenE (α := α) [b0, b1, b2, b3, b4, b5, b6, b7, b8, b9, b10] 11 := ⟨rfl⟩
instance at12 {b0 b1 b2 b3 b4 b5 b6 b7 b8 b9 b10 b11 : V} {v : V} {xs : List V} : AtE (b0 :: b1 :: b2 :: b3 :: b4 :: b5 :: b6 :: b7 :: b8 :: b9 :: b10 :: b11 :: v :: xs) 12 v := ⟨atI_at (j := 12) rfl rfl⟩
instance set12 {b0 b1 b2 b3 b4 b5 b6 b7 b8 b9 b10 b11 : V} {w v : V} {xs : List V} : SetE (b0 :: b1 :: b2 :: b3 :: b4 :: b5 :: b6 :: b7 :: b8 :: b9 :: b10 :: b11 :: w :: xs) 12 v (b0 :: b1 :: b2 :: b3 :: b4 :: b5 :: b6 :: b7 :: b8 :: b9 :: b10 :: b11 :: v :: xs) := ⟨12, ixN_at (j := 12) rfl (by simp only [List.length_cons]; omega), rfl⟩
instance seto12 {b0 b1 b2 b3 b4 b5 b6 b7 b8 b9 b10 b11 : Option V} {w : Option V} {σ : L2.St} : SetO (b0 :: b1 :: b2 :: b3 :: b4 :: b5 :: b6 :: b7 :: b8 :: b9 :: b10 :: b11 :: w :: σ) 12 (b0 :: b1 :: b2 :: b3 :: b4 :: b5 :: b6 :: b7 :: b8 :: b9 :: b10 :: b11 :: none :: σ) := ⟨rfl⟩
instance len12 {α : Type} {b0 b1 b2 b3 b4 b5 b6 b7 b8 b9 b10 b11 : α} : LenE (α := α) [b0, b1, b2, b3, b4, b5, b6, b7, b8, b9, b10, b11] 12 := ⟨rfl⟩
instance at13 {b0 b1 b2 b3 b4 b5 b6 b7 b8 b9 b10 b11 b12 : V} {v : V} {xs : List V} : AtE (b0 :: b1 :: b2 :: b3 :: b4 :: b5 :: b6 :: b7 :: b8 :: b9 :: b10 :: b11 :: b12 :: v :: xs) 13 v := ⟨atI_at (j := 13) rfl rfl⟩
instance set13 {b0 b1 b2 b3 b4 b5 b6 b7 b8 b9 b10 b11 b12 : V} {w v : V} {xs : List V} : SetE (b0 :: b1 :: b2 :: b3 :: b4 :: b5 :: b6 :: b7 :: b8 :: b9 :: b10 :: b11 :: b12 :: w :: xs) 13 v (b0 :: b1 :: b2 :: b3 :: b4 :: b5 :: b6 :: b7 :: b8 :: b9 :: b10 :: b11 :: b12 :: v :: xs) := ⟨13, ixN_at (j := 13) rfl (by simp only [List.length_cons]; omega), rfl⟩
instance seto13 {b0 b1 b2 b3 b4 b5 b6 b7 b8 b9 b10 b11 b12 : Option V} {w : Option V} {σ : L2.St} : SetO (b0 :: b1 :: b2 :: b3 :: b4 :: b5 :: b6 :: b7 :: b8 :: b9 :: b10 :: b11 :: b12 :: w :: σ) 13 (b0 :: b1 :: b2 :: b3 :: b4 :: b5 :: b6 :: b7 :: b8 :: b9 :: b10 :: b11 :: b12 :: none :: σ) := ⟨rfl⟩
instance len13 {α : Type} {b0 b1 b2 b3 b4 b5 b6 b7 b8 b9 b10 b11 b12 : α} : LenE (α := α) [b0, b1, b2, b3, b4, b5, b6, b7, b8, b9, b10, b11, b12] 13 := ⟨rfl⟩
instance at14 {b0 b1 b2 b3 b4 b5 b6 b7 b8 b9 b10 b11 b12 b13 : V} {v : V} {xs : List V} : AtE (b0 :: b1 :: b2 :: b3 :: b4 :: b5 :: b6 :: b7 :: b8 :: b9 :: b10 :: b11 :: b12 :: b13 :: v :: xs) 14 v := ⟨atI_at (j := 14) rfl rfl⟩
instance set14 {b0 b1 b2 b3 b4 b5 b6 b7 b8 b9 b10 b11 b12 b13 : V} {w v : V} {xs : List V} : SetE (b0 :: b1 :: b2 :: b3 :: b4 :: b5 :: b6 :: b7 :: b8 :: b9 :: b10 :: b11 :: b12 :: b13 :: w :: xs) 14 v (b0 :: b1 :: b2 :: b3 :: b4 :: b5 :: b6 :: b7 :: b8 :: b9 :: b10 :: b11 :: b12 :: b13 :: v :: xs) := ⟨14, ixN_at (j := 14) rfl (by simp only [List.length_cons]; omega), rfl⟩
instance seto14 {b0 b1 b2 b3 b4 b5 b6 b7 b8 b9 b10 b11 b12 b13 : Option V} {w : Option V} {σ : L2.St} : SetO (b0 :: b1 :: b2 :: b3 :: b4 :: b5 :: b6 :: b7 :: b8 :: b9 :: b10 :: b11 :: b12 :: b13 :: w :: σ) 14 (b0 :: b1 :: b2 :: b3 :: b4 :: b5 :: b6 :: b7 :: b8 :: b9 :: b10 :: b11 :: b12 :: b13 :: none :: σ) := ⟨rfl⟩
instance len14 {α : Type} {b0 b1 b2 b3 b4 b5 b6 b7 b8 b9 b10 b11 b12 b13 : α} : LenE (α := α) [b0, b1, b2, b3, b4, b5, b6, b7, b8, b9, b10, b11, b12, b13] 14 := ⟨rfl⟩
instance at15 {b0 b1 b2 b3 b4 b5 b6 b7 b8 b9 b10 b11 b12 b13 b14 : V} {v : V} {xs : List V} : AtE (b0 :: b1 :: b2 :: b3 :: b4 :: b5 :: b6 :: b7 :: b8 :: b9 :: b10 :: b11 :: b12 :: b13 :: b14 :: v :: xs) 15 v := ⟨atI_at (j := 15) rfl rfl⟩
instance set15 {b0 b1 b2 b3 b4 b5 b6 b7 b8 b9 b10 b11 b12 b13 b14 : V} {w v : V} {xs : List V} : SetE (b0 :: b1 :: b2 :: b3 :: b4 :: b5 :: b6 :: b7 :: b8 :: b9 :: b10 :: b11 :: b12 :: b13 :: b14 :: w :: xs) 15 v (b0 :: b1 :: b2 :: b3 :: b4 :: b5 :: b6 :: b7 :: b8 :: b9 :: b10 :: b11 :: b12 :: b13 :: b14 :: v :: xs) := ⟨15, ixN_at (j := 15) rfl (by simp only [List.length_cons]; omega), rfl⟩
instance seto15 {b0 b1 b2 b3 b4 b5 b6 b7 b8 b9 b10 b11 b12 b13 b14 : Option V} {w : Option V} {σ : L2.St} : SetO (b0 :: b1 :: b2 :: b3 :: b4 :: b5 :: b6 :: b7 :: b8 :: b9 :: b10 :: b11 :: b12 :: b13 :: b14 :: w :: σ) 15 (b0 :: b1 :: b2 :: b3 :: b4 :: b5 :: b6 :: b7 :: b8 :: b9 :: b10 :: b11 :: b12 :: b13 :: b14 :: none :: σ) := ⟨rfl⟩
instance len15 {α : Type} {b0 b1 b2 b3 b4 b5 b6 b7 b8 b9 b10 b11 b12 b13 b14 : α} : LenE (α := α) [b0, b1, b2, b3, b4, b5, b6, b7, b8, b9, b10, b11, b12, b13, b14] 15 := ⟨rfl⟩
instance at16 {b0 b1 b2 b3 b4 b5 b6 b7 b8 b9 b10 b11 b12 b13 b14 b15 : V} {v : V} {xs : List V} : AtE (b0 :: b1 :: b2 :: b3 :: b4 :: b5 :: b6 :: b7 :: b8 :: b9 :: b10 :: b11 :: b12 :: b13 :: b14 :: b15 :: v :: xs) 16 v := ⟨atI_at (j := 16) rfl rfl⟩
instance set16 {b0 b1 b2 b3 b4 b5 b6 b7 b8 b9 b10 b11 b12 b13 b14 b15 : V} {w v : V} {xs : List V} : SetE (b0 :: b1 :: b2 :: b3 :: b4 :: b5 :: b6 :: b7 :: b8 :: b9 :: b10 :: b11 :: b12 :: b13 :: b14 :: b15 :: w :: xs) 16 v (b0 :: b1 :: b2 :: b3 :: b4 :: b5 :: b6 :: b7 :: b8 :: b9 :: b10 :: b11 :: b12 :: b13 :: b14 :: b15 :: v :: xs) := ⟨16, ixN_at (j := 16) rfl (by simp only [List.length_cons]; omega), rfl⟩
instance seto16 {b0 b1 b2 b3 b4 b5 b6 b7 b8 b9 b10 b11 b12 b13 b14 b15 : Option V} {w : Option V} {σ : L2.St} : SetO (b0 :: b1 :: b2 :: b3 :: b4 :: b5 :: b6 :: b7 :: b8 :: b9 :: b10 :: b11 :: b12 :: b13 :: b14 :: b15 :: w :: σ) 16 (b0 :: b1 :: b2 :: b3 :: b4 :: b5 :: b6 :: b7 :: b8 :: b9 :: b10 :: b11 :: b12 :: b13 :: b14 :: b15 :: none :: σ) := ⟨rfl⟩
instance len16 {α : Type} {b0 b1 b2 b3 b4 b5 b6 b7 b8 b9 b10 b11 b12 b13 b14 b15 : α} : LenE (α := α) [b0, b1, b2, b3, b4, b5, b6, b7, b8, b9, b10, b11, b12, b13, b14, b15] 16 := ⟨rfl⟩
instance at17 {b0 b1 b2 b3 b4 b5 b6 b7 b8 b9 b10 b11 b12 b13 b14 b15 b16 : V} {v : V} {xs : List V} : AtE (b0 :: b1 :: b2 :: b3 :: b4 :: b5 :: b6 :: b7 :: b8 :: b9 :: b10 :: b11 :: b12 :: b13 :: b14 :: b15 :: b16 :: v :: xs) 17 v := ⟨atI_at (j := 17) rfl rfl⟩
instance set17 {b0 b1 b2 b3 b4 b5 b6 b7 b8 b9 b10 b11 b12 b13 b14 b15 b16 : V} {w v : V} {xs : List V} : SetE (b0 :: b1 :: b2 :: b3 :: b4 :: b5 :: b6 :: b7 :: b8 :: b9 :: b10 :: b11 :: b12 :: b13 :: b14 :: b15 :: b16 :: w :: xs) 17 v (b0 :: b1 :: b2 :: b3 :: b4 :: b5 :: b6 :: b7 :: b8 :: b9 :: b10 :: b11 :: b12 :: b13 :: b14 :: b15 :: b16 :: v :: xs) := ⟨17, ixN_at (j := 17) rfl (by simp only [List.length_cons]; omega), rfl⟩
instance seto17 {b0 b1 b2 b3 b4 b5 b6 b7 b8 b9 b10 b11 b12 b13 b14 b15 b16 : Option V} {w : Option V} {σ : L2.St} : SetO (b0 :: b1 :: b2 :: b3 :: b4 :: b5 :: b6 :: b7 :: b8 :: b9 :: b10 :: b11 :: b12 :: b13 :: b14 :: b15 :: b16 :: w :: σ) 17 (b0 :: b1 :: b2 :: b3 :: b4 :: b5 :: b6 :: b7 :: b8 :: b9 :: b10 :: b11 :: b12 :: b13 :: b14 :: b15 :: b16 :: none :: σ) := ⟨rfl⟩
instance len17 {α : Type} {b0 b1 b2 b3 b4 b5 b6 b7 b8 b9 b10 b11 b12 b13 b14 b15 b16 : α} : LenE (α := α) [b0, b1, b2, b3, b4, b5, b6, b7, b8, b9, b10, b11, b12, b13, b14, b15, b16] 17 := ⟨rfl⟩
instance at18 {b0 b1 b2 b3 b4 b5 b6 b7 b8 b9 b10 b11 b12 b13 b14 b15 b16 b17 : V} {v : V} {xs : List V} : AtE (b0 :: b1 :: b2 :: b3 :: b4 :: b5 :: b6 :: b7 :: b8 :: b9 :: b10 :: b11 :: b12 :: b13 :: b14 :: b15 :: b16 :: b17 :: v :: xs) 18 v := ⟨atI_at (j := 18) rfl rfl⟩
instance set18 {b0 b1 b2 b3 b4 b5 b6 b7 b8 b9 b10 b11 b12 b13 b14 b15 b16 b17 : V} {w v : V} {xs : List V} : SetE (b0 :: b1 :: b2 :: b3 :: b4 :: b5 :: b6 :: b7 :: b8 :: b9 :: b10 :: b11 :: b12 :: b13 :: b14 :: b15 :: b16 :: b17 :: w :: xs) 18 v (b0 :: b1 :: b2 :: b3 :: b4 :: b5 :: b6 :: b7 :: b8 :: b9 :: b10 :: b11 :: b12 :: b13 :: b14 :: b15 :: b16 :: b17 :: v :: xs) := ⟨18, ixN_at (j := 18) rfl (by simp only [List.length_cons]; omega), rfl⟩
instance seto18 {b0 b1 b2 b3 b4 b5 b6 b7 b8 b9 b10 b11 b12 b13 b14 b15 b16 b17 : Option V} {w : Option V} {σ : L2.St} : SetO (b0 :: b1 :: b2 :: b3 :: b4 :: b5 :: b6 :: b7 :: b8 :: b9 :: b10 :: b11 :: b12 :: b13 :: b14 :: b15 :: b16 :: b17 :: w :: σ) 18 (b0 :: b1 :: b2 :: b3 :: b4 :: b5 :: b6 :: b7 :: b8 :: b9 :: b10 :: b11 :: b12 :: b13 :: b14 :: b15 :: b16 :: b17 :: none :: σ) := ⟨rfl⟩
instance len18 {α : Type} {b0 b1 b2 b3 b4 b5 b6 b7 b8 b9 b10 b11 b12 b13 b14 b15 b16 b17 : α} : LenE (α := α) [b0, b1, b2, b3, b4, b5, b6, b7, b8, b9, b10, b11, b12, b13, b14, b15, b16, b17] 18 := ⟨rfl⟩
instance at19 {b0 b1 b2 b3 b4 b5 b6 b7 b8 b9 b10 b11 b12 b13 b14 b15 b16 b17 b18 : V} {v : V} {xs : List V} : AtE (b0 :: b1 :: b2 :: b3 :: b4 :: b5 :: b6 :: b7 :: b8 :: b9 :: b10 :: b11 :: b12 :: b13 :: b14 :: b15 :: b16 :: b17 :: b18 :: v :: xs) 19 v := ⟨atI_at (j := 19) rfl rfl⟩
instance set19 {b0 b1 b2 b3 b4 b5 b6 b7 b8 b9 b10 b11 b12 b13 b14 b15 b16 b17 b18 : V} {w v : V} {xs : List V} : SetE (b0 :: b1 :: b2 :: b3 :: b4 :: b5 :: b6 :: b7 :: b8 :: b9 :: b10 :: b11 :: b12 :: b13 :: b14 :: b15 :: b16 :: b17 :: b18 :: w :: xs) 19 v (b0 :: b1 :: b2 :: b3 :: b4 :: b5 :: b6 :: b7 :: b8 :: b9 :: b10 :: b11 :: b12 :: b13 :: b14 :: b15 :: b16 :: b17 :: b18 :: v :: xs) := ⟨19, ixN_at (j := 19) rfl (by simp only [List.length_cons]; omega), rfl⟩
instance seto19 {b0 b1 b2 b3 b4 b5 b6 b7 b8 b9 b10 b11 b12 b13 b14 b15 b16 b17 b18 : Option V} {w : Option V} {σ : L2.St} : SetO (b0 :: b1 :: b2 :: b3 :: b4 :: b5 :: b6 :: b7 :: b8 :: b9 :: b10 :: b11 :: b12 :: b13 :: b14 :: b15 :: b16 :: b17 :: b18 :: w :: σ) 19 (b0 :: b1 :: b2 :: b3 :: b4 :: b5 :: b6 :: b7 :: b8 :: b9 :: b10 :: b11 :: b12 :: b13 :: b14 :: b15 :: b16 :: b17 :: b18 :: none :: σ) := ⟨rfl⟩
instance len19 {α : Type} {b0 b1 b2 b3 b4 b5 b6 b7 b8 b9 b10 b11 b12 b13 b14 b15 b16 b17 b18 : α} : LenE (α := α) [b0, b1, b2, b3, b4, b5, b6, b7, b8, b9, b10, b11, b12, b13, b14, b15, b16, b17, b18] 19 := ⟨rfl⟩
instance at20 {b0 b1 b2 b3 b4 b5 b6 b7 b8 b9 b10 b11 b12 b13 b14 b15 b16 b17 b18 b19 : V} {v : V} {xs : List V} : AtE (b0 :: b1 :: b2 :: b3 :: b4 :: b5 :: b6 :: b7 :: b8 :: b9 :: b10 :: b11 :: b12 :: b13 :: b14 :: b15 :: b16 :: b17 :: b18 :: b19 :: v :: xs) 20 v := ⟨atI_at (j := 20) rfl rfl⟩
instance set20 {b0 b1 b2 b3 b4 b5 b6 b7 b8 b9 b10 b11 b12 b13 b14 b15 b16 b17 b18 b19 : V} {w v : V} {xs : List V} : SetE (b0 :: b1 :: b2 :: b3 :: b4 :: b5 :: b6 :: b7 :: b8 :: b9 :: b10 :: b11 :: b12 :: b13 :: b14 :: b15 :: b16 :: b17 :: b18 :: b19 :: w :: xs) 20 v (b0 :: b1 :: b2 :: b3 :: b4 :: b5 :: b6 :: b7 :: b8 :: b9 :: b10 :: b11 :: b12 :: b13 :: b14 :: b15 :: b16 :: b17 :: b18 :: b19 :: v :: xs) := ⟨20, ixN_at (j := 20) rfl (by simp only [List.length_cons]; omega), rfl⟩
instance seto20 {b0 b1 b2 b3 b4 b5 b6 b7 b8 b9 b10 b11 b12 b13 b14 b15 b16 b17 b18 b19 : Option V} {w : Option V} {σ : L2.St} : SetO (b0 :: b1 :: b2 :: b3 :: b4 :: b5 :: b6 :: b7 :: b8 :: b9 :: b10 :: b11 :: b12 :: b13 :: b14 :: b15 :: b16 :: b17 :: b18 :: b19 :: w :: σ) 20 (b0 :: b1 :: b2 :: b3 :: b4 :: b5 :: b6 :: b7 :: b8 :: b9 :: b10 :: b11 :: b12 :: b13 :: b14 :: b15 :: b16 :: b17 :: b18 :: b19 :: none :: σ) := ⟨rfl⟩
instance len20 {α : Type} {b0 b1 b2 b3 b4 b5 b6 b7 b8 b9 b10 b11 b12 b13 b14 b15 b16 b17 b18 b19 : α} : LenE (α := α) [b0, b1, b2, b3, b4, b5, b6, b7, b8, b9, b10, b11, b12, b13, b14, b15, b16, b17, b18, b19] 20 := ⟨rfl⟩
instance at21 {b0 b1 b2 b3 b4 b5 b6 b7 b8 b9 b10 b11 b12 b13 b14 b15 b16 b17 b18 b19 b20 : V} {v : V} {xs : List V} : AtE (b0 :: b1 :: b2 :: b3 :: b4 :: b5 :: b6 :: b7 :: b8 :: b9 :: b10 :: b11 :: b12 :: b13 :: b14 :: b15 :: b16 :: b17 :: b18 :: b19 :: b20 :: v :: xs) 21 v := ⟨atI_at (j := 21) rfl rfl⟩
instance set21 {b0 b1 b2 b3 b4 b5 b6 b7 b8 b9 b10 b11 b12 b13 b14 b15 b16 b17 b18 b19 b20 : V} {w v : V} {xs : List V} : SetE (b0 :: b1 :: b2 :: b3 :: b4 :: b5 :: b6 :: b7 :: b8 :: b9 :: b10 :: b11 :: b12 :: b13 :: b14 :: b15 :: b16 :: b17 :: b18 :: b19 :: b20 :: w :: xs) 21 v (b0 :: b1 :: b2 :: b3 :: b4 :: b5 :: b6 :: b7 :: b8 :: b9 :: b10 :: b11 :: b12 :: b13 :: b14 :: b15 :: b16 :: b17 :: b18 :: b19 :: b20 :: v :: xs) := ⟨21, ixN_at (j := 21) rfl (by simp only [List.length_cons]; omega), rfl⟩
instance seto21 {b0 b1 b2 b3 b4 b5 b6 b7 b8 b9 b10 b11 b12 b13 b14 b15 b16 b17 b18 b19 b20 : Option V} {w : Option V} {σ : L2.St} : SetO (b0 :: b1 :: b2 :: b3 :: b4 :: b5 :: b6 :: b7 :: b8 :: b9 :: b10 :: b11 :: b12 :: b13 :: b14 :: b15 :: b16 :: b17 :: b18 :: b19 :: b20 :: w :: σ) 21 (b0 :: b1 :: b2 :: b3 :: b4 :: b5 :: b6 :: b7 :: b8 :: b9 :: b10 :: b11 :: b12 :: b13 :: b14 :: b15 :: b16 :: b17 :: b18 :: b19 :: b20 :: none :: σ) := ⟨rfl⟩
instance len21 {α : Type} {b0 b1 b2 b3 b4 b5 b6 b7 b8 b9 b10 b11 b12 b13 b14 b15 b16 b17 b18 b19 b20 : α} : LenE (α := α) [b0, b1, b2, b3, b4, b5, b6, b7, b8, b9, b10, b11, b12, b13, b14, b15, b16, b17, b18, b19, b20] 21 := ⟨rfl⟩
instance at22 {b0 b1 b2 b3 b4 b5 b6 b7 b8 b9 b10 b11 b12 b13 b14 b15 b16 b17 b18 b19 b20 b21 : V} {v : V} {xs : List V} : AtE (b0 :: b1 :: b2 :: b3 :: b4 :: b5 :: b6 :: b7 :: b8 :: b9 :: b10 :: b11 :: b12 :: b13 :: b14 :: b15 :: b16 :: b17 :: b18 :: b19 :: b20 :: b21 :: v :: xs) 22 v := ⟨atI_at (j := 22) rfl rfl⟩
instance set22 {b0 b1 b2 b3 b4 b5 b6 b7 b8 b9 b10 b11 b12 b13 b14 b15 b16 b17 b18 b19 b20 b21 : V} {w v : V} {xs : List V} : SetE (b0 :: b1 :: b2 :: b3 :: b4 :: b5 :: b6 :: b7 :: b8 :: b9 :: b10 :: b11 :: b12 :: b13 :: b14 :: b15 :: b16 :: b17 :: b18 :: b19 :: b20 :: b21 :: w :: xs) 22 v (b0 :: b1 :: b2 :: b3 :: b4 :: b5 :: b6 :: b7 :: b8 :: b9 :: b10 :: b11 :: b12 :: b13 :: b14 :: b15 :: b16 :: b17 :: b18 :: b19 :: b20 :: b21 :: v :: xs) := ⟨22, ixN_at (j := 22) rfl (by simp only [List.length_cons]; omega), rfl⟩
instance seto22 {b0 b1 b2 b3 b4 b5 b6 b7 b8 b9 b10 b11 b12 b13 b14 b15 b16 b17 b18 b19 b20 b21 : Option V} {w : Option V} {σ : L2.St} : SetO (b0 :: b1 :: b2 :: b3 :: b4 :: b5 :: b6 :: b7 :: b8 :: b9 :: b10 :: b11 :: b12 :: b13 :: b14 :: b15 :: b16 :: b17 :: b18 :: b19 :: b20 :: b21 :: w :: σ) 22 (b0 :: b1 :: b2 :: b3 :: b4 :: b5 :: b6 :: b7 :: b8 :: b9 :: b10 :: b11 :: b12 :: b13 :: b14 :: b15 :: b16 :: b17 :: b18 :: b19 :: b20 :: b21 :: none :: σ) := ⟨rfl⟩
instance len22 {α : Type} {b0 b1 b2 b3 b4 b5 b6 b7 b8 b9 b10 b11 b12 b13 b14 b15 b16 b17 b18 b19 b20 b21 : α} : LenE (α := α) [b0, b1, b2, b3, b4, b5, b6, b7, b8, b9, b10, b11, b12, b13, b14, b15, b16, b17, b18, b19, b20, b21] 22 := ⟨rfl⟩
instance at23 {b0 b1 b2 b3 b4 b5 b6 b7 b8 b9 b10 b11 b12 b13 b14 b15 b16 b17 b18 b19 b20 b21 b22 : V} {v : V} {xs : List V} : AtE (b0 :: b1 :: b2 :: b3 :: b4 :: b5 :: b6 :: b7 :: b8 :: b9 :: b10 :: b11 :: b12 :: b13 :: b14 :: b15 :: b16 :: b17 :: b18 :: b19 :: b20 :: b21 :: b22 :: v :: xs) 23 v := ⟨atI_at (j := 23) rfl rfl⟩
instance set23 {b0 b1 b2 b3 b4 b5 b6 b7 b8 b9 b10 b11 b12 b13 b14 b15 b16 b17 b18 b19 b20 b21 b22 : V} {w v : V} {xs : List V} : SetE (b0 :: b1 :: b2 :: b3 :: b4 :: b5 :: b6 :: b7 :: b8 :: b9 :: b10 :: b11 :: b12 :: b13 :: b14 :: b15 :: b16 :: b17 :: b18 :: b19 :: b20 :: b21 :: b22 :: w :: xs) 23 v (b0 :: b1 :: b2 :: b3 :: b4 :: b5 :: b6 :: b7 :: b8 :: b9 :: b10 :: b11 :: b12 :: b13 :: b14 :: b15 :: b16 :: b17 :: b18 :: b19 :: b20 :: b21 :: b22 :: v :: xs) := ⟨23, ixN_at (j := 23) rfl (by simp only [List.length_cons]; omega), rfl⟩
instance seto23 {b0 b1 b2 b3 b4 b5 b6 b7 b8 b9 b10 b11 b12 b13 b14 b15 b16 b17 b18 b19 b20 b21 b22 : Option V} {w : Option V} {σ : L2.St} : SetO (b0 :: b1 :: b2 :: b3 :: b4 :: b5 :: b6 :: b7 :: b8 :: b9 :: b10 :: b11 :: b12 :: b13 :: b14 :: b15 :: b16 :: b17 :: b18 :: b19 :: b20 :: b21 :: b22 :: w :: σ) 23 (b0 :: b1 :: b2 :: b3 :: b4 :: b5 :: b6 :: b7 :: b8 :: b9 :: b10 :: b11 :: b12 :: b13 :: b14 :: b15 :: b16 :: b17 :: b18 :: b19 :: b20 :: b21 :: b22 :: none :: σ) := ⟨rfl⟩
instance len23 {α : Type} {b0 b1 b2 b3 b4 b5 b6 b7 b8 b9 b10 b11 b12 b13 b14 b15 b16 b17 b18 b19 b20 b21 b22 : α} : LenE (α := α) [b0, b1, b2, b3, b4, b5, b6, b7, b8, b9, b10, b11, b12, b13, b14, b15, b16, b17, b18, b19, b20, b21, b22] 23 := ⟨rfl⟩
instance wipe0 {σ : L2.St} : WipeE σ [] σ := ⟨rfl⟩
instance wipe1 {σ σ1 : L2.St} {v : Nat} [a : SetO σ v σ1] : WipeE σ [v] σ1 := ⟨a.e⟩
instance wipe2 {σ σ1 σ2 : L2.St} {v u : Nat} [a : SetO σ u σ1] [b : SetO σ1 v σ2] : WipeE σ [v, u] σ2 := ⟨by show (σ.set u none).set v none = σ2; rw [a.e, b.e]⟩
section
variable {σ : L2.St} {H H' : Hp} {Q : VK} {QB : Bool → Hp → Prop} {QL : List V → Hp → Prop} {QO : Option Int → Hp → Prop} {QS : L2.St → Hp → Prop} {te ta tb tc : TE} {t u : TT} {tl : TA} {r r' : R2} {rc : List V → Hp → VK → Prop} {s1 s2 : TS} {nx bk ct : K0} {rt : VK} {v x y : V} {g : TG} {i j : Int} {b : Bool} {E : XK} {sp : Sp} {C : Addr} {P : Prop} [Decidable P] {A B : Prop} {S : Sta}
variable {L L' : List Ent} {p q : Addr} {xs : List V} {f : Str} {dx : Addr} {fs : List (Str × V)} {lo hi : Option Int}
variable {Cs : List Addr} {ls : List (Addr × Sp)}
variable {QV : V → Prop} {m : Str} {fs' : List (Str × V)} {ys zs : List V} {k : Nat} {vs : List V}
instance i_op  : St1 (tOp r ta tb σ H Q) (ta σ H fun x H1 => tb σ H1 fun y H2 => r x y H2 Q) := ⟨fun h => x_op h⟩
instance i_c  : St1 (tC v σ H Q) (Q v H) := ⟨fun h => x_c h⟩
instance i_seq  : St1 (tSeq s1 s2 ⟨nx, rt, bk, ct⟩ σ H) (s1 ⟨s2 ⟨nx, rt, bk, ct⟩, rt, bk, ct⟩ σ H) := ⟨fun h => x_seq h⟩
instance i_asg  : St1 (tAsg te g ⟨nx, rt, bk, ct⟩ σ H) (te σ H fun x H1 => g x σ H1 nx) := ⟨fun h => x_asg h⟩
instance i_cons  : St1 (tCons ta tl σ H QL) (ta σ H fun x H1 => tl σ H1 fun xs H2 => QL (x :: xs) H2) := ⟨fun h => x_cons h⟩
instance i_nil  : St1 (tNil σ H QL) (QL [] H) := ⟨fun h => x_nil h⟩
instance i_cb  : St1 (tCB rc tl σ H Q) (tl σ H fun vs H1 => rc vs H1 Q) := ⟨fun h => x_cb h⟩
instance i_ifS  : St1 (tIfS t s1 s2 ⟨nx, rt, bk, ct⟩ σ H) (t σ H fun b H1 => if b = true then s1 ⟨nx, rt, bk, ct⟩ σ H1 else s2 ⟨nx, rt, bk, ct⟩ σ H1) := ⟨fun h => x_ifS h⟩
instance i_iteT  : St1 (if true = true then A else B) (A) := ⟨fun h => x_iteT h⟩
instance i_iteF  : St1 (if false = true then A else B) (B) := ⟨fun h => x_iteF h⟩
instance i_next  : St1 (tNext ⟨nx, rt, bk, ct⟩ σ H) (nx σ H) := ⟨fun h => x_next h⟩
instance i_ret  : St1 (tRet te ⟨nx, rt, bk, ct⟩ σ H) (te σ H rt) := ⟨fun h => x_ret h⟩
instance i_add  : St1 (rAdd (.int i) (.int j) H Q) (Q (.int (i + j)) H) := ⟨fun h => x_add h⟩
instance i_sub  : St1 (rSub (.int i) (.int j) H Q) (Q (.int (i - j)) H) := ⟨fun h => x_sub h⟩
instance i_eqI  : St1 (rEq (.int i) (.int j) H Q) (Q (.bl (decide (i = j))) H) := ⟨fun h => x_eqI h⟩
instance i_eqB {a b : Bool} : St1 (rEq (.bl a) (.bl b) H Q) (Q (.bl (decide (a = b))) H) := ⟨fun h => x_eqB h⟩
instance i_eqS {a b : Str} : St1 (rEq (.str a) (.str b) H Q) (Q (.bl (decide (a = b))) H) := ⟨fun h => x_eqS h⟩
instance i_neI  : St1 (rNe (.int i) (.int j) H Q) (Q (.bl (decide (i ≠ j))) H) := ⟨fun h => x_neI h⟩
instance i_neB {a b : Bool} : St1 (rNe (.bl a) (.bl b) H Q) (Q (.bl (decide (a ≠ b))) H) := ⟨fun h => x_neB h⟩
instance i_neS {a b : Str} : St1 (rNe (.str a) (.str b) H Q) (Q (.bl (decide (a ≠ b))) H) := ⟨fun h => x_neS h⟩
instance i_eqPI  : St1 (rEqP S (.int i) (.int j) H Q) (Q (.bl (decide (i = j))) H) := ⟨fun h => x_eqPI h⟩
instance i_eqPB {a b : Bool} : St1 (rEqP S (.bl a) (.bl b) H Q) (Q (.bl (decide (a = b))) H) := ⟨fun h => x_eqPB h⟩
instance i_nePI  : St1 (rNeP S (.int i) (.int j) H Q) (Q (.bl (decide (i ≠ j))) H) := ⟨fun h => x_nePI h⟩
instance i_nePB {a b : Bool} : St1 (rNeP S (.bl a) (.bl b) H Q) (Q (.bl (decide (a ≠ b))) H) := ⟨fun h => x_nePB h⟩
instance i_eqPSs {a : Str} : St1 (rEqP S (.str a) (.str a) H Q) (Q (.bl true) H) := ⟨fun h => x_eqPSs h⟩
instance i_nePSs {a : Str} : St1 (rNeP S (.str a) (.str a) H Q) (Q (.bl false) H) := ⟨fun h => x_nePSs h⟩
instance i_isN  : St1 (rIs .non .non H Q) (Q (.bl true) H) := ⟨fun h => x_isN h⟩
instance i_isI  : St1 (rIs (.int i) .non H Q) (Q (.bl false) H) := ⟨fun h => x_isI h⟩
instance i_isR  : St1 (rIs (.ref C) .non H Q) (Q (.bl false) H) := ⟨fun h => x_isR h⟩
instance i_isB  : St1 (rIs (.bl b) .non H Q) (Q (.bl false) H) := ⟨fun h => x_isB h⟩
instance i_isnN  : St1 (rIsNot .non .non H Q) (Q (.bl false) H) := ⟨fun h => x_isnN h⟩
instance i_isnI  : St1 (rIsNot (.int i) .non H Q) (Q (.bl true) H) := ⟨fun h => x_isnI h⟩
instance i_isnR  : St1 (rIsNot (.ref C) .non H Q) (Q (.bl true) H) := ⟨fun h => x_isnR h⟩
instance i_isnB  : St1 (rIsNot (.bl b) .non H Q) (Q (.bl true) H) := ⟨fun h => x_isnB h⟩
instance i_lt  : St1 (rLt (.int i) (.int j) H Q) (Q (.bl (decide (i < j))) H) := ⟨fun h => x_lt h⟩
instance i_le  : St1 (rLe (.int i) (.int j) H Q) (Q (.bl (decide (i ≤ j))) H) := ⟨fun h => x_le h⟩
instance i_gt  : St1 (rGt (.int i) (.int j) H Q) (Q (.bl (decide (j < i))) H) := ⟨fun h => x_gt h⟩
instance i_ge  : St1 (rGe (.int i) (.int j) H Q) (Q (.bl (decide (j ≤ i))) H) := ⟨fun h => x_ge h⟩
instance i_intI  : St1 (rInt [.int i] H Q) (Q (.int i) H) := ⟨fun h => x_intI h⟩
instance i_and  : St1 (tAnd t u σ H QB) (t σ H fun c H1 => if c = true then u σ H1 QB else QB false H1) := ⟨fun h => x_and h⟩
instance i_or  : St1 (tOr t u σ H QB) (t σ H fun c H1 => if c = true then QB true H1 else u σ H1 QB) := ⟨fun h => x_or h⟩
instance i_con  : St1 (eCon v σ H Q) (Q v H) := ⟨fun h => x_con h⟩
instance i_gsub {to ti : TE} {ts : TSet} : St1 (gSub to ti ts v σ H QS) (to σ H fun o H1 => ti σ H1 fun i H2 => ts o i v H2 fun H3 => QS σ H3) := ⟨fun h => x_gsub h⟩
instance i_lst  : St1 (tLst tl σ H Q) (tl σ H fun xs H1 => Klst xs H1 Q) := ⟨fun h => x_lst h⟩
instance i_tup  : St1 (tTup tl σ H Q) (tl σ H fun xs H1 => Ktup xs H1 Q) := ⟨fun h => x_tup h⟩
instance i_drop  : St1 (tDrop te ⟨nx, rt, bk, ct⟩ σ H) (te σ H fun _ H1 => nx σ H1) := ⟨fun h => x_drop h⟩
instance i_tIf  : St1 (tIf t ta tb σ H Q) (t σ H fun c H1 => if c = true then ta σ H1 Q else tb σ H1 Q) := ⟨fun h => x_tIf h⟩
instance i_un {ru : V → Hp → VK → Prop} : St1 (tUn ru ta σ H Q) (ta σ H fun x H1 => ru x H1 Q) := ⟨fun h => x_un h⟩
instance i_retN  : St1 (tRetN ⟨nx, rt, bk, ct⟩ σ H) (rt .non H) := ⟨fun h => x_retN h⟩
instance i_brk  : St1 (tBreak ⟨nx, rt, bk, ct⟩ σ H) (bk σ H) := ⟨fun h => x_brk h⟩
instance i_cont  : St1 (tCont ⟨nx, rt, bk, ct⟩ σ H) (ct σ H) := ⟨fun h => x_cont h⟩
instance i_cmeth  : St1 (ClX.tCMeth C sp E (eCon (.ref C)) tl σ H Q) (tl σ H fun vs H2 => sp (.ref C :: vs) H2 Q E) := ⟨fun h => x_cmeth h⟩
instance i_sl {tlo thi : TO} {rs : V → Option Int → Option Int → Hp → VK → Prop} : St1 (L2.tSl rs te tlo thi σ H Q) (te σ H fun x H1 => tlo σ H1 fun l H2 => thi σ H2 fun u H3 => rs x l u H3 Q) := ⟨fun h => x_sl h⟩
instance i_nopart  : St1 (tNoPart σ H QO) (QO none H) := ⟨fun h => x_nopart h⟩
instance i_niteT  : St1 (if (!true) = true then A else B) (B) := ⟨fun h => x_niteT h⟩
instance i_niteF  : St1 (if (!false) = true then A else B) (A) := ⟨fun h => x_niteF h⟩
instance i_initEnd {B : Prop} : St1 (V.non = .non ∧ B) (B) := ⟨fun h => x_initEnd h⟩
instance i_neg  : St1 (rNeg (.int i) H Q) (Q (.int (-i)) H) := ⟨fun h => x_neg h⟩
instance i_band  : St1 (rAnd (.int i) (.int j) H Q) (Q (.int (Builtin.bitAnd i j)) H) := ⟨fun h => x_band h⟩
instance i_intB  : St1 (rInt [.bl b] H Q) (Q (.int (if b then 1 else 0)) H) := ⟨fun h => x_intB h⟩
instance i_augA  : St1 (rAug (.int i) (.int j) H Q) (Q (.int (i + j)) H) := ⟨fun h => x_augA h⟩
instance i_augS  : St1 (rAugS (.int i) (.int j) H Q) (Q (.int (i - j)) H) := ⟨fun h => x_augS h⟩
instance i_forE  : St1 (sFor S te g s1 ⟨nx, rt, bk, ct⟩ σ H) (te σ H fun x H1 => ForS S g s1 nx rt x σ H1) := ⟨fun h => x_forE h⟩
instance i_lcE {tt : TT} {tel : TE} {vs : List Nat} : St1 (eLc S te g tt tel vs σ H Q) (te σ H fun x H1 => LcS S g tt tel vs Q x σ H1) := ⟨fun h => x_lcE h⟩
instance i_yes  : St1 (tYes σ H QB) (QB true H) := ⟨fun h => x_yes h⟩
instance i_forK0  : St1 (forK g s1 nx bk rt 0 i σ H) (nx σ H) := ⟨fun h => x_forK0 h⟩
instance i_forK {n : Nat} : St1 (forK g s1 nx bk rt (n + 1) i σ H) (g (.int i) σ H fun σ' H' => s1 ⟨forK g s1 nx bk rt n (i + 1), rt, bk, forK g s1 nx bk rt n (i + 1)⟩ σ' H') := ⟨fun h => x_forK h⟩
instance i_chn {tl : TC} : St1 (tChn ta tl σ H Q) (ta σ H fun x H1 => tl σ x H1 Q) := ⟨fun h => x_chn h⟩
instance i_clast  : St1 (cLast r tb σ x H Q) (tb σ H fun y H1 => r x y H1 Q) := ⟨fun h => x_clast h⟩
instance i_bits  : St1 (rBits (.int i) H Q) (Q (.int (Builtin.Int.intBits i : Nat)) H) := ⟨fun h => x_bits h⟩
instance i_forKS {a : Addr} {u : HO} : St1 (forKS S a u g s1 nx bk rt (x :: xs) σ H) (g x σ H fun σ' H' => s1 ⟨fun σ H => RdS S H a u ∧ forKS S a u g s1 nx bk rt xs σ H, rt, bk, fun σ H => RdS S H a u ∧ forKS S a u g s1 nx bk rt xs σ H⟩ σ' H') := ⟨fun h => x_forKS h⟩
instance i_forKS0 {a : Addr} {u : HO} : St1 (forKS S a u g s1 nx bk rt [] σ H) (nx σ H) := ⟨fun h => x_forKS0 h⟩
instance i_lcKS {a D : Addr} {u : HO} {tt : TT} {tel : TE} {vs : List Nat} {σw : L2.St} : St1 (lcKS S a u g tt tel vs σw D Q (x :: xs) H) (g x σw H fun σ2 H2 => wipe σ2 vs = σw ∧ tt σ2 H2 fun b H3 => if b = true then tel σ2 H3 fun z H4 => lcPut D z (fun H => RdS S H a u ∧ lcKS S a u g tt tel vs σw D Q xs H) H4 else RdS S H3 a u ∧ lcKS S a u g tt tel vs σw D Q xs H3) := ⟨fun h => x_lcKS h⟩
instance i_lcKS0 {a D : Addr} {u : HO} {tt : TT} {tel : TE} {vs : List Nat} {σw : L2.St} : St1 (lcKS S a u g tt tel vs σw D Q [] H) (Q (.ref D) H) := ⟨fun h => x_lcKS0 h⟩
instance i_lcR {tt : TT} {tel : TE} {vs : List Nat} : St1 (eLcR none te g tt tel vs σ H Q) (te σ H fun y H1 => LcR g tt tel vs Q y σ H1) := ⟨fun h => x_lcR h⟩
instance i_lcKR {D : Addr} {tt : TT} {tel : TE} {vs : List Nat} {σw : L2.St} : St1 (lcKR g tt tel vs σw D Q (x :: xs) H) (g x σw H fun σ2 H2 => wipe σ2 vs = σw ∧ tt σ2 H2 fun b H3 => if b = true then tel σ2 H3 fun z H4 => lcPut D z (fun H => lcKR g tt tel vs σw D Q xs H) H4 else lcKR g tt tel vs σw D Q xs H3) := ⟨fun h => x_lcKR h⟩
instance i_lcKR0 {D : Addr} {tt : TT} {tel : TE} {vs : List Nat} {σw : L2.St} : St1 (lcKR g tt tel vs σw D Q [] H) (Q (.ref D) H) := ⟨fun h => x_lcKR0 h⟩
instance i_abs  : St1 (rAbs [.int i] H Q) (Q (.int (if i < 0 then -i else i)) H) := ⟨fun h => x_abs h⟩
instance i_min2  : St1 (rMin2 [.int i, .int j] H Q) (Q (.int (min i j)) H) := ⟨fun h => x_min2 h⟩
instance i_min3 {k : Int} : St1 (rMin3 [.int i, .int j, .int k] H Q) (Q (.int (min (min i j) k)) H) := ⟨fun h => x_min3 h⟩
instance i_max2  : St1 (rMax2 [.int i, .int j] H Q) (Q (.int (max i j)) H) := ⟨fun h => x_max2 h⟩
instance i_inAdd  : St1 (rInAdd (.int i) (.int j) H Q) (Q (.int (i + j)) H) := ⟨fun h => x_inAdd h⟩
instance i_inSub  : St1 (rInSub (.int i) (.int j) H Q) (Q (.int (i - j)) H) := ⟨fun h => x_inSub h⟩
instance i_augSub {to ti : TE} {tg : V → V → Hp → VK → Prop} {tp : TIp} {ts : TSet} : St1 (tAugS to ti te tg tp ts ⟨nx, rt, bk, ct⟩ σ H) (to σ H fun o H1 => ti σ H1 fun i H2 => tg o i H2 fun x H3 => te σ H3 fun y H4 => tp x y H4 fun z H5 => ts o i z H5 fun H6 => nx σ H6) := ⟨fun h => x_augSub h⟩
instance i_raise {C : Addr} {fs : List Str} {D : Ends} : St1 (sRaise E (tMkC C fs tl) D σ H) (tl σ H fun vs H1 => KmkC C fs E vs H1) := ⟨fun h => x_raise h⟩
instance i_raiseS {C : Addr} {fs : List Str} {D : Ends} {W : WX} : St1 (sRaiseS W (tMkC C fs tl) D σ H) (tl σ H fun vs H1 => KmkC C fs (WE W σ) vs H1) := ⟨fun h => x_raiseS h⟩
instance i_try {tab : List (Value × Nat)} {cl : List Sui} {tw : WX → TS} : St1 (sTry tab cl tw ⟨nx, rt, bk, ct⟩ σ H) (tw (wT tab cl ⟨nx, rt, bk, ct⟩) ⟨nx, rt, bk, ct⟩ σ H) := ⟨fun h => x_try h⟩
instance i_cS {ES : L2.St → XK} : St1 (tCS sp ES tl σ H Q) (tl σ H fun vs H1 => sp vs H1 Q (ES σ)) := ⟨fun h => x_cS h⟩
instance i_newS {ES : L2.St → XK} : St1 (tNewS C sp ES tl σ H Q) (tl σ H fun vs H1 => KnewS C sp vs H1 Q (ES σ)) := ⟨fun h => x_newS h⟩
instance i_whB {W : Nat → L2.St → Hp → Prop} {m : Nat} : St1 (WhB W m s1 nx rt σ H) (s1 ⟨WhN W m, rt, nx, WhN W m⟩ σ H) := ⟨fun h => x_whB h⟩
instance i_raw {vs : List V} : St1 (spRaw sp vs H Q E) (sp vs H Q E) := ⟨fun h => x_raw h⟩
instance i_v0 {σ : L2.St} : St1 (tVar 0 (some v :: σ) H Q) (Q v H) := ⟨fun h => x_v0 h⟩
instance i_v1 {a0 : Option V} {σ : L2.St} : St1 (tVar 1 (a0 :: some v :: σ) H Q) (Q v H) := ⟨fun h => x_v1 h⟩
instance i_v2 {a0 a1 : Option V} {σ : L2.St} : St1 (tVar 2 (a0 :: a1 :: some v :: σ) H Q) (Q v H) := ⟨fun h => x_v2 h⟩
instance i_v3 {a0 a1 a2 : Option V} {σ : L2.St} : St1 (tVar 3 (a0 :: a1 :: a2 :: some v :: σ) H Q) (Q v H) := ⟨fun h => x_v3 h⟩
instance i_v4 {a0 a1 a2 a3 : Option V} {σ : L2.St} : St1 (tVar 4 (a0 :: a1 :: a2 :: a3 :: some v :: σ) H Q) (Q v H) := ⟨fun h => x_v4 h⟩
instance i_v5 {a0 a1 a2 a3 a4 : Option V} {σ : L2.St} : St1 (tVar 5 (a0 :: a1 :: a2 :: a3 :: a4 :: some v :: σ) H Q) (Q v H) := ⟨fun h => x_v5 h⟩
instance i_v6 {a0 a1 a2 a3 a4 a5 : Option V} {σ : L2.St} : St1 (tVar 6 (a0 :: a1 :: a2 :: a3 :: a4 :: a5 :: some v :: σ) H Q) (Q v H) := ⟨fun h => x_v6 h⟩
instance i_v7 {a0 a1 a2 a3 a4 a5 a6 : Option V} {σ : L2.St} : St1 (tVar 7 (a0 :: a1 :: a2 :: a3 :: a4 :: a5 :: a6 :: some v :: σ) H Q) (Q v H) := ⟨fun h => x_v7 h⟩
instance i_v8 {a0 a1 a2 a3 a4 a5 a6 a7 : Option V} {σ : L2.St} : St1 (tVar 8 (a0 :: a1 :: a2 :: a3 :: a4 :: a5 :: a6 :: a7 :: some v :: σ) H Q) (Q v H) := ⟨fun h => x_v8 h⟩
instance i_v9 {a0 a1 a2 a3 a4 a5 a6 a7 a8 : Option V} {σ : L2.St} : St1 (tVar 9 (a0 :: a1 :: a2 :: a3 :: a4 :: a5 :: a6 :: a7 :: a8 :: some v :: σ) H Q) (Q v H) := ⟨fun h => x_v9 h⟩
instance i_v10 {a0 a1 a2 a3 a4 a5 a6 a7 a8 a9 : Option V} {σ : L2.St} : St1 (tVar 10 (a0 :: a1 :: a2 :: a3 :: a4 :: a5 :: a6 :: a7 :: a8 :: a9 :: some v :: σ) H Q) (Q v H) := ⟨fun h => x_v10 h⟩
instance i_v11 {a0 a1 a2 a3 a4 a5 a6 a7 a8 a9 a10 : Option V} {σ : L2.St} : St1 (tVar 11 (a0 :: a1 :: a2 :: a3 :: a4 :: a5 :: a6 :: a7 :: a8 :: a9 :: a10 :: some v :: σ) H Q) (Q v H) := ⟨fun h => x_v11 h⟩
instance i_v12 {a0 a1 a2 a3 a4 a5 a6 a7 a8 a9 a10 a11 : Option V} {σ : L2.St} : St1 (tVar 12 (a0 :: a1 :: a2 :: a3 :: a4 :: a5 :: a6 :: a7 :: a8 :: a9 :: a10 :: a11 :: some v :: σ) H Q) (Q v H) := ⟨fun h => x_v12 h⟩
instance i_v13 {a0 a1 a2 a3 a4 a5 a6 a7 a8 a9 a10 a11 a12 : Option V} {σ : L2.St} : St1 (tVar 13 (a0 :: a1 :: a2 :: a3 :: a4 :: a5 :: a6 :: a7 :: a8 :: a9 :: a10 :: a11 :: a12 :: some v :: σ) H Q) (Q v H) := ⟨fun h => x_v13 h⟩
instance i_v14 {a0 a1 a2 a3 a4 a5 a6 a7 a8 a9 a10 a11 a12 a13 : Option V} {σ : L2.St} : St1 (tVar 14 (a0 :: a1 :: a2 :: a3 :: a4 :: a5 :: a6 :: a7 :: a8 :: a9 :: a10 :: a11 :: a12 :: a13 :: some v :: σ) H Q) (Q v H) := ⟨fun h => x_v14 h⟩
instance i_v15 {a0 a1 a2 a3 a4 a5 a6 a7 a8 a9 a10 a11 a12 a13 a14 : Option V} {σ : L2.St} : St1 (tVar 15 (a0 :: a1 :: a2 :: a3 :: a4 :: a5 :: a6 :: a7 :: a8 :: a9 :: a10 :: a11 :: a12 :: a13 :: a14 :: some v :: σ) H Q) (Q v H) := ⟨fun h => x_v15 h⟩
instance i_v16 {a0 a1 a2 a3 a4 a5 a6 a7 a8 a9 a10 a11 a12 a13 a14 a15 : Option V} {σ : L2.St} : St1 (tVar 16 (a0 :: a1 :: a2 :: a3 :: a4 :: a5 :: a6 :: a7 :: a8 :: a9 :: a10 :: a11 :: a12 :: a13 :: a14 :: a15 :: some v :: σ) H Q) (Q v H) := ⟨fun h => x_v16 h⟩
instance i_v17 {a0 a1 a2 a3 a4 a5 a6 a7 a8 a9 a10 a11 a12 a13 a14 a15 a16 : Option V} {σ : L2.St} : St1 (tVar 17 (a0 :: a1 :: a2 :: a3 :: a4 :: a5 :: a6 :: a7 :: a8 :: a9 :: a10 :: a11 :: a12 :: a13 :: a14 :: a15 :: a16 :: some v :: σ) H Q) (Q v H) := ⟨fun h => x_v17 h⟩
instance i_v18 {a0 a1 a2 a3 a4 a5 a6 a7 a8 a9 a10 a11 a12 a13 a14 a15 a16 a17 : Option V} {σ : L2.St} : St1 (tVar 18 (a0 :: a1 :: a2 :: a3 :: a4 :: a5 :: a6 :: a7 :: a8 :: a9 :: a10 :: a11 :: a12 :: a13 :: a14 :: a15 :: a16 :: a17 :: some v :: σ) H Q) (Q v H) := ⟨fun h => x_v18 h⟩
instance i_v19 {a0 a1 a2 a3 a4 a5 a6 a7 a8 a9 a10 a11 a12 a13 a14 a15 a16 a17 a18 : Option V} {σ : L2.St} : St1 (tVar 19 (a0 :: a1 :: a2 :: a3 :: a4 :: a5 :: a6 :: a7 :: a8 :: a9 :: a10 :: a11 :: a12 :: a13 :: a14 :: a15 :: a16 :: a17 :: a18 :: some v :: σ) H Q) (Q v H) := ⟨fun h => x_v19 h⟩
instance i_v20 {a0 a1 a2 a3 a4 a5 a6 a7 a8 a9 a10 a11 a12 a13 a14 a15 a16 a17 a18 a19 : Option V} {σ : L2.St} : St1 (tVar 20 (a0 :: a1 :: a2 :: a3 :: a4 :: a5 :: a6 :: a7 :: a8 :: a9 :: a10 :: a11 :: a12 :: a13 :: a14 :: a15 :: a16 :: a17 :: a18 :: a19 :: some v :: σ) H Q) (Q v H) := ⟨fun h => x_v20 h⟩
instance i_v21 {a0 a1 a2 a3 a4 a5 a6 a7 a8 a9 a10 a11 a12 a13 a14 a15 a16 a17 a18 a19 a20 : Option V} {σ : L2.St} : St1 (tVar 21 (a0 :: a1 :: a2 :: a3 :: a4 :: a5 :: a6 :: a7 :: a8 :: a9 :: a10 :: a11 :: a12 :: a13 :: a14 :: a15 :: a16 :: a17 :: a18 :: a19 :: a20 :: some v :: σ) H Q) (Q v H) := ⟨fun h => x_v21 h⟩
instance i_v22 {a0 a1 a2 a3 a4 a5 a6 a7 a8 a9 a10 a11 a12 a13 a14 a15 a16 a17 a18 a19 a20 a21 : Option V} {σ : L2.St} : St1 (tVar 22 (a0 :: a1 :: a2 :: a3 :: a4 :: a5 :: a6 :: a7 :: a8 :: a9 :: a10 :: a11 :: a12 :: a13 :: a14 :: a15 :: a16 :: a17 :: a18 :: a19 :: a20 :: a21 :: some v :: σ) H Q) (Q v H) := ⟨fun h => x_v22 h⟩
instance i_v23 {a0 a1 a2 a3 a4 a5 a6 a7 a8 a9 a10 a11 a12 a13 a14 a15 a16 a17 a18 a19 a20 a21 a22 : Option V} {σ : L2.St} : St1 (tVar 23 (a0 :: a1 :: a2 :: a3 :: a4 :: a5 :: a6 :: a7 :: a8 :: a9 :: a10 :: a11 :: a12 :: a13 :: a14 :: a15 :: a16 :: a17 :: a18 :: a19 :: a20 :: a21 :: a22 :: some v :: σ) H Q) (Q v H) := ⟨fun h => x_v23 h⟩
instance i_g0 {x : Option V} {σ : L2.St} : St1 (gName 0 v (x :: σ) H QS) (QS (some v :: σ) H) := ⟨fun h => x_g0 h⟩
instance i_g1 {a0 : Option V} {x : Option V} {σ : L2.St} : St1 (gName 1 v (a0 :: x :: σ) H QS) (QS (a0 :: some v :: σ) H) := ⟨fun h => x_g1 h⟩
instance i_g2 {a0 a1 : Option V} {x : Option V} {σ : L2.St} : St1 (gName 2 v (a0 :: a1 :: x :: σ) H QS) (QS (a0 :: a1 :: some v :: σ) H) := ⟨fun h => x_g2 h⟩
instance i_g3 {a0 a1 a2 : Option V} {x : Option V} {σ : L2.St} : St1 (gName 3 v (a0 :: a1 :: a2 :: x :: σ) H QS) (QS (a0 :: a1 :: a2 :: some v :: σ) H) := ⟨fun h => x_g3 h⟩
instance i_g4 {a0 a1 a2 a3 : Option V} {x : Option V} {σ : L2.St} : St1 (gName 4 v (a0 :: a1 :: a2 :: a3 :: x :: σ) H QS) (QS (a0 :: a1 :: a2 :: a3 :: some v :: σ) H) := ⟨fun h => x_g4 h⟩
instance i_g5 {a0 a1 a2 a3 a4 : Option V} {x : Option V} {σ : L2.St} : St1 (gName 5 v (a0 :: a1 :: a2 :: a3 :: a4 :: x :: σ) H QS) (QS (a0 :: a1 :: a2 :: a3 :: a4 :: some v :: σ) H) := ⟨fun h => x_g5 h⟩
instance i_g6 {a0 a1 a2 a3 a4 a5 : Option V} {x : Option V} {σ : L2.St} : St1 (gName 6 v (a0 :: a1 :: a2 :: a3 :: a4 :: a5 :: x :: σ) H QS) (QS (a0 :: a1 :: a2 :: a3 :: a4 :: a5 :: some v :: σ) H) := ⟨fun h => x_g6 h⟩
instance i_g7 {a0 a1 a2 a3 a4 a5 a6 : Option V} {x : Option V} {σ : L2.St} : St1 (gName 7 v (a0 :: a1 :: a2 :: a3 :: a4 :: a5 :: a6 :: x :: σ) H QS) (QS (a0 :: a1 :: a2 :: a3 :: a4 :: a5 :: a6 :: some v :: σ) H) := ⟨fun h => x_g7 h⟩
instance i_g8 {a0 a1 a2 a3 a4 a5 a6 a7 : Option V} {x : Option V} {σ : L2.St} : St1 (gName 8 v (a0 :: a1 :: a2 :: a3 :: a4 :: a5 :: a6 :: a7 :: x :: σ) H QS) (QS (a0 :: a1 :: a2 :: a3 :: a4 :: a5 :: a6 :: a7 :: some v :: σ) H) := ⟨fun h => x_g8 h⟩
instance i_g9 {a0 a1 a2 a3 a4 a5 a6 a7 a8 : Option V} {x : Option V} {σ : L2.St} : St1 (gName 9 v (a0 :: a1 :: a2 :: a3 :: a4 :: a5 :: a6 :: a7 :: a8 :: x :: σ) H QS) (QS (a0 :: a1 :: a2 :: a3 :: a4 :: a5 :: a6 :: a7 :: a8 :: some v :: σ) H) := ⟨fun h => x_g9 h⟩
instance i_g10 {a0 a1 a2 a3 a4 a5 a6 a7 a8 a9 : Option V} {x : Option V} {σ : L2.St} : St1 (gName 10 v (a0 :: a1 :: a2 :: a3 :: a4 :: a5 :: a6 :: a7 :: a8 :: a9 :: x :: σ) H QS) (QS (a0 :: a1 :: a2 :: a3 :: a4 :: a5 :: a6 :: a7 :: a8 :: a9 :: some v :: σ) H) := ⟨fun h => x_g10 h⟩
instance i_g11 {a0 a1 a2 a3 a4 a5 a6 a7 a8 a9 a10 : Option V} {x : Option V} {σ : L2.St} : St1 (gName 11 v (a0 :: a1 :: a2 :: a3 :: a4 :: a5 :: a6 :: a7 :: a8 :: a9 :: a10 :: x :: σ) H QS) (QS (a0 :: a1 :: a2 :: a3 :: a4 :: a5 :: a6 :: a7 :: a8 :: a9 :: a10 :: some v :: σ) H) := ⟨fun h => x_g11 h⟩
instance i_g12 {a0 a1 a2 a3 a4 a5 a6 a7 a8 a9 a10 a11 : Option V} {x : Option V} {σ : L2.St} : St1 (gName 12 v (a0 :: a1 :: a2 :: a3 :: a4 :: a5 :: a6 :: a7 :: a8 :: a9 :: a10 :: a11 :: x :: σ) H QS) (QS (a0 :: a1 :: a2 :: a3 :: a4 :: a5 :: a6 :: a7 :: a8 :: a9 :: a10 :: a11 :: some v :: σ) H) := ⟨fun h => x_g12 h⟩
instance i_g13 {a0 a1 a2 a3 a4 a5 a6 a7 a8 a9 a10 a11 a12 : Option V} {x : Option V} {σ : L2.St} : St1 (gName 13 v (a0 :: a1 :: a2 :: a3 :: a4 :: a5 :: a6 :: a7 :: a8 :: a9 :: a10 :: a11 :: a12 :: x :: σ) H QS) (QS (a0 :: a1 :: a2 :: a3 :: a4 :: a5 :: a6 :: a7 :: a8 :: a9 :: a10 :: a11 :: a12 :: some v :: σ) H) := ⟨fun h => x_g13 h⟩
instance i_g14 {a0 a1 a2 a3 a4 a5 a6 a7 a8 a9 a10 a11 a12 a13 : Option V} {x : Option V} {σ : L2.St} : St1 (gName 14 v (a0 :: a1 :: a2 :: a3 :: a4 :: a5 :: a6 :: a7 :: a8 :: a9 :: a10 :: a11 :: a12 :: a13 :: x :: σ) H QS) (QS (a0 :: a1 :: a2 :: a3 :: a4 :: a5 :: a6 :: a7 :: a8 :: a9 :: a10 :: a11 :: a12 :: a13 :: some v :: σ) H) := ⟨fun h => x_g14 h⟩
instance i_g15 {a0 a1 a2 a3 a4 a5 a6 a7 a8 a9 a10 a11 a12 a13 a14 : Option V} {x : Option V} {σ : L2.St} : St1 (gName 15 v (a0 :: a1 :: a2 :: a3 :: a4 :: a5 :: a6 :: a7 :: a8 :: a9 :: a10 :: a11 :: a12 :: a13 :: a14 :: x :: σ) H QS) (QS (a0 :: a1 :: a2 :: a3 :: a4 :: a5 :: a6 :: a7 :: a8 :: a9 :: a10 :: a11 :: a12 :: a13 :: a14 :: some v :: σ) H) := ⟨fun h => x_g15 h⟩
instance i_g16 {a0 a1 a2 a3 a4 a5 a6 a7 a8 a9 a10 a11 a12 a13 a14 a15 : Option V} {x : Option V} {σ : L2.St} : St1 (gName 16 v (a0 :: a1 :: a2 :: a3 :: a4 :: a5 :: a6 :: a7 :: a8 :: a9 :: a10 :: a11 :: a12 :: a13 :: a14 :: a15 :: x :: σ) H QS) (QS (a0 :: a1 :: a2 :: a3 :: a4 :: a5 :: a6 :: a7 :: a8 :: a9 :: a10 :: a11 :: a12 :: a13 :: a14 :: a15 :: some v :: σ) H) := ⟨fun h => x_g16 h⟩
instance i_g17 {a0 a1 a2 a3 a4 a5 a6 a7 a8 a9 a10 a11 a12 a13 a14 a15 a16 : Option V} {x : Option V} {σ : L2.St} : St1 (gName 17 v (a0 :: a1 :: a2 :: a3 :: a4 :: a5 :: a6 :: a7 :: a8 :: a9 :: a10 :: a11 :: a12 :: a13 :: a14 :: a15 :: a16 :: x :: σ) H QS) (QS (a0 :: a1 :: a2 :: a3 :: a4 :: a5 :: a6 :: a7 :: a8 :: a9 :: a10 :: a11 :: a12 :: a13 :: a14 :: a15 :: a16 :: some v :: σ) H) := ⟨fun h => x_g17 h⟩
instance i_g18 {a0 a1 a2 a3 a4 a5 a6 a7 a8 a9 a10 a11 a12 a13 a14 a15 a16 a17 : Option V} {x : Option V} {σ : L2.St} : St1 (gName 18 v (a0 :: a1 :: a2 :: a3 :: a4 :: a5 :: a6 :: a7 :: a8 :: a9 :: a10 :: a11 :: a12 :: a13 :: a14 :: a15 :: a16 :: a17 :: x :: σ) H QS) (QS (a0 :: a1 :: a2 :: a3 :: a4 :: a5 :: a6 :: a7 :: a8 :: a9 :: a10 :: a11 :: a12 :: a13 :: a14 :: a15 :: a16 :: a17 :: some v :: σ) H) := ⟨fun h => x_g18 h⟩
instance i_g19 {a0 a1 a2 a3 a4 a5 a6 a7 a8 a9 a10 a11 a12 a13 a14 a15 a16 a17 a18 : Option V} {x : Option V} {σ : L2.St} : St1 (gName 19 v (a0 :: a1 :: a2 :: a3 :: a4 :: a5 :: a6 :: a7 :: a8 :: a9 :: a10 :: a11 :: a12 :: a13 :: a14 :: a15 :: a16 :: a17 :: a18 :: x :: σ) H QS) (QS (a0 :: a1 :: a2 :: a3 :: a4 :: a5 :: a6 :: a7 :: a8 :: a9 :: a10 :: a11 :: a12 :: a13 :: a14 :: a15 :: a16 :: a17 :: a18 :: some v :: σ) H) := ⟨fun h => x_g19 h⟩
instance i_g20 {a0 a1 a2 a3 a4 a5 a6 a7 a8 a9 a10 a11 a12 a13 a14 a15 a16 a17 a18 a19 : Option V} {x : Option V} {σ : L2.St} : St1 (gName 20 v (a0 :: a1 :: a2 :: a3 :: a4 :: a5 :: a6 :: a7 :: a8 :: a9 :: a10 :: a11 :: a12 :: a13 :: a14 :: a15 :: a16 :: a17 :: a18 :: a19 :: x :: σ) H QS) (QS (a0 :: a1 :: a2 :: a3 :: a4 :: a5 :: a6 :: a7 :: a8 :: a9 :: a10 :: a11 :: a12 :: a13 :: a14 :: a15 :: a16 :: a17 :: a18 :: a19 :: some v :: σ) H) := ⟨fun h => x_g20 h⟩
instance i_g21 {a0 a1 a2 a3 a4 a5 a6 a7 a8 a9 a10 a11 a12 a13 a14 a15 a16 a17 a18 a19 a20 : Option V} {x : Option V} {σ : L2.St} : St1 (gName 21 v (a0 :: a1 :: a2 :: a3 :: a4 :: a5 :: a6 :: a7 :: a8 :: a9 :: a10 :: a11 :: a12 :: a13 :: a14 :: a15 :: a16 :: a17 :: a18 :: a19 :: a20 :: x :: σ) H QS) (QS (a0 :: a1 :: a2 :: a3 :: a4 :: a5 :: a6 :: a7 :: a8 :: a9 :: a10 :: a11 :: a12 :: a13 :: a14 :: a15 :: a16 :: a17 :: a18 :: a19 :: a20 :: some v :: σ) H) := ⟨fun h => x_g21 h⟩
instance i_g22 {a0 a1 a2 a3 a4 a5 a6 a7 a8 a9 a10 a11 a12 a13 a14 a15 a16 a17 a18 a19 a20 a21 : Option V} {x : Option V} {σ : L2.St} : St1 (gName 22 v (a0 :: a1 :: a2 :: a3 :: a4 :: a5 :: a6 :: a7 :: a8 :: a9 :: a10 :: a11 :: a12 :: a13 :: a14 :: a15 :: a16 :: a17 :: a18 :: a19 :: a20 :: a21 :: x :: σ) H QS) (QS (a0 :: a1 :: a2 :: a3 :: a4 :: a5 :: a6 :: a7 :: a8 :: a9 :: a10 :: a11 :: a12 :: a13 :: a14 :: a15 :: a16 :: a17 :: a18 :: a19 :: a20 :: a21 :: some v :: σ) H) := ⟨fun h => x_g22 h⟩
instance i_g23 {a0 a1 a2 a3 a4 a5 a6 a7 a8 a9 a10 a11 a12 a13 a14 a15 a16 a17 a18 a19 a20 a21 a22 : Option V} {x : Option V} {σ : L2.St} : St1 (gName 23 v (a0 :: a1 :: a2 :: a3 :: a4 :: a5 :: a6 :: a7 :: a8 :: a9 :: a10 :: a11 :: a12 :: a13 :: a14 :: a15 :: a16 :: a17 :: a18 :: a19 :: a20 :: a21 :: a22 :: x :: σ) H QS) (QS (a0 :: a1 :: a2 :: a3 :: a4 :: a5 :: a6 :: a7 :: a8 :: a9 :: a10 :: a11 :: a12 :: a13 :: a14 :: a15 :: a16 :: a17 :: a18 :: a19 :: a20 :: a21 :: a22 :: some v :: σ) H) := ⟨fun h => x_g23 h⟩
instance i_d0 {x : Option V} {σ : L2.St} {k : K0} : St1 (gDel 0 (x :: σ) H k) (k (none :: σ) H) := ⟨fun h => x_d0 h⟩
instance i_d1 {a0 : Option V} {x : Option V} {σ : L2.St} {k : K0} : St1 (gDel 1 (a0 :: x :: σ) H k) (k (a0 :: none :: σ) H) := ⟨fun h => x_d1 h⟩
instance i_d2 {a0 a1 : Option V} {x : Option V} {σ : L2.St} {k : K0} : St1 (gDel 2 (a0 :: a1 :: x :: σ) H k) (k (a0 :: a1 :: none :: σ) H) := ⟨fun h => x_d2 h⟩
instance i_d3 {a0 a1 a2 : Option V} {x : Option V} {σ : L2.St} {k : K0} : St1 (gDel 3 (a0 :: a1 :: a2 :: x :: σ) H k) (k (a0 :: a1 :: a2 :: none :: σ) H) := ⟨fun h => x_d3 h⟩
instance i_d4 {a0 a1 a2 a3 : Option V} {x : Option V} {σ : L2.St} {k : K0} : St1 (gDel 4 (a0 :: a1 :: a2 :: a3 :: x :: σ) H k) (k (a0 :: a1 :: a2 :: a3 :: none :: σ) H) := ⟨fun h => x_d4 h⟩
instance i_d5 {a0 a1 a2 a3 a4 : Option V} {x : Option V} {σ : L2.St} {k : K0} : St1 (gDel 5 (a0 :: a1 :: a2 :: a3 :: a4 :: x :: σ) H k) (k (a0 :: a1 :: a2 :: a3 :: a4 :: none :: σ) H) := ⟨fun h => x_d5 h⟩
instance i_d6 {a0 a1 a2 a3 a4 a5 : Option V} {x : Option V} {σ : L2.St} {k : K0} : St1 (gDel 6 (a0 :: a1 :: a2 :: a3 :: a4 :: a5 :: x :: σ) H k) (k (a0 :: a1 :: a2 :: a3 :: a4 :: a5 :: none :: σ) H) := ⟨fun h => x_d6 h⟩
instance i_d7 {a0 a1 a2 a3 a4 a5 a6 : Option V} {x : Option V} {σ : L2.St} {k : K0} : St1 (gDel 7 (a0 :: a1 :: a2 :: a3 :: a4 :: a5 :: a6 :: x :: σ) H k) (k (a0 :: a1 :: a2 :: a3 :: a4 :: a5 :: a6 :: none :: σ) H) := ⟨fun h => x_d7 h⟩
instance i_d8 {a0 a1 a2 a3 a4 a5 a6 a7 : Option V} {x : Option V} {σ : L2.St} {k : K0} : St1 (gDel 8 (a0 :: a1 :: a2 :: a3 :: a4 :: a5 :: a6 :: a7 :: x :: σ) H k) (k (a0 :: a1 :: a2 :: a3 :: a4 :: a5 :: a6 :: a7 :: none :: σ) H) := ⟨fun h => x_d8 h⟩
instance i_d9 {a0 a1 a2 a3 a4 a5 a6 a7 a8 : Option V} {x : Option V} {σ : L2.St} {k : K0} : St1 (gDel 9 (a0 :: a1 :: a2 :: a3 :: a4 :: a5 :: a6 :: a7 :: a8 :: x :: σ) H k) (k (a0 :: a1 :: a2 :: a3 :: a4 :: a5 :: a6 :: a7 :: a8 :: none :: σ) H) := ⟨fun h => x_d9 h⟩
instance i_d10 {a0 a1 a2 a3 a4 a5 a6 a7 a8 a9 : Option V} {x : Option V} {σ : L2.St} {k : K0} : St1 (gDel 10 (a0 :: a1 :: a2 :: a3 :: a4 :: a5 :: a6 :: a7 :: a8 :: a9 :: x :: σ) H k) (k (a0 :: a1 :: a2 :: a3 :: a4 :: a5 :: a6 :: a7 :: a8 :: a9 :: none :: σ) H) := ⟨fun h => x_d10 h⟩
instance i_d11 {a0 a1 a2 a3 a4 a5 a6 a7 a8 a9 a10 : Option V} {x : Option V} {σ : L2.St} {k : K0} : St1 (gDel 11 (a0 :: a1 :: a2 :: a3 :: a4 :: a5 :: a6 :: a7 :: a8 :: a9 :: a10 :: x :: σ) H k) (k (a0 :: a1 :: a2 :: a3 :: a4 :: a5 :: a6 :: a7 :: a8 :: a9 :: a10 :: none :: σ) H) := ⟨fun h => x_d11 h⟩
instance i_d12 {a0 a1 a2 a3 a4 a5 a6 a7 a8 a9 a10 a11 : Option V} {x : Option V} {σ : L2.St} {k : K0} : St1 (gDel 12 (a0 :: a1 :: a2 :: a3 :: a4 :: a5 :: a6 :: a7 :: a8 :: a9 :: a10 :: a11 :: x :: σ) H k) (k (a0 :: a1 :: a2 :: a3 :: a4 :: a5 :: a6 :: a7 :: a8 :: a9 :: a10 :: a11 :: none :: σ) H) := ⟨fun h => x_d12 h⟩
instance i_d13 {a0 a1 a2 a3 a4 a5 a6 a7 a8 a9 a10 a11 a12 : Option V} {x : Option V} {σ : L2.St} {k : K0} : St1 (gDel 13 (a0 :: a1 :: a2 :: a3 :: a4 :: a5 :: a6 :: a7 :: a8 :: a9 :: a10 :: a11 :: a12 :: x :: σ) H k) (k (a0 :: a1 :: a2 :: a3 :: a4 :: a5 :: a6 :: a7 :: a8 :: a9 :: a10 :: a11 :: a12 :: none :: σ) H) := ⟨fun h => x_d13 h⟩
instance i_d14 {a0 a1 a2 a3 a4 a5 a6 a7 a8 a9 a10 a11 a12 a13 : Option V} {x : Option V} {σ : L2.St} {k : K0} : St1 (gDel 14 (a0 :: a1 :: a2 :: a3 :: a4 :: a5 :: a6 :: a7 :: a8 :: a9 :: a10 :: a11 :: a12 :: a13 :: x :: σ) H k) (k (a0 :: a1 :: a2 :: a3 :: a4 :: a5 :: a6 :: a7 :: a8 :: a9 :: a10 :: a11 :: a12 :: a13 :: none :: σ) H) := ⟨fun h => x_d14 h⟩
instance i_d15 {a0 a1 a2 a3 a4 a5 a6 a7 a8 a9 a10 a11 a12 a13 a14 : Option V} {x : Option V} {σ : L2.St} {k : K0} : St1 (gDel 15 (a0 :: a1 :: a2 :: a3 :: a4 :: a5 :: a6 :: a7 :: a8 :: a9 :: a10 :: a11 :: a12 :: a13 :: a14 :: x :: σ) H k) (k (a0 :: a1 :: a2 :: a3 :: a4 :: a5 :: a6 :: a7 :: a8 :: a9 :: a10 :: a11 :: a12 :: a13 :: a14 :: none :: σ) H) := ⟨fun h => x_d15 h⟩
instance i_d16 {a0 a1 a2 a3 a4 a5 a6 a7 a8 a9 a10 a11 a12 a13 a14 a15 : Option V} {x : Option V} {σ : L2.St} {k : K0} : St1 (gDel 16 (a0 :: a1 :: a2 :: a3 :: a4 :: a5 :: a6 :: a7 :: a8 :: a9 :: a10 :: a11 :: a12 :: a13 :: a14 :: a15 :: x :: σ) H k) (k (a0 :: a1 :: a2 :: a3 :: a4 :: a5 :: a6 :: a7 :: a8 :: a9 :: a10 :: a11 :: a12 :: a13 :: a14 :: a15 :: none :: σ) H) := ⟨fun h => x_d16 h⟩
instance i_d17 {a0 a1 a2 a3 a4 a5 a6 a7 a8 a9 a10 a11 a12 a13 a14 a15 a16 : Option V} {x : Option V} {σ : L2.St} {k : K0} : St1 (gDel 17 (a0 :: a1 :: a2 :: a3 :: a4 :: a5 :: a6 :: a7 :: a8 :: a9 :: a10 :: a11 :: a12 :: a13 :: a14 :: a15 :: a16 :: x :: σ) H k) (k (a0 :: a1 :: a2 :: a3 :: a4 :: a5 :: a6 :: a7 :: a8 :: a9 :: a10 :: a11 :: a12 :: a13 :: a14 :: a15 :: a16 :: none :: σ) H) := ⟨fun h => x_d17 h⟩
instance i_d18 {a0 a1 a2 a3 a4 a5 a6 a7 a8 a9 a10 a11 a12 a13 a14 a15 a16 a17 : Option V} {x : Option V} {σ : L2.St} {k : K0} : St1 (gDel 18 (a0 :: a1 :: a2 :: a3 :: a4 :: a5 :: a6 :: a7 :: a8 :: a9 :: a10 :: a11 :: a12 :: a13 :: a14 :: a15 :: a16 :: a17 :: x :: σ) H k) (k (a0 :: a1 :: a2 :: a3 :: a4 :: a5 :: a6 :: a7 :: a8 :: a9 :: a10 :: a11 :: a12 :: a13 :: a14 :: a15 :: a16 :: a17 :: none :: σ) H) := ⟨fun h => x_d18 h⟩
instance i_d19 {a0 a1 a2 a3 a4 a5 a6 a7 a8 a9 a10 a11 a12 a13 a14 a15 a16 a17 a18 : Option V} {x : Option V} {σ : L2.St} {k : K0} : St1 (gDel 19 (a0 :: a1 :: a2 :: a3 :: a4 :: a5 :: a6 :: a7 :: a8 :: a9 :: a10 :: a11 :: a12 :: a13 :: a14 :: a15 :: a16 :: a17 :: a18 :: x :: σ) H k) (k (a0 :: a1 :: a2 :: a3 :: a4 :: a5 :: a6 :: a7 :: a8 :: a9 :: a10 :: a11 :: a12 :: a13 :: a14 :: a15 :: a16 :: a17 :: a18 :: none :: σ) H) := ⟨fun h => x_d19 h⟩
instance i_d20 {a0 a1 a2 a3 a4 a5 a6 a7 a8 a9 a10 a11 a12 a13 a14 a15 a16 a17 a18 a19 : Option V} {x : Option V} {σ : L2.St} {k : K0} : St1 (gDel 20 (a0 :: a1 :: a2 :: a3 :: a4 :: a5 :: a6 :: a7 :: a8 :: a9 :: a10 :: a11 :: a12 :: a13 :: a14 :: a15 :: a16 :: a17 :: a18 :: a19 :: x :: σ) H k) (k (a0 :: a1 :: a2 :: a3 :: a4 :: a5 :: a6 :: a7 :: a8 :: a9 :: a10 :: a11 :: a12 :: a13 :: a14 :: a15 :: a16 :: a17 :: a18 :: a19 :: none :: σ) H) := ⟨fun h => x_d20 h⟩
instance i_d21 {a0 a1 a2 a3 a4 a5 a6 a7 a8 a9 a10 a11 a12 a13 a14 a15 a16 a17 a18 a19 a20 : Option V} {x : Option V} {σ : L2.St} {k : K0} : St1 (gDel 21 (a0 :: a1 :: a2 :: a3 :: a4 :: a5 :: a6 :: a7 :: a8 :: a9 :: a10 :: a11 :: a12 :: a13 :: a14 :: a15 :: a16 :: a17 :: a18 :: a19 :: a20 :: x :: σ) H k) (k (a0 :: a1 :: a2 :: a3 :: a4 :: a5 :: a6 :: a7 :: a8 :: a9 :: a10 :: a11 :: a12 :: a13 :: a14 :: a15 :: a16 :: a17 :: a18 :: a19 :: a20 :: none :: σ) H) := ⟨fun h => x_d21 h⟩
instance i_d22 {a0 a1 a2 a3 a4 a5 a6 a7 a8 a9 a10 a11 a12 a13 a14 a15 a16 a17 a18 a19 a20 a21 : Option V} {x : Option V} {σ : L2.St} {k : K0} : St1 (gDel 22 (a0 :: a1 :: a2 :: a3 :: a4 :: a5 :: a6 :: a7 :: a8 :: a9 :: a10 :: a11 :: a12 :: a13 :: a14 :: a15 :: a16 :: a17 :: a18 :: a19 :: a20 :: a21 :: x :: σ) H k) (k (a0 :: a1 :: a2 :: a3 :: a4 :: a5 :: a6 :: a7 :: a8 :: a9 :: a10 :: a11 :: a12 :: a13 :: a14 :: a15 :: a16 :: a17 :: a18 :: a19 :: a20 :: a21 :: none :: σ) H) := ⟨fun h => x_d22 h⟩
instance i_d23 {a0 a1 a2 a3 a4 a5 a6 a7 a8 a9 a10 a11 a12 a13 a14 a15 a16 a17 a18 a19 a20 a21 a22 : Option V} {x : Option V} {σ : L2.St} {k : K0} : St1 (gDel 23 (a0 :: a1 :: a2 :: a3 :: a4 :: a5 :: a6 :: a7 :: a8 :: a9 :: a10 :: a11 :: a12 :: a13 :: a14 :: a15 :: a16 :: a17 :: a18 :: a19 :: a20 :: a21 :: a22 :: x :: σ) H k) (k (a0 :: a1 :: a2 :: a3 :: a4 :: a5 :: a6 :: a7 :: a8 :: a9 :: a10 :: a11 :: a12 :: a13 :: a14 :: a15 :: a16 :: a17 :: a18 :: a19 :: a20 :: a21 :: a22 :: none :: σ) H) := ⟨fun h => x_d23 h⟩
instance i_au0 {te : TE} {ti : TIp} {σ : L2.St} : St1 (tAug 0 te ti ⟨nx, rt, bk, ct⟩ (some x :: σ) H) (te (some x :: σ) H fun y H1 => ti x y H1 fun z H2 => nx (some z :: σ) H2) := ⟨fun h => x_au0 h⟩
instance i_au1 {te : TE} {ti : TIp} {a0 : Option V} {σ : L2.St} : St1 (tAug 1 te ti ⟨nx, rt, bk, ct⟩ (a0 :: some x :: σ) H) (te (a0 :: some x :: σ) H fun y H1 => ti x y H1 fun z H2 => nx (a0 :: some z :: σ) H2) := ⟨fun h => x_au1 h⟩
instance i_au2 {te : TE} {ti : TIp} {a0 a1 : Option V} {σ : L2.St} : St1 (tAug 2 te ti ⟨nx, rt, bk, ct⟩ (a0 :: a1 :: some x :: σ) H) (te (a0 :: a1 :: some x :: σ) H fun y H1 => ti x y H1 fun z H2 => nx (a0 :: a1 :: some z :: σ) H2) := ⟨fun h => x_au2 h⟩
instance i_au3 {te : TE} {ti : TIp} {a0 a1 a2 : Option V} {σ : L2.St} : St1 (tAug 3 te ti ⟨nx, rt, bk, ct⟩ (a0 :: a1 :: a2 :: some x :: σ) H) (te (a0 :: a1 :: a2 :: some x :: σ) H fun y H1 => ti x y H1 fun z H2 => nx (a0 :: a1 :: a2 :: some z :: σ) H2) := ⟨fun h => x_au3 h⟩
instance i_au4 {te : TE} {ti : TIp} {a0 a1 a2 a3 : Option V} {σ : L2.St} : St1 (tAug 4 te ti ⟨nx, rt, bk, ct⟩ (a0 :: a1 :: a2 :: a3 :: some x :: σ) H) (te (a0 :: a1 :: a2 :: a3 :: some x :: σ) H fun y H1 => ti x y H1 fun z H2 => nx (a0 :: a1 :: a2 :: a3 :: some z :: σ) H2) := ⟨fun h => x_au4 h⟩
instance i_au5 {te : TE} {ti : TIp} {a0 a1 a2 a3 a4 : Option V} {σ : L2.St} : St1 (tAug 5 te ti ⟨nx, rt, bk, ct⟩ (a0 :: a1 :: a2 :: a3 :: a4 :: some x :: σ) H) (te (a0 :: a1 :: a2 :: a3 :: a4 :: some x :: σ) H fun y H1 => ti x y H1 fun z H2 => nx (a0 :: a1 :: a2 :: a3 :: a4 :: some z :: σ) H2) := ⟨fun h => x_au5 h⟩
instance i_au6 {te : TE} {ti : TIp} {a0 a1 a2 a3 a4 a5 : Option V} {σ : L2.St} : St1 (tAug 6 te ti ⟨nx, rt, bk, ct⟩ (a0 :: a1 :: a2 :: a3 :: a4 :: a5 :: some x :: σ) H) (te (a0 :: a1 :: a2 :: a3 :: a4 :: a5 :: some x :: σ) H fun y H1 => ti x y H1 fun z H2 => nx (a0 :: a1 :: a2 :: a3 :: a4 :: a5 :: some z :: σ) H2) := ⟨fun h => x_au6 h⟩
instance i_au7 {te : TE} {ti : TIp} {a0 a1 a2 a3 a4 a5 a6 : Option V} {σ : L2.St} : St1 (tAug 7 te ti ⟨nx, rt, bk, ct⟩ (a0 :: a1 :: a2 :: a3 :: a4 :: a5 :: a6 :: some x :: σ) H) (te (a0 :: a1 :: a2 :: a3 :: a4 :: a5 :: a6 :: some x :: σ) H fun y H1 => ti x y H1 fun z H2 => nx (a0 :: a1 :: a2 :: a3 :: a4 :: a5 :: a6 :: some z :: σ) H2) := ⟨fun h => x_au7 h⟩
instance i_au8 {te : TE} {ti : TIp} {a0 a1 a2 a3 a4 a5 a6 a7 : Option V} {σ : L2.St} : St1 (tAug 8 te ti ⟨nx, rt, bk, ct⟩ (a0 :: a1 :: a2 :: a3 :: a4 :: a5 :: a6 :: a7 :: some x :: σ) H) (te (a0 :: a1 :: a2 :: a3 :: a4 :: a5 :: a6 :: a7 :: some x :: σ) H fun y H1 => ti x y H1 fun z H2 => nx (a0 :: a1 :: a2 :: a3 :: a4 :: a5 :: a6 :: a7 :: some z :: σ) H2) := ⟨fun h => x_au8 h⟩
instance i_au9 {te : TE} {ti : TIp} {a0 a1 a2 a3 a4 a5 a6 a7 a8 : Option V} {σ : L2.St} : St1 (tAug 9 te ti ⟨nx, rt, bk, ct⟩ (a0 :: a1 :: a2 :: a3 :: a4 :: a5 :: a6 :: a7 :: a8 :: some x :: σ) H) (te (a0 :: a1 :: a2 :: a3 :: a4 :: a5 :: a6 :: a7 :: a8 :: some x :: σ) H fun y H1 => ti x y H1 fun z H2 => nx (a0 :: a1 :: a2 :: a3 :: a4 :: a5 :: a6 :: a7 :: a8 :: some z :: σ) H2) := ⟨fun h => x_au9 h⟩
instance i_au10 {te : TE} {ti : TIp} {a0 a1 a2 a3 a4 a5 a6 a7 a8 a9 : Option V} {σ : L2.St} : St1 (tAug 10 te ti ⟨nx, rt, bk, ct⟩ (a0 :: a1 :: a2 :: a3 :: a4 :: a5 :: a6 :: a7 :: a8 :: a9 :: some x :: σ) H) (te (a0 :: a1 :: a2 :: a3 :: a4 :: a5 :: a6 :: a7 :: a8 :: a9 :: some x :: σ) H fun y H1 => ti x y H1 fun z H2 => nx (a0 :: a1 :: a2 :: a3 :: a4 :: a5 :: a6 :: a7 :: a8 :: a9 :: some z :: σ) H2) := ⟨fun h => x_au10 h⟩
instance i_au11 {te : TE} {ti : TIp} {a0 a1 a2 a3 a4 a5 a6 a7 a8 a9 a10 : Option V} {σ : L2.St} : St1 (tAug 11 te ti ⟨nx, rt, bk, ct⟩ (a0 :: a1 :: a2 :: a3 :: a4 :: a5 :: a6 :: a7 :: a8 :: a9 :: a10 :: some x :: σ) H) (te (a0 :: a1 :: a2 :: a3 :: a4 :: a5 :: a6 :: a7 :: a8 :: a9 :: a10 :: some x :: σ) H fun y H1 => ti x y H1 fun z H2 => nx (a0 :: a1 :: a2 :: a3 :: a4 :: a5 :: a6 :: a7 :: a8 :: a9 :: a10 :: some z :: σ) H2) := ⟨fun h => x_au11 h⟩
instance i_au12 {te : TE} {ti : TIp} {a0 a1 a2 a3 a4 a5 a6 a7 a8 a9 a10 a11 : Option V} {σ : L2.St} : St1 (tAug 12 te ti ⟨nx, rt, bk, ct⟩ (a0 :: a1 :: a2 :: a3 :: a4 :: a5 :: a6 :: a7 :: a8 :: a9 :: a10 :: a11 :: some x :: σ) H) (te (a0 :: a1 :: a2 :: a3 :: a4 :: a5 :: a6 :: a7 :: a8 :: a9 :: a10 :: a11 :: some x :: σ) H fun y H1 => ti x y H1 fun z H2 => nx (a0 :: a1 :: a2 :: a3 :: a4 :: a5 :: a6 :: a7 :: a8 :: a9 :: a10 :: a11 :: some z :: σ) H2) := ⟨fun h => x_au12 h⟩
instance i_au13 {te : TE} {ti : TIp} {a0 a1 a2 a3 a4 a5 a6 a7 a8 a9 a10 a11 a12 : Option V} {σ : L2.St} : St1 (tAug 13 te ti ⟨nx, rt, bk, ct⟩ (a0 :: a1 :: a2 :: a3 :: a4 :: a5 :: a6 :: a7 :: a8 :: a9 :: a10 :: a11 :: a12 :: some x :: σ) H) (te (a0 :: a1 :: a2 :: a3 :: a4 :: a5 :: a6 :: a7 :: a8 :: a9 :: a10 :: a11 :: a12 :: some x :: σ) H fun y H1 => ti x y H1 fun z H2 => nx (a0 :: a1 :: a2 :: a3 :: a4 :: a5 :: a6 :: a7 :: a8 :: a9 :: a10 :: a11 :: a12 :: some z :: σ) H2) := ⟨fun h => x_au13 h⟩
instance i_au14 {te : TE} {ti : TIp} {a0 a1 a2 a3 a4 a5 a6 a7 a8 a9 a10 a11 a12 a13 : Option V} {σ : L2.St} : St1 (tAug 14 te ti ⟨nx, rt, bk, ct⟩ (a0 :: a1 :: a2 :: a3 :: a4 :: a5 :: a6 :: a7 :: a8 :: a9 :: a10 :: a11 :: a12 :: a13 :: some x :: σ) H) (te (a0 :: a1 :: a2 :: a3 :: a4 :: a5 :: a6 :: a7 :: a8 :: a9 :: a10 :: a11 :: a12 :: a13 :: some x :: σ) H fun y H1 => ti x y H1 fun z H2 => nx (a0 :: a1 :: a2 :: a3 :: a4 :: a5 :: a6 :: a7 :: a8 :: a9 :: a10 :: a11 :: a12 :: a13 :: some z :: σ) H2) := ⟨fun h => x_au14 h⟩
instance i_au15 {te : TE} {ti : TIp} {a0 a1 a2 a3 a4 a5 a6 a7 a8 a9 a10 a11 a12 a13 a14 : Option V} {σ : L2.St} : St1 (tAug 15 te ti ⟨nx, rt, bk, ct⟩ (a0 :: a1 :: a2 :: a3 :: a4 :: a5 :: a6 :: a7 :: a8 :: a9 :: a10 :: a11 :: a12 :: a13 :: a14 :: some x :: σ) H) (te (a0 :: a1 :: a2 :: a3 :: a4 :: a5 :: a6 :: a7 :: a8 :: a9 :: a10 :: a11 :: a12 :: a13 :: a14 :: some x :: σ) H fun y H1 => ti x y H1 fun z H2 => nx (a0 :: a1 :: a2 :: a3 :: a4 :: a5 :: a6 :: a7 :: a8 :: a9 :: a10 :: a11 :: a12 :: a13 :: a14 :: some z :: σ) H2) := ⟨fun h => x_au15 h⟩
instance i_au16 {te : TE} {ti : TIp} {a0 a1 a2 a3 a4 a5 a6 a7 a8 a9 a10 a11 a12 a13 a14 a15 : Option V} {σ : L2.St} : St1 (tAug 16 te ti ⟨nx, rt, bk, ct⟩ (a0 :: a1 :: a2 :: a3 :: a4 :: a5 :: a6 :: a7 :: a8 :: a9 :: a10 :: a11 :: a12 :: a13 :: a14 :: a15 :: some x :: σ) H) (te (a0 :: a1 :: a2 :: a3 :: a4 :: a5 :: a6 :: a7 :: a8 :: a9 :: a10 :: a11 :: a12 :: a13 :: a14 :: a15 :: some x :: σ) H fun y H1 => ti x y H1 fun z H2 => nx (a0 :: a1 :: a2 :: a3 :: a4 :: a5 :: a6 :: a7 :: a8 :: a9 :: a10 :: a11 :: a12 :: a13 :: a14 :: a15 :: some z :: σ) H2) := ⟨fun h => x_au16 h⟩
instance i_au17 {te : TE} {ti : TIp} {a0 a1 a2 a3 a4 a5 a6 a7 a8 a9 a10 a11 a12 a13 a14 a15 a16 : Option V} {σ : L2.St} : St1 (tAug 17 te ti ⟨nx, rt, bk, ct⟩ (a0 :: a1 :: a2 :: a3 :: a4 :: a5 :: a6 :: a7 :: a8 :: a9 :: a10 :: a11 :: a12 :: a13 :: a14 :: a15 :: a16 :: some x :: σ) H) (te (a0 :: a1 :: a2 :: a3 :: a4 :: a5 :: a6 :: a7 :: a8 :: a9 :: a10 :: a11 :: a12 :: a13 :: a14 :: a15 :: a16 :: some x :: σ) H fun y H1 => ti x y H1 fun z H2 => nx (a0 :: a1 :: a2 :: a3 :: a4 :: a5 :: a6 :: a7 :: a8 :: a9 :: a10 :: a11 :: a12 :: a13 :: a14 :: a15 :: a16 :: some z :: σ) H2) := ⟨fun h => x_au17 h⟩
instance i_au18 {te : TE} {ti : TIp} {a0 a1 a2 a3 a4 a5 a6 a7 a8 a9 a10 a11 a12 a13 a14 a15 a16 a17 : Option V} {σ : L2.St} : St1 (tAug 18 te ti ⟨nx, rt, bk, ct⟩ (a0 :: a1 :: a2 :: a3 :: a4 :: a5 :: a6 :: a7 :: a8 :: a9 :: a10 :: a11 :: a12 :: a13 :: a14 :: a15 :: a16 :: a17 :: some x :: σ) H) (te (a0 :: a1 :: a2 :: a3 :: a4 :: a5 :: a6 :: a7 :: a8 :: a9 :: a10 :: a11 :: a12 :: a13 :: a14 :: a15 :: a16 :: a17 :: some x :: σ) H fun y H1 => ti x y H1 fun z H2 => nx (a0 :: a1 :: a2 :: a3 :: a4 :: a5 :: a6 :: a7 :: a8 :: a9 :: a10 :: a11 :: a12 :: a13 :: a14 :: a15 :: a16 :: a17 :: some z :: σ) H2) := ⟨fun h => x_au18 h⟩
instance i_au19 {te : TE} {ti : TIp} {a0 a1 a2 a3 a4 a5 a6 a7 a8 a9 a10 a11 a12 a13 a14 a15 a16 a17 a18 : Option V} {σ : L2.St} : St1 (tAug 19 te ti ⟨nx, rt, bk, ct⟩ (a0 :: a1 :: a2 :: a3 :: a4 :: a5 :: a6 :: a7 :: a8 :: a9 :: a10 :: a11 :: a12 :: a13 :: a14 :: a15 :: a16 :: a17 :: a18 :: some x :: σ) H) (te (a0 :: a1 :: a2 :: a3 :: a4 :: a5 :: a6 :: a7 :: a8 :: a9 :: a10 :: a11 :: a12 :: a13 :: a14 :: a15 :: a16 :: a17 :: a18 :: some x :: σ) H fun y H1 => ti x y H1 fun z H2 => nx (a0 :: a1 :: a2 :: a3 :: a4 :: a5 :: a6 :: a7 :: a8 :: a9 :: a10 :: a11 :: a12 :: a13 :: a14 :: a15 :: a16 :: a17 :: a18 :: some z :: σ) H2) := ⟨fun h => x_au19 h⟩
instance i_au20 {te : TE} {ti : TIp} {a0 a1 a2 a3 a4 a5 a6 a7 a8 a9 a10 a11 a12 a13 a14 a15 a16 a17 a18 a19 : Option V} {σ : L2.St} : St1 (tAug 20 te ti ⟨nx, rt, bk, ct⟩ (a0 :: a1 :: a2 :: a3 :: a4 :: a5 :: a6 :: a7 :: a8 :: a9 :: a10 :: a11 :: a12 :: a13 :: a14 :: a15 :: a16 :: a17 :: a18 :: a19 :: some x :: σ) H) (te (a0 :: a1 :: a2 :: a3 :: a4 :: a5 :: a6 :: a7 :: a8 :: a9 :: a10 :: a11 :: a12 :: a13 :: a14 :: a15 :: a16 :: a17 :: a18 :: a19 :: some x :: σ) H fun y H1 => ti x y H1 fun z H2 => nx (a0 :: a1 :: a2 :: a3 :: a4 :: a5 :: a6 :: a7 :: a8 :: a9 :: a10 :: a11 :: a12 :: a13 :: a14 :: a15 :: a16 :: a17 :: a18 :: a19 :: some z :: σ) H2) := ⟨fun h => x_au20 h⟩
instance i_au21 {te : TE} {ti : TIp} {a0 a1 a2 a3 a4 a5 a6 a7 a8 a9 a10 a11 a12 a13 a14 a15 a16 a17 a18 a19 a20 : Option V} {σ : L2.St} : St1 (tAug 21 te ti ⟨nx, rt, bk, ct⟩ (a0 :: a1 :: a2 :: a3 :: a4 :: a5 :: a6 :: a7 :: a8 :: a9 :: a10 :: a11 :: a12 :: a13 :: a14 :: a15 :: a16 :: a17 :: a18 :: a19 :: a20 :: some x :: σ) H) (te (a0 :: a1 :: a2 :: a3 :: a4 :: a5 :: a6 :: a7 :: a8 :: a9 :: a10 :: a11 :: a12 :: a13 :: a14 :: a15 :: a16 :: a17 :: a18 :: a19 :: a20 :: some x :: σ) H fun y H1 => ti x y H1 fun z H2 => nx (a0 :: a1 :: a2 :: a3 :: a4 :: a5 :: a6 :: a7 :: a8 :: a9 :: a10 :: a11 :: a12 :: a13 :: a14 :: a15 :: a16 :: a17 :: a18 :: a19 :: a20 :: some z :: σ) H2) := ⟨fun h => x_au21 h⟩
instance i_au22 {te : TE} {ti : TIp} {a0 a1 a2 a3 a4 a5 a6 a7 a8 a9 a10 a11 a12 a13 a14 a15 a16 a17 a18 a19 a20 a21 : Option V} {σ : L2.St} : St1 (tAug 22 te ti ⟨nx, rt, bk, ct⟩ (a0 :: a1 :: a2 :: a3 :: a4 :: a5 :: a6 :: a7 :: a8 :: a9 :: a10 :: a11 :: a12 :: a13 :: a14 :: a15 :: a16 :: a17 :: a18 :: a19 :: a20 :: a21 :: some x :: σ) H) (te (a0 :: a1 :: a2 :: a3 :: a4 :: a5 :: a6 :: a7 :: a8 :: a9 :: a10 :: a11 :: a12 :: a13 :: a14 :: a15 :: a16 :: a17 :: a18 :: a19 :: a20 :: a21 :: some x :: σ) H fun y H1 => ti x y H1 fun z H2 => nx (a0 :: a1 :: a2 :: a3 :: a4 :: a5 :: a6 :: a7 :: a8 :: a9 :: a10 :: a11 :: a12 :: a13 :: a14 :: a15 :: a16 :: a17 :: a18 :: a19 :: a20 :: a21 :: some z :: σ) H2) := ⟨fun h => x_au22 h⟩
instance i_au23 {te : TE} {ti : TIp} {a0 a1 a2 a3 a4 a5 a6 a7 a8 a9 a10 a11 a12 a13 a14 a15 a16 a17 a18 a19 a20 a21 a22 : Option V} {σ : L2.St} : St1 (tAug 23 te ti ⟨nx, rt, bk, ct⟩ (a0 :: a1 :: a2 :: a3 :: a4 :: a5 :: a6 :: a7 :: a8 :: a9 :: a10 :: a11 :: a12 :: a13 :: a14 :: a15 :: a16 :: a17 :: a18 :: a19 :: a20 :: a21 :: a22 :: some x :: σ) H) (te (a0 :: a1 :: a2 :: a3 :: a4 :: a5 :: a6 :: a7 :: a8 :: a9 :: a10 :: a11 :: a12 :: a13 :: a14 :: a15 :: a16 :: a17 :: a18 :: a19 :: a20 :: a21 :: a22 :: some x :: σ) H fun y H1 => ti x y H1 fun z H2 => nx (a0 :: a1 :: a2 :: a3 :: a4 :: a5 :: a6 :: a7 :: a8 :: a9 :: a10 :: a11 :: a12 :: a13 :: a14 :: a15 :: a16 :: a17 :: a18 :: a19 :: a20 :: a21 :: a22 :: some z :: σ) H2) := ⟨fun h => x_au23 h⟩
instance i_ml0 {σ : L2.St} : St1 (eMakeL 0 C sp [] E tl (some (.ref C) :: σ) H Q) (tMake C sp [] E tl (some (.ref C) :: σ) H Q) := ⟨fun h => x_ml0 h⟩
instance i_ml1 {a0 : Option V} {σ : L2.St} : St1 (eMakeL 1 C sp [] E tl (a0 :: some (.ref C) :: σ) H Q) (tMake C sp [] E tl (a0 :: some (.ref C) :: σ) H Q) := ⟨fun h => x_ml1 h⟩
instance i_eqP_nn  : St1 (rEqP S (.non) (.non) H Q) (Q (.bl true) H) := ⟨fun h => x_eqP_nn h⟩
instance i_eqP_ni  : St1 (rEqP S (.non) (.int i) H Q) (Q (.bl false) H) := ⟨fun h => x_eqP_ni h⟩
instance i_eqP_in  : St1 (rEqP S (.int i) (.non) H Q) (Q (.bl false) H) := ⟨fun h => x_eqP_in h⟩
instance i_eqP_nb  : St1 (rEqP S (.non) (.bl b) H Q) (Q (.bl false) H) := ⟨fun h => x_eqP_nb h⟩
instance i_eqP_bn  : St1 (rEqP S (.bl b) (.non) H Q) (Q (.bl false) H) := ⟨fun h => x_eqP_bn h⟩
instance i_eqP_ns {z : Str} : St1 (rEqP S (.non) (.str z) H Q) (Q (.bl false) H) := ⟨fun h => x_eqP_ns h⟩
instance i_eqP_sn {z : Str} : St1 (rEqP S (.str z) (.non) H Q) (Q (.bl false) H) := ⟨fun h => x_eqP_sn h⟩
instance i_eqP_is {z : Str} : St1 (rEqP S (.int i) (.str z) H Q) (Q (.bl false) H) := ⟨fun h => x_eqP_is h⟩
instance i_eqP_si {z : Str} : St1 (rEqP S (.str z) (.int i) H Q) (Q (.bl false) H) := ⟨fun h => x_eqP_si h⟩
instance i_eqP_bs {z : Str} : St1 (rEqP S (.bl b) (.str z) H Q) (Q (.bl false) H) := ⟨fun h => x_eqP_bs h⟩
instance i_eqP_sb {z : Str} : St1 (rEqP S (.str z) (.bl b) H Q) (Q (.bl false) H) := ⟨fun h => x_eqP_sb h⟩
instance i_neP_nn  : St1 (rNeP S (.non) (.non) H Q) (Q (.bl (!true)) H) := ⟨fun h => x_neP_nn h⟩
instance i_neP_ni  : St1 (rNeP S (.non) (.int i) H Q) (Q (.bl (!false)) H) := ⟨fun h => x_neP_ni h⟩
instance i_neP_in  : St1 (rNeP S (.int i) (.non) H Q) (Q (.bl (!false)) H) := ⟨fun h => x_neP_in h⟩
instance i_neP_nb  : St1 (rNeP S (.non) (.bl b) H Q) (Q (.bl (!false)) H) := ⟨fun h => x_neP_nb h⟩
instance i_neP_bn  : St1 (rNeP S (.bl b) (.non) H Q) (Q (.bl (!false)) H) := ⟨fun h => x_neP_bn h⟩
instance i_neP_ns {z : Str} : St1 (rNeP S (.non) (.str z) H Q) (Q (.bl (!false)) H) := ⟨fun h => x_neP_ns h⟩
instance i_neP_sn {z : Str} : St1 (rNeP S (.str z) (.non) H Q) (Q (.bl (!false)) H) := ⟨fun h => x_neP_sn h⟩
instance i_neP_is {z : Str} : St1 (rNeP S (.int i) (.str z) H Q) (Q (.bl (!false)) H) := ⟨fun h => x_neP_is h⟩
instance i_neP_si {z : Str} : St1 (rNeP S (.str z) (.int i) H Q) (Q (.bl (!false)) H) := ⟨fun h => x_neP_si h⟩
instance i_neP_bs {z : Str} : St1 (rNeP S (.bl b) (.str z) H Q) (Q (.bl (!false)) H) := ⟨fun h => x_neP_bs h⟩
instance i_neP_sb {z : Str} : St1 (rNeP S (.str z) (.bl b) H Q) (Q (.bl (!false)) H) := ⟨fun h => x_neP_sb h⟩
instance i_isi_int_int  : St1 (rIsI [.int i, .ty "int"] H Q) (Q (.bl true) H) := ⟨fun h => x_isi_int_int h⟩
instance i_isi_int_bool  : St1 (rIsI [.int i, .ty "bool"] H Q) (Q (.bl false) H) := ⟨fun h => x_isi_int_bool h⟩
instance i_isi_int_str  : St1 (rIsI [.int i, .ty "str"] H Q) (Q (.bl false) H) := ⟨fun h => x_isi_int_str h⟩
instance i_isi_int_list  : St1 (rIsI [.int i, .ty "list"] H Q) (Q (.bl false) H) := ⟨fun h => x_isi_int_list h⟩
instance i_isi_int_tuple  : St1 (rIsI [.int i, .ty "tuple"] H Q) (Q (.bl false) H) := ⟨fun h => x_isi_int_tuple h⟩
instance i_isi_int_dict  : St1 (rIsI [.int i, .ty "dict"] H Q) (Q (.bl false) H) := ⟨fun h => x_isi_int_dict h⟩
instance i_isi_bool_int  : St1 (rIsI [.bl b, .ty "int"] H Q) (Q (.bl true) H) := ⟨fun h => x_isi_bool_int h⟩
instance i_isi_bool_bool  : St1 (rIsI [.bl b, .ty "bool"] H Q) (Q (.bl true) H) := ⟨fun h => x_isi_bool_bool h⟩
instance i_isi_bool_str  : St1 (rIsI [.bl b, .ty "str"] H Q) (Q (.bl false) H) := ⟨fun h => x_isi_bool_str h⟩
instance i_isi_bool_list  : St1 (rIsI [.bl b, .ty "list"] H Q) (Q (.bl false) H) := ⟨fun h => x_isi_bool_list h⟩
instance i_isi_bool_tuple  : St1 (rIsI [.bl b, .ty "tuple"] H Q) (Q (.bl false) H) := ⟨fun h => x_isi_bool_tuple h⟩
instance i_isi_bool_dict  : St1 (rIsI [.bl b, .ty "dict"] H Q) (Q (.bl false) H) := ⟨fun h => x_isi_bool_dict h⟩
instance i_isi_str_int {zs : Str} : St1 (rIsI [.str zs, .ty "int"] H Q) (Q (.bl false) H) := ⟨fun h => x_isi_str_int h⟩
instance i_isi_str_bool {zs : Str} : St1 (rIsI [.str zs, .ty "bool"] H Q) (Q (.bl false) H) := ⟨fun h => x_isi_str_bool h⟩
instance i_isi_str_str {zs : Str} : St1 (rIsI [.str zs, .ty "str"] H Q) (Q (.bl true) H) := ⟨fun h => x_isi_str_str h⟩
instance i_isi_str_list {zs : Str} : St1 (rIsI [.str zs, .ty "list"] H Q) (Q (.bl false) H) := ⟨fun h => x_isi_str_list h⟩
instance i_isi_str_tuple {zs : Str} : St1 (rIsI [.str zs, .ty "tuple"] H Q) (Q (.bl false) H) := ⟨fun h => x_isi_str_tuple h⟩
instance i_isi_str_dict {zs : Str} : St1 (rIsI [.str zs, .ty "dict"] H Q) (Q (.bl false) H) := ⟨fun h => x_isi_str_dict h⟩
instance i_isi_NoneType_int  : St1 (rIsI [.non, .ty "int"] H Q) (Q (.bl false) H) := ⟨fun h => x_isi_NoneType_int h⟩
instance i_isi_NoneType_bool  : St1 (rIsI [.non, .ty "bool"] H Q) (Q (.bl false) H) := ⟨fun h => x_isi_NoneType_bool h⟩
instance i_isi_NoneType_str  : St1 (rIsI [.non, .ty "str"] H Q) (Q (.bl false) H) := ⟨fun h => x_isi_NoneType_str h⟩
instance i_isi_NoneType_list  : St1 (rIsI [.non, .ty "list"] H Q) (Q (.bl false) H) := ⟨fun h => x_isi_NoneType_list h⟩
instance i_isi_NoneType_tuple  : St1 (rIsI [.non, .ty "tuple"] H Q) (Q (.bl false) H) := ⟨fun h => x_isi_NoneType_tuple h⟩
instance i_isi_NoneType_dict  : St1 (rIsI [.non, .ty "dict"] H Q) (Q (.bl false) H) := ⟨fun h => x_isi_NoneType_dict h⟩
/-! with a bool in hand -/
def KBl (x : V) (QK : Bool → Prop) : Prop := ∃ k, x = .bl k ∧ QK k
instance i_bl {QK : Bool → Prop} : St1 (KBl (.bl b) QK) (QK b) := ⟨x_bl⟩
instance i_test : St1 (tTest te σ H QB) (te σ H fun x H' => KBl x fun k => QB k H') := ⟨id⟩
instance i_tB : St1 (tB te σ H QB) (te σ H fun x H' => KBl x fun k => QB k H') := ⟨id⟩
instance i_andV : St1 (tAndV ta tb σ H Q) (ta σ H fun x H1 => KBl x fun c => if c = true then tb σ H1 Q else Q (.bl false) H1) := ⟨id⟩
instance i_orV : St1 (tOrV ta tb σ H Q) (ta σ H fun x H1 => KBl x fun c => if c = true then Q (.bl true) H1 else tb σ H1 Q) := ⟨id⟩
def KNv (c : Bool) (Q : VK) (H : Hp) : Prop := Q (.bl (!c)) H
instance i_notV : St1 (tNotV ta σ H Q) (ta σ H fun x H1 => KBl x fun c => KNv c Q H1) := ⟨id⟩
instance (priority := 10) i_nv : St1 (KNv b Q H) (Q (.bl (!b)) H) := ⟨id⟩
instance i_nvT : St1 (KNv true Q H) (Q (.bl false) H) := ⟨id⟩
instance i_nvF : St1 (KNv false Q H) (Q (.bl true) H) := ⟨id⟩
def KNb (c : Bool) (QB : Bool → Hp → Prop) (H : Hp) : Prop := QB (!c) H
instance i_not : St1 (tNot t σ H QB) (t σ H fun c H1 => KNb c QB H1) := ⟨id⟩
instance (priority := 10) i_nb : St1 (KNb b QB H) (QB (!b) H) := ⟨id⟩
instance i_nbT : St1 (KNb true QB H) (QB false H) := ⟨id⟩
instance i_nbF : St1 (KNb false QB H) (QB true H) := ⟨id⟩
instance i_chain : St1 (tChain r r' ta tb tc σ H Q) (ta σ H fun x H1 => tb σ H1 fun y H2 => r x y H2 fun z H3 => KBl z fun k => if k = true then tc σ H3 fun w' H4 => r' y w' H4 Q else Q (.bl false) H3) := ⟨id⟩
instance i_clink {tl : TC} : St1 (cLink r tb tl σ x H Q) (tb σ H fun y H1 => r x y H1 fun z H2 => KBl z fun k => if k = true then tl σ y H2 Q else Q (.bl false) H2) := ⟨id⟩
/-! with an int in hand -/
def KIn (x : V) (QK : Int → Prop) : Prop := ∃ k, x = .int k ∧ QK k
instance i_in {QK : Int → Prop} : St1 (KIn (.int i) QK) (QK i) := ⟨x_int1⟩
instance i_forR1 : St1 (sForR none te g s1 ⟨nx, rt, bk, ct⟩ σ H) (te σ H fun y H1 => KIn y fun j => ForR g s1 nx rt 0 j σ H1) := ⟨id⟩
instance i_forR2 : St1 (sForR (some ta) tb g s1 ⟨nx, rt, bk, ct⟩ σ H) (ta σ H fun x H1 => tb σ H1 fun y H2 => KIn x fun i => KIn y fun j => ForR g s1 nx rt i j σ H2) := ⟨fun h => by
  refine x_forR2 ?_
  have e : (fun x H1 => tb σ H1 fun y H2 => KIn x fun i => KIn y fun j => ForR g s1 nx rt i j σ H2) = (fun x H1 => tb σ H1 fun y H2 => ∃ i j, x = .int i ∧ y = .int j ∧ ForR g s1 nx rt i j σ H2) := by
    funext x H1
    congr 1
    funext y H2
    exact propext ⟨fun ⟨i, e1, j, e2, h⟩ => ⟨i, j, e1, e2, h⟩, fun ⟨i, j, e1, e2, h⟩ => ⟨i, e1, j, e2, h⟩⟩
  rw [← e]
  exact h⟩
instance i_part : St1 (tPart te σ H QO) (te σ H fun x H1 => KIn x fun i => QO (some i) H1) := ⟨id⟩
/-! calls -/
theorem sp_app : (fun (vs : List V) (H1 : Hp) => sp (vs ++ []) H1 Q E) = fun vs H1 => sp vs H1 Q E := by
  funext vs H1
  rw [List.append_nil]
instance i_call : St1 (tCall sp [] E tl σ H Q) (tl σ H fun vs H1 => sp vs H1 Q E) := ⟨fun h => by
  refine x_call ?_
  rw [sp_app]
  exact h⟩
def KMk (C : Addr) (sp : Sp) (vs : List V) (H1 : Hp) (Q : VK) (E : XK) : Prop := ∀ x dx, H1 x = none → H1 dx = none → dx ≠ x → sp (.ref x :: vs) (upd (upd H1 dx (.own x)) x (.ins C dx [])) (fun v H2 => v = .non ∧ Q (.ref x) H2) E
instance i_make : St1 (tMake C sp [] E tl σ H Q) (tl σ H fun vs H1 => KMk C sp vs H1 Q E) := ⟨fun h => by
  refine x_make ?_
  have e : (fun (vs : List V) (H1 : Hp) => Kmake C sp vs H1 Q E) = fun vs H1 => KMk C sp vs H1 Q E := by
    funext vs H1
    unfold Kmake KMk
    simp only [List.append_nil]
  rw [e]
  exact h⟩
instance i_makeD {d : V} {ds : List V} : St1 (tMake C sp (d :: ds) E tl σ H Q) (tl σ H fun vs H1 => KmakeD C sp (vs ++ d :: ds) H1 Q E) := ⟨x_makeD⟩
instance i_mkG [F : FH H L] : St1 (KMk C sp vs H Q E) (∀ x dx H', FH H' ((x, Is (.ins C dx [])) :: L) → sp (.ref x :: vs) H' (fun v H2 => v = .non ∧ Q (.ref x) H2) E) := ⟨fun h x dx hx hd ne => h x dx _ ((F.other hd).new (by rw [upd_ne (Ne.symm ne)]; exact hx))⟩
instance i_mkDG {ws : List V} [F : FH H L] [ap : AppE xs ys ws] : St1 (KmakeD C sp (xs ++ ys) H Q E) (∀ x dx H', FH H' ((x, Is (.ins C dx [])) :: L) → sp (.ref x :: ws) H' (fun v H2 => v = .non ∧ Q (.ref x) H2) E) := ⟨fun h => x_makeDG F ap.e h⟩
instance i_newSG [F : FH H L] : St1 (KnewS C sp vs H Q E) (∀ x dx H', FH H' ((x, Is (.ins C dx [])) :: L) → sp (.ref x :: vs) H' (fun v H2 => v = .non ∧ Q (.ref x) H2) E) := ⟨fun h => x_newSG F h⟩
/-! objects -/
def KFl (C : Addr) (f : Str) (x : V) (H1 : Hp) (Q : VK) : Prop := ∃ a dx fs v, x = .ref a ∧ H1 a = some (.ins C dx fs) ∧ fs.lookup f = some v ∧ Q v H1
instance i_fld : St1 (eFld C f te σ H Q) (te σ H fun x H1 => KFl C f x H1 Q) := ⟨id⟩
instance i_fldG [F : FH H L] [a : Mm (p, Is (.ins C dx fs)) L] [l : LookF fs f v] : St1 (KFl C f (.ref p) H Q) (Q v H) := ⟨fun h => ⟨p, dx, fs, v, rfl, F.get a.m, l.l, h⟩⟩
def KFlD (Cs : List Addr) (f : Str) (x : V) (H1 : Hp) (Q : VK) : Prop := ∃ a C dx fs v, x = .ref a ∧ H1 a = some (.ins C dx fs) ∧ C ∈ Cs ∧ fs.lookup f = some v ∧ Q v H1
instance i_fldD : St1 (eFldD Cs f te σ H Q) (te σ H fun x H1 => KFlD Cs f x H1 Q) := ⟨id⟩
instance i_fldDG [F : FH H L] [a : Mm (p, Is (.ins C dx fs)) L] [c : Mm C Cs] [l : LookF fs f v] : St1 (KFlD Cs f (.ref p) H Q) (Q v H) := ⟨fun h => ⟨p, C, dx, fs, v, rfl, F.get a.m, c.m, l.l, h⟩⟩
def KSf (C : Addr) (f : Str) (y x : V) (H2 : Hp) (QH : Hp → Prop) : Prop := ∃ a dx fs, x = .ref a ∧ H2 a = some (.ins C dx fs) ∧ fs.length < 1000 ∧ QH (upd H2 a (.ins C dx (putF f y fs)))
instance i_setF : St1 (sSetF C f te tb ⟨nx, rt, bk, ct⟩ σ H) (tb σ H fun y H1 => te σ H1 fun x H2 => KSf C f y x H2 (nx σ)) := ⟨id⟩
instance i_setFG {QH : Hp → Prop} [F : FH H L] [a : Mm (p, Is (.ins C dx fs)) L] [z : Shr 60 fs] [e : PutFd f y fs fs'] [u : PutE p (Is (.ins C dx fs)) (Is (.ins C dx fs')) L L'] : St1 (KSf C f y (.ref p) H QH) (∀ H', FH H' L' → QH H') :=
  ⟨fun h => ⟨p, dx, fs, rfl, F.get a.m, Nat.lt_of_le_of_lt z.l (by decide), by rw [e.e]; exact h _ (F.put u.pu trivial)⟩⟩
def KSfD (Cs : List Addr) (f : Str) (y x : V) (H2 : Hp) (QH : Hp → Prop) : Prop := ∃ a C dx fs, x = .ref a ∧ H2 a = some (.ins C dx fs) ∧ C ∈ Cs ∧ fs.length < 1000 ∧ QH (upd H2 a (.ins C dx (putF f y fs)))
instance i_setFD : St1 (sSetFD Cs f te tb ⟨nx, rt, bk, ct⟩ σ H) (tb σ H fun y H1 => te σ H1 fun x H2 => KSfD Cs f y x H2 (nx σ)) := ⟨id⟩
instance i_setFDG {QH : Hp → Prop} [F : FH H L] [a : Mm (p, Is (.ins C dx fs)) L] [c : Mm C Cs] [z : Shr 60 fs] [e : PutFd f y fs fs'] [u : PutE p (Is (.ins C dx fs)) (Is (.ins C dx fs')) L L'] : St1 (KSfD Cs f y (.ref p) H QH) (∀ H', FH H' L' → QH H') :=
  ⟨fun h => ⟨p, C, dx, fs, rfl, F.get a.m, c.m, Nat.lt_of_le_of_lt z.l (by decide), by rw [e.e]; exact h _ (F.put u.pu trivial)⟩⟩
def KAf (C : Addr) (f : Str) (x : V) (H1 : Hp) (QAV : Addr → V → Prop) : Prop := ∃ a dx fs v, x = .ref a ∧ H1 a = some (.ins C dx fs) ∧ fs.lookup f = some v ∧ QAV a v
def KAs (C : Addr) (f : Str) (a : Addr) (z : V) (H3 : Hp) (QH : Hp → Prop) : Prop := ∃ dx' fs', H3 a = some (.ins C dx' fs') ∧ fs'.length < 1000 ∧ QH (upd H3 a (.ins C dx' (putF f z fs')))
instance i_augF {rd : V → V → Hp → VK → Prop} : St1 (sAugF C f te tb rd ⟨nx, rt, bk, ct⟩ σ H) (te σ H fun x H1 => KAf C f x H1 fun a v => tb σ H1 fun y H2 => rd v y H2 fun z H3 => KAs C f a z H3 (nx σ)) := ⟨id⟩
instance i_augFG {QAV : Addr → V → Prop} [F : FH H L] [a : Mm (p, Is (.ins C dx fs)) L] [l : LookF fs f v] : St1 (KAf C f (.ref p) H QAV) (QAV p v) := ⟨fun h => ⟨p, dx, fs, v, rfl, F.get a.m, l.l, h⟩⟩
instance i_augS2 {QH : Hp → Prop} [F : FH H L] [a : Mm (p, Is (.ins C dx fs)) L] [z : Shr 60 fs] [e : PutFd f y fs fs'] [u : PutE p (Is (.ins C dx fs)) (Is (.ins C dx fs')) L L'] : St1 (KAs C f p y H QH) (∀ H', FH H' L' → QH H') :=
  ⟨fun h => ⟨dx, fs, F.get a.m, Nat.lt_of_le_of_lt z.l (by decide), by rw [e.e]; exact h _ (F.put u.pu trivial)⟩⟩
def KAfD (Cs : List Addr) (f : Str) (x : V) (H1 : Hp) (QAV : Addr → Addr → V → Prop) : Prop := ∃ a C dx fs v, x = .ref a ∧ H1 a = some (.ins C dx fs) ∧ C ∈ Cs ∧ fs.lookup f = some v ∧ QAV a C v
instance i_augFD {rd : V → V → Hp → VK → Prop} : St1 (sAugFD Cs f te tb rd ⟨nx, rt, bk, ct⟩ σ H) (te σ H fun x H1 => KAfD Cs f x H1 fun a C v => tb σ H1 fun y H2 => rd v y H2 fun z H3 => KAs C f a z H3 (nx σ)) := ⟨id⟩
instance i_augFDG {QAV : Addr → Addr → V → Prop} [F : FH H L] [a : Mm (p, Is (.ins C dx fs)) L] [c : Mm C Cs] [l : LookF fs f v] : St1 (KAfD Cs f (.ref p) H QAV) (QAV p C v) := ⟨fun h => ⟨p, C, dx, fs, v, rfl, F.get a.m, c.m, l.l, h⟩⟩
def KMe (C : Addr) (m : Str) (x : V) (H1 : Hp) (B : Prop) : Prop := ∃ a dx fs, x = .ref a ∧ H1 a = some (.ins C dx fs) ∧ fs.lookup m = none ∧ B
theorem sp_app2 {x : V} : (fun (vs : List V) (H2 : Hp) => sp (x :: (vs ++ [])) H2 Q E) = fun vs H2 => sp (x :: vs) H2 Q E := by
  funext vs H1
  rw [List.append_nil]
instance i_meth : St1 (tMeth C m sp [] E ta tl σ H Q) (ta σ H fun x H1 => KMe C m x H1 (tl σ H1 fun vs H2 => sp (x :: vs) H2 Q E)) := ⟨fun h => by
  refine x_meth ?_
  have e : (fun x H1 => KMe C m x H1 (tl σ H1 fun vs H2 => sp (x :: vs) H2 Q E)) = fun x H1 => ∃ a dx fs, x = .ref a ∧ H1 a = some (.ins C dx fs) ∧ fs.lookup m = none ∧ tl σ H1 fun vs H2 => sp (x :: (vs ++ [])) H2 Q E := by
    funext x H1
    rw [sp_app2]
    rfl
  rw [← e]
  exact h⟩
instance i_methG [F : FH H L] [a : Mm (p, Is (.ins C dx fs)) L] [l : NoF fs m] : St1 (KMe C m (.ref p) H B) B := ⟨fun h => ⟨p, dx, fs, rfl, F.get a.m, l.l, h⟩⟩
instance i_mS {ES : L2.St → XK} : St1 (tMS C m sp ES ta tl σ H Q) (ta σ H fun x H1 => KMe C m x H1 (tl σ H1 fun vs H2 => sp (x :: vs) H2 Q (ES σ))) := ⟨id⟩
def KMD (ls : List (Addr × Sp)) (m : Str) (x : V) (H1 : Hp) (B : Sp → Prop) : Prop := ∃ a C dx fs sp, x = .ref a ∧ H1 a = some (.ins C dx fs) ∧ (C, sp) ∈ ls ∧ fs.lookup m = none ∧ B sp
instance i_mD {ES : L2.St → XK} : St1 (tMD ls m ES ta tl σ H Q) (ta σ H fun x H1 => KMD ls m x H1 fun sp => tl σ H1 fun vs H2 => sp (x :: vs) H2 Q (ES σ)) := ⟨id⟩
instance i_mDG {B : Sp → Prop} [F : FH H L] [a : Mm (p, Is (.ins C dx fs)) L] [c : Mm (C, sp) ls] [l : NoF fs m] : St1 (KMD ls m (.ref p) H B) (B sp) := ⟨fun h => ⟨p, C, dx, fs, sp, rfl, F.get a.m, c.m, l.l, h⟩⟩
def KPr (C : Addr) (x : V) (H1 : Hp) (B : Addr → Prop) : Prop := ∃ a dx fs, x = .ref a ∧ H1 a = some (.ins C dx fs) ∧ B a
instance i_prop : St1 (eProp C sp te σ H Q) (te σ H fun x H1 => KPr C x H1 fun a => sp [.ref a] H1 Q E0) := ⟨id⟩
instance i_propG {B : Addr → Prop} [F : FH H L] [a : Mm (p, Is (.ins C dx fs)) L] : St1 (KPr C (.ref p) H B) (B p) := ⟨fun h => ⟨p, dx, fs, rfl, F.get a.m, h⟩⟩
def KPrD (ls : List (Addr × Sp)) (x : V) (H1 : Hp) (B : Addr → Sp → Prop) : Prop := ∃ a C dx fs sp, x = .ref a ∧ H1 a = some (.ins C dx fs) ∧ (C, sp) ∈ ls ∧ B a sp
instance i_propD : St1 (ePropD ls te σ H Q) (te σ H fun x H1 => KPrD ls x H1 fun a sp => sp [.ref a] H1 Q E0) := ⟨id⟩
instance i_propDG {B : Addr → Sp → Prop} [F : FH H L] [a : Mm (p, Is (.ins C dx fs)) L] [c : Mm (C, sp) ls] : St1 (KPrD ls (.ref p) H B) (B p sp) := ⟨fun h => ⟨p, C, dx, fs, sp, rfl, F.get a.m, c.m, h⟩⟩
instance i_supM [F : FH H L] [a : Mm (p, Is (.ins C dx fs)) L] [c : Mm C Cs] : St1 (tSupM Cs sp E tl (some (.ref p) :: σ) H Q) (tl (some (.ref p) :: σ) H fun vs H1 => sp (.ref p :: vs) H1 Q E) := ⟨fun h => x_supM F a.m c.m h⟩
instance i_inOwnF [F : FH H L] [a : Mm (p, Is (.ins C dx fs)) L] : St1 (rInOwn C false sp E y (.ref p) H Q) (sp [.ref p, y] H (fun v H' => KBl v fun b => Q (.bl b) H') E) := ⟨fun h => x_inOwnF F a.m h⟩
instance i_inOwnT [F : FH H L] [a : Mm (p, Is (.ins C dx fs)) L] : St1 (rInOwn C true sp E y (.ref p) H Q) (sp [.ref p, y] H (fun v H' => KBl v fun b => Q (.bl (!b)) H') E) := ⟨fun h => x_inOwnT F a.m h⟩
/-! lists and tuples -/
instance i_ixL [F : FH H L] [a : Mm (p, Is (.lst xs)) L] [e : AtE xs i v] : St1 (rIx S (.ref p) (.int i) H Q) (Q v H) := ⟨fun h => x_ixL F a.m e.e h⟩
instance i_ixT [F : FH H L] [a : Mm (p, Is (.tup xs)) L] [e : AtE xs i v] : St1 (rIx S (.ref p) (.int i) H Q) (Q v H) := ⟨fun h => x_ixT F a.m e.e h⟩
instance i_getL [F : FH H L] [a : Mm (p, Is (.lst xs)) L] [e : AtE xs i v] : St1 (rGetL (.ref p) (.int i) H Q) (Q v H) := ⟨fun h => x_getL F a.m e.e h⟩
instance i_setL {QH : Hp → Prop} [F : FH H L] [a : Mm (p, Is (.lst xs)) L] [e : SetE xs i v ys] [u : PutE p (Is (.lst xs)) (Is (.lst ys)) L L'] : St1 (rSetL (.ref p) (.int i) v H QH) (∀ H', FH H' L' → QH H') := ⟨fun h => by
  obtain ⟨k, e1, e2⟩ := e.e
  subst e2
  exact x_setL F a.m e1 u.pu h⟩
instance i_lstG [F : FH H L] [z : Shr 100 xs] : St1 (Klst xs H Q) (∀ p H', H p = none → FH H' ((p, Is (.lst xs)) :: L) → Q (.ref p) H') := ⟨fun h => x_lstG F (len_leN (Nat.le_trans z.l (by decide))) h⟩
instance i_tupG [F : FH H L] [z : Shr 100 xs] : St1 (Ktup xs H Q) (∀ p H', H p = none → FH H' ((p, Is (.tup xs)) :: L) → Q (.ref p) H') := ⟨fun h => x_tupG F (len_leN (Nat.le_trans z.l (by decide))) h⟩
def KAp (x : V) (H1 : Hp) (B : Prop) : Prop := ∃ l, x = .ref l ∧ (∃ xs, H1 l = some (.lst xs)) ∧ B
instance i_apd : St1 (eApp te tl σ H Q) (te σ H fun x H1 => KAp x H1 (tl σ H1 fun vs H2 => rAppend x vs H2 Q)) := ⟨id⟩
instance i_apdG [F : FH H L] [a : Mm (p, Is (.lst xs)) L] : St1 (KAp (.ref p) H B) B := ⟨fun h => ⟨p, rfl, ⟨xs, F.get a.m⟩, h⟩⟩
instance i_append [F : FH H L] [a : Mm (p, Is (.lst xs)) L] [z : Shr 100 xs] [e : AppE xs [v] ys] [u : PutE p (Is (.lst xs)) (Is (.lst ys)) L L'] : St1 (rAppend (.ref p) [v] H Q) (∀ H', FH H' L' → Q .non H') := ⟨fun h => by
  have e1 := e.e
  subst e1
  exact x_append F a.m (len_ltN (Nat.lt_of_le_of_lt z.l (by decide))) u.pu h⟩
instance i_lcPut {D : Addr} {z : V} {k : Hp → Prop} [F : FH H L] [a : Mm (D, Is (.lst xs)) L] [s : Shr 100 xs] [e : AppE xs [z] ys] [u : PutE D (Is (.lst xs)) (Is (.lst ys)) L L'] : St1 (lcPut D z k H) (∀ H', FH H' L' → k H') := ⟨fun h => by
  have e1 := e.e
  subst e1
  exact x_lcPut F u.pu (Nat.lt_of_le_of_lt s.l (by decide)) h⟩
instance i_wipe {σ2 σw : L2.St} {vs : List Nat} [e : WipeE σ2 vs σw] : St1 (wipe σ2 vs = σw ∧ A) A := ⟨fun h => ⟨e.e, h⟩⟩
instance i_rdT [F : FH H L] [a : Mm (p, Is (.tup xs)) L] : St1 (RdS S H p (.tup xs) ∧ A) A := ⟨fun h => x_rdT F a.m h⟩
instance i_rdL [F : FH H L] [a : Mm (p, Is (.lst xs)) L] : St1 (RdS S H p (.lst xs) ∧ A) A := ⟨fun h => x_rdL F a.m h⟩
instance i_forTU [F : FH H L] [a : Mm (p, Is (.tup xs)) L] : St1 (ForS S g s1 nx rt (.ref p) σ H) (forKS S p (.tup xs) g s1 nx nx rt xs σ H) := ⟨fun h => forTU F a.m h⟩
instance i_lenL [F : FH H L] [a : Mm (p, Is (.lst xs)) L] [n : LenE xs k] : St1 (rLen S [.ref p] H Q) (Q (.int (k : Int)) H) := ⟨fun h => x_lenL F a.m (by rw [n.e]; exact h)⟩
instance i_lenT [F : FH H L] [a : Mm (p, Is (.tup xs)) L] [n : LenE xs k] : St1 (rLen S [.ref p] H Q) (Q (.int (k : Int)) H) := ⟨fun h => x_lenT F a.m (by rw [n.e]; exact h)⟩
instance i_listL [F : FH H L] [a : Mm (p, Is (.lst xs)) L] : St1 (rListOf S [.ref p] H Q) (∀ r H', H r = none → FH H' ((r, Is (.lst xs)) :: L) → Q (.ref r) H') := ⟨fun h => x_listL F a.m h⟩
instance i_listT [F : FH H L] [a : Mm (p, Is (.tup xs)) L] : St1 (rListOf S [.ref p] H Q) (∀ r H', H r = none → FH H' ((r, Is (.lst xs)) :: L) → Q (.ref r) H') := ⟨fun h => x_listT F a.m h⟩
instance i_tupleL [F : FH H L] [a : Mm (p, Is (.lst xs)) L] : St1 (rTupleOf S [.ref p] H Q) (∀ r H', H r = none → FH H' ((r, Is (.tup xs)) :: L) → Q (.ref r) H') := ⟨fun h => x_tupleL F a.m h⟩
instance i_tupleT [F : FH H L] [a : Mm (p, Is (.tup xs)) L] : St1 (rTupleOf S [.ref p] H Q) (Q (.ref p) H) := ⟨fun h => x_tupleT F a.m h⟩
instance i_cat {q : Addr} [F : FH H L] [a : Mm (p, Is (.lst xs)) L] [c : Mm (q, Is (.lst ys)) L] [s1 : Shr 100 xs] [s2 : Shr 100 ys] [e : AppE xs ys zs] : St1 (rAdd (.ref p) (.ref q) H Q) (∀ r H', H r = none → FH H' ((r, Is (.lst zs)) :: L) → Q (.ref r) H') := ⟨fun h => by
  have e1 := e.e
  subst e1
  exact x_cat F a.m c.m (len_leN (by rw [List.length_append]; exact Nat.le_trans (Nat.add_le_add s1.l s2.l) (by decide))) h⟩
instance i_allT [F : FH H L] [a : Mm (p, AllT) L] : St1 (rAll S [.ref p] H Q) (Q (.bl true) H) := ⟨fun h => x_allT F a.m h⟩
instance i_eqLs {q : Addr} {ns : List Int} [F : FH H L] [a : Mm (p, Is (.lst (ns.map V.int))) L] [b : Mm (q, Is (.lst (ns.map V.int))) L] : St1 (rEqP S (.ref p) (.ref q) H Q) (Q (.bl true) H) := ⟨fun h => x_eqPL F a.m b.m flat_ints flat_ints (by rw [eqv_ints, decide_eq_true rfl]) h⟩
instance i_neLs {q : Addr} {ns : List Int} [F : FH H L] [a : Mm (p, Is (.lst (ns.map V.int))) L] [b : Mm (q, Is (.lst (ns.map V.int))) L] : St1 (rNeP S (.ref p) (.ref q) H Q) (Q (.bl false) H) := ⟨fun h => x_nePL (b := true) F a.m b.m flat_ints flat_ints (by rw [eqv_ints, decide_eq_true rfl]) h⟩
instance (priority := 2000) i_eqPIs : St1 (rEqP S (.int i) (.int i) H Q) (Q (.bl true) H) := ⟨fun h => x_eqPI (by rw [decide_eq_true rfl]; exact h)⟩
instance (priority := 2000) i_nePIs : St1 (rNeP S (.int i) (.int i) H Q) (Q (.bl false) H) := ⟨fun h => x_nePI (by rw [decide_eq_false (fun z => z rfl)]; exact h)⟩
instance (priority := 2000) i_eqPBs : St1 (rEqP S (.bl b) (.bl b) H Q) (Q (.bl true) H) := ⟨fun h => x_eqPB (by rw [decide_eq_true rfl]; exact h)⟩
instance (priority := 2000) i_nePBs : St1 (rNeP S (.bl b) (.bl b) H Q) (Q (.bl false) H) := ⟨fun h => x_nePB (by rw [decide_eq_false (fun z => z rfl)]; exact h)⟩
instance i_eqPSd {a b : Str} [n : NeS a b] : St1 (rEqP S (.str a) (.str b) H Q) (Q (.bl false) H) := ⟨fun h => x_eqPSd n.ne h⟩
instance i_nePSd {a b : Str} [n : NeS a b] : St1 (rNeP S (.str a) (.str b) H Q) (Q (.bl true) H) := ⟨fun h => x_nePSd n.ne h⟩
/-! errors -/
instance i_mkC1 {C : Addr} {f : Str} [F : FH H L] : St1 (KmkC C [f] E [v] H) (∀ d H', FH H' ((d, Is (.xd [(f, v)])) :: L) → E (.ref C) (some d) H') := ⟨fun h => x_mkC1 F h⟩
instance i_mkC2 {C : Addr} {f g : Str} {w : V} [F : FH H L] : St1 (KmkC C [f, g] E [v, w] H) (∀ d H', FH H' ((d, Is (.xd [(g, w), (f, v)])) :: L) → E (.ref C) (some d) H') := ⟨fun h => x_mkC2 F h⟩
def KXf (b : Addr) (cls : Value) (d : Option Addr) (Cs : List Addr) (f : Str) (x : V) (H1 : Hp) (Q : VK) : Prop := x = .ref b ∧ ∃ C, C ∈ Cs ∧ cls = .ref C ∧ ∃ (dd : Addr) (fs : List (Str × V)) (v : V), d = some dd ∧ H1 dd = some (.xd fs) ∧ fs.lookup f = some v ∧ Q v H1
instance i_xf {b : Addr} {cls : Value} {d : Option Addr} : St1 (eXf b cls d Cs f te σ H Q) (te σ H fun x H1 => KXf b cls d Cs f x H1 Q) := ⟨id⟩
instance i_xfG {b C : Addr} [F : FH H L] [a : Mm (p, Is (.xd fs)) L] [c : Mm C Cs] [l : LookF fs f v] : St1 (KXf b (.ref C) (some p) Cs f (.ref b) H Q) (Q v H) := ⟨fun h => ⟨rfl, C, c.m, rfl, p, fs, v, rfl, F.get a.m, l.l, h⟩⟩
instance i_isX {b C : Addr} {tbl : List (Value × V × Bool)} {c : V} {k : Bool} [F : FH H L] [a : Mm (p, Is (.xd fs)) L] [n : Mm (Value.ref C, c, k) tbl] : St1 (rIsX tbl b (.ref C) (some p) [.ref b, c] H Q) (Q (.bl k) H) := ⟨fun h => x_isX F a.m n.m h⟩
instance i_isr_list_int [F : FH H L] [a : Mm (p, Is (.lst xs)) L] : St1 (rIsI [.ref p, .ty "int"] H Q) (Q (.bl false) H) := ⟨fun h => x_isr_list_int F a.m h⟩
instance i_isr_list_bool [F : FH H L] [a : Mm (p, Is (.lst xs)) L] : St1 (rIsI [.ref p, .ty "bool"] H Q) (Q (.bl false) H) := ⟨fun h => x_isr_list_bool F a.m h⟩
instance i_isr_list_str [F : FH H L] [a : Mm (p, Is (.lst xs)) L] : St1 (rIsI [.ref p, .ty "str"] H Q) (Q (.bl false) H) := ⟨fun h => x_isr_list_str F a.m h⟩
instance i_isr_list_list [F : FH H L] [a : Mm (p, Is (.lst xs)) L] : St1 (rIsI [.ref p, .ty "list"] H Q) (Q (.bl true) H) := ⟨fun h => x_isr_list_list F a.m h⟩
instance i_isr_list_tuple [F : FH H L] [a : Mm (p, Is (.lst xs)) L] : St1 (rIsI [.ref p, .ty "tuple"] H Q) (Q (.bl false) H) := ⟨fun h => x_isr_list_tuple F a.m h⟩
instance i_isr_list_dict [F : FH H L] [a : Mm (p, Is (.lst xs)) L] : St1 (rIsI [.ref p, .ty "dict"] H Q) (Q (.bl false) H) := ⟨fun h => x_isr_list_dict F a.m h⟩
instance i_isr_tuple_int [F : FH H L] [a : Mm (p, Is (.tup xs)) L] : St1 (rIsI [.ref p, .ty "int"] H Q) (Q (.bl false) H) := ⟨fun h => x_isr_tuple_int F a.m h⟩
instance i_isr_tuple_bool [F : FH H L] [a : Mm (p, Is (.tup xs)) L] : St1 (rIsI [.ref p, .ty "bool"] H Q) (Q (.bl false) H) := ⟨fun h => x_isr_tuple_bool F a.m h⟩
instance i_isr_tuple_str [F : FH H L] [a : Mm (p, Is (.tup xs)) L] : St1 (rIsI [.ref p, .ty "str"] H Q) (Q (.bl false) H) := ⟨fun h => x_isr_tuple_str F a.m h⟩
instance i_isr_tuple_list [F : FH H L] [a : Mm (p, Is (.tup xs)) L] : St1 (rIsI [.ref p, .ty "list"] H Q) (Q (.bl false) H) := ⟨fun h => x_isr_tuple_list F a.m h⟩
instance i_isr_tuple_tuple [F : FH H L] [a : Mm (p, Is (.tup xs)) L] : St1 (rIsI [.ref p, .ty "tuple"] H Q) (Q (.bl true) H) := ⟨fun h => x_isr_tuple_tuple F a.m h⟩
instance i_isr_tuple_dict [F : FH H L] [a : Mm (p, Is (.tup xs)) L] : St1 (rIsI [.ref p, .ty "dict"] H Q) (Q (.bl false) H) := ⟨fun h => x_isr_tuple_dict F a.m h⟩
instance i_slp1 {b0 : V} [F : FH H L] [a : Mm (p, Is (.lst (b0 :: xs))) L] : St1 (rSl S (.ref p) none (some 1) H Q) (∀ q H', H q = none → FH H' ((q, Is (.lst [b0])) :: L) → Q (.ref q) H') := ⟨fun h => x_slL F a.m (by rw [show cutV (b0 :: xs) none (some 1) = [b0] from cutV_pre (ys := [b0]) (n := 1) rfl]; exact h)⟩
instance i_slp2 {b0 b1 : V} [F : FH H L] [a : Mm (p, Is (.lst (b0 :: b1 :: xs))) L] : St1 (rSl S (.ref p) none (some 2) H Q) (∀ q H', H q = none → FH H' ((q, Is (.lst [b0, b1])) :: L) → Q (.ref q) H') := ⟨fun h => x_slL F a.m (by rw [show cutV (b0 :: b1 :: xs) none (some 2) = [b0, b1] from cutV_pre (ys := [b0, b1]) (n := 2) rfl]; exact h)⟩
instance i_slp3 {b0 b1 b2 : V} [F : FH H L] [a : Mm (p, Is (.lst (b0 :: b1 :: b2 :: xs))) L] : St1 (rSl S (.ref p) none (some 3) H Q) (∀ q H', H q = none → FH H' ((q, Is (.lst [b0, b1, b2])) :: L) → Q (.ref q) H') := ⟨fun h => x_slL F a.m (by rw [show cutV (b0 :: b1 :: b2 :: xs) none (some 3) = [b0, b1, b2] from cutV_pre (ys := [b0, b1, b2]) (n := 3) rfl]; exact h)⟩
instance i_slp4 {b0 b1 b2 b3 : V} [F : FH H L] [a : Mm (p, Is (.lst (b0 :: b1 :: b2 :: b3 :: xs))) L] : St1 (rSl S (.ref p) none (some 4) H Q) (∀ q H', H q = none → FH H' ((q, Is (.lst [b0, b1, b2, b3])) :: L) → Q (.ref q) H') := ⟨fun h => x_slL F a.m (by rw [show cutV (b0 :: b1 :: b2 :: b3 :: xs) none (some 4) = [b0, b1, b2, b3] from cutV_pre (ys := [b0, b1, b2, b3]) (n := 4) rfl]; exact h)⟩
instance i_slp5 {b0 b1 b2 b3 b4 : V} [F : FH H L] [a : Mm (p, Is (.lst (b0 :: b1 :: b2 :: b3 :: b4 :: xs))) L] : St1 (rSl S (.ref p) none (some 5) H Q) (∀ q H', H q = none → FH H' ((q, Is (.lst [b0, b1, b2, b3, b4])) :: L) → Q (.ref q) H') := ⟨fun h => x_slL F a.m (by rw [show cutV (b0 :: b1 :: b2 :: b3 :: b4 :: xs) none (some 5) = [b0, b1, b2, b3, b4] from cutV_pre (ys := [b0, b1, b2, b3, b4]) (n := 5) rfl]; exact h)⟩
instance i_slp6 {b0 b1 b2 b3 b4 b5 : V} [F : FH H L] [a : Mm (p, Is (.lst (b0 :: b1 :: b2 :: b3 :: b4 :: b5 :: xs))) L] : St1 (rSl S (.ref p) none (some 6) H Q) (∀ q H', H q = none → FH H' ((q, Is (.lst [b0, b1, b2, b3, b4, b5])) :: L) → Q (.ref q) H') := ⟨fun h => x_slL F a.m (by rw [show cutV (b0 :: b1 :: b2 :: b3 :: b4 :: b5 :: xs) none (some 6) = [b0, b1, b2, b3, b4, b5] from cutV_pre (ys := [b0, b1, b2, b3, b4, b5]) (n := 6) rfl]; exact h)⟩
instance i_slp7 {b0 b1 b2 b3 b4 b5 b6 : V} [F : FH H L] [a : Mm (p, Is (.lst (b0 :: b1 :: b2 :: b3 :: b4 :: b5 :: b6 :: xs))) L] : St1 (rSl S (.ref p) none (some 7) H Q) (∀ q H', H q = none → FH H' ((q, Is (.lst [b0, b1, b2, b3, b4, b5, b6])) :: L) → Q (.ref q) H') := ⟨fun h => x_slL F a.m (by rw [show cutV (b0 :: b1 :: b2 :: b3 :: b4 :: b5 :: b6 :: xs) none (some 7) = [b0, b1, b2, b3, b4, b5, b6] from cutV_pre (ys := [b0, b1, b2, b3, b4, b5, b6]) (n := 7) rfl]; exact h)⟩
instance i_slp8 {b0 b1 b2 b3 b4 b5 b6 b7 : V} [F : FH H L] [a : Mm (p, Is (.lst (b0 :: b1 :: b2 :: b3 :: b4 :: b5 :: b6 :: b7 :: xs))) L] : St1 (rSl S (.ref p) none (some 8) H Q) (∀ q H', H q = none → FH H' ((q, Is (.lst [b0, b1, b2, b3, b4, b5, b6, b7])) :: L) → Q (.ref q) H') := ⟨fun h => x_slL F a.m (by rw [show cutV (b0 :: b1 :: b2 :: b3 :: b4 :: b5 :: b6 :: b7 :: xs) none (some 8) = [b0, b1, b2, b3, b4, b5, b6, b7] from cutV_pre (ys := [b0, b1, b2, b3, b4, b5, b6, b7]) (n := 8) rfl]; exact h)⟩
instance i_slp9 {b0 b1 b2 b3 b4 b5 b6 b7 b8 : V} [F : FH H L] [a : Mm (p, Is (.lst (b0 :: b1 :: b2 :: b3 :: b4 :: b5 :: b6 :: b7 :: b8 :: xs))) L] : St1 (rSl S (.ref p) none (some 9) H Q) (∀ q H', H q = none → FH H' ((q, Is (.lst [b0, b1, b2, b3, b4, b5, b6, b7, b8])) :: L) → Q (.ref q) H') := ⟨fun h => x_slL F a.m (by rw [show cutV (b0 :: b1 :: b2 :: b3 :: b4 :: b5 :: b6 :: b7 :: b8 :: xs) none (some 9) = [b0, b1, b2, b3, b4, b5, b6, b7, b8] from cutV_pre (ys := [b0, b1, b2, b3, b4, b5, b6, b7, b8]) (n := 9) rfl]; exact h)⟩
instance i_slp10 {b0 b1 b2 b3 b4 b5 b6 b7 b8 b9 : V} [F : FH H L] [a : Mm (p, Is (.lst (b0 :: b1 :: b2 :: b3 :: b4 :: b5 :: b6 :: b7 :: b8 :: b9 :: xs))) L] : St1 (rSl S (.ref p) none (some 10) H Q) (∀ q H', H q = none → FH H' ((q, Is (.lst [b0, b1, b2, b3, b4, b5, b6, b7, b8, b9])) :: L) → Q (.ref q) H') := ⟨fun h => x_slL F a.m (by rw [show cutV (b0 :: b1 :: b2 :: b3 :: b4 :: b5 :: b6 :: b7 :: b8 :: b9 :: xs) none (some 10) = [b0, b1, b2, b3, b4, b5, b6, b7, b8, b9] from cutV_pre (ys := [b0, b1, b2, b3, b4, b5, b6, b7, b8, b9]) (n := 10) rfl]; exact h)⟩
instance i_slp11 {b0 b1 b2 b3 b4 b5 b6 b7 b8 b9 b10 : V} [F : FH H L] [a : Mm (p, Is (.lst (b0 :: b1 :: b2 :: b3 :: b4 :: b5 :: b6 :: b7 :: b8 :: b9 :: b10 :: xs))) L] : St1 (rSl S (.ref p) none (some 11) H Q) (∀ q H', H q = none → FH H' ((q, Is (.lst [b0, b1, b2, b3, b4, b5, b6, b7, b8, b9, b10])) :: L) → Q (.ref q) H') := ⟨fun h => x_slL F a.m (by rw [show cutV (b0 :: b1 :: b2 :: b3 :: b4 :: b5 :: b6 :: b7 :: b8 :: b9 :: b10 :: xs) none (some 11) = [b0, b1, b2, b3, b4, b5, b6, b7, b8, b9, b10] from cutV_pre (ys := [b0, b1, b2, b3, b4, b5, b6, b7, b8, b9, b10]) (n := 11) rfl]; exact h)⟩
instance i_slp12 {b0 b1 b2 b3 b4 b5 b6 b7 b8 b9 b10 b11 : V} [F : FH H L] [a : Mm (p, Is (.lst (b0 :: b1 :: b2 :: b3 :: b4 :: b5 :: b6 :: b7 :: b8 :: b9 :: b10 :: b11 :: xs))) L] : St1 (rSl S (.ref p) none (some 12) H Q) (∀ q H', H q = none → FH H' ((q, Is (.lst [b0, b1, b2, b3, b4, b5, b6, b7, b8, b9, b10, b11])) :: L) → Q (.ref q) H') := ⟨fun h => x_slL F a.m (by rw [show cutV (b0 :: b1 :: b2 :: b3 :: b4 :: b5 :: b6 :: b7 :: b8 :: b9 :: b10 :: b11 :: xs) none (some 12) = [b0, b1, b2, b3, b4, b5, b6, b7, b8, b9, b10, b11] from cutV_pre (ys := [b0, b1, b2, b3, b4, b5, b6, b7, b8, b9, b10, b11]) (n := 12) rfl]; exact h)⟩
instance i_sl1 {b0 : V} [F : FH H L] [a : Mm (p, Is (.lst (b0 :: xs))) L] : St1 (rSl S (.ref p) (some 1) none H Q) (∀ q H', H q = none → FH H' ((q, Is (.lst xs)) :: L) → Q (.ref q) H') := ⟨fun h => x_sl1 F a.m h⟩
/-! enumerate; isinstance of several types; insert; messages; dicts without a key -/
instance i_forEn {gi gj : TG} : St1 (sForEn S te gi gj s1 ⟨nx, rt, bk, ct⟩ σ H) (te σ H fun x H1 => EnS S gi gj s1 nx rt x σ H1) := ⟨id⟩
theorem enL {gi gj : TG} (Pv : Nat → L2.St → Prop) (F : FH H L) (m : (p, Is (.lst xs)) ∈ L ∨ (p, Is (.tup xs)) ∈ L) (h0 : Pv 0 σ)
    (hs : ∀ (i : Nat) y σ H, xs[i]? = some y → Pv i σ → FH H L → gi (.int (i : Int)) σ H fun σ' H' => gj y σ' H' fun σ2 H2 => s1 ⟨fun σ H => Pv (i + 1) σ ∧ FH H L, rt, nx, fun σ H => Pv (i + 1) σ ∧ FH H L⟩ σ2 H2) (hd : ∀ σ H, Pv xs.length σ → FH H L → nx σ H) : EnS S gi gj s1 nx rt (.ref p) σ H := by
  refine ⟨p, xs, rfl, fun i σ H => Pv i σ ∧ FH H L, ⟨h0, F⟩, ?_, fun i y σ H T e q hT => hs i y σ _ e q.1 (q.2.other hT), fun σ H q => hd σ H q.1 q.2⟩
  rcases m with m | m
  · exact .inl fun i H _ ⟨σ, q⟩ => .inl (.inl (q.2.get m))
  · exact .inr fun i H _ ⟨σ, q⟩ => .inl (.inl (q.2.get m))
instance i_dnew [F : FH H L] : St1 (tDNewK σ H Q) (∀ p H', FH H' ((p, Is (.dK [])) :: L) → Q (.ref p) H') := ⟨fun h p hp => h p _ (F.new hp)⟩
def KFm (vs : List V) (A : Prop) : Prop := (∀ y ∈ vs, fmtOk y) ∧ A
instance i_raiseF {C : Addr} {gs : List Str} {D : Ends} : St1 (sRaise E (tMkF C gs tl) D σ H) (tl σ H fun vs H1 => KFm vs (KmkC C gs E vs H1)) := ⟨id⟩
instance i_raiseSF {C : Addr} {gs : List Str} {D : Ends} {W : WX} : St1 (sRaiseS W (tMkF C gs tl) D σ H) (tl σ H fun vs H1 => KFm vs (KmkC C gs (WE W σ) vs H1)) := ⟨id⟩
theorem x_fmI (h1 : -18446744073709551616 < i ∧ i < 18446744073709551616) (h : A) : KFm [.int i] A := ⟨fun y hy => by
  have e : y = .int i := by simpa using hy
  subst e
  show i.natAbs.log2 < 1920
  by_cases e : i.natAbs = 0
  · rw [e]; decide
  · have h2 := Nat.log2_self_le e
    have h3 : 2 ^ i.natAbs.log2 < 2 ^ 64 := by
      have : (2 : Nat) ^ 64 = 18446744073709551616 := by decide
      omega
    have := (Nat.pow_lt_pow_iff_right (by decide : 1 < 2)).mp h3
    omega, h⟩
class TyE (H : Hp) (v : V) (t : outParam String) : Prop where
  t : TyN H v t
instance ty_non : TyE H .non "NoneType" := ⟨.non⟩
instance ty_bl : TyE H (.bl b) "bool" := ⟨.bl b⟩
instance ty_int : TyE H (.int i) "int" := ⟨.int i⟩
instance ty_str {z : Str} : TyE H (.str z) "str" := ⟨.str z⟩
instance ty_lst [F : FH H L] [a : Mm (p, Is (.lst xs)) L] : TyE H (.ref p) "list" := ⟨.lst (.inl (F.get a.m))⟩
instance ty_tup [F : FH H L] [a : Mm (p, Is (.tup xs)) L] : TyE H (.ref p) "tuple" := ⟨.tup (.inl (F.get a.m))⟩
instance ty_dk {kvs : List (Key × V)} [F : FH H L] [a : Mm (p, Is (.dK kvs)) L] : TyE H (.ref p) "dict" := ⟨.dK (F.get a.m)⟩
class Kit1 (t n : String) (c : outParam Bool) : Prop where
  k : kitB t n = some c
  e : isA t n = c
class OrE (a b : Bool) (c : outParam Bool) : Prop where
  e : (a || b) = c
instance or_t {b : Bool} : OrE true b true := ⟨rfl⟩
instance or_f {b : Bool} : OrE false b b := ⟨rfl⟩
class KitA (t : String) (vs : List V) (c : outParam Bool) : Prop where
  e : ∃ ns, Tys vs ns ∧ (∀ n ∈ ns, kitB t n = some (isA t n)) ∧ ns.any (isA t) = c
instance kita_nil {t : String} : KitA t [] false := ⟨[], .nil, (fun _ h => nomatch h), rfl⟩
instance kita_cons {t n : String} {vs : List V} {c d e : Bool} [a : Kit1 t n c] [b : KitA t vs d] [o : OrE c d e] : KitA t (.ty n :: vs) e := ⟨by
  obtain ⟨ns, h1, h2, h3⟩ := b.e
  refine ⟨n :: ns, .cons h1, fun m hm => ?_, ?_⟩
  · rcases List.mem_cons.mp hm with z | z
    · subst z; rw [a.e]; exact a.k
    · exact h2 m z
  · rw [List.any_cons, a.e, h3, o.e]⟩
instance i_isT {vs : List V} {t : String} {c : Bool} [F : FH H L] [ty : TyE H x t] [a : Mm (p, Is (.tup vs)) L] [k : KitA t vs c] : St1 (rIsT [x, .ref p] H Q) (Q (.bl c) H) := ⟨fun h => by
  obtain ⟨ns, h1, h2, h3⟩ := k.e
  exact ⟨x, p, vs, ns, t, rfl, F.get a.m, h1, ty.t, h2, by rw [h3]; exact h⟩⟩
def KIns (x : V) (H1 : Hp) (B : Prop) : Prop := ∃ l, x = .ref l ∧ (∃ xs, H1 l = some (.lst xs)) ∧ B
instance i_ins : St1 (eIns te tl σ H Q) (te σ H fun x H1 => KIns x H1 (tl σ H1 fun vs H2 => rIns x vs H2 Q)) := ⟨id⟩
instance i_insG [F : FH H L] [a : Mm (p, Is (.lst xs)) L] : St1 (KIns (.ref p) H B) B := ⟨fun h => ⟨p, rfl, ⟨xs, F.get a.m⟩, h⟩⟩
theorem x_insL (F : FH H L) (pu : Put p (Is (.lst xs)) (Is (.lst (xs.take i.toNat ++ [y] ++ xs.drop i.toNat))) L L') (sz : xs.length < 16777216) (h0 : 0 ≤ i) (h1 : i < 9223372036854775808) (h : ∀ H', FH H' L' → Q .non H') : rIns (.ref p) [.int i, y] H Q := by
  have e : (2 : Int) ^ 63 = 9223372036854775808 := by decide
  exact ⟨p, xs, i, y, rfl, rfl, F.get pu.mem, by rw [sizeLine_eq]; exact sz, h0, by rw [e]; exact h1, h _ (F.put pu trivial)⟩
/-! instances: their class, its constants; static tuples; texts; index; keywords -/
instance i_isO {D C dx : Addr} {fs : List (Str × V)} {tbl : List (Addr × Bool)} {b : Bool} [F : FH H L] [a : Mm (p, Is (.ins C dx fs)) L] [c : Mm (C, b) tbl] : St1 (rIsO D tbl [.ref p, .ref D] H Q) (Q (.bl b) H) := ⟨fun h => ⟨p, C, dx, fs, b, rfl, F.get a.m, c.m, h⟩⟩
def KCo (l : List (Addr × V)) (f : Str) (x : V) (H1 : Hp) (Q : VK) : Prop := ∃ a C dx fs v, x = .ref a ∧ H1 a = some (.ins C dx fs) ∧ (C, v) ∈ l ∧ fs.lookup f = none ∧ Q v H1
instance i_conD {l : List (Addr × V)} : St1 (eConD l f te σ H Q) (te σ H fun x H1 => KCo l f x H1 Q) := ⟨id⟩
instance i_conDG {l : List (Addr × V)} [F : FH H L] [a : Mm (p, Is (.ins C dx fs)) L] [c : Mm (C, v) l] [n : NoF fs f] : St1 (KCo l f (.ref p) H Q) (Q v H) := ⟨fun h => ⟨p, C, dx, fs, v, rfl, F.get a.m, c.m, n.l, h⟩⟩
class StT (S : Sta) (p : Addr) (xs : outParam (List V)) : Prop where
  s : S p (.tup xs)
instance i_isS {n : String} [s : StT S p xs] [k : Kit1 "tuple" n b] : St1 (rIsS S [.ref p, .ty n] H Q) (Q (.bl b) H) := ⟨fun h => ⟨p, xs, n, rfl, s.s, by rw [k.e]; exact k.k, by rw [k.e]; exact h⟩⟩
instance i_lenS {k : Nat} [s : StT S p xs] [n : LenE xs k] : St1 (rLen S [.ref p] H Q) (Q (.int (k : Int)) H) := ⟨fun h => .inl ⟨p, xs, rfl, .inr (.inr s.s), by rw [n.e]; exact h⟩⟩
instance i_listS [s : StT S p xs] [F : FH H L] : St1 (rListOf S [.ref p] H Q) (∀ r H', H r = none → FH H' ((r, Is (.lst xs)) :: L) → Q (.ref r) H') := ⟨fun h => ⟨p, xs, rfl, .inr (.inr s.s), fun r hr => h r _ hr (F.new hr)⟩⟩
instance i_rdS [s : StT S p xs] : St1 (RdS S H p (.tup xs) ∧ A) A := ⟨fun h => ⟨.inr s.s, h⟩⟩
def KIdx (x : V) (H1 : Hp) (B : Prop) : Prop := ∃ l, x = .ref l ∧ (∃ xs, H1 l = some (.lst xs)) ∧ B
instance i_idx : St1 (eIdx te tl σ H Q) (te σ H fun x H1 => KIdx x H1 (tl σ H1 fun vs H2 => rIdx x vs H2 Q)) := ⟨id⟩
instance i_idxG [F : FH H L] [a : Mm (p, Is (.lst xs)) L] : St1 (KIdx (.ref p) H B) B := ⟨fun h => ⟨p, rfl, ⟨xs, F.get a.m⟩, h⟩⟩
def KmKw (C : Addr) (n m : Nat) (sp : Sp) (vs zs : List V) (H2 : Hp) (Q : VK) (E : XK) : Prop := vs.length = n ∧ zs.length = m ∧ ∀ x dx, H2 x = none → H2 dx = none → dx ≠ x → sp (.ref x :: (vs ++ zs)) (upd (upd H2 dx (.own x)) x (.ins C dx [])) (fun v H3 => v = .non ∧ Q (.ref x) H3) E
instance i_makeKw {n m : Nat} {tk : TA} : St1 (tMakeKw C n m sp E tl tk σ H Q) (tl σ H fun vs H1 => tk σ H1 fun zs H2 => KmKw C n m sp vs zs H2 Q E) := ⟨id⟩
instance i_makeKwG {n m : Nat} {ws : List V} [F : FH H L] [l1 : LenE xs n] [l2 : LenE ys m] [ap : AppE xs ys ws] : St1 (KmKw C n m sp xs ys H Q E) (∀ x dx H', FH H' ((x, Is (.ins C dx [])) :: L) → sp (.ref x :: ws) H' (fun v H2 => v = .non ∧ Q (.ref x) H2) E) := ⟨fun h => ⟨l1.e, l2.e, fun x dx hx hd ne => by
  rw [ap.e]
  exact h x dx _ ((F.other hd).new (by rw [upd_ne (Ne.symm ne)]; exact hx))⟩⟩
instance kit1_int_int : Kit1 "int" "int" true := ⟨kit_int_int, by decide⟩
instance kit1_int_bool : Kit1 "int" "bool" false := ⟨kit_int_bool, by decide⟩
instance kit1_int_str : Kit1 "int" "str" false := ⟨kit_int_str, by decide⟩
instance kit1_int_list : Kit1 "int" "list" false := ⟨kit_int_list, by decide⟩
instance kit1_int_tuple : Kit1 "int" "tuple" false := ⟨kit_int_tuple, by decide⟩
instance kit1_int_dict : Kit1 "int" "dict" false := ⟨kit_int_dict, by decide⟩
instance kit1_bool_int : Kit1 "bool" "int" true := ⟨kit_bool_int, by decide⟩
instance kit1_bool_bool : Kit1 "bool" "bool" true := ⟨kit_bool_bool, by decide⟩
instance kit1_bool_str : Kit1 "bool" "str" false := ⟨kit_bool_str, by decide⟩
instance kit1_bool_list : Kit1 "bool" "list" false := ⟨kit_bool_list, by decide⟩
instance kit1_bool_tuple : Kit1 "bool" "tuple" false := ⟨kit_bool_tuple, by decide⟩
instance kit1_bool_dict : Kit1 "bool" "dict" false := ⟨kit_bool_dict, by decide⟩
instance kit1_str_int : Kit1 "str" "int" false := ⟨kit_str_int, by decide⟩
instance kit1_str_bool : Kit1 "str" "bool" false := ⟨kit_str_bool, by decide⟩
instance kit1_str_str : Kit1 "str" "str" true := ⟨kit_str_str, by decide⟩
instance kit1_str_list : Kit1 "str" "list" false := ⟨kit_str_list, by decide⟩
instance kit1_str_tuple : Kit1 "str" "tuple" false := ⟨kit_str_tuple, by decide⟩
instance kit1_str_dict : Kit1 "str" "dict" false := ⟨kit_str_dict, by decide⟩
instance kit1_NoneType_int : Kit1 "NoneType" "int" false := ⟨kit_NoneType_int, by decide⟩
instance kit1_NoneType_bool : Kit1 "NoneType" "bool" false := ⟨kit_NoneType_bool, by decide⟩
instance kit1_NoneType_str : Kit1 "NoneType" "str" false := ⟨kit_NoneType_str, by decide⟩
instance kit1_NoneType_list : Kit1 "NoneType" "list" false := ⟨kit_NoneType_list, by decide⟩
instance kit1_NoneType_tuple : Kit1 "NoneType" "tuple" false := ⟨kit_NoneType_tuple, by decide⟩
instance kit1_NoneType_dict : Kit1 "NoneType" "dict" false := ⟨kit_NoneType_dict, by decide⟩
instance kit1_list_int : Kit1 "list" "int" false := ⟨kit_list_int, by decide⟩
instance kit1_list_bool : Kit1 "list" "bool" false := ⟨kit_list_bool, by decide⟩
instance kit1_list_str : Kit1 "list" "str" false := ⟨kit_list_str, by decide⟩
instance kit1_list_list : Kit1 "list" "list" true := ⟨kit_list_list, by decide⟩
instance kit1_list_tuple : Kit1 "list" "tuple" false := ⟨kit_list_tuple, by decide⟩
instance kit1_list_dict : Kit1 "list" "dict" false := ⟨kit_list_dict, by decide⟩
instance kit1_tuple_int : Kit1 "tuple" "int" false := ⟨kit_tuple_int, by decide⟩
instance kit1_tuple_bool : Kit1 "tuple" "bool" false := ⟨kit_tuple_bool, by decide⟩
instance kit1_tuple_str : Kit1 "tuple" "str" false := ⟨kit_tuple_str, by decide⟩
instance kit1_tuple_list : Kit1 "tuple" "list" false := ⟨kit_tuple_list, by decide⟩
instance kit1_tuple_tuple : Kit1 "tuple" "tuple" true := ⟨kit_tuple_tuple, by decide⟩
instance kit1_tuple_dict : Kit1 "tuple" "dict" false := ⟨kit_tuple_dict, by decide⟩
instance kit1_dict_int : Kit1 "dict" "int" false := ⟨kit_dict_int, by decide⟩
instance i_isr_dict_int {kvs : List (Key × V)} [F : FH H L] [a : Mm (p, Is (.dK kvs)) L] : St1 (rIsI [.ref p, .ty "int"] H Q) (Q (.bl false) H) := ⟨fun h => isi_of (.dK (F.get a.m)) kit_dict_int rfl h⟩
instance kit1_dict_bool : Kit1 "dict" "bool" false := ⟨kit_dict_bool, by decide⟩
instance i_isr_dict_bool {kvs : List (Key × V)} [F : FH H L] [a : Mm (p, Is (.dK kvs)) L] : St1 (rIsI [.ref p, .ty "bool"] H Q) (Q (.bl false) H) := ⟨fun h => isi_of (.dK (F.get a.m)) kit_dict_bool rfl h⟩
instance kit1_dict_str : Kit1 "dict" "str" false := ⟨kit_dict_str, by decide⟩
instance i_isr_dict_str {kvs : List (Key × V)} [F : FH H L] [a : Mm (p, Is (.dK kvs)) L] : St1 (rIsI [.ref p, .ty "str"] H Q) (Q (.bl false) H) := ⟨fun h => isi_of (.dK (F.get a.m)) kit_dict_str rfl h⟩
instance kit1_dict_list : Kit1 "dict" "list" false := ⟨kit_dict_list, by decide⟩
instance i_isr_dict_list {kvs : List (Key × V)} [F : FH H L] [a : Mm (p, Is (.dK kvs)) L] : St1 (rIsI [.ref p, .ty "list"] H Q) (Q (.bl false) H) := ⟨fun h => isi_of (.dK (F.get a.m)) kit_dict_list rfl h⟩
instance kit1_dict_tuple : Kit1 "dict" "tuple" false := ⟨kit_dict_tuple, by decide⟩
instance i_isr_dict_tuple {kvs : List (Key × V)} [F : FH H L] [a : Mm (p, Is (.dK kvs)) L] : St1 (rIsI [.ref p, .ty "tuple"] H Q) (Q (.bl false) H) := ⟨fun h => isi_of (.dK (F.get a.m)) kit_dict_tuple rfl h⟩
instance kit1_dict_dict : Kit1 "dict" "dict" true := ⟨kit_dict_dict, by decide⟩
instance i_isr_dict_dict {kvs : List (Key × V)} [F : FH H L] [a : Mm (p, Is (.dK kvs)) L] : St1 (rIsI [.ref p, .ty "dict"] H Q) (Q (.bl true) H) := ⟨fun h => isi_of (.dK (F.get a.m)) kit_dict_dict rfl h⟩
/-- a comprehension over a range: a map -/
theorem lcRM {tel : TE} {us : List Nat} {σw : L2.St} (n : Nat) (f : Nat → V) (ej : j = (n : Int)) (hn : n < 16777216) (F : FH H L) (ew : wipe σ us = σw)
    (hs : ∀ (i : Nat) H (QX : V → Hp → Prop), i < n → FH H L → QX (f i) H → g (.int (i : Int)) σw H fun σ2 H2 => wipe σ2 us = σw ∧ tel σ2 H2 QX)
    (hd : ∀ D H', FH H' ((D, Is (.lst ((List.range n).map f))) :: L) → Q (.ref D) H') : LcR g tYes tel us Q (.int j) σ H := by
  subst ew ej
  have e62 : (2 : Int) ^ 62 = 4611686018427387904 := by decide
  refine ⟨_, rfl, ⟨by rw [e62]; decide, by rw [e62]; decide, by rw [e62]; omega, by rw [e62]; omega⟩, fun D hD => ⟨fun i H => FH H ((D, Is (.lst ((List.range i).map f))) :: L), F.new hD, fun i H hi q => ?_, fun H q => hd D H ?_⟩⟩
  · have h := hs i H (fun z H4 => ∃ acc, H4 D = some (.lst acc) ∧ acc.length < sizeLine ∧ FH (upd H4 D (.lst (acc ++ [z]))) ((D, Is (.lst ((List.range (i + 1)).map f))) :: L)) (by omega) q.tail ⟨_, q.get (List.Mem.head _), by rw [sizeLine_eq, List.length_map, List.length_range]; omega, by rw [List.range_succ, List.map_append]; exact q.put .here trivial⟩
    rw [Int.zero_add]
    exact h
  · have e1 : ((n : Int) - 0).toNat = n := by omega
    dsimp only at q
    rw [e1] at q
    exact q
/-! unrolled where Unr is an instance -/
class Unr : Prop where
  t : True
class Lit (xs : List V) : Prop where
  t : True
instance lit_nil : Lit [] := ⟨trivial⟩
instance lit_cons [a : Lit xs] : Lit (x :: xs) := ⟨trivial⟩
class RgE (j : Int) (n : outParam Nat) (xs : outParam (List V)) : Prop where
  j : j = (n : Int)
  l : n < 1000
  e : (List.range n).map (fun (i : Nat) => V.int (0 + (i : Int))) = xs
def forKL (g : TG) (s1 : TS) (P bk : K0) (rt : VK) : List V → L2.St → Hp → Prop
  | [], σ, H => P σ H
  | x :: xs, σ, H => g x σ H fun σ' H' => s1 ⟨forKL g s1 P bk rt xs, rt, bk, forKL g s1 P bk rt xs⟩ σ' H'
instance i_forKL {P : K0} : St1 (forKL g s1 P bk rt (x :: xs) σ H) (g x σ H fun σ' H' => s1 ⟨forKL g s1 P bk rt xs, rt, bk, forKL g s1 P bk rt xs⟩ σ' H') := ⟨id⟩
instance i_forKL0 {P : K0} : St1 (forKL g s1 P bk rt [] σ H) (P σ H) := ⟨id⟩
theorem forRU (n : Nat) (ej : j = (n : Int)) (hn : n < 1000) (exs : (List.range n).map (fun (i : Nat) => V.int (0 + (i : Int))) = xs) (h : forKL g s1 nx nx rt xs σ H) : ForR g s1 nx rt 0 j σ H := by
  subst ej exs
  have e62 : (2 : Int) ^ 62 = 4611686018427387904 := by decide
  refine ⟨⟨by rw [e62]; decide, by rw [e62]; decide, by rw [e62]; omega, by rw [e62]; omega⟩, fun i σ H => forKL g s1 nx nx rt (((List.range n).map (fun (i : Nat) => V.int (0 + (i : Int)))).drop i) σ H, by (dsimp only; rw [List.drop_zero]; exact h), fun i σ H hi q => ?_, fun σ H q => ?_⟩
  · dsimp only at q
    have hl : i < ((List.range n).map (fun (i : Nat) => V.int (0 + (i : Int)))).length := by rw [List.length_map, List.length_range]; omega
    rw [List.drop_eq_getElem_cons hl] at q
    rw [List.getElem_map, List.getElem_range] at q
    exact q
  · have e1 : ((n : Int) - 0).toNat = n := by omega
    dsimp only at q
    rw [e1, List.drop_of_length_le (by rw [List.length_map, List.length_range]; exact Nat.le_refl _)] at q
    exact q
instance i_forRU [Unr] {n : Nat} [r : RgE j n xs] : St1 (ForR g s1 nx rt 0 j σ H) (forKL g s1 nx nx rt xs σ H) := ⟨fun h => forRU n r.j r.l r.e h⟩
instance i_lcRU [Unr] {tt : TT} {tel : TE} {us : List Nat} {σw : L2.St} {n : Nat} [F : FH H L] [r : RgE j n xs] [e : WipeE σ us σw] : St1 (LcR g tt tel us Q (.int j) σ H) (∀ D H', FH H' ((D, Is (.lst [])) :: L) → lcKR g tt tel us σw D Q xs H') := ⟨fun h => lcRU n r.j (by have := r.l; omega) r.e F e.e h⟩
instance i_lcLU [Unr] {tt : TT} {tel : TE} {us : List Nat} {σw : L2.St} [F : FH H L] [a : Mm (p, Is (.lst xs)) L] [l : Lit xs] [e : WipeE σ us σw] : St1 (LcS S g tt tel us Q (.ref p) σ H) (∀ D H', FH H' ((D, Is (.lst [])) :: L) → lcKS S p (.lst xs) g tt tel us σw D Q xs H') := ⟨fun h => lcLU F a.m e.e h⟩
theorem lcSU {tt : TT} {tel : TE} {vs : List Nat} {σw : L2.St} (F : FH H L) (st : S p (.tup xs)) (ew : wipe σ vs = σw) (h : ∀ D H', FH H' ((D, Is (.lst [])) :: L) → lcKS S p (.tup xs) g tt tel vs σw D Q xs H') : LcS S g tt tel vs Q (.ref p) σ H := by
  subst ew
  refine ⟨p, xs, rfl, false, .inr st, fun D hD => ⟨fun i H => RdS S H p (.tup xs) ∧ lcKS S p (.tup xs) g tt tel vs (wipe σ vs) D Q (xs.drop i) H, ⟨.inr st, by rw [List.drop_zero]; exact h D _ (F.new hD)⟩, fun i H _ q => q.1, fun i y H e q => ?_, fun H q => ?_⟩⟩
  · obtain ⟨_, q⟩ := q
    have hi := (List.getElem?_eq_some_iff.mp e)
    rw [List.drop_eq_getElem_cons hi.1, hi.2] at q
    exact q
  · obtain ⟨_, q⟩ := q
    rw [List.drop_length] at q
    exact q
instance i_lcSU [Unr] {tt : TT} {tel : TE} {us : List Nat} {σw : L2.St} [F : FH H L] [a : StT S p xs] [e : WipeE σ us σw] : St1 (LcS S g tt tel us Q (.ref p) σ H) (∀ D H', FH H' ((D, Is (.lst [])) :: L) → lcKS S p (.tup xs) g tt tel us σw D Q xs H') := ⟨fun h => lcSU F a.s e.e h⟩
instance i_forLU [Unr] [F : FH H L] [a : Mm (p, Is (.lst xs)) L] [l : Lit xs] : St1 (ForS S g s1 nx rt (.ref p) σ H) (forKS S p (.lst xs) g s1 nx nx rt xs σ H) := ⟨fun h => forLU F a.m h⟩
instance rg0 : RgE 0 0 [] := ⟨rfl, by decide, rfl⟩
instance rg1 : RgE 1 1 [.int 0] := ⟨rfl, by decide, rfl⟩
instance rg2 : RgE 2 2 [.int 0, .int 1] := ⟨rfl, by decide, rfl⟩
instance rg3 : RgE 3 3 [.int 0, .int 1, .int 2] := ⟨rfl, by decide, rfl⟩
instance rg4 : RgE 4 4 [.int 0, .int 1, .int 2, .int 3] := ⟨rfl, by decide, rfl⟩
instance rg5 : RgE 5 5 [.int 0, .int 1, .int 2, .int 3, .int 4] := ⟨rfl, by decide, rfl⟩
instance rg6 : RgE 6 6 [.int 0, .int 1, .int 2, .int 3, .int 4, .int 5] := ⟨rfl, by decide, rfl⟩
instance rg7 : RgE 7 7 [.int 0, .int 1, .int 2, .int 3, .int 4, .int 5, .int 6] := ⟨rfl, by decide, rfl⟩
instance rg8 : RgE 8 8 [.int 0, .int 1, .int 2, .int 3, .int 4, .int 5, .int 6, .int 7] := ⟨rfl, by decide, rfl⟩
instance rg9 : RgE 9 9 [.int 0, .int 1, .int 2, .int 3, .int 4, .int 5, .int 6, .int 7, .int 8] := ⟨rfl, by decide, rfl⟩
instance rg10 : RgE 10 10 [.int 0, .int 1, .int 2, .int 3, .int 4, .int 5, .int 6, .int 7, .int 8, .int 9] := ⟨rfl, by decide, rfl⟩
instance rg11 : RgE 11 11 [.int 0, .int 1, .int 2, .int 3, .int 4, .int 5, .int 6, .int 7, .int 8, .int 9, .int 10] := ⟨rfl, by decide, rfl⟩
instance rg12 : RgE 12 12 [.int 0, .int 1, .int 2, .int 3, .int 4, .int 5, .int 6, .int 7, .int 8, .int 9, .int 10, .int 11] := ⟨rfl, by decide, rfl⟩
instance rg13 : RgE 13 13 [.int 0, .int 1, .int 2, .int 3, .int 4, .int 5, .int 6, .int 7, .int 8, .int 9, .int 10, .int 11, .int 12] := ⟨rfl, by decide, rfl⟩
instance rg14 : RgE 14 14 [.int 0, .int 1, .int 2, .int 3, .int 4, .int 5, .int 6, .int 7, .int 8, .int 9, .int 10, .int 11, .int 12, .int 13] := ⟨rfl, by decide, rfl⟩
instance rg15 : RgE 15 15 [.int 0, .int 1, .int 2, .int 3, .int 4, .int 5, .int 6, .int 7, .int 8, .int 9, .int 10, .int 11, .int 12, .int 13, .int 14] := ⟨rfl, by decide, rfl⟩
instance rg16 : RgE 16 16 [.int 0, .int 1, .int 2, .int 3, .int 4, .int 5, .int 6, .int 7, .int 8, .int 9, .int 10, .int 11, .int 12, .int 13, .int 14, .int 15] := ⟨rfl, by decide, rfl⟩
/-! heads -/
class HdAr (G : Prop) : Prop where
  t : True
theorem hdAr_is {G : Prop} [HdAr G] (h : G) : G := h
class HdIx (G : Prop) : Prop where
  t : True
theorem hdIx_is {G : Prop} [HdIx G] (h : G) : G := h
class HdEq (G : Prop) : Prop where
  t : True
theorem hdEq_is {G : Prop} [HdEq G] (h : G) : G := h
class HdIn (G : Prop) : Prop where
  t : True
theorem hdIn_is {G : Prop} [HdIn G] (h : G) : G := h
class HdTy (G : Prop) : Prop where
  t : True
theorem hdTy_is {G : Prop} [HdTy G] (h : G) : G := h
class HdFm (G : Prop) : Prop where
  t : True
theorem hdFm_is {G : Prop} [HdFm G] (h : G) : G := h
class HdK (G : Prop) : Prop where
  t : True
theorem hdK_is {G : Prop} [HdK G] (h : G) : G := h
instance hd0 : HdIx (rIx S x y H Q) := ⟨trivial⟩
instance hd1 : HdIx (rLen S xs H Q) := ⟨trivial⟩
instance hd2 : HdIx (rSl S x lo hi H Q) := ⟨trivial⟩
instance hd3 : HdEq (rEqP S x y H Q) := ⟨trivial⟩
instance hd4 : HdEq (rNeP S x y H Q) := ⟨trivial⟩
instance hd5 : HdEq (rEq x y H Q) := ⟨trivial⟩
instance hd6 : HdEq (rNe x y H Q) := ⟨trivial⟩
instance hd7 : HdAr (rMul x y H Q) := ⟨trivial⟩
instance hd8 : HdAr (rFdiv x y H Q) := ⟨trivial⟩
instance hd9 : HdAr (rMod x y H Q) := ⟨trivial⟩
instance hd10 : HdAr (rPow x y H Q) := ⟨trivial⟩
instance hd11 : HdAr (rShl x y H Q) := ⟨trivial⟩
instance hd12 : HdAr (rStrI xs H Q) := ⟨trivial⟩
instance hd13 : HdIn (rInA S b x y H Q) := ⟨trivial⟩
instance hd14 : Hd (rSum S xs H Q) := ⟨trivial⟩
instance hd15 : Hd (rAll S xs H Q) := ⟨trivial⟩
instance hd16 : Hd (rAdd x y H Q) := ⟨trivial⟩
instance hd17 : HdTy (rIsI xs H Q) := ⟨trivial⟩
instance hd18 {tbl : List (Value × V × Bool)} {a : Value} {z : Option Addr} : Hd (rIsX tbl C a z xs H Q) := ⟨trivial⟩
instance hd19 : Hd (rGetL x y H Q) := ⟨trivial⟩
instance hd20 {QH : Hp → Prop} : Hd (rSetL x y v H QH) := ⟨trivial⟩
instance hd21 : Hd (Klst xs H Q) := ⟨trivial⟩
instance hd22 : Hd (Ktup xs H Q) := ⟨trivial⟩
instance hd23 {QH : Hp → Prop} : Hd (lcPut p v QH H) := ⟨trivial⟩
instance hd24 : Hd (rAppend x xs H Q) := ⟨trivial⟩
instance hd25 : Hd (tSupM Cs sp E tl σ H Q) := ⟨trivial⟩
instance hd26 {QK : Bool → Prop} : HdK (KBl x QK) := ⟨trivial⟩
instance hd27 {QK : Int → Prop} : HdK (KIn x QK) := ⟨trivial⟩
instance hd28 : HdK (KFl C f x H Q) := ⟨trivial⟩
instance hd29 : HdK (KFlD Cs f x H Q) := ⟨trivial⟩
instance hd30 {QH : Hp → Prop} : HdK (KSf C f x y H QH) := ⟨trivial⟩
instance hd31 {QH : Hp → Prop} : HdK (KSfD Cs f x y H QH) := ⟨trivial⟩
instance hd32 {QAV : Addr → V → Prop} : HdK (KAf C f x H QAV) := ⟨trivial⟩
instance hd33 {QH : Hp → Prop} : HdK (KAs C f p x H QH) := ⟨trivial⟩
instance hd34 {QAV : Addr → Addr → V → Prop} : HdK (KAfD Cs f x H QAV) := ⟨trivial⟩
instance hd35 : HdK (KMe C m x H B) := ⟨trivial⟩
instance hd36 {QB2 : Sp → Prop} : HdK (KMD ls m x H QB2) := ⟨trivial⟩
instance hd37 {QA : Addr → Prop} : HdK (KPr C x H QA) := ⟨trivial⟩
instance hd38 {QA : Addr → Sp → Prop} : HdK (KPrD ls x H QA) := ⟨trivial⟩
instance hd39 : HdK (KAp x H B) := ⟨trivial⟩
instance hd40 {tab : List (Value × Nat)} {cl : List Sui} {D : Ends} {cls : Value} {d : Option Addr} : Hd (wT tab cl D cls d σ H) := ⟨trivial⟩
instance hd41 : Hd (A ∧ B) := ⟨trivial⟩
instance hd42 : HdFm (KFm xs A) := ⟨trivial⟩
instance hd43 : Hd (rIsT xs H Q) := ⟨trivial⟩
instance hd44 : Hd (rIns x xs H Q) := ⟨trivial⟩
instance hd45 : Hd (rListOf S xs H Q) := ⟨trivial⟩
instance hd46 : Hd (rTupleOf S xs H Q) := ⟨trivial⟩
instance hd47 {D : Addr} {tbl : List (Addr × Bool)} : Hd (rIsO D tbl xs H Q) := ⟨trivial⟩
instance hd48 {l : List (Addr × V)} : HdK (KCo l f x H Q) := ⟨trivial⟩
instance hd49 : Hd (rIsS S xs H Q) := ⟨trivial⟩
instance hd50 : HdK (KIdx x H B) := ⟨trivial⟩
instance hd51 : Hd (rIdx x xs H Q) := ⟨trivial⟩
end
end Y

namespace Y.k24
open PySem PySem.Spec PyProof.Rows L2
/-! ### the readings -/
structure Cl where
  S : Sta
  c_Control : Addr
  c_Fixed : Addr
  c_Climb : Addr
  c_Curve : Addr
  c_Delay : Addr
  c_InvalidSetting : Addr
  c_InvalidNumber : Addr
  c_LossError : Addr
  g_KINDS : Addr
  hg_KINDS : S g_KINDS (.tup [.str "fixed", .str "climb", .str "curve", .str "delay"])
def t_whole (a : Cl) (E : XK) : TS :=
  (tRet (tAndV (tCB rIsI (tCons (tVar 0) (tCons (tC (.ty "int")) tNil))) (tAndV (tNotV (tCB rIsI (tCons (tVar 0) (tCons (tC (.ty "bool")) tNil)))) (tOp (rEqP a.S) (tVar 0) (tVar 1)))))
def sp_whole (a : Cl) : Sp := spB 2 2 (t_whole a)
theorem in_whole {a : Cl} {v0 v1 : V} {H : Hp} {Q : VK} {E : XK} (h : (tRet (tAndV (tCB rIsI (tCons (tVar 0) (tCons (tC (.ty "int")) tNil))) (tAndV (tNotV (tCB rIsI (tCons (tVar 0) (tCons (tC (.ty "bool")) tNil)))) (tOp (rEqP a.S) (tVar 0) (tVar 1))))) ⟨fun _ H' => Q .non H', Q, fun _ _ => False, fun _ _ => False⟩ [some v0, some v1] H) : sp_whole a [v0, v1] H Q E := ⟨rfl, h⟩
def t_names (a : Cl) (E : XK) : TS :=
  (tSeq (tIfS (tOr (tNot (tB (tCB (rIsS a.S) (tCons (eCon (.ref a.g_KINDS)) (tCons (tC (.ty "tuple")) tNil))))) (tTest (tOp (rNeP a.S) (tCB (rLen a.S) (tCons (eCon (.ref a.g_KINDS)) tNil)) (tC (.int 4))))) (tRet (tC (.bl false))) tNext)
    (tSeq (tIfS (tOr (tTest (tOp (rInA a.S false) (tC (.bl false)) (eLc a.S (eCon (.ref a.g_KINDS)) (gName 0) tYes (tCB rIsI (tCons (tVar 0) (tCons (tC (.ty "str")) tNil))) [0]))) (tTest (tOp (rNeP a.S) (tCB (rListOf a.S) (tCons (eCon (.ref a.g_KINDS)) tNil)) (tLst (tCons (tC (.str "fixed")) (tCons (tC (.str "climb")) (tCons (tC (.str "curve")) (tCons (tC (.str "delay")) tNil)))))))) (tRet (tC (.bl false))) tNext)
    (tSeq (tIfS (tOr (tTest (tOp (rNeP a.S) (eCon (.str "base")) (tC (.str "base")))) (tOr (tTest (tOp (rNeP a.S) (eCon (.str "fixed")) (tC (.str "fixed")))) (tTest (tOp (rNeP a.S) (eCon (.str "climb")) (tC (.str "climb")))))) (tRet (tC (.bl false))) tNext)
    (tRet (tAndV (tOp (rEqP a.S) (eCon (.str "curve")) (tC (.str "curve"))) (tAndV (tOp (rEqP a.S) (eCon (.str "delay")) (tC (.str "delay"))) (tCall (sp_whole a) [] E (tCons (eCon (.int 4194304)) (tCons (tC (.int 4194304)) tNil)))))))))
def sp_names (a : Cl) : Sp := spB 1 0 (t_names a)
theorem in_names {a : Cl} {H : Hp} {Q : VK} {E : XK} (h : (tSeq (tIfS (tOr (tNot (tB (tCB (rIsS a.S) (tCons (eCon (.ref a.g_KINDS)) (tCons (tC (.ty "tuple")) tNil))))) (tTest (tOp (rNeP a.S) (tCB (rLen a.S) (tCons (eCon (.ref a.g_KINDS)) tNil)) (tC (.int 4))))) (tRet (tC (.bl false))) tNext)
    (tSeq (tIfS (tOr (tTest (tOp (rInA a.S false) (tC (.bl false)) (eLc a.S (eCon (.ref a.g_KINDS)) (gName 0) tYes (tCB rIsI (tCons (tVar 0) (tCons (tC (.ty "str")) tNil))) [0]))) (tTest (tOp (rNeP a.S) (tCB (rListOf a.S) (tCons (eCon (.ref a.g_KINDS)) tNil)) (tLst (tCons (tC (.str "fixed")) (tCons (tC (.str "climb")) (tCons (tC (.str "curve")) (tCons (tC (.str "delay")) tNil)))))))) (tRet (tC (.bl false))) tNext)
    (tSeq (tIfS (tOr (tTest (tOp (rNeP a.S) (eCon (.str "base")) (tC (.str "base")))) (tOr (tTest (tOp (rNeP a.S) (eCon (.str "fixed")) (tC (.str "fixed")))) (tTest (tOp (rNeP a.S) (eCon (.str "climb")) (tC (.str "climb")))))) (tRet (tC (.bl false))) tNext)
    (tRet (tAndV (tOp (rEqP a.S) (eCon (.str "curve")) (tC (.str "curve"))) (tAndV (tOp (rEqP a.S) (eCon (.str "delay")) (tC (.str "delay"))) (tCall (sp_whole a) [] E (tCons (eCon (.int 4194304)) (tCons (tC (.int 4194304)) tNil))))))))) ⟨fun _ H' => Q .non H', Q, fun _ _ => False, fun _ _ => False⟩ [none] H) : sp_names a [] H Q E := ⟨rfl, h⟩
def t_rounds (a : Cl) (E : XK) : TS :=
  (tRet (tCB rMin2 (tCons (tC (.int 62)) (tCons (tCB rMax2 (tCons (tOp rAdd (tC (.int 4)) (tOp rMul (tC (.int 8)) (tCB rMin2 (tCons (tC (.int 1)) (tCons (tCB (rLen a.S) (tCons (tVar 0) tNil)) tNil))))) (tCons (tOp rSub (tCB (rLen a.S) (tCons (tVar 0) tNil)) (tC (.int 1))) tNil))) tNil))))
def sp_rounds (a : Cl) : Sp := spB 1 1 (t_rounds a)
theorem in_rounds {a : Cl} {v0 : V} {H : Hp} {Q : VK} {E : XK} (h : (tRet (tCB rMin2 (tCons (tC (.int 62)) (tCons (tCB rMax2 (tCons (tOp rAdd (tC (.int 4)) (tOp rMul (tC (.int 8)) (tCB rMin2 (tCons (tC (.int 1)) (tCons (tCB (rLen a.S) (tCons (tVar 0) tNil)) tNil))))) (tCons (tOp rSub (tCB (rLen a.S) (tCons (tVar 0) tNil)) (tC (.int 1))) tNil))) tNil)))) ⟨fun _ H' => Q .non H', Q, fun _ _ => False, fun _ _ => False⟩ [some v0] H) : sp_rounds a [v0] H Q E := ⟨rfl, h⟩
def t_draw (a : Cl) (E : XK) : TS :=
  (tSeq (tAugS (tVar 0) (tC (.int 2)) (tC (.int 1)) rGetL rAug rSetL)
    (tSeq (tIfS (tTest (tOp rGt (tOp (rIx a.S) (tVar 0) (tC (.int 0))) (tC (.int 0)))) (tSeq (tAsg (tOp rMod (tCB rInt (tCons (tOp (rIx a.S) (tVar 0) (tC (.int 0))) tNil)) (tVar 1)) (gName 2))
    (tSeq (tAsg (tOp rFdiv (tOp (rIx a.S) (tVar 0) (tC (.int 0))) (tVar 1)) (gSub (tVar 0) (tC (.int 0)) rSetL))
    (tRet (tVar 2)))) tNext)
    (tSeq (tAsg (tOp rMod (tCB rInt (tCons (tOp rAdd (tOp rAdd (tOp rMul (tOp (rIx a.S) (tVar 0) (tC (.int 1))) (tC (.int 271))) (tOp rMul (tOp (rIx a.S) (tVar 0) (tC (.int 2))) (tC (.int 97)))) (tC (.int 5))) tNil)) (tC (.int 10007))) (gName 3))
    (tSeq (tAsg (tOp rMod (tCB rInt (tCons (tOp rAdd (tOp rAdd (tOp rMul (tVar 3) (tVar 3)) (tOp rMul (tOp (rIx a.S) (tVar 0) (tC (.int 1))) (tC (.int 59)))) (tOp rMul (tOp (rIx a.S) (tVar 0) (tC (.int 2))) (tC (.int 7)))) tNil)) (tC (.int 30011))) (gName 4))
    (tRet (tOp rMod (tCB rInt (tCons (tOp rAdd (tOp rMul (tVar 4) (tC (.int 10007))) (tVar 3)) tNil)) (tVar 1)))))))
def sp_draw (a : Cl) : Sp := spB 5 2 (t_draw a)
theorem in_draw {a : Cl} {v0 v1 : V} {H : Hp} {Q : VK} {E : XK} (h : (tSeq (tAugS (tVar 0) (tC (.int 2)) (tC (.int 1)) rGetL rAug rSetL)
    (tSeq (tIfS (tTest (tOp rGt (tOp (rIx a.S) (tVar 0) (tC (.int 0))) (tC (.int 0)))) (tSeq (tAsg (tOp rMod (tCB rInt (tCons (tOp (rIx a.S) (tVar 0) (tC (.int 0))) tNil)) (tVar 1)) (gName 2))
    (tSeq (tAsg (tOp rFdiv (tOp (rIx a.S) (tVar 0) (tC (.int 0))) (tVar 1)) (gSub (tVar 0) (tC (.int 0)) rSetL))
    (tRet (tVar 2)))) tNext)
    (tSeq (tAsg (tOp rMod (tCB rInt (tCons (tOp rAdd (tOp rAdd (tOp rMul (tOp (rIx a.S) (tVar 0) (tC (.int 1))) (tC (.int 271))) (tOp rMul (tOp (rIx a.S) (tVar 0) (tC (.int 2))) (tC (.int 97)))) (tC (.int 5))) tNil)) (tC (.int 10007))) (gName 3))
    (tSeq (tAsg (tOp rMod (tCB rInt (tCons (tOp rAdd (tOp rAdd (tOp rMul (tVar 3) (tVar 3)) (tOp rMul (tOp (rIx a.S) (tVar 0) (tC (.int 1))) (tC (.int 59)))) (tOp rMul (tOp (rIx a.S) (tVar 0) (tC (.int 2))) (tC (.int 7)))) tNil)) (tC (.int 30011))) (gName 4))
    (tRet (tOp rMod (tCB rInt (tCons (tOp rAdd (tOp rMul (tVar 4) (tC (.int 10007))) (tVar 3)) tNil)) (tVar 1))))))) ⟨fun _ H' => Q .non H', Q, fun _ _ => False, fun _ _ => False⟩ [some v0, some v1, none, none, none] H) : sp_draw a [v0, v1] H Q E := ⟨rfl, h⟩
def t_unit (a : Cl) (E : XK) : TS :=
  (tSeq (tAsg (tCall (sp_draw a) [] E (tCons (tVar 0) (tCons (tC (.int 4)) tNil))) (gName 1))
    (tSeq (tIfS (tTest (tOp (rEqP a.S) (tVar 1) (tC (.int 0)))) (tRet (tOp rAdd (tC (.int 1)) (tCall (sp_draw a) [] E (tCons (tVar 0) (tCons (tC (.int 65535)) tNil))))) tNext)
    (tSeq (tIfS (tTest (tOp (rEqP a.S) (tVar 1) (tC (.int 1)))) (tRet (tOp rAdd (tC (.int 1)) (tCall (sp_draw a) [] E (tCons (tVar 0) (tCons (tC (.int 1400)) tNil))))) tNext)
    (tSeq (tIfS (tTest (tOp (rEqP a.S) (tVar 1) (tC (.int 2)))) (tRet (tOp rAdd (tC (.int 1)) (tCall (sp_draw a) [] E (tCons (tVar 0) (tCons (tC (.int 12)) tNil))))) tNext)
    (tRet (tOp rSub (tC (.int 65535)) (tOp rMul (tC (.int 65534)) (tCall (sp_draw a) [] E (tCons (tVar 0) (tCons (tC (.int 2)) tNil))))))))))
def sp_unit (a : Cl) : Sp := spB 2 1 (t_unit a)
theorem in_unit {a : Cl} {v0 : V} {H : Hp} {Q : VK} {E : XK} (h : (tSeq (tAsg (tCall (sp_draw a) [] E (tCons (tVar 0) (tCons (tC (.int 4)) tNil))) (gName 1))
    (tSeq (tIfS (tTest (tOp (rEqP a.S) (tVar 1) (tC (.int 0)))) (tRet (tOp rAdd (tC (.int 1)) (tCall (sp_draw a) [] E (tCons (tVar 0) (tCons (tC (.int 65535)) tNil))))) tNext)
    (tSeq (tIfS (tTest (tOp (rEqP a.S) (tVar 1) (tC (.int 1)))) (tRet (tOp rAdd (tC (.int 1)) (tCall (sp_draw a) [] E (tCons (tVar 0) (tCons (tC (.int 1400)) tNil))))) tNext)
    (tSeq (tIfS (tTest (tOp (rEqP a.S) (tVar 1) (tC (.int 2)))) (tRet (tOp rAdd (tC (.int 1)) (tCall (sp_draw a) [] E (tCons (tVar 0) (tCons (tC (.int 12)) tNil))))) tNext)
    (tRet (tOp rSub (tC (.int 65535)) (tOp rMul (tC (.int 65534)) (tCall (sp_draw a) [] E (tCons (tVar 0) (tCons (tC (.int 2)) tNil)))))))))) ⟨fun _ H' => Q .non H', Q, fun _ _ => False, fun _ _ => False⟩ [some v0, none] H) : sp_unit a [v0] H Q E := ⟨rfl, h⟩
def t_word (a : Cl) (E : XK) : TS :=
  (tSeq (tAsg (tLst (tCons (tC (.str "base")) (tCons (tC (.str "fixed")) (tCons (tC (.str "climb")) (tCons (tC (.str "curve")) (tCons (tC (.str "delay")) (tCons (tC (.str "fixed")) (tCons (tC (.str "fixed")) (tCons (tC (.str "fixed")) (tCons (tC (.str "climb")) (tCons (tC (.str "curve")) (tCons (tC (.str "delay")) tNil)))))))))))) (gName 1))
    (tRet (tOp (rIx a.S) (tVar 1) (tVar 0))))
def sp_word (a : Cl) : Sp := spB 2 1 (t_word a)
theorem in_word {a : Cl} {v0 : V} {H : Hp} {Q : VK} {E : XK} (h : (tSeq (tAsg (tLst (tCons (tC (.str "base")) (tCons (tC (.str "fixed")) (tCons (tC (.str "climb")) (tCons (tC (.str "curve")) (tCons (tC (.str "delay")) (tCons (tC (.str "fixed")) (tCons (tC (.str "fixed")) (tCons (tC (.str "fixed")) (tCons (tC (.str "climb")) (tCons (tC (.str "curve")) (tCons (tC (.str "delay")) tNil)))))))))))) (gName 1))
    (tRet (tOp (rIx a.S) (tVar 1) (tVar 0)))) ⟨fun _ H' => Q .non H', Q, fun _ _ => False, fun _ _ => False⟩ [some v0, none] H) : sp_word a [v0] H Q E := ⟨rfl, h⟩
def t_classed (a : Cl) (E : XK) : TS :=
  (tSeq (tIfS (tOr (tNot (tB (tCB (rIsO a.c_Control [(a.c_Control, true), (a.c_Fixed, true), (a.c_Climb, true), (a.c_Curve, true), (a.c_Delay, true)]) (tCons (tVar 0) (tCons (eCon (.ref a.c_Control)) tNil))))) (tTest (tOp (rNeP a.S) (tCB (rIsO a.c_Fixed [(a.c_Control, false), (a.c_Fixed, true), (a.c_Climb, false), (a.c_Curve, false), (a.c_Delay, false)]) (tCons (tVar 0) (tCons (eCon (.ref a.c_Fixed)) tNil))) (tOp (rEqP a.S) (tVar 1) (tC (.str "fixed")))))) (tRet (tC (.bl false))) tNext)
    (tSeq (tIfS (tTest (tOp (rNeP a.S) (tCB (rIsO a.c_Climb [(a.c_Control, false), (a.c_Fixed, false), (a.c_Climb, true), (a.c_Curve, true), (a.c_Delay, true)]) (tCons (tVar 0) (tCons (eCon (.ref a.c_Climb)) tNil))) (tOrV (tOp (rEqP a.S) (tVar 1) (tC (.str "climb"))) (tOrV (tOp (rEqP a.S) (tVar 1) (tC (.str "curve"))) (tOp (rEqP a.S) (tVar 1) (tC (.str "delay"))))))) (tRet (tC (.bl false))) tNext)
    (tSeq (tIfS (tOr (tTest (tOp (rNeP a.S) (tCB (rIsO a.c_Curve [(a.c_Control, false), (a.c_Fixed, false), (a.c_Climb, false), (a.c_Curve, true), (a.c_Delay, false)]) (tCons (tVar 0) (tCons (eCon (.ref a.c_Curve)) tNil))) (tOp (rEqP a.S) (tVar 1) (tC (.str "curve"))))) (tTest (tOp (rNeP a.S) (tCB (rIsO a.c_Delay [(a.c_Control, false), (a.c_Fixed, false), (a.c_Climb, false), (a.c_Curve, false), (a.c_Delay, true)]) (tCons (tVar 0) (tCons (eCon (.ref a.c_Delay)) tNil))) (tOp (rEqP a.S) (tVar 1) (tC (.str "delay")))))) (tRet (tC (.bl false))) tNext)
    (tRet (tAndV (tCB rIsI (tCons (eConD [(a.c_Control, .str "base"), (a.c_Fixed, .str "fixed"), (a.c_Climb, .str "climb"), (a.c_Curve, .str "curve"), (a.c_Delay, .str "delay")] "KIND" (tVar 0)) (tCons (tC (.ty "str")) tNil))) (tOp (rEqP a.S) (eConD [(a.c_Control, .str "base"), (a.c_Fixed, .str "fixed"), (a.c_Climb, .str "climb"), (a.c_Curve, .str "curve"), (a.c_Delay, .str "delay")] "KIND" (tVar 0)) (tVar 1)))))))
def sp_classed (a : Cl) : Sp := spB 2 2 (t_classed a)
theorem in_classed {a : Cl} {v0 v1 : V} {H : Hp} {Q : VK} {E : XK} (h : (tSeq (tIfS (tOr (tNot (tB (tCB (rIsO a.c_Control [(a.c_Control, true), (a.c_Fixed, true), (a.c_Climb, true), (a.c_Curve, true), (a.c_Delay, true)]) (tCons (tVar 0) (tCons (eCon (.ref a.c_Control)) tNil))))) (tTest (tOp (rNeP a.S) (tCB (rIsO a.c_Fixed [(a.c_Control, false), (a.c_Fixed, true), (a.c_Climb, false), (a.c_Curve, false), (a.c_Delay, false)]) (tCons (tVar 0) (tCons (eCon (.ref a.c_Fixed)) tNil))) (tOp (rEqP a.S) (tVar 1) (tC (.str "fixed")))))) (tRet (tC (.bl false))) tNext)
    (tSeq (tIfS (tTest (tOp (rNeP a.S) (tCB (rIsO a.c_Climb [(a.c_Control, false), (a.c_Fixed, false), (a.c_Climb, true), (a.c_Curve, true), (a.c_Delay, true)]) (tCons (tVar 0) (tCons (eCon (.ref a.c_Climb)) tNil))) (tOrV (tOp (rEqP a.S) (tVar 1) (tC (.str "climb"))) (tOrV (tOp (rEqP a.S) (tVar 1) (tC (.str "curve"))) (tOp (rEqP a.S) (tVar 1) (tC (.str "delay"))))))) (tRet (tC (.bl false))) tNext)
    (tSeq (tIfS (tOr (tTest (tOp (rNeP a.S) (tCB (rIsO a.c_Curve [(a.c_Control, false), (a.c_Fixed, false), (a.c_Climb, false), (a.c_Curve, true), (a.c_Delay, false)]) (tCons (tVar 0) (tCons (eCon (.ref a.c_Curve)) tNil))) (tOp (rEqP a.S) (tVar 1) (tC (.str "curve"))))) (tTest (tOp (rNeP a.S) (tCB (rIsO a.c_Delay [(a.c_Control, false), (a.c_Fixed, false), (a.c_Climb, false), (a.c_Curve, false), (a.c_Delay, true)]) (tCons (tVar 0) (tCons (eCon (.ref a.c_Delay)) tNil))) (tOp (rEqP a.S) (tVar 1) (tC (.str "delay")))))) (tRet (tC (.bl false))) tNext)
    (tRet (tAndV (tCB rIsI (tCons (eConD [(a.c_Control, .str "base"), (a.c_Fixed, .str "fixed"), (a.c_Climb, .str "climb"), (a.c_Curve, .str "curve"), (a.c_Delay, .str "delay")] "KIND" (tVar 0)) (tCons (tC (.ty "str")) tNil))) (tOp (rEqP a.S) (eConD [(a.c_Control, .str "base"), (a.c_Fixed, .str "fixed"), (a.c_Climb, .str "climb"), (a.c_Curve, .str "curve"), (a.c_Delay, .str "delay")] "KIND" (tVar 0)) (tVar 1))))))) ⟨fun _ H' => Q .non H', Q, fun _ _ => False, fun _ _ => False⟩ [some v0, some v1] H) : sp_classed a [v0, v1] H Q E := ⟨rfl, h⟩
def t_truth (a : Cl) (E : XK) : TS :=
  (tRet (tAndV (tCB rIsI (tCons (tVar 0) (tCons (tC (.ty "bool")) tNil))) (tOp (rEqP a.S) (tVar 0) (tVar 1))))
def sp_truth (a : Cl) : Sp := spB 2 2 (t_truth a)
theorem in_truth {a : Cl} {v0 v1 : V} {H : Hp} {Q : VK} {E : XK} (h : (tRet (tAndV (tCB rIsI (tCons (tVar 0) (tCons (tC (.ty "bool")) tNil))) (tOp (rEqP a.S) (tVar 0) (tVar 1)))) ⟨fun _ H' => Q .non H', Q, fun _ _ => False, fun _ _ => False⟩ [some v0, some v1] H) : sp_truth a [v0, v1] H Q E := ⟨rfl, h⟩
def t_Control_starting (a : Cl) (E : XK) : TS :=
  (tRet (tOp rLt (eFldD [a.c_Control, a.c_Fixed, a.c_Climb, a.c_Curve, a.c_Delay] "window" (tVar 0)) (eFldD [a.c_Control, a.c_Fixed, a.c_Climb, a.c_Curve, a.c_Delay] "threshold" (tVar 0))))
def sp_Control_starting (a : Cl) : Sp := spB 1 1 (t_Control_starting a)
theorem in_Control_starting {a : Cl} {v0 : V} {H : Hp} {Q : VK} {E : XK} (h : (tRet (tOp rLt (eFldD [a.c_Control, a.c_Fixed, a.c_Climb, a.c_Curve, a.c_Delay] "window" (tVar 0)) (eFldD [a.c_Control, a.c_Fixed, a.c_Climb, a.c_Curve, a.c_Delay] "threshold" (tVar 0)))) ⟨fun _ H' => Q .non H', Q, fun _ _ => False, fun _ _ => False⟩ [some v0] H) : sp_Control_starting a [v0] H Q E := ⟨rfl, h⟩
def t_base (a : Cl) (E : XK) : TS :=
  (tSeq (tIfS (tOr (tNot (tB (tCall (sp_whole a) [] E (tCons (eFldD [a.c_Control, a.c_Fixed, a.c_Climb, a.c_Curve, a.c_Delay] "unit" (tVar 0)) (tCons (tOp (rIx a.S) (tVar 1) (tC (.int 0))) tNil))))) (tNot (tB (tCall (sp_whole a) [] E (tCons (eFldD [a.c_Control, a.c_Fixed, a.c_Climb, a.c_Curve, a.c_Delay] "window" (tVar 0)) (tCons (tOp (rIx a.S) (tVar 1) (tC (.int 1))) tNil)))))) (tRet (tC (.bl false))) tNext)
    (tSeq (tIfS (tOr (tNot (tB (tCall (sp_whole a) [] E (tCons (eFldD [a.c_Control, a.c_Fixed, a.c_Climb, a.c_Curve, a.c_Delay] "threshold" (tVar 0)) (tCons (tOp (rIx a.S) (tVar 1) (tC (.int 2))) tNil))))) (tNot (tB (tCall (sp_whole a) [] E (tCons (eFldD [a.c_Control, a.c_Fixed, a.c_Climb, a.c_Curve, a.c_Delay] "credit" (tVar 0)) (tCons (tOp (rIx a.S) (tVar 1) (tC (.int 3))) tNil)))))) (tRet (tC (.bl false))) tNext)
    (tRet (tAndV (tCall (sp_truth a) [] E (tCons (eFldD [a.c_Control, a.c_Fixed, a.c_Climb, a.c_Curve, a.c_Delay] "stalled" (tVar 0)) (tCons (tOp (rIx a.S) (tVar 1) (tC (.int 4))) tNil))) (tCall (sp_truth a) [] E (tCons (ePropD [(a.c_Control, sp_Control_starting a), (a.c_Fixed, sp_Control_starting a), (a.c_Climb, sp_Control_starting a), (a.c_Curve, sp_Control_starting a), (a.c_Delay, sp_Control_starting a)] (tVar 0)) (tCons (tOp rLt (tOp (rIx a.S) (tVar 1) (tC (.int 1))) (tOp (rIx a.S) (tVar 1) (tC (.int 2)))) tNil)))))))
def sp_base (a : Cl) : Sp := spB 2 2 (t_base a)
theorem in_base {a : Cl} {v0 v1 : V} {H : Hp} {Q : VK} {E : XK} (h : (tSeq (tIfS (tOr (tNot (tB (tCall (sp_whole a) [] E (tCons (eFldD [a.c_Control, a.c_Fixed, a.c_Climb, a.c_Curve, a.c_Delay] "unit" (tVar 0)) (tCons (tOp (rIx a.S) (tVar 1) (tC (.int 0))) tNil))))) (tNot (tB (tCall (sp_whole a) [] E (tCons (eFldD [a.c_Control, a.c_Fixed, a.c_Climb, a.c_Curve, a.c_Delay] "window" (tVar 0)) (tCons (tOp (rIx a.S) (tVar 1) (tC (.int 1))) tNil)))))) (tRet (tC (.bl false))) tNext)
    (tSeq (tIfS (tOr (tNot (tB (tCall (sp_whole a) [] E (tCons (eFldD [a.c_Control, a.c_Fixed, a.c_Climb, a.c_Curve, a.c_Delay] "threshold" (tVar 0)) (tCons (tOp (rIx a.S) (tVar 1) (tC (.int 2))) tNil))))) (tNot (tB (tCall (sp_whole a) [] E (tCons (eFldD [a.c_Control, a.c_Fixed, a.c_Climb, a.c_Curve, a.c_Delay] "credit" (tVar 0)) (tCons (tOp (rIx a.S) (tVar 1) (tC (.int 3))) tNil)))))) (tRet (tC (.bl false))) tNext)
    (tRet (tAndV (tCall (sp_truth a) [] E (tCons (eFldD [a.c_Control, a.c_Fixed, a.c_Climb, a.c_Curve, a.c_Delay] "stalled" (tVar 0)) (tCons (tOp (rIx a.S) (tVar 1) (tC (.int 4))) tNil))) (tCall (sp_truth a) [] E (tCons (ePropD [(a.c_Control, sp_Control_starting a), (a.c_Fixed, sp_Control_starting a), (a.c_Climb, sp_Control_starting a), (a.c_Curve, sp_Control_starting a), (a.c_Delay, sp_Control_starting a)] (tVar 0)) (tCons (tOp rLt (tOp (rIx a.S) (tVar 1) (tC (.int 1))) (tOp (rIx a.S) (tVar 1) (tC (.int 2)))) tNil))))))) ⟨fun _ H' => Q .non H', Q, fun _ _ => False, fun _ _ => False⟩ [some v0, some v1] H) : sp_base a [v0, v1] H Q E := ⟨rfl, h⟩
def t_times (a : Cl) (E : XK) : TS :=
  (tSeq (tIfS (tOr (tTest (tOp (rEqP a.S) (tVar 0) (tC (.int 1)))) (tTest (tOp (rEqP a.S) (tVar 0) (tC (.int 7))))) (tRet (tC (.int 8))) tNext)
    (tSeq (tIfS (tOr (tTest (tOp (rEqP a.S) (tVar 0) (tC (.int 5)))) (tTest (tOp (rEqP a.S) (tVar 0) (tC (.int 6))))) (tRet (tVar 1)) tNext)
    (tRet (tC (.int 2)))))
def sp_times (a : Cl) : Sp := spB 2 2 (t_times a)
theorem in_times {a : Cl} {v0 v1 : V} {H : Hp} {Q : VK} {E : XK} (h : (tSeq (tIfS (tOr (tTest (tOp (rEqP a.S) (tVar 0) (tC (.int 1)))) (tTest (tOp (rEqP a.S) (tVar 0) (tC (.int 7))))) (tRet (tC (.int 8))) tNext)
    (tSeq (tIfS (tOr (tTest (tOp (rEqP a.S) (tVar 0) (tC (.int 5)))) (tTest (tOp (rEqP a.S) (tVar 0) (tC (.int 6))))) (tRet (tVar 1)) tNext)
    (tRet (tC (.int 2))))) ⟨fun _ H' => Q .non H', Q, fun _ _ => False, fun _ _ => False⟩ [some v0, some v1] H) : sp_times a [v0, v1] H Q E := ⟨rfl, h⟩
def t_fresh (a : Cl) (E : XK) : TS :=
  (tSeq (tAsg (tCall (sp_word a) [] E (tCons (tVar 1) tNil)) (gName 4))
    (tSeq (tIfS (tNot (tB (tCall (sp_classed a) [] E (tCons (tVar 0) (tCons (tVar 4) tNil))))) (tRet (tC (.bl false))) tNext)
    (tSeq (tIfS (tNot (tB (tCall (sp_base a) [] E (tCons (tVar 0) (tCons (tLst (tCons (tVar 2) (tCons (tOp rMul (tVar 2) (tCall (sp_times a) [] E (tCons (tVar 1) (tCons (tVar 3) tNil)))) (tCons (tC (.int 4194304)) (tCons (tC (.int 0)) (tCons (tC (.bl false)) tNil)))))) tNil))))) (tRet (tC (.bl false))) tNext)
    (tSeq (tIfS (tTest (tOp (rEqP a.S) (tVar 4) (tC (.str "curve")))) (tRet (tAndV (tCall (sp_whole a) [] E (tCons (eFldD [a.c_Control, a.c_Fixed, a.c_Climb, a.c_Curve, a.c_Delay] "peak" (tVar 0)) (tCons (tC (.int 0)) tNil))) (tAndV (tCall (sp_whole a) [] E (tCons (eFldD [a.c_Control, a.c_Fixed, a.c_Climb, a.c_Curve, a.c_Delay] "span" (tVar 0)) (tCons (tC (.int 0)) tNil))) (tOp rIs (eFldD [a.c_Control, a.c_Fixed, a.c_Climb, a.c_Curve, a.c_Delay] "born" (tVar 0)) (tC .non))))) tNext)
    (tSeq (tIfS (tTest (tOp (rEqP a.S) (tVar 4) (tC (.str "delay")))) (tSeq (tIfS (tOr (tNot (tB (tCall (sp_whole a) [] E (tCons (eFldD [a.c_Control, a.c_Fixed, a.c_Climb, a.c_Curve, a.c_Delay] "least" (tVar 0)) (tCons (tC (.int 0)) tNil))))) (tNot (tB (tCall (sp_whole a) [] E (tCons (eFldD [a.c_Control, a.c_Fixed, a.c_Climb, a.c_Curve, a.c_Delay] "latest" (tVar 0)) (tCons (tC (.int 0)) tNil)))))) (tRet (tC (.bl false))) tNext)
    (tRet (tCall (sp_whole a) [] E (tCons (eFldD [a.c_Control, a.c_Fixed, a.c_Climb, a.c_Curve, a.c_Delay] "samples" (tVar 0)) (tCons (tC (.int 0)) tNil))))) tNext)
    (tRet (tC (.bl true))))))))
def sp_fresh (a : Cl) : Sp := spB 5 4 (t_fresh a)
theorem in_fresh {a : Cl} {v0 v1 v2 v3 : V} {H : Hp} {Q : VK} {E : XK} (h : (tSeq (tAsg (tCall (sp_word a) [] E (tCons (tVar 1) tNil)) (gName 4))
    (tSeq (tIfS (tNot (tB (tCall (sp_classed a) [] E (tCons (tVar 0) (tCons (tVar 4) tNil))))) (tRet (tC (.bl false))) tNext)
    (tSeq (tIfS (tNot (tB (tCall (sp_base a) [] E (tCons (tVar 0) (tCons (tLst (tCons (tVar 2) (tCons (tOp rMul (tVar 2) (tCall (sp_times a) [] E (tCons (tVar 1) (tCons (tVar 3) tNil)))) (tCons (tC (.int 4194304)) (tCons (tC (.int 0)) (tCons (tC (.bl false)) tNil)))))) tNil))))) (tRet (tC (.bl false))) tNext)
    (tSeq (tIfS (tTest (tOp (rEqP a.S) (tVar 4) (tC (.str "curve")))) (tRet (tAndV (tCall (sp_whole a) [] E (tCons (eFldD [a.c_Control, a.c_Fixed, a.c_Climb, a.c_Curve, a.c_Delay] "peak" (tVar 0)) (tCons (tC (.int 0)) tNil))) (tAndV (tCall (sp_whole a) [] E (tCons (eFldD [a.c_Control, a.c_Fixed, a.c_Climb, a.c_Curve, a.c_Delay] "span" (tVar 0)) (tCons (tC (.int 0)) tNil))) (tOp rIs (eFldD [a.c_Control, a.c_Fixed, a.c_Climb, a.c_Curve, a.c_Delay] "born" (tVar 0)) (tC .non))))) tNext)
    (tSeq (tIfS (tTest (tOp (rEqP a.S) (tVar 4) (tC (.str "delay")))) (tSeq (tIfS (tOr (tNot (tB (tCall (sp_whole a) [] E (tCons (eFldD [a.c_Control, a.c_Fixed, a.c_Climb, a.c_Curve, a.c_Delay] "least" (tVar 0)) (tCons (tC (.int 0)) tNil))))) (tNot (tB (tCall (sp_whole a) [] E (tCons (eFldD [a.c_Control, a.c_Fixed, a.c_Climb, a.c_Curve, a.c_Delay] "latest" (tVar 0)) (tCons (tC (.int 0)) tNil)))))) (tRet (tC (.bl false))) tNext)
    (tRet (tCall (sp_whole a) [] E (tCons (eFldD [a.c_Control, a.c_Fixed, a.c_Climb, a.c_Curve, a.c_Delay] "samples" (tVar 0)) (tCons (tC (.int 0)) tNil))))) tNext)
    (tRet (tC (.bl true)))))))) ⟨fun _ H' => Q .non H', Q, fun _ _ => False, fun _ _ => False⟩ [some v0, some v1, some v2, some v3, none] H) : sp_fresh a [v0, v1, v2, v3] H Q E := ⟨rfl, h⟩
def t_is_whole (a : Cl) (E : XK) : TS :=
  (tRet (tAndV (tCB rIsI (tCons (tVar 0) (tCons (tC (.ty "int")) tNil))) (tNotV (tCB rIsI (tCons (tVar 0) (tCons (tC (.ty "bool")) tNil))))))
def sp_is_whole (a : Cl) : Sp := spB 1 1 (t_is_whole a)
theorem in_is_whole {a : Cl} {v0 : V} {H : Hp} {Q : VK} {E : XK} (h : (tRet (tAndV (tCB rIsI (tCons (tVar 0) (tCons (tC (.ty "int")) tNil))) (tNotV (tCB rIsI (tCons (tVar 0) (tCons (tC (.ty "bool")) tNil)))))) ⟨fun _ H' => Q .non H', Q, fun _ _ => False, fun _ _ => False⟩ [some v0] H) : sp_is_whole a [v0] H Q E := ⟨rfl, h⟩
def t_in_range (a : Cl) (E : XK) : TS :=
  (tRet (tAndV (tCall (sp_is_whole a) [] E (tCons (tVar 0) tNil)) (tChain rLe rLe (tVar 1) (tVar 0) (tVar 2))))
def sp_in_range (a : Cl) : Sp := spB 3 3 (t_in_range a)
theorem in_in_range {a : Cl} {v0 v1 v2 : V} {H : Hp} {Q : VK} {E : XK} (h : (tRet (tAndV (tCall (sp_is_whole a) [] E (tCons (tVar 0) tNil)) (tChain rLe rLe (tVar 1) (tVar 0) (tVar 2)))) ⟨fun _ H' => Q .non H', Q, fun _ _ => False, fun _ _ => False⟩ [some v0, some v1, some v2] H) : sp_in_range a [v0, v1, v2] H Q E := ⟨rfl, h⟩
def t_Control___init__ (a : Cl) (E : XK) : TS :=
  (tSeq (tIfS (tNot (tB (tCall (sp_in_range a) [] E (tCons (tVar 1) (tCons (tC (.int 1)) (tCons (tC (.int 65535)) tNil)))))) (sRaise E (tMkC a.c_InvalidSetting ["setting"] (tCons (tC (.str "unit")) tNil))) tNext)
    (tSeq (sSetFD [a.c_Control, a.c_Fixed, a.c_Climb, a.c_Curve, a.c_Delay] "unit" (tVar 0) (tVar 1))
    (tSeq (sSetFD [a.c_Control, a.c_Fixed, a.c_Climb, a.c_Curve, a.c_Delay] "window" (tVar 0) (tOp rMul (tC (.int 2)) (tVar 1)))
    (tSeq (sSetFD [a.c_Control, a.c_Fixed, a.c_Climb, a.c_Curve, a.c_Delay] "threshold" (tVar 0) (eCon (.int 4194304)))
    (tSeq (sSetFD [a.c_Control, a.c_Fixed, a.c_Climb, a.c_Curve, a.c_Delay] "credit" (tVar 0) (tC (.int 0)))
    (sSetFD [a.c_Control, a.c_Fixed, a.c_Climb, a.c_Curve, a.c_Delay] "stalled" (tVar 0) (tC (.bl false))))))))
def sp_Control___init__ (a : Cl) : Sp := spB 2 2 (t_Control___init__ a)
theorem in_Control___init__ {a : Cl} {v0 v1 : V} {H : Hp} {Q : VK} {E : XK} (h : (tSeq (tIfS (tNot (tB (tCall (sp_in_range a) [] E (tCons (tVar 1) (tCons (tC (.int 1)) (tCons (tC (.int 65535)) tNil)))))) (sRaise E (tMkC a.c_InvalidSetting ["setting"] (tCons (tC (.str "unit")) tNil))) tNext)
    (tSeq (sSetFD [a.c_Control, a.c_Fixed, a.c_Climb, a.c_Curve, a.c_Delay] "unit" (tVar 0) (tVar 1))
    (tSeq (sSetFD [a.c_Control, a.c_Fixed, a.c_Climb, a.c_Curve, a.c_Delay] "window" (tVar 0) (tOp rMul (tC (.int 2)) (tVar 1)))
    (tSeq (sSetFD [a.c_Control, a.c_Fixed, a.c_Climb, a.c_Curve, a.c_Delay] "threshold" (tVar 0) (eCon (.int 4194304)))
    (tSeq (sSetFD [a.c_Control, a.c_Fixed, a.c_Climb, a.c_Curve, a.c_Delay] "credit" (tVar 0) (tC (.int 0)))
    (sSetFD [a.c_Control, a.c_Fixed, a.c_Climb, a.c_Curve, a.c_Delay] "stalled" (tVar 0) (tC (.bl false)))))))) ⟨fun _ H' => Q .non H', Q, fun _ _ => False, fun _ _ => False⟩ [some v0, some v1] H) : sp_Control___init__ a [v0, v1] H Q E := ⟨rfl, h⟩
def t_Fixed___init__ (a : Cl) (E : XK) : TS :=
  (tSeq (tDrop (tSupM [a.c_Fixed] (sp_Control___init__ a) E (tCons (tVar 1) tNil)))
    (tSeq (tIfS (tNot (tB (tCall (sp_in_range a) [] E (tCons (tVar 2) (tCons (tC (.int 1)) (tCons (tC (.int 64)) tNil)))))) (sRaise E (tMkC a.c_InvalidSetting ["setting"] (tCons (tC (.str "pieces")) tNil))) tNext)
    (sSetF a.c_Fixed "window" (tVar 0) (tOp rMul (tVar 1) (tVar 2)))))
def sp_Fixed___init__ (a : Cl) : Sp := spB 3 3 (t_Fixed___init__ a)
theorem in_Fixed___init__ {a : Cl} {v0 v1 v2 : V} {H : Hp} {Q : VK} {E : XK} (h : (tSeq (tDrop (tSupM [a.c_Fixed] (sp_Control___init__ a) E (tCons (tVar 1) tNil)))
    (tSeq (tIfS (tNot (tB (tCall (sp_in_range a) [] E (tCons (tVar 2) (tCons (tC (.int 1)) (tCons (tC (.int 64)) tNil)))))) (sRaise E (tMkC a.c_InvalidSetting ["setting"] (tCons (tC (.str "pieces")) tNil))) tNext)
    (sSetF a.c_Fixed "window" (tVar 0) (tOp rMul (tVar 1) (tVar 2))))) ⟨fun _ H' => Q .non H', Q, fun _ _ => False, fun _ _ => False⟩ [some v0, some v1, some v2] H) : sp_Fixed___init__ a [v0, v1, v2] H Q E := ⟨rfl, h⟩
def t_Climb___init__ (a : Cl) (E : XK) : TS :=
  (tDrop (tSupM [a.c_Climb, a.c_Curve, a.c_Delay] (sp_Control___init__ a) E (tCons (tVar 1) tNil)))
def sp_Climb___init__ (a : Cl) : Sp := spB 2 2 (t_Climb___init__ a)
theorem in_Climb___init__ {a : Cl} {v0 v1 : V} {H : Hp} {Q : VK} {E : XK} (h : (tDrop (tSupM [a.c_Climb, a.c_Curve, a.c_Delay] (sp_Control___init__ a) E (tCons (tVar 1) tNil))) ⟨fun _ H' => Q .non H', Q, fun _ _ => False, fun _ _ => False⟩ [some v0, some v1] H) : sp_Climb___init__ a [v0, v1] H Q E := ⟨rfl, h⟩
def t_Curve___init__ (a : Cl) (E : XK) : TS :=
  (tSeq (tDrop (tSupM [a.c_Curve] (sp_Climb___init__ a) E (tCons (tVar 1) tNil)))
    (tSeq (sSetF a.c_Curve "peak" (tVar 0) (tC (.int 0)))
    (tSeq (sSetF a.c_Curve "span" (tVar 0) (tC (.int 0)))
    (sSetF a.c_Curve "born" (tVar 0) (tC .non)))))
def sp_Curve___init__ (a : Cl) : Sp := spB 2 2 (t_Curve___init__ a)
theorem in_Curve___init__ {a : Cl} {v0 v1 : V} {H : Hp} {Q : VK} {E : XK} (h : (tSeq (tDrop (tSupM [a.c_Curve] (sp_Climb___init__ a) E (tCons (tVar 1) tNil)))
    (tSeq (sSetF a.c_Curve "peak" (tVar 0) (tC (.int 0)))
    (tSeq (sSetF a.c_Curve "span" (tVar 0) (tC (.int 0)))
    (sSetF a.c_Curve "born" (tVar 0) (tC .non))))) ⟨fun _ H' => Q .non H', Q, fun _ _ => False, fun _ _ => False⟩ [some v0, some v1] H) : sp_Curve___init__ a [v0, v1] H Q E := ⟨rfl, h⟩
def t_Delay___init__ (a : Cl) (E : XK) : TS :=
  (tSeq (tDrop (tSupM [a.c_Delay] (sp_Climb___init__ a) E (tCons (tVar 1) tNil)))
    (tSeq (sSetF a.c_Delay "least" (tVar 0) (tC (.int 0)))
    (tSeq (sSetF a.c_Delay "latest" (tVar 0) (tC (.int 0)))
    (sSetF a.c_Delay "samples" (tVar 0) (tC (.int 0))))))
def sp_Delay___init__ (a : Cl) : Sp := spB 2 2 (t_Delay___init__ a)
theorem in_Delay___init__ {a : Cl} {v0 v1 : V} {H : Hp} {Q : VK} {E : XK} (h : (tSeq (tDrop (tSupM [a.c_Delay] (sp_Climb___init__ a) E (tCons (tVar 1) tNil)))
    (tSeq (sSetF a.c_Delay "least" (tVar 0) (tC (.int 0)))
    (tSeq (sSetF a.c_Delay "latest" (tVar 0) (tC (.int 0)))
    (sSetF a.c_Delay "samples" (tVar 0) (tC (.int 0)))))) ⟨fun _ H' => Q .non H', Q, fun _ _ => False, fun _ _ => False⟩ [some v0, some v1] H) : sp_Delay___init__ a [v0, v1] H Q E := ⟨rfl, h⟩
def t_control_of (a : Cl) (E : XK) : TS :=
  (tSeq (tIfS (tTest (tOp (rEqP a.S) (tVar 0) (eCon (.str "fixed")))) (tRet (tMake a.c_Fixed (sp_Fixed___init__ a) [.int 8] E (tCons (tVar 1) tNil))) tNext)
    (tSeq (tIfS (tTest (tOp (rEqP a.S) (tVar 0) (eCon (.str "climb")))) (tRet (tMake a.c_Climb (sp_Climb___init__ a) [] E (tCons (tVar 1) tNil))) tNext)
    (tSeq (tIfS (tTest (tOp (rEqP a.S) (tVar 0) (eCon (.str "curve")))) (tRet (tMake a.c_Curve (sp_Curve___init__ a) [] E (tCons (tVar 1) tNil))) tNext)
    (tSeq (tIfS (tTest (tOp (rEqP a.S) (tVar 0) (eCon (.str "delay")))) (tRet (tMake a.c_Delay (sp_Delay___init__ a) [] E (tCons (tVar 1) tNil))) tNext)
    (sRaise E (tMkC a.c_InvalidSetting ["setting"] (tCons (tC (.str "control")) tNil)))))))
def sp_control_of (a : Cl) : Sp := spB 2 2 (t_control_of a)
theorem in_control_of {a : Cl} {v0 v1 : V} {H : Hp} {Q : VK} {E : XK} (h : (tSeq (tIfS (tTest (tOp (rEqP a.S) (tVar 0) (eCon (.str "fixed")))) (tRet (tMake a.c_Fixed (sp_Fixed___init__ a) [.int 8] E (tCons (tVar 1) tNil))) tNext)
    (tSeq (tIfS (tTest (tOp (rEqP a.S) (tVar 0) (eCon (.str "climb")))) (tRet (tMake a.c_Climb (sp_Climb___init__ a) [] E (tCons (tVar 1) tNil))) tNext)
    (tSeq (tIfS (tTest (tOp (rEqP a.S) (tVar 0) (eCon (.str "curve")))) (tRet (tMake a.c_Curve (sp_Curve___init__ a) [] E (tCons (tVar 1) tNil))) tNext)
    (tSeq (tIfS (tTest (tOp (rEqP a.S) (tVar 0) (eCon (.str "delay")))) (tRet (tMake a.c_Delay (sp_Delay___init__ a) [] E (tCons (tVar 1) tNil))) tNext)
    (sRaise E (tMkC a.c_InvalidSetting ["setting"] (tCons (tC (.str "control")) tNil))))))) ⟨fun _ H' => Q .non H', Q, fun _ _ => False, fun _ _ => False⟩ [some v0, some v1] H) : sp_control_of a [v0, v1] H Q E := ⟨rfl, h⟩
def t_make (a : Cl) (E : XK) : TS :=
  (tSeq (tIfS (tTest (tOp (rEqP a.S) (tVar 0) (tC (.int 0)))) (tRet (tMake a.c_Control (sp_Control___init__ a) [] E (tCons (tVar 1) tNil))) tNext)
    (tSeq (tIfS (tTest (tOp (rEqP a.S) (tVar 0) (tC (.int 1)))) (tRet (tMake a.c_Fixed (sp_Fixed___init__ a) [.int 8] E (tCons (tVar 1) tNil))) tNext)
    (tSeq (tIfS (tTest (tOp (rEqP a.S) (tVar 0) (tC (.int 2)))) (tRet (tMake a.c_Climb (sp_Climb___init__ a) [] E (tCons (tVar 1) tNil))) tNext)
    (tSeq (tIfS (tTest (tOp (rEqP a.S) (tVar 0) (tC (.int 3)))) (tRet (tMake a.c_Curve (sp_Curve___init__ a) [] E (tCons (tVar 1) tNil))) tNext)
    (tSeq (tIfS (tTest (tOp (rEqP a.S) (tVar 0) (tC (.int 4)))) (tRet (tMake a.c_Delay (sp_Delay___init__ a) [] E (tCons (tVar 1) tNil))) tNext)
    (tSeq (tIfS (tTest (tOp (rEqP a.S) (tVar 0) (tC (.int 5)))) (tRet (tMake a.c_Fixed (sp_Fixed___init__ a) [] E (tCons (tVar 1) (tCons (tVar 2) tNil)))) tNext)
    (tSeq (tIfS (tTest (tOp (rEqP a.S) (tVar 0) (tC (.int 6)))) (tRet (tMakeKw a.c_Fixed 1 1 (sp_Fixed___init__ a) E (tCons (tVar 1) tNil) (tCons (tVar 2) tNil))) tNext)
    (tRet (tCall (sp_control_of a) [] E (tCons (tOp (rIx a.S) (tLst (tCons (tC (.str "fixed")) (tCons (tC (.str "climb")) (tCons (tC (.str "curve")) (tCons (tC (.str "delay")) tNil))))) (tOp rSub (tVar 0) (tC (.int 7)))) (tCons (tVar 1) tNil)))))))))))
def sp_make (a : Cl) : Sp := spB 3 3 (t_make a)
theorem in_make {a : Cl} {v0 v1 v2 : V} {H : Hp} {Q : VK} {E : XK} (h : (tSeq (tIfS (tTest (tOp (rEqP a.S) (tVar 0) (tC (.int 0)))) (tRet (tMake a.c_Control (sp_Control___init__ a) [] E (tCons (tVar 1) tNil))) tNext)
    (tSeq (tIfS (tTest (tOp (rEqP a.S) (tVar 0) (tC (.int 1)))) (tRet (tMake a.c_Fixed (sp_Fixed___init__ a) [.int 8] E (tCons (tVar 1) tNil))) tNext)
    (tSeq (tIfS (tTest (tOp (rEqP a.S) (tVar 0) (tC (.int 2)))) (tRet (tMake a.c_Climb (sp_Climb___init__ a) [] E (tCons (tVar 1) tNil))) tNext)
    (tSeq (tIfS (tTest (tOp (rEqP a.S) (tVar 0) (tC (.int 3)))) (tRet (tMake a.c_Curve (sp_Curve___init__ a) [] E (tCons (tVar 1) tNil))) tNext)
    (tSeq (tIfS (tTest (tOp (rEqP a.S) (tVar 0) (tC (.int 4)))) (tRet (tMake a.c_Delay (sp_Delay___init__ a) [] E (tCons (tVar 1) tNil))) tNext)
    (tSeq (tIfS (tTest (tOp (rEqP a.S) (tVar 0) (tC (.int 5)))) (tRet (tMake a.c_Fixed (sp_Fixed___init__ a) [] E (tCons (tVar 1) (tCons (tVar 2) tNil)))) tNext)
    (tSeq (tIfS (tTest (tOp (rEqP a.S) (tVar 0) (tC (.int 6)))) (tRet (tMakeKw a.c_Fixed 1 1 (sp_Fixed___init__ a) E (tCons (tVar 1) tNil) (tCons (tVar 2) tNil))) tNext)
    (tRet (tCall (sp_control_of a) [] E (tCons (tOp (rIx a.S) (tLst (tCons (tC (.str "fixed")) (tCons (tC (.str "climb")) (tCons (tC (.str "curve")) (tCons (tC (.str "delay")) tNil))))) (tOp rSub (tVar 0) (tC (.int 7)))) (tCons (tVar 1) tNil))))))))))) ⟨fun _ H' => Q .non H', Q, fun _ _ => False, fun _ _ => False⟩ [some v0, some v1, some v2] H) : sp_make a [v0, v1, v2] H Q E := ⟨rfl, h⟩
def t_Control_on_expiry (a : Cl) (E : XK) : TS :=
  (tSeq (tIfS (tNot (tB (eFldD [a.c_Control, a.c_Climb, a.c_Curve, a.c_Delay] "stalled" (tVar 0)))) (sSetFD [a.c_Control, a.c_Climb, a.c_Curve, a.c_Delay] "threshold" (tVar 0) (tCB rMax2 (tCons (tOp rFdiv (tVar 1) (tC (.int 2))) (tCons (tOp rMul (tC (.int 2)) (eFldD [a.c_Control, a.c_Climb, a.c_Curve, a.c_Delay] "unit" (tVar 0))) tNil)))) tNext)
    (tSeq (sSetFD [a.c_Control, a.c_Climb, a.c_Curve, a.c_Delay] "window" (tVar 0) (eFldD [a.c_Control, a.c_Climb, a.c_Curve, a.c_Delay] "unit" (tVar 0)))
    (tSeq (sSetFD [a.c_Control, a.c_Climb, a.c_Curve, a.c_Delay] "credit" (tVar 0) (tC (.int 0)))
    (sSetFD [a.c_Control, a.c_Climb, a.c_Curve, a.c_Delay] "stalled" (tVar 0) (tC (.bl true))))))
def sp_Control_on_expiry (a : Cl) : Sp := spB 3 3 (t_Control_on_expiry a)
theorem in_Control_on_expiry {a : Cl} {v0 v1 v2 : V} {H : Hp} {Q : VK} {E : XK} (h : (tSeq (tIfS (tNot (tB (eFldD [a.c_Control, a.c_Climb, a.c_Curve, a.c_Delay] "stalled" (tVar 0)))) (sSetFD [a.c_Control, a.c_Climb, a.c_Curve, a.c_Delay] "threshold" (tVar 0) (tCB rMax2 (tCons (tOp rFdiv (tVar 1) (tC (.int 2))) (tCons (tOp rMul (tC (.int 2)) (eFldD [a.c_Control, a.c_Climb, a.c_Curve, a.c_Delay] "unit" (tVar 0))) tNil)))) tNext)
    (tSeq (sSetFD [a.c_Control, a.c_Climb, a.c_Curve, a.c_Delay] "window" (tVar 0) (eFldD [a.c_Control, a.c_Climb, a.c_Curve, a.c_Delay] "unit" (tVar 0)))
    (tSeq (sSetFD [a.c_Control, a.c_Climb, a.c_Curve, a.c_Delay] "credit" (tVar 0) (tC (.int 0)))
    (sSetFD [a.c_Control, a.c_Climb, a.c_Curve, a.c_Delay] "stalled" (tVar 0) (tC (.bl true)))))) ⟨fun _ H' => Q .non H', Q, fun _ _ => False, fun _ _ => False⟩ [some v0, some v1, some v2] H) : sp_Control_on_expiry a [v0, v1, v2] H Q E := ⟨rfl, h⟩
def t_Fixed_on_expiry (a : Cl) (E : XK) : TS :=
  (sSetF a.c_Fixed "stalled" (tVar 0) (tC (.bl true)))
def sp_Fixed_on_expiry (a : Cl) : Sp := spB 3 3 (t_Fixed_on_expiry a)
theorem in_Fixed_on_expiry {a : Cl} {v0 v1 v2 : V} {H : Hp} {Q : VK} {E : XK} (h : (sSetF a.c_Fixed "stalled" (tVar 0) (tC (.bl true))) ⟨fun _ H' => Q .non H', Q, fun _ _ => False, fun _ _ => False⟩ [some v0, some v1, some v2] H) : sp_Fixed_on_expiry a [v0, v1, v2] H Q E := ⟨rfl, h⟩
def t_Climb_on_expiry (a : Cl) (E : XK) : TS :=
  (tDrop (tSupM [a.c_Climb, a.c_Curve, a.c_Delay] (sp_Control_on_expiry a) E (tCons (tVar 1) (tCons (tVar 2) tNil))))
def sp_Climb_on_expiry (a : Cl) : Sp := spB 3 3 (t_Climb_on_expiry a)
theorem in_Climb_on_expiry {a : Cl} {v0 v1 v2 : V} {H : Hp} {Q : VK} {E : XK} (h : (tDrop (tSupM [a.c_Climb, a.c_Curve, a.c_Delay] (sp_Control_on_expiry a) E (tCons (tVar 1) (tCons (tVar 2) tNil)))) ⟨fun _ H' => Q .non H', Q, fun _ _ => False, fun _ _ => False⟩ [some v0, some v1, some v2] H) : sp_Climb_on_expiry a [v0, v1, v2] H Q E := ⟨rfl, h⟩
def t_Curve_on_expiry (a : Cl) (E : XK) : TS :=
  (tSeq (sSetF a.c_Curve "peak" (tVar 0) (eFld a.c_Curve "window" (tVar 0)))
    (tSeq (sSetF a.c_Curve "born" (tVar 0) (tC .non))
    (tDrop (tSupM [a.c_Curve] (sp_Climb_on_expiry a) E (tCons (tVar 1) (tCons (tVar 2) tNil))))))
def sp_Curve_on_expiry (a : Cl) : Sp := spB 3 3 (t_Curve_on_expiry a)
theorem in_Curve_on_expiry {a : Cl} {v0 v1 v2 : V} {H : Hp} {Q : VK} {E : XK} (h : (tSeq (sSetF a.c_Curve "peak" (tVar 0) (eFld a.c_Curve "window" (tVar 0)))
    (tSeq (sSetF a.c_Curve "born" (tVar 0) (tC .non))
    (tDrop (tSupM [a.c_Curve] (sp_Climb_on_expiry a) E (tCons (tVar 1) (tCons (tVar 2) tNil)))))) ⟨fun _ H' => Q .non H', Q, fun _ _ => False, fun _ _ => False⟩ [some v0, some v1, some v2] H) : sp_Curve_on_expiry a [v0, v1, v2] H Q E := ⟨rfl, h⟩
def t_Delay_on_expiry (a : Cl) (E : XK) : TS :=
  (tDrop (tSupM [a.c_Delay] (sp_Climb_on_expiry a) E (tCons (tVar 1) (tCons (tVar 2) tNil))))
def sp_Delay_on_expiry (a : Cl) : Sp := spB 3 3 (t_Delay_on_expiry a)
theorem in_Delay_on_expiry {a : Cl} {v0 v1 v2 : V} {H : Hp} {Q : VK} {E : XK} (h : (tDrop (tSupM [a.c_Delay] (sp_Climb_on_expiry a) E (tCons (tVar 1) (tCons (tVar 2) tNil)))) ⟨fun _ H' => Q .non H', Q, fun _ _ => False, fun _ _ => False⟩ [some v0, some v1, some v2] H) : sp_Delay_on_expiry a [v0, v1, v2] H Q E := ⟨rfl, h⟩
def t_Control_on_sample (a : Cl) (E : XK) : TS :=
  tRetN
def sp_Control_on_sample (a : Cl) : Sp := spB 2 2 (t_Control_on_sample a)
theorem in_Control_on_sample {a : Cl} {v0 v1 : V} {H : Hp} {Q : VK} {E : XK} (h : tRetN ⟨fun _ H' => Q .non H', Q, fun _ _ => False, fun _ _ => False⟩ [some v0, some v1] H) : sp_Control_on_sample a [v0, v1] H Q E := ⟨rfl, h⟩
def t_Fixed_on_sample (a : Cl) (E : XK) : TS :=
  tRetN
def sp_Fixed_on_sample (a : Cl) : Sp := spB 2 2 (t_Fixed_on_sample a)
theorem in_Fixed_on_sample {a : Cl} {v0 v1 : V} {H : Hp} {Q : VK} {E : XK} (h : tRetN ⟨fun _ H' => Q .non H', Q, fun _ _ => False, fun _ _ => False⟩ [some v0, some v1] H) : sp_Fixed_on_sample a [v0, v1] H Q E := ⟨rfl, h⟩
def t_Climb_on_sample (a : Cl) (E : XK) : TS :=
  (tDrop (tSupM [a.c_Climb, a.c_Curve] (sp_Control_on_sample a) E (tCons (tVar 1) tNil)))
def sp_Climb_on_sample (a : Cl) : Sp := spB 2 2 (t_Climb_on_sample a)
theorem in_Climb_on_sample {a : Cl} {v0 v1 : V} {H : Hp} {Q : VK} {E : XK} (h : (tDrop (tSupM [a.c_Climb, a.c_Curve] (sp_Control_on_sample a) E (tCons (tVar 1) tNil))) ⟨fun _ H' => Q .non H', Q, fun _ _ => False, fun _ _ => False⟩ [some v0, some v1] H) : sp_Climb_on_sample a [v0, v1] H Q E := ⟨rfl, h⟩
def t_Curve_on_sample (a : Cl) (E : XK) : TS :=
  (tDrop (tSupM [a.c_Curve] (sp_Climb_on_sample a) E (tCons (tVar 1) tNil)))
def sp_Curve_on_sample (a : Cl) : Sp := spB 2 2 (t_Curve_on_sample a)
theorem in_Curve_on_sample {a : Cl} {v0 v1 : V} {H : Hp} {Q : VK} {E : XK} (h : (tDrop (tSupM [a.c_Curve] (sp_Climb_on_sample a) E (tCons (tVar 1) tNil))) ⟨fun _ H' => Q .non H', Q, fun _ _ => False, fun _ _ => False⟩ [some v0, some v1] H) : sp_Curve_on_sample a [v0, v1] H Q E := ⟨rfl, h⟩
def t_Delay_on_sample (a : Cl) (E : XK) : TS :=
  (tSeq (sSetF a.c_Delay "latest" (tVar 0) (tVar 1))
    (tSeq (tIfS (tTest (tOp (rEqP a.S) (eFld a.c_Delay "samples" (tVar 0)) (tC (.int 0)))) (sSetF a.c_Delay "least" (tVar 0) (tVar 1)) (sSetF a.c_Delay "least" (tVar 0) (tCB rMin2 (tCons (eFld a.c_Delay "least" (tVar 0)) (tCons (tVar 1) tNil)))))
    (sAugF a.c_Delay "samples" (tVar 0) (tC (.int 1)) rInAdd)))
def sp_Delay_on_sample (a : Cl) : Sp := spB 2 2 (t_Delay_on_sample a)
theorem in_Delay_on_sample {a : Cl} {v0 v1 : V} {H : Hp} {Q : VK} {E : XK} (h : (tSeq (sSetF a.c_Delay "latest" (tVar 0) (tVar 1))
    (tSeq (tIfS (tTest (tOp (rEqP a.S) (eFld a.c_Delay "samples" (tVar 0)) (tC (.int 0)))) (sSetF a.c_Delay "least" (tVar 0) (tVar 1)) (sSetF a.c_Delay "least" (tVar 0) (tCB rMin2 (tCons (eFld a.c_Delay "least" (tVar 0)) (tCons (tVar 1) tNil)))))
    (sAugF a.c_Delay "samples" (tVar 0) (tC (.int 1)) rInAdd))) ⟨fun _ H' => Q .non H', Q, fun _ _ => False, fun _ _ => False⟩ [some v0, some v1] H) : sp_Delay_on_sample a [v0, v1] H Q E := ⟨rfl, h⟩
def t_Control_on_loss (a : Cl) (E : XK) : TS :=
  (tSeq (sSetFD [a.c_Control, a.c_Climb, a.c_Delay] "threshold" (tVar 0) (tCB rMax2 (tCons (tOp rFdiv (tVar 1) (tC (.int 2))) (tCons (tOp rMul (tC (.int 2)) (eFldD [a.c_Control, a.c_Climb, a.c_Delay] "unit" (tVar 0))) tNil))))
    (tSeq (sSetFD [a.c_Control, a.c_Climb, a.c_Delay] "window" (tVar 0) (tCB rMin2 (tCons (eCon (.int 4194304)) (tCons (eFldD [a.c_Control, a.c_Climb, a.c_Delay] "threshold" (tVar 0)) tNil))))
    (sSetFD [a.c_Control, a.c_Climb, a.c_Delay] "credit" (tVar 0) (tC (.int 0)))))
def sp_Control_on_loss (a : Cl) : Sp := spB 3 3 (t_Control_on_loss a)
theorem in_Control_on_loss {a : Cl} {v0 v1 v2 : V} {H : Hp} {Q : VK} {E : XK} (h : (tSeq (sSetFD [a.c_Control, a.c_Climb, a.c_Delay] "threshold" (tVar 0) (tCB rMax2 (tCons (tOp rFdiv (tVar 1) (tC (.int 2))) (tCons (tOp rMul (tC (.int 2)) (eFldD [a.c_Control, a.c_Climb, a.c_Delay] "unit" (tVar 0))) tNil))))
    (tSeq (sSetFD [a.c_Control, a.c_Climb, a.c_Delay] "window" (tVar 0) (tCB rMin2 (tCons (eCon (.int 4194304)) (tCons (eFldD [a.c_Control, a.c_Climb, a.c_Delay] "threshold" (tVar 0)) tNil))))
    (sSetFD [a.c_Control, a.c_Climb, a.c_Delay] "credit" (tVar 0) (tC (.int 0))))) ⟨fun _ H' => Q .non H', Q, fun _ _ => False, fun _ _ => False⟩ [some v0, some v1, some v2] H) : sp_Control_on_loss a [v0, v1, v2] H Q E := ⟨rfl, h⟩
def t_Fixed_on_loss (a : Cl) (E : XK) : TS :=
  tRetN
def sp_Fixed_on_loss (a : Cl) : Sp := spB 3 3 (t_Fixed_on_loss a)
theorem in_Fixed_on_loss {a : Cl} {v0 v1 v2 : V} {H : Hp} {Q : VK} {E : XK} (h : tRetN ⟨fun _ H' => Q .non H', Q, fun _ _ => False, fun _ _ => False⟩ [some v0, some v1, some v2] H) : sp_Fixed_on_loss a [v0, v1, v2] H Q E := ⟨rfl, h⟩
def t_Climb_on_loss (a : Cl) (E : XK) : TS :=
  (tDrop (tSupM [a.c_Climb, a.c_Delay] (sp_Control_on_loss a) E (tCons (tVar 1) (tCons (tVar 2) tNil))))
def sp_Climb_on_loss (a : Cl) : Sp := spB 3 3 (t_Climb_on_loss a)
theorem in_Climb_on_loss {a : Cl} {v0 v1 v2 : V} {H : Hp} {Q : VK} {E : XK} (h : (tDrop (tSupM [a.c_Climb, a.c_Delay] (sp_Control_on_loss a) E (tCons (tVar 1) (tCons (tVar 2) tNil)))) ⟨fun _ H' => Q .non H', Q, fun _ _ => False, fun _ _ => False⟩ [some v0, some v1, some v2] H) : sp_Climb_on_loss a [v0, v1, v2] H Q E := ⟨rfl, h⟩
def t_curve_span (a : Cl) (E : XK) : TS :=
  (tSeq (tAsg (tC (.int 0)) (gName 2))
    (tSeq (tWhile (tTest (tOp rLt (tOp rMul (tVar 0) (tOp rPow (tVar 2) (tC (.int 3)))) (tOp rMul (tC (.int 64)) (tVar 1)))) (tAug 2 (tC (.int 1)) rAug))
    (tRet (tVar 2))))
def sp_curve_span (a : Cl) : Sp := spB 3 2 (t_curve_span a)
theorem in_curve_span {a : Cl} {v0 v1 : V} {H : Hp} {Q : VK} {E : XK} (h : (tSeq (tAsg (tC (.int 0)) (gName 2))
    (tSeq (tWhile (tTest (tOp rLt (tOp rMul (tVar 0) (tOp rPow (tVar 2) (tC (.int 3)))) (tOp rMul (tC (.int 64)) (tVar 1)))) (tAug 2 (tC (.int 1)) rAug))
    (tRet (tVar 2)))) ⟨fun _ H' => Q .non H', Q, fun _ _ => False, fun _ _ => False⟩ [some v0, some v1, none] H) : sp_curve_span a [v0, v1] H Q E := ⟨rfl, h⟩
def t_Curve_on_loss (a : Cl) (E : XK) : TS :=
  (tSeq (sSetF a.c_Curve "peak" (tVar 0) (eFld a.c_Curve "window" (tVar 0)))
    (tSeq (sSetF a.c_Curve "threshold" (tVar 0) (tCB rMax2 (tCons (tOp rFdiv (tOp rMul (eFld a.c_Curve "window" (tVar 0)) (tC (.int 7))) (tC (.int 10))) (tCons (tOp rMul (tC (.int 2)) (eFld a.c_Curve "unit" (tVar 0))) tNil))))
    (tSeq (sSetF a.c_Curve "window" (tVar 0) (eFld a.c_Curve "threshold" (tVar 0)))
    (tSeq (sSetF a.c_Curve "credit" (tVar 0) (tC (.int 0)))
    (tSeq (sSetF a.c_Curve "born" (tVar 0) (tVar 2))
    (sSetF a.c_Curve "span" (tVar 0) (tCall (sp_curve_span a) [] E (tCons (eFld a.c_Curve "unit" (tVar 0)) (tCons (tOp rSub (eFld a.c_Curve "peak" (tVar 0)) (eFld a.c_Curve "window" (tVar 0))) tNil)))))))))
def sp_Curve_on_loss (a : Cl) : Sp := spB 3 3 (t_Curve_on_loss a)
theorem in_Curve_on_loss {a : Cl} {v0 v1 v2 : V} {H : Hp} {Q : VK} {E : XK} (h : (tSeq (sSetF a.c_Curve "peak" (tVar 0) (eFld a.c_Curve "window" (tVar 0)))
    (tSeq (sSetF a.c_Curve "threshold" (tVar 0) (tCB rMax2 (tCons (tOp rFdiv (tOp rMul (eFld a.c_Curve "window" (tVar 0)) (tC (.int 7))) (tC (.int 10))) (tCons (tOp rMul (tC (.int 2)) (eFld a.c_Curve "unit" (tVar 0))) tNil))))
    (tSeq (sSetF a.c_Curve "window" (tVar 0) (eFld a.c_Curve "threshold" (tVar 0)))
    (tSeq (sSetF a.c_Curve "credit" (tVar 0) (tC (.int 0)))
    (tSeq (sSetF a.c_Curve "born" (tVar 0) (tVar 2))
    (sSetF a.c_Curve "span" (tVar 0) (tCall (sp_curve_span a) [] E (tCons (eFld a.c_Curve "unit" (tVar 0)) (tCons (tOp rSub (eFld a.c_Curve "peak" (tVar 0)) (eFld a.c_Curve "window" (tVar 0))) tNil))))))))) ⟨fun _ H' => Q .non H', Q, fun _ _ => False, fun _ _ => False⟩ [some v0, some v1, some v2] H) : sp_Curve_on_loss a [v0, v1, v2] H Q E := ⟨rfl, h⟩
def t_Delay_on_loss (a : Cl) (E : XK) : TS :=
  (tDrop (tSupM [a.c_Delay] (sp_Climb_on_loss a) E (tCons (tVar 1) (tCons (tVar 2) tNil))))
def sp_Delay_on_loss (a : Cl) : Sp := spB 3 3 (t_Delay_on_loss a)
theorem in_Delay_on_loss {a : Cl} {v0 v1 v2 : V} {H : Hp} {Q : VK} {E : XK} (h : (tDrop (tSupM [a.c_Delay] (sp_Climb_on_loss a) E (tCons (tVar 1) (tCons (tVar 2) tNil)))) ⟨fun _ H' => Q .non H', Q, fun _ _ => False, fun _ _ => False⟩ [some v0, some v1, some v2] H) : sp_Delay_on_loss a [v0, v1, v2] H Q E := ⟨rfl, h⟩
def t_apart (a : Cl) (E : XK) : TS :=
  (tSeq (tAsg (tCall (sp_make a) [] E (tCons (tVar 0) (tCons (tVar 1) (tCons (tVar 2) tNil)))) (gName 4))
    (tSeq (tAsg (tCall (sp_make a) [] E (tCons (tVar 0) (tCons (tVar 1) (tCons (tVar 2) tNil)))) (gName 5))
    (tSeq (tAsg (tCall (sp_draw a) [] E (tCons (tVar 3) (tCons (tC (.int 100)) tNil))) (gName 6))
    (tSeq (tIfS (tOr (tTest (tOp rIsNot (tMD [(a.c_Control, sp_Control_on_expiry a), (a.c_Fixed, sp_Fixed_on_expiry a), (a.c_Climb, sp_Climb_on_expiry a), (a.c_Curve, sp_Curve_on_expiry a), (a.c_Delay, sp_Delay_on_expiry a)] "on_expiry" (fun _ => E) (tVar 4) (tCons (tVar 6) (tCons (tC (.int 5)) tNil))) (tC .non))) (tTest (tOp rIsNot (tMD [(a.c_Control, sp_Control_on_sample a), (a.c_Fixed, sp_Fixed_on_sample a), (a.c_Climb, sp_Climb_on_sample a), (a.c_Curve, sp_Curve_on_sample a), (a.c_Delay, sp_Delay_on_sample a)] "on_sample" (fun _ => E) (tVar 4) (tCons (tCall (sp_draw a) [] E (tCons (tVar 3) (tCons (tC (.int 1000)) tNil))) tNil)) (tC .non)))) (tRet (tC (.bl false))) tNext)
    (tSeq (tIfS (tOr (tTest (tOp rIsNot (tMD [(a.c_Control, sp_Control_on_loss a), (a.c_Fixed, sp_Fixed_on_loss a), (a.c_Climb, sp_Climb_on_loss a), (a.c_Curve, sp_Curve_on_loss a), (a.c_Delay, sp_Delay_on_loss a)] "on_loss" (fun _ => E) (tVar 4) (tCons (tVar 6) (tCons (tOp rAdd (tC (.int 5)) (tCall (sp_draw a) [] E (tCons (tVar 3) (tCons (tC (.int 1000)) tNil)))) tNil))) (tC .non))) (tNot (tB (tCall (sp_truth a) [] E (tCons (eFldD [a.c_Control, a.c_Fixed, a.c_Climb, a.c_Curve, a.c_Delay] "stalled" (tVar 4)) (tCons (tC (.bl true)) tNil)))))) (tRet (tC (.bl false))) tNext)
    (tSeq (tAsg (tCall (sp_make a) [] E (tCons (tVar 0) (tCons (tVar 1) (tCons (tVar 2) tNil)))) (gName 7))
    (tRet (tAndV (tCall (sp_fresh a) [] E (tCons (tVar 5) (tCons (tVar 0) (tCons (tVar 1) (tCons (tVar 2) tNil))))) (tCall (sp_fresh a) [] E (tCons (tVar 7) (tCons (tVar 0) (tCons (tVar 1) (tCons (tVar 2) tNil)))))))))))))
def sp_apart (a : Cl) : Sp := spB 8 4 (t_apart a)
theorem in_apart {a : Cl} {v0 v1 v2 v3 : V} {H : Hp} {Q : VK} {E : XK} (h : (tSeq (tAsg (tCall (sp_make a) [] E (tCons (tVar 0) (tCons (tVar 1) (tCons (tVar 2) tNil)))) (gName 4))
    (tSeq (tAsg (tCall (sp_make a) [] E (tCons (tVar 0) (tCons (tVar 1) (tCons (tVar 2) tNil)))) (gName 5))
    (tSeq (tAsg (tCall (sp_draw a) [] E (tCons (tVar 3) (tCons (tC (.int 100)) tNil))) (gName 6))
    (tSeq (tIfS (tOr (tTest (tOp rIsNot (tMD [(a.c_Control, sp_Control_on_expiry a), (a.c_Fixed, sp_Fixed_on_expiry a), (a.c_Climb, sp_Climb_on_expiry a), (a.c_Curve, sp_Curve_on_expiry a), (a.c_Delay, sp_Delay_on_expiry a)] "on_expiry" (fun _ => E) (tVar 4) (tCons (tVar 6) (tCons (tC (.int 5)) tNil))) (tC .non))) (tTest (tOp rIsNot (tMD [(a.c_Control, sp_Control_on_sample a), (a.c_Fixed, sp_Fixed_on_sample a), (a.c_Climb, sp_Climb_on_sample a), (a.c_Curve, sp_Curve_on_sample a), (a.c_Delay, sp_Delay_on_sample a)] "on_sample" (fun _ => E) (tVar 4) (tCons (tCall (sp_draw a) [] E (tCons (tVar 3) (tCons (tC (.int 1000)) tNil))) tNil)) (tC .non)))) (tRet (tC (.bl false))) tNext)
    (tSeq (tIfS (tOr (tTest (tOp rIsNot (tMD [(a.c_Control, sp_Control_on_loss a), (a.c_Fixed, sp_Fixed_on_loss a), (a.c_Climb, sp_Climb_on_loss a), (a.c_Curve, sp_Curve_on_loss a), (a.c_Delay, sp_Delay_on_loss a)] "on_loss" (fun _ => E) (tVar 4) (tCons (tVar 6) (tCons (tOp rAdd (tC (.int 5)) (tCall (sp_draw a) [] E (tCons (tVar 3) (tCons (tC (.int 1000)) tNil)))) tNil))) (tC .non))) (tNot (tB (tCall (sp_truth a) [] E (tCons (eFldD [a.c_Control, a.c_Fixed, a.c_Climb, a.c_Curve, a.c_Delay] "stalled" (tVar 4)) (tCons (tC (.bl true)) tNil)))))) (tRet (tC (.bl false))) tNext)
    (tSeq (tAsg (tCall (sp_make a) [] E (tCons (tVar 0) (tCons (tVar 1) (tCons (tVar 2) tNil)))) (gName 7))
    (tRet (tAndV (tCall (sp_fresh a) [] E (tCons (tVar 5) (tCons (tVar 0) (tCons (tVar 1) (tCons (tVar 2) tNil))))) (tCall (sp_fresh a) [] E (tCons (tVar 7) (tCons (tVar 0) (tCons (tVar 1) (tCons (tVar 2) tNil))))))))))))) ⟨fun _ H' => Q .non H', Q, fun _ _ => False, fun _ _ => False⟩ [some v0, some v1, some v2, some v3, none, none, none, none] H) : sp_apart a [v0, v1, v2, v3] H Q E := ⟨rfl, h⟩
def t_bad (a : Cl) (E : XK) : TS :=
  (tSeq (tAsg (tCall (sp_draw a) [] E (tCons (tVar 0) (tCons (tC (.int 8)) tNil))) (gName 2))
    (tSeq (tIfS (tTest (tOp (rEqP a.S) (tVar 2) (tC (.int 0)))) (tRet (tC (.int 0))) tNext)
    (tSeq (tIfS (tTest (tOp (rEqP a.S) (tVar 2) (tC (.int 1)))) (tRet (tOp rSub (tUn rNeg (tC (.int 1))) (tCall (sp_draw a) [] E (tCons (tVar 0) (tCons (tOp rPow (tC (.int 10)) (tC (.int 6))) tNil))))) tNext)
    (tSeq (tIfS (tTest (tOp (rEqP a.S) (tVar 2) (tC (.int 2)))) (tRet (tOp rAdd (tOp rAdd (tVar 1) (tC (.int 1))) (tCall (sp_draw a) [] E (tCons (tVar 0) (tCons (tOp rPow (tC (.int 10)) (tC (.int 6))) tNil))))) tNext)
    (tRet (tOp (rIx a.S) (tLst (tCons (tC (.bl true)) (tCons (tC .non) (tCons (tC (.str "5")) (tCons (tLst (tCons (tC (.int 5)) tNil)) (tCons (tTup (tCons (tC (.int 5)) tNil)) tNil)))))) (tOp rSub (tVar 2) (tC (.int 3)))))))))
def sp_bad (a : Cl) : Sp := spB 3 2 (t_bad a)
theorem in_bad {a : Cl} {v0 v1 : V} {H : Hp} {Q : VK} {E : XK} (h : (tSeq (tAsg (tCall (sp_draw a) [] E (tCons (tVar 0) (tCons (tC (.int 8)) tNil))) (gName 2))
    (tSeq (tIfS (tTest (tOp (rEqP a.S) (tVar 2) (tC (.int 0)))) (tRet (tC (.int 0))) tNext)
    (tSeq (tIfS (tTest (tOp (rEqP a.S) (tVar 2) (tC (.int 1)))) (tRet (tOp rSub (tUn rNeg (tC (.int 1))) (tCall (sp_draw a) [] E (tCons (tVar 0) (tCons (tOp rPow (tC (.int 10)) (tC (.int 6))) tNil))))) tNext)
    (tSeq (tIfS (tTest (tOp (rEqP a.S) (tVar 2) (tC (.int 2)))) (tRet (tOp rAdd (tOp rAdd (tVar 1) (tC (.int 1))) (tCall (sp_draw a) [] E (tCons (tVar 0) (tCons (tOp rPow (tC (.int 10)) (tC (.int 6))) tNil))))) tNext)
    (tRet (tOp (rIx a.S) (tLst (tCons (tC (.bl true)) (tCons (tC .non) (tCons (tC (.str "5")) (tCons (tLst (tCons (tC (.int 5)) tNil)) (tCons (tTup (tCons (tC (.int 5)) tNil)) tNil)))))) (tOp rSub (tVar 2) (tC (.int 3))))))))) ⟨fun _ H' => Q .non H', Q, fun _ _ => False, fun _ _ => False⟩ [some v0, some v1, none] H) : sp_bad a [v0, v1] H Q E := ⟨rfl, h⟩
def t_refusal (a : Cl) (E : XK) : TS :=
  (tSeq (sTry [(.ref a.c_InvalidNumber, 0), (.ref a.c_InvalidSetting, 0)] [(some 3, fun b cls d => (tSeq (tIfS (tOr (tNot (tB (tCB (rIsX [(.ref a.c_InvalidSetting, .ty "ValueError", true), (.ref a.c_InvalidNumber, .ty "ValueError", true)] b cls d) (tCons (tVar 3) (tCons (tC (.ty "ValueError")) tNil))))) (tB (tCB (rIsX [(.ref a.c_InvalidSetting, .ref a.c_InvalidNumber, false), (.ref a.c_InvalidNumber, .ref a.c_InvalidNumber, true)] b cls d) (tCons (tVar 3) (tCons (eCon (.ref a.c_InvalidNumber)) tNil))))) (tRet (tC (.str "other"))) tNext)
    (tSeq (tIfS (tNot (tB (tCB (rIsX [(.ref a.c_InvalidSetting, .ref a.c_InvalidSetting, true), (.ref a.c_InvalidNumber, .ref a.c_InvalidSetting, false)] b cls d) (tCons (tVar 3) (tCons (eCon (.ref a.c_InvalidSetting)) tNil))))) (tRet (tC (.str "other"))) tNext)
    (tRet (eXf b cls d [a.c_InvalidSetting] "setting" (tVar 3))))))] (fun W => (tDrop (tCS (sp_make a) (WE W) (tCons (tVar 0) (tCons (tVar 1) (tCons (tVar 2) tNil)))))))
    (tRet (tC (.str "none"))))
def sp_refusal (a : Cl) : Sp := spB 4 3 (t_refusal a)
theorem in_refusal {a : Cl} {v0 v1 v2 : V} {H : Hp} {Q : VK} {E : XK} (h : (tSeq (sTry [(.ref a.c_InvalidNumber, 0), (.ref a.c_InvalidSetting, 0)] [(some 3, fun b cls d => (tSeq (tIfS (tOr (tNot (tB (tCB (rIsX [(.ref a.c_InvalidSetting, .ty "ValueError", true), (.ref a.c_InvalidNumber, .ty "ValueError", true)] b cls d) (tCons (tVar 3) (tCons (tC (.ty "ValueError")) tNil))))) (tB (tCB (rIsX [(.ref a.c_InvalidSetting, .ref a.c_InvalidNumber, false), (.ref a.c_InvalidNumber, .ref a.c_InvalidNumber, true)] b cls d) (tCons (tVar 3) (tCons (eCon (.ref a.c_InvalidNumber)) tNil))))) (tRet (tC (.str "other"))) tNext)
    (tSeq (tIfS (tNot (tB (tCB (rIsX [(.ref a.c_InvalidSetting, .ref a.c_InvalidSetting, true), (.ref a.c_InvalidNumber, .ref a.c_InvalidSetting, false)] b cls d) (tCons (tVar 3) (tCons (eCon (.ref a.c_InvalidSetting)) tNil))))) (tRet (tC (.str "other"))) tNext)
    (tRet (eXf b cls d [a.c_InvalidSetting] "setting" (tVar 3))))))] (fun W => (tDrop (tCS (sp_make a) (WE W) (tCons (tVar 0) (tCons (tVar 1) (tCons (tVar 2) tNil)))))))
    (tRet (tC (.str "none")))) ⟨fun _ H' => Q .non H', Q, fun _ _ => False, fun _ _ => False⟩ [some v0, some v1, some v2, none] H) : sp_refusal a [v0, v1, v2] H Q E := ⟨rfl, h⟩
def t_units (a : Cl) (E : XK) : TS :=
  (tSeq (tAsg (tCall (sp_bad a) [] E (tCons (tVar 2) (tCons (tC (.int 65535)) tNil))) (gName 3))
    (tSeq (tAsg (tVar 1) (gName 4))
    (tSeq (tIfS (tTest (tOp (rEqP a.S) (tCall (sp_draw a) [] E (tCons (tVar 2) (tCons (tC (.int 2)) tNil))) (tC (.int 0)))) (tAsg (tCall (sp_bad a) [] E (tCons (tVar 2) (tCons (tC (.int 64)) tNil))) (gName 4)) tNext)
    (tSeq (tIfS (tTest (tOp (rNeP a.S) (tCall (sp_refusal a) [] E (tCons (tVar 0) (tCons (tVar 3) (tCons (tVar 4) tNil)))) (tC (.str "unit")))) (tRet (tC (.bl false))) tNext)
    (tSeq (tAsg (tOp (rIx a.S) (tLst (tCons (tC (.int 1)) (tCons (tC (.int 65535)) tNil))) (tCall (sp_draw a) [] E (tCons (tVar 2) (tCons (tC (.int 2)) tNil)))) (gName 5))
    (tSeq (tAsg (tCall (sp_make a) [] E (tCons (tVar 0) (tCons (tVar 5) (tCons (tVar 1) tNil)))) (gName 6))
    (tRet (tCall (sp_fresh a) [] E (tCons (tVar 6) (tCons (tVar 0) (tCons (tVar 5) (tCons (tVar 1) tNil))))))))))))
def sp_units (a : Cl) : Sp := spB 7 3 (t_units a)
theorem in_units {a : Cl} {v0 v1 v2 : V} {H : Hp} {Q : VK} {E : XK} (h : (tSeq (tAsg (tCall (sp_bad a) [] E (tCons (tVar 2) (tCons (tC (.int 65535)) tNil))) (gName 3))
    (tSeq (tAsg (tVar 1) (gName 4))
    (tSeq (tIfS (tTest (tOp (rEqP a.S) (tCall (sp_draw a) [] E (tCons (tVar 2) (tCons (tC (.int 2)) tNil))) (tC (.int 0)))) (tAsg (tCall (sp_bad a) [] E (tCons (tVar 2) (tCons (tC (.int 64)) tNil))) (gName 4)) tNext)
    (tSeq (tIfS (tTest (tOp (rNeP a.S) (tCall (sp_refusal a) [] E (tCons (tVar 0) (tCons (tVar 3) (tCons (tVar 4) tNil)))) (tC (.str "unit")))) (tRet (tC (.bl false))) tNext)
    (tSeq (tAsg (tOp (rIx a.S) (tLst (tCons (tC (.int 1)) (tCons (tC (.int 65535)) tNil))) (tCall (sp_draw a) [] E (tCons (tVar 2) (tCons (tC (.int 2)) tNil)))) (gName 5))
    (tSeq (tAsg (tCall (sp_make a) [] E (tCons (tVar 0) (tCons (tVar 5) (tCons (tVar 1) tNil)))) (gName 6))
    (tRet (tCall (sp_fresh a) [] E (tCons (tVar 6) (tCons (tVar 0) (tCons (tVar 5) (tCons (tVar 1) tNil)))))))))))) ⟨fun _ H' => Q .non H', Q, fun _ _ => False, fun _ _ => False⟩ [some v0, some v1, some v2, none, none, none, none] H) : sp_units a [v0, v1, v2] H Q E := ⟨rfl, h⟩
def t_pieces (a : Cl) (E : XK) : TS :=
  (tSeq (tAsg (tOp rAdd (tC (.int 5)) (tCall (sp_draw a) [] E (tCons (tVar 2) (tCons (tC (.int 2)) tNil)))) (gName 3))
    (tSeq (tIfS (tTest (tOp (rNeP a.S) (tCall (sp_refusal a) [] E (tCons (tVar 3) (tCons (tVar 0) (tCons (tCall (sp_bad a) [] E (tCons (tVar 2) (tCons (tC (.int 64)) tNil))) tNil)))) (tC (.str "pieces")))) (tRet (tC (.bl false))) tNext)
    (tSeq (tAsg (tOp (rIx a.S) (tLst (tCons (tC (.int 1)) (tCons (tC (.int 64)) tNil))) (tCall (sp_draw a) [] E (tCons (tVar 2) (tCons (tC (.int 2)) tNil)))) (gName 4))
    (tSeq (tAsg (tCall (sp_make a) [] E (tCons (tVar 3) (tCons (tVar 0) (tCons (tVar 4) tNil)))) (gName 5))
    (tRet (tAndV (tCall (sp_fresh a) [] E (tCons (tVar 5) (tCons (tVar 3) (tCons (tVar 0) (tCons (tVar 4) tNil))))) (tCall (sp_fresh a) [] E (tCons (tMake a.c_Fixed (sp_Fixed___init__ a) [.int 8] E (tCons (tVar 0) tNil)) (tCons (tC (.int 1)) (tCons (tVar 0) (tCons (tVar 1) tNil)))))))))))
def sp_pieces (a : Cl) : Sp := spB 6 3 (t_pieces a)
theorem in_pieces {a : Cl} {v0 v1 v2 : V} {H : Hp} {Q : VK} {E : XK} (h : (tSeq (tAsg (tOp rAdd (tC (.int 5)) (tCall (sp_draw a) [] E (tCons (tVar 2) (tCons (tC (.int 2)) tNil)))) (gName 3))
    (tSeq (tIfS (tTest (tOp (rNeP a.S) (tCall (sp_refusal a) [] E (tCons (tVar 3) (tCons (tVar 0) (tCons (tCall (sp_bad a) [] E (tCons (tVar 2) (tCons (tC (.int 64)) tNil))) tNil)))) (tC (.str "pieces")))) (tRet (tC (.bl false))) tNext)
    (tSeq (tAsg (tOp (rIx a.S) (tLst (tCons (tC (.int 1)) (tCons (tC (.int 64)) tNil))) (tCall (sp_draw a) [] E (tCons (tVar 2) (tCons (tC (.int 2)) tNil)))) (gName 4))
    (tSeq (tAsg (tCall (sp_make a) [] E (tCons (tVar 3) (tCons (tVar 0) (tCons (tVar 4) tNil)))) (gName 5))
    (tRet (tAndV (tCall (sp_fresh a) [] E (tCons (tVar 5) (tCons (tVar 3) (tCons (tVar 0) (tCons (tVar 4) tNil))))) (tCall (sp_fresh a) [] E (tCons (tMake a.c_Fixed (sp_Fixed___init__ a) [.int 8] E (tCons (tVar 0) tNil)) (tCons (tC (.int 1)) (tCons (tVar 0) (tCons (tVar 1) tNil))))))))))) ⟨fun _ H' => Q .non H', Q, fun _ _ => False, fun _ _ => False⟩ [some v0, some v1, some v2, none, none, none] H) : sp_pieces a [v0, v1, v2] H Q E := ⟨rfl, h⟩
def t_stranger (a : Cl) (E : XK) : TS :=
  (tSeq (sTry [(.ref a.c_InvalidSetting, 0)] [(some 2, fun b cls d => (tSeq (tIfS (tOr (tNot (tB (tCB (rIsX [(.ref a.c_InvalidSetting, .ref a.c_LossError, true), (.ref a.c_InvalidNumber, .ref a.c_LossError, true)] b cls d) (tCons (tVar 2) (tCons (eCon (.ref a.c_LossError)) tNil))))) (tB (tCB (rIsX [(.ref a.c_InvalidSetting, .ref a.c_InvalidNumber, false), (.ref a.c_InvalidNumber, .ref a.c_InvalidNumber, true)] b cls d) (tCons (tVar 2) (tCons (eCon (.ref a.c_InvalidNumber)) tNil))))) (tRet (tC (.str "other"))) tNext)
    (tRet (eXf b cls d [a.c_InvalidSetting] "setting" (tVar 2)))))] (fun W => (tDrop (tCS (sp_control_of a) (WE W) (tCons (tVar 0) (tCons (tVar 1) tNil))))))
    (tRet (tC (.str "none"))))
def sp_stranger (a : Cl) : Sp := spB 3 2 (t_stranger a)
theorem in_stranger {a : Cl} {v0 v1 : V} {H : Hp} {Q : VK} {E : XK} (h : (tSeq (sTry [(.ref a.c_InvalidSetting, 0)] [(some 2, fun b cls d => (tSeq (tIfS (tOr (tNot (tB (tCB (rIsX [(.ref a.c_InvalidSetting, .ref a.c_LossError, true), (.ref a.c_InvalidNumber, .ref a.c_LossError, true)] b cls d) (tCons (tVar 2) (tCons (eCon (.ref a.c_LossError)) tNil))))) (tB (tCB (rIsX [(.ref a.c_InvalidSetting, .ref a.c_InvalidNumber, false), (.ref a.c_InvalidNumber, .ref a.c_InvalidNumber, true)] b cls d) (tCons (tVar 2) (tCons (eCon (.ref a.c_InvalidNumber)) tNil))))) (tRet (tC (.str "other"))) tNext)
    (tRet (eXf b cls d [a.c_InvalidSetting] "setting" (tVar 2)))))] (fun W => (tDrop (tCS (sp_control_of a) (WE W) (tCons (tVar 0) (tCons (tVar 1) tNil))))))
    (tRet (tC (.str "none")))) ⟨fun _ H' => Q .non H', Q, fun _ _ => False, fun _ _ => False⟩ [some v0, some v1, none] H) : sp_stranger a [v0, v1] H Q E := ⟨rfl, h⟩
def t_kinds (a : Cl) (E : XK) : TS :=
  (tSeq (tAsg (tOp (rIx a.S) (tLst (tCons (tC (.str "fixed")) (tCons (tC (.str "climb")) (tCons (tC (.str "curve")) (tCons (tC (.str "delay")) tNil))))) (tCall (sp_draw a) [] E (tCons (tVar 2) (tCons (tC (.int 4)) tNil)))) (gName 3))
    (tSeq (tAsg (tLst (tCons (tC (.str "base")) (tCons (tC (.str "")) (tCons (tC (.str "Climb")) (tCons (tOp rAdd (tVar 3) (tC (.str " "))) (tCons (L2.tSl rSlS (tVar 3) tNoPart (tPart (tUn rNeg (tC (.int 1))))) (tCons (tOp rAdd (tVar 3) (tC (.str "s"))) (tCons (tC .non) (tCons (tC (.int 0)) (tCons (tC (.bl true)) (tCons (tLst (tCons (tVar 3) tNil)) (tCons (tTup (tCons (tVar 3) tNil)) tNil)))))))))))) (gName 4))
    (tSeq (tAsg (tOp (rIx a.S) (tVar 4) (tCall (sp_draw a) [] E (tCons (tVar 2) (tCons (tC (.int 11)) tNil)))) (gName 5))
    (tSeq (tAsg (tCall (sp_bad a) [] E (tCons (tVar 2) (tCons (tC (.int 65535)) tNil))) (gName 6))
    (tSeq (tIfS (tOr (tTest (tOp (rNeP a.S) (tCall (sp_stranger a) [] E (tCons (tVar 5) (tCons (tVar 0) tNil))) (tC (.str "control")))) (tTest (tOp (rNeP a.S) (tCall (sp_stranger a) [] E (tCons (tVar 5) (tCons (tVar 6) tNil))) (tC (.str "control"))))) (tRet (tC (.bl false))) tNext)
    (tSeq (tIfS (tTest (tOp (rNeP a.S) (tCall (sp_stranger a) [] E (tCons (tVar 3) (tCons (tVar 6) tNil))) (tC (.str "unit")))) (tRet (tC (.bl false))) tNext)
    (tSeq (tAsg (tOp rAdd (tC (.int 7)) (eIdx (tLst (tCons (tC (.str "fixed")) (tCons (tC (.str "climb")) (tCons (tC (.str "curve")) (tCons (tC (.str "delay")) tNil))))) (tCons (tVar 3) tNil))) (gName 7))
    (tRet (tCall (sp_fresh a) [] E (tCons (tCall (sp_control_of a) [] E (tCons (tVar 3) (tCons (tVar 0) tNil))) (tCons (tVar 7) (tCons (tVar 0) (tCons (tVar 1) tNil)))))))))))))
def sp_kinds (a : Cl) : Sp := spB 8 3 (t_kinds a)
theorem in_kinds {a : Cl} {v0 v1 v2 : V} {H : Hp} {Q : VK} {E : XK} (h : (tSeq (tAsg (tOp (rIx a.S) (tLst (tCons (tC (.str "fixed")) (tCons (tC (.str "climb")) (tCons (tC (.str "curve")) (tCons (tC (.str "delay")) tNil))))) (tCall (sp_draw a) [] E (tCons (tVar 2) (tCons (tC (.int 4)) tNil)))) (gName 3))
    (tSeq (tAsg (tLst (tCons (tC (.str "base")) (tCons (tC (.str "")) (tCons (tC (.str "Climb")) (tCons (tOp rAdd (tVar 3) (tC (.str " "))) (tCons (L2.tSl rSlS (tVar 3) tNoPart (tPart (tUn rNeg (tC (.int 1))))) (tCons (tOp rAdd (tVar 3) (tC (.str "s"))) (tCons (tC .non) (tCons (tC (.int 0)) (tCons (tC (.bl true)) (tCons (tLst (tCons (tVar 3) tNil)) (tCons (tTup (tCons (tVar 3) tNil)) tNil)))))))))))) (gName 4))
    (tSeq (tAsg (tOp (rIx a.S) (tVar 4) (tCall (sp_draw a) [] E (tCons (tVar 2) (tCons (tC (.int 11)) tNil)))) (gName 5))
    (tSeq (tAsg (tCall (sp_bad a) [] E (tCons (tVar 2) (tCons (tC (.int 65535)) tNil))) (gName 6))
    (tSeq (tIfS (tOr (tTest (tOp (rNeP a.S) (tCall (sp_stranger a) [] E (tCons (tVar 5) (tCons (tVar 0) tNil))) (tC (.str "control")))) (tTest (tOp (rNeP a.S) (tCall (sp_stranger a) [] E (tCons (tVar 5) (tCons (tVar 6) tNil))) (tC (.str "control"))))) (tRet (tC (.bl false))) tNext)
    (tSeq (tIfS (tTest (tOp (rNeP a.S) (tCall (sp_stranger a) [] E (tCons (tVar 3) (tCons (tVar 6) tNil))) (tC (.str "unit")))) (tRet (tC (.bl false))) tNext)
    (tSeq (tAsg (tOp rAdd (tC (.int 7)) (eIdx (tLst (tCons (tC (.str "fixed")) (tCons (tC (.str "climb")) (tCons (tC (.str "curve")) (tCons (tC (.str "delay")) tNil))))) (tCons (tVar 3) tNil))) (gName 7))
    (tRet (tCall (sp_fresh a) [] E (tCons (tCall (sp_control_of a) [] E (tCons (tVar 3) (tCons (tVar 0) tNil))) (tCons (tVar 7) (tCons (tVar 0) (tCons (tVar 1) tNil))))))))))))) ⟨fun _ H' => Q .non H', Q, fun _ _ => False, fun _ _ => False⟩ [some v0, some v1, some v2, none, none, none, none, none] H) : sp_kinds a [v0, v1, v2] H Q E := ⟨rfl, h⟩
def t_check_count (a : Cl) (E : XK) : TS :=
  (tIfS (tNot (tB (tCall (sp_in_range a) [] E (tCons (tVar 0) (tCons (tC (.int 1)) (tCons (tC (.int 65535)) tNil)))))) (sRaise E (tMkC a.c_InvalidNumber ["number"] (tCons (tVar 0) tNil))) tNext)
def sp_check_count (a : Cl) : Sp := spB 1 1 (t_check_count a)
theorem in_check_count {a : Cl} {v0 : V} {H : Hp} {Q : VK} {E : XK} (h : (tIfS (tNot (tB (tCall (sp_in_range a) [] E (tCons (tVar 0) (tCons (tC (.int 1)) (tCons (tC (.int 65535)) tNil)))))) (sRaise E (tMkC a.c_InvalidNumber ["number"] (tCons (tVar 0) tNil))) tNext) ⟨fun _ H' => Q .non H', Q, fun _ _ => False, fun _ _ => False⟩ [some v0] H) : sp_check_count a [v0] H Q E := ⟨rfl, h⟩
def t_Control_grow (a : Cl) (E : XK) : TS :=
  (tDrop (tCall (sp_check_count a) [] E (tCons (tVar 1) tNil)))
def sp_Control_grow (a : Cl) : Sp := spB 3 3 (t_Control_grow a)
theorem in_Control_grow {a : Cl} {v0 v1 v2 : V} {H : Hp} {Q : VK} {E : XK} (h : (tDrop (tCall (sp_check_count a) [] E (tCons (tVar 1) tNil))) ⟨fun _ H' => Q .non H', Q, fun _ _ => False, fun _ _ => False⟩ [some v0, some v1, some v2] H) : sp_Control_grow a [v0, v1, v2] H Q E := ⟨rfl, h⟩
def t_Fixed_grow (a : Cl) (E : XK) : TS :=
  (tDrop (tCall (sp_check_count a) [] E (tCons (tVar 1) tNil)))
def sp_Fixed_grow (a : Cl) : Sp := spB 3 3 (t_Fixed_grow a)
theorem in_Fixed_grow {a : Cl} {v0 v1 v2 : V} {H : Hp} {Q : VK} {E : XK} (h : (tDrop (tCall (sp_check_count a) [] E (tCons (tVar 1) tNil))) ⟨fun _ H' => Q .non H', Q, fun _ _ => False, fun _ _ => False⟩ [some v0, some v1, some v2] H) : sp_Fixed_grow a [v0, v1, v2] H Q E := ⟨rfl, h⟩
def t_Climb_grow (a : Cl) (E : XK) : TS :=
  (tSeq (tDrop (tCall (sp_check_count a) [] E (tCons (tVar 1) tNil)))
    (tSeq (sAugFD [a.c_Climb, a.c_Curve] "credit" (tVar 0) (tVar 1) rInAdd)
    (tWhile (tTest (tOp rGe (eFldD [a.c_Climb, a.c_Curve] "credit" (tVar 0)) (eFldD [a.c_Climb, a.c_Curve] "window" (tVar 0)))) (tSeq (sAugFD [a.c_Climb, a.c_Curve] "credit" (tVar 0) (eFldD [a.c_Climb, a.c_Curve] "window" (tVar 0)) rInSub)
    (sSetFD [a.c_Climb, a.c_Curve] "window" (tVar 0) (tCB rMin2 (tCons (eCon (.int 4194304)) (tCons (tOp rAdd (eFldD [a.c_Climb, a.c_Curve] "window" (tVar 0)) (eFldD [a.c_Climb, a.c_Curve] "unit" (tVar 0))) tNil))))))))
def sp_Climb_grow (a : Cl) : Sp := spB 3 3 (t_Climb_grow a)
theorem in_Climb_grow {a : Cl} {v0 v1 v2 : V} {H : Hp} {Q : VK} {E : XK} (h : (tSeq (tDrop (tCall (sp_check_count a) [] E (tCons (tVar 1) tNil)))
    (tSeq (sAugFD [a.c_Climb, a.c_Curve] "credit" (tVar 0) (tVar 1) rInAdd)
    (tWhile (tTest (tOp rGe (eFldD [a.c_Climb, a.c_Curve] "credit" (tVar 0)) (eFldD [a.c_Climb, a.c_Curve] "window" (tVar 0)))) (tSeq (sAugFD [a.c_Climb, a.c_Curve] "credit" (tVar 0) (eFldD [a.c_Climb, a.c_Curve] "window" (tVar 0)) rInSub)
    (sSetFD [a.c_Climb, a.c_Curve] "window" (tVar 0) (tCB rMin2 (tCons (eCon (.int 4194304)) (tCons (tOp rAdd (eFldD [a.c_Climb, a.c_Curve] "window" (tVar 0)) (eFldD [a.c_Climb, a.c_Curve] "unit" (tVar 0))) tNil)))))))) ⟨fun _ H' => Q .non H', Q, fun _ _ => False, fun _ _ => False⟩ [some v0, some v1, some v2] H) : sp_Climb_grow a [v0, v1, v2] H Q E := ⟨rfl, h⟩
def t_Curve_grow (a : Cl) (E : XK) : TS :=
  (tSeq (tIfS (tTest (tOp rIs (eFld a.c_Curve "born" (tVar 0)) (tC .non))) (tSeq (tDrop (tSupM [a.c_Curve] (sp_Climb_grow a) E (tCons (tVar 1) (tCons (tVar 2) tNil))))
    tRetN) tNext)
    (tSeq (tDrop (tCall (sp_check_count a) [] E (tCons (tVar 1) tNil)))
    (tSeq (tAsg (tOp rSub (tVar 2) (eFld a.c_Curve "born" (tVar 0))) (gName 3))
    (tSeq (tAsg (tOp rAdd (eFld a.c_Curve "peak" (tVar 0)) (tOp rFdiv (tOp rMul (eFld a.c_Curve "unit" (tVar 0)) (tOp rPow (tOp rSub (tVar 3) (eFld a.c_Curve "span" (tVar 0))) (tC (.int 3)))) (tC (.int 64)))) (gName 4))
    (tSeq (tAsg (tCB rMin2 (tCons (tOp rAdd (eFld a.c_Curve "window" (tVar 0)) (tVar 1)) (tCons (tCB rMax2 (tCons (eFld a.c_Curve "window" (tVar 0)) (tCons (tVar 4) tNil))) tNil))) (gName 5))
    (sSetF a.c_Curve "window" (tVar 0) (tCB rMin2 (tCons (eCon (.int 4194304)) (tCons (tVar 5) tNil)))))))))
def sp_Curve_grow (a : Cl) : Sp := spB 6 3 (t_Curve_grow a)
theorem in_Curve_grow {a : Cl} {v0 v1 v2 : V} {H : Hp} {Q : VK} {E : XK} (h : (tSeq (tIfS (tTest (tOp rIs (eFld a.c_Curve "born" (tVar 0)) (tC .non))) (tSeq (tDrop (tSupM [a.c_Curve] (sp_Climb_grow a) E (tCons (tVar 1) (tCons (tVar 2) tNil))))
    tRetN) tNext)
    (tSeq (tDrop (tCall (sp_check_count a) [] E (tCons (tVar 1) tNil)))
    (tSeq (tAsg (tOp rSub (tVar 2) (eFld a.c_Curve "born" (tVar 0))) (gName 3))
    (tSeq (tAsg (tOp rAdd (eFld a.c_Curve "peak" (tVar 0)) (tOp rFdiv (tOp rMul (eFld a.c_Curve "unit" (tVar 0)) (tOp rPow (tOp rSub (tVar 3) (eFld a.c_Curve "span" (tVar 0))) (tC (.int 3)))) (tC (.int 64)))) (gName 4))
    (tSeq (tAsg (tCB rMin2 (tCons (tOp rAdd (eFld a.c_Curve "window" (tVar 0)) (tVar 1)) (tCons (tCB rMax2 (tCons (eFld a.c_Curve "window" (tVar 0)) (tCons (tVar 4) tNil))) tNil))) (gName 5))
    (sSetF a.c_Curve "window" (tVar 0) (tCB rMin2 (tCons (eCon (.int 4194304)) (tCons (tVar 5) tNil))))))))) ⟨fun _ H' => Q .non H', Q, fun _ _ => False, fun _ _ => False⟩ [some v0, some v1, some v2, none, none, none] H) : sp_Curve_grow a [v0, v1, v2] H Q E := ⟨rfl, h⟩
def t_Delay_surplus (a : Cl) (E : XK) : TS :=
  (tSeq (tIfS (tTest (tOp (rEqP a.S) (eFld a.c_Delay "latest" (tVar 0)) (tC (.int 0)))) (tRet (tC (.int 0))) tNext)
    (tRet (tOp rFdiv (tOp rMul (eFld a.c_Delay "window" (tVar 0)) (tOp rSub (eFld a.c_Delay "latest" (tVar 0)) (eFld a.c_Delay "least" (tVar 0)))) (eFld a.c_Delay "latest" (tVar 0)))))
def sp_Delay_surplus (a : Cl) : Sp := spB 1 1 (t_Delay_surplus a)
theorem in_Delay_surplus {a : Cl} {v0 : V} {H : Hp} {Q : VK} {E : XK} (h : (tSeq (tIfS (tTest (tOp (rEqP a.S) (eFld a.c_Delay "latest" (tVar 0)) (tC (.int 0)))) (tRet (tC (.int 0))) tNext)
    (tRet (tOp rFdiv (tOp rMul (eFld a.c_Delay "window" (tVar 0)) (tOp rSub (eFld a.c_Delay "latest" (tVar 0)) (eFld a.c_Delay "least" (tVar 0)))) (eFld a.c_Delay "latest" (tVar 0))))) ⟨fun _ H' => Q .non H', Q, fun _ _ => False, fun _ _ => False⟩ [some v0] H) : sp_Delay_surplus a [v0] H Q E := ⟨rfl, h⟩
def t_Delay_grow (a : Cl) (E : XK) : TS :=
  (tSeq (tDrop (tCall (sp_check_count a) [] E (tCons (tVar 1) tNil)))
    (tSeq (sAugF a.c_Delay "credit" (tVar 0) (tVar 1) rInAdd)
    (tWhile (tTest (tOp rGe (eFld a.c_Delay "credit" (tVar 0)) (eFld a.c_Delay "window" (tVar 0)))) (tSeq (sAugF a.c_Delay "credit" (tVar 0) (eFld a.c_Delay "window" (tVar 0)) rInSub)
    (tSeq (tAsg (tMeth a.c_Delay "surplus" (sp_Delay_surplus a) [] E (tVar 0) tNil) (gName 3))
    (tIfS (tTest (tOp rLt (tVar 3) (tOp rMul (tC (.int 2)) (eFld a.c_Delay "unit" (tVar 0))))) (sSetF a.c_Delay "window" (tVar 0) (tCB rMin2 (tCons (eCon (.int 4194304)) (tCons (tOp rAdd (eFld a.c_Delay "window" (tVar 0)) (eFld a.c_Delay "unit" (tVar 0))) tNil)))) (tIfS (tTest (tOp rGt (tVar 3) (tOp rMul (tC (.int 4)) (eFld a.c_Delay "unit" (tVar 0))))) (sSetF a.c_Delay "window" (tVar 0) (tCB rMax2 (tCons (tOp rMul (tC (.int 2)) (eFld a.c_Delay "unit" (tVar 0))) (tCons (tOp rSub (eFld a.c_Delay "window" (tVar 0)) (eFld a.c_Delay "unit" (tVar 0))) tNil)))) tNext)))))))
def sp_Delay_grow (a : Cl) : Sp := spB 4 3 (t_Delay_grow a)
theorem in_Delay_grow {a : Cl} {v0 v1 v2 : V} {H : Hp} {Q : VK} {E : XK} (h : (tSeq (tDrop (tCall (sp_check_count a) [] E (tCons (tVar 1) tNil)))
    (tSeq (sAugF a.c_Delay "credit" (tVar 0) (tVar 1) rInAdd)
    (tWhile (tTest (tOp rGe (eFld a.c_Delay "credit" (tVar 0)) (eFld a.c_Delay "window" (tVar 0)))) (tSeq (sAugF a.c_Delay "credit" (tVar 0) (eFld a.c_Delay "window" (tVar 0)) rInSub)
    (tSeq (tAsg (tMeth a.c_Delay "surplus" (sp_Delay_surplus a) [] E (tVar 0) tNil) (gName 3))
    (tIfS (tTest (tOp rLt (tVar 3) (tOp rMul (tC (.int 2)) (eFld a.c_Delay "unit" (tVar 0))))) (sSetF a.c_Delay "window" (tVar 0) (tCB rMin2 (tCons (eCon (.int 4194304)) (tCons (tOp rAdd (eFld a.c_Delay "window" (tVar 0)) (eFld a.c_Delay "unit" (tVar 0))) tNil)))) (tIfS (tTest (tOp rGt (tVar 3) (tOp rMul (tC (.int 4)) (eFld a.c_Delay "unit" (tVar 0))))) (sSetF a.c_Delay "window" (tVar 0) (tCB rMax2 (tCons (tOp rMul (tC (.int 2)) (eFld a.c_Delay "unit" (tVar 0))) (tCons (tOp rSub (eFld a.c_Delay "window" (tVar 0)) (eFld a.c_Delay "unit" (tVar 0))) tNil)))) tNext))))))) ⟨fun _ H' => Q .non H', Q, fun _ _ => False, fun _ _ => False⟩ [some v0, some v1, some v2, none] H) : sp_Delay_grow a [v0, v1, v2] H Q E := ⟨rfl, h⟩
def t_Control_on_ack (a : Cl) (E : XK) : TS :=
  (tSeq (tDrop (tCall (sp_check_count a) [] E (tCons (tVar 1) tNil)))
    (tSeq (sSetFD [a.c_Control, a.c_Climb, a.c_Curve, a.c_Delay] "stalled" (tVar 0) (tC (.bl false)))
    (tSeq (tIfS (tTest (tOp rLt (tOp rMul (tC (.int 2)) (tOp rAdd (tVar 2) (tVar 1))) (eFldD [a.c_Control, a.c_Climb, a.c_Curve, a.c_Delay] "window" (tVar 0)))) tRetN tNext)
    (tIfS (tB (ePropD [(a.c_Control, sp_Control_starting a), (a.c_Climb, sp_Control_starting a), (a.c_Curve, sp_Control_starting a), (a.c_Delay, sp_Control_starting a)] (tVar 0))) (sSetFD [a.c_Control, a.c_Climb, a.c_Curve, a.c_Delay] "window" (tVar 0) (tCB rMin2 (tCons (eCon (.int 4194304)) (tCons (tOp rAdd (eFldD [a.c_Control, a.c_Climb, a.c_Curve, a.c_Delay] "window" (tVar 0)) (tCB rMin2 (tCons (tVar 1) (tCons (eFldD [a.c_Control, a.c_Climb, a.c_Curve, a.c_Delay] "unit" (tVar 0)) tNil)))) tNil)))) (tDrop (tMD [(a.c_Control, sp_Control_grow a), (a.c_Climb, sp_Climb_grow a), (a.c_Curve, sp_Curve_grow a), (a.c_Delay, sp_Delay_grow a)] "grow" (fun _ => E) (tVar 0) (tCons (tVar 1) (tCons (tVar 3) tNil))))))))
def sp_Control_on_ack (a : Cl) : Sp := spB 4 4 (t_Control_on_ack a)
theorem in_Control_on_ack {a : Cl} {v0 v1 v2 v3 : V} {H : Hp} {Q : VK} {E : XK} (h : (tSeq (tDrop (tCall (sp_check_count a) [] E (tCons (tVar 1) tNil)))
    (tSeq (sSetFD [a.c_Control, a.c_Climb, a.c_Curve, a.c_Delay] "stalled" (tVar 0) (tC (.bl false)))
    (tSeq (tIfS (tTest (tOp rLt (tOp rMul (tC (.int 2)) (tOp rAdd (tVar 2) (tVar 1))) (eFldD [a.c_Control, a.c_Climb, a.c_Curve, a.c_Delay] "window" (tVar 0)))) tRetN tNext)
    (tIfS (tB (ePropD [(a.c_Control, sp_Control_starting a), (a.c_Climb, sp_Control_starting a), (a.c_Curve, sp_Control_starting a), (a.c_Delay, sp_Control_starting a)] (tVar 0))) (sSetFD [a.c_Control, a.c_Climb, a.c_Curve, a.c_Delay] "window" (tVar 0) (tCB rMin2 (tCons (eCon (.int 4194304)) (tCons (tOp rAdd (eFldD [a.c_Control, a.c_Climb, a.c_Curve, a.c_Delay] "window" (tVar 0)) (tCB rMin2 (tCons (tVar 1) (tCons (eFldD [a.c_Control, a.c_Climb, a.c_Curve, a.c_Delay] "unit" (tVar 0)) tNil)))) tNil)))) (tDrop (tMD [(a.c_Control, sp_Control_grow a), (a.c_Climb, sp_Climb_grow a), (a.c_Curve, sp_Curve_grow a), (a.c_Delay, sp_Delay_grow a)] "grow" (fun _ => E) (tVar 0) (tCons (tVar 1) (tCons (tVar 3) tNil)))))))) ⟨fun _ H' => Q .non H', Q, fun _ _ => False, fun _ _ => False⟩ [some v0, some v1, some v2, some v3] H) : sp_Control_on_ack a [v0, v1, v2, v3] H Q E := ⟨rfl, h⟩
def t_Fixed_on_ack (a : Cl) (E : XK) : TS :=
  (tSeq (tDrop (tCall (sp_check_count a) [] E (tCons (tVar 1) tNil)))
    (sSetF a.c_Fixed "stalled" (tVar 0) (tC (.bl false))))
def sp_Fixed_on_ack (a : Cl) : Sp := spB 4 4 (t_Fixed_on_ack a)
theorem in_Fixed_on_ack {a : Cl} {v0 v1 v2 v3 : V} {H : Hp} {Q : VK} {E : XK} (h : (tSeq (tDrop (tCall (sp_check_count a) [] E (tCons (tVar 1) tNil)))
    (sSetF a.c_Fixed "stalled" (tVar 0) (tC (.bl false)))) ⟨fun _ H' => Q .non H', Q, fun _ _ => False, fun _ _ => False⟩ [some v0, some v1, some v2, some v3] H) : sp_Fixed_on_ack a [v0, v1, v2, v3] H Q E := ⟨rfl, h⟩
def t_Climb_on_ack (a : Cl) (E : XK) : TS :=
  (tDrop (tSupM [a.c_Climb, a.c_Curve, a.c_Delay] (sp_Control_on_ack a) E (tCons (tVar 1) (tCons (tVar 2) (tCons (tVar 3) tNil)))))
def sp_Climb_on_ack (a : Cl) : Sp := spB 4 4 (t_Climb_on_ack a)
theorem in_Climb_on_ack {a : Cl} {v0 v1 v2 v3 : V} {H : Hp} {Q : VK} {E : XK} (h : (tDrop (tSupM [a.c_Climb, a.c_Curve, a.c_Delay] (sp_Control_on_ack a) E (tCons (tVar 1) (tCons (tVar 2) (tCons (tVar 3) tNil))))) ⟨fun _ H' => Q .non H', Q, fun _ _ => False, fun _ _ => False⟩ [some v0, some v1, some v2, some v3] H) : sp_Climb_on_ack a [v0, v1, v2, v3] H Q E := ⟨rfl, h⟩
def t_Curve_on_ack (a : Cl) (E : XK) : TS :=
  (tDrop (tSupM [a.c_Curve] (sp_Climb_on_ack a) E (tCons (tVar 1) (tCons (tVar 2) (tCons (tVar 3) tNil)))))
def sp_Curve_on_ack (a : Cl) : Sp := spB 4 4 (t_Curve_on_ack a)
theorem in_Curve_on_ack {a : Cl} {v0 v1 v2 v3 : V} {H : Hp} {Q : VK} {E : XK} (h : (tDrop (tSupM [a.c_Curve] (sp_Climb_on_ack a) E (tCons (tVar 1) (tCons (tVar 2) (tCons (tVar 3) tNil))))) ⟨fun _ H' => Q .non H', Q, fun _ _ => False, fun _ _ => False⟩ [some v0, some v1, some v2, some v3] H) : sp_Curve_on_ack a [v0, v1, v2, v3] H Q E := ⟨rfl, h⟩
def t_Delay_on_ack (a : Cl) (E : XK) : TS :=
  (tDrop (tSupM [a.c_Delay] (sp_Climb_on_ack a) E (tCons (tVar 1) (tCons (tVar 2) (tCons (tVar 3) tNil)))))
def sp_Delay_on_ack (a : Cl) : Sp := spB 4 4 (t_Delay_on_ack a)
theorem in_Delay_on_ack {a : Cl} {v0 v1 v2 v3 : V} {H : Hp} {Q : VK} {E : XK} (h : (tDrop (tSupM [a.c_Delay] (sp_Climb_on_ack a) E (tCons (tVar 1) (tCons (tVar 2) (tCons (tVar 3) tNil))))) ⟨fun _ H' => Q .non H', Q, fun _ _ => False, fun _ _ => False⟩ [some v0, some v1, some v2, some v3] H) : sp_Delay_on_ack a [v0, v1, v2, v3] H Q E := ⟨rfl, h⟩
def t_refused (a : Cl) (E : XK) : TS :=
  (tSeq (sTry [(.ref a.c_InvalidNumber, 0), (.ref a.c_InvalidSetting, 0)] [(some 4, fun b cls d => (tSeq (tIfS (tOr (tNot (tB (tCB (rIsX [(.ref a.c_InvalidSetting, .ty "ValueError", true), (.ref a.c_InvalidNumber, .ty "ValueError", true)] b cls d) (tCons (tVar 4) (tCons (tC (.ty "ValueError")) tNil))))) (tB (tCB (rIsX [(.ref a.c_InvalidSetting, .ref a.c_InvalidSetting, true), (.ref a.c_InvalidNumber, .ref a.c_InvalidSetting, false)] b cls d) (tCons (tVar 4) (tCons (eCon (.ref a.c_InvalidSetting)) tNil))))) (tRet (tC (.bl false))) tNext)
    (tSeq (tIfS (tNot (tB (tCB (rIsX [(.ref a.c_InvalidSetting, .ref a.c_InvalidNumber, false), (.ref a.c_InvalidNumber, .ref a.c_InvalidNumber, true)] b cls d) (tCons (tVar 4) (tCons (eCon (.ref a.c_InvalidNumber)) tNil))))) (tRet (tC (.bl false))) tNext)
    (tRet (tAndV (tOp (rEqP a.S) (eXf b cls d [a.c_InvalidNumber] "number" (tVar 4)) (tVar 1)) (tOp (rEqP a.S) (tCB rIsI (tCons (eXf b cls d [a.c_InvalidNumber] "number" (tVar 4)) (tCons (tC (.ty "bool")) tNil))) (tCB rIsI (tCons (tVar 1) (tCons (tC (.ty "bool")) tNil)))))))))] (fun W => (tIfS (tB (tVar 2)) (tDrop (tMD [(a.c_Control, sp_Control_grow a), (a.c_Fixed, sp_Fixed_grow a), (a.c_Climb, sp_Climb_grow a), (a.c_Curve, sp_Curve_grow a), (a.c_Delay, sp_Delay_grow a)] "grow" (WE W) (tVar 0) (tCons (tVar 1) (tCons (tVar 3) tNil)))) (tDrop (tMD [(a.c_Control, sp_Control_on_ack a), (a.c_Fixed, sp_Fixed_on_ack a), (a.c_Climb, sp_Climb_on_ack a), (a.c_Curve, sp_Curve_on_ack a), (a.c_Delay, sp_Delay_on_ack a)] "on_ack" (WE W) (tVar 0) (tCons (tVar 1) (tCons (tC (.int 5)) (tCons (tVar 3) tNil))))))))
    (tRet (tC (.bl false))))
def sp_refused (a : Cl) : Sp := spB 5 4 (t_refused a)
theorem in_refused {a : Cl} {v0 v1 v2 v3 : V} {H : Hp} {Q : VK} {E : XK} (h : (tSeq (sTry [(.ref a.c_InvalidNumber, 0), (.ref a.c_InvalidSetting, 0)] [(some 4, fun b cls d => (tSeq (tIfS (tOr (tNot (tB (tCB (rIsX [(.ref a.c_InvalidSetting, .ty "ValueError", true), (.ref a.c_InvalidNumber, .ty "ValueError", true)] b cls d) (tCons (tVar 4) (tCons (tC (.ty "ValueError")) tNil))))) (tB (tCB (rIsX [(.ref a.c_InvalidSetting, .ref a.c_InvalidSetting, true), (.ref a.c_InvalidNumber, .ref a.c_InvalidSetting, false)] b cls d) (tCons (tVar 4) (tCons (eCon (.ref a.c_InvalidSetting)) tNil))))) (tRet (tC (.bl false))) tNext)
    (tSeq (tIfS (tNot (tB (tCB (rIsX [(.ref a.c_InvalidSetting, .ref a.c_InvalidNumber, false), (.ref a.c_InvalidNumber, .ref a.c_InvalidNumber, true)] b cls d) (tCons (tVar 4) (tCons (eCon (.ref a.c_InvalidNumber)) tNil))))) (tRet (tC (.bl false))) tNext)
    (tRet (tAndV (tOp (rEqP a.S) (eXf b cls d [a.c_InvalidNumber] "number" (tVar 4)) (tVar 1)) (tOp (rEqP a.S) (tCB rIsI (tCons (eXf b cls d [a.c_InvalidNumber] "number" (tVar 4)) (tCons (tC (.ty "bool")) tNil))) (tCB rIsI (tCons (tVar 1) (tCons (tC (.ty "bool")) tNil)))))))))] (fun W => (tIfS (tB (tVar 2)) (tDrop (tMD [(a.c_Control, sp_Control_grow a), (a.c_Fixed, sp_Fixed_grow a), (a.c_Climb, sp_Climb_grow a), (a.c_Curve, sp_Curve_grow a), (a.c_Delay, sp_Delay_grow a)] "grow" (WE W) (tVar 0) (tCons (tVar 1) (tCons (tVar 3) tNil)))) (tDrop (tMD [(a.c_Control, sp_Control_on_ack a), (a.c_Fixed, sp_Fixed_on_ack a), (a.c_Climb, sp_Climb_on_ack a), (a.c_Curve, sp_Curve_on_ack a), (a.c_Delay, sp_Delay_on_ack a)] "on_ack" (WE W) (tVar 0) (tCons (tVar 1) (tCons (tC (.int 5)) (tCons (tVar 3) tNil))))))))
    (tRet (tC (.bl false)))) ⟨fun _ H' => Q .non H', Q, fun _ _ => False, fun _ _ => False⟩ [some v0, some v1, some v2, some v3, none] H) : sp_refused a [v0, v1, v2, v3] H Q E := ⟨rfl, h⟩
def t_counts (a : Cl) (E : XK) : TS :=
  (tSeq (tAsg (tCall (sp_make a) [] E (tCons (tVar 0) (tCons (tVar 1) (tCons (tVar 2) tNil)))) (gName 4))
    (tSeq (tAsg (tCall (sp_draw a) [] E (tCons (tVar 3) (tCons (tC (.int 100)) tNil))) (gName 5))
    (tSeq (tAsg (tLst (tCons (tVar 1) (tCons (tVar 1) (tCons (tCB rMax2 (tCons (tOp rFdiv (tVar 5) (tC (.int 2))) (tCons (tOp rMul (tC (.int 2)) (tVar 1)) tNil))) (tCons (tC (.int 0)) (tCons (tC (.bl true)) tNil)))))) (gName 6))
    (tSeq (tIfS (tTest (tOp (rEqP a.S) (tCall (sp_word a) [] E (tCons (tVar 0) tNil)) (tC (.str "fixed")))) (tAsg (tLst (tCons (tVar 1) (tCons (tOp rMul (tVar 1) (tCall (sp_times a) [] E (tCons (tVar 0) (tCons (tVar 2) tNil)))) (tCons (tC (.int 4194304)) (tCons (tC (.int 0)) (tCons (tC (.bl true)) tNil)))))) (gName 6)) tNext)
    (tSeq (tIfS (tOr (tTest (tOp rIsNot (tMD [(a.c_Control, sp_Control_on_expiry a), (a.c_Fixed, sp_Fixed_on_expiry a), (a.c_Climb, sp_Climb_on_expiry a), (a.c_Curve, sp_Curve_on_expiry a), (a.c_Delay, sp_Delay_on_expiry a)] "on_expiry" (fun _ => E) (tVar 4) (tCons (tVar 5) (tCons (tC (.int 7)) tNil))) (tC .non))) (tNot (tB (tCall (sp_base a) [] E (tCons (tVar 4) (tCons (tVar 6) tNil)))))) (tRet (tC (.bl false))) tNext)
    (tSeq (sFor a.S (tLst (tCons (tC (.bl false)) (tCons (tC (.bl true)) tNil))) (gName 7) (tIfS (tOr (tNot (tB (tCall (sp_refused a) [] E (tCons (tVar 4) (tCons (tCall (sp_bad a) [] E (tCons (tVar 3) (tCons (tC (.int 65535)) tNil))) (tCons (tVar 7) (tCons (tC (.int 7)) tNil))))))) (tNot (tB (tCall (sp_base a) [] E (tCons (tVar 4) (tCons (tVar 6) tNil)))))) (tRet (tC (.bl false))) tNext))
    (tSeq (sFor a.S (tLst (tCons (tC (.int 1)) (tCons (tC (.int 65535)) tNil))) (gName 8) (tIfS (tOr (tTest (tOp rIsNot (tMD [(a.c_Control, sp_Control_grow a), (a.c_Fixed, sp_Fixed_grow a), (a.c_Climb, sp_Climb_grow a), (a.c_Curve, sp_Curve_grow a), (a.c_Delay, sp_Delay_grow a)] "grow" (fun _ => E) (tVar 4) (tCons (tVar 8) (tCons (tC (.int 8)) tNil))) (tC .non))) (tNot (tB (tCall (sp_truth a) [] E (tCons (eFldD [a.c_Control, a.c_Fixed, a.c_Climb, a.c_Curve, a.c_Delay] "stalled" (tVar 4)) (tCons (tC (.bl true)) tNil)))))) (tRet (tC (.bl false))) tNext))
    (tRet (tAndV (tOp rIs (tMD [(a.c_Control, sp_Control_on_ack a), (a.c_Fixed, sp_Fixed_on_ack a), (a.c_Climb, sp_Climb_on_ack a), (a.c_Curve, sp_Curve_on_ack a), (a.c_Delay, sp_Delay_on_ack a)] "on_ack" (fun _ => E) (tVar 4) (tCons (tOp (rIx a.S) (tLst (tCons (tC (.int 1)) (tCons (tC (.int 65535)) tNil))) (tCall (sp_draw a) [] E (tCons (tVar 3) (tCons (tC (.int 2)) tNil)))) (tCons (tC (.int 5)) (tCons (tC (.int 8)) tNil)))) (tC .non)) (tCall (sp_truth a) [] E (tCons (eFldD [a.c_Control, a.c_Fixed, a.c_Climb, a.c_Curve, a.c_Delay] "stalled" (tVar 4)) (tCons (tC (.bl false)) tNil))))))))))))
def sp_counts (a : Cl) : Sp := spB 9 4 (t_counts a)
theorem in_counts {a : Cl} {v0 v1 v2 v3 : V} {H : Hp} {Q : VK} {E : XK} (h : (tSeq (tAsg (tCall (sp_make a) [] E (tCons (tVar 0) (tCons (tVar 1) (tCons (tVar 2) tNil)))) (gName 4))
    (tSeq (tAsg (tCall (sp_draw a) [] E (tCons (tVar 3) (tCons (tC (.int 100)) tNil))) (gName 5))
    (tSeq (tAsg (tLst (tCons (tVar 1) (tCons (tVar 1) (tCons (tCB rMax2 (tCons (tOp rFdiv (tVar 5) (tC (.int 2))) (tCons (tOp rMul (tC (.int 2)) (tVar 1)) tNil))) (tCons (tC (.int 0)) (tCons (tC (.bl true)) tNil)))))) (gName 6))
    (tSeq (tIfS (tTest (tOp (rEqP a.S) (tCall (sp_word a) [] E (tCons (tVar 0) tNil)) (tC (.str "fixed")))) (tAsg (tLst (tCons (tVar 1) (tCons (tOp rMul (tVar 1) (tCall (sp_times a) [] E (tCons (tVar 0) (tCons (tVar 2) tNil)))) (tCons (tC (.int 4194304)) (tCons (tC (.int 0)) (tCons (tC (.bl true)) tNil)))))) (gName 6)) tNext)
    (tSeq (tIfS (tOr (tTest (tOp rIsNot (tMD [(a.c_Control, sp_Control_on_expiry a), (a.c_Fixed, sp_Fixed_on_expiry a), (a.c_Climb, sp_Climb_on_expiry a), (a.c_Curve, sp_Curve_on_expiry a), (a.c_Delay, sp_Delay_on_expiry a)] "on_expiry" (fun _ => E) (tVar 4) (tCons (tVar 5) (tCons (tC (.int 7)) tNil))) (tC .non))) (tNot (tB (tCall (sp_base a) [] E (tCons (tVar 4) (tCons (tVar 6) tNil)))))) (tRet (tC (.bl false))) tNext)
    (tSeq (sFor a.S (tLst (tCons (tC (.bl false)) (tCons (tC (.bl true)) tNil))) (gName 7) (tIfS (tOr (tNot (tB (tCall (sp_refused a) [] E (tCons (tVar 4) (tCons (tCall (sp_bad a) [] E (tCons (tVar 3) (tCons (tC (.int 65535)) tNil))) (tCons (tVar 7) (tCons (tC (.int 7)) tNil))))))) (tNot (tB (tCall (sp_base a) [] E (tCons (tVar 4) (tCons (tVar 6) tNil)))))) (tRet (tC (.bl false))) tNext))
    (tSeq (sFor a.S (tLst (tCons (tC (.int 1)) (tCons (tC (.int 65535)) tNil))) (gName 8) (tIfS (tOr (tTest (tOp rIsNot (tMD [(a.c_Control, sp_Control_grow a), (a.c_Fixed, sp_Fixed_grow a), (a.c_Climb, sp_Climb_grow a), (a.c_Curve, sp_Curve_grow a), (a.c_Delay, sp_Delay_grow a)] "grow" (fun _ => E) (tVar 4) (tCons (tVar 8) (tCons (tC (.int 8)) tNil))) (tC .non))) (tNot (tB (tCall (sp_truth a) [] E (tCons (eFldD [a.c_Control, a.c_Fixed, a.c_Climb, a.c_Curve, a.c_Delay] "stalled" (tVar 4)) (tCons (tC (.bl true)) tNil)))))) (tRet (tC (.bl false))) tNext))
    (tRet (tAndV (tOp rIs (tMD [(a.c_Control, sp_Control_on_ack a), (a.c_Fixed, sp_Fixed_on_ack a), (a.c_Climb, sp_Climb_on_ack a), (a.c_Curve, sp_Curve_on_ack a), (a.c_Delay, sp_Delay_on_ack a)] "on_ack" (fun _ => E) (tVar 4) (tCons (tOp (rIx a.S) (tLst (tCons (tC (.int 1)) (tCons (tC (.int 65535)) tNil))) (tCall (sp_draw a) [] E (tCons (tVar 3) (tCons (tC (.int 2)) tNil)))) (tCons (tC (.int 5)) (tCons (tC (.int 8)) tNil)))) (tC .non)) (tCall (sp_truth a) [] E (tCons (eFldD [a.c_Control, a.c_Fixed, a.c_Climb, a.c_Curve, a.c_Delay] "stalled" (tVar 4)) (tCons (tC (.bl false)) tNil)))))))))))) ⟨fun _ H' => Q .non H', Q, fun _ _ => False, fun _ _ => False⟩ [some v0, some v1, some v2, some v3, none, none, none, none, none] H) : sp_counts a [v0, v1, v2, v3] H Q E := ⟨rfl, h⟩
def t_question (a : Cl) (E : XK) : TS :=
  (tSeq (tAsg (tCall (sp_draw a) [] E (tCons (tVar 0) (tCons (tC (.int 11)) tNil))) (gName 1))
    (tSeq (tAsg (tCall (sp_draw a) [] E (tCons (tVar 0) (tCons (tC (.int 5)) tNil))) (gName 2))
    (tSeq (tAsg (tCall (sp_unit a) [] E (tCons (tVar 0) tNil)) (gName 3))
    (tSeq (tAsg (tOp rAdd (tC (.int 1)) (tCall (sp_draw a) [] E (tCons (tVar 0) (tCons (tC (.int 64)) tNil)))) (gName 4))
    (tSeq (tIfS (tNot (tB (tCall (sp_fresh a) [] E (tCons (tCall (sp_make a) [] E (tCons (tVar 1) (tCons (tVar 3) (tCons (tVar 4) tNil)))) (tCons (tVar 1) (tCons (tVar 3) (tCons (tVar 4) tNil))))))) (tRet (tC (.bl false))) tNext)
    (tSeq (tIfS (tTest (tOp (rEqP a.S) (tVar 2) (tC (.int 0)))) (tRet (tCall (sp_apart a) [] E (tCons (tVar 1) (tCons (tVar 3) (tCons (tVar 4) (tCons (tVar 0) tNil)))))) tNext)
    (tSeq (tIfS (tTest (tOp (rEqP a.S) (tVar 2) (tC (.int 1)))) (tRet (tCall (sp_units a) [] E (tCons (tVar 1) (tCons (tVar 4) (tCons (tVar 0) tNil))))) tNext)
    (tSeq (tIfS (tTest (tOp (rEqP a.S) (tVar 2) (tC (.int 2)))) (tRet (tCall (sp_pieces a) [] E (tCons (tVar 3) (tCons (tVar 4) (tCons (tVar 0) tNil))))) tNext)
    (tSeq (tIfS (tTest (tOp (rEqP a.S) (tVar 2) (tC (.int 3)))) (tRet (tCall (sp_kinds a) [] E (tCons (tVar 3) (tCons (tVar 4) (tCons (tVar 0) tNil))))) tNext)
    (tRet (tCall (sp_counts a) [] E (tCons (tVar 1) (tCons (tVar 3) (tCons (tVar 4) (tCons (tVar 0) tNil)))))))))))))))
def sp_question (a : Cl) : Sp := spB 5 1 (t_question a)
theorem in_question {a : Cl} {v0 : V} {H : Hp} {Q : VK} {E : XK} (h : (tSeq (tAsg (tCall (sp_draw a) [] E (tCons (tVar 0) (tCons (tC (.int 11)) tNil))) (gName 1))
    (tSeq (tAsg (tCall (sp_draw a) [] E (tCons (tVar 0) (tCons (tC (.int 5)) tNil))) (gName 2))
    (tSeq (tAsg (tCall (sp_unit a) [] E (tCons (tVar 0) tNil)) (gName 3))
    (tSeq (tAsg (tOp rAdd (tC (.int 1)) (tCall (sp_draw a) [] E (tCons (tVar 0) (tCons (tC (.int 64)) tNil)))) (gName 4))
    (tSeq (tIfS (tNot (tB (tCall (sp_fresh a) [] E (tCons (tCall (sp_make a) [] E (tCons (tVar 1) (tCons (tVar 3) (tCons (tVar 4) tNil)))) (tCons (tVar 1) (tCons (tVar 3) (tCons (tVar 4) tNil))))))) (tRet (tC (.bl false))) tNext)
    (tSeq (tIfS (tTest (tOp (rEqP a.S) (tVar 2) (tC (.int 0)))) (tRet (tCall (sp_apart a) [] E (tCons (tVar 1) (tCons (tVar 3) (tCons (tVar 4) (tCons (tVar 0) tNil)))))) tNext)
    (tSeq (tIfS (tTest (tOp (rEqP a.S) (tVar 2) (tC (.int 1)))) (tRet (tCall (sp_units a) [] E (tCons (tVar 1) (tCons (tVar 4) (tCons (tVar 0) tNil))))) tNext)
    (tSeq (tIfS (tTest (tOp (rEqP a.S) (tVar 2) (tC (.int 2)))) (tRet (tCall (sp_pieces a) [] E (tCons (tVar 3) (tCons (tVar 4) (tCons (tVar 0) tNil))))) tNext)
    (tSeq (tIfS (tTest (tOp (rEqP a.S) (tVar 2) (tC (.int 3)))) (tRet (tCall (sp_kinds a) [] E (tCons (tVar 3) (tCons (tVar 4) (tCons (tVar 0) tNil))))) tNext)
    (tRet (tCall (sp_counts a) [] E (tCons (tVar 1) (tCons (tVar 3) (tCons (tVar 4) (tCons (tVar 0) tNil))))))))))))))) ⟨fun _ H' => Q .non H', Q, fun _ _ => False, fun _ _ => False⟩ [some v0, none, none, none, none] H) : sp_question a [v0] H Q E := ⟨rfl, h⟩
def t_box (a : Cl) (E : XK) : TS :=
  (tSeq (tIfS (tTest (tOp rGe (tVar 0) (tOp rPow (tC (.int 10)) (tC (.int 18))))) (tRet (tLst (tCons (tVar 0) (tCons (tVar 0) (tCons (tC (.int 0)) tNil))))) tNext)
    (tRet (tLst (tCons (tC (.int 0)) (tCons (tVar 0) (tCons (tC (.int 0)) tNil))))))
def sp_box (a : Cl) : Sp := spB 1 1 (t_box a)
theorem in_box {a : Cl} {v0 : V} {H : Hp} {Q : VK} {E : XK} (h : (tSeq (tIfS (tTest (tOp rGe (tVar 0) (tOp rPow (tC (.int 10)) (tC (.int 18))))) (tRet (tLst (tCons (tVar 0) (tCons (tVar 0) (tCons (tC (.int 0)) tNil))))) tNext)
    (tRet (tLst (tCons (tC (.int 0)) (tCons (tVar 0) (tCons (tC (.int 0)) tNil)))))) ⟨fun _ H' => Q .non H', Q, fun _ _ => False, fun _ _ => False⟩ [some v0] H) : sp_box a [v0] H Q E := ⟨rfl, h⟩
def t_cell (a : Cl) (E : XK) : TS :=
  (tSeq (tIfS (tTest (tOp rLt (tVar 1) (tCB (rLen a.S) (tCons (tVar 0) tNil)))) (tRet (tOp (rIx a.S) (tVar 0) (tVar 1))) tNext)
    (tRet (tOp rAdd (tOp rAdd (tOp rMul (tC (.int 7)) (tVar 1)) (tC (.int 3))) (tOp rMod (tCB rInt (tCons (tCB (rSum a.S) (tCons (L2.tSl (rSl a.S) (tVar 0) tNoPart (tPart (tC (.int 1)))) tNil)) tNil)) (tC (.int 1000003))))))
def sp_cell (a : Cl) : Sp := spB 2 2 (t_cell a)
theorem in_cell {a : Cl} {v0 v1 : V} {H : Hp} {Q : VK} {E : XK} (h : (tSeq (tIfS (tTest (tOp rLt (tVar 1) (tCB (rLen a.S) (tCons (tVar 0) tNil)))) (tRet (tOp (rIx a.S) (tVar 0) (tVar 1))) tNext)
    (tRet (tOp rAdd (tOp rAdd (tOp rMul (tC (.int 7)) (tVar 1)) (tC (.int 3))) (tOp rMod (tCB rInt (tCons (tCB (rSum a.S) (tCons (L2.tSl (rSl a.S) (tVar 0) tNoPart (tPart (tC (.int 1)))) tNil)) tNil)) (tC (.int 1000003)))))) ⟨fun _ H' => Q .non H', Q, fun _ _ => False, fun _ _ => False⟩ [some v0, some v1] H) : sp_cell a [v0, v1] H Q E := ⟨rfl, h⟩
def t_law (a : Cl) (E : XK) : TS :=
  (tSeq (tIfS (tNot (tB (tCall (sp_names a) [] E tNil))) (tRet (tC (.bl false))) tNext)
    (tSeq (sForR none (tCall (sp_rounds a) [] E (tCons (tVar 0) tNil)) (gName 1) (tIfS (tNot (tB (tCall (sp_question a) [] E (tCons (tCall (sp_box a) [] E (tCons (tCall (sp_cell a) [] E (tCons (tVar 0) (tCons (tVar 1) tNil))) tNil)) tNil)))) (tRet (tC (.bl false))) tNext))
    (tRet (tCall (sp_names a) [] E tNil))))
def sp_law (a : Cl) : Sp := spB 2 1 (t_law a)
theorem in_law {a : Cl} {v0 : V} {H : Hp} {Q : VK} {E : XK} (h : (tSeq (tIfS (tNot (tB (tCall (sp_names a) [] E tNil))) (tRet (tC (.bl false))) tNext)
    (tSeq (sForR none (tCall (sp_rounds a) [] E (tCons (tVar 0) tNil)) (gName 1) (tIfS (tNot (tB (tCall (sp_question a) [] E (tCons (tCall (sp_box a) [] E (tCons (tCall (sp_cell a) [] E (tCons (tVar 0) (tCons (tVar 1) tNil))) tNil)) tNil)))) (tRet (tC (.bl false))) tNext))
    (tRet (tCall (sp_names a) [] E tNil)))) ⟨fun _ H' => Q .non H', Q, fun _ _ => False, fun _ _ => False⟩ [some v0, none] H) : sp_law a [v0] H Q E := ⟨rfl, h⟩
instance ne_0 : NeS "number" "setting" := ⟨by decide +kernel⟩
instance ne_1 : NeS "number" "unit" := ⟨by decide +kernel⟩
instance ne_2 : NeS "number" "window" := ⟨by decide +kernel⟩
instance ne_3 : NeS "number" "threshold" := ⟨by decide +kernel⟩
instance ne_4 : NeS "number" "credit" := ⟨by decide +kernel⟩
instance ne_5 : NeS "number" "stalled" := ⟨by decide +kernel⟩
instance ne_6 : NeS "number" "peak" := ⟨by decide +kernel⟩
instance ne_7 : NeS "number" "span" := ⟨by decide +kernel⟩
instance ne_8 : NeS "number" "born" := ⟨by decide +kernel⟩
instance ne_9 : NeS "number" "least" := ⟨by decide +kernel⟩
instance ne_10 : NeS "number" "latest" := ⟨by decide +kernel⟩
instance ne_11 : NeS "number" "samples" := ⟨by decide +kernel⟩
instance ne_12 : NeS "setting" "number" := ⟨by decide +kernel⟩
instance ne_13 : NeS "setting" "unit" := ⟨by decide +kernel⟩
instance ne_14 : NeS "setting" "window" := ⟨by decide +kernel⟩
instance ne_15 : NeS "setting" "threshold" := ⟨by decide +kernel⟩
instance ne_16 : NeS "setting" "credit" := ⟨by decide +kernel⟩
instance ne_17 : NeS "setting" "stalled" := ⟨by decide +kernel⟩
instance ne_18 : NeS "setting" "peak" := ⟨by decide +kernel⟩
instance ne_19 : NeS "setting" "span" := ⟨by decide +kernel⟩
instance ne_20 : NeS "setting" "born" := ⟨by decide +kernel⟩
instance ne_21 : NeS "setting" "least" := ⟨by decide +kernel⟩
instance ne_22 : NeS "setting" "latest" := ⟨by decide +kernel⟩
instance ne_23 : NeS "setting" "samples" := ⟨by decide +kernel⟩
instance ne_24 : NeS "unit" "number" := ⟨by decide +kernel⟩
instance ne_25 : NeS "unit" "setting" := ⟨by decide +kernel⟩
instance ne_26 : NeS "unit" "window" := ⟨by decide +kernel⟩
instance ne_27 : NeS "unit" "threshold" := ⟨by decide +kernel⟩
instance ne_28 : NeS "unit" "credit" := ⟨by decide +kernel⟩
instance ne_29 : NeS "unit" "stalled" := ⟨by decide +kernel⟩
instance ne_30 : NeS "unit" "peak" := ⟨by decide +kernel⟩
instance ne_31 : NeS "unit" "span" := ⟨by decide +kernel⟩
instance ne_32 : NeS "unit" "born" := ⟨by decide +kernel⟩
instance ne_33 : NeS "unit" "least" := ⟨by decide +kernel⟩
instance ne_34 : NeS "unit" "latest" := ⟨by decide +kernel⟩
instance ne_35 : NeS "unit" "samples" := ⟨by decide +kernel⟩
instance ne_36 : NeS "window" "number" := ⟨by decide +kernel⟩
instance ne_37 : NeS "window" "setting" := ⟨by decide +kernel⟩
instance ne_38 : NeS "window" "unit" := ⟨by decide +kernel⟩
instance ne_39 : NeS "window" "threshold" := ⟨by decide +kernel⟩
instance ne_40 : NeS "window" "credit" := ⟨by decide +kernel⟩
instance ne_41 : NeS "window" "stalled" := ⟨by decide +kernel⟩
instance ne_42 : NeS "window" "peak" := ⟨by decide +kernel⟩
instance ne_43 : NeS "window" "span" := ⟨by decide +kernel⟩
instance ne_44 : NeS "window" "born" := ⟨by decide +kernel⟩
instance ne_45 : NeS "window" "least" := ⟨by decide +kernel⟩
instance ne_46 : NeS "window" "latest" := ⟨by decide +kernel⟩
instance ne_47 : NeS "window" "samples" := ⟨by decide +kernel⟩
instance ne_48 : NeS "threshold" "number" := ⟨by decide +kernel⟩
instance ne_49 : NeS "threshold" "setting" := ⟨by decide +kernel⟩
instance ne_50 : NeS "threshold" "unit" := ⟨by decide +kernel⟩
instance ne_51 : NeS "threshold" "window" := ⟨by decide +kernel⟩
instance ne_52 : NeS "threshold" "credit" := ⟨by decide +kernel⟩
instance ne_53 : NeS "threshold" "stalled" := ⟨by decide +kernel⟩
instance ne_54 : NeS "threshold" "peak" := ⟨by decide +kernel⟩
instance ne_55 : NeS "threshold" "span" := ⟨by decide +kernel⟩
instance ne_56 : NeS "threshold" "born" := ⟨by decide +kernel⟩
instance ne_57 : NeS "threshold" "least" := ⟨by decide +kernel⟩
instance ne_58 : NeS "threshold" "latest" := ⟨by decide +kernel⟩
instance ne_59 : NeS "threshold" "samples" := ⟨by decide +kernel⟩
instance ne_60 : NeS "credit" "number" := ⟨by decide +kernel⟩
instance ne_61 : NeS "credit" "setting" := ⟨by decide +kernel⟩
instance ne_62 : NeS "credit" "unit" := ⟨by decide +kernel⟩
instance ne_63 : NeS "credit" "window" := ⟨by decide +kernel⟩
instance ne_64 : NeS "credit" "threshold" := ⟨by decide +kernel⟩
instance ne_65 : NeS "credit" "stalled" := ⟨by decide +kernel⟩
instance ne_66 : NeS "credit" "peak" := ⟨by decide +kernel⟩
instance ne_67 : NeS "credit" "span" := ⟨by decide +kernel⟩
instance ne_68 : NeS "credit" "born" := ⟨by decide +kernel⟩
instance ne_69 : NeS "credit" "least" := ⟨by decide +kernel⟩
instance ne_70 : NeS "credit" "latest" := ⟨by decide +kernel⟩
instance ne_71 : NeS "credit" "samples" := ⟨by decide +kernel⟩
instance ne_72 : NeS "stalled" "number" := ⟨by decide +kernel⟩
instance ne_73 : NeS "stalled" "setting" := ⟨by decide +kernel⟩
instance ne_74 : NeS "stalled" "unit" := ⟨by decide +kernel⟩
instance ne_75 : NeS "stalled" "window" := ⟨by decide +kernel⟩
instance ne_76 : NeS "stalled" "threshold" := ⟨by decide +kernel⟩
instance ne_77 : NeS "stalled" "credit" := ⟨by decide +kernel⟩
instance ne_78 : NeS "stalled" "peak" := ⟨by decide +kernel⟩
instance ne_79 : NeS "stalled" "span" := ⟨by decide +kernel⟩
instance ne_80 : NeS "stalled" "born" := ⟨by decide +kernel⟩
instance ne_81 : NeS "stalled" "least" := ⟨by decide +kernel⟩
instance ne_82 : NeS "stalled" "latest" := ⟨by decide +kernel⟩
instance ne_83 : NeS "stalled" "samples" := ⟨by decide +kernel⟩
instance ne_84 : NeS "peak" "number" := ⟨by decide +kernel⟩
instance ne_85 : NeS "peak" "setting" := ⟨by decide +kernel⟩
instance ne_86 : NeS "peak" "unit" := ⟨by decide +kernel⟩
instance ne_87 : NeS "peak" "window" := ⟨by decide +kernel⟩
instance ne_88 : NeS "peak" "threshold" := ⟨by decide +kernel⟩
instance ne_89 : NeS "peak" "credit" := ⟨by decide +kernel⟩
instance ne_90 : NeS "peak" "stalled" := ⟨by decide +kernel⟩
instance ne_91 : NeS "peak" "span" := ⟨by decide +kernel⟩
instance ne_92 : NeS "peak" "born" := ⟨by decide +kernel⟩
instance ne_93 : NeS "peak" "least" := ⟨by decide +kernel⟩
instance ne_94 : NeS "peak" "latest" := ⟨by decide +kernel⟩
instance ne_95 : NeS "peak" "samples" := ⟨by decide +kernel⟩
instance ne_96 : NeS "span" "number" := ⟨by decide +kernel⟩
instance ne_97 : NeS "span" "setting" := ⟨by decide +kernel⟩
instance ne_98 : NeS "span" "unit" := ⟨by decide +kernel⟩
instance ne_99 : NeS "span" "window" := ⟨by decide +kernel⟩
instance ne_100 : NeS "span" "threshold" := ⟨by decide +kernel⟩
instance ne_101 : NeS "span" "credit" := ⟨by decide +kernel⟩
instance ne_102 : NeS "span" "stalled" := ⟨by decide +kernel⟩
instance ne_103 : NeS "span" "peak" := ⟨by decide +kernel⟩
instance ne_104 : NeS "span" "born" := ⟨by decide +kernel⟩
instance ne_105 : NeS "span" "least" := ⟨by decide +kernel⟩
instance ne_106 : NeS "span" "latest" := ⟨by decide +kernel⟩
instance ne_107 : NeS "span" "samples" := ⟨by decide +kernel⟩
instance ne_108 : NeS "born" "number" := ⟨by decide +kernel⟩
instance ne_109 : NeS "born" "setting" := ⟨by decide +kernel⟩
instance ne_110 : NeS "born" "unit" := ⟨by decide +kernel⟩
instance ne_111 : NeS "born" "window" := ⟨by decide +kernel⟩
instance ne_112 : NeS "born" "threshold" := ⟨by decide +kernel⟩
instance ne_113 : NeS "born" "credit" := ⟨by decide +kernel⟩
instance ne_114 : NeS "born" "stalled" := ⟨by decide +kernel⟩
instance ne_115 : NeS "born" "peak" := ⟨by decide +kernel⟩
instance ne_116 : NeS "born" "span" := ⟨by decide +kernel⟩
instance ne_117 : NeS "born" "least" := ⟨by decide +kernel⟩
instance ne_118 : NeS "born" "latest" := ⟨by decide +kernel⟩
instance ne_119 : NeS "born" "samples" := ⟨by decide +kernel⟩
instance ne_120 : NeS "least" "number" := ⟨by decide +kernel⟩
instance ne_121 : NeS "least" "setting" := ⟨by decide +kernel⟩
instance ne_122 : NeS "least" "unit" := ⟨by decide +kernel⟩
instance ne_123 : NeS "least" "window" := ⟨by decide +kernel⟩
instance ne_124 : NeS "least" "threshold" := ⟨by decide +kernel⟩
instance ne_125 : NeS "least" "credit" := ⟨by decide +kernel⟩
instance ne_126 : NeS "least" "stalled" := ⟨by decide +kernel⟩
instance ne_127 : NeS "least" "peak" := ⟨by decide +kernel⟩
instance ne_128 : NeS "least" "span" := ⟨by decide +kernel⟩
instance ne_129 : NeS "least" "born" := ⟨by decide +kernel⟩
instance ne_130 : NeS "least" "latest" := ⟨by decide +kernel⟩
instance ne_131 : NeS "least" "samples" := ⟨by decide +kernel⟩
instance ne_132 : NeS "latest" "number" := ⟨by decide +kernel⟩
instance ne_133 : NeS "latest" "setting" := ⟨by decide +kernel⟩
instance ne_134 : NeS "latest" "unit" := ⟨by decide +kernel⟩
instance ne_135 : NeS "latest" "window" := ⟨by decide +kernel⟩
instance ne_136 : NeS "latest" "threshold" := ⟨by decide +kernel⟩
instance ne_137 : NeS "latest" "credit" := ⟨by decide +kernel⟩
instance ne_138 : NeS "latest" "stalled" := ⟨by decide +kernel⟩
instance ne_139 : NeS "latest" "peak" := ⟨by decide +kernel⟩
instance ne_140 : NeS "latest" "span" := ⟨by decide +kernel⟩
instance ne_141 : NeS "latest" "born" := ⟨by decide +kernel⟩
instance ne_142 : NeS "latest" "least" := ⟨by decide +kernel⟩
instance ne_143 : NeS "latest" "samples" := ⟨by decide +kernel⟩
instance ne_144 : NeS "samples" "number" := ⟨by decide +kernel⟩
instance ne_145 : NeS "samples" "setting" := ⟨by decide +kernel⟩
instance ne_146 : NeS "samples" "unit" := ⟨by decide +kernel⟩
instance ne_147 : NeS "samples" "window" := ⟨by decide +kernel⟩
instance ne_148 : NeS "samples" "threshold" := ⟨by decide +kernel⟩
instance ne_149 : NeS "samples" "credit" := ⟨by decide +kernel⟩
instance ne_150 : NeS "samples" "stalled" := ⟨by decide +kernel⟩
instance ne_151 : NeS "samples" "peak" := ⟨by decide +kernel⟩
instance ne_152 : NeS "samples" "span" := ⟨by decide +kernel⟩
instance ne_153 : NeS "samples" "born" := ⟨by decide +kernel⟩
instance ne_154 : NeS "samples" "least" := ⟨by decide +kernel⟩
instance ne_155 : NeS "samples" "latest" := ⟨by decide +kernel⟩
instance ne_156 : NeS "starting" "number" := ⟨by decide +kernel⟩
instance ne_157 : NeS "starting" "setting" := ⟨by decide +kernel⟩
instance ne_158 : NeS "starting" "unit" := ⟨by decide +kernel⟩
instance ne_159 : NeS "starting" "window" := ⟨by decide +kernel⟩
instance ne_160 : NeS "starting" "threshold" := ⟨by decide +kernel⟩
instance ne_161 : NeS "starting" "credit" := ⟨by decide +kernel⟩
instance ne_162 : NeS "starting" "stalled" := ⟨by decide +kernel⟩
instance ne_163 : NeS "starting" "peak" := ⟨by decide +kernel⟩
instance ne_164 : NeS "starting" "span" := ⟨by decide +kernel⟩
instance ne_165 : NeS "starting" "born" := ⟨by decide +kernel⟩
instance ne_166 : NeS "starting" "least" := ⟨by decide +kernel⟩
instance ne_167 : NeS "starting" "latest" := ⟨by decide +kernel⟩
instance ne_168 : NeS "starting" "samples" := ⟨by decide +kernel⟩
instance ne_169 : NeS "on_ack" "number" := ⟨by decide +kernel⟩
instance ne_170 : NeS "on_ack" "setting" := ⟨by decide +kernel⟩
instance ne_171 : NeS "on_ack" "unit" := ⟨by decide +kernel⟩
instance ne_172 : NeS "on_ack" "window" := ⟨by decide +kernel⟩
instance ne_173 : NeS "on_ack" "threshold" := ⟨by decide +kernel⟩
instance ne_174 : NeS "on_ack" "credit" := ⟨by decide +kernel⟩
instance ne_175 : NeS "on_ack" "stalled" := ⟨by decide +kernel⟩
instance ne_176 : NeS "on_ack" "peak" := ⟨by decide +kernel⟩
instance ne_177 : NeS "on_ack" "span" := ⟨by decide +kernel⟩
instance ne_178 : NeS "on_ack" "born" := ⟨by decide +kernel⟩
instance ne_179 : NeS "on_ack" "least" := ⟨by decide +kernel⟩
instance ne_180 : NeS "on_ack" "latest" := ⟨by decide +kernel⟩
instance ne_181 : NeS "on_ack" "samples" := ⟨by decide +kernel⟩
instance ne_182 : NeS "grow" "number" := ⟨by decide +kernel⟩
instance ne_183 : NeS "grow" "setting" := ⟨by decide +kernel⟩
instance ne_184 : NeS "grow" "unit" := ⟨by decide +kernel⟩
instance ne_185 : NeS "grow" "window" := ⟨by decide +kernel⟩
instance ne_186 : NeS "grow" "threshold" := ⟨by decide +kernel⟩
instance ne_187 : NeS "grow" "credit" := ⟨by decide +kernel⟩
instance ne_188 : NeS "grow" "stalled" := ⟨by decide +kernel⟩
instance ne_189 : NeS "grow" "peak" := ⟨by decide +kernel⟩
instance ne_190 : NeS "grow" "span" := ⟨by decide +kernel⟩
instance ne_191 : NeS "grow" "born" := ⟨by decide +kernel⟩
instance ne_192 : NeS "grow" "least" := ⟨by decide +kernel⟩
instance ne_193 : NeS "grow" "latest" := ⟨by decide +kernel⟩
instance ne_194 : NeS "grow" "samples" := ⟨by decide +kernel⟩
instance ne_195 : NeS "on_loss" "number" := ⟨by decide +kernel⟩
instance ne_196 : NeS "on_loss" "setting" := ⟨by decide +kernel⟩
instance ne_197 : NeS "on_loss" "unit" := ⟨by decide +kernel⟩
instance ne_198 : NeS "on_loss" "window" := ⟨by decide +kernel⟩
instance ne_199 : NeS "on_loss" "threshold" := ⟨by decide +kernel⟩
instance ne_200 : NeS "on_loss" "credit" := ⟨by decide +kernel⟩
instance ne_201 : NeS "on_loss" "stalled" := ⟨by decide +kernel⟩
instance ne_202 : NeS "on_loss" "peak" := ⟨by decide +kernel⟩
instance ne_203 : NeS "on_loss" "span" := ⟨by decide +kernel⟩
instance ne_204 : NeS "on_loss" "born" := ⟨by decide +kernel⟩
instance ne_205 : NeS "on_loss" "least" := ⟨by decide +kernel⟩
instance ne_206 : NeS "on_loss" "latest" := ⟨by decide +kernel⟩
instance ne_207 : NeS "on_loss" "samples" := ⟨by decide +kernel⟩
instance ne_208 : NeS "on_expiry" "number" := ⟨by decide +kernel⟩
instance ne_209 : NeS "on_expiry" "setting" := ⟨by decide +kernel⟩
instance ne_210 : NeS "on_expiry" "unit" := ⟨by decide +kernel⟩
instance ne_211 : NeS "on_expiry" "window" := ⟨by decide +kernel⟩
instance ne_212 : NeS "on_expiry" "threshold" := ⟨by decide +kernel⟩
instance ne_213 : NeS "on_expiry" "credit" := ⟨by decide +kernel⟩
instance ne_214 : NeS "on_expiry" "stalled" := ⟨by decide +kernel⟩
instance ne_215 : NeS "on_expiry" "peak" := ⟨by decide +kernel⟩
instance ne_216 : NeS "on_expiry" "span" := ⟨by decide +kernel⟩
instance ne_217 : NeS "on_expiry" "born" := ⟨by decide +kernel⟩
instance ne_218 : NeS "on_expiry" "least" := ⟨by decide +kernel⟩
instance ne_219 : NeS "on_expiry" "latest" := ⟨by decide +kernel⟩
instance ne_220 : NeS "on_expiry" "samples" := ⟨by decide +kernel⟩
instance ne_221 : NeS "on_sample" "number" := ⟨by decide +kernel⟩
instance ne_222 : NeS "on_sample" "setting" := ⟨by decide +kernel⟩
instance ne_223 : NeS "on_sample" "unit" := ⟨by decide +kernel⟩
instance ne_224 : NeS "on_sample" "window" := ⟨by decide +kernel⟩
instance ne_225 : NeS "on_sample" "threshold" := ⟨by decide +kernel⟩
instance ne_226 : NeS "on_sample" "credit" := ⟨by decide +kernel⟩
instance ne_227 : NeS "on_sample" "stalled" := ⟨by decide +kernel⟩
instance ne_228 : NeS "on_sample" "peak" := ⟨by decide +kernel⟩
instance ne_229 : NeS "on_sample" "span" := ⟨by decide +kernel⟩
instance ne_230 : NeS "on_sample" "born" := ⟨by decide +kernel⟩
instance ne_231 : NeS "on_sample" "least" := ⟨by decide +kernel⟩
instance ne_232 : NeS "on_sample" "latest" := ⟨by decide +kernel⟩
instance ne_233 : NeS "on_sample" "samples" := ⟨by decide +kernel⟩
instance ne_234 : NeS "surplus" "number" := ⟨by decide +kernel⟩
instance ne_235 : NeS "surplus" "setting" := ⟨by decide +kernel⟩
instance ne_236 : NeS "surplus" "unit" := ⟨by decide +kernel⟩
instance ne_237 : NeS "surplus" "window" := ⟨by decide +kernel⟩
instance ne_238 : NeS "surplus" "threshold" := ⟨by decide +kernel⟩
instance ne_239 : NeS "surplus" "credit" := ⟨by decide +kernel⟩
instance ne_240 : NeS "surplus" "stalled" := ⟨by decide +kernel⟩
instance ne_241 : NeS "surplus" "peak" := ⟨by decide +kernel⟩
instance ne_242 : NeS "surplus" "span" := ⟨by decide +kernel⟩
instance ne_243 : NeS "surplus" "born" := ⟨by decide +kernel⟩
instance ne_244 : NeS "surplus" "least" := ⟨by decide +kernel⟩
instance ne_245 : NeS "surplus" "latest" := ⟨by decide +kernel⟩
instance ne_246 : NeS "surplus" "samples" := ⟨by decide +kernel⟩
instance ne_247 : NeS "__init__" "number" := ⟨by decide +kernel⟩
instance ne_248 : NeS "__init__" "setting" := ⟨by decide +kernel⟩
instance ne_249 : NeS "__init__" "unit" := ⟨by decide +kernel⟩
instance ne_250 : NeS "__init__" "window" := ⟨by decide +kernel⟩
instance ne_251 : NeS "__init__" "threshold" := ⟨by decide +kernel⟩
instance ne_252 : NeS "__init__" "credit" := ⟨by decide +kernel⟩
instance ne_253 : NeS "__init__" "stalled" := ⟨by decide +kernel⟩
instance ne_254 : NeS "__init__" "peak" := ⟨by decide +kernel⟩
instance ne_255 : NeS "__init__" "span" := ⟨by decide +kernel⟩
instance ne_256 : NeS "__init__" "born" := ⟨by decide +kernel⟩
instance ne_257 : NeS "__init__" "least" := ⟨by decide +kernel⟩
instance ne_258 : NeS "__init__" "latest" := ⟨by decide +kernel⟩
instance ne_259 : NeS "__init__" "samples" := ⟨by decide +kernel⟩
instance ne_260 : NeS "KIND" "number" := ⟨by decide +kernel⟩
instance ne_261 : NeS "KIND" "setting" := ⟨by decide +kernel⟩
instance ne_262 : NeS "KIND" "unit" := ⟨by decide +kernel⟩
instance ne_263 : NeS "KIND" "window" := ⟨by decide +kernel⟩
instance ne_264 : NeS "KIND" "threshold" := ⟨by decide +kernel⟩
instance ne_265 : NeS "KIND" "credit" := ⟨by decide +kernel⟩
instance ne_266 : NeS "KIND" "stalled" := ⟨by decide +kernel⟩
instance ne_267 : NeS "KIND" "peak" := ⟨by decide +kernel⟩
instance ne_268 : NeS "KIND" "span" := ⟨by decide +kernel⟩
instance ne_269 : NeS "KIND" "born" := ⟨by decide +kernel⟩
instance ne_270 : NeS "KIND" "least" := ⟨by decide +kernel⟩
instance ne_271 : NeS "KIND" "latest" := ⟨by decide +kernel⟩
instance ne_272 : NeS "KIND" "samples" := ⟨by decide +kernel⟩
instance ne_273 : NeS "base" "fixed" := ⟨by decide +kernel⟩
instance ne_274 : NeS "base" "climb" := ⟨by decide +kernel⟩
instance ne_275 : NeS "base" "curve" := ⟨by decide +kernel⟩
instance ne_276 : NeS "base" "delay" := ⟨by decide +kernel⟩
instance ne_277 : NeS "base" "unit" := ⟨by decide +kernel⟩
instance ne_278 : NeS "base" "pieces" := ⟨by decide +kernel⟩
instance ne_279 : NeS "base" "control" := ⟨by decide +kernel⟩
instance ne_280 : NeS "fixed" "base" := ⟨by decide +kernel⟩
instance ne_281 : NeS "fixed" "climb" := ⟨by decide +kernel⟩
instance ne_282 : NeS "fixed" "curve" := ⟨by decide +kernel⟩
instance ne_283 : NeS "fixed" "delay" := ⟨by decide +kernel⟩
instance ne_284 : NeS "fixed" "unit" := ⟨by decide +kernel⟩
instance ne_285 : NeS "fixed" "pieces" := ⟨by decide +kernel⟩
instance ne_286 : NeS "fixed" "control" := ⟨by decide +kernel⟩
instance ne_287 : NeS "climb" "base" := ⟨by decide +kernel⟩
instance ne_288 : NeS "climb" "fixed" := ⟨by decide +kernel⟩
instance ne_289 : NeS "climb" "curve" := ⟨by decide +kernel⟩
instance ne_290 : NeS "climb" "delay" := ⟨by decide +kernel⟩
instance ne_291 : NeS "climb" "unit" := ⟨by decide +kernel⟩
instance ne_292 : NeS "climb" "pieces" := ⟨by decide +kernel⟩
instance ne_293 : NeS "climb" "control" := ⟨by decide +kernel⟩
instance ne_294 : NeS "curve" "base" := ⟨by decide +kernel⟩
instance ne_295 : NeS "curve" "fixed" := ⟨by decide +kernel⟩
instance ne_296 : NeS "curve" "climb" := ⟨by decide +kernel⟩
instance ne_297 : NeS "curve" "delay" := ⟨by decide +kernel⟩
instance ne_298 : NeS "curve" "unit" := ⟨by decide +kernel⟩
instance ne_299 : NeS "curve" "pieces" := ⟨by decide +kernel⟩
instance ne_300 : NeS "curve" "control" := ⟨by decide +kernel⟩
instance ne_301 : NeS "delay" "base" := ⟨by decide +kernel⟩
instance ne_302 : NeS "delay" "fixed" := ⟨by decide +kernel⟩
instance ne_303 : NeS "delay" "climb" := ⟨by decide +kernel⟩
instance ne_304 : NeS "delay" "curve" := ⟨by decide +kernel⟩
instance ne_305 : NeS "delay" "unit" := ⟨by decide +kernel⟩
instance ne_306 : NeS "delay" "pieces" := ⟨by decide +kernel⟩
instance ne_307 : NeS "delay" "control" := ⟨by decide +kernel⟩
instance ne_308 : NeS "unit" "base" := ⟨by decide +kernel⟩
instance ne_309 : NeS "unit" "fixed" := ⟨by decide +kernel⟩
instance ne_310 : NeS "unit" "climb" := ⟨by decide +kernel⟩
instance ne_311 : NeS "unit" "curve" := ⟨by decide +kernel⟩
instance ne_312 : NeS "unit" "delay" := ⟨by decide +kernel⟩
instance ne_313 : NeS "unit" "pieces" := ⟨by decide +kernel⟩
instance ne_314 : NeS "unit" "control" := ⟨by decide +kernel⟩
instance ne_315 : NeS "pieces" "base" := ⟨by decide +kernel⟩
instance ne_316 : NeS "pieces" "fixed" := ⟨by decide +kernel⟩
instance ne_317 : NeS "pieces" "climb" := ⟨by decide +kernel⟩
instance ne_318 : NeS "pieces" "curve" := ⟨by decide +kernel⟩
instance ne_319 : NeS "pieces" "delay" := ⟨by decide +kernel⟩
instance ne_320 : NeS "pieces" "unit" := ⟨by decide +kernel⟩
instance ne_321 : NeS "pieces" "control" := ⟨by decide +kernel⟩
instance ne_322 : NeS "control" "base" := ⟨by decide +kernel⟩
instance ne_323 : NeS "control" "fixed" := ⟨by decide +kernel⟩
instance ne_324 : NeS "control" "climb" := ⟨by decide +kernel⟩
instance ne_325 : NeS "control" "curve" := ⟨by decide +kernel⟩
instance ne_326 : NeS "control" "delay" := ⟨by decide +kernel⟩
instance ne_327 : NeS "control" "unit" := ⟨by decide +kernel⟩
instance ne_328 : NeS "control" "pieces" := ⟨by decide +kernel⟩

/-! the walker: «walk_at "y 1"» one step, «walk_at "y"» as far as it goes -/
local macro_rules | `(tactic| walk_at "y mem") => `(tactic| repeat (first | assumption | exact List.Mem.head _ | apply List.Mem.tail))
local macro_rules | `(tactic| walk_at "y sub") => `(tactic| first | exact List.Sublist.refl _ | exact List.nil_sublist _ | (refine List.Sublist.cons₂ _ ?_; walk_at "y sub") | (refine List.Sublist.cons _ ?_; walk_at "y sub"))
local macro_rules | `(tactic| walk_at "y take") => `(tactic| first | exact Y.Take.here | (apply Y.Take.there; walk_at "y take"))
local macro_rules | `(tactic| walk_at "y sel") => `(tactic| first | exact Y.Sel.all | exact Y.Sel.nil | (refine' Y.Sel.cons ?h ?s; (case h => walk_at "y take"); (case s => walk_at "y sel")) | ((fail_if_success (show Y.Sel (_ :: _) _)); apply Y.Sel.drop; walk_at "y sel"))
local macro_rules | `(tactic| walk_at "y src") => `(tactic| first | assumption | (refine Y.Src.is ?_; walk_at "y mem"; done) | (refine Y.Src.rd ?_; walk_at "y mem"; done) | (refine Y.Src.st ?_; assumption) | (apply Y.Src.cons; walk_at "y src"))
local macro_rules | `(tactic| walk_at "y put") => `(tactic| repeat (first | assumption | exact Y.Put.here | apply Y.Put.there))
local macro_rules | `(tactic| walk_at "y at") => `(tactic| first | exact Y.atI_at (j := 0) rfl rfl | exact Y.atI_at (j := 1) rfl rfl | exact Y.atI_at (j := 2) rfl rfl | exact Y.atI_at (j := 3) rfl rfl | exact Y.atI_at (j := 4) rfl rfl | exact Y.atI_at (j := 5) rfl rfl | exact Y.atI_at (j := 6) rfl rfl | exact Y.atI_at (j := 7) rfl rfl | exact Y.atI_at (j := 8) rfl rfl | exact Y.atI_at (j := 9) rfl rfl | exact Y.atI_at (j := 10) rfl rfl | exact Y.atI_at (j := 11) rfl rfl | exact Y.atI_at (j := 12) rfl rfl | exact Y.atI_at (j := 13) rfl rfl | exact Y.atI_at (j := 14) rfl rfl | exact Y.atI_at (j := 15) rfl rfl | assumption | exact Y.atI_ints (by omega) (by omega))
local macro_rules | `(tactic| walk_at "y ix") => `(tactic| first | exact Y.ixN_b (j := 0) rfl rfl | exact Y.ixN_b (j := 1) rfl rfl | exact Y.ixN_b (j := 2) rfl rfl | exact Y.ixN_b (j := 3) rfl rfl | exact Y.ixN_b (j := 4) rfl rfl | exact Y.ixN_b (j := 5) rfl rfl | exact Y.ixN_b (j := 6) rfl rfl | exact Y.ixN_b (j := 7) rfl rfl | exact Y.ixN_b (j := 8) rfl rfl | exact Y.ixN_b (j := 9) rfl rfl | exact Y.ixN_b (j := 10) rfl rfl | exact Y.ixN_b (j := 11) rfl rfl | exact Y.ixN_b (j := 12) rfl rfl | exact Y.ixN_b (j := 13) rfl rfl | exact Y.ixN_b (j := 14) rfl rfl | exact Y.ixN_b (j := 15) rfl rfl | assumption | exact Y.ixN_i (by omega) (by omega))
local macro_rules | `(tactic| walk_at "y field") => `(tactic| first | assumption | exact Y.look_hit | exact Y.look_nil | (refine' Y.look_miss ?hd ?tl; (case hd => decide +kernel); (case tl => walk_at "y field")))
local macro_rules | `(tactic| walk_at "y putf") => `(tactic| first | exact Y.put_nil | exact Y.put_hit | (refine' Y.put_miss ?hd ?tl; (case hd => decide +kernel); (case tl => walk_at "y putf")))
local macro_rules | `(tactic| walk_at "y size") => `(tactic| first | exact Y.len_leB rfl | exact Y.len_ltB rfl | exact Y.f_lt rfl | (refine Y.len_leN ?_; simp only [List.length_append, List.length_cons, List.length_nil, List.length_map]; omega) | (refine Y.len_ltN ?_; simp only [List.length_append, List.length_cons, List.length_nil, List.length_map]; omega))
local macro_rules | `(tactic| walk_at "y flat") => `(tactic| first | exact Y.flat_ints | rfl | assumption | (refine Y.flat_cons ?_ ?_; (first | rfl | decide +kernel | assumption); walk_at "y flat"))
local macro_rules | `(tactic| walk_at "y eqv") => `(tactic| first | exact Y.eqv_nil | exact Y.eqv_nc | exact Y.eqv_cn | exact Y.eqv_ints | assumption | ((try simp (disch := decide +kernel) only [Y.eqv_strS, Y.eqv_strD, Y.eqv_int, Y.eqv_bl, Y.eqv_nil, Y.eqv_nc, Y.eqv_cn, Y.eqv_nn, Y.eqv_ni, Y.eqv_in, Y.eqv_ns, Y.eqv_sn, Y.eqv_si, Y.eqv_is, decide_true, Bool.true_and, Bool.false_and, Bool.and_true, Bool.and_false, eq_self, List.cons_append, List.nil_append]); (try simp only [Y.eqv_str, Y.eqv_int, Y.eqv_bl, Y.eqv_nil, Y.eqv_nc, Y.eqv_cn, Y.eqv_nn, Y.eqv_ni, Y.eqv_in, Y.eqv_ns, Y.eqv_sn, Y.eqv_si, Y.eqv_is, decide_true, Bool.true_and, Bool.false_and, Bool.and_true, Bool.and_false, eq_self, List.cons_append, List.nil_append, ← Bool.decide_and]); rfl))
local macro_rules | `(tactic| walk_at "y side") => `(tactic| fail "side")
local macro_rules | `(tactic| walk_at "y spec") => `(tactic| fail "spec")
local macro_rules | `(tactic| walk_at "y old Ar") => `(tactic| first
  | ((with_reducible refine' Y.x_strI ?c ?_); (case c => omega))
  | ((with_reducible refine' Y.x_mod ?c ?_); (case c => first | omega | decide | walk_at "y side"))
  | ((with_reducible refine' Y.x_fdiv ?c ?_); (case c => first | exact Y.div_small (by omega) (by omega) | walk_at "y side"))
  | ((with_reducible refine' Y.x_mul ?c ?_); (case c => first | exact Y.mulR (by omega) (by omega) | exact Y.mulL (by omega) (by omega) | walk_at "y side"))
  | ((with_reducible refine Y.is_pow ?_); first
    | (with_reducible refine Y.x_pw10_1 ?_)
    | (with_reducible refine Y.x_pw10_2 ?_)
    | (with_reducible refine Y.x_pw10_3 ?_)
    | (with_reducible refine Y.x_pw10_4 ?_)
    | (with_reducible refine Y.x_pw10_5 ?_)
    | (with_reducible refine Y.x_pw10_6 ?_)
    | (with_reducible refine Y.x_pw10_7 ?_)
    | (with_reducible refine Y.x_pw10_8 ?_)
    | (with_reducible refine Y.x_pw10_9 ?_)
    | (with_reducible refine Y.x_pw10_10 ?_)
    | (with_reducible refine Y.x_pw10_11 ?_)
    | (with_reducible refine Y.x_pw10_12 ?_)
    | (with_reducible refine Y.x_pw10_13 ?_)
    | (with_reducible refine Y.x_pw10_14 ?_)
    | (with_reducible refine Y.x_pw10_15 ?_)
    | (with_reducible refine Y.x_pw10_16 ?_)
    | (with_reducible refine Y.x_pw10_17 ?_)
    | (with_reducible refine Y.x_pw10_18 ?_)
    | (with_reducible refine Y.x_pw10_19 ?_)
    | (with_reducible refine Y.x_pw10_20 ?_)
    | (with_reducible refine Y.x_pw10_21 ?_)
    | (with_reducible refine Y.x_pw10_22 ?_)
    | (with_reducible refine Y.x_pw10_23 ?_)
    | (with_reducible refine Y.x_pw10_24 ?_)
    | (with_reducible refine Y.x_pw2_6 ?_)
    | (with_reducible refine Y.x_pw2_10 ?_)
    | (with_reducible refine Y.x_pw2_16 ?_)
    | (with_reducible refine Y.x_pw2_20 ?_)
    | (with_reducible refine Y.x_pw2_30 ?_)
    | (with_reducible refine Y.x_pw2_31 ?_)
    | (with_reducible refine Y.x_pw2_32 ?_)
    | (with_reducible refine Y.x_pw2_40 ?_)
    | (with_reducible refine Y.x_pw2_48 ?_)
    | (with_reducible refine Y.x_pw2_60 ?_)
    | (with_reducible refine Y.x_pw2_62 ?_)
    | (with_reducible refine Y.x_pw2_63 ?_)
    | (with_reducible refine Y.x_pw2_64 ?_))
  | ((with_reducible refine' Y.x_pow ?c ?_); (case c => first | exact ⟨by decide, by decide, by decide⟩ | walk_at "y side"))
  | ((with_reducible refine' Y.x_shl ?c ?_); (case c => first | exact ⟨by omega, by omega, by decide⟩ | walk_at "y side")))
local macro_rules | `(tactic| walk_at "y old Ix") => `(tactic| first
  | ((with_reducible refine Y.is_ix ?_); first
    | ((with_reducible refine' Y.x_ixL ?F ?m ?a ?_); (case F => assumption); (case m => walk_at "y mem"); (case a => walk_at "y at"))
    | ((with_reducible refine' Y.x_ixT ?F ?m ?a ?_); (case F => assumption); (case m => walk_at "y mem"); (case a => walk_at "y at"))
    | ((with_reducible refine' Y.x_ixR ?F ?m ?a ?_); (case F => assumption); (case m => walk_at "y mem"); (case a => walk_at "y at"))
    | ((with_reducible refine' Y.x_ixS ?ms ?a ?_); (case ms => assumption); (case a => walk_at "y at")))
  | ((with_reducible refine Y.is_len ?_); first
    | ((with_reducible refine' Y.x_lenL ?F ?m ?_); (case F => assumption); (case m => walk_at "y mem"))
    | ((with_reducible refine' Y.x_lenT ?F ?m ?_); (case F => assumption); (case m => walk_at "y mem"))
    | ((with_reducible refine' Y.x_lenR ?F ?m ?_); (case F => assumption); (case m => walk_at "y mem"))
    | ((with_reducible refine' Y.x_lenS ?ms ?_); (case ms => assumption)))
  | ((with_reducible refine Y.is_sl ?_); first
    | ((with_reducible refine' Y.x_sl1 ?F ?m ?_); (case F => assumption); (case m => walk_at "y mem"); intro _ _ _ _)
    | ((with_reducible refine' Y.x_slp1 ?F ?m ?_); (case F => assumption); (case m => walk_at "y mem"); intro _ _ _ _)
    | ((with_reducible refine' Y.x_slp2 ?F ?m ?_); (case F => assumption); (case m => walk_at "y mem"); intro _ _ _ _)
    | ((with_reducible refine' Y.x_slp3 ?F ?m ?_); (case F => assumption); (case m => walk_at "y mem"); intro _ _ _ _)
    | ((with_reducible refine' Y.x_slp4 ?F ?m ?_); (case F => assumption); (case m => walk_at "y mem"); intro _ _ _ _)
    | ((with_reducible refine' Y.x_slp5 ?F ?m ?_); (case F => assumption); (case m => walk_at "y mem"); intro _ _ _ _)
    | ((with_reducible refine' Y.x_slp6 ?F ?m ?_); (case F => assumption); (case m => walk_at "y mem"); intro _ _ _ _)
    | ((with_reducible refine' Y.x_slp7 ?F ?m ?_); (case F => assumption); (case m => walk_at "y mem"); intro _ _ _ _)
    | ((with_reducible refine' Y.x_slp8 ?F ?m ?_); (case F => assumption); (case m => walk_at "y mem"); intro _ _ _ _)
    | ((with_reducible refine' Y.x_slL ?F ?m ?_); (case F => assumption); (case m => walk_at "y mem"); intro _ _ _ _)
    | ((with_reducible refine' Y.x_slR ?F ?m ?_); (case F => assumption); (case m => walk_at "y mem"); intro _ _ _ _)
    | ((with_reducible refine' Y.x_slS ?F ?ms ?_); (case F => assumption); (case ms => assumption); intro _ _ _ _)))
local macro_rules | `(tactic| walk_at "y old Eq") => `(tactic| first
  | ((with_reducible refine Y.is_eqP ?_); first
    | (with_reducible refine Y.x_eqPI ?_)
    | (with_reducible refine Y.x_eqPB ?_)
    | (with_reducible refine Y.x_eqPSs ?_)
    | ((with_reducible refine' Y.x_eqPSd ?ne ?_); (case ne => decide +kernel))
    | (with_reducible refine Y.x_eqPS ?_)
    | (with_reducible refine Y.x_eqP_nn ?_)
    | (with_reducible refine Y.x_eqP_ni ?_)
    | (with_reducible refine Y.x_eqP_in ?_)
    | (with_reducible refine Y.x_eqP_nb ?_)
    | (with_reducible refine Y.x_eqP_bn ?_)
    | (with_reducible refine Y.x_eqP_ns ?_)
    | (with_reducible refine Y.x_eqP_sn ?_)
    | (with_reducible refine Y.x_eqP_is ?_)
    | (with_reducible refine Y.x_eqP_si ?_)
    | (with_reducible refine Y.x_eqP_bs ?_)
    | (with_reducible refine Y.x_eqP_sb ?_)
    | ((with_reducible refine' Y.x_eqPL ?F ?m ?n ?f1 ?f2 ?ev ?_); (case F => assumption); (case m => walk_at "y mem"); (case n => walk_at "y mem"); (case f1 => walk_at "y flat"); (case f2 => walk_at "y flat"); (case ev => walk_at "y eqv"))
    | ((with_reducible refine' Y.x_eqPT ?F ?m ?n ?f1 ?f2 ?ev ?_); (case F => assumption); (case m => walk_at "y mem"); (case n => walk_at "y mem"); (case f1 => walk_at "y flat"); (case f2 => walk_at "y flat"); (case ev => walk_at "y eqv")))
  | ((with_reducible refine Y.is_neP ?_); first
    | (with_reducible refine Y.x_nePI ?_)
    | (with_reducible refine Y.x_nePB ?_)
    | (with_reducible refine Y.x_nePSs ?_)
    | ((with_reducible refine' Y.x_nePSd ?ne ?_); (case ne => decide +kernel))
    | (with_reducible refine Y.x_nePS ?_)
    | (with_reducible refine Y.x_neP_nn ?_)
    | (with_reducible refine Y.x_neP_ni ?_)
    | (with_reducible refine Y.x_neP_in ?_)
    | (with_reducible refine Y.x_neP_nb ?_)
    | (with_reducible refine Y.x_neP_bn ?_)
    | (with_reducible refine Y.x_neP_ns ?_)
    | (with_reducible refine Y.x_neP_sn ?_)
    | (with_reducible refine Y.x_neP_is ?_)
    | (with_reducible refine Y.x_neP_si ?_)
    | (with_reducible refine Y.x_neP_bs ?_)
    | (with_reducible refine Y.x_neP_sb ?_)
    | ((with_reducible refine' Y.x_nePL ?F ?m ?n ?f1 ?f2 ?ev ?_); (case F => assumption); (case m => walk_at "y mem"); (case n => walk_at "y mem"); (case f1 => walk_at "y flat"); (case f2 => walk_at "y flat"); (case ev => walk_at "y eqv"))
    | ((with_reducible refine' Y.x_nePT ?F ?m ?n ?f1 ?f2 ?ev ?_); (case F => assumption); (case m => walk_at "y mem"); (case n => walk_at "y mem"); (case f1 => walk_at "y flat"); (case f2 => walk_at "y flat"); (case ev => walk_at "y eqv"))))
local macro_rules | `(tactic| walk_at "y old In") => `(tactic| first
  | ((with_reducible refine' Y.x_inL (bb := false) ?F ?m ?f ?fs ?e ?_); (case F => assumption); (case m => walk_at "y mem"); (case f => rfl); (case fs => rfl); (case e => rfl))
  | ((with_reducible refine' Y.x_inL (bb := true) ?F ?m ?f ?fs ?e ?_); (case F => assumption); (case m => walk_at "y mem"); (case f => rfl); (case fs => rfl); (case e => rfl))
  | ((with_reducible refine' Y.x_inL ?F ?m ?f ?fs ?e ?_); (case F => assumption); (case m => walk_at "y mem"); (case f => rfl); (case fs => rfl); (case e => rfl))
  | ((with_reducible refine' Y.x_inT (bb := false) ?F ?m ?f ?fs ?e ?_); (case F => assumption); (case m => walk_at "y mem"); (case f => rfl); (case fs => rfl); (case e => rfl))
  | ((with_reducible refine' Y.x_inT (bb := true) ?F ?m ?f ?fs ?e ?_); (case F => assumption); (case m => walk_at "y mem"); (case f => rfl); (case fs => rfl); (case e => rfl))
  | ((with_reducible refine' Y.x_inT ?F ?m ?f ?fs ?e ?_); (case F => assumption); (case m => walk_at "y mem"); (case f => rfl); (case fs => rfl); (case e => rfl))
  | ((with_reducible refine' Y.x_ninL (bb := false) ?F ?m ?f ?fs ?e ?_); (case F => assumption); (case m => walk_at "y mem"); (case f => rfl); (case fs => rfl); (case e => rfl))
  | ((with_reducible refine' Y.x_ninL (bb := true) ?F ?m ?f ?fs ?e ?_); (case F => assumption); (case m => walk_at "y mem"); (case f => rfl); (case fs => rfl); (case e => rfl))
  | ((with_reducible refine' Y.x_ninL ?F ?m ?f ?fs ?e ?_); (case F => assumption); (case m => walk_at "y mem"); (case f => rfl); (case fs => rfl); (case e => rfl))
  | ((with_reducible refine' Y.x_ninT (bb := false) ?F ?m ?f ?fs ?e ?_); (case F => assumption); (case m => walk_at "y mem"); (case f => rfl); (case fs => rfl); (case e => rfl))
  | ((with_reducible refine' Y.x_ninT (bb := true) ?F ?m ?f ?fs ?e ?_); (case F => assumption); (case m => walk_at "y mem"); (case f => rfl); (case fs => rfl); (case e => rfl))
  | ((with_reducible refine' Y.x_ninT ?F ?m ?f ?fs ?e ?_); (case F => assumption); (case m => walk_at "y mem"); (case f => rfl); (case fs => rfl); (case e => rfl)))
local macro_rules | `(tactic| walk_at "y old Ty") => `(tactic| first
  | ((with_reducible refine Y.is_isi ?_); first
    | ((with_reducible refine' Y.x_isr_list_int ?F ?m ?_); (case F => assumption); (case m => walk_at "y mem"))
    | ((with_reducible refine' Y.x_isr_list_bool ?F ?m ?_); (case F => assumption); (case m => walk_at "y mem"))
    | ((with_reducible refine' Y.x_isr_list_str ?F ?m ?_); (case F => assumption); (case m => walk_at "y mem"))
    | ((with_reducible refine' Y.x_isr_list_list ?F ?m ?_); (case F => assumption); (case m => walk_at "y mem"))
    | ((with_reducible refine' Y.x_isr_list_tuple ?F ?m ?_); (case F => assumption); (case m => walk_at "y mem"))
    | ((with_reducible refine' Y.x_isr_list_dict ?F ?m ?_); (case F => assumption); (case m => walk_at "y mem"))
    | ((with_reducible refine' Y.x_isr_tuple_int ?F ?m ?_); (case F => assumption); (case m => walk_at "y mem"))
    | ((with_reducible refine' Y.x_isr_tuple_bool ?F ?m ?_); (case F => assumption); (case m => walk_at "y mem"))
    | ((with_reducible refine' Y.x_isr_tuple_str ?F ?m ?_); (case F => assumption); (case m => walk_at "y mem"))
    | ((with_reducible refine' Y.x_isr_tuple_list ?F ?m ?_); (case F => assumption); (case m => walk_at "y mem"))
    | ((with_reducible refine' Y.x_isr_tuple_tuple ?F ?m ?_); (case F => assumption); (case m => walk_at "y mem"))
    | ((with_reducible refine' Y.x_isr_tuple_dict ?F ?m ?_); (case F => assumption); (case m => walk_at "y mem"))))
local macro_rules | `(tactic| walk_at "y old Oth") => `(tactic| first
  | ((with_reducible refine' Y.x_wipe ?e ?_); (case e => rfl))
  | ((with_reducible refine' Y.x_lcPut ?F ?pu ?sz ?_); (case F => assumption); (case pu => walk_at "y put"); (case sz => walk_at "y size"); intro _ _)
  | ((with_reducible refine' Y.x_mDG ?F ?hm ?mt ?l ?_); (case F => assumption); (case hm => walk_at "y mem"); (case mt => walk_at "y mem"); (case l => walk_at "y field"))
  | ((with_reducible refine' Y.x_fldDG ?F ?m ?mt ?l ?_); (case F => assumption); (case m => walk_at "y mem"); (case mt => walk_at "y mem"); (case l => walk_at "y field"))
  | ((with_reducible refine' Y.x_setFDG ?F ?m ?mt ?z ?e ?pu ?_); (case F => assumption); (case m => walk_at "y mem"); (case mt => walk_at "y mem"); (case z => walk_at "y size"); (case e => walk_at "y putf"); (case pu => walk_at "y put"); intro _ _)
  | ((with_reducible refine' Y.x_augFDG ?F ?m ?mt ?l ?_); (case F => assumption); (case m => walk_at "y mem"); (case mt => walk_at "y mem"); (case l => walk_at "y field"))
  | ((with_reducible refine' Y.x_propDG ?F ?m ?mt ?_); (case F => assumption); (case m => walk_at "y mem"); (case mt => walk_at "y mem"))
  | ((with_reducible refine' Y.x_supM ?F ?m ?mt ?_); (case F => assumption); (case m => walk_at "y mem"); (case mt => walk_at "y mem"))
  | ((with_reducible refine' Y.x_getL ?F ?m ?a ?_); (case F => assumption); (case m => walk_at "y mem"); (case a => walk_at "y at"))
  | ((with_reducible refine' Y.x_wTs ?mt ?rf ?_); (case mt => walk_at "y mem"); (case rf => rfl); intro _)
  | ((with_reducible refine' Y.x_wTn ?mt ?rf ?_); (case mt => walk_at "y mem"); (case rf => rfl); intro _)
  | ((with_reducible refine' Y.x_xfG ?F ?m ?mt ?l ?_); (case F => assumption); (case m => walk_at "y mem"); (case mt => walk_at "y mem"); (case l => walk_at "y field"))
  | ((with_reducible refine' Y.x_isX ?F ?m ?mt ?_); (case F => assumption); (case m => walk_at "y mem"); (case mt => walk_at "y mem"))
  | ((with_reducible refine' Y.x_isXi  ?_); )
  | ((with_reducible refine' Y.x_fldG ?F ?m ?l ?_); (case F => assumption); (case m => walk_at "y mem"); (case l => walk_at "y field"))
  | ((with_reducible refine' Y.x_methG ?F ?m ?l ?_); (case F => assumption); (case m => walk_at "y mem"); (case l => walk_at "y field"))
  | ((with_reducible refine' Y.x_inOwnF ?F ?m ?_); (case F => assumption); (case m => walk_at "y mem"))
  | ((with_reducible refine' Y.x_inOwnT ?F ?m ?_); (case F => assumption); (case m => walk_at "y mem"))
  | ((with_reducible refine' Y.x_setFG ?F ?m ?z ?e ?pu ?_); (case F => assumption); (case m => walk_at "y mem"); (case z => walk_at "y size"); (case e => walk_at "y putf"); (case pu => walk_at "y put"); intro _ _)
  | ((with_reducible refine' Y.x_setL ?F ?m ?ax ?pu ?_); (case F => assumption); (case m => walk_at "y mem"); (case ax => walk_at "y ix"); (case pu => walk_at "y put"); intro _ _)
  | ((with_reducible refine' Y.x_apdG ?F ?m ?_); (case F => assumption); (case m => walk_at "y mem"))
  | ((with_reducible refine' Y.x_append ?F ?m ?z ?pu ?_); (case F => assumption); (case m => walk_at "y mem"); (case z => walk_at "y size"); (case pu => walk_at "y put"); intro _ _)
  | ((with_reducible refine' Y.x_lstG ?F ?z ?_); (case F => assumption); (case z => walk_at "y size"); intro _ _ _ _)
  | ((with_reducible refine' Y.x_tupG ?F ?z ?_); (case F => assumption); (case z => walk_at "y size"); intro _ _ _ _)
  | ((with_reducible refine' Y.forTU ?F ?m ?_); (case F => assumption); (case m => walk_at "y mem"))
  | ((with_reducible refine' Y.x_sumL ?F ?m ?_); (case F => assumption); (case m => walk_at "y mem"))
  | ((with_reducible refine' Y.x_cat ?F ?m ?n ?z ?_); (case F => assumption); (case m => walk_at "y mem"); (case n => walk_at "y mem"); (case z => walk_at "y size"); intro _ _ _ _)
  | ((with_reducible refine' Y.x_propG ?F ?m ?_); (case F => assumption); (case m => walk_at "y mem"))
  | ((with_reducible refine' Y.x_augFG ?F ?m ?l ?_); (case F => assumption); (case m => walk_at "y mem"); (case l => walk_at "y field"))
  | ((with_reducible refine' Y.x_augFS ?F ?m ?z ?e ?pu ?_); (case F => assumption); (case m => walk_at "y mem"); (case z => walk_at "y size"); (case e => walk_at "y putf"); (case pu => walk_at "y put"); intro _ _))
local macro_rules | `(tactic| walk_at "y open") => `(tactic| with_reducible first | unfold Y.KFl | unfold Y.KFlD | unfold Y.KSf | unfold Y.KSfD | unfold Y.KAf | unfold Y.KAs | unfold Y.KAfD | unfold Y.KMe | unfold Y.KMD | unfold Y.KPr | unfold Y.KPrD | unfold Y.KAp | unfold Y.KBl | unfold Y.KIn)
local macro_rules | `(tactic| walk_at "y 1") => `(tactic| first
  | ((with_reducible refine Y.go ?_); intros)
  | ((with_reducible refine Y.hdAr_is ?_); walk_at "y old Ar")
  | ((with_reducible refine Y.hdIx_is ?_); walk_at "y old Ix")
  | ((with_reducible refine Y.hdEq_is ?_); walk_at "y old Eq")
  | ((with_reducible refine Y.hdIn_is ?_); walk_at "y old In")
  | ((with_reducible refine Y.hdTy_is ?_); walk_at "y old Ty")
  | ((with_reducible refine Y.hdFm_is ?_); ((with_reducible refine' Y.x_fmI ?b ?_); (case b => omega)))
  | ((with_reducible refine Y.hdK_is ?_); walk_at "y open"; walk_at "y old Oth")
  | ((with_reducible refine Y.hd_is ?_); walk_at "y old Oth"))
local macro_rules | `(tactic| walk_at "y if") => `(tactic| first
  | ((with_reducible refine Y.x_ite ?_ ?_); all_goals (intro _; try (exfalso; omega)))
  | ((with_reducible refine Y.x_niteP ?_ ?_); all_goals (intro _; try (exfalso; omega)))
  | ((with_reducible refine Y.x_itec ?_ ?_); all_goals intro _)
  | ((with_reducible refine Y.x_nitec ?_ ?_); all_goals intro _))
local macro_rules | `(tactic| walk_at "y") => `(tactic| repeat' (first | walk_at "y 1" | walk_at "y if" | walk_at "y spec"))

section
/-! the box of the draws -/
def Box : Pr := comp (fun p (b : Int × Int × Int) => [(p, Is (.lst [.int b.1, .int b.2.1, .int b.2.2]))]) (fun _ => True)
theorem draw_ok {a : Cl} {H : Hp} {L : List Ent} {p : Addr} {n : Int} {Q : VK} {E : XK} (F : FH H L) (m : (p, Box) ∈ L) (hn : 0 < n) (hn2 : n ≤ 1000000000000) (k : ∀ r H', 0 ≤ r → r < n → FH H' L → Q (.int r) H') : sp_draw a [.ref p, .int n] H Q E := by
  obtain ⟨R, hR⟩ := pull m
  obtain ⟨⟨i, j, s⟩, _, F1⟩ := (F.perm hR).unfold
  have fin : ∀ (r i' j' s' : Int) (H' : Hp), 0 ≤ r → r < n → FH H' ((p, Is (.lst [.int i', .int j', .int s'])) :: R) → Q (.int r) H' := fun r i' j' s' H' b1 b2 F' =>
    k r H' b1 b2 ((FH.fold (E := fun p (b : Int × Int × Int) => [(p, Is (.lst [.int b.1, .int b.2.1, .int b.2.2]))]) (P := fun _ => True) (i', j', s') trivial F' (List.mem_cons_self)).perm hR.symm)
  clear k F m hR
  have F2 : FH H ((p, Is (.lst [.int i, .int j, .int s])) :: R) := F1
  clear F1
  refine in_draw ?_
  walk_at "y"
  all_goals exact fin _ _ _ _ _ (Int.emod_nonneg _ (by omega)) (Int.emod_lt_of_pos _ hn) (by assumption)
theorem draw2_ok {a : Cl} {H : Hp} {L : List Ent} {p : Addr} {Q : VK} {E : XK} (F : FH H L) (m : (p, Box) ∈ L) (k0 : ∀ H', FH H' L → Q (.int 0) H') (k1 : ∀ H', FH H' L → Q (.int 1) H') : sp_draw a [.ref p, .int 2] H Q E :=
  draw_ok F m (by decide) (by decide) fun r H' h0 h1 F' => by
    rcases (by omega : r = 0 ∨ r = 1) with rfl | rfl
    · exact k0 _ F'
    · exact k1 _ F'
theorem box_ok {a : Cl} {H : Hp} {L : List Ent} {i : Int} {Q : VK} {E : XK} (F : FH H L) (k : ∀ p H', FH H' ((p, Box) :: L) → Q (.ref p) H') : sp_box a [.int i] H Q E := by
  refine in_box ?_
  walk_at "y"
  all_goals exact k _ _ (FH.fold (E := fun p (b : Int × Int × Int) => [(p, Is (.lst [.int b.1, .int b.2.1, .int b.2.2]))]) (P := fun _ => True) (_, _, _) trivial (by assumption) (List.mem_cons_self))

theorem whole_ok {a : Cl} {H : Hp} {i : Int} {Q : VK} {E : XK} (k : Q (.bl true) H) : sp_is_whole a [.int i] H Q E := by
  refine in_is_whole ?_
  walk_at "y"
  exact k
local macro_rules | `(tactic| walk_at "y spec") => `(tactic| (with_reducible refine whole_ok ?_))
theorem range_ok {a : Cl} {H : Hp} {i l h : Int} {Q : VK} {E : XK} (k : Q (.bl (decide (l ≤ i ∧ i ≤ h))) H) : sp_in_range a [.int i, .int l, .int h] H Q E := by
  refine in_in_range ?_
  walk_at "y"
  · have e : decide (l ≤ i ∧ i ≤ h) = decide (i ≤ h) := by rw [Bool.eq_iff_iff]; simp; omega
    rw [e] at k; exact k
  · have e : decide (l ≤ i ∧ i ≤ h) = false := by rw [decide_eq_false_iff_not]; omega
    rw [e] at k; exact k

local macro_rules | `(tactic| walk_at "y spec") => `(tactic| first
  | ((with_reducible refine' draw_ok ?F ?m ?hn ?hn2 ?_); (case F => assumption); (case m => walk_at "y mem"); (case hn => first | omega | exact Int.emod_nonneg _ (by omega) | exact Int.emod_lt_of_pos _ (by omega)); (case hn2 => first | omega | exact Int.emod_nonneg _ (by omega) | exact Int.emod_lt_of_pos _ (by omega)); intro _ _ _ _ _)
  | ((with_reducible refine' box_ok ?F ?_); (case F => assumption); intro _ _ _)
  | ((with_reducible refine whole_ok ?_))
  | ((with_reducible refine range_ok ?_)))

theorem whole2_ok {a : Cl} {H : Hp} {i : Int} {Q : VK} {E : XK} (k : Q (.bl true) H) : sp_whole a [.int i, .int i] H Q E := by
  refine in_whole ?_
  walk_at "y"
  try rw [decide_eq_true rfl]
  exact k
theorem truth_ok {a : Cl} {H : Hp} {b : Bool} {Q : VK} {E : XK} (k : Q (.bl true) H) : sp_truth a [.bl b, .bl b] H Q E := by
  refine in_truth ?_
  walk_at "y"
  try rw [decide_eq_true rfl]
  exact k
theorem cut1 {ns : List Int} : cutV (ns.map V.int) none (some 1) = (ns.take 1).map V.int := by
  cases ns with
  | nil => rfl
  | cons z zs => exact cutV_pre (ys := [V.int z]) (n := 1) rfl
theorem cell_ok {a : Cl} {H : Hp} {L : List Ent} {q : Addr} {ns : List Int} {i : Int} {Q : VK} {E : XK} (F : FH H L) (m : Src a.S L q (ns.map V.int)) (h0 : 0 ≤ i) (k : ∀ n H', FH H' L → Q (.int n) H') : sp_cell a [.ref q, .int i] H Q E := by
  refine in_cell ?_
  rcases m with m | m | m
  all_goals
    walk_at "y"
    · exact k _ _ (by assumption)
    · rename_i F1
      rw [cut1] at F1
      walk_at "y"
      exact k _ _ (FH.sub (by assumption) (by walk_at "y sub"))
theorem rounds_ok {a : Cl} {H : Hp} {L : List Ent} {q : Addr} {ns : List Int} {Q : VK} {E : XK} (F : FH H L) (m : Src a.S L q (ns.map V.int)) (hl : ns.length ≤ 63) (k : ∀ n, 4 ≤ n ∧ n ≤ 62 → Q (.int n) H) : sp_rounds a [.ref q] H Q E := by
  refine in_rounds ?_
  rcases m with m | m | m
  all_goals
    walk_at "y"
    refine k _ ?_
    rw [List.length_map]
    omega
theorem unit_ok {a : Cl} {H : Hp} {L : List Ent} {p : Addr} {Q : VK} {E : XK} (F : FH H L) (m : (p, Box) ∈ L) (k : ∀ r H', 1 ≤ r ∧ r ≤ 65535 → FH H' L → Q (.int r) H') : sp_unit a [.ref p] H Q E := by
  refine in_unit ?_
  walk_at "y"
  all_goals
    refine k _ _ ?_ (by assumption)
    omega

end
section
local macro_rules | `(tactic| walk_at "y spec") => `(tactic| first
  | ((with_reducible refine' draw_ok ?F ?m ?hn ?hn2 ?_); (case F => assumption); (case m => walk_at "y mem"); (case hn => first | omega | exact Int.emod_nonneg _ (by omega) | exact Int.emod_lt_of_pos _ (by omega)); (case hn2 => first | omega | exact Int.emod_nonneg _ (by omega) | exact Int.emod_lt_of_pos _ (by omega)); intro _ _ _ _ _)
  | ((with_reducible refine' box_ok ?F ?_); (case F => assumption); intro _ _ _)
  | ((with_reducible refine whole_ok ?_))
  | ((with_reducible refine range_ok ?_)))

/-! the controls -/
inductive Kd | ctl | fix | clb | crv | dly
structure Ext where
  p : Int
  n : Int
  b : Option Int
  ls : Int
  la : Int
  sn : Int
def oV : Option Int → V
  | none => .non
  | some i => .int i
def Kd.cls (a : Cl) : Kd → Addr
  | .ctl => a.c_Control
  | .fix => a.c_Fixed
  | .clb => a.c_Climb
  | .crv => a.c_Curve
  | .dly => a.c_Delay
def Kd.F : Kd → Ext → List (Str × V)
  | .ctl, _ => []
  | .fix, _ => []
  | .clb, _ => []
  | .crv, e => [("peak", .int e.p), ("span", .int e.n), ("born", oV e.b)]
  | .dly, e => [("least", .int e.ls), ("latest", .int e.la), ("samples", .int e.sn)]
def Kd.num : Kd → Int
  | .ctl => 0
  | .fix => 1
  | .clb => 2
  | .crv => 3
  | .dly => 4
abbrev Bf (u w t x : Int) (s : Bool) (rest : List (Str × V)) : List (Str × V) := ("unit", .int u) :: ("window", .int w) :: ("threshold", .int t) :: ("credit", .int x) :: ("stalled", .bl s) :: rest
structure Ext.Ok (e : Ext) (j : Int) : Prop where
  n : 0 ≤ e.n ∧ e.n ≤ 268435456
  l : 0 ≤ e.ls ∧ e.ls ≤ e.la ∧ e.la ≤ 1000000000000
  b : ∀ i, e.b = some i → 0 ≤ j - i ∧ j - i ≤ 8000000000000
def Gw : Kd → Int → Int → Int → Int → Int → Prop
  | .ctl, _, w, x, w', x' => w' = w ∧ x' = x
  | .fix, _, w, x, w', x' => w' = w ∧ x' = x
  | .clb, _, w, _, w', _ => w ≤ w'
  | .crv, _, w, _, w', _ => w ≤ w'
  | .dly, u, w, _, w', _ => min w (3 * u + 1) ≤ w'
structure GL (k : Kd) (u w x n w' x' : Int) : Prop where
  lo : u ≤ w'
  hi : w' ≤ 4194304
  x0 : 0 ≤ x'
  x1 : x' < w'
  sum : w' + x' ≤ w + x + n
  gw : Gw k u w x w' x'
inductive AL (k : Kd) (u w t x n f : Int) : Int → Int → Prop
  | same (h : k = .fix ∨ 2 * (f + n) < w) : AL k u w t x n f w x
  | quick (hk : k ≠ .fix) (h1 : ¬ 2 * (f + n) < w) (h2 : w < t) : AL k u w t x n f (min 4194304 (w + min n u)) x
  | slow {w' x' : Int} (hk : k ≠ .fix) (h1 : ¬ 2 * (f + n) < w) (h2 : ¬ w < t) (g : GL k u w x n w' x') : AL k u w t x n f w' x'
theorem control_init {a : Cl} {H : Hp} {R : List Ent} {e C dx : Addr} {u : Int} {Q : VK} {E : XK} (F : FH H ((e, Is (.ins C dx [])) :: R)) (hC : C ∈ [a.c_Control, a.c_Fixed, a.c_Climb, a.c_Curve, a.c_Delay]) (hu : 1 ≤ u ∧ u ≤ 65535) (k : ∀ H', FH H' ((e, Is (.ins C dx (Bf u (2 * u) 4194304 0 false []))) :: R) → Q .non H') :
    sp_Control___init__ a [.ref e, .int u] H Q E := by
  refine in_Control___init__ ?_
  walk_at "y"
  exact k _ (by assumption)
theorem ctl_new {a : Cl} {H : Hp} {R : List Ent} {e dx : Addr} {u : Int} {Q : VK} {E : XK} (F : FH H ((e, Is (.ins a.c_Control dx [])) :: R)) (hu : 1 ≤ u ∧ u ≤ 65535) (k : ∀ H', FH H' ((e, Is (.ins a.c_Control dx (Bf u (2 * u) 4194304 0 false []))) :: R) → Q .non H') :
    sp_Control___init__ a [.ref e, .int u] H Q E := control_init F (List.Mem.head _) hu k
theorem fix_new {a : Cl} {H : Hp} {R : List Ent} {e dx : Addr} {u : Int} {Q : VK} {E : XK} (F : FH H ((e, Is (.ins a.c_Fixed dx [])) :: R)) (hu : 1 ≤ u ∧ u ≤ 65535) (k : ∀ H', FH H' ((e, Is (.ins a.c_Fixed dx (Bf u (u * 8) 4194304 0 false []))) :: R) → Q .non H') :
    sp_Fixed___init__ a [.ref e, .int u, .int 8] H Q E := by
  refine in_Fixed___init__ ?_
  repeat' walk_at "y 1"
  refine control_init F (by walk_at "y mem") hu fun H1 F1 => ?_
  clear F
  walk_at "y"
  exact k _ (by assumption)
theorem climb_init {a : Cl} {H : Hp} {R : List Ent} {e C dx : Addr} {u : Int} {Q : VK} {E : XK} (F : FH H ((e, Is (.ins C dx [])) :: R)) (hC : C = a.c_Climb ∨ C = a.c_Curve ∨ C = a.c_Delay) (hu : 1 ≤ u ∧ u ≤ 65535) (k : ∀ H', FH H' ((e, Is (.ins C dx (Bf u (2 * u) 4194304 0 false []))) :: R) → Q .non H') :
    sp_Climb___init__ a [.ref e, .int u] H Q E := by
  refine in_Climb___init__ ?_
  rcases hC with rfl | rfl | rfl
  all_goals
    repeat' walk_at "y 1"
    refine control_init F (by walk_at "y mem") hu fun H1 F1 => ?_
    clear F
    walk_at "y"
    exact k _ (by assumption)
theorem clb_new {a : Cl} {H : Hp} {R : List Ent} {e dx : Addr} {u : Int} {Q : VK} {E : XK} (F : FH H ((e, Is (.ins a.c_Climb dx [])) :: R)) (hu : 1 ≤ u ∧ u ≤ 65535) (k : ∀ H', FH H' ((e, Is (.ins a.c_Climb dx (Bf u (2 * u) 4194304 0 false []))) :: R) → Q .non H') :
    sp_Climb___init__ a [.ref e, .int u] H Q E := climb_init F (.inl rfl) hu k
theorem crv_new {a : Cl} {H : Hp} {R : List Ent} {e dx : Addr} {u : Int} {Q : VK} {E : XK} (F : FH H ((e, Is (.ins a.c_Curve dx [])) :: R)) (hu : 1 ≤ u ∧ u ≤ 65535) (k : ∀ H', FH H' ((e, Is (.ins a.c_Curve dx (Bf u (2 * u) 4194304 0 false [("peak", .int 0), ("span", .int 0), ("born", .non)]))) :: R) → Q .non H') :
    sp_Curve___init__ a [.ref e, .int u] H Q E := by
  refine in_Curve___init__ ?_
  repeat' walk_at "y 1"
  refine climb_init F (.inr (.inl rfl)) hu fun H1 F1 => ?_
  clear F
  walk_at "y"
  exact k _ (by assumption)
theorem dly_new {a : Cl} {H : Hp} {R : List Ent} {e dx : Addr} {u : Int} {Q : VK} {E : XK} (F : FH H ((e, Is (.ins a.c_Delay dx [])) :: R)) (hu : 1 ≤ u ∧ u ≤ 65535) (k : ∀ H', FH H' ((e, Is (.ins a.c_Delay dx (Bf u (2 * u) 4194304 0 false [("least", .int 0), ("latest", .int 0), ("samples", .int 0)]))) :: R) → Q .non H') :
    sp_Delay___init__ a [.ref e, .int u] H Q E := by
  refine in_Delay___init__ ?_
  repeat' walk_at "y 1"
  refine climb_init F (.inr (.inr rfl)) hu fun H1 F1 => ?_
  clear F
  walk_at "y"
  exact k _ (by assumption)
/-! the program's steps -/
theorem starting_ok {a : Cl} {H : Hp} {L : List Ent} {e C dx : Addr} {w t : Int} {v0 : V} {fs : List (Str × V)} {Q : VK} {E : XK} (F : FH H L) (m : (e, Is (.ins C dx (("unit", v0) :: ("window", .int w) :: ("threshold", .int t) :: fs))) ∈ L) (hC : C ∈ [a.c_Control, a.c_Fixed, a.c_Climb, a.c_Curve, a.c_Delay]) (k : Q (.bl (decide (w < t))) H) : sp_Control_starting a [.ref e] H Q E := by
  refine in_Control_starting ?_
  walk_at "y"
  exact k
theorem check_ok {a : Cl} {H : Hp} {n : Int} {Q : VK} {E : XK} (h : 1 ≤ n ∧ n ≤ 65535) (k : Q .non H) : sp_check_count a [.int n] H Q E := by
  refine in_check_count ?_
  walk_at "y"
  exact k
local macro_rules | `(tactic| walk_at "y spec") => `(tactic| first | ((with_reducible refine' check_ok ?h ?_); (case h => omega)) | ((with_reducible refine' starting_ok ?F ?m ?hC ?_); (case F => assumption); (case m => walk_at "y mem"); (case hC => walk_at "y mem")))
theorem climb_grow {a : Cl} {H : Hp} {R : List Ent} {e C dx : Addr} {u w tt x n : Int} {s : Bool} {t : V} {rest : List (Str × V)} {Q : VK} {E : XK} (hC : (C = a.c_Climb ∧ rest = []) ∨ (C = a.c_Curve ∧ ∃ v1 v2 v3 : V, rest = [(("peak" : Str), v1), ("span", v2), ("born", v3)])) (F : FH H ((e, Is (.ins C dx (Bf u w tt x s rest))) :: R)) (h : 1 ≤ n ∧ n ≤ 65535) (hu : 1 ≤ u ∧ u ≤ 65535) (hw : u ≤ w ∧ w ≤ 4194304) (hx : 0 ≤ x ∧ x < w)
    (k : ∀ w' x' H', GL .clb u w x n w' x' → FH H' ((e, Is (.ins C dx (Bf u w' tt x' s rest))) :: R) → Q .non H') : sp_Climb_grow a [.ref e, .int n, t] H Q E := by
  refine in_Climb_grow ?_
  rcases hC with ⟨rfl, rfl⟩ | ⟨rfl, v1, v2, v3, rfl⟩
  all_goals
    walk_at "y"
    rename_i H1 F1
    clear F
    refine whileG (fun m σ H => σ = [some (.ref e), some (.int n), some t] ∧ ∃ w1 x1, FH H ((e, Is (.ins _ dx (Bf u w1 tt x1 s _))) :: R) ∧ m = x1.toNat ∧ w ≤ w1 ∧ w1 ≤ 4194304 ∧ 0 ≤ x1 ∧ w1 + x1 ≤ w + x + n) _ ⟨rfl, _, _, F1, rfl, by omega, by omega, by omega, by omega⟩ ?_
    clear F1
    intro m σ H ⟨e1, w1, x1, F, em, h1, h2, h3, h4⟩
    subst e1
    walk_at "y"
    · refine ⟨_, ?_, rfl, _, _, by assumption, rfl, ?_, ?_, ?_, ?_⟩ <;> omega
    · refine k _ _ _ ?_ (by assumption)
      exact ⟨by omega, by omega, by omega, by omega, by omega, h1⟩
theorem pow_side {i : Int} (h : -9000000000000 ≤ i ∧ i ≤ 9000000000000) : CPow i 3 := ⟨by decide, by decide, by omega⟩
local macro_rules | `(tactic| walk_at "y side") => `(tactic| exact pow_side (by omega))
theorem curve_grow {a : Cl} {H : Hp} {R : List Ent} {e dx : Addr} {u w tt x n j : Int} {s : Bool} {ex : Ext} {Q : VK} {E : XK} (F : FH H ((e, Is (.ins a.c_Curve dx (Bf u w tt x s (Kd.F .crv ex)))) :: R)) (h : 1 ≤ n ∧ n ≤ 65535) (hu : 1 ≤ u ∧ u ≤ 65535) (hw : u ≤ w ∧ w ≤ 4194304) (hx : 0 ≤ x ∧ x < w) (he : ex.Ok j)
    (k : ∀ w' x' H', GL .crv u w x n w' x' → FH H' ((e, Is (.ins a.c_Curve dx (Bf u w' tt x' s (Kd.F .crv ex)))) :: R) → Q .non H') : sp_Curve_grow a [.ref e, .int n, .int j] H Q E := by
  obtain ⟨p, sp, b, ls, la, sn⟩ := ex
  have hn := he.n; have hb := he.b
  simp only [Kd.F] at F k hn hb
  refine in_Curve_grow ?_
  cases b with
  | none =>
    simp only [oV] at F k
    walk_at "y"
    refine climb_grow (.inr ⟨rfl, _, _, _, rfl⟩) F h hu hw hx fun w' x' H' g F' => ?_
    walk_at "y"
    exact k _ _ _ ⟨g.lo, g.hi, g.x0, g.x1, g.sum, g.gw⟩ F'
  | some i =>
    simp only [oV] at F k
    have hi := hb i rfl
    walk_at "y"
    refine k _ _ _ ?_ (by assumption)
    exact ⟨by omega, by omega, by omega, by omega, by omega, by show w ≤ _; omega⟩
theorem surplus_ok {a : Cl} {H : Hp} {L : List Ent} {e dx : Addr} {u w tt x ls la n : Int} {s : Bool} {Q : VK} {E : XK} (F : FH H L) (m : (e, Is (.ins a.c_Delay dx (Bf u w tt x s [("least", .int ls), ("latest", .int la), ("samples", .int n)]))) ∈ L) (hw : 1 ≤ w ∧ w ≤ 4194304) (hl : 0 ≤ ls ∧ ls ≤ la ∧ la ≤ 1000000000000)
    (k : ∀ z, 0 ≤ z ∧ z ≤ w → Q (.int z) H) : sp_Delay_surplus a [.ref e] H Q E := by
  refine in_Delay_surplus ?_
  walk_at "y"
  · exact k _ (by omega)
  · refine k _ ⟨Int.ediv_nonneg (Int.mul_nonneg (by omega) (by omega)) (by omega), ?_⟩
    refine Int.ediv_le_of_le_mul (by omega) (Int.mul_le_mul_of_nonneg_left (by omega) (by omega))
local macro_rules | `(tactic| walk_at "y spec") => `(tactic| ((with_reducible refine' surplus_ok ?F ?m ?hw ?hl ?_); (case F => assumption); (case m => walk_at "y mem"); (case hw => omega); (case hl => omega); intro _ _))
theorem delay_grow {a : Cl} {H : Hp} {R : List Ent} {e dx : Addr} {u w tt x n : Int} {s : Bool} {t : V} {ls la sn : Int} {Q : VK} {E : XK} (F : FH H ((e, Is (.ins a.c_Delay dx (Bf u w tt x s [("least", .int ls), ("latest", .int la), ("samples", .int sn)]))) :: R)) (h : 1 ≤ n ∧ n ≤ 65535) (hu : 1 ≤ u ∧ u ≤ 65535) (hw : u ≤ w ∧ w ≤ 4194304) (hx : 0 ≤ x ∧ x < w) (hl : 0 ≤ ls ∧ ls ≤ la ∧ la ≤ 1000000000000)
    (k : ∀ w' x' H', GL .dly u w x n w' x' → FH H' ((e, Is (.ins a.c_Delay dx (Bf u w' tt x' s [("least", .int ls), ("latest", .int la), ("samples", .int sn)]))) :: R) → Q .non H') : sp_Delay_grow a [.ref e, .int n, t] H Q E := by
  refine in_Delay_grow ?_
  walk_at "y"
  rename_i H1 F1
  clear F
  refine whileG (fun m σ H => (∃ y3, σ = [some (.ref e), some (.int n), some t, y3]) ∧ ∃ w1 x1, FH H ((e, Is (.ins a.c_Delay dx (Bf u w1 tt x1 s [("least", .int ls), ("latest", .int la), ("samples", .int sn)]))) :: R) ∧ m = x1.toNat ∧ u ≤ w1 ∧ min w (3 * u + 1) ≤ w1 ∧ w1 ≤ 4194304 ∧ 0 ≤ x1 ∧ w1 + x1 ≤ w + x + n) _ ⟨⟨_, rfl⟩, _, _, F1, rfl, by omega, by omega, by omega, by omega, by omega⟩ ?_
  clear F1
  intro m σ H ⟨⟨y3, e1⟩, w1, x1, F, em, h0, h1, h2, h3, h4⟩
  subst e1
  walk_at "y"
  · refine ⟨_, ?_, ⟨_, rfl⟩, _, _, by assumption, rfl, ?_, ?_, ?_, ?_, ?_⟩ <;> omega
  · refine ⟨_, ?_, ⟨_, rfl⟩, _, _, by assumption, rfl, ?_, ?_, ?_, ?_, ?_⟩ <;> omega
  · refine ⟨_, ?_, ⟨_, rfl⟩, _, _, by assumption, rfl, ?_, ?_, ?_, ?_, ?_⟩ <;> omega
  · refine k _ _ _ ?_ (by assumption)
    exact ⟨by omega, by omega, by omega, by omega, by omega, h1⟩

end
section
local macro_rules | `(tactic| walk_at "y spec") => `(tactic| first
  | ((with_reducible refine' draw_ok ?F ?m ?hn ?hn2 ?_); (case F => assumption); (case m => walk_at "y mem"); (case hn => first | omega | (dsimp only; omega) | exact Int.emod_nonneg _ (by omega) | exact Int.emod_lt_of_pos _ (by omega)); (case hn2 => first | omega | (dsimp only; omega) | exact Int.emod_nonneg _ (by omega) | exact Int.emod_lt_of_pos _ (by omega)); intro _ _ _ _ _)
  | ((with_reducible refine' box_ok ?F ?_); (case F => assumption); intro _ _ _)
  | ((with_reducible refine whole_ok ?_))
  | ((with_reducible refine range_ok ?_))
  | ((with_reducible refine' check_ok ?h ?_); (case h => first | omega | (dsimp only; omega) | exact Int.emod_nonneg _ (by omega) | exact Int.emod_lt_of_pos _ (by omega)))
  | ((with_reducible refine' starting_ok ?F ?m ?hC ?_); (case F => assumption); (case m => walk_at "y mem"); (case hC => walk_at "y mem")))

theorem g_ctl0 {a : Cl} {H : Hp} {R : List Ent} {e dx : Addr} {u w t x : Int} {s : Bool} {n j : Int} {Q : VK} {E : XK} (F : FH H ((e, Is (.ins a.c_Control dx (Bf u w t x s []))) :: R)) (hn : 1 ≤ n ∧ n ≤ 65535) (hu : 1 ≤ u ∧ u ≤ 65535) (hw : u ≤ w ∧ w ≤ 4194304) (hx : 0 ≤ x ∧ x < w) (k : ∀ w' x' H', GL .ctl u w x n w' x' → FH H' ((e, Is (.ins a.c_Control dx (Bf u w' t x' s []))) :: R) → Q .non H') : sp_Control_grow a [.ref e, .int n, .int j] H Q E := by
  refine in_Control_grow ?_
  walk_at "y"
  exact k w x _ ⟨hw.1, hw.2, hx.1, hx.2, by omega, ⟨rfl, rfl⟩⟩ F
theorem g_ctl {a : Cl} {H : Hp} {L R : List Ent} {e dx : Addr} {u w t x : Int} {s : Bool} {n j : Int} {Q : VK} {E : XK} (F : FH H L) (tk : Take (e, Is (.ins a.c_Control dx (Bf u w t x s []))) L R) (hn : 1 ≤ n ∧ n ≤ 65535) (hu : 1 ≤ u ∧ u ≤ 65535) (hw : u ≤ w ∧ w ≤ 4194304) (hx : 0 ≤ x ∧ x < w) (k : ∀ w' x' H', GL .ctl u w x n w' x' → FH H' ((e, Is (.ins a.c_Control dx (Bf u w' t x' s []))) :: R) → Q .non H') : sp_Control_grow a [.ref e, .int n, .int j] H Q E := by
  exact g_ctl0 (F.perm tk.perm) hn hu hw hx k
theorem g_fix0 {a : Cl} {H : Hp} {R : List Ent} {e dx : Addr} {u w t x : Int} {s : Bool} {n j : Int} {Q : VK} {E : XK} (F : FH H ((e, Is (.ins a.c_Fixed dx (Bf u w t x s []))) :: R)) (hn : 1 ≤ n ∧ n ≤ 65535) (hu : 1 ≤ u ∧ u ≤ 65535) (hw : u ≤ w ∧ w ≤ 4194304) (hx : 0 ≤ x ∧ x < w) (k : ∀ w' x' H', GL .fix u w x n w' x' → FH H' ((e, Is (.ins a.c_Fixed dx (Bf u w' t x' s []))) :: R) → Q .non H') : sp_Fixed_grow a [.ref e, .int n, .int j] H Q E := by
  refine in_Fixed_grow ?_
  walk_at "y"
  exact k w x _ ⟨hw.1, hw.2, hx.1, hx.2, by omega, ⟨rfl, rfl⟩⟩ F
theorem g_fix {a : Cl} {H : Hp} {L R : List Ent} {e dx : Addr} {u w t x : Int} {s : Bool} {n j : Int} {Q : VK} {E : XK} (F : FH H L) (tk : Take (e, Is (.ins a.c_Fixed dx (Bf u w t x s []))) L R) (hn : 1 ≤ n ∧ n ≤ 65535) (hu : 1 ≤ u ∧ u ≤ 65535) (hw : u ≤ w ∧ w ≤ 4194304) (hx : 0 ≤ x ∧ x < w) (k : ∀ w' x' H', GL .fix u w x n w' x' → FH H' ((e, Is (.ins a.c_Fixed dx (Bf u w' t x' s []))) :: R) → Q .non H') : sp_Fixed_grow a [.ref e, .int n, .int j] H Q E := by
  exact g_fix0 (F.perm tk.perm) hn hu hw hx k
theorem g_clb0 {a : Cl} {H : Hp} {R : List Ent} {e dx : Addr} {u w t x : Int} {s : Bool} {n j : Int} {Q : VK} {E : XK} (F : FH H ((e, Is (.ins a.c_Climb dx (Bf u w t x s []))) :: R)) (hn : 1 ≤ n ∧ n ≤ 65535) (hu : 1 ≤ u ∧ u ≤ 65535) (hw : u ≤ w ∧ w ≤ 4194304) (hx : 0 ≤ x ∧ x < w) (k : ∀ w' x' H', GL .clb u w x n w' x' → FH H' ((e, Is (.ins a.c_Climb dx (Bf u w' t x' s []))) :: R) → Q .non H') : sp_Climb_grow a [.ref e, .int n, .int j] H Q E := by
  exact climb_grow (.inl ⟨rfl, rfl⟩) F hn hu hw hx k
theorem g_clb {a : Cl} {H : Hp} {L R : List Ent} {e dx : Addr} {u w t x : Int} {s : Bool} {n j : Int} {Q : VK} {E : XK} (F : FH H L) (tk : Take (e, Is (.ins a.c_Climb dx (Bf u w t x s []))) L R) (hn : 1 ≤ n ∧ n ≤ 65535) (hu : 1 ≤ u ∧ u ≤ 65535) (hw : u ≤ w ∧ w ≤ 4194304) (hx : 0 ≤ x ∧ x < w) (k : ∀ w' x' H', GL .clb u w x n w' x' → FH H' ((e, Is (.ins a.c_Climb dx (Bf u w' t x' s []))) :: R) → Q .non H') : sp_Climb_grow a [.ref e, .int n, .int j] H Q E := by
  exact g_clb0 (F.perm tk.perm) hn hu hw hx k
theorem g_crv0 {a : Cl} {H : Hp} {R : List Ent} {e dx : Addr} {u w t x : Int} {s : Bool} {p m : Int} {b : Option Int} {n j : Int} {Q : VK} {E : XK} (F : FH H ((e, Is (.ins a.c_Curve dx (Bf u w t x s [("peak", .int p), ("span", .int m), ("born", oV b)]))) :: R)) (hn : 1 ≤ n ∧ n ≤ 65535) (hu : 1 ≤ u ∧ u ≤ 65535) (hw : u ≤ w ∧ w ≤ 4194304) (hx : 0 ≤ x ∧ x < w) (he : Ext.Ok ⟨p, m, b, 0, 0, 0⟩ j) (k : ∀ w' x' H', GL .crv u w x n w' x' → FH H' ((e, Is (.ins a.c_Curve dx (Bf u w' t x' s [("peak", .int p), ("span", .int m), ("born", oV b)]))) :: R) → Q .non H') : sp_Curve_grow a [.ref e, .int n, .int j] H Q E := by
  exact curve_grow (ex := ⟨p, m, b, 0, 0, 0⟩) F hn hu hw hx he k
theorem g_crv {a : Cl} {H : Hp} {L R : List Ent} {e dx : Addr} {u w t x : Int} {s : Bool} {p m : Int} {b : Option Int} {n j : Int} {Q : VK} {E : XK} (F : FH H L) (tk : Take (e, Is (.ins a.c_Curve dx (Bf u w t x s [("peak", .int p), ("span", .int m), ("born", oV b)]))) L R) (hn : 1 ≤ n ∧ n ≤ 65535) (hu : 1 ≤ u ∧ u ≤ 65535) (hw : u ≤ w ∧ w ≤ 4194304) (hx : 0 ≤ x ∧ x < w) (he : Ext.Ok ⟨p, m, b, 0, 0, 0⟩ j) (k : ∀ w' x' H', GL .crv u w x n w' x' → FH H' ((e, Is (.ins a.c_Curve dx (Bf u w' t x' s [("peak", .int p), ("span", .int m), ("born", oV b)]))) :: R) → Q .non H') : sp_Curve_grow a [.ref e, .int n, .int j] H Q E := by
  exact g_crv0 (F.perm tk.perm) hn hu hw hx he k
theorem g_dly0 {a : Cl} {H : Hp} {R : List Ent} {e dx : Addr} {u w t x : Int} {s : Bool} {ls la sn : Int} {n j : Int} {Q : VK} {E : XK} (F : FH H ((e, Is (.ins a.c_Delay dx (Bf u w t x s [("least", .int ls), ("latest", .int la), ("samples", .int sn)]))) :: R)) (hn : 1 ≤ n ∧ n ≤ 65535) (hu : 1 ≤ u ∧ u ≤ 65535) (hw : u ≤ w ∧ w ≤ 4194304) (hx : 0 ≤ x ∧ x < w) (hl : 0 ≤ ls ∧ ls ≤ la ∧ la ≤ 1000000000000) (k : ∀ w' x' H', GL .dly u w x n w' x' → FH H' ((e, Is (.ins a.c_Delay dx (Bf u w' t x' s [("least", .int ls), ("latest", .int la), ("samples", .int sn)]))) :: R) → Q .non H') : sp_Delay_grow a [.ref e, .int n, .int j] H Q E := by
  exact delay_grow F hn hu hw hx hl k
theorem g_dly {a : Cl} {H : Hp} {L R : List Ent} {e dx : Addr} {u w t x : Int} {s : Bool} {ls la sn : Int} {n j : Int} {Q : VK} {E : XK} (F : FH H L) (tk : Take (e, Is (.ins a.c_Delay dx (Bf u w t x s [("least", .int ls), ("latest", .int la), ("samples", .int sn)]))) L R) (hn : 1 ≤ n ∧ n ≤ 65535) (hu : 1 ≤ u ∧ u ≤ 65535) (hw : u ≤ w ∧ w ≤ 4194304) (hx : 0 ≤ x ∧ x < w) (hl : 0 ≤ ls ∧ ls ≤ la ∧ la ≤ 1000000000000) (k : ∀ w' x' H', GL .dly u w x n w' x' → FH H' ((e, Is (.ins a.c_Delay dx (Bf u w' t x' s [("least", .int ls), ("latest", .int la), ("samples", .int sn)]))) :: R) → Q .non H') : sp_Delay_grow a [.ref e, .int n, .int j] H Q E := by
  exact g_dly0 (F.perm tk.perm) hn hu hw hx hl k
local macro_rules | `(tactic| walk_at "y spec") => `(tactic| first | ((with_reducible refine' check_ok ?h ?_); (case h => omega)) | ((with_reducible refine' starting_ok ?F ?m ?hC ?_); (case F => assumption); (case m => walk_at "y mem"); (case hC => walk_at "y mem")))
theorem a_ctl0 {a : Cl} {H : Hp} {R : List Ent} {e dx : Addr} {u w t x : Int} {s : Bool} {n f j : Int} {Q : VK} {E : XK} (F : FH H ((e, Is (.ins a.c_Control dx (Bf u w t x s []))) :: R)) (hn : 1 ≤ n ∧ n ≤ 65535) (hu : 1 ≤ u ∧ u ≤ 65535) (hw : u ≤ w ∧ w ≤ 4194304) (hx : 0 ≤ x ∧ x < w) (k : ∀ w' x' H', AL .ctl u w t x n f w' x' → FH H' ((e, Is (.ins a.c_Control dx (Bf u w' t x' false []))) :: R) → Q .non H') : sp_Control_on_ack a [.ref e, .int n, .int f, .int j] H Q E := by
  refine in_Control_on_ack ?_
  walk_at "y"
  · exact k w x _ (.same (.inr (by assumption))) (by assumption)
  · exact k _ x _ (.quick (by simp) (by assumption) (by assumption)) (by assumption)
  · rename_i h1 h2
    refine g_ctl0 (by assumption) hn hu hw hx fun w' x' H' g F' => ?_
    walk_at "y"
    exact k w' x' _ (.slow (by simp) h1 h2 g) F'
theorem a_ctl {a : Cl} {H : Hp} {L R : List Ent} {e dx : Addr} {u w t x : Int} {s : Bool} {n f j : Int} {Q : VK} {E : XK} (F : FH H L) (tk : Take (e, Is (.ins a.c_Control dx (Bf u w t x s []))) L R) (hn : 1 ≤ n ∧ n ≤ 65535) (hu : 1 ≤ u ∧ u ≤ 65535) (hw : u ≤ w ∧ w ≤ 4194304) (hx : 0 ≤ x ∧ x < w) (k : ∀ w' x' H', AL .ctl u w t x n f w' x' → FH H' ((e, Is (.ins a.c_Control dx (Bf u w' t x' false []))) :: R) → Q .non H') : sp_Control_on_ack a [.ref e, .int n, .int f, .int j] H Q E := by
  have F := F.perm tk.perm
  refine a_ctl0 F hn hu hw hx fun w' x' H' g F' => ?_
  exact k w' x' _ g F'
theorem a_fix {a : Cl} {H : Hp} {L R : List Ent} {e dx : Addr} {u w t x : Int} {s : Bool} {n f j : Int} {Q : VK} {E : XK} (F : FH H L) (tk : Take (e, Is (.ins a.c_Fixed dx (Bf u w t x s []))) L R) (hn : 1 ≤ n ∧ n ≤ 65535) (hu : 1 ≤ u ∧ u ≤ 65535) (hw : u ≤ w ∧ w ≤ 4194304) (hx : 0 ≤ x ∧ x < w) (k : ∀ w' x' H', AL .fix u w t x n f w' x' → FH H' ((e, Is (.ins a.c_Fixed dx (Bf u w' t x' false []))) :: R) → Q .non H') : sp_Fixed_on_ack a [.ref e, .int n, .int f, .int j] H Q E := by
  have F := F.perm tk.perm
  refine in_Fixed_on_ack ?_
  walk_at "y"
  exact k w x _ (.same (.inl rfl)) (by assumption)
theorem a_clb0 {a : Cl} {H : Hp} {R : List Ent} {e dx : Addr} {u w t x : Int} {s : Bool} {n f j : Int} {Q : VK} {E : XK} (F : FH H ((e, Is (.ins a.c_Climb dx (Bf u w t x s []))) :: R)) (hn : 1 ≤ n ∧ n ≤ 65535) (hu : 1 ≤ u ∧ u ≤ 65535) (hw : u ≤ w ∧ w ≤ 4194304) (hx : 0 ≤ x ∧ x < w) (k : ∀ w' x' H', AL .clb u w t x n f w' x' → FH H' ((e, Is (.ins a.c_Climb dx (Bf u w' t x' false []))) :: R) → Q .non H') : sp_Control_on_ack a [.ref e, .int n, .int f, .int j] H Q E := by
  refine in_Control_on_ack ?_
  walk_at "y"
  · exact k w x _ (.same (.inr (by assumption))) (by assumption)
  · exact k _ x _ (.quick (by simp) (by assumption) (by assumption)) (by assumption)
  · rename_i h1 h2
    refine g_clb0 (by assumption) hn hu hw hx fun w' x' H' g F' => ?_
    walk_at "y"
    exact k w' x' _ (.slow (by simp) h1 h2 g) F'
theorem a_clb {a : Cl} {H : Hp} {L R : List Ent} {e dx : Addr} {u w t x : Int} {s : Bool} {n f j : Int} {Q : VK} {E : XK} (F : FH H L) (tk : Take (e, Is (.ins a.c_Climb dx (Bf u w t x s []))) L R) (hn : 1 ≤ n ∧ n ≤ 65535) (hu : 1 ≤ u ∧ u ≤ 65535) (hw : u ≤ w ∧ w ≤ 4194304) (hx : 0 ≤ x ∧ x < w) (k : ∀ w' x' H', AL .clb u w t x n f w' x' → FH H' ((e, Is (.ins a.c_Climb dx (Bf u w' t x' false []))) :: R) → Q .non H') : sp_Climb_on_ack a [.ref e, .int n, .int f, .int j] H Q E := by
  have F := F.perm tk.perm
  refine in_Climb_on_ack ?_
  walk_at "y"
  refine a_clb0 F hn hu hw hx fun w' x' H' g F' => ?_
  walk_at "y"
  exact k w' x' _ g F'
theorem a_crv0 {a : Cl} {H : Hp} {R : List Ent} {e dx : Addr} {u w t x : Int} {s : Bool} {p m : Int} {b : Option Int} {n f j : Int} {Q : VK} {E : XK} (F : FH H ((e, Is (.ins a.c_Curve dx (Bf u w t x s [("peak", .int p), ("span", .int m), ("born", oV b)]))) :: R)) (hn : 1 ≤ n ∧ n ≤ 65535) (hu : 1 ≤ u ∧ u ≤ 65535) (hw : u ≤ w ∧ w ≤ 4194304) (hx : 0 ≤ x ∧ x < w) (he : Ext.Ok ⟨p, m, b, 0, 0, 0⟩ j) (k : ∀ w' x' H', AL .crv u w t x n f w' x' → FH H' ((e, Is (.ins a.c_Curve dx (Bf u w' t x' false [("peak", .int p), ("span", .int m), ("born", oV b)]))) :: R) → Q .non H') : sp_Control_on_ack a [.ref e, .int n, .int f, .int j] H Q E := by
  refine in_Control_on_ack ?_
  walk_at "y"
  · exact k w x _ (.same (.inr (by assumption))) (by assumption)
  · exact k _ x _ (.quick (by simp) (by assumption) (by assumption)) (by assumption)
  · rename_i h1 h2
    refine g_crv0 (by assumption) hn hu hw hx he fun w' x' H' g F' => ?_
    walk_at "y"
    exact k w' x' _ (.slow (by simp) h1 h2 g) F'
theorem a_crv {a : Cl} {H : Hp} {L R : List Ent} {e dx : Addr} {u w t x : Int} {s : Bool} {p m : Int} {b : Option Int} {n f j : Int} {Q : VK} {E : XK} (F : FH H L) (tk : Take (e, Is (.ins a.c_Curve dx (Bf u w t x s [("peak", .int p), ("span", .int m), ("born", oV b)]))) L R) (hn : 1 ≤ n ∧ n ≤ 65535) (hu : 1 ≤ u ∧ u ≤ 65535) (hw : u ≤ w ∧ w ≤ 4194304) (hx : 0 ≤ x ∧ x < w) (he : Ext.Ok ⟨p, m, b, 0, 0, 0⟩ j) (k : ∀ w' x' H', AL .crv u w t x n f w' x' → FH H' ((e, Is (.ins a.c_Curve dx (Bf u w' t x' false [("peak", .int p), ("span", .int m), ("born", oV b)]))) :: R) → Q .non H') : sp_Curve_on_ack a [.ref e, .int n, .int f, .int j] H Q E := by
  have F := F.perm tk.perm
  refine in_Curve_on_ack ?_
  walk_at "y"
  refine in_Climb_on_ack ?_
  walk_at "y"
  refine a_crv0 F hn hu hw hx he fun w' x' H' g F' => ?_
  walk_at "y"
  exact k w' x' _ g F'
theorem a_dly0 {a : Cl} {H : Hp} {R : List Ent} {e dx : Addr} {u w t x : Int} {s : Bool} {ls la sn : Int} {n f j : Int} {Q : VK} {E : XK} (F : FH H ((e, Is (.ins a.c_Delay dx (Bf u w t x s [("least", .int ls), ("latest", .int la), ("samples", .int sn)]))) :: R)) (hn : 1 ≤ n ∧ n ≤ 65535) (hu : 1 ≤ u ∧ u ≤ 65535) (hw : u ≤ w ∧ w ≤ 4194304) (hx : 0 ≤ x ∧ x < w) (hl : 0 ≤ ls ∧ ls ≤ la ∧ la ≤ 1000000000000) (k : ∀ w' x' H', AL .dly u w t x n f w' x' → FH H' ((e, Is (.ins a.c_Delay dx (Bf u w' t x' false [("least", .int ls), ("latest", .int la), ("samples", .int sn)]))) :: R) → Q .non H') : sp_Control_on_ack a [.ref e, .int n, .int f, .int j] H Q E := by
  refine in_Control_on_ack ?_
  walk_at "y"
  · exact k w x _ (.same (.inr (by assumption))) (by assumption)
  · exact k _ x _ (.quick (by simp) (by assumption) (by assumption)) (by assumption)
  · rename_i h1 h2
    refine g_dly0 (by assumption) hn hu hw hx hl fun w' x' H' g F' => ?_
    walk_at "y"
    exact k w' x' _ (.slow (by simp) h1 h2 g) F'
theorem a_dly {a : Cl} {H : Hp} {L R : List Ent} {e dx : Addr} {u w t x : Int} {s : Bool} {ls la sn : Int} {n f j : Int} {Q : VK} {E : XK} (F : FH H L) (tk : Take (e, Is (.ins a.c_Delay dx (Bf u w t x s [("least", .int ls), ("latest", .int la), ("samples", .int sn)]))) L R) (hn : 1 ≤ n ∧ n ≤ 65535) (hu : 1 ≤ u ∧ u ≤ 65535) (hw : u ≤ w ∧ w ≤ 4194304) (hx : 0 ≤ x ∧ x < w) (hl : 0 ≤ ls ∧ ls ≤ la ∧ la ≤ 1000000000000) (k : ∀ w' x' H', AL .dly u w t x n f w' x' → FH H' ((e, Is (.ins a.c_Delay dx (Bf u w' t x' false [("least", .int ls), ("latest", .int la), ("samples", .int sn)]))) :: R) → Q .non H') : sp_Delay_on_ack a [.ref e, .int n, .int f, .int j] H Q E := by
  have F := F.perm tk.perm
  refine in_Delay_on_ack ?_
  walk_at "y"
  refine in_Climb_on_ack ?_
  walk_at "y"
  refine a_dly0 F hn hu hw hx hl fun w' x' H' g F' => ?_
  walk_at "y"
  exact k w' x' _ g F'
theorem l_ctl {a : Cl} {H : Hp} {L R : List Ent} {e dx : Addr} {u w t x : Int} {s : Bool} {f : Int} {j : V} {Q : VK} {E : XK} (F : FH H L) (tk : Take (e, Is (.ins a.c_Control dx (Bf u w t x s []))) L R) (k : ∀ H', FH H' ((e, Is (.ins a.c_Control dx (Bf u (min 4194304 (max (f / 2) (2 * u))) (max (f / 2) (2 * u)) 0 s []))) :: R) → Q .non H') : sp_Control_on_loss a [.ref e, .int f, j] H Q E := by
  have F := F.perm tk.perm
  refine in_Control_on_loss ?_
  walk_at "y"
  exact k _ (by assumption)
theorem l_fix {a : Cl} {H : Hp} {e f t : V} {Q : VK} {E : XK} (k : Q .non H) : sp_Fixed_on_loss a [e, f, t] H Q E := by
  refine in_Fixed_on_loss ?_
  walk_at "y"
  exact k
theorem l_clb {a : Cl} {H : Hp} {L R : List Ent} {e dx : Addr} {u w t x : Int} {s : Bool} {f : Int} {j : V} {Q : VK} {E : XK} (F : FH H L) (tk : Take (e, Is (.ins a.c_Climb dx (Bf u w t x s []))) L R) (k : ∀ H', FH H' ((e, Is (.ins a.c_Climb dx (Bf u (min 4194304 (max (f / 2) (2 * u))) (max (f / 2) (2 * u)) 0 s []))) :: R) → Q .non H') : sp_Climb_on_loss a [.ref e, .int f, j] H Q E := by
  have F := F.perm tk.perm
  refine in_Climb_on_loss ?_
  walk_at "y"
  refine in_Control_on_loss ?_
  walk_at "y"
  exact k _ (by assumption)
theorem l_dly {a : Cl} {H : Hp} {L R : List Ent} {e dx : Addr} {u w t x : Int} {s : Bool} {ls la sn : Int} {f : Int} {j : V} {Q : VK} {E : XK} (F : FH H L) (tk : Take (e, Is (.ins a.c_Delay dx (Bf u w t x s [("least", .int ls), ("latest", .int la), ("samples", .int sn)]))) L R) (k : ∀ H', FH H' ((e, Is (.ins a.c_Delay dx (Bf u (min 4194304 (max (f / 2) (2 * u))) (max (f / 2) (2 * u)) 0 s [("least", .int ls), ("latest", .int la), ("samples", .int sn)]))) :: R) → Q .non H') : sp_Delay_on_loss a [.ref e, .int f, j] H Q E := by
  have F := F.perm tk.perm
  refine in_Delay_on_loss ?_
  walk_at "y"
  refine in_Climb_on_loss ?_
  walk_at "y"
  refine in_Control_on_loss ?_
  walk_at "y"
  exact k _ (by assumption)
theorem e_ctl {a : Cl} {H : Hp} {L R : List Ent} {e dx : Addr} {u w t x : Int} {s : Bool} {f : Int} {j : V} {Q : VK} {E : XK} (F : FH H L) (tk : Take (e, Is (.ins a.c_Control dx (Bf u w t x s []))) L R) (k : ∀ H', FH H' ((e, Is (.ins a.c_Control dx (Bf u u (if s = true then t else max (f / 2) (2 * u)) 0 true []))) :: R) → Q .non H') : sp_Control_on_expiry a [.ref e, .int f, j] H Q E := by
  have F := F.perm tk.perm
  cases s
  all_goals
    refine in_Control_on_expiry ?_
    walk_at "y"
    exact k _ (by assumption)
theorem e_fix {a : Cl} {H : Hp} {L R : List Ent} {e dx : Addr} {u w t x : Int} {s : Bool} {f j : V} {Q : VK} {E : XK} (F : FH H L) (tk : Take (e, Is (.ins a.c_Fixed dx (Bf u w t x s []))) L R) (k : ∀ H', FH H' ((e, Is (.ins a.c_Fixed dx (Bf u w t x true []))) :: R) → Q .non H') : sp_Fixed_on_expiry a [.ref e, f, j] H Q E := by
  have F := F.perm tk.perm
  refine in_Fixed_on_expiry ?_
  walk_at "y"
  exact k _ (by assumption)
theorem e_clb {a : Cl} {H : Hp} {L R : List Ent} {e dx : Addr} {u w t x : Int} {s : Bool} {f : Int} {j : V} {Q : VK} {E : XK} (F : FH H L) (tk : Take (e, Is (.ins a.c_Climb dx (Bf u w t x s []))) L R) (k : ∀ H', FH H' ((e, Is (.ins a.c_Climb dx (Bf u u (if s = true then t else max (f / 2) (2 * u)) 0 true []))) :: R) → Q .non H') : sp_Climb_on_expiry a [.ref e, .int f, j] H Q E := by
  have F := F.perm tk.perm
  cases s
  all_goals
    refine in_Climb_on_expiry ?_
    walk_at "y"
    refine in_Control_on_expiry ?_
    walk_at "y"
    exact k _ (by assumption)
theorem e_crv {a : Cl} {H : Hp} {L R : List Ent} {e dx : Addr} {u w t x : Int} {s : Bool} {p m : Int} {b : Option Int} {f : Int} {j : V} {Q : VK} {E : XK} (F : FH H L) (tk : Take (e, Is (.ins a.c_Curve dx (Bf u w t x s [("peak", .int p), ("span", .int m), ("born", oV b)]))) L R) (k : ∀ H', FH H' ((e, Is (.ins a.c_Curve dx (Bf u u (if s = true then t else max (f / 2) (2 * u)) 0 true [("peak", .int w), ("span", .int m), ("born", .non)]))) :: R) → Q .non H') : sp_Curve_on_expiry a [.ref e, .int f, j] H Q E := by
  have F := F.perm tk.perm
  cases s
  all_goals
    refine in_Curve_on_expiry ?_
    walk_at "y"
    refine in_Climb_on_expiry ?_
    walk_at "y"
    refine in_Control_on_expiry ?_
    walk_at "y"
    exact k _ (by assumption)
theorem e_dly {a : Cl} {H : Hp} {L R : List Ent} {e dx : Addr} {u w t x : Int} {s : Bool} {ls la sn : Int} {f : Int} {j : V} {Q : VK} {E : XK} (F : FH H L) (tk : Take (e, Is (.ins a.c_Delay dx (Bf u w t x s [("least", .int ls), ("latest", .int la), ("samples", .int sn)]))) L R) (k : ∀ H', FH H' ((e, Is (.ins a.c_Delay dx (Bf u u (if s = true then t else max (f / 2) (2 * u)) 0 true [("least", .int ls), ("latest", .int la), ("samples", .int sn)]))) :: R) → Q .non H') : sp_Delay_on_expiry a [.ref e, .int f, j] H Q E := by
  have F := F.perm tk.perm
  cases s
  all_goals
    refine in_Delay_on_expiry ?_
    walk_at "y"
    refine in_Climb_on_expiry ?_
    walk_at "y"
    refine in_Control_on_expiry ?_
    walk_at "y"
    exact k _ (by assumption)
theorem s_ctl {a : Cl} {H : Hp} {e f : V} {Q : VK} {E : XK} (k : Q .non H) : sp_Control_on_sample a [e, f] H Q E := by
  refine in_Control_on_sample ?_
  walk_at "y"
  exact k
theorem s_fix {a : Cl} {H : Hp} {e f : V} {Q : VK} {E : XK} (k : Q .non H) : sp_Fixed_on_sample a [e, f] H Q E := by
  refine in_Fixed_on_sample ?_
  walk_at "y"
  exact k
theorem s_clb {a : Cl} {H : Hp} {L : List Ent} {e dx : Addr} {fs : List (Str × V)} {f : V} {Q : VK} {E : XK} (F : FH H L) (m : (e, Is (.ins a.c_Climb dx fs)) ∈ L) (k : Q .non H) : sp_Climb_on_sample a [.ref e, f] H Q E := by
  refine in_Climb_on_sample ?_
  walk_at "y"
  refine in_Control_on_sample ?_
  walk_at "y"
  exact k
theorem s_crv {a : Cl} {H : Hp} {L : List Ent} {e dx : Addr} {fs : List (Str × V)} {f : V} {Q : VK} {E : XK} (F : FH H L) (m : (e, Is (.ins a.c_Curve dx fs)) ∈ L) (k : Q .non H) : sp_Curve_on_sample a [.ref e, f] H Q E := by
  refine in_Curve_on_sample ?_
  walk_at "y"
  refine in_Climb_on_sample ?_
  walk_at "y"
  refine in_Control_on_sample ?_
  walk_at "y"
  exact k
theorem s_dly {a : Cl} {H : Hp} {L R : List Ent} {e dx : Addr} {u w t x : Int} {s : Bool} {ls la sn : Int} {f : Int} {Q : VK} {E : XK} (F : FH H L) (tk : Take (e, Is (.ins a.c_Delay dx (Bf u w t x s [("least", .int ls), ("latest", .int la), ("samples", .int sn)]))) L R) (hl : 0 ≤ ls ∧ ls ≤ la ∧ la ≤ 1000000000000) (hf : 0 ≤ f) (k : ∀ ls' sn' H', (0 ≤ ls' ∧ ls' ≤ f) → FH H' ((e, Is (.ins a.c_Delay dx (Bf u w t x s [("least", .int ls'), ("latest", .int f), ("samples", .int sn')]))) :: R) → Q .non H') : sp_Delay_on_sample a [.ref e, .int f] H Q E := by
  have F := F.perm tk.perm
  refine in_Delay_on_sample ?_
  walk_at "y"
  all_goals
    refine k _ _ _ ?_ (by assumption)
    omega
/-! the span of a curve -/
theorem cube (s : Int) : s ^ 3 = s * s * s := by rw [Int.pow_succ, Int.pow_succ, Int.pow_succ, Int.pow_zero, Int.one_mul]
theorem cube_ge {u s : Int} (hu : 1 ≤ u) (hs : 0 ≤ s) : s ≤ u * s ^ 3 := by
  rw [cube]
  have h1 : s ≤ s * s * s := by
    rcases (by omega : s = 0 ∨ 1 ≤ s) with rfl | h
    · decide
    · have a1 : 1 * s ≤ s * s := Int.mul_le_mul_of_nonneg_right h hs
      have a2 : s * s * 1 ≤ s * s * s := Int.mul_le_mul_of_nonneg_left h (by omega)
      omega
  have h2 : 1 * (s * s * s) ≤ u * (s * s * s) := Int.mul_le_mul_of_nonneg_right hu (by omega)
  omega
structure IsSpan (u d n : Int) : Prop where
  p : 0 ≤ n
  b : 64 * d ≤ u * n ^ 3
  l : ∀ j, 0 ≤ j → j < n → u * j ^ 3 < 64 * d
theorem span_aux {u d : Int} (hu : 1 ≤ u) : ∀ (fuel : Nat) (s : Int), 0 ≤ s → (∀ j, 0 ≤ j → j < s → u * j ^ 3 < 64 * d) → 64 * d - s ≤ fuel → ∃ n, IsSpan u d n ∧ n ≤ max s (64 * d)
  | 0, s, h0, hl, hf => ⟨s, ⟨h0, by have := cube_ge hu h0; omega, hl⟩, by omega⟩
  | f + 1, s, h0, hl, hf => by
    by_cases h : 64 * d ≤ u * s ^ 3
    · exact ⟨s, ⟨h0, h, hl⟩, by omega⟩
    · have hs := cube_ge hu h0
      obtain ⟨n, hn, hb⟩ := span_aux hu f (s + 1) (by omega) (fun j j0 j1 => by
        rcases (by omega : j < s ∨ j = s) with z | rfl
        · exact hl j j0 z
        · omega) (by omega)
      exact ⟨n, hn, by omega⟩
theorem IsSpan.ex {u d : Int} (hu : 1 ≤ u) (hd : d ≤ 4194304) : ∃ n, IsSpan u d n ∧ n ≤ 268435456 := by
  obtain ⟨n, hn, hb⟩ := span_aux (d := d) hu (64 * d).toNat 0 (Int.le_refl _) (fun j j0 j1 => by omega) (by omega)
  exact ⟨n, hn, by omega⟩
local macro_rules | `(tactic| walk_at "y side") => `(tactic| exact pow_side (by omega))
theorem span_ok {a : Cl} {H : Hp} {u d n : Int} {Q : VK} {E : XK} (hu : 1 ≤ u ∧ u ≤ 65535) (S : IsSpan u d n) (hn : n ≤ 268435456) (k : Q (.int n) H) : sp_curve_span a [.int u, .int d] H Q E := by
  refine in_curve_span ?_
  walk_at "y"
  have hp := S.p
  refine whileG (fun m σ H' => ∃ s, σ = [some (.int u), some (.int d), some (.int s)] ∧ H' = H ∧ 0 ≤ s ∧ s ≤ n ∧ m = (n - s).toNat) _ ⟨0, rfl, rfl, Int.le_refl _, hp, rfl⟩ ?_
  intro m σ H' ⟨s, e1, e2, h0, h1, em⟩
  subst e1 e2
  walk_at "y"
  · rename_i hc
    have hc' : u * s ^ 3 < 64 * d := hc
    have hb := S.b
    have hne : s ≠ n := by
      intro e
      subst e
      omega
    exact ⟨_, by omega, s + 1, rfl, rfl, by omega, by omega, rfl⟩
  · rename_i hc
    have hc' : ¬ u * s ^ 3 < 64 * d := hc
    have e : s = n := by
      rcases (by omega : s < n ∨ s = n) with z | z
      · exact absurd (S.l s h0 z) hc'
      · exact z
    rw [e]
    exact k
theorem spany {a : Cl} {H : Hp} {u d : Int} {Q : VK} {E : XK} (hu : 1 ≤ u ∧ u ≤ 65535) (hd : d ≤ 4194304) (k : ∀ n, 0 ≤ n ∧ n ≤ 268435456 → Q (.int n) H) : sp_curve_span a [.int u, .int d] H Q E := by
  obtain ⟨n, S, hn⟩ := IsSpan.ex (u := u) (d := d) hu.1 hd
  exact span_ok hu S hn (k n ⟨S.p, hn⟩)
local macro_rules | `(tactic| walk_at "y spec") => `(tactic| ((with_reducible refine' spany ?hu ?hd ?_); (case hu => omega); (case hd => omega); intro _ _))
theorem l_crv {a : Cl} {H : Hp} {L R : List Ent} {e dx : Addr} {u w t x : Int} {s : Bool} {p m : Int} {b : Option Int} {f : V} {j : Int} {Q : VK} {E : XK} (F : FH H L) (tk : Take (e, Is (.ins a.c_Curve dx (Bf u w t x s [("peak", .int p), ("span", .int m), ("born", oV b)]))) L R) (hu : 1 ≤ u ∧ u ≤ 65535) (hw : u ≤ w ∧ w ≤ 4194304) (k : ∀ n H', 0 ≤ n ∧ n ≤ 268435456 → FH H' ((e, Is (.ins a.c_Curve dx (Bf u (max (w * 7 / 10) (2 * u)) (max (w * 7 / 10) (2 * u)) 0 s [("peak", .int w), ("span", .int n), ("born", .int j)]))) :: R) → Q .non H') : sp_Curve_on_loss a [.ref e, f, .int j] H Q E := by
  have F := F.perm tk.perm
  refine in_Curve_on_loss ?_
  walk_at "y"
  exact k _ _ (by omega) (by assumption)

end
section
/-! values that are refused -/
def OddS (v : V) : Prop := v = .non ∨ (∃ b, v = .bl b) ∨ ∃ s, v = .str s
def OddO (o : HO) : Prop := (∃ xs, o = .tup xs ∧ xs.all flatOk = true ∧ eqvF xs xs = true) ∨ ∃ xs, o = .lst xs ∧ xs.all flatOk = true ∧ eqvF xs xs = true
/-- a value that is no integer, or an integer with P; the objects in R -/
inductive Bad (P : Int → Prop) (R : List Ent) : V → Prop
  | int (i : Int) (h : P i) : Bad P R (.int i)
  | non : Bad P R .non
  | bl (b : Bool) : Bad P R (.bl b)
  | str (s : Str) : Bad P R (.str s)
  | tup (q : Addr) (xs : List V) (m : (q, Is (.tup xs)) ∈ R) (f : xs.all flatOk = true) (e : eqvF xs xs = true) : Bad P R (.ref q)
  | lst (q : Addr) (xs : List V) (m : (q, Is (.lst xs)) ∈ R) (f : xs.all flatOk = true) (e : eqvF xs xs = true) : Bad P R (.ref q)
theorem Bad.sub {P P' : Int → Prop} {R R' : List Ent} {v : V} (b : Bad P R v) (hp : ∀ i, P i → P' i) (hr : ∀ x ∈ R, x ∈ R') : Bad P' R' v := by
  cases b with
  | int i h => exact .int i (hp i h)
  | non => exact .non
  | bl b => exact .bl b
  | str s => exact .str s
  | tup q xs m f e => exact .tup q xs (hr _ m) f e
  | lst q xs m f e => exact .lst q xs (hr _ m) f e
theorem OddS.bad {P : Int → Prop} {R : List Ent} {v : V} (h : OddS v) : Bad P R v := by
  rcases h with rfl | ⟨b, rfl⟩ | ⟨s, rfl⟩
  · exact .non
  · exact .bl b
  · exact .str s
theorem OddO.bad {P : Int → Prop} {R : List Ent} {q : Addr} {o : HO} (h : OddO o) (m : (q, Is o) ∈ R) : Bad P R (.ref q) := by
  rcases h with ⟨xs, rfl, f, e⟩ | ⟨xs, rfl, f, e⟩
  · exact .tup q xs m f e
  · exact .lst q xs m f e
local macro_rules | `(tactic| walk_at "y bad") => `(tactic| first | assumption | (refine Bad.sub (by assumption) (fun _ h => h) ?_; intro x m; walk_at "y mem"))
local macro_rules | `(tactic| walk_at "y spec") => `(tactic| fail "spec")
theorem whole_bad {a : Cl} {H : Hp} {L : List Ent} {v : V} {P : Int → Prop} {Q : VK} {E : XK} (F : FH H L) (b : Bad P L v) (k0 : ∀ i, v = .int i → P i → Q (.bl true) H) (k1 : Q (.bl false) H) : sp_is_whole a [v] H Q E := by
  refine in_is_whole ?_
  cases b with
  | int i h =>
    walk_at "y"
    exact k0 i rfl h
  | _ =>
    walk_at "y"
    exact k1
local macro_rules | `(tactic| walk_at "y spec") => `(tactic| first | (with_reducible refine whole_ok ?_) | ((with_reducible refine' whole_bad ?F ?b ?k0 ?k1); (case F => assumption); (case b => walk_at "y bad"); (all_goals intros)))
theorem range_bad {a : Cl} {H : Hp} {L : List Ent} {v : V} {l h : Int} {Q : VK} {E : XK} (F : FH H L) (b : Bad (fun i => i < l ∨ h < i) L v) (k : Q (.bl false) H) : sp_in_range a [v, .int l, .int h] H Q E := by
  cases b with
  | int i hi =>
    refine range_ok ?_
    rw [decide_eq_false (by omega)]
    exact k
  | _ =>
    refine in_in_range ?_
    repeat' walk_at "y 1"
    refine whole_bad (P := fun _ => False) F (by first | exact .non | exact .bl _ | exact .str _ | exact .tup _ _ (by assumption) (by assumption) (by assumption) | exact .lst _ _ (by assumption) (by assumption) (by assumption)) (fun i e h => h.elim) ?_
    walk_at "y"
    exact k
theorem whole_non {a : Cl} {H : Hp} {Q : VK} {E : XK} (k : Q (.bl false) H) : sp_is_whole a [.non] H Q E := whole_bad (P := fun _ => False) FH.nil .non (fun _ _ h => h.elim) k
theorem whole_bl {a : Cl} {H : Hp} {b : Bool} {Q : VK} {E : XK} (k : Q (.bl false) H) : sp_is_whole a [.bl b] H Q E := whole_bad (P := fun _ => False) FH.nil (.bl b) (fun _ _ h => h.elim) k
theorem whole_str {a : Cl} {H : Hp} {s : Str} {Q : VK} {E : XK} (k : Q (.bl false) H) : sp_is_whole a [.str s] H Q E := whole_bad (P := fun _ => False) FH.nil (.str s) (fun _ _ h => h.elim) k
theorem whole_tup {a : Cl} {H : Hp} {L : List Ent} {q : Addr} {xs : List V} {Q : VK} {E : XK} (F : FH H L) (m : (q, Is (.tup xs)) ∈ L) (k : Q (.bl false) H) : sp_is_whole a [.ref q] H Q E := by
  refine in_is_whole ?_
  walk_at "y"
  exact k
theorem whole_lst {a : Cl} {H : Hp} {L : List Ent} {q : Addr} {xs : List V} {Q : VK} {E : XK} (F : FH H L) (m : (q, Is (.lst xs)) ∈ L) (k : Q (.bl false) H) : sp_is_whole a [.ref q] H Q E := by
  refine in_is_whole ?_
  walk_at "y"
  exact k

local macro_rules | `(tactic| walk_at "y spec") => `(tactic| first
  | ((with_reducible refine' draw_ok ?F ?m ?hn ?hn2 ?_); (case F => assumption); (case m => walk_at "y mem"); (case hn => first | omega | exact Int.emod_nonneg _ (by omega) | exact Int.emod_lt_of_pos _ (by omega)); (case hn2 => first | omega | exact Int.emod_nonneg _ (by omega) | exact Int.emod_lt_of_pos _ (by omega)); intro _ _ _ _ _)
  | ((with_reducible refine' box_ok ?F ?_); (case F => assumption); intro _ _ _)
  | ((with_reducible refine whole_ok ?_))
  | ((with_reducible refine range_ok ?_))
  | ((with_reducible refine' range_bad ?F ?b ?_); (case F => assumption); (case b => walk_at "y bad")))

/-- a value that is refused, new objects in X -/
theorem bad_ok {a : Cl} {H : Hp} {L : List Ent} {p : Addr} {M : Int} {Q : VK} {E : XK} (F : FH H L) (m : (p, Box) ∈ L) (hM : 1 ≤ M ∧ M ≤ 65535) (k : ∀ v X H', Bad (fun i => i < 1 ∨ M < i) X v → FH H' (X ++ L) → Q v H') : sp_bad a [.ref p, .int M] H Q E := by
  refine in_bad ?_
  repeat' walk_at "y 1"
  refine draw_ok F m (by decide) (by decide) fun r H1 h0 h1 F1 => ?_
  clear F
  rcases (by omega : r = 0 ∨ r = 1 ∨ r = 2 ∨ r = 3 ∨ r = 4 ∨ r = 5 ∨ r = 6 ∨ r = 7) with rfl | rfl | rfl | rfl | rfl | rfl | rfl | rfl
  all_goals walk_at "y"
  · exact k _ [] _ (.int _ (by omega)) (by assumption)
  · exact k _ [] _ (.int _ (by omega)) (by assumption)
  · exact k _ [] _ (.int _ (by omega)) (by assumption)
  · exact k _ [] _ (.bl _) (FH.sub (by assumption) (by walk_at "y sub"))
  · exact k _ [] _ .non (FH.sub (by assumption) (by walk_at "y sub"))
  · exact k _ [] _ (.str _) (FH.sub (by assumption) (by walk_at "y sub"))
  · exact k _ [(_, Is (.lst [.int 5]))] _ (.lst _ _ (List.mem_cons_self) rfl (by simp [eqv_int, eqv_nil])) (FH.sel (by assumption) (by walk_at "y sel"))
  · exact k _ [(_, Is (.tup [.int 5]))] _ (.tup _ _ (List.mem_cons_self) rfl (by simp [eqv_int, eqv_nil])) (FH.sel (by assumption) (by walk_at "y sel"))

end
section
local macro_rules | `(tactic| walk_at "y spec") => `(tactic| first
  | ((with_reducible refine' draw_ok ?F ?m ?hn ?hn2 ?_); (case F => assumption); (case m => walk_at "y mem"); (case hn => first | omega | (dsimp only; omega) | exact Int.emod_nonneg _ (by omega) | exact Int.emod_lt_of_pos _ (by omega)); (case hn2 => first | omega | (dsimp only; omega) | exact Int.emod_nonneg _ (by omega) | exact Int.emod_lt_of_pos _ (by omega)); intro _ _ _ _ _)
  | ((with_reducible refine' box_ok ?F ?_); (case F => assumption); intro _ _ _)
  | ((with_reducible refine whole_ok ?_))
  | ((with_reducible refine range_ok ?_))
  | ((with_reducible refine' check_ok ?h ?_); (case h => first | omega | (dsimp only; omega) | exact Int.emod_nonneg _ (by omega) | exact Int.emod_lt_of_pos _ (by omega)))
  | ((with_reducible refine' starting_ok ?F ?m ?hC ?_); (case F => assumption); (case m => walk_at "y mem"); (case hC => walk_at "y mem"))
  | ((with_reducible refine whole2_ok ?_))
  | ((with_reducible refine truth_ok ?_)))

def Kd.word : Kd → Str
  | .ctl => "base"
  | .fix => "fixed"
  | .clb => "climb"
  | .crv => "curve"
  | .dly => "delay"
def kd (w : Int) : Kd := if w = 0 then .ctl else if w = 2 ∨ w = 8 then .clb else if w = 3 ∨ w = 9 then .crv else if w = 4 ∨ w = 10 then .dly else .fix
def tms (w p : Int) : Int := if w = 1 ∨ w = 7 then 8 else if w = 5 ∨ w = 6 then p else 2
abbrev z0 : Ext := ⟨0, 0, none, 0, 0, 0⟩
theorem cls_mem {a : Cl} {k : Kd} : k.cls a ∈ [a.c_Control, a.c_Fixed, a.c_Climb, a.c_Curve, a.c_Delay] := by cases k <;> simp [Kd.cls]
theorem eleven {w : Int} (h : 0 ≤ w ∧ w ≤ 10) : w = 0 ∨ w = 1 ∨ w = 2 ∨ w = 3 ∨ w = 4 ∨ w = 5 ∨ w = 6 ∨ w = 7 ∨ w = 8 ∨ w = 9 ∨ w = 10 := by omega
theorem word_ok {a : Cl} {H : Hp} {L : List Ent} {w : Int} {Q : VK} {E : XK} (F : FH H L) (h : 0 ≤ w ∧ w ≤ 10) (k : ∀ H', FH H' L → Q (.str (kd w).word) H') : sp_word a [.int w] H Q E := by
  refine in_word ?_
  rcases eleven h with rfl | rfl | rfl | rfl | rfl | rfl | rfl | rfl | rfl | rfl | rfl
  all_goals
    walk_at "y"
    exact k _ (FH.sub (by assumption) (by walk_at "y sub"))
theorem times_ok {a : Cl} {H : Hp} {w p : Int} {Q : VK} {E : XK} (h : 0 ≤ w ∧ w ≤ 10) (k : Q (.int (tms w p)) H) : sp_times a [.int w, .int p] H Q E := by
  refine in_times ?_
  rcases eleven h with rfl | rfl | rfl | rfl | rfl | rfl | rfl | rfl | rfl | rfl | rfl
  all_goals
    walk_at "y"
    exact k
theorem classed_ok {a : Cl} {H : Hp} {L : List Ent} {e dx : Addr} {k0 : Kd} {u w t x : Int} {s : Bool} {z : Ext} {Q : VK} {E : XK} (F : FH H L) (m : (e, Is (.ins (k0.cls a) dx (Bf u w t x s (k0.F z)))) ∈ L) (k : Q (.bl true) H) : sp_classed a [.ref e, .str k0.word] H Q E := by
  have mm : Mm _ L := ⟨m⟩
  cases k0
  all_goals
    simp only [Kd.cls, Kd.F, Kd.word] at mm ⊢
    refine in_classed ?_
    walk_at "y"
    exact k
theorem base_ok {a : Cl} {H : Hp} {L : List Ent} {e l dx : Addr} {k0 : Kd} {u w t x : Int} {s : Bool} {z : Ext} {Q : VK} {E : XK} (F : FH H L) (m : (e, Is (.ins (k0.cls a) dx (Bf u w t x s (k0.F z)))) ∈ L) (m2 : (l, Is (.lst [.int u, .int w, .int t, .int x, .bl s])) ∈ L) (k : Q (.bl true) H) : sp_base a [.ref e, .ref l] H Q E := by
  have m3 : Mm _ L := ⟨m2⟩
  cases k0
  all_goals
    simp only [Kd.cls, Kd.F] at m
    have mm : Mm _ L := ⟨m⟩
    refine in_base ?_
    walk_at "y"
    exact k

end
section
local macro_rules | `(tactic| walk_at "y spec") => `(tactic| first
  | ((with_reducible refine' draw_ok ?F ?m ?hn ?hn2 ?_); (case F => assumption); (case m => walk_at "y mem"); (case hn => first | omega | (dsimp only; omega) | exact Int.emod_nonneg _ (by omega) | exact Int.emod_lt_of_pos _ (by omega)); (case hn2 => first | omega | (dsimp only; omega) | exact Int.emod_nonneg _ (by omega) | exact Int.emod_lt_of_pos _ (by omega)); intro _ _ _ _ _)
  | ((with_reducible refine' box_ok ?F ?_); (case F => assumption); intro _ _ _)
  | ((with_reducible refine whole_ok ?_))
  | ((with_reducible refine range_ok ?_))
  | ((with_reducible refine' check_ok ?h ?_); (case h => first | omega | (dsimp only; omega) | exact Int.emod_nonneg _ (by omega) | exact Int.emod_lt_of_pos _ (by omega)))
  | ((with_reducible refine' starting_ok ?F ?m ?hC ?_); (case F => assumption); (case m => walk_at "y mem"); (case hC => walk_at "y mem"))
  | ((with_reducible refine whole2_ok ?_))
  | ((with_reducible refine truth_ok ?_)))

theorem tms_le {w p : Int} (hp : 1 ≤ p ∧ p ≤ 64) : 1 ≤ tms w p ∧ tms w p ≤ 64 := by
  unfold tms
  split
  · omega
  · split <;> omega
theorem fresh_ok {a : Cl} {H : Hp} {L : List Ent} {e dx : Addr} {w u p : Int} {Q : VK} {E : XK} (F : FH H L) (h : 0 ≤ w ∧ w ≤ 10) (hu : 1 ≤ u ∧ u ≤ 65535) (hp : 1 ≤ p ∧ p ≤ 64) (m : (e, Is (.ins ((kd w).cls a) dx (Bf u (u * tms w p) 4194304 0 false ((kd w).F z0)))) ∈ L) (k : ∀ H', FH H' L → Q (.bl true) H') : sp_fresh a [.ref e, .int w, .int u, .int p] H Q E := by
  refine in_fresh ?_
  repeat' walk_at "y 1"
  refine word_ok F h fun H1 F1 => ?_
  clear F
  generalize kd w = k0 at m
  repeat' walk_at "y 1"
  refine classed_ok F1 m ?_
  repeat' walk_at "y 1"
  refine times_ok h ?_
  have ht : 1 ≤ tms w p ∧ tms w p ≤ 64 := tms_le hp
  generalize tms w p = t at m ht
  have mm : Mm _ L := ⟨m⟩
  walk_at "y"
  rename_i l H2 hl F2
  clear F1
  refine base_ok F2 (List.mem_cons_of_mem _ m) List.mem_cons_self ?_
  cases k0
  all_goals
    simp only [Kd.cls, Kd.F, Kd.word, oV] at mm ⊢
    walk_at "y"
    exact k _ (FH.sub (by assumption) (by walk_at "y sub"))

end
section
local macro_rules | `(tactic| walk_at "y bad") => `(tactic| first | assumption | (refine Bad.sub (by assumption) (fun _ h => h) ?_; intro x m; walk_at "y mem"))

local macro_rules | `(tactic| walk_at "y spec") => `(tactic| first
  | ((with_reducible refine' draw_ok ?F ?m ?hn ?hn2 ?_); (case F => assumption); (case m => walk_at "y mem"); (case hn => first | omega | exact Int.emod_nonneg _ (by omega) | exact Int.emod_lt_of_pos _ (by omega)); (case hn2 => first | omega | exact Int.emod_nonneg _ (by omega) | exact Int.emod_lt_of_pos _ (by omega)); intro _ _ _ _ _)
  | ((with_reducible refine' box_ok ?F ?_); (case F => assumption); intro _ _ _)
  | ((with_reducible refine whole_ok ?_))
  | ((with_reducible refine range_ok ?_))
  | ((with_reducible refine' range_bad ?F ?b ?_); (case F => assumption); (case b => walk_at "y bad")))

/-! making: the error of an init -/
theorem control_bad {a : Cl} {H : Hp} {L : List Ent} {e : Addr} {v : V} {Q : VK} {E : XK} (F : FH H L) (b : Bad (fun i => i < 1 ∨ 65535 < i) L v) (k : ∀ d H', FH H' ((d, Is (.xd [("setting", .str "unit")])) :: L) → E (.ref a.c_InvalidSetting) (some d) H') : sp_Control___init__ a [.ref e, v] H Q E := by
  refine in_Control___init__ ?_
  walk_at "y"
  exact k _ _ (by assumption)
theorem fixed_badU {a : Cl} {H : Hp} {R : List Ent} {e dx : Addr} {v p : V} {Q : VK} {E : XK} (F : FH H ((e, Is (.ins a.c_Fixed dx [])) :: R)) (b : Bad (fun i => i < 1 ∨ 65535 < i) R v) (k : ∀ d H', FH H' ((d, Is (.xd [("setting", .str "unit")])) :: R) → E (.ref a.c_InvalidSetting) (some d) H') : sp_Fixed___init__ a [.ref e, v, p] H Q E := by
  refine in_Fixed___init__ ?_
  repeat' walk_at "y 1"
  refine control_bad F (by walk_at "y bad") fun d H' F' => ?_
  exact k _ _ (FH.sub F' (by walk_at "y sub"))
theorem climb_badU {a : Cl} {H : Hp} {R : List Ent} {e C dx : Addr} {v : V} {Q : VK} {E : XK} (F : FH H ((e, Is (.ins C dx [])) :: R)) (hC : C = a.c_Climb ∨ C = a.c_Curve ∨ C = a.c_Delay) (b : Bad (fun i => i < 1 ∨ 65535 < i) R v) (k : ∀ d H', FH H' ((d, Is (.xd [("setting", .str "unit")])) :: R) → E (.ref a.c_InvalidSetting) (some d) H') : sp_Climb___init__ a [.ref e, v] H Q E := by
  refine in_Climb___init__ ?_
  rcases hC with rfl | rfl | rfl
  all_goals
    repeat' walk_at "y 1"
    refine control_bad F (by walk_at "y bad") fun d H' F' => ?_
    exact k _ _ (FH.sub F' (by walk_at "y sub"))
theorem curve_badU {a : Cl} {H : Hp} {R : List Ent} {e dx : Addr} {v : V} {Q : VK} {E : XK} (F : FH H ((e, Is (.ins a.c_Curve dx [])) :: R)) (b : Bad (fun i => i < 1 ∨ 65535 < i) R v) (k : ∀ d H', FH H' ((d, Is (.xd [("setting", .str "unit")])) :: R) → E (.ref a.c_InvalidSetting) (some d) H') : sp_Curve___init__ a [.ref e, v] H Q E := by
  refine in_Curve___init__ ?_
  repeat' walk_at "y 1"
  exact climb_badU F (.inr (.inl rfl)) b k
theorem delay_badU {a : Cl} {H : Hp} {R : List Ent} {e dx : Addr} {v : V} {Q : VK} {E : XK} (F : FH H ((e, Is (.ins a.c_Delay dx [])) :: R)) (b : Bad (fun i => i < 1 ∨ 65535 < i) R v) (k : ∀ d H', FH H' ((d, Is (.xd [("setting", .str "unit")])) :: R) → E (.ref a.c_InvalidSetting) (some d) H') : sp_Delay___init__ a [.ref e, v] H Q E := by
  refine in_Delay___init__ ?_
  repeat' walk_at "y 1"
  exact climb_badU F (.inr (.inr rfl)) b k
theorem fixed_badP {a : Cl} {H : Hp} {R : List Ent} {e dx : Addr} {u : Int} {v : V} {Q : VK} {E : XK} (F : FH H ((e, Is (.ins a.c_Fixed dx [])) :: R)) (hu : 1 ≤ u ∧ u ≤ 65535) (b : Bad (fun i => i < 1 ∨ 64 < i) R v) (k : ∀ d H', FH H' ((d, Is (.xd [("setting", .str "pieces")])) :: R) → E (.ref a.c_InvalidSetting) (some d) H') : sp_Fixed___init__ a [.ref e, .int u, v] H Q E := by
  refine in_Fixed___init__ ?_
  repeat' walk_at "y 1"
  refine control_init F (by walk_at "y mem") hu fun H1 F1 => ?_
  clear F
  walk_at "y"
  exact k _ _ (FH.sub (by assumption) (by walk_at "y sub"))
theorem fix_new2 {a : Cl} {H : Hp} {R : List Ent} {e dx : Addr} {u p : Int} {Q : VK} {E : XK} (F : FH H ((e, Is (.ins a.c_Fixed dx [])) :: R)) (hu : 1 ≤ u ∧ u ≤ 65535) (hp : 1 ≤ p ∧ p ≤ 64) (k : ∀ H', FH H' ((e, Is (.ins a.c_Fixed dx (Bf u (u * p) 4194304 0 false []))) :: R) → Q .non H') :
    sp_Fixed___init__ a [.ref e, .int u, .int p] H Q E := by
  refine in_Fixed___init__ ?_
  repeat' walk_at "y 1"
  refine control_init F (by walk_at "y mem") hu fun H1 F1 => ?_
  clear F
  walk_at "y"
  exact k _ (by assumption)

end
section
theorem n_ctl {a : Cl} {H : Hp} {R : List Ent} {e dx : Addr} {u : Int} {Q : VK} {E : XK} (F : FH H ((e, Is (.ins a.c_Control dx [])) :: R)) (hu : 1 ≤ u ∧ u ≤ 65535) (k : ∀ H', FH H' ((e, Is (.ins a.c_Control dx (Bf u (u * 2) 4194304 0 false []))) :: R) → Q .non H') : sp_Control___init__ a [.ref e, .int u] H Q E := by
  rw [Int.mul_comm u 2] at k; exact ctl_new F hu k
theorem n_clb {a : Cl} {H : Hp} {R : List Ent} {e dx : Addr} {u : Int} {Q : VK} {E : XK} (F : FH H ((e, Is (.ins a.c_Climb dx [])) :: R)) (hu : 1 ≤ u ∧ u ≤ 65535) (k : ∀ H', FH H' ((e, Is (.ins a.c_Climb dx (Bf u (u * 2) 4194304 0 false []))) :: R) → Q .non H') : sp_Climb___init__ a [.ref e, .int u] H Q E := by
  rw [Int.mul_comm u 2] at k; exact clb_new F hu k
theorem n_crv {a : Cl} {H : Hp} {R : List Ent} {e dx : Addr} {u : Int} {Q : VK} {E : XK} (F : FH H ((e, Is (.ins a.c_Curve dx [])) :: R)) (hu : 1 ≤ u ∧ u ≤ 65535) (k : ∀ H', FH H' ((e, Is (.ins a.c_Curve dx (Bf u (u * 2) 4194304 0 false [("peak", .int 0), ("span", .int 0), ("born", .non)]))) :: R) → Q .non H') : sp_Curve___init__ a [.ref e, .int u] H Q E := by
  rw [Int.mul_comm u 2] at k; exact crv_new F hu k
theorem n_dly {a : Cl} {H : Hp} {R : List Ent} {e dx : Addr} {u : Int} {Q : VK} {E : XK} (F : FH H ((e, Is (.ins a.c_Delay dx [])) :: R)) (hu : 1 ≤ u ∧ u ≤ 65535) (k : ∀ H', FH H' ((e, Is (.ins a.c_Delay dx (Bf u (u * 2) 4194304 0 false [("least", .int 0), ("latest", .int 0), ("samples", .int 0)]))) :: R) → Q .non H') : sp_Delay___init__ a [.ref e, .int u] H Q E := by
  rw [Int.mul_comm u 2] at k; exact dly_new F hu k
local macro_rules | `(tactic| walk_at "y spec") => `(tactic| first
  | ((with_reducible refine' n_ctl ?F ?hu ?_); (case F => assumption); (case hu => omega); intro _ _)
  | ((with_reducible refine' fix_new2 ?F ?hu ?hp ?_); (case F => assumption); (case hu => omega); (case hp => omega); intro _ _)
  | ((with_reducible refine' n_clb ?F ?hu ?_); (case F => assumption); (case hu => omega); intro _ _)
  | ((with_reducible refine' n_crv ?F ?hu ?_); (case F => assumption); (case hu => omega); intro _ _)
  | ((with_reducible refine' n_dly ?F ?hu ?_); (case F => assumption); (case hu => omega); intro _ _))
def tm0 : Kd → Int
  | .fix => 8
  | _ => 2
theorem control_of_ok {a : Cl} {H : Hp} {L : List Ent} {k0 : Kd} {u : Int} {Q : VK} {E : XK} (F : FH H L) (hk : k0 ≠ .ctl) (hu : 1 ≤ u ∧ u ≤ 65535) (k : ∀ e dx H', FH H' ((e, Is (.ins (k0.cls a) dx (Bf u (u * tm0 k0) 4194304 0 false (k0.F z0)))) :: L) → Q (.ref e) H') : sp_control_of a [.str k0.word, .int u] H Q E := by
  refine in_control_of ?_
  cases k0
  · exact absurd rfl hk
  all_goals
    simp only [Kd.word]
    walk_at "y"
    exact k _ _ _ (by assumption)
theorem co_fix {a : Cl} {H : Hp} {L : List Ent} {u : Int} {Q : VK} {E : XK} (F : FH H L) (hu : 1 ≤ u ∧ u ≤ 65535) (k : ∀ e dx H', FH H' ((e, Is (.ins a.c_Fixed dx (Bf u (u * 8) 4194304 0 false []))) :: L) → Q (.ref e) H') : sp_control_of a [.str "fixed", .int u] H Q E := control_of_ok (k0 := .fix) F (by simp) hu k
theorem co_clb {a : Cl} {H : Hp} {L : List Ent} {u : Int} {Q : VK} {E : XK} (F : FH H L) (hu : 1 ≤ u ∧ u ≤ 65535) (k : ∀ e dx H', FH H' ((e, Is (.ins a.c_Climb dx (Bf u (u * 2) 4194304 0 false []))) :: L) → Q (.ref e) H') : sp_control_of a [.str "climb", .int u] H Q E := control_of_ok (k0 := .clb) F (by simp) hu k
theorem co_crv {a : Cl} {H : Hp} {L : List Ent} {u : Int} {Q : VK} {E : XK} (F : FH H L) (hu : 1 ≤ u ∧ u ≤ 65535) (k : ∀ e dx H', FH H' ((e, Is (.ins a.c_Curve dx (Bf u (u * 2) 4194304 0 false [("peak", .int 0), ("span", .int 0), ("born", .non)]))) :: L) → Q (.ref e) H') : sp_control_of a [.str "curve", .int u] H Q E := control_of_ok (k0 := .crv) F (by simp) hu k
theorem co_dly {a : Cl} {H : Hp} {L : List Ent} {u : Int} {Q : VK} {E : XK} (F : FH H L) (hu : 1 ≤ u ∧ u ≤ 65535) (k : ∀ e dx H', FH H' ((e, Is (.ins a.c_Delay dx (Bf u (u * 2) 4194304 0 false [("least", .int 0), ("latest", .int 0), ("samples", .int 0)]))) :: L) → Q (.ref e) H') : sp_control_of a [.str "delay", .int u] H Q E := control_of_ok (k0 := .dly) F (by simp) hu k

end
section
local macro_rules | `(tactic| walk_at "y spec") => `(tactic| first
  | ((with_reducible refine' n_ctl ?F ?hu ?_); (case F => assumption); (case hu => omega); intro _ _)
  | ((with_reducible refine' fix_new2 ?F ?hu ?hp ?_); (case F => assumption); (case hu => omega); (case hp => omega); intro _ _)
  | ((with_reducible refine' n_clb ?F ?hu ?_); (case F => assumption); (case hu => omega); intro _ _)
  | ((with_reducible refine' n_crv ?F ?hu ?_); (case F => assumption); (case hu => omega); intro _ _)
  | ((with_reducible refine' n_dly ?F ?hu ?_); (case F => assumption); (case hu => omega); intro _ _)
  | ((with_reducible refine' co_fix ?F ?hu ?_); (case F => assumption); (case hu => omega); intro _ _ _ _)
  | ((with_reducible refine' co_clb ?F ?hu ?_); (case F => assumption); (case hu => omega); intro _ _ _ _)
  | ((with_reducible refine' co_crv ?F ?hu ?_); (case F => assumption); (case hu => omega); intro _ _ _ _)
  | ((with_reducible refine' co_dly ?F ?hu ?_); (case F => assumption); (case hu => omega); intro _ _ _ _))

theorem make_ok {a : Cl} {H : Hp} {L : List Ent} {w u p : Int} {Q : VK} {E : XK} (F : FH H L) (h : 0 ≤ w ∧ w ≤ 10) (hu : 1 ≤ u ∧ u ≤ 65535) (hp : 1 ≤ p ∧ p ≤ 64) (k : ∀ e dx H', FH H' ((e, Is (.ins ((kd w).cls a) dx (Bf u (u * tms w p) 4194304 0 false ((kd w).F z0)))) :: L) → Q (.ref e) H') : sp_make a [.int w, .int u, .int p] H Q E := by
  refine in_make ?_
  rcases eleven h with rfl | rfl | rfl | rfl | rfl | rfl | rfl | rfl | rfl | rfl | rfl
  · walk_at "y"
    exact k _ _ _ (by assumption)
  · walk_at "y"
    exact k _ _ _ (by assumption)
  · walk_at "y"
    exact k _ _ _ (by assumption)
  · walk_at "y"
    exact k _ _ _ (by assumption)
  · walk_at "y"
    exact k _ _ _ (by assumption)
  · walk_at "y"
    exact k _ _ _ (by assumption)
  · walk_at "y"
    exact k _ _ _ (by assumption)
  all_goals
    walk_at "y"
    exact k _ _ _ (FH.sub (by assumption) (by walk_at "y sub"))

end
section
local macro_rules | `(tactic| walk_at "y bad") => `(tactic| first | assumption | (refine Bad.sub (by assumption) (fun _ h => h) ?_; intro x m; walk_at "y mem"))

local macro_rules | `(tactic| walk_at "y spec") => `(tactic| first
  | ((with_reducible refine' control_bad ?F ?b ?_); (case F => assumption); (case b => walk_at "y bad"); intro _ _ _)
  | ((with_reducible refine' fixed_badU ?F ?b ?_); (case F => assumption); (case b => walk_at "y bad"); intro _ _ _)
  | ((with_reducible refine' climb_badU ?F ?hC ?b ?_); (case F => assumption); (case hC => first | exact Or.inl rfl | exact Or.inr (Or.inl rfl) | exact Or.inr (Or.inr rfl)); (case b => walk_at "y bad"); intro _ _ _)
  | ((with_reducible refine' curve_badU ?F ?b ?_); (case F => assumption); (case b => walk_at "y bad"); intro _ _ _)
  | ((with_reducible refine' delay_badU ?F ?b ?_); (case F => assumption); (case b => walk_at "y bad"); intro _ _ _))

theorem control_of_badU {a : Cl} {H : Hp} {L : List Ent} {k0 : Kd} {v : V} {Q : VK} {E : XK} (F : FH H L) (hk : k0 ≠ .ctl) (b : Bad (fun i => i < 1 ∨ 65535 < i) L v) (k : ∀ d H', FH H' ((d, Is (.xd [("setting", .str "unit")])) :: L) → E (.ref a.c_InvalidSetting) (some d) H') : sp_control_of a [.str k0.word, v] H Q E := by
  refine in_control_of ?_
  cases k0
  · exact absurd rfl hk
  all_goals
    simp only [Kd.word]
    walk_at "y"
    exact k _ _ (FH.sub (by assumption) (by walk_at "y sub"))
theorem cb_fix {a : Cl} {H : Hp} {L : List Ent} {v : V} {Q : VK} {E : XK} (F : FH H L) (b : Bad (fun i => i < 1 ∨ 65535 < i) L v) (k : ∀ d H', FH H' ((d, Is (.xd [("setting", .str "unit")])) :: L) → E (.ref a.c_InvalidSetting) (some d) H') : sp_control_of a [.str "fixed", v] H Q E := control_of_badU (k0 := .fix) F (by simp) b k
theorem cb_clb {a : Cl} {H : Hp} {L : List Ent} {v : V} {Q : VK} {E : XK} (F : FH H L) (b : Bad (fun i => i < 1 ∨ 65535 < i) L v) (k : ∀ d H', FH H' ((d, Is (.xd [("setting", .str "unit")])) :: L) → E (.ref a.c_InvalidSetting) (some d) H') : sp_control_of a [.str "climb", v] H Q E := control_of_badU (k0 := .clb) F (by simp) b k
theorem cb_crv {a : Cl} {H : Hp} {L : List Ent} {v : V} {Q : VK} {E : XK} (F : FH H L) (b : Bad (fun i => i < 1 ∨ 65535 < i) L v) (k : ∀ d H', FH H' ((d, Is (.xd [("setting", .str "unit")])) :: L) → E (.ref a.c_InvalidSetting) (some d) H') : sp_control_of a [.str "curve", v] H Q E := control_of_badU (k0 := .crv) F (by simp) b k
theorem cb_dly {a : Cl} {H : Hp} {L : List Ent} {v : V} {Q : VK} {E : XK} (F : FH H L) (b : Bad (fun i => i < 1 ∨ 65535 < i) L v) (k : ∀ d H', FH H' ((d, Is (.xd [("setting", .str "unit")])) :: L) → E (.ref a.c_InvalidSetting) (some d) H') : sp_control_of a [.str "delay", v] H Q E := control_of_badU (k0 := .dly) F (by simp) b k
local macro_rules | `(tactic| walk_at "y spec") => `(tactic| first
  | ((with_reducible refine' control_bad ?F ?b ?_); (case F => assumption); (case b => walk_at "y bad"); intro _ _ _)
  | ((with_reducible refine' fixed_badU ?F ?b ?_); (case F => assumption); (case b => walk_at "y bad"); intro _ _ _)
  | ((with_reducible refine' climb_badU ?F ?hC ?b ?_); (case F => assumption); (case hC => first | exact Or.inl rfl | exact Or.inr (Or.inl rfl) | exact Or.inr (Or.inr rfl)); (case b => walk_at "y bad"); intro _ _ _)
  | ((with_reducible refine' curve_badU ?F ?b ?_); (case F => assumption); (case b => walk_at "y bad"); intro _ _ _)
  | ((with_reducible refine' delay_badU ?F ?b ?_); (case F => assumption); (case b => walk_at "y bad"); intro _ _ _)
  | ((with_reducible refine' cb_fix ?F ?b ?_); (case F => assumption); (case b => walk_at "y bad"); intro _ _ _)
  | ((with_reducible refine' cb_clb ?F ?b ?_); (case F => assumption); (case b => walk_at "y bad"); intro _ _ _)
  | ((with_reducible refine' cb_crv ?F ?b ?_); (case F => assumption); (case b => walk_at "y bad"); intro _ _ _)
  | ((with_reducible refine' cb_dly ?F ?b ?_); (case F => assumption); (case b => walk_at "y bad"); intro _ _ _))
theorem make_badU {a : Cl} {H : Hp} {L : List Ent} {w : Int} {v p : V} {Q : VK} {E : XK} (F : FH H L) (h : 0 ≤ w ∧ w ≤ 10) (b : Bad (fun i => i < 1 ∨ 65535 < i) L v) (k : ∀ d H', FH H' ((d, Is (.xd [("setting", .str "unit")])) :: L) → E (.ref a.c_InvalidSetting) (some d) H') : sp_make a [.int w, v, p] H Q E := by
  refine in_make ?_
  rcases eleven h with rfl | rfl | rfl | rfl | rfl | rfl | rfl | rfl | rfl | rfl | rfl
  all_goals
    walk_at "y"
    exact k _ _ (FH.sub (by assumption) (by walk_at "y sub"))

end
section
local macro_rules | `(tactic| walk_at "y bad") => `(tactic| first | assumption | (refine Bad.sub (by assumption) (fun _ h => h) ?_; intro x m; walk_at "y mem"))

local macro_rules | `(tactic| walk_at "y spec") => `(tactic| ((with_reducible refine' fixed_badP ?F ?hu ?b ?_); (case F => assumption); (case hu => omega); (case b => walk_at "y bad"); intro _ _ _))
theorem make_badP {a : Cl} {H : Hp} {L : List Ent} {w u : Int} {v : V} {Q : VK} {E : XK} (F : FH H L) (h : w = 5 ∨ w = 6) (hu : 1 ≤ u ∧ u ≤ 65535) (b : Bad (fun i => i < 1 ∨ 64 < i) L v) (k : ∀ d H', FH H' ((d, Is (.xd [("setting", .str "pieces")])) :: L) → E (.ref a.c_InvalidSetting) (some d) H') : sp_make a [.int w, .int u, v] H Q E := by
  refine in_make ?_
  rcases h with rfl | rfl
  all_goals
    walk_at "y"
    exact k _ _ (FH.sub (by assumption) (by walk_at "y sub"))

end
section
local macro_rules | `(tactic| walk_at "y bad") => `(tactic| first | assumption | (refine Bad.sub (by assumption) (fun _ h => h) ?_; intro x m; walk_at "y mem"))

local macro_rules | `(tactic| walk_at "y spec") => `(tactic| first
  | ((with_reducible refine' make_badU ?F ?h ?b ?_); (case F => assumption); (case h => omega); (case b => walk_at "y bad"); intro _ _ _))
theorem refusal_U {a : Cl} {H : Hp} {L : List Ent} {w : Int} {v p : V} {Q : VK} {E : XK} (F : FH H L) (h : 0 ≤ w ∧ w ≤ 10) (b : Bad (fun i => i < 1 ∨ 65535 < i) L v) (k : ∀ H', FH H' L → Q (.str "unit") H') : sp_refusal a [.int w, v, p] H Q E := by
  refine in_refusal ?_
  walk_at "y"
  exact k _ (FH.sub (by assumption) (by walk_at "y sub"))
local macro_rules | `(tactic| walk_at "y spec") => `(tactic| first
  | ((with_reducible refine' make_badP ?F ?h ?hu ?b ?_); (case F => assumption); (case h => omega); (case hu => omega); (case b => walk_at "y bad"); intro _ _ _))
theorem refusal_P {a : Cl} {H : Hp} {L : List Ent} {w u : Int} {v : V} {Q : VK} {E : XK} (F : FH H L) (h : w = 5 ∨ w = 6) (hu : 1 ≤ u ∧ u ≤ 65535) (b : Bad (fun i => i < 1 ∨ 64 < i) L v) (k : ∀ H', FH H' L → Q (.str "pieces") H') : sp_refusal a [.int w, .int u, v] H Q E := by
  refine in_refusal ?_
  walk_at "y"
  exact k _ (FH.sub (by assumption) (by walk_at "y sub"))

end
section
local macro_rules | `(tactic| walk_at "y bad") => `(tactic| first | assumption | (refine Bad.sub (by assumption) (fun _ h => h) ?_; intro x m; walk_at "y mem"))
local macro_rules | `(tactic| walk_at "y spec") => `(tactic| first
  | ((with_reducible refine' draw_ok ?F ?m ?hn ?hn2 ?_); (case F => assumption); (case m => walk_at "y mem"); (case hn => omega); (case hn2 => omega); intro _ _ _ _ _)
  | ((with_reducible refine' truth_ok ?_))
  | ((with_reducible refine' check_ok ?h ?_); (case h => omega))
  | ((with_reducible refine' starting_ok ?F ?m ?hC ?_); (case F => assumption); (case m => walk_at "y mem"); (case hC => walk_at "y mem"))
  | ((with_reducible refine' e_ctl ?F ?tk ?_); (case F => assumption); (case tk => walk_at "y take"); intro _ _)
  | ((with_reducible refine' e_fix ?F ?tk ?_); (case F => assumption); (case tk => walk_at "y take"); intro _ _)
  | ((with_reducible refine' e_clb ?F ?tk ?_); (case F => assumption); (case tk => walk_at "y take"); intro _ _)
  | ((with_reducible refine' e_crv (b := none) ?F ?tk ?_); (case F => assumption); (case tk => walk_at "y take"); intro _ _)
  | ((with_reducible refine' e_dly ?F ?tk ?_); (case F => assumption); (case tk => walk_at "y take"); intro _ _)
  | ((with_reducible refine' s_ctl ?_))
  | ((with_reducible refine' s_fix ?_))
  | ((with_reducible refine' s_clb ?F ?m ?_); (case F => assumption); (case m => walk_at "y mem"))
  | ((with_reducible refine' s_crv ?F ?m ?_); (case F => assumption); (case m => walk_at "y mem"))
  | ((with_reducible refine' s_dly ?F ?tk ?hl ?hf ?_); (case F => assumption); (case tk => walk_at "y take"); (case hl => omega); (case hf => omega); intro _ _ _ _ _)
  | ((with_reducible refine' l_ctl ?F ?tk ?_); (case F => assumption); (case tk => walk_at "y take"); intro _ _)
  | ((with_reducible refine' l_fix ?_))
  | ((with_reducible refine' l_clb ?F ?tk ?_); (case F => assumption); (case tk => walk_at "y take"); intro _ _)
  | ((with_reducible refine' l_crv (b := none) ?F ?tk ?hu ?hw ?_); (case F => assumption); (case tk => walk_at "y take"); (case hu => omega); (case hw => omega); intro _ _ _ _)
  | ((with_reducible refine' l_dly ?F ?tk ?_); (case F => assumption); (case tk => walk_at "y take"); intro _ _))

theorem fresh_k {a : Cl} {H : Hp} {L : List Ent} {e dx : Addr} {w u p : Int} {k0 : Kd} {Q : VK} {E : XK} (hk : kd w = k0) (F : FH H L) (h : 0 ≤ w ∧ w ≤ 10) (hu : 1 ≤ u ∧ u ≤ 65535) (hp : 1 ≤ p ∧ p ≤ 64) (m : (e, Is (.ins (k0.cls a) dx (Bf u (u * tms w p) 4194304 0 false (k0.F z0)))) ∈ L) (k : ∀ H', FH H' L → Q (.bl true) H') : sp_fresh a [.ref e, .int w, .int u, .int p] H Q E := by
  subst hk
  exact fresh_ok F h hu hp m k
theorem apart_ok {a : Cl} {H : Hp} {L : List Ent} {w u p : Int} {b : Addr} {Q : VK} {E : XK} (F : FH H L) (m : (b, Box) ∈ L) (h : 0 ≤ w ∧ w ≤ 10) (hu : 1 ≤ u ∧ u ≤ 65535) (hp : 1 ≤ p ∧ p ≤ 64) (k : ∀ H', FH H' L → Q (.bl true) H') : sp_apart a [.int w, .int u, .int p, .ref b] H Q E := by
  refine in_apart ?_
  repeat' walk_at "y 1"
  refine make_ok F h hu hp fun e1 d1 H1 F1 => ?_
  clear F
  repeat' walk_at "y 1"
  refine make_ok F1 h hu hp fun e2 d2 H2 F2 => ?_
  clear F1
  generalize hk : kd w = k0 at F2
  have ht := tms_le (w := w) hp
  cases k0
  all_goals
    simp only [Kd.cls, Kd.F, oV] at F2
    walk_at "y"
    refine make_ok (by assumption) h hu hp fun e3 d3 H3 F3 => ?_
    rw [hk] at F3
    walk_at "y"
    refine fresh_k (dx := d2) hk (by assumption) h hu hp (by walk_at "y mem") fun H4 F4 => ?_
    walk_at "y"
    refine fresh_k (dx := d3) hk (by assumption) h hu hp (by walk_at "y mem") fun H5 F5 => ?_
    exact k _ (FH.sub F5 (by walk_at "y sub"))

end
section
local macro_rules | `(tactic| walk_at "y bad") => `(tactic| first | assumption | (refine Bad.sub (by assumption) (fun _ h => h) ?_; intro x m; walk_at "y mem"))

local macro_rules | `(tactic| walk_at "y spec") => `(tactic| first
  | ((with_reducible refine' draw_ok ?F ?m ?hn ?hn2 ?_); (case F => assumption); (case m => walk_at "y mem"); (case hn => first | omega | (dsimp only; omega) | exact Int.emod_nonneg _ (by omega) | exact Int.emod_lt_of_pos _ (by omega)); (case hn2 => first | omega | (dsimp only; omega) | exact Int.emod_nonneg _ (by omega) | exact Int.emod_lt_of_pos _ (by omega)); intro _ _ _ _ _)
  | ((with_reducible refine' box_ok ?F ?_); (case F => assumption); intro _ _ _)
  | ((with_reducible refine whole_ok ?_))
  | ((with_reducible refine range_ok ?_))
  | ((with_reducible refine' check_ok ?h ?_); (case h => first | omega | (dsimp only; omega) | exact Int.emod_nonneg _ (by omega) | exact Int.emod_lt_of_pos _ (by omega)))
  | ((with_reducible refine' starting_ok ?F ?m ?hC ?_); (case F => assumption); (case m => walk_at "y mem"); (case hC => walk_at "y mem")))

theorem units_ok {a : Cl} {H : Hp} {L : List Ent} {w p : Int} {b : Addr} {Q : VK} {E : XK} (F : FH H L) (m : (b, Box) ∈ L) (h : 0 ≤ w ∧ w ≤ 10) (hp : 1 ≤ p ∧ p ≤ 64) (k : ∀ H', FH H' L → Q (.bl true) H') : sp_units a [.int w, .int p, .ref b] H Q E := by
  refine in_units ?_
  repeat' walk_at "y 1"
  refine bad_ok F m (by decide) fun v X H1 bv F1 => ?_
  clear F
  repeat' walk_at "y 1"
  refine draw_ok F1 (List.mem_append_right _ m) (by decide) (by decide) fun r H2 r0 r1 F2 => ?_
  clear F1
  repeat' (first | walk_at "y 1" | walk_at "y if")
  · refine bad_ok F2 (List.mem_append_right _ m) (by decide) fun v2 X2 H3 bv2 F3 => ?_
    clear F2
    repeat' walk_at "y 1"
    refine refusal_U F3 h (Bad.sub bv (fun _ h => h) fun x hx => List.mem_append_right _ (List.mem_append_left _ hx)) fun H4 F4 => ?_
    have G : FH H4 L := F4.sub ((List.sublist_append_right X L).trans (List.sublist_append_right X2 (X ++ L)))
    clear F3 F4
    repeat' walk_at "y 1"
    refine draw2_ok (by assumption) (by walk_at "y mem") (fun H5 F5 => ?_) fun H5 F5 => ?_
    all_goals
      walk_at "y"
      refine make_ok (by assumption) h (by decide) hp fun e3 d3 H6 F6 => ?_
      walk_at "y"
      refine fresh_ok (dx := d3) (by assumption) h (by decide) hp (by walk_at "y mem") fun H7 F7 => ?_
      exact k _ (FH.sub F7 (by walk_at "y sub"))
  · repeat' walk_at "y 1"
    refine refusal_U F2 h (Bad.sub bv (fun _ h => h) fun x hx => (List.mem_append_left _ hx)) fun H4 F4 => ?_
    have G : FH H4 L := F4.sub ((List.sublist_append_right X L))
    clear F2 F4
    repeat' walk_at "y 1"
    refine draw2_ok (by assumption) (by walk_at "y mem") (fun H5 F5 => ?_) fun H5 F5 => ?_
    all_goals
      walk_at "y"
      refine make_ok (by assumption) h (by decide) hp fun e3 d3 H6 F6 => ?_
      walk_at "y"
      refine fresh_ok (dx := d3) (by assumption) h (by decide) hp (by walk_at "y mem") fun H7 F7 => ?_
      exact k _ (FH.sub F7 (by walk_at "y sub"))
theorem pieces_ok {a : Cl} {H : Hp} {L : List Ent} {u p : Int} {b : Addr} {Q : VK} {E : XK} (F : FH H L) (m : (b, Box) ∈ L) (hu : 1 ≤ u ∧ u ≤ 65535) (hp : 1 ≤ p ∧ p ≤ 64) (k : ∀ H', FH H' L → Q (.bl true) H') : sp_pieces a [.int u, .int p, .ref b] H Q E := by
  refine in_pieces ?_
  repeat' walk_at "y 1"
  refine draw_ok F m (by decide) (by decide) fun r H2 r0 r1 F2 => ?_
  clear F
  repeat' walk_at "y 1"
  refine bad_ok F2 m (by decide) fun v X H1 bv F1 => ?_
  clear F2
  have hw : 5 + r = 5 ∨ 5 + r = 6 := by omega
  have h : 0 ≤ 5 + r ∧ 5 + r ≤ 10 := by omega
  generalize 5 + r = w at hw h
  repeat' walk_at "y 1"
  refine refusal_P F1 hw hu (Bad.sub bv (fun _ h => h) fun x hx => (List.mem_append_left _ hx)) fun H4 F4 => ?_
  have G : FH H4 L := F4.sub ((List.sublist_append_right X L))
  clear F1 F4
  repeat' walk_at "y 1"
  refine draw2_ok (by assumption) (by walk_at "y mem") (fun H5 F5 => ?_) fun H5 F5 => ?_
  all_goals
    walk_at "y"
    refine make_ok (by assumption) h hu (by decide) fun e3 d3 H6 F6 => ?_
    walk_at "y"
    refine fresh_ok (dx := d3) (by assumption) h hu (by decide) (by walk_at "y mem") fun H7 F7 => ?_
    walk_at "y"
    refine fix_new2 (by assumption) hu (by decide) fun H8 F8 => ?_
    walk_at "y"
    refine fresh_k (w := 1) (k0 := .fix) rfl F8 (by decide) hu hp (List.mem_cons_self) fun H9 F9 => ?_
    exact k _ (FH.sub F9 (by walk_at "y sub"))

end
section
local macro_rules | `(tactic| walk_at "y bad") => `(tactic| first | assumption | (refine Bad.sub (by assumption) (fun _ h => h) ?_; intro x m; walk_at "y mem"))

/-! == of a list or a tuple with a scalar -/
set_option synthInstance.checkSynthOrder false
class StrK (z : Str) : Prop where
  k : PyData.canLay0 (.str z) = true
class FltA (xs : List V) : Prop where
  f : xs.all flatOk = true
local instance sk_fixed : StrK "fixed" := ⟨by decide +kernel⟩
local instance sk_climb : StrK "climb" := ⟨by decide +kernel⟩
local instance sk_curve : StrK "curve" := ⟨by decide +kernel⟩
local instance sk_delay : StrK "delay" := ⟨by decide +kernel⟩
local instance sk_control : StrK "control" := ⟨by decide +kernel⟩
theorem shp_str {z : Str} (h : PyData.canLay0 (.str z) = true) : SeqAt.shaped (.str z) = true := by
  unfold SeqAt.shaped
  rw [h]
  rfl
local instance ieqx_lst_s {S : Sta} {H : Hp} {L : List Ent} {p : Addr} {xs : List V} {z : Str} [zk : StrK z] {Q : VK} [F : FH H L] [m : Mm (p, Is (.lst xs)) L] [f : FltA xs] : St1 (rEqP S (.ref p) (.str z) H Q) (Q (.bl false) H) := ⟨fun h => .inr ⟨_, _, .lst (.inl (.inl (F.get m.m))) (dps_flat f.f), .str z, shaped_flatL f.f, shp_str zk.k, by show Q (.bl false) H; exact h⟩⟩
local instance ieqx_lst_i {S : Sta} {H : Hp} {L : List Ent} {p : Addr} {xs : List V} {i : Int} {Q : VK} [F : FH H L] [m : Mm (p, Is (.lst xs)) L] [f : FltA xs] : St1 (rEqP S (.ref p) (.int i) H Q) (Q (.bl false) H) := ⟨fun h => .inr ⟨_, _, .lst (.inl (.inl (F.get m.m))) (dps_flat f.f), .int i, shaped_flatL f.f, rfl, by show Q (.bl false) H; exact h⟩⟩
local instance ieqx_lst_n {S : Sta} {H : Hp} {L : List Ent} {p : Addr} {xs : List V} {Q : VK} [F : FH H L] [m : Mm (p, Is (.lst xs)) L] [f : FltA xs] : St1 (rEqP S (.ref p) (.non) H Q) (Q (.bl false) H) := ⟨fun h => .inr ⟨_, _, .lst (.inl (.inl (F.get m.m))) (dps_flat f.f), .non, shaped_flatL f.f, rfl, by show Q (.bl false) H; exact h⟩⟩
local instance ieqx_lst_b {S : Sta} {H : Hp} {L : List Ent} {p : Addr} {xs : List V} {b : Bool} {Q : VK} [F : FH H L] [m : Mm (p, Is (.lst xs)) L] [f : FltA xs] : St1 (rEqP S (.ref p) (.bl b) H Q) (Q (.bl false) H) := ⟨fun h => .inr ⟨_, _, .lst (.inl (.inl (F.get m.m))) (dps_flat f.f), .bl b, shaped_flatL f.f, rfl, by show Q (.bl false) H; exact h⟩⟩
local instance ieqx_tup_s {S : Sta} {H : Hp} {L : List Ent} {p : Addr} {xs : List V} {z : Str} [zk : StrK z] {Q : VK} [F : FH H L] [m : Mm (p, Is (.tup xs)) L] [f : FltA xs] : St1 (rEqP S (.ref p) (.str z) H Q) (Q (.bl false) H) := ⟨fun h => .inr ⟨_, _, .tup (.inl (.inl (F.get m.m))) (dps_flat f.f), .str z, shaped_flatT f.f, shp_str zk.k, by show Q (.bl false) H; exact h⟩⟩
local instance ieqx_tup_i {S : Sta} {H : Hp} {L : List Ent} {p : Addr} {xs : List V} {i : Int} {Q : VK} [F : FH H L] [m : Mm (p, Is (.tup xs)) L] [f : FltA xs] : St1 (rEqP S (.ref p) (.int i) H Q) (Q (.bl false) H) := ⟨fun h => .inr ⟨_, _, .tup (.inl (.inl (F.get m.m))) (dps_flat f.f), .int i, shaped_flatT f.f, rfl, by show Q (.bl false) H; exact h⟩⟩
local instance ieqx_tup_n {S : Sta} {H : Hp} {L : List Ent} {p : Addr} {xs : List V} {Q : VK} [F : FH H L] [m : Mm (p, Is (.tup xs)) L] [f : FltA xs] : St1 (rEqP S (.ref p) (.non) H Q) (Q (.bl false) H) := ⟨fun h => .inr ⟨_, _, .tup (.inl (.inl (F.get m.m))) (dps_flat f.f), .non, shaped_flatT f.f, rfl, by show Q (.bl false) H; exact h⟩⟩
local instance ieqx_tup_b {S : Sta} {H : Hp} {L : List Ent} {p : Addr} {xs : List V} {b : Bool} {Q : VK} [F : FH H L] [m : Mm (p, Is (.tup xs)) L] [f : FltA xs] : St1 (rEqP S (.ref p) (.bl b) H Q) (Q (.bl false) H) := ⟨fun h => .inr ⟨_, _, .tup (.inl (.inl (F.get m.m))) (dps_flat f.f), .bl b, shaped_flatT f.f, rfl, by show Q (.bl false) H; exact h⟩⟩

local instance : Unr := ⟨trivial⟩
theorem names_ok {a : Cl} {H : Hp} {L : List Ent} {Q : VK} {E : XK} (F : FH H L) (k : ∀ H', FH H' L → Q (.bl true) H') : sp_names a [] H Q E := by
  have hs : StT a.S a.g_KINDS _ := ⟨a.hg_KINDS⟩
  refine in_names ?_
  walk_at "y"
  refine whole2_ok ?_
  exact k _ (FH.sub (by assumption) (by walk_at "y sub"))

/-- a value that names no kind -/
inductive Odw (X : List Ent) : V → Prop
  | non : Odw X .non
  | int : Odw X (.int 0)
  | bl : Odw X (.bl true)
  | str (s : Str) (h1 : s ≠ "fixed") (h2 : s ≠ "climb") (h3 : s ≠ "curve") (h4 : s ≠ "delay") : Odw X (.str s)
  | lst (q : Addr) (s : Str) (f : [V.str s].all flatOk = true) (m : (q, Is (.lst [.str s])) ∈ X) : Odw X (.ref q)
  | tup (q : Addr) (s : Str) (f : [V.str s].all flatOk = true) (m : (q, Is (.tup [.str s])) ∈ X) : Odw X (.ref q)
theorem control_of_odd {a : Cl} {H : Hp} {L : List Ent} {v u : V} {Q : VK} {E : XK} (F : FH H L) (b : Odw L v) (k : ∀ d H', FH H' ((d, Is (.xd [("setting", .str "control")])) :: L) → E (.ref a.c_InvalidSetting) (some d) H') : sp_control_of a [v, u] H Q E := by
  refine in_control_of ?_
  cases b with
  | non =>
    walk_at "y"
    exact k _ _ (FH.sub (by assumption) (by walk_at "y sub"))
  | int =>
    walk_at "y"
    exact k _ _ (FH.sub (by assumption) (by walk_at "y sub"))
  | bl =>
    walk_at "y"
    exact k _ _ (FH.sub (by assumption) (by walk_at "y sub"))
  | str s h1 h2 h3 h4 =>
    have n1 : NeS s "fixed" := ⟨h1⟩
    have n2 : NeS s "climb" := ⟨h2⟩
    have n3 : NeS s "curve" := ⟨h3⟩
    have n4 : NeS s "delay" := ⟨h4⟩
    walk_at "y"
    exact k _ _ (FH.sub (by assumption) (by walk_at "y sub"))
  | lst q s f m =>
    have ff : FltA [V.str s] := ⟨f⟩
    have mm : Mm _ L := ⟨m⟩
    walk_at "y"
    exact k _ _ (FH.sub (by assumption) (by walk_at "y sub"))
  | tup q s f m =>
    have ff : FltA [V.str s] := ⟨f⟩
    have mm : Mm _ L := ⟨m⟩
    walk_at "y"
    exact k _ _ (FH.sub (by assumption) (by walk_at "y sub"))

end
section
local macro_rules | `(tactic| walk_at "y bad") => `(tactic| first | assumption | (refine Bad.sub (by assumption) (fun _ h => h) ?_; intro x m; walk_at "y mem"))

local macro_rules | `(tactic| walk_at "y spec") => `(tactic| first
  | ((with_reducible refine' draw_ok ?F ?m ?hn ?hn2 ?_); (case F => assumption); (case m => walk_at "y mem"); (case hn => first | omega | (dsimp only; omega) | exact Int.emod_nonneg _ (by omega) | exact Int.emod_lt_of_pos _ (by omega)); (case hn2 => first | omega | (dsimp only; omega) | exact Int.emod_nonneg _ (by omega) | exact Int.emod_lt_of_pos _ (by omega)); intro _ _ _ _ _)
  | ((with_reducible refine' box_ok ?F ?_); (case F => assumption); intro _ _ _)
  | ((with_reducible refine whole_ok ?_))
  | ((with_reducible refine range_ok ?_))
  | ((with_reducible refine' check_ok ?h ?_); (case h => first | omega | (dsimp only; omega) | exact Int.emod_nonneg _ (by omega) | exact Int.emod_lt_of_pos _ (by omega)))
  | ((with_reducible refine' starting_ok ?F ?m ?hC ?_); (case F => assumption); (case m => walk_at "y mem"); (case hC => walk_at "y mem")))

/-! texts put together and cut -/
set_option synthInstance.checkSynthOrder false
class CatS (a b : Str) (c : outParam Str) : Prop where
  e : a ++ b = c
  l : a.length + b.length ≤ 1000
local instance i_catS {a b c : Str} {H : Hp} {Q : VK} [z : CatS a b c] : St1 (rAdd (.str a) (.str b) H Q) (Q (.str c) H) := ⟨fun h => .inr (.inl ⟨a, b, rfl, rfl, by have := z.l; rw [sizeLine_eq]; omega, by rw [z.e]; exact h⟩)⟩
class CutS (a : Str) (lo hi : Option Int) (c : outParam Str) : Prop where
  e : cutS a lo hi = c
  l : a.length ≤ 1000
local instance i_cutS {a c : Str} {lo hi : Option Int} {H : Hp} {Q : VK} [z : CutS a lo hi c] : St1 (rSlS (.str a) lo hi H Q) (Q (.str c) H) := ⟨fun h => ⟨a, rfl, by have := z.l; rw [sizeLine_eq]; omega, by rw [z.e]; exact h⟩⟩
local instance : CatS "fixed" " " "fixed " := ⟨by decide +kernel, by decide +kernel⟩
local instance : CatS "fixed" "s" "fixeds" := ⟨by decide +kernel, by decide +kernel⟩
local instance : CutS "fixed" none (some (-1)) "fixe" := ⟨by decide +kernel, by decide +kernel⟩
local instance : CatS "climb" " " "climb " := ⟨by decide +kernel, by decide +kernel⟩
local instance : CatS "climb" "s" "climbs" := ⟨by decide +kernel, by decide +kernel⟩
local instance : CutS "climb" none (some (-1)) "clim" := ⟨by decide +kernel, by decide +kernel⟩
local instance : CatS "curve" " " "curve " := ⟨by decide +kernel, by decide +kernel⟩
local instance : CatS "curve" "s" "curves" := ⟨by decide +kernel, by decide +kernel⟩
local instance : CutS "curve" none (some (-1)) "curv" := ⟨by decide +kernel, by decide +kernel⟩
local instance : CatS "delay" " " "delay " := ⟨by decide +kernel, by decide +kernel⟩
local instance : CatS "delay" "s" "delays" := ⟨by decide +kernel, by decide +kernel⟩
local instance : CutS "delay" none (some (-1)) "dela" := ⟨by decide +kernel, by decide +kernel⟩

theorem stranger_odd {a : Cl} {H : Hp} {L : List Ent} {v u : V} {Q : VK} {E : XK} (F : FH H L) (b : Odw L v) (k : ∀ H', FH H' L → Q (.str "control") H') : sp_stranger a [v, u] H Q E := by
  refine in_stranger ?_
  repeat' walk_at "y 1"
  refine control_of_odd F b fun d H1 F1 => ?_
  clear F
  walk_at "y"
  exact k _ (FH.sub (by assumption) (by walk_at "y sub"))
theorem stranger_bad {a : Cl} {H : Hp} {L : List Ent} {k0 : Kd} {v : V} {Q : VK} {E : XK} (F : FH H L) (hk : k0 ≠ .ctl) (b : Bad (fun i => i < 1 ∨ 65535 < i) L v) (k : ∀ H', FH H' L → Q (.str "unit") H') : sp_stranger a [.str k0.word, v] H Q E := by
  refine in_stranger ?_
  repeat' walk_at "y 1"
  refine control_of_badU F hk b fun d H1 F1 => ?_
  clear F
  walk_at "y"
  exact k _ (FH.sub (by assumption) (by walk_at "y sub"))
theorem idx_fixed {H : Hp} {L : List Ent} {l : Addr} {Q : VK} (F : FH H L) (m : (l, Is (.lst [.str "fixed", .str "climb", .str "curve", .str "delay"])) ∈ L) (h : Q (.int 0) H) : rIdx (.ref l) [.str "fixed"] H Q :=
  ⟨l, _, .str "fixed", 0, .str "fixed", rfl, rfl, F.get m, rfl, rfl, rfl, (by decide +kernel), (fun m z' hm e => by
    omega), h⟩
theorem idx_climb {H : Hp} {L : List Ent} {l : Addr} {Q : VK} (F : FH H L) (m : (l, Is (.lst [.str "fixed", .str "climb", .str "curve", .str "delay"])) ∈ L) (h : Q (.int 1) H) : rIdx (.ref l) [.str "climb"] H Q :=
  ⟨l, _, .str "climb", 1, .str "climb", rfl, rfl, F.get m, rfl, rfl, rfl, (by decide +kernel), (fun m z' hm e => by
    rcases (by omega : m = 0) with rfl <;> (cases e; decide +kernel)), h⟩
theorem idx_curve {H : Hp} {L : List Ent} {l : Addr} {Q : VK} (F : FH H L) (m : (l, Is (.lst [.str "fixed", .str "climb", .str "curve", .str "delay"])) ∈ L) (h : Q (.int 2) H) : rIdx (.ref l) [.str "curve"] H Q :=
  ⟨l, _, .str "curve", 2, .str "curve", rfl, rfl, F.get m, rfl, rfl, rfl, (by decide +kernel), (fun m z' hm e => by
    rcases (by omega : m = 0 ∨ m = 1) with rfl | rfl <;> (cases e; decide +kernel)), h⟩
theorem idx_delay {H : Hp} {L : List Ent} {l : Addr} {Q : VK} (F : FH H L) (m : (l, Is (.lst [.str "fixed", .str "climb", .str "curve", .str "delay"])) ∈ L) (h : Q (.int 3) H) : rIdx (.ref l) [.str "delay"] H Q :=
  ⟨l, _, .str "delay", 3, .str "delay", rfl, rfl, F.get m, rfl, rfl, rfl, (by decide +kernel), (fun m z' hm e => by
    rcases (by omega : m = 0 ∨ m = 1 ∨ m = 2) with rfl | rfl | rfl <;> (cases e; decide +kernel)), h⟩
theorem odw_lst {X L : List Ent} {q : Addr} {s : Str} (m : (q, Is (.lst [.str s])) ∈ L) (f : [V.str s].all flatOk = true) : Odw (X ++ L) (.ref q) := .lst q s f (List.mem_append_right _ m)
theorem odw_tup {X L : List Ent} {q : Addr} {s : Str} (m : (q, Is (.tup [.str s])) ∈ L) (f : [V.str s].all flatOk = true) : Odw (X ++ L) (.ref q) := .tup q s f (List.mem_append_right _ m)
theorem kinds_ok {a : Cl} {H : Hp} {L : List Ent} {u p : Int} {b : Addr} {Q : VK} {E : XK} (F : FH H L) (m : (b, Box) ∈ L) (hu : 1 ≤ u ∧ u ≤ 65535) (hp : 1 ≤ p ∧ p ≤ 64) (k : ∀ H', FH H' L → Q (.bl true) H') : sp_kinds a [.int u, .int p, .ref b] H Q E := by
  refine in_kinds ?_
  repeat' walk_at "y 1"
  refine draw_ok (n := 4) (by assumption) (by walk_at "y mem") (by decide) (by decide) fun r H2 r0 r1 F2 => ?_
  clear F
  rcases (by omega : r = 0 ∨ r = 1 ∨ r = 2 ∨ r = 3) with rfl | rfl | rfl | rfl
  all_goals
    repeat' walk_at "y 1"
    refine draw_ok (n := 11) (by assumption) (by walk_at "y mem") (by decide) (by decide) fun r H3 r0 r1 F3 => ?_
    clear F2
    rcases (by omega : r = 0 ∨ r = 1 ∨ r = 2 ∨ r = 3 ∨ r = 4 ∨ r = 5 ∨ r = 6 ∨ r = 7 ∨ r = 8 ∨ r = 9 ∨ r = 10) with rfl | rfl | rfl | rfl | rfl | rfl | rfl | rfl | rfl | rfl | rfl
  all_goals
    repeat' walk_at "y 1"
    refine bad_ok F3 (by walk_at "y mem") (by decide) fun v X H4 bv F4 => ?_
    repeat' walk_at "y 1"
    refine stranger_odd F4 ?ow fun H5 F5 => ?_
    case ow =>
      first
        | exact .non
        | exact .int
        | exact .bl
        | exact .str _ (by decide +kernel) (by decide +kernel) (by decide +kernel) (by decide +kernel)
        | exact odw_lst (by walk_at "y mem") (by decide +kernel)
        | exact odw_tup (by walk_at "y mem") (by decide +kernel)
    repeat' walk_at "y 1"
    refine stranger_odd F5 ?ow fun H6 F6 => ?_
    case ow =>
      first
        | exact .non
        | exact .int
        | exact .bl
        | exact .str _ (by decide +kernel) (by decide +kernel) (by decide +kernel) (by decide +kernel)
        | exact odw_lst (by walk_at "y mem") (by decide +kernel)
        | exact odw_tup (by walk_at "y mem") (by decide +kernel)
    repeat' walk_at "y 1"
    first
      | refine stranger_bad (k0 := .fix) F6 (by simp) (Bad.sub bv (fun _ h => h) fun x hx => List.mem_append_left _ hx) fun H7 F7 => ?_
      | refine stranger_bad (k0 := .clb) F6 (by simp) (Bad.sub bv (fun _ h => h) fun x hx => List.mem_append_left _ hx) fun H7 F7 => ?_
      | refine stranger_bad (k0 := .crv) F6 (by simp) (Bad.sub bv (fun _ h => h) fun x hx => List.mem_append_left _ hx) fun H7 F7 => ?_
      | refine stranger_bad (k0 := .dly) F6 (by simp) (Bad.sub bv (fun _ h => h) fun x hx => List.mem_append_left _ hx) fun H7 F7 => ?_
    have G : FH H7 L := (F7.sub (List.sublist_append_right X _)).sub (by walk_at "y sub")
    clear F7 F6 F5 F4 F3 bv
    repeat' walk_at "y 1"
    first
      | (refine idx_fixed (by assumption) (by walk_at "y mem") ?_; repeat' walk_at "y 1"; refine control_of_ok (k0 := .fix) (by assumption) (by simp) hu fun e dx H8 F8 => ?_; repeat' walk_at "y 1"; refine fresh_k (k0 := .fix) (dx := dx) rfl F8 (by decide) hu hp List.mem_cons_self fun H9 F9 => ?_; exact k _ (FH.sub F9 (by walk_at "y sub")))
      | (refine idx_climb (by assumption) (by walk_at "y mem") ?_; repeat' walk_at "y 1"; refine control_of_ok (k0 := .clb) (by assumption) (by simp) hu fun e dx H8 F8 => ?_; repeat' walk_at "y 1"; refine fresh_k (k0 := .clb) (dx := dx) rfl F8 (by decide) hu hp List.mem_cons_self fun H9 F9 => ?_; exact k _ (FH.sub F9 (by walk_at "y sub")))
      | (refine idx_curve (by assumption) (by walk_at "y mem") ?_; repeat' walk_at "y 1"; refine control_of_ok (k0 := .crv) (by assumption) (by simp) hu fun e dx H8 F8 => ?_; repeat' walk_at "y 1"; refine fresh_k (k0 := .crv) (dx := dx) rfl F8 (by decide) hu hp List.mem_cons_self fun H9 F9 => ?_; exact k _ (FH.sub F9 (by walk_at "y sub")))
      | (refine idx_delay (by assumption) (by walk_at "y mem") ?_; repeat' walk_at "y 1"; refine control_of_ok (k0 := .dly) (by assumption) (by simp) hu fun e dx H8 F8 => ?_; repeat' walk_at "y 1"; refine fresh_k (k0 := .dly) (dx := dx) rfl F8 (by decide) hu hp List.mem_cons_self fun H9 F9 => ?_; exact k _ (FH.sub F9 (by walk_at "y sub")))

end
section
local macro_rules | `(tactic| walk_at "y bad") => `(tactic| first | assumption | (refine Bad.sub (by assumption) (fun _ h => h) ?_; intro x m; walk_at "y mem"))

local macro_rules | `(tactic| walk_at "y spec") => `(tactic| first
  | ((with_reducible refine' draw_ok ?F ?m ?hn ?hn2 ?_); (case F => assumption); (case m => walk_at "y mem"); (case hn => first | omega | (dsimp only; omega) | exact Int.emod_nonneg _ (by omega) | exact Int.emod_lt_of_pos _ (by omega)); (case hn2 => first | omega | (dsimp only; omega) | exact Int.emod_nonneg _ (by omega) | exact Int.emod_lt_of_pos _ (by omega)); intro _ _ _ _ _)
  | ((with_reducible refine' box_ok ?F ?_); (case F => assumption); intro _ _ _)
  | ((with_reducible refine whole_ok ?_))
  | ((with_reducible refine range_ok ?_))
  | ((with_reducible refine' check_ok ?h ?_); (case h => first | omega | (dsimp only; omega) | exact Int.emod_nonneg _ (by omega) | exact Int.emod_lt_of_pos _ (by omega)))
  | ((with_reducible refine' starting_ok ?F ?m ?hC ?_); (case F => assumption); (case m => walk_at "y mem"); (case hC => walk_at "y mem"))
  | ((with_reducible refine whole2_ok ?_))
  | ((with_reducible refine truth_ok ?_))
  | ((with_reducible refine' range_bad ?F ?b ?_); (case F => assumption); (case b => walk_at "y bad")))

theorem check_bad {a : Cl} {H : Hp} {L : List Ent} {v : V} {Q : VK} {E : XK} (F : FH H L) (b : Bad (fun i => i < 1 ∨ 65535 < i) L v) (k : ∀ d H', FH H' ((d, Is (.xd [("number", v)])) :: L) → E (.ref a.c_InvalidNumber) (some d) H') : sp_check_count a [v] H Q E := by
  refine in_check_count ?_
  walk_at "y"
  exact k _ _ (by assumption)
local macro_rules | `(tactic| walk_at "y spec") => `(tactic| ((with_reducible refine' check_bad ?F ?b ?_); (case F => assumption); (case b => walk_at "y bad"); intro _ _ _))
theorem grow_bad {a : Cl} {H : Hp} {L : List Ent} {k0 : Kd} {e dx : Addr} {u w t x : Int} {s : Bool} {v j : V} {g : Sp} {Q : VK} {E : XK} (F : FH H L) {z : Ext} (hz : z.b = none) (m : (e, Is (.ins (k0.cls a) dx (Bf u w t x s (k0.F z)))) ∈ L) (b : Bad (fun i => i < 1 ∨ 65535 < i) L v) (hg : g = (match k0 with | .ctl => sp_Control_grow a | .fix => sp_Fixed_grow a | .clb => sp_Climb_grow a | .crv => sp_Curve_grow a | .dly => sp_Delay_grow a)) (k : ∀ d H', FH H' ((d, Is (.xd [("number", v)])) :: L) → E (.ref a.c_InvalidNumber) (some d) H') : g [.ref e, v, j] H Q E := by
  subst hg
  cases k0
  all_goals
    simp only [Kd.cls, Kd.F, hz, oV] at m ⊢
    have mm : Mm _ L := ⟨m⟩
  · refine in_Control_grow ?_
    walk_at "y"
    exact k _ _ (by assumption)
  · refine in_Fixed_grow ?_
    walk_at "y"
    exact k _ _ (by assumption)
  · refine in_Climb_grow ?_
    walk_at "y"
    exact k _ _ (by assumption)
  · refine in_Curve_grow ?_
    walk_at "y"
    refine in_Climb_grow ?_
    walk_at "y"
    exact k _ _ (by assumption)
  · refine in_Delay_grow ?_
    walk_at "y"
    exact k _ _ (by assumption)
theorem ack_bad {a : Cl} {H : Hp} {L : List Ent} {k0 : Kd} {e dx : Addr} {u w t x : Int} {s : Bool} {v f j : V} {g : Sp} {Q : VK} {E : XK} (F : FH H L) {z : Ext} (hz : z.b = none) (m : (e, Is (.ins (k0.cls a) dx (Bf u w t x s (k0.F z)))) ∈ L) (b : Bad (fun i => i < 1 ∨ 65535 < i) L v) (hg : g = (match k0 with | .ctl => sp_Control_on_ack a | .fix => sp_Fixed_on_ack a | .clb => sp_Climb_on_ack a | .crv => sp_Curve_on_ack a | .dly => sp_Delay_on_ack a)) (k : ∀ d H', FH H' ((d, Is (.xd [("number", v)])) :: L) → E (.ref a.c_InvalidNumber) (some d) H') : g [.ref e, v, f, j] H Q E := by
  subst hg
  cases k0
  all_goals
    simp only [Kd.cls, Kd.F, hz, oV] at m ⊢
    have mm : Mm _ L := ⟨m⟩
  · refine in_Control_on_ack ?_
    walk_at "y"
    exact k _ _ (by assumption)
  · refine in_Fixed_on_ack ?_
    walk_at "y"
    exact k _ _ (by assumption)
  · refine in_Climb_on_ack ?_
    walk_at "y"
    refine in_Control_on_ack ?_
    walk_at "y"
    exact k _ _ (by assumption)
  · refine in_Curve_on_ack ?_
    walk_at "y"
    refine in_Climb_on_ack ?_
    walk_at "y"
    refine in_Control_on_ack ?_
    walk_at "y"
    exact k _ _ (by assumption)
  · refine in_Delay_on_ack ?_
    walk_at "y"
    refine in_Climb_on_ack ?_
    walk_at "y"
    refine in_Control_on_ack ?_
    walk_at "y"
    exact k _ _ (by assumption)
theorem refused_ok {a : Cl} {H : Hp} {L : List Ent} {k0 : Kd} {e dx : Addr} {u w t x : Int} {s g : Bool} {v j : V} {Q : VK} {E : XK} {z : Ext} (F : FH H L) (hz : z.b = none) (m : (e, Is (.ins (k0.cls a) dx (Bf u w t x s (k0.F z)))) ∈ L) (b : Bad (fun i => i < 1 ∨ 65535 < i) L v) (k : ∀ H', FH H' L → Q (.bl true) H') : sp_refused a [.ref e, v, .bl g, j] H Q E := by
  refine in_refused ?_
  cases g
  · cases k0
    · have m2 := m
      simp only [Kd.cls, Kd.F, hz, oV] at m2
      have mm : Mm _ L := ⟨m2⟩
      repeat' walk_at "y 1"
      refine ack_bad (k0 := .ctl) F hz m b rfl fun d H1 F1 => ?_
      clear F mm m m2
      cases b
      all_goals
        walk_at "y"
        exact k _ (FH.sub (by assumption) (by walk_at "y sub"))
    · have m2 := m
      simp only [Kd.cls, Kd.F, hz, oV] at m2
      have mm : Mm _ L := ⟨m2⟩
      repeat' walk_at "y 1"
      refine ack_bad (k0 := .fix) F hz m b rfl fun d H1 F1 => ?_
      clear F mm m m2
      cases b
      all_goals
        walk_at "y"
        exact k _ (FH.sub (by assumption) (by walk_at "y sub"))
    · have m2 := m
      simp only [Kd.cls, Kd.F, hz, oV] at m2
      have mm : Mm _ L := ⟨m2⟩
      repeat' walk_at "y 1"
      refine ack_bad (k0 := .clb) F hz m b rfl fun d H1 F1 => ?_
      clear F mm m m2
      cases b
      all_goals
        walk_at "y"
        exact k _ (FH.sub (by assumption) (by walk_at "y sub"))
    · have m2 := m
      simp only [Kd.cls, Kd.F, hz, oV] at m2
      have mm : Mm _ L := ⟨m2⟩
      repeat' walk_at "y 1"
      refine ack_bad (k0 := .crv) F hz m b rfl fun d H1 F1 => ?_
      clear F mm m m2
      cases b
      all_goals
        walk_at "y"
        exact k _ (FH.sub (by assumption) (by walk_at "y sub"))
    · have m2 := m
      simp only [Kd.cls, Kd.F, hz, oV] at m2
      have mm : Mm _ L := ⟨m2⟩
      repeat' walk_at "y 1"
      refine ack_bad (k0 := .dly) F hz m b rfl fun d H1 F1 => ?_
      clear F mm m m2
      cases b
      all_goals
        walk_at "y"
        exact k _ (FH.sub (by assumption) (by walk_at "y sub"))
  · cases k0
    · have m2 := m
      simp only [Kd.cls, Kd.F, hz, oV] at m2
      have mm : Mm _ L := ⟨m2⟩
      repeat' walk_at "y 1"
      refine grow_bad (k0 := .ctl) F hz m b rfl fun d H1 F1 => ?_
      clear F mm m m2
      cases b
      all_goals
        walk_at "y"
        exact k _ (FH.sub (by assumption) (by walk_at "y sub"))
    · have m2 := m
      simp only [Kd.cls, Kd.F, hz, oV] at m2
      have mm : Mm _ L := ⟨m2⟩
      repeat' walk_at "y 1"
      refine grow_bad (k0 := .fix) F hz m b rfl fun d H1 F1 => ?_
      clear F mm m m2
      cases b
      all_goals
        walk_at "y"
        exact k _ (FH.sub (by assumption) (by walk_at "y sub"))
    · have m2 := m
      simp only [Kd.cls, Kd.F, hz, oV] at m2
      have mm : Mm _ L := ⟨m2⟩
      repeat' walk_at "y 1"
      refine grow_bad (k0 := .clb) F hz m b rfl fun d H1 F1 => ?_
      clear F mm m m2
      cases b
      all_goals
        walk_at "y"
        exact k _ (FH.sub (by assumption) (by walk_at "y sub"))
    · have m2 := m
      simp only [Kd.cls, Kd.F, hz, oV] at m2
      have mm : Mm _ L := ⟨m2⟩
      repeat' walk_at "y 1"
      refine grow_bad (k0 := .crv) F hz m b rfl fun d H1 F1 => ?_
      clear F mm m m2
      cases b
      all_goals
        walk_at "y"
        exact k _ (FH.sub (by assumption) (by walk_at "y sub"))
    · have m2 := m
      simp only [Kd.cls, Kd.F, hz, oV] at m2
      have mm : Mm _ L := ⟨m2⟩
      repeat' walk_at "y 1"
      refine grow_bad (k0 := .dly) F hz m b rfl fun d H1 F1 => ?_
      clear F mm m m2
      cases b
      all_goals
        walk_at "y"
        exact k _ (FH.sub (by assumption) (by walk_at "y sub"))

end
section
local macro_rules | `(tactic| walk_at "y bad") => `(tactic| first | assumption | (refine Bad.sub (by assumption) (fun _ h => h) ?_; intro x m; walk_at "y mem"))

local macro_rules | `(tactic| walk_at "y spec") => `(tactic| first
  | ((with_reducible refine' draw_ok ?F ?m ?hn ?hn2 ?_); (case F => assumption); (case m => walk_at "y mem"); (case hn => first | omega | (dsimp only; omega) | exact Int.emod_nonneg _ (by omega) | exact Int.emod_lt_of_pos _ (by omega)); (case hn2 => first | omega | (dsimp only; omega) | exact Int.emod_nonneg _ (by omega) | exact Int.emod_lt_of_pos _ (by omega)); intro _ _ _ _ _)
  | ((with_reducible refine' box_ok ?F ?_); (case F => assumption); intro _ _ _)
  | ((with_reducible refine whole_ok ?_))
  | ((with_reducible refine range_ok ?_))
  | ((with_reducible refine' check_ok ?h ?_); (case h => first | omega | (dsimp only; omega) | exact Int.emod_nonneg _ (by omega) | exact Int.emod_lt_of_pos _ (by omega)))
  | ((with_reducible refine' starting_ok ?F ?m ?hC ?_); (case F => assumption); (case m => walk_at "y mem"); (case hC => walk_at "y mem"))
  | ((with_reducible refine whole2_ok ?_))
  | ((with_reducible refine truth_ok ?_))
  | ((with_reducible refine' range_bad ?F ?b ?_); (case F => assumption); (case b => walk_at "y bad")))

local macro_rules | `(tactic| walk_at "y bad") => `(tactic| first | assumption | (refine Bad.sub (by assumption) (fun _ h => h) ?_; intro x m; walk_at "y mem"))
local macro_rules | `(tactic| walk_at "y spec") => `(tactic| first
  | ((with_reducible refine' draw_ok ?F ?m ?hn ?hn2 ?_); (case F => assumption); (case m => walk_at "y mem"); (case hn => omega); (case hn2 => omega); intro _ _ _ _ _)
  | ((with_reducible refine' truth_ok ?_))
  | ((with_reducible refine' check_ok ?h ?_); (case h => omega))
  | ((with_reducible refine' starting_ok ?F ?m ?hC ?_); (case F => assumption); (case m => walk_at "y mem"); (case hC => walk_at "y mem"))
  | ((with_reducible refine' e_ctl ?F ?tk ?_); (case F => assumption); (case tk => walk_at "y take"); intro _ _)
  | ((with_reducible refine' e_fix ?F ?tk ?_); (case F => assumption); (case tk => walk_at "y take"); intro _ _)
  | ((with_reducible refine' e_clb ?F ?tk ?_); (case F => assumption); (case tk => walk_at "y take"); intro _ _)
  | ((with_reducible refine' e_crv (b := none) ?F ?tk ?_); (case F => assumption); (case tk => walk_at "y take"); intro _ _)
  | ((with_reducible refine' e_dly ?F ?tk ?_); (case F => assumption); (case tk => walk_at "y take"); intro _ _)
  | ((with_reducible refine' s_ctl ?_))
  | ((with_reducible refine' s_fix ?_))
  | ((with_reducible refine' s_clb ?F ?m ?_); (case F => assumption); (case m => walk_at "y mem"))
  | ((with_reducible refine' s_crv ?F ?m ?_); (case F => assumption); (case m => walk_at "y mem"))
  | ((with_reducible refine' s_dly ?F ?tk ?hl ?hf ?_); (case F => assumption); (case tk => walk_at "y take"); (case hl => omega); (case hf => omega); intro _ _ _ _ _)
  | ((with_reducible refine' l_ctl ?F ?tk ?_); (case F => assumption); (case tk => walk_at "y take"); intro _ _)
  | ((with_reducible refine' l_fix ?_))
  | ((with_reducible refine' l_clb ?F ?tk ?_); (case F => assumption); (case tk => walk_at "y take"); intro _ _)
  | ((with_reducible refine' l_crv (b := none) ?F ?tk ?hu ?hw ?_); (case F => assumption); (case tk => walk_at "y take"); (case hu => omega); (case hw => omega); intro _ _ _ _)
  | ((with_reducible refine' l_dly ?F ?tk ?_); (case F => assumption); (case tk => walk_at "y take"); intro _ _))

local instance : Unr := ⟨trivial⟩
theorem counts_ok {a : Cl} {H : Hp} {L : List Ent} {w u p : Int} {b : Addr} {Q : VK} {E : XK} (F : FH H L) (m : (b, Box) ∈ L) (h : 0 ≤ w ∧ w ≤ 10) (hu : 1 ≤ u ∧ u ≤ 65535) (hp : 1 ≤ p ∧ p ≤ 64) (k : ∀ H', FH H' L → Q (.bl true) H') : sp_counts a [.int w, .int u, .int p, .ref b] H Q E := by
  refine in_counts ?_
  repeat' walk_at "y 1"
  refine make_ok F h hu hp fun e dx H1 F1 => ?_
  clear F
  repeat' walk_at "y 1"
  refine draw_ok F1 (by walk_at "y mem") (by decide) (by decide) fun r H2 r0 r1 F2 => ?_
  clear F1
  repeat' walk_at "y 1"
  refine word_ok (by assumption) h fun H3 F3 => ?_
  clear F2
  have ht := tms_le (w := w) hp
  have hx := Int.mul_le_mul hu.2 ht.2 (by omega) (by decide)
  have hx1 : u ≤ u * tms w p := by
    have := Int.mul_le_mul_of_nonneg_left ht.1 (show 0 ≤ u by omega)
    omega
  generalize hk : kd w = k0 at F3
  cases k0
  · simp only [Kd.cls, Kd.F, oV, Kd.word] at F3 ⊢
    walk_at "y"
    rename_i F4
    try simp only [Bool.false_eq_true, if_false] at F4
    clear F3
    refine base_ok (k0 := .ctl) (z := z0) F4 (by walk_at "y mem") (by walk_at "y mem") ?_
    repeat' (first | walk_at "y 1" | walk_at "y if")
    refine bad_ok (by assumption) (by walk_at "y mem") (by decide) fun v X H5 bv F5 => ?_
    repeat' walk_at "y 1"
    refine refused_ok (k0 := .ctl) (z := z0) F5 rfl (List.mem_append_right _ (by walk_at "y mem")) (Bad.sub bv (fun _ h => h) fun x hx => List.mem_append_left _ hx) fun H5' G5 => ?_
    have F5' := G5.sub (List.sublist_append_right X _)
    clear F5 G5 bv
    repeat' walk_at "y 1"
    refine base_ok (k0 := .ctl) (z := z0) F5' (by walk_at "y mem") (by walk_at "y mem") ?_
    repeat' (first | walk_at "y 1" | walk_at "y if")
    refine bad_ok (by assumption) (by walk_at "y mem") (by decide) fun v X H6 bv F6 => ?_
    repeat' walk_at "y 1"
    refine refused_ok (k0 := .ctl) (z := z0) F6 rfl (List.mem_append_right _ (by walk_at "y mem")) (Bad.sub bv (fun _ h => h) fun x hx => List.mem_append_left _ hx) fun H6' G6 => ?_
    have F6' := G6.sub (List.sublist_append_right X _)
    clear F6 G6 bv
    repeat' walk_at "y 1"
    refine base_ok (k0 := .ctl) (z := z0) F6' (by walk_at "y mem") (by walk_at "y mem") ?_
    repeat' walk_at "y 1"
    refine g_ctl (by assumption) (by walk_at "y take") (by decide) hu (by omega) (by omega) fun w1 x1 H61 g1 G1 => ?_
    have l1 := g1.lo; have l2 := g1.hi; have l3 := g1.x0; have l4 := g1.x1
    repeat' (first | walk_at "y 1" | walk_at "y if" | (with_reducible refine truth_ok ?_))
    repeat' walk_at "y 1"
    refine g_ctl (by assumption) (by walk_at "y take") (by decide) hu (by omega) (by omega) fun w2 x2 H62 g2 G2 => ?_
    have l1 := g2.lo; have l2 := g2.hi; have l3 := g2.x0; have l4 := g2.x1
    repeat' (first | walk_at "y 1" | walk_at "y if" | (with_reducible refine truth_ok ?_))
    refine draw2_ok (by assumption) (by walk_at "y mem") (fun H9 F9 => ?_) fun H9 F9 => ?_
    all_goals
      repeat' walk_at "y 1"
      refine a_ctl (by assumption) (by walk_at "y take") (by decide) hu (by omega) (by omega) fun w3 x3 H7 g7 F7 => ?_
      walk_at "y"
      exact k _ (FH.sub (by assumption) (by walk_at "y sub"))
  · simp only [Kd.cls, Kd.F, oV, Kd.word] at F3 ⊢
    walk_at "y"
    refine times_ok h ?_
    have hT := hx
    walk_at "y"
    rename_i F4
    try simp only [Bool.false_eq_true, if_false] at F4
    clear F3
    refine base_ok (k0 := .fix) (z := z0) F4 (by walk_at "y mem") (by walk_at "y mem") ?_
    repeat' (first | walk_at "y 1" | walk_at "y if")
    refine bad_ok (by assumption) (by walk_at "y mem") (by decide) fun v X H5 bv F5 => ?_
    repeat' walk_at "y 1"
    refine refused_ok (k0 := .fix) (z := z0) F5 rfl (List.mem_append_right _ (by walk_at "y mem")) (Bad.sub bv (fun _ h => h) fun x hx => List.mem_append_left _ hx) fun H5' G5 => ?_
    have F5' := G5.sub (List.sublist_append_right X _)
    clear F5 G5 bv
    repeat' walk_at "y 1"
    refine base_ok (k0 := .fix) (z := z0) F5' (by walk_at "y mem") (by walk_at "y mem") ?_
    repeat' (first | walk_at "y 1" | walk_at "y if")
    refine bad_ok (by assumption) (by walk_at "y mem") (by decide) fun v X H6 bv F6 => ?_
    repeat' walk_at "y 1"
    refine refused_ok (k0 := .fix) (z := z0) F6 rfl (List.mem_append_right _ (by walk_at "y mem")) (Bad.sub bv (fun _ h => h) fun x hx => List.mem_append_left _ hx) fun H6' G6 => ?_
    have F6' := G6.sub (List.sublist_append_right X _)
    clear F6 G6 bv
    repeat' walk_at "y 1"
    refine base_ok (k0 := .fix) (z := z0) F6' (by walk_at "y mem") (by walk_at "y mem") ?_
    repeat' walk_at "y 1"
    refine g_fix (by assumption) (by walk_at "y take") (by decide) hu (by omega) (by omega) fun w1 x1 H61 g1 G1 => ?_
    have l1 := g1.lo; have l2 := g1.hi; have l3 := g1.x0; have l4 := g1.x1
    repeat' (first | walk_at "y 1" | walk_at "y if" | (with_reducible refine truth_ok ?_))
    repeat' walk_at "y 1"
    refine g_fix (by assumption) (by walk_at "y take") (by decide) hu (by omega) (by omega) fun w2 x2 H62 g2 G2 => ?_
    have l1 := g2.lo; have l2 := g2.hi; have l3 := g2.x0; have l4 := g2.x1
    repeat' (first | walk_at "y 1" | walk_at "y if" | (with_reducible refine truth_ok ?_))
    refine draw2_ok (by assumption) (by walk_at "y mem") (fun H9 F9 => ?_) fun H9 F9 => ?_
    all_goals
      repeat' walk_at "y 1"
      refine a_fix (by assumption) (by walk_at "y take") (by decide) hu (by omega) (by omega) fun w3 x3 H7 g7 F7 => ?_
      walk_at "y"
      exact k _ (FH.sub (by assumption) (by walk_at "y sub"))
  · simp only [Kd.cls, Kd.F, oV, Kd.word] at F3 ⊢
    walk_at "y"
    rename_i F4
    try simp only [Bool.false_eq_true, if_false] at F4
    clear F3
    refine base_ok (k0 := .clb) (z := z0) F4 (by walk_at "y mem") (by walk_at "y mem") ?_
    repeat' (first | walk_at "y 1" | walk_at "y if")
    refine bad_ok (by assumption) (by walk_at "y mem") (by decide) fun v X H5 bv F5 => ?_
    repeat' walk_at "y 1"
    refine refused_ok (k0 := .clb) (z := z0) F5 rfl (List.mem_append_right _ (by walk_at "y mem")) (Bad.sub bv (fun _ h => h) fun x hx => List.mem_append_left _ hx) fun H5' G5 => ?_
    have F5' := G5.sub (List.sublist_append_right X _)
    clear F5 G5 bv
    repeat' walk_at "y 1"
    refine base_ok (k0 := .clb) (z := z0) F5' (by walk_at "y mem") (by walk_at "y mem") ?_
    repeat' (first | walk_at "y 1" | walk_at "y if")
    refine bad_ok (by assumption) (by walk_at "y mem") (by decide) fun v X H6 bv F6 => ?_
    repeat' walk_at "y 1"
    refine refused_ok (k0 := .clb) (z := z0) F6 rfl (List.mem_append_right _ (by walk_at "y mem")) (Bad.sub bv (fun _ h => h) fun x hx => List.mem_append_left _ hx) fun H6' G6 => ?_
    have F6' := G6.sub (List.sublist_append_right X _)
    clear F6 G6 bv
    repeat' walk_at "y 1"
    refine base_ok (k0 := .clb) (z := z0) F6' (by walk_at "y mem") (by walk_at "y mem") ?_
    repeat' walk_at "y 1"
    refine g_clb (by assumption) (by walk_at "y take") (by decide) hu (by omega) (by omega) fun w1 x1 H61 g1 G1 => ?_
    have l1 := g1.lo; have l2 := g1.hi; have l3 := g1.x0; have l4 := g1.x1
    repeat' (first | walk_at "y 1" | walk_at "y if" | (with_reducible refine truth_ok ?_))
    repeat' walk_at "y 1"
    refine g_clb (by assumption) (by walk_at "y take") (by decide) hu (by omega) (by omega) fun w2 x2 H62 g2 G2 => ?_
    have l1 := g2.lo; have l2 := g2.hi; have l3 := g2.x0; have l4 := g2.x1
    repeat' (first | walk_at "y 1" | walk_at "y if" | (with_reducible refine truth_ok ?_))
    refine draw2_ok (by assumption) (by walk_at "y mem") (fun H9 F9 => ?_) fun H9 F9 => ?_
    all_goals
      repeat' walk_at "y 1"
      refine a_clb (by assumption) (by walk_at "y take") (by decide) hu (by omega) (by omega) fun w3 x3 H7 g7 F7 => ?_
      walk_at "y"
      exact k _ (FH.sub (by assumption) (by walk_at "y sub"))
  · simp only [Kd.cls, Kd.F, oV, Kd.word] at F3 ⊢
    walk_at "y"
    rename_i F4
    try simp only [Bool.false_eq_true, if_false] at F4
    clear F3
    refine base_ok (k0 := .crv) (z := ⟨_, 0, none, 0, 0, 0⟩) F4 (by walk_at "y mem") (by walk_at "y mem") ?_
    repeat' (first | walk_at "y 1" | walk_at "y if")
    refine bad_ok (by assumption) (by walk_at "y mem") (by decide) fun v X H5 bv F5 => ?_
    repeat' walk_at "y 1"
    refine refused_ok (k0 := .crv) (z := ⟨_, 0, none, 0, 0, 0⟩) F5 rfl (List.mem_append_right _ (by walk_at "y mem")) (Bad.sub bv (fun _ h => h) fun x hx => List.mem_append_left _ hx) fun H5' G5 => ?_
    have F5' := G5.sub (List.sublist_append_right X _)
    clear F5 G5 bv
    repeat' walk_at "y 1"
    refine base_ok (k0 := .crv) (z := ⟨_, 0, none, 0, 0, 0⟩) F5' (by walk_at "y mem") (by walk_at "y mem") ?_
    repeat' (first | walk_at "y 1" | walk_at "y if")
    refine bad_ok (by assumption) (by walk_at "y mem") (by decide) fun v X H6 bv F6 => ?_
    repeat' walk_at "y 1"
    refine refused_ok (k0 := .crv) (z := ⟨_, 0, none, 0, 0, 0⟩) F6 rfl (List.mem_append_right _ (by walk_at "y mem")) (Bad.sub bv (fun _ h => h) fun x hx => List.mem_append_left _ hx) fun H6' G6 => ?_
    have F6' := G6.sub (List.sublist_append_right X _)
    clear F6 G6 bv
    repeat' walk_at "y 1"
    refine base_ok (k0 := .crv) (z := ⟨_, 0, none, 0, 0, 0⟩) F6' (by walk_at "y mem") (by walk_at "y mem") ?_
    repeat' walk_at "y 1"
    refine g_crv (b := none) (by assumption) (by walk_at "y take") (by decide) hu (by omega) (by omega) ⟨by dsimp only; omega, by dsimp only; omega, fun _ h => nomatch h⟩ fun w1 x1 H61 g1 G1 => ?_
    have l1 := g1.lo; have l2 := g1.hi; have l3 := g1.x0; have l4 := g1.x1
    repeat' (first | walk_at "y 1" | walk_at "y if" | (with_reducible refine truth_ok ?_))
    repeat' walk_at "y 1"
    refine g_crv (b := none) (by assumption) (by walk_at "y take") (by decide) hu (by omega) (by omega) ⟨by dsimp only; omega, by dsimp only; omega, fun _ h => nomatch h⟩ fun w2 x2 H62 g2 G2 => ?_
    have l1 := g2.lo; have l2 := g2.hi; have l3 := g2.x0; have l4 := g2.x1
    repeat' (first | walk_at "y 1" | walk_at "y if" | (with_reducible refine truth_ok ?_))
    refine draw2_ok (by assumption) (by walk_at "y mem") (fun H9 F9 => ?_) fun H9 F9 => ?_
    all_goals
      repeat' walk_at "y 1"
      refine a_crv (b := none) (by assumption) (by walk_at "y take") (by decide) hu (by omega) (by omega) ⟨by dsimp only; omega, by dsimp only; omega, fun _ h => nomatch h⟩ fun w3 x3 H7 g7 F7 => ?_
      walk_at "y"
      exact k _ (FH.sub (by assumption) (by walk_at "y sub"))
  · simp only [Kd.cls, Kd.F, oV, Kd.word] at F3 ⊢
    walk_at "y"
    rename_i F4
    try simp only [Bool.false_eq_true, if_false] at F4
    clear F3
    refine base_ok (k0 := .dly) (z := z0) F4 (by walk_at "y mem") (by walk_at "y mem") ?_
    repeat' (first | walk_at "y 1" | walk_at "y if")
    refine bad_ok (by assumption) (by walk_at "y mem") (by decide) fun v X H5 bv F5 => ?_
    repeat' walk_at "y 1"
    refine refused_ok (k0 := .dly) (z := z0) F5 rfl (List.mem_append_right _ (by walk_at "y mem")) (Bad.sub bv (fun _ h => h) fun x hx => List.mem_append_left _ hx) fun H5' G5 => ?_
    have F5' := G5.sub (List.sublist_append_right X _)
    clear F5 G5 bv
    repeat' walk_at "y 1"
    refine base_ok (k0 := .dly) (z := z0) F5' (by walk_at "y mem") (by walk_at "y mem") ?_
    repeat' (first | walk_at "y 1" | walk_at "y if")
    refine bad_ok (by assumption) (by walk_at "y mem") (by decide) fun v X H6 bv F6 => ?_
    repeat' walk_at "y 1"
    refine refused_ok (k0 := .dly) (z := z0) F6 rfl (List.mem_append_right _ (by walk_at "y mem")) (Bad.sub bv (fun _ h => h) fun x hx => List.mem_append_left _ hx) fun H6' G6 => ?_
    have F6' := G6.sub (List.sublist_append_right X _)
    clear F6 G6 bv
    repeat' walk_at "y 1"
    refine base_ok (k0 := .dly) (z := z0) F6' (by walk_at "y mem") (by walk_at "y mem") ?_
    repeat' walk_at "y 1"
    refine g_dly (by assumption) (by walk_at "y take") (by decide) hu (by omega) (by omega) (by decide) fun w1 x1 H61 g1 G1 => ?_
    have l1 := g1.lo; have l2 := g1.hi; have l3 := g1.x0; have l4 := g1.x1
    repeat' (first | walk_at "y 1" | walk_at "y if" | (with_reducible refine truth_ok ?_))
    repeat' walk_at "y 1"
    refine g_dly (by assumption) (by walk_at "y take") (by decide) hu (by omega) (by omega) (by decide) fun w2 x2 H62 g2 G2 => ?_
    have l1 := g2.lo; have l2 := g2.hi; have l3 := g2.x0; have l4 := g2.x1
    repeat' (first | walk_at "y 1" | walk_at "y if" | (with_reducible refine truth_ok ?_))
    refine draw2_ok (by assumption) (by walk_at "y mem") (fun H9 F9 => ?_) fun H9 F9 => ?_
    all_goals
      repeat' walk_at "y 1"
      refine a_dly (by assumption) (by walk_at "y take") (by decide) hu (by omega) (by omega) (by decide) fun w3 x3 H7 g7 F7 => ?_
      walk_at "y"
      exact k _ (FH.sub (by assumption) (by walk_at "y sub"))

end
section
theorem question_ok {a : Cl} {H : Hp} {L : List Ent} {b : Addr} {Q : VK} {E : XK} (F : FH H L) (m : (b, Box) ∈ L) (k : ∀ H', FH H' L → Q (.bl true) H') : sp_question a [.ref b] H Q E := by
  refine in_question ?_
  repeat' walk_at "y 1"
  refine draw_ok F m (by decide) (by decide) fun w H1 w0 w1 F1 => ?_
  clear F
  repeat' walk_at "y 1"
  refine draw_ok F1 m (by decide) (by decide) fun c H2 c0 c1 F2 => ?_
  clear F1
  repeat' walk_at "y 1"
  refine unit_ok F2 m fun u H3 hu F3 => ?_
  clear F2
  repeat' walk_at "y 1"
  refine draw_ok F3 m (by decide) (by decide) fun p H4 p0 p1 F4 => ?_
  clear F3
  repeat' walk_at "y 1"
  have h : 0 ≤ w ∧ w ≤ 10 := by omega
  have hp : 1 ≤ 1 + p ∧ 1 + p ≤ 64 := by omega
  refine make_ok F4 h hu hp fun e dx H5 F5 => ?_
  clear F4
  repeat' walk_at "y 1"
  refine fresh_ok F5 h hu hp List.mem_cons_self fun H6 F6 => ?_
  have F7 : FH H6 L := F6.tail
  clear F5 F6
  repeat' (first | walk_at "y 1" | walk_at "y if")
  · exact apart_ok F7 m h hu hp k
  · exact units_ok F7 m h hp k
  · exact pieces_ok F7 m hu hp k
  · exact kinds_ok F7 m hu hp k
  · exact counts_ok F7 m h hu hp k
theorem law_ok {a : Cl} {H : Hp} {q : Addr} {ns : List Int} {L : List Ent} {Q : VK} {E : XK} (F : FH H L) (m : Src a.S L q (ns.map V.int)) (hl : ns.length ≤ 63) (k : ∀ H', Q (.bl true) H') : sp_law a [.ref q] H Q E := by
  refine in_law ?_
  repeat' walk_at "y 1"
  refine names_ok F fun H1 F1 => ?_
  clear F
  repeat' walk_at "y 1"
  refine rounds_ok F1 m hl fun n hn => ?_
  repeat' walk_at "y 1"
  refine forG (fun i σ H => (∃ y1, σ = [some (.ref q), y1]) ∧ FH H L) (by omega) (by omega) ⟨⟨_, rfl⟩, F1⟩ ?_ ?_
  · clear F1
    intro i σ H hi ⟨⟨y1, e⟩, F⟩
    subst e
    repeat' walk_at "y 1"
    refine cell_ok F m (by omega) fun c H2 F2 => ?_
    clear F
    repeat' walk_at "y 1"
    refine box_ok F2 fun b H3 F3 => ?_
    clear F2
    repeat' walk_at "y 1"
    refine question_ok F3 List.mem_cons_self fun H4 F4 => ?_
    clear F3
    repeat' walk_at "y 1"
    exact ⟨⟨_, rfl⟩, F4.tail⟩
  · clear F1
    intro σ H ⟨⟨y1, e⟩, F⟩
    subst e
    repeat' walk_at "y 1"
    exact names_ok F fun H1 F1 => k H1
theorem law_holds (a : Cl) {K : PySem.W.Frag} (st : a.S = SK K) (vs : List V) (H : Hp) (Q : VK) (E : XK) (h : ∃ (p : Addr) (ns : List Int), vs = [.ref p] ∧ SqL K H p (ns.map V.int) ∧ ns.length ≤ 63 ∧ Only H ∧ ∀ H', Q (.bl true) H') : sp_law a vs H Q E := by
  obtain ⟨p, ns, rfl, hS, hl, hO, k⟩ := h
  obtain ⟨L, F, m⟩ := src_of st hS
  exact law_ok F m hl k

end
/-! ### the text, by places -/
abbrev top (i : Nat) : Stmt := PySem.Challenge.pw_lossway_k24_controls_made.main.body.getD i (.Pass ⟨0, 0, 0, 0⟩)
structure Ad extends Cl where
  f_whole : Addr
  d_whole : FuncData
  f_names : Addr
  d_names : FuncData
  f_rounds : Addr
  d_rounds : FuncData
  f_draw : Addr
  d_draw : FuncData
  f_unit : Addr
  d_unit : FuncData
  f_word : Addr
  d_word : FuncData
  f_classed : Addr
  d_classed : FuncData
  f_truth : Addr
  d_truth : FuncData
  f_Control_starting : Addr
  d_Control_starting : FuncData
  f_base : Addr
  d_base : FuncData
  f_times : Addr
  d_times : FuncData
  f_fresh : Addr
  d_fresh : FuncData
  f_is_whole : Addr
  d_is_whole : FuncData
  f_in_range : Addr
  d_in_range : FuncData
  f_Control___init__ : Addr
  d_Control___init__ : FuncData
  f_Fixed___init__ : Addr
  d_Fixed___init__ : FuncData
  f_Climb___init__ : Addr
  d_Climb___init__ : FuncData
  f_Curve___init__ : Addr
  d_Curve___init__ : FuncData
  f_Delay___init__ : Addr
  d_Delay___init__ : FuncData
  f_control_of : Addr
  d_control_of : FuncData
  f_make : Addr
  d_make : FuncData
  f_Control_on_expiry : Addr
  d_Control_on_expiry : FuncData
  f_Fixed_on_expiry : Addr
  d_Fixed_on_expiry : FuncData
  f_Climb_on_expiry : Addr
  d_Climb_on_expiry : FuncData
  f_Curve_on_expiry : Addr
  d_Curve_on_expiry : FuncData
  f_Delay_on_expiry : Addr
  d_Delay_on_expiry : FuncData
  f_Control_on_sample : Addr
  d_Control_on_sample : FuncData
  f_Fixed_on_sample : Addr
  d_Fixed_on_sample : FuncData
  f_Climb_on_sample : Addr
  d_Climb_on_sample : FuncData
  f_Curve_on_sample : Addr
  d_Curve_on_sample : FuncData
  f_Delay_on_sample : Addr
  d_Delay_on_sample : FuncData
  f_Control_on_loss : Addr
  d_Control_on_loss : FuncData
  f_Fixed_on_loss : Addr
  d_Fixed_on_loss : FuncData
  f_Climb_on_loss : Addr
  d_Climb_on_loss : FuncData
  f_curve_span : Addr
  d_curve_span : FuncData
  f_Curve_on_loss : Addr
  d_Curve_on_loss : FuncData
  f_Delay_on_loss : Addr
  d_Delay_on_loss : FuncData
  f_apart : Addr
  d_apart : FuncData
  f_bad : Addr
  d_bad : FuncData
  f_refusal : Addr
  d_refusal : FuncData
  f_units : Addr
  d_units : FuncData
  f_pieces : Addr
  d_pieces : FuncData
  f_stranger : Addr
  d_stranger : FuncData
  f_kinds : Addr
  d_kinds : FuncData
  f_check_count : Addr
  d_check_count : FuncData
  f_Control_grow : Addr
  d_Control_grow : FuncData
  f_Fixed_grow : Addr
  d_Fixed_grow : FuncData
  f_Climb_grow : Addr
  d_Climb_grow : FuncData
  f_Curve_grow : Addr
  d_Curve_grow : FuncData
  f_Delay_surplus : Addr
  d_Delay_surplus : FuncData
  f_Delay_grow : Addr
  d_Delay_grow : FuncData
  f_Control_on_ack : Addr
  d_Control_on_ack : FuncData
  f_Fixed_on_ack : Addr
  d_Fixed_on_ack : FuncData
  f_Climb_on_ack : Addr
  d_Climb_on_ack : FuncData
  f_Curve_on_ack : Addr
  d_Curve_on_ack : FuncData
  f_Delay_on_ack : Addr
  d_Delay_on_ack : FuncData
  f_refused : Addr
  d_refused : FuncData
  f_counts : Addr
  d_counts : FuncData
  f_question : Addr
  d_question : FuncData
  f_box : Addr
  d_box : FuncData
  f_cell : Addr
  d_cell : FuncData
  f_law : Addr
  d_law : FuncData
  f_InvalidSetting___init__ : Addr
  d_InvalidSetting___init__ : FuncData
  f_InvalidNumber___init__ : Addr
  d_InvalidNumber___init__ : FuncData
  mc_Control : Value
  mc_Fixed : Value
  mc_Climb : Value
  mc_Curve : Value
  mc_Delay : Value
structure Txt (P : Program) (K : PySem.W.Frag) (mg : Str → Option Value) (a : Ad) : Prop where
  st : a.S = SK K
  no_isinstance : mg "isinstance" = none
  no_tuple : mg "tuple" = none
  mg_KINDS : mg "KINDS" = some (.ref a.g_KINDS)
  no_len : mg "len" = none
  no_str : mg "str" = none
  no_list : mg "list" = none
  mg_Control : mg "Control" = some (.ref a.c_Control)
  cr_Control : ClX.CRead K a.c_Control a.mc_Control
  cv_Control_KIND : ∃ t, ClX.CVal K a.c_Control a.mc_Control "KIND" (.str "base") (.str "base" t)
  mg_Fixed : mg "Fixed" = some (.ref a.c_Fixed)
  cr_Fixed : ClX.CRead K a.c_Fixed a.mc_Fixed
  cv_Fixed_KIND : ∃ t, ClX.CVal K a.c_Fixed a.mc_Fixed "KIND" (.str "fixed") (.str "fixed" t)
  mg_Climb : mg "Climb" = some (.ref a.c_Climb)
  cr_Climb : ClX.CRead K a.c_Climb a.mc_Climb
  cv_Climb_KIND : ∃ t, ClX.CVal K a.c_Climb a.mc_Climb "KIND" (.str "climb") (.str "climb" t)
  mg_Curve : mg "Curve" = some (.ref a.c_Curve)
  cr_Curve : ClX.CRead K a.c_Curve a.mc_Curve
  cv_Curve_KIND : ∃ t, ClX.CVal K a.c_Curve a.mc_Curve "KIND" (.str "curve") (.str "curve" t)
  mg_Delay : mg "Delay" = some (.ref a.c_Delay)
  cr_Delay : ClX.CRead K a.c_Delay a.mc_Delay
  cv_Delay_KIND : ∃ t, ClX.CVal K a.c_Delay a.mc_Delay "KIND" (.str "delay") (.str "delay" t)
  no_int : mg "int" = none
  no_bool : mg "bool" = none
  mg_whole : mg "_law_whole" = some (.ref a.f_whole)
  bd_whole : Binds K a.d_whole ["_law_value", "_law_wanted"] []
  cv_Control_GREATEST : ∃ t, ClX.CVal K a.c_Control a.mc_Control "GREATEST" (.int 4194304) (.int 4194304 t)
  fn_whole : Fun K "_law_whole" "_law_whole" (top 27) a.f_whole a.d_whole
  mg_names : mg "_law_names" = some (.ref a.f_names)
  bd_names : Binds K a.d_names [] []
  fn_names : Fun K "_law_names" "_law_names" (top 44) a.f_names a.d_names
  no_range : mg "range" = none
  no_min : mg "min" = none
  no_max : mg "max" = none
  mg_rounds : mg "_law_rounds" = some (.ref a.f_rounds)
  bd_rounds : Binds K a.d_rounds ["_law_script"] []
  fn_rounds : Fun K "_law_rounds" "_law_rounds" (top 23) a.f_rounds a.d_rounds
  mg_draw : mg "_law_draw" = some (.ref a.f_draw)
  bd_draw : Binds K a.d_draw ["_law_box_here", "_law_size"] []
  fn_draw : Fun K "_law_draw" "_law_draw" (top 25) a.f_draw a.d_draw
  mg_unit : mg "_law_unit" = some (.ref a.f_unit)
  bd_unit : Binds K a.d_unit ["_law_box_here"] []
  fn_unit : Fun K "_law_unit" "_law_unit" (top 26) a.f_unit a.d_unit
  mg_word : mg "_law_word" = some (.ref a.f_word)
  bd_word : Binds K a.d_word ["_law_which"] []
  fn_word : Fun K "_law_word" "_law_word" (top 31) a.f_word a.d_word
  io_Delay_Control : IsOb K a.c_Control (a.c_Delay, true)
  io_Curve_Control : IsOb K a.c_Control (a.c_Curve, true)
  io_Climb_Control : IsOb K a.c_Control (a.c_Climb, true)
  io_Fixed_Control : IsOb K a.c_Control (a.c_Fixed, true)
  io_Control_Control : IsOb K a.c_Control (a.c_Control, true)
  io_Delay_Fixed : IsOb K a.c_Fixed (a.c_Delay, false)
  io_Curve_Fixed : IsOb K a.c_Fixed (a.c_Curve, false)
  io_Climb_Fixed : IsOb K a.c_Fixed (a.c_Climb, false)
  io_Fixed_Fixed : IsOb K a.c_Fixed (a.c_Fixed, true)
  io_Control_Fixed : IsOb K a.c_Fixed (a.c_Control, false)
  io_Delay_Climb : IsOb K a.c_Climb (a.c_Delay, true)
  io_Curve_Climb : IsOb K a.c_Climb (a.c_Curve, true)
  io_Climb_Climb : IsOb K a.c_Climb (a.c_Climb, true)
  io_Fixed_Climb : IsOb K a.c_Climb (a.c_Fixed, false)
  io_Control_Climb : IsOb K a.c_Climb (a.c_Control, false)
  io_Delay_Curve : IsOb K a.c_Curve (a.c_Delay, false)
  io_Curve_Curve : IsOb K a.c_Curve (a.c_Curve, true)
  io_Climb_Curve : IsOb K a.c_Curve (a.c_Climb, false)
  io_Fixed_Curve : IsOb K a.c_Curve (a.c_Fixed, false)
  io_Control_Curve : IsOb K a.c_Curve (a.c_Control, false)
  io_Delay_Delay : IsOb K a.c_Delay (a.c_Delay, true)
  io_Curve_Delay : IsOb K a.c_Delay (a.c_Curve, false)
  io_Climb_Delay : IsOb K a.c_Delay (a.c_Climb, false)
  io_Fixed_Delay : IsOb K a.c_Delay (a.c_Fixed, false)
  io_Control_Delay : IsOb K a.c_Delay (a.c_Control, false)
  ic_Delay_KIND : ConD K "KIND" (a.c_Delay, .str "delay")
  ic_Curve_KIND : ConD K "KIND" (a.c_Curve, .str "curve")
  ic_Climb_KIND : ConD K "KIND" (a.c_Climb, .str "climb")
  ic_Fixed_KIND : ConD K "KIND" (a.c_Fixed, .str "fixed")
  ic_Control_KIND : ConD K "KIND" (a.c_Control, .str "base")
  mg_classed : mg "_law_classed" = some (.ref a.f_classed)
  bd_classed : Binds K a.d_classed ["_law_control", "_law_word_here"] []
  fn_classed : Fun K "_law_classed" "_law_classed" (top 33) a.f_classed a.d_classed
  cl_Delay : Cls K a.c_Delay
  na_Delay_unit : NoAttr K a.c_Delay "unit"
  cl_Curve : Cls K a.c_Curve
  na_Curve_unit : NoAttr K a.c_Curve "unit"
  cl_Climb : Cls K a.c_Climb
  na_Climb_unit : NoAttr K a.c_Climb "unit"
  cl_Fixed : Cls K a.c_Fixed
  na_Fixed_unit : NoAttr K a.c_Fixed "unit"
  cl_Control : Cls K a.c_Control
  na_Control_unit : NoAttr K a.c_Control "unit"
  na_Delay_window : NoAttr K a.c_Delay "window"
  na_Curve_window : NoAttr K a.c_Curve "window"
  na_Climb_window : NoAttr K a.c_Climb "window"
  na_Fixed_window : NoAttr K a.c_Fixed "window"
  na_Control_window : NoAttr K a.c_Control "window"
  na_Delay_threshold : NoAttr K a.c_Delay "threshold"
  na_Curve_threshold : NoAttr K a.c_Curve "threshold"
  na_Climb_threshold : NoAttr K a.c_Climb "threshold"
  na_Fixed_threshold : NoAttr K a.c_Fixed "threshold"
  na_Control_threshold : NoAttr K a.c_Control "threshold"
  na_Delay_credit : NoAttr K a.c_Delay "credit"
  na_Curve_credit : NoAttr K a.c_Curve "credit"
  na_Climb_credit : NoAttr K a.c_Climb "credit"
  na_Fixed_credit : NoAttr K a.c_Fixed "credit"
  na_Control_credit : NoAttr K a.c_Control "credit"
  mg_truth : mg "_law_truth" = some (.ref a.f_truth)
  bd_truth : Binds K a.d_truth ["_law_value", "_law_wanted"] []
  na_Delay_stalled : NoAttr K a.c_Delay "stalled"
  na_Curve_stalled : NoAttr K a.c_Curve "stalled"
  na_Climb_stalled : NoAttr K a.c_Climb "stalled"
  na_Fixed_stalled : NoAttr K a.c_Fixed "stalled"
  na_Control_stalled : NoAttr K a.c_Control "stalled"
  fn_truth : Fun K "_law_truth" "_law_truth" (top 28) a.f_truth a.d_truth
  pd_Delay_starting : ∃ p, PropOf K a.c_Delay "starting" p a.f_Control_starting
  bd_Control_starting : Binds K a.d_Control_starting ["self"] []
  pd_Curve_starting : ∃ p, PropOf K a.c_Curve "starting" p a.f_Control_starting
  pd_Climb_starting : ∃ p, PropOf K a.c_Climb "starting" p a.f_Control_starting
  pd_Fixed_starting : ∃ p, PropOf K a.c_Fixed "starting" p a.f_Control_starting
  pd_Control_starting : ∃ p, PropOf K a.c_Control "starting" p a.f_Control_starting
  mg_base : mg "_law_base" = some (.ref a.f_base)
  bd_base : Binds K a.d_base ["_law_control", "_law_state"] []
  mg_times : mg "_law_times" = some (.ref a.f_times)
  bd_times : Binds K a.d_times ["_law_which", "_law_pieces_here"] []
  fn_times : Fun K "_law_times" "_law_times" (top 32) a.f_times a.d_times
  fn_base : Fun K "_law_base" "_law_base" (top 29) a.f_base a.d_base
  na_Delay_peak : NoAttr K a.c_Delay "peak"
  na_Curve_peak : NoAttr K a.c_Curve "peak"
  na_Climb_peak : NoAttr K a.c_Climb "peak"
  na_Fixed_peak : NoAttr K a.c_Fixed "peak"
  na_Control_peak : NoAttr K a.c_Control "peak"
  na_Delay_span : NoAttr K a.c_Delay "span"
  na_Curve_span : NoAttr K a.c_Curve "span"
  na_Climb_span : NoAttr K a.c_Climb "span"
  na_Fixed_span : NoAttr K a.c_Fixed "span"
  na_Control_span : NoAttr K a.c_Control "span"
  na_Delay_born : NoAttr K a.c_Delay "born"
  na_Curve_born : NoAttr K a.c_Curve "born"
  na_Climb_born : NoAttr K a.c_Climb "born"
  na_Fixed_born : NoAttr K a.c_Fixed "born"
  na_Control_born : NoAttr K a.c_Control "born"
  na_Delay_least : NoAttr K a.c_Delay "least"
  na_Curve_least : NoAttr K a.c_Curve "least"
  na_Climb_least : NoAttr K a.c_Climb "least"
  na_Fixed_least : NoAttr K a.c_Fixed "least"
  na_Control_least : NoAttr K a.c_Control "least"
  na_Delay_latest : NoAttr K a.c_Delay "latest"
  na_Curve_latest : NoAttr K a.c_Curve "latest"
  na_Climb_latest : NoAttr K a.c_Climb "latest"
  na_Fixed_latest : NoAttr K a.c_Fixed "latest"
  na_Control_latest : NoAttr K a.c_Control "latest"
  na_Delay_samples : NoAttr K a.c_Delay "samples"
  na_Curve_samples : NoAttr K a.c_Curve "samples"
  na_Climb_samples : NoAttr K a.c_Climb "samples"
  na_Fixed_samples : NoAttr K a.c_Fixed "samples"
  na_Control_samples : NoAttr K a.c_Control "samples"
  mg_fresh : mg "_law_fresh" = some (.ref a.f_fresh)
  bd_fresh : Binds K a.d_fresh ["_law_control", "_law_which", "_law_unit_here", "_law_pieces_here"] []
  mg_is_whole : mg "is_whole" = some (.ref a.f_is_whole)
  bd_is_whole : Binds K a.d_is_whole ["value"] []
  fn_is_whole : Fun K "is_whole" "is_whole" (top 5) a.f_is_whole a.d_is_whole
  mg_in_range : mg "in_range" = some (.ref a.f_in_range)
  bd_in_range : Binds K a.d_in_range ["value", "low", "high"] []
  mg_MOST_UNIT : ∃ t, mg "MOST_UNIT" = some (.int 65535 t)
  fn_in_range : Fun K "in_range" "in_range" (top 6) a.f_in_range a.d_in_range
  oe_InvalidSetting : OexC K a.c_InvalidSetting
  ii_InvalidSetting_InvalidSetting : PySem.W.findIn K (.ref a.c_InvalidSetting) "__init__" = some (some (.ref a.f_InvalidSetting___init__))
  it_InvalidSetting : PySem.W.typeIn K (.ref a.f_InvalidSetting___init__) = some (.type "function")
  mg_InvalidSetting : mg "InvalidSetting" = some (.ref a.c_InvalidSetting)
  be_InvalidSetting : Binds K a.d_InvalidSetting___init__ ["self", "setting"] []
  mk_Control : Mk K a.c_Control a.f_Control___init__
  bd_Control___init__ : Binds K a.d_Control___init__ ["self", "unit"] []
  su_Fixed_Fixed___init__ : SupM K "__init__" a.c_Fixed a.f_Control___init__ a.c_Fixed
  no_super : mg "super" = none
  sup_top : (P.main.scope.names.lookup ("super" : Str)).isSome = false
  mg_MOST_PIECES : ∃ t, mg "MOST_PIECES" = some (.int 64 t)
  mk_Fixed : Mk K a.c_Fixed a.f_Fixed___init__
  bd_Fixed___init___1 : ∃ ds, Vals [.int 8] ds ∧ Binds K a.d_Fixed___init__ ["self", "unit", "pieces"] ds
  su_Delay_Climb___init__ : SupM K "__init__" a.c_Climb a.f_Control___init__ a.c_Delay
  su_Curve_Climb___init__ : SupM K "__init__" a.c_Climb a.f_Control___init__ a.c_Curve
  su_Climb_Climb___init__ : SupM K "__init__" a.c_Climb a.f_Control___init__ a.c_Climb
  mk_Climb : Mk K a.c_Climb a.f_Climb___init__
  bd_Climb___init__ : Binds K a.d_Climb___init__ ["self", "unit"] []
  su_Curve_Curve___init__ : SupM K "__init__" a.c_Curve a.f_Climb___init__ a.c_Curve
  mk_Curve : Mk K a.c_Curve a.f_Curve___init__
  bd_Curve___init__ : Binds K a.d_Curve___init__ ["self", "unit"] []
  su_Delay_Delay___init__ : SupM K "__init__" a.c_Delay a.f_Climb___init__ a.c_Delay
  mk_Delay : Mk K a.c_Delay a.f_Delay___init__
  bd_Delay___init__ : Binds K a.d_Delay___init__ ["self", "unit"] []
  bd_Fixed___init__ : Binds K a.d_Fixed___init__ ["self", "unit", "pieces"] []
  bk_Fixed___init___pieces : BindsK K a.d_Fixed___init__ ["self", "unit", "pieces"] 2 ["pieces"]
  mg_control_of : mg "control_of" = some (.ref a.f_control_of)
  bd_control_of : Binds K a.d_control_of ["kind", "unit"] []
  fn_control_of : Fun K "control_of" "control_of" (top 20) a.f_control_of a.d_control_of
  mg_make : mg "_law_make" = some (.ref a.f_make)
  bd_make : Binds K a.d_make ["_law_which", "_law_unit_here", "_law_pieces_here"] []
  fn_make : Fun K "_law_make" "_law_make" (top 30) a.f_make a.d_make
  fn_fresh : Fun K "_law_fresh" "_law_fresh" (top 34) a.f_fresh a.d_fresh
  su_Delay_Climb_on_expiry : SupM K "on_expiry" a.c_Climb a.f_Control_on_expiry a.c_Delay
  su_Curve_Climb_on_expiry : SupM K "on_expiry" a.c_Climb a.f_Control_on_expiry a.c_Curve
  su_Climb_Climb_on_expiry : SupM K "on_expiry" a.c_Climb a.f_Control_on_expiry a.c_Climb
  bd_Control_on_expiry : Binds K a.d_Control_on_expiry ["self", "flight", "now"] []
  su_Curve_Curve_on_expiry : SupM K "on_expiry" a.c_Curve a.f_Climb_on_expiry a.c_Curve
  bd_Climb_on_expiry : Binds K a.d_Climb_on_expiry ["self", "flight", "now"] []
  su_Delay_Delay_on_expiry : SupM K "on_expiry" a.c_Delay a.f_Climb_on_expiry a.c_Delay
  mt_Delay_on_expiry : Meth K a.c_Delay "on_expiry" a.f_Delay_on_expiry
  bd_Delay_on_expiry : Binds K a.d_Delay_on_expiry ["self", "flight", "now"] []
  mt_Curve_on_expiry : Meth K a.c_Curve "on_expiry" a.f_Curve_on_expiry
  bd_Curve_on_expiry : Binds K a.d_Curve_on_expiry ["self", "flight", "now"] []
  mt_Climb_on_expiry : Meth K a.c_Climb "on_expiry" a.f_Climb_on_expiry
  mt_Fixed_on_expiry : Meth K a.c_Fixed "on_expiry" a.f_Fixed_on_expiry
  bd_Fixed_on_expiry : Binds K a.d_Fixed_on_expiry ["self", "flight", "now"] []
  mt_Control_on_expiry : Meth K a.c_Control "on_expiry" a.f_Control_on_expiry
  su_Curve_Climb_on_sample : SupM K "on_sample" a.c_Climb a.f_Control_on_sample a.c_Curve
  su_Climb_Climb_on_sample : SupM K "on_sample" a.c_Climb a.f_Control_on_sample a.c_Climb
  bd_Control_on_sample : Binds K a.d_Control_on_sample ["self", "ticks"] []
  su_Curve_Curve_on_sample : SupM K "on_sample" a.c_Curve a.f_Climb_on_sample a.c_Curve
  bd_Climb_on_sample : Binds K a.d_Climb_on_sample ["self", "ticks"] []
  mt_Delay_on_sample : Meth K a.c_Delay "on_sample" a.f_Delay_on_sample
  bd_Delay_on_sample : Binds K a.d_Delay_on_sample ["self", "ticks"] []
  mt_Curve_on_sample : Meth K a.c_Curve "on_sample" a.f_Curve_on_sample
  bd_Curve_on_sample : Binds K a.d_Curve_on_sample ["self", "ticks"] []
  mt_Climb_on_sample : Meth K a.c_Climb "on_sample" a.f_Climb_on_sample
  mt_Fixed_on_sample : Meth K a.c_Fixed "on_sample" a.f_Fixed_on_sample
  bd_Fixed_on_sample : Binds K a.d_Fixed_on_sample ["self", "ticks"] []
  mt_Control_on_sample : Meth K a.c_Control "on_sample" a.f_Control_on_sample
  su_Delay_Climb_on_loss : SupM K "on_loss" a.c_Climb a.f_Control_on_loss a.c_Delay
  su_Climb_Climb_on_loss : SupM K "on_loss" a.c_Climb a.f_Control_on_loss a.c_Climb
  bd_Control_on_loss : Binds K a.d_Control_on_loss ["self", "flight", "now"] []
  mg_curve_span : mg "curve_span" = some (.ref a.f_curve_span)
  bd_curve_span : Binds K a.d_curve_span ["unit", "drop_size"] []
  fn_curve_span : Fun K "curve_span" "curve_span" (top 17) a.f_curve_span a.d_curve_span
  su_Delay_Delay_on_loss : SupM K "on_loss" a.c_Delay a.f_Climb_on_loss a.c_Delay
  bd_Climb_on_loss : Binds K a.d_Climb_on_loss ["self", "flight", "now"] []
  mt_Delay_on_loss : Meth K a.c_Delay "on_loss" a.f_Delay_on_loss
  bd_Delay_on_loss : Binds K a.d_Delay_on_loss ["self", "flight", "now"] []
  mt_Curve_on_loss : Meth K a.c_Curve "on_loss" a.f_Curve_on_loss
  bd_Curve_on_loss : Binds K a.d_Curve_on_loss ["self", "flight", "now"] []
  mt_Climb_on_loss : Meth K a.c_Climb "on_loss" a.f_Climb_on_loss
  mt_Fixed_on_loss : Meth K a.c_Fixed "on_loss" a.f_Fixed_on_loss
  bd_Fixed_on_loss : Binds K a.d_Fixed_on_loss ["self", "flight", "now"] []
  mt_Control_on_loss : Meth K a.c_Control "on_loss" a.f_Control_on_loss
  mg_apart : mg "_law_apart" = some (.ref a.f_apart)
  bd_apart : Binds K a.d_apart ["_law_which", "_law_unit_here", "_law_pieces_here", "_law_box_here"] []
  fn_apart : Fun K "_law_apart" "_law_apart" (top 38) a.f_apart a.d_apart
  mg_bad : mg "_law_bad" = some (.ref a.f_bad)
  bd_bad : Binds K a.d_bad ["_law_box_here", "_law_most"] []
  fn_bad : Fun K "_law_bad" "_law_bad" (top 35) a.f_bad a.d_bad
  ex_InvalidNumber_LossError : PySem.W.exmOne K (.ref a.c_InvalidNumber) (.ref a.c_LossError) = some true
  ex_InvalidSetting_LossError : PySem.W.exmOne K (.ref a.c_InvalidSetting) (.ref a.c_LossError) = some true
  is_InvalidNumber_ValueError : IsOk K (.ref a.c_InvalidNumber) (.ty "ValueError") true
  is_InvalidSetting_ValueError : IsOk K (.ref a.c_InvalidSetting) (.ty "ValueError") true
  no_ValueError : mg "ValueError" = none
  is_InvalidNumber_InvalidNumber : IsOk K (.ref a.c_InvalidNumber) (.ref a.c_InvalidNumber) true
  is_InvalidSetting_InvalidNumber : IsOk K (.ref a.c_InvalidSetting) (.ref a.c_InvalidNumber) false
  mg_InvalidNumber : mg "InvalidNumber" = some (.ref a.c_InvalidNumber)
  is_InvalidNumber_InvalidSetting : IsOk K (.ref a.c_InvalidNumber) (.ref a.c_InvalidSetting) false
  is_InvalidSetting_InvalidSetting : IsOk K (.ref a.c_InvalidSetting) (.ref a.c_InvalidSetting) true
  xf_InvalidSetting_setting : XfOk K a.c_InvalidSetting "setting"
  mg_LossError : mg "LossError" = some (.ref a.c_LossError)
  mg_refusal : mg "_law_refusal" = some (.ref a.f_refusal)
  bd_refusal : Binds K a.d_refusal ["_law_which", "_law_unit_here", "_law_pieces_here"] []
  fn_refusal : Fun K "_law_refusal" "_law_refusal" (top 36) a.f_refusal a.d_refusal
  mg_units : mg "_law_units" = some (.ref a.f_units)
  bd_units : Binds K a.d_units ["_law_which", "_law_pieces_here", "_law_box_here"] []
  fn_units : Fun K "_law_units" "_law_units" (top 39) a.f_units a.d_units
  mg_pieces : mg "_law_pieces" = some (.ref a.f_pieces)
  bd_pieces : Binds K a.d_pieces ["_law_unit_here", "_law_pieces_here", "_law_box_here"] []
  fn_pieces : Fun K "_law_pieces" "_law_pieces" (top 40) a.f_pieces a.d_pieces
  ex_InvalidSetting_InvalidSetting : PySem.W.exmOne K (.ref a.c_InvalidSetting) (.ref a.c_InvalidSetting) = some true
  is_InvalidNumber_LossError : IsOk K (.ref a.c_InvalidNumber) (.ref a.c_LossError) true
  is_InvalidSetting_LossError : IsOk K (.ref a.c_InvalidSetting) (.ref a.c_LossError) true
  mg_stranger : mg "_law_stranger" = some (.ref a.f_stranger)
  bd_stranger : Binds K a.d_stranger ["_law_kind", "_law_unit_here"] []
  fn_stranger : Fun K "_law_stranger" "_law_stranger" (top 37) a.f_stranger a.d_stranger
  mg_kinds : mg "_law_kinds" = some (.ref a.f_kinds)
  bd_kinds : Binds K a.d_kinds ["_law_unit_here", "_law_pieces_here", "_law_box_here"] []
  fn_kinds : Fun K "_law_kinds" "_law_kinds" (top 41) a.f_kinds a.d_kinds
  mg_MOST_COUNT : ∃ t, mg "MOST_COUNT" = some (.int 65535 t)
  oe_InvalidNumber : OexC K a.c_InvalidNumber
  ii_InvalidNumber_InvalidNumber : PySem.W.findIn K (.ref a.c_InvalidNumber) "__init__" = some (some (.ref a.f_InvalidNumber___init__))
  it_InvalidNumber : PySem.W.typeIn K (.ref a.f_InvalidNumber___init__) = some (.type "function")
  be_InvalidNumber : Binds K a.d_InvalidNumber___init__ ["self", "number"] []
  mg_check_count : mg "check_count" = some (.ref a.f_check_count)
  bd_check_count : Binds K a.d_check_count ["count"] []
  fn_check_count : Fun K "check_count" "check_count" (top 11) a.f_check_count a.d_check_count
  su_Curve_Curve_grow : SupM K "grow" a.c_Curve a.f_Climb_grow a.c_Curve
  bd_Climb_grow : Binds K a.d_Climb_grow ["self", "count", "now"] []
  mt_Delay_surplus : Meth K a.c_Delay "surplus" a.f_Delay_surplus
  bd_Delay_surplus : Binds K a.d_Delay_surplus ["self"] []
  mt_Delay_grow : Meth K a.c_Delay "grow" a.f_Delay_grow
  bd_Delay_grow : Binds K a.d_Delay_grow ["self", "count", "now"] []
  mt_Curve_grow : Meth K a.c_Curve "grow" a.f_Curve_grow
  bd_Curve_grow : Binds K a.d_Curve_grow ["self", "count", "now"] []
  mt_Climb_grow : Meth K a.c_Climb "grow" a.f_Climb_grow
  mt_Fixed_grow : Meth K a.c_Fixed "grow" a.f_Fixed_grow
  bd_Fixed_grow : Binds K a.d_Fixed_grow ["self", "count", "now"] []
  mt_Control_grow : Meth K a.c_Control "grow" a.f_Control_grow
  bd_Control_grow : Binds K a.d_Control_grow ["self", "count", "now"] []
  su_Delay_Climb_on_ack : SupM K "on_ack" a.c_Climb a.f_Control_on_ack a.c_Delay
  su_Curve_Climb_on_ack : SupM K "on_ack" a.c_Climb a.f_Control_on_ack a.c_Curve
  su_Climb_Climb_on_ack : SupM K "on_ack" a.c_Climb a.f_Control_on_ack a.c_Climb
  bd_Control_on_ack : Binds K a.d_Control_on_ack ["self", "count", "flight", "now"] []
  su_Curve_Curve_on_ack : SupM K "on_ack" a.c_Curve a.f_Climb_on_ack a.c_Curve
  bd_Climb_on_ack : Binds K a.d_Climb_on_ack ["self", "count", "flight", "now"] []
  su_Delay_Delay_on_ack : SupM K "on_ack" a.c_Delay a.f_Climb_on_ack a.c_Delay
  mt_Delay_on_ack : Meth K a.c_Delay "on_ack" a.f_Delay_on_ack
  bd_Delay_on_ack : Binds K a.d_Delay_on_ack ["self", "count", "flight", "now"] []
  mt_Curve_on_ack : Meth K a.c_Curve "on_ack" a.f_Curve_on_ack
  bd_Curve_on_ack : Binds K a.d_Curve_on_ack ["self", "count", "flight", "now"] []
  mt_Climb_on_ack : Meth K a.c_Climb "on_ack" a.f_Climb_on_ack
  mt_Fixed_on_ack : Meth K a.c_Fixed "on_ack" a.f_Fixed_on_ack
  bd_Fixed_on_ack : Binds K a.d_Fixed_on_ack ["self", "count", "flight", "now"] []
  mt_Control_on_ack : Meth K a.c_Control "on_ack" a.f_Control_on_ack
  xf_InvalidNumber_number : XfOk K a.c_InvalidNumber "number"
  mg_refused : mg "_law_refused" = some (.ref a.f_refused)
  bd_refused : Binds K a.d_refused ["_law_control", "_law_bad_here", "_law_grows", "_law_now"] []
  fn_refused : Fun K "_law_refused" "_law_refused" (top 42) a.f_refused a.d_refused
  mg_counts : mg "_law_counts" = some (.ref a.f_counts)
  bd_counts : Binds K a.d_counts ["_law_which", "_law_unit_here", "_law_pieces_here", "_law_box_here"] []
  fn_counts : Fun K "_law_counts" "_law_counts" (top 43) a.f_counts a.d_counts
  mg_question : mg "_law_question" = some (.ref a.f_question)
  bd_question : Binds K a.d_question ["_law_box_here"] []
  mg_box : mg "_law_box" = some (.ref a.f_box)
  bd_box : Binds K a.d_box ["_law_cell_here"] []
  no_sum : mg "sum" = none
  mg_cell : mg "_law_cell" = some (.ref a.f_cell)
  bd_cell : Binds K a.d_cell ["_law_script", "_law_k"] []
  fn_cell : Fun K "_law_cell" "_law_cell" (top 22) a.f_cell a.d_cell
  fn_box : Fun K "_law_box" "_law_box" (top 24) a.f_box a.d_box
  fn_question : Fun K "_law_question" "_law_question" (top 45) a.f_question a.d_question
  fn_Control_starting : Fun K "starting" "Control.starting" (inClass (top 12) 3) a.f_Control_starting a.d_Control_starting
  fn_Control___init__ : Fun K "__init__" "Control.__init__" (inClass (top 12) 2) a.f_Control___init__ a.d_Control___init__
  fn_Fixed___init__ : FunS P K "__init__" "Fixed.__init__" (inClass (top 13) 1) a.f_Fixed___init__ a.d_Fixed___init__ a.c_Fixed
  fn_Climb___init__ : FunS P K "__init__" "Climb.__init__" (inClass (top 14) 1) a.f_Climb___init__ a.d_Climb___init__ a.c_Climb
  fn_Curve___init__ : FunS P K "__init__" "Curve.__init__" (inClass (top 18) 1) a.f_Curve___init__ a.d_Curve___init__ a.c_Curve
  fn_Delay___init__ : FunS P K "__init__" "Delay.__init__" (inClass (top 19) 1) a.f_Delay___init__ a.d_Delay___init__ a.c_Delay
  fn_Control_on_expiry : Fun K "on_expiry" "Control.on_expiry" (inClass (top 12) 7) a.f_Control_on_expiry a.d_Control_on_expiry
  fn_Fixed_on_expiry : Fun K "on_expiry" "Fixed.on_expiry" (inClass (top 13) 5) a.f_Fixed_on_expiry a.d_Fixed_on_expiry
  fn_Climb_on_expiry : FunS P K "on_expiry" "Climb.on_expiry" (inClass (top 14) 5) a.f_Climb_on_expiry a.d_Climb_on_expiry a.c_Climb
  fn_Curve_on_expiry : FunS P K "on_expiry" "Curve.on_expiry" (inClass (top 18) 5) a.f_Curve_on_expiry a.d_Curve_on_expiry a.c_Curve
  fn_Delay_on_expiry : FunS P K "on_expiry" "Delay.on_expiry" (inClass (top 19) 6) a.f_Delay_on_expiry a.d_Delay_on_expiry a.c_Delay
  fn_Control_on_sample : Fun K "on_sample" "Control.on_sample" (inClass (top 12) 8) a.f_Control_on_sample a.d_Control_on_sample
  fn_Fixed_on_sample : Fun K "on_sample" "Fixed.on_sample" (inClass (top 13) 6) a.f_Fixed_on_sample a.d_Fixed_on_sample
  fn_Climb_on_sample : FunS P K "on_sample" "Climb.on_sample" (inClass (top 14) 6) a.f_Climb_on_sample a.d_Climb_on_sample a.c_Climb
  fn_Curve_on_sample : FunS P K "on_sample" "Curve.on_sample" (inClass (top 18) 6) a.f_Curve_on_sample a.d_Curve_on_sample a.c_Curve
  fn_Delay_on_sample : Fun K "on_sample" "Delay.on_sample" (inClass (top 19) 7) a.f_Delay_on_sample a.d_Delay_on_sample
  fn_Control_on_loss : Fun K "on_loss" "Control.on_loss" (inClass (top 12) 6) a.f_Control_on_loss a.d_Control_on_loss
  fn_Fixed_on_loss : Fun K "on_loss" "Fixed.on_loss" (inClass (top 13) 4) a.f_Fixed_on_loss a.d_Fixed_on_loss
  fn_Climb_on_loss : FunS P K "on_loss" "Climb.on_loss" (inClass (top 14) 4) a.f_Climb_on_loss a.d_Climb_on_loss a.c_Climb
  fn_Curve_on_loss : Fun K "on_loss" "Curve.on_loss" (inClass (top 18) 4) a.f_Curve_on_loss a.d_Curve_on_loss
  fn_Delay_on_loss : FunS P K "on_loss" "Delay.on_loss" (inClass (top 19) 5) a.f_Delay_on_loss a.d_Delay_on_loss a.c_Delay
  fn_Control_grow : Fun K "grow" "Control.grow" (inClass (top 12) 5) a.f_Control_grow a.d_Control_grow
  fn_Fixed_grow : Fun K "grow" "Fixed.grow" (inClass (top 13) 3) a.f_Fixed_grow a.d_Fixed_grow
  fn_Climb_grow : Fun K "grow" "Climb.grow" (inClass (top 14) 3) a.f_Climb_grow a.d_Climb_grow
  fn_Curve_grow : FunS P K "grow" "Curve.grow" (inClass (top 18) 3) a.f_Curve_grow a.d_Curve_grow a.c_Curve
  fn_Delay_surplus : Fun K "surplus" "Delay.surplus" (inClass (top 19) 2) a.f_Delay_surplus a.d_Delay_surplus
  fn_Delay_grow : Fun K "grow" "Delay.grow" (inClass (top 19) 4) a.f_Delay_grow a.d_Delay_grow
  fn_Control_on_ack : Fun K "on_ack" "Control.on_ack" (inClass (top 12) 4) a.f_Control_on_ack a.d_Control_on_ack
  fn_Fixed_on_ack : Fun K "on_ack" "Fixed.on_ack" (inClass (top 13) 2) a.f_Fixed_on_ack a.d_Fixed_on_ack
  fn_Climb_on_ack : FunS P K "on_ack" "Climb.on_ack" (inClass (top 14) 2) a.f_Climb_on_ack a.d_Climb_on_ack a.c_Climb
  fn_Curve_on_ack : FunS P K "on_ack" "Curve.on_ack" (inClass (top 18) 2) a.f_Curve_on_ack a.d_Curve_on_ack a.c_Curve
  fn_Delay_on_ack : FunS P K "on_ack" "Delay.on_ack" (inClass (top 19) 3) a.f_Delay_on_ack a.d_Delay_on_ack a.c_Delay
  fn_law : Fun K "law" "law" (top 46) a.f_law a.d_law
  bd_law : Binds K a.d_law ["_law_script"] []
  mg_law : mg "law" = some (.ref a.f_law)
  fs_InvalidSetting : FunS P K "__init__" "InvalidSetting.__init__" (inClass (top 3) 0) a.f_InvalidSetting___init__ a.d_InvalidSetting___init__ a.c_InvalidSetting
  sv_InvalidSetting_InvalidSetting : SupV K a.c_InvalidSetting a.c_InvalidSetting
  nf_InvalidSetting_setting : PySem.W.findIn K (.ref a.c_InvalidSetting) "setting" = some none
  fs_InvalidNumber : FunS P K "__init__" "InvalidNumber.__init__" (inClass (top 2) 0) a.f_InvalidNumber___init__ a.d_InvalidNumber___init__ a.c_InvalidNumber
  sv_InvalidNumber_InvalidNumber : SupV K a.c_InvalidNumber a.c_InvalidNumber
  nf_InvalidNumber_number : PySem.W.findIn K (.ref a.c_InvalidNumber) "number" = some none
section
variable {P : Program} {w : World} {K : PySem.W.Frag} {mg : Str → Option Value} {base : Heap} {a : Ad}
theorem se_InvalidSetting : FnScS ["self", "setting"] ["self", "setting"] (defScope (inClass (top 3) 0)) := ⟨rfl, rfl, rfl, by decide +kernel, rfl, by decide +kernel, by decide +kernel, by decide +kernel⟩
theorem ok_InvalidSetting___init__ (T : Txt P K mg a) : FnOk P w K mg base (L2.CX P w) 1 a.f_InvalidSetting___init__ a.d_InvalidSetting___init__ ["self", "setting"] (spEx [a.c_InvalidSetting] ["setting"]) :=
  T.fs_InvalidSetting.ok se_InvalidSetting rfl rfl rfl rfl rfl T.sup_top T.no_super (fun vs H Q E q => show vs.length = 2 from spEx_len (fs := ["setting"]) vs H Q E q) fun cdv cc A outer s H vs Q E hr T1 q =>
    ⟨_, pssa_cons (psa_supV T1 (pa_cons pe_str pa_nil)) (pssa_one (psa_of (ps_ost (pv 0) (pv 1)))), ex1 (m := "the setting is invalid or unknown") (all_cons (p := fun C => SupV K C a.c_InvalidSetting ∧ PySem.W.findIn K (.ref C) "setting" = some none) ⟨T.sv_InvalidSetting_InvalidSetting, T.nf_InvalidSetting_setting⟩ (all_nil)) q⟩
theorem se_InvalidNumber : FnScS ["self", "number"] ["self", "number"] (defScope (inClass (top 2) 0)) := ⟨rfl, rfl, rfl, by decide +kernel, rfl, by decide +kernel, by decide +kernel, by decide +kernel⟩
theorem ok_InvalidNumber___init__ (T : Txt P K mg a) : FnOk P w K mg base (L2.CX P w) 1 a.f_InvalidNumber___init__ a.d_InvalidNumber___init__ ["self", "number"] (spEx [a.c_InvalidNumber] ["number"]) :=
  T.fs_InvalidNumber.ok se_InvalidNumber rfl rfl rfl rfl rfl T.sup_top T.no_super (fun vs H Q E q => show vs.length = 2 from spEx_len (fs := ["number"]) vs H Q E q) fun cdv cc A outer s H vs Q E hr T1 q =>
    ⟨_, pssa_cons (psa_supV T1 (pa_cons pe_str pa_nil)) (pssa_one (psa_of (ps_ost (pv 0) (pv 1)))), ex1 (m := "the number, or another argument, is invalid") (all_cons (p := fun C => SupV K C a.c_InvalidNumber ∧ PySem.W.findIn K (.ref C) "number" = some none) ⟨T.sv_InvalidNumber_InvalidNumber, T.nf_InvalidNumber_number⟩ (all_nil)) q⟩
abbrev nm_whole : List Str := ["_law_value", "_law_wanted"]
theorem sc_whole : FnScope nm_whole ["_law_value", "_law_wanted"] (defScope (top 27)) := ⟨rfl, rfl, rfl, by decide +kernel, rfl, by decide +kernel, by decide +kernel⟩
theorem ok_whole (T : Txt P K mg a) : FnOk P w K mg base (L2.CX P w) 1 a.f_whole a.d_whole ["_law_value", "_law_wanted"] (sp_whole a.toCl) := by
  refine ok_body T.fn_whole sc_whole rfl rfl fun cdv A outer s H E hr => ?_
  exact (pss_one (ps_ret (pe_and (pe_callB c_isi (by rfl) T.no_isinstance (by decide +kernel) (pa_cons (pv 0) (pa_cons (pe_bltn (v := .ty "int") (by rfl) T.no_int (by decide +kernel) rfl) pa_nil))) (pe_and (pe_not (pe_callB c_isi (by rfl) T.no_isinstance (by decide +kernel) (pa_cons (pv 0) (pa_cons (pe_bltn (v := .ty "bool") (by rfl) T.no_bool (by decide +kernel) rfl) pa_nil)))) (pe_one (pe_cmpR (o_eqP T.st hr.units) (pv 0) (pv 1) (nomark _)))))))
abbrev nm_names : List Str := ["_law_word_here"]
theorem sc_names : FnScope nm_names [] (defScope (top 44)) := ⟨rfl, rfl, rfl, by decide +kernel, rfl, by decide +kernel, by decide +kernel⟩
theorem ok_names (T : Txt P K mg a) : FnOk P w K mg base (L2.CX P w) 2 a.f_names a.d_names [] (sp_names a.toCl) := by
  obtain ⟨_, cv_Control_KIND_⟩ := T.cv_Control_KIND
  obtain ⟨_, cv_Fixed_KIND_⟩ := T.cv_Fixed_KIND
  obtain ⟨_, cv_Climb_KIND_⟩ := T.cv_Climb_KIND
  obtain ⟨_, cv_Curve_KIND_⟩ := T.cv_Curve_KIND
  obtain ⟨_, cv_Delay_KIND_⟩ := T.cv_Delay_KIND
  obtain ⟨_, cv_Control_GREATEST_⟩ := T.cv_Control_GREATEST
  refine ok_body T.fn_names sc_names rfl rfl fun cdv A outer s H E hr => ?_
  exact (pss_cons (ps_if (PW.pt (pw_or (pt_not (pt_val (pe_callB (c_isS T.st) (by rfl) T.no_isinstance (by decide +kernel) (pa_cons (pe_stat T.mg_KINDS rfl) (pa_cons (pe_bltn (v := .ty "tuple") (by rfl) T.no_tuple (by decide +kernel) rfl) pa_nil))))) (pw_or1 (pt_cmpR (o_neP T.st hr.units) (pe_callB (c_len T.st) (by rfl) T.no_len (by decide +kernel) (pa_cons (pe_stat T.mg_KINDS rfl) pa_nil)) pe_int (nomark _))))) (pss_one (ps_ret pe_bl)) pss_nil)
    (pss_cons (ps_if (PW.pt (pw_or (pt_cmpR (o_inA T.st) pe_bl (pe_lcSeq (own := [("_law_word_here", 0)]) T.st rfl sc_names.nd (pe_stat T.mg_KINDS rfl) (blkOk_by (own := [("_law_word_here", 0)]) (N := nm_names) (sc := defScope (top 44)) (by decide +kernel)) ⟨fun _ _ _ _ _ => (pg_name (i := 0) sc_names.nd rfl (by first | exact Or.inl rfl | exact Or.inr rfl)), fun _ _ _ _ _ => pts_nil, fun _ _ _ _ _ => (pe_callB c_isi (by rfl) T.no_isinstance (by decide +kernel) (pa_cons (pv 0) (pa_cons (pe_bltn (v := .ty "str") (by rfl) T.no_str (by decide +kernel) rfl) pa_nil)))⟩) rfl) (pw_or1 (pt_cmpR (o_neP T.st hr.units) (pe_callTy (c_list T.st) (by rfl) T.no_list (by decide +kernel) (pa_cons (pe_stat T.mg_KINDS rfl) pa_nil)) (pe_lst (pa_cons pe_str (pa_cons pe_str (pa_cons pe_str (pa_cons pe_str pa_nil))))) (nomark _))))) (pss_one (ps_ret pe_bl)) pss_nil)
    (pss_cons (ps_if (PW.pt (pw_or (pt_cmpR (o_neP T.st hr.units) (pe_clsCon T.cr_Control cv_Control_KIND_ rfl T.mg_Control) pe_str (nomark _)) (pw_or (pt_cmpR (o_neP T.st hr.units) (pe_clsCon T.cr_Fixed cv_Fixed_KIND_ rfl T.mg_Fixed) pe_str (nomark _)) (pw_or1 (pt_cmpR (o_neP T.st hr.units) (pe_clsCon T.cr_Climb cv_Climb_KIND_ rfl T.mg_Climb) pe_str (nomark _)))))) (pss_one (ps_ret pe_bl)) pss_nil)
    (pss_one (ps_ret (pe_and (pe_cmpR (o_eqP T.st hr.units) (pe_clsCon T.cr_Curve cv_Curve_KIND_ rfl T.mg_Curve) pe_str (nomark _)) (pe_and (pe_cmpR (o_eqP T.st hr.units) (pe_clsCon T.cr_Delay cv_Delay_KIND_ rfl T.mg_Delay) pe_str (nomark _)) (pe_one (pe_call (ok_whole T) (hr.mono (by decide)) rfl T.mg_whole (T.fn_whole).kp T.bd_whole .nil passE (pa_cons (pe_clsCon T.cr_Control cv_Control_GREATEST_ rfl T.mg_Control) (pa_cons pe_int pa_nil)))))))))))
abbrev nm_rounds : List Str := ["_law_script"]
theorem sc_rounds : FnScope nm_rounds ["_law_script"] (defScope (top 23)) := ⟨rfl, rfl, rfl, by decide +kernel, rfl, by decide +kernel, by decide +kernel⟩
theorem ok_rounds (T : Txt P K mg a) : FnOk P w K mg base (L2.CX P w) 1 a.f_rounds a.d_rounds ["_law_script"] (sp_rounds a.toCl) := by
  refine ok_body T.fn_rounds sc_rounds rfl rfl fun cdv A outer s H E hr => ?_
  exact (pss_one (ps_ret (pe_callB (c_min2 rfl) (by rfl) T.no_min (by decide +kernel) (pa_cons pe_int (pa_cons (pe_callB (c_max2 rfl) (by rfl) T.no_max (by decide +kernel) (pa_cons (pe_op o_add pe_int (pe_op o_mul pe_int (pe_callB (c_min2 rfl) (by rfl) T.no_min (by decide +kernel) (pa_cons pe_int (pa_cons (pe_callB (c_len T.st) (by rfl) T.no_len (by decide +kernel) (pa_cons (pv 0) pa_nil)) pa_nil))))) (pa_cons (pe_op o_sub (pe_callB (c_len T.st) (by rfl) T.no_len (by decide +kernel) (pa_cons (pv 0) pa_nil)) pe_int) pa_nil))) pa_nil)))))
abbrev nm_draw : List Str := ["_law_box_here", "_law_size", "_law_digit", "_law_first", "_law_second"]
theorem sc_draw : FnScope nm_draw ["_law_box_here", "_law_size"] (defScope (top 25)) := ⟨rfl, rfl, rfl, by decide +kernel, rfl, by decide +kernel, by decide +kernel⟩
theorem ok_draw (T : Txt P K mg a) : FnOk P w K mg base (L2.CX P w) 1 a.f_draw a.d_draw ["_law_box_here", "_law_size"] (sp_draw a.toCl) := by
  refine ok_body T.fn_draw sc_draw rfl rfl fun cdv A outer s H E hr => ?_
  exact (pss_cons (ps_augSI (pv 0) pe_int pe_int ip_addI)
    (pss_cons (ps_if (pt_cmpR o_gt (pe_ix (o_ix T.st) (pv 0) pe_int (fun _ _ => rfl)) pe_int (nomark _)) (pss_cons (ps_set (i := 2) sc_draw.nd rfl (by first | exact Or.inl rfl | exact Or.inr rfl) (pe_op o_mod (pe_callTy c_int (by rfl) T.no_int (by decide +kernel) (pa_cons (pe_ix (o_ix T.st) (pv 0) pe_int (fun _ _ => rfl)) pa_nil)) (pv 1)))
    (pss_cons (ps_asg (pe_op o_fdiv (pe_ix (o_ix T.st) (pv 0) pe_int (fun _ _ => rfl)) (pv 1)) (pg_sub (pv 0) pe_int set_list))
    (pss_one (ps_ret (pv 2))))) pss_nil)
    (pss_cons (ps_set (i := 3) sc_draw.nd rfl (by first | exact Or.inl rfl | exact Or.inr rfl) (pe_op o_mod (pe_callTy c_int (by rfl) T.no_int (by decide +kernel) (pa_cons (pe_op o_add (pe_op o_add (pe_op o_mul (pe_ix (o_ix T.st) (pv 0) pe_int (fun _ _ => rfl)) pe_int) (pe_op o_mul (pe_ix (o_ix T.st) (pv 0) pe_int (fun _ _ => rfl)) pe_int)) pe_int) pa_nil)) pe_int))
    (pss_cons (ps_set (i := 4) sc_draw.nd rfl (by first | exact Or.inl rfl | exact Or.inr rfl) (pe_op o_mod (pe_callTy c_int (by rfl) T.no_int (by decide +kernel) (pa_cons (pe_op o_add (pe_op o_add (pe_op o_mul (pv 3) (pv 3)) (pe_op o_mul (pe_ix (o_ix T.st) (pv 0) pe_int (fun _ _ => rfl)) pe_int)) (pe_op o_mul (pe_ix (o_ix T.st) (pv 0) pe_int (fun _ _ => rfl)) pe_int)) pa_nil)) pe_int))
    (pss_one (ps_ret (pe_op o_mod (pe_callTy c_int (by rfl) T.no_int (by decide +kernel) (pa_cons (pe_op o_add (pe_op o_mul (pv 4) pe_int) (pv 3)) pa_nil)) (pv 1))))))))
abbrev nm_unit : List Str := ["_law_box_here", "_law_way"]
theorem sc_unit : FnScope nm_unit ["_law_box_here"] (defScope (top 26)) := ⟨rfl, rfl, rfl, by decide +kernel, rfl, by decide +kernel, by decide +kernel⟩
theorem ok_unit (T : Txt P K mg a) : FnOk P w K mg base (L2.CX P w) 2 a.f_unit a.d_unit ["_law_box_here"] (sp_unit a.toCl) := by
  refine ok_body T.fn_unit sc_unit rfl rfl fun cdv A outer s H E hr => ?_
  exact (pss_cons (ps_set (i := 1) sc_unit.nd rfl (by first | exact Or.inl rfl | exact Or.inr rfl) (pe_call (ok_draw T) (hr.mono (by decide)) rfl T.mg_draw (T.fn_draw).kp T.bd_draw .nil passE (pa_cons (pv 0) (pa_cons pe_int pa_nil))))
    (pss_cons (ps_if (pt_cmpR (o_eqP T.st hr.units) (pv 1) pe_int (nomark _)) (pss_one (ps_ret (pe_op o_add pe_int (pe_call (ok_draw T) (hr.mono (by decide)) rfl T.mg_draw (T.fn_draw).kp T.bd_draw .nil passE (pa_cons (pv 0) (pa_cons pe_int pa_nil)))))) pss_nil)
    (pss_cons (ps_if (pt_cmpR (o_eqP T.st hr.units) (pv 1) pe_int (nomark _)) (pss_one (ps_ret (pe_op o_add pe_int (pe_call (ok_draw T) (hr.mono (by decide)) rfl T.mg_draw (T.fn_draw).kp T.bd_draw .nil passE (pa_cons (pv 0) (pa_cons pe_int pa_nil)))))) pss_nil)
    (pss_cons (ps_if (pt_cmpR (o_eqP T.st hr.units) (pv 1) pe_int (nomark _)) (pss_one (ps_ret (pe_op o_add pe_int (pe_call (ok_draw T) (hr.mono (by decide)) rfl T.mg_draw (T.fn_draw).kp T.bd_draw .nil passE (pa_cons (pv 0) (pa_cons pe_int pa_nil)))))) pss_nil)
    (pss_one (ps_ret (pe_op o_sub pe_int (pe_op o_mul pe_int (pe_call (ok_draw T) (hr.mono (by decide)) rfl T.mg_draw (T.fn_draw).kp T.bd_draw .nil passE (pa_cons (pv 0) (pa_cons pe_int pa_nil)))))))))))
abbrev nm_word : List Str := ["_law_which", "_law_words"]
theorem sc_word : FnScope nm_word ["_law_which"] (defScope (top 31)) := ⟨rfl, rfl, rfl, by decide +kernel, rfl, by decide +kernel, by decide +kernel⟩
theorem ok_word (T : Txt P K mg a) : FnOk P w K mg base (L2.CX P w) 1 a.f_word a.d_word ["_law_which"] (sp_word a.toCl) := by
  refine ok_body T.fn_word sc_word rfl rfl fun cdv A outer s H E hr => ?_
  exact (pss_cons (ps_set (i := 1) sc_word.nd rfl (by first | exact Or.inl rfl | exact Or.inr rfl) (pe_lst (pa_cons pe_str (pa_cons pe_str (pa_cons pe_str (pa_cons pe_str (pa_cons pe_str (pa_cons pe_str (pa_cons pe_str (pa_cons pe_str (pa_cons pe_str (pa_cons pe_str (pa_cons pe_str pa_nil)))))))))))))
    (pss_one (ps_ret (pe_ix (o_ix T.st) (pv 1) (pv 0) (fun _ _ => rfl)))))
abbrev nm_classed : List Str := ["_law_control", "_law_word_here"]
theorem sc_classed : FnScope nm_classed ["_law_control", "_law_word_here"] (defScope (top 33)) := ⟨rfl, rfl, rfl, by decide +kernel, rfl, by decide +kernel, by decide +kernel⟩
theorem ok_classed (T : Txt P K mg a) : FnOk P w K mg base (L2.CX P w) 1 a.f_classed a.d_classed ["_law_control", "_law_word_here"] (sp_classed a.toCl) := by
  refine ok_body T.fn_classed sc_classed rfl rfl fun cdv A outer s H E hr => ?_
  exact (pss_cons (ps_if (PW.pt (pw_or (pt_not (pt_val (pe_callB (c_isO (tbl := [(a.c_Control, true), (a.c_Fixed, true), (a.c_Climb, true), (a.c_Curve, true), (a.c_Delay, true)]) (all_cons T.io_Control_Control (all_cons T.io_Fixed_Control (all_cons T.io_Climb_Control (all_cons T.io_Curve_Control (all_cons T.io_Delay_Control (all_nil))))))) (by rfl) T.no_isinstance (by decide +kernel) (pa_cons (pv 0) (pa_cons (pe_clsName rfl T.mg_Control) pa_nil))))) (pw_or1 (pt_cmpR (o_neP T.st hr.units) (pe_callB (c_isO (tbl := [(a.c_Control, false), (a.c_Fixed, true), (a.c_Climb, false), (a.c_Curve, false), (a.c_Delay, false)]) (all_cons T.io_Control_Fixed (all_cons T.io_Fixed_Fixed (all_cons T.io_Climb_Fixed (all_cons T.io_Curve_Fixed (all_cons T.io_Delay_Fixed (all_nil))))))) (by rfl) T.no_isinstance (by decide +kernel) (pa_cons (pv 0) (pa_cons (pe_clsName rfl T.mg_Fixed) pa_nil))) (pe_cmpR (o_eqP T.st hr.units) (pv 1) pe_str (nomark _)) (nomark _))))) (pss_one (ps_ret pe_bl)) pss_nil)
    (pss_cons (ps_if (pt_cmpR (o_neP T.st hr.units) (pe_callB (c_isO (tbl := [(a.c_Control, false), (a.c_Fixed, false), (a.c_Climb, true), (a.c_Curve, true), (a.c_Delay, true)]) (all_cons T.io_Control_Climb (all_cons T.io_Fixed_Climb (all_cons T.io_Climb_Climb (all_cons T.io_Curve_Climb (all_cons T.io_Delay_Climb (all_nil))))))) (by rfl) T.no_isinstance (by decide +kernel) (pa_cons (pv 0) (pa_cons (pe_clsName rfl T.mg_Climb) pa_nil))) (pe_or (pe_cmpR (o_eqP T.st hr.units) (pv 1) pe_str (nomark _)) (pe_or (pe_cmpR (o_eqP T.st hr.units) (pv 1) pe_str (nomark _)) (pe_one (pe_cmpR (o_eqP T.st hr.units) (pv 1) pe_str (nomark _))))) (nomark _)) (pss_one (ps_ret pe_bl)) pss_nil)
    (pss_cons (ps_if (PW.pt (pw_or (pt_cmpR (o_neP T.st hr.units) (pe_callB (c_isO (tbl := [(a.c_Control, false), (a.c_Fixed, false), (a.c_Climb, false), (a.c_Curve, true), (a.c_Delay, false)]) (all_cons T.io_Control_Curve (all_cons T.io_Fixed_Curve (all_cons T.io_Climb_Curve (all_cons T.io_Curve_Curve (all_cons T.io_Delay_Curve (all_nil))))))) (by rfl) T.no_isinstance (by decide +kernel) (pa_cons (pv 0) (pa_cons (pe_clsName rfl T.mg_Curve) pa_nil))) (pe_cmpR (o_eqP T.st hr.units) (pv 1) pe_str (nomark _)) (nomark _)) (pw_or1 (pt_cmpR (o_neP T.st hr.units) (pe_callB (c_isO (tbl := [(a.c_Control, false), (a.c_Fixed, false), (a.c_Climb, false), (a.c_Curve, false), (a.c_Delay, true)]) (all_cons T.io_Control_Delay (all_cons T.io_Fixed_Delay (all_cons T.io_Climb_Delay (all_cons T.io_Curve_Delay (all_cons T.io_Delay_Delay (all_nil))))))) (by rfl) T.no_isinstance (by decide +kernel) (pa_cons (pv 0) (pa_cons (pe_clsName rfl T.mg_Delay) pa_nil))) (pe_cmpR (o_eqP T.st hr.units) (pv 1) pe_str (nomark _)) (nomark _))))) (pss_one (ps_ret pe_bl)) pss_nil)
    (pss_one (ps_ret (pe_and (pe_callB c_isi (by rfl) T.no_isinstance (by decide +kernel) (pa_cons (pe_conD (all_cons T.ic_Control_KIND (all_cons T.ic_Fixed_KIND (all_cons T.ic_Climb_KIND (all_cons T.ic_Curve_KIND (all_cons T.ic_Delay_KIND (all_nil)))))) (pv 0)) (pa_cons (pe_bltn (v := .ty "str") (by rfl) T.no_str (by decide +kernel) rfl) pa_nil))) (pe_one (pe_cmpR (o_eqP T.st hr.units) (pe_conD (all_cons T.ic_Control_KIND (all_cons T.ic_Fixed_KIND (all_cons T.ic_Climb_KIND (all_cons T.ic_Curve_KIND (all_cons T.ic_Delay_KIND (all_nil)))))) (pv 0)) (pv 1) (nomark _)))))))))
abbrev nm_truth : List Str := ["_law_value", "_law_wanted"]
theorem sc_truth : FnScope nm_truth ["_law_value", "_law_wanted"] (defScope (top 28)) := ⟨rfl, rfl, rfl, by decide +kernel, rfl, by decide +kernel, by decide +kernel⟩
theorem ok_truth (T : Txt P K mg a) : FnOk P w K mg base (L2.CX P w) 1 a.f_truth a.d_truth ["_law_value", "_law_wanted"] (sp_truth a.toCl) := by
  refine ok_body T.fn_truth sc_truth rfl rfl fun cdv A outer s H E hr => ?_
  exact (pss_one (ps_ret (pe_and (pe_callB c_isi (by rfl) T.no_isinstance (by decide +kernel) (pa_cons (pv 0) (pa_cons (pe_bltn (v := .ty "bool") (by rfl) T.no_bool (by decide +kernel) rfl) pa_nil))) (pe_one (pe_cmpR (o_eqP T.st hr.units) (pv 0) (pv 1) (nomark _))))))
abbrev nm_Control_starting : List Str := ["self"]
theorem sc_Control_starting : FnScope nm_Control_starting ["self"] (defScope (inClass (top 12) 3)) := ⟨rfl, rfl, rfl, by decide +kernel, rfl, by decide +kernel, by decide +kernel⟩
theorem ok_Control_starting (T : Txt P K mg a) : FnOk P w K mg base (L2.CX P w) 1 a.f_Control_starting a.d_Control_starting ["self"] (sp_Control_starting a.toCl) := by
  refine ok_body T.fn_Control_starting sc_Control_starting rfl rfl fun cdv A outer s H E hr => ?_
  exact (pss_one (ps_ret (pe_cmpR o_lt (pe_fldD (all_cons (fd_mk T.cl_Control T.na_Control_window) (all_cons (fd_mk T.cl_Fixed T.na_Fixed_window) (all_cons (fd_mk T.cl_Climb T.na_Climb_window) (all_cons (fd_mk T.cl_Curve T.na_Curve_window) (all_cons (fd_mk T.cl_Delay T.na_Delay_window) (all_nil)))))) (pv 0)) (pe_fldD (all_cons (fd_mk T.cl_Control T.na_Control_threshold) (all_cons (fd_mk T.cl_Fixed T.na_Fixed_threshold) (all_cons (fd_mk T.cl_Climb T.na_Climb_threshold) (all_cons (fd_mk T.cl_Curve T.na_Curve_threshold) (all_cons (fd_mk T.cl_Delay T.na_Delay_threshold) (all_nil)))))) (pv 0)) (nomark _))))
abbrev nm_base : List Str := ["_law_control", "_law_state"]
theorem sc_base : FnScope nm_base ["_law_control", "_law_state"] (defScope (top 29)) := ⟨rfl, rfl, rfl, by decide +kernel, rfl, by decide +kernel, by decide +kernel⟩
theorem ok_base (T : Txt P K mg a) : FnOk P w K mg base (L2.CX P w) 3 a.f_base a.d_base ["_law_control", "_law_state"] (sp_base a.toCl) := by
  refine ok_body T.fn_base sc_base rfl rfl fun cdv A outer s H E hr => ?_
  exact (pss_cons (ps_if (PW.pt (pw_or (pt_not (pt_val (pe_call (ok_whole T) (hr.mono (by decide)) rfl T.mg_whole (T.fn_whole).kp T.bd_whole .nil passE (pa_cons (pe_fldD (all_cons (fd_mk T.cl_Control T.na_Control_unit) (all_cons (fd_mk T.cl_Fixed T.na_Fixed_unit) (all_cons (fd_mk T.cl_Climb T.na_Climb_unit) (all_cons (fd_mk T.cl_Curve T.na_Curve_unit) (all_cons (fd_mk T.cl_Delay T.na_Delay_unit) (all_nil)))))) (pv 0)) (pa_cons (pe_ix (o_ix T.st) (pv 1) pe_int (fun _ _ => rfl)) pa_nil))))) (pw_or1 (pt_not (pt_val (pe_call (ok_whole T) (hr.mono (by decide)) rfl T.mg_whole (T.fn_whole).kp T.bd_whole .nil passE (pa_cons (pe_fldD (all_cons (fd_mk T.cl_Control T.na_Control_window) (all_cons (fd_mk T.cl_Fixed T.na_Fixed_window) (all_cons (fd_mk T.cl_Climb T.na_Climb_window) (all_cons (fd_mk T.cl_Curve T.na_Curve_window) (all_cons (fd_mk T.cl_Delay T.na_Delay_window) (all_nil)))))) (pv 0)) (pa_cons (pe_ix (o_ix T.st) (pv 1) pe_int (fun _ _ => rfl)) pa_nil)))))))) (pss_one (ps_ret pe_bl)) pss_nil)
    (pss_cons (ps_if (PW.pt (pw_or (pt_not (pt_val (pe_call (ok_whole T) (hr.mono (by decide)) rfl T.mg_whole (T.fn_whole).kp T.bd_whole .nil passE (pa_cons (pe_fldD (all_cons (fd_mk T.cl_Control T.na_Control_threshold) (all_cons (fd_mk T.cl_Fixed T.na_Fixed_threshold) (all_cons (fd_mk T.cl_Climb T.na_Climb_threshold) (all_cons (fd_mk T.cl_Curve T.na_Curve_threshold) (all_cons (fd_mk T.cl_Delay T.na_Delay_threshold) (all_nil)))))) (pv 0)) (pa_cons (pe_ix (o_ix T.st) (pv 1) pe_int (fun _ _ => rfl)) pa_nil))))) (pw_or1 (pt_not (pt_val (pe_call (ok_whole T) (hr.mono (by decide)) rfl T.mg_whole (T.fn_whole).kp T.bd_whole .nil passE (pa_cons (pe_fldD (all_cons (fd_mk T.cl_Control T.na_Control_credit) (all_cons (fd_mk T.cl_Fixed T.na_Fixed_credit) (all_cons (fd_mk T.cl_Climb T.na_Climb_credit) (all_cons (fd_mk T.cl_Curve T.na_Curve_credit) (all_cons (fd_mk T.cl_Delay T.na_Delay_credit) (all_nil)))))) (pv 0)) (pa_cons (pe_ix (o_ix T.st) (pv 1) pe_int (fun _ _ => rfl)) pa_nil)))))))) (pss_one (ps_ret pe_bl)) pss_nil)
    (pss_one (ps_ret (pe_and (pe_call (ok_truth T) (hr.mono (by decide)) rfl T.mg_truth (T.fn_truth).kp T.bd_truth .nil passE (pa_cons (pe_fldD (all_cons (fd_mk T.cl_Control T.na_Control_stalled) (all_cons (fd_mk T.cl_Fixed T.na_Fixed_stalled) (all_cons (fd_mk T.cl_Climb T.na_Climb_stalled) (all_cons (fd_mk T.cl_Curve T.na_Curve_stalled) (all_cons (fd_mk T.cl_Delay T.na_Delay_stalled) (all_nil)))))) (pv 0)) (pa_cons (pe_ix (o_ix T.st) (pv 1) pe_int (fun _ _ => rfl)) pa_nil))) (pe_one (pe_call (ok_truth T) (hr.mono (by decide)) rfl T.mg_truth (T.fn_truth).kp T.bd_truth .nil passE (pa_cons (pe_propD (k := 1) (pv 0) (all_cons (pd_mk T.cl_Control T.pd_Control_starting (ok_Control_starting T) (by decide) T.bd_Control_starting) (all_cons (pd_mk T.cl_Fixed T.pd_Fixed_starting (ok_Control_starting T) (by decide) T.bd_Control_starting) (all_cons (pd_mk T.cl_Climb T.pd_Climb_starting (ok_Control_starting T) (by decide) T.bd_Control_starting) (all_cons (pd_mk T.cl_Curve T.pd_Curve_starting (ok_Control_starting T) (by decide) T.bd_Control_starting) (all_cons (pd_mk T.cl_Delay T.pd_Delay_starting (ok_Control_starting T) (by decide) T.bd_Control_starting) (all_nil)))))) (hr.mono (by decide)) passN) (pa_cons (pe_cmpR o_lt (pe_ix (o_ix T.st) (pv 1) pe_int (fun _ _ => rfl)) (pe_ix (o_ix T.st) (pv 1) pe_int (fun _ _ => rfl)) (nomark _)) pa_nil)))))))))
abbrev nm_times : List Str := ["_law_which", "_law_pieces_here"]
theorem sc_times : FnScope nm_times ["_law_which", "_law_pieces_here"] (defScope (top 32)) := ⟨rfl, rfl, rfl, by decide +kernel, rfl, by decide +kernel, by decide +kernel⟩
theorem ok_times (T : Txt P K mg a) : FnOk P w K mg base (L2.CX P w) 1 a.f_times a.d_times ["_law_which", "_law_pieces_here"] (sp_times a.toCl) := by
  refine ok_body T.fn_times sc_times rfl rfl fun cdv A outer s H E hr => ?_
  exact (pss_cons (ps_if (PW.pt (pw_or (pt_cmpR (o_eqP T.st hr.units) (pv 0) pe_int (nomark _)) (pw_or1 (pt_cmpR (o_eqP T.st hr.units) (pv 0) pe_int (nomark _))))) (pss_one (ps_ret pe_int)) pss_nil)
    (pss_cons (ps_if (PW.pt (pw_or (pt_cmpR (o_eqP T.st hr.units) (pv 0) pe_int (nomark _)) (pw_or1 (pt_cmpR (o_eqP T.st hr.units) (pv 0) pe_int (nomark _))))) (pss_one (ps_ret (pv 1))) pss_nil)
    (pss_one (ps_ret pe_int))))
abbrev nm_fresh : List Str := ["_law_control", "_law_which", "_law_unit_here", "_law_pieces_here", "_law_word_here"]
theorem sc_fresh : FnScope nm_fresh ["_law_control", "_law_which", "_law_unit_here", "_law_pieces_here"] (defScope (top 34)) := ⟨rfl, rfl, rfl, by decide +kernel, rfl, by decide +kernel, by decide +kernel⟩
theorem ok_fresh (T : Txt P K mg a) : FnOk P w K mg base (L2.CX P w) 4 a.f_fresh a.d_fresh ["_law_control", "_law_which", "_law_unit_here", "_law_pieces_here"] (sp_fresh a.toCl) := by
  refine ok_body T.fn_fresh sc_fresh rfl rfl fun cdv A outer s H E hr => ?_
  exact (pss_cons (ps_set (i := 4) sc_fresh.nd rfl (by first | exact Or.inl rfl | exact Or.inr rfl) (pe_call (ok_word T) (hr.mono (by decide)) rfl T.mg_word (T.fn_word).kp T.bd_word .nil passE (pa_cons (pv 1) pa_nil)))
    (pss_cons (ps_if (pt_not (pt_val (pe_call (ok_classed T) (hr.mono (by decide)) rfl T.mg_classed (T.fn_classed).kp T.bd_classed .nil passE (pa_cons (pv 0) (pa_cons (pv 4) pa_nil))))) (pss_one (ps_ret pe_bl)) pss_nil)
    (pss_cons (ps_if (pt_not (pt_val (pe_call (ok_base T) (hr.mono (by decide)) rfl T.mg_base (T.fn_base).kp T.bd_base .nil passE (pa_cons (pv 0) (pa_cons (pe_lst (pa_cons (pv 2) (pa_cons (pe_op o_mul (pv 2) (pe_call (ok_times T) (hr.mono (by decide)) rfl T.mg_times (T.fn_times).kp T.bd_times .nil passE (pa_cons (pv 1) (pa_cons (pv 3) pa_nil)))) (pa_cons pe_int (pa_cons pe_int (pa_cons pe_bl pa_nil)))))) pa_nil))))) (pss_one (ps_ret pe_bl)) pss_nil)
    (pss_cons (ps_if (pt_cmpR (o_eqP T.st hr.units) (pv 4) pe_str (nomark _)) (pss_one (ps_ret (pe_and (pe_call (ok_whole T) (hr.mono (by decide)) rfl T.mg_whole (T.fn_whole).kp T.bd_whole .nil passE (pa_cons (pe_fldD (all_cons (fd_mk T.cl_Control T.na_Control_peak) (all_cons (fd_mk T.cl_Fixed T.na_Fixed_peak) (all_cons (fd_mk T.cl_Climb T.na_Climb_peak) (all_cons (fd_mk T.cl_Curve T.na_Curve_peak) (all_cons (fd_mk T.cl_Delay T.na_Delay_peak) (all_nil)))))) (pv 0)) (pa_cons pe_int pa_nil))) (pe_and (pe_call (ok_whole T) (hr.mono (by decide)) rfl T.mg_whole (T.fn_whole).kp T.bd_whole .nil passE (pa_cons (pe_fldD (all_cons (fd_mk T.cl_Control T.na_Control_span) (all_cons (fd_mk T.cl_Fixed T.na_Fixed_span) (all_cons (fd_mk T.cl_Climb T.na_Climb_span) (all_cons (fd_mk T.cl_Curve T.na_Curve_span) (all_cons (fd_mk T.cl_Delay T.na_Delay_span) (all_nil)))))) (pv 0)) (pa_cons pe_int pa_nil))) (pe_one (pe_cmpR o_is (pe_fldD (all_cons (fd_mk T.cl_Control T.na_Control_born) (all_cons (fd_mk T.cl_Fixed T.na_Fixed_born) (all_cons (fd_mk T.cl_Climb T.na_Climb_born) (all_cons (fd_mk T.cl_Curve T.na_Curve_born) (all_cons (fd_mk T.cl_Delay T.na_Delay_born) (all_nil)))))) (pv 0)) pe_non (nomark _))))))) pss_nil)
    (pss_cons (ps_if (pt_cmpR (o_eqP T.st hr.units) (pv 4) pe_str (nomark _)) (pss_cons (ps_if (PW.pt (pw_or (pt_not (pt_val (pe_call (ok_whole T) (hr.mono (by decide)) rfl T.mg_whole (T.fn_whole).kp T.bd_whole .nil passE (pa_cons (pe_fldD (all_cons (fd_mk T.cl_Control T.na_Control_least) (all_cons (fd_mk T.cl_Fixed T.na_Fixed_least) (all_cons (fd_mk T.cl_Climb T.na_Climb_least) (all_cons (fd_mk T.cl_Curve T.na_Curve_least) (all_cons (fd_mk T.cl_Delay T.na_Delay_least) (all_nil)))))) (pv 0)) (pa_cons pe_int pa_nil))))) (pw_or1 (pt_not (pt_val (pe_call (ok_whole T) (hr.mono (by decide)) rfl T.mg_whole (T.fn_whole).kp T.bd_whole .nil passE (pa_cons (pe_fldD (all_cons (fd_mk T.cl_Control T.na_Control_latest) (all_cons (fd_mk T.cl_Fixed T.na_Fixed_latest) (all_cons (fd_mk T.cl_Climb T.na_Climb_latest) (all_cons (fd_mk T.cl_Curve T.na_Curve_latest) (all_cons (fd_mk T.cl_Delay T.na_Delay_latest) (all_nil)))))) (pv 0)) (pa_cons pe_int pa_nil)))))))) (pss_one (ps_ret pe_bl)) pss_nil)
    (pss_one (ps_ret (pe_call (ok_whole T) (hr.mono (by decide)) rfl T.mg_whole (T.fn_whole).kp T.bd_whole .nil passE (pa_cons (pe_fldD (all_cons (fd_mk T.cl_Control T.na_Control_samples) (all_cons (fd_mk T.cl_Fixed T.na_Fixed_samples) (all_cons (fd_mk T.cl_Climb T.na_Climb_samples) (all_cons (fd_mk T.cl_Curve T.na_Curve_samples) (all_cons (fd_mk T.cl_Delay T.na_Delay_samples) (all_nil)))))) (pv 0)) (pa_cons pe_int pa_nil)))))) pss_nil)
    (pss_one (ps_ret pe_bl)))))))
abbrev nm_is_whole : List Str := ["value"]
theorem sc_is_whole : FnScope nm_is_whole ["value"] (defScope (top 5)) := ⟨rfl, rfl, rfl, by decide +kernel, rfl, by decide +kernel, by decide +kernel⟩
theorem ok_is_whole (T : Txt P K mg a) : FnOk P w K mg base (L2.CX P w) 1 a.f_is_whole a.d_is_whole ["value"] (sp_is_whole a.toCl) := by
  refine ok_body T.fn_is_whole sc_is_whole rfl rfl fun cdv A outer s H E hr => ?_
  exact (pss_one (ps_ret (pe_and (pe_callB c_isi (by rfl) T.no_isinstance (by decide +kernel) (pa_cons (pv 0) (pa_cons (pe_bltn (v := .ty "int") (by rfl) T.no_int (by decide +kernel) rfl) pa_nil))) (pe_one (pe_not (pe_callB c_isi (by rfl) T.no_isinstance (by decide +kernel) (pa_cons (pv 0) (pa_cons (pe_bltn (v := .ty "bool") (by rfl) T.no_bool (by decide +kernel) rfl) pa_nil))))))))
abbrev nm_in_range : List Str := ["value", "low", "high"]
theorem sc_in_range : FnScope nm_in_range ["value", "low", "high"] (defScope (top 6)) := ⟨rfl, rfl, rfl, by decide +kernel, rfl, by decide +kernel, by decide +kernel⟩
theorem ok_in_range (T : Txt P K mg a) : FnOk P w K mg base (L2.CX P w) 2 a.f_in_range a.d_in_range ["value", "low", "high"] (sp_in_range a.toCl) := by
  refine ok_body T.fn_in_range sc_in_range rfl rfl fun cdv A outer s H E hr => ?_
  exact (pss_one (ps_ret (pe_and (pe_call (ok_is_whole T) (hr.mono (by decide)) rfl T.mg_is_whole (T.fn_is_whole).kp T.bd_is_whole .nil passE (pa_cons (pv 0) pa_nil)) (pe_one (pe_chain o_le o_le (pv 1) (pv 0) (pv 2))))))
abbrev nm_Control___init__ : List Str := ["self", "unit"]
theorem sc_Control___init__ : FnScope nm_Control___init__ ["self", "unit"] (defScope (inClass (top 12) 2)) := ⟨rfl, rfl, rfl, by decide +kernel, rfl, by decide +kernel, by decide +kernel⟩
theorem ok_Control___init__ (T : Txt P K mg a) : FnOk P w K mg base (L2.CX P w) 3 a.f_Control___init__ a.d_Control___init__ ["self", "unit"] (sp_Control___init__ a.toCl) := by
  obtain ⟨_, cv_Control_GREATEST_⟩ := T.cv_Control_GREATEST
  obtain ⟨_, mg_MOST_UNIT_⟩ := T.mg_MOST_UNIT
  refine ok_body T.fn_Control___init__ sc_Control___init__ rfl rfl fun cdv A outer s H E hr => ?_
  exact (pss_cons (ps_if (pt_not (pt_val (pe_call (ok_in_range T) (hr.mono (by decide)) rfl T.mg_in_range (T.fn_in_range).kp T.bd_in_range .nil passE (pa_cons (pv 1) (pa_cons pe_int (pa_cons (pe_constI mg_MOST_UNIT_ rfl) pa_nil)))))) (pss_one (ps_raiseE rfl (takes_of rfl rfl rfl rfl) (pmk_ex T.oe_InvalidSetting T.ii_InvalidSetting_InvalidSetting T.it_InvalidSetting (ok_InvalidSetting___init__ T) (by repeat first | exact List.Mem.head _ | apply List.Mem.tail) (by decide) (hr.mono (by decide)) T.be_InvalidSetting passL rfl T.mg_InvalidSetting (pa_cons pe_str pa_nil)))) pss_nil)
    (pss_cons (ps_setFD (all_cons (fd_mk T.cl_Control T.na_Control_unit) (all_cons (fd_mk T.cl_Fixed T.na_Fixed_unit) (all_cons (fd_mk T.cl_Climb T.na_Climb_unit) (all_cons (fd_mk T.cl_Curve T.na_Curve_unit) (all_cons (fd_mk T.cl_Delay T.na_Delay_unit) (all_nil)))))) (pv 0) (pv 1))
    (pss_cons (ps_setFD (all_cons (fd_mk T.cl_Control T.na_Control_window) (all_cons (fd_mk T.cl_Fixed T.na_Fixed_window) (all_cons (fd_mk T.cl_Climb T.na_Climb_window) (all_cons (fd_mk T.cl_Curve T.na_Curve_window) (all_cons (fd_mk T.cl_Delay T.na_Delay_window) (all_nil)))))) (pv 0) (pe_op o_mul pe_int (pv 1)))
    (pss_cons (ps_setFD (all_cons (fd_mk T.cl_Control T.na_Control_threshold) (all_cons (fd_mk T.cl_Fixed T.na_Fixed_threshold) (all_cons (fd_mk T.cl_Climb T.na_Climb_threshold) (all_cons (fd_mk T.cl_Curve T.na_Curve_threshold) (all_cons (fd_mk T.cl_Delay T.na_Delay_threshold) (all_nil)))))) (pv 0) (pe_clsCon T.cr_Control cv_Control_GREATEST_ rfl T.mg_Control))
    (pss_cons (ps_setFD (all_cons (fd_mk T.cl_Control T.na_Control_credit) (all_cons (fd_mk T.cl_Fixed T.na_Fixed_credit) (all_cons (fd_mk T.cl_Climb T.na_Climb_credit) (all_cons (fd_mk T.cl_Curve T.na_Curve_credit) (all_cons (fd_mk T.cl_Delay T.na_Delay_credit) (all_nil)))))) (pv 0) pe_int)
    (pss_one (ps_setFD (all_cons (fd_mk T.cl_Control T.na_Control_stalled) (all_cons (fd_mk T.cl_Fixed T.na_Fixed_stalled) (all_cons (fd_mk T.cl_Climb T.na_Climb_stalled) (all_cons (fd_mk T.cl_Curve T.na_Curve_stalled) (all_cons (fd_mk T.cl_Delay T.na_Delay_stalled) (all_nil)))))) (pv 0) pe_bl)))))))
abbrev nm_Fixed___init__ : List Str := ["self", "unit", "pieces"]
theorem sc_Fixed___init__ : FnScS nm_Fixed___init__ ["self", "unit", "pieces"] (defScope (inClass (top 13) 1)) := ⟨rfl, rfl, rfl, by decide +kernel, rfl, by decide +kernel, by decide +kernel, by decide +kernel⟩
theorem ok_Fixed___init__ (T : Txt P K mg a) : FnOk P w K mg base (L2.CX P w) 4 a.f_Fixed___init__ a.d_Fixed___init__ ["self", "unit", "pieces"] (sp_Fixed___init__ a.toCl) := by
  obtain ⟨_, mg_MOST_PIECES_⟩ := T.mg_MOST_PIECES
  refine ok_bodyS T.fn_Fixed___init__ sc_Fixed___init__ rfl rfl rfl rfl rfl rfl rfl T.sup_top T.no_super fun cdv cc A outer s H E hr T1 => ?_
  exact (pssa_cons (psa_supM T1 (all_cons T.su_Fixed_Fixed___init__ (all_nil)) (ok_Control___init__ T) (hr.mono (by decide)) T.bd_Control___init__ passS (pa_cons (pv 1) pa_nil))
    (pssa_cons (psa_of (ps_if (pt_not (pt_val (pe_call (ok_in_range T) (hr.mono (by decide)) rfl T.mg_in_range (T.fn_in_range).kp T.bd_in_range .nil passS (pa_cons (pv 2) (pa_cons pe_int (pa_cons (pe_constI mg_MOST_PIECES_ rfl) pa_nil)))))) (pss_one (ps_raiseE rfl (takes_of rfl rfl rfl rfl) (pmk_ex T.oe_InvalidSetting T.ii_InvalidSetting_InvalidSetting T.it_InvalidSetting (ok_InvalidSetting___init__ T) (by repeat first | exact List.Mem.head _ | apply List.Mem.tail) (by decide) (hr.mono (by decide)) T.be_InvalidSetting passL rfl T.mg_InvalidSetting (pa_cons pe_str pa_nil)))) pss_nil))
    (pssa_one (psa_of (ps_setF T.cl_Fixed T.na_Fixed_window (pv 0) (pe_op o_mul (pv 1) (pv 2)))))))
abbrev nm_Climb___init__ : List Str := ["self", "unit"]
theorem sc_Climb___init__ : FnScS nm_Climb___init__ ["self", "unit"] (defScope (inClass (top 14) 1)) := ⟨rfl, rfl, rfl, by decide +kernel, rfl, by decide +kernel, by decide +kernel, by decide +kernel⟩
theorem ok_Climb___init__ (T : Txt P K mg a) : FnOk P w K mg base (L2.CX P w) 4 a.f_Climb___init__ a.d_Climb___init__ ["self", "unit"] (sp_Climb___init__ a.toCl) := by
  refine ok_bodyS T.fn_Climb___init__ sc_Climb___init__ rfl rfl rfl rfl rfl rfl rfl T.sup_top T.no_super fun cdv cc A outer s H E hr T1 => ?_
  exact (pssa_one (psa_supM T1 (all_cons T.su_Climb_Climb___init__ (all_cons T.su_Curve_Climb___init__ (all_cons T.su_Delay_Climb___init__ (all_nil)))) (ok_Control___init__ T) (hr.mono (by decide)) T.bd_Control___init__ passS (pa_cons (pv 1) pa_nil)))
abbrev nm_Curve___init__ : List Str := ["self", "unit"]
theorem sc_Curve___init__ : FnScS nm_Curve___init__ ["self", "unit"] (defScope (inClass (top 18) 1)) := ⟨rfl, rfl, rfl, by decide +kernel, rfl, by decide +kernel, by decide +kernel, by decide +kernel⟩
theorem ok_Curve___init__ (T : Txt P K mg a) : FnOk P w K mg base (L2.CX P w) 5 a.f_Curve___init__ a.d_Curve___init__ ["self", "unit"] (sp_Curve___init__ a.toCl) := by
  refine ok_bodyS T.fn_Curve___init__ sc_Curve___init__ rfl rfl rfl rfl rfl rfl rfl T.sup_top T.no_super fun cdv cc A outer s H E hr T1 => ?_
  exact (pssa_cons (psa_supM T1 (all_cons T.su_Curve_Curve___init__ (all_nil)) (ok_Climb___init__ T) (hr.mono (by decide)) T.bd_Climb___init__ passS (pa_cons (pv 1) pa_nil))
    (pssa_cons (psa_of (ps_setF T.cl_Curve T.na_Curve_peak (pv 0) pe_int))
    (pssa_cons (psa_of (ps_setF T.cl_Curve T.na_Curve_span (pv 0) pe_int))
    (pssa_one (psa_of (ps_setF T.cl_Curve T.na_Curve_born (pv 0) pe_non))))))
abbrev nm_Delay___init__ : List Str := ["self", "unit"]
theorem sc_Delay___init__ : FnScS nm_Delay___init__ ["self", "unit"] (defScope (inClass (top 19) 1)) := ⟨rfl, rfl, rfl, by decide +kernel, rfl, by decide +kernel, by decide +kernel, by decide +kernel⟩
theorem ok_Delay___init__ (T : Txt P K mg a) : FnOk P w K mg base (L2.CX P w) 5 a.f_Delay___init__ a.d_Delay___init__ ["self", "unit"] (sp_Delay___init__ a.toCl) := by
  refine ok_bodyS T.fn_Delay___init__ sc_Delay___init__ rfl rfl rfl rfl rfl rfl rfl T.sup_top T.no_super fun cdv cc A outer s H E hr T1 => ?_
  exact (pssa_cons (psa_supM T1 (all_cons T.su_Delay_Delay___init__ (all_nil)) (ok_Climb___init__ T) (hr.mono (by decide)) T.bd_Climb___init__ passS (pa_cons (pv 1) pa_nil))
    (pssa_cons (psa_of (ps_setF T.cl_Delay T.na_Delay_least (pv 0) pe_int))
    (pssa_cons (psa_of (ps_setF T.cl_Delay T.na_Delay_latest (pv 0) pe_int))
    (pssa_one (psa_of (ps_setF T.cl_Delay T.na_Delay_samples (pv 0) pe_int))))))
abbrev nm_control_of : List Str := ["kind", "unit"]
theorem sc_control_of : FnScope nm_control_of ["kind", "unit"] (defScope (top 20)) := ⟨rfl, rfl, rfl, by decide +kernel, rfl, by decide +kernel, by decide +kernel⟩
theorem ok_control_of (T : Txt P K mg a) : FnOk P w K mg base (L2.CX P w) 7 a.f_control_of a.d_control_of ["kind", "unit"] (sp_control_of a.toCl) := by
  obtain ⟨_, cv_Fixed_KIND_⟩ := T.cv_Fixed_KIND
  obtain ⟨_, cv_Climb_KIND_⟩ := T.cv_Climb_KIND
  obtain ⟨_, cv_Curve_KIND_⟩ := T.cv_Curve_KIND
  obtain ⟨_, cv_Delay_KIND_⟩ := T.cv_Delay_KIND
  obtain ⟨_, bd_Fixed___init___1_⟩ := T.bd_Fixed___init___1
  refine ok_body T.fn_control_of sc_control_of rfl rfl fun cdv A outer s H E hr => ?_
  exact (pss_cons (ps_if (pt_cmpR (o_eqP T.st hr.units) (pv 0) (pe_clsCon T.cr_Fixed cv_Fixed_KIND_ rfl T.mg_Fixed) (nomark _)) (pss_one (ps_ret (pe_make T.mk_Fixed (ok_Fixed___init__ T) (hr.mono (by decide)) rfl T.mg_Fixed bd_Fixed___init___1_.2 bd_Fixed___init___1_.1 passE (pa_cons (pv 1) pa_nil)))) pss_nil)
    (pss_cons (ps_if (pt_cmpR (o_eqP T.st hr.units) (pv 0) (pe_clsCon T.cr_Climb cv_Climb_KIND_ rfl T.mg_Climb) (nomark _)) (pss_one (ps_ret (pe_make T.mk_Climb (ok_Climb___init__ T) (hr.mono (by decide)) rfl T.mg_Climb T.bd_Climb___init__ .nil passE (pa_cons (pv 1) pa_nil)))) pss_nil)
    (pss_cons (ps_if (pt_cmpR (o_eqP T.st hr.units) (pv 0) (pe_clsCon T.cr_Curve cv_Curve_KIND_ rfl T.mg_Curve) (nomark _)) (pss_one (ps_ret (pe_make T.mk_Curve (ok_Curve___init__ T) (hr.mono (by decide)) rfl T.mg_Curve T.bd_Curve___init__ .nil passE (pa_cons (pv 1) pa_nil)))) pss_nil)
    (pss_cons (ps_if (pt_cmpR (o_eqP T.st hr.units) (pv 0) (pe_clsCon T.cr_Delay cv_Delay_KIND_ rfl T.mg_Delay) (nomark _)) (pss_one (ps_ret (pe_make T.mk_Delay (ok_Delay___init__ T) (hr.mono (by decide)) rfl T.mg_Delay T.bd_Delay___init__ .nil passE (pa_cons (pv 1) pa_nil)))) pss_nil)
    (pss_one (ps_raiseE rfl (takes_of rfl rfl rfl rfl) (pmk_ex T.oe_InvalidSetting T.ii_InvalidSetting_InvalidSetting T.it_InvalidSetting (ok_InvalidSetting___init__ T) (by repeat first | exact List.Mem.head _ | apply List.Mem.tail) (by decide) (hr.mono (by decide)) T.be_InvalidSetting passL rfl T.mg_InvalidSetting (pa_cons pe_str pa_nil))))))))
abbrev nm_make : List Str := ["_law_which", "_law_unit_here", "_law_pieces_here"]
theorem sc_make : FnScope nm_make ["_law_which", "_law_unit_here", "_law_pieces_here"] (defScope (top 30)) := ⟨rfl, rfl, rfl, by decide +kernel, rfl, by decide +kernel, by decide +kernel⟩
theorem ok_make (T : Txt P K mg a) : FnOk P w K mg base (L2.CX P w) 8 a.f_make a.d_make ["_law_which", "_law_unit_here", "_law_pieces_here"] (sp_make a.toCl) := by
  obtain ⟨_, bd_Fixed___init___1_⟩ := T.bd_Fixed___init___1
  refine ok_body T.fn_make sc_make rfl rfl fun cdv A outer s H E hr => ?_
  exact (pss_cons (ps_if (pt_cmpR (o_eqP T.st hr.units) (pv 0) pe_int (nomark _)) (pss_one (ps_ret (pe_make T.mk_Control (ok_Control___init__ T) (hr.mono (by decide)) rfl T.mg_Control T.bd_Control___init__ .nil passE (pa_cons (pv 1) pa_nil)))) pss_nil)
    (pss_cons (ps_if (pt_cmpR (o_eqP T.st hr.units) (pv 0) pe_int (nomark _)) (pss_one (ps_ret (pe_make T.mk_Fixed (ok_Fixed___init__ T) (hr.mono (by decide)) rfl T.mg_Fixed bd_Fixed___init___1_.2 bd_Fixed___init___1_.1 passE (pa_cons (pv 1) pa_nil)))) pss_nil)
    (pss_cons (ps_if (pt_cmpR (o_eqP T.st hr.units) (pv 0) pe_int (nomark _)) (pss_one (ps_ret (pe_make T.mk_Climb (ok_Climb___init__ T) (hr.mono (by decide)) rfl T.mg_Climb T.bd_Climb___init__ .nil passE (pa_cons (pv 1) pa_nil)))) pss_nil)
    (pss_cons (ps_if (pt_cmpR (o_eqP T.st hr.units) (pv 0) pe_int (nomark _)) (pss_one (ps_ret (pe_make T.mk_Curve (ok_Curve___init__ T) (hr.mono (by decide)) rfl T.mg_Curve T.bd_Curve___init__ .nil passE (pa_cons (pv 1) pa_nil)))) pss_nil)
    (pss_cons (ps_if (pt_cmpR (o_eqP T.st hr.units) (pv 0) pe_int (nomark _)) (pss_one (ps_ret (pe_make T.mk_Delay (ok_Delay___init__ T) (hr.mono (by decide)) rfl T.mg_Delay T.bd_Delay___init__ .nil passE (pa_cons (pv 1) pa_nil)))) pss_nil)
    (pss_cons (ps_if (pt_cmpR (o_eqP T.st hr.units) (pv 0) pe_int (nomark _)) (pss_one (ps_ret (pe_make T.mk_Fixed (ok_Fixed___init__ T) (hr.mono (by decide)) rfl T.mg_Fixed T.bd_Fixed___init__ .nil passE (pa_cons (pv 1) (pa_cons (pv 2) pa_nil))))) pss_nil)
    (pss_cons (ps_if (pt_cmpR (o_eqP T.st hr.units) (pv 0) pe_int (nomark _)) (pss_one (ps_ret (pe_makeKw T.mk_Fixed (ok_Fixed___init__ T) (hr.mono (by decide)) rfl T.mg_Fixed T.bk_Fixed___init___pieces passE (pa_cons (pv 1) pa_nil) (pk_cons (pv 2) pk_nil)))) pss_nil)
    (pss_one (ps_ret (pe_call (ok_control_of T) (hr.mono (by decide)) rfl T.mg_control_of (T.fn_control_of).kp T.bd_control_of .nil passE (pa_cons (pe_ix (o_ix T.st) (pe_lst (pa_cons pe_str (pa_cons pe_str (pa_cons pe_str (pa_cons pe_str pa_nil))))) (pe_op o_sub (pv 0) pe_int) (fun _ _ => rfl)) (pa_cons (pv 1) pa_nil))))))))))))
abbrev nm_Control_on_expiry : List Str := ["self", "flight", "now"]
theorem sc_Control_on_expiry : FnScope nm_Control_on_expiry ["self", "flight", "now"] (defScope (inClass (top 12) 7)) := ⟨rfl, rfl, rfl, by decide +kernel, rfl, by decide +kernel, by decide +kernel⟩
theorem ok_Control_on_expiry (T : Txt P K mg a) : FnOk P w K mg base (L2.CX P w) 1 a.f_Control_on_expiry a.d_Control_on_expiry ["self", "flight", "now"] (sp_Control_on_expiry a.toCl) := by
  refine ok_body T.fn_Control_on_expiry sc_Control_on_expiry rfl rfl fun cdv A outer s H E hr => ?_
  exact (pss_cons (ps_if (pt_not (pt_val (pe_fldD (all_cons (fd_mk T.cl_Control T.na_Control_stalled) (all_cons (fd_mk T.cl_Climb T.na_Climb_stalled) (all_cons (fd_mk T.cl_Curve T.na_Curve_stalled) (all_cons (fd_mk T.cl_Delay T.na_Delay_stalled) (all_nil))))) (pv 0)))) (pss_one (ps_setFD (all_cons (fd_mk T.cl_Control T.na_Control_threshold) (all_cons (fd_mk T.cl_Climb T.na_Climb_threshold) (all_cons (fd_mk T.cl_Curve T.na_Curve_threshold) (all_cons (fd_mk T.cl_Delay T.na_Delay_threshold) (all_nil))))) (pv 0) (pe_callB (c_max2 rfl) (by rfl) T.no_max (by decide +kernel) (pa_cons (pe_op o_fdiv (pv 1) pe_int) (pa_cons (pe_op o_mul pe_int (pe_fldD (all_cons (fd_mk T.cl_Control T.na_Control_unit) (all_cons (fd_mk T.cl_Climb T.na_Climb_unit) (all_cons (fd_mk T.cl_Curve T.na_Curve_unit) (all_cons (fd_mk T.cl_Delay T.na_Delay_unit) (all_nil))))) (pv 0))) pa_nil))))) pss_nil)
    (pss_cons (ps_setFD (all_cons (fd_mk T.cl_Control T.na_Control_window) (all_cons (fd_mk T.cl_Climb T.na_Climb_window) (all_cons (fd_mk T.cl_Curve T.na_Curve_window) (all_cons (fd_mk T.cl_Delay T.na_Delay_window) (all_nil))))) (pv 0) (pe_fldD (all_cons (fd_mk T.cl_Control T.na_Control_unit) (all_cons (fd_mk T.cl_Climb T.na_Climb_unit) (all_cons (fd_mk T.cl_Curve T.na_Curve_unit) (all_cons (fd_mk T.cl_Delay T.na_Delay_unit) (all_nil))))) (pv 0)))
    (pss_cons (ps_setFD (all_cons (fd_mk T.cl_Control T.na_Control_credit) (all_cons (fd_mk T.cl_Climb T.na_Climb_credit) (all_cons (fd_mk T.cl_Curve T.na_Curve_credit) (all_cons (fd_mk T.cl_Delay T.na_Delay_credit) (all_nil))))) (pv 0) pe_int)
    (pss_one (ps_setFD (all_cons (fd_mk T.cl_Control T.na_Control_stalled) (all_cons (fd_mk T.cl_Climb T.na_Climb_stalled) (all_cons (fd_mk T.cl_Curve T.na_Curve_stalled) (all_cons (fd_mk T.cl_Delay T.na_Delay_stalled) (all_nil))))) (pv 0) pe_bl)))))
abbrev nm_Fixed_on_expiry : List Str := ["self", "flight", "now"]
theorem sc_Fixed_on_expiry : FnScope nm_Fixed_on_expiry ["self", "flight", "now"] (defScope (inClass (top 13) 5)) := ⟨rfl, rfl, rfl, by decide +kernel, rfl, by decide +kernel, by decide +kernel⟩
theorem ok_Fixed_on_expiry (T : Txt P K mg a) : FnOk P w K mg base (L2.CX P w) 1 a.f_Fixed_on_expiry a.d_Fixed_on_expiry ["self", "flight", "now"] (sp_Fixed_on_expiry a.toCl) := by
  refine ok_body T.fn_Fixed_on_expiry sc_Fixed_on_expiry rfl rfl fun cdv A outer s H E hr => ?_
  exact (pss_one (ps_setF T.cl_Fixed T.na_Fixed_stalled (pv 0) pe_bl))
abbrev nm_Climb_on_expiry : List Str := ["self", "flight", "now"]
theorem sc_Climb_on_expiry : FnScS nm_Climb_on_expiry ["self", "flight", "now"] (defScope (inClass (top 14) 5)) := ⟨rfl, rfl, rfl, by decide +kernel, rfl, by decide +kernel, by decide +kernel, by decide +kernel⟩
theorem ok_Climb_on_expiry (T : Txt P K mg a) : FnOk P w K mg base (L2.CX P w) 2 a.f_Climb_on_expiry a.d_Climb_on_expiry ["self", "flight", "now"] (sp_Climb_on_expiry a.toCl) := by
  refine ok_bodyS T.fn_Climb_on_expiry sc_Climb_on_expiry rfl rfl rfl rfl rfl rfl rfl T.sup_top T.no_super fun cdv cc A outer s H E hr T1 => ?_
  exact (pssa_one (psa_supM T1 (all_cons T.su_Climb_Climb_on_expiry (all_cons T.su_Curve_Climb_on_expiry (all_cons T.su_Delay_Climb_on_expiry (all_nil)))) (ok_Control_on_expiry T) (hr.mono (by decide)) T.bd_Control_on_expiry passS (pa_cons (pv 1) (pa_cons (pv 2) pa_nil))))
abbrev nm_Curve_on_expiry : List Str := ["self", "flight", "now"]
theorem sc_Curve_on_expiry : FnScS nm_Curve_on_expiry ["self", "flight", "now"] (defScope (inClass (top 18) 5)) := ⟨rfl, rfl, rfl, by decide +kernel, rfl, by decide +kernel, by decide +kernel, by decide +kernel⟩
theorem ok_Curve_on_expiry (T : Txt P K mg a) : FnOk P w K mg base (L2.CX P w) 3 a.f_Curve_on_expiry a.d_Curve_on_expiry ["self", "flight", "now"] (sp_Curve_on_expiry a.toCl) := by
  refine ok_bodyS T.fn_Curve_on_expiry sc_Curve_on_expiry rfl rfl rfl rfl rfl rfl rfl T.sup_top T.no_super fun cdv cc A outer s H E hr T1 => ?_
  exact (pssa_cons (psa_of (ps_setF T.cl_Curve T.na_Curve_peak (pv 0) (pe_fldC T.cl_Curve T.na_Curve_window (pv 0))))
    (pssa_cons (psa_of (ps_setF T.cl_Curve T.na_Curve_born (pv 0) pe_non))
    (pssa_one (psa_supM T1 (all_cons T.su_Curve_Curve_on_expiry (all_nil)) (ok_Climb_on_expiry T) (hr.mono (by decide)) T.bd_Climb_on_expiry passS (pa_cons (pv 1) (pa_cons (pv 2) pa_nil))))))
abbrev nm_Delay_on_expiry : List Str := ["self", "flight", "now"]
theorem sc_Delay_on_expiry : FnScS nm_Delay_on_expiry ["self", "flight", "now"] (defScope (inClass (top 19) 6)) := ⟨rfl, rfl, rfl, by decide +kernel, rfl, by decide +kernel, by decide +kernel, by decide +kernel⟩
theorem ok_Delay_on_expiry (T : Txt P K mg a) : FnOk P w K mg base (L2.CX P w) 3 a.f_Delay_on_expiry a.d_Delay_on_expiry ["self", "flight", "now"] (sp_Delay_on_expiry a.toCl) := by
  refine ok_bodyS T.fn_Delay_on_expiry sc_Delay_on_expiry rfl rfl rfl rfl rfl rfl rfl T.sup_top T.no_super fun cdv cc A outer s H E hr T1 => ?_
  exact (pssa_one (psa_supM T1 (all_cons T.su_Delay_Delay_on_expiry (all_nil)) (ok_Climb_on_expiry T) (hr.mono (by decide)) T.bd_Climb_on_expiry passS (pa_cons (pv 1) (pa_cons (pv 2) pa_nil))))
abbrev nm_Control_on_sample : List Str := ["self", "ticks"]
theorem sc_Control_on_sample : FnScope nm_Control_on_sample ["self", "ticks"] (defScope (inClass (top 12) 8)) := ⟨rfl, rfl, rfl, by decide +kernel, rfl, by decide +kernel, by decide +kernel⟩
theorem ok_Control_on_sample (T : Txt P K mg a) : FnOk P w K mg base (L2.CX P w) 1 a.f_Control_on_sample a.d_Control_on_sample ["self", "ticks"] (sp_Control_on_sample a.toCl) := by
  refine ok_body T.fn_Control_on_sample sc_Control_on_sample rfl rfl fun cdv A outer s H E hr => ?_
  exact (pss_one ps_retN)
abbrev nm_Fixed_on_sample : List Str := ["self", "ticks"]
theorem sc_Fixed_on_sample : FnScope nm_Fixed_on_sample ["self", "ticks"] (defScope (inClass (top 13) 6)) := ⟨rfl, rfl, rfl, by decide +kernel, rfl, by decide +kernel, by decide +kernel⟩
theorem ok_Fixed_on_sample (T : Txt P K mg a) : FnOk P w K mg base (L2.CX P w) 1 a.f_Fixed_on_sample a.d_Fixed_on_sample ["self", "ticks"] (sp_Fixed_on_sample a.toCl) := by
  refine ok_body T.fn_Fixed_on_sample sc_Fixed_on_sample rfl rfl fun cdv A outer s H E hr => ?_
  exact (pss_one ps_retN)
abbrev nm_Climb_on_sample : List Str := ["self", "ticks"]
theorem sc_Climb_on_sample : FnScS nm_Climb_on_sample ["self", "ticks"] (defScope (inClass (top 14) 6)) := ⟨rfl, rfl, rfl, by decide +kernel, rfl, by decide +kernel, by decide +kernel, by decide +kernel⟩
theorem ok_Climb_on_sample (T : Txt P K mg a) : FnOk P w K mg base (L2.CX P w) 2 a.f_Climb_on_sample a.d_Climb_on_sample ["self", "ticks"] (sp_Climb_on_sample a.toCl) := by
  refine ok_bodyS T.fn_Climb_on_sample sc_Climb_on_sample rfl rfl rfl rfl rfl rfl rfl T.sup_top T.no_super fun cdv cc A outer s H E hr T1 => ?_
  exact (pssa_one (psa_supM T1 (all_cons T.su_Climb_Climb_on_sample (all_cons T.su_Curve_Climb_on_sample (all_nil))) (ok_Control_on_sample T) (hr.mono (by decide)) T.bd_Control_on_sample passS (pa_cons (pv 1) pa_nil)))
abbrev nm_Curve_on_sample : List Str := ["self", "ticks"]
theorem sc_Curve_on_sample : FnScS nm_Curve_on_sample ["self", "ticks"] (defScope (inClass (top 18) 6)) := ⟨rfl, rfl, rfl, by decide +kernel, rfl, by decide +kernel, by decide +kernel, by decide +kernel⟩
theorem ok_Curve_on_sample (T : Txt P K mg a) : FnOk P w K mg base (L2.CX P w) 3 a.f_Curve_on_sample a.d_Curve_on_sample ["self", "ticks"] (sp_Curve_on_sample a.toCl) := by
  refine ok_bodyS T.fn_Curve_on_sample sc_Curve_on_sample rfl rfl rfl rfl rfl rfl rfl T.sup_top T.no_super fun cdv cc A outer s H E hr T1 => ?_
  exact (pssa_one (psa_supM T1 (all_cons T.su_Curve_Curve_on_sample (all_nil)) (ok_Climb_on_sample T) (hr.mono (by decide)) T.bd_Climb_on_sample passS (pa_cons (pv 1) pa_nil)))
abbrev nm_Delay_on_sample : List Str := ["self", "ticks"]
theorem sc_Delay_on_sample : FnScope nm_Delay_on_sample ["self", "ticks"] (defScope (inClass (top 19) 7)) := ⟨rfl, rfl, rfl, by decide +kernel, rfl, by decide +kernel, by decide +kernel⟩
theorem ok_Delay_on_sample (T : Txt P K mg a) : FnOk P w K mg base (L2.CX P w) 1 a.f_Delay_on_sample a.d_Delay_on_sample ["self", "ticks"] (sp_Delay_on_sample a.toCl) := by
  refine ok_body T.fn_Delay_on_sample sc_Delay_on_sample rfl rfl fun cdv A outer s H E hr => ?_
  exact (pss_cons (ps_setF T.cl_Delay T.na_Delay_latest (pv 0) (pv 1))
    (pss_cons (ps_if (pt_cmpR (o_eqP T.st hr.units) (pe_fldC T.cl_Delay T.na_Delay_samples (pv 0)) pe_int (nomark _)) (pss_one (ps_setF T.cl_Delay T.na_Delay_least (pv 0) (pv 1))) (pss_one (ps_setF T.cl_Delay T.na_Delay_least (pv 0) (pe_callB (c_min2 rfl) (by rfl) T.no_min (by decide +kernel) (pa_cons (pe_fldC T.cl_Delay T.na_Delay_least (pv 0)) (pa_cons (pv 1) pa_nil))))))
    (pss_one (ps_augF T.cl_Delay T.na_Delay_samples (pv 0) pe_int in_addI))))
abbrev nm_Control_on_loss : List Str := ["self", "flight", "now"]
theorem sc_Control_on_loss : FnScope nm_Control_on_loss ["self", "flight", "now"] (defScope (inClass (top 12) 6)) := ⟨rfl, rfl, rfl, by decide +kernel, rfl, by decide +kernel, by decide +kernel⟩
theorem ok_Control_on_loss (T : Txt P K mg a) : FnOk P w K mg base (L2.CX P w) 1 a.f_Control_on_loss a.d_Control_on_loss ["self", "flight", "now"] (sp_Control_on_loss a.toCl) := by
  obtain ⟨_, cv_Control_GREATEST_⟩ := T.cv_Control_GREATEST
  refine ok_body T.fn_Control_on_loss sc_Control_on_loss rfl rfl fun cdv A outer s H E hr => ?_
  exact (pss_cons (ps_setFD (all_cons (fd_mk T.cl_Control T.na_Control_threshold) (all_cons (fd_mk T.cl_Climb T.na_Climb_threshold) (all_cons (fd_mk T.cl_Delay T.na_Delay_threshold) (all_nil)))) (pv 0) (pe_callB (c_max2 rfl) (by rfl) T.no_max (by decide +kernel) (pa_cons (pe_op o_fdiv (pv 1) pe_int) (pa_cons (pe_op o_mul pe_int (pe_fldD (all_cons (fd_mk T.cl_Control T.na_Control_unit) (all_cons (fd_mk T.cl_Climb T.na_Climb_unit) (all_cons (fd_mk T.cl_Delay T.na_Delay_unit) (all_nil)))) (pv 0))) pa_nil))))
    (pss_cons (ps_setFD (all_cons (fd_mk T.cl_Control T.na_Control_window) (all_cons (fd_mk T.cl_Climb T.na_Climb_window) (all_cons (fd_mk T.cl_Delay T.na_Delay_window) (all_nil)))) (pv 0) (pe_callB (c_min2 rfl) (by rfl) T.no_min (by decide +kernel) (pa_cons (pe_clsCon T.cr_Control cv_Control_GREATEST_ rfl T.mg_Control) (pa_cons (pe_fldD (all_cons (fd_mk T.cl_Control T.na_Control_threshold) (all_cons (fd_mk T.cl_Climb T.na_Climb_threshold) (all_cons (fd_mk T.cl_Delay T.na_Delay_threshold) (all_nil)))) (pv 0)) pa_nil))))
    (pss_one (ps_setFD (all_cons (fd_mk T.cl_Control T.na_Control_credit) (all_cons (fd_mk T.cl_Climb T.na_Climb_credit) (all_cons (fd_mk T.cl_Delay T.na_Delay_credit) (all_nil)))) (pv 0) pe_int))))
abbrev nm_Fixed_on_loss : List Str := ["self", "flight", "now"]
theorem sc_Fixed_on_loss : FnScope nm_Fixed_on_loss ["self", "flight", "now"] (defScope (inClass (top 13) 4)) := ⟨rfl, rfl, rfl, by decide +kernel, rfl, by decide +kernel, by decide +kernel⟩
theorem ok_Fixed_on_loss (T : Txt P K mg a) : FnOk P w K mg base (L2.CX P w) 1 a.f_Fixed_on_loss a.d_Fixed_on_loss ["self", "flight", "now"] (sp_Fixed_on_loss a.toCl) := by
  refine ok_body T.fn_Fixed_on_loss sc_Fixed_on_loss rfl rfl fun cdv A outer s H E hr => ?_
  exact (pss_one ps_retN)
abbrev nm_Climb_on_loss : List Str := ["self", "flight", "now"]
theorem sc_Climb_on_loss : FnScS nm_Climb_on_loss ["self", "flight", "now"] (defScope (inClass (top 14) 4)) := ⟨rfl, rfl, rfl, by decide +kernel, rfl, by decide +kernel, by decide +kernel, by decide +kernel⟩
theorem ok_Climb_on_loss (T : Txt P K mg a) : FnOk P w K mg base (L2.CX P w) 2 a.f_Climb_on_loss a.d_Climb_on_loss ["self", "flight", "now"] (sp_Climb_on_loss a.toCl) := by
  refine ok_bodyS T.fn_Climb_on_loss sc_Climb_on_loss rfl rfl rfl rfl rfl rfl rfl T.sup_top T.no_super fun cdv cc A outer s H E hr T1 => ?_
  exact (pssa_one (psa_supM T1 (all_cons T.su_Climb_Climb_on_loss (all_cons T.su_Delay_Climb_on_loss (all_nil))) (ok_Control_on_loss T) (hr.mono (by decide)) T.bd_Control_on_loss passS (pa_cons (pv 1) (pa_cons (pv 2) pa_nil))))
abbrev nm_curve_span : List Str := ["unit", "drop_size", "span"]
theorem sc_curve_span : FnScope nm_curve_span ["unit", "drop_size"] (defScope (top 17)) := ⟨rfl, rfl, rfl, by decide +kernel, rfl, by decide +kernel, by decide +kernel⟩
theorem ok_curve_span (T : Txt P K mg a) : FnOk P w K mg base (L2.CX P w) 1 a.f_curve_span a.d_curve_span ["unit", "drop_size"] (sp_curve_span a.toCl) := by
  refine ok_body T.fn_curve_span sc_curve_span rfl rfl fun cdv A outer s H E hr => ?_
  exact (pss_cons (ps_set (i := 2) sc_curve_span.nd rfl (by first | exact Or.inl rfl | exact Or.inr rfl) pe_int)
    (pss_cons (ps_while (passes_of rfl) (pt_cmpR o_lt (pe_op o_mul (pv 0) (pe_op o_pow (pv 2) pe_int)) (pe_op o_mul pe_int (pv 1)) (nomark _)) (pss_one (ps_aug (i := 2) sc_curve_span.nd rfl (by first | exact Or.inl rfl | exact Or.inr rfl) pe_int ip_addI)))
    (pss_one (ps_ret (pv 2)))))
abbrev nm_Curve_on_loss : List Str := ["self", "flight", "now"]
theorem sc_Curve_on_loss : FnScope nm_Curve_on_loss ["self", "flight", "now"] (defScope (inClass (top 18) 4)) := ⟨rfl, rfl, rfl, by decide +kernel, rfl, by decide +kernel, by decide +kernel⟩
theorem ok_Curve_on_loss (T : Txt P K mg a) : FnOk P w K mg base (L2.CX P w) 2 a.f_Curve_on_loss a.d_Curve_on_loss ["self", "flight", "now"] (sp_Curve_on_loss a.toCl) := by
  refine ok_body T.fn_Curve_on_loss sc_Curve_on_loss rfl rfl fun cdv A outer s H E hr => ?_
  exact (pss_cons (ps_setF T.cl_Curve T.na_Curve_peak (pv 0) (pe_fldC T.cl_Curve T.na_Curve_window (pv 0)))
    (pss_cons (ps_setF T.cl_Curve T.na_Curve_threshold (pv 0) (pe_callB (c_max2 rfl) (by rfl) T.no_max (by decide +kernel) (pa_cons (pe_op o_fdiv (pe_op o_mul (pe_fldC T.cl_Curve T.na_Curve_window (pv 0)) pe_int) pe_int) (pa_cons (pe_op o_mul pe_int (pe_fldC T.cl_Curve T.na_Curve_unit (pv 0))) pa_nil))))
    (pss_cons (ps_setF T.cl_Curve T.na_Curve_window (pv 0) (pe_fldC T.cl_Curve T.na_Curve_threshold (pv 0)))
    (pss_cons (ps_setF T.cl_Curve T.na_Curve_credit (pv 0) pe_int)
    (pss_cons (ps_setF T.cl_Curve T.na_Curve_born (pv 0) (pv 2))
    (pss_one (ps_setF T.cl_Curve T.na_Curve_span (pv 0) (pe_call (ok_curve_span T) (hr.mono (by decide)) rfl T.mg_curve_span (T.fn_curve_span).kp T.bd_curve_span .nil passE (pa_cons (pe_fldC T.cl_Curve T.na_Curve_unit (pv 0)) (pa_cons (pe_op o_sub (pe_fldC T.cl_Curve T.na_Curve_peak (pv 0)) (pe_fldC T.cl_Curve T.na_Curve_window (pv 0))) pa_nil))))))))))
abbrev nm_Delay_on_loss : List Str := ["self", "flight", "now"]
theorem sc_Delay_on_loss : FnScS nm_Delay_on_loss ["self", "flight", "now"] (defScope (inClass (top 19) 5)) := ⟨rfl, rfl, rfl, by decide +kernel, rfl, by decide +kernel, by decide +kernel, by decide +kernel⟩
theorem ok_Delay_on_loss (T : Txt P K mg a) : FnOk P w K mg base (L2.CX P w) 3 a.f_Delay_on_loss a.d_Delay_on_loss ["self", "flight", "now"] (sp_Delay_on_loss a.toCl) := by
  refine ok_bodyS T.fn_Delay_on_loss sc_Delay_on_loss rfl rfl rfl rfl rfl rfl rfl T.sup_top T.no_super fun cdv cc A outer s H E hr T1 => ?_
  exact (pssa_one (psa_supM T1 (all_cons T.su_Delay_Delay_on_loss (all_nil)) (ok_Climb_on_loss T) (hr.mono (by decide)) T.bd_Climb_on_loss passS (pa_cons (pv 1) (pa_cons (pv 2) pa_nil))))
abbrev nm_apart : List Str := ["_law_which", "_law_unit_here", "_law_pieces_here", "_law_box_here", "_law_one", "_law_two", "_law_load", "_law_three"]
theorem sc_apart : FnScope nm_apart ["_law_which", "_law_unit_here", "_law_pieces_here", "_law_box_here"] (defScope (top 38)) := ⟨rfl, rfl, rfl, by decide +kernel, rfl, by decide +kernel, by decide +kernel⟩
theorem ok_apart (T : Txt P K mg a) : FnOk P w K mg base (L2.CX P w) 9 a.f_apart a.d_apart ["_law_which", "_law_unit_here", "_law_pieces_here", "_law_box_here"] (sp_apart a.toCl) := by
  refine ok_body T.fn_apart sc_apart rfl rfl fun cdv A outer s H E hr => ?_
  exact (pss_cons (ps_set (i := 4) sc_apart.nd rfl (by first | exact Or.inl rfl | exact Or.inr rfl) (pe_call (ok_make T) (hr.mono (by decide)) rfl T.mg_make (T.fn_make).kp T.bd_make .nil passE (pa_cons (pv 0) (pa_cons (pv 1) (pa_cons (pv 2) pa_nil)))))
    (pss_cons (ps_set (i := 5) sc_apart.nd rfl (by first | exact Or.inl rfl | exact Or.inr rfl) (pe_call (ok_make T) (hr.mono (by decide)) rfl T.mg_make (T.fn_make).kp T.bd_make .nil passE (pa_cons (pv 0) (pa_cons (pv 1) (pa_cons (pv 2) pa_nil)))))
    (pss_cons (ps_set (i := 6) sc_apart.nd rfl (by first | exact Or.inl rfl | exact Or.inr rfl) (pe_call (ok_draw T) (hr.mono (by decide)) rfl T.mg_draw (T.fn_draw).kp T.bd_draw .nil passE (pa_cons (pv 3) (pa_cons pe_int pa_nil))))
    (pss_cons (ps_if (PW.pt (pw_or (pt_cmpR o_isnot (pe_mD (k := 3) (pv 4) (all_cons (md_mk T.cl_Control T.mt_Control_on_expiry (ok_Control_on_expiry T) (by decide) T.bd_Control_on_expiry) (all_cons (md_mk T.cl_Fixed T.mt_Fixed_on_expiry (ok_Fixed_on_expiry T) (by decide) T.bd_Fixed_on_expiry) (all_cons (md_mk T.cl_Climb T.mt_Climb_on_expiry (ok_Climb_on_expiry T) (by decide) T.bd_Climb_on_expiry) (all_cons (md_mk T.cl_Curve T.mt_Curve_on_expiry (ok_Curve_on_expiry T) (by decide) T.bd_Curve_on_expiry) (all_cons (md_mk T.cl_Delay T.mt_Delay_on_expiry (ok_Delay_on_expiry T) (by decide) T.bd_Delay_on_expiry) (all_nil)))))) (hr.mono (by decide)) (fun σ => pass_at passE σ) (pa_cons (pv 6) (pa_cons pe_int pa_nil))) pe_non (nomark _)) (pw_or1 (pt_cmpR o_isnot (pe_mD (k := 3) (pv 4) (all_cons (md_mk T.cl_Control T.mt_Control_on_sample (ok_Control_on_sample T) (by decide) T.bd_Control_on_sample) (all_cons (md_mk T.cl_Fixed T.mt_Fixed_on_sample (ok_Fixed_on_sample T) (by decide) T.bd_Fixed_on_sample) (all_cons (md_mk T.cl_Climb T.mt_Climb_on_sample (ok_Climb_on_sample T) (by decide) T.bd_Climb_on_sample) (all_cons (md_mk T.cl_Curve T.mt_Curve_on_sample (ok_Curve_on_sample T) (by decide) T.bd_Curve_on_sample) (all_cons (md_mk T.cl_Delay T.mt_Delay_on_sample (ok_Delay_on_sample T) (by decide) T.bd_Delay_on_sample) (all_nil)))))) (hr.mono (by decide)) (fun σ => pass_at passE σ) (pa_cons (pe_call (ok_draw T) (hr.mono (by decide)) rfl T.mg_draw (T.fn_draw).kp T.bd_draw .nil passE (pa_cons (pv 3) (pa_cons pe_int pa_nil))) pa_nil)) pe_non (nomark _))))) (pss_one (ps_ret pe_bl)) pss_nil)
    (pss_cons (ps_if (PW.pt (pw_or (pt_cmpR o_isnot (pe_mD (k := 3) (pv 4) (all_cons (md_mk T.cl_Control T.mt_Control_on_loss (ok_Control_on_loss T) (by decide) T.bd_Control_on_loss) (all_cons (md_mk T.cl_Fixed T.mt_Fixed_on_loss (ok_Fixed_on_loss T) (by decide) T.bd_Fixed_on_loss) (all_cons (md_mk T.cl_Climb T.mt_Climb_on_loss (ok_Climb_on_loss T) (by decide) T.bd_Climb_on_loss) (all_cons (md_mk T.cl_Curve T.mt_Curve_on_loss (ok_Curve_on_loss T) (by decide) T.bd_Curve_on_loss) (all_cons (md_mk T.cl_Delay T.mt_Delay_on_loss (ok_Delay_on_loss T) (by decide) T.bd_Delay_on_loss) (all_nil)))))) (hr.mono (by decide)) (fun σ => pass_at passE σ) (pa_cons (pv 6) (pa_cons (pe_op o_add pe_int (pe_call (ok_draw T) (hr.mono (by decide)) rfl T.mg_draw (T.fn_draw).kp T.bd_draw .nil passE (pa_cons (pv 3) (pa_cons pe_int pa_nil)))) pa_nil))) pe_non (nomark _)) (pw_or1 (pt_not (pt_val (pe_call (ok_truth T) (hr.mono (by decide)) rfl T.mg_truth (T.fn_truth).kp T.bd_truth .nil passE (pa_cons (pe_fldD (all_cons (fd_mk T.cl_Control T.na_Control_stalled) (all_cons (fd_mk T.cl_Fixed T.na_Fixed_stalled) (all_cons (fd_mk T.cl_Climb T.na_Climb_stalled) (all_cons (fd_mk T.cl_Curve T.na_Curve_stalled) (all_cons (fd_mk T.cl_Delay T.na_Delay_stalled) (all_nil)))))) (pv 4)) (pa_cons pe_bl pa_nil)))))))) (pss_one (ps_ret pe_bl)) pss_nil)
    (pss_cons (ps_set (i := 7) sc_apart.nd rfl (by first | exact Or.inl rfl | exact Or.inr rfl) (pe_call (ok_make T) (hr.mono (by decide)) rfl T.mg_make (T.fn_make).kp T.bd_make .nil passE (pa_cons (pv 0) (pa_cons (pv 1) (pa_cons (pv 2) pa_nil)))))
    (pss_one (ps_ret (pe_and (pe_call (ok_fresh T) (hr.mono (by decide)) rfl T.mg_fresh (T.fn_fresh).kp T.bd_fresh .nil passE (pa_cons (pv 5) (pa_cons (pv 0) (pa_cons (pv 1) (pa_cons (pv 2) pa_nil))))) (pe_one (pe_call (ok_fresh T) (hr.mono (by decide)) rfl T.mg_fresh (T.fn_fresh).kp T.bd_fresh .nil passE (pa_cons (pv 7) (pa_cons (pv 0) (pa_cons (pv 1) (pa_cons (pv 2) pa_nil)))))))))))))))
abbrev nm_bad : List Str := ["_law_box_here", "_law_most", "_law_way"]
theorem sc_bad : FnScope nm_bad ["_law_box_here", "_law_most"] (defScope (top 35)) := ⟨rfl, rfl, rfl, by decide +kernel, rfl, by decide +kernel, by decide +kernel⟩
theorem ok_bad (T : Txt P K mg a) : FnOk P w K mg base (L2.CX P w) 2 a.f_bad a.d_bad ["_law_box_here", "_law_most"] (sp_bad a.toCl) := by
  refine ok_body T.fn_bad sc_bad rfl rfl fun cdv A outer s H E hr => ?_
  exact (pss_cons (ps_set (i := 2) sc_bad.nd rfl (by first | exact Or.inl rfl | exact Or.inr rfl) (pe_call (ok_draw T) (hr.mono (by decide)) rfl T.mg_draw (T.fn_draw).kp T.bd_draw .nil passE (pa_cons (pv 0) (pa_cons pe_int pa_nil))))
    (pss_cons (ps_if (pt_cmpR (o_eqP T.st hr.units) (pv 2) pe_int (nomark _)) (pss_one (ps_ret pe_int)) pss_nil)
    (pss_cons (ps_if (pt_cmpR (o_eqP T.st hr.units) (pv 2) pe_int (nomark _)) (pss_one (ps_ret (pe_op o_sub (pe_un o_neg pe_int) (pe_call (ok_draw T) (hr.mono (by decide)) rfl T.mg_draw (T.fn_draw).kp T.bd_draw .nil passE (pa_cons (pv 0) (pa_cons (pe_op o_pow pe_int pe_int) pa_nil)))))) pss_nil)
    (pss_cons (ps_if (pt_cmpR (o_eqP T.st hr.units) (pv 2) pe_int (nomark _)) (pss_one (ps_ret (pe_op o_add (pe_op o_add (pv 1) pe_int) (pe_call (ok_draw T) (hr.mono (by decide)) rfl T.mg_draw (T.fn_draw).kp T.bd_draw .nil passE (pa_cons (pv 0) (pa_cons (pe_op o_pow pe_int pe_int) pa_nil)))))) pss_nil)
    (pss_one (ps_ret (pe_ix (o_ix T.st) (pe_lst (pa_cons pe_bl (pa_cons pe_non (pa_cons pe_str (pa_cons (pe_lst (pa_cons pe_int pa_nil)) (pa_cons (pe_tup (pa_cons pe_int pa_nil)) pa_nil)))))) (pe_op o_sub (pv 2) pe_int) (fun _ _ => rfl))))))))
abbrev nm_refusal : List Str := ["_law_which", "_law_unit_here", "_law_pieces_here", "error"]
theorem sc_refusal : FnScope nm_refusal ["_law_which", "_law_unit_here", "_law_pieces_here"] (defScope (top 36)) := ⟨rfl, rfl, rfl, by decide +kernel, rfl, by decide +kernel, by decide +kernel⟩
theorem ok_refusal (T : Txt P K mg a) : FnOk P w K mg base (L2.CX P w) 9 a.f_refusal a.d_refusal ["_law_which", "_law_unit_here", "_law_pieces_here"] (sp_refusal a.toCl) := by
  refine ok_body T.fn_refusal sc_refusal rfl rfl fun cdv A outer s H E hr => ?_
  exact (pss_cons (ps_tryT (tab := [(.ref a.c_InvalidNumber, 0), (.ref a.c_InvalidSetting, 0)]) (tb := fun W => (tDrop (tCS (sp_make a.toCl) (WE W) (tCons (tVar 0) (tCons (tVar 1) (tCons (tVar 2) tNil)))))) (l := [⟨.ref a.c_LossError, some 3, fun b cls d => (tSeq (tIfS (tOr (tNot (tB (tCB (rIsX [(.ref a.c_InvalidSetting, .ty "ValueError", true), (.ref a.c_InvalidNumber, .ty "ValueError", true)] b cls d) (tCons (tVar 3) (tCons (tC (.ty "ValueError")) tNil))))) (tB (tCB (rIsX [(.ref a.c_InvalidSetting, .ref a.c_InvalidNumber, false), (.ref a.c_InvalidNumber, .ref a.c_InvalidNumber, true)] b cls d) (tCons (tVar 3) (tCons (eCon (.ref a.c_InvalidNumber)) tNil))))) (tRet (tC (.str "other"))) tNext)
    (tSeq (tIfS (tNot (tB (tCB (rIsX [(.ref a.c_InvalidSetting, .ref a.c_InvalidSetting, true), (.ref a.c_InvalidNumber, .ref a.c_InvalidSetting, false)] b cls d) (tCons (tVar 3) (tCons (eCon (.ref a.c_InvalidSetting)) tNil))))) (tRet (tC (.str "other"))) tNext)
    (tRet (eXf b cls d [a.c_InvalidSetting] "setting" (tVar 3)))))⟩]) (all_cons (Hits.here T.ex_InvalidNumber_LossError) (all_cons (Hits.here T.ex_InvalidSetting_LossError) all_nil)) rfl rfl sc_refusal.nd (fun W pn xe tk pa => (pss_one (ps_expr (pe_cS (ok_make T) (hr.mono (by decide)) rfl T.mg_make (T.fn_make).kp T.bd_make (fun σ => passAt tk σ) (pa_cons (pv 0) (pa_cons (pv 1) (pa_cons (pv 2) pa_nil))))))) (HnOk.named ⟨rfl, by decide, .inl T.mg_LossError⟩ (i := 3) rfl rfl (fun b oe cls d pn hz hf => (pss_cons (ps_if (PW.pt (pw_or (pt_not (pt_val (pe_callB (c_isX (tbl := [(.ref a.c_InvalidSetting, .ty "ValueError", true), (.ref a.c_InvalidNumber, .ty "ValueError", true)]) (all_cons T.is_InvalidSetting_ValueError (all_cons T.is_InvalidNumber_ValueError (all_nil))) hz hf) (by rfl) T.no_isinstance (by decide +kernel) (pa_cons (pv 3) (pa_cons (pe_bltn (v := .ty "ValueError") (by rfl) T.no_ValueError (by decide +kernel) rfl) pa_nil))))) (pw_or1 (pt_val (pe_callB (c_isX (tbl := [(.ref a.c_InvalidSetting, .ref a.c_InvalidNumber, false), (.ref a.c_InvalidNumber, .ref a.c_InvalidNumber, true)]) (all_cons T.is_InvalidSetting_InvalidNumber (all_cons T.is_InvalidNumber_InvalidNumber (all_nil))) hz hf) (by rfl) T.no_isinstance (by decide +kernel) (pa_cons (pv 3) (pa_cons (pe_clsName rfl T.mg_InvalidNumber) pa_nil))))))) (pss_one (ps_ret pe_str)) pss_nil)
    (pss_cons (ps_if (pt_not (pt_val (pe_callB (c_isX (tbl := [(.ref a.c_InvalidSetting, .ref a.c_InvalidSetting, true), (.ref a.c_InvalidNumber, .ref a.c_InvalidSetting, false)]) (all_cons T.is_InvalidSetting_InvalidSetting (all_cons T.is_InvalidNumber_InvalidSetting (all_nil))) hz hf) (by rfl) T.no_isinstance (by decide +kernel) (pa_cons (pv 3) (pa_cons (pe_clsName rfl T.mg_InvalidSetting) pa_nil))))) (pss_one (ps_ret pe_str)) pss_nil)
    (pss_one (ps_ret (pe_eXf (Cs := [a.c_InvalidSetting]) (all_cons T.xf_InvalidSetting_setting (all_nil)) hz hf (pv 3))))))) HnOk.nil))
    (pss_one (ps_ret pe_str)))
abbrev nm_units : List Str := ["_law_which", "_law_pieces_here", "_law_box_here", "_law_bad_here", "_law_odd", "_law_end", "_law_good"]
theorem sc_units : FnScope nm_units ["_law_which", "_law_pieces_here", "_law_box_here"] (defScope (top 39)) := ⟨rfl, rfl, rfl, by decide +kernel, rfl, by decide +kernel, by decide +kernel⟩
theorem ok_units (T : Txt P K mg a) : FnOk P w K mg base (L2.CX P w) 10 a.f_units a.d_units ["_law_which", "_law_pieces_here", "_law_box_here"] (sp_units a.toCl) := by
  refine ok_body T.fn_units sc_units rfl rfl fun cdv A outer s H E hr => ?_
  exact (pss_cons (ps_set (i := 3) sc_units.nd rfl (by first | exact Or.inl rfl | exact Or.inr rfl) (pe_call (ok_bad T) (hr.mono (by decide)) rfl T.mg_bad (T.fn_bad).kp T.bd_bad .nil passE (pa_cons (pv 2) (pa_cons pe_int pa_nil))))
    (pss_cons (ps_set (i := 4) sc_units.nd rfl (by first | exact Or.inl rfl | exact Or.inr rfl) (pv 1))
    (pss_cons (ps_if (pt_cmpR (o_eqP T.st hr.units) (pe_call (ok_draw T) (hr.mono (by decide)) rfl T.mg_draw (T.fn_draw).kp T.bd_draw .nil passE (pa_cons (pv 2) (pa_cons pe_int pa_nil))) pe_int (nomark _)) (pss_one (ps_set (i := 4) sc_units.nd rfl (by first | exact Or.inl rfl | exact Or.inr rfl) (pe_call (ok_bad T) (hr.mono (by decide)) rfl T.mg_bad (T.fn_bad).kp T.bd_bad .nil passE (pa_cons (pv 2) (pa_cons pe_int pa_nil))))) pss_nil)
    (pss_cons (ps_if (pt_cmpR (o_neP T.st hr.units) (pe_call (ok_refusal T) (hr.mono (by decide)) rfl T.mg_refusal (T.fn_refusal).kp T.bd_refusal .nil passE (pa_cons (pv 0) (pa_cons (pv 3) (pa_cons (pv 4) pa_nil)))) pe_str (nomark _)) (pss_one (ps_ret pe_bl)) pss_nil)
    (pss_cons (ps_set (i := 5) sc_units.nd rfl (by first | exact Or.inl rfl | exact Or.inr rfl) (pe_ix (o_ix T.st) (pe_lst (pa_cons pe_int (pa_cons pe_int pa_nil))) (pe_call (ok_draw T) (hr.mono (by decide)) rfl T.mg_draw (T.fn_draw).kp T.bd_draw .nil passE (pa_cons (pv 2) (pa_cons pe_int pa_nil))) (fun _ _ => rfl)))
    (pss_cons (ps_set (i := 6) sc_units.nd rfl (by first | exact Or.inl rfl | exact Or.inr rfl) (pe_call (ok_make T) (hr.mono (by decide)) rfl T.mg_make (T.fn_make).kp T.bd_make .nil passE (pa_cons (pv 0) (pa_cons (pv 5) (pa_cons (pv 1) pa_nil)))))
    (pss_one (ps_ret (pe_call (ok_fresh T) (hr.mono (by decide)) rfl T.mg_fresh (T.fn_fresh).kp T.bd_fresh .nil passE (pa_cons (pv 6) (pa_cons (pv 0) (pa_cons (pv 5) (pa_cons (pv 1) pa_nil)))))))))))))
abbrev nm_pieces : List Str := ["_law_unit_here", "_law_pieces_here", "_law_box_here", "_law_which", "_law_end", "_law_good"]
theorem sc_pieces : FnScope nm_pieces ["_law_unit_here", "_law_pieces_here", "_law_box_here"] (defScope (top 40)) := ⟨rfl, rfl, rfl, by decide +kernel, rfl, by decide +kernel, by decide +kernel⟩
theorem ok_pieces (T : Txt P K mg a) : FnOk P w K mg base (L2.CX P w) 10 a.f_pieces a.d_pieces ["_law_unit_here", "_law_pieces_here", "_law_box_here"] (sp_pieces a.toCl) := by
  obtain ⟨_, bd_Fixed___init___1_⟩ := T.bd_Fixed___init___1
  refine ok_body T.fn_pieces sc_pieces rfl rfl fun cdv A outer s H E hr => ?_
  exact (pss_cons (ps_set (i := 3) sc_pieces.nd rfl (by first | exact Or.inl rfl | exact Or.inr rfl) (pe_op o_add pe_int (pe_call (ok_draw T) (hr.mono (by decide)) rfl T.mg_draw (T.fn_draw).kp T.bd_draw .nil passE (pa_cons (pv 2) (pa_cons pe_int pa_nil)))))
    (pss_cons (ps_if (pt_cmpR (o_neP T.st hr.units) (pe_call (ok_refusal T) (hr.mono (by decide)) rfl T.mg_refusal (T.fn_refusal).kp T.bd_refusal .nil passE (pa_cons (pv 3) (pa_cons (pv 0) (pa_cons (pe_call (ok_bad T) (hr.mono (by decide)) rfl T.mg_bad (T.fn_bad).kp T.bd_bad .nil passE (pa_cons (pv 2) (pa_cons pe_int pa_nil))) pa_nil)))) pe_str (nomark _)) (pss_one (ps_ret pe_bl)) pss_nil)
    (pss_cons (ps_set (i := 4) sc_pieces.nd rfl (by first | exact Or.inl rfl | exact Or.inr rfl) (pe_ix (o_ix T.st) (pe_lst (pa_cons pe_int (pa_cons pe_int pa_nil))) (pe_call (ok_draw T) (hr.mono (by decide)) rfl T.mg_draw (T.fn_draw).kp T.bd_draw .nil passE (pa_cons (pv 2) (pa_cons pe_int pa_nil))) (fun _ _ => rfl)))
    (pss_cons (ps_set (i := 5) sc_pieces.nd rfl (by first | exact Or.inl rfl | exact Or.inr rfl) (pe_call (ok_make T) (hr.mono (by decide)) rfl T.mg_make (T.fn_make).kp T.bd_make .nil passE (pa_cons (pv 3) (pa_cons (pv 0) (pa_cons (pv 4) pa_nil)))))
    (pss_one (ps_ret (pe_and (pe_call (ok_fresh T) (hr.mono (by decide)) rfl T.mg_fresh (T.fn_fresh).kp T.bd_fresh .nil passE (pa_cons (pv 5) (pa_cons (pv 3) (pa_cons (pv 0) (pa_cons (pv 4) pa_nil))))) (pe_one (pe_call (ok_fresh T) (hr.mono (by decide)) rfl T.mg_fresh (T.fn_fresh).kp T.bd_fresh .nil passE (pa_cons (pe_make T.mk_Fixed (ok_Fixed___init__ T) (hr.mono (by decide)) rfl T.mg_Fixed bd_Fixed___init___1_.2 bd_Fixed___init___1_.1 passE (pa_cons (pv 0) pa_nil)) (pa_cons pe_int (pa_cons (pv 0) (pa_cons (pv 1) pa_nil)))))))))))))
abbrev nm_stranger : List Str := ["_law_kind", "_law_unit_here", "error"]
theorem sc_stranger : FnScope nm_stranger ["_law_kind", "_law_unit_here"] (defScope (top 37)) := ⟨rfl, rfl, rfl, by decide +kernel, rfl, by decide +kernel, by decide +kernel⟩
theorem ok_stranger (T : Txt P K mg a) : FnOk P w K mg base (L2.CX P w) 8 a.f_stranger a.d_stranger ["_law_kind", "_law_unit_here"] (sp_stranger a.toCl) := by
  refine ok_body T.fn_stranger sc_stranger rfl rfl fun cdv A outer s H E hr => ?_
  exact (pss_cons (ps_tryT (tab := [(.ref a.c_InvalidSetting, 0)]) (tb := fun W => (tDrop (tCS (sp_control_of a.toCl) (WE W) (tCons (tVar 0) (tCons (tVar 1) tNil))))) (l := [⟨.ref a.c_InvalidSetting, some 2, fun b cls d => (tSeq (tIfS (tOr (tNot (tB (tCB (rIsX [(.ref a.c_InvalidSetting, .ref a.c_LossError, true), (.ref a.c_InvalidNumber, .ref a.c_LossError, true)] b cls d) (tCons (tVar 2) (tCons (eCon (.ref a.c_LossError)) tNil))))) (tB (tCB (rIsX [(.ref a.c_InvalidSetting, .ref a.c_InvalidNumber, false), (.ref a.c_InvalidNumber, .ref a.c_InvalidNumber, true)] b cls d) (tCons (tVar 2) (tCons (eCon (.ref a.c_InvalidNumber)) tNil))))) (tRet (tC (.str "other"))) tNext)
    (tRet (eXf b cls d [a.c_InvalidSetting] "setting" (tVar 2))))⟩]) (all_cons (Hits.here T.ex_InvalidSetting_InvalidSetting) all_nil) rfl rfl sc_stranger.nd (fun W pn xe tk pa => (pss_one (ps_expr (pe_cS (ok_control_of T) (hr.mono (by decide)) rfl T.mg_control_of (T.fn_control_of).kp T.bd_control_of (fun σ => passAt tk σ) (pa_cons (pv 0) (pa_cons (pv 1) pa_nil)))))) (HnOk.named ⟨rfl, by decide, .inl T.mg_InvalidSetting⟩ (i := 2) rfl rfl (fun b oe cls d pn hz hf => (pss_cons (ps_if (PW.pt (pw_or (pt_not (pt_val (pe_callB (c_isX (tbl := [(.ref a.c_InvalidSetting, .ref a.c_LossError, true), (.ref a.c_InvalidNumber, .ref a.c_LossError, true)]) (all_cons T.is_InvalidSetting_LossError (all_cons T.is_InvalidNumber_LossError (all_nil))) hz hf) (by rfl) T.no_isinstance (by decide +kernel) (pa_cons (pv 2) (pa_cons (pe_clsName rfl T.mg_LossError) pa_nil))))) (pw_or1 (pt_val (pe_callB (c_isX (tbl := [(.ref a.c_InvalidSetting, .ref a.c_InvalidNumber, false), (.ref a.c_InvalidNumber, .ref a.c_InvalidNumber, true)]) (all_cons T.is_InvalidSetting_InvalidNumber (all_cons T.is_InvalidNumber_InvalidNumber (all_nil))) hz hf) (by rfl) T.no_isinstance (by decide +kernel) (pa_cons (pv 2) (pa_cons (pe_clsName rfl T.mg_InvalidNumber) pa_nil))))))) (pss_one (ps_ret pe_str)) pss_nil)
    (pss_one (ps_ret (pe_eXf (Cs := [a.c_InvalidSetting]) (all_cons T.xf_InvalidSetting_setting (all_nil)) hz hf (pv 2)))))) HnOk.nil))
    (pss_one (ps_ret pe_str)))
abbrev nm_kinds : List Str := ["_law_unit_here", "_law_pieces_here", "_law_box_here", "_law_word_here", "_law_odds", "_law_odd", "_law_bad_here", "_law_which"]
theorem sc_kinds : FnScope nm_kinds ["_law_unit_here", "_law_pieces_here", "_law_box_here"] (defScope (top 41)) := ⟨rfl, rfl, rfl, by decide +kernel, rfl, by decide +kernel, by decide +kernel⟩
theorem ok_kinds (T : Txt P K mg a) : FnOk P w K mg base (L2.CX P w) 9 a.f_kinds a.d_kinds ["_law_unit_here", "_law_pieces_here", "_law_box_here"] (sp_kinds a.toCl) := by
  refine ok_body T.fn_kinds sc_kinds rfl rfl fun cdv A outer s H E hr => ?_
  exact (pss_cons (ps_set (i := 3) sc_kinds.nd rfl (by first | exact Or.inl rfl | exact Or.inr rfl) (pe_ix (o_ix T.st) (pe_lst (pa_cons pe_str (pa_cons pe_str (pa_cons pe_str (pa_cons pe_str pa_nil))))) (pe_call (ok_draw T) (hr.mono (by decide)) rfl T.mg_draw (T.fn_draw).kp T.bd_draw .nil passE (pa_cons (pv 2) (pa_cons pe_int pa_nil))) (fun _ _ => rfl)))
    (pss_cons (ps_set (i := 4) sc_kinds.nd rfl (by first | exact Or.inl rfl | exact Or.inr rfl) (pe_lst (pa_cons pe_str (pa_cons pe_str (pa_cons pe_str (pa_cons (pe_op o_add (pv 3) pe_str) (pa_cons (pe_slS (pv 3) po_none (po_some (pe_un o_neg pe_int))) (pa_cons (pe_op o_add (pv 3) pe_str) (pa_cons pe_non (pa_cons pe_int (pa_cons pe_bl (pa_cons (pe_lst (pa_cons (pv 3) pa_nil)) (pa_cons (pe_tup (pa_cons (pv 3) pa_nil)) pa_nil)))))))))))))
    (pss_cons (ps_set (i := 5) sc_kinds.nd rfl (by first | exact Or.inl rfl | exact Or.inr rfl) (pe_ix (o_ix T.st) (pv 4) (pe_call (ok_draw T) (hr.mono (by decide)) rfl T.mg_draw (T.fn_draw).kp T.bd_draw .nil passE (pa_cons (pv 2) (pa_cons pe_int pa_nil))) (fun _ _ => rfl)))
    (pss_cons (ps_set (i := 6) sc_kinds.nd rfl (by first | exact Or.inl rfl | exact Or.inr rfl) (pe_call (ok_bad T) (hr.mono (by decide)) rfl T.mg_bad (T.fn_bad).kp T.bd_bad .nil passE (pa_cons (pv 2) (pa_cons pe_int pa_nil))))
    (pss_cons (ps_if (PW.pt (pw_or (pt_cmpR (o_neP T.st hr.units) (pe_call (ok_stranger T) (hr.mono (by decide)) rfl T.mg_stranger (T.fn_stranger).kp T.bd_stranger .nil passE (pa_cons (pv 5) (pa_cons (pv 0) pa_nil))) pe_str (nomark _)) (pw_or1 (pt_cmpR (o_neP T.st hr.units) (pe_call (ok_stranger T) (hr.mono (by decide)) rfl T.mg_stranger (T.fn_stranger).kp T.bd_stranger .nil passE (pa_cons (pv 5) (pa_cons (pv 6) pa_nil))) pe_str (nomark _))))) (pss_one (ps_ret pe_bl)) pss_nil)
    (pss_cons (ps_if (pt_cmpR (o_neP T.st hr.units) (pe_call (ok_stranger T) (hr.mono (by decide)) rfl T.mg_stranger (T.fn_stranger).kp T.bd_stranger .nil passE (pa_cons (pv 3) (pa_cons (pv 6) pa_nil))) pe_str (nomark _)) (pss_one (ps_ret pe_bl)) pss_nil)
    (pss_cons (ps_set (i := 7) sc_kinds.nd rfl (by first | exact Or.inl rfl | exact Or.inr rfl) (pe_op o_add pe_int (pe_idx (pe_lst (pa_cons pe_str (pa_cons pe_str (pa_cons pe_str (pa_cons pe_str pa_nil))))) (pa_cons (pv 3) pa_nil))))
    (pss_one (ps_ret (pe_call (ok_fresh T) (hr.mono (by decide)) rfl T.mg_fresh (T.fn_fresh).kp T.bd_fresh .nil passE (pa_cons (pe_call (ok_control_of T) (hr.mono (by decide)) rfl T.mg_control_of (T.fn_control_of).kp T.bd_control_of .nil passE (pa_cons (pv 3) (pa_cons (pv 0) pa_nil))) (pa_cons (pv 7) (pa_cons (pv 0) (pa_cons (pv 1) pa_nil))))))))))))))
abbrev nm_check_count : List Str := ["count"]
theorem sc_check_count : FnScope nm_check_count ["count"] (defScope (top 11)) := ⟨rfl, rfl, rfl, by decide +kernel, rfl, by decide +kernel, by decide +kernel⟩
theorem ok_check_count (T : Txt P K mg a) : FnOk P w K mg base (L2.CX P w) 3 a.f_check_count a.d_check_count ["count"] (sp_check_count a.toCl) := by
  obtain ⟨_, mg_MOST_COUNT_⟩ := T.mg_MOST_COUNT
  refine ok_body T.fn_check_count sc_check_count rfl rfl fun cdv A outer s H E hr => ?_
  exact (pss_one (ps_if (pt_not (pt_val (pe_call (ok_in_range T) (hr.mono (by decide)) rfl T.mg_in_range (T.fn_in_range).kp T.bd_in_range .nil passE (pa_cons (pv 0) (pa_cons pe_int (pa_cons (pe_constI mg_MOST_COUNT_ rfl) pa_nil)))))) (pss_one (ps_raiseE rfl (takes_of rfl rfl rfl rfl) (pmk_ex T.oe_InvalidNumber T.ii_InvalidNumber_InvalidNumber T.it_InvalidNumber (ok_InvalidNumber___init__ T) (by repeat first | exact List.Mem.head _ | apply List.Mem.tail) (by decide) (hr.mono (by decide)) T.be_InvalidNumber passL rfl T.mg_InvalidNumber (pa_cons (pv 0) pa_nil)))) pss_nil))
abbrev nm_Control_grow : List Str := ["self", "count", "now"]
theorem sc_Control_grow : FnScope nm_Control_grow ["self", "count", "now"] (defScope (inClass (top 12) 5)) := ⟨rfl, rfl, rfl, by decide +kernel, rfl, by decide +kernel, by decide +kernel⟩
theorem ok_Control_grow (T : Txt P K mg a) : FnOk P w K mg base (L2.CX P w) 4 a.f_Control_grow a.d_Control_grow ["self", "count", "now"] (sp_Control_grow a.toCl) := by
  refine ok_body T.fn_Control_grow sc_Control_grow rfl rfl fun cdv A outer s H E hr => ?_
  exact (pss_one (ps_expr (pe_call (ok_check_count T) (hr.mono (by decide)) rfl T.mg_check_count (T.fn_check_count).kp T.bd_check_count .nil passE (pa_cons (pv 1) pa_nil))))
abbrev nm_Fixed_grow : List Str := ["self", "count", "now"]
theorem sc_Fixed_grow : FnScope nm_Fixed_grow ["self", "count", "now"] (defScope (inClass (top 13) 3)) := ⟨rfl, rfl, rfl, by decide +kernel, rfl, by decide +kernel, by decide +kernel⟩
theorem ok_Fixed_grow (T : Txt P K mg a) : FnOk P w K mg base (L2.CX P w) 4 a.f_Fixed_grow a.d_Fixed_grow ["self", "count", "now"] (sp_Fixed_grow a.toCl) := by
  refine ok_body T.fn_Fixed_grow sc_Fixed_grow rfl rfl fun cdv A outer s H E hr => ?_
  exact (pss_one (ps_expr (pe_call (ok_check_count T) (hr.mono (by decide)) rfl T.mg_check_count (T.fn_check_count).kp T.bd_check_count .nil passE (pa_cons (pv 1) pa_nil))))
abbrev nm_Climb_grow : List Str := ["self", "count", "now"]
theorem sc_Climb_grow : FnScope nm_Climb_grow ["self", "count", "now"] (defScope (inClass (top 14) 3)) := ⟨rfl, rfl, rfl, by decide +kernel, rfl, by decide +kernel, by decide +kernel⟩
theorem ok_Climb_grow (T : Txt P K mg a) : FnOk P w K mg base (L2.CX P w) 4 a.f_Climb_grow a.d_Climb_grow ["self", "count", "now"] (sp_Climb_grow a.toCl) := by
  obtain ⟨_, cv_Control_GREATEST_⟩ := T.cv_Control_GREATEST
  refine ok_body T.fn_Climb_grow sc_Climb_grow rfl rfl fun cdv A outer s H E hr => ?_
  exact (pss_cons (ps_expr (pe_call (ok_check_count T) (hr.mono (by decide)) rfl T.mg_check_count (T.fn_check_count).kp T.bd_check_count .nil passE (pa_cons (pv 1) pa_nil)))
    (pss_cons (ps_augFD (all_cons (fd_mk T.cl_Climb T.na_Climb_credit) (all_cons (fd_mk T.cl_Curve T.na_Curve_credit) (all_nil))) (pv 0) (pv 1) in_addI)
    (pss_one (ps_while (passes_of rfl) (pt_cmpR o_ge (pe_fldD (all_cons (fd_mk T.cl_Climb T.na_Climb_credit) (all_cons (fd_mk T.cl_Curve T.na_Curve_credit) (all_nil))) (pv 0)) (pe_fldD (all_cons (fd_mk T.cl_Climb T.na_Climb_window) (all_cons (fd_mk T.cl_Curve T.na_Curve_window) (all_nil))) (pv 0)) (nomark _)) (pss_cons (ps_augFD (all_cons (fd_mk T.cl_Climb T.na_Climb_credit) (all_cons (fd_mk T.cl_Curve T.na_Curve_credit) (all_nil))) (pv 0) (pe_fldD (all_cons (fd_mk T.cl_Climb T.na_Climb_window) (all_cons (fd_mk T.cl_Curve T.na_Curve_window) (all_nil))) (pv 0)) in_subI)
    (pss_one (ps_setFD (all_cons (fd_mk T.cl_Climb T.na_Climb_window) (all_cons (fd_mk T.cl_Curve T.na_Curve_window) (all_nil))) (pv 0) (pe_callB (c_min2 rfl) (by rfl) T.no_min (by decide +kernel) (pa_cons (pe_clsCon T.cr_Control cv_Control_GREATEST_ rfl T.mg_Control) (pa_cons (pe_op o_add (pe_fldD (all_cons (fd_mk T.cl_Climb T.na_Climb_window) (all_cons (fd_mk T.cl_Curve T.na_Curve_window) (all_nil))) (pv 0)) (pe_fldD (all_cons (fd_mk T.cl_Climb T.na_Climb_unit) (all_cons (fd_mk T.cl_Curve T.na_Curve_unit) (all_nil))) (pv 0))) pa_nil))))))))))
abbrev nm_Curve_grow : List Str := ["self", "count", "now", "ticks", "target", "wider"]
theorem sc_Curve_grow : FnScS nm_Curve_grow ["self", "count", "now"] (defScope (inClass (top 18) 3)) := ⟨rfl, rfl, rfl, by decide +kernel, rfl, by decide +kernel, by decide +kernel, by decide +kernel⟩
theorem ok_Curve_grow (T : Txt P K mg a) : FnOk P w K mg base (L2.CX P w) 5 a.f_Curve_grow a.d_Curve_grow ["self", "count", "now"] (sp_Curve_grow a.toCl) := by
  obtain ⟨_, cv_Control_GREATEST_⟩ := T.cv_Control_GREATEST
  refine ok_bodyS T.fn_Curve_grow sc_Curve_grow rfl rfl rfl rfl rfl rfl rfl T.sup_top T.no_super fun cdv cc A outer s H E hr T1 => ?_
  exact (pssa_cons (psa_if (pt_cmpR o_is (pe_fldC T.cl_Curve T.na_Curve_born (pv 0)) pe_non (nomark _)) (pssa_cons (psa_supM T1 (all_cons T.su_Curve_Curve_grow (all_nil)) (ok_Climb_grow T) (hr.mono (by decide)) T.bd_Climb_grow passS (pa_cons (pv 1) (pa_cons (pv 2) pa_nil)))
    (pssa_one (psa_of ps_retN))) (pssa_of pss_nil))
    (pssa_cons (psa_of (ps_expr (pe_call (ok_check_count T) (hr.mono (by decide)) rfl T.mg_check_count (T.fn_check_count).kp T.bd_check_count .nil passS (pa_cons (pv 1) pa_nil))))
    (pssa_cons (psa_of (ps_set (i := 3) sc_Curve_grow.nd rfl (by first | exact Or.inl rfl | exact Or.inr rfl) (pe_op o_sub (pv 2) (pe_fldC T.cl_Curve T.na_Curve_born (pv 0)))))
    (pssa_cons (psa_of (ps_set (i := 4) sc_Curve_grow.nd rfl (by first | exact Or.inl rfl | exact Or.inr rfl) (pe_op o_add (pe_fldC T.cl_Curve T.na_Curve_peak (pv 0)) (pe_op o_fdiv (pe_op o_mul (pe_fldC T.cl_Curve T.na_Curve_unit (pv 0)) (pe_op o_pow (pe_op o_sub (pv 3) (pe_fldC T.cl_Curve T.na_Curve_span (pv 0))) pe_int)) pe_int))))
    (pssa_cons (psa_of (ps_set (i := 5) sc_Curve_grow.nd rfl (by first | exact Or.inl rfl | exact Or.inr rfl) (pe_callB (c_min2 rfl) (by rfl) T.no_min (by decide +kernel) (pa_cons (pe_op o_add (pe_fldC T.cl_Curve T.na_Curve_window (pv 0)) (pv 1)) (pa_cons (pe_callB (c_max2 rfl) (by rfl) T.no_max (by decide +kernel) (pa_cons (pe_fldC T.cl_Curve T.na_Curve_window (pv 0)) (pa_cons (pv 4) pa_nil))) pa_nil)))))
    (pssa_one (psa_of (ps_setF T.cl_Curve T.na_Curve_window (pv 0) (pe_callB (c_min2 rfl) (by rfl) T.no_min (by decide +kernel) (pa_cons (pe_clsCon T.cr_Control cv_Control_GREATEST_ rfl T.mg_Control) (pa_cons (pv 5) pa_nil)))))))))))
abbrev nm_Delay_surplus : List Str := ["self"]
theorem sc_Delay_surplus : FnScope nm_Delay_surplus ["self"] (defScope (inClass (top 19) 2)) := ⟨rfl, rfl, rfl, by decide +kernel, rfl, by decide +kernel, by decide +kernel⟩
theorem ok_Delay_surplus (T : Txt P K mg a) : FnOk P w K mg base (L2.CX P w) 1 a.f_Delay_surplus a.d_Delay_surplus ["self"] (sp_Delay_surplus a.toCl) := by
  refine ok_body T.fn_Delay_surplus sc_Delay_surplus rfl rfl fun cdv A outer s H E hr => ?_
  exact (pss_cons (ps_if (pt_cmpR (o_eqP T.st hr.units) (pe_fldC T.cl_Delay T.na_Delay_latest (pv 0)) pe_int (nomark _)) (pss_one (ps_ret pe_int)) pss_nil)
    (pss_one (ps_ret (pe_op o_fdiv (pe_op o_mul (pe_fldC T.cl_Delay T.na_Delay_window (pv 0)) (pe_op o_sub (pe_fldC T.cl_Delay T.na_Delay_latest (pv 0)) (pe_fldC T.cl_Delay T.na_Delay_least (pv 0)))) (pe_fldC T.cl_Delay T.na_Delay_latest (pv 0))))))
abbrev nm_Delay_grow : List Str := ["self", "count", "now", "waiting"]
theorem sc_Delay_grow : FnScope nm_Delay_grow ["self", "count", "now"] (defScope (inClass (top 19) 4)) := ⟨rfl, rfl, rfl, by decide +kernel, rfl, by decide +kernel, by decide +kernel⟩
theorem ok_Delay_grow (T : Txt P K mg a) : FnOk P w K mg base (L2.CX P w) 4 a.f_Delay_grow a.d_Delay_grow ["self", "count", "now"] (sp_Delay_grow a.toCl) := by
  obtain ⟨_, cv_Control_GREATEST_⟩ := T.cv_Control_GREATEST
  refine ok_body T.fn_Delay_grow sc_Delay_grow rfl rfl fun cdv A outer s H E hr => ?_
  exact (pss_cons (ps_expr (pe_call (ok_check_count T) (hr.mono (by decide)) rfl T.mg_check_count (T.fn_check_count).kp T.bd_check_count .nil passE (pa_cons (pv 1) pa_nil)))
    (pss_cons (ps_augF T.cl_Delay T.na_Delay_credit (pv 0) (pv 1) in_addI)
    (pss_one (ps_while (passes_of rfl) (pt_cmpR o_ge (pe_fldC T.cl_Delay T.na_Delay_credit (pv 0)) (pe_fldC T.cl_Delay T.na_Delay_window (pv 0)) (nomark _)) (pss_cons (ps_augF T.cl_Delay T.na_Delay_credit (pv 0) (pe_fldC T.cl_Delay T.na_Delay_window (pv 0)) in_subI)
    (pss_cons (ps_set (i := 3) sc_Delay_grow.nd rfl (by first | exact Or.inl rfl | exact Or.inr rfl) (pe_meth0 (pv 0) T.cl_Delay T.mt_Delay_surplus (ok_Delay_surplus T) (hr.mono (by decide)) T.bd_Delay_surplus .nil passE ))
    (pss_one (ps_if (pt_cmpR o_lt (pv 3) (pe_op o_mul pe_int (pe_fldC T.cl_Delay T.na_Delay_unit (pv 0))) (nomark _)) (pss_one (ps_setF T.cl_Delay T.na_Delay_window (pv 0) (pe_callB (c_min2 rfl) (by rfl) T.no_min (by decide +kernel) (pa_cons (pe_clsCon T.cr_Control cv_Control_GREATEST_ rfl T.mg_Control) (pa_cons (pe_op o_add (pe_fldC T.cl_Delay T.na_Delay_window (pv 0)) (pe_fldC T.cl_Delay T.na_Delay_unit (pv 0))) pa_nil))))) (pss_one (ps_if (pt_cmpR o_gt (pv 3) (pe_op o_mul pe_int (pe_fldC T.cl_Delay T.na_Delay_unit (pv 0))) (nomark _)) (pss_one (ps_setF T.cl_Delay T.na_Delay_window (pv 0) (pe_callB (c_max2 rfl) (by rfl) T.no_max (by decide +kernel) (pa_cons (pe_op o_mul pe_int (pe_fldC T.cl_Delay T.na_Delay_unit (pv 0))) (pa_cons (pe_op o_sub (pe_fldC T.cl_Delay T.na_Delay_window (pv 0)) (pe_fldC T.cl_Delay T.na_Delay_unit (pv 0))) pa_nil))))) pss_nil))))))))))
abbrev nm_Control_on_ack : List Str := ["self", "count", "flight", "now"]
theorem sc_Control_on_ack : FnScope nm_Control_on_ack ["self", "count", "flight", "now"] (defScope (inClass (top 12) 4)) := ⟨rfl, rfl, rfl, by decide +kernel, rfl, by decide +kernel, by decide +kernel⟩
theorem ok_Control_on_ack (T : Txt P K mg a) : FnOk P w K mg base (L2.CX P w) 6 a.f_Control_on_ack a.d_Control_on_ack ["self", "count", "flight", "now"] (sp_Control_on_ack a.toCl) := by
  obtain ⟨_, cv_Control_GREATEST_⟩ := T.cv_Control_GREATEST
  refine ok_body T.fn_Control_on_ack sc_Control_on_ack rfl rfl fun cdv A outer s H E hr => ?_
  exact (pss_cons (ps_expr (pe_call (ok_check_count T) (hr.mono (by decide)) rfl T.mg_check_count (T.fn_check_count).kp T.bd_check_count .nil passE (pa_cons (pv 1) pa_nil)))
    (pss_cons (ps_setFD (all_cons (fd_mk T.cl_Control T.na_Control_stalled) (all_cons (fd_mk T.cl_Climb T.na_Climb_stalled) (all_cons (fd_mk T.cl_Curve T.na_Curve_stalled) (all_cons (fd_mk T.cl_Delay T.na_Delay_stalled) (all_nil))))) (pv 0) pe_bl)
    (pss_cons (ps_if (pt_cmpR o_lt (pe_op o_mul pe_int (pe_op o_add (pv 2) (pv 1))) (pe_fldD (all_cons (fd_mk T.cl_Control T.na_Control_window) (all_cons (fd_mk T.cl_Climb T.na_Climb_window) (all_cons (fd_mk T.cl_Curve T.na_Curve_window) (all_cons (fd_mk T.cl_Delay T.na_Delay_window) (all_nil))))) (pv 0)) (nomark _)) (pss_one ps_retN) pss_nil)
    (pss_one (ps_if (pt_val (pe_propD (k := 1) (pv 0) (all_cons (pd_mk T.cl_Control T.pd_Control_starting (ok_Control_starting T) (by decide) T.bd_Control_starting) (all_cons (pd_mk T.cl_Climb T.pd_Climb_starting (ok_Control_starting T) (by decide) T.bd_Control_starting) (all_cons (pd_mk T.cl_Curve T.pd_Curve_starting (ok_Control_starting T) (by decide) T.bd_Control_starting) (all_cons (pd_mk T.cl_Delay T.pd_Delay_starting (ok_Control_starting T) (by decide) T.bd_Control_starting) (all_nil))))) (hr.mono (by decide)) passN)) (pss_one (ps_setFD (all_cons (fd_mk T.cl_Control T.na_Control_window) (all_cons (fd_mk T.cl_Climb T.na_Climb_window) (all_cons (fd_mk T.cl_Curve T.na_Curve_window) (all_cons (fd_mk T.cl_Delay T.na_Delay_window) (all_nil))))) (pv 0) (pe_callB (c_min2 rfl) (by rfl) T.no_min (by decide +kernel) (pa_cons (pe_clsCon T.cr_Control cv_Control_GREATEST_ rfl T.mg_Control) (pa_cons (pe_op o_add (pe_fldD (all_cons (fd_mk T.cl_Control T.na_Control_window) (all_cons (fd_mk T.cl_Climb T.na_Climb_window) (all_cons (fd_mk T.cl_Curve T.na_Curve_window) (all_cons (fd_mk T.cl_Delay T.na_Delay_window) (all_nil))))) (pv 0)) (pe_callB (c_min2 rfl) (by rfl) T.no_min (by decide +kernel) (pa_cons (pv 1) (pa_cons (pe_fldD (all_cons (fd_mk T.cl_Control T.na_Control_unit) (all_cons (fd_mk T.cl_Climb T.na_Climb_unit) (all_cons (fd_mk T.cl_Curve T.na_Curve_unit) (all_cons (fd_mk T.cl_Delay T.na_Delay_unit) (all_nil))))) (pv 0)) pa_nil)))) pa_nil))))) (pss_one (ps_expr (pe_mD (k := 5) (pv 0) (all_cons (md_mk T.cl_Control T.mt_Control_grow (ok_Control_grow T) (by decide) T.bd_Control_grow) (all_cons (md_mk T.cl_Climb T.mt_Climb_grow (ok_Climb_grow T) (by decide) T.bd_Climb_grow) (all_cons (md_mk T.cl_Curve T.mt_Curve_grow (ok_Curve_grow T) (by decide) T.bd_Curve_grow) (all_cons (md_mk T.cl_Delay T.mt_Delay_grow (ok_Delay_grow T) (by decide) T.bd_Delay_grow) (all_nil))))) (hr.mono (by decide)) (fun σ => pass_at passE σ) (pa_cons (pv 1) (pa_cons (pv 3) pa_nil))))))))))
abbrev nm_Fixed_on_ack : List Str := ["self", "count", "flight", "now"]
theorem sc_Fixed_on_ack : FnScope nm_Fixed_on_ack ["self", "count", "flight", "now"] (defScope (inClass (top 13) 2)) := ⟨rfl, rfl, rfl, by decide +kernel, rfl, by decide +kernel, by decide +kernel⟩
theorem ok_Fixed_on_ack (T : Txt P K mg a) : FnOk P w K mg base (L2.CX P w) 4 a.f_Fixed_on_ack a.d_Fixed_on_ack ["self", "count", "flight", "now"] (sp_Fixed_on_ack a.toCl) := by
  refine ok_body T.fn_Fixed_on_ack sc_Fixed_on_ack rfl rfl fun cdv A outer s H E hr => ?_
  exact (pss_cons (ps_expr (pe_call (ok_check_count T) (hr.mono (by decide)) rfl T.mg_check_count (T.fn_check_count).kp T.bd_check_count .nil passE (pa_cons (pv 1) pa_nil)))
    (pss_one (ps_setF T.cl_Fixed T.na_Fixed_stalled (pv 0) pe_bl)))
abbrev nm_Climb_on_ack : List Str := ["self", "count", "flight", "now"]
theorem sc_Climb_on_ack : FnScS nm_Climb_on_ack ["self", "count", "flight", "now"] (defScope (inClass (top 14) 2)) := ⟨rfl, rfl, rfl, by decide +kernel, rfl, by decide +kernel, by decide +kernel, by decide +kernel⟩
theorem ok_Climb_on_ack (T : Txt P K mg a) : FnOk P w K mg base (L2.CX P w) 7 a.f_Climb_on_ack a.d_Climb_on_ack ["self", "count", "flight", "now"] (sp_Climb_on_ack a.toCl) := by
  refine ok_bodyS T.fn_Climb_on_ack sc_Climb_on_ack rfl rfl rfl rfl rfl rfl rfl T.sup_top T.no_super fun cdv cc A outer s H E hr T1 => ?_
  exact (pssa_one (psa_supM T1 (all_cons T.su_Climb_Climb_on_ack (all_cons T.su_Curve_Climb_on_ack (all_cons T.su_Delay_Climb_on_ack (all_nil)))) (ok_Control_on_ack T) (hr.mono (by decide)) T.bd_Control_on_ack passS (pa_cons (pv 1) (pa_cons (pv 2) (pa_cons (pv 3) pa_nil)))))
abbrev nm_Curve_on_ack : List Str := ["self", "count", "flight", "now"]
theorem sc_Curve_on_ack : FnScS nm_Curve_on_ack ["self", "count", "flight", "now"] (defScope (inClass (top 18) 2)) := ⟨rfl, rfl, rfl, by decide +kernel, rfl, by decide +kernel, by decide +kernel, by decide +kernel⟩
theorem ok_Curve_on_ack (T : Txt P K mg a) : FnOk P w K mg base (L2.CX P w) 8 a.f_Curve_on_ack a.d_Curve_on_ack ["self", "count", "flight", "now"] (sp_Curve_on_ack a.toCl) := by
  refine ok_bodyS T.fn_Curve_on_ack sc_Curve_on_ack rfl rfl rfl rfl rfl rfl rfl T.sup_top T.no_super fun cdv cc A outer s H E hr T1 => ?_
  exact (pssa_one (psa_supM T1 (all_cons T.su_Curve_Curve_on_ack (all_nil)) (ok_Climb_on_ack T) (hr.mono (by decide)) T.bd_Climb_on_ack passS (pa_cons (pv 1) (pa_cons (pv 2) (pa_cons (pv 3) pa_nil)))))
abbrev nm_Delay_on_ack : List Str := ["self", "count", "flight", "now"]
theorem sc_Delay_on_ack : FnScS nm_Delay_on_ack ["self", "count", "flight", "now"] (defScope (inClass (top 19) 3)) := ⟨rfl, rfl, rfl, by decide +kernel, rfl, by decide +kernel, by decide +kernel, by decide +kernel⟩
theorem ok_Delay_on_ack (T : Txt P K mg a) : FnOk P w K mg base (L2.CX P w) 8 a.f_Delay_on_ack a.d_Delay_on_ack ["self", "count", "flight", "now"] (sp_Delay_on_ack a.toCl) := by
  refine ok_bodyS T.fn_Delay_on_ack sc_Delay_on_ack rfl rfl rfl rfl rfl rfl rfl T.sup_top T.no_super fun cdv cc A outer s H E hr T1 => ?_
  exact (pssa_one (psa_supM T1 (all_cons T.su_Delay_Delay_on_ack (all_nil)) (ok_Climb_on_ack T) (hr.mono (by decide)) T.bd_Climb_on_ack passS (pa_cons (pv 1) (pa_cons (pv 2) (pa_cons (pv 3) pa_nil)))))
abbrev nm_refused : List Str := ["_law_control", "_law_bad_here", "_law_grows", "_law_now", "error"]
theorem sc_refused : FnScope nm_refused ["_law_control", "_law_bad_here", "_law_grows", "_law_now"] (defScope (top 42)) := ⟨rfl, rfl, rfl, by decide +kernel, rfl, by decide +kernel, by decide +kernel⟩
theorem ok_refused (T : Txt P K mg a) : FnOk P w K mg base (L2.CX P w) 9 a.f_refused a.d_refused ["_law_control", "_law_bad_here", "_law_grows", "_law_now"] (sp_refused a.toCl) := by
  refine ok_body T.fn_refused sc_refused rfl rfl fun cdv A outer s H E hr => ?_
  exact (pss_cons (ps_tryT (tab := [(.ref a.c_InvalidNumber, 0), (.ref a.c_InvalidSetting, 0)]) (tb := fun W => (tIfS (tB (tVar 2)) (tDrop (tMD [(a.c_Control, sp_Control_grow a.toCl), (a.c_Fixed, sp_Fixed_grow a.toCl), (a.c_Climb, sp_Climb_grow a.toCl), (a.c_Curve, sp_Curve_grow a.toCl), (a.c_Delay, sp_Delay_grow a.toCl)] "grow" (WE W) (tVar 0) (tCons (tVar 1) (tCons (tVar 3) tNil)))) (tDrop (tMD [(a.c_Control, sp_Control_on_ack a.toCl), (a.c_Fixed, sp_Fixed_on_ack a.toCl), (a.c_Climb, sp_Climb_on_ack a.toCl), (a.c_Curve, sp_Curve_on_ack a.toCl), (a.c_Delay, sp_Delay_on_ack a.toCl)] "on_ack" (WE W) (tVar 0) (tCons (tVar 1) (tCons (tC (.int 5)) (tCons (tVar 3) tNil))))))) (l := [⟨.ref a.c_LossError, some 4, fun b cls d => (tSeq (tIfS (tOr (tNot (tB (tCB (rIsX [(.ref a.c_InvalidSetting, .ty "ValueError", true), (.ref a.c_InvalidNumber, .ty "ValueError", true)] b cls d) (tCons (tVar 4) (tCons (tC (.ty "ValueError")) tNil))))) (tB (tCB (rIsX [(.ref a.c_InvalidSetting, .ref a.c_InvalidSetting, true), (.ref a.c_InvalidNumber, .ref a.c_InvalidSetting, false)] b cls d) (tCons (tVar 4) (tCons (eCon (.ref a.c_InvalidSetting)) tNil))))) (tRet (tC (.bl false))) tNext)
    (tSeq (tIfS (tNot (tB (tCB (rIsX [(.ref a.c_InvalidSetting, .ref a.c_InvalidNumber, false), (.ref a.c_InvalidNumber, .ref a.c_InvalidNumber, true)] b cls d) (tCons (tVar 4) (tCons (eCon (.ref a.c_InvalidNumber)) tNil))))) (tRet (tC (.bl false))) tNext)
    (tRet (tAndV (tOp (rEqP a.S) (eXf b cls d [a.c_InvalidNumber] "number" (tVar 4)) (tVar 1)) (tOp (rEqP a.S) (tCB rIsI (tCons (eXf b cls d [a.c_InvalidNumber] "number" (tVar 4)) (tCons (tC (.ty "bool")) tNil))) (tCB rIsI (tCons (tVar 1) (tCons (tC (.ty "bool")) tNil))))))))⟩]) (all_cons (Hits.here T.ex_InvalidNumber_LossError) (all_cons (Hits.here T.ex_InvalidSetting_LossError) all_nil)) rfl rfl sc_refused.nd (fun W pn xe tk pa => (pss_one (ps_if (pt_val (pv 2)) (pss_one (ps_expr (pe_mD (k := 5) (pv 0) (all_cons (md_mk T.cl_Control T.mt_Control_grow (ok_Control_grow T) (by decide) T.bd_Control_grow) (all_cons (md_mk T.cl_Fixed T.mt_Fixed_grow (ok_Fixed_grow T) (by decide) T.bd_Fixed_grow) (all_cons (md_mk T.cl_Climb T.mt_Climb_grow (ok_Climb_grow T) (by decide) T.bd_Climb_grow) (all_cons (md_mk T.cl_Curve T.mt_Curve_grow (ok_Curve_grow T) (by decide) T.bd_Curve_grow) (all_cons (md_mk T.cl_Delay T.mt_Delay_grow (ok_Delay_grow T) (by decide) T.bd_Delay_grow) (all_nil)))))) (hr.mono (by decide)) (fun σ => passAt tk σ) (pa_cons (pv 1) (pa_cons (pv 3) pa_nil))))) (pss_one (ps_expr (pe_mD (k := 8) (pv 0) (all_cons (md_mk T.cl_Control T.mt_Control_on_ack (ok_Control_on_ack T) (by decide) T.bd_Control_on_ack) (all_cons (md_mk T.cl_Fixed T.mt_Fixed_on_ack (ok_Fixed_on_ack T) (by decide) T.bd_Fixed_on_ack) (all_cons (md_mk T.cl_Climb T.mt_Climb_on_ack (ok_Climb_on_ack T) (by decide) T.bd_Climb_on_ack) (all_cons (md_mk T.cl_Curve T.mt_Curve_on_ack (ok_Curve_on_ack T) (by decide) T.bd_Curve_on_ack) (all_cons (md_mk T.cl_Delay T.mt_Delay_on_ack (ok_Delay_on_ack T) (by decide) T.bd_Delay_on_ack) (all_nil)))))) (hr.mono (by decide)) (fun σ => passAt tk σ) (pa_cons (pv 1) (pa_cons pe_int (pa_cons (pv 3) pa_nil))))))))) (HnOk.named ⟨rfl, by decide, .inl T.mg_LossError⟩ (i := 4) rfl rfl (fun b oe cls d pn hz hf => (pss_cons (ps_if (PW.pt (pw_or (pt_not (pt_val (pe_callB (c_isX (tbl := [(.ref a.c_InvalidSetting, .ty "ValueError", true), (.ref a.c_InvalidNumber, .ty "ValueError", true)]) (all_cons T.is_InvalidSetting_ValueError (all_cons T.is_InvalidNumber_ValueError (all_nil))) hz hf) (by rfl) T.no_isinstance (by decide +kernel) (pa_cons (pv 4) (pa_cons (pe_bltn (v := .ty "ValueError") (by rfl) T.no_ValueError (by decide +kernel) rfl) pa_nil))))) (pw_or1 (pt_val (pe_callB (c_isX (tbl := [(.ref a.c_InvalidSetting, .ref a.c_InvalidSetting, true), (.ref a.c_InvalidNumber, .ref a.c_InvalidSetting, false)]) (all_cons T.is_InvalidSetting_InvalidSetting (all_cons T.is_InvalidNumber_InvalidSetting (all_nil))) hz hf) (by rfl) T.no_isinstance (by decide +kernel) (pa_cons (pv 4) (pa_cons (pe_clsName rfl T.mg_InvalidSetting) pa_nil))))))) (pss_one (ps_ret pe_bl)) pss_nil)
    (pss_cons (ps_if (pt_not (pt_val (pe_callB (c_isX (tbl := [(.ref a.c_InvalidSetting, .ref a.c_InvalidNumber, false), (.ref a.c_InvalidNumber, .ref a.c_InvalidNumber, true)]) (all_cons T.is_InvalidSetting_InvalidNumber (all_cons T.is_InvalidNumber_InvalidNumber (all_nil))) hz hf) (by rfl) T.no_isinstance (by decide +kernel) (pa_cons (pv 4) (pa_cons (pe_clsName rfl T.mg_InvalidNumber) pa_nil))))) (pss_one (ps_ret pe_bl)) pss_nil)
    (pss_one (ps_ret (pe_and (pe_cmpR (o_eqP T.st hr.units) (pe_eXf (Cs := [a.c_InvalidNumber]) (all_cons T.xf_InvalidNumber_number (all_nil)) hz hf (pv 4)) (pv 1) (nomark _)) (pe_one (pe_cmpR (o_eqP T.st hr.units) (pe_callB c_isi (by rfl) T.no_isinstance (by decide +kernel) (pa_cons (pe_eXf (Cs := [a.c_InvalidNumber]) (all_cons T.xf_InvalidNumber_number (all_nil)) hz hf (pv 4)) (pa_cons (pe_bltn (v := .ty "bool") (by rfl) T.no_bool (by decide +kernel) rfl) pa_nil))) (pe_callB c_isi (by rfl) T.no_isinstance (by decide +kernel) (pa_cons (pv 1) (pa_cons (pe_bltn (v := .ty "bool") (by rfl) T.no_bool (by decide +kernel) rfl) pa_nil))) (nomark _))))))))) HnOk.nil))
    (pss_one (ps_ret pe_bl)))
abbrev nm_counts : List Str := ["_law_which", "_law_unit_here", "_law_pieces_here", "_law_box_here", "_law_control", "_law_load", "_law_state", "_law_grows", "_law_count"]
theorem sc_counts : FnScope nm_counts ["_law_which", "_law_unit_here", "_law_pieces_here", "_law_box_here"] (defScope (top 43)) := ⟨rfl, rfl, rfl, by decide +kernel, rfl, by decide +kernel, by decide +kernel⟩
theorem ok_counts (T : Txt P K mg a) : FnOk P w K mg base (L2.CX P w) 10 a.f_counts a.d_counts ["_law_which", "_law_unit_here", "_law_pieces_here", "_law_box_here"] (sp_counts a.toCl) := by
  refine ok_body T.fn_counts sc_counts rfl rfl fun cdv A outer s H E hr => ?_
  exact (pss_cons (ps_set (i := 4) sc_counts.nd rfl (by first | exact Or.inl rfl | exact Or.inr rfl) (pe_call (ok_make T) (hr.mono (by decide)) rfl T.mg_make (T.fn_make).kp T.bd_make .nil passE (pa_cons (pv 0) (pa_cons (pv 1) (pa_cons (pv 2) pa_nil)))))
    (pss_cons (ps_set (i := 5) sc_counts.nd rfl (by first | exact Or.inl rfl | exact Or.inr rfl) (pe_call (ok_draw T) (hr.mono (by decide)) rfl T.mg_draw (T.fn_draw).kp T.bd_draw .nil passE (pa_cons (pv 3) (pa_cons pe_int pa_nil))))
    (pss_cons (ps_set (i := 6) sc_counts.nd rfl (by first | exact Or.inl rfl | exact Or.inr rfl) (pe_lst (pa_cons (pv 1) (pa_cons (pv 1) (pa_cons (pe_callB (c_max2 rfl) (by rfl) T.no_max (by decide +kernel) (pa_cons (pe_op o_fdiv (pv 5) pe_int) (pa_cons (pe_op o_mul pe_int (pv 1)) pa_nil))) (pa_cons pe_int (pa_cons pe_bl pa_nil)))))))
    (pss_cons (ps_if (pt_cmpR (o_eqP T.st hr.units) (pe_call (ok_word T) (hr.mono (by decide)) rfl T.mg_word (T.fn_word).kp T.bd_word .nil passE (pa_cons (pv 0) pa_nil)) pe_str (nomark _)) (pss_one (ps_set (i := 6) sc_counts.nd rfl (by first | exact Or.inl rfl | exact Or.inr rfl) (pe_lst (pa_cons (pv 1) (pa_cons (pe_op o_mul (pv 1) (pe_call (ok_times T) (hr.mono (by decide)) rfl T.mg_times (T.fn_times).kp T.bd_times .nil passE (pa_cons (pv 0) (pa_cons (pv 2) pa_nil)))) (pa_cons pe_int (pa_cons pe_int (pa_cons pe_bl pa_nil)))))))) pss_nil)
    (pss_cons (ps_if (PW.pt (pw_or (pt_cmpR o_isnot (pe_mD (k := 3) (pv 4) (all_cons (md_mk T.cl_Control T.mt_Control_on_expiry (ok_Control_on_expiry T) (by decide) T.bd_Control_on_expiry) (all_cons (md_mk T.cl_Fixed T.mt_Fixed_on_expiry (ok_Fixed_on_expiry T) (by decide) T.bd_Fixed_on_expiry) (all_cons (md_mk T.cl_Climb T.mt_Climb_on_expiry (ok_Climb_on_expiry T) (by decide) T.bd_Climb_on_expiry) (all_cons (md_mk T.cl_Curve T.mt_Curve_on_expiry (ok_Curve_on_expiry T) (by decide) T.bd_Curve_on_expiry) (all_cons (md_mk T.cl_Delay T.mt_Delay_on_expiry (ok_Delay_on_expiry T) (by decide) T.bd_Delay_on_expiry) (all_nil)))))) (hr.mono (by decide)) (fun σ => pass_at passE σ) (pa_cons (pv 5) (pa_cons pe_int pa_nil))) pe_non (nomark _)) (pw_or1 (pt_not (pt_val (pe_call (ok_base T) (hr.mono (by decide)) rfl T.mg_base (T.fn_base).kp T.bd_base .nil passE (pa_cons (pv 4) (pa_cons (pv 6) pa_nil)))))))) (pss_one (ps_ret pe_bl)) pss_nil)
    (pss_cons (ps_forSeq T.st (passes_of rfl) rfl (pe_lst (pa_cons pe_bl (pa_cons pe_bl pa_nil))) (pg_name (i := 7) sc_counts.nd rfl (by first | exact Or.inl rfl | exact Or.inr rfl)) (pss_one (ps_if (PW.pt (pw_or (pt_not (pt_val (pe_call (ok_refused T) (hr.mono (by decide)) rfl T.mg_refused (T.fn_refused).kp T.bd_refused .nil passE (pa_cons (pv 4) (pa_cons (pe_call (ok_bad T) (hr.mono (by decide)) rfl T.mg_bad (T.fn_bad).kp T.bd_bad .nil passE (pa_cons (pv 3) (pa_cons pe_int pa_nil))) (pa_cons (pv 7) (pa_cons pe_int pa_nil))))))) (pw_or1 (pt_not (pt_val (pe_call (ok_base T) (hr.mono (by decide)) rfl T.mg_base (T.fn_base).kp T.bd_base .nil passE (pa_cons (pv 4) (pa_cons (pv 6) pa_nil)))))))) (pss_one (ps_ret pe_bl)) pss_nil)))
    (pss_cons (ps_forSeq T.st (passes_of rfl) rfl (pe_lst (pa_cons pe_int (pa_cons pe_int pa_nil))) (pg_name (i := 8) sc_counts.nd rfl (by first | exact Or.inl rfl | exact Or.inr rfl)) (pss_one (ps_if (PW.pt (pw_or (pt_cmpR o_isnot (pe_mD (k := 5) (pv 4) (all_cons (md_mk T.cl_Control T.mt_Control_grow (ok_Control_grow T) (by decide) T.bd_Control_grow) (all_cons (md_mk T.cl_Fixed T.mt_Fixed_grow (ok_Fixed_grow T) (by decide) T.bd_Fixed_grow) (all_cons (md_mk T.cl_Climb T.mt_Climb_grow (ok_Climb_grow T) (by decide) T.bd_Climb_grow) (all_cons (md_mk T.cl_Curve T.mt_Curve_grow (ok_Curve_grow T) (by decide) T.bd_Curve_grow) (all_cons (md_mk T.cl_Delay T.mt_Delay_grow (ok_Delay_grow T) (by decide) T.bd_Delay_grow) (all_nil)))))) (hr.mono (by decide)) (fun σ => pass_at passE σ) (pa_cons (pv 8) (pa_cons pe_int pa_nil))) pe_non (nomark _)) (pw_or1 (pt_not (pt_val (pe_call (ok_truth T) (hr.mono (by decide)) rfl T.mg_truth (T.fn_truth).kp T.bd_truth .nil passE (pa_cons (pe_fldD (all_cons (fd_mk T.cl_Control T.na_Control_stalled) (all_cons (fd_mk T.cl_Fixed T.na_Fixed_stalled) (all_cons (fd_mk T.cl_Climb T.na_Climb_stalled) (all_cons (fd_mk T.cl_Curve T.na_Curve_stalled) (all_cons (fd_mk T.cl_Delay T.na_Delay_stalled) (all_nil)))))) (pv 4)) (pa_cons pe_bl pa_nil)))))))) (pss_one (ps_ret pe_bl)) pss_nil)))
    (pss_one (ps_ret (pe_and (pe_cmpR o_is (pe_mD (k := 8) (pv 4) (all_cons (md_mk T.cl_Control T.mt_Control_on_ack (ok_Control_on_ack T) (by decide) T.bd_Control_on_ack) (all_cons (md_mk T.cl_Fixed T.mt_Fixed_on_ack (ok_Fixed_on_ack T) (by decide) T.bd_Fixed_on_ack) (all_cons (md_mk T.cl_Climb T.mt_Climb_on_ack (ok_Climb_on_ack T) (by decide) T.bd_Climb_on_ack) (all_cons (md_mk T.cl_Curve T.mt_Curve_on_ack (ok_Curve_on_ack T) (by decide) T.bd_Curve_on_ack) (all_cons (md_mk T.cl_Delay T.mt_Delay_on_ack (ok_Delay_on_ack T) (by decide) T.bd_Delay_on_ack) (all_nil)))))) (hr.mono (by decide)) (fun σ => pass_at passE σ) (pa_cons (pe_ix (o_ix T.st) (pe_lst (pa_cons pe_int (pa_cons pe_int pa_nil))) (pe_call (ok_draw T) (hr.mono (by decide)) rfl T.mg_draw (T.fn_draw).kp T.bd_draw .nil passE (pa_cons (pv 3) (pa_cons pe_int pa_nil))) (fun _ _ => rfl)) (pa_cons pe_int (pa_cons pe_int pa_nil)))) pe_non (nomark _)) (pe_one (pe_call (ok_truth T) (hr.mono (by decide)) rfl T.mg_truth (T.fn_truth).kp T.bd_truth .nil passE (pa_cons (pe_fldD (all_cons (fd_mk T.cl_Control T.na_Control_stalled) (all_cons (fd_mk T.cl_Fixed T.na_Fixed_stalled) (all_cons (fd_mk T.cl_Climb T.na_Climb_stalled) (all_cons (fd_mk T.cl_Curve T.na_Curve_stalled) (all_cons (fd_mk T.cl_Delay T.na_Delay_stalled) (all_nil)))))) (pv 4)) (pa_cons pe_bl pa_nil))))))))))))))
abbrev nm_question : List Str := ["_law_box_here", "_law_which", "_law_choice", "_law_unit_here", "_law_pieces_here"]
theorem sc_question : FnScope nm_question ["_law_box_here"] (defScope (top 45)) := ⟨rfl, rfl, rfl, by decide +kernel, rfl, by decide +kernel, by decide +kernel⟩
theorem ok_question (T : Txt P K mg a) : FnOk P w K mg base (L2.CX P w) 11 a.f_question a.d_question ["_law_box_here"] (sp_question a.toCl) := by
  refine ok_body T.fn_question sc_question rfl rfl fun cdv A outer s H E hr => ?_
  exact (pss_cons (ps_set (i := 1) sc_question.nd rfl (by first | exact Or.inl rfl | exact Or.inr rfl) (pe_call (ok_draw T) (hr.mono (by decide)) rfl T.mg_draw (T.fn_draw).kp T.bd_draw .nil passE (pa_cons (pv 0) (pa_cons pe_int pa_nil))))
    (pss_cons (ps_set (i := 2) sc_question.nd rfl (by first | exact Or.inl rfl | exact Or.inr rfl) (pe_call (ok_draw T) (hr.mono (by decide)) rfl T.mg_draw (T.fn_draw).kp T.bd_draw .nil passE (pa_cons (pv 0) (pa_cons pe_int pa_nil))))
    (pss_cons (ps_set (i := 3) sc_question.nd rfl (by first | exact Or.inl rfl | exact Or.inr rfl) (pe_call (ok_unit T) (hr.mono (by decide)) rfl T.mg_unit (T.fn_unit).kp T.bd_unit .nil passE (pa_cons (pv 0) pa_nil)))
    (pss_cons (ps_set (i := 4) sc_question.nd rfl (by first | exact Or.inl rfl | exact Or.inr rfl) (pe_op o_add pe_int (pe_call (ok_draw T) (hr.mono (by decide)) rfl T.mg_draw (T.fn_draw).kp T.bd_draw .nil passE (pa_cons (pv 0) (pa_cons pe_int pa_nil)))))
    (pss_cons (ps_if (pt_not (pt_val (pe_call (ok_fresh T) (hr.mono (by decide)) rfl T.mg_fresh (T.fn_fresh).kp T.bd_fresh .nil passE (pa_cons (pe_call (ok_make T) (hr.mono (by decide)) rfl T.mg_make (T.fn_make).kp T.bd_make .nil passE (pa_cons (pv 1) (pa_cons (pv 3) (pa_cons (pv 4) pa_nil)))) (pa_cons (pv 1) (pa_cons (pv 3) (pa_cons (pv 4) pa_nil))))))) (pss_one (ps_ret pe_bl)) pss_nil)
    (pss_cons (ps_if (pt_cmpR (o_eqP T.st hr.units) (pv 2) pe_int (nomark _)) (pss_one (ps_ret (pe_call (ok_apart T) (hr.mono (by decide)) rfl T.mg_apart (T.fn_apart).kp T.bd_apart .nil passE (pa_cons (pv 1) (pa_cons (pv 3) (pa_cons (pv 4) (pa_cons (pv 0) pa_nil))))))) pss_nil)
    (pss_cons (ps_if (pt_cmpR (o_eqP T.st hr.units) (pv 2) pe_int (nomark _)) (pss_one (ps_ret (pe_call (ok_units T) (hr.mono (by decide)) rfl T.mg_units (T.fn_units).kp T.bd_units .nil passE (pa_cons (pv 1) (pa_cons (pv 4) (pa_cons (pv 0) pa_nil)))))) pss_nil)
    (pss_cons (ps_if (pt_cmpR (o_eqP T.st hr.units) (pv 2) pe_int (nomark _)) (pss_one (ps_ret (pe_call (ok_pieces T) (hr.mono (by decide)) rfl T.mg_pieces (T.fn_pieces).kp T.bd_pieces .nil passE (pa_cons (pv 3) (pa_cons (pv 4) (pa_cons (pv 0) pa_nil)))))) pss_nil)
    (pss_cons (ps_if (pt_cmpR (o_eqP T.st hr.units) (pv 2) pe_int (nomark _)) (pss_one (ps_ret (pe_call (ok_kinds T) (hr.mono (by decide)) rfl T.mg_kinds (T.fn_kinds).kp T.bd_kinds .nil passE (pa_cons (pv 3) (pa_cons (pv 4) (pa_cons (pv 0) pa_nil)))))) pss_nil)
    (pss_one (ps_ret (pe_call (ok_counts T) (hr.mono (by decide)) rfl T.mg_counts (T.fn_counts).kp T.bd_counts .nil passE (pa_cons (pv 1) (pa_cons (pv 3) (pa_cons (pv 4) (pa_cons (pv 0) pa_nil))))))))))))))))
abbrev nm_box : List Str := ["_law_cell_here"]
theorem sc_box : FnScope nm_box ["_law_cell_here"] (defScope (top 24)) := ⟨rfl, rfl, rfl, by decide +kernel, rfl, by decide +kernel, by decide +kernel⟩
theorem ok_box (T : Txt P K mg a) : FnOk P w K mg base (L2.CX P w) 1 a.f_box a.d_box ["_law_cell_here"] (sp_box a.toCl) := by
  refine ok_body T.fn_box sc_box rfl rfl fun cdv A outer s H E hr => ?_
  exact (pss_cons (ps_if (pt_cmpR o_ge (pv 0) (pe_op o_pow pe_int pe_int) (nomark _)) (pss_one (ps_ret (pe_lst (pa_cons (pv 0) (pa_cons (pv 0) (pa_cons pe_int pa_nil)))))) pss_nil)
    (pss_one (ps_ret (pe_lst (pa_cons pe_int (pa_cons (pv 0) (pa_cons pe_int pa_nil)))))))
abbrev nm_cell : List Str := ["_law_script", "_law_k"]
theorem sc_cell : FnScope nm_cell ["_law_script", "_law_k"] (defScope (top 22)) := ⟨rfl, rfl, rfl, by decide +kernel, rfl, by decide +kernel, by decide +kernel⟩
theorem ok_cell (T : Txt P K mg a) : FnOk P w K mg base (L2.CX P w) 1 a.f_cell a.d_cell ["_law_script", "_law_k"] (sp_cell a.toCl) := by
  refine ok_body T.fn_cell sc_cell rfl rfl fun cdv A outer s H E hr => ?_
  exact (pss_cons (ps_if (pt_cmpR o_lt (pv 1) (pe_callB (c_len T.st) (by rfl) T.no_len (by decide +kernel) (pa_cons (pv 0) pa_nil)) (nomark _)) (pss_one (ps_ret (pe_ix (o_ix T.st) (pv 0) (pv 1) (fun _ _ => rfl)))) pss_nil)
    (pss_one (ps_ret (pe_op o_add (pe_op o_add (pe_op o_mul pe_int (pv 1)) pe_int) (pe_op o_mod (pe_callTy c_int (by rfl) T.no_int (by decide +kernel) (pa_cons (pe_callB (c_sum T.st rfl) (by rfl) T.no_sum (by decide +kernel) (pa_cons (pe_slice (o_sl T.st) (pv 0) po_none (po_some pe_int)) pa_nil)) pa_nil)) pe_int)))))
abbrev nm_law : List Str := ["_law_script", "_law_k"]
theorem sc_law : FnScope nm_law ["_law_script"] (defScope (top 46)) := ⟨rfl, rfl, rfl, by decide +kernel, rfl, by decide +kernel, by decide +kernel⟩
theorem ok_law (T : Txt P K mg a) : FnOk P w K mg base (L2.CX P w) 12 a.f_law a.d_law ["_law_script"] (sp_law a.toCl) := by
  refine ok_body T.fn_law sc_law rfl rfl fun cdv A outer s H E hr => ?_
  exact (pss_cons (ps_if (pt_not (pt_val (pe_call0 (ok_names T) (hr.mono (by decide)) rfl T.mg_names (T.fn_names).kp T.bd_names .nil passE))) (pss_one (ps_ret pe_bl)) pss_nil)
    (pss_cons (ps_forR1 (passes_of rfl) rfl rfl T.no_range (pe_call (ok_rounds T) (hr.mono (by decide)) rfl T.mg_rounds (T.fn_rounds).kp T.bd_rounds .nil passE (pa_cons (pv 0) pa_nil)) (pg_name (i := 1) sc_law.nd rfl (by first | exact Or.inl rfl | exact Or.inr rfl)) (pss_one (ps_if (pt_not (pt_val (pe_call (ok_question T) (hr.mono (by decide)) rfl T.mg_question (T.fn_question).kp T.bd_question .nil passE (pa_cons (pe_call (ok_box T) (hr.mono (by decide)) rfl T.mg_box (T.fn_box).kp T.bd_box .nil passE (pa_cons (pe_call (ok_cell T) (hr.mono (by decide)) rfl T.mg_cell (T.fn_cell).kp T.bd_cell .nil passE (pa_cons (pv 0) (pa_cons (pv 1) pa_nil))) pa_nil)) pa_nil)))) (pss_one (ps_ret pe_bl)) pss_nil)))
    (pss_one (ps_ret (pe_call0 (ok_names T) (hr.mono (by decide)) rfl T.mg_names (T.fn_names).kp T.bd_names .nil passE)))))
end
/-! ### what the top has written -/
theorem useFn {R : Prop} {K : PySem.W.Frag} {h : Heap} {mg : Str → Option Value} (X : K.In h) (G : h.Ns mainGlobals mg) {x : Str} {st : Stmt} {f : Addr} {ps : List Str} {oc kV doc pm cd ct : Value} {od an : Option Addr} {sl : Array (Option Value)}
    (n : PySem.W.nsIn K mainGlobals x = some (some (.ref f))) (l : K.lookup f = some ⟨oc, od, .func (PySem.W.fnOf x x (defArgs st) (defBody st) (defScope st) .none kV doc pm an cd ct), sl⟩) (c : PySem.W.codeIn K cd x = true) (k : PySem.W.keepIn K (.ref f) = true)
    (hb : ∀ (kV doc pm : Value) (an : Option Addr) (cdv ct : Value) (us : List Value), us.length = ps.length → bindArgs (PySem.W.fnOf x x (defArgs st) (defBody st) (defScope st) .none kV doc pm an cdv ct) ⟨us, []⟩ = pure (ps.zip us))
    (r : ∀ (f : Addr) (fd : FuncData), mg x = some (.ref f) → Fun K x x st f fd → (∀ us : List Value, us.length = ps.length → bindArgs fd ⟨us, []⟩ = pure (ps.zip us)) → R) : R :=
  r f _ (PySem.W.mg_of X G n) (fun_mk l c k) fun us hl => hb kV doc pm an cd ct us hl
theorem useConst {R : Prop} {K : PySem.W.Frag} {h : Heap} {mg : Str → Option Value} (X : K.In h) (G : h.Ns mainGlobals mg) {x : Str} {i : Int} {t : Tok} (n : PySem.W.nsIn K mainGlobals x = some (some (.int i t))) (r : (∃ t, mg x = some (.int i t)) → R) : R := r ⟨t, PySem.W.mg_of X G n⟩
theorem useC_Control {R : Prop} {K : PySem.W.Frag} {h : Heap} {mg : Str → Option Value} {P : Program} (X : K.In h) (G : h.Ns mainGlobals mg) {c_Control : Addr} {c_Fixed : Addr} {c_Climb : Addr} {c_Curve : Addr} {c_Delay : Addr} {mc_Control : Value} (hmc_Control : mc_Control = .type "type") {t_Control_KIND : Tok} {t_Control_GREATEST : Tok} {ti_Control_KIND : Tok} {mc_Fixed : Value} (hmc_Fixed : mc_Fixed = .type "type") {t_Fixed_KIND : Tok} {ti_Fixed_KIND : Tok} {mc_Climb : Value} (hmc_Climb : mc_Climb = .type "type") {t_Climb_KIND : Tok} {ti_Climb_KIND : Tok} {mc_Curve : Value} (hmc_Curve : mc_Curve = .type "type") {t_Curve_KIND : Tok} {ti_Curve_KIND : Tok} {mc_Delay : Value} (hmc_Delay : mc_Delay = .type "type") {t_Delay_KIND : Tok} {ti_Delay_KIND : Tok} {f_Control_starting : Addr} {oc_Control_starting kV_Control_starting doc_Control_starting pm_Control_starting ct_Control_starting : Value} {od_Control_starting an_Control_starting : Option Addr} {sl_Control_starting : Array (Option Value)} {cd_Control_starting : Value} {p_Control_starting : Addr} {rest_Control_starting : List Value} {f_Control___init__ : Addr} {oc_Control___init__ kV_Control___init__ doc_Control___init__ pm_Control___init__ ct_Control___init__ : Value} {od_Control___init__ an_Control___init__ : Option Addr} {sl_Control___init__ : Array (Option Value)} {cd_Control___init__ : Value} {f_Control_on_expiry : Addr} {oc_Control_on_expiry kV_Control_on_expiry doc_Control_on_expiry pm_Control_on_expiry ct_Control_on_expiry : Value} {od_Control_on_expiry an_Control_on_expiry : Option Addr} {sl_Control_on_expiry : Array (Option Value)} {cd_Control_on_expiry : Value} {f_Control_on_sample : Addr} {oc_Control_on_sample kV_Control_on_sample doc_Control_on_sample pm_Control_on_sample ct_Control_on_sample : Value} {od_Control_on_sample an_Control_on_sample : Option Addr} {sl_Control_on_sample : Array (Option Value)} {cd_Control_on_sample : Value} {f_Control_on_loss : Addr} {oc_Control_on_loss kV_Control_on_loss doc_Control_on_loss pm_Control_on_loss ct_Control_on_loss : Value} {od_Control_on_loss an_Control_on_loss : Option Addr} {sl_Control_on_loss : Array (Option Value)} {cd_Control_on_loss : Value} {f_Control_grow : Addr} {oc_Control_grow kV_Control_grow doc_Control_grow pm_Control_grow ct_Control_grow : Value} {od_Control_grow an_Control_grow : Option Addr} {sl_Control_grow : Array (Option Value)} {cd_Control_grow : Value} {f_Control_on_ack : Addr} {oc_Control_on_ack kV_Control_on_ack doc_Control_on_ack pm_Control_on_ack ct_Control_on_ack : Value} {od_Control_on_ack an_Control_on_ack : Option Addr} {sl_Control_on_ack : Array (Option Value)} {cd_Control_on_ack : Value} {f_Fixed___init__ : Addr} {oc_Fixed___init__ kV_Fixed___init__ doc_Fixed___init__ pm_Fixed___init__ ct_Fixed___init__ : Value} {od_Fixed___init__ an_Fixed___init__ : Option Addr} {sl_Fixed___init__ : Array (Option Value)} {T_Fixed___init__ : Addr} {ot_Fixed___init__ : Value} {oe_Fixed___init__ : Option Addr} {j_Fixed___init__ : Nat} {so_Fixed___init__ : Array (Option Value)} {dt_Fixed___init___0 : Tok} {cl_Fixed___init__ ccl_Fixed___init__ : Value} {cld_Fixed___init__ cdd_Fixed___init__ : Option Addr} {csl_Fixed___init__ ccs_Fixed___init__ : Array (Option Value)} {cda_Fixed___init__ cc_Fixed___init__ : Addr} {vs_Fixed___init__ : Array Value} {file_Fixed___init__ : Str} {tf_Fixed___init__ : Tok} {f_Fixed_on_expiry : Addr} {oc_Fixed_on_expiry kV_Fixed_on_expiry doc_Fixed_on_expiry pm_Fixed_on_expiry ct_Fixed_on_expiry : Value} {od_Fixed_on_expiry an_Fixed_on_expiry : Option Addr} {sl_Fixed_on_expiry : Array (Option Value)} {cd_Fixed_on_expiry : Value} {f_Fixed_on_sample : Addr} {oc_Fixed_on_sample kV_Fixed_on_sample doc_Fixed_on_sample pm_Fixed_on_sample ct_Fixed_on_sample : Value} {od_Fixed_on_sample an_Fixed_on_sample : Option Addr} {sl_Fixed_on_sample : Array (Option Value)} {cd_Fixed_on_sample : Value} {f_Fixed_on_loss : Addr} {oc_Fixed_on_loss kV_Fixed_on_loss doc_Fixed_on_loss pm_Fixed_on_loss ct_Fixed_on_loss : Value} {od_Fixed_on_loss an_Fixed_on_loss : Option Addr} {sl_Fixed_on_loss : Array (Option Value)} {cd_Fixed_on_loss : Value} {f_Fixed_grow : Addr} {oc_Fixed_grow kV_Fixed_grow doc_Fixed_grow pm_Fixed_grow ct_Fixed_grow : Value} {od_Fixed_grow an_Fixed_grow : Option Addr} {sl_Fixed_grow : Array (Option Value)} {cd_Fixed_grow : Value} {f_Fixed_on_ack : Addr} {oc_Fixed_on_ack kV_Fixed_on_ack doc_Fixed_on_ack pm_Fixed_on_ack ct_Fixed_on_ack : Value} {od_Fixed_on_ack an_Fixed_on_ack : Option Addr} {sl_Fixed_on_ack : Array (Option Value)} {cd_Fixed_on_ack : Value} {f_Climb___init__ : Addr} {oc_Climb___init__ kV_Climb___init__ doc_Climb___init__ pm_Climb___init__ ct_Climb___init__ : Value} {od_Climb___init__ an_Climb___init__ : Option Addr} {sl_Climb___init__ : Array (Option Value)} {cl_Climb___init__ ccl_Climb___init__ : Value} {cld_Climb___init__ cdd_Climb___init__ : Option Addr} {csl_Climb___init__ ccs_Climb___init__ : Array (Option Value)} {cda_Climb___init__ cc_Climb___init__ : Addr} {vs_Climb___init__ : Array Value} {file_Climb___init__ : Str} {tf_Climb___init__ : Tok} {f_Climb_on_expiry : Addr} {oc_Climb_on_expiry kV_Climb_on_expiry doc_Climb_on_expiry pm_Climb_on_expiry ct_Climb_on_expiry : Value} {od_Climb_on_expiry an_Climb_on_expiry : Option Addr} {sl_Climb_on_expiry : Array (Option Value)} {cl_Climb_on_expiry ccl_Climb_on_expiry : Value} {cld_Climb_on_expiry cdd_Climb_on_expiry : Option Addr} {csl_Climb_on_expiry ccs_Climb_on_expiry : Array (Option Value)} {cda_Climb_on_expiry cc_Climb_on_expiry : Addr} {vs_Climb_on_expiry : Array Value} {file_Climb_on_expiry : Str} {tf_Climb_on_expiry : Tok} {f_Climb_on_sample : Addr} {oc_Climb_on_sample kV_Climb_on_sample doc_Climb_on_sample pm_Climb_on_sample ct_Climb_on_sample : Value} {od_Climb_on_sample an_Climb_on_sample : Option Addr} {sl_Climb_on_sample : Array (Option Value)} {cl_Climb_on_sample ccl_Climb_on_sample : Value} {cld_Climb_on_sample cdd_Climb_on_sample : Option Addr} {csl_Climb_on_sample ccs_Climb_on_sample : Array (Option Value)} {cda_Climb_on_sample cc_Climb_on_sample : Addr} {vs_Climb_on_sample : Array Value} {file_Climb_on_sample : Str} {tf_Climb_on_sample : Tok} {f_Climb_on_loss : Addr} {oc_Climb_on_loss kV_Climb_on_loss doc_Climb_on_loss pm_Climb_on_loss ct_Climb_on_loss : Value} {od_Climb_on_loss an_Climb_on_loss : Option Addr} {sl_Climb_on_loss : Array (Option Value)} {cl_Climb_on_loss ccl_Climb_on_loss : Value} {cld_Climb_on_loss cdd_Climb_on_loss : Option Addr} {csl_Climb_on_loss ccs_Climb_on_loss : Array (Option Value)} {cda_Climb_on_loss cc_Climb_on_loss : Addr} {vs_Climb_on_loss : Array Value} {file_Climb_on_loss : Str} {tf_Climb_on_loss : Tok} {f_Climb_grow : Addr} {oc_Climb_grow kV_Climb_grow doc_Climb_grow pm_Climb_grow ct_Climb_grow : Value} {od_Climb_grow an_Climb_grow : Option Addr} {sl_Climb_grow : Array (Option Value)} {cd_Climb_grow : Value} {f_Climb_on_ack : Addr} {oc_Climb_on_ack kV_Climb_on_ack doc_Climb_on_ack pm_Climb_on_ack ct_Climb_on_ack : Value} {od_Climb_on_ack an_Climb_on_ack : Option Addr} {sl_Climb_on_ack : Array (Option Value)} {cl_Climb_on_ack ccl_Climb_on_ack : Value} {cld_Climb_on_ack cdd_Climb_on_ack : Option Addr} {csl_Climb_on_ack ccs_Climb_on_ack : Array (Option Value)} {cda_Climb_on_ack cc_Climb_on_ack : Addr} {vs_Climb_on_ack : Array Value} {file_Climb_on_ack : Str} {tf_Climb_on_ack : Tok} {f_Curve___init__ : Addr} {oc_Curve___init__ kV_Curve___init__ doc_Curve___init__ pm_Curve___init__ ct_Curve___init__ : Value} {od_Curve___init__ an_Curve___init__ : Option Addr} {sl_Curve___init__ : Array (Option Value)} {cl_Curve___init__ ccl_Curve___init__ : Value} {cld_Curve___init__ cdd_Curve___init__ : Option Addr} {csl_Curve___init__ ccs_Curve___init__ : Array (Option Value)} {cda_Curve___init__ cc_Curve___init__ : Addr} {vs_Curve___init__ : Array Value} {file_Curve___init__ : Str} {tf_Curve___init__ : Tok} {f_Curve_on_expiry : Addr} {oc_Curve_on_expiry kV_Curve_on_expiry doc_Curve_on_expiry pm_Curve_on_expiry ct_Curve_on_expiry : Value} {od_Curve_on_expiry an_Curve_on_expiry : Option Addr} {sl_Curve_on_expiry : Array (Option Value)} {cl_Curve_on_expiry ccl_Curve_on_expiry : Value} {cld_Curve_on_expiry cdd_Curve_on_expiry : Option Addr} {csl_Curve_on_expiry ccs_Curve_on_expiry : Array (Option Value)} {cda_Curve_on_expiry cc_Curve_on_expiry : Addr} {vs_Curve_on_expiry : Array Value} {file_Curve_on_expiry : Str} {tf_Curve_on_expiry : Tok} {f_Curve_on_sample : Addr} {oc_Curve_on_sample kV_Curve_on_sample doc_Curve_on_sample pm_Curve_on_sample ct_Curve_on_sample : Value} {od_Curve_on_sample an_Curve_on_sample : Option Addr} {sl_Curve_on_sample : Array (Option Value)} {cl_Curve_on_sample ccl_Curve_on_sample : Value} {cld_Curve_on_sample cdd_Curve_on_sample : Option Addr} {csl_Curve_on_sample ccs_Curve_on_sample : Array (Option Value)} {cda_Curve_on_sample cc_Curve_on_sample : Addr} {vs_Curve_on_sample : Array Value} {file_Curve_on_sample : Str} {tf_Curve_on_sample : Tok} {f_Curve_on_loss : Addr} {oc_Curve_on_loss kV_Curve_on_loss doc_Curve_on_loss pm_Curve_on_loss ct_Curve_on_loss : Value} {od_Curve_on_loss an_Curve_on_loss : Option Addr} {sl_Curve_on_loss : Array (Option Value)} {cd_Curve_on_loss : Value} {f_Curve_grow : Addr} {oc_Curve_grow kV_Curve_grow doc_Curve_grow pm_Curve_grow ct_Curve_grow : Value} {od_Curve_grow an_Curve_grow : Option Addr} {sl_Curve_grow : Array (Option Value)} {cl_Curve_grow ccl_Curve_grow : Value} {cld_Curve_grow cdd_Curve_grow : Option Addr} {csl_Curve_grow ccs_Curve_grow : Array (Option Value)} {cda_Curve_grow cc_Curve_grow : Addr} {vs_Curve_grow : Array Value} {file_Curve_grow : Str} {tf_Curve_grow : Tok} {f_Curve_on_ack : Addr} {oc_Curve_on_ack kV_Curve_on_ack doc_Curve_on_ack pm_Curve_on_ack ct_Curve_on_ack : Value} {od_Curve_on_ack an_Curve_on_ack : Option Addr} {sl_Curve_on_ack : Array (Option Value)} {cl_Curve_on_ack ccl_Curve_on_ack : Value} {cld_Curve_on_ack cdd_Curve_on_ack : Option Addr} {csl_Curve_on_ack ccs_Curve_on_ack : Array (Option Value)} {cda_Curve_on_ack cc_Curve_on_ack : Addr} {vs_Curve_on_ack : Array Value} {file_Curve_on_ack : Str} {tf_Curve_on_ack : Tok} {f_Delay___init__ : Addr} {oc_Delay___init__ kV_Delay___init__ doc_Delay___init__ pm_Delay___init__ ct_Delay___init__ : Value} {od_Delay___init__ an_Delay___init__ : Option Addr} {sl_Delay___init__ : Array (Option Value)} {cl_Delay___init__ ccl_Delay___init__ : Value} {cld_Delay___init__ cdd_Delay___init__ : Option Addr} {csl_Delay___init__ ccs_Delay___init__ : Array (Option Value)} {cda_Delay___init__ cc_Delay___init__ : Addr} {vs_Delay___init__ : Array Value} {file_Delay___init__ : Str} {tf_Delay___init__ : Tok} {f_Delay_on_expiry : Addr} {oc_Delay_on_expiry kV_Delay_on_expiry doc_Delay_on_expiry pm_Delay_on_expiry ct_Delay_on_expiry : Value} {od_Delay_on_expiry an_Delay_on_expiry : Option Addr} {sl_Delay_on_expiry : Array (Option Value)} {cl_Delay_on_expiry ccl_Delay_on_expiry : Value} {cld_Delay_on_expiry cdd_Delay_on_expiry : Option Addr} {csl_Delay_on_expiry ccs_Delay_on_expiry : Array (Option Value)} {cda_Delay_on_expiry cc_Delay_on_expiry : Addr} {vs_Delay_on_expiry : Array Value} {file_Delay_on_expiry : Str} {tf_Delay_on_expiry : Tok} {f_Delay_on_sample : Addr} {oc_Delay_on_sample kV_Delay_on_sample doc_Delay_on_sample pm_Delay_on_sample ct_Delay_on_sample : Value} {od_Delay_on_sample an_Delay_on_sample : Option Addr} {sl_Delay_on_sample : Array (Option Value)} {cd_Delay_on_sample : Value} {f_Delay_on_loss : Addr} {oc_Delay_on_loss kV_Delay_on_loss doc_Delay_on_loss pm_Delay_on_loss ct_Delay_on_loss : Value} {od_Delay_on_loss an_Delay_on_loss : Option Addr} {sl_Delay_on_loss : Array (Option Value)} {cl_Delay_on_loss ccl_Delay_on_loss : Value} {cld_Delay_on_loss cdd_Delay_on_loss : Option Addr} {csl_Delay_on_loss ccs_Delay_on_loss : Array (Option Value)} {cda_Delay_on_loss cc_Delay_on_loss : Addr} {vs_Delay_on_loss : Array Value} {file_Delay_on_loss : Str} {tf_Delay_on_loss : Tok} {f_Delay_surplus : Addr} {oc_Delay_surplus kV_Delay_surplus doc_Delay_surplus pm_Delay_surplus ct_Delay_surplus : Value} {od_Delay_surplus an_Delay_surplus : Option Addr} {sl_Delay_surplus : Array (Option Value)} {cd_Delay_surplus : Value} {f_Delay_grow : Addr} {oc_Delay_grow kV_Delay_grow doc_Delay_grow pm_Delay_grow ct_Delay_grow : Value} {od_Delay_grow an_Delay_grow : Option Addr} {sl_Delay_grow : Array (Option Value)} {cd_Delay_grow : Value} {f_Delay_on_ack : Addr} {oc_Delay_on_ack kV_Delay_on_ack doc_Delay_on_ack pm_Delay_on_ack ct_Delay_on_ack : Value} {od_Delay_on_ack an_Delay_on_ack : Option Addr} {sl_Delay_on_ack : Array (Option Value)} {cl_Delay_on_ack ccl_Delay_on_ack : Value} {cld_Delay_on_ack cdd_Delay_on_ack : Option Addr} {csl_Delay_on_ack ccs_Delay_on_ack : Array (Option Value)} {cda_Delay_on_ack cc_Delay_on_ack : Addr} {vs_Delay_on_ack : Array Value} {file_Delay_on_ack : Str} {tf_Delay_on_ack : Tok}
    (n_Control : PySem.W.nsIn K mainGlobals "Control" = some (some (.ref c_Control)))
    (n_Fixed : PySem.W.nsIn K mainGlobals "Fixed" = some (some (.ref c_Fixed)))
    (n_Climb : PySem.W.nsIn K mainGlobals "Climb" = some (some (.ref c_Climb)))
    (n_Curve : PySem.W.nsIn K mainGlobals "Curve" = some (some (.ref c_Curve)))
    (n_Delay : PySem.W.nsIn K mainGlobals "Delay" = some (some (.ref c_Delay)))
    (hd_Control : PySem.W.hasDictIn K c_Control = true)
    (pg_Control : PySem.W.plainGet K c_Control Str.empty = true)
    (po_Control : PySem.W.plainOver K c_Control = true)
    (sa_Control : PySem.W.findIn K (.ref c_Control) "__setattr__" = some (some (.builtin "object.__setattr__")))
    (mk_Control : PySem.W.makesIn K c_Control = true)
    (kc_Control : PySem.W.keepIn K (.ref c_Control) = true)
    (rd_Control : PySem.W.readsIn K c_Control mc_Control = true)
    (ga_Control : PySem.W.specialIn K (.ref c_Control) "__getattribute__" = some (some (.builtin "type.__getattribute__")))
    (cv_Control_KIND : PySem.W.findCls K (.ref c_Control) mc_Control "KIND" = some (.val (.str "base" t_Control_KIND)))
    (cv_Control_GREATEST : PySem.W.findCls K (.ref c_Control) mc_Control "GREATEST" = some (.val (.int 4194304 t_Control_GREATEST)))
    (ha_Control : PySem.W.findIn K (.ref c_Control) "__class__" = some (some (.builtin "object.__class__")))
    (hm_Control : PySem.W.mroIn K c_Control (.type "object") = some true)
    (hn : PySem.W.specialIn K (.builtin "object.__class__") "__get__" = some (some (.builtin "getset_descriptor.__get__")))
    (ht : PySem.W.takesIn K (.builtin "object.__class__") = some true)
    (ki_Control_Control : PySem.W.kitOne K (.ref c_Control) (.ref c_Control) = some true)
    (ki_Control_Fixed : PySem.W.kitOne K (.ref c_Control) (.ref c_Fixed) = some false)
    (ki_Control_Climb : PySem.W.kitOne K (.ref c_Control) (.ref c_Climb) = some false)
    (ki_Control_Curve : PySem.W.kitOne K (.ref c_Control) (.ref c_Curve) = some false)
    (ki_Control_Delay : PySem.W.kitOne K (.ref c_Control) (.ref c_Delay) = some false)
    (ic_Control_KIND : PySem.W.findIn K (.ref c_Control) "KIND" = some (some (.str "base" ti_Control_KIND)))
    (ig_Control_KIND : PySem.W.specialIn K (.str "base" ti_Control_KIND) "__get__" = some none)
    (na_Control_unit : PySem.W.findIn K (.ref c_Control) "unit" = some none)
    (na_Control_window : PySem.W.findIn K (.ref c_Control) "window" = some none)
    (na_Control_threshold : PySem.W.findIn K (.ref c_Control) "threshold" = some none)
    (na_Control_credit : PySem.W.findIn K (.ref c_Control) "credit" = some none)
    (na_Control_stalled : PySem.W.findIn K (.ref c_Control) "stalled" = some none)
    (na_Control_peak : PySem.W.findIn K (.ref c_Control) "peak" = some none)
    (na_Control_span : PySem.W.findIn K (.ref c_Control) "span" = some none)
    (na_Control_born : PySem.W.findIn K (.ref c_Control) "born" = some none)
    (na_Control_least : PySem.W.findIn K (.ref c_Control) "least" = some none)
    (na_Control_latest : PySem.W.findIn K (.ref c_Control) "latest" = some none)
    (na_Control_samples : PySem.W.findIn K (.ref c_Control) "samples" = some none)
    (hd_Fixed : PySem.W.hasDictIn K c_Fixed = true)
    (pg_Fixed : PySem.W.plainGet K c_Fixed Str.empty = true)
    (po_Fixed : PySem.W.plainOver K c_Fixed = true)
    (sa_Fixed : PySem.W.findIn K (.ref c_Fixed) "__setattr__" = some (some (.builtin "object.__setattr__")))
    (mk_Fixed : PySem.W.makesIn K c_Fixed = true)
    (kc_Fixed : PySem.W.keepIn K (.ref c_Fixed) = true)
    (rd_Fixed : PySem.W.readsIn K c_Fixed mc_Fixed = true)
    (ga_Fixed : PySem.W.specialIn K (.ref c_Fixed) "__getattribute__" = some (some (.builtin "type.__getattribute__")))
    (cv_Fixed_KIND : PySem.W.findCls K (.ref c_Fixed) mc_Fixed "KIND" = some (.val (.str "fixed" t_Fixed_KIND)))
    (ha_Fixed : PySem.W.findIn K (.ref c_Fixed) "__class__" = some (some (.builtin "object.__class__")))
    (hm_Fixed : PySem.W.mroIn K c_Fixed (.type "object") = some true)
    (ki_Fixed_Control : PySem.W.kitOne K (.ref c_Fixed) (.ref c_Control) = some true)
    (ki_Fixed_Fixed : PySem.W.kitOne K (.ref c_Fixed) (.ref c_Fixed) = some true)
    (ki_Fixed_Climb : PySem.W.kitOne K (.ref c_Fixed) (.ref c_Climb) = some false)
    (ki_Fixed_Curve : PySem.W.kitOne K (.ref c_Fixed) (.ref c_Curve) = some false)
    (ki_Fixed_Delay : PySem.W.kitOne K (.ref c_Fixed) (.ref c_Delay) = some false)
    (ic_Fixed_KIND : PySem.W.findIn K (.ref c_Fixed) "KIND" = some (some (.str "fixed" ti_Fixed_KIND)))
    (ig_Fixed_KIND : PySem.W.specialIn K (.str "fixed" ti_Fixed_KIND) "__get__" = some none)
    (na_Fixed_unit : PySem.W.findIn K (.ref c_Fixed) "unit" = some none)
    (na_Fixed_window : PySem.W.findIn K (.ref c_Fixed) "window" = some none)
    (na_Fixed_threshold : PySem.W.findIn K (.ref c_Fixed) "threshold" = some none)
    (na_Fixed_credit : PySem.W.findIn K (.ref c_Fixed) "credit" = some none)
    (na_Fixed_stalled : PySem.W.findIn K (.ref c_Fixed) "stalled" = some none)
    (na_Fixed_peak : PySem.W.findIn K (.ref c_Fixed) "peak" = some none)
    (na_Fixed_span : PySem.W.findIn K (.ref c_Fixed) "span" = some none)
    (na_Fixed_born : PySem.W.findIn K (.ref c_Fixed) "born" = some none)
    (na_Fixed_least : PySem.W.findIn K (.ref c_Fixed) "least" = some none)
    (na_Fixed_latest : PySem.W.findIn K (.ref c_Fixed) "latest" = some none)
    (na_Fixed_samples : PySem.W.findIn K (.ref c_Fixed) "samples" = some none)
    (hd_Climb : PySem.W.hasDictIn K c_Climb = true)
    (pg_Climb : PySem.W.plainGet K c_Climb Str.empty = true)
    (po_Climb : PySem.W.plainOver K c_Climb = true)
    (sa_Climb : PySem.W.findIn K (.ref c_Climb) "__setattr__" = some (some (.builtin "object.__setattr__")))
    (mk_Climb : PySem.W.makesIn K c_Climb = true)
    (kc_Climb : PySem.W.keepIn K (.ref c_Climb) = true)
    (rd_Climb : PySem.W.readsIn K c_Climb mc_Climb = true)
    (ga_Climb : PySem.W.specialIn K (.ref c_Climb) "__getattribute__" = some (some (.builtin "type.__getattribute__")))
    (cv_Climb_KIND : PySem.W.findCls K (.ref c_Climb) mc_Climb "KIND" = some (.val (.str "climb" t_Climb_KIND)))
    (ha_Climb : PySem.W.findIn K (.ref c_Climb) "__class__" = some (some (.builtin "object.__class__")))
    (hm_Climb : PySem.W.mroIn K c_Climb (.type "object") = some true)
    (ki_Climb_Control : PySem.W.kitOne K (.ref c_Climb) (.ref c_Control) = some true)
    (ki_Climb_Fixed : PySem.W.kitOne K (.ref c_Climb) (.ref c_Fixed) = some false)
    (ki_Climb_Climb : PySem.W.kitOne K (.ref c_Climb) (.ref c_Climb) = some true)
    (ki_Climb_Curve : PySem.W.kitOne K (.ref c_Climb) (.ref c_Curve) = some false)
    (ki_Climb_Delay : PySem.W.kitOne K (.ref c_Climb) (.ref c_Delay) = some false)
    (ic_Climb_KIND : PySem.W.findIn K (.ref c_Climb) "KIND" = some (some (.str "climb" ti_Climb_KIND)))
    (ig_Climb_KIND : PySem.W.specialIn K (.str "climb" ti_Climb_KIND) "__get__" = some none)
    (na_Climb_unit : PySem.W.findIn K (.ref c_Climb) "unit" = some none)
    (na_Climb_window : PySem.W.findIn K (.ref c_Climb) "window" = some none)
    (na_Climb_threshold : PySem.W.findIn K (.ref c_Climb) "threshold" = some none)
    (na_Climb_credit : PySem.W.findIn K (.ref c_Climb) "credit" = some none)
    (na_Climb_stalled : PySem.W.findIn K (.ref c_Climb) "stalled" = some none)
    (na_Climb_peak : PySem.W.findIn K (.ref c_Climb) "peak" = some none)
    (na_Climb_span : PySem.W.findIn K (.ref c_Climb) "span" = some none)
    (na_Climb_born : PySem.W.findIn K (.ref c_Climb) "born" = some none)
    (na_Climb_least : PySem.W.findIn K (.ref c_Climb) "least" = some none)
    (na_Climb_latest : PySem.W.findIn K (.ref c_Climb) "latest" = some none)
    (na_Climb_samples : PySem.W.findIn K (.ref c_Climb) "samples" = some none)
    (hd_Curve : PySem.W.hasDictIn K c_Curve = true)
    (pg_Curve : PySem.W.plainGet K c_Curve Str.empty = true)
    (po_Curve : PySem.W.plainOver K c_Curve = true)
    (sa_Curve : PySem.W.findIn K (.ref c_Curve) "__setattr__" = some (some (.builtin "object.__setattr__")))
    (mk_Curve : PySem.W.makesIn K c_Curve = true)
    (kc_Curve : PySem.W.keepIn K (.ref c_Curve) = true)
    (rd_Curve : PySem.W.readsIn K c_Curve mc_Curve = true)
    (ga_Curve : PySem.W.specialIn K (.ref c_Curve) "__getattribute__" = some (some (.builtin "type.__getattribute__")))
    (cv_Curve_KIND : PySem.W.findCls K (.ref c_Curve) mc_Curve "KIND" = some (.val (.str "curve" t_Curve_KIND)))
    (ha_Curve : PySem.W.findIn K (.ref c_Curve) "__class__" = some (some (.builtin "object.__class__")))
    (hm_Curve : PySem.W.mroIn K c_Curve (.type "object") = some true)
    (ki_Curve_Control : PySem.W.kitOne K (.ref c_Curve) (.ref c_Control) = some true)
    (ki_Curve_Fixed : PySem.W.kitOne K (.ref c_Curve) (.ref c_Fixed) = some false)
    (ki_Curve_Climb : PySem.W.kitOne K (.ref c_Curve) (.ref c_Climb) = some true)
    (ki_Curve_Curve : PySem.W.kitOne K (.ref c_Curve) (.ref c_Curve) = some true)
    (ki_Curve_Delay : PySem.W.kitOne K (.ref c_Curve) (.ref c_Delay) = some false)
    (ic_Curve_KIND : PySem.W.findIn K (.ref c_Curve) "KIND" = some (some (.str "curve" ti_Curve_KIND)))
    (ig_Curve_KIND : PySem.W.specialIn K (.str "curve" ti_Curve_KIND) "__get__" = some none)
    (na_Curve_unit : PySem.W.findIn K (.ref c_Curve) "unit" = some none)
    (na_Curve_window : PySem.W.findIn K (.ref c_Curve) "window" = some none)
    (na_Curve_threshold : PySem.W.findIn K (.ref c_Curve) "threshold" = some none)
    (na_Curve_credit : PySem.W.findIn K (.ref c_Curve) "credit" = some none)
    (na_Curve_stalled : PySem.W.findIn K (.ref c_Curve) "stalled" = some none)
    (na_Curve_peak : PySem.W.findIn K (.ref c_Curve) "peak" = some none)
    (na_Curve_span : PySem.W.findIn K (.ref c_Curve) "span" = some none)
    (na_Curve_born : PySem.W.findIn K (.ref c_Curve) "born" = some none)
    (na_Curve_least : PySem.W.findIn K (.ref c_Curve) "least" = some none)
    (na_Curve_latest : PySem.W.findIn K (.ref c_Curve) "latest" = some none)
    (na_Curve_samples : PySem.W.findIn K (.ref c_Curve) "samples" = some none)
    (hd_Delay : PySem.W.hasDictIn K c_Delay = true)
    (pg_Delay : PySem.W.plainGet K c_Delay Str.empty = true)
    (po_Delay : PySem.W.plainOver K c_Delay = true)
    (sa_Delay : PySem.W.findIn K (.ref c_Delay) "__setattr__" = some (some (.builtin "object.__setattr__")))
    (mk_Delay : PySem.W.makesIn K c_Delay = true)
    (kc_Delay : PySem.W.keepIn K (.ref c_Delay) = true)
    (rd_Delay : PySem.W.readsIn K c_Delay mc_Delay = true)
    (ga_Delay : PySem.W.specialIn K (.ref c_Delay) "__getattribute__" = some (some (.builtin "type.__getattribute__")))
    (cv_Delay_KIND : PySem.W.findCls K (.ref c_Delay) mc_Delay "KIND" = some (.val (.str "delay" t_Delay_KIND)))
    (ha_Delay : PySem.W.findIn K (.ref c_Delay) "__class__" = some (some (.builtin "object.__class__")))
    (hm_Delay : PySem.W.mroIn K c_Delay (.type "object") = some true)
    (ki_Delay_Control : PySem.W.kitOne K (.ref c_Delay) (.ref c_Control) = some true)
    (ki_Delay_Fixed : PySem.W.kitOne K (.ref c_Delay) (.ref c_Fixed) = some false)
    (ki_Delay_Climb : PySem.W.kitOne K (.ref c_Delay) (.ref c_Climb) = some true)
    (ki_Delay_Curve : PySem.W.kitOne K (.ref c_Delay) (.ref c_Curve) = some false)
    (ki_Delay_Delay : PySem.W.kitOne K (.ref c_Delay) (.ref c_Delay) = some true)
    (ic_Delay_KIND : PySem.W.findIn K (.ref c_Delay) "KIND" = some (some (.str "delay" ti_Delay_KIND)))
    (ig_Delay_KIND : PySem.W.specialIn K (.str "delay" ti_Delay_KIND) "__get__" = some none)
    (na_Delay_unit : PySem.W.findIn K (.ref c_Delay) "unit" = some none)
    (na_Delay_window : PySem.W.findIn K (.ref c_Delay) "window" = some none)
    (na_Delay_threshold : PySem.W.findIn K (.ref c_Delay) "threshold" = some none)
    (na_Delay_credit : PySem.W.findIn K (.ref c_Delay) "credit" = some none)
    (na_Delay_stalled : PySem.W.findIn K (.ref c_Delay) "stalled" = some none)
    (na_Delay_peak : PySem.W.findIn K (.ref c_Delay) "peak" = some none)
    (na_Delay_span : PySem.W.findIn K (.ref c_Delay) "span" = some none)
    (na_Delay_born : PySem.W.findIn K (.ref c_Delay) "born" = some none)
    (na_Delay_least : PySem.W.findIn K (.ref c_Delay) "least" = some none)
    (na_Delay_latest : PySem.W.findIn K (.ref c_Delay) "latest" = some none)
    (na_Delay_samples : PySem.W.findIn K (.ref c_Delay) "samples" = some none)
    (n_Control_starting : PySem.W.findIn K (.ref c_Control) "starting" = some (some (.ref p_Control_starting)))
    (g_Control_starting : PySem.W.specialIn K (.ref p_Control_starting) "__get__" = some (some (.builtin "property.__get__")))
    (t_Control_starting : PySem.W.takesIn K (.ref p_Control_starting) = some true)
    (r_Control_starting : PySem.W.recIn K p_Control_starting "property" = some (.ref f_Control_starting :: rest_Control_starting))
    (l_Control_starting : K.lookup f_Control_starting = some ⟨oc_Control_starting, od_Control_starting, .func (PySem.W.fnOf "starting" "Control.starting" (defArgs (inClass (top 12) 3)) (defBody (inClass (top 12) 3)) (defScope (inClass (top 12) 3)) .none kV_Control_starting doc_Control_starting pm_Control_starting an_Control_starting cd_Control_starting ct_Control_starting), sl_Control_starting⟩)
    (c_Control_starting : PySem.W.codeIn K cd_Control_starting "Control.starting" = true)
    (k_Control_starting : PySem.W.keepIn K (.ref f_Control_starting) = true)
    (n_Control___init__ : PySem.W.findIn K (.ref c_Control) "__init__" = some (some (.ref f_Control___init__)))
    (i_Control___init__ : PySem.W.isFn K (.ref f_Control___init__) = true)
    (l_Control___init__ : K.lookup f_Control___init__ = some ⟨oc_Control___init__, od_Control___init__, .func (PySem.W.fnOf "__init__" "Control.__init__" (defArgs (inClass (top 12) 2)) (defBody (inClass (top 12) 2)) (defScope (inClass (top 12) 2)) .none kV_Control___init__ doc_Control___init__ pm_Control___init__ an_Control___init__ cd_Control___init__ ct_Control___init__), sl_Control___init__⟩)
    (c_Control___init__ : PySem.W.codeIn K cd_Control___init__ "Control.__init__" = true)
    (k_Control___init__ : PySem.W.keepIn K (.ref f_Control___init__) = true)
    (n_Control_on_expiry : PySem.W.findIn K (.ref c_Control) "on_expiry" = some (some (.ref f_Control_on_expiry)))
    (i_Control_on_expiry : PySem.W.isFn K (.ref f_Control_on_expiry) = true)
    (l_Control_on_expiry : K.lookup f_Control_on_expiry = some ⟨oc_Control_on_expiry, od_Control_on_expiry, .func (PySem.W.fnOf "on_expiry" "Control.on_expiry" (defArgs (inClass (top 12) 7)) (defBody (inClass (top 12) 7)) (defScope (inClass (top 12) 7)) .none kV_Control_on_expiry doc_Control_on_expiry pm_Control_on_expiry an_Control_on_expiry cd_Control_on_expiry ct_Control_on_expiry), sl_Control_on_expiry⟩)
    (c_Control_on_expiry : PySem.W.codeIn K cd_Control_on_expiry "Control.on_expiry" = true)
    (k_Control_on_expiry : PySem.W.keepIn K (.ref f_Control_on_expiry) = true)
    (n_Control_on_sample : PySem.W.findIn K (.ref c_Control) "on_sample" = some (some (.ref f_Control_on_sample)))
    (i_Control_on_sample : PySem.W.isFn K (.ref f_Control_on_sample) = true)
    (l_Control_on_sample : K.lookup f_Control_on_sample = some ⟨oc_Control_on_sample, od_Control_on_sample, .func (PySem.W.fnOf "on_sample" "Control.on_sample" (defArgs (inClass (top 12) 8)) (defBody (inClass (top 12) 8)) (defScope (inClass (top 12) 8)) .none kV_Control_on_sample doc_Control_on_sample pm_Control_on_sample an_Control_on_sample cd_Control_on_sample ct_Control_on_sample), sl_Control_on_sample⟩)
    (c_Control_on_sample : PySem.W.codeIn K cd_Control_on_sample "Control.on_sample" = true)
    (k_Control_on_sample : PySem.W.keepIn K (.ref f_Control_on_sample) = true)
    (n_Control_on_loss : PySem.W.findIn K (.ref c_Control) "on_loss" = some (some (.ref f_Control_on_loss)))
    (i_Control_on_loss : PySem.W.isFn K (.ref f_Control_on_loss) = true)
    (l_Control_on_loss : K.lookup f_Control_on_loss = some ⟨oc_Control_on_loss, od_Control_on_loss, .func (PySem.W.fnOf "on_loss" "Control.on_loss" (defArgs (inClass (top 12) 6)) (defBody (inClass (top 12) 6)) (defScope (inClass (top 12) 6)) .none kV_Control_on_loss doc_Control_on_loss pm_Control_on_loss an_Control_on_loss cd_Control_on_loss ct_Control_on_loss), sl_Control_on_loss⟩)
    (c_Control_on_loss : PySem.W.codeIn K cd_Control_on_loss "Control.on_loss" = true)
    (k_Control_on_loss : PySem.W.keepIn K (.ref f_Control_on_loss) = true)
    (n_Control_grow : PySem.W.findIn K (.ref c_Control) "grow" = some (some (.ref f_Control_grow)))
    (i_Control_grow : PySem.W.isFn K (.ref f_Control_grow) = true)
    (l_Control_grow : K.lookup f_Control_grow = some ⟨oc_Control_grow, od_Control_grow, .func (PySem.W.fnOf "grow" "Control.grow" (defArgs (inClass (top 12) 5)) (defBody (inClass (top 12) 5)) (defScope (inClass (top 12) 5)) .none kV_Control_grow doc_Control_grow pm_Control_grow an_Control_grow cd_Control_grow ct_Control_grow), sl_Control_grow⟩)
    (c_Control_grow : PySem.W.codeIn K cd_Control_grow "Control.grow" = true)
    (k_Control_grow : PySem.W.keepIn K (.ref f_Control_grow) = true)
    (n_Control_on_ack : PySem.W.findIn K (.ref c_Control) "on_ack" = some (some (.ref f_Control_on_ack)))
    (i_Control_on_ack : PySem.W.isFn K (.ref f_Control_on_ack) = true)
    (l_Control_on_ack : K.lookup f_Control_on_ack = some ⟨oc_Control_on_ack, od_Control_on_ack, .func (PySem.W.fnOf "on_ack" "Control.on_ack" (defArgs (inClass (top 12) 4)) (defBody (inClass (top 12) 4)) (defScope (inClass (top 12) 4)) .none kV_Control_on_ack doc_Control_on_ack pm_Control_on_ack an_Control_on_ack cd_Control_on_ack ct_Control_on_ack), sl_Control_on_ack⟩)
    (c_Control_on_ack : PySem.W.codeIn K cd_Control_on_ack "Control.on_ack" = true)
    (k_Control_on_ack : PySem.W.keepIn K (.ref f_Control_on_ack) = true)
    (n_Fixed___init__ : PySem.W.findIn K (.ref c_Fixed) "__init__" = some (some (.ref f_Fixed___init__)))
    (i_Fixed___init__ : PySem.W.isFn K (.ref f_Fixed___init__) = true)
    (l_Fixed___init__ : K.lookup f_Fixed___init__ = some ⟨oc_Fixed___init__, od_Fixed___init__, .func (PySem.W.ksFn "__init__" "Fixed.__init__" (defArgs (inClass (top 13) 1)) (defBody (inClass (top 13) 1)) (defScope (inClass (top 13) 1)) (.ref T_Fixed___init__) kV_Fixed___init__ doc_Fixed___init__ pm_Fixed___init__ an_Fixed___init__ (.ref cda_Fixed___init__) ct_Fixed___init__ cc_Fixed___init__), sl_Fixed___init__⟩)
    (c_Fixed___init__ : PySem.W.codeIn K (.ref cda_Fixed___init__) "Fixed.__init__" = true)
    (k_Fixed___init__ : PySem.W.keepIn K (.ref f_Fixed___init__) = true)
    (cc_Fixed___init__ : K.lookup cc_Fixed___init__ = some ⟨cl_Fixed___init__, cld_Fixed___init__, .cell (some (.ref c_Fixed)), csl_Fixed___init__⟩)
    (cd_Fixed___init__ : K.lookup cda_Fixed___init__ = some ⟨ccl_Fixed___init__, cdd_Fixed___init__, .fields vs_Fixed___init__, ccs_Fixed___init__⟩)
    (v_Fixed___init__ : vs_Fixed___init__[2]? = some (.str file_Fixed___init__ tf_Fixed___init__))
    (fl_Fixed___init__ : ((P.main.file : Str) == file_Fixed___init__) = true)
    (dT_Fixed___init__ : K.lookup T_Fixed___init__ = some ⟨ot_Fixed___init__, oe_Fixed___init__, .seq #[.int 8 dt_Fixed___init___0] j_Fixed___init__, so_Fixed___init__⟩)
    (n_Fixed_on_expiry : PySem.W.findIn K (.ref c_Fixed) "on_expiry" = some (some (.ref f_Fixed_on_expiry)))
    (i_Fixed_on_expiry : PySem.W.isFn K (.ref f_Fixed_on_expiry) = true)
    (l_Fixed_on_expiry : K.lookup f_Fixed_on_expiry = some ⟨oc_Fixed_on_expiry, od_Fixed_on_expiry, .func (PySem.W.fnOf "on_expiry" "Fixed.on_expiry" (defArgs (inClass (top 13) 5)) (defBody (inClass (top 13) 5)) (defScope (inClass (top 13) 5)) .none kV_Fixed_on_expiry doc_Fixed_on_expiry pm_Fixed_on_expiry an_Fixed_on_expiry cd_Fixed_on_expiry ct_Fixed_on_expiry), sl_Fixed_on_expiry⟩)
    (c_Fixed_on_expiry : PySem.W.codeIn K cd_Fixed_on_expiry "Fixed.on_expiry" = true)
    (k_Fixed_on_expiry : PySem.W.keepIn K (.ref f_Fixed_on_expiry) = true)
    (n_Fixed_on_sample : PySem.W.findIn K (.ref c_Fixed) "on_sample" = some (some (.ref f_Fixed_on_sample)))
    (i_Fixed_on_sample : PySem.W.isFn K (.ref f_Fixed_on_sample) = true)
    (l_Fixed_on_sample : K.lookup f_Fixed_on_sample = some ⟨oc_Fixed_on_sample, od_Fixed_on_sample, .func (PySem.W.fnOf "on_sample" "Fixed.on_sample" (defArgs (inClass (top 13) 6)) (defBody (inClass (top 13) 6)) (defScope (inClass (top 13) 6)) .none kV_Fixed_on_sample doc_Fixed_on_sample pm_Fixed_on_sample an_Fixed_on_sample cd_Fixed_on_sample ct_Fixed_on_sample), sl_Fixed_on_sample⟩)
    (c_Fixed_on_sample : PySem.W.codeIn K cd_Fixed_on_sample "Fixed.on_sample" = true)
    (k_Fixed_on_sample : PySem.W.keepIn K (.ref f_Fixed_on_sample) = true)
    (n_Fixed_on_loss : PySem.W.findIn K (.ref c_Fixed) "on_loss" = some (some (.ref f_Fixed_on_loss)))
    (i_Fixed_on_loss : PySem.W.isFn K (.ref f_Fixed_on_loss) = true)
    (l_Fixed_on_loss : K.lookup f_Fixed_on_loss = some ⟨oc_Fixed_on_loss, od_Fixed_on_loss, .func (PySem.W.fnOf "on_loss" "Fixed.on_loss" (defArgs (inClass (top 13) 4)) (defBody (inClass (top 13) 4)) (defScope (inClass (top 13) 4)) .none kV_Fixed_on_loss doc_Fixed_on_loss pm_Fixed_on_loss an_Fixed_on_loss cd_Fixed_on_loss ct_Fixed_on_loss), sl_Fixed_on_loss⟩)
    (c_Fixed_on_loss : PySem.W.codeIn K cd_Fixed_on_loss "Fixed.on_loss" = true)
    (k_Fixed_on_loss : PySem.W.keepIn K (.ref f_Fixed_on_loss) = true)
    (n_Fixed_grow : PySem.W.findIn K (.ref c_Fixed) "grow" = some (some (.ref f_Fixed_grow)))
    (i_Fixed_grow : PySem.W.isFn K (.ref f_Fixed_grow) = true)
    (l_Fixed_grow : K.lookup f_Fixed_grow = some ⟨oc_Fixed_grow, od_Fixed_grow, .func (PySem.W.fnOf "grow" "Fixed.grow" (defArgs (inClass (top 13) 3)) (defBody (inClass (top 13) 3)) (defScope (inClass (top 13) 3)) .none kV_Fixed_grow doc_Fixed_grow pm_Fixed_grow an_Fixed_grow cd_Fixed_grow ct_Fixed_grow), sl_Fixed_grow⟩)
    (c_Fixed_grow : PySem.W.codeIn K cd_Fixed_grow "Fixed.grow" = true)
    (k_Fixed_grow : PySem.W.keepIn K (.ref f_Fixed_grow) = true)
    (n_Fixed_on_ack : PySem.W.findIn K (.ref c_Fixed) "on_ack" = some (some (.ref f_Fixed_on_ack)))
    (i_Fixed_on_ack : PySem.W.isFn K (.ref f_Fixed_on_ack) = true)
    (l_Fixed_on_ack : K.lookup f_Fixed_on_ack = some ⟨oc_Fixed_on_ack, od_Fixed_on_ack, .func (PySem.W.fnOf "on_ack" "Fixed.on_ack" (defArgs (inClass (top 13) 2)) (defBody (inClass (top 13) 2)) (defScope (inClass (top 13) 2)) .none kV_Fixed_on_ack doc_Fixed_on_ack pm_Fixed_on_ack an_Fixed_on_ack cd_Fixed_on_ack ct_Fixed_on_ack), sl_Fixed_on_ack⟩)
    (c_Fixed_on_ack : PySem.W.codeIn K cd_Fixed_on_ack "Fixed.on_ack" = true)
    (k_Fixed_on_ack : PySem.W.keepIn K (.ref f_Fixed_on_ack) = true)
    (n_Climb___init__ : PySem.W.findIn K (.ref c_Climb) "__init__" = some (some (.ref f_Climb___init__)))
    (i_Climb___init__ : PySem.W.isFn K (.ref f_Climb___init__) = true)
    (l_Climb___init__ : K.lookup f_Climb___init__ = some ⟨oc_Climb___init__, od_Climb___init__, .func (PySem.W.ksFn "__init__" "Climb.__init__" (defArgs (inClass (top 14) 1)) (defBody (inClass (top 14) 1)) (defScope (inClass (top 14) 1)) .none kV_Climb___init__ doc_Climb___init__ pm_Climb___init__ an_Climb___init__ (.ref cda_Climb___init__) ct_Climb___init__ cc_Climb___init__), sl_Climb___init__⟩)
    (c_Climb___init__ : PySem.W.codeIn K (.ref cda_Climb___init__) "Climb.__init__" = true)
    (k_Climb___init__ : PySem.W.keepIn K (.ref f_Climb___init__) = true)
    (cc_Climb___init__ : K.lookup cc_Climb___init__ = some ⟨cl_Climb___init__, cld_Climb___init__, .cell (some (.ref c_Climb)), csl_Climb___init__⟩)
    (cd_Climb___init__ : K.lookup cda_Climb___init__ = some ⟨ccl_Climb___init__, cdd_Climb___init__, .fields vs_Climb___init__, ccs_Climb___init__⟩)
    (v_Climb___init__ : vs_Climb___init__[2]? = some (.str file_Climb___init__ tf_Climb___init__))
    (fl_Climb___init__ : ((P.main.file : Str) == file_Climb___init__) = true)
    (n_Climb_on_expiry : PySem.W.findIn K (.ref c_Climb) "on_expiry" = some (some (.ref f_Climb_on_expiry)))
    (i_Climb_on_expiry : PySem.W.isFn K (.ref f_Climb_on_expiry) = true)
    (l_Climb_on_expiry : K.lookup f_Climb_on_expiry = some ⟨oc_Climb_on_expiry, od_Climb_on_expiry, .func (PySem.W.ksFn "on_expiry" "Climb.on_expiry" (defArgs (inClass (top 14) 5)) (defBody (inClass (top 14) 5)) (defScope (inClass (top 14) 5)) .none kV_Climb_on_expiry doc_Climb_on_expiry pm_Climb_on_expiry an_Climb_on_expiry (.ref cda_Climb_on_expiry) ct_Climb_on_expiry cc_Climb_on_expiry), sl_Climb_on_expiry⟩)
    (c_Climb_on_expiry : PySem.W.codeIn K (.ref cda_Climb_on_expiry) "Climb.on_expiry" = true)
    (k_Climb_on_expiry : PySem.W.keepIn K (.ref f_Climb_on_expiry) = true)
    (cc_Climb_on_expiry : K.lookup cc_Climb_on_expiry = some ⟨cl_Climb_on_expiry, cld_Climb_on_expiry, .cell (some (.ref c_Climb)), csl_Climb_on_expiry⟩)
    (cd_Climb_on_expiry : K.lookup cda_Climb_on_expiry = some ⟨ccl_Climb_on_expiry, cdd_Climb_on_expiry, .fields vs_Climb_on_expiry, ccs_Climb_on_expiry⟩)
    (v_Climb_on_expiry : vs_Climb_on_expiry[2]? = some (.str file_Climb_on_expiry tf_Climb_on_expiry))
    (fl_Climb_on_expiry : ((P.main.file : Str) == file_Climb_on_expiry) = true)
    (n_Climb_on_sample : PySem.W.findIn K (.ref c_Climb) "on_sample" = some (some (.ref f_Climb_on_sample)))
    (i_Climb_on_sample : PySem.W.isFn K (.ref f_Climb_on_sample) = true)
    (l_Climb_on_sample : K.lookup f_Climb_on_sample = some ⟨oc_Climb_on_sample, od_Climb_on_sample, .func (PySem.W.ksFn "on_sample" "Climb.on_sample" (defArgs (inClass (top 14) 6)) (defBody (inClass (top 14) 6)) (defScope (inClass (top 14) 6)) .none kV_Climb_on_sample doc_Climb_on_sample pm_Climb_on_sample an_Climb_on_sample (.ref cda_Climb_on_sample) ct_Climb_on_sample cc_Climb_on_sample), sl_Climb_on_sample⟩)
    (c_Climb_on_sample : PySem.W.codeIn K (.ref cda_Climb_on_sample) "Climb.on_sample" = true)
    (k_Climb_on_sample : PySem.W.keepIn K (.ref f_Climb_on_sample) = true)
    (cc_Climb_on_sample : K.lookup cc_Climb_on_sample = some ⟨cl_Climb_on_sample, cld_Climb_on_sample, .cell (some (.ref c_Climb)), csl_Climb_on_sample⟩)
    (cd_Climb_on_sample : K.lookup cda_Climb_on_sample = some ⟨ccl_Climb_on_sample, cdd_Climb_on_sample, .fields vs_Climb_on_sample, ccs_Climb_on_sample⟩)
    (v_Climb_on_sample : vs_Climb_on_sample[2]? = some (.str file_Climb_on_sample tf_Climb_on_sample))
    (fl_Climb_on_sample : ((P.main.file : Str) == file_Climb_on_sample) = true)
    (n_Climb_on_loss : PySem.W.findIn K (.ref c_Climb) "on_loss" = some (some (.ref f_Climb_on_loss)))
    (i_Climb_on_loss : PySem.W.isFn K (.ref f_Climb_on_loss) = true)
    (l_Climb_on_loss : K.lookup f_Climb_on_loss = some ⟨oc_Climb_on_loss, od_Climb_on_loss, .func (PySem.W.ksFn "on_loss" "Climb.on_loss" (defArgs (inClass (top 14) 4)) (defBody (inClass (top 14) 4)) (defScope (inClass (top 14) 4)) .none kV_Climb_on_loss doc_Climb_on_loss pm_Climb_on_loss an_Climb_on_loss (.ref cda_Climb_on_loss) ct_Climb_on_loss cc_Climb_on_loss), sl_Climb_on_loss⟩)
    (c_Climb_on_loss : PySem.W.codeIn K (.ref cda_Climb_on_loss) "Climb.on_loss" = true)
    (k_Climb_on_loss : PySem.W.keepIn K (.ref f_Climb_on_loss) = true)
    (cc_Climb_on_loss : K.lookup cc_Climb_on_loss = some ⟨cl_Climb_on_loss, cld_Climb_on_loss, .cell (some (.ref c_Climb)), csl_Climb_on_loss⟩)
    (cd_Climb_on_loss : K.lookup cda_Climb_on_loss = some ⟨ccl_Climb_on_loss, cdd_Climb_on_loss, .fields vs_Climb_on_loss, ccs_Climb_on_loss⟩)
    (v_Climb_on_loss : vs_Climb_on_loss[2]? = some (.str file_Climb_on_loss tf_Climb_on_loss))
    (fl_Climb_on_loss : ((P.main.file : Str) == file_Climb_on_loss) = true)
    (n_Climb_grow : PySem.W.findIn K (.ref c_Climb) "grow" = some (some (.ref f_Climb_grow)))
    (i_Climb_grow : PySem.W.isFn K (.ref f_Climb_grow) = true)
    (l_Climb_grow : K.lookup f_Climb_grow = some ⟨oc_Climb_grow, od_Climb_grow, .func (PySem.W.fnOf "grow" "Climb.grow" (defArgs (inClass (top 14) 3)) (defBody (inClass (top 14) 3)) (defScope (inClass (top 14) 3)) .none kV_Climb_grow doc_Climb_grow pm_Climb_grow an_Climb_grow cd_Climb_grow ct_Climb_grow), sl_Climb_grow⟩)
    (c_Climb_grow : PySem.W.codeIn K cd_Climb_grow "Climb.grow" = true)
    (k_Climb_grow : PySem.W.keepIn K (.ref f_Climb_grow) = true)
    (n_Climb_on_ack : PySem.W.findIn K (.ref c_Climb) "on_ack" = some (some (.ref f_Climb_on_ack)))
    (i_Climb_on_ack : PySem.W.isFn K (.ref f_Climb_on_ack) = true)
    (l_Climb_on_ack : K.lookup f_Climb_on_ack = some ⟨oc_Climb_on_ack, od_Climb_on_ack, .func (PySem.W.ksFn "on_ack" "Climb.on_ack" (defArgs (inClass (top 14) 2)) (defBody (inClass (top 14) 2)) (defScope (inClass (top 14) 2)) .none kV_Climb_on_ack doc_Climb_on_ack pm_Climb_on_ack an_Climb_on_ack (.ref cda_Climb_on_ack) ct_Climb_on_ack cc_Climb_on_ack), sl_Climb_on_ack⟩)
    (c_Climb_on_ack : PySem.W.codeIn K (.ref cda_Climb_on_ack) "Climb.on_ack" = true)
    (k_Climb_on_ack : PySem.W.keepIn K (.ref f_Climb_on_ack) = true)
    (cc_Climb_on_ack : K.lookup cc_Climb_on_ack = some ⟨cl_Climb_on_ack, cld_Climb_on_ack, .cell (some (.ref c_Climb)), csl_Climb_on_ack⟩)
    (cd_Climb_on_ack : K.lookup cda_Climb_on_ack = some ⟨ccl_Climb_on_ack, cdd_Climb_on_ack, .fields vs_Climb_on_ack, ccs_Climb_on_ack⟩)
    (v_Climb_on_ack : vs_Climb_on_ack[2]? = some (.str file_Climb_on_ack tf_Climb_on_ack))
    (fl_Climb_on_ack : ((P.main.file : Str) == file_Climb_on_ack) = true)
    (n_Curve___init__ : PySem.W.findIn K (.ref c_Curve) "__init__" = some (some (.ref f_Curve___init__)))
    (i_Curve___init__ : PySem.W.isFn K (.ref f_Curve___init__) = true)
    (l_Curve___init__ : K.lookup f_Curve___init__ = some ⟨oc_Curve___init__, od_Curve___init__, .func (PySem.W.ksFn "__init__" "Curve.__init__" (defArgs (inClass (top 18) 1)) (defBody (inClass (top 18) 1)) (defScope (inClass (top 18) 1)) .none kV_Curve___init__ doc_Curve___init__ pm_Curve___init__ an_Curve___init__ (.ref cda_Curve___init__) ct_Curve___init__ cc_Curve___init__), sl_Curve___init__⟩)
    (c_Curve___init__ : PySem.W.codeIn K (.ref cda_Curve___init__) "Curve.__init__" = true)
    (k_Curve___init__ : PySem.W.keepIn K (.ref f_Curve___init__) = true)
    (cc_Curve___init__ : K.lookup cc_Curve___init__ = some ⟨cl_Curve___init__, cld_Curve___init__, .cell (some (.ref c_Curve)), csl_Curve___init__⟩)
    (cd_Curve___init__ : K.lookup cda_Curve___init__ = some ⟨ccl_Curve___init__, cdd_Curve___init__, .fields vs_Curve___init__, ccs_Curve___init__⟩)
    (v_Curve___init__ : vs_Curve___init__[2]? = some (.str file_Curve___init__ tf_Curve___init__))
    (fl_Curve___init__ : ((P.main.file : Str) == file_Curve___init__) = true)
    (n_Curve_on_expiry : PySem.W.findIn K (.ref c_Curve) "on_expiry" = some (some (.ref f_Curve_on_expiry)))
    (i_Curve_on_expiry : PySem.W.isFn K (.ref f_Curve_on_expiry) = true)
    (l_Curve_on_expiry : K.lookup f_Curve_on_expiry = some ⟨oc_Curve_on_expiry, od_Curve_on_expiry, .func (PySem.W.ksFn "on_expiry" "Curve.on_expiry" (defArgs (inClass (top 18) 5)) (defBody (inClass (top 18) 5)) (defScope (inClass (top 18) 5)) .none kV_Curve_on_expiry doc_Curve_on_expiry pm_Curve_on_expiry an_Curve_on_expiry (.ref cda_Curve_on_expiry) ct_Curve_on_expiry cc_Curve_on_expiry), sl_Curve_on_expiry⟩)
    (c_Curve_on_expiry : PySem.W.codeIn K (.ref cda_Curve_on_expiry) "Curve.on_expiry" = true)
    (k_Curve_on_expiry : PySem.W.keepIn K (.ref f_Curve_on_expiry) = true)
    (cc_Curve_on_expiry : K.lookup cc_Curve_on_expiry = some ⟨cl_Curve_on_expiry, cld_Curve_on_expiry, .cell (some (.ref c_Curve)), csl_Curve_on_expiry⟩)
    (cd_Curve_on_expiry : K.lookup cda_Curve_on_expiry = some ⟨ccl_Curve_on_expiry, cdd_Curve_on_expiry, .fields vs_Curve_on_expiry, ccs_Curve_on_expiry⟩)
    (v_Curve_on_expiry : vs_Curve_on_expiry[2]? = some (.str file_Curve_on_expiry tf_Curve_on_expiry))
    (fl_Curve_on_expiry : ((P.main.file : Str) == file_Curve_on_expiry) = true)
    (n_Curve_on_sample : PySem.W.findIn K (.ref c_Curve) "on_sample" = some (some (.ref f_Curve_on_sample)))
    (i_Curve_on_sample : PySem.W.isFn K (.ref f_Curve_on_sample) = true)
    (l_Curve_on_sample : K.lookup f_Curve_on_sample = some ⟨oc_Curve_on_sample, od_Curve_on_sample, .func (PySem.W.ksFn "on_sample" "Curve.on_sample" (defArgs (inClass (top 18) 6)) (defBody (inClass (top 18) 6)) (defScope (inClass (top 18) 6)) .none kV_Curve_on_sample doc_Curve_on_sample pm_Curve_on_sample an_Curve_on_sample (.ref cda_Curve_on_sample) ct_Curve_on_sample cc_Curve_on_sample), sl_Curve_on_sample⟩)
    (c_Curve_on_sample : PySem.W.codeIn K (.ref cda_Curve_on_sample) "Curve.on_sample" = true)
    (k_Curve_on_sample : PySem.W.keepIn K (.ref f_Curve_on_sample) = true)
    (cc_Curve_on_sample : K.lookup cc_Curve_on_sample = some ⟨cl_Curve_on_sample, cld_Curve_on_sample, .cell (some (.ref c_Curve)), csl_Curve_on_sample⟩)
    (cd_Curve_on_sample : K.lookup cda_Curve_on_sample = some ⟨ccl_Curve_on_sample, cdd_Curve_on_sample, .fields vs_Curve_on_sample, ccs_Curve_on_sample⟩)
    (v_Curve_on_sample : vs_Curve_on_sample[2]? = some (.str file_Curve_on_sample tf_Curve_on_sample))
    (fl_Curve_on_sample : ((P.main.file : Str) == file_Curve_on_sample) = true)
    (n_Curve_on_loss : PySem.W.findIn K (.ref c_Curve) "on_loss" = some (some (.ref f_Curve_on_loss)))
    (i_Curve_on_loss : PySem.W.isFn K (.ref f_Curve_on_loss) = true)
    (l_Curve_on_loss : K.lookup f_Curve_on_loss = some ⟨oc_Curve_on_loss, od_Curve_on_loss, .func (PySem.W.fnOf "on_loss" "Curve.on_loss" (defArgs (inClass (top 18) 4)) (defBody (inClass (top 18) 4)) (defScope (inClass (top 18) 4)) .none kV_Curve_on_loss doc_Curve_on_loss pm_Curve_on_loss an_Curve_on_loss cd_Curve_on_loss ct_Curve_on_loss), sl_Curve_on_loss⟩)
    (c_Curve_on_loss : PySem.W.codeIn K cd_Curve_on_loss "Curve.on_loss" = true)
    (k_Curve_on_loss : PySem.W.keepIn K (.ref f_Curve_on_loss) = true)
    (n_Curve_grow : PySem.W.findIn K (.ref c_Curve) "grow" = some (some (.ref f_Curve_grow)))
    (i_Curve_grow : PySem.W.isFn K (.ref f_Curve_grow) = true)
    (l_Curve_grow : K.lookup f_Curve_grow = some ⟨oc_Curve_grow, od_Curve_grow, .func (PySem.W.ksFn "grow" "Curve.grow" (defArgs (inClass (top 18) 3)) (defBody (inClass (top 18) 3)) (defScope (inClass (top 18) 3)) .none kV_Curve_grow doc_Curve_grow pm_Curve_grow an_Curve_grow (.ref cda_Curve_grow) ct_Curve_grow cc_Curve_grow), sl_Curve_grow⟩)
    (c_Curve_grow : PySem.W.codeIn K (.ref cda_Curve_grow) "Curve.grow" = true)
    (k_Curve_grow : PySem.W.keepIn K (.ref f_Curve_grow) = true)
    (cc_Curve_grow : K.lookup cc_Curve_grow = some ⟨cl_Curve_grow, cld_Curve_grow, .cell (some (.ref c_Curve)), csl_Curve_grow⟩)
    (cd_Curve_grow : K.lookup cda_Curve_grow = some ⟨ccl_Curve_grow, cdd_Curve_grow, .fields vs_Curve_grow, ccs_Curve_grow⟩)
    (v_Curve_grow : vs_Curve_grow[2]? = some (.str file_Curve_grow tf_Curve_grow))
    (fl_Curve_grow : ((P.main.file : Str) == file_Curve_grow) = true)
    (n_Curve_on_ack : PySem.W.findIn K (.ref c_Curve) "on_ack" = some (some (.ref f_Curve_on_ack)))
    (i_Curve_on_ack : PySem.W.isFn K (.ref f_Curve_on_ack) = true)
    (l_Curve_on_ack : K.lookup f_Curve_on_ack = some ⟨oc_Curve_on_ack, od_Curve_on_ack, .func (PySem.W.ksFn "on_ack" "Curve.on_ack" (defArgs (inClass (top 18) 2)) (defBody (inClass (top 18) 2)) (defScope (inClass (top 18) 2)) .none kV_Curve_on_ack doc_Curve_on_ack pm_Curve_on_ack an_Curve_on_ack (.ref cda_Curve_on_ack) ct_Curve_on_ack cc_Curve_on_ack), sl_Curve_on_ack⟩)
    (c_Curve_on_ack : PySem.W.codeIn K (.ref cda_Curve_on_ack) "Curve.on_ack" = true)
    (k_Curve_on_ack : PySem.W.keepIn K (.ref f_Curve_on_ack) = true)
    (cc_Curve_on_ack : K.lookup cc_Curve_on_ack = some ⟨cl_Curve_on_ack, cld_Curve_on_ack, .cell (some (.ref c_Curve)), csl_Curve_on_ack⟩)
    (cd_Curve_on_ack : K.lookup cda_Curve_on_ack = some ⟨ccl_Curve_on_ack, cdd_Curve_on_ack, .fields vs_Curve_on_ack, ccs_Curve_on_ack⟩)
    (v_Curve_on_ack : vs_Curve_on_ack[2]? = some (.str file_Curve_on_ack tf_Curve_on_ack))
    (fl_Curve_on_ack : ((P.main.file : Str) == file_Curve_on_ack) = true)
    (n_Delay___init__ : PySem.W.findIn K (.ref c_Delay) "__init__" = some (some (.ref f_Delay___init__)))
    (i_Delay___init__ : PySem.W.isFn K (.ref f_Delay___init__) = true)
    (l_Delay___init__ : K.lookup f_Delay___init__ = some ⟨oc_Delay___init__, od_Delay___init__, .func (PySem.W.ksFn "__init__" "Delay.__init__" (defArgs (inClass (top 19) 1)) (defBody (inClass (top 19) 1)) (defScope (inClass (top 19) 1)) .none kV_Delay___init__ doc_Delay___init__ pm_Delay___init__ an_Delay___init__ (.ref cda_Delay___init__) ct_Delay___init__ cc_Delay___init__), sl_Delay___init__⟩)
    (c_Delay___init__ : PySem.W.codeIn K (.ref cda_Delay___init__) "Delay.__init__" = true)
    (k_Delay___init__ : PySem.W.keepIn K (.ref f_Delay___init__) = true)
    (cc_Delay___init__ : K.lookup cc_Delay___init__ = some ⟨cl_Delay___init__, cld_Delay___init__, .cell (some (.ref c_Delay)), csl_Delay___init__⟩)
    (cd_Delay___init__ : K.lookup cda_Delay___init__ = some ⟨ccl_Delay___init__, cdd_Delay___init__, .fields vs_Delay___init__, ccs_Delay___init__⟩)
    (v_Delay___init__ : vs_Delay___init__[2]? = some (.str file_Delay___init__ tf_Delay___init__))
    (fl_Delay___init__ : ((P.main.file : Str) == file_Delay___init__) = true)
    (n_Delay_on_expiry : PySem.W.findIn K (.ref c_Delay) "on_expiry" = some (some (.ref f_Delay_on_expiry)))
    (i_Delay_on_expiry : PySem.W.isFn K (.ref f_Delay_on_expiry) = true)
    (l_Delay_on_expiry : K.lookup f_Delay_on_expiry = some ⟨oc_Delay_on_expiry, od_Delay_on_expiry, .func (PySem.W.ksFn "on_expiry" "Delay.on_expiry" (defArgs (inClass (top 19) 6)) (defBody (inClass (top 19) 6)) (defScope (inClass (top 19) 6)) .none kV_Delay_on_expiry doc_Delay_on_expiry pm_Delay_on_expiry an_Delay_on_expiry (.ref cda_Delay_on_expiry) ct_Delay_on_expiry cc_Delay_on_expiry), sl_Delay_on_expiry⟩)
    (c_Delay_on_expiry : PySem.W.codeIn K (.ref cda_Delay_on_expiry) "Delay.on_expiry" = true)
    (k_Delay_on_expiry : PySem.W.keepIn K (.ref f_Delay_on_expiry) = true)
    (cc_Delay_on_expiry : K.lookup cc_Delay_on_expiry = some ⟨cl_Delay_on_expiry, cld_Delay_on_expiry, .cell (some (.ref c_Delay)), csl_Delay_on_expiry⟩)
    (cd_Delay_on_expiry : K.lookup cda_Delay_on_expiry = some ⟨ccl_Delay_on_expiry, cdd_Delay_on_expiry, .fields vs_Delay_on_expiry, ccs_Delay_on_expiry⟩)
    (v_Delay_on_expiry : vs_Delay_on_expiry[2]? = some (.str file_Delay_on_expiry tf_Delay_on_expiry))
    (fl_Delay_on_expiry : ((P.main.file : Str) == file_Delay_on_expiry) = true)
    (n_Delay_on_sample : PySem.W.findIn K (.ref c_Delay) "on_sample" = some (some (.ref f_Delay_on_sample)))
    (i_Delay_on_sample : PySem.W.isFn K (.ref f_Delay_on_sample) = true)
    (l_Delay_on_sample : K.lookup f_Delay_on_sample = some ⟨oc_Delay_on_sample, od_Delay_on_sample, .func (PySem.W.fnOf "on_sample" "Delay.on_sample" (defArgs (inClass (top 19) 7)) (defBody (inClass (top 19) 7)) (defScope (inClass (top 19) 7)) .none kV_Delay_on_sample doc_Delay_on_sample pm_Delay_on_sample an_Delay_on_sample cd_Delay_on_sample ct_Delay_on_sample), sl_Delay_on_sample⟩)
    (c_Delay_on_sample : PySem.W.codeIn K cd_Delay_on_sample "Delay.on_sample" = true)
    (k_Delay_on_sample : PySem.W.keepIn K (.ref f_Delay_on_sample) = true)
    (n_Delay_on_loss : PySem.W.findIn K (.ref c_Delay) "on_loss" = some (some (.ref f_Delay_on_loss)))
    (i_Delay_on_loss : PySem.W.isFn K (.ref f_Delay_on_loss) = true)
    (l_Delay_on_loss : K.lookup f_Delay_on_loss = some ⟨oc_Delay_on_loss, od_Delay_on_loss, .func (PySem.W.ksFn "on_loss" "Delay.on_loss" (defArgs (inClass (top 19) 5)) (defBody (inClass (top 19) 5)) (defScope (inClass (top 19) 5)) .none kV_Delay_on_loss doc_Delay_on_loss pm_Delay_on_loss an_Delay_on_loss (.ref cda_Delay_on_loss) ct_Delay_on_loss cc_Delay_on_loss), sl_Delay_on_loss⟩)
    (c_Delay_on_loss : PySem.W.codeIn K (.ref cda_Delay_on_loss) "Delay.on_loss" = true)
    (k_Delay_on_loss : PySem.W.keepIn K (.ref f_Delay_on_loss) = true)
    (cc_Delay_on_loss : K.lookup cc_Delay_on_loss = some ⟨cl_Delay_on_loss, cld_Delay_on_loss, .cell (some (.ref c_Delay)), csl_Delay_on_loss⟩)
    (cd_Delay_on_loss : K.lookup cda_Delay_on_loss = some ⟨ccl_Delay_on_loss, cdd_Delay_on_loss, .fields vs_Delay_on_loss, ccs_Delay_on_loss⟩)
    (v_Delay_on_loss : vs_Delay_on_loss[2]? = some (.str file_Delay_on_loss tf_Delay_on_loss))
    (fl_Delay_on_loss : ((P.main.file : Str) == file_Delay_on_loss) = true)
    (n_Delay_surplus : PySem.W.findIn K (.ref c_Delay) "surplus" = some (some (.ref f_Delay_surplus)))
    (i_Delay_surplus : PySem.W.isFn K (.ref f_Delay_surplus) = true)
    (l_Delay_surplus : K.lookup f_Delay_surplus = some ⟨oc_Delay_surplus, od_Delay_surplus, .func (PySem.W.fnOf "surplus" "Delay.surplus" (defArgs (inClass (top 19) 2)) (defBody (inClass (top 19) 2)) (defScope (inClass (top 19) 2)) .none kV_Delay_surplus doc_Delay_surplus pm_Delay_surplus an_Delay_surplus cd_Delay_surplus ct_Delay_surplus), sl_Delay_surplus⟩)
    (c_Delay_surplus : PySem.W.codeIn K cd_Delay_surplus "Delay.surplus" = true)
    (k_Delay_surplus : PySem.W.keepIn K (.ref f_Delay_surplus) = true)
    (n_Delay_grow : PySem.W.findIn K (.ref c_Delay) "grow" = some (some (.ref f_Delay_grow)))
    (i_Delay_grow : PySem.W.isFn K (.ref f_Delay_grow) = true)
    (l_Delay_grow : K.lookup f_Delay_grow = some ⟨oc_Delay_grow, od_Delay_grow, .func (PySem.W.fnOf "grow" "Delay.grow" (defArgs (inClass (top 19) 4)) (defBody (inClass (top 19) 4)) (defScope (inClass (top 19) 4)) .none kV_Delay_grow doc_Delay_grow pm_Delay_grow an_Delay_grow cd_Delay_grow ct_Delay_grow), sl_Delay_grow⟩)
    (c_Delay_grow : PySem.W.codeIn K cd_Delay_grow "Delay.grow" = true)
    (k_Delay_grow : PySem.W.keepIn K (.ref f_Delay_grow) = true)
    (n_Delay_on_ack : PySem.W.findIn K (.ref c_Delay) "on_ack" = some (some (.ref f_Delay_on_ack)))
    (i_Delay_on_ack : PySem.W.isFn K (.ref f_Delay_on_ack) = true)
    (l_Delay_on_ack : K.lookup f_Delay_on_ack = some ⟨oc_Delay_on_ack, od_Delay_on_ack, .func (PySem.W.ksFn "on_ack" "Delay.on_ack" (defArgs (inClass (top 19) 3)) (defBody (inClass (top 19) 3)) (defScope (inClass (top 19) 3)) .none kV_Delay_on_ack doc_Delay_on_ack pm_Delay_on_ack an_Delay_on_ack (.ref cda_Delay_on_ack) ct_Delay_on_ack cc_Delay_on_ack), sl_Delay_on_ack⟩)
    (c_Delay_on_ack : PySem.W.codeIn K (.ref cda_Delay_on_ack) "Delay.on_ack" = true)
    (k_Delay_on_ack : PySem.W.keepIn K (.ref f_Delay_on_ack) = true)
    (cc_Delay_on_ack : K.lookup cc_Delay_on_ack = some ⟨cl_Delay_on_ack, cld_Delay_on_ack, .cell (some (.ref c_Delay)), csl_Delay_on_ack⟩)
    (cd_Delay_on_ack : K.lookup cda_Delay_on_ack = some ⟨ccl_Delay_on_ack, cdd_Delay_on_ack, .fields vs_Delay_on_ack, ccs_Delay_on_ack⟩)
    (v_Delay_on_ack : vs_Delay_on_ack[2]? = some (.str file_Delay_on_ack tf_Delay_on_ack))
    (fl_Delay_on_ack : ((P.main.file : Str) == file_Delay_on_ack) = true)
    (opq : PySem.W.nsIn K PySem.cStatics "thirdparty.any" = some none)
    (n_Delay_starting : PySem.W.findIn K (.ref c_Delay) "starting" = some (some (.ref p_Control_starting)))
    (n_Curve_starting : PySem.W.findIn K (.ref c_Curve) "starting" = some (some (.ref p_Control_starting)))
    (n_Climb_starting : PySem.W.findIn K (.ref c_Climb) "starting" = some (some (.ref p_Control_starting)))
    (n_Fixed_starting : PySem.W.findIn K (.ref c_Fixed) "starting" = some (some (.ref p_Control_starting)))
    (sf_su_Fixed_Fixed___init__ : PySem.W.ks_superIn K c_Fixed c_Fixed "__init__" = some (some (.ref f_Control___init__)))
    (ty_Control___init__ : PySem.W.typeIn K (.ref f_Control___init__) = some (.type "function"))
    (fi_Control___init__ : PySem.W.fnIn K f_Control___init__ = true)
    (mr_Fixed_Fixed : PySem.W.mroIn K c_Fixed (.ref c_Fixed) = some true)
    (sf_su_Delay_Climb___init__ : PySem.W.ks_superIn K c_Delay c_Climb "__init__" = some (some (.ref f_Control___init__)))
    (mr_Delay_Climb : PySem.W.mroIn K c_Delay (.ref c_Climb) = some true)
    (sf_su_Curve_Climb___init__ : PySem.W.ks_superIn K c_Curve c_Climb "__init__" = some (some (.ref f_Control___init__)))
    (mr_Curve_Climb : PySem.W.mroIn K c_Curve (.ref c_Climb) = some true)
    (sf_su_Climb_Climb___init__ : PySem.W.ks_superIn K c_Climb c_Climb "__init__" = some (some (.ref f_Control___init__)))
    (mr_Climb_Climb : PySem.W.mroIn K c_Climb (.ref c_Climb) = some true)
    (sf_su_Curve_Curve___init__ : PySem.W.ks_superIn K c_Curve c_Curve "__init__" = some (some (.ref f_Climb___init__)))
    (ty_Climb___init__ : PySem.W.typeIn K (.ref f_Climb___init__) = some (.type "function"))
    (fi_Climb___init__ : PySem.W.fnIn K f_Climb___init__ = true)
    (mr_Curve_Curve : PySem.W.mroIn K c_Curve (.ref c_Curve) = some true)
    (sf_su_Delay_Delay___init__ : PySem.W.ks_superIn K c_Delay c_Delay "__init__" = some (some (.ref f_Climb___init__)))
    (mr_Delay_Delay : PySem.W.mroIn K c_Delay (.ref c_Delay) = some true)
    (sf_su_Delay_Climb_on_expiry : PySem.W.ks_superIn K c_Delay c_Climb "on_expiry" = some (some (.ref f_Control_on_expiry)))
    (ty_Control_on_expiry : PySem.W.typeIn K (.ref f_Control_on_expiry) = some (.type "function"))
    (fi_Control_on_expiry : PySem.W.fnIn K f_Control_on_expiry = true)
    (sf_su_Curve_Climb_on_expiry : PySem.W.ks_superIn K c_Curve c_Climb "on_expiry" = some (some (.ref f_Control_on_expiry)))
    (sf_su_Climb_Climb_on_expiry : PySem.W.ks_superIn K c_Climb c_Climb "on_expiry" = some (some (.ref f_Control_on_expiry)))
    (sf_su_Curve_Curve_on_expiry : PySem.W.ks_superIn K c_Curve c_Curve "on_expiry" = some (some (.ref f_Climb_on_expiry)))
    (ty_Climb_on_expiry : PySem.W.typeIn K (.ref f_Climb_on_expiry) = some (.type "function"))
    (fi_Climb_on_expiry : PySem.W.fnIn K f_Climb_on_expiry = true)
    (sf_su_Delay_Delay_on_expiry : PySem.W.ks_superIn K c_Delay c_Delay "on_expiry" = some (some (.ref f_Climb_on_expiry)))
    (sf_su_Curve_Climb_on_sample : PySem.W.ks_superIn K c_Curve c_Climb "on_sample" = some (some (.ref f_Control_on_sample)))
    (ty_Control_on_sample : PySem.W.typeIn K (.ref f_Control_on_sample) = some (.type "function"))
    (fi_Control_on_sample : PySem.W.fnIn K f_Control_on_sample = true)
    (sf_su_Climb_Climb_on_sample : PySem.W.ks_superIn K c_Climb c_Climb "on_sample" = some (some (.ref f_Control_on_sample)))
    (sf_su_Curve_Curve_on_sample : PySem.W.ks_superIn K c_Curve c_Curve "on_sample" = some (some (.ref f_Climb_on_sample)))
    (ty_Climb_on_sample : PySem.W.typeIn K (.ref f_Climb_on_sample) = some (.type "function"))
    (fi_Climb_on_sample : PySem.W.fnIn K f_Climb_on_sample = true)
    (sf_su_Delay_Climb_on_loss : PySem.W.ks_superIn K c_Delay c_Climb "on_loss" = some (some (.ref f_Control_on_loss)))
    (ty_Control_on_loss : PySem.W.typeIn K (.ref f_Control_on_loss) = some (.type "function"))
    (fi_Control_on_loss : PySem.W.fnIn K f_Control_on_loss = true)
    (sf_su_Climb_Climb_on_loss : PySem.W.ks_superIn K c_Climb c_Climb "on_loss" = some (some (.ref f_Control_on_loss)))
    (sf_su_Delay_Delay_on_loss : PySem.W.ks_superIn K c_Delay c_Delay "on_loss" = some (some (.ref f_Climb_on_loss)))
    (ty_Climb_on_loss : PySem.W.typeIn K (.ref f_Climb_on_loss) = some (.type "function"))
    (fi_Climb_on_loss : PySem.W.fnIn K f_Climb_on_loss = true)
    (sf_su_Curve_Curve_grow : PySem.W.ks_superIn K c_Curve c_Curve "grow" = some (some (.ref f_Climb_grow)))
    (ty_Climb_grow : PySem.W.typeIn K (.ref f_Climb_grow) = some (.type "function"))
    (fi_Climb_grow : PySem.W.fnIn K f_Climb_grow = true)
    (sf_su_Delay_Climb_on_ack : PySem.W.ks_superIn K c_Delay c_Climb "on_ack" = some (some (.ref f_Control_on_ack)))
    (ty_Control_on_ack : PySem.W.typeIn K (.ref f_Control_on_ack) = some (.type "function"))
    (fi_Control_on_ack : PySem.W.fnIn K f_Control_on_ack = true)
    (sf_su_Curve_Climb_on_ack : PySem.W.ks_superIn K c_Curve c_Climb "on_ack" = some (some (.ref f_Control_on_ack)))
    (sf_su_Climb_Climb_on_ack : PySem.W.ks_superIn K c_Climb c_Climb "on_ack" = some (some (.ref f_Control_on_ack)))
    (sf_su_Curve_Curve_on_ack : PySem.W.ks_superIn K c_Curve c_Curve "on_ack" = some (some (.ref f_Climb_on_ack)))
    (ty_Climb_on_ack : PySem.W.typeIn K (.ref f_Climb_on_ack) = some (.type "function"))
    (fi_Climb_on_ack : PySem.W.fnIn K f_Climb_on_ack = true)
    (sf_su_Delay_Delay_on_ack : PySem.W.ks_superIn K c_Delay c_Delay "on_ack" = some (some (.ref f_Climb_on_ack)))
    (r : ∀ (c_Control : Addr) (c_Fixed : Addr) (c_Climb : Addr) (c_Curve : Addr) (c_Delay : Addr) (mc_Control : Value) (mc_Fixed : Value) (mc_Climb : Value) (mc_Curve : Value) (mc_Delay : Value) (f_Control_starting : Addr) (d_Control_starting : FuncData) (f_Control___init__ : Addr) (d_Control___init__ : FuncData) (f_Control_on_expiry : Addr) (d_Control_on_expiry : FuncData) (f_Control_on_sample : Addr) (d_Control_on_sample : FuncData) (f_Control_on_loss : Addr) (d_Control_on_loss : FuncData) (f_Control_grow : Addr) (d_Control_grow : FuncData) (f_Control_on_ack : Addr) (d_Control_on_ack : FuncData) (f_Fixed___init__ : Addr) (d_Fixed___init__ : FuncData) (f_Fixed_on_expiry : Addr) (d_Fixed_on_expiry : FuncData) (f_Fixed_on_sample : Addr) (d_Fixed_on_sample : FuncData) (f_Fixed_on_loss : Addr) (d_Fixed_on_loss : FuncData) (f_Fixed_grow : Addr) (d_Fixed_grow : FuncData) (f_Fixed_on_ack : Addr) (d_Fixed_on_ack : FuncData) (f_Climb___init__ : Addr) (d_Climb___init__ : FuncData) (f_Climb_on_expiry : Addr) (d_Climb_on_expiry : FuncData) (f_Climb_on_sample : Addr) (d_Climb_on_sample : FuncData) (f_Climb_on_loss : Addr) (d_Climb_on_loss : FuncData) (f_Climb_grow : Addr) (d_Climb_grow : FuncData) (f_Climb_on_ack : Addr) (d_Climb_on_ack : FuncData) (f_Curve___init__ : Addr) (d_Curve___init__ : FuncData) (f_Curve_on_expiry : Addr) (d_Curve_on_expiry : FuncData) (f_Curve_on_sample : Addr) (d_Curve_on_sample : FuncData) (f_Curve_on_loss : Addr) (d_Curve_on_loss : FuncData) (f_Curve_grow : Addr) (d_Curve_grow : FuncData) (f_Curve_on_ack : Addr) (d_Curve_on_ack : FuncData) (f_Delay___init__ : Addr) (d_Delay___init__ : FuncData) (f_Delay_on_expiry : Addr) (d_Delay_on_expiry : FuncData) (f_Delay_on_sample : Addr) (d_Delay_on_sample : FuncData) (f_Delay_on_loss : Addr) (d_Delay_on_loss : FuncData) (f_Delay_surplus : Addr) (d_Delay_surplus : FuncData) (f_Delay_grow : Addr) (d_Delay_grow : FuncData) (f_Delay_on_ack : Addr) (d_Delay_on_ack : FuncData), (Fun K "starting" "Control.starting" (inClass (top 12) 3) f_Control_starting d_Control_starting) → (Binds K d_Control_starting ["self"] []) → (Fun K "__init__" "Control.__init__" (inClass (top 12) 2) f_Control___init__ d_Control___init__) → (Binds K d_Control___init__ ["self", "unit"] []) → (Fun K "on_expiry" "Control.on_expiry" (inClass (top 12) 7) f_Control_on_expiry d_Control_on_expiry) → (Binds K d_Control_on_expiry ["self", "flight", "now"] []) → (Fun K "on_sample" "Control.on_sample" (inClass (top 12) 8) f_Control_on_sample d_Control_on_sample) → (Binds K d_Control_on_sample ["self", "ticks"] []) → (Fun K "on_loss" "Control.on_loss" (inClass (top 12) 6) f_Control_on_loss d_Control_on_loss) → (Binds K d_Control_on_loss ["self", "flight", "now"] []) → (Fun K "grow" "Control.grow" (inClass (top 12) 5) f_Control_grow d_Control_grow) → (Binds K d_Control_grow ["self", "count", "now"] []) → (Fun K "on_ack" "Control.on_ack" (inClass (top 12) 4) f_Control_on_ack d_Control_on_ack) → (Binds K d_Control_on_ack ["self", "count", "flight", "now"] []) → (FunS P K "__init__" "Fixed.__init__" (inClass (top 13) 1) f_Fixed___init__ d_Fixed___init__ c_Fixed) → (Binds K d_Fixed___init__ ["self", "unit", "pieces"] []) → (∃ ds, Vals [.int 8] ds ∧ Binds K d_Fixed___init__ ["self", "unit", "pieces"] ds) → (BindsK K d_Fixed___init__ ["self", "unit", "pieces"] 2 ["pieces"]) → (Fun K "on_expiry" "Fixed.on_expiry" (inClass (top 13) 5) f_Fixed_on_expiry d_Fixed_on_expiry) → (Binds K d_Fixed_on_expiry ["self", "flight", "now"] []) → (Fun K "on_sample" "Fixed.on_sample" (inClass (top 13) 6) f_Fixed_on_sample d_Fixed_on_sample) → (Binds K d_Fixed_on_sample ["self", "ticks"] []) → (Fun K "on_loss" "Fixed.on_loss" (inClass (top 13) 4) f_Fixed_on_loss d_Fixed_on_loss) → (Binds K d_Fixed_on_loss ["self", "flight", "now"] []) → (Fun K "grow" "Fixed.grow" (inClass (top 13) 3) f_Fixed_grow d_Fixed_grow) → (Binds K d_Fixed_grow ["self", "count", "now"] []) → (Fun K "on_ack" "Fixed.on_ack" (inClass (top 13) 2) f_Fixed_on_ack d_Fixed_on_ack) → (Binds K d_Fixed_on_ack ["self", "count", "flight", "now"] []) → (FunS P K "__init__" "Climb.__init__" (inClass (top 14) 1) f_Climb___init__ d_Climb___init__ c_Climb) → (Binds K d_Climb___init__ ["self", "unit"] []) → (FunS P K "on_expiry" "Climb.on_expiry" (inClass (top 14) 5) f_Climb_on_expiry d_Climb_on_expiry c_Climb) → (Binds K d_Climb_on_expiry ["self", "flight", "now"] []) → (FunS P K "on_sample" "Climb.on_sample" (inClass (top 14) 6) f_Climb_on_sample d_Climb_on_sample c_Climb) → (Binds K d_Climb_on_sample ["self", "ticks"] []) → (FunS P K "on_loss" "Climb.on_loss" (inClass (top 14) 4) f_Climb_on_loss d_Climb_on_loss c_Climb) → (Binds K d_Climb_on_loss ["self", "flight", "now"] []) → (Fun K "grow" "Climb.grow" (inClass (top 14) 3) f_Climb_grow d_Climb_grow) → (Binds K d_Climb_grow ["self", "count", "now"] []) → (FunS P K "on_ack" "Climb.on_ack" (inClass (top 14) 2) f_Climb_on_ack d_Climb_on_ack c_Climb) → (Binds K d_Climb_on_ack ["self", "count", "flight", "now"] []) → (FunS P K "__init__" "Curve.__init__" (inClass (top 18) 1) f_Curve___init__ d_Curve___init__ c_Curve) → (Binds K d_Curve___init__ ["self", "unit"] []) → (FunS P K "on_expiry" "Curve.on_expiry" (inClass (top 18) 5) f_Curve_on_expiry d_Curve_on_expiry c_Curve) → (Binds K d_Curve_on_expiry ["self", "flight", "now"] []) → (FunS P K "on_sample" "Curve.on_sample" (inClass (top 18) 6) f_Curve_on_sample d_Curve_on_sample c_Curve) → (Binds K d_Curve_on_sample ["self", "ticks"] []) → (Fun K "on_loss" "Curve.on_loss" (inClass (top 18) 4) f_Curve_on_loss d_Curve_on_loss) → (Binds K d_Curve_on_loss ["self", "flight", "now"] []) → (FunS P K "grow" "Curve.grow" (inClass (top 18) 3) f_Curve_grow d_Curve_grow c_Curve) → (Binds K d_Curve_grow ["self", "count", "now"] []) → (FunS P K "on_ack" "Curve.on_ack" (inClass (top 18) 2) f_Curve_on_ack d_Curve_on_ack c_Curve) → (Binds K d_Curve_on_ack ["self", "count", "flight", "now"] []) → (FunS P K "__init__" "Delay.__init__" (inClass (top 19) 1) f_Delay___init__ d_Delay___init__ c_Delay) → (Binds K d_Delay___init__ ["self", "unit"] []) → (FunS P K "on_expiry" "Delay.on_expiry" (inClass (top 19) 6) f_Delay_on_expiry d_Delay_on_expiry c_Delay) → (Binds K d_Delay_on_expiry ["self", "flight", "now"] []) → (Fun K "on_sample" "Delay.on_sample" (inClass (top 19) 7) f_Delay_on_sample d_Delay_on_sample) → (Binds K d_Delay_on_sample ["self", "ticks"] []) → (FunS P K "on_loss" "Delay.on_loss" (inClass (top 19) 5) f_Delay_on_loss d_Delay_on_loss c_Delay) → (Binds K d_Delay_on_loss ["self", "flight", "now"] []) → (Fun K "surplus" "Delay.surplus" (inClass (top 19) 2) f_Delay_surplus d_Delay_surplus) → (Binds K d_Delay_surplus ["self"] []) → (Fun K "grow" "Delay.grow" (inClass (top 19) 4) f_Delay_grow d_Delay_grow) → (Binds K d_Delay_grow ["self", "count", "now"] []) → (FunS P K "on_ack" "Delay.on_ack" (inClass (top 19) 3) f_Delay_on_ack d_Delay_on_ack c_Delay) → (Binds K d_Delay_on_ack ["self", "count", "flight", "now"] []) → (mg "Control" = some (.ref c_Control)) → (ClX.CRead K c_Control mc_Control) → (∃ t, ClX.CVal K c_Control mc_Control "KIND" (.str "base") (.str "base" t)) → (mg "Fixed" = some (.ref c_Fixed)) → (ClX.CRead K c_Fixed mc_Fixed) → (∃ t, ClX.CVal K c_Fixed mc_Fixed "KIND" (.str "fixed") (.str "fixed" t)) → (mg "Climb" = some (.ref c_Climb)) → (ClX.CRead K c_Climb mc_Climb) → (∃ t, ClX.CVal K c_Climb mc_Climb "KIND" (.str "climb") (.str "climb" t)) → (mg "Curve" = some (.ref c_Curve)) → (ClX.CRead K c_Curve mc_Curve) → (∃ t, ClX.CVal K c_Curve mc_Curve "KIND" (.str "curve") (.str "curve" t)) → (mg "Delay" = some (.ref c_Delay)) → (ClX.CRead K c_Delay mc_Delay) → (∃ t, ClX.CVal K c_Delay mc_Delay "KIND" (.str "delay") (.str "delay" t)) → (∃ t, ClX.CVal K c_Control mc_Control "GREATEST" (.int 4194304) (.int 4194304 t)) → (IsOb K c_Control (c_Delay, true)) → (IsOb K c_Control (c_Curve, true)) → (IsOb K c_Control (c_Climb, true)) → (IsOb K c_Control (c_Fixed, true)) → (IsOb K c_Control (c_Control, true)) → (IsOb K c_Fixed (c_Delay, false)) → (IsOb K c_Fixed (c_Curve, false)) → (IsOb K c_Fixed (c_Climb, false)) → (IsOb K c_Fixed (c_Fixed, true)) → (IsOb K c_Fixed (c_Control, false)) → (IsOb K c_Climb (c_Delay, true)) → (IsOb K c_Climb (c_Curve, true)) → (IsOb K c_Climb (c_Climb, true)) → (IsOb K c_Climb (c_Fixed, false)) → (IsOb K c_Climb (c_Control, false)) → (IsOb K c_Curve (c_Delay, false)) → (IsOb K c_Curve (c_Curve, true)) → (IsOb K c_Curve (c_Climb, false)) → (IsOb K c_Curve (c_Fixed, false)) → (IsOb K c_Curve (c_Control, false)) → (IsOb K c_Delay (c_Delay, true)) → (IsOb K c_Delay (c_Curve, false)) → (IsOb K c_Delay (c_Climb, false)) → (IsOb K c_Delay (c_Fixed, false)) → (IsOb K c_Delay (c_Control, false)) → (ConD K "KIND" (c_Delay, .str "delay")) → (ConD K "KIND" (c_Curve, .str "curve")) → (ConD K "KIND" (c_Climb, .str "climb")) → (ConD K "KIND" (c_Fixed, .str "fixed")) → (ConD K "KIND" (c_Control, .str "base")) → (Cls K c_Delay) → (NoAttr K c_Delay "unit") → (Cls K c_Curve) → (NoAttr K c_Curve "unit") → (Cls K c_Climb) → (NoAttr K c_Climb "unit") → (Cls K c_Fixed) → (NoAttr K c_Fixed "unit") → (Cls K c_Control) → (NoAttr K c_Control "unit") → (NoAttr K c_Delay "window") → (NoAttr K c_Curve "window") → (NoAttr K c_Climb "window") → (NoAttr K c_Fixed "window") → (NoAttr K c_Control "window") → (NoAttr K c_Delay "threshold") → (NoAttr K c_Curve "threshold") → (NoAttr K c_Climb "threshold") → (NoAttr K c_Fixed "threshold") → (NoAttr K c_Control "threshold") → (NoAttr K c_Delay "credit") → (NoAttr K c_Curve "credit") → (NoAttr K c_Climb "credit") → (NoAttr K c_Fixed "credit") → (NoAttr K c_Control "credit") → (NoAttr K c_Delay "stalled") → (NoAttr K c_Curve "stalled") → (NoAttr K c_Climb "stalled") → (NoAttr K c_Fixed "stalled") → (NoAttr K c_Control "stalled") → (∃ p, PropOf K c_Delay "starting" p f_Control_starting) → (∃ p, PropOf K c_Curve "starting" p f_Control_starting) → (∃ p, PropOf K c_Climb "starting" p f_Control_starting) → (∃ p, PropOf K c_Fixed "starting" p f_Control_starting) → (∃ p, PropOf K c_Control "starting" p f_Control_starting) → (NoAttr K c_Delay "peak") → (NoAttr K c_Curve "peak") → (NoAttr K c_Climb "peak") → (NoAttr K c_Fixed "peak") → (NoAttr K c_Control "peak") → (NoAttr K c_Delay "span") → (NoAttr K c_Curve "span") → (NoAttr K c_Climb "span") → (NoAttr K c_Fixed "span") → (NoAttr K c_Control "span") → (NoAttr K c_Delay "born") → (NoAttr K c_Curve "born") → (NoAttr K c_Climb "born") → (NoAttr K c_Fixed "born") → (NoAttr K c_Control "born") → (NoAttr K c_Delay "least") → (NoAttr K c_Curve "least") → (NoAttr K c_Climb "least") → (NoAttr K c_Fixed "least") → (NoAttr K c_Control "least") → (NoAttr K c_Delay "latest") → (NoAttr K c_Curve "latest") → (NoAttr K c_Climb "latest") → (NoAttr K c_Fixed "latest") → (NoAttr K c_Control "latest") → (NoAttr K c_Delay "samples") → (NoAttr K c_Curve "samples") → (NoAttr K c_Climb "samples") → (NoAttr K c_Fixed "samples") → (NoAttr K c_Control "samples") → (Mk K c_Control f_Control___init__) → (SupM K "__init__" c_Fixed f_Control___init__ c_Fixed) → (Mk K c_Fixed f_Fixed___init__) → (SupM K "__init__" c_Climb f_Control___init__ c_Delay) → (SupM K "__init__" c_Climb f_Control___init__ c_Curve) → (SupM K "__init__" c_Climb f_Control___init__ c_Climb) → (Mk K c_Climb f_Climb___init__) → (SupM K "__init__" c_Curve f_Climb___init__ c_Curve) → (Mk K c_Curve f_Curve___init__) → (SupM K "__init__" c_Delay f_Climb___init__ c_Delay) → (Mk K c_Delay f_Delay___init__) → (SupM K "on_expiry" c_Climb f_Control_on_expiry c_Delay) → (SupM K "on_expiry" c_Climb f_Control_on_expiry c_Curve) → (SupM K "on_expiry" c_Climb f_Control_on_expiry c_Climb) → (SupM K "on_expiry" c_Curve f_Climb_on_expiry c_Curve) → (SupM K "on_expiry" c_Delay f_Climb_on_expiry c_Delay) → (Meth K c_Delay "on_expiry" f_Delay_on_expiry) → (Meth K c_Curve "on_expiry" f_Curve_on_expiry) → (Meth K c_Climb "on_expiry" f_Climb_on_expiry) → (Meth K c_Fixed "on_expiry" f_Fixed_on_expiry) → (Meth K c_Control "on_expiry" f_Control_on_expiry) → (SupM K "on_sample" c_Climb f_Control_on_sample c_Curve) → (SupM K "on_sample" c_Climb f_Control_on_sample c_Climb) → (SupM K "on_sample" c_Curve f_Climb_on_sample c_Curve) → (Meth K c_Delay "on_sample" f_Delay_on_sample) → (Meth K c_Curve "on_sample" f_Curve_on_sample) → (Meth K c_Climb "on_sample" f_Climb_on_sample) → (Meth K c_Fixed "on_sample" f_Fixed_on_sample) → (Meth K c_Control "on_sample" f_Control_on_sample) → (SupM K "on_loss" c_Climb f_Control_on_loss c_Delay) → (SupM K "on_loss" c_Climb f_Control_on_loss c_Climb) → (SupM K "on_loss" c_Delay f_Climb_on_loss c_Delay) → (Meth K c_Delay "on_loss" f_Delay_on_loss) → (Meth K c_Curve "on_loss" f_Curve_on_loss) → (Meth K c_Climb "on_loss" f_Climb_on_loss) → (Meth K c_Fixed "on_loss" f_Fixed_on_loss) → (Meth K c_Control "on_loss" f_Control_on_loss) → (SupM K "grow" c_Curve f_Climb_grow c_Curve) → (Meth K c_Delay "surplus" f_Delay_surplus) → (Meth K c_Delay "grow" f_Delay_grow) → (Meth K c_Curve "grow" f_Curve_grow) → (Meth K c_Climb "grow" f_Climb_grow) → (Meth K c_Fixed "grow" f_Fixed_grow) → (Meth K c_Control "grow" f_Control_grow) → (SupM K "on_ack" c_Climb f_Control_on_ack c_Delay) → (SupM K "on_ack" c_Climb f_Control_on_ack c_Curve) → (SupM K "on_ack" c_Climb f_Control_on_ack c_Climb) → (SupM K "on_ack" c_Curve f_Climb_on_ack c_Curve) → (SupM K "on_ack" c_Delay f_Climb_on_ack c_Delay) → (Meth K c_Delay "on_ack" f_Delay_on_ack) → (Meth K c_Curve "on_ack" f_Curve_on_ack) → (Meth K c_Climb "on_ack" f_Climb_on_ack) → (Meth K c_Fixed "on_ack" f_Fixed_on_ack) → (Meth K c_Control "on_ack" f_Control_on_ack) → R) : R :=
  r c_Control c_Fixed c_Climb c_Curve c_Delay mc_Control mc_Fixed mc_Climb mc_Curve mc_Delay f_Control_starting _ f_Control___init__ _ f_Control_on_expiry _ f_Control_on_sample _ f_Control_on_loss _ f_Control_grow _ f_Control_on_ack _ f_Fixed___init__ _ f_Fixed_on_expiry _ f_Fixed_on_sample _ f_Fixed_on_loss _ f_Fixed_grow _ f_Fixed_on_ack _ f_Climb___init__ _ f_Climb_on_expiry _ f_Climb_on_sample _ f_Climb_on_loss _ f_Climb_grow _ f_Climb_on_ack _ f_Curve___init__ _ f_Curve_on_expiry _ f_Curve_on_sample _ f_Curve_on_loss _ f_Curve_grow _ f_Curve_on_ack _ f_Delay___init__ _ f_Delay_on_expiry _ f_Delay_on_sample _ f_Delay_on_loss _ f_Delay_surplus _ f_Delay_grow _ f_Delay_on_ack _ (fun_mk l_Control_starting c_Control_starting k_Control_starting) ((fun_mk (st := inClass (top 12) 3) l_Control_starting c_Control_starting k_Control_starting).binds (ps := ["self"]) (fun _ _ _ _ _ _ us hl => match us, hl with | [_], _ => rfl)) (fun_mk l_Control___init__ c_Control___init__ k_Control___init__) ((fun_mk (st := inClass (top 12) 2) l_Control___init__ c_Control___init__ k_Control___init__).binds (ps := ["self", "unit"]) (fun _ _ _ _ _ _ us hl => match us, hl with | [_, _], _ => rfl)) (fun_mk l_Control_on_expiry c_Control_on_expiry k_Control_on_expiry) ((fun_mk (st := inClass (top 12) 7) l_Control_on_expiry c_Control_on_expiry k_Control_on_expiry).binds (ps := ["self", "flight", "now"]) (fun _ _ _ _ _ _ us hl => match us, hl with | [_, _, _], _ => rfl)) (fun_mk l_Control_on_sample c_Control_on_sample k_Control_on_sample) ((fun_mk (st := inClass (top 12) 8) l_Control_on_sample c_Control_on_sample k_Control_on_sample).binds (ps := ["self", "ticks"]) (fun _ _ _ _ _ _ us hl => match us, hl with | [_, _], _ => rfl)) (fun_mk l_Control_on_loss c_Control_on_loss k_Control_on_loss) ((fun_mk (st := inClass (top 12) 6) l_Control_on_loss c_Control_on_loss k_Control_on_loss).binds (ps := ["self", "flight", "now"]) (fun _ _ _ _ _ _ us hl => match us, hl with | [_, _, _], _ => rfl)) (fun_mk l_Control_grow c_Control_grow k_Control_grow) ((fun_mk (st := inClass (top 12) 5) l_Control_grow c_Control_grow k_Control_grow).binds (ps := ["self", "count", "now"]) (fun _ _ _ _ _ _ us hl => match us, hl with | [_, _, _], _ => rfl)) (fun_mk l_Control_on_ack c_Control_on_ack k_Control_on_ack) ((fun_mk (st := inClass (top 12) 4) l_Control_on_ack c_Control_on_ack k_Control_on_ack).binds (ps := ["self", "count", "flight", "now"]) (fun _ _ _ _ _ _ us hl => match us, hl with | [_, _, _, _], _ => rfl)) (funS_mk l_Fixed___init__ c_Fixed___init__ cc_Fixed___init__ cd_Fixed___init__ v_Fixed___init__ fl_Fixed___init__ hd_Fixed k_Fixed___init__) (binds_dfl (n := 3) dT_Fixed___init__ rfl rfl (fun us hl => match us, hl with | [_, _, _], _ => ⟨_, rfl, rfl⟩)) (⟨[.int 8 dt_Fixed___init___0], .cons ⟨_, rfl⟩ (.nil), binds_dfl (n := 2) dT_Fixed___init__ rfl rfl (fun us hl => match us, hl with | [_, _], _ => ⟨_, rfl, rfl⟩)⟩) (bindsk_dfl (o := ⟨_, _, _, _⟩) dT_Fixed___init__ rfl (fun us ws h1 h2 => match us, ws, h1, h2 with | [_, _], [_], _, _ => ⟨_, rfl, rfl⟩)) (fun_mk l_Fixed_on_expiry c_Fixed_on_expiry k_Fixed_on_expiry) ((fun_mk (st := inClass (top 13) 5) l_Fixed_on_expiry c_Fixed_on_expiry k_Fixed_on_expiry).binds (ps := ["self", "flight", "now"]) (fun _ _ _ _ _ _ us hl => match us, hl with | [_, _, _], _ => rfl)) (fun_mk l_Fixed_on_sample c_Fixed_on_sample k_Fixed_on_sample) ((fun_mk (st := inClass (top 13) 6) l_Fixed_on_sample c_Fixed_on_sample k_Fixed_on_sample).binds (ps := ["self", "ticks"]) (fun _ _ _ _ _ _ us hl => match us, hl with | [_, _], _ => rfl)) (fun_mk l_Fixed_on_loss c_Fixed_on_loss k_Fixed_on_loss) ((fun_mk (st := inClass (top 13) 4) l_Fixed_on_loss c_Fixed_on_loss k_Fixed_on_loss).binds (ps := ["self", "flight", "now"]) (fun _ _ _ _ _ _ us hl => match us, hl with | [_, _, _], _ => rfl)) (fun_mk l_Fixed_grow c_Fixed_grow k_Fixed_grow) ((fun_mk (st := inClass (top 13) 3) l_Fixed_grow c_Fixed_grow k_Fixed_grow).binds (ps := ["self", "count", "now"]) (fun _ _ _ _ _ _ us hl => match us, hl with | [_, _, _], _ => rfl)) (fun_mk l_Fixed_on_ack c_Fixed_on_ack k_Fixed_on_ack) ((fun_mk (st := inClass (top 13) 2) l_Fixed_on_ack c_Fixed_on_ack k_Fixed_on_ack).binds (ps := ["self", "count", "flight", "now"]) (fun _ _ _ _ _ _ us hl => match us, hl with | [_, _, _, _], _ => rfl)) (funS_mk l_Climb___init__ c_Climb___init__ cc_Climb___init__ cd_Climb___init__ v_Climb___init__ fl_Climb___init__ hd_Climb k_Climb___init__) (.all (fun us hl => match us, hl with | [_, _], _ => rfl)) (funS_mk l_Climb_on_expiry c_Climb_on_expiry cc_Climb_on_expiry cd_Climb_on_expiry v_Climb_on_expiry fl_Climb_on_expiry hd_Climb k_Climb_on_expiry) (.all (fun us hl => match us, hl with | [_, _, _], _ => rfl)) (funS_mk l_Climb_on_sample c_Climb_on_sample cc_Climb_on_sample cd_Climb_on_sample v_Climb_on_sample fl_Climb_on_sample hd_Climb k_Climb_on_sample) (.all (fun us hl => match us, hl with | [_, _], _ => rfl)) (funS_mk l_Climb_on_loss c_Climb_on_loss cc_Climb_on_loss cd_Climb_on_loss v_Climb_on_loss fl_Climb_on_loss hd_Climb k_Climb_on_loss) (.all (fun us hl => match us, hl with | [_, _, _], _ => rfl)) (fun_mk l_Climb_grow c_Climb_grow k_Climb_grow) ((fun_mk (st := inClass (top 14) 3) l_Climb_grow c_Climb_grow k_Climb_grow).binds (ps := ["self", "count", "now"]) (fun _ _ _ _ _ _ us hl => match us, hl with | [_, _, _], _ => rfl)) (funS_mk l_Climb_on_ack c_Climb_on_ack cc_Climb_on_ack cd_Climb_on_ack v_Climb_on_ack fl_Climb_on_ack hd_Climb k_Climb_on_ack) (.all (fun us hl => match us, hl with | [_, _, _, _], _ => rfl)) (funS_mk l_Curve___init__ c_Curve___init__ cc_Curve___init__ cd_Curve___init__ v_Curve___init__ fl_Curve___init__ hd_Curve k_Curve___init__) (.all (fun us hl => match us, hl with | [_, _], _ => rfl)) (funS_mk l_Curve_on_expiry c_Curve_on_expiry cc_Curve_on_expiry cd_Curve_on_expiry v_Curve_on_expiry fl_Curve_on_expiry hd_Curve k_Curve_on_expiry) (.all (fun us hl => match us, hl with | [_, _, _], _ => rfl)) (funS_mk l_Curve_on_sample c_Curve_on_sample cc_Curve_on_sample cd_Curve_on_sample v_Curve_on_sample fl_Curve_on_sample hd_Curve k_Curve_on_sample) (.all (fun us hl => match us, hl with | [_, _], _ => rfl)) (fun_mk l_Curve_on_loss c_Curve_on_loss k_Curve_on_loss) ((fun_mk (st := inClass (top 18) 4) l_Curve_on_loss c_Curve_on_loss k_Curve_on_loss).binds (ps := ["self", "flight", "now"]) (fun _ _ _ _ _ _ us hl => match us, hl with | [_, _, _], _ => rfl)) (funS_mk l_Curve_grow c_Curve_grow cc_Curve_grow cd_Curve_grow v_Curve_grow fl_Curve_grow hd_Curve k_Curve_grow) (.all (fun us hl => match us, hl with | [_, _, _], _ => rfl)) (funS_mk l_Curve_on_ack c_Curve_on_ack cc_Curve_on_ack cd_Curve_on_ack v_Curve_on_ack fl_Curve_on_ack hd_Curve k_Curve_on_ack) (.all (fun us hl => match us, hl with | [_, _, _, _], _ => rfl)) (funS_mk l_Delay___init__ c_Delay___init__ cc_Delay___init__ cd_Delay___init__ v_Delay___init__ fl_Delay___init__ hd_Delay k_Delay___init__) (.all (fun us hl => match us, hl with | [_, _], _ => rfl)) (funS_mk l_Delay_on_expiry c_Delay_on_expiry cc_Delay_on_expiry cd_Delay_on_expiry v_Delay_on_expiry fl_Delay_on_expiry hd_Delay k_Delay_on_expiry) (.all (fun us hl => match us, hl with | [_, _, _], _ => rfl)) (fun_mk l_Delay_on_sample c_Delay_on_sample k_Delay_on_sample) ((fun_mk (st := inClass (top 19) 7) l_Delay_on_sample c_Delay_on_sample k_Delay_on_sample).binds (ps := ["self", "ticks"]) (fun _ _ _ _ _ _ us hl => match us, hl with | [_, _], _ => rfl)) (funS_mk l_Delay_on_loss c_Delay_on_loss cc_Delay_on_loss cd_Delay_on_loss v_Delay_on_loss fl_Delay_on_loss hd_Delay k_Delay_on_loss) (.all (fun us hl => match us, hl with | [_, _, _], _ => rfl)) (fun_mk l_Delay_surplus c_Delay_surplus k_Delay_surplus) ((fun_mk (st := inClass (top 19) 2) l_Delay_surplus c_Delay_surplus k_Delay_surplus).binds (ps := ["self"]) (fun _ _ _ _ _ _ us hl => match us, hl with | [_], _ => rfl)) (fun_mk l_Delay_grow c_Delay_grow k_Delay_grow) ((fun_mk (st := inClass (top 19) 4) l_Delay_grow c_Delay_grow k_Delay_grow).binds (ps := ["self", "count", "now"]) (fun _ _ _ _ _ _ us hl => match us, hl with | [_, _, _], _ => rfl)) (funS_mk l_Delay_on_ack c_Delay_on_ack cc_Delay_on_ack cd_Delay_on_ack v_Delay_on_ack fl_Delay_on_ack hd_Delay k_Delay_on_ack) (.all (fun us hl => match us, hl with | [_, _, _, _], _ => rfl)) (PySem.W.mg_of X G n_Control) (⟨rd_Control, ga_Control⟩) (⟨_, cv_Control_KIND, _, rfl⟩) (PySem.W.mg_of X G n_Fixed) (⟨rd_Fixed, ga_Fixed⟩) (⟨_, cv_Fixed_KIND, _, rfl⟩) (PySem.W.mg_of X G n_Climb) (⟨rd_Climb, ga_Climb⟩) (⟨_, cv_Climb_KIND, _, rfl⟩) (PySem.W.mg_of X G n_Curve) (⟨rd_Curve, ga_Curve⟩) (⟨_, cv_Curve_KIND, _, rfl⟩) (PySem.W.mg_of X G n_Delay) (⟨rd_Delay, ga_Delay⟩) (⟨_, cv_Delay_KIND, _, rfl⟩) (⟨_, cv_Control_GREATEST, _, rfl⟩) (⟨⟨pg_Delay, hd_Delay, po_Delay, sa_Delay⟩, ha_Delay, hn, ht, hm_Delay, ki_Delay_Control⟩) (⟨⟨pg_Curve, hd_Curve, po_Curve, sa_Curve⟩, ha_Curve, hn, ht, hm_Curve, ki_Curve_Control⟩) (⟨⟨pg_Climb, hd_Climb, po_Climb, sa_Climb⟩, ha_Climb, hn, ht, hm_Climb, ki_Climb_Control⟩) (⟨⟨pg_Fixed, hd_Fixed, po_Fixed, sa_Fixed⟩, ha_Fixed, hn, ht, hm_Fixed, ki_Fixed_Control⟩) (⟨⟨pg_Control, hd_Control, po_Control, sa_Control⟩, ha_Control, hn, ht, hm_Control, ki_Control_Control⟩) (⟨⟨pg_Delay, hd_Delay, po_Delay, sa_Delay⟩, ha_Delay, hn, ht, hm_Delay, ki_Delay_Fixed⟩) (⟨⟨pg_Curve, hd_Curve, po_Curve, sa_Curve⟩, ha_Curve, hn, ht, hm_Curve, ki_Curve_Fixed⟩) (⟨⟨pg_Climb, hd_Climb, po_Climb, sa_Climb⟩, ha_Climb, hn, ht, hm_Climb, ki_Climb_Fixed⟩) (⟨⟨pg_Fixed, hd_Fixed, po_Fixed, sa_Fixed⟩, ha_Fixed, hn, ht, hm_Fixed, ki_Fixed_Fixed⟩) (⟨⟨pg_Control, hd_Control, po_Control, sa_Control⟩, ha_Control, hn, ht, hm_Control, ki_Control_Fixed⟩) (⟨⟨pg_Delay, hd_Delay, po_Delay, sa_Delay⟩, ha_Delay, hn, ht, hm_Delay, ki_Delay_Climb⟩) (⟨⟨pg_Curve, hd_Curve, po_Curve, sa_Curve⟩, ha_Curve, hn, ht, hm_Curve, ki_Curve_Climb⟩) (⟨⟨pg_Climb, hd_Climb, po_Climb, sa_Climb⟩, ha_Climb, hn, ht, hm_Climb, ki_Climb_Climb⟩) (⟨⟨pg_Fixed, hd_Fixed, po_Fixed, sa_Fixed⟩, ha_Fixed, hn, ht, hm_Fixed, ki_Fixed_Climb⟩) (⟨⟨pg_Control, hd_Control, po_Control, sa_Control⟩, ha_Control, hn, ht, hm_Control, ki_Control_Climb⟩) (⟨⟨pg_Delay, hd_Delay, po_Delay, sa_Delay⟩, ha_Delay, hn, ht, hm_Delay, ki_Delay_Curve⟩) (⟨⟨pg_Curve, hd_Curve, po_Curve, sa_Curve⟩, ha_Curve, hn, ht, hm_Curve, ki_Curve_Curve⟩) (⟨⟨pg_Climb, hd_Climb, po_Climb, sa_Climb⟩, ha_Climb, hn, ht, hm_Climb, ki_Climb_Curve⟩) (⟨⟨pg_Fixed, hd_Fixed, po_Fixed, sa_Fixed⟩, ha_Fixed, hn, ht, hm_Fixed, ki_Fixed_Curve⟩) (⟨⟨pg_Control, hd_Control, po_Control, sa_Control⟩, ha_Control, hn, ht, hm_Control, ki_Control_Curve⟩) (⟨⟨pg_Delay, hd_Delay, po_Delay, sa_Delay⟩, ha_Delay, hn, ht, hm_Delay, ki_Delay_Delay⟩) (⟨⟨pg_Curve, hd_Curve, po_Curve, sa_Curve⟩, ha_Curve, hn, ht, hm_Curve, ki_Curve_Delay⟩) (⟨⟨pg_Climb, hd_Climb, po_Climb, sa_Climb⟩, ha_Climb, hn, ht, hm_Climb, ki_Climb_Delay⟩) (⟨⟨pg_Fixed, hd_Fixed, po_Fixed, sa_Fixed⟩, ha_Fixed, hn, ht, hm_Fixed, ki_Fixed_Delay⟩) (⟨⟨pg_Control, hd_Control, po_Control, sa_Control⟩, ha_Control, hn, ht, hm_Control, ki_Control_Delay⟩) (con_mk ⟨pg_Delay, hd_Delay, po_Delay, sa_Delay⟩ ic_Delay_KIND ⟨_, rfl⟩ ig_Delay_KIND (by decide)) (con_mk ⟨pg_Curve, hd_Curve, po_Curve, sa_Curve⟩ ic_Curve_KIND ⟨_, rfl⟩ ig_Curve_KIND (by decide)) (con_mk ⟨pg_Climb, hd_Climb, po_Climb, sa_Climb⟩ ic_Climb_KIND ⟨_, rfl⟩ ig_Climb_KIND (by decide)) (con_mk ⟨pg_Fixed, hd_Fixed, po_Fixed, sa_Fixed⟩ ic_Fixed_KIND ⟨_, rfl⟩ ig_Fixed_KIND (by decide)) (con_mk ⟨pg_Control, hd_Control, po_Control, sa_Control⟩ ic_Control_KIND ⟨_, rfl⟩ ig_Control_KIND (by decide)) (⟨pg_Delay, hd_Delay, po_Delay, sa_Delay⟩) (na_Delay_unit) (⟨pg_Curve, hd_Curve, po_Curve, sa_Curve⟩) (na_Curve_unit) (⟨pg_Climb, hd_Climb, po_Climb, sa_Climb⟩) (na_Climb_unit) (⟨pg_Fixed, hd_Fixed, po_Fixed, sa_Fixed⟩) (na_Fixed_unit) (⟨pg_Control, hd_Control, po_Control, sa_Control⟩) (na_Control_unit) (na_Delay_window) (na_Curve_window) (na_Climb_window) (na_Fixed_window) (na_Control_window) (na_Delay_threshold) (na_Curve_threshold) (na_Climb_threshold) (na_Fixed_threshold) (na_Control_threshold) (na_Delay_credit) (na_Curve_credit) (na_Climb_credit) (na_Fixed_credit) (na_Control_credit) (na_Delay_stalled) (na_Curve_stalled) (na_Climb_stalled) (na_Fixed_stalled) (na_Control_stalled) (⟨p_Control_starting, n_Delay_starting, g_Control_starting, t_Control_starting, ⟨rest_Control_starting, r_Control_starting⟩⟩) (⟨p_Control_starting, n_Curve_starting, g_Control_starting, t_Control_starting, ⟨rest_Control_starting, r_Control_starting⟩⟩) (⟨p_Control_starting, n_Climb_starting, g_Control_starting, t_Control_starting, ⟨rest_Control_starting, r_Control_starting⟩⟩) (⟨p_Control_starting, n_Fixed_starting, g_Control_starting, t_Control_starting, ⟨rest_Control_starting, r_Control_starting⟩⟩) (⟨p_Control_starting, n_Control_starting, g_Control_starting, t_Control_starting, ⟨rest_Control_starting, r_Control_starting⟩⟩) (na_Delay_peak) (na_Curve_peak) (na_Climb_peak) (na_Fixed_peak) (na_Control_peak) (na_Delay_span) (na_Curve_span) (na_Climb_span) (na_Fixed_span) (na_Control_span) (na_Delay_born) (na_Curve_born) (na_Climb_born) (na_Fixed_born) (na_Control_born) (na_Delay_least) (na_Curve_least) (na_Climb_least) (na_Fixed_least) (na_Control_least) (na_Delay_latest) (na_Curve_latest) (na_Climb_latest) (na_Fixed_latest) (na_Control_latest) (na_Delay_samples) (na_Curve_samples) (na_Climb_samples) (na_Fixed_samples) (na_Control_samples) (⟨mk_Control, n_Control___init__, i_Control___init__, kc_Control⟩) (⟨opq, sf_su_Fixed_Fixed___init__, ty_Control___init__, fi_Control___init__, cls_some hd_Fixed, mr_Fixed_Fixed⟩) (⟨mk_Fixed, n_Fixed___init__, i_Fixed___init__, kc_Fixed⟩) (⟨opq, sf_su_Delay_Climb___init__, ty_Control___init__, fi_Control___init__, cls_some hd_Delay, mr_Delay_Climb⟩) (⟨opq, sf_su_Curve_Climb___init__, ty_Control___init__, fi_Control___init__, cls_some hd_Curve, mr_Curve_Climb⟩) (⟨opq, sf_su_Climb_Climb___init__, ty_Control___init__, fi_Control___init__, cls_some hd_Climb, mr_Climb_Climb⟩) (⟨mk_Climb, n_Climb___init__, i_Climb___init__, kc_Climb⟩) (⟨opq, sf_su_Curve_Curve___init__, ty_Climb___init__, fi_Climb___init__, cls_some hd_Curve, mr_Curve_Curve⟩) (⟨mk_Curve, n_Curve___init__, i_Curve___init__, kc_Curve⟩) (⟨opq, sf_su_Delay_Delay___init__, ty_Climb___init__, fi_Climb___init__, cls_some hd_Delay, mr_Delay_Delay⟩) (⟨mk_Delay, n_Delay___init__, i_Delay___init__, kc_Delay⟩) (⟨opq, sf_su_Delay_Climb_on_expiry, ty_Control_on_expiry, fi_Control_on_expiry, cls_some hd_Delay, mr_Delay_Climb⟩) (⟨opq, sf_su_Curve_Climb_on_expiry, ty_Control_on_expiry, fi_Control_on_expiry, cls_some hd_Curve, mr_Curve_Climb⟩) (⟨opq, sf_su_Climb_Climb_on_expiry, ty_Control_on_expiry, fi_Control_on_expiry, cls_some hd_Climb, mr_Climb_Climb⟩) (⟨opq, sf_su_Curve_Curve_on_expiry, ty_Climb_on_expiry, fi_Climb_on_expiry, cls_some hd_Curve, mr_Curve_Curve⟩) (⟨opq, sf_su_Delay_Delay_on_expiry, ty_Climb_on_expiry, fi_Climb_on_expiry, cls_some hd_Delay, mr_Delay_Delay⟩) (⟨n_Delay_on_expiry, i_Delay_on_expiry, k_Delay_on_expiry⟩) (⟨n_Curve_on_expiry, i_Curve_on_expiry, k_Curve_on_expiry⟩) (⟨n_Climb_on_expiry, i_Climb_on_expiry, k_Climb_on_expiry⟩) (⟨n_Fixed_on_expiry, i_Fixed_on_expiry, k_Fixed_on_expiry⟩) (⟨n_Control_on_expiry, i_Control_on_expiry, k_Control_on_expiry⟩) (⟨opq, sf_su_Curve_Climb_on_sample, ty_Control_on_sample, fi_Control_on_sample, cls_some hd_Curve, mr_Curve_Climb⟩) (⟨opq, sf_su_Climb_Climb_on_sample, ty_Control_on_sample, fi_Control_on_sample, cls_some hd_Climb, mr_Climb_Climb⟩) (⟨opq, sf_su_Curve_Curve_on_sample, ty_Climb_on_sample, fi_Climb_on_sample, cls_some hd_Curve, mr_Curve_Curve⟩) (⟨n_Delay_on_sample, i_Delay_on_sample, k_Delay_on_sample⟩) (⟨n_Curve_on_sample, i_Curve_on_sample, k_Curve_on_sample⟩) (⟨n_Climb_on_sample, i_Climb_on_sample, k_Climb_on_sample⟩) (⟨n_Fixed_on_sample, i_Fixed_on_sample, k_Fixed_on_sample⟩) (⟨n_Control_on_sample, i_Control_on_sample, k_Control_on_sample⟩) (⟨opq, sf_su_Delay_Climb_on_loss, ty_Control_on_loss, fi_Control_on_loss, cls_some hd_Delay, mr_Delay_Climb⟩) (⟨opq, sf_su_Climb_Climb_on_loss, ty_Control_on_loss, fi_Control_on_loss, cls_some hd_Climb, mr_Climb_Climb⟩) (⟨opq, sf_su_Delay_Delay_on_loss, ty_Climb_on_loss, fi_Climb_on_loss, cls_some hd_Delay, mr_Delay_Delay⟩) (⟨n_Delay_on_loss, i_Delay_on_loss, k_Delay_on_loss⟩) (⟨n_Curve_on_loss, i_Curve_on_loss, k_Curve_on_loss⟩) (⟨n_Climb_on_loss, i_Climb_on_loss, k_Climb_on_loss⟩) (⟨n_Fixed_on_loss, i_Fixed_on_loss, k_Fixed_on_loss⟩) (⟨n_Control_on_loss, i_Control_on_loss, k_Control_on_loss⟩) (⟨opq, sf_su_Curve_Curve_grow, ty_Climb_grow, fi_Climb_grow, cls_some hd_Curve, mr_Curve_Curve⟩) (⟨n_Delay_surplus, i_Delay_surplus, k_Delay_surplus⟩) (⟨n_Delay_grow, i_Delay_grow, k_Delay_grow⟩) (⟨n_Curve_grow, i_Curve_grow, k_Curve_grow⟩) (⟨n_Climb_grow, i_Climb_grow, k_Climb_grow⟩) (⟨n_Fixed_grow, i_Fixed_grow, k_Fixed_grow⟩) (⟨n_Control_grow, i_Control_grow, k_Control_grow⟩) (⟨opq, sf_su_Delay_Climb_on_ack, ty_Control_on_ack, fi_Control_on_ack, cls_some hd_Delay, mr_Delay_Climb⟩) (⟨opq, sf_su_Curve_Climb_on_ack, ty_Control_on_ack, fi_Control_on_ack, cls_some hd_Curve, mr_Curve_Climb⟩) (⟨opq, sf_su_Climb_Climb_on_ack, ty_Control_on_ack, fi_Control_on_ack, cls_some hd_Climb, mr_Climb_Climb⟩) (⟨opq, sf_su_Curve_Curve_on_ack, ty_Climb_on_ack, fi_Climb_on_ack, cls_some hd_Curve, mr_Curve_Curve⟩) (⟨opq, sf_su_Delay_Delay_on_ack, ty_Climb_on_ack, fi_Climb_on_ack, cls_some hd_Delay, mr_Delay_Delay⟩) (⟨n_Delay_on_ack, i_Delay_on_ack, k_Delay_on_ack⟩) (⟨n_Curve_on_ack, i_Curve_on_ack, k_Curve_on_ack⟩) (⟨n_Climb_on_ack, i_Climb_on_ack, k_Climb_on_ack⟩) (⟨n_Fixed_on_ack, i_Fixed_on_ack, k_Fixed_on_ack⟩) (⟨n_Control_on_ack, i_Control_on_ack, k_Control_on_ack⟩)
theorem useExc {K : PySem.W.Frag} {h : Heap} {mg : Str → Option Value} {P : Program} {R : Prop} {c_InvalidSetting : Addr} {nm_InvalidSetting q_InvalidSetting : Str} {N_InvalidSetting : Addr} {bs_InvalidSetting bm_InvalidSetting : List Value} {sn_InvalidSetting : List Str} {sub_InvalidSetting : List Value} {ab_InvalidSetting : Bool} {col_InvalidSetting : Option Bool} {dd_InvalidSetting : Option Addr} {m0_InvalidSetting m1_InvalidSetting m2_InvalidSetting m3_InvalidSetting m5_InvalidSetting : Option Value} {c_InvalidNumber : Addr} {nm_InvalidNumber q_InvalidNumber : Str} {N_InvalidNumber : Addr} {bs_InvalidNumber bm_InvalidNumber : List Value} {sn_InvalidNumber : List Str} {sub_InvalidNumber : List Value} {ab_InvalidNumber : Bool} {col_InvalidNumber : Option Bool} {dd_InvalidNumber : Option Addr} {m0_InvalidNumber m1_InvalidNumber m2_InvalidNumber m3_InvalidNumber m5_InvalidNumber : Option Value} {c_LossError : Addr} {f_InvalidSetting_i : Addr} {oc_InvalidSetting_i kV_InvalidSetting_i doc_InvalidSetting_i pm_InvalidSetting_i ct_InvalidSetting_i cl_InvalidSetting_i ccl_InvalidSetting_i : Value} {od_InvalidSetting_i an_InvalidSetting_i cld_InvalidSetting_i cdd_InvalidSetting_i : Option Addr} {sl_InvalidSetting_i csl_InvalidSetting_i ccs_InvalidSetting_i : Array (Option Value)} {cda_InvalidSetting_i cc_InvalidSetting_i : Addr} {vs_InvalidSetting_i : Array Value} {file_InvalidSetting_i : Str} {tf_InvalidSetting_i : Tok} {f_InvalidNumber_i : Addr} {oc_InvalidNumber_i kV_InvalidNumber_i doc_InvalidNumber_i pm_InvalidNumber_i ct_InvalidNumber_i cl_InvalidNumber_i ccl_InvalidNumber_i : Value} {od_InvalidNumber_i an_InvalidNumber_i cld_InvalidNumber_i cdd_InvalidNumber_i : Option Addr} {sl_InvalidNumber_i csl_InvalidNumber_i ccs_InvalidNumber_i : Array (Option Value)} {cda_InvalidNumber_i cc_InvalidNumber_i : Addr} {vs_InvalidNumber_i : Array Value} {file_InvalidNumber_i : Str} {tf_InvalidNumber_i : Tok} (X : K.In h) (G : h.Ns mainGlobals mg)
    (opq : PySem.W.nsIn K PySem.cStatics "thirdparty.any" = some none)
    (hn : PySem.W.specialIn K (.builtin "object.__class__") "__get__" = some (some (.builtin "getset_descriptor.__get__")))
    (ht : PySem.W.takesIn K (.builtin "object.__class__") = some true)
    (n_InvalidSetting : PySem.W.nsIn K mainGlobals "InvalidSetting" = some (some (.ref c_InvalidSetting)))
    (eC_InvalidSetting : PySem.W.subIn K (.ref c_InvalidSetting) (.type "BaseException") = some true)
    (tC_InvalidSetting : PySem.W.typeIn K (.ref c_InvalidSetting) = some (.type "type"))
    (hC_InvalidSetting : PySem.W.hasDictIn K c_InvalidSetting = true)
    (l_InvalidSetting : K.lookup c_InvalidSetting = some (excClassObj nm_InvalidSetting q_InvalidSetting c_InvalidSetting N_InvalidSetting bs_InvalidSetting bm_InvalidSetting true sn_InvalidSetting sub_InvalidSetting ab_InvalidSetting col_InvalidSetting dd_InvalidSetting m0_InvalidSetting m1_InvalidSetting m2_InvalidSetting m3_InvalidSetting m5_InvalidSetting "ValueError.__new__"))
    (hb_InvalidSetting : PySem.HandSPX.refsVE bm_InvalidSetting = true)
    (sa_InvalidSetting : PySem.W.findIn K (.ref c_InvalidSetting) "__setattr__" = some (some (.builtin "object.__setattr__")))
    (kC_InvalidSetting : PySem.W.keepIn K (.ref c_InvalidSetting) = true)
    (ga_InvalidSetting : PySem.W.findIn K (.ref c_InvalidSetting) "__getattribute__" = some (some (.builtin "BaseException.__getattribute__")))
    (gg_InvalidSetting : PySem.W.findIn K (.ref c_InvalidSetting) "__getattr__" = some none)
    (ha_InvalidSetting : PySem.W.findIn K (.ref c_InvalidSetting) "__class__" = some (some (.builtin "object.__class__")))
    (hm_InvalidSetting : PySem.W.mroIn K c_InvalidSetting (.type "object") = some true)
    (vs_InvalidSetting : PySem.W.subIn K (.ref c_InvalidSetting) (.type "ValueError") = some true)
    (i_InvalidSetting : PySem.W.findIn K (.ref c_InvalidSetting) "__init__" = some (some (.ref f_InvalidSetting_i)))
    (n_InvalidNumber : PySem.W.nsIn K mainGlobals "InvalidNumber" = some (some (.ref c_InvalidNumber)))
    (eC_InvalidNumber : PySem.W.subIn K (.ref c_InvalidNumber) (.type "BaseException") = some true)
    (tC_InvalidNumber : PySem.W.typeIn K (.ref c_InvalidNumber) = some (.type "type"))
    (hC_InvalidNumber : PySem.W.hasDictIn K c_InvalidNumber = true)
    (l_InvalidNumber : K.lookup c_InvalidNumber = some (excClassObj nm_InvalidNumber q_InvalidNumber c_InvalidNumber N_InvalidNumber bs_InvalidNumber bm_InvalidNumber true sn_InvalidNumber sub_InvalidNumber ab_InvalidNumber col_InvalidNumber dd_InvalidNumber m0_InvalidNumber m1_InvalidNumber m2_InvalidNumber m3_InvalidNumber m5_InvalidNumber "ValueError.__new__"))
    (hb_InvalidNumber : PySem.HandSPX.refsVE bm_InvalidNumber = true)
    (sa_InvalidNumber : PySem.W.findIn K (.ref c_InvalidNumber) "__setattr__" = some (some (.builtin "object.__setattr__")))
    (kC_InvalidNumber : PySem.W.keepIn K (.ref c_InvalidNumber) = true)
    (ga_InvalidNumber : PySem.W.findIn K (.ref c_InvalidNumber) "__getattribute__" = some (some (.builtin "BaseException.__getattribute__")))
    (gg_InvalidNumber : PySem.W.findIn K (.ref c_InvalidNumber) "__getattr__" = some none)
    (ha_InvalidNumber : PySem.W.findIn K (.ref c_InvalidNumber) "__class__" = some (some (.builtin "object.__class__")))
    (hm_InvalidNumber : PySem.W.mroIn K c_InvalidNumber (.type "object") = some true)
    (vs_InvalidNumber : PySem.W.subIn K (.ref c_InvalidNumber) (.type "ValueError") = some true)
    (i_InvalidNumber : PySem.W.findIn K (.ref c_InvalidNumber) "__init__" = some (some (.ref f_InvalidNumber_i)))
    (n_LossError : PySem.W.nsIn K mainGlobals "LossError" = some (some (.ref c_LossError)))
    (eC_LossError : PySem.W.subIn K (.ref c_LossError) (.type "BaseException") = some true)
    (tC_LossError : PySem.W.typeIn K (.ref c_LossError) = some (.type "type"))
    (hC_LossError : PySem.W.hasDictIn K c_LossError = true)
    (l_InvalidSetting_i : K.lookup f_InvalidSetting_i = some ⟨oc_InvalidSetting_i, od_InvalidSetting_i, .func (PySem.W.ksFn "__init__" "InvalidSetting.__init__" (defArgs (inClass (top 3) 0)) (defBody (inClass (top 3) 0)) (defScope (inClass (top 3) 0)) .none kV_InvalidSetting_i doc_InvalidSetting_i pm_InvalidSetting_i an_InvalidSetting_i (.ref cda_InvalidSetting_i) ct_InvalidSetting_i cc_InvalidSetting_i), sl_InvalidSetting_i⟩)
    (c_InvalidSetting_i : PySem.W.codeIn K (.ref cda_InvalidSetting_i) "InvalidSetting.__init__" = true)
    (k_InvalidSetting_i : PySem.W.keepIn K (.ref f_InvalidSetting_i) = true)
    (t_InvalidSetting_i : PySem.W.typeIn K (.ref f_InvalidSetting_i) = some (.type "function"))
    (cc_InvalidSetting_i : K.lookup cc_InvalidSetting_i = some ⟨cl_InvalidSetting_i, cld_InvalidSetting_i, .cell (some (.ref c_InvalidSetting)), csl_InvalidSetting_i⟩)
    (cd_InvalidSetting_i : K.lookup cda_InvalidSetting_i = some ⟨ccl_InvalidSetting_i, cdd_InvalidSetting_i, .fields vs_InvalidSetting_i, ccs_InvalidSetting_i⟩)
    (v_InvalidSetting_i : vs_InvalidSetting_i[2]? = some (.str file_InvalidSetting_i tf_InvalidSetting_i))
    (fl_InvalidSetting_i : ((P.main.file : Str) == file_InvalidSetting_i) = true)
    (l_InvalidNumber_i : K.lookup f_InvalidNumber_i = some ⟨oc_InvalidNumber_i, od_InvalidNumber_i, .func (PySem.W.ksFn "__init__" "InvalidNumber.__init__" (defArgs (inClass (top 2) 0)) (defBody (inClass (top 2) 0)) (defScope (inClass (top 2) 0)) .none kV_InvalidNumber_i doc_InvalidNumber_i pm_InvalidNumber_i an_InvalidNumber_i (.ref cda_InvalidNumber_i) ct_InvalidNumber_i cc_InvalidNumber_i), sl_InvalidNumber_i⟩)
    (c_InvalidNumber_i : PySem.W.codeIn K (.ref cda_InvalidNumber_i) "InvalidNumber.__init__" = true)
    (k_InvalidNumber_i : PySem.W.keepIn K (.ref f_InvalidNumber_i) = true)
    (t_InvalidNumber_i : PySem.W.typeIn K (.ref f_InvalidNumber_i) = some (.type "function"))
    (cc_InvalidNumber_i : K.lookup cc_InvalidNumber_i = some ⟨cl_InvalidNumber_i, cld_InvalidNumber_i, .cell (some (.ref c_InvalidNumber)), csl_InvalidNumber_i⟩)
    (cd_InvalidNumber_i : K.lookup cda_InvalidNumber_i = some ⟨ccl_InvalidNumber_i, cdd_InvalidNumber_i, .fields vs_InvalidNumber_i, ccs_InvalidNumber_i⟩)
    (v_InvalidNumber_i : vs_InvalidNumber_i[2]? = some (.str file_InvalidNumber_i tf_InvalidNumber_i))
    (fl_InvalidNumber_i : ((P.main.file : Str) == file_InvalidNumber_i) = true)
    (su_InvalidNumber_LossError : PySem.W.subIn K (.ref c_InvalidNumber) (.ref c_LossError) = some true)
    (su_InvalidSetting_LossError : PySem.W.subIn K (.ref c_InvalidSetting) (.ref c_LossError) = some true)
    (ki_InvalidNumber_ValueError : PySem.W.kitOne K (.ref c_InvalidNumber) (.type "ValueError") = some true)
    (ki_InvalidSetting_ValueError : PySem.W.kitOne K (.ref c_InvalidSetting) (.type "ValueError") = some true)
    (ki_InvalidNumber_InvalidNumber : PySem.W.kitOne K (.ref c_InvalidNumber) (.ref c_InvalidNumber) = some true)
    (ki_InvalidSetting_InvalidNumber : PySem.W.kitOne K (.ref c_InvalidSetting) (.ref c_InvalidNumber) = some false)
    (ki_InvalidNumber_InvalidSetting : PySem.W.kitOne K (.ref c_InvalidNumber) (.ref c_InvalidSetting) = some false)
    (ki_InvalidSetting_InvalidSetting : PySem.W.kitOne K (.ref c_InvalidSetting) (.ref c_InvalidSetting) = some true)
    (nf_InvalidSetting_setting : PySem.W.findIn K (.ref c_InvalidSetting) "setting" = some none)
    (su_InvalidSetting_InvalidSetting : PySem.W.subIn K (.ref c_InvalidSetting) (.ref c_InvalidSetting) = some true)
    (ki_InvalidNumber_LossError : PySem.W.kitOne K (.ref c_InvalidNumber) (.ref c_LossError) = some true)
    (ki_InvalidSetting_LossError : PySem.W.kitOne K (.ref c_InvalidSetting) (.ref c_LossError) = some true)
    (nf_InvalidNumber_number : PySem.W.findIn K (.ref c_InvalidNumber) "number" = some none)
    (sf_InvalidSetting_InvalidSetting : PySem.W.ks_superIn K c_InvalidSetting c_InvalidSetting "__init__" = some (some (.builtin "ValueError.__init__")))
    (sm_InvalidSetting_InvalidSetting : PySem.W.mroIn K c_InvalidSetting (.ref c_InvalidSetting) = some true)
    (nf_InvalidSetting_setting : PySem.W.findIn K (.ref c_InvalidSetting) "setting" = some none)
    (sf_InvalidNumber_InvalidNumber : PySem.W.ks_superIn K c_InvalidNumber c_InvalidNumber "__init__" = some (some (.builtin "ValueError.__init__")))
    (sm_InvalidNumber_InvalidNumber : PySem.W.mroIn K c_InvalidNumber (.ref c_InvalidNumber) = some true)
    (nf_InvalidNumber_number : PySem.W.findIn K (.ref c_InvalidNumber) "number" = some none)
    (r : ∀ (c_InvalidSetting : Addr) (c_InvalidNumber : Addr) (c_LossError : Addr) (f_InvalidSetting_i : Addr) (d_InvalidSetting_i : FuncData) (f_InvalidNumber_i : Addr) (d_InvalidNumber_i : FuncData), (OexC K c_InvalidSetting) → (PySem.W.findIn K (.ref c_InvalidSetting) "__init__" = some (some (.ref f_InvalidSetting_i))) → (PySem.W.typeIn K (.ref f_InvalidSetting_i) = some (.type "function")) → (mg "InvalidSetting" = some (.ref c_InvalidSetting)) → (Binds K d_InvalidSetting_i ["self", "setting"] []) → (PySem.W.exmOne K (.ref c_InvalidNumber) (.ref c_LossError) = some true) → (PySem.W.exmOne K (.ref c_InvalidSetting) (.ref c_LossError) = some true) → (IsOk K (.ref c_InvalidNumber) (.ty "ValueError") true) → (IsOk K (.ref c_InvalidSetting) (.ty "ValueError") true) → (IsOk K (.ref c_InvalidNumber) (.ref c_InvalidNumber) true) → (IsOk K (.ref c_InvalidSetting) (.ref c_InvalidNumber) false) → (mg "InvalidNumber" = some (.ref c_InvalidNumber)) → (IsOk K (.ref c_InvalidNumber) (.ref c_InvalidSetting) false) → (IsOk K (.ref c_InvalidSetting) (.ref c_InvalidSetting) true) → (XfOk K c_InvalidSetting "setting") → (mg "LossError" = some (.ref c_LossError)) → (PySem.W.exmOne K (.ref c_InvalidSetting) (.ref c_InvalidSetting) = some true) → (IsOk K (.ref c_InvalidNumber) (.ref c_LossError) true) → (IsOk K (.ref c_InvalidSetting) (.ref c_LossError) true) → (OexC K c_InvalidNumber) → (PySem.W.findIn K (.ref c_InvalidNumber) "__init__" = some (some (.ref f_InvalidNumber_i))) → (PySem.W.typeIn K (.ref f_InvalidNumber_i) = some (.type "function")) → (Binds K d_InvalidNumber_i ["self", "number"] []) → (XfOk K c_InvalidNumber "number") → (FunS P K "__init__" "InvalidSetting.__init__" (inClass (top 3) 0) f_InvalidSetting_i d_InvalidSetting_i c_InvalidSetting) → (SupV K c_InvalidSetting c_InvalidSetting) → (PySem.W.findIn K (.ref c_InvalidSetting) "setting" = some none) → (FunS P K "__init__" "InvalidNumber.__init__" (inClass (top 2) 0) f_InvalidNumber_i d_InvalidNumber_i c_InvalidNumber) → (SupV K c_InvalidNumber c_InvalidNumber) → (PySem.W.findIn K (.ref c_InvalidNumber) "number" = some none) → R) : R :=
  r c_InvalidSetting c_InvalidNumber c_LossError f_InvalidSetting_i _ f_InvalidNumber_i _ (⟨⟨_, _, _, _, _, _, _, _, _, _, _, _, _, _, _, l_InvalidSetting, hb_InvalidSetting⟩, sa_InvalidSetting, eC_InvalidSetting, tC_InvalidSetting, kC_InvalidSetting⟩) (i_InvalidSetting) (t_InvalidSetting_i) (PySem.W.mg_of X G n_InvalidSetting) (.all (fun us hl => match us, hl with | [_, _], _ => rfl)) (PySem.W.exm_ref eC_LossError hC_LossError tC_LossError su_InvalidNumber_LossError) (PySem.W.exm_ref eC_LossError hC_LossError tC_LossError su_InvalidSetting_LossError) (⟨⟨_, _, rfl, ⟨ga_InvalidNumber, gg_InvalidNumber, eC_InvalidNumber, hC_InvalidNumber, ha_InvalidNumber, hn, ht, hm_InvalidNumber⟩, fun _ r => r, ki_InvalidNumber_ValueError⟩⟩) (⟨⟨_, _, rfl, ⟨ga_InvalidSetting, gg_InvalidSetting, eC_InvalidSetting, hC_InvalidSetting, ha_InvalidSetting, hn, ht, hm_InvalidSetting⟩, fun _ r => r, ki_InvalidSetting_ValueError⟩⟩) (⟨⟨_, _, rfl, ⟨ga_InvalidNumber, gg_InvalidNumber, eC_InvalidNumber, hC_InvalidNumber, ha_InvalidNumber, hn, ht, hm_InvalidNumber⟩, fun _ r => r, ki_InvalidNumber_InvalidNumber⟩⟩) (⟨⟨_, _, rfl, ⟨ga_InvalidSetting, gg_InvalidSetting, eC_InvalidSetting, hC_InvalidSetting, ha_InvalidSetting, hn, ht, hm_InvalidSetting⟩, fun _ r => r, ki_InvalidSetting_InvalidNumber⟩⟩) (PySem.W.mg_of X G n_InvalidNumber) (⟨⟨_, _, rfl, ⟨ga_InvalidNumber, gg_InvalidNumber, eC_InvalidNumber, hC_InvalidNumber, ha_InvalidNumber, hn, ht, hm_InvalidNumber⟩, fun _ r => r, ki_InvalidNumber_InvalidSetting⟩⟩) (⟨⟨_, _, rfl, ⟨ga_InvalidSetting, gg_InvalidSetting, eC_InvalidSetting, hC_InvalidSetting, ha_InvalidSetting, hn, ht, hm_InvalidSetting⟩, fun _ r => r, ki_InvalidSetting_InvalidSetting⟩⟩) (⟨⟨ga_InvalidSetting, gg_InvalidSetting, eC_InvalidSetting, hC_InvalidSetting⟩, nf_InvalidSetting_setting⟩) (PySem.W.mg_of X G n_LossError) (PySem.W.exm_ref eC_InvalidSetting hC_InvalidSetting tC_InvalidSetting su_InvalidSetting_InvalidSetting) (⟨⟨_, _, rfl, ⟨ga_InvalidNumber, gg_InvalidNumber, eC_InvalidNumber, hC_InvalidNumber, ha_InvalidNumber, hn, ht, hm_InvalidNumber⟩, fun _ r => r, ki_InvalidNumber_LossError⟩⟩) (⟨⟨_, _, rfl, ⟨ga_InvalidSetting, gg_InvalidSetting, eC_InvalidSetting, hC_InvalidSetting, ha_InvalidSetting, hn, ht, hm_InvalidSetting⟩, fun _ r => r, ki_InvalidSetting_LossError⟩⟩) (⟨⟨_, _, _, _, _, _, _, _, _, _, _, _, _, _, _, l_InvalidNumber, hb_InvalidNumber⟩, sa_InvalidNumber, eC_InvalidNumber, tC_InvalidNumber, kC_InvalidNumber⟩) (i_InvalidNumber) (t_InvalidNumber_i) (.all (fun us hl => match us, hl with | [_, _], _ => rfl)) (⟨⟨ga_InvalidNumber, gg_InvalidNumber, eC_InvalidNumber, hC_InvalidNumber⟩, nf_InvalidNumber_number⟩) (⟨⟨_, _, _, _, _, _, _, _, _, _, _, _, _, _, _, _, _, _, _, _, _, rfl, l_InvalidSetting_i, c_InvalidSetting_i, cc_InvalidSetting_i, cd_InvalidSetting_i, v_InvalidSetting_i, fl_InvalidSetting_i, (by unfold PySem.W.clsIn; rw [l_InvalidSetting] <;> rfl)⟩, k_InvalidSetting_i⟩) (⟨⟨⟨_, _, _, _, _, _, _, _, _, _, _, _, _, _, _, l_InvalidSetting, hb_InvalidSetting⟩, sa_InvalidSetting, eC_InvalidSetting, tC_InvalidSetting, kC_InvalidSetting⟩, opq, sf_InvalidSetting_InvalidSetting, vs_InvalidSetting, sm_InvalidSetting_InvalidSetting⟩) (nf_InvalidSetting_setting) (⟨⟨_, _, _, _, _, _, _, _, _, _, _, _, _, _, _, _, _, _, _, _, _, rfl, l_InvalidNumber_i, c_InvalidNumber_i, cc_InvalidNumber_i, cd_InvalidNumber_i, v_InvalidNumber_i, fl_InvalidNumber_i, (by unfold PySem.W.clsIn; rw [l_InvalidNumber] <;> rfl)⟩, k_InvalidNumber_i⟩) (⟨⟨⟨_, _, _, _, _, _, _, _, _, _, _, _, _, _, _, l_InvalidNumber, hb_InvalidNumber⟩, sa_InvalidNumber, eC_InvalidNumber, tC_InvalidNumber, kC_InvalidNumber⟩, opq, sf_InvalidNumber_InvalidNumber, vs_InvalidNumber, sm_InvalidNumber_InvalidNumber⟩) (nf_InvalidNumber_number)
theorem useStat_KINDS {R : Prop} {K : PySem.W.Frag} {h : Heap} {mg : Str → Option Value} (X : K.In h) (G : h.Ns mainGlobals mg) {g : Addr} {dd : Option Addr} {n : Nat} {sl : Array (Option Value)} {t0 t1 t2 t3 : Tok}
    (n1 : PySem.W.nsIn K mainGlobals "KINDS" = some (some (.ref g))) (l : K.lookup g = some ⟨.type "tuple", dd, .seq #[.str "fixed" t0, .str "climb" t1, .str "curve" t2, .str "delay" t3] n, sl⟩)
    (r : ∀ g : Addr, mg "KINDS" = some (.ref g) → SK K g (.tup [.str "fixed", .str "climb", .str "curve", .str "delay"]) → R) : R := r g (PySem.W.mg_of X G n1) ⟨_, _, _, l, rfl, rfl, by show (4 : Nat) ≤ sizeLine; decide, .cons ⟨_, rfl⟩ (.cons ⟨_, rfl⟩ (.cons ⟨_, rfl⟩ (.cons ⟨_, rfl⟩ (.nil))))⟩
def spLaw (K : PySem.W.Frag) : Sp := fun vs H Q _ => ∃ (a : Addr) (ns : List Int), vs = [.ref a] ∧ SqL K H a (ns.map V.int) ∧ ns.length ≤ 63 ∧ Only H ∧ ∀ H', Q (.bl true) H'
theorem walk {l : PySem.W.OpenLaw} {q : Program} {loose : List Str} {XP : (Str → Option Value) → Heap → Prop} {YP : World → Heap → Prop} {d : DefRec} {K : Params → PySem.W.Frag} (hn : l.most = some 63) (hdf : d.params.defaults = [])
    (hY : ∀ (w : World) (h : Heap), YP w h → (K w.params).In h)
    (F : ∀ (w : World) (mg : Str → Option Value) (fa : Addr) (h : Heap), (K w.params).In h → h.Ns mainGlobals mg → mg d.name = some (.ref fa) →
      ∃ fd : FuncData, (∀ (s : Shared) (u : Value), BindsTo s fd ⟨[u], []⟩ [("_law_script", u)]) ∧ ∀ base : Heap, (K w.params).In base → base.Ns mainGlobals mg → FnOk l.prog w (K w.params) mg base (L2.CX l.prog w) 12 fa fd ["_law_script"] (spLaw (K w.params))) :
    PySem.W.WalkO q loose XP YP l.row.toRowW d [] (fun f vs => PySem.call f vs) :=
  L2.walk_of (n := 63) (k := 12) (x := "_law_script") (CX := fun w => L2.CX l.prog w) (sp := fun w => spLaw (K w.params)) hn (by decide) hdf ⟨rfl, by decide, by decide⟩ hY F (fun _ _ a ns hl hO hS => ⟨a, ns, rfl, hS, hl, hO, fun _ => rfl⟩) fun w H s e s' z => by
    obtain ⟨_, _, _, _, _, _, _, _, _, _, _, _, z⟩ := z
    exact z.elim
end Y.k24
open PySem PySem.W PyProof.Rows
set_option maxRecDepth 100000 in
set_option maxHeartbeats 0 in
theorem PySem.Challenge.cw_lossway_k24_controls_made_holds : PySem.Challenge.rw_lossway_k24_controls_made.Holds := by
  w_on; o_law; k_head; (case hw => w_witness2)
  k_fill
  refine Y.k24.walk (l := PySem.Challenge.rw_lossway_k24_controls_made) rfl rfl (fun w h Y => PySem.W.kIn_of Y) ?F
  case F =>
    intro w mg fa h KX G hmg
    refine' Y.k24.useFn KX G (x := "_law_whole") (st := Y.k24.top 27) (ps := ["_law_value", "_law_wanted"]) ?nwhole ?lwhole ?cwhole ?kwhole (fun _ _ _ _ _ _ us hl => match us, hl with | [_, _], _ => rfl) ?rwhole
    (case nwhole => k_is); (case lwhole => k_is); (case cwhole => k_is); (case kwhole => k_is)
    intro f_whole d_whole m_whole F_whole b_whole
    refine' Y.k24.useFn KX G (x := "_law_names") (st := Y.k24.top 44) (ps := []) ?nnames ?lnames ?cnames ?knames (fun _ _ _ _ _ _ us hl => match us, hl with | [], _ => rfl) ?rnames
    (case nnames => k_is); (case lnames => k_is); (case cnames => k_is); (case knames => k_is)
    intro f_names d_names m_names F_names b_names
    refine' Y.k24.useFn KX G (x := "_law_rounds") (st := Y.k24.top 23) (ps := ["_law_script"]) ?nrounds ?lrounds ?crounds ?krounds (fun _ _ _ _ _ _ us hl => match us, hl with | [_], _ => rfl) ?rrounds
    (case nrounds => k_is); (case lrounds => k_is); (case crounds => k_is); (case krounds => k_is)
    intro f_rounds d_rounds m_rounds F_rounds b_rounds
    refine' Y.k24.useFn KX G (x := "_law_draw") (st := Y.k24.top 25) (ps := ["_law_box_here", "_law_size"]) ?ndraw ?ldraw ?cdraw ?kdraw (fun _ _ _ _ _ _ us hl => match us, hl with | [_, _], _ => rfl) ?rdraw
    (case ndraw => k_is); (case ldraw => k_is); (case cdraw => k_is); (case kdraw => k_is)
    intro f_draw d_draw m_draw F_draw b_draw
    refine' Y.k24.useFn KX G (x := "_law_unit") (st := Y.k24.top 26) (ps := ["_law_box_here"]) ?nunit ?lunit ?cunit ?kunit (fun _ _ _ _ _ _ us hl => match us, hl with | [_], _ => rfl) ?runit
    (case nunit => k_is); (case lunit => k_is); (case cunit => k_is); (case kunit => k_is)
    intro f_unit d_unit m_unit F_unit b_unit
    refine' Y.k24.useFn KX G (x := "_law_word") (st := Y.k24.top 31) (ps := ["_law_which"]) ?nword ?lword ?cword ?kword (fun _ _ _ _ _ _ us hl => match us, hl with | [_], _ => rfl) ?rword
    (case nword => k_is); (case lword => k_is); (case cword => k_is); (case kword => k_is)
    intro f_word d_word m_word F_word b_word
    refine' Y.k24.useFn KX G (x := "_law_classed") (st := Y.k24.top 33) (ps := ["_law_control", "_law_word_here"]) ?nclassed ?lclassed ?cclassed ?kclassed (fun _ _ _ _ _ _ us hl => match us, hl with | [_, _], _ => rfl) ?rclassed
    (case nclassed => k_is); (case lclassed => k_is); (case cclassed => k_is); (case kclassed => k_is)
    intro f_classed d_classed m_classed F_classed b_classed
    refine' Y.k24.useFn KX G (x := "_law_truth") (st := Y.k24.top 28) (ps := ["_law_value", "_law_wanted"]) ?ntruth ?ltruth ?ctruth ?ktruth (fun _ _ _ _ _ _ us hl => match us, hl with | [_, _], _ => rfl) ?rtruth
    (case ntruth => k_is); (case ltruth => k_is); (case ctruth => k_is); (case ktruth => k_is)
    intro f_truth d_truth m_truth F_truth b_truth
    refine' Y.k24.useFn KX G (x := "_law_base") (st := Y.k24.top 29) (ps := ["_law_control", "_law_state"]) ?nbase ?lbase ?cbase ?kbase (fun _ _ _ _ _ _ us hl => match us, hl with | [_, _], _ => rfl) ?rbase
    (case nbase => k_is); (case lbase => k_is); (case cbase => k_is); (case kbase => k_is)
    intro f_base d_base m_base F_base b_base
    refine' Y.k24.useFn KX G (x := "_law_times") (st := Y.k24.top 32) (ps := ["_law_which", "_law_pieces_here"]) ?ntimes ?ltimes ?ctimes ?ktimes (fun _ _ _ _ _ _ us hl => match us, hl with | [_, _], _ => rfl) ?rtimes
    (case ntimes => k_is); (case ltimes => k_is); (case ctimes => k_is); (case ktimes => k_is)
    intro f_times d_times m_times F_times b_times
    refine' Y.k24.useFn KX G (x := "_law_fresh") (st := Y.k24.top 34) (ps := ["_law_control", "_law_which", "_law_unit_here", "_law_pieces_here"]) ?nfresh ?lfresh ?cfresh ?kfresh (fun _ _ _ _ _ _ us hl => match us, hl with | [_, _, _, _], _ => rfl) ?rfresh
    (case nfresh => k_is); (case lfresh => k_is); (case cfresh => k_is); (case kfresh => k_is)
    intro f_fresh d_fresh m_fresh F_fresh b_fresh
    refine' Y.k24.useFn KX G (x := "is_whole") (st := Y.k24.top 5) (ps := ["value"]) ?nis_whole ?lis_whole ?cis_whole ?kis_whole (fun _ _ _ _ _ _ us hl => match us, hl with | [_], _ => rfl) ?ris_whole
    (case nis_whole => k_is); (case lis_whole => k_is); (case cis_whole => k_is); (case kis_whole => k_is)
    intro f_is_whole d_is_whole m_is_whole F_is_whole b_is_whole
    refine' Y.k24.useFn KX G (x := "in_range") (st := Y.k24.top 6) (ps := ["value", "low", "high"]) ?nin_range ?lin_range ?cin_range ?kin_range (fun _ _ _ _ _ _ us hl => match us, hl with | [_, _, _], _ => rfl) ?rin_range
    (case nin_range => k_is); (case lin_range => k_is); (case cin_range => k_is); (case kin_range => k_is)
    intro f_in_range d_in_range m_in_range F_in_range b_in_range
    refine' Y.k24.useFn KX G (x := "control_of") (st := Y.k24.top 20) (ps := ["kind", "unit"]) ?ncontrol_of ?lcontrol_of ?ccontrol_of ?kcontrol_of (fun _ _ _ _ _ _ us hl => match us, hl with | [_, _], _ => rfl) ?rcontrol_of
    (case ncontrol_of => k_is); (case lcontrol_of => k_is); (case ccontrol_of => k_is); (case kcontrol_of => k_is)
    intro f_control_of d_control_of m_control_of F_control_of b_control_of
    refine' Y.k24.useFn KX G (x := "_law_make") (st := Y.k24.top 30) (ps := ["_law_which", "_law_unit_here", "_law_pieces_here"]) ?nmake ?lmake ?cmake ?kmake (fun _ _ _ _ _ _ us hl => match us, hl with | [_, _, _], _ => rfl) ?rmake
    (case nmake => k_is); (case lmake => k_is); (case cmake => k_is); (case kmake => k_is)
    intro f_make d_make m_make F_make b_make
    refine' Y.k24.useFn KX G (x := "curve_span") (st := Y.k24.top 17) (ps := ["unit", "drop_size"]) ?ncurve_span ?lcurve_span ?ccurve_span ?kcurve_span (fun _ _ _ _ _ _ us hl => match us, hl with | [_, _], _ => rfl) ?rcurve_span
    (case ncurve_span => k_is); (case lcurve_span => k_is); (case ccurve_span => k_is); (case kcurve_span => k_is)
    intro f_curve_span d_curve_span m_curve_span F_curve_span b_curve_span
    refine' Y.k24.useFn KX G (x := "_law_apart") (st := Y.k24.top 38) (ps := ["_law_which", "_law_unit_here", "_law_pieces_here", "_law_box_here"]) ?napart ?lapart ?capart ?kapart (fun _ _ _ _ _ _ us hl => match us, hl with | [_, _, _, _], _ => rfl) ?rapart
    (case napart => k_is); (case lapart => k_is); (case capart => k_is); (case kapart => k_is)
    intro f_apart d_apart m_apart F_apart b_apart
    refine' Y.k24.useFn KX G (x := "_law_bad") (st := Y.k24.top 35) (ps := ["_law_box_here", "_law_most"]) ?nbad ?lbad ?cbad ?kbad (fun _ _ _ _ _ _ us hl => match us, hl with | [_, _], _ => rfl) ?rbad
    (case nbad => k_is); (case lbad => k_is); (case cbad => k_is); (case kbad => k_is)
    intro f_bad d_bad m_bad F_bad b_bad
    refine' Y.k24.useFn KX G (x := "_law_refusal") (st := Y.k24.top 36) (ps := ["_law_which", "_law_unit_here", "_law_pieces_here"]) ?nrefusal ?lrefusal ?crefusal ?krefusal (fun _ _ _ _ _ _ us hl => match us, hl with | [_, _, _], _ => rfl) ?rrefusal
    (case nrefusal => k_is); (case lrefusal => k_is); (case crefusal => k_is); (case krefusal => k_is)
    intro f_refusal d_refusal m_refusal F_refusal b_refusal
    refine' Y.k24.useFn KX G (x := "_law_units") (st := Y.k24.top 39) (ps := ["_law_which", "_law_pieces_here", "_law_box_here"]) ?nunits ?lunits ?cunits ?kunits (fun _ _ _ _ _ _ us hl => match us, hl with | [_, _, _], _ => rfl) ?runits
    (case nunits => k_is); (case lunits => k_is); (case cunits => k_is); (case kunits => k_is)
    intro f_units d_units m_units F_units b_units
    refine' Y.k24.useFn KX G (x := "_law_pieces") (st := Y.k24.top 40) (ps := ["_law_unit_here", "_law_pieces_here", "_law_box_here"]) ?npieces ?lpieces ?cpieces ?kpieces (fun _ _ _ _ _ _ us hl => match us, hl with | [_, _, _], _ => rfl) ?rpieces
    (case npieces => k_is); (case lpieces => k_is); (case cpieces => k_is); (case kpieces => k_is)
    intro f_pieces d_pieces m_pieces F_pieces b_pieces
    refine' Y.k24.useFn KX G (x := "_law_stranger") (st := Y.k24.top 37) (ps := ["_law_kind", "_law_unit_here"]) ?nstranger ?lstranger ?cstranger ?kstranger (fun _ _ _ _ _ _ us hl => match us, hl with | [_, _], _ => rfl) ?rstranger
    (case nstranger => k_is); (case lstranger => k_is); (case cstranger => k_is); (case kstranger => k_is)
    intro f_stranger d_stranger m_stranger F_stranger b_stranger
    refine' Y.k24.useFn KX G (x := "_law_kinds") (st := Y.k24.top 41) (ps := ["_law_unit_here", "_law_pieces_here", "_law_box_here"]) ?nkinds ?lkinds ?ckinds ?kkinds (fun _ _ _ _ _ _ us hl => match us, hl with | [_, _, _], _ => rfl) ?rkinds
    (case nkinds => k_is); (case lkinds => k_is); (case ckinds => k_is); (case kkinds => k_is)
    intro f_kinds d_kinds m_kinds F_kinds b_kinds
    refine' Y.k24.useFn KX G (x := "check_count") (st := Y.k24.top 11) (ps := ["count"]) ?ncheck_count ?lcheck_count ?ccheck_count ?kcheck_count (fun _ _ _ _ _ _ us hl => match us, hl with | [_], _ => rfl) ?rcheck_count
    (case ncheck_count => k_is); (case lcheck_count => k_is); (case ccheck_count => k_is); (case kcheck_count => k_is)
    intro f_check_count d_check_count m_check_count F_check_count b_check_count
    refine' Y.k24.useFn KX G (x := "_law_refused") (st := Y.k24.top 42) (ps := ["_law_control", "_law_bad_here", "_law_grows", "_law_now"]) ?nrefused ?lrefused ?crefused ?krefused (fun _ _ _ _ _ _ us hl => match us, hl with | [_, _, _, _], _ => rfl) ?rrefused
    (case nrefused => k_is); (case lrefused => k_is); (case crefused => k_is); (case krefused => k_is)
    intro f_refused d_refused m_refused F_refused b_refused
    refine' Y.k24.useFn KX G (x := "_law_counts") (st := Y.k24.top 43) (ps := ["_law_which", "_law_unit_here", "_law_pieces_here", "_law_box_here"]) ?ncounts ?lcounts ?ccounts ?kcounts (fun _ _ _ _ _ _ us hl => match us, hl with | [_, _, _, _], _ => rfl) ?rcounts
    (case ncounts => k_is); (case lcounts => k_is); (case ccounts => k_is); (case kcounts => k_is)
    intro f_counts d_counts m_counts F_counts b_counts
    refine' Y.k24.useFn KX G (x := "_law_question") (st := Y.k24.top 45) (ps := ["_law_box_here"]) ?nquestion ?lquestion ?cquestion ?kquestion (fun _ _ _ _ _ _ us hl => match us, hl with | [_], _ => rfl) ?rquestion
    (case nquestion => k_is); (case lquestion => k_is); (case cquestion => k_is); (case kquestion => k_is)
    intro f_question d_question m_question F_question b_question
    refine' Y.k24.useFn KX G (x := "_law_box") (st := Y.k24.top 24) (ps := ["_law_cell_here"]) ?nbox ?lbox ?cbox ?kbox (fun _ _ _ _ _ _ us hl => match us, hl with | [_], _ => rfl) ?rbox
    (case nbox => k_is); (case lbox => k_is); (case cbox => k_is); (case kbox => k_is)
    intro f_box d_box m_box F_box b_box
    refine' Y.k24.useFn KX G (x := "_law_cell") (st := Y.k24.top 22) (ps := ["_law_script", "_law_k"]) ?ncell ?lcell ?ccell ?kcell (fun _ _ _ _ _ _ us hl => match us, hl with | [_, _], _ => rfl) ?rcell
    (case ncell => k_is); (case lcell => k_is); (case ccell => k_is); (case kcell => k_is)
    intro f_cell d_cell m_cell F_cell b_cell
    refine' Y.k24.useFn KX G (x := "law") (st := Y.k24.top 46) (ps := ["_law_script"]) ?nlaw ?llaw ?claw ?klaw (fun _ _ _ _ _ _ us hl => match us, hl with | [_], _ => rfl) ?rlaw
    (case nlaw => k_is); (case llaw => k_is); (case claw => k_is); (case klaw => k_is)
    intro f_law d_law m_law F_law b_law
    refine' Y.k24.useC_Control (P := (PySem.Challenge.rw_lossway_k24_controls_made).prog) KX G (mc_Control := .type "type") rfl (mc_Fixed := .type "type") rfl (mc_Climb := .type "type") rfl (mc_Curve := .type "type") rfl (mc_Delay := .type "type") rfl ?qControl0 ?qControl1 ?qControl2 ?qControl3 ?qControl4 ?qControl5 ?qControl6 ?qControl7 ?qControl8 ?qControl9 ?qControl10 ?qControl11 ?qControl12 ?qControl13 ?qControl14 ?qControl15 ?qControl16 ?qControl17 ?qControl18 ?qControl19 ?qControl20 ?qControl21 ?qControl22 ?qControl23 ?qControl24 ?qControl25 ?qControl26 ?qControl27 ?qControl28 ?qControl29 ?qControl30 ?qControl31 ?qControl32 ?qControl33 ?qControl34 ?qControl35 ?qControl36 ?qControl37 ?qControl38 ?qControl39 ?qControl40 ?qControl41 ?qControl42 ?qControl43 ?qControl44 ?qControl45 ?qControl46 ?qControl47 ?qControl48 ?qControl49 ?qControl50 ?qControl51 ?qControl52 ?qControl53 ?qControl54 ?qControl55 ?qControl56 ?qControl57 ?qControl58 ?qControl59 ?qControl60 ?qControl61 ?qControl62 ?qControl63 ?qControl64 ?qControl65 ?qControl66 ?qControl67 ?qControl68 ?qControl69 ?qControl70 ?qControl71 ?qControl72 ?qControl73 ?qControl74 ?qControl75 ?qControl76 ?qControl77 ?qControl78 ?qControl79 ?qControl80 ?qControl81 ?qControl82 ?qControl83 ?qControl84 ?qControl85 ?qControl86 ?qControl87 ?qControl88 ?qControl89 ?qControl90 ?qControl91 ?qControl92 ?qControl93 ?qControl94 ?qControl95 ?qControl96 ?qControl97 ?qControl98 ?qControl99 ?qControl100 ?qControl101 ?qControl102 ?qControl103 ?qControl104 ?qControl105 ?qControl106 ?qControl107 ?qControl108 ?qControl109 ?qControl110 ?qControl111 ?qControl112 ?qControl113 ?qControl114 ?qControl115 ?qControl116 ?qControl117 ?qControl118 ?qControl119 ?qControl120 ?qControl121 ?qControl122 ?qControl123 ?qControl124 ?qControl125 ?qControl126 ?qControl127 ?qControl128 ?qControl129 ?qControl130 ?qControl131 ?qControl132 ?qControl133 ?qControl134 ?qControl135 ?qControl136 ?qControl137 ?qControl138 ?qControl139 ?qControl140 ?qControl141 ?qControl142 ?qControl143 ?qControl144 ?qControl145 ?qControl146 ?qControl147 ?qControl148 ?qControl149 ?qControl150 ?qControl151 ?qControl152 ?qControl153 ?qControl154 ?qControl155 ?qControl156 ?qControl157 ?qControl158 ?qControl159 ?qControl160 ?qControl161 ?qControl162 ?qControl163 ?qControl164 ?qControl165 ?qControl166 ?qControl167 ?qControl168 ?qControl169 ?qControl170 ?qControl171 ?qControl172 ?qControl173 ?qControl174 ?qControl175 ?qControl176 ?qControl177 ?qControl178 ?qControl179 ?qControl180 ?qControl181 ?qControl182 ?qControl183 ?qControl184 ?qControl185 ?qControl186 ?qControl187 ?qControl188 ?qControl189 ?qControl190 ?qControl191 ?qControl192 ?qControl193 ?qControl194 ?qControl195 ?qControl196 ?qControl197 ?qControl198 ?qControl199 ?qControl200 ?qControl201 ?qControl202 ?qControl203 ?qControl204 ?qControl205 ?qControl206 ?qControl207 ?qControl208 ?qControl209 ?qControl210 ?qControl211 ?qControl212 ?qControl213 ?qControl214 ?qControl215 ?qControl216 ?qControl217 ?qControl218 ?qControl219 ?qControl220 ?qControl221 ?qControl222 ?qControl223 ?qControl224 ?qControl225 ?qControl226 ?qControl227 ?qControl228 ?qControl229 ?qControl230 ?qControl231 ?qControl232 ?qControl233 ?qControl234 ?qControl235 ?qControl236 ?qControl237 ?qControl238 ?qControl239 ?qControl240 ?qControl241 ?qControl242 ?qControl243 ?qControl244 ?qControl245 ?qControl246 ?qControl247 ?qControl248 ?qControl249 ?qControl250 ?qControl251 ?qControl252 ?qControl253 ?qControl254 ?qControl255 ?qControl256 ?qControl257 ?qControl258 ?qControl259 ?qControl260 ?qControl261 ?qControl262 ?qControl263 ?qControl264 ?qControl265 ?qControl266 ?qControl267 ?qControl268 ?qControl269 ?qControl270 ?qControl271 ?qControl272 ?qControl273 ?qControl274 ?qControl275 ?qControl276 ?qControl277 ?qControl278 ?qControl279 ?qControl280 ?qControl281 ?qControl282 ?qControl283 ?qControl284 ?qControl285 ?qControl286 ?qControl287 ?qControl288 ?qControl289 ?qControl290 ?qControl291 ?qControl292 ?qControl293 ?qControl294 ?qControl295 ?qControl296 ?qControl297 ?qControl298 ?qControl299 ?qControl300 ?qControl301 ?qControl302 ?qControl303 ?qControl304 ?qControl305 ?qControl306 ?qControl307 ?qControl308 ?qControl309 ?qControl310 ?qControl311 ?qControl312 ?qControl313 ?qControl314 ?qControl315 ?qControl316 ?qControl317 ?qControl318 ?qControl319 ?qControl320 ?qControl321 ?qControl322 ?qControl323 ?qControl324 ?qControl325 ?qControl326 ?qControl327 ?qControl328 ?qControl329 ?qControl330 ?qControl331 ?qControl332 ?qControl333 ?qControl334 ?qControl335 ?qControl336 ?qControl337 ?qControl338 ?qControl339 ?qControl340 ?qControl341 ?qControl342 ?qControl343 ?qControl344 ?qControl345 ?qControl346 ?qControl347 ?qControl348 ?qControl349 ?qControl350 ?qControl351 ?qControl352 ?qControl353 ?qControl354 ?qControl355 ?qControl356 ?qControl357 ?qControl358 ?qControl359 ?qControl360 ?qControl361 ?qControl362 ?qControl363 ?qControl364 ?qControl365 ?qControl366 ?qControl367 ?qControl368 ?qControl369 ?qControl370 ?qControl371 ?qControl372 ?qControl373 ?qControl374 ?qControl375 ?qControl376 ?qControl377 ?qControl378 ?qControl379 ?qControl380 ?qControl381 ?qControl382 ?qControl383 ?qControl384 ?qControl385 ?qControl386 ?qControl387 ?qControl388 ?qControl389 ?qControl390 ?qControl391 ?qControl392 ?qControl393 ?qControl394 ?qControl395 ?qControl396 ?qControl397 ?qControl398 ?qControl399 ?qControl400 ?qControl401 ?qControl402 ?qControl403 ?qControl404 ?qControl405 ?qControl406 ?qControl407 ?qControl408 ?qControl409 ?qControl410 ?qControl411 ?qControl412 ?qControl413 ?qControl414 ?qControl415 ?qControl416 ?qControl417 ?qControl418 ?qControl419 ?qControl420 ?qControl421 ?qControl422 ?qControl423 ?qControl424 ?qControl425 ?qControl426 ?qControl427 ?qControl428 ?qControl429 ?qControl430 ?qControl431 ?rControl
    (case qControl0 => k_is); (case qControl1 => k_is); (case qControl2 => k_is); (case qControl3 => k_is); (case qControl4 => k_is); (case qControl5 => k_is); (case qControl6 => k_is); (case qControl7 => k_is); (case qControl8 => k_is); (case qControl9 => k_is); (case qControl10 => k_is); (case qControl11 => k_is); (case qControl12 => k_is); (case qControl13 => k_is); (case qControl14 => k_is); (case qControl15 => k_is); (case qControl16 => k_is); (case qControl17 => k_is); (case qControl18 => k_is); (case qControl19 => first | kit_is | k_is | rfl); (case qControl20 => first | kit_is | k_is | rfl); (case qControl21 => first | kit_is | k_is | rfl); (case qControl22 => first | kit_is | k_is | rfl); (case qControl23 => first | kit_is | k_is | rfl); (case qControl24 => k_is); (case qControl25 => k_is); (case qControl26 => k_is); (case qControl27 => k_is); (case qControl28 => k_is); (case qControl29 => k_is); (case qControl30 => k_is); (case qControl31 => k_is); (case qControl32 => k_is); (case qControl33 => k_is); (case qControl34 => k_is); (case qControl35 => k_is); (case qControl36 => k_is); (case qControl37 => k_is); (case qControl38 => k_is); (case qControl39 => k_is); (case qControl40 => k_is); (case qControl41 => k_is); (case qControl42 => k_is); (case qControl43 => k_is); (case qControl44 => k_is); (case qControl45 => k_is); (case qControl46 => k_is); (case qControl47 => k_is); (case qControl48 => first | kit_is | k_is | rfl); (case qControl49 => first | kit_is | k_is | rfl); (case qControl50 => first | kit_is | k_is | rfl); (case qControl51 => first | kit_is | k_is | rfl); (case qControl52 => first | kit_is | k_is | rfl); (case qControl53 => k_is); (case qControl54 => k_is); (case qControl55 => k_is); (case qControl56 => k_is); (case qControl57 => k_is); (case qControl58 => k_is); (case qControl59 => k_is); (case qControl60 => k_is); (case qControl61 => k_is); (case qControl62 => k_is); (case qControl63 => k_is); (case qControl64 => k_is); (case qControl65 => k_is); (case qControl66 => k_is); (case qControl67 => k_is); (case qControl68 => k_is); (case qControl69 => k_is); (case qControl70 => k_is); (case qControl71 => k_is); (case qControl72 => k_is); (case qControl73 => k_is); (case qControl74 => k_is); (case qControl75 => k_is); (case qControl76 => k_is); (case qControl77 => first | kit_is | k_is | rfl); (case qControl78 => first | kit_is | k_is | rfl); (case qControl79 => first | kit_is | k_is | rfl); (case qControl80 => first | kit_is | k_is | rfl); (case qControl81 => first | kit_is | k_is | rfl); (case qControl82 => k_is); (case qControl83 => k_is); (case qControl84 => k_is); (case qControl85 => k_is); (case qControl86 => k_is); (case qControl87 => k_is); (case qControl88 => k_is); (case qControl89 => k_is); (case qControl90 => k_is); (case qControl91 => k_is); (case qControl92 => k_is); (case qControl93 => k_is); (case qControl94 => k_is); (case qControl95 => k_is); (case qControl96 => k_is); (case qControl97 => k_is); (case qControl98 => k_is); (case qControl99 => k_is); (case qControl100 => k_is); (case qControl101 => k_is); (case qControl102 => k_is); (case qControl103 => k_is); (case qControl104 => k_is); (case qControl105 => k_is); (case qControl106 => first | kit_is | k_is | rfl); (case qControl107 => first | kit_is | k_is | rfl); (case qControl108 => first | kit_is | k_is | rfl); (case qControl109 => first | kit_is | k_is | rfl); (case qControl110 => first | kit_is | k_is | rfl); (case qControl111 => k_is); (case qControl112 => k_is); (case qControl113 => k_is); (case qControl114 => k_is); (case qControl115 => k_is); (case qControl116 => k_is); (case qControl117 => k_is); (case qControl118 => k_is); (case qControl119 => k_is); (case qControl120 => k_is); (case qControl121 => k_is); (case qControl122 => k_is); (case qControl123 => k_is); (case qControl124 => k_is); (case qControl125 => k_is); (case qControl126 => k_is); (case qControl127 => k_is); (case qControl128 => k_is); (case qControl129 => k_is); (case qControl130 => k_is); (case qControl131 => k_is); (case qControl132 => k_is); (case qControl133 => k_is); (case qControl134 => k_is); (case qControl135 => first | kit_is | k_is | rfl); (case qControl136 => first | kit_is | k_is | rfl); (case qControl137 => first | kit_is | k_is | rfl); (case qControl138 => first | kit_is | k_is | rfl); (case qControl139 => first | kit_is | k_is | rfl); (case qControl140 => k_is); (case qControl141 => k_is); (case qControl142 => k_is); (case qControl143 => k_is); (case qControl144 => k_is); (case qControl145 => k_is); (case qControl146 => k_is); (case qControl147 => k_is); (case qControl148 => k_is); (case qControl149 => k_is); (case qControl150 => k_is); (case qControl151 => k_is); (case qControl152 => k_is); (case qControl153 => k_is); (case qControl154 => k_is); (case qControl155 => k_is); (case qControl156 => k_is); (case qControl157 => k_is); (case qControl158 => k_is); (case qControl159 => k_is); (case qControl160 => k_is); (case qControl161 => k_is); (case qControl162 => k_is); (case qControl163 => k_is); (case qControl164 => k_is); (case qControl165 => k_is); (case qControl166 => k_is); (case qControl167 => k_is); (case qControl168 => k_is); (case qControl169 => k_is); (case qControl170 => k_is); (case qControl171 => k_is); (case qControl172 => k_is); (case qControl173 => k_is); (case qControl174 => k_is); (case qControl175 => k_is); (case qControl176 => k_is); (case qControl177 => k_is); (case qControl178 => k_is); (case qControl179 => k_is); (case qControl180 => k_is); (case qControl181 => k_is); (case qControl182 => k_is); (case qControl183 => k_is); (case qControl184 => k_is); (case qControl185 => k_is); (case qControl186 => k_is); (case qControl187 => k_is); (case qControl188 => k_is); (case qControl189 => k_is); (case qControl190 => k_is); (case qControl191 => k_is); (case qControl192 => k_is); (case qControl193 => k_is); (case qControl194 => k_is); (case qControl195 => k_is); (case qControl196 => k_is); (case qControl197 => first | rfl | k_is); (case qControl198 => first | rfl | decide +kernel); (case qControl199 => k_is); (case qControl200 => k_is); (case qControl201 => k_is); (case qControl202 => k_is); (case qControl203 => k_is); (case qControl204 => k_is); (case qControl205 => k_is); (case qControl206 => k_is); (case qControl207 => k_is); (case qControl208 => k_is); (case qControl209 => k_is); (case qControl210 => k_is); (case qControl211 => k_is); (case qControl212 => k_is); (case qControl213 => k_is); (case qControl214 => k_is); (case qControl215 => k_is); (case qControl216 => k_is); (case qControl217 => k_is); (case qControl218 => k_is); (case qControl219 => k_is); (case qControl220 => k_is); (case qControl221 => k_is); (case qControl222 => k_is); (case qControl223 => k_is); (case qControl224 => k_is); (case qControl225 => k_is); (case qControl226 => k_is); (case qControl227 => k_is); (case qControl228 => k_is); (case qControl229 => k_is); (case qControl230 => k_is); (case qControl231 => k_is); (case qControl232 => first | rfl | k_is); (case qControl233 => first | rfl | decide +kernel); (case qControl234 => k_is); (case qControl235 => k_is); (case qControl236 => k_is); (case qControl237 => k_is); (case qControl238 => k_is); (case qControl239 => k_is); (case qControl240 => k_is); (case qControl241 => first | rfl | k_is); (case qControl242 => first | rfl | decide +kernel); (case qControl243 => k_is); (case qControl244 => k_is); (case qControl245 => k_is); (case qControl246 => k_is); (case qControl247 => k_is); (case qControl248 => k_is); (case qControl249 => k_is); (case qControl250 => first | rfl | k_is); (case qControl251 => first | rfl | decide +kernel); (case qControl252 => k_is); (case qControl253 => k_is); (case qControl254 => k_is); (case qControl255 => k_is); (case qControl256 => k_is); (case qControl257 => k_is); (case qControl258 => k_is); (case qControl259 => first | rfl | k_is); (case qControl260 => first | rfl | decide +kernel); (case qControl261 => k_is); (case qControl262 => k_is); (case qControl263 => k_is); (case qControl264 => k_is); (case qControl265 => k_is); (case qControl266 => k_is); (case qControl267 => k_is); (case qControl268 => k_is); (case qControl269 => k_is); (case qControl270 => k_is); (case qControl271 => k_is); (case qControl272 => k_is); (case qControl273 => first | rfl | k_is); (case qControl274 => first | rfl | decide +kernel); (case qControl275 => k_is); (case qControl276 => k_is); (case qControl277 => k_is); (case qControl278 => k_is); (case qControl279 => k_is); (case qControl280 => k_is); (case qControl281 => k_is); (case qControl282 => first | rfl | k_is); (case qControl283 => first | rfl | decide +kernel); (case qControl284 => k_is); (case qControl285 => k_is); (case qControl286 => k_is); (case qControl287 => k_is); (case qControl288 => k_is); (case qControl289 => k_is); (case qControl290 => k_is); (case qControl291 => first | rfl | k_is); (case qControl292 => first | rfl | decide +kernel); (case qControl293 => k_is); (case qControl294 => k_is); (case qControl295 => k_is); (case qControl296 => k_is); (case qControl297 => k_is); (case qControl298 => k_is); (case qControl299 => k_is); (case qControl300 => first | rfl | k_is); (case qControl301 => first | rfl | decide +kernel); (case qControl302 => k_is); (case qControl303 => k_is); (case qControl304 => k_is); (case qControl305 => k_is); (case qControl306 => k_is); (case qControl307 => k_is); (case qControl308 => k_is); (case qControl309 => k_is); (case qControl310 => k_is); (case qControl311 => k_is); (case qControl312 => k_is); (case qControl313 => k_is); (case qControl314 => first | rfl | k_is); (case qControl315 => first | rfl | decide +kernel); (case qControl316 => k_is); (case qControl317 => k_is); (case qControl318 => k_is); (case qControl319 => k_is); (case qControl320 => k_is); (case qControl321 => k_is); (case qControl322 => k_is); (case qControl323 => first | rfl | k_is); (case qControl324 => first | rfl | decide +kernel); (case qControl325 => k_is); (case qControl326 => k_is); (case qControl327 => k_is); (case qControl328 => k_is); (case qControl329 => k_is); (case qControl330 => k_is); (case qControl331 => k_is); (case qControl332 => first | rfl | k_is); (case qControl333 => first | rfl | decide +kernel); (case qControl334 => k_is); (case qControl335 => k_is); (case qControl336 => k_is); (case qControl337 => k_is); (case qControl338 => k_is); (case qControl339 => k_is); (case qControl340 => k_is); (case qControl341 => first | rfl | k_is); (case qControl342 => first | rfl | decide +kernel); (case qControl343 => k_is); (case qControl344 => k_is); (case qControl345 => k_is); (case qControl346 => k_is); (case qControl347 => k_is); (case qControl348 => k_is); (case qControl349 => k_is); (case qControl350 => k_is); (case qControl351 => k_is); (case qControl352 => k_is); (case qControl353 => k_is); (case qControl354 => k_is); (case qControl355 => first | rfl | k_is); (case qControl356 => first | rfl | decide +kernel); (case qControl357 => k_is); (case qControl358 => k_is); (case qControl359 => k_is); (case qControl360 => k_is); (case qControl361 => k_is); (case qControl362 => k_is); (case qControl363 => k_is); (case qControl364 => k_is); (case qControl365 => k_is); (case qControl366 => k_is); (case qControl367 => k_is); (case qControl368 => k_is); (case qControl369 => k_is); (case qControl370 => k_is); (case qControl371 => k_is); (case qControl372 => k_is); (case qControl373 => k_is); (case qControl374 => first | rfl | k_is); (case qControl375 => first | rfl | decide +kernel); (case qControl376 => k_is); (case qControl377 => k_is); (case qControl378 => k_is); (case qControl379 => k_is); (case qControl380 => k_is); (case qControl381 => ks_is); (case qControl382 => k_is); (case qControl383 => k_is); (case qControl384 => k_is); (case qControl385 => ks_is); (case qControl386 => k_is); (case qControl387 => ks_is); (case qControl388 => k_is); (case qControl389 => ks_is); (case qControl390 => k_is); (case qControl391 => ks_is); (case qControl392 => k_is); (case qControl393 => k_is); (case qControl394 => k_is); (case qControl395 => ks_is); (case qControl396 => k_is); (case qControl397 => ks_is); (case qControl398 => k_is); (case qControl399 => k_is); (case qControl400 => ks_is); (case qControl401 => ks_is); (case qControl402 => ks_is); (case qControl403 => k_is); (case qControl404 => k_is); (case qControl405 => ks_is); (case qControl406 => ks_is); (case qControl407 => k_is); (case qControl408 => k_is); (case qControl409 => ks_is); (case qControl410 => ks_is); (case qControl411 => k_is); (case qControl412 => k_is); (case qControl413 => ks_is); (case qControl414 => k_is); (case qControl415 => k_is); (case qControl416 => ks_is); (case qControl417 => ks_is); (case qControl418 => k_is); (case qControl419 => k_is); (case qControl420 => ks_is); (case qControl421 => k_is); (case qControl422 => k_is); (case qControl423 => ks_is); (case qControl424 => k_is); (case qControl425 => k_is); (case qControl426 => ks_is); (case qControl427 => ks_is); (case qControl428 => ks_is); (case qControl429 => k_is); (case qControl430 => k_is); (case qControl431 => ks_is)
    intro c_Control c_Fixed c_Climb c_Curve c_Delay mc_Control mc_Fixed mc_Climb mc_Curve mc_Delay f_Control_starting d_Control_starting f_Control___init__ d_Control___init__ f_Control_on_expiry d_Control_on_expiry f_Control_on_sample d_Control_on_sample f_Control_on_loss d_Control_on_loss f_Control_grow d_Control_grow f_Control_on_ack d_Control_on_ack f_Fixed___init__ d_Fixed___init__ f_Fixed_on_expiry d_Fixed_on_expiry f_Fixed_on_sample d_Fixed_on_sample f_Fixed_on_loss d_Fixed_on_loss f_Fixed_grow d_Fixed_grow f_Fixed_on_ack d_Fixed_on_ack f_Climb___init__ d_Climb___init__ f_Climb_on_expiry d_Climb_on_expiry f_Climb_on_sample d_Climb_on_sample f_Climb_on_loss d_Climb_on_loss f_Climb_grow d_Climb_grow f_Climb_on_ack d_Climb_on_ack f_Curve___init__ d_Curve___init__ f_Curve_on_expiry d_Curve_on_expiry f_Curve_on_sample d_Curve_on_sample f_Curve_on_loss d_Curve_on_loss f_Curve_grow d_Curve_grow f_Curve_on_ack d_Curve_on_ack f_Delay___init__ d_Delay___init__ f_Delay_on_expiry d_Delay_on_expiry f_Delay_on_sample d_Delay_on_sample f_Delay_on_loss d_Delay_on_loss f_Delay_surplus d_Delay_surplus f_Delay_grow d_Delay_grow f_Delay_on_ack d_Delay_on_ack F_Control_starting b_Control_starting F_Control___init__ b_Control___init__ F_Control_on_expiry b_Control_on_expiry F_Control_on_sample b_Control_on_sample F_Control_on_loss b_Control_on_loss F_Control_grow b_Control_grow F_Control_on_ack b_Control_on_ack F_Fixed___init__ b_Fixed___init__ x_bd_Fixed___init___1 x_bk_Fixed___init___pieces F_Fixed_on_expiry b_Fixed_on_expiry F_Fixed_on_sample b_Fixed_on_sample F_Fixed_on_loss b_Fixed_on_loss F_Fixed_grow b_Fixed_grow F_Fixed_on_ack b_Fixed_on_ack F_Climb___init__ b_Climb___init__ F_Climb_on_expiry b_Climb_on_expiry F_Climb_on_sample b_Climb_on_sample F_Climb_on_loss b_Climb_on_loss F_Climb_grow b_Climb_grow F_Climb_on_ack b_Climb_on_ack F_Curve___init__ b_Curve___init__ F_Curve_on_expiry b_Curve_on_expiry F_Curve_on_sample b_Curve_on_sample F_Curve_on_loss b_Curve_on_loss F_Curve_grow b_Curve_grow F_Curve_on_ack b_Curve_on_ack F_Delay___init__ b_Delay___init__ F_Delay_on_expiry b_Delay_on_expiry F_Delay_on_sample b_Delay_on_sample F_Delay_on_loss b_Delay_on_loss F_Delay_surplus b_Delay_surplus F_Delay_grow b_Delay_grow F_Delay_on_ack b_Delay_on_ack x_mg_Control x_cr_Control x_cv_Control_KIND x_mg_Fixed x_cr_Fixed x_cv_Fixed_KIND x_mg_Climb x_cr_Climb x_cv_Climb_KIND x_mg_Curve x_cr_Curve x_cv_Curve_KIND x_mg_Delay x_cr_Delay x_cv_Delay_KIND x_cv_Control_GREATEST x_io_Delay_Control x_io_Curve_Control x_io_Climb_Control x_io_Fixed_Control x_io_Control_Control x_io_Delay_Fixed x_io_Curve_Fixed x_io_Climb_Fixed x_io_Fixed_Fixed x_io_Control_Fixed x_io_Delay_Climb x_io_Curve_Climb x_io_Climb_Climb x_io_Fixed_Climb x_io_Control_Climb x_io_Delay_Curve x_io_Curve_Curve x_io_Climb_Curve x_io_Fixed_Curve x_io_Control_Curve x_io_Delay_Delay x_io_Curve_Delay x_io_Climb_Delay x_io_Fixed_Delay x_io_Control_Delay x_ic_Delay_KIND x_ic_Curve_KIND x_ic_Climb_KIND x_ic_Fixed_KIND x_ic_Control_KIND x_cl_Delay x_na_Delay_unit x_cl_Curve x_na_Curve_unit x_cl_Climb x_na_Climb_unit x_cl_Fixed x_na_Fixed_unit x_cl_Control x_na_Control_unit x_na_Delay_window x_na_Curve_window x_na_Climb_window x_na_Fixed_window x_na_Control_window x_na_Delay_threshold x_na_Curve_threshold x_na_Climb_threshold x_na_Fixed_threshold x_na_Control_threshold x_na_Delay_credit x_na_Curve_credit x_na_Climb_credit x_na_Fixed_credit x_na_Control_credit x_na_Delay_stalled x_na_Curve_stalled x_na_Climb_stalled x_na_Fixed_stalled x_na_Control_stalled x_pd_Delay_starting x_pd_Curve_starting x_pd_Climb_starting x_pd_Fixed_starting x_pd_Control_starting x_na_Delay_peak x_na_Curve_peak x_na_Climb_peak x_na_Fixed_peak x_na_Control_peak x_na_Delay_span x_na_Curve_span x_na_Climb_span x_na_Fixed_span x_na_Control_span x_na_Delay_born x_na_Curve_born x_na_Climb_born x_na_Fixed_born x_na_Control_born x_na_Delay_least x_na_Curve_least x_na_Climb_least x_na_Fixed_least x_na_Control_least x_na_Delay_latest x_na_Curve_latest x_na_Climb_latest x_na_Fixed_latest x_na_Control_latest x_na_Delay_samples x_na_Curve_samples x_na_Climb_samples x_na_Fixed_samples x_na_Control_samples x_mk_Control x_su_Fixed_Fixed___init__ x_mk_Fixed x_su_Delay_Climb___init__ x_su_Curve_Climb___init__ x_su_Climb_Climb___init__ x_mk_Climb x_su_Curve_Curve___init__ x_mk_Curve x_su_Delay_Delay___init__ x_mk_Delay x_su_Delay_Climb_on_expiry x_su_Curve_Climb_on_expiry x_su_Climb_Climb_on_expiry x_su_Curve_Curve_on_expiry x_su_Delay_Delay_on_expiry x_mt_Delay_on_expiry x_mt_Curve_on_expiry x_mt_Climb_on_expiry x_mt_Fixed_on_expiry x_mt_Control_on_expiry x_su_Curve_Climb_on_sample x_su_Climb_Climb_on_sample x_su_Curve_Curve_on_sample x_mt_Delay_on_sample x_mt_Curve_on_sample x_mt_Climb_on_sample x_mt_Fixed_on_sample x_mt_Control_on_sample x_su_Delay_Climb_on_loss x_su_Climb_Climb_on_loss x_su_Delay_Delay_on_loss x_mt_Delay_on_loss x_mt_Curve_on_loss x_mt_Climb_on_loss x_mt_Fixed_on_loss x_mt_Control_on_loss x_su_Curve_Curve_grow x_mt_Delay_surplus x_mt_Delay_grow x_mt_Curve_grow x_mt_Climb_grow x_mt_Fixed_grow x_mt_Control_grow x_su_Delay_Climb_on_ack x_su_Curve_Climb_on_ack x_su_Climb_Climb_on_ack x_su_Curve_Curve_on_ack x_su_Delay_Delay_on_ack x_mt_Delay_on_ack x_mt_Curve_on_ack x_mt_Climb_on_ack x_mt_Fixed_on_ack x_mt_Control_on_ack
    refine' Y.k24.useExc (P := (PySem.Challenge.rw_lossway_k24_controls_made).prog) KX G ?qx0 ?qx1 ?qx2 ?qx3 ?qx4 ?qx5 ?qx6 ?qx7 ?qx8 ?qx9 ?qx10 ?qx11 ?qx12 ?qx13 ?qx14 ?qx15 ?qx16 ?qx17 ?qx18 ?qx19 ?qx20 ?qx21 ?qx22 ?qx23 ?qx24 ?qx25 ?qx26 ?qx27 ?qx28 ?qx29 ?qx30 ?qx31 ?qx32 ?qx33 ?qx34 ?qx35 ?qx36 ?qx37 ?qx38 ?qx39 ?qx40 ?qx41 ?qx42 ?qx43 ?qx44 ?qx45 ?qx46 ?qx47 ?qx48 ?qx49 ?qx50 ?qx51 ?qx52 ?qx53 ?qx54 ?qx55 ?qx56 ?qx57 ?qx58 ?qx59 ?qx60 ?qx61 ?qx62 ?qx63 ?qx64 ?qx65 ?qx66 ?qx67 ?qx68 ?qx69 ?rExc
    (case qx0 => k_is); (case qx1 => k_is); (case qx2 => k_is); (case qx3 => k_is); (case qx4 => k_is); (case qx5 => k_is); (case qx6 => k_is); (case qx7 => k_is); (case qx8 => first | rfl | decide +kernel); (case qx9 => k_is); (case qx10 => k_is); (case qx11 => k_is); (case qx12 => k_is); (case qx13 => k_is); (case qx14 => k_is); (case qx15 => k_is); (case qx16 => k_is); (case qx17 => k_is); (case qx18 => k_is); (case qx19 => k_is); (case qx20 => k_is); (case qx21 => k_is); (case qx22 => first | rfl | decide +kernel); (case qx23 => k_is); (case qx24 => k_is); (case qx25 => k_is); (case qx26 => k_is); (case qx27 => k_is); (case qx28 => k_is); (case qx29 => k_is); (case qx30 => k_is); (case qx31 => k_is); (case qx32 => k_is); (case qx33 => k_is); (case qx34 => k_is); (case qx35 => k_is); (case qx36 => k_is); (case qx37 => k_is); (case qx38 => k_is); (case qx39 => k_is); (case qx40 => k_is); (case qx41 => first | rfl | k_is); (case qx42 => first | rfl | decide +kernel); (case qx43 => k_is); (case qx44 => k_is); (case qx45 => k_is); (case qx46 => k_is); (case qx47 => k_is); (case qx48 => k_is); (case qx49 => first | rfl | k_is); (case qx50 => first | rfl | decide +kernel); (case qx51 => first | k_is | rfl); (case qx52 => first | k_is | rfl); (case qx53 => first | kit_is | k_is | rfl); (case qx54 => first | kit_is | k_is | rfl); (case qx55 => first | kit_is | k_is | rfl); (case qx56 => first | kit_is | k_is | rfl); (case qx57 => first | kit_is | k_is | rfl); (case qx58 => first | kit_is | k_is | rfl); (case qx59 => k_is); (case qx60 => first | k_is | rfl); (case qx61 => first | kit_is | k_is | rfl); (case qx62 => first | kit_is | k_is | rfl); (case qx63 => k_is); (case qx64 => ks_is); (case qx65 => k_is); (case qx66 => k_is); (case qx67 => ks_is); (case qx68 => k_is); (case qx69 => k_is)
    intro c_InvalidSetting c_InvalidNumber c_LossError f_InvalidSetting___init__ d_InvalidSetting___init__ f_InvalidNumber___init__ d_InvalidNumber___init__ x_oe_InvalidSetting x_ii_InvalidSetting_InvalidSetting x_it_InvalidSetting x_mg_InvalidSetting x_be_InvalidSetting x_ex_InvalidNumber_LossError x_ex_InvalidSetting_LossError x_is_InvalidNumber_ValueError x_is_InvalidSetting_ValueError x_is_InvalidNumber_InvalidNumber x_is_InvalidSetting_InvalidNumber x_mg_InvalidNumber x_is_InvalidNumber_InvalidSetting x_is_InvalidSetting_InvalidSetting x_xf_InvalidSetting_setting x_mg_LossError x_ex_InvalidSetting_InvalidSetting x_is_InvalidNumber_LossError x_is_InvalidSetting_LossError x_oe_InvalidNumber x_ii_InvalidNumber_InvalidNumber x_it_InvalidNumber x_be_InvalidNumber x_xf_InvalidNumber_number x_fs_InvalidSetting x_sv_InvalidSetting_InvalidSetting x_nf_InvalidSetting_setting x_fs_InvalidNumber x_sv_InvalidNumber_InvalidNumber x_nf_InvalidNumber_number
    refine' Y.k24.useStat_KINDS KX G ?stKINDS ?slKINDS ?rStKINDS
    (case stKINDS => k_is); (case slKINDS => k_is)
    intro g_KINDS x_mg_KINDS hg_KINDS
    have x_no_isinstance : mg "isinstance" = none := by
      refine' PySem.W.mg_none_of KX G ?nno_isinstance
      (case nno_isinstance => k_is)
    have x_no_tuple : mg "tuple" = none := by
      refine' PySem.W.mg_none_of KX G ?nno_tuple
      (case nno_tuple => k_is)
    have x_no_len : mg "len" = none := by
      refine' PySem.W.mg_none_of KX G ?nno_len
      (case nno_len => k_is)
    have x_no_str : mg "str" = none := by
      refine' PySem.W.mg_none_of KX G ?nno_str
      (case nno_str => k_is)
    have x_no_list : mg "list" = none := by
      refine' PySem.W.mg_none_of KX G ?nno_list
      (case nno_list => k_is)
    have x_no_int : mg "int" = none := by
      refine' PySem.W.mg_none_of KX G ?nno_int
      (case nno_int => k_is)
    have x_no_bool : mg "bool" = none := by
      refine' PySem.W.mg_none_of KX G ?nno_bool
      (case nno_bool => k_is)
    have x_no_range : mg "range" = none := by
      refine' PySem.W.mg_none_of KX G ?nno_range
      (case nno_range => k_is)
    have x_no_min : mg "min" = none := by
      refine' PySem.W.mg_none_of KX G ?nno_min
      (case nno_min => k_is)
    have x_no_max : mg "max" = none := by
      refine' PySem.W.mg_none_of KX G ?nno_max
      (case nno_max => k_is)
    refine' Y.k24.useConst KX G (x := "MOST_UNIT") (i := 65535) ?nmg_MOST_UNIT ?rmg_MOST_UNIT
    (case nmg_MOST_UNIT => k_is)
    intro x_mg_MOST_UNIT
    have x_no_super : mg "super" = none := by
      refine' PySem.W.mg_none_of KX G ?nno_super
      (case nno_super => k_is)
    refine' Y.k24.useConst KX G (x := "MOST_PIECES") (i := 64) ?nmg_MOST_PIECES ?rmg_MOST_PIECES
    (case nmg_MOST_PIECES => k_is)
    intro x_mg_MOST_PIECES
    have x_no_ValueError : mg "ValueError" = none := by
      refine' PySem.W.mg_none_of KX G ?nno_ValueError
      (case nno_ValueError => k_is)
    refine' Y.k24.useConst KX G (x := "MOST_COUNT") (i := 65535) ?nmg_MOST_COUNT ?rmg_MOST_COUNT
    (case nmg_MOST_COUNT => k_is)
    intro x_mg_MOST_COUNT
    have x_no_sum : mg "sum" = none := by
      refine' PySem.W.mg_none_of KX G ?nno_sum
      (case nno_sum => k_is)
    have x_sup_top : ((PySem.Challenge.rw_lossway_k24_controls_made).prog.main.scope.names.lookup ("super" : Str)).isSome = false := by first | rfl | decide +kernel
    have e := hmg.symm.trans m_law
    cases e
    refine ⟨d_law, fun s u => .of_eq (b_law [u] rfl), fun base hb hg => ?_⟩
    exact (Y.k24.ok_law (a := { S := Y.SK _, f_whole := f_whole, d_whole := d_whole, f_names := f_names, d_names := d_names, f_rounds := f_rounds, d_rounds := d_rounds, f_draw := f_draw, d_draw := d_draw, f_unit := f_unit, d_unit := d_unit, f_word := f_word, d_word := d_word, f_classed := f_classed, d_classed := d_classed, f_truth := f_truth, d_truth := d_truth, f_Control_starting := f_Control_starting, d_Control_starting := d_Control_starting, f_base := f_base, d_base := d_base, f_times := f_times, d_times := d_times, f_fresh := f_fresh, d_fresh := d_fresh, f_is_whole := f_is_whole, d_is_whole := d_is_whole, f_in_range := f_in_range, d_in_range := d_in_range, f_Control___init__ := f_Control___init__, d_Control___init__ := d_Control___init__, f_Fixed___init__ := f_Fixed___init__, d_Fixed___init__ := d_Fixed___init__, f_Climb___init__ := f_Climb___init__, d_Climb___init__ := d_Climb___init__, f_Curve___init__ := f_Curve___init__, d_Curve___init__ := d_Curve___init__, f_Delay___init__ := f_Delay___init__, d_Delay___init__ := d_Delay___init__, f_control_of := f_control_of, d_control_of := d_control_of, f_make := f_make, d_make := d_make, f_Control_on_expiry := f_Control_on_expiry, d_Control_on_expiry := d_Control_on_expiry, f_Fixed_on_expiry := f_Fixed_on_expiry, d_Fixed_on_expiry := d_Fixed_on_expiry, f_Climb_on_expiry := f_Climb_on_expiry, d_Climb_on_expiry := d_Climb_on_expiry, f_Curve_on_expiry := f_Curve_on_expiry, d_Curve_on_expiry := d_Curve_on_expiry, f_Delay_on_expiry := f_Delay_on_expiry, d_Delay_on_expiry := d_Delay_on_expiry, f_Control_on_sample := f_Control_on_sample, d_Control_on_sample := d_Control_on_sample, f_Fixed_on_sample := f_Fixed_on_sample, d_Fixed_on_sample := d_Fixed_on_sample, f_Climb_on_sample := f_Climb_on_sample, d_Climb_on_sample := d_Climb_on_sample, f_Curve_on_sample := f_Curve_on_sample, d_Curve_on_sample := d_Curve_on_sample, f_Delay_on_sample := f_Delay_on_sample, d_Delay_on_sample := d_Delay_on_sample, f_Control_on_loss := f_Control_on_loss, d_Control_on_loss := d_Control_on_loss, f_Fixed_on_loss := f_Fixed_on_loss, d_Fixed_on_loss := d_Fixed_on_loss, f_Climb_on_loss := f_Climb_on_loss, d_Climb_on_loss := d_Climb_on_loss, f_curve_span := f_curve_span, d_curve_span := d_curve_span, f_Curve_on_loss := f_Curve_on_loss, d_Curve_on_loss := d_Curve_on_loss, f_Delay_on_loss := f_Delay_on_loss, d_Delay_on_loss := d_Delay_on_loss, f_apart := f_apart, d_apart := d_apart, f_bad := f_bad, d_bad := d_bad, f_refusal := f_refusal, d_refusal := d_refusal, f_units := f_units, d_units := d_units, f_pieces := f_pieces, d_pieces := d_pieces, f_stranger := f_stranger, d_stranger := d_stranger, f_kinds := f_kinds, d_kinds := d_kinds, f_check_count := f_check_count, d_check_count := d_check_count, f_Control_grow := f_Control_grow, d_Control_grow := d_Control_grow, f_Fixed_grow := f_Fixed_grow, d_Fixed_grow := d_Fixed_grow, f_Climb_grow := f_Climb_grow, d_Climb_grow := d_Climb_grow, f_Curve_grow := f_Curve_grow, d_Curve_grow := d_Curve_grow, f_Delay_surplus := f_Delay_surplus, d_Delay_surplus := d_Delay_surplus, f_Delay_grow := f_Delay_grow, d_Delay_grow := d_Delay_grow, f_Control_on_ack := f_Control_on_ack, d_Control_on_ack := d_Control_on_ack, f_Fixed_on_ack := f_Fixed_on_ack, d_Fixed_on_ack := d_Fixed_on_ack, f_Climb_on_ack := f_Climb_on_ack, d_Climb_on_ack := d_Climb_on_ack, f_Curve_on_ack := f_Curve_on_ack, d_Curve_on_ack := d_Curve_on_ack, f_Delay_on_ack := f_Delay_on_ack, d_Delay_on_ack := d_Delay_on_ack, f_refused := f_refused, d_refused := d_refused, f_counts := f_counts, d_counts := d_counts, f_question := f_question, d_question := d_question, f_box := f_box, d_box := d_box, f_cell := f_cell, d_cell := d_cell, f_law := _, d_law := d_law, f_InvalidSetting___init__ := f_InvalidSetting___init__, d_InvalidSetting___init__ := d_InvalidSetting___init__, f_InvalidNumber___init__ := f_InvalidNumber___init__, d_InvalidNumber___init__ := d_InvalidNumber___init__, c_Control := c_Control, c_Fixed := c_Fixed, c_Climb := c_Climb, c_Curve := c_Curve, c_Delay := c_Delay, c_InvalidSetting := c_InvalidSetting, c_InvalidNumber := c_InvalidNumber, c_LossError := c_LossError, mc_Control := mc_Control, mc_Fixed := mc_Fixed, mc_Climb := mc_Climb, mc_Curve := mc_Curve, mc_Delay := mc_Delay, g_KINDS := g_KINDS, hg_KINDS := hg_KINDS }) { st := rfl, no_isinstance := x_no_isinstance, no_tuple := x_no_tuple, mg_KINDS := x_mg_KINDS, no_len := x_no_len, no_str := x_no_str, no_list := x_no_list, mg_Control := x_mg_Control, cr_Control := x_cr_Control, cv_Control_KIND := x_cv_Control_KIND, mg_Fixed := x_mg_Fixed, cr_Fixed := x_cr_Fixed, cv_Fixed_KIND := x_cv_Fixed_KIND, mg_Climb := x_mg_Climb, cr_Climb := x_cr_Climb, cv_Climb_KIND := x_cv_Climb_KIND, mg_Curve := x_mg_Curve, cr_Curve := x_cr_Curve, cv_Curve_KIND := x_cv_Curve_KIND, mg_Delay := x_mg_Delay, cr_Delay := x_cr_Delay, cv_Delay_KIND := x_cv_Delay_KIND, no_int := x_no_int, no_bool := x_no_bool, mg_whole := m_whole, bd_whole := .all b_whole, cv_Control_GREATEST := x_cv_Control_GREATEST, fn_whole := F_whole, mg_names := m_names, bd_names := .all b_names, fn_names := F_names, no_range := x_no_range, no_min := x_no_min, no_max := x_no_max, mg_rounds := m_rounds, bd_rounds := .all b_rounds, fn_rounds := F_rounds, mg_draw := m_draw, bd_draw := .all b_draw, fn_draw := F_draw, mg_unit := m_unit, bd_unit := .all b_unit, fn_unit := F_unit, mg_word := m_word, bd_word := .all b_word, fn_word := F_word, io_Delay_Control := x_io_Delay_Control, io_Curve_Control := x_io_Curve_Control, io_Climb_Control := x_io_Climb_Control, io_Fixed_Control := x_io_Fixed_Control, io_Control_Control := x_io_Control_Control, io_Delay_Fixed := x_io_Delay_Fixed, io_Curve_Fixed := x_io_Curve_Fixed, io_Climb_Fixed := x_io_Climb_Fixed, io_Fixed_Fixed := x_io_Fixed_Fixed, io_Control_Fixed := x_io_Control_Fixed, io_Delay_Climb := x_io_Delay_Climb, io_Curve_Climb := x_io_Curve_Climb, io_Climb_Climb := x_io_Climb_Climb, io_Fixed_Climb := x_io_Fixed_Climb, io_Control_Climb := x_io_Control_Climb, io_Delay_Curve := x_io_Delay_Curve, io_Curve_Curve := x_io_Curve_Curve, io_Climb_Curve := x_io_Climb_Curve, io_Fixed_Curve := x_io_Fixed_Curve, io_Control_Curve := x_io_Control_Curve, io_Delay_Delay := x_io_Delay_Delay, io_Curve_Delay := x_io_Curve_Delay, io_Climb_Delay := x_io_Climb_Delay, io_Fixed_Delay := x_io_Fixed_Delay, io_Control_Delay := x_io_Control_Delay, ic_Delay_KIND := x_ic_Delay_KIND, ic_Curve_KIND := x_ic_Curve_KIND, ic_Climb_KIND := x_ic_Climb_KIND, ic_Fixed_KIND := x_ic_Fixed_KIND, ic_Control_KIND := x_ic_Control_KIND, mg_classed := m_classed, bd_classed := .all b_classed, fn_classed := F_classed, cl_Delay := x_cl_Delay, na_Delay_unit := x_na_Delay_unit, cl_Curve := x_cl_Curve, na_Curve_unit := x_na_Curve_unit, cl_Climb := x_cl_Climb, na_Climb_unit := x_na_Climb_unit, cl_Fixed := x_cl_Fixed, na_Fixed_unit := x_na_Fixed_unit, cl_Control := x_cl_Control, na_Control_unit := x_na_Control_unit, na_Delay_window := x_na_Delay_window, na_Curve_window := x_na_Curve_window, na_Climb_window := x_na_Climb_window, na_Fixed_window := x_na_Fixed_window, na_Control_window := x_na_Control_window, na_Delay_threshold := x_na_Delay_threshold, na_Curve_threshold := x_na_Curve_threshold, na_Climb_threshold := x_na_Climb_threshold, na_Fixed_threshold := x_na_Fixed_threshold, na_Control_threshold := x_na_Control_threshold, na_Delay_credit := x_na_Delay_credit, na_Curve_credit := x_na_Curve_credit, na_Climb_credit := x_na_Climb_credit, na_Fixed_credit := x_na_Fixed_credit, na_Control_credit := x_na_Control_credit, mg_truth := m_truth, bd_truth := .all b_truth, na_Delay_stalled := x_na_Delay_stalled, na_Curve_stalled := x_na_Curve_stalled, na_Climb_stalled := x_na_Climb_stalled, na_Fixed_stalled := x_na_Fixed_stalled, na_Control_stalled := x_na_Control_stalled, fn_truth := F_truth, pd_Delay_starting := x_pd_Delay_starting, bd_Control_starting := b_Control_starting, pd_Curve_starting := x_pd_Curve_starting, pd_Climb_starting := x_pd_Climb_starting, pd_Fixed_starting := x_pd_Fixed_starting, pd_Control_starting := x_pd_Control_starting, mg_base := m_base, bd_base := .all b_base, mg_times := m_times, bd_times := .all b_times, fn_times := F_times, fn_base := F_base, na_Delay_peak := x_na_Delay_peak, na_Curve_peak := x_na_Curve_peak, na_Climb_peak := x_na_Climb_peak, na_Fixed_peak := x_na_Fixed_peak, na_Control_peak := x_na_Control_peak, na_Delay_span := x_na_Delay_span, na_Curve_span := x_na_Curve_span, na_Climb_span := x_na_Climb_span, na_Fixed_span := x_na_Fixed_span, na_Control_span := x_na_Control_span, na_Delay_born := x_na_Delay_born, na_Curve_born := x_na_Curve_born, na_Climb_born := x_na_Climb_born, na_Fixed_born := x_na_Fixed_born, na_Control_born := x_na_Control_born, na_Delay_least := x_na_Delay_least, na_Curve_least := x_na_Curve_least, na_Climb_least := x_na_Climb_least, na_Fixed_least := x_na_Fixed_least, na_Control_least := x_na_Control_least, na_Delay_latest := x_na_Delay_latest, na_Curve_latest := x_na_Curve_latest, na_Climb_latest := x_na_Climb_latest, na_Fixed_latest := x_na_Fixed_latest, na_Control_latest := x_na_Control_latest, na_Delay_samples := x_na_Delay_samples, na_Curve_samples := x_na_Curve_samples, na_Climb_samples := x_na_Climb_samples, na_Fixed_samples := x_na_Fixed_samples, na_Control_samples := x_na_Control_samples, mg_fresh := m_fresh, bd_fresh := .all b_fresh, mg_is_whole := m_is_whole, bd_is_whole := .all b_is_whole, fn_is_whole := F_is_whole, mg_in_range := m_in_range, bd_in_range := .all b_in_range, mg_MOST_UNIT := x_mg_MOST_UNIT, fn_in_range := F_in_range, oe_InvalidSetting := x_oe_InvalidSetting, ii_InvalidSetting_InvalidSetting := x_ii_InvalidSetting_InvalidSetting, it_InvalidSetting := x_it_InvalidSetting, mg_InvalidSetting := x_mg_InvalidSetting, be_InvalidSetting := x_be_InvalidSetting, mk_Control := x_mk_Control, bd_Control___init__ := b_Control___init__, su_Fixed_Fixed___init__ := x_su_Fixed_Fixed___init__, no_super := x_no_super, sup_top := x_sup_top, mg_MOST_PIECES := x_mg_MOST_PIECES, mk_Fixed := x_mk_Fixed, bd_Fixed___init___1 := x_bd_Fixed___init___1, su_Delay_Climb___init__ := x_su_Delay_Climb___init__, su_Curve_Climb___init__ := x_su_Curve_Climb___init__, su_Climb_Climb___init__ := x_su_Climb_Climb___init__, mk_Climb := x_mk_Climb, bd_Climb___init__ := b_Climb___init__, su_Curve_Curve___init__ := x_su_Curve_Curve___init__, mk_Curve := x_mk_Curve, bd_Curve___init__ := b_Curve___init__, su_Delay_Delay___init__ := x_su_Delay_Delay___init__, mk_Delay := x_mk_Delay, bd_Delay___init__ := b_Delay___init__, bd_Fixed___init__ := b_Fixed___init__, bk_Fixed___init___pieces := x_bk_Fixed___init___pieces, mg_control_of := m_control_of, bd_control_of := .all b_control_of, fn_control_of := F_control_of, mg_make := m_make, bd_make := .all b_make, fn_make := F_make, fn_fresh := F_fresh, su_Delay_Climb_on_expiry := x_su_Delay_Climb_on_expiry, su_Curve_Climb_on_expiry := x_su_Curve_Climb_on_expiry, su_Climb_Climb_on_expiry := x_su_Climb_Climb_on_expiry, bd_Control_on_expiry := b_Control_on_expiry, su_Curve_Curve_on_expiry := x_su_Curve_Curve_on_expiry, bd_Climb_on_expiry := b_Climb_on_expiry, su_Delay_Delay_on_expiry := x_su_Delay_Delay_on_expiry, mt_Delay_on_expiry := x_mt_Delay_on_expiry, bd_Delay_on_expiry := b_Delay_on_expiry, mt_Curve_on_expiry := x_mt_Curve_on_expiry, bd_Curve_on_expiry := b_Curve_on_expiry, mt_Climb_on_expiry := x_mt_Climb_on_expiry, mt_Fixed_on_expiry := x_mt_Fixed_on_expiry, bd_Fixed_on_expiry := b_Fixed_on_expiry, mt_Control_on_expiry := x_mt_Control_on_expiry, su_Curve_Climb_on_sample := x_su_Curve_Climb_on_sample, su_Climb_Climb_on_sample := x_su_Climb_Climb_on_sample, bd_Control_on_sample := b_Control_on_sample, su_Curve_Curve_on_sample := x_su_Curve_Curve_on_sample, bd_Climb_on_sample := b_Climb_on_sample, mt_Delay_on_sample := x_mt_Delay_on_sample, bd_Delay_on_sample := b_Delay_on_sample, mt_Curve_on_sample := x_mt_Curve_on_sample, bd_Curve_on_sample := b_Curve_on_sample, mt_Climb_on_sample := x_mt_Climb_on_sample, mt_Fixed_on_sample := x_mt_Fixed_on_sample, bd_Fixed_on_sample := b_Fixed_on_sample, mt_Control_on_sample := x_mt_Control_on_sample, su_Delay_Climb_on_loss := x_su_Delay_Climb_on_loss, su_Climb_Climb_on_loss := x_su_Climb_Climb_on_loss, bd_Control_on_loss := b_Control_on_loss, mg_curve_span := m_curve_span, bd_curve_span := .all b_curve_span, fn_curve_span := F_curve_span, su_Delay_Delay_on_loss := x_su_Delay_Delay_on_loss, bd_Climb_on_loss := b_Climb_on_loss, mt_Delay_on_loss := x_mt_Delay_on_loss, bd_Delay_on_loss := b_Delay_on_loss, mt_Curve_on_loss := x_mt_Curve_on_loss, bd_Curve_on_loss := b_Curve_on_loss, mt_Climb_on_loss := x_mt_Climb_on_loss, mt_Fixed_on_loss := x_mt_Fixed_on_loss, bd_Fixed_on_loss := b_Fixed_on_loss, mt_Control_on_loss := x_mt_Control_on_loss, mg_apart := m_apart, bd_apart := .all b_apart, fn_apart := F_apart, mg_bad := m_bad, bd_bad := .all b_bad, fn_bad := F_bad, ex_InvalidNumber_LossError := x_ex_InvalidNumber_LossError, ex_InvalidSetting_LossError := x_ex_InvalidSetting_LossError, is_InvalidNumber_ValueError := x_is_InvalidNumber_ValueError, is_InvalidSetting_ValueError := x_is_InvalidSetting_ValueError, no_ValueError := x_no_ValueError, is_InvalidNumber_InvalidNumber := x_is_InvalidNumber_InvalidNumber, is_InvalidSetting_InvalidNumber := x_is_InvalidSetting_InvalidNumber, mg_InvalidNumber := x_mg_InvalidNumber, is_InvalidNumber_InvalidSetting := x_is_InvalidNumber_InvalidSetting, is_InvalidSetting_InvalidSetting := x_is_InvalidSetting_InvalidSetting, xf_InvalidSetting_setting := x_xf_InvalidSetting_setting, mg_LossError := x_mg_LossError, mg_refusal := m_refusal, bd_refusal := .all b_refusal, fn_refusal := F_refusal, mg_units := m_units, bd_units := .all b_units, fn_units := F_units, mg_pieces := m_pieces, bd_pieces := .all b_pieces, fn_pieces := F_pieces, ex_InvalidSetting_InvalidSetting := x_ex_InvalidSetting_InvalidSetting, is_InvalidNumber_LossError := x_is_InvalidNumber_LossError, is_InvalidSetting_LossError := x_is_InvalidSetting_LossError, mg_stranger := m_stranger, bd_stranger := .all b_stranger, fn_stranger := F_stranger, mg_kinds := m_kinds, bd_kinds := .all b_kinds, fn_kinds := F_kinds, mg_MOST_COUNT := x_mg_MOST_COUNT, oe_InvalidNumber := x_oe_InvalidNumber, ii_InvalidNumber_InvalidNumber := x_ii_InvalidNumber_InvalidNumber, it_InvalidNumber := x_it_InvalidNumber, be_InvalidNumber := x_be_InvalidNumber, mg_check_count := m_check_count, bd_check_count := .all b_check_count, fn_check_count := F_check_count, su_Curve_Curve_grow := x_su_Curve_Curve_grow, bd_Climb_grow := b_Climb_grow, mt_Delay_surplus := x_mt_Delay_surplus, bd_Delay_surplus := b_Delay_surplus, mt_Delay_grow := x_mt_Delay_grow, bd_Delay_grow := b_Delay_grow, mt_Curve_grow := x_mt_Curve_grow, bd_Curve_grow := b_Curve_grow, mt_Climb_grow := x_mt_Climb_grow, mt_Fixed_grow := x_mt_Fixed_grow, bd_Fixed_grow := b_Fixed_grow, mt_Control_grow := x_mt_Control_grow, bd_Control_grow := b_Control_grow, su_Delay_Climb_on_ack := x_su_Delay_Climb_on_ack, su_Curve_Climb_on_ack := x_su_Curve_Climb_on_ack, su_Climb_Climb_on_ack := x_su_Climb_Climb_on_ack, bd_Control_on_ack := b_Control_on_ack, su_Curve_Curve_on_ack := x_su_Curve_Curve_on_ack, bd_Climb_on_ack := b_Climb_on_ack, su_Delay_Delay_on_ack := x_su_Delay_Delay_on_ack, mt_Delay_on_ack := x_mt_Delay_on_ack, bd_Delay_on_ack := b_Delay_on_ack, mt_Curve_on_ack := x_mt_Curve_on_ack, bd_Curve_on_ack := b_Curve_on_ack, mt_Climb_on_ack := x_mt_Climb_on_ack, mt_Fixed_on_ack := x_mt_Fixed_on_ack, bd_Fixed_on_ack := b_Fixed_on_ack, mt_Control_on_ack := x_mt_Control_on_ack, xf_InvalidNumber_number := x_xf_InvalidNumber_number, mg_refused := m_refused, bd_refused := .all b_refused, fn_refused := F_refused, mg_counts := m_counts, bd_counts := .all b_counts, fn_counts := F_counts, mg_question := m_question, bd_question := .all b_question, mg_box := m_box, bd_box := .all b_box, no_sum := x_no_sum, mg_cell := m_cell, bd_cell := .all b_cell, fn_cell := F_cell, fn_box := F_box, fn_question := F_question, fn_Control_starting := F_Control_starting, fn_Control___init__ := F_Control___init__, fn_Fixed___init__ := F_Fixed___init__, fn_Climb___init__ := F_Climb___init__, fn_Curve___init__ := F_Curve___init__, fn_Delay___init__ := F_Delay___init__, fn_Control_on_expiry := F_Control_on_expiry, fn_Fixed_on_expiry := F_Fixed_on_expiry, fn_Climb_on_expiry := F_Climb_on_expiry, fn_Curve_on_expiry := F_Curve_on_expiry, fn_Delay_on_expiry := F_Delay_on_expiry, fn_Control_on_sample := F_Control_on_sample, fn_Fixed_on_sample := F_Fixed_on_sample, fn_Climb_on_sample := F_Climb_on_sample, fn_Curve_on_sample := F_Curve_on_sample, fn_Delay_on_sample := F_Delay_on_sample, fn_Control_on_loss := F_Control_on_loss, fn_Fixed_on_loss := F_Fixed_on_loss, fn_Climb_on_loss := F_Climb_on_loss, fn_Curve_on_loss := F_Curve_on_loss, fn_Delay_on_loss := F_Delay_on_loss, fn_Control_grow := F_Control_grow, fn_Fixed_grow := F_Fixed_grow, fn_Climb_grow := F_Climb_grow, fn_Curve_grow := F_Curve_grow, fn_Delay_surplus := F_Delay_surplus, fn_Delay_grow := F_Delay_grow, fn_Control_on_ack := F_Control_on_ack, fn_Fixed_on_ack := F_Fixed_on_ack, fn_Climb_on_ack := F_Climb_on_ack, fn_Curve_on_ack := F_Curve_on_ack, fn_Delay_on_ack := F_Delay_on_ack, fn_law := F_law, bd_law := .all b_law, mg_law := m_law, fs_InvalidSetting := x_fs_InvalidSetting, sv_InvalidSetting_InvalidSetting := x_sv_InvalidSetting_InvalidSetting, nf_InvalidSetting_setting := x_nf_InvalidSetting_setting, fs_InvalidNumber := x_fs_InvalidNumber, sv_InvalidNumber_InvalidNumber := x_sv_InvalidNumber_InvalidNumber, nf_InvalidNumber_number := x_nf_InvalidNumber_number }).imp fun vs H Q E h => Y.k24.law_holds _ rfl vs H Q E h

