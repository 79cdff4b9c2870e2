import PyProof.Rows.All
import Wide.All
import OpenK.AllK
import Wide.FinOn
import HandS.ForMost
import HandS.ForExc
import HandS.IsInst
import HandS.ClsMeth
import HandS.Wide
import HandS.Flow
import HandS.Property
import HandS.WideBits
import HandS.Flt
import HandS.ExcInit
import HandS.ExcSuper
import HandS.ExcField
import HandS.ExcIs
import HandS.ExcOwn
import HandS.WordsExc
import KE.KExcSuper
import KE.KSuper
import KE.KExcIs
import HandS.Defaults
import KE.GoesEnum
import HandS.FStr
import HandS.More
import HandS.Walk
import PyProof.Rows.RegStrFacts
import HandS.MakeKw
import HandS.MakeKwOnly
import HandS.Text
import PyProof.ReprRoads
import HandS.Ends
import HandS.TupAny
import HandS.MakeKwOnly
import HandS.Defaults
import HandS.Zip
import HandS.Text
import HandS.Walk
import KE.KUnpack
import HandS.HotCalls
import HandS.Walk
import HandS.Star
import HandS.SlotsOwn
import HandS.SortRule
import HandS.SortInts
import HandS.Records
import PyProof.EqKinds
import HandS.GenList
import HandS.Iter
import HandS.TupLe
import HandS.WordsDict
import HandS.More
import PySem.Challenge.RW_lossway_k11_outbox_history
set_option Elab.async false
set_option linter.all false
set_option maxRecDepth 100000
set_option maxHeartbeats 4000000
set_option synthInstance.maxHeartbeats 0
set_option synthInstance.maxSize 1000000
set_option synthInstance.checkSynthOrder false
/-! The layer of this work: readings without the written part, a def's promise by its own body. -/
namespace Y
open PySem PySem.Spec PyProof.Rows L2

/-! ### weaker readings -/
section
variable {X : Cx}
theorem pe_imp {e : Expr} {t t' : TE} (h : PE X e t) (hi : ∀ σ H Q, t' σ H Q → t σ H Q) : PE X e t' := ⟨fun pins s σ H Q I q => h.run pins s σ H Q I (hi σ H Q q)⟩
theorem ps_imp {e : Stmt} {t t' : TS} (h : PS X e t) (hi : ∀ D σ H, t' D σ H → t D σ H) : PS X e t' := ⟨fun pins s σ H D I q => h.run pins s σ H D I (hi D σ H q)⟩
theorem op_imp {f : Value → Value → Sem Value} {r r' : R2} (h : OpR X f r) (hi : ∀ x y H Q, r' x y H Q → r x y H Q) : OpR X f r' := fun pins s σ H x y v u Q I rx ry q => h pins s σ H x y v u Q I rx ry (hi x y H Q q)
theorem op_or {f : Value → Value → Sem Value} {r r' : R2} (h : OpR X f r) (h' : OpR X f r') : OpR X f (fun x y H Q => r x y H Q ∨ r' x y H Q) := fun pins s σ H x y v u Q I rx ry q =>
  q.elim (h pins s σ H x y v u Q I rx ry) (h' pins s σ H x y v u Q I rx ry)
theorem ix_imp {r r' : R2} (h : IxR X r) (hi : ∀ x y H Q, r' x y H Q → r x y H Q) : IxR X r' := fun value slice pins s σ H x y v u Q I rx ry q hs => h value slice pins s σ H x y v u Q I rx ry (hi x y H Q q) hs
theorem call_imp {f : Value} {r r' : List V → Hp → VK → Prop} (h : CallR X f r) (hi : ∀ xs H Q, r' xs H Q → r xs H Q) : CallR X f r' := fun pins s σ H xs us Q I rx q => h pins s σ H xs us Q I rx (hi xs H Q q)
end

/-! ### what stands at an address; S: static things, of the written part -/
abbrev Sta := Addr → HO → Prop
def SK (K : PySem.W.Frag) : Sta := fun a u => match u with
  | .lst xs => ∃ (o : Obj) (its : Array Value) (n : Nat), K.lookup a = some o ∧ o.cls = .type "list" ∧ o.dict = none ∧ o.data = .seq its n ∧ its.size ≤ sizeLine ∧ Vals xs its.toList
  | .tup xs => ∃ (o : Obj) (its : Array Value) (n : Nat), K.lookup a = some o ∧ o.cls = .type "tuple" ∧ o.data = .seq its n ∧ its.size ≤ sizeLine ∧ Vals xs its.toList
  | _ => False
def RdS (S : Sta) (H : Hp) (p : Addr) (u : HO) : Prop := Rd H p u ∨ S p u
theorem sqL {K : PySem.W.Frag} {S : Sta} {H : Hp} {p : Addr} {xs : List V} (e : S = SK K) (h : RdS S H p (.lst xs)) : SqL K H p xs := by subst e; exact h
theorem sqT {K : PySem.W.Frag} {S : Sta} {H : Hp} {p : Addr} {xs : List V} (e : S = SK K) (h : RdS S H p (.tup xs)) : SqT K H p xs := by subst e; exact h
/-- a list or a tuple -/
def Seq (S : Sta) (H : Hp) (p : Addr) (xs : List V) : Prop := RdS S H p (.lst xs) ∨ RdS S H p (.tup xs)

/-! ### operators -/
def rAdd : R2 := fun x y H Q => (∃ i j, x = .int i ∧ y = .int j ∧ Q (.int (i + j)) H) ∨ (∃ i j, x = .str i ∧ y = .str j ∧ i.length + j.length ≤ sizeLine ∧ Q (.str (i ++ j)) H)
  ∨ (∃ p q a b, x = .ref p ∧ y = .ref q ∧ H p = some (.lst a) ∧ H q = some (.lst b) ∧ a.length + b.length ≤ sizeLine ∧ ∀ r, H r = none → Q (.ref r) (upd H r (.lst (a ++ b))))
def rSub : R2 := rI0 fun i j => .int (i - j)
def rMul : R2 := rI CMul fun i j => .int (i * j)
def rFdiv : R2 := rI CDivW fun i j => .int (i / j)
def rMod : R2 := rI (fun _ j => 0 < j) fun i j => .int (i % j)
def rPow : R2 := rI CPow fun i j => .int (i ^ j.toNat)
def rShl : R2 := rI CPow fun i j => .int (i * 2 ^ j.toNat)
def rAnd : R2 := rI0 fun i j => .int (Builtin.bitAnd i j)
def rLt : R2 := rI0 fun i j => .bl (decide (i < j))
def rLe : R2 := rI0 fun i j => .bl (decide (i ≤ j))
def rGt : R2 := rI0 fun i j => .bl (decide (j < i))
def rGe : R2 := rI0 fun i j => .bl (decide (j ≤ i))
def rNeg : V → Hp → VK → Prop := rU fun i => .int (-i)
def rIs : R2 := fun x y H Q => y = .non ∧ Q (.bl (decide (x = .non))) H
def rIsNot : R2 := fun x y H Q => y = .non ∧ Q (.bl (!decide (x = .non))) H
section
variable {X : Cx}
theorem o_add : OpR X (binaryOp .Add) rAdd := op_imp (op_or op_add (op_or op_add_str op_cat)) fun x y H Q q => by
  rcases q with q | q | ⟨p, q, a, b, e1, e2, h1, h2, h3, h4⟩
  · exact .inl q
  · exact .inr (.inl q)
  · exact .inr (.inr ⟨p, q, a, b, e1, e2, h1, h2, h3, h4⟩)
theorem o_sub : OpR X (binaryOp .Sub) rSub := op_sub
theorem o_mul : OpR X (binaryOp .Mult) rMul := op_mul
theorem o_fdiv : OpR X (binaryOp .FloorDiv) rFdiv := op_fdivW
theorem o_mod : OpR X (binaryOp .Mod) rMod := op_mod
theorem o_pow : OpR X (binaryOp .Pow) rPow := op_pow
theorem o_shl : OpR X (binaryOp .LShift) rShl := op_shl
theorem o_and : OpR X (binaryOp .BitAnd) rAnd := op_and
theorem o_lt : OpR X (compareOp .Lt) rLt := op_lt
theorem o_le : OpR X (compareOp .LtE) rLe := op_le
theorem o_gt : OpR X (compareOp .Gt) rGt := op_gt
theorem o_ge : OpR X (compareOp .GtE) rGe := op_ge
theorem o_eq : OpR X (compareOp .Eq) rEq := op_eq
theorem o_ne : OpR X (compareOp .NotEq) rNe := op_ne
theorem o_is : OpR X (compareOp .Is) rIs := op_isN
theorem o_isnot : OpR X (compareOp .IsNot) rIsNot := op_notN
theorem o_neg : UnR X (unaryOp .USub) rNeg := un_neg
end

/-! ### subscripts, len, slices -/
def rIx (S : Sta) : R2 := fun x y H Q => (∃ p xs i v, x = .ref p ∧ y = .int i ∧ Seq S H p xs ∧ atI xs i = some v ∧ Q v H) ∨ (∃ z i c, x = .str z ∧ y = .int i ∧ z.length ≤ sizeLine ∧ atI z.cps.toList i = some c ∧ Q (.str ⟨#[c]⟩) H)
def rLen (S : Sta) : List V → Hp → VK → Prop := fun xs H Q => (∃ p ys, xs = [.ref p] ∧ Seq S H p ys ∧ Q (.int ys.length) H) ∨ (∃ z, xs = [.str z] ∧ z.length ≤ sizeLine ∧ Q (.int z.length) H)
def rInt : List V → Hp → VK → Prop := fun xs H Q => (∃ i, xs = [.int i] ∧ Q (.int i) H) ∨ ∃ k, xs = [.bl k] ∧ Q (.int (if k then 1 else 0)) H
def rStrI : List V → Hp → VK → Prop := fun xs H Q => ∃ i, xs = [.int i] ∧ i.natAbs.log2 < 1920 ∧ Q (.str (toString i)) H
def rSl (S : Sta) : V → Option Int → Option Int → Hp → VK → Prop := fun x lo hi H Q => ∃ a xs, x = .ref a ∧ RdS S H a (.lst xs) ∧ ∀ p, H p = none → Q (.ref p) (upd H p (.lst (cutV xs lo hi)))
section
variable {X : Cx}
variable {S : Sta}
theorem o_ix (st : S = SK X.K) : IxR X (rIx S) := ix_imp (ix_list.or (ix_tup.or ix_str)) fun x y H Q q => by
  rcases q with ⟨p, xs, i, v, e1, e2, h | h, h2, h3⟩ | q
  · exact .inl ⟨p, xs, i, v, e1, e2, sqL st h, h2, h3⟩
  · exact .inr (.inl ⟨p, xs, i, v, e1, e2, sqT st h, h2, h3⟩)
  · exact .inr (.inr q)
theorem c_len (st : S = SK X.K) : CallR X (.builtin "len") (rLen S) := call_imp call_len fun xs H Q q => by
  rcases q with ⟨p, ys, e, h | h, q⟩ | ⟨z, e, h, q⟩
  · exact ⟨_, _, e, .inl ⟨_, sqL st h, rfl⟩, q⟩
  · exact ⟨_, _, e, .inr ⟨_, sqT st h, rfl⟩, q⟩
  · exact ⟨_, _, e, ⟨h, rfl⟩, q⟩
theorem c_int : CallR X (.type "int") rInt := call_int1
theorem c_strI : CallR X (.type "str") rStrI := call_str_int
theorem o_sl (st : S = SK X.K) : SlR X (rSl S) := fun pins s σ H x v vl vu lo hi sl Q I rx hs pl pu h => by
  obtain ⟨a, xs, e, hx, q⟩ := h
  exact sl_list pins s σ H x v vl vu lo hi sl Q I rx hs pl pu ⟨a, xs, e, sqL st hx, q⟩
end

/-! ### small built-ins -/
def rAbs : List V → Hp → VK → Prop := fun xs H Q => ∃ i, xs = [.int i] ∧ Q (.int (if i < 0 then -i else i)) H
def rMin2 : List V → Hp → VK → Prop := fun xs H Q => ∃ i j, xs = [.int i, .int j] ∧ Q (.int (if j < i then j else i)) H
def rMax2 : List V → Hp → VK → Prop := fun xs H Q => ∃ i j, xs = [.int i, .int j] ∧ Q (.int (if j > i then j else i)) H
def rMin3 : List V → Hp → VK → Prop := fun xs H Q => ∃ i j k, xs = [.int i, .int j, .int k] ∧ Q (.int (min (min i j) k)) H
def rSum (S : Sta) : List V → Hp → VK → Prop := fun vs H Q => ∃ (a : Addr) (ns : List Int), vs = [V.ref a] ∧ RdS S H a (.lst (ns.map V.int)) ∧ Q (.int ns.sum) H
def rAll (S : Sta) : List V → Hp → VK → Prop := fun vs H Q => ∃ (a : Addr) (bs : List Bool), vs = [V.ref a] ∧ RdS S H a (.lst (bs.map V.bl)) ∧ Q (.bl (bs.all id)) H
def rMaxL (S : Sta) : List V → Hp → VK → Prop := fun vs H Q => ∃ (a : Addr) (ns : List Int), vs = [V.ref a] ∧ RdS S H a (.lst (ns.map V.int)) ∧ 0 < ns.length ∧ ∀ m, m ∈ ns → (∀ y, y ∈ ns → y ≤ m) → Q (.int m) H
def rMinL (S : Sta) : List V → Hp → VK → Prop := fun vs H Q => ∃ (a : Addr) (ns : List Int), vs = [V.ref a] ∧ RdS S H a (.lst (ns.map V.int)) ∧ 0 < ns.length ∧ ∀ m, m ∈ ns → (∀ y, y ∈ ns → m ≤ y) → Q (.int m) H
def rListOf (S : Sta) : List V → Hp → VK → Prop := fun xs H Q => ∃ p ys, xs = [.ref p] ∧ Seq S H p ys ∧ ∀ l, H l = none → Q (.ref l) (upd H l (.lst ys))
def rTupleOf (S : Sta) : List V → Hp → VK → Prop := fun xs H Q => ∃ p ys, xs = [.ref p] ∧ ((RdS S H p (.lst ys) ∧ ∀ l, H l = none → Q (.ref l) (upd H l (.tup ys))) ∨ (RdS S H p (.tup ys) ∧ Q (.ref p) H))
section
variable {X : Cx} {S : Sta}
theorem c_abs : CallR X (.builtin "abs") rAbs := call_abs
theorem c_min2 (hc : X.calm = true) : CallR X (.builtin "min") rMin2 := call_min2 hc
theorem c_max2 (hc : X.calm = true) : CallR X (.builtin "max") rMax2 := call_max2 hc
theorem c_min3 (hc : X.calm = true) : CallR X (.builtin "min") rMin3 := call_imp (call_min3Nu hc) fun xs H Q ⟨i, j, k, e, q⟩ => by
  refine ⟨.int i, .int j, .int k, .int (min (min i j) k), e, ?_, q⟩
  have h2 : ∀ a b : Int, nuMin2 (.int a) (.int b) = some (.int (min a b)) := fun a b => by
    show some (if decide (b < a) = true then V.int b else V.int a) = _
    by_cases h : b < a
    · rw [decide_eq_true h, if_pos rfl, show min a b = b by omega]
    · rw [decide_eq_false h, if_neg Bool.false_ne_true, show min a b = a by omega]
  show (nuMin2 (.int i) (.int j)).bind _ = _
  rw [h2]
  exact h2 _ _
theorem c_sum (st : S = SK X.K) (hc : X.calm = true) : CallR X (.builtin "sum") (rSum S) := call_imp (cr_sum hc) fun xs H Q ⟨a, ns, e, h, q⟩ => ⟨a, ns, e, sqL st h, q⟩
theorem c_all (st : S = SK X.K) (hc : X.calm = true) : CallR X (.builtin "all") (rAll S) := call_imp (cr_all hc) fun xs H Q ⟨a, ns, e, h, q⟩ => ⟨a, ns, e, sqL st h, q⟩
theorem c_maxL (st : S = SK X.K) (hc : X.calm = true) : CallR X (.builtin "max") (rMaxL S) := call_imp (cr_max hc) fun xs H Q ⟨a, ns, e, h, q⟩ => ⟨a, ns, e, sqL st h, q⟩
theorem c_minL (st : S = SK X.K) (hc : X.calm = true) : CallR X (.builtin "min") (rMinL S) := call_imp (cr_min hc) fun xs H Q ⟨a, ns, e, h, q⟩ => ⟨a, ns, e, sqL st h, q⟩
theorem c_list (st : S = SK X.K) : CallR X (.type "list") (rListOf S) := call_imp call_list_of fun xs H Q ⟨p, ys, e, h, q⟩ => ⟨p, ys, e, h.elim (fun h => .inl (sqL st h)) (fun h => .inr (sqT st h)), q⟩
theorem c_tuple (st : S = SK X.K) : CallR X (.type "tuple") (rTupleOf S) := call_imp call_tuple_of fun xs H Q ⟨p, ys, e, h⟩ => ⟨p, ys, e, h.elim (fun h => .inl ⟨sqL st h.1, h.2⟩) (fun h => .inr ⟨sqT st h.1, h.2⟩)⟩
end

/-! ### == of data at any depth -/
mutual
inductive DpS (S : Sta) (H : Hp) : V → PyData → Prop
  | non : DpS S H .non .none
  | bl (b : Bool) : DpS S H (.bl b) (.bool b)
  | int (i : Int) : DpS S H (.int i) (.int i)
  | str (x : Str) : DpS S H (.str x) (.str x)
  | lst {a : Addr} {xs : List V} {ds : List PyData} : RdS S H a (.lst xs) → DpSs S H xs ds → DpS S H (.ref a) (.list ds)
  | tup {a : Addr} {xs : List V} {ds : List PyData} : RdS S H a (.tup xs) → DpSs S H xs ds → DpS S H (.ref a) (.tuple ds)
inductive DpSs (S : Sta) (H : Hp) : List V → List PyData → Prop
  | nil : DpSs S H [] []
  | cons {v : V} {vs : List V} {d : PyData} {ds : List PyData} : DpS S H v d → DpSs S H vs ds → DpSs S H (v :: vs) (d :: ds)
end
mutual
theorem DpS.dp {K : PySem.W.Frag} {S : Sta} (st : S = SK K) {H : Hp} : ∀ {v : V} {d : PyData}, DpS S H v d → Dp K H v d
  | _, _, .non => .non
  | _, _, .bl b => .bl b
  | _, _, .int i => .int i
  | _, _, .str x => .str x
  | _, _, .lst h r => .lst (sqL st h) (DpSs.dp st r)
  | _, _, .tup h r => .tup (sqT st h) (DpSs.dp st r)
theorem DpSs.dp {K : PySem.W.Frag} {S : Sta} (st : S = SK K) {H : Hp} : ∀ {v : List V} {d : List PyData}, DpSs S H v d → DpAll K H v d
  | _, _, .nil => .nil
  | _, _, .cons h r => .cons (DpS.dp st h) (DpSs.dp st r)
end
def rEqP (S : Sta) : R2 := fun x y H Q => rEq x y H Q ∨ ∃ d e, DpS S H x d ∧ DpS S H y e ∧ SeqAt.shaped d = true ∧ SeqAt.shaped e = true ∧ Q (.bl (PyData.eqv d e)) H
def rNeP (S : Sta) : R2 := fun x y H Q => rNe x y H Q ∨ ∃ d e, DpS S H x d ∧ DpS S H y e ∧ SeqAt.shaped d = true ∧ SeqAt.shaped e = true ∧ Q (.bl (!PyData.eqv d e)) H
section
variable {X : Cx} {S : Sta}
theorem o_eqP (st : S = SK X.K) (hu : X.A.units + 64 < cLine) : OpR X (compareOp .Eq) (rEqP S) := op_imp (op_or op_eq (op_eqD hu)) fun x y H Q q => q.elim .inl fun ⟨d, e, h1, h2, q⟩ => .inr ⟨d, e, h1.dp st, h2.dp st, q⟩
theorem o_neP (st : S = SK X.K) (hu : X.A.units + 64 < cLine) : OpR X (compareOp .NotEq) (rNeP S) := op_imp (op_or op_ne (op_neD hu)) fun x y H Q q => q.elim .inl fun ⟨d, e, h1, h2, q⟩ => .inr ⟨d, e, h1.dp st, h2.dp st, q⟩
end

/-! ### in: a sign in a text; a flat value in a list or a tuple -/
def rInA (S : Sta) (neg : Bool) : R2 := fun x y H Q => (∃ p xs, y = .ref p ∧ Seq S H p xs ∧ flatV x = true ∧ xs.all flatV = true ∧ Q (.bl (if neg then !inV x xs else inV x xs)) H)
  ∨ (∃ (c : Nat) (z : Str), x = .str ⟨#[c]⟩ ∧ y = .str z ∧ Q (.bl (if neg then !decide (c ∈ z.cps.toList) else decide (c ∈ z.cps.toList))) H)
section
variable {X : Cx} {S : Sta}
theorem o_inA (st : S = SK X.K) : OpR X (compareOp .In) (rInA S false) := op_imp (op_or op_in_seq op_in_sign) fun x y H Q q => by
  rcases q with ⟨p, xs, e, h, f, fs, q⟩ | q
  · exact .inl ⟨p, xs, e, h.elim (fun h => .inl (sqL st h)) (fun h => .inr (sqT st h)), f, fs, q⟩
  · exact .inr q
theorem o_notInA (st : S = SK X.K) : OpR X (compareOp .NotIn) (rInA S true) := op_imp (op_or op_notIn_seq op_notIn_sign) fun x y H Q q => by
  rcases q with ⟨p, xs, e, h, f, fs, q⟩ | q
  · exact .inl ⟨p, xs, e, h.elim (fun h => .inl (sqL st h)) (fun h => .inr (sqT st h)), f, fs, q⟩
  · exact .inr q
end

/-! ### types -/
inductive TyN (H : Hp) : V → String → Prop where
  | non : TyN H .non "NoneType"
  | bl (b : Bool) : TyN H (.bl b) "bool"
  | int (i : Int) : TyN H (.int i) "int"
  | str (s : Str) : TyN H (.str s) "str"
  | lst {a : Addr} {xs : List V} (e : Rd H a (.lst xs)) : TyN H (.ref a) "list"
  | tup {a : Addr} {xs : List V} (e : Rd H a (.tup xs)) : TyN H (.ref a) "tuple"
  | dK {a : Addr} {kvs : List (Key × V)} (e : H a = some (.dK kvs)) : TyN H (.ref a) "dict"
theorem TyN.x {K : PySem.W.Frag} {H : Hp} {x : V} {n : String} (t : TyN H x n) : TyX K H x (.type n) := by
  cases t with
  | non => exact .base .non
  | bl b => exact .base (.bl b)
  | int i => exact .base (.int i)
  | str s => exact .base (.str s)
  | lst e =>
    rcases e with e | ⟨o, e⟩
    · exact .base (.lst e)
    · exact .base (.frz e)
  | tup e =>
    rcases e with e | ⟨o, e⟩
    · exact .base (.tup e)
    · exact .fTuple e
  | dK e => exact .base (.dK e)
/-- isinstance(x, n) of a built-in class n, for the types above -/
def isA (t n : String) : Bool := t == n || (t == "bool" && n == "int")
def rIsI : List V → Hp → VK → Prop := fun xs H Q => ∃ x n t, xs = [x, .ty n] ∧ TyN H x t ∧ kitB t n = some (isA t n) ∧ Q (.bl (isA t n)) H
theorem c_isi {X : Cx} : CallR X (.builtin "isinstance") rIsI := call_imp call_isi fun xs H Q q => by
  obtain ⟨x, n, t, e, ty, k, q⟩ := q
  exact ⟨x, .ty n, .type t, .type n, isA t n, e, .ty n, ty.x, kit_ty k, q⟩

/-! ### fields, methods -/
/-- a reading closed under weaker ends -/
def mo (te : TE) : TE := fun σ H Q => ∃ Q0 : VK, te σ H Q0 ∧ ∀ v H', Q0 v H' → Q v H'
def moA (ta : TA) : TA := fun σ H Q => ∃ Q0 : List V → Hp → Prop, ta σ H Q0 ∧ ∀ v H', Q0 v H' → Q v H'
def eFld (C : Addr) (f : Str) (te : TE) : TE := fun σ H Q => te σ H fun x H1 => ∃ a dx fs v, x = .ref a ∧ H1 a = some (.ins C dx fs) ∧ fs.lookup f = some v ∧ Q v H1
def sSetF (C : Addr) (f : Str) (te tv : TE) : TS := fun D σ H => tv σ H fun y H1 => te σ H1 fun x H2 => ∃ a dx fs, x = .ref a ∧ H2 a = some (.ins C dx fs) ∧ fs.length < 1000 ∧ D.nx σ (upd H2 a (.ins C dx (putF f y fs)))
/-- o.f, a property -/
def eProp (C : Addr) (sp : Sp) (te : TE) : TE := fun σ H Q => te σ H fun x H1 => ∃ a dx fs, x = .ref a ∧ H1 a = some (.ins C dx fs) ∧ sp [.ref a] H1 Q E0
/-- o.f += e -/
def sAugF (C : Addr) (f : Str) (te tv : TE) (rd : V → V → Hp → VK → Prop) : TS := fun D σ H => te σ H fun x H1 => ∃ a dx fs v, x = .ref a ∧ H1 a = some (.ins C dx fs) ∧ fs.lookup f = some v ∧
  tv σ H1 fun y H2 => rd v y H2 fun z H3 => ∃ dx' fs', H3 a = some (.ins C dx' fs') ∧ fs'.length < 1000 ∧ D.nx σ (upd H3 a (.ins C dx' (putF f z fs')))
/-- x.append(e) -/
def eApp (te : TE) (ta : TA) : TE := fun σ H Q => te σ H fun x H1 => ∃ l, x = .ref l ∧ (∃ xs, H1 l = some (.lst xs)) ∧ ta σ H1 fun vs H2 => rAppend x vs H2 Q
section
variable {X : Cx} {C : Addr} {f : Str} {e ev o : Expr} {es : List Expr} {te tv : TE} {ta : TA} {pos pos' pos2 apos cpos : Pos}
theorem pe_mo (he : PE X e te) : PE X e (mo te) := ⟨fun pins s σ H Q I ⟨Q0, h, hq⟩ => thn (he.run pins s σ H Q0 I h) fun _ _ ⟨v, H', I', r, q⟩ => ⟨v, H', I', r, hq v H' q⟩⟩
theorem pa_mo (he : PA X es ta) : PA X es (moA ta) := ⟨fun pos pins s σ H Q I ⟨Q0, h, hq⟩ => thn (he.run pos pins s σ H Q0 I h) fun _ _ ⟨v, H', I', r, q⟩ => ⟨v, H', I', r, hq v H' q⟩⟩
theorem pe_fldC (c : Cls X.K C) (n : NoAttr X.K C f) (he : PE X e te) (hb : attributeBase e f X.env (eval e X.env) = eval e X.env := by rfl) : PE X (.Attribute e f pos) (eFld C f te) :=
  pe_imp (pe_fld (pe_mo he) hb) fun σ H Q q => ⟨_, q, fun v H' ⟨a, dx, fs, w, e1, e2, l, q⟩ => ⟨a, C, dx, fs, w, e1, e2, c, n, l, q⟩⟩
theorem ps_setF (c : Cls X.K C) (n : NoAttr X.K C f) (ha : PE X o te) (hv : PE X ev tv) (hs : swapsWith ev (some (.Attribute o f pos')) pos.line X.env = pure false := by rfl) :
    PS X (.Assign [.Attribute o f pos'] ev pos) (sSetF C f te tv) :=
  ps_imp (ps_fld (pe_mo ha) (pe_mo hv) hs) fun D σ H q => ⟨_, q, fun y H1 q1 => ⟨_, q1, fun x H2 ⟨a, dx, fs, e1, e2, l, q2⟩ => ⟨a, C, dx, fs, e1, e2, c, n, l, q2⟩⟩⟩
theorem pe_propC {CX : CXT} {k : Nat} {p g : Addr} {fd : FuncData} {ps : List Str} {sp : Sp} (he : PE X e te) (c : Cls X.K C) (hp : PropOf X.K C f p g) (F : FnOk X.prog X.w X.K X.mg X.base CX k g fd ps sp) (hr : Room (k + 1) X.A) (hb : Binds X.K fd ps []) (hx : Passes CX X.nox E0)
    (hab : attributeBase e f X.env (eval e X.env) = eval e X.env := by rfl) : PE X (.Attribute e f pos) (eProp C sp te) := pe_imp (pe_prop he c hp F hr hb .nil hx hab) fun _ _ _ q => q
theorem ps_augF {op : Operator} {rd : V → V → Hp → VK → Prop} (c : Cls X.K C) (n : NoAttr X.K C f) (ha : PE X o te) (hv : PE X ev tv) (hop : InOp X op rd) : PS X (.AugAssign (.Attribute o f pos') op ev pos) (sAugF C f te tv rd) :=
  ps_imp (ps_fldaug (pe_mo ha) (pe_mo hv) hop) fun D σ H q => ⟨_, q, fun x H1 ⟨a, dx, fs, v, e1, e2, l, q2⟩ => ⟨a, C, dx, fs, v, e1, e2, c, n, l, ⟨_, q2, fun y H2 q3 => q3⟩⟩⟩
theorem pe_app (ho : PE X o te) (ha : PA X (e :: es) ta)
    (hbase : attributeBase o "append" X.env (eval o X.env) = eval o X.env := by rfl)
    (hfew : ((backTo cpos (starEach (e :: es) X.env)).all (fun x => !x.1) && (backToKw cpos (keywordEach [] X.env)).all (fun x => x.1.isSome)
      && decide ((e :: es).length + ([] : List Keyword).length + (if ([] : List Keyword).isEmpty then 0 else 1) < 30)) = true := by rfl)
    (hline : (apos.endLine == cpos.line) = true := by rfl) (hs : starEach (e :: es) X.env = (false, eval e X.env) :: starEach es X.env := by rfl) (hplain : (backTo cpos (starEach es X.env)).any (·.1) = false := by rfl) :
    PE X (.Call (.Attribute o "append" apos) (e :: es) [] cpos) (eApp te ta) :=
  pe_imp (pe_bm PySem.F.plainAttrs_list PySem.F.slot_list_append PySem.F.type_list_append mt_append (pe_mo ho) ha hbase hfew hline hs hplain) fun σ H Q q =>
    ⟨_, q, fun x H1 ⟨l, e1, ⟨xs, hl⟩, q1⟩ => by subst e1; exact ⟨.inl ⟨rfl, _, .inl (.inl hl)⟩, q1⟩⟩
end

/-! ### for, over a list or a tuple; over a range -/
/-- what is walked stays as it is -/
def Stays (S : Sta) (a : Addr) (xs : List V) (R : Nat → Hp → Prop) : Prop := (∀ i H, i ≤ xs.length → R i H → RdS S H a (.lst xs)) ∨ (∀ i H, i ≤ xs.length → R i H → RdS S H a (.tup xs))
def iSeq (K : PySem.W.Frag) (te : TE) : TI := fun σ H R => te σ H fun x H1 => ∃ a, x = .ref a ∧ (((∃ xs, SqL K H1 a xs) ∧ R (Itl K a) H1) ∨ ((∃ xs, SqT K H1 a xs) ∧ R (Itt K a) H1))
def sFor (S : Sta) (te : TE) (g : TG) (tb : TS) : TS := fun D σ H => te σ H fun x H1 => ∃ a xs, x = .ref a ∧ ∃ Pv : Nat → L2.St → Hp → Prop, Pv 0 σ H1 ∧ Stays S a xs (fun i H => ∃ σ, Pv i σ H) ∧
  (∀ i y σ H, xs[i]? = some y → Pv i σ H → g y σ H fun σ' H' => tb ⟨Pv (i + 1), D.rt, D.nx, Pv (i + 1)⟩ σ' H') ∧ ∀ σ H, Pv xs.length σ H → D.nx σ H
def sForR (lo : Option TE) (hi : TE) (g : TG) (tb : TS) : TS := fun D σ H =>
  let body : Int → Int → L2.St → Hp → Prop := fun lo hi σ1 H1 => (-(2 ^ 62) ≤ lo ∧ lo < 2 ^ 62 ∧ -(2 ^ 62) ≤ hi ∧ hi < 2 ^ 62) ∧ ∃ Pv : Nat → L2.St → Hp → Prop, Pv 0 σ1 H1 ∧
    (∀ (i : Nat) σ H, lo + i < hi → Pv i σ H → g (.int (lo + i)) σ H fun σ' H' => tb ⟨Pv (i + 1), D.rt, D.nx, Pv (i + 1)⟩ σ' H') ∧ ∀ σ H, Pv (hi - lo).toNat σ H → D.nx σ H
  match lo with
  | none => hi σ H fun y H1 => ∃ j, y = .int j ∧ body 0 j σ H1
  | some lo => lo σ H fun x H1 => hi σ H1 fun y H2 => ∃ i j, x = .int i ∧ y = .int j ∧ body i j σ H2
section
variable {X : Cx} {tg l a b : Expr} {te ta tb' : TE} {g : TG} {tb : TS} {body : List Stmt} {pos p : Pos}
theorem pi_seq (hl : PE X l te) : PI X tg l (iSeq X.K te) := by
  refine ⟨fun pins s σ H R I h => ?_⟩
  refine thn (hl.run pins s σ H _ I h) fun v s1 ⟨x, H1, I1, r1, q1⟩ => ?_
  obtain ⟨a, e, q⟩ := q1
  subst e
  cases r1
  have fp : ∀ b ∈ [s1.heap.objs.size], ∀ {s2 : Shared} , Inv X pins σ H1 s2 → s2.heap.objs.size = s1.heap.objs.size → FpOk X pins H1 b := fun b hb s2 I2 hs => by
    have e : b = s1.heap.objs.size := by simpa using hb
    subst e
    exact I1.fpOk (Nat.le_refl _) (I1.hok.fresh (Nat.le_refl _))
  rcases q with ⟨⟨xs, hq⟩, q⟩ | ⟨⟨xs, hq⟩, q⟩
  · obtain ⟨its, rv, p, hz⟩ := I1.list hq
    refine wpAny_pyIter_list p.isList ?_
    refine ⟨s1.heap.objs.size, [s1.heap.objs.size], _, _, H1, rfl, I1.kept (t' := s1.toks) fun b o e => Heap.get?_push_of_some _ e, turn_list a _, ⟨_, Heap.get?_push_size _ rfl, rfl, rfl⟩, fun b hb => fp b hb I1 rfl, q⟩
  · obtain ⟨its, rv, p, hz⟩ := I1.tuple hq
    refine wpAny_pyIter_tuple (show s1.heap.IsTuple a its.toArray from p) ?_
    refine ⟨s1.heap.objs.size, [s1.heap.objs.size], _, _, H1, rfl, I1.kept (t' := s1.toks) fun b o e => Heap.get?_push_of_some _ e, turn_tuple a _, ⟨_, Heap.get?_push_size _ rfl, rfl, rfl⟩, fun b hb => fp b hb I1 rfl, q⟩
theorem ps_forSeq {S : Sta} (st : S = SK X.K) (hp : PassesOwn (model X.prog X.w) X.A X.env X.xe) (hc : X.calm = true) (hl : PE X l te) (hg : PG X tg g) (hb : PSs X body tb) (hs : ∀ x, foldedSetIterable l X.env x = pure x := by intro _; rfl) :
    PS X (.For tg l body [] pos) (sFor S te g tb) :=
  ps_imp (ps_for hp hc (pi_seq (pe_mo hl)) hg hb hs) fun D σ H q => ⟨_, q, fun x H1 ⟨a, xs, e, Pv, h0, hst, ht, hd⟩ => by
    refine ⟨a, e, ?_⟩
    rcases hst with z | z
    · exact .inl ⟨⟨xs, sqL st (z 0 H1 (Nat.zero_le _) ⟨σ, h0⟩)⟩, for_list (K := X.K) (a := a) (xs := xs) Pv h0 (fun i σ H hi p => sqL st (z i H hi ⟨σ, p⟩)) ht hd⟩
    · exact .inr ⟨⟨xs, sqT st (z 0 H1 (Nat.zero_le _) ⟨σ, h0⟩)⟩, for_tup (K := X.K) (a := a) (xs := xs) Pv h0 (fun i σ H hi p => sqT st (z i H hi ⟨σ, p⟩)) ht hd⟩⟩
theorem ps_forR1 (hp : PassesOwn (model X.prog X.w) X.A X.env X.xe) (hc : X.calm = true) (hgl : Gl X "range") (hm : X.mg "range" = none) (ha : PE X a ta) (hg : PG X tg g) (hb : PSs X body tb) (hs : starEach [a] X.env = (false, eval a X.env) :: starEach [] X.env := by rfl)
    (hs' : ∀ x, foldedSetIterable (.Call (.Name "range" p) [a] [] pos2) X.env x = pure x := by intro _; rfl) :
    PS X (.For tg (.Call (.Name "range" p) [a] [] pos2) body [] pos) (sForR none ta g tb) :=
  ps_imp (ps_for hp hc (pi_range1 hgl hm (pa_cons (pe_mo ha) pa_nil hs) hs) hg hb hs') fun D σ H q => ⟨_, q, fun y H1 ⟨j, e, ⟨_, _, h1, h2⟩, Pv, h0, ht, hd⟩ => by
    subst e
    refine ⟨j, rfl, h1, h2, for_range (lo := 0) (n := j.toNat) Pv h0 (fun i σ H hi p => ht i σ H (by omega) p) fun σ H p => hd σ H (by rw [Int.sub_zero]; exact p)⟩⟩
theorem ps_forR2 (hp : PassesOwn (model X.prog X.w) X.A X.env X.xe) (hc : X.calm = true) (hgl : Gl X "range") (hm : X.mg "range" = none) (ha : PE X a ta) (hb' : PE X b tb') (hg : PG X tg g) (hb : PSs X body tb) (hs : starEach [a, b] X.env = (false, eval a X.env) :: starEach [b] X.env := by rfl) (hs2 : starEach [b] X.env = (false, eval b X.env) :: starEach [] X.env := by rfl)
    (hs' : ∀ x, foldedSetIterable (.Call (.Name "range" p) [a, b] [] pos2) X.env x = pure x := by intro _; rfl) :
    PS X (.For tg (.Call (.Name "range" p) [a, b] [] pos2) body [] pos) (sForR (some ta) tb' g tb) :=
  ps_imp (ps_for hp hc (pi_range2 hgl hm (pa_cons (pe_mo ha) (pa_cons (pe_mo hb') pa_nil hs2) hs) (hs.trans (by rw [hs2]; rfl)) hs2) hg hb hs') fun D σ H q => ⟨_, q, fun x H1 q1 => ⟨_, q1, fun y H2 ⟨i, j, e, e', ⟨h1, h2, h3, h4⟩, Pv, h0, ht, hd⟩ => by
    subst e e'
    exact ⟨i, j, rfl, ⟨h1, h2, h3, h4⟩, for_range (lo := i) (n := (j - i).toNat) Pv h0 (fun k σ H hi p => ht k σ H (by omega) p) hd⟩⟩⟩
end

/-! ### list comprehensions -/
def eLc (S : Sta) (te : TE) (g : TG) (tt : TT) (tel : TE) (vs : List Nat) : TE := fun σ H Q => te σ H fun x H1 => ∃ a xs, x = .ref a ∧ ∃ k : Bool, RdS S H1 a (if k then .lst xs else .tup xs) ∧ ∀ D, H1 D = none → ∃ Pv : Nat → Hp → Prop, Pv 0 (upd H1 D (.lst [])) ∧ (∀ i H, i ≤ xs.length → Pv i H → RdS S H a (if k then .lst xs else .tup xs)) ∧
  (∀ i y H, xs[i]? = some y → Pv i H → g y (wipe σ vs) H fun σ2 H2 => wipe σ2 vs = wipe σ vs ∧ tt σ2 H2 fun b H3 => if b = true then tel σ2 H3 fun z H4 => ∃ acc, H4 D = some (.lst acc) ∧ acc.length < sizeLine ∧ Pv (i + 1) (upd H4 D (.lst (acc ++ [z]))) else Pv (i + 1) H3) ∧
  ∀ H, Pv xs.length H → Q (.ref D) H
def eLcR (lo : Option TE) (hi : TE) (g : TG) (tt : TT) (tel : TE) (vs : List Nat) : TE := fun σ H Q =>
  let body : Int → Int → Hp → Prop := fun lo hi H1 => (-(2 ^ 62) ≤ lo ∧ lo < 2 ^ 62 ∧ -(2 ^ 62) ≤ hi ∧ hi < 2 ^ 62) ∧ ∀ D, H1 D = none → ∃ Pv : Nat → Hp → Prop, Pv 0 (upd H1 D (.lst [])) ∧
    (∀ (i : Nat) H, lo + i < hi → Pv i H → g (.int (lo + i)) (wipe σ vs) H fun σ2 H2 => wipe σ2 vs = wipe σ vs ∧ tt σ2 H2 fun b H3 => if b = true then tel σ2 H3 fun z H4 => ∃ acc, H4 D = some (.lst acc) ∧ acc.length < sizeLine ∧ Pv (i + 1) (upd H4 D (.lst (acc ++ [z]))) else Pv (i + 1) H3) ∧
    ∀ H, Pv (hi - lo).toNat H → Q (.ref D) H
  match lo with
  | none => hi σ H fun y H1 => ∃ j, y = .int j ∧ body 0 j H1
  | some lo => lo σ H fun x H1 => hi σ H1 fun y H2 => ∃ i j, x = .int i ∧ y = .int j ∧ body i j H2
section
variable {X : Cx} {tg l a b elt : Expr} {ifs : List Expr} {te ta tb' tel : TE} {tt : TT} {g : TG} {scope : Scope} {own : List (Str × Nat)} {pos p pos2 spos py : Pos}
/-- what a block of a comprehension asks -/
structure Blk (X : Cx) (scope : Scope) (tg elt : Expr) (ifs : List Expr) (g : TG) (tt : TT) (tel : TE) : Prop where
  hg : ∀ (s : Shared) (H : Hp) (C : Addr) (cl : List (Str × Addr)) (fp : List Addr), PG (X.blk s H scope (compEnvC scope cl C X.env) fp) tg g
  ht : ∀ (s : Shared) (H : Hp) (C : Addr) (cl : List (Str × Addr)) (fp : List Addr), PTs (X.blk s H scope (compEnvC scope cl C X.env) fp) ifs tt
  he : ∀ (s : Shared) (H : Hp) (C : Addr) (cl : List (Str × Addr)) (fp : List Addr), PE (X.blk s H scope (compEnvC scope cl C X.env) fp) elt tel
theorem lc_of {K : PySem.W.Frag} {S : Sta} (st : S = SK K) {vs : List Nat} {σ : L2.St} {H : Hp} {Q : VK} (q : eLc S te g tt tel vs σ H Q) : tLc (iSeq K (mo te)) g tt tel vs σ H Q := ⟨_, q, fun x H1 ⟨a, xs, e, k, rd, q⟩ => by
    refine ⟨a, e, ?_⟩
    cases k with
    | true =>
      refine .inl ⟨⟨xs, sqL st rd⟩, fun D hD => ?_⟩
      obtain ⟨Pv, h0, z, ht, hd⟩ := q D hD
      exact lc_list (K := K) (a := a) (xs := xs) Pv h0 (fun i H hi p => sqL st (z i H hi p)) ht hd
    | false =>
      refine .inr ⟨⟨xs, sqT st rd⟩, fun D hD => ?_⟩
      obtain ⟨Pv, h0, z, ht, hd⟩ := q D hD
      exact lc_tup (K := K) (a := a) (xs := xs) Pv h0 (fun i H hi p => sqT st (z i H hi p)) ht hd⟩
theorem pe_lcSeq {S : Sta} (st : S = SK X.K) (hc : X.calm = true) (hN : X.N.Nodup) (hl : PE X l te) (ok : BlkOk X.N X.env.scope scope own) (B : Blk X scope tg elt ifs g tt tel) (hs : ∀ x, foldedSetIterable l X.env x = pure x := by intro _; rfl) :
    PE X (.ListComp elt [⟨tg, l, ifs, 0⟩] scope pos) (eLc S te g tt tel (own.map (·.2))) := pe_imp (pe_lc hc hN (pi_seq (pe_mo hl)) ok B.hg B.ht B.he hs) fun _ _ _ q => lc_of st q
theorem ps_lcSeq {S : Sta} {i : Nat} {y : Str} (st : S = SK X.K) (hc : X.calm = true) (hN : X.N.Nodup) (hy : X.N[i]? = some y) (hyl : X.env.scope.names.lookup y = some .local)
    (hsw : swapsWith (.ListComp elt [⟨tg, l, ifs, 0⟩] scope pos) (some (.Name y py)) spos.line X.env = pure true) (hl : PE X l te) (ok : BlkOk X.N X.env.scope scope own) (B : Blk X scope tg elt ifs g tt tel) (hs : ∀ x, foldedSetIterable l X.env x = pure x := by intro _; rfl) :
    PS X (.Assign [.Name y py] (.ListComp elt [⟨tg, l, ifs, 0⟩] scope pos) spos) (tAsg (eLc S te g tt tel (own.map (·.2))) (gName i)) :=
  ps_imp (ps_setLc hc hN hy hyl hsw (pi_seq (pe_mo hl)) ok B.hg B.ht B.he hs) fun _ _ _ q => lc_of st q
theorem lcR1_of {vs : List Nat} {σ : L2.St} {H : Hp} {Q : VK} (q : eLcR none ta g tt tel vs σ H Q) : tLc (iRng1 (tCons (mo ta) tNil)) g tt tel vs σ H Q := ⟨_, q, fun y H1 ⟨j, e, ⟨_, _, h1, h2⟩, q⟩ => by
    subst e
    refine ⟨j, rfl, h1, h2, fun D hD => ?_⟩
    obtain ⟨Pv, h0, ht, hd⟩ := q D hD
    exact lc_range (lo := 0) (n := j.toNat) Pv h0 (fun i H hi p => ht i H (by omega) p) fun H p => hd H (by rw [Int.sub_zero]; exact p)⟩
theorem pe_lcR1 (hc : X.calm = true) (hN : X.N.Nodup) (hgl : Gl X "range") (hm : X.mg "range" = none) (ha : PE X a ta) (ok : BlkOk X.N X.env.scope scope own) (B : Blk X scope tg elt ifs g tt tel) (hs : starEach [a] X.env = (false, eval a X.env) :: starEach [] X.env := by rfl)
    (hs' : ∀ x, foldedSetIterable (.Call (.Name "range" p) [a] [] pos2) X.env x = pure x := by intro _; rfl) :
    PE X (.ListComp elt [⟨tg, .Call (.Name "range" p) [a] [] pos2, ifs, 0⟩] scope pos) (eLcR none ta g tt tel (own.map (·.2))) := pe_imp (pe_lc hc hN (pi_range1 hgl hm (pa_cons (pe_mo ha) pa_nil hs) hs) ok B.hg B.ht B.he hs') fun _ _ _ q => lcR1_of q
theorem ps_lcR1 {i : Nat} {y : Str} (hc : X.calm = true) (hN : X.N.Nodup) (hy : X.N[i]? = some y) (hyl : X.env.scope.names.lookup y = some .local) (hgl : Gl X "range") (hm : X.mg "range" = none)
    (hsw : swapsWith (.ListComp elt [⟨tg, .Call (.Name "range" p) [a] [] pos2, ifs, 0⟩] scope pos) (some (.Name y py)) spos.line X.env = pure true) (ha : PE X a ta) (ok : BlkOk X.N X.env.scope scope own) (B : Blk X scope tg elt ifs g tt tel)
    (hs : starEach [a] X.env = (false, eval a X.env) :: starEach [] X.env := by rfl) (hs' : ∀ x, foldedSetIterable (.Call (.Name "range" p) [a] [] pos2) X.env x = pure x := by intro _; rfl) :
    PS X (.Assign [.Name y py] (.ListComp elt [⟨tg, .Call (.Name "range" p) [a] [] pos2, ifs, 0⟩] scope pos) spos) (tAsg (eLcR none ta g tt tel (own.map (·.2))) (gName i)) :=
  ps_imp (ps_setLc hc hN hy hyl hsw (pi_range1 hgl hm (pa_cons (pe_mo ha) pa_nil hs) hs) ok B.hg B.ht B.he hs') fun _ _ _ q => lcR1_of q
end

/-! ### in, by an own __contains__ -/
section
open PySem.W
variable {prog : Program} {w : World} {A : Around} {E : Value → Shared → Prop} {s : Shared} {K : Frag} {x C f : Addr} {ox : Obj} {od : Option Obj}
theorem unlessNone_K {M : Model} {name : Str} {args : List Value} {refuse : Sem Value} {Q : Option Value → Shared → Prop} (X : K.In s.heap) (I : InstAt s.heap x ox C od) (hs : findIn K (.ref C) name = some (some (.ref f))) (hf : isFn K (.ref f) = true)
    (h : wpAny M A (call (.ref f) (.ref x :: args)) (fun v => Q (some v)) E s) : wpAny M A (callSpecialUnlessNone? (.ref x) name args refuse) Q E s := by
  simp only [callSpecialUnlessNone?]
  refine wpAny_bind (wpAny_bind (I.type.here ((looks_findIn X hs).here ?_)))
  refine wpAny_holding (wpAny_bind ((bind_fn X _ (beq_iff_eq.mp hf)).here ?_))
  show wpAny _ _ (if (Value.ref f == Value.none) = true then _ else _) _ _ _
  rw [if_neg (by simp)]
  exact wpAny_bind (wpAny_mono h (fun v s' h' => wpAny_pure h') fun _ _ h' => h')
theorem contains_K {v : Value} {Q : Bool → Shared → Prop} (X : K.In s.heap) (I : InstAt s.heap x ox C od) (hs : findIn K (.ref C) "__contains__" = some (some (.ref f))) (hf : isFn K (.ref f) = true)
    (h : wpAny (model prog w) A (call (.ref f) [.ref x, v]) (PySem.W.BoolBack Q) E s) : wpAny (model prog w) A (contains (.ref x) v) Q E s := by
  unfold contains
  refine wpAny_holding ?_
  show wpAny _ _ (specialOf (.ref x) (Str.ofString "__contains__") >>= _) _ _ _
  refine wpAny_bind (wpAny_bind (I.type.here ((looks_findIn X hs).here ?_)))
  show wpAny _ _ (if (some (Value.ref f) == some Value.none) = true then _ else _) _ _ _
  rw [if_neg (by simp)]
  refine wpAny_bind (unlessNone_K X I hs hf (wpAny_mono h (fun r s' hr => ?_) fun _ _ y => y))
  cases r <;> first | exact hr.elim | skip
  exact wpAny_truthy_bool hr
end
section
variable {X : Cx} {CX : CXT} {C f : Addr} {fd : FuncData} {ps : List Str} {sp : Sp} {E : XK} {k : Nat}
/-- y in x, x an instance of the class at C, by its __contains__ -/
def rInOwn (C : Addr) (neg : Bool) (sp : Sp) (E : XK) : R2 := fun y x H Q => ∃ a dx fs, x = .ref a ∧ H a = some (.ins C dx fs) ∧ sp [x, y] H (fun v H' => ∃ b, v = .bl b ∧ Q (.bl (if neg then !b else b)) H') E
theorem in_own {pins : List (Addr × Obj)} {σ : L2.St} {H : Hp} {s : Shared} {a dx : Addr} {fs : List (Str × V)} {y : V} {u : Value} {Q : Bool → Hp → Prop} (F : FnOk X.prog X.w X.K X.mg X.base CX k f fd ps sp) (hm : Meth X.K C "__contains__" f) (hr : Room k X.A) (hb : Binds X.K fd ps []) (hx : Passes CX X E)
    (I : Inv X pins σ H s) (ry : RelV y u) (ha : H a = some (.ins C dx fs)) (h : sp [.ref a, y] H (fun v H' => ∃ b, v = .bl b ∧ Q b H') E) :
    wpAny (model X.prog X.w) X.A (contains (.ref a) u) (TP X pins σ Q) X.xe s := by
  obtain ⟨mA, J, _⟩ := ins_get I.hok ha
  obtain ⟨od, J, _⟩ := J.look
  refine contains_K I.kIn J hm.at_ hm.fn (thn (run_fn (us := [.ref a, u]) (vs := [.ref a, y]) (dvs := []) (ds := []) F hr hb .nil hx I (.cons rfl (.cons ry .nil)) h) fun v s' q => ?_)
  obtain ⟨z, H', I', rz, b, ez, q⟩ := q
  subst ez
  cases rz
  exact ⟨H', I', q⟩
theorem o_inOwn (F : FnOk X.prog X.w X.K X.mg X.base CX k f fd ps sp) (hm : Meth X.K C "__contains__" f) (hr : Room k X.A) (hb : Binds X.K fd ps []) (hx : Passes CX X E) : OpR X (compareOp .In) (rInOwn C false sp E) := fun pins s σ H y x u v Q I ry rx h => by
  obtain ⟨a, dx, fs, e, ha, q⟩ := h
  subst e
  cases rx
  show wpAny _ _ (contains (.ref a) u >>= fun b => pure (Value.bool b)) _ _ _
  refine wpAny_bind (thn (in_own F hm hr hb hx I ry ha (Q := fun b H' => Q (.bl b) H') q) fun b s' hq => ?_)
  obtain ⟨H', I', q⟩ := hq
  exact wpAny_pure ⟨.bl b, H', I', rfl, q⟩
theorem o_notInOwn (F : FnOk X.prog X.w X.K X.mg X.base CX k f fd ps sp) (hm : Meth X.K C "__contains__" f) (hr : Room k X.A) (hb : Binds X.K fd ps []) (hx : Passes CX X E) : OpR X (compareOp .NotIn) (rInOwn C true sp E) := fun pins s σ H y x u v Q I ry rx h => by
  obtain ⟨a, dx, fs, e, ha, q⟩ := h
  subst e
  cases rx
  show wpAny _ _ (contains (.ref a) u >>= fun b => pure (Value.bool (!b))) _ _ _
  refine wpAny_bind (thn (in_own F hm hr hb hx I ry ha (Q := fun b H' => Q (.bl (!b)) H') q) fun b s' hq => ?_)
  obtain ⟨H', I', q⟩ := hq
  exact wpAny_pure ⟨.bl (!b), H', I', rfl, q⟩
end

/-! ### classes: constants, classmethods, a class held in a name -/
def eCon (v : V) : TE := fun _ H Q => Q v H
/-- the argument's heap, then a new instance and __init__ (tMake), the class in slot i -/
def eMakeL (i : Nat) (C : Addr) (sp : Sp) (dvs : List V) (E : XK) (t : TA) : TE := fun σ H Q => σ[i]? = some (some (.ref C)) ∧ tMake C sp dvs E t σ H Q
section
variable {X : Cx} {CX : CXT} {C f p g : Addr} {mc u : Value} {fd : FuncData} {ps : List Str} {sp : Sp} {E : XK} {k i : Nat} {x y m : Str} {v : V} {pos pos2 p2 apos : Pos} {e : Expr} {es : List Expr} {t : TA} {dvs : List V} {ds : List Value}
theorem pe_clsName (hg : Gl X x) (hm : X.mg x = some (.ref C)) (hdb : (x == ("__debug__" : Str)) = false := by decide) : PE X (.Name x p2) (eCon (.ref C)) := pe_imp (pe_glob hg hm (v := .ref C) rfl hdb) fun _ _ _ q => q
theorem pe_clsCon (r : ClX.CRead X.K C mc) (c : ClX.CVal X.K C mc y v u) (hg : Gl X x) (hm : X.mg x = some (.ref C)) (hdb : (x == ("__debug__" : Str)) = false := by decide)
    (hb : attributeBase (.Name x p2) y X.env (eval (.Name x p2) X.env) = eval (.Name x p2) X.env := by rfl) : PE X (.Attribute (.Name x p2) y pos) (eCon v) :=
  pe_imp (ClX.pe_cval (pe_clsName hg hm hdb) hb) fun _ _ _ q => ⟨C, mc, v, u, rfl, r, c, q⟩
theorem pe_makeL (M : Mk X.K C f) (F : FnOk X.prog X.w X.K X.mg X.base CX k f fd ps sp) (hr : Room (k + 1) X.A) (hN : X.N[i]? = some x) (hv : Vis X.env.scope x) (hb : Binds X.K fd ps ds) (hd : Vals dvs ds) (hx : Passes CX X E)
    (ha : PA X (e :: es) t) (hdb : (x == ("__debug__" : Str)) = false := by decide) (hcd : (x == ("__classdict__" : Str)) = false := by decide) (he : starEach (e :: es) X.env = (false, eval e X.env) :: starEach es X.env := by rfl) (hpl : (backTo pos (starEach es X.env)).any (·.1) = false := by rfl) :
    PE X (.Call (.Name x p2) (e :: es) [] pos) (eMakeL i C sp dvs E t) := by
  refine ⟨fun pins s σ H Q I h => ?_⟩
  obtain ⟨hs, ht⟩ := h
  refine wpAny_Call_Name_kw (thn ((pe_var (pos := p2) hN hv hdb hcd).run pins s σ H (fun v H1 => v = .ref C ∧ H1 = H) I ⟨.ref C, hs, rfl, rfl⟩) fun u s1 ⟨v, H1, I1, r1, q1⟩ => ?_)
  obtain ⟨rfl, rfl⟩ := q1
  cases r1
  refine PySem.W.callWith_K (h₀ := X.base) I.ok.mod.kin M.kp (thn (ha.run pos pins s1 σ _ _ I1 ht) fun us s2 ⟨vs, H2, I2, r, q⟩ => ⟨I2.kIn, ?_⟩) he hpl
  exact run_make M F hr hb hd hx I2 r q
end

/-- a module's constant -/
theorem pe_constI {X : Cx} {x : Str} {i : Int} {t : Tok} {p2 : Pos} (hm : X.mg x = some (.int i t)) (hg : Gl X x) (hdb : (x == ("__debug__" : Str)) = false := by decide) : PE X (.Name x p2) (tC (.int i)) := pe_imp (pe_glob hg hm (v := .int i) ⟨t, rfl⟩ hdb) fun _ _ _ q => q
def rAug : TIp := ipI fun i j => i + j
def rAugS : TIp := ipI fun i j => i - j
theorem ip_addI {X : Cx} : PIp X .Add rAug := ip_add
def rInAdd : V → V → Hp → VK → Prop := fun x y H Q => ∃ i j, x = .int i ∧ y = .int j ∧ Q (.int (i + j)) H
def rInSub : V → V → Hp → VK → Prop := fun x y H Q => ∃ i j, x = .int i ∧ y = .int j ∧ Q (.int (i - j)) H
theorem in_addI {X : Cx} : InOp X .Add rInAdd := in_add
theorem in_subI {X : Cx} : InOp X .Sub rInSub := in_sub
theorem ip_subI {X : Cx} : PIp X .Sub rAugS := ip_sub
def spRaw (sp : Sp) : Sp := fun vs H Q E => sp (vs ++ []) H Q E
/-! ### a def's promise, by its own body -/
def start (n : Nat) (vs : List V) : L2.St := vs.map some ++ List.replicate (n - vs.length) none
/-- n slots, m parameters -/
def spB (n m : Nat) (t : XK → TS) : Sp := fun vs H Q E => vs.length = m ∧ t E { nx := fun _ H' => Q .non H', rt := Q } (start n vs) H
theorem start_eq (N : List Str) (vs : List V) : L2.start N vs = start N.length vs := rfl
theorem passE {P : Program} {w : World} {K : PySem.W.Frag} {mg : Str → Option Value} {base : Heap} {N : List Str} {qual : Str} {scope : Scope} {f : Addr} {cd : Value} {A : Around} {outer : List Env} {s : Shared} {H : Hp} {E : XK} :
    Passes (L2.CX P w) (cxOf (L2.CX P w) P w K mg base N qual scope f cd A outer s H E) E := passes_call (takes_of rfl rfl rfl rfl) fun _ _ _ _ h => h
/-- where nothing is let out -/
theorem passN {X : Cx} : Passes (L2.CX X.prog X.w) X E0 := fun _ _ _ _ _ _ _ h => by
  obtain ⟨_, _, _, _, _, _, _, _, _, _, _, _, z⟩ := h
  exact z.elim
theorem ok_body {P : Program} {w : World} {K : PySem.W.Frag} {mg : Str → Option Value} {base : Heap} {x qual : Str} {st : Stmt} {f : Addr} {fd : FuncData} {N ps : List Str} {n m k : Nat} {t : XK → TS} (F : Fun K x qual st f fd) (S : FnScope N ps (defScope st)) (hn : N.length = n) (hm : ps.length = m)
    (h : ∀ (cdv : Value) (A : Around) (outer : List Env) (s : Shared) (H : Hp) (E : XK), Room k (A.deeper (envOfC qual (defScope st) s.heap.objs.size f cdv)) → PSs (cxOf (L2.CX P w) P w K mg base N qual (defScope st) f cdv A outer s H E) (defBody st) (t E)) :
    FnOk P w K mg base (L2.CX P w) (k + 1) f fd ps (spB n m t) := by
  subst hn
  subst hm
  exact F.okX S (fun vs H Q E q => q.1) fun cdv A outer s H vs Q E hr q => ⟨t E, h cdv A outer s H E hr, q.2⟩
/-! ### chains of comparisons, as tests -/
abbrev TC := L2.St → V → Hp → VK → Prop
def cLast (r : R2) (tb : TE) : TC := fun σ x H Q => tb σ H fun y H1 => r x y H1 Q
def cLink (r : R2) (tb : TE) (tl : TC) : TC := fun σ x H Q => tb σ H fun y H1 => r x y H1 fun z H2 => ∃ k, z = .bl k ∧ (if k = true then tl σ y H2 Q else Q (.bl false) H2)
def tChn (ta : TE) (tl : TC) : TE := fun σ H Q => ta σ H fun x H1 => tl σ x H1 Q
structure PCh (X : Cx) (ops : List CmpOp) (es : List Expr) (tl : TC) : Prop where
  run : ∀ (pos : Pos) (pins : List (Addr × Obj)) (s : Shared) (σ : L2.St) (H : Hp) (x : V) (v : Value) (Q : Bool → Hp → Prop), Inv X pins σ H s → RelV x v → tl σ x H (fun z H' => ∃ k, z = .bl k ∧ Q k H') → wpAny (model X.prog X.w) X.A (testChain pos v ops (evalEach es X.env)) (TP X pins σ Q) X.xe s
section
variable {X : Cx} {a b e e' : Expr} {es : List Expr} {ta tb : TE} {tl : TC} {r : R2} {op op' : CmpOp} {ops : List CmpOp} {pos : Pos}
theorem pch_last (ho : OpR X (compareOp op) r) (hb : PE X b tb) : PCh X [op] [b] (cLast r tb) :=
  ⟨fun pos pins s σ H x v Q I rx q => test_last (thn (hb.run pins s σ H _ I q) fun u s1 ⟨y, H1, I1, r1, q1⟩ => thn (ho pins s1 σ H1 x y v u _ I1 rx r1 q1) fun d s2 ⟨z, H2, I2, r2, k, e, q2⟩ => by
    subst e
    cases r2
    exact wpAny_truthy_bool ⟨H2, I2, q2⟩)⟩
theorem pch_link (ho : OpR X (compareOp op) r) (hb : PE X b tb) (hl : PCh X (op' :: ops) (e :: es) tl) : PCh X (op :: op' :: ops) (b :: e :: es) (cLink r tb tl) :=
  ⟨fun pos pins s σ H x v Q I rx q => test_link (thn (hb.run pins s σ H _ I q) fun u s1 ⟨y, H1, I1, r1, q1⟩ => thn (ho pins s1 σ H1 x y v u _ I1 rx r1 q1) fun d s2 ⟨z, H2, I2, r2, k, e, q2⟩ => by
    subst e
    cases r2
    refine wpAny_truthy_bool ?_
    cases k with
    | false =>
      obtain ⟨k', e', q'⟩ := q2
      cases e'
      exact ite_ff ⟨H2, I2, q'⟩
    | true => exact ite_tt (hl.run pos pins s2 σ H2 y u Q I2 r1 q2))⟩
theorem pt_chn (ha : PE X a ta) (hl : PCh X (op :: op' :: ops) (e :: e' :: es) tl) (hm : lastMarks (op :: op' :: ops) (e :: e' :: es) = false := by with_unfolding_all rfl) : PT X (.Compare a (op :: op' :: ops) (e :: e' :: es) pos) (tTest (tChn ta tl)) :=
  ⟨fun pins s σ H Q I h => isTrue_chain (thn (ha.run pins s σ H _ I h) fun v s1 ⟨x, H1, I1, r1, q1⟩ => hl.run pos pins s1 σ H1 x v Q I1 r1 q1) hm⟩
/-! ### x.bit_length() -/
def rBits : V → Hp → VK → Prop := fun x H Q => ∃ i, x = .int i ∧ Q (.int (Builtin.Int.intBits i : Nat)) H
theorem pe_bitsU {o : Expr} {to : TE} {apos pos : Pos} (ho : PE X o to) (hbase : attributeBase o "bit_length" X.env (eval o X.env) = eval o X.env := by rfl) (hline : (apos.endLine == pos.line) = true := by rfl) : PE X (.Call (.Attribute o "bit_length" apos) [] [] pos) (tUn rBits to) := pe_bits ho hbase hline
end
end Y

/-! Errors: defs that say super(), own exceptions, try with several clauses. -/
namespace Y
open PySem PySem.Spec PyProof.Rows L2
open PySem.W (ksEnv ksFn)

/-! ### statements under a known activation -/
structure PSA (X : Cx) (c : Code) (st : Stmt) (t : TS) : Prop where
  run : ∀ (pins : List (Addr × Obj)) (s : Shared) (σ : L2.St) (H : Hp) (D : Ends), Inv X pins σ H s → t D σ H → _root_.PySem.wpAt (model X.prog X.w) X.A c (exec st X.env) (SP X pins D) X.xe s
structure PSsA (X : Cx) (c : Code) (st : List Stmt) (t : TS) : Prop where
  run : ∀ (pins : List (Addr × Obj)) (s : Shared) (σ : L2.St) (H : Hp) (D : Ends), Inv X pins σ H s → t D σ H → _root_.PySem.wpAt (model X.prog X.w) X.A c (execs st X.env) (SP X pins D) X.xe s
section
variable {X : Cx} {c : Code} {st : Stmt} {rest body orelse : List Stmt} {t u : TS} {tc : TT} {test : Expr} {pos : Pos}
theorem psa_of (h : PS X st t) : PSA X c st t := ⟨fun pins s σ H D I q => wpAt_of_wpAny (h.run pins s σ H D I q)⟩
theorem pssa_of (h : PSs X rest t) : PSsA X c rest t := ⟨fun pins s σ H D I q => wpAt_of_wpAny (h.run pins s σ H D I q)⟩
theorem pssa_cons (h : PSA X c st t) (r : PSsA X c rest u) : PSsA X c (st :: rest) (tSeq t u) := ⟨fun pins s σ H D I q => by
  refine ks_wpAt_execs_cons (ks_wpAt_mono (h.run pins s σ H { D with nx := u D } I q) (fun f s1 hs => ?_) fun _ _ z => z)
  cases f with
  | next =>
    obtain ⟨σ1, H1, I1, q1⟩ := hs
    exact r.run pins s1 σ1 H1 D I1 q1
  | ret v => exact hs
  | brk => exact hs
  | cont => exact hs⟩
theorem pssa_one (h : PSA X c st t) : PSsA X c [st] t := ⟨fun pins s σ H D I q => by
  refine ks_wpAt_execs_cons (ks_wpAt_mono (h.run pins s σ H D I q) (fun f s1 hs => ?_) fun _ _ z => z)
  cases f with
  | next =>
    obtain ⟨σ1, H1, I1, q1⟩ := hs
    exact wpAt_of_wpAny (wpAny_execs_nil ⟨σ1, H1, I1, q1⟩)
  | ret v => exact hs
  | brk => exact hs
  | cont => exact hs⟩
theorem psa_if (hc : PT X test tc) (ha : PSsA X c body t) (hb : PSsA X c orelse u) : PSA X c (.If test body orelse pos) (tIfS tc t u) := ⟨fun pins s σ H D I q => by
  refine ks_wpAt_If (wpAt_of_wpAny (thn (hc.run pins s σ H _ I q) fun b s1 ⟨H1, I1, q1⟩ => ?_))
  cases b with
  | true => exact ha.run pins s1 σ H1 D I1 q1
  | false => exact hb.run pins s1 σ H1 D I1 q1⟩
end

/-! ### a def that closes over __class__ -/
structure FnScS (N P : List Str) (sc : Scope) : Prop where
  kind : sc.kind = .function
  co : sc.isCoroutine = false
  gen : sc.isGenerator = false
  nd : N.Nodup
  pre : N.take P.length = P
  par : ∀ x ∈ P, sc.names.lookup x = some .local
  nocell : ∀ y ∈ sc.names, y.2 ≠ .cell
  free : ∀ y ∈ sc.names, y.2 = .free → y.1 = "__class__"
def cxS (P : Program) (w : World) (K : PySem.W.Frag) (mg : Str → Option Value) (base : Heap) (N : List Str) (qual : Str) (scope : Scope) (f : Addr) (cd : Value) (cc : Addr) (A : Around) (outer : List Env) (s : Shared) (H : Hp) (E : XK) : Cx where
  prog := P
  w := w
  K := K
  mg := mg
  base := base
  A := A.deeper (ksEnv qual scope s.heap.objs.size f cd cc)
  N := N
  s_0 := s
  H_0 := H
  env := ksEnv qual scope s.heap.objs.size f cd cc
  outer := outer
  stack := ksEnv qual scope s.heap.objs.size f cd cc :: outer
  ex := []
  calm := true
  fn := fun _ => false
  pn := []
  xe := fun e s' => wpAny (model P w) (A.deeper (ksEnv qual scope s.heap.objs.size f cd cc)) (leaving (ksEnv qual scope s.heap.objs.size f cd cc) e) (fun _ s'' => L2.CX P w outer H s E e s'') (fun e' s'' => L2.CX P w outer H s E e' s'') s'
theorem lookup_nd {l : List (Str × Value)} {x : Str} {v : Value} (nd : (l.map (·.1)).Nodup) (m : (x, v) ∈ l) : l.lookup x = some v := by
  induction l with
  | nil => cases m
  | cons p r ih =>
    obtain ⟨y, z⟩ := p
    rw [List.map_cons, List.nodup_cons] at nd
    rcases List.mem_cons.mp m with e | m
    · cases e
      simp [List.lookup]
    · have hne : x ≠ y := fun e => nd.1 (by rw [← e]; exact List.mem_map_of_mem (f := (·.1)) m)
      have hb : (x == y) = false := by simpa using hne
      show (match x == y with | true => some z | false => r.lookup x) = some v
      rw [hb]
      exact ih nd.2 m
theorem zip_get {P : List Str} {us : List Value} {i : Nat} {x : Str} {u : Value} (h1 : P[i]? = some x) (h2 : us[i]? = some u) : (x, u) ∈ P.zip us := by
  refine List.mem_of_getElem? (i := i) ?_
  rw [List.getElem?_zip_eq_some]
  exact ⟨h1, h2⟩
theorem zip_keys : ∀ {P : List Str} {us : List Value}, us.length = P.length → (P.zip us).map (·.1) = P
  | [], [], _ => rfl
  | p :: P, u :: us, h => by
    rw [List.zip_cons_cons, List.map_cons, zip_keys (by simpa using h)]
  | [], _ :: _, h => by simp at h
  | _ :: _, [], h => by simp at h
theorem inv_startS {P : Program} {w : World} {K : PySem.W.Frag} {mg : Str → Option Value} {base : Heap} {N ps : List Str} {qual : Str} {scope : Scope} {f cc D : Addr} {cd cl : Value} {cld : Option Addr} {csl : Array (Option Value)} {A : Around} {outer : List Env} {s : Shared} {h1 : Heap} {tk : Nat} {H : Hp} {E : XK} {us : List Value} {vs : List V}
    (S : FnScS N ps scope) (hcc : K.lookup cc = some ⟨cl, cld, .cell (some (.ref D)), csl⟩) (hd : A.handled = none) (e0 : Env0 P w K mg base A outer s H) (hl : vs.length = ps.length) (r : Vals vs us)
    (hns : h1.Ns s.heap.objs.size (fun x => (ps.zip us).reverse.lookup x)) (hk : ∀ b o, s.heap.get? b = some o → h1.get? b = some o) :
    Inv (cxS P w K mg base N qual scope f cd cc A outer s H E) [] (L2.start N vs) H { s with heap := h1, toks := tk } := by
  have hpl : ps.length ≤ N.length := by have := congrArg List.length S.pre; rw [List.length_take] at this; omega
  have noA : ∀ b : Addr, b ∉ (cxS P w K mg base N qual scope f cd cc A outer s H E).ex := fun b z => absurd (show b ∈ ([] : List Addr) from z) (by simp)
  have cells : ∀ (y : Str) (c : Addr), (cxS P w K mg base N qual scope f cd cc A outer s H E).env.cells.lookup y = some c → y = "__class__" ∧ c = cc := fun y c h => by
    have h : ([(("__class__" : Str), cc)] : List (Str × Addr)).lookup y = some c := h
    simp only [List.lookup] at h
    split at h
    · rename_i e
      exact ⟨by simpa using e, (Option.some.inj h).symm⟩
    · cases h
  have bcc := e0.mod.kin _ _ hcc
  have hus : us.length = ps.length := by rw [← r.length]; exact hl
  have ndP : ps.Nodup := by rw [← S.pre]; exact S.nd.sublist (List.take_sublist _ _)
  refine ⟨⟨e0.mod, S.kind, rfl, rfl, Nat.le_refl _, fun y z c h1 h2 => (cells y c h1).1.trans (cells z c h2).1.symm, fun y hy => ?_, fun y c z _ => absurd (show false = true from z) (by simp), fun _ => hd, Around.frames_deeper e0.frames, .inr ⟨rfl, rfl⟩, fun b z => absurd z (noA b), e0.bs, e0.bsz, fun b _ _ => noA b, fun b z => absurd z (noA b), e0.funs, e0.frf⟩,
    rfl, e0.bare, Un.kept hk, ⟨_, hns, fun i y v h1 h2 h3 => ?_⟩, fun y c h => ?_, e0.hok.fresh (Nat.le_refl _), fun y c h => ?_, fun p hp => absurd (show p ∈ ([] : List (Addr × Obj)) from hp) (by simp), e0.hok.kept hk, ?_⟩
  · have hy : scope.names.lookup y = some .cell ∨ scope.names.lookup y = some .free := hy
    rcases hy with hy | hy
    · exact absurd rfl (S.nocell _ (PySem.mem_of_lookup hy))
    · have e := S.free _ (PySem.mem_of_lookup hy) rfl
      have e : y = "__class__" := e
      subst e
      exact ⟨cc, by show List.lookup ("__class__" : Str) [(("__class__" : Str), cc)] = some cc; simp [List.lookup]⟩
  · have hi : i < vs.length := by
      unfold L2.start at h2
      by_cases hi : i < vs.length
      · exact hi
      · rw [List.getElem?_append_right (by simpa using hi), List.getElem?_replicate] at h2
        split at h2 <;> cases h2
    have ha : vs[i]? = some v := by
      unfold L2.start at h2
      rw [List.getElem?_append_left (by simpa using hi), List.getElem?_map] at h2
      cases e : vs[i]? with
      | none => rw [e] at h2; cases h2
      | some a => rw [e] at h2; cases h2; rfl
    obtain ⟨u, hu, rv⟩ := r.get ha
    have hp : ps[i]? = some y := by
      rw [← S.pre, List.getElem?_take_of_lt (by omega)]; exact h1
    refine ⟨u, rv, .inl ⟨S.par y (List.mem_of_getElem? hp), ?_⟩⟩
    show (ps.zip us).reverse.lookup y = some u
    have hk : ((ps.zip us).map (·.1)).Nodup := by rw [zip_keys hus]; exact ndP
    rw [PySem.lookup_reverse_of_nodup _ hk]
    exact lookup_nd hk (zip_get hp hu)
  · obtain ⟨rfl, rfl⟩ := cells y c h
    exact ⟨_, ⟨_, hk _ _ (e0.bs _ _ bcc).1, rfl⟩⟩
  · obtain ⟨rfl, rfl⟩ := cells y c h
    exact (e0.bs _ _ bcc).2
  · unfold L2.start
    show _ = N.length
    rw [List.length_append, List.length_map, List.length_replicate]
    omega
/-- the rule for such a def -/
theorem fn_ofS {P : Program} {w : World} {K : PySem.W.Frag} {mg : Str → Option Value} {base : Heap} {k : Nat} {f cc D : Addr} {name qual : Str} {params : Arguments} {body : List Stmt} {scope : Scope} {dV kV doc pm cdv ct oc cl : Value} {an od cld : Option Addr}
    {osl csl : Array (Option Value)} {N ps : List Str} {sp : Sp} (lk : K.lookup f = some ⟨oc, od, .func (ksFn name qual params body scope dV kV doc pm an cdv ct cc), osl⟩) (hcd : PySem.W.codeIn K cdv qual = true)
    (hcc : K.lookup cc = some ⟨cl, cld, .cell (some (.ref D)), csl⟩) (S : FnScS N ps scope) (len : ∀ vs H Q E, sp vs H Q E → vs.length = ps.length)
    (hbody : ∀ (A : Around) (outer : List Env) (s : Shared) (H : Hp) (vs : List V) (Q : VK) (E : XK), Room k (A.deeper (ksEnv qual scope s.heap.objs.size f cdv cc)) → sp vs H Q E →
      ∃ t, PSsA (cxS P w K mg base N qual scope f cdv cc A outer s H E) (.func body (ksEnv qual scope s.heap.objs.size f cdv cc)) body t ∧ t { nx := fun _ H' => Q .non H', rt := Q } (L2.start N vs) H) :
    FnOk P w K mg base (L2.CX P w) (k + 1) f (ksFn name qual params body scope dV kV doc pm an cdv ct cc) ps sp := by
  refine ⟨len, fun A outer s H args us vs Q E hr e0 hb r hsp => ?_⟩
  have hl := len _ _ _ _ hsp
  have hus : us.length = ps.length := by rw [← r.length]; exact hl
  have KX : K.In s.heap := e0.mod.kin.keeps fun b o e => (e0.bs b o e).1
  have lim : s.heap.NoLimit := e0.mod.nolimit.keeps fun b o e => (e0.bs b o e).1
  have hloc : ∀ x ∈ ps.zip us, scope.names.lookup x.1 = some .local := fun ⟨n, v⟩ hy => S.par n (List.of_mem_zip hy).1
  refine ks_codeAny_call_defAt (fd := ksFn name qual params body scope dV kV doc pm an cdv ct cc) (body := body) (binds := ps.zip us) hr.depth (KX _ _ lk) rfl lim (PySem.W.codeRec_of KX hcd) rfl hb S.nocell hloc (fun h1 hns hk => ?_) S.co S.gen S.kind
  obtain ⟨t, ht, hq⟩ := hbody A outer s H vs Q E (hr.deeper _) hsp
  have I := inv_startS (tk := s.toks + (ps.zip us).length) (f := f) (qual := qual) (cd := cdv) (E := E) S hcc hr.hd e0 hl r hns hk
  refine ks_wpAt_mono (ht.run [] _ (L2.start N vs) H _ I hq) (fun fl s' hs => ?_) fun e s' hs => hs
  have fin : ∀ {σ' : L2.St} {H' : Hp} {v : V} {u : Value}, Inv (cxS P w K mg base N qual scope f cdv cc A outer s H E) [] σ' H' s' → RelV v u → Q v H' → CE outer P w H s Q u s' :=
    fun {σ' H' v u} J rv q => ⟨v, H', J.os, J.bare, J.base, J.hok, rv, q⟩
  cases fl with
  | ret u =>
    obtain ⟨v, σ', H', J, rv, q⟩ := hs
    exact fin J rv q
  | next =>
    obtain ⟨σ', H', J, q⟩ := hs
    exact fin (v := V.non) (u := Value.none) J rfl q
  | brk =>
    obtain ⟨_, _, _, q⟩ := hs
    exact False.elim q
  | cont =>
    obtain ⟨_, _, _, q⟩ := hs
    exact False.elim q

/-! ### super() -/
theorem sup_base {X : Cx} {pins : List (Addr × Obj)} {σ : L2.St} {H : Hp} {s : Shared} {body : List Stmt} {p0 p1 : Pos} {attr : Str} {whole : Sem Value} {f cc cda D x C : Addr} {fd : FuncData} {ar : Arg} {vs : Array Value} {file : Str} {tf : Tok} {oc ccl cl : Value} {od cdd cld : Option Addr} {osl ccs csl : Array (Option Value)} {cdD : ClassData} {ox : Obj} {odx : Option Obj} {Q : Value → Shared → Prop} {E : Value → Shared → Prop}
    (I : Inv X pins σ H s) (hks : X.env.kindOf "super" = some .globalImplicit) (hkc : X.env.kindOf "__class__" = some .free) (hat : (attr == ("__class__" : Str)) = false) (hfu : X.env.func = some f) (hf : X.K.lookup f = some ⟨oc, od, .func fd, osl⟩) (hp : (fd.params.posonlyargs ++ fd.params.args).head? = some ar)
    (hco : X.env.code = .ref cda) (hcode : X.K.lookup cda = some ⟨ccl, cdd, .fields vs, ccs⟩) (hvs : vs[2]? = some (.str file tf)) (hfile : ((X.prog.main.file : Str) == file) = true) (htop : (X.prog.main.scope.names.lookup ("super" : Str)).isSome = false) (hm : X.mg "super" = none)
    (hcl : X.env.cells.lookup ("__class__" : Str) = some cc) (hcell : X.K.lookup cc = some ⟨cl, cld, .cell (some (.ref D)), csl⟩) (hD : PySem.W.clsIn X.K D = some cdD) (hka : X.env.kindOf ar.arg = some .local) (hN : X.N[0]? = some ar.arg) (hσ : σ[0]? = some (some (.ref x)))
    (J : PySem.W.InstAt s.heap x ox C odx) (hsub : PySem.W.mroIn X.K C (.ref D) = some true)
    (h : ∀ h', h'.get? s.heap.objs.size = some (PySem.W.ks_superObj D x C) → (∀ b o, s.heap.get? b = some o → h'.get? b = some o) → Q (.ref s.heap.objs.size) { s with heap := h' }) :
    _root_.PySem.wpAt (model X.prog X.w) X.A (.func body X.env) (attributeBase (.Call (.Name "super" p0) [] [] p1) attr X.env whole) Q E s := by
  have KX := I.kIn
  obtain ⟨m, hn, hl⟩ := id I.loc
  obtain ⟨u, ru, lk⟩ := hl 0 ar.arg (.ref x) hN hσ (.inl hka)
  obtain ⟨mb, b1, b2⟩ := I.mod.blt
  have hg : s.heap.Ns X.env.globals X.mg := by rw [I.ok.glob]; exact I.mod.glob.keeps I.bk
  have hb : s.heap.Ns X.env.builtins mb := by rw [I.ok.blt]; exact b1.keeps I.bk
  have hk := I.ok.kind
  have em : m ar.arg = some (.ref x) := by
    have ru' : u = Value.ref x := ru
    subst ru'
    rcases lk with ⟨_, e⟩ | ⟨e, _⟩
    · exact e
    · rw [hka] at e
      rcases e with e | e <;> cases e
  obtain ⟨oD, hD1, hD2⟩ : ∃ oD, s.heap.get? D = some oD ∧ oD.data = .cls cdD := by
    unfold PySem.W.clsIn at hD
    split at hD
    · rename_i q1 q2 q3 q4 ho
      cases hD
      exact ⟨_, KX _ _ ho, rfl⟩
    · cases hD
  obtain ⟨hh, g, d, t, os⟩ := s
  refine ks_wpAt_super_base hks hkc hat hfu (KX _ _ hf) rfl hp hco (KX _ _ hcode) rfl hvs hfile htop ?_
  refine PySem.W.ks_loadName_global hk hks (PySem.Calls.loadGlobal_builtin hg hm hb ((b2 _ (by decide)).trans PyProof.Rows.Boot.«super») ⟨rfl, ?_⟩)
  refine PySem.wpAny_loadName_free hk hkc hcl ⟨_, KX _ _ hcell, rfl⟩ ?_
  refine wpAny_loadName_local hk hka hn em ?_
  refine ks_wpAny_isType_cls hD1 hD2 ⟨rfl, ?_⟩
  refine ks_wpAny_call_super hD1 hD2 J.at_ J.cls (fun c e => ?_) (PySem.W.looks_mroIn KX hsub) fun h' e k => h h' e k
  have z := J.no
  unfold PySem.W.notCls at z
  rw [e] at z
  exact Bool.noConfusion z
/-- the bound ValueError.__init__ called -/
theorem call_vw {prog : Program} {w : World} {A : Around} {E : Value → Shared → Prop} {h : Heap} {g : Array GenState} {d : Drawn} {t : Nat} {os : OsState} {nm q : Str} {C N u e t0 : Addr} {bs bm : List Value} {hdct : Bool} {sn : List Str} {sub : List Value} {ab : Bool} {col : Option Bool} {dd : Option Addr} {k0 k1 k2 k3 k5 : Option Value}
    {rest : List Value} {Q : Value → Shared → Prop} (hC : h.get? C = some (excClassObj nm q C N bs bm hdct sn sub ab col dd k0 k1 k2 k3 k5 "ValueError.__new__")) (he : h.get? e = some (HandSPX.excO C t0)) (hu : h.get? u = some (PySem.W.kxs_mw "ValueError.__init__" e)) (hz : rest.length ≤ sizeLine)
    (hq : ∀ h' t1, (∀ b o, b ≠ e → h.get? b = some o → h'.get? b = some o) → h'.get? e = some (HandSPX.excO C t1) → Q .none ⟨h', g, d, t, os⟩) : wpAny (model prog w) A (call (.ref u) rest) Q E ⟨h, g, d, t, os⟩ := by
  refine wpAny_call (codeAny_of_tree ?_)
  show wpAny _ A.in1 (callAny (.ref u) ⟨rest, []⟩) _ _ _
  simp only [callAny]
  refine wpAny_bind (wpAny_load hu ?_)
  simp only [PySem.W.kxs_mw, (by decide : (Value.type "method-wrapper" == Value.type "method" || Value.type "method-wrapper" == Value.type "builtin_function_or_method" || Value.type "method-wrapper" == Value.type "method-wrapper") = true), if_true]
  refine PySem.W.KFB.if_so (by decide) ?_
  refine wpAny_bind (PySem.ESX.check_bound F.excBase_ValueError hC he rfl (wpAny_bind (wpAny_pure (wpAny_pure ⟨Code.quiet_builtin _ (by decide +kernel), codeAny_builtin F.excBase_ValueError.initEntry ?_⟩))))
  rw [Around.under_plainId F.excBase_ValueError.init.plain _]
  wp_walk
  refine hq _ h.objs.size (fun b o hb ho => (Heap.get?_update_other _ _ (Ne.symm hb)).trans (Heap.get?_push_of_some _ ho)) ?_
  rw [Heap.get?_update_self _ (Heap.get?_push_of_some _ he) rfl]
  rfl
/-- what the written part says of the class at C, where super() stands in a method of the class at D and finds ValueError.__init__ -/
structure SupV (K : PySem.W.Frag) (C D : Addr) : Prop where
  ex : OexC K C
  opq : PySem.W.nsIn K PySem.cStatics "thirdparty.any" = some none
  fnd : PySem.W.ks_superIn K C D "__init__" = some (some (.builtin "ValueError.__init__"))
  sub : PySem.W.subIn K (.ref C) (.type "ValueError") = some true
  mro : PySem.W.mroIn K C (.ref D) = some true
/-- super().__init__(..) of an exception that is being made -/
def tSupV (K : PySem.W.Frag) (D : Addr) (ta : TA) : TE := fun σ H Q => ∃ a C : Addr, σ[0]? = some (some (.ref a)) ∧ H a = some (exo a C none) ∧ SupV K C D ∧ ta σ H fun vs H1 => vs.length ≤ 1000 ∧ H1 a = some (exo a C none) ∧ Q .non H1
/-- what the text says of the method that says super() -/
structure SupT (X : Cx) (D : Addr) : Prop where
  ex : ∃ (f cc cda : Addr) (fd : FuncData) (ar : Arg) (vs : Array Value) (file : Str) (tf : Tok) (oc ccl cl : Value) (od cdd cld : Option Addr) (osl ccs csl : Array (Option Value)) (cdD : ClassData),
    X.env.func = some f ∧ X.K.lookup f = some ⟨oc, od, .func fd, osl⟩ ∧ (fd.params.posonlyargs ++ fd.params.args).head? = some ar ∧ X.env.code = .ref cda ∧ X.K.lookup cda = some ⟨ccl, cdd, .fields vs, ccs⟩ ∧ vs[2]? = some (.str file tf) ∧ ((X.prog.main.file : Str) == file) = true ∧
    X.env.cells.lookup ("__class__" : Str) = some cc ∧ X.K.lookup cc = some ⟨cl, cld, .cell (some (.ref D)), csl⟩ ∧ PySem.W.clsIn X.K D = some cdD ∧ X.env.kindOf ar.arg = some .local ∧ X.N[0]? = some ar.arg
  ks : X.env.kindOf "super" = some .globalImplicit
  kc : X.env.kindOf "__class__" = some .free
  top : (X.prog.main.scope.names.lookup ("super" : Str)).isSome = false
  mg : X.mg "super" = none
section
variable {X : Cx} {D : Addr} {body : List Stmt} {p0 p1 apos pos pos2 : Pos} {e : Expr} {es : List Expr} {ta : TA}
theorem psa_supV (T : SupT X D) (ha : PA X (e :: es) ta) {pl : Sem Bool}
    (hc : eval (.Call (.Attribute (.Call (.Name "super" p0) [] [] p1) "__init__" apos) (e :: es) [] pos) X.env = (do
      let ov ← attributeBase (.Call (.Name "super" p0) [] [] p1) "__init__" X.env (eval (.Call (.Name "super" p0) [] [] p1) X.env)
      standAt apos.atName
      let (f, first) ← holding [ov] (getMethod ov "__init__" pl)
      callWith pos f first (backTo pos (starEach (e :: es) X.env)) []) := by rfl)
    (hi : interactive X.env = false := by rfl) (hs : swapsWith (.Call (.Attribute (.Call (.Name "super" p0) [] [] p1) "__init__" apos) (e :: es) [] pos) none pos2.line X.env = pure false := by rfl)
    (he : starEach (e :: es) X.env = (false, eval e X.env) :: starEach es X.env := by rfl) (hpl : (backTo pos (starEach es X.env)).any (·.1) = false := by rfl) :
    PSA X (.func body X.env) (.Expr (.Call (.Attribute (.Call (.Name "super" p0) [] [] p1) "__init__" apos) (e :: es) [] pos) pos2) (tDrop (tSupV X.K D ta)) := by
  refine ⟨fun pins s σ H K I h => ?_⟩
  obtain ⟨a, C, hσ, ea, V, q⟩ := h
  obtain ⟨f, cc, cda, fd, ar, vs, file, tf, oc, ccl, cl, od, cdd, cld, osl, ccs, csl, cdD, z1, z2, z3, z4, z5, z6, z7, z8, z9, z10, z11, z12⟩ := T.ex
  obtain ⟨t0, ho⟩ := exo_at I.hok ea
  have J : PySem.W.InstAt s.heap a _ C none := ⟨ho, rfl, rfl, trivial⟩
  obtain ⟨nm, qq, N, bs, bm, sn, sub, ab, col, dd, k0, k1, k2, k3, k5, hC, hbm⟩ := V.ex.cls
  have hcl : PySem.W.clsIn X.K C = some { name := nm, bases := bs, mro := .ref C :: bm, ns := N, qualname := qq, hasDict := true, slotNames := sn, subclasses := sub, abstract := ab, collection := col, hasDel := false } := by unfold PySem.W.clsIn; rw [hC] <;> rfl
  refine ks_wpAt_Expr_any (ks_wpAt_MethodCall (sup_base I T.ks T.kc (by decide) z1 z2 z3 z4 z5 z6 z7 T.top T.mg z8 z9 z10 z11 z12 hσ J V.mro fun h1 o1 k1' => ?_) hc) hi hs
  have I1 : Inv X pins σ H { s with heap := h1 } := by
    have z := I.kept (t' := s.toks) k1'
    exact z
  have KX := I1.kIn
  obtain ⟨hp, g, d, t, os⟩ := s
  have hI : PySem.W.Looks (model X.prog X.w) h1 (isInstance (.ref a) (.type "ValueError")) true := (PySem.W.InstAt.type (M := model X.prog X.w) (⟨k1' _ _ ho, rfl, rfl, trivial⟩ : PySem.W.InstAt h1 a _ C none)).andThen (PySem.W.looks_subIn KX V.sub)
  have hf := V.fnd
  unfold PySem.W.ks_superIn at hf
  rw [hcl] at hf
  refine PySem.W.kxs_getMethod PySem.W.kxs_ValueError o1 (PySem.W.looks_opaque KX V.opq) (l₀ := .ref C :: bm) ?_ rfl KX hf hI (PySem.W.ks_ne I.kIn J hcl) (by decide) ?_
  · exact fun A Q E s k q => wpAny_bind ((PySem.W.looks_clsIn KX hcl) A _ E s k (wpAny_pure q))
  · have kk : ∀ b o, hp.get? b = some o → (h1.push (PySem.W.kxs_mw "ValueError.__init__" a)).get? b = some o := fun b o z => Heap.get?_push_of_some _ (k1' b o z)
    have hu : (h1.push (PySem.W.kxs_mw "ValueError.__init__" a)).get? h1.objs.size = some (PySem.W.kxs_mw "ValueError.__init__" a) := Heap.get?_push_at rfl rfl
    have szu : hp.objs.size ≤ h1.objs.size := by
      exact Nat.le_of_lt (Heap.lt_size o1)
    have I2 : Inv X ((h1.objs.size, PySem.W.kxs_mw "ValueError.__init__" a) :: pins) σ H ⟨h1.push (PySem.W.kxs_mw "ValueError.__init__" a), g, d, t + 1, os⟩ := by
      have z : Inv X pins σ H ⟨h1.push (PySem.W.kxs_mw "ValueError.__init__" a), g, d, t + 1, os⟩ := I.kept (t' := t + 1) kk
      refine z.pins_of fun p hp' => ?_
      rcases List.mem_cons.mp hp' with e | hp'
      · subst e
        have hl := I.lt
        refine ⟨hu, I.hok.fresh szu, fun y => ?_, I.nofs szu, fun v y => ?_⟩
        · have y : h1.objs.size = X.env.locals := y
          have hl : X.env.locals < hp.objs.size := hl
          rw [← y] at hl
          exact absurd (Nat.lt_of_lt_of_le hl szu) (Nat.lt_irrefl _)
        · cases y
      · exact z.pin p (List.mem_append_right _ hp')
    rw [he]
    refine PySem.W.kxs_callWith (i := "ValueError.__init__") (x := a) (by show (false || (backTo pos (starEach es X.env)).any (·.1)) = false; rw [hpl]; rfl) ?_
    have hsp := ha.run pos _ _ σ H _ I2 q
    rw [he] at hsp
    refine PySem.Calls.evalArgs_plain (wpAny_mono hsp (fun us s2 h2 => ?_) fun _ _ z => z)
    obtain ⟨ws, H2, I3, rw', hl, ea2, q2⟩ := h2
    have pu := (I3.pin (h1.objs.size, PySem.W.kxs_mw "ValueError.__init__" a) (List.mem_append_right _ List.mem_cons_self)).1
    refine ⟨pu, ?_⟩
    obtain ⟨t1, ho1⟩ := exo_at I3.hok ea2
    have I4 : Inv X pins σ H2 s2 := I3.pins_of fun p hp' => I3.pin p (by
      rcases List.mem_append.mp (List.mem_append_right X.pn hp') with z | z
      · exact List.mem_append_left _ z
      · exact List.mem_append_right _ (List.mem_cons_of_mem _ z))
    have hlen : us.length ≤ sizeLine := by
      rw [← Paired.length rw', sizeLine_eq]
      omega
    obtain ⟨hp2, g2, d2, tk2, os2⟩ := s2
    show wpAny _ _ (call (.ref h1.objs.size) us) _ _ _
    refine call_vw (I4.kIn _ _ hC) ho1 pu hlen fun h' t2 k hx => ?_
    have J4 := I4.write (t' := tk2) (x := a) (e := a) (o := exo a C none) (by rw [ea2]; exact True.intro) (.inl rfl) k ⟨_, hx⟩ (exo_ok hx)
    have eu : upd H2 a (exo a C none) = H2 := by
      funext b
      by_cases hb : b = a
      · rw [hb, upd_same, ea2]
      · rw [upd_ne hb]
    rw [eu] at J4
    exact ⟨σ, H2, J4, q2⟩
end

/-! ### an error's own __init__ -/
theorem lookup_fs_nil {f : Str} : (([] : List (Str × V)).lookup f) = none := rfl
/-- the promise of such an __init__: the fields fs are set, in this order -/
def exFs (fs : List Str) (ys : List V) : List (Str × V) := (fs.zip ys).reverse
def spEx (Cs : List Addr) (fs : List Str) : Sp := fun vs H Q _ => ∃ (a C : Addr) (ys : List V), C ∈ Cs ∧ vs = .ref a :: ys ∧ ys.length = fs.length ∧ H a = some (exo a C none) ∧
  ∀ d, H d = none → d ≠ a → Q .non (upd (upd H d (exd d (exFs fs ys))) a (exo a C (some d)))
/-- C(..), an error with its fields -/
def tMkC (C : Addr) (fs : List Str) (ta : TA) : L2.St → Hp → XK → Prop := fun σ H Q => ta σ H fun vs H1 => vs.length = fs.length ∧ ∀ d, H1 d = none → Q (.ref C) (some d) (upd H1 d (.xd (exFs fs vs)))
theorem pmk_imp {X : Cx} {e : Expr} {t t' : L2.St → Hp → XK → Prop} (h : PMk X e t) (i : ∀ σ H Q, t' σ H Q → t σ H Q) : PMk X e t' := fun pins s σ H Q I q => h pins s σ H Q I (i σ H Q q)
theorem mo_pa {X : Cx} {es : List Expr} {ta : TA} (h : PA X es ta) : PA X es (moA ta) := pa_mo h
theorem mkC_of {C : Addr} {Cs : List Addr} {fs : List Str} {ta : TA} (hC : C ∈ Cs) (hl : fs.length ≤ 900) {σ : L2.St} {H : Hp} {Q : XK} (q : tMkC C fs ta σ H Q) : tMkO C (spEx Cs fs) [] (moA ta) σ H Q := by
  refine ⟨_, q, fun vs H1 ⟨e, h⟩ => ⟨by omega, fun a ha => ⟨a, C, vs, hC, by rw [List.append_nil], e, upd_same, fun d hd hne => ⟨rfl, d, exFs fs vs, upd_same, ?_, ?_, ?_⟩⟩⟩⟩
  · rw [upd_ne hne, upd_same]
  · rw [upd_ne hne] at hd
    exact hd
  · rw [upd_ne hne] at hd
    have e2 : upd (del (upd (upd (upd H1 a (exo a C none)) d (exd d (exFs fs vs))) a (exo a C (some d))) a) d (.xd (exFs fs vs)) = upd H1 d (.xd (exFs fs vs)) := by
      funext b
      by_cases hb : b = d
      · rw [hb, upd_same, upd_same]
      · rw [upd_ne hb, upd_ne hb]
        by_cases hba : b = a
        · rw [hba, del_same, ha]
        · rw [del_ne hba, upd_ne hba, upd_ne hb, upd_ne hba]
    rw [e2]
    exact h d hd
theorem pmk_ex {X : Cx} {CX : CXT} {x : Str} {C fI : Addr} {Cs : List Addr} {fs : List Str} {k : Nat} {fd : FuncData} {ps : List Str} {e : Expr} {es : List Expr} {ta : TA} {p pos : Pos} (T : OexC X.K C) (iC : PySem.W.findIn X.K (.ref C) "__init__" = some (some (.ref fI))) (tI : PySem.W.typeIn X.K (.ref fI) = some (.type "function"))
    (F1 : FnOk X.prog X.w X.K X.mg X.base CX k fI fd ps (spEx Cs fs)) (hC : C ∈ Cs) (hl : fs.length ≤ 900) (hr : Room (k + 1) X.A) (hb : Binds X.K fd ps []) (hx : Passes CX X (fun _ _ _ => False)) (hg : Gl X x) (hm : X.mg x = some (.ref C)) (ha : PA X (e :: es) ta)
    (hdb : (x == ("__debug__" : Str)) = false := by decide) (he : starEach (e :: es) X.env = (false, eval e X.env) :: starEach es X.env := by rfl) (hpl : (backTo pos (starEach es X.env)).any (·.1) = false := by rfl) :
    PMk X (.Call (.Name x p) (e :: es) [] pos) (tMkC C fs ta) :=
  pmk_imp (pmk_oex (dvs := []) (ds := []) T iC tI F1 hr hb .nil hx hg hm (pa_mo ha) hdb he hpl) fun _ _ _ q => mkC_of hC hl q
/-- raise C(..) -/
def sRaise (E : XK) (t : L2.St → Hp → XK → Prop) : TS := fun _ σ H => t σ H E
def sRaiseS (W : WX) (t : L2.St → Hp → XK → Prop) : TS := fun _ σ H => t σ H fun cls d H' => W cls d σ H'
theorem ps_raiseE {X : Cx} {E : XK} {e : Expr} {t : L2.St → Hp → XK → Prop} {pos : Pos} (hc : X.calm = true) (tk : Takes X (fun cls d _ H => E cls d H)) (he : PMk X e t) : PS X (.Raise (some e) none pos) (sRaise E t) := ps_raise hc tk he
theorem ps_raiseS {X : Cx} {W : WX} {e : Expr} {t : L2.St → Hp → XK → Prop} {pos : Pos} (hc : X.calm = true) (tk : Takes X W) (he : PMk X e t) : PS X (.Raise (some e) none pos) (sRaiseS W t) := ps_raise hc tk he

/-! ### try, with several clauses -/
structure Clz where
  c : Value
  i : Option Nat
  ts : Addr → Value → Option Addr → TS
def endsI : Option Nat → Ends → Ends
  | none, D => D
  | some i, D => { nx := fun σ' H' => D.nx (σ'.set i none) H', rt := D.rt, bk := fun σ' H' => D.bk (σ'.set i none) H', ct := fun σ' H' => D.ct (σ'.set i none) H' }
def setI : Option Nat → V → L2.St → L2.St
  | none, _, σ => σ
  | some i, v, σ => σ.set i (some v)
/-- a clause takes the exception -/
def hitN (K : PySem.W.Frag) (D : Ends) (cls : Value) (d : Option Addr) (σ : L2.St) (H : Hp) : List Clz → Prop
  | [] => False
  | z :: r => (PySem.W.exmOne K cls z.c = some true ∧ ∀ a, H a = none → z.ts a cls d (endsI z.i D) (setI z.i (.ref a) σ) H) ∨ (PySem.W.exmOne K cls z.c = some false ∧ hitN K D cls d σ H r)
inductive HnOk (X : Cx) : List ExceptHandler → List Clz → Prop
  | nil : HnOk X [] []
  | anon {x : Str} {c : Value} {ts : Addr → Value → Option Addr → TS} {b₀ : Stmt} {suite : List Stmt} {np pos' : Pos} {hds : List ExceptHandler} {l : List Clz} (hc : Names X x c)
      (hsu : ∀ (a : Addr) (oe : Obj) (cls : Value) (d : Option Addr) (pn : List (Addr × Obj)), Zc cls d oe → (∃ vs, oe.data = .fields vs) → PSs (X.suite a ((a, oe) :: pn)) (b₀ :: suite) (ts a cls d)) (r : HnOk X hds l) :
      HnOk X (.ExceptHandler (some (.Name x np)) none (b₀ :: suite) pos' :: hds) (⟨c, none, ts⟩ :: l)
  | named {x n : Str} {i : Nat} {c : Value} {ts : Addr → Value → Option Addr → TS} {b₀ : Stmt} {suite : List Stmt} {np pos' : Pos} {hds : List ExceptHandler} {l : List Clz} (hc : Names X x c) (hi : X.N[i]? = some n) (hln : X.env.kindOf n = some .local)
      (hsu : ∀ (a : Addr) (oe : Obj) (cls : Value) (d : Option Addr) (pn : List (Addr × Obj)), Zc cls d oe → (∃ vs, oe.data = .fields vs) → PSs (X.suite a ((a, oe) :: pn)) (b₀ :: suite) (ts a cls d)) (r : HnOk X hds l) :
      HnOk X (.ExceptHandler (some (.Name x np)) (some n) (b₀ :: suite) pos' :: hds) (⟨c, some i, ts⟩ :: l)
section
variable {X : Cx} {body : List Stmt} {h₀ : ExceptHandler} {hds : List ExceptHandler} {l : List Clz} {pos : Pos} {tb : WX → TS}
theorem ps_tryN (hs : X.stack = X.env :: X.outer) (hf : X.env.frame = some X.env.locals) (hN : X.N.Nodup)
    (hb : ∀ (W : WX) (pn : List (Addr × Obj)) (xe : Value → Shared → Prop), Takes (X.tr pn xe) W → PassesOwn (model X.prog X.w) X.A X.env xe → PSs (X.tr pn xe) body (tb W))
    (hh : HnOk X (h₀ :: hds) l) : PS X (.Try body (h₀ :: hds) [] [] pos) (fun D σ H => tb (fun cls d σ H => hitN X.K D cls d σ H l) D σ H) := ⟨fun pins s σ H D I h => by
  have ok := I.ok
  have frame : X.A.frames = some (X.env :: X.outer) := ok.frames.trans (congrArg some hs)
  refine wpAny_Try_except (wpAny_mono ((hb _ (X.pn ++ pins) _ (fun u s' xx => ?_) PassesOwn.looking).run [] s σ H D (I.toTry _) h) (fun f s1 hsp => ?_) fun e s1 he => he)
  · obtain ⟨a, B, sI, pins', σ', H', cls, d, rfl, J', nb, up, sky, na, os, ag, w⟩ := xx
    have J : Inv X pins σ' H' sI := J'.ofTry ok
    have sk : Sky B (X.env :: X.outer) a (Zc cls d) X.env.locals s'.heap := hs ▸ sky
    refine Sky.land Zc.steady frame hf sk fun hL fL uL => ?_
    have JL : Inv X pins σ' H' { s' with heap := hL } := J.landed nb fL.1 (up.trans uL) os ag
    obtain ⟨oL, vL, gL, zL, dL⟩ := fL.there
    have apart : a ∉ frs (X.env :: X.outer) := fun hm => by
      obtain ⟨_, o', e', hnf⟩ := fL.2.2.1.mem hm
      rw [gL] at e'
      cases e'
      exact hnf _ dL
    have aL : a ≠ X.env.locals := fun z => apart (List.mem_filterMap.mpr ⟨X.env, List.mem_cons_self, by rw [hf, z]⟩)
    have aF : a ∉ X.fs := fun hm => by
      obtain ⟨e, he, q⟩ := List.mem_filterMap.mp hm
      exact apart (List.mem_filterMap.mpr ⟨e, List.mem_cons_of_mem _ he, q⟩)
    have SL := JL.suite gL dL na aL aF
    have LT : PySem.W.Looks (model X.prog X.w) hL (typeOf (.ref a)) cls := fun A Q E s k q => wpAny_typeOf_ref (k _ _ gL) (by rw [zL.1]; exact q)
    have names : ∀ {x : Str} {c : Value} {np : Pos} {Q : Value → Shared → Prop} {E : Value → Shared → Prop}, Names X x c → Q c { s' with heap := hL } → wpAny (model X.prog X.w) (X.A.mark (some (.ref a))) (eval (.Name x np) X.env) Q E { s' with heap := hL } := fun {x c np Q E} hc q => by
      obtain ⟨hg, hdbg, hm | ⟨hm, hv, hnn⟩⟩ := hc
      · exact ld_glob (X := X.suite a ((a, oL) :: (X.pn ++ pins))) SL hg hm q hdbg
      · exact ld_blt (X := X.suite a ((a, oL) :: (X.pn ++ pins))) SL hg hm hv q hnn hdbg
    suffices go : ∀ {hs' : List ExceptHandler} {l' : List Clz}, HnOk X hs' l' → hitN X.K D cls d σ' H' l' → wpAny (model X.prog X.w) X.A (handleBy (.ref a) X.env hs') (SP X pins D) X.xe { s' with heap := hL } from go hh w
    intro hs' l' hk
    induction hk with
    | nil => exact fun w => w.elim
    | @anon x c ts b₀ suite np pos' hds2 l2 hc hsu r ih =>
      intro w
      refine wpAny_handleBy_cons (codeAny_handlers_test ?_) (by intro q; cases q)
      rcases w with ⟨e, w⟩ | ⟨e, w⟩
      · refine names hc ((PySem.W.exm_one (M := model X.prog X.w) JL.kIn LT e).here ?_)
        refine codeAny_handlers_suite (HandSPX.lands_againZ fL fun h4 f4 u4 => ?_)
        have J4 : Inv X pins σ' H' { s' with heap := h4 } := J.landed nb f4.1 ((up.trans uL).trans u4) os ag
        obtain ⟨o4, v4, g4, z4, d4⟩ := f4.there
        refine wpAny_mono ((hsu a o4 cls d (X.pn ++ pins) z4 ⟨_, d4⟩).run [] _ σ' H' _ (J4.suite g4 d4 na aL aF) (w a na)) (fun f s6 hsp => ?_) (fun _ _ z => False.elim z)
        cases f with
        | ret u =>
          obtain ⟨v6, σ6, H6, S6, r6, q6⟩ := hsp
          exact ⟨_, _, _, S6.unsuite ok, r6, q6⟩
        | next | brk | cont =>
          obtain ⟨σ6, H6, S6, q6⟩ := hsp
          exact ⟨_, _, S6.unsuite ok, q6⟩
      · exact names hc ((PySem.W.exm_one (M := model X.prog X.w) JL.kIn LT e).here (ih w))
    | @named x n i c ts b₀ suite np pos' hds2 l2 hc hi hln hsu r ih =>
      intro w
      refine wpAny_handleBy_cons (codeAny_handlers_test ?_) (by intro q; cases q)
      rcases w with ⟨e, w⟩ | ⟨e, w⟩
      · refine names hc ((PySem.W.exm_one (M := model X.prog X.w) JL.kIn LT e).here ?_)
        refine codeAny_handlers_suite_as (HandSPX.lands_againZ fL fun h4 f4 u4 => ?_)
        have J4 : Inv X pins σ' H' { s' with heap := h4 } := J.landed nb f4.1 ((up.trans uL).trans u4) os ag
        obtain ⟨o4, v4, g4, z4, d4⟩ := f4.there
        refine store_ok (X := X.suite a ((a, o4) :: (X.pn ++ pins))) (v := .ref a) (J4.suite g4 d4 na aL aF) hN hi (.inl hln) rfl (fun s5 S5 => ?_) (.inr hln)
        refine wpAny_mono ((hsu a o4 cls d (X.pn ++ pins) z4 ⟨_, d4⟩).run [] s5 _ H' _ S5 (w a na)) (fun f s6 hsp => ?_) (fun _ _ z => False.elim z)
        have away : ∀ {σ6 : L2.St} {H6 : Hp} {Q : Shared → Prop}, Inv (X.suite a ((a, o4) :: (X.pn ++ pins))) [] σ6 H6 s6 → (∀ s7, Inv X pins (σ6.set i none) H6 s7 → Q s7) →
            wpAny (model X.prog X.w) X.A (do bindName X.env n .none; unbindBehindTheSuite X.env n pos') (fun _ s7 => Q s7) X.xe s6 := fun {σ6 H6 Q} S6 hq => gone_ok (S6.unsuite ok) hN hi hln hq
        cases f with
        | ret u =>
          obtain ⟨v6, σ6, H6, S6, r6, q6⟩ := hsp
          exact away S6 fun s7 J7 => ⟨_, _, _, J7, r6, q6⟩
        | next | brk | cont =>
          obtain ⟨σ6, H6, S6, q6⟩ := hsp
          exact away S6 fun s7 J7 => ⟨_, _, J7, q6⟩
      · exact names hc ((PySem.W.exm_one (M := model X.prog X.w) JL.kIn LT e).here (ih w))
  · cases f with
    | next =>
      obtain ⟨σ', H', J', q⟩ := hsp
      exact wpAny_execs_nil ⟨σ', H', J'.ofTry ok, q⟩
    | ret u =>
      obtain ⟨v, σ', H', J', r, q⟩ := hsp
      exact ⟨v, σ', H', J'.ofTry ok, r, q⟩
    | brk | cont =>
      obtain ⟨σ', H', J', q⟩ := hsp
      exact ⟨σ', H', J'.ofTry ok, q⟩⟩
/-- which clause takes the exception of the class cls -/
inductive Hits (K : PySem.W.Frag) (cls : Value) : List Value → Nat → Prop
  | here {c : Value} {r : List Value} (h : PySem.W.exmOne K cls c = some true) : Hits K cls (c :: r) 0
  | there {c : Value} {r : List Value} {k : Nat} (h : PySem.W.exmOne K cls c = some false) (t : Hits K cls r k) : Hits K cls (c :: r) (k + 1)
abbrev Sui := Option Nat × (Addr → Value → Option Addr → TS)
/-- the wish of a try's body, by a table of classes -/
def wT (tab : List (Value × Nat)) (cl : List Sui) (D : Ends) : WX := fun cls d σ H => ∃ k i ts, (cls, k) ∈ tab ∧ cl[k]? = some (i, ts) ∧ ∀ a, H a = none → ts a cls d (endsI i D) (setI i (.ref a) σ) H
def sTry (tab : List (Value × Nat)) (cl : List Sui) (tb : WX → TS) : TS := fun D σ H => tb (wT tab cl D) D σ H
theorem hits_of {K : PySem.W.Frag} {D : Ends} {cls : Value} {d : Option Addr} {σ : L2.St} {H : Hp} {i : Option Nat} {ts : Addr → Value → Option Addr → TS} (q : ∀ a, H a = none → ts a cls d (endsI i D) (setI i (.ref a) σ) H) :
    ∀ {l : List Clz} {k : Nat}, Hits K cls (l.map (·.c)) k → (l.map fun z => ((z.i, z.ts) : Sui))[k]? = some (i, ts) → hitN K D cls d σ H l
  | [], _, _, h => by cases h
  | z :: l, 0, h, e => by
    have e : ((z.i, z.ts) : Sui) = (i, ts) := by simpa using e
    cases e
    cases h with
    | here h => exact .inl ⟨h, q⟩
  | z :: l, k + 1, h, e => by
    cases h with
    | there h t => exact .inr ⟨h, hits_of q t (by simpa using e)⟩
theorem ps_tryT {tab : List (Value × Nat)} (tk0 : ∀ p ∈ tab, Hits X.K p.1 (l.map (·.c)) p.2) (hs : X.stack = X.env :: X.outer) (hf : X.env.frame = some X.env.locals) (hN : X.N.Nodup)
    (hb : ∀ (W : WX) (pn : List (Addr × Obj)) (xe : Value → Shared → Prop), Takes (X.tr pn xe) W → PassesOwn (model X.prog X.w) X.A X.env xe → PSs (X.tr pn xe) body (tb W))
    (hh : HnOk X (h₀ :: hds) l) : PS X (.Try body (h₀ :: hds) [] [] pos) (sTry tab (l.map fun z => (z.i, z.ts)) tb) := by
  refine ps_imp (ps_tryN (tb := fun W D σ H => ∃ W', (∀ c d σ H, W' c d σ H → W c d σ H) ∧ tb W' D σ H) hs hf hN (fun W pn xe tk pa => ⟨fun pins s σ H D I ⟨W', i, q⟩ => (hb W' pn xe (tk.imp i) pa).run pins s σ H D I q⟩) hh) fun D σ H q => ⟨_, fun c d σ H h => ?_, q⟩
  obtain ⟨k, i, ts, m, e, h⟩ := h
  exact hits_of h (tk0 _ m) e
end

/-! ### calls in a try's body: what is raised is wished for at the slots -/
section
variable {X : Cx} {CX : CXT} {k : Nat} {f C g p2' : Addr} {fd : FuncData} {ps : List Str} {sp : Sp} {E : L2.St → XK} {x m : Str} {p pos apos : Pos} {e o : Expr} {es : List Expr} {ta : TE} {t : TA}
def tCS (sp : Sp) (E : L2.St → XK) (t : TA) : TE := fun σ H Q => t σ H fun vs H1 => sp vs H1 Q (E σ)
def tMS (C : Addr) (m : Str) (sp : Sp) (E : L2.St → XK) (ta : TE) (t : TA) : TE := fun σ H Q => ta σ H fun x H1 => ∃ a dx fs, x = .ref a ∧ H1 a = some (.ins C dx fs) ∧ fs.lookup m = none ∧ t σ H1 fun vs H2 => sp (x :: vs) H2 Q (E σ)
def tNewS (C : Addr) (sp : Sp) (E : L2.St → XK) (t : TA) : TE := fun σ H Q => t σ H fun vs H1 => ∀ x dx, H1 x = none → H1 dx = none → dx ≠ x →
  sp (.ref x :: vs) (upd (upd H1 dx (.own x)) x (.ins C dx [])) (fun v H2 => v = .non ∧ Q (.ref x) H2) (E σ)
theorem pe_cS (F : FnOk X.prog X.w X.K X.mg X.base CX k f fd ps sp) (hr : Room k X.A) (hg : Gl X x) (hm : X.mg x = some (.ref f)) (hk : PySem.W.keepIn X.K (.ref f) = true) (hb : Binds X.K fd ps []) (hx : ∀ σ, PassesAt CX X σ (E σ))
    (ha : PA X (e :: es) t) (hdb : (x == ("__debug__" : Str)) = false := by decide) (he : starEach (e :: es) X.env = (false, eval e X.env) :: starEach es X.env := by rfl) (hpl : (backTo pos (starEach es X.env)).any (·.1) = false := by rfl) :
    PE X (.Call (.Name x p) (e :: es) [] pos) (tCS sp E t) := pe_callS F hr hg hm hk hb hx ha hdb he hpl
theorem pe_cS0 (F : FnOk X.prog X.w X.K X.mg X.base CX k f fd ps sp) (hr : Room k X.A) (hg : Gl X x) (hm : X.mg x = some (.ref f)) (hk : PySem.W.keepIn X.K (.ref f) = true) (hb : Binds X.K fd ps []) (hx : ∀ σ, PassesAt CX X σ (E σ))
    (hdb : (x == ("__debug__" : Str)) = false := by decide) : PE X (.Call (.Name x p) [] [] pos) (tCS sp E tNil) :=
  ⟨fun _ _ σ _ _ I h => wpAny_Call_Name_kw (ld_glob I hg hm (PySem.W.callWith_K0 I.kIn hk (run_fnS (us := []) F hr hb (hx σ) I .nil h)) hdb)⟩
theorem pe_mS {pl : Sem Bool} (he : PE X o ta) (c : Cls X.K C) (hm : Meth X.K C m f) (F : FnOk X.prog X.w X.K X.mg X.base CX k f fd ps sp) (hr : Room k X.A) (hb : Binds X.K fd ps []) (hx : ∀ σ, PassesAt CX X σ (E σ)) (ha : PA X (e :: es) t)
    (hst : starEach (e :: es) X.env = (false, eval e X.env) :: starEach es X.env := by rfl) (hpl : (backTo pos (starEach es X.env)).any (·.1) = false := by rfl)
    (ht : eval (.Call (.Attribute o m apos) (e :: es) [] pos) X.env = (do
      let ov ← eval o X.env
      standAt apos.atName
      let (f, first) ← holding [ov] (getMethod ov m pl)
      callWith pos f first (backTo pos (starEach (e :: es) X.env)) (backToKw pos (keywordEach [] X.env))) := by rfl) :
    PE X (.Call (.Attribute o m apos) (e :: es) [] pos) (tMS C m sp E ta t) := by
  refine ⟨fun pins s σ H Q I h => PySem.W.methodCall_KW (pl := pl) (thn (he.run pins s σ H _ I h) fun u s1 ⟨x, H1, I1, rx, a, dx, fs, ex, ea, l, q⟩ => ?_) ht⟩
  subst ex
  obtain rfl : u = Value.ref a := rx
  refine getmeth_ok I1 ea c hm l (PySem.W.callWith_K (first := [.ref a]) (h₀ := X.base) I.ok.mod.kin hm.kp (thn (ha.run pos pins s1 σ H1 _ I1 q) fun us s2 ⟨vs, H2, I2, r, q2⟩ => ⟨I2.kIn, ?_⟩) hst hpl)
  exact run_fnS (us := .ref a :: us) (vs := .ref a :: vs) F hr hb (hx σ) I2 (.cons rfl r) q2
theorem pe_mS0 {pl : Sem Bool} (he : PE X o ta) (c : Cls X.K C) (hm : Meth X.K C m f) (F : FnOk X.prog X.w X.K X.mg X.base CX k f fd ps sp) (hr : Room k X.A) (hb : Binds X.K fd ps []) (hx : ∀ σ, PassesAt CX X σ (E σ))
    (ht : eval (.Call (.Attribute o m apos) [] [] pos) X.env = (do
      let ov ← eval o X.env
      standAt apos.atName
      let (f, first) ← holding [ov] (getMethod ov m pl)
      callWith pos f first (backTo pos (starEach [] X.env)) (backToKw pos (keywordEach [] X.env))) := by rfl) :
    PE X (.Call (.Attribute o m apos) [] [] pos) (tMS C m sp E ta tNil) := by
  refine ⟨fun pins s σ H Q I h => PySem.W.methodCall_KW (pl := pl) (thn (he.run pins s σ H _ I h) fun u s1 ⟨x, H1, I1, rx, a, dx, fs, ex, ea, l, q⟩ => ?_) ht⟩
  subst ex
  obtain rfl : u = Value.ref a := rx
  exact getmeth_ok I1 ea c hm l (PySem.W.callWith_K0 (first := [.ref a]) I1.kIn hm.kp (run_fnS (us := [.ref a]) (vs := [.ref a]) F hr hb (hx σ) I1 (.cons rfl .nil) q))
theorem run_newS {E : XK} {pins : List (Addr × Obj)} {σ : L2.St} {H : Hp} {s : Shared} {Q : VK} {us : List Value} {vs : List V} (M : Mk X.K C f) (F : FnOk X.prog X.w X.K X.mg X.base CX k f fd ps sp) (hr : Room (k + 1) X.A) (hb : Binds X.K fd ps [])
    (hx : PassesAt CX X σ E) (I : Inv X pins σ H s) (r : Vals vs us)
    (h : ∀ x dx, H x = none → H dx = none → dx ≠ x → sp (.ref x :: vs) (upd (upd H dx (.own x)) x (.ins C dx [])) (fun v H2 => v = .non ∧ Q (.ref x) H2) E) : wpAny (model X.prog X.w) X.A (call (.ref C) us) (EP X pins σ Q) X.xe s := by
  have nn := Nat.le_refl s.heap.objs.size
  have hq := h (s.heap.objs.size + 1) s.heap.objs.size (I.hok.fresh (Nat.le_succ _)) (I.hok.fresh nn) (Nat.ne_of_lt (Nat.lt_succ_self _))
  have I2 := Inv.made (C := C) I
  have r2 : Vals (V.ref (s.heap.objs.size + 1) :: vs) (Value.ref (s.heap.objs.size + 1) :: us) := .cons rfl r
  have hl : (Value.ref (s.heap.objs.size + 1) :: us).length = ps.length := r2.length.symm.trans (F.len _ _ _ _ hq)
  have b := hb _ (Value.ref (s.heap.objs.size + 1) :: us) I2.kIn (by rw [List.append_nil]; exact hl)
  rw [List.append_nil] at b
  have e0 := I2.env0.make C us []
  refine wpAny_call (make_map (f := f) I.kIn M.makes M.init (beq_iff_eq.mp M.fn) (codeAny_mono (F.run _ X.stack _ _ ⟨Value.ref (s.heap.objs.size + 1) :: us, []⟩ _ _ _ _ (hr.make C us []) e0 b r2 hq) fun r s' hq' => ?_))
  cases r with
  | error e => exact hx pins _ _ e s' I2 hq'
  | ok fl =>
    cases fl with
    | ret u =>
      obtain ⟨v, H', I3, rv, ev, q3⟩ := I2.after hq'
      subst ev
      exact ⟨rv, V.ref (s.heap.objs.size + 1), H', I3, rfl, q3⟩
    | next | brk | cont => exact False.elim hq'
theorem pe_newS (M : Mk X.K C f) (F : FnOk X.prog X.w X.K X.mg X.base CX k f fd ps sp) (hr : Room (k + 1) X.A) (hg : Gl X x) (hm : X.mg x = some (.ref C)) (hb : Binds X.K fd ps []) (hx : ∀ σ, PassesAt CX X σ (E σ))
    (ha : PA X (e :: es) t) (hdb : (x == ("__debug__" : Str)) = false := by decide) (he : starEach (e :: es) X.env = (false, eval e X.env) :: starEach es X.env := by rfl) (hpl : (backTo pos (starEach es X.env)).any (·.1) = false := by rfl) :
    PE X (.Call (.Name x p) (e :: es) [] pos) (tNewS C sp E t) :=
  ⟨fun pins s σ H Q I h => wpAny_Call_Name_kw (ld_glob I hg hm (PySem.W.callWith_K (h₀ := X.base) I.ok.mod.kin M.kp (thn (ha.run pos pins s σ H _ I h) fun us s1 ⟨vs, H1, I1, r, q⟩ => ⟨I1.kIn, run_newS M F hr hb (hx σ) I1 r q⟩) he hpl) hdb)⟩
end

/-! ### in an except suite: isinstance, fields -/
/-- its dict stands -/
def DOk (d : Option Addr) (H : Hp) : Prop := ∃ dd fs, d = some dd ∧ H dd = some (.xd fs)
/-- isinstance(e, c), e the exception in hand, by a table -/
def rIsX (tbl : List (Value × V × Bool)) (a : Addr) (cls : Value) (d : Option Addr) : List V → Hp → VK → Prop := fun xs H Q => (∃ c b, xs = [.ref a, c] ∧ (cls, c, b) ∈ tbl ∧ DOk d H ∧ Q (.bl b) H) ∨ rIsI xs H Q
structure IsOk (K : PySem.W.Frag) (cls : Value) (c : V) (b : Bool) : Prop where
  ex : ∃ (D : Addr) (cv : Value), cls = .ref D ∧ ExcC K D ∧ (∀ u, RelV c u → u = cv) ∧ PySem.W.kitOne K (.ref D) cv = some b
theorem c_isX {X : Cx} {a : Addr} {oe : Obj} {cls : Value} {d : Option Addr} {pn : List (Addr × Obj)} {tbl : List (Value × V × Bool)} (T : ∀ p ∈ tbl, IsOk X.K p.1 p.2.1 p.2.2) (hz : Zc cls d oe) (hf : ∃ vs, oe.data = .fields vs) :
    CallR (X.suite a ((a, oe) :: pn)) (.builtin "isinstance") (rIsX tbl a cls d) := by
  intro pins s σ H xs us Q I r h
  rcases h with ⟨c, b, rfl, m, ⟨dd, fs, ed, ea⟩, q⟩ | h
  · obtain ⟨D, cv, ec, C, hcv, e⟩ := (T _ m).ex
    cases r with
    | cons rx rr =>
      cases rr with
      | cons rt rr =>
        cases rr
        obtain rfl := hcv _ rt
        cases rx
        obtain ⟨vs, hv⟩ := hf
        have hget := (I.pin (a, oe) (List.mem_append_left _ List.mem_cons_self)).1
        have ho : ObjOk X.prog X.w H s.heap dd (.xd fs) := I.hok dd _ ea
        obtain ⟨mA, ⟨od, es, ep, ho, _⟩, _⟩ := ho
        have J : PySem.W.InstAt s.heap a oe D (some od) := ⟨hget, by rw [hz.1]; exact ec, by unfold PySem.W.notCls; rw [hv] <;> rfl, by rw [hz.2, ed]; exact ho⟩
        have hcl : (PySem.W.clsIn X.K D).isSome = true := by
          obtain ⟨cd, hc, _⟩ := PySem.W.any_some C.hd
          rw [hc]
          rfl
        exact PySem.W.kia_one (PySem.W.kitx_exc hcl C.hg C.hk C.hs C.ha C.hn C.ht C.hm) I.kIn J e (fun z => nomatch z) fun tk => ⟨.bl b, H, I.kept (t' := tk) fun _ _ z => z, rfl, q⟩
  · exact c_isi pins s σ H xs us Q I r h
/-- e.f, e the exception in hand -/
def eXf (a : Addr) (cls : Value) (d : Option Addr) (Cs : List Addr) (f : Str) (te : TE) : TE := fun σ H Q => te σ H fun x H1 => x = .ref a ∧ ∃ C, C ∈ Cs ∧ cls = .ref C ∧ ∃ (dd : Addr) (fs : List (Str × V)) (v : V), d = some dd ∧ H1 dd = some (.xd fs) ∧ fs.lookup f = some v ∧ Q v H1
structure XfOk (K : PySem.W.Frag) (C : Addr) (f : Str) : Prop where
  xf : XfC K C
  no : PySem.W.findIn K (.ref C) f = some none
theorem pe_eXf {X : Cx} {a : Addr} {oe : Obj} {cls : Value} {d : Option Addr} {pn : List (Addr × Obj)} {e : Expr} {te : TE} {pos : Pos} {n : Str} {Cs : List Addr} (T : ∀ C ∈ Cs, XfOk X.K C n) (hz : Zc cls d oe) (hf : ∃ vs, oe.data = .fields vs) (he : PE (X.suite a ((a, oe) :: pn)) e te)
    (hb : attributeBase e n X.env (eval e X.env) = eval e X.env := by rfl) : PE (X.suite a ((a, oe) :: pn)) (.Attribute e n pos) (eXf a cls d Cs n te) := by
  refine ⟨fun pins s σ H Q I h => attr_of hb (thn (he.run pins s σ H _ I h) fun u s1 hh => ?_)⟩
  obtain ⟨x, H1, I1, rx, rfl, C, hC, rfl, dd, fs, v, rfl, ea, l, q⟩ := hh
  obtain rfl : u = Value.ref a := rx
  have T1 := (T C hC).xf
  obtain ⟨ha, _⟩ := I1.pin (a, oe) (List.mem_append_left _ List.mem_cons_self)
  obtain ⟨vs, hd⟩ := hf
  obtain ⟨mA, hns, hr⟩ : ObjOk X.prog X.w H1 s1.heap dd (.xd fs) := I1.hok dd _ ea
  obtain ⟨od, ho, hl⟩ := lookIn_ns hns
  obtain ⟨u, hu, ru⟩ := RelO.some_of (v := v) (o := mA n) (by rw [← l]; exact hr n)
  have J : PySem.W.InstAt s1.heap a oe C (some od) := ⟨ha, hz.1, by unfold PySem.W.notCls; rw [hd] <;> rfl, by rw [hz.2]; exact ho⟩
  exact HandSPX.exc_get I1.kIn J T1.ga T1.gg T1.exC (PySem.W.findObj_own T1.hdC (T C hC).no rfl (by rw [hl, hu])) (handed_of ru) ⟨v, H1, I1.tok _, ru, q⟩

/-! ### a def of the text that says super(), by its body -/
structure FunS (P : Program) (K : PySem.W.Frag) (x qual : Str) (st : Stmt) (f : Addr) (fd : FuncData) (D : Addr) : Prop where
  ex : ∃ (oc cl ccl dV kV doc pm ct : Value) (od cld cdd an : Option Addr) (osl csl ccs : Array (Option Value)) (cda cc : Addr) (vs : Array Value) (file : Str) (tf : Tok) (cdD : ClassData),
    fd = ksFn x qual (defArgs st) (defBody st) (defScope st) dV kV doc pm an (.ref cda) ct cc ∧ K.lookup f = some ⟨oc, od, .func fd, osl⟩ ∧ PySem.W.codeIn K (.ref cda) qual = true ∧ K.lookup cc = some ⟨cl, cld, .cell (some (.ref D)), csl⟩ ∧
    K.lookup cda = some ⟨ccl, cdd, .fields vs, ccs⟩ ∧ vs[2]? = some (.str file tf) ∧ ((P.main.file : Str) == file) = true ∧ PySem.W.clsIn K D = some cdD
  kp : PySem.W.keepIn K (.ref f) = true
theorem FunS.ok {P : Program} {w : World} {K : PySem.W.Frag} {mg : Str → Option Value} {base : Heap} {x qual : Str} {st : Stmt} {f D : Addr} {fd : FuncData} {N ps : List Str} {k : Nat} {sp : Sp} {ar : Arg} (F : FunS P K x qual st f fd D) (S : FnScS N ps (defScope st))
    (ha : ((defArgs st).posonlyargs ++ (defArgs st).args).head? = some ar) (hka : (defScope st).names.lookup ar.arg = some .local) (hN : N[0]? = some ar.arg) (hks : (defScope st).names.lookup ("super" : Str) = some .globalImplicit) (hkc : (defScope st).names.lookup ("__class__" : Str) = some .free)
    (htop : (P.main.scope.names.lookup ("super" : Str)).isSome = false) (hmg : mg "super" = none) (len : ∀ vs H Q E, sp vs H Q E → vs.length = ps.length)
    (hbody : ∀ (cdv : Value) (cc : Addr) (A : Around) (outer : List Env) (s : Shared) (H : Hp) (vs : List V) (Q : VK) (E : XK), Room k (A.deeper (ksEnv qual (defScope st) s.heap.objs.size f cdv cc)) → SupT (cxS P w K mg base N qual (defScope st) f cdv cc A outer s H E) D → sp vs H Q E →
      ∃ t, PSsA (cxS P w K mg base N qual (defScope st) f cdv cc A outer s H E) (.func (defBody st) (ksEnv qual (defScope st) s.heap.objs.size f cdv cc)) (defBody st) t ∧ t { nx := fun _ H' => Q .non H', rt := Q } (L2.start N vs) H) :
    FnOk P w K mg base (L2.CX P w) (k + 1) f fd ps sp := by
  obtain ⟨oc, cl, ccl, dV, kV, doc, pm, ct, od, cld, cdd, an, osl, csl, ccs, cda, cc, vs, file, tf, cdD, e, lk, hcd, hcc, hcode, hv, hfile, hD⟩ := F.ex
  subst e
  refine fn_ofS lk hcd hcc S len fun A outer s H vs' Q E hr hsp => hbody (.ref cda) cc A outer s H vs' Q E hr ?_ hsp
  refine ⟨⟨f, cc, cda, _, ar, vs, file, tf, oc, ccl, cl, od, cdd, cld, osl, ccs, csl, cdD, rfl, lk, ha, rfl, hcode, hv, hfile, ?_, hcc, hD, hka, hN⟩, hks, hkc, htop, hmg⟩
  show List.lookup ("__class__" : Str) [(("__class__" : Str), cc)] = some cc
  simp [List.lookup]
/-- an error with one field -/
theorem ex1 {K : PySem.W.Frag} {Cs : List Addr} {D : Addr} {f m : Str} (h : ∀ C ∈ Cs, SupV K C D ∧ PySem.W.findIn K (.ref C) f = some none) {vs : List V} {H : Hp} {Q : VK} {E : XK} (q : spEx Cs [f] vs H Q E) {n x : Str} :
    tSeq (tDrop (tSupV K D (tCons (tC (.str m)) tNil))) (tOst K f (tVar 0) (tVar 1)) { nx := fun _ H' => Q .non H', rt := Q } (L2.start [n, x] vs) H := by
  obtain ⟨a, C, ys, hC, rfl, hl, ea, q⟩ := q
  obtain ⟨V, na⟩ := h C hC
  cases ys with
  | nil => cases hl
  | cons y ys =>
    cases ys with
    | cons _ _ => cases hl
    | nil => exact ⟨a, C, rfl, ea, V, (by show 1 ≤ 1000; decide), ea, y, rfl, .ref a, rfl, a, C, rfl, V.ex, na, .inl ⟨ea, fun dx hd hne => q dx hd hne⟩⟩
theorem spEx_len {Cs : List Addr} {fs : List Str} (vs : List V) (H : Hp) (Q : VK) (E : XK) (q : spEx Cs fs vs H Q E) : vs.length = fs.length + 1 := by
  obtain ⟨a, C, ys, _, rfl, hl, _⟩ := q
  rw [List.length_cons, hl]
theorem all_nil {α : Type} {p : α → Prop} : ∀ x ∈ ([] : List α), p x := fun _ h => nomatch h
theorem all_cons {α : Type} {p : α → Prop} {a : α} {l : List α} (h : p a) (t : ∀ x ∈ l, p x) : ∀ x ∈ a :: l, p x := fun x m => by
  rcases List.mem_cons.mp m with e | m
  · rw [e]; exact h
  · exact t x m
end Y

/-! Objects of several classes: dispatch, inherited members, super().m(..), defaults. -/
namespace Y
open PySem PySem.Spec PyProof.Rows L2
open PySem.W (ksEnv ksFn)

/-! ### a method, a field, a property by the object's class -/
structure MD (X : Cx) (m : Str) (k : Nat) (p : Addr × Sp) : Prop where
  ex : ∃ (f : Addr) (fd : FuncData) (ps : List Str), Cls X.K p.1 ∧ Meth X.K p.1 m f ∧ FnOk X.prog X.w X.K X.mg X.base (L2.CX X.prog X.w) k f fd ps p.2 ∧ Binds X.K fd ps []
structure PD (X : Cx) (f : Str) (k : Nat) (p : Addr × Sp) : Prop where
  ex : ∃ (pa g : Addr) (fd : FuncData) (ps : List Str), Cls X.K p.1 ∧ PropOf X.K p.1 f pa g ∧ FnOk X.prog X.w X.K X.mg X.base (L2.CX X.prog X.w) k g fd ps p.2 ∧ Binds X.K fd ps []
structure FD (K : PySem.W.Frag) (f : Str) (C : Addr) : Prop where
  c : Cls K C
  n : NoAttr K C f
def tMD (l : List (Addr × Sp)) (m : Str) (E : L2.St → XK) (ta : TE) (t : TA) : TE := fun σ H Q => ta σ H fun x H1 => ∃ a C dx fs sp, x = .ref a ∧ H1 a = some (.ins C dx fs) ∧ (C, sp) ∈ l ∧ fs.lookup m = none ∧ t σ H1 fun vs H2 => sp (x :: vs) H2 Q (E σ)
def eFldD (Cs : List Addr) (f : Str) (te : TE) : TE := fun σ H Q => te σ H fun x H1 => ∃ a C dx fs v, x = .ref a ∧ H1 a = some (.ins C dx fs) ∧ C ∈ Cs ∧ fs.lookup f = some v ∧ Q v H1
def sSetFD (Cs : List Addr) (f : Str) (te tv : TE) : TS := fun D σ H => tv σ H fun y H1 => te σ H1 fun x H2 => ∃ a C dx fs, x = .ref a ∧ H2 a = some (.ins C dx fs) ∧ C ∈ Cs ∧ fs.length < 1000 ∧ D.nx σ (upd H2 a (.ins C dx (putF f y fs)))
def sAugFD (Cs : List Addr) (f : Str) (te tv : TE) (rd : V → V → Hp → VK → Prop) : TS := fun D σ H => te σ H fun x H1 => ∃ a C dx fs v, x = .ref a ∧ H1 a = some (.ins C dx fs) ∧ C ∈ Cs ∧ fs.lookup f = some v ∧
  tv σ H1 fun y H2 => rd v y H2 fun z H3 => ∃ dx' fs', H3 a = some (.ins C dx' fs') ∧ fs'.length < 1000 ∧ D.nx σ (upd H3 a (.ins C dx' (putF f z fs')))
def ePropD (l : List (Addr × Sp)) (te : TE) : TE := fun σ H Q => te σ H fun x H1 => ∃ a C dx fs sp, x = .ref a ∧ H1 a = some (.ins C dx fs) ∧ (C, sp) ∈ l ∧ sp [.ref a] H1 Q E0
theorem pass_at {X : Cx} {CX : CXT} {E : XK} (hx : Passes CX X E) (σ : L2.St) : PassesAt CX X σ ((fun _ => E) σ) := fun pins H s e s' I c => hx pins σ H s e s' I c
section
variable {X : Cx} {k : Nat} {l : List (Addr × Sp)} {Cs : List Addr} {m f : Str} {E : L2.St → XK} {p pos pos' apos : Pos} {e ev o : Expr} {es : List Expr} {ta te tv : TE} {t : TA}
theorem pe_mD {pl : Sem Bool} (he : PE X o ta) (T : ∀ p ∈ l, MD X m k p) (hr : Room k X.A) (hx : ∀ σ, PassesAt (L2.CX X.prog X.w) X σ (E σ)) (ha : PA X (e :: es) t)
    (hst : starEach (e :: es) X.env = (false, eval e X.env) :: starEach es X.env := by rfl) (hpl : (backTo pos (starEach es X.env)).any (·.1) = false := by rfl)
    (ht : eval (.Call (.Attribute o m apos) (e :: es) [] pos) X.env = (do
      let ov ← eval o X.env
      standAt apos.atName
      let (f, first) ← holding [ov] (getMethod ov m pl)
      callWith pos f first (backTo pos (starEach (e :: es) X.env)) (backToKw pos (keywordEach [] X.env))) := by rfl) :
    PE X (.Call (.Attribute o m apos) (e :: es) [] pos) (tMD l m E ta t) := by
  refine ⟨fun pins s σ H Q I h => PySem.W.methodCall_KW (pl := pl) (thn (he.run pins s σ H _ I h) fun u s1 ⟨x, H1, I1, rx, a, C, dx, fs, sp, ex, ea, hC, l, q⟩ => ?_) ht⟩
  obtain ⟨f, fd, ps, c, hm, F, hb⟩ := (T _ hC).ex
  subst ex
  obtain rfl : u = Value.ref a := rx
  refine getmeth_ok I1 ea c hm l (PySem.W.callWith_K (first := [.ref a]) (h₀ := X.base) I.ok.mod.kin hm.kp (thn (ha.run pos pins s1 σ H1 _ I1 q) fun us s2 ⟨vs, H2, I2, r, q2⟩ => ⟨I2.kIn, ?_⟩) hst hpl)
  exact run_fnS (us := .ref a :: us) (vs := .ref a :: vs) F hr hb (hx σ) I2 (.cons rfl r) q2
theorem pe_mD0 {pl : Sem Bool} (he : PE X o ta) (T : ∀ p ∈ l, MD X m k p) (hr : Room k X.A) (hx : ∀ σ, PassesAt (L2.CX X.prog X.w) X σ (E σ))
    (ht : eval (.Call (.Attribute o m apos) [] [] pos) X.env = (do
      let ov ← eval o X.env
      standAt apos.atName
      let (f, first) ← holding [ov] (getMethod ov m pl)
      callWith pos f first (backTo pos (starEach [] X.env)) (backToKw pos (keywordEach [] X.env))) := by rfl) :
    PE X (.Call (.Attribute o m apos) [] [] pos) (tMD l m E ta tNil) := by
  refine ⟨fun pins s σ H Q I h => PySem.W.methodCall_KW (pl := pl) (thn (he.run pins s σ H _ I h) fun u s1 ⟨x, H1, I1, rx, a, C, dx, fs, sp, ex, ea, hC, l, q⟩ => ?_) ht⟩
  obtain ⟨f, fd, ps, c, hm, F, hb⟩ := (T _ hC).ex
  subst ex
  obtain rfl : u = Value.ref a := rx
  exact getmeth_ok I1 ea c hm l (PySem.W.callWith_K0 (first := [.ref a]) I1.kIn hm.kp (run_fnS (us := [.ref a]) (vs := [.ref a]) F hr hb (hx σ) I1 (.cons rfl .nil) q))
theorem pe_fldD (T : ∀ C ∈ Cs, FD X.K f C) (he : PE X e te) (hb : attributeBase e f X.env (eval e X.env) = eval e X.env := by rfl) : PE X (.Attribute e f pos) (eFldD Cs f te) :=
  pe_imp (pe_fld (pe_mo he) hb) fun σ H Q q => ⟨_, q, fun v H' ⟨a, C, dx, fs, w, e1, e2, hC, l, q⟩ => ⟨a, C, dx, fs, w, e1, e2, (T C hC).c, (T C hC).n, l, q⟩⟩
theorem ps_setFD (T : ∀ C ∈ Cs, FD X.K f C) (ha : PE X o te) (hv : PE X ev tv) (hs : swapsWith ev (some (.Attribute o f pos')) pos.line X.env = pure false := by rfl) : PS X (.Assign [.Attribute o f pos'] ev pos) (sSetFD Cs f te tv) :=
  ps_imp (ps_fld (pe_mo ha) (pe_mo hv) hs) fun D σ H q => ⟨_, q, fun y H1 q1 => ⟨_, q1, fun x H2 ⟨a, C, dx, fs, e1, e2, hC, l, q2⟩ => ⟨a, C, dx, fs, e1, e2, (T C hC).c, (T C hC).n, l, q2⟩⟩⟩
theorem ps_augFD {op : Operator} {rd : V → V → Hp → VK → Prop} (T : ∀ C ∈ Cs, FD X.K f C) (ha : PE X o te) (hv : PE X ev tv) (hop : InOp X op rd) : PS X (.AugAssign (.Attribute o f pos') op ev pos) (sAugFD Cs f te tv rd) :=
  ps_imp (ps_fldaug (pe_mo ha) (pe_mo hv) hop) fun D σ H q => ⟨_, q, fun x H1 ⟨a, C, dx, fs, v, e1, e2, hC, l, q2⟩ => ⟨a, C, dx, fs, v, e1, e2, (T C hC).c, (T C hC).n, l, ⟨_, q2, fun y H2 q3 => q3⟩⟩⟩
theorem pe_propD (he : PE X e te) (T : ∀ p ∈ l, PD X f k p) (hr : Room (k + 1) X.A) (hx : Passes (L2.CX X.prog X.w) X.nox E0) (hab : attributeBase e f X.env (eval e X.env) = eval e X.env := by rfl) : PE X (.Attribute e f pos) (ePropD l te) := by
  refine ⟨fun pins s σ H Q I h => attr_of hab (thn (he.run pins s σ H _ I h) fun u s1 ⟨x, H1, I1, rx, a, C, dx, fs, sp, ex, ea, hC, q⟩ => ?_)⟩
  obtain ⟨pa, g, fd, ps, c, hp, F, hb⟩ := (T _ hC).ex
  subst ex
  obtain rfl : u = Value.ref a := rx
  exact getprop_ok I1 ea c hp F hr hb .nil hx q
end

/-! ### super().m(..), m of an own class -/
structure SupM (K : PySem.W.Frag) (m : Str) (D f2 : Addr) (C : Addr) : Prop where
  opq : PySem.W.nsIn K PySem.cStatics "thirdparty.any" = some none
  fnd : PySem.W.ks_superIn K C D m = some (some (.ref f2))
  ty : PySem.W.typeIn K (.ref f2) = some (.type "function")
  fn : PySem.W.fnIn K f2 = true
  cls : (PySem.W.clsIn K C).isSome = true
  mro : PySem.W.mroIn K C (.ref D) = some true
def tSupM (Cs : List Addr) (sp : Sp) (E : XK) (t : TA) : TE := fun σ H Q => ∃ a C dx fs, σ[0]? = some (some (.ref a)) ∧ H a = some (.ins C dx fs) ∧ C ∈ Cs ∧ t σ H fun vs H1 => sp (.ref a :: vs) H1 Q E
section
variable {X : Cx} {D f2 : Addr} {Cs : List Addr} {m : Str} {k : Nat} {fd2 : FuncData} {ps2 : List Str} {sp : Sp} {E : XK} {body : List Stmt} {p0 p1 apos pos pos2 : Pos} {e : Expr} {es : List Expr} {ta : TA}
theorem psa_supM (T : SupT X D) (S : ∀ C ∈ Cs, SupM X.K m D f2 C) (F : FnOk X.prog X.w X.K X.mg X.base (L2.CX X.prog X.w) k f2 fd2 ps2 sp) (hr : Room k X.A) (hb : Binds X.K fd2 ps2 []) (hx : Passes (L2.CX X.prog X.w) X E) (ha : PA X (e :: es) ta) (hmc : (m == ("__class__" : Str)) = false := by decide) {pl : Sem Bool}
    (hc : eval (.Call (.Attribute (.Call (.Name "super" p0) [] [] p1) m apos) (e :: es) [] pos) X.env = (do
      let ov ← attributeBase (.Call (.Name "super" p0) [] [] p1) m X.env (eval (.Call (.Name "super" p0) [] [] p1) X.env)
      standAt apos.atName
      let (f, first) ← holding [ov] (getMethod ov m pl)
      callWith pos f first (backTo pos (starEach (e :: es) X.env)) []) := by rfl)
    (hi : interactive X.env = false := by rfl) (hs : swapsWith (.Call (.Attribute (.Call (.Name "super" p0) [] [] p1) m apos) (e :: es) [] pos) none pos2.line X.env = pure false := by rfl)
    (he : starEach (e :: es) X.env = (false, eval e X.env) :: starEach es X.env := by rfl) (hpl : (backTo pos (starEach es X.env)).any (·.1) = false := by rfl) :
    PSA X (.func body X.env) (.Expr (.Call (.Attribute (.Call (.Name "super" p0) [] [] p1) m apos) (e :: es) [] pos) pos2) (tDrop (tSupM Cs sp E ta)) := by
  refine ⟨fun pins s σ H K I h => ?_⟩
  obtain ⟨a, C, dx, fs, hσ, ea, hC, q⟩ := h
  obtain ⟨f, cc, cda, fd, ar, vs, file, tf, oc, ccl, cl, od, cdd, cld, osl, ccs, csl, cdD, z1, z2, z3, z4, z5, z6, z7, z8, z9, z10, z11, z12⟩ := T.ex
  obtain ⟨opq, fnd, ty, fnn, cls, mro⟩ := S C hC
  obtain ⟨mA, J0, _⟩ := ins_get I.hok ea
  obtain ⟨odx, J, _⟩ := J0.look
  obtain ⟨cd, hcl⟩ := Option.isSome_iff_exists.mp cls
  refine ks_wpAt_Expr_any (ks_wpAt_MethodCall (sup_base I T.ks T.kc hmc z1 z2 z3 z4 z5 z6 z7 T.top T.mg z8 z9 z10 z11 z12 hσ J mro fun h1 o1 k1 => ?_) hc) hi hs
  have KX : X.K.In h1 := I.kIn.keeps k1
  obtain ⟨hp, g, d, t, os⟩ := s
  obtain ⟨of, hof, hofc⟩ : ∃ of, h1.get? f2 = some of ∧ of.cls = .type "function" := by
    have ht' : (X.K.lookup f2).map (·.cls) = some (.type "function") := ty
    cases z : X.K.lookup f2 with
    | none => rw [z] at ht'; cases ht'
    | some of => rw [z] at ht'; exact ⟨of, KX _ _ z, Option.some.inj ht'⟩
  have hf := fnd
  unfold PySem.W.ks_superIn at hf
  rw [hcl] at hf
  refine ks_wpAny_getMethod_super o1 (PySem.W.looks_opaque KX opq) (l₀ := cd.mro) (fun A Q E s k q => wpAny_bind ((PySem.W.looks_clsIn KX hcl) A _ E s k (wpAny_pure q))) rfl KX hf hof hofc (PySem.W.ks_ne I.kIn J hcl) hmc ?_
  have kk : ∀ b o, hp.get? b = some o → (h1.push { cls := .type "method", data := .fields #[.ref f2, .ref a] }).get? b = some o := fun b o z => Heap.get?_push_of_some _ (k1 b o z)
  have hu : (h1.push { cls := .type "method", data := .fields #[.ref f2, .ref a] }).get? h1.objs.size = some { cls := .type "method", data := .fields #[.ref f2, .ref a] } := Heap.get?_push_at rfl rfl
  have szu : hp.objs.size ≤ h1.objs.size := Nat.le_of_lt (Heap.lt_size o1)
  have I2 : Inv X ((h1.objs.size, { cls := .type "method", data := .fields #[.ref f2, .ref a] }) :: pins) σ H ⟨h1.push { cls := .type "method", data := .fields #[.ref f2, .ref a] }, g, d, t + 1, os⟩ := by
    have z : Inv X pins σ H ⟨h1.push { cls := .type "method", data := .fields #[.ref f2, .ref a] }, g, d, t + 1, os⟩ := I.kept (t' := t + 1) kk
    refine z.pins_of fun p hp' => ?_
    rcases List.mem_cons.mp hp' with e | hp'
    · subst e
      have hl := I.lt
      refine ⟨hu, I.hok.fresh szu, fun y => ?_, I.nofs szu, fun v y => ?_⟩
      · have y : h1.objs.size = X.env.locals := y
        have hl : X.env.locals < hp.objs.size := hl
        rw [← y] at hl
        exact absurd (Nat.lt_of_lt_of_le hl szu) (Nat.lt_irrefl _)
      · cases y
    · exact z.pin p (List.mem_append_right _ hp')
  rw [he]
  refine PySem.W.callWith_of (P := PySem.W.MethP X.K h1.objs.size f2 (.ref a)) (by show ((false || (backTo pos (starEach es X.env)).any (·.1)) || false) = false; rw [hpl]; rfl) (PySem.W.keeps_M fnn) ?_
  have hsp := ha.run pos _ _ σ H _ I2 q
  rw [he] at hsp
  refine PySem.Calls.evalArgs_plain (wpAny_mono hsp (fun us s2 h2 => ?_) fun _ _ z => z)
  obtain ⟨ws, H2, I3, rw', q2⟩ := h2
  have pu := (I3.pin (h1.objs.size, { cls := .type "method", data := .fields #[.ref f2, .ref a] }) (List.mem_append_right _ List.mem_cons_self)).1
  refine ⟨⟨pu, I3.kIn⟩, ?_⟩
  have I4 : Inv X pins σ H2 s2 := I3.pins_of fun p hp' => I3.pin p (by
    rcases List.mem_append.mp (List.mem_append_right X.pn hp') with z | z
    · exact List.mem_append_left _ z
    · exact List.mem_append_right _ (List.mem_cons_of_mem _ z))
  have r2 : Vals (V.ref a :: ws) (Value.ref a :: us) := .cons rfl rw'
  have hl : (Value.ref a :: us).length = ps2.length := r2.length.symm.trans (F.len _ _ _ _ q2)
  have b := hb s2 (Value.ref a :: us) I4.kIn (by rw [List.append_nil]; exact hl)
  rw [List.append_nil] at b
  refine wpAny_call (PySem.W.method_call pu (codeAny_mono (F.run X.A X.stack s2 H2 ⟨Value.ref a :: us, []⟩ (Value.ref a :: us) _ _ E hr I4.env0 b r2 q2) fun r s' hq => ?_))
  cases r with
  | error e => exact hx pins σ H2 s2 e s' I4 hq
  | ok fl =>
    cases fl with
    | ret u =>
      obtain ⟨v, H3, I5, rv, q3⟩ := I4.after hq
      exact ⟨σ, H3, I5, q3⟩
    | next | brk | cont => exact False.elim hq
end

/-! ### a def that says super(), by its body; defaults -/
theorem ok_bodyS {P : Program} {w : World} {K : PySem.W.Frag} {mg : Str → Option Value} {base : Heap} {x qual : Str} {st : Stmt} {f D : Addr} {fd : FuncData} {N ps : List Str} {n m k : Nat} {t : XK → TS} {ar : Arg} (F : FunS P K x qual st f fd D) (S : FnScS N ps (defScope st)) (hn : N.length = n) (hm : ps.length = m)
    (ha : ((defArgs st).posonlyargs ++ (defArgs st).args).head? = some ar) (hka : (defScope st).names.lookup ar.arg = some .local) (hN : N[0]? = some ar.arg) (hks : (defScope st).names.lookup ("super" : Str) = some .globalImplicit) (hkc : (defScope st).names.lookup ("__class__" : Str) = some .free)
    (htop : (P.main.scope.names.lookup ("super" : Str)).isSome = false) (hmg : mg "super" = none)
    (h : ∀ (cdv : Value) (cc : Addr) (A : Around) (outer : List Env) (s : Shared) (H : Hp) (E : XK), Room k (A.deeper (ksEnv qual (defScope st) s.heap.objs.size f cdv cc)) → SupT (cxS P w K mg base N qual (defScope st) f cdv cc A outer s H E) D →
      PSsA (cxS P w K mg base N qual (defScope st) f cdv cc A outer s H E) (.func (defBody st) (ksEnv qual (defScope st) s.heap.objs.size f cdv cc)) (defBody st) (t E)) :
    FnOk P w K mg base (L2.CX P w) (k + 1) f fd ps (spB n m t) := by
  subst hn
  subst hm
  exact F.ok S ha hka hN hks hkc htop hmg (fun vs H Q E q => q.1) fun cdv cc A outer s H vs Q E hr T q => ⟨t E, h cdv cc A outer s H E hr T, q.2⟩
theorem passS {P : Program} {w : World} {K : PySem.W.Frag} {mg : Str → Option Value} {base : Heap} {N : List Str} {qual : Str} {scope : Scope} {f cc : Addr} {cd : Value} {A : Around} {outer : List Env} {s : Shared} {H : Hp} {E : XK} :
    Passes (L2.CX P w) (cxS P w K mg base N qual scope f cd cc A outer s H E) E := passes_call (takes_of rfl rfl rfl rfl) fun _ _ _ _ h => h
/-- n values are written, the others are the defaults ds -/
theorem binds_dfl {K : PySem.W.Frag} {fd : FuncData} {ps : List Str} {T : Addr} {o : Obj} {its : Array Value} {n j : Nat} {ds : List Value} (lT : K.lookup T = some o) (oT : o.data = .seq its j) (hn : n + ds.length = ps.length)
    (h : ∀ us : List Value, us.length = n → ∃ k, bindArgs fd ⟨us, []⟩ = seqItems? (.ref T) >>= k ∧ k (some its) = pure (ps.zip (us ++ ds))) : Binds K fd ps ds := fun s us X hl => by
  have l2 : us.length = n := by
    rw [List.length_append] at hl
    omega
  obtain ⟨k, e1, e2⟩ := h us l2
  refine BindsTo.of_looks fun M => ?_
  rw [e1]
  exact looks_items X lT oT (.of_pure e2)

/-! ### tables, from the text's facts -/
theorem md_mk {X : Cx} {m : Str} {k k' : Nat} {C f : Addr} {fd : FuncData} {ps : List Str} {sp : Sp} (c : Cls X.K C) (hm : Meth X.K C m f) (F : FnOk X.prog X.w X.K X.mg X.base (L2.CX X.prog X.w) k' f fd ps sp) (hk : k' ≤ k) (hb : Binds X.K fd ps []) : MD X m k (C, sp) :=
  ⟨f, fd, ps, c, hm, F.mono hk, hb⟩
theorem pd_mk {X : Cx} {m : Str} {k k' : Nat} {C f : Addr} {fd : FuncData} {ps : List Str} {sp : Sp} (c : Cls X.K C) (hp : ∃ pa, PropOf X.K C m pa f) (F : FnOk X.prog X.w X.K X.mg X.base (L2.CX X.prog X.w) k' f fd ps sp) (hk : k' ≤ k) (hb : Binds X.K fd ps []) : PD X m k (C, sp) := by
  obtain ⟨pa, hp⟩ := hp
  exact ⟨pa, f, fd, ps, c, hp, F.mono hk, hb⟩
theorem fd_mk {K : PySem.W.Frag} {f : Str} {C : Addr} (c : Cls K C) (n : NoAttr K C f) : FD K f C := ⟨c, n⟩
theorem cls_some {K : PySem.W.Frag} {C : Addr} (h : PySem.W.hasDictIn K C = true) : (PySem.W.clsIn K C).isSome = true := by
  obtain ⟨cd, hc, _⟩ := PySem.W.any_some h
  rw [hc]
  rfl
theorem funS_mk {P : Program} {K : PySem.W.Frag} {x qual : Str} {st : Stmt} {f D cc cda : Addr} {oc cl ccl dV kV doc pm ct : Value} {od cld cdd an : Option Addr} {osl csl ccs : Array (Option Value)} {vs : Array Value} {file : Str} {tf : Tok}
    (lk : K.lookup f = some ⟨oc, od, .func (ksFn x qual (defArgs st) (defBody st) (defScope st) dV kV doc pm an (.ref cda) ct cc), osl⟩) (hc : PySem.W.codeIn K (.ref cda) qual = true) (hcc : K.lookup cc = some ⟨cl, cld, .cell (some (.ref D)), csl⟩)
    (hcode : K.lookup cda = some ⟨ccl, cdd, .fields vs, ccs⟩) (hv : vs[2]? = some (.str file tf)) (hf : ((P.main.file : Str) == file) = true) (hd : PySem.W.hasDictIn K D = true) (kp : PySem.W.keepIn K (.ref f) = true) :
    FunS P K x qual st f (ksFn x qual (defArgs st) (defBody st) (defScope st) dV kV doc pm an (.ref cda) ct cc) D := by
  obtain ⟨cd, hcl⟩ := Option.isSome_iff_exists.mp (cls_some hd)
  exact ⟨⟨oc, cl, ccl, dV, kV, doc, pm, ct, od, cld, cdd, an, osl, csl, ccs, cda, cc, vs, file, tf, cd, rfl, lk, hc, hcc, hcode, hv, hf, hcl⟩, kp⟩

/-! ### o[i] += e -/
def rGetL : V → V → Hp → VK → Prop := fun x y H Q => ∃ p xs i v, x = .ref p ∧ y = .int i ∧ H p = some (.lst xs) ∧ atI xs i = some v ∧ Q v H
theorem get_listI {X : Cx} : PGet X rGetL := by
  intro pins s σ H x y v u Q I rx ry h
  obtain ⟨p, xs, i, z, rfl, rfl, hq, he, q⟩ := h
  cases rx
  obtain ⟨t, rfl⟩ := ry
  obtain ⟨its, r, pl, hz⟩ := I.list (sqL (S := SK X.K) rfl (.inl (.inl hq)))
  obtain ⟨j, h1, h2, h3, h4, h5⟩ := atI_get he
  obtain ⟨w, ew, rw'⟩ := r.get h2
  have hl := r.length
  have hn := line63
  have fin : EP X pins σ Q w s := ⟨z, H, I, rw', q⟩
  by_cases h0 : 0 ≤ i
  · have hj : i.toNat = j := by
      rw [seqIndex_of h0 h5] at h1
      exact Option.some.inj h1
    exact wpAny_getItem_list pl.isList h0 (by omega) (by rw [hj]; simpa using ew) fin
  · have hj : (i + (its.toArray.size : Int)).toNat = j := by
      rw [seqIndex_neg (by omega) h4] at h1
      rw [List.size_toArray, ← hl]
      exact Option.some.inj h1
    exact wpAny_getItem_list_neg pl.isList (by omega) (by rw [List.size_toArray] <;> omega) (by omega) (by rw [hj]; simpa using ew) fin
theorem ps_augSI {X : Cx} {o i e : Expr} {to ti te : TE} {tip : TIp} {op : Operator} {pos tpos : Pos} (ho : PE X o to) (hi : PE X i ti) (he : PE X e te) (hp : PIp X op tip)
    (ha : ∀ ov iv new, augStore i ov iv new = (do holding [new, ov, iv] (setItem ov iv new); release [new, ov, iv] []; pure .next) := by intros; rfl) : PS X (.AugAssign (.Subscript o i tpos) op e pos) (tAugS to ti te rGetL tip rSetL) := ps_augS ho hi get_listI he hp set_list ha
end Y

/-! enumerate over a list or a tuple; isinstance with a tuple of types; insert; messages that are f-strings. -/
namespace Y
open PySem PySem.Spec PyProof.Rows L2

section
open Builtin
theorem meets_enum1 {v : Value} {o : Obj} {H : Heap → Prop} (B : Begins v o H) :
    Meets (Builtin.«enumerate.__new__» ⟨[.type "enumerate", v], []⟩) (fun _ R s => H s.heap ∧
      R (.ok (.ret (.ref (s.heap.push o).objs.size))) { s with heap := (s.heap.push o).push { cls := .type "enumerate", data := .fields #[.none, .bool false, .ref s.heap.objs.size, rawInt 0, .none, .none] } }) :=
  .of_wp fun prog w A R s h => by
    obtain ⟨hp, g, d, tk, os⟩ := s
    obtain ⟨h1, h⟩ := h
    have hsub := sub_enumerate
    have q1 : ∀ {A' : Around} {E : Value → Shared → Prop} {Q : Value → Shared → Prop}, Q (.ref hp.objs.size) ⟨hp.push o, g, d, tk, os⟩ → wpAny (model prog w) A' (pyIter v) Q E ⟨hp, g, d, tk, os⟩ :=
      fun q => B.iter prog w _ _ ⟨hp, g, d, tk, os⟩ _ h1 q
    wp_walk using q1
    refine wpAny_stack_any fun st => wpAny_pure ?_
    split
    · rename_i c _ _ _ _ _
      cases (c == Value.type "enumerate")
      · wp_walk using q1
        exact ⟨_, rfl, h⟩
      · wp_walk using q1
        exact ⟨_, rfl, h⟩
    · wp_walk using q1
      exact ⟨_, rfl, h⟩
end
theorem enum1_begins {prog : Program} {w : World} {A : Around} {E : Value → Shared → Prop} {s : Shared} {v : Value} {o : Obj} {H : Heap → Prop} {Q : Value → Shared → Prop} (B : Begins v o H) (h1 : H s.heap)
    (h : ∀ h', IsEnum h' (s.heap.objs.size + 1) s.heap.objs.size 0 .none → h'.get? s.heap.objs.size = some o → h'.objs.size = s.heap.objs.size + 2 →
      (∀ b o, s.heap.get? b = some o → h'.get? b = some o) → Q (.ref (s.heap.objs.size + 1)) { s with heap := h' }) :
    wpAny (model prog w) A (call (.type "enumerate") [v]) Q E s := by
  refine callType_new F.called_enumerate (by decide) (F.typeCall_enumerate_1 _) (F.newCall_enumerate_1 _) (fun obj => F.args_object_init_2 obj _) F.entry_enumerate_new
    (meets_enum1 B) ⟨h1, ?_⟩
  have hz : (s.heap.push o).objs.size = s.heap.objs.size + 1 := Heap.size_push ..
  show _ ∧ _
  rw [hz]
  have he : IsEnum ((s.heap.push o).push { cls := .type "enumerate", data := .fields #[.none, .bool false, .ref s.heap.objs.size, rawInt 0, .none, .none] }) (s.heap.objs.size + 1) s.heap.objs.size 0 .none := by
    have := Heap.get?_push_size (s.heap.push o) (o := { cls := .type "enumerate", data := .fields #[.none, .bool false, .ref s.heap.objs.size, rawInt 0, .none, .none] }) rfl
    rw [hz] at this
    exact this
  exact ⟨⟨_, he, rfl⟩, h _ he (Heap.get?_push_of_some _ (Heap.get?_push_size _ B.free)) (by rw [Heap.size_push, hz]) fun b o x => Heap.get?_push_of_some _ (Heap.get?_push_of_some _ x)⟩
def IteT (K : PySem.W.Frag) (a : Addr) : It :=
  ⟨fun i H => ∃ (xs : List V) (x : V), SqT K H a xs ∧ xs[i]? = some x, fun i H v H' => ∃ T x, v = .ref T ∧ H T = none ∧ H' = upd H T (.tup [.int (i : Nat), x]) ∧ ∀ xs, SqT K H a xs → xs[i]? = some x, fun i H => ∃ xs : List V, SqT K H a xs ∧ xs.length = i⟩
theorem turn_enumT {P : Program} {w : World} {K : PySem.W.Frag} {elts : List Expr} {kk : Nat} {tpos : Pos} (a e it : Addr) :
    Turn P w K (.Tuple elts kk tpos) (IteT K a) [e, it] e (fun i h => (∃ old, IsEnum h e it ((i : Nat) : Int) old) ∧ h.IsTupleIter it a i ∧ e ≠ it ∧ a ≠ it ∧ e ≠ a) where
  mem := by simp
  obj := fun i h st b hb => by
    obtain ⟨⟨old, he⟩, ⟨o, ho, hc, hd⟩, _⟩ := st
    have e' : b = e ∨ b = it := by simpa using hb
    rcases e' with z | z
    · rw [z]; exact ⟨_, he, fun v q => nomatch q⟩
    · rw [z]; exact ⟨o, ho, fun v q => by rw [hd] at q; cases q⟩
  keep := fun i h h' st k => by
    obtain ⟨⟨old, he⟩, ⟨o, ho, hc, hd⟩, hne⟩ := st
    exact ⟨⟨old, k e (by simp) _ he⟩, ⟨o, k it (by simp) o ho, hc, hd⟩, hne⟩
  item := by
    intro X hP hw hK hc i pins s σ H E I hf st hg
    subst hP hw hK
    obtain ⟨⟨old, he⟩, hit, hne, hna, hea⟩ := st
    obtain ⟨xs, x, hq, hx⟩ := hg
    obtain ⟨its, rv, p, hz⟩ := I.tuple hq
    have hi : i < xs.length := (List.getElem?_eq_some_iff.mp hx).1
    have hl := rv.length
    have hel : e < s.heap.objs.size := Heap.lt_size he
    have hil : it < s.heap.objs.size := by obtain ⟨_, q, _⟩ := hit; exact Heap.lt_size q
    have D := Draws.tuple (prog := X.prog) (w := X.w) (A := X.A.in1) (I.ok.hd hc) it a hna its.toArray
    refine wpAny_pyNext_enum_itemD D he ⟨hit, p⟩ (by rw [List.size_toArray]; omega) hne (by simp [hne, hea]) fun u h' tk hu ho hst hT hsz hk => ?_
    have ru : RelV x u := by
      obtain ⟨u', hu', ru⟩ := rv.get hx
      have hu2 : its[i]? = some u := by simpa using hu
      rw [hu'] at hu2
      cases hu2
      exact ru
    refine ⟨_, rfl, wpAny_letOwnedTupleGo_enum (s := { s with heap := h', toks := tk + 1 }) ho fun h'' he' sb => ?_⟩
    have hT2 : h''.get? s.heap.objs.size = some { cls := .type "tuple", data := .seq #[.int i tk, u] } := (sb.2 _ (Nat.ne_of_gt hel)).trans hT
    have new : ObjOk X.prog X.w (upd H s.heap.objs.size (.tup [.int (i : Nat), x])) h'' s.heap.objs.size (.tup [.int (i : Nat), x]) :=
      ⟨by show 2 ≤ sizeLine; decide, [.int i tk, u], .cons ⟨_, rfl⟩ (.cons ru .nil), ⟨_, hT2, rfl, _, rfl⟩⟩
    have I1 : Inv X pins σ (upd H s.heap.objs.size (.tup [.int (i : Nat), x])) { s with heap := h'', toks := tk + 1 } :=
      I.turnedNew (ch := [e, it]) (fun b ob hb q => (sb.2 b (fun z => hb (by simp [z]))).trans (hk b ob (fun z => hb (by simp [z])) (fun z => hb (by simp [z])) q)) hf (Nat.le_refl _) new
    refine ⟨.ref s.heap.objs.size, _, I1, rfl, ⟨_, x, rfl, I.hok.fresh (Nat.le_refl _), rfl, fun ys hy => by rw [I.tuple_inj hy hq]; exact hx⟩, ⟨⟨u, ?_⟩, ?_, hne, hna, hea⟩, fun b hb => ?_⟩
    · have e1 : ((i + 1 : Nat) : Int) = (i : Int) + 1 := by omega
      rw [e1]; exact he'
    · obtain ⟨o, ho1, ho2, ho3⟩ := hst.1
      exact ⟨o, (sb.2 it (Ne.symm hne)).trans ho1, ho2, ho3⟩
    · have hb' : b < s.heap.objs.size := by
        have e' : b = e ∨ b = it := by simpa using hb
        rcases e' with z | z
        · rw [z]; exact hel
        · rw [z]; exact hil
      rw [upd_ne (Nat.ne_of_lt hb')]
      exact (hf b hb).1
  done := by
    intro X hP hw hK hc i pins s σ H E I hf st hg
    subst hP hw hK
    obtain ⟨⟨old, he⟩, hit, hne, hna, hea⟩ := st
    obtain ⟨xs, hq, hx⟩ := hg
    obtain ⟨its, rv, p, hz⟩ := I.tuple hq
    obtain ⟨f0, f1, f2, f3, f4, f5⟩ := hf it (by simp)
    have hl := rv.length
    have D := Draws.tuple (prog := X.prog) (w := X.w) (A := X.A.in1) (I.ok.hd hc) it a hna its.toArray
    have hn : its.toArray.size = i := by rw [List.size_toArray]; omega
    exact wpAny_pyNext_enum_endD D he (by rw [hn]; exact ⟨hit, p⟩) fun h' eb => ⟨rfl, I.turned (t' := s.toks) (fun b o hb q => eb b o hb q) f0 f1 f3 f4 f5⟩
  self := fun A i s Q E st h => let ⟨⟨_, he⟩, _⟩ := st; wpAny_pyIter_enum he h
/-- enumerate(e), e a list or a tuple -/
def iEn (K : PySem.W.Frag) (te : TE) : TI := fun σ H R => te σ H fun x H1 => ∃ a, x = .ref a ∧ (((∃ xs, SqL K H1 a xs) ∧ R (Ite K a) H1) ∨ ((∃ xs, SqT K H1 a xs) ∧ R (IteT K a) H1))
theorem pi_en {X : Cx} {e : Expr} {te : TE} {p pos tpos : Pos} {elts : List Expr} {kk : Nat} (hg : Gl X "enumerate") (hm : X.mg "enumerate" = none) (he : PE X e te) (hs : starEach [e] X.env = (false, eval e X.env) :: starEach [] X.env := by rfl) (hs2 : starEach [e] X.env = [(false, eval e X.env)] := by rfl) :
    PI X (.Tuple elts kk tpos) (.Call (.Name "enumerate" p) [e] [] pos) (iEn X.K te) := by
  refine ⟨fun pins s σ H R I h => ?_⟩
  refine Call_ (ld_blt I hg hm boot_enumerate (PyProof.Rows.callWith_type1 (thn ((pa_cons (pe_mo he) pa_nil hs).run pos pins s σ H (fun vs H1 => ∃ x, vs = [x] ∧ ∃ a, x = .ref a ∧ (((∃ xs, SqL X.K H1 a xs) ∧ R (Ite X.K a) H1) ∨ ((∃ xs, SqT X.K H1 a xs) ∧ R (IteT X.K a) H1))) I ⟨_, h, fun v H' q => ⟨v, rfl, q⟩⟩) fun us s1 ⟨vs, H1, I1, r1, q1⟩ => ?_) hs2 rfl))
  obtain ⟨x, rfl, a, rfl, q⟩ := q1
  cases r1 with
  | cons r rr =>
    cases rr
    cases r
    have fp : ∀ {b : Addr}, b ∈ [s1.heap.objs.size + 1, s1.heap.objs.size] → FpOk X pins H1 b := fun {b} hb => by
      have e' : b = s1.heap.objs.size + 1 ∨ b = s1.heap.objs.size := by simpa using hb
      have hle : s1.heap.objs.size ≤ b := by
        rcases e' with z | z
        · rw [z]; exact Nat.le_add_right _ _
        · rw [z]; exact Nat.le_refl _
      exact I1.fpOk hle (I1.hok.fresh hle)
    rcases q with ⟨⟨xs, hq⟩, q⟩ | ⟨⟨xs, hq⟩, q⟩
    · obtain ⟨its, rv, p', hz⟩ := I1.list hq
      refine call_enumerate_list p'.isList fun h' he hit hsz hk => wpAny_pyIter_enum he ?_
      have I2 : Inv X pins σ H1 { s1 with heap := h' } := I1.kept (t' := s1.toks) hk
      exact ⟨s1.heap.objs.size + 1, [s1.heap.objs.size + 1, s1.heap.objs.size], _, _, H1, rfl, I2, turn_enum a (s1.heap.objs.size + 1) s1.heap.objs.size, ⟨⟨.none, he⟩, hit, Nat.succ_ne_self _⟩, fun b hb => fp hb, q⟩
    · obtain ⟨its, rv, p', hz⟩ := I1.tuple hq
      have pT : s1.heap.IsTuple a its.toArray := p'
      have hal : a < s1.heap.objs.size := by obtain ⟨o, ho, _⟩ := pT; exact Heap.lt_size ho
      refine enum1_begins (begins_tuple a its.toArray) pT fun h' he hit hsz hk => wpAny_pyIter_enum he ?_
      have I2 : Inv X pins σ H1 { s1 with heap := h' } := I1.kept (t' := s1.toks) hk
      exact ⟨s1.heap.objs.size + 1, [s1.heap.objs.size + 1, s1.heap.objs.size], _, _, H1, rfl, I2, turn_enumT a (s1.heap.objs.size + 1) s1.heap.objs.size, ⟨⟨.none, he⟩, ⟨_, hit, rfl, rfl⟩, Nat.succ_ne_self _, Nat.ne_of_lt hal, Nat.ne_of_gt (Nat.lt_succ_of_lt hal)⟩, fun b hb => fp hb, q⟩
theorem walk_enumT {K : PySem.W.Frag} {a : Addr} {xs : List V} : Walk (IteT K a) xs.length (fun H => SqT K H a xs) (YPair (fun i => some (.int (i : Nat))) (fun i => xs[i]?)) := by
  refine ⟨fun i _ hi q => ⟨xs, xs[i], q, by simp [hi]⟩, fun _ q => ⟨xs, q, rfl⟩, fun i H v H' _ q y => ?_⟩
  obtain ⟨T, x, h1, h2, h3, h4⟩ := y
  exact ⟨T, .int (i : Nat), x, h1, h2, h3, rfl, h4 xs q⟩
/-- the turns of for i, x in enumerate(p); the pair itself is a new tuple -/
def EnS (S : Sta) (gi gj : TG) (s1 : TS) (nx : L2.St → Hp → Prop) (rt : VK) (x : V) (σ : L2.St) (H : Hp) : Prop := ∃ p xs, x = .ref p ∧ ∃ Pv : Nat → L2.St → Hp → Prop, Pv 0 σ H ∧ Stays S p xs (fun i H => ∃ σ, Pv i σ H) ∧
  (∀ (i : Nat) y σ H T, xs[i]? = some y → Pv i σ H → H T = none → gi (.int (i : Int)) σ (upd H T (.tup [.int (i : Int), y])) fun σ' H' => gj y σ' H' fun σ2 H2 => s1 ⟨Pv (i + 1), rt, nx, Pv (i + 1)⟩ σ2 H2) ∧ ∀ σ H, Pv xs.length σ H → nx σ H
def sForEn (S : Sta) (te : TE) (gi gj : TG) (tb : TS) : TS := fun D σ H => te σ H fun x H1 => EnS S gi gj tb D.nx D.rt x σ H1
theorem gpair {gj : TG} {z : V} {Q : L2.St → Hp → Prop} : (fun σ' H' => gCons gj gNil [z] σ' H' Q) = fun σ' H' => gj z σ' H' Q := by
  funext σ' H'
  have e : (fun σ2 H2 => gNil [] σ2 H2 Q) = Q := by
    funext σ2 H2
    exact propext ⟨And.right, fun h => ⟨rfl, h⟩⟩
  refine propext ⟨fun ⟨v, r, e1, h⟩ => ?_, fun h => ⟨z, [], rfl, ?_⟩⟩
  · cases e1
    rw [e] at h
    exact h
  · rw [e]
    exact h
theorem ps_forEn {X : Cx} {S : Sta} {e ea eb : Expr} {te : TE} {gi gj : TG} {tb : TS} {body : List Stmt} {pos p pos2 tpos : Pos} {kk : Nat} (st : S = SK X.K) (hp : PassesOwn (model X.prog X.w) X.A X.env X.xe) (hc : X.calm = true) (hgl : Gl X "enumerate") (hm : X.mg "enumerate" = none) (he : PE X e te)
    (hgi : PG X ea gi) (hgj : PG X eb gj) (hb : PSs X body tb) (hs : starEach [e] X.env = (false, eval e X.env) :: starEach [] X.env := by rfl) (hs2 : starEach [e] X.env = [(false, eval e X.env)] := by rfl)
    (hs' : ∀ x, foldedSetIterable (.Call (.Name "enumerate" p) [e] [] pos2) X.env x = pure x := by intro _; rfl)
    (h1 : (assignEach [ea, eb] X.env).map (·.2) = assign ea X.env :: (assignEach [eb] X.env).map (·.2) := by rfl) (h2 : (assignEach [eb] X.env).map (·.2) = assign eb X.env :: (assignEach [] X.env).map (·.2) := by rfl)
    (h3 : (assignEach [ea, eb] X.env).length = 2 := by rfl) (h4 : (assignEach [ea, eb] X.env).findIdx? (·.1) = none := by rfl) :
    PS X (.For (.Tuple [ea, eb] kk tpos) (.Call (.Name "enumerate" p) [e] [] pos2) body [] pos) (sForEn S te gi gj tb) :=
  ps_imp (ps_for hp hc (pi_en hgl hm (pe_mo he) hs hs2) (pg_tup hc (pgs_cons hgi (pgs_cons hgj pgs_nil h2) h1) h3 h4) hb hs') fun D σ H q => ⟨_, q, fun x H1 ⟨a, xs, e, Pv, h0, hst, ht, hd⟩ => by
    refine ⟨a, e, ?_⟩
    have tn : ∀ (i : Nat) x σ H H', i < xs.length → Pv i σ H → YPair (fun i => some (.int (i : Nat))) (fun i => xs[i]?) i H x H' → gTup X.K 2 (gCons gi (gCons gj gNil)) x σ H' fun σ2 H2 => tb { D with nx := Pv (i + 1), ct := Pv (i + 1), bk := D.nx } σ2 H2 := by
      rintro i x σ H H' hi p ⟨T, y, z, rfl, hT, rfl, h5, h6⟩
      have e5 : V.int (i : Nat) = y := by injection h5
      subst e5
      exact ⟨T, [.int (i : Nat), z], rfl, .inl (.inl upd_same), rfl, .int (i : Nat), [z], rfl, by
        have h := ht i z σ H T h6 p hT
        rw [← gpair] at h
        exact h⟩
    rcases hst with z | z
    · exact .inl ⟨⟨xs, sqL st (z 0 H1 (Nat.zero_le _) ⟨σ, h0⟩)⟩, for_it walk_enum Pv h0 (fun i σ H hi p => sqL st (z i H hi ⟨σ, p⟩)) tn hd⟩
    · exact .inr ⟨⟨xs, sqT st (z 0 H1 (Nat.zero_le _) ⟨σ, h0⟩)⟩, for_it walk_enumT Pv h0 (fun i σ H hi p => sqT st (z i H hi ⟨σ, p⟩)) tn hd⟩⟩
/-! ### isinstance(x, (T1, T2, ..)) of built-in types -/
inductive Tys : List V → List String → Prop
  | nil : Tys [] []
  | cons {n : String} {vs : List V} {ns : List String} (h : Tys vs ns) : Tys (.ty n :: vs) (n :: ns)
def rIsT : List V → Hp → VK → Prop := fun xs H Q => ∃ x p vs ns t, xs = [x, .ref p] ∧ H p = some (.tup vs) ∧ Tys vs ns ∧ TyN H x t ∧ (∀ n ∈ ns, kitB t n = some (isA t n)) ∧ Q (.bl (ns.any (isA t))) H
theorem Tys.cls : ∀ {vs : List V} {ns : List String}, Tys vs ns → Paired ClsV vs (ns.map Value.type)
  | _, _, .nil => .nil
  | _, _, .cons h => .cons (.ty _) h.cls
theorem kit_any {K : PySem.W.Frag} {t : String} : ∀ {ns : List String}, (∀ n ∈ ns, kitB t n = some (isA t n)) → PySem.W.kitAny K (.type t) (ns.map Value.type) = some (ns.any (isA t))
  | [], _ => rfl
  | n :: ns, h => by
    have h1 := kit_ty (K := K) (h n List.mem_cons_self)
    have h2 := kit_any (K := K) (ns := ns) fun m hm => h m (List.mem_cons_of_mem _ hm)
    refine kitAny_cons h1 (fun hb => ?_) fun hb => ?_
    · rw [h2, List.any_cons, hb, Bool.false_or]
    · rw [List.any_cons, hb, Bool.true_or]
theorem c_isT {X : Cx} : CallR X (.builtin "isinstance") rIsT := call_imp call_isiT fun xs H Q q => by
  obtain ⟨x, p, vs, ns, t, e, h, k, ty, ha, q⟩ := q
  exact ⟨x, p, vs, .type t, ns.map Value.type, ns.any (isA t), e, h, k.cls, ty.x, kit_any ha, q⟩

/-! ### xs.insert(i, y) -/
def rIns : V → List V → Hp → VK → Prop := fun x vs H Q => ∃ (l : Addr) (xs : List V) (i : Int) (y : V), x = .ref l ∧ vs = [.int i, y] ∧ H l = some (.lst xs) ∧ xs.length < sizeLine ∧ 0 ≤ i ∧ i < 2 ^ 63 ∧ Q .non (upd H l (.lst (xs.take i.toNat ++ [y] ++ xs.drop i.toNat)))
def eIns (te : TE) (ta : TA) : TE := fun σ H Q => te σ H fun x H1 => ∃ l, x = .ref l ∧ (∃ xs, H1 l = some (.lst xs)) ∧ ta σ H1 fun vs H2 => rIns x vs H2 Q
theorem pe_ins {X : Cx} {o e : Expr} {es : List Expr} {te : TE} {ta : TA} {apos cpos : Pos} (ho : PE X o te) (ha : PA X (e :: es) ta)
    (hbase : attributeBase o "insert" X.env (eval o X.env) = eval o X.env := by rfl)
    (hfew : ((backTo cpos (starEach (e :: es) X.env)).all (fun x => !x.1) && (backToKw cpos (keywordEach [] X.env)).all (fun x => x.1.isSome)
      && decide ((e :: es).length + ([] : List Keyword).length + (if ([] : List Keyword).isEmpty then 0 else 1) < 30)) = true := by rfl)
    (hline : (apos.endLine == cpos.line) = true := by rfl) (hs : starEach (e :: es) X.env = (false, eval e X.env) :: starEach es X.env := by rfl) (hplain : (backTo cpos (starEach es X.env)).any (·.1) = false := by rfl) :
    PE X (.Call (.Attribute o "insert" apos) (e :: es) [] cpos) (eIns te ta) :=
  pe_imp (pe_bm PySem.F.plainAttrs_list PySem.F.slot_list_insert PySem.F.type_list_insert mt_insert (pe_mo ho) ha hbase hfew hline hs hplain) fun σ H Q q =>
    ⟨_, q, fun x H1 ⟨l, e1, ⟨xs, hl⟩, q1⟩ => by subst e1; exact ⟨.inl ⟨rfl, _, .inl (.inl hl)⟩, q1⟩⟩

/-! ### messages: f-strings of texts and small numbers -/
def fmtOk : V → Prop
  | .int i => i.natAbs.log2 < 1920
  | .str y => y.length ≤ 100000
  | _ => False
def ShortE (t : TE) (σ : L2.St) (H : Hp) : Prop := ∀ Q : VK, (∀ y : Str, y.length ≤ 100000 → Q (.str y) H) → t σ H Q
theorem short_c {m : Str} {σ : L2.St} {H : Hp} (h : m.length ≤ 100000) : ShortE (tC (.str m)) σ H := fun Q k => k m h
theorem short_f {n : Nat} {v : V} {σ : L2.St} {H : Hp} (e : σ[n]? = some (some v)) (h : fmtOk v) : ShortE (tFmt (tVar n)) σ H := fun Q k => by
  refine ⟨v, e, ?_⟩
  cases v with
  | int i => exact .inr ⟨i, rfl, h, k _ (Nat.le_trans (int_text_len_1921 h) (by decide))⟩
  | str y => exact .inl ⟨y, rfl, by have h : y.length ≤ 100000 := h; rw [sizeLine_eq]; omega, k _ h⟩
  | _ => exact h.elim
theorem tjs_ok : ∀ {ts : List TE} {acc : Str} {σ : L2.St} {H : Hp} {Q : Str → Hp → Prop}, (∀ t ∈ ts, ShortE t σ H) → acc.length + 100000 * ts.length ≤ 16777216 → (∀ z, Q z H) → tJs ts acc σ H Q
  | [], acc, σ, H, Q, _, _, k => k acc
  | t :: ts, acc, σ, H, Q, h, hl, k => h t List.mem_cons_self _ fun y hy => by
    rw [List.length_cons] at hl
    have e : (acc ++ y).length = acc.length + y.length := Str.length_append ..
    exact ⟨y, rfl, by rw [e, sizeLine_eq]; omega, tjs_ok (fun t ht => h t (List.mem_cons_of_mem _ ht)) (by rw [e]; omega) k⟩
/-! ### errors whose message shows their field -/
def spExF (Cs : List Addr) (fs : List Str) : Sp := fun vs H Q E => (∀ y ∈ vs.tail, fmtOk y) ∧ spEx Cs fs vs H Q E
def tMkF (C : Addr) (fs : List Str) (ta : TA) : L2.St → Hp → XK → Prop := fun σ H Q => ta σ H fun vs H1 => (∀ y ∈ vs, fmtOk y) ∧ vs.length = fs.length ∧ ∀ d, H1 d = none → Q (.ref C) (some d) (upd H1 d (.xd (exFs fs vs)))
theorem mkF_of {C : Addr} {Cs : List Addr} {fs : List Str} {ta : TA} (hC : C ∈ Cs) (hl : fs.length ≤ 900) {σ : L2.St} {H : Hp} {Q : XK} (q : tMkF C fs ta σ H Q) : tMkO C (spExF Cs fs) [] (moA ta) σ H Q := by
  refine ⟨_, q, fun vs H1 ⟨g, e, h⟩ => ⟨by omega, fun a ha => ⟨by rw [List.append_nil]; exact g, a, C, vs, hC, by rw [List.append_nil], e, upd_same, fun d hd hne => ⟨rfl, d, exFs fs vs, upd_same, ?_, ?_, ?_⟩⟩⟩⟩
  · rw [upd_ne hne, upd_same]
  · rw [upd_ne hne] at hd
    exact hd
  · rw [upd_ne hne] at hd
    have e2 : upd (del (upd (upd (upd H1 a (exo a C none)) d (exd d (exFs fs vs))) a (exo a C (some d))) a) d (.xd (exFs fs vs)) = upd H1 d (.xd (exFs fs vs)) := by
      funext b
      by_cases hb : b = d
      · rw [hb, upd_same, upd_same]
      · rw [upd_ne hb, upd_ne hb]
        by_cases hba : b = a
        · rw [hba, del_same, ha]
        · rw [del_ne hba, upd_ne hba, upd_ne hb, upd_ne hba]
    rw [e2]
    exact h d hd
theorem pmk_exF {X : Cx} {CX : CXT} {x : Str} {C fI : Addr} {Cs : List Addr} {fs : List Str} {k : Nat} {fd : FuncData} {ps : List Str} {e : Expr} {es : List Expr} {ta : TA} {p pos : Pos} (T : OexC X.K C) (iC : PySem.W.findIn X.K (.ref C) "__init__" = some (some (.ref fI))) (tI : PySem.W.typeIn X.K (.ref fI) = some (.type "function"))
    (F1 : FnOk X.prog X.w X.K X.mg X.base CX k fI fd ps (spExF Cs fs)) (hC : C ∈ Cs) (hl : fs.length ≤ 900) (hr : Room (k + 1) X.A) (hb : Binds X.K fd ps []) (hx : Passes CX X (fun _ _ _ => False)) (hg : Gl X x) (hm : X.mg x = some (.ref C)) (ha : PA X (e :: es) ta)
    (hdb : (x == ("__debug__" : Str)) = false := by decide) (he : starEach (e :: es) X.env = (false, eval e X.env) :: starEach es X.env := by rfl) (hpl : (backTo pos (starEach es X.env)).any (·.1) = false := by rfl) :
    PMk X (.Call (.Name x p) (e :: es) [] pos) (tMkF C fs ta) :=
  pmk_imp (pmk_oex (dvs := []) (ds := []) T iC tI F1 hr hb .nil hx hg hm (pa_mo ha) hdb he hpl) fun _ _ _ q => mkF_of hC hl q
theorem exF {K : PySem.W.Frag} {Cs : List Addr} {D : Addr} {f : Str} {ts : List TE} (hl : ts.length ≤ 100) (hts : ∀ (a : V) (x : V) (H : Hp), fmtOk x → ∀ t ∈ ts, ShortE t [some a, some x] H) (h : ∀ C ∈ Cs, SupV K C D ∧ PySem.W.findIn K (.ref C) f = some none) {vs : List V} {H : Hp} {Q : VK} {E : XK} (q : spExF Cs [f] vs H Q E) {n x : Str} :
    tSeq (tDrop (tSupV K D (tCons (fun σ H Q => tJs ts Str.empty σ H fun out H1 => Q (.str out) H1) tNil))) (tOst K f (tVar 0) (tVar 1)) { nx := fun _ H' => Q .non H', rt := Q } (L2.start [n, x] vs) H := by
  obtain ⟨g, a, C, ys, hC, rfl, hl2, ea, q⟩ := q
  obtain ⟨V, na⟩ := h C hC
  cases ys with
  | nil => cases hl2
  | cons y ys =>
    cases ys with
    | cons _ _ => cases hl2
    | nil =>
      refine ⟨a, C, rfl, ea, V, ?_⟩
      refine tjs_ok (hts (.ref a) y H (g y List.mem_cons_self)) (by have : (Str.empty).length = 0 := rfl; omega) fun z => ?_
      exact ⟨by show 1 ≤ 1000; decide, ea, y, rfl, .ref a, rfl, a, C, rfl, V.ex, na, .inl ⟨ea, fun dx hd hne => q dx hd hne⟩⟩
theorem spExF_len {Cs : List Addr} {fs : List Str} (vs : List V) (H : Hp) (Q : VK) (E : XK) (q : spExF Cs fs vs H Q E) : vs.length = fs.length + 1 := spEx_len vs H Q E q.2
end Y

/-! isinstance of an instance; a class constant read at an instance; static tuples; keywords of a class; slices of texts; index. -/
namespace Y
open PySem PySem.Spec PyProof.Rows L2

/-! ### isinstance(o, D), o an instance of one of the table's classes -/
structure IsOb (K : PySem.W.Frag) (D : Addr) (p : Addr × Bool) : Prop where
  c : Cls K p.1
  ha : PySem.W.findIn K (.ref p.1) "__class__" = some (some (.builtin "object.__class__"))
  hn : PySem.W.specialIn K (.builtin "object.__class__") "__get__" = some (some (.builtin "getset_descriptor.__get__"))
  ht : PySem.W.takesIn K (.builtin "object.__class__") = some true
  hm : PySem.W.mroIn K p.1 (.type "object") = some true
  k : PySem.W.kitOne K (.ref p.1) (.ref D) = some p.2
def rIsO (D : Addr) (tbl : List (Addr × Bool)) : List V → Hp → VK → Prop := fun xs H Q => ∃ a C dx fs b, xs = [.ref a, .ref D] ∧ H a = some (.ins C dx fs) ∧ (C, b) ∈ tbl ∧ Q (.bl b) H
theorem c_isO {X : Cx} {D : Addr} {tbl : List (Addr × Bool)} (T : ∀ p ∈ tbl, IsOb X.K D p) : CallR X (.builtin "isinstance") (rIsO D tbl) := call_imp call_isi fun xs H Q q => by
  obtain ⟨a, C, dx, fs, b, e, h, hm, q⟩ := q
  have t := T _ hm
  exact ⟨.ref a, .ref D, .ref C, .ref D, b, e, .own D, .base (.ins h t.c t.ha t.hn t.ht t.hm), t.k, q⟩
/-! ### o.F, F a constant of o's class -/
structure ConD (K : PySem.W.Frag) (f : Str) (p : Addr × V) : Prop where
  c : Cls K p.1
  k : ∃ u, Con K p.1 f p.2 u
def eConD (l : List (Addr × V)) (f : Str) (te : TE) : TE := fun σ H Q => te σ H fun x H1 => ∃ a C dx fs v, x = .ref a ∧ H1 a = some (.ins C dx fs) ∧ (C, v) ∈ l ∧ fs.lookup f = none ∧ Q v H1
theorem pe_conD {X : Cx} {f : Str} {l : List (Addr × V)} {e : Expr} {te : TE} {pos : Pos} (T : ∀ p ∈ l, ConD X.K f p) (he : PE X e te) (hb : attributeBase e f X.env (eval e X.env) = eval e X.env := by rfl) : PE X (.Attribute e f pos) (eConD l f te) :=
  pe_imp (pe_con (pe_mo he) hb) fun σ H Q q => ⟨_, q, fun v H' ⟨a, C, dx, fs, w, e1, e2, hC, l, q⟩ => by
    obtain ⟨u, k⟩ := (T _ hC).k
    exact ⟨a, C, dx, fs, w, u, e1, e2, (T _ hC).c, k, l, q⟩⟩
theorem con_mk {K : PySem.W.Frag} {C : Addr} {f : Str} {v : V} {u : Value} (c : Cls K C) (h1 : PySem.W.findIn K (.ref C) f = some (some u)) (r : RelV v u) (h2 : PySem.W.specialIn K u "__get__" = some none) (h3 : PySem.W.copiedNames.contains f = false) : ConD K f (C, v) := ⟨c, u, h1, r, h2, h3⟩
/-! ### a module's tuple -/
theorem pe_stat {X : Cx} {x : Str} {g : Addr} {p2 : Pos} (hm : X.mg x = some (.ref g)) (hg : Gl X x) (hdb : (x == ("__debug__" : Str)) = false := by decide) : PE X (.Name x p2) (eCon (.ref g)) := pe_imp (pe_glob hg hm (v := .ref g) rfl hdb) fun _ _ _ q => q
def rIsS (S : Sta) : List V → Hp → VK → Prop := fun xs H Q => ∃ p ys n, xs = [.ref p, .ty n] ∧ S p (.tup ys) ∧ kitB "tuple" n = some (isA "tuple" n) ∧ Q (.bl (isA "tuple" n)) H
theorem c_isS {X : Cx} {S : Sta} (st : S = SK X.K) : CallR X (.builtin "isinstance") (rIsS S) := call_imp call_isi fun xs H Q q => by
  subst st
  obtain ⟨p, ys, n, e, ⟨o, its, m, h1, h2, _⟩, k, q⟩ := q
  exact ⟨.ref p, .ty n, .type "tuple", .type n, _, e, .ty n, .kTuple h1 h2, kit_ty k, q⟩
/-! ### slices of texts -/
theorem pe_slS {X : Cx} {e : Expr} {te : TE} {lo hi : Option Expr} {tl th : TO} {p2 pos : Pos} (he : PE X e te) (hl : PO X lo tl) (hu : PO X hi th) : PE X (.Subscript e (.Slice lo hi none p2) pos) (L2.tSl rSlS te tl th) := pe_slice sl_str he hl hu
/-! ### xs.index(y) -/
def rIdx : V → List V → Hp → VK → Prop := fun x vs H Q => ∃ (l : Addr) (xs : List V) (y : V) (j : Nat) (z : V), x = .ref l ∧ vs = [y] ∧ H l = some (.lst xs) ∧ flatV y = true ∧ xs.all flatV = true ∧ xs[j]? = some z ∧ eqV z y = true ∧
  (∀ (m : Nat) (z' : V), m < j → xs[m]? = some z' → eqV z' y = false) ∧ Q (.int (j : Nat)) H
def eIdx (te : TE) (ta : TA) : TE := fun σ H Q => te σ H fun x H1 => ∃ l, x = .ref l ∧ (∃ xs, H1 l = some (.lst xs)) ∧ ta σ H1 fun vs H2 => rIdx x vs H2 Q
theorem mt_idx {X : Cx} : MtR X "list.index" rIdx := fun pins s σ H x xs v us Q I rx rxs h => mt_index pins s σ H x xs v us Q I rx rxs (by
  obtain ⟨l, ys, y, j, z, e1, e2, h, a, b, c, d, f, q⟩ := h
  exact ⟨l, ys, y, j, z, e1, e2, sqL (S := SK X.K) rfl (.inl (.inl h)), a, b, c, d, f, q⟩)
theorem pe_idx {X : Cx} {o e : Expr} {es : List Expr} {te : TE} {ta : TA} {apos cpos : Pos} (ho : PE X o te) (ha : PA X (e :: es) ta)
    (hbase : attributeBase o "index" X.env (eval o X.env) = eval o X.env := by rfl)
    (hfew : ((backTo cpos (starEach (e :: es) X.env)).all (fun x => !x.1) && (backToKw cpos (keywordEach [] X.env)).all (fun x => x.1.isSome)
      && decide ((e :: es).length + ([] : List Keyword).length + (if ([] : List Keyword).isEmpty then 0 else 1) < 30)) = true := by rfl)
    (hline : (apos.endLine == cpos.line) = true := by rfl) (hs : starEach (e :: es) X.env = (false, eval e X.env) :: starEach es X.env := by rfl) (hplain : (backTo cpos (starEach es X.env)).any (·.1) = false := by rfl) :
    PE X (.Call (.Attribute o "index" apos) (e :: es) [] cpos) (eIdx te ta) :=
  pe_imp (pe_bm PySem.F.plainAttrs_list PySem.F.slot_list_index PySem.F.type_list_index mt_idx (pe_mo ho) ha hbase hfew hline hs hplain) fun σ H Q q =>
    ⟨_, q, fun x H1 ⟨l, e1, ⟨xs, hl⟩, q1⟩ => by subst e1; exact ⟨.inl ⟨rfl, _, .inl (.inl hl)⟩, q1⟩⟩
/-! ### C(e, .., k = v): the keywords fill the last parameters in their order -/
def tMakeKw (C : Addr) (n m : Nat) (sp : Sp) (E : XK) (t tk : TA) : TE := fun σ H Q => t σ H fun vs H1 => tk σ H1 fun zs H2 => vs.length = n ∧ zs.length = m ∧
  ∀ x dx, H2 x = none → H2 dx = none → dx ≠ x → sp (.ref x :: (vs ++ zs)) (upd (upd H2 dx (.own x)) x (.ins C dx [])) (fun v H3 => v = .non ∧ Q (.ref x) H3) E
/-- n values us by place and the values ws of the keywords ks, all parameters named -/
structure BindsK (K : PySem.W.Frag) (fd : FuncData) (ps : List Str) (n : Nat) (ks : List Str) : Prop where
  to : ∀ (s : Shared) (us ws : List Value), K.In s.heap → us.length = n → ws.length = ks.length → BindsTo s fd ⟨us, ks.zip ws⟩ (ps.zip (us ++ ws))
theorem BindsK.kbn {K : PySem.W.Frag} {fd : FuncData} {ps : List Str} {n : Nat} {ks : List Str} (h : BindsK K fd ps n ks) : KBn K fd ps n ks (fun us ws => us ++ ws) (fun vs zs => vs ++ zs) := ⟨h.to, fun r1 r2 => r1.append r2⟩
theorem bindsk_dfl {K : PySem.W.Frag} {fd : FuncData} {ps : List Str} {T : Addr} {o : Obj} {its : Array Value} {n j : Nat} {ks : List Str} (lT : K.lookup T = some o) (oT : o.data = .seq its j)
    (h : ∀ us ws : List Value, us.length = n → ws.length = ks.length → ∃ k, bindArgs fd ⟨us, ks.zip ws⟩ = seqItems? (.ref T) >>= k ∧ k (some its) = pure (ps.zip (us ++ ws))) : BindsK K fd ps n ks := ⟨fun s us ws X l1 l2 => by
  obtain ⟨k, e1, e2⟩ := h us ws l1 l2
  refine BindsTo.of_looks fun M => ?_
  rw [e1]
  exact looks_items X lT oT (.of_pure e2)⟩
theorem pe_makeKw {X : Cx} {CX : CXT} {k n m : Nat} {f C : Addr} {fd : FuncData} {ps ks : List Str} {sp : Sp} {E : XK} {x : Str} {p pos : Pos} {e : Expr} {es : List Expr} {kws : List Keyword} {t tk : TA}
    (M : Mk X.K C f) (F : FnOk X.prog X.w X.K X.mg X.base CX k f fd ps sp) (hr : Room (k + 1) X.A) (hg : Gl X x) (hm : X.mg x = some (.ref C)) (hb : BindsK X.K fd ps (n + 1) ks) (hx : Passes CX X E)
    (ha : PA X (e :: es) t) (hkw : PK X kws tk) (hml : ks.length = m := by rfl) (hall : (backToKw pos (keywordEach kws X.env)).all (·.1.isSome) = true := by rfl) (hks : (backToKw pos (keywordEach kws X.env)).filterMap (·.1) = ks := by rfl)
    (hdb : (x == ("__debug__" : Str)) = false := by decide) (he : starEach (e :: es) X.env = (false, eval e X.env) :: starEach es X.env := by rfl)
    (hpl : ((backTo pos (starEach (e :: es) X.env)).any (·.1) || (backToKw pos (keywordEach kws X.env)).any (·.1.isNone)) = false := by rfl) :
    PE X (.Call (.Name x p) (e :: es) kws pos) (tMakeKw C n m sp E t tk) := by
  subst hml
  exact pe_makeN M F hr hg hm hb.kbn hx ha hkw hall hks hdb he hpl
end Y

/-! repr of data: defs that promise only where no repr is under way (FnG). -/
namespace Y
open PySem PySem.Spec PyProof.Rows L2
/-- as FnOk, no text of a list or a tuple being under way -/
structure FnG (P : Program) (w : World) (K : PySem.W.Frag) (mg : Str → Option Value) (base : Heap) (CX : CXT) (k : Nat) (f : Addr) (fd : FuncData) (ps : List Str) (sp : Sp) : Prop where
  ln : ∀ vs H Q E, sp vs H Q E → vs.length = ps.length
  go : ∀ (A : Around) (fs : List Env) (s : Shared) (H : Hp) (ar : Args) (us : List Value) (vs : List V) (Q : VK) (E : XK), A.guards = some [] → Room k A → Env0 P w K mg base A fs s H → BindsTo s fd ar (ps.zip us) → Vals vs us → sp vs H Q E → codeAny (model P w) A (.call (.ref f) ar) (CR CX fs P w H s Q E) s
theorem FnG.of {P : Program} {w : World} {K : PySem.W.Frag} {mg : Str → Option Value} {base : Heap} {CX : CXT} {k : Nat} {f : Addr} {fd : FuncData} {ps : List Str} {sp : Sp} (F : FnOk P w K mg base CX k f fd ps sp) : FnG P w K mg base CX k f fd ps sp := ⟨F.len, fun A fs s H ar us vs Q E _ => F.run A fs s H ar us vs Q E⟩
theorem FnG.imp {P : Program} {w : World} {K : PySem.W.Frag} {mg : Str → Option Value} {base : Heap} {CX : CXT} {k : Nat} {f : Addr} {fd : FuncData} {ps : List Str} {sp sp' : Sp} (F : FnG P w K mg base CX k f fd ps sp) (h : ∀ vs H Q E, sp' vs H Q E → sp vs H Q E) : FnG P w K mg base CX k f fd ps sp' :=
  ⟨fun vs H Q E q => F.ln vs H Q E (h _ _ _ _ q), fun A fs s H ar us vs Q E g hr he hb hv hs => F.go A fs s H ar us vs Q E g hr he hb hv (h _ _ _ _ hs)⟩
section
variable {X : Cx} {CX : CXT} {k : Nat} {f : Addr} {fd : FuncData} {ps : List Str} {sp : Sp} {E : XK} {x : Str} {p pos : Pos} {e : Expr} {es : List Expr} {t : TA}
theorem run_g {pins : List (Addr × Obj)} {σ : L2.St} {H : Hp} {s : Shared} {Q : VK} {us : List Value} {vs : List V} (F : FnG X.prog X.w X.K X.mg X.base CX k f fd ps sp) (gd : X.A.guards = some []) (hr : Room k X.A) (hb : Binds X.K fd ps []) (hx : Passes CX X E) (J : Inv X pins σ H s) (rv : Vals vs us) (h : sp vs H Q E) :
    wpAny (model X.prog X.w) X.A (call (.ref f) us) (EP X pins σ Q) X.xe s := by
  have ll : (us ++ []).length = ps.length := by rw [List.append_nil, ← rv.length, F.ln _ _ _ _ h]
  have hb1 := hb s us J.kIn ll
  rw [List.append_nil] at hb1
  refine wpAny_call (codeAny_mono (F.go X.A X.stack s H ⟨us, []⟩ us vs Q E gd hr J.env0 hb1 rv h) ?_)
  intro r s' z
  match r, z with
  | .error e', z => exact hx pins σ H s e' s' J z
  | .ok (.ret u), z => exact J.after z
theorem pe_callG (F : FnG X.prog X.w X.K X.mg X.base CX k f fd ps sp) (gd : X.A.guards = some []) (hr : Room k X.A) (hg : Gl X x) (hm : X.mg x = some (.ref f)) (hk : PySem.W.keepIn X.K (.ref f) = true) (hb : Binds X.K fd ps []) (hx : Passes CX X E) (ha : PA X (e :: es) t)
    (hdb : (x == ("__debug__" : Str)) = false := by decide) (he : starEach (e :: es) X.env = (false, eval e X.env) :: starEach es X.env := by rfl) (hpl : (backTo pos (starEach es X.env)).any (·.1) = false := by rfl) : PE X (.Call (.Name x p) (e :: es) [] pos) (tCall sp [] E t) := by
  constructor
  intro pins s σ H Q J h
  refine wpAny_Call_Name_kw (ld_glob J hg hm (PySem.W.callWith_K (h₀ := X.base) J.ok.mod.kin hk (thn (ha.run pos pins s σ H _ J h) ?_) he hpl) hdb)
  rintro us s1 ⟨vs, H1, J1, rv, q⟩
  rw [List.append_nil] at q
  exact ⟨J1.kIn, run_g F gd hr hb hx J1 rv q⟩
theorem pe_callG0 (F : FnG X.prog X.w X.K X.mg X.base CX k f fd ps sp) (gd : X.A.guards = some []) (hr : Room k X.A) (hg : Gl X x) (hm : X.mg x = some (.ref f)) (hk : PySem.W.keepIn X.K (.ref f) = true) (hb : Binds X.K fd ps []) (hx : Passes CX X E) (hdb : (x == ("__debug__" : Str)) = false := by decide) : PE X (.Call (.Name x p) [] [] pos) (tCall sp [] E tNil) := by
  constructor
  intro pins s σ H Q J h
  exact wpAny_Call_Name_kw (ld_glob J hg hm (PySem.W.callWith_K0 J.kIn hk (run_g (us := []) (vs := []) F gd hr hb hx J .nil h)) hdb)
end
section
variable {CX : CXT} {P : Program} {w : World} {K : PySem.W.Frag} {mg : Str → Option Value} {base : Heap}
theorem fnG_of {k : Nat} {f : Addr} {x qual : Str} {st : Stmt} {fd : FuncData} {N ps : List Str} {sp : Sp} (F : Fun K x qual st f fd) (S : FnScope N ps (defScope st)) (len : ∀ vs H Q E, sp vs H Q E → vs.length = ps.length)
    (body : ∀ (cdv : Value) (A : Around) (fs : List Env) (s : Shared) (H : Hp) (vs : List V) (Q : VK) (E : XK), A.guards = some [] → Room k (A.deeper (envOfC qual (defScope st) s.heap.objs.size f cdv)) → sp vs H Q E →
      ∃ t, PSs (cxOf CX P w K mg base N qual (defScope st) f cdv A fs s H E) (defBody st) t ∧ t { nx := fun _ H' => Q .non H', rt := Q } (L2.start N vs) H) : FnG P w K mg base CX (k + 1) f fd ps sp := by
  obtain ⟨oc, od, kV, doc, pm, an, cdv, ct, osl, e, lk, hcd⟩ := F.ex
  subst e
  constructor
  · exact len
  · intro A fs s H ar us vs Q E gd hr e0 hb rv hsp
    have kX : K.In s.heap := e0.mod.kin.keeps fun b o z => (e0.bs b o z).1
    have nl : s.heap.NoLimit := e0.mod.nolimit.keeps fun b o z => (e0.bs b o z).1
    refine codeAny_call_function hr.depth (kX _ _ lk) rfl S.co S.gen rfl (PySem.W.codeRec_of kX hcd) (hb _ _ _ _ (wpAny_newFunctionEnv_cells S.kind ?_ ?_))
    · rintro ⟨n, v⟩ hy
      rcases S.par n (List.of_mem_zip hy).1 with z | z
      · exact Or.inl z
      · exact Or.inr ⟨z, PySem.W.cellsFrom_some _ _ _ (Or.inl z)⟩
    · intro env he s1 ic
      cases he
      refine ⟨nl.keeps ic.toInCall.keep, codeAny_func ?_⟩
      obtain ⟨t, ht, hq⟩ := body cdv A fs s H vs Q E gd (hr.deeper _) hsp
      have J : Inv (cxOf CX P w K mg base N qual (defScope st) f cdv A fs s H E) [] (L2.start N vs) H s1 := inv_start S hr.hd e0 (len _ _ _ _ hsp) rv ic
      refine wpAny_mono (ht.run [] s1 (L2.start N vs) H _ J hq) ?_ (fun _ _ z => z)
      intro fl s' hs
      match fl, hs with
      | .ret u, ⟨v, σ', H', J', r', q'⟩ => exact ⟨v, H', J'.os, J'.bare, J'.base, J'.hok, r', q'⟩
      | .next, ⟨σ', H', J', q'⟩ => exact ⟨V.non, H', J'.os, J'.bare, J'.base, J'.hok, rfl, q'⟩
      | .brk, ⟨_, _, _, q'⟩ => exact q'.elim
      | .cont, ⟨_, _, _, q'⟩ => exact q'.elim
end
theorem ok_bodyG {P : Program} {w : World} {K : PySem.W.Frag} {mg : Str → Option Value} {base : Heap} {x qual : Str} {st : Stmt} {f : Addr} {fd : FuncData} {N ps : List Str} {n m k : Nat} {t : XK → TS} (F : Fun K x qual st f fd) (S : FnScope N ps (defScope st)) (hn : N.length = n) (hm : ps.length = m)
    (h : ∀ (cdv : Value) (A : Around) (outer : List Env) (s : Shared) (H : Hp) (E : XK), A.guards = some [] → Room k (A.deeper (envOfC qual (defScope st) s.heap.objs.size f cdv)) → PSs (cxOf (L2.CX P w) P w K mg base N qual (defScope st) f cdv A outer s H E) (defBody st) (t E)) : FnG P w K mg base (L2.CX P w) (k + 1) f fd ps (spB n m t) := by
  subst hn hm
  exact fnG_of F S (fun vs H Q E q => q.1) fun cdv A fs s H vs Q E gd hr q => ⟨t E, h cdv A fs s H E gd hr, q.2⟩
/-! ### the head -/
theorem callG {P : Program} {w : World} {K : PySem.W.Frag} {mg mb : Str → Option Value} {CX : CXT} {k : Nat} {fa a : Addr} {fd : FuncData} {x : Str} {sp : Sp} {s1 : Shared} {vs : List Value} {ns : List Int} (kX : K.In s1.heap) (n1 : s1.heap.Ns mainGlobals mg) (n2 : s1.heap.Ns builtinsNs mb) (n3 : ∀ x : Str, x ≠ "__name__" → mb x = bootBuiltins x) (nl : s1.heap.NoLimit) (ng : s1.gens = #[])
    (ha : s1.heap.get? a = some { cls := .type "list", data := .seq vs.toArray }) (hi : IntsAre vs ns) (hl : ns.length ≤ sizeLine) (hr : Room k callerA) (sm : ∃ mm, s1.heap.Ns sysModules mm) (F : ∀ base : Heap, K.In base → base.Ns mainGlobals mg → (∃ mm, base.Ns sysModules mm) → FnG P w K mg base CX k fa fd [x] sp) (hb : ∀ (s : Shared) (u : Value), BindsTo s fd ⟨[u], []⟩ [(x, u)])
    (hsp : ∀ H : Hp, Only H → SqL K H a (ns.map V.int) → sp [.ref a] H (fun v _ => v = .bl true) fun _ _ _ => False) (hC : ∀ H e s', CX [] H s1 (fun _ _ _ => False) e s' → False) :
    codeAny (model P w) callerA (.call (.ref fa) ⟨[.ref a], []⟩) (fun r s' => r = .ok (.ret (.bool true)) ∧ OldK s1.heap s'.heap ∧ s'.os = s1.os ∧ AllBare s'.gens) s1 := by
  have main : ∀ T : Hp, Only T → SqL K T a (ns.map V.int) → HOk P w T s1.heap → (∀ b, T b ≠ none → b = a ∧ K.lookup a = none) → codeAny (model P w) callerA (.call (.ref fa) ⟨[.ref a], []⟩) (fun r s' => r = .ok (.ret (.bool true)) ∧ OldK s1.heap s'.heap ∧ s'.os = s1.os ∧ AllBare s'.gens) s1 := by
    intro T hO hS ok hT
    have free : ∀ {b : Addr} {o : Obj}, s1.heap.get? b = some o → (b = a → False) → T b = none := fun {b o} e ne => Classical.byContradiction fun z => ne (hT b z).1
    have inK : K.In (hidT s1.heap T) := fun b o e => hidT_get (kX b o e) (Classical.byContradiction fun z => by
      obtain ⟨e1, e2⟩ := hT b z
      rw [e1, e2] at e
      cases e)
    have ns' : ∀ {b : Addr} {m : Str → Option Value}, s1.heap.Ns b m → (hidT s1.heap T).Ns b m := by
      rintro b m ⟨o, es, ep, e, d, r⟩
      refine ⟨o, es, ep, hidT_get e (free e ?_), d, r⟩
      rintro rfl
      rw [ha] at e
      cases e
      cases d
    have md : Mod K mg (hidT s1.heap T) := ⟨inK, ns' n1, ⟨mb, ns' n2, n3⟩, by obtain ⟨mc, h1, h2⟩ := nl; exact ⟨mc, ns' h1, h2⟩⟩
    have nomem : ∀ {b : Addr}, b ∈ ([] : List Addr) → False := fun z => by cases z
    refine codeAny_mono ((F _ inK (ns' n1) (by obtain ⟨mm, h⟩ := sm; exact ⟨mm, ns' h⟩)).go callerA [] s1 T ⟨[.ref a], []⟩ [.ref a] [.ref a] _ _ rfl hr ⟨rfl, md, fun b o e => of_hidT e, Nat.le_of_eq (hidT_size _ _), trivial, fun b z => (nomem z).elim, ok, .of_eq ng⟩ (hb s1 (.ref a)) (.cons rfl .nil) (hsp T hO hS)) ?_
    intro r s' z
    match r, z with
    | .error e, z => exact (hC T e s' z).elim
    | .ok (.ret u), ⟨v, T', os, br, un, ok', rv, q⟩ =>
      cases q
      obtain rfl : u = Value.bool true := rv
      refine ⟨rfl, OldK.of_keep fun b o e => ?_, os, br⟩
      cases hb : T b with
      | none => exact un.keep b o e hb (fun z => nomem z) (by simp)
      | some u =>
        rcases hO b with z | ⟨ob, xs, z⟩
        · rw [hb] at z; cases z
        · have e1 := (ok b _ z).1
          have e2 := (ok' b _ (un.frzs b ob _ z)).1
          rw [e] at e1
          cases e1
          exact e2
  have rv := vals_ints hi
  rcases hK : K.lookup a with _ | o
  · refine main (fun b => if b = a then some (.frz { cls := .type "list", data := .seq vs.toArray } (.lst (ns.map V.int))) else none) (fun b => ?_) (.inl (.inr ⟨_, if_pos rfl⟩)) ?_ (fun b z => ⟨Classical.byContradiction fun ne => z (if_neg ne), hK⟩)
    · by_cases e : b = a
      · exact .inr ⟨_, _, if_pos e⟩
      · exact .inl (if_neg e)
    · intro b u z
      by_cases e : b = a
      · subst e
        have z2 := (if_pos rfl).symm.trans z
        cases z2
        exact ⟨ha, by rw [List.length_map]; exact hl, vs, _, rv, ha⟩
      · have z2 := (if_neg e).symm.trans z
        cases z2
  · have e := kX a o hK
    rw [ha] at e
    cases e
    exact main (fun _ => none) (fun _ => .inl rfl) (.inr ⟨_, vs.toArray, _, hK, rfl, rfl, rfl, by rw [List.size_toArray, hi.length]; exact hl, by simpa using rv⟩) (fun b u z => by cases z) fun b z => (z rfl).elim
theorem walk_ofG {l : PySem.W.OpenLaw} {n k : Nat} {q : Program} {loose : List Str} {XP : (Str → Option Value) → Heap → Prop} {YP : World → Heap → Prop} {d : DefRec} {K : Params → PySem.W.Frag} {CX : World → CXT} {sp : World → Sp} {x : Str} (hi : importsNone q = true) (hn : l.most = some n) (hn2 : n ≤ sizeLine) (hdf : d.params.defaults = []) (hr : Room k callerA)
    (hY : ∀ (w : World) (h : Heap), YP w h → (K w.params).In h) (F : ∀ (w : World) (mg : Str → Option Value) (fa : Addr) (h : Heap), (K w.params).In h → h.Ns mainGlobals mg → mg d.name = some (.ref fa) → ∃ fd : FuncData, (∀ (s : Shared) (u : Value), BindsTo s fd ⟨[u], []⟩ [(x, u)]) ∧ ∀ base : Heap, (K w.params).In base → base.Ns mainGlobals mg → (∃ mm, base.Ns sysModules mm) → FnG l.prog w (K w.params) mg base (CX w) k fa fd [x] (sp w))
    (hsp : ∀ (w : World) (H : Hp) (a : Addr) (ns : List Int), ns.length ≤ n → Only H → SqL (K w.params) H a (ns.map V.int) → sp w [.ref a] H (fun v _ => v = .bl true) fun _ _ _ => False) (hC : ∀ (w : World) (H : Hp) (s : Shared) (e : Value) (s' : Shared), CX w [] H s (fun _ _ _ => False) e s' → False) :
    PySem.W.WalkO q loose XP YP l.row.toRowW d [] (fun f vs => PySem.call f vs) := Att.attach_call hn hdf fun w s0 s1 mg mb fa o pm cd doc a vs ns G Y ho hd hcd hmg hobj hints hlen hgen => by
  obtain ⟨fd, hb, hF⟩ := F w mg fa _ (hY w _ Y) G.T.g hmg
  exact callG (hY w _ Y) G.T.g G.T.b G.T.builtins G.T.nolimit hgen hobj hints (Nat.le_trans hlen hn2) hr (by obtain ⟨mm, h, _⟩ := (G.T.seer hi).mods; exact ⟨mm, h⟩) hF hb (fun T hO hS => hsp w T a ns hlen hO hS) fun T e s' => hC w T s1 e s'
/-! ### repr -/
def rRepr (S : Sta) : List V → Hp → VK → Prop := fun xs H Q => ∃ v d, xs = [v] ∧ DpS S H v d ∧ d.showable = true ∧ d.hasDict = false ∧ d.depth ≤ 20 ∧ d.shown.length ≤ sizeLine ∧ Q (.str d.shown) H
theorem c_repr {X : Cx} {S : Sta} (st : S = SK X.K) (gd : X.A.guards = some []) (hu : X.A.units + 64 < cLine) : CallR X (.builtin "repr") (rRepr S) := by
  intro pins s σ H xs us Q J rv h
  obtain ⟨v, d, e, dp, h1, h2, h3, h4, q⟩ := h
  subst e
  have dp1 := dp.dp st
  match us, rv with
  | [u], .cons ru .nil =>
    cases v with
    | ref a =>
      cases ru
      obtain ⟨as, rd⟩ := Dp.reads J d _ _ dp1 rfl
      refine repr_of_reads' rd h1 (fun z => by rw [h2] at z; cases z) gd (by omega) (fun _ _ z => z) (fun h' u tk hk => ?_) h4
      exact ⟨.str d.shown, H, J.kept hk, ⟨u, rfl⟩, q⟩
    | non =>
      cases dp1
      cases ru
      exact PySem.P.repr_of_none ⟨.str _, H, J.tok _, ⟨_, rfl⟩, by simpa only [PyData.shown] using q⟩
    | bl b =>
      cases dp1
      cases ru
      exact PySem.P.repr_of_bool ⟨.str _, H, J.tok _, ⟨_, rfl⟩, by simpa only [PyData.shown] using q⟩
    | int i =>
      cases dp1
      obtain ⟨t, rfl⟩ := ru
      exact PySem.P.repr_of_int (by simpa only [PyData.showable, decide_eq_true_eq] using h1) ⟨.str _, H, J.tok _, ⟨_, rfl⟩, by simpa only [PyData.shown] using q⟩
    | str z =>
      cases dp1
      obtain ⟨t, rfl⟩ := ru
      exact PySem.P.repr_of_str ⟨.str _, H, J.tok _, ⟨_, rfl⟩, by simpa only [PyData.shown] using q⟩ (by simpa only [PyData.shown] using h4)
    | _ => cases dp1
end Y

/-! tuples as targets; slices and sums of tuples. -/
namespace Y
open PySem PySem.Spec PyProof.Rows L2
section
variable {X : Cx} {S : Sta}
/-- a, b, .. = v -/
def gTupS (S : Sta) (n : Nat) (t : TGs) : TG := fun v σ H Q => ∃ a xs, v = .ref a ∧ RdS S H a (.tup xs) ∧ xs.length = n ∧ t xs σ H Q
theorem pg_tupS {es : List Expr} {k n : Nat} {t : TGs} {pos : Pos} (st : S = SK X.K) (hc : X.calm = true) (h : PGs X es t) (hn : (assignEach es X.env).length = n := by rfl) (hs : (assignEach es X.env).findIdx? (·.1) = none := by rfl) : PG X (.Tuple es k pos) (gTupS S n t) :=
  ⟨fun pins s σ H v u Q I r ⟨a, xs, e, hq, hl, hw⟩ => (pg_tup hc h hn hs).run pins s σ H v u Q I r ⟨a, xs, e, sqT st hq, hl, hw⟩⟩
/-- t[lo:hi], t a tuple -/
def rTSl (S : Sta) : V → Option Int → Option Int → Hp → VK → Prop := fun x lo hi H Q => ∃ a xs, x = .ref a ∧ RdS S H a (.tup xs) ∧ (cutV xs lo hi = xs → Q (.ref a) H) ∧ ∀ p, H p = none → Q (.ref p) (upd H p (.tup (cutV xs lo hi)))
theorem o_tsl (st : S = SK X.K) : SlR X (rTSl S) := fun pins s σ H x v vl vu lo hi sl Q I rx hs pl pu ⟨a, xs, e, hx, q1, q2⟩ => sl_tupA pins s σ H x v vl vu lo hi sl Q I rx hs pl pu ⟨a, xs, e, sqT st hx, fun w => q1 (by
  unfold cutV
  rw [w.1, w.2, List.drop_zero, Nat.sub_zero, List.take_length]), fun _ => q2⟩
/-- t + u, both tuples -/
def rTAdd (S : Sta) : R2 := fun x y H Q => ∃ a b xs ys, x = .ref a ∧ y = .ref b ∧ RdS S H a (.tup xs) ∧ RdS S H b (.tup ys) ∧ xs.length + ys.length ≤ sizeLine ∧ (xs = [] → Q (.ref b) H) ∧ (ys = [] → Q (.ref a) H) ∧ ∀ p, H p = none → Q (.ref p) (upd H p (.tup (xs ++ ys)))
theorem o_tadd (st : S = SK X.K) : OpR X (binaryOp .Add) (rTAdd S) := op_imp op_catA fun x y H Q ⟨a, b, xs, ys, e1, e2, h1, h2, z, q0, q1, q2⟩ => ⟨a, b, xs, ys, e1, e2, sqT st h1, sqT st h2, z, q0, fun _ => q1, fun _ _ => q2⟩
end
end Y

/-! keyword-only parameters of a class; zip of tuples; lists taken apart; comprehensions over a text; join, count, [x] * n. -/
namespace Y
open PySem PySem.Spec PyProof.Rows L2
/-! ### a, b, .. = a list or a tuple -/
def gTupA (S : Sta) (n : Nat) (t : TGs) : TG := fun v σ H Q => ∃ a xs, v = .ref a ∧ Seq S H a xs ∧ xs.length = n ∧ t xs σ H Q
theorem pg_tupA {X : Cx} {S : Sta} {es : List Expr} {k n : Nat} {t : TGs} {pos : Pos} (st : S = SK X.K) (hc : X.calm = true) (h : PGs X es t) (hn : (assignEach es X.env).length = n := by rfl) (hs : (assignEach es X.env).findIdx? (·.1) = none := by rfl) : PG X (.Tuple es k pos) (gTupA S n t) := by
  refine ⟨fun pins s σ H v u Q I r hw => ?_⟩
  obtain ⟨a, xs, e1, hq, hl, hw⟩ := hw
  rcases hq with hq | hq
  · subst e1
    cases r
    obtain ⟨its, rv, p, hz⟩ := I.list (sqL st hq)
    have hn2 : (assignEach es X.env).length = its.toArray.size := by simp [hn, ← hl, rv.length]
    rw [assign_Tuple]
    refine wpAny_bind (wpAny_standAt ?_)
    unfold unpack
    rw [hn2, hs]
    refine wpAny_bind (wpAny_holding (PySem.W.kun_itemsOf (I.ok.hd hc) p.isList fun h' hx => ?_))
    have I1 : Inv X pins σ H { s with heap := h' } := I.kept (t' := s.toks) fun b o e => hx b o (Nat.ne_of_lt (Heap.lt_size e)) e
    exact h.run pins _ σ H xs _ Q I1 (by simpa using rv) hw
  · exact (pg_tup hc h hn hs).run pins s σ H v u Q I r ⟨a, xs, e1, sqT st hq, hl, hw⟩
/-! ### for x, y in zip(p, q), both tuples of one length -/
def ZpS (S : Sta) (gi gj : TG) (s1 : TS) (nx : L2.St → Hp → Prop) (rt : VK) (vs : List V) (σ : L2.St) (H : Hp) : Prop := ∃ p q xs ys, vs = [.ref p, .ref q] ∧ xs.length = ys.length ∧ ∃ Pv : Nat → L2.St → Hp → Prop, Pv 0 σ H ∧ (∀ i σ H, Pv i σ H → RdS S H p (.tup xs) ∧ RdS S H q (.tup ys)) ∧
  (∀ (i : Nat) x y σ H T, xs[i]? = some x → ys[i]? = some y → Pv i σ H → H T = none → gi x σ (upd H T (.tup [x, y])) fun σ' H' => gj y σ' H' fun σ2 H2 => s1 ⟨Pv (i + 1), rt, nx, Pv (i + 1)⟩ σ2 H2) ∧ ∀ σ H, Pv xs.length σ H → nx σ H
def sForZp (S : Sta) (ta : TA) (gi gj : TG) (tb : TS) : TS := fun D σ H => ta σ H fun vs H1 => ZpS S gi gj tb D.nx D.rt vs σ H1
theorem ps_forZp {X : Cx} {S : Sta} {e e2 ea eb : Expr} {ta : TA} {gi gj : TG} {tb : TS} {body : List Stmt} {pos p pos2 tpos : Pos} {kk : Nat} (st : S = SK X.K) (hp : PassesOwn (model X.prog X.w) X.A X.env X.xe) (hc : X.calm = true) (hgl : Gl X "zip") (hm : X.mg "zip" = none) (ha : PA X [e, e2] ta)
    (hgi : PG X ea gi) (hgj : PG X eb gj) (hb : PSs X body tb) (hs : starEach [e, e2] X.env = (false, eval e X.env) :: starEach [e2] X.env := by rfl) (hpl : (backTo pos2 (starEach [e2] X.env)).any (·.1) = false := by rfl)
    (hs' : ∀ x, foldedSetIterable (.Call (.Name "zip" p) [e, e2] [] pos2) X.env x = pure x := by intro _; rfl)
    (h1 : (assignEach [ea, eb] X.env).map (·.2) = assign ea X.env :: (assignEach [eb] X.env).map (·.2) := by rfl) (h2 : (assignEach [eb] X.env).map (·.2) = assign eb X.env :: (assignEach [] X.env).map (·.2) := by rfl)
    (h3 : (assignEach [ea, eb] X.env).length = 2 := by rfl) (h4 : (assignEach [ea, eb] X.env).findIdx? (·.1) = none := by rfl) :
    PS X (.For (.Tuple [ea, eb] kk tpos) (.Call (.Name "zip" p) [e, e2] [] pos2) body [] pos) (sForZp S ta gi gj tb) :=
  ps_imp (ps_for hp hc (RZ.pi_zipA hgl hm (pa_mo ha) hs hpl) (pg_tup hc (pgs_cons hgi (pgs_cons hgj pgs_nil h2) h1) h3 h4) hb hs') fun D σ H q => ⟨_, q, fun vs H1 ⟨p, q, xs, ys, e, hl, Pv, h0, hst, ht, hd⟩ => by
    refine ⟨p, q, xs, ys, e, .inr ⟨sqT st (hst 0 _ _ h0).1, sqT st (hst 0 _ _ h0).2, ?_⟩⟩
    exact RZ.for_zipT (K := X.K) (a := p) (b := q) hl Pv h0 (fun i σ H z => ⟨sqT st (hst i σ H z).1, sqT st (hst i σ H z).2⟩) (fun i x y T σ H hx hy z hT => ⟨T, [x, y], rfl, .inl (.inl upd_same), rfl, x, [y], rfl, by
      have h := ht i x y σ H T hx hy z hT
      rw [← gpair] at h
      exact h⟩) hd⟩
/-! ### [e for c in text if ..] -/
def eLcT (te : TE) (g : TG) (tt : TT) (tel : TE) (vs : List Nat) : TE := fun σ H Q => te σ H fun x H1 => ∃ z : Str, x = .str z ∧ ∀ D, H1 D = none → ∃ Pv : Nat → Hp → Prop, Pv 0 (upd H1 D (.lst [])) ∧
  (∀ (i : Nat) (c : Nat) H, z.cps[i]? = some c → Pv i H → g (.str ⟨#[c]⟩) (wipe σ vs) H fun σ2 H2 => wipe σ2 vs = wipe σ vs ∧ tt σ2 H2 fun b H3 => if b = true then tel σ2 H3 fun z H4 => ∃ acc, H4 D = some (.lst acc) ∧ acc.length < sizeLine ∧ Pv (i + 1) (upd H4 D (.lst (acc ++ [z]))) else Pv (i + 1) H3) ∧
  ∀ H, Pv z.cps.size H → Q (.ref D) H
section
variable {X : Cx} {tg l elt : Expr} {ifs : List Expr} {te tel : TE} {tt : TT} {g : TG} {scope : Scope} {own : List (Str × Nat)} {pos spos py : Pos}
theorem lcT_of {vs : List Nat} {σ : L2.St} {H : Hp} {Q : VK} (q : eLcT te g tt tel vs σ H Q) : tLc (iStr (mo te)) g tt tel vs σ H Q := ⟨_, q, fun x H1 ⟨z, e, q⟩ => ⟨z, e, fun D hD => by
  obtain ⟨Pv, h0, ht, hd⟩ := q D hD
  exact lc_it walk_str Pv h0 (fun _ _ _ _ => trivial) (fun i v H H' hi p ⟨e, c, hc, ev⟩ => by
    subst e ev
    exact ht i c H' hc p) hd⟩⟩
theorem pe_lcStr (hc : X.calm = true) (hN : X.N.Nodup) (hl : PE X l te) (ok : BlkOk X.N X.env.scope scope own) (B : Blk X scope tg elt ifs g tt tel) (hs : ∀ x, foldedSetIterable l X.env x = pure x := by intro _; rfl) :
    PE X (.ListComp elt [⟨tg, l, ifs, 0⟩] scope pos) (eLcT te g tt tel (own.map (·.2))) := pe_imp (pe_lc hc hN (pi_str (pe_mo hl)) ok B.hg B.ht B.he hs) fun _ _ _ q => lcT_of q
end
/-! ### texts: a.join(xs), a.count(b) -/
def rJoin (S : Sta) : V → List V → Hp → VK → Prop := fun x xs H Q => ∃ (a : Str) (p : Addr) (ys : List Str), x = .str a ∧ xs = [.ref p] ∧ Seq S H p (ys.map V.str) ∧ (ys.map (·.length)).sum + ys.length * a.length ≤ 16777216 ∧ Q (.str (Txt.join a ys)) H
def rCnt : V → List V → Hp → VK → Prop := fun x xs H Q => ∃ a b, x = .str a ∧ xs = [.str b] ∧ Q (.int (Txt.count a b)) H
theorem pe_joinS {X : Cx} {S : Sta} {o e : Expr} {to te : TE} {apos pos : Pos} (st : S = SK X.K) (ho : PE X o to) (he : PE X e te) (hs : starEach [e] X.env = [(false, eval e X.env)] := by rfl) (hbase : attributeBase o "join" X.env (eval o X.env) = eval o X.env := by rfl) (hline : (apos.endLine == pos.line) = true := by rfl) :
    PE X (.Call (.Attribute o "join" apos) [e] [] pos) (tM1 (rJoin S) to te) := pe_imp (pe_join (pe_mo ho) (pe_mo he) hs hbase hline) fun σ H Q q => ⟨_, q, fun x H1 ⟨h1, q1⟩ => ⟨h1, _, q1, fun y H2 ⟨a, p, ys, e1, e2, h2, h3, q2⟩ => ⟨a, p, ys, e1, e2, h2.elim (fun h => .inl (sqL st h)) (fun h => .inr (sqT st h)), h3, q2⟩⟩⟩
theorem pe_count {X : Cx} {o e : Expr} {to te : TE} {apos pos : Pos} (ho : PE X o to) (he : PE X e te) (hs : starEach [e] X.env = [(false, eval e X.env)] := by rfl) (hbase : attributeBase o "count" X.env (eval o X.env) = eval o X.env := by rfl) (hline : (apos.endLine == pos.line) = true := by rfl) :
    PE X (.Call (.Attribute o "count" apos) [e] [] pos) (tM1 rCnt to te) := pe_m1 F.slot_str_count F.type_str_count mt_count ho he hs hbase hline
/-! ### C(e, .., k = v, ..): keyword-only parameters, those that lack have their defaults -/
/-- n values by place, those of the keywords ks behind i of the lacking ones (their defaults ms) -/
structure BindsW (K : PySem.W.Frag) (fd : FuncData) (ps : List Str) (n : Nat) (ks : List Str) (i : Nat) (ms : List V) : Prop where
  ex : ∃ mv : List Value, Vals ms mv ∧ ∀ (s : Shared) (us ws : List Value), K.In s.heap → us.length = n → ws.length = ks.length → BindsTo s fd ⟨us, ks.zip ws⟩ (ps.zip (us ++ (mv.take i ++ (ws ++ mv.drop i))))
theorem BindsW.kbn {K : PySem.W.Frag} {fd : FuncData} {ps : List Str} {n i : Nat} {ks : List Str} {ms : List V} (h : BindsW K fd ps n ks i ms) : ∃ mv : List Value, KBn K fd ps n ks (fun us ws => us ++ (mv.take i ++ (ws ++ mv.drop i))) (fun vs zs => vs ++ (ms.take i ++ (zs ++ ms.drop i))) := by
  obtain ⟨mv, r, h⟩ := h.ex
  exact ⟨mv, h, fun r1 r2 => r1.append ((r.take i).append (r2.append (r.drop i)))⟩
theorem looks_forIn {α β : Type} {M : Model} {h : Heap} {l : List α} {f : α → β → Sem (ForInStep β)} (st : Nat → β) (hs : ∀ i x, l[i]? = some x → PySem.W.Looks M h (f x (st i)) (.yield (st (i + 1)))) : PySem.W.Looks M h (forIn l (st 0) f) (st l.length) := by
  induction l generalizing st with
  | nil => exact PySem.W.Looks.of_pure (by simp)
  | cons x l ih =>
    rw [List.forIn_cons]
    exact (hs 0 x rfl).andThen (ih (fun i => st (i + 1)) fun i y e => hs (i + 1) y e)
theorem take_snoc' {α : Type} {xs : List α} {i : Nat} {x : α} (e : xs[i]? = some x) : xs.take (i + 1) = xs.take i ++ [x] := by
  rw [List.take_add_one, e]
  rfl
theorem look_app {V : Type} {A B : List (Str × V)} {n : Str} : (A ++ B).lookup n = (A.lookup n).or (B.lookup n) := by
  induction A with
  | nil => rfl
  | cons x A ih =>
    obtain ⟨m, v⟩ := x
    rw [List.cons_append, List.lookup_cons, List.lookup_cons, ih]
    cases n == m <;> rfl
theorem look_none {V : Type} {A : List (Str × V)} {n : Str} (h : n ∉ A.map (·.1)) : A.lookup n = none := by
  induction A with
  | nil => rfl
  | cons x A ih =>
    obtain ⟨m, v⟩ := x
    rw [List.map_cons, List.mem_cons, not_or] at h
    rw [List.lookup_cons, ih h.2, beq_false_of_ne h.1]
theorem look_zip {V : Type} {ns : List Str} {us : List V} (hl : us.length = ns.length) {n : Str} (h : n ∈ ns) : ∃ u, (ns.zip us).lookup n = some u := by
  induction ns generalizing us with
  | nil => cases h
  | cons m ns ih =>
    cases us with
    | nil => cases hl
    | cons u us =>
      rw [List.zip_cons_cons, List.lookup_cons]
      cases e : n == m with
      | true => exact ⟨u, rfl⟩
      | false => exact ih (by simpa using hl) ((List.mem_cons.mp h).resolve_left (by simpa using e))
theorem zipk {V : Type} {ns : List Str} {us : List V} : ∀ n ∈ (ns.zip us).map (·.1), n ∈ ns := fun n h => by
  obtain ⟨q, hq, e⟩ := List.mem_map.mp h
  subst e
  exact (List.of_mem_zip (a := q.1) (b := q.2) hq).1
theorem fm_congr {α β : Type} {l : List α} {f g : α → Option β} (h : ∀ x ∈ l, f x = g x) : l.filterMap f = l.filterMap g := by
  induction l with
  | nil => rfl
  | cons x l ih => rw [List.filterMap_cons, List.filterMap_cons, h x List.mem_cons_self, ih fun y m => h y (List.mem_cons_of_mem _ m)]
theorem fm_map {α β : Type} {l : List α} {f : α → Option β} {g : α → β} (h : ∀ x ∈ l, f x = some (g x)) : l.filterMap f = l.map g := by
  induction l with
  | nil => rfl
  | cons x l ih => rw [List.filterMap_cons, h x List.mem_cons_self, List.map_cons, ih fun y m => h y (List.mem_cons_of_mem _ m)]
theorem fm_zip {V : Type} {ns : List Str} {us : List V} {R : List (Str × V)} (nd : ns.Nodup) (hl : us.length = ns.length) : ns.filterMap (fun n => ((ns.zip us ++ R).lookup n).map (n, ·)) = ns.zip us := by
  induction ns generalizing us with
  | nil => rfl
  | cons m ns ih =>
    cases us with
    | nil => cases hl
    | cons u us =>
      obtain ⟨n1, n2⟩ := List.nodup_cons.mp nd
      rw [List.filterMap_cons, List.zip_cons_cons, List.cons_append, List.lookup_cons, beq_self_eq_true]
      have e : ns.filterMap (fun n => (((m, u) :: (ns.zip us ++ R)).lookup n).map (n, ·)) = ns.filterMap (fun n => ((ns.zip us ++ R).lookup n).map (n, ·)) := by
        refine fm_congr fun n hn => ?_
        rw [List.lookup_cons, beq_false_of_ne (fun z : n = m => n1 (by rw [← z]; exact hn))]
      rw [e, ih n2 (by simpa using hl)]
      rfl
theorem bind_kw {M : Model} {h : Heap} {K : PySem.W.Frag} {fd : FuncData} {D : Addr} {ns kn : List Str} (X : K.In h) (hp : fd.params.posonlyargs = []) (hn : fd.params.args.map (·.arg) = ns) (hk : fd.params.kwonlyargs.map (·.arg) = kn) (hv : fd.params.vararg = none) (hw : fd.params.kwarg = none) (hd : fd.defaults = .none) (hD : fd.kwdefaults = .ref D)
   (nd : (ns ++ kn).Nodup) {us : List Value} {given : List (Str × Value)} (hl : us.length = ns.length) (hg : ∀ q ∈ given, q.1 ∈ kn) (gd : (given.map (·.1)).Nodup) {dv : Str → Value} (hm : ∀ n ∈ kn, given.lookup n = none → PySem.W.nsIn K D n = some (some (dv n))) :
   PySem.W.Looks M h (bindArgs fd ⟨us, given⟩) (ns.zip us ++ kn.map fun n => (n, (given.lookup n).getD (dv n))) := by
  obtain ⟨nd1, nd2, nd3⟩ := List.nodup_append.mp nd
  have nk : ∀ n ∈ kn, n ∉ ns := fun n h1 h2 => nd3 n h2 n h1 rfl
  unfold bindArgs
  simp only [hp, hn, hk, hv, hw, hd, hD, List.map_nil, List.nil_append]
  refine PySem.W.Looks.andThen (a := (ns.zip us ++ given, [])) ?_ ?_
  · have e : ∀ f, (∀ i x, given[i]? = some x → PySem.W.Looks M h (f x (ns.zip us ++ given.take i, ([] : List (Str × Value)))) (.yield (ns.zip us ++ given.take (i + 1), ([] : List (Str × Value))))) → PySem.W.Looks M h (forIn given (ns.zip us, []) f) (ns.zip us ++ given, []) := fun f hs => by
      have e := looks_forIn (M := M) (h := h) (l := given) (f := f) (fun i => (ns.zip us ++ given.take i, ([] : List (Str × Value)))) hs
      simp only [List.take_zero, List.append_nil, List.take_length] at e
      exact e
    refine e _ fun i x hx => ?_
    have hi := List.getElem?_eq_some_iff.mp hx
    have xm : x ∈ given := List.mem_of_getElem? hx
    have hc : (ns.contains x.1 || kn.contains x.1) = true := by
      rw [Bool.or_eq_true]
      exact .inr (List.contains_iff_mem.mpr (hg x xm))
    have h2 : (List.lookup x.1 (ns.zip us ++ given.take i)).isSome = false := by
      rw [look_app, look_none (fun z => nk _ (hg x xm) (zipk _ z)), look_none]
      · rfl
      · intro z
        rw [List.map_take] at z
        obtain ⟨j, hj, e⟩ := List.mem_take_iff_getElem.mp z
        have h3 : (given.map (·.1))[i]'(by rw [List.length_map]; exact hi.1) = x.1 := by rw [List.getElem_map, hi.2]
        have := (List.getElem_inj (h₀ := by omega) (h₁ := by rw [List.length_map]; exact hi.1) gd).mp (e.trans h3.symm)
        omega
    rw [if_pos hc, if_neg (by rw [h2]; simp), take_snoc' hx, ← List.append_assoc]
    exact PySem.W.Looks.of_pure rfl
  · refine PySem.W.Looks.andThen (a := none) (.of_pure rfl) ?_
    have hA : ∀ n ∈ ns, ∀ R : List (Str × Value), ∃ u, (ns.zip us ++ R).lookup n = some u := fun n hn R => by
      obtain ⟨u, e⟩ := look_zip hl hn
      exact ⟨u, by rw [look_app, e]; rfl⟩
    have f0 : ns.filter (fun n => ((ns.zip us ++ given).lookup n).isNone) = [] := by
      refine List.filter_eq_nil_iff.mpr fun n hn => ?_
      obtain ⟨u, e⟩ := hA n hn given
      rw [e]; simp
    have e1 : (decide (us.length > ns.length) && (none : Option Arg).isNone) = false := by simp [hl]
    simp only [e1, Bool.false_eq_true, if_false, Option.getD_none, List.drop_nil, List.length_nil, Nat.sub_zero, List.take_length, f0, List.isEmpty_nil, Bool.not_true, List.drop_length, List.zip_nil_left, List.forIn_nil, pure_bind]
    have key : ∀ n ∈ kn, ∀ B : List (Str × Value), n ∉ B.map (·.1) → (ns.zip us ++ (given ++ B)).lookup n = given.lookup n := fun n hn B hB => by
      rw [look_app, look_none (fun z => nk _ hn (zipk _ z)), look_app, look_none hB]
      cases given.lookup n <;> rfl
    have e : ∀ f, (∀ i x, kn[i]? = some x → PySem.W.Looks M h (f x (ns.zip us ++ (given ++ ((kn.take i).filter (fun n => (given.lookup n).isNone)).map fun n => (n, dv n)), ([] : List Str))) (.yield (ns.zip us ++ (given ++ ((kn.take (i + 1)).filter (fun n => (given.lookup n).isNone)).map fun n => (n, dv n)), ([] : List Str)))) → PySem.W.Looks M h (forIn kn (ns.zip us ++ given, ([] : List Str)) f) (ns.zip us ++ (given ++ (kn.filter (fun n => (given.lookup n).isNone)).map fun n => (n, dv n)), []) := fun f hs => by
      have e := looks_forIn (M := M) (h := h) (l := kn) (f := f) (fun i => (ns.zip us ++ (given ++ ((kn.take i).filter (fun n => (given.lookup n).isNone)).map fun n => (n, dv n)), ([] : List Str))) hs
      simp only [List.take_zero, List.filter_nil, List.map_nil, List.append_nil, List.take_length] at e
      exact e
    refine PySem.W.Looks.andThen (e _ fun i n hx => ?_) ?_
    · have hi := List.getElem?_eq_some_iff.mp hx
      have nm : n ∈ kn := List.mem_of_getElem? hx
      have nb : n ∉ (((kn.take i).filter (fun n => (given.lookup n).isNone)).map fun n => (n, dv n)).map (·.1) := by
        intro z
        rw [List.map_map] at z
        obtain ⟨m, hm1, e1⟩ := List.mem_map.mp z
        have e1 : m = n := e1
        subst e1
        obtain ⟨j, hj, e⟩ := List.mem_take_iff_getElem.mp (List.mem_filter.mp hm1).1
        have := (List.getElem_inj (h₀ := by omega) (h₁ := hi.1) nd2).mp (e.trans hi.2.symm)
        omega
      have hk := key n nm _ nb
      rw [take_snoc' hx, List.filter_append]
      simp only [hk]
      cases hg2 : given.lookup n with
      | none =>
        simp only [Option.isNone_none, if_true]
        refine PySem.W.Looks.andThen (PySem.W.looks_nsIn X (hm n nm hg2)) (PySem.W.Looks.of_pure ?_)
        simp [hg2]
      | some v =>
        simp only [Option.isNone_some, Bool.false_eq_true, if_false]
        refine PySem.W.Looks.of_pure ?_
        simp [hg2]
    · have kk : kn.filterMap (fun n => ((ns.zip us ++ (given ++ (kn.filter (fun n => (given.lookup n).isNone)).map fun n => (n, dv n))).lookup n).map (n, ·)) = kn.map fun n => (n, (given.lookup n).getD (dv n)) := by
        refine fm_map fun n hn => ?_
        rw [look_app, look_none (fun z => nk _ hn (zipk _ z)), look_app]
        cases hg2 : given.lookup n with
        | some v => rfl
        | none =>
          have : ((kn.filter (fun n => (given.lookup n).isNone)).map fun n => (n, dv n)).lookup n = some (dv n) := by
            have hmem : n ∈ kn.filter (fun n => (given.lookup n).isNone) := List.mem_filter.mpr ⟨hn, by rw [hg2]; rfl⟩
            generalize kn.filter (fun n => (given.lookup n).isNone) = l at hmem
            induction l with
            | nil => cases hmem
            | cons m l ih =>
              rw [List.map_cons, List.lookup_cons]
              cases e : n == m with
              | true => have : n = m := by simpa using e
                        subst this; rfl
              | false => exact ih ((List.mem_cons.mp hmem).resolve_left (by simpa using e))
          rw [this]
          rfl
      refine PySem.W.Looks.of_pure ?_
      simp only [List.isEmpty_nil, Bool.not_true, Bool.false_eq_true, if_false, pure_bind, List.filterMap_append, fm_zip nd1 hl, kk]
theorem map_look {V : Type} {l : List Str} {vs : List V} (nd : l.Nodup) (hl : vs.length = l.length) {g : Str → V} (h : ∀ n ∈ l, ∀ v, (l.zip vs).lookup n = some v → g n = v) : l.map (fun n => (n, g n)) = l.zip vs := by
  induction l generalizing vs with
  | nil => rfl
  | cons n l ih =>
    cases vs with
    | nil => cases hl
    | cons v vs =>
      obtain ⟨n1, n2⟩ := List.nodup_cons.mp nd
      have e : g n = v := h n List.mem_cons_self v (by rw [List.zip_cons_cons, List.lookup_cons, beq_self_eq_true])
      rw [List.map_cons, List.zip_cons_cons, e, ih n2 (by simpa using hl) fun m hm w hw => h m (List.mem_cons_of_mem _ hm) w (by
        rw [List.zip_cons_cons, List.lookup_cons, beq_false_of_ne (fun z : m = n => n1 (by rw [← z]; exact hm))]
        exact hw)]
theorem look_mem {V : Type} {A : List (Str × V)} {n : Str} {v : V} (h : A.lookup n = some v) : (n, v) ∈ A := by
  induction A with
  | nil => cases h
  | cons x A ih =>
    obtain ⟨m, w⟩ := x
    rw [List.lookup_cons] at h
    cases e : n == m with
    | true =>
      rw [e] at h
      have e : n = m := by simpa using e
      cases h
      subst e
      exact List.mem_cons_self
    | false =>
      rw [e] at h
      exact List.mem_cons_of_mem _ (ih h)
theorem bindsW_of {K : PySem.W.Frag} {fd : FuncData} {D : Addr} {ns k1 ks k2 : List Str} {m1 m2 : List V} {v1 v2 : List Value} (hp : fd.params.posonlyargs = []) (hn : fd.params.args.map (·.arg) = ns) (hk : fd.params.kwonlyargs.map (·.arg) = k1 ++ (ks ++ k2)) (hv : fd.params.vararg = none) (hw : fd.params.kwarg = none) (hd : fd.defaults = .none) (hD : fd.kwdefaults = .ref D)
   (nd : (ns ++ (k1 ++ (ks ++ k2))).Nodup) (r1 : Vals m1 v1) (r2 : Vals m2 v2) (l1 : v1.length = k1.length) (l2 : v2.length = k2.length) (h1 : ∀ q ∈ k1.zip v1, PySem.W.nsIn K D q.1 = some (some q.2)) (h2 : ∀ q ∈ k2.zip v2, PySem.W.nsIn K D q.1 = some (some q.2)) : BindsW K fd (ns ++ (k1 ++ (ks ++ k2))) ns.length ks k1.length (m1 ++ m2) := by
  have l3 : m1.length = k1.length := r1.length.trans l1
  refine ⟨v1 ++ v2, r1.append r2, fun s us ws X lu lw => L2.BindsTo.of_looks fun M => ?_⟩
  obtain ⟨nd1, nd2, nd3⟩ := List.nodup_append.mp nd
  obtain ⟨nd4, nd5, nd6⟩ := List.nodup_append.mp nd2
  obtain ⟨nd7, nd8, nd9⟩ := List.nodup_append.mp nd5
  have a1 : ∀ n ∈ ks, n ∉ k1 := fun n h h' => nd6 n h' n (List.mem_append_left _ h) rfl
  have a2 : ∀ n ∈ k2, n ∉ k1 := fun n h h' => nd6 n h' n (List.mem_append_right _ h) rfl
  have a3 : ∀ n ∈ k2, n ∉ ks := fun n h h' => nd9 n h' n h rfl
  have gk : ∀ n, n ∉ ks → (ks.zip ws).lookup n = none := fun n h => look_none fun z => h (zipk _ z)
  have e := bind_kw (M := M) (us := us) (given := ks.zip ws) (dv := fun n => ((k1.zip v1 ++ k2.zip v2).lookup n).getD .none) X hp hn hk hv hw hd hD nd lu (fun q hq => List.mem_append_right _ (List.mem_append_left _ (List.of_mem_zip (a := q.1) (b := q.2) hq).1)) (by rw [List.map_fst_zip (by omega)]; exact nd7) (fun n hn hg => by
    rcases List.mem_append.mp hn with hn | hn
    · obtain ⟨v, e⟩ := look_zip l1 hn
      rw [look_app, e]
      exact h1 _ (look_mem e)
    · rcases List.mem_append.mp hn with hn | hn
      · obtain ⟨v, e⟩ := look_zip lw hn
        rw [e] at hg
        cases hg
      · obtain ⟨v, e⟩ := look_zip l2 hn
        rw [look_app, look_none (fun z => a2 n hn (zipk _ z)), e]
        exact h2 _ (look_mem e))
  have q1 : k1.map (fun n => (n, ((ks.zip ws).lookup n).getD (((k1.zip v1 ++ k2.zip v2).lookup n).getD .none))) = k1.zip v1 := map_look nd4 l1 fun n hn v e => by
    rw [gk n (fun z => a1 n z hn), look_app, e]; rfl
  have q2 : ks.map (fun n => (n, ((ks.zip ws).lookup n).getD (((k1.zip v1 ++ k2.zip v2).lookup n).getD .none))) = ks.zip ws := map_look nd7 lw fun n hn v e => by
    rw [e]; rfl
  have q3 : k2.map (fun n => (n, ((ks.zip ws).lookup n).getD (((k1.zip v1 ++ k2.zip v2).lookup n).getD .none))) = k2.zip v2 := map_look nd8 l2 fun n hn v e => by
    rw [gk n (a3 n hn), look_app, look_none (fun z => a2 n hn (zipk _ z)), e]; rfl
  rw [List.map_append, List.map_append, q1, q2, q3] at e
  have e1 : (v1 ++ v2).take k1.length = v1 := by rw [← l1]; simp
  have e2 : (v1 ++ v2).drop k1.length = v2 := by rw [← l1]; simp
  rw [e1, e2, List.zip_append lu.symm, List.zip_append l1.symm, List.zip_append lw.symm]
  exact e
def tMakeW (C : Addr) (n m i : Nat) (ms : List V) (sp : Sp) (E : XK) (t tk : TA) : TE := fun σ H Q => t σ H fun vs H1 => tk σ H1 fun zs H2 => vs.length = n ∧ zs.length = m ∧
  ∀ x dx, H2 x = none → H2 dx = none → dx ≠ x → sp (.ref x :: (vs ++ (ms.take i ++ (zs ++ ms.drop i)))) (upd (upd H2 dx (.own x)) x (.ins C dx [])) (fun v H3 => v = .non ∧ Q (.ref x) H3) E
section
variable {X : Cx} {CX : CXT} {k n m i : Nat} {f C : Addr} {fd : FuncData} {ps ks : List Str} {sp : Sp} {E : XK} {x : Str} {p pos : Pos} {e : Expr} {es : List Expr} {kws : List Keyword} {t tk : TA} {ms : List V}
theorem pe_makeW (M : Mk X.K C f) (F : FnOk X.prog X.w X.K X.mg X.base CX k f fd ps sp) (hr : Room (k + 1) X.A) (hg : Gl X x) (hm : X.mg x = some (.ref C)) (hb : BindsW X.K fd ps (n + 1) ks i ms) (hx : Passes CX X E)
    (ha : PA X (e :: es) t) (hkw : PK X kws tk) (hml : ks.length = m := by rfl) (hall : (backToKw pos (keywordEach kws X.env)).all (·.1.isSome) = true := by rfl) (hks : (backToKw pos (keywordEach kws X.env)).filterMap (·.1) = ks := by rfl)
    (hdb : (x == ("__debug__" : Str)) = false := by decide) (he : starEach (e :: es) X.env = (false, eval e X.env) :: starEach es X.env := by rfl)
    (hpl : ((backTo pos (starEach (e :: es) X.env)).any (·.1) || (backToKw pos (keywordEach kws X.env)).any (·.1.isNone)) = false := by rfl) :
    PE X (.Call (.Name x p) (e :: es) kws pos) (tMakeW C n m i ms sp E t tk) := by
  subst hml
  obtain ⟨mv, hb⟩ := hb.kbn
  exact pe_makeK M F hr hg hm hb hx ha hkw hall hks hdb he hpl
theorem pe_makeW0 (M : Mk X.K C f) (F : FnOk X.prog X.w X.K X.mg X.base CX k f fd ps sp) (hr : Room (k + 1) X.A) (hg : Gl X x) (hm : X.mg x = some (.ref C)) (hb : BindsW X.K fd ps 1 ks i ms) (hx : Passes CX X E)
    (hkw : PK X kws tk) (hml : ks.length = m := by rfl) (hall : (backToKw pos (keywordEach kws X.env)).all (·.1.isSome) = true := by rfl) (hks : (backToKw pos (keywordEach kws X.env)).filterMap (·.1) = ks := by rfl)
    (hdb : (x == ("__debug__" : Str)) = false := by decide) (hpl : ((backTo pos (starEach [] X.env)).any (·.1) || (backToKw pos (keywordEach kws X.env)).any (·.1.isNone)) = false := by rfl) :
    PE X (.Call (.Name x p) [] kws pos) (tMakeW C 0 m i ms sp E tNil tk) := by
  subst hml
  obtain ⟨mv, hb⟩ := hb.kbn
  exact pe_makeK0 M F hr hg hm hb hx hkw hall hks hdb hpl
end
/-- a module's text -/
theorem pe_constS {X : Cx} {x : Str} {i : Str} {t : Tok} {p2 : Pos} (hm : X.mg x = some (.str i t)) (hg : Gl X x) (hdb : (x == ("__debug__" : Str)) = false := by decide) : PE X (.Name x p2) (tC (.str i)) := pe_imp (pe_glob hg hm (v := .str i) ⟨t, rfl⟩ hdb) fun _ _ _ q => q
/-! ### isinstance, the module's tuples too -/
def rIsJ (S : Sta) : List V → Hp → VK → Prop := fun xs H Q => rIsI xs H Q ∨ rIsS S xs H Q
theorem c_isJ {X : Cx} {S : Sta} (st : S = SK X.K) : CallR X (.builtin "isinstance") (rIsJ S) := fun pins s σ H xs us Q J r h => h.elim (c_isi pins s σ H xs us Q J r) (c_isS st pins s σ H xs us Q J r)
def rIsTS (S : Sta) : List V → Hp → VK → Prop := fun xs H Q => ∃ p ys q vs ns, xs = [.ref p, .ref q] ∧ S p (.tup ys) ∧ H q = some (.tup vs) ∧ Tys vs ns ∧ (∀ n ∈ ns, kitB "tuple" n = some (isA "tuple" n)) ∧ Q (.bl (ns.any (isA "tuple"))) H
theorem c_isTS {X : Cx} {S : Sta} (st : S = SK X.K) : CallR X (.builtin "isinstance") (rIsTS S) := call_imp call_isiT fun xs H Q q => by
  subst st
  obtain ⟨p, ys, q', vs, ns, e, ⟨o, its, m, h1, h2, _⟩, h, k, ha, q⟩ := q
  exact ⟨.ref p, q', vs, .type "tuple", ns.map Value.type, ns.any (isA "tuple"), e, h, k.cls, .kTuple h1 h2, kit_any ha, q⟩
def rIsU (S : Sta) : List V → Hp → VK → Prop := fun xs H Q => rIsT xs H Q ∨ rIsTS S xs H Q
theorem c_isU {X : Cx} {S : Sta} (st : S = SK X.K) : CallR X (.builtin "isinstance") (rIsU S) := fun pins s σ H xs us Q J r h => h.elim (c_isT pins s σ H xs us Q J r) (c_isTS st pins s σ H xs us Q J r)
end Y

/-! extend by a list or a tuple; xs[a:c] = ys; comprehensions over a range with a step; leaf defs called in an except suite. -/
namespace Y
open PySem PySem.Spec PyProof.Rows L2
/-! ### xs.extend(ys) -/
section
open Builtin
theorem extend_tup (l : Addr) (items : Array Value) (n : Nat) (b : Addr) (d2 : Option Addr) (sl2 : Array (Option Value)) (items2 : Array Value) (n2 : Nat) (hs0 : ¬(!items.isEmpty && Builtin.List.listTooLong (items.size + items2.size)) = true) (hs1 : items.size ≤ sizeLine) (hs2 : items.size + items2.size ≤ sizeLine + 1) :
    Meets (Builtin.«list.extend» ⟨[.ref l, .ref b], []⟩) (fun _ R s => s.heap.get? l = some { cls := .type "list", dict := none, data := .seq items n, slots := #[] } ∧ s.heap.get? b = some { cls := .type "tuple", dict := d2, data := .seq items2 n2, slots := sl2 } ∧ R (.ok (.ret Value.none)) { s with heap := s.heap.update l (Obj.mapSeq fun x => x ++ items2), toks := s.toks }) :=
  .of_wp fun prog w A R s h => by
    obtain ⟨hp, g, d, tk, os⟩ := s; obtain ⟨hl, hb, h⟩ := h; have f1 := AutoSeq1.idx_int; have f2 := AutoSeq1.sub_tuple_tuple; have f3 := AutoSeq1.sub_list_list; have f4 := AutoSeq1.sub_tuple_list; have f5 := AutoSeq1.sub_list_tuple
    have hz' : (items ++ items2).size ≤ sizeLine + 1 := by rw [Array.size_append]; exact hs2
    wp_walk using (wpAny_updateSeq hl rfl (hz := hs1) (_hz' := hz')), wpAny_loadPart' hl, wpAny_loadPart' hb; exact ⟨_, rfl, h⟩
end
def rExt (S : Sta) : V → List V → Hp → VK → Prop := fun x vs H Q => ∃ l b xs zs, x = .ref l ∧ vs = [.ref b] ∧ H l = some (.lst xs) ∧ (H b = some (.lst zs) ∨ RdS S H b (.tup zs)) ∧ xs.length + zs.length ≤ sizeLine ∧ Q .non (upd H l (.lst (xs ++ zs)))
theorem mt_ext {X : Cx} {S : Sta} (st : S = SK X.K) : MtR X "list.extend" (rExt S) := fun pins s σ H x vs v us Q I rx rv h => by
  obtain ⟨l, b, xs, zs, e1, e2, hH, hB, hz, q⟩ := h
  rcases hB with hB | hB
  · exact mt_extend pins s σ H x vs v us Q I rx rv ⟨l, b, xs, zs, e1, e2, hH, hB, hz, q⟩
  · subst e1 e2
    cases rx
    obtain ⟨u, rfl, ru⟩ := rv.one
    cases ru
    obtain ⟨z, its, n, r, hl, e⟩ := I.lstM hH
    obtain ⟨its2, r2, ⟨o2, ho2, hc2, n2, hd2⟩, _⟩ := I.tuple (sqT st hB)
    obtain ⟨c2, d2, k2, sl2⟩ := o2
    cases hc2
    cases hd2
    have hl2 := r2.length
    have hsz : its.toArray.size + its2.toArray.size ≤ sizeLine := by rw [List.size_toArray, List.size_toArray]; omega
    have hlong : ¬ (!its.toArray.isEmpty && Builtin.List.listTooLong (its.toArray.size + its2.toArray.size)) = true := by
      rw [notLongL hsz, Bool.and_false]
      exact Bool.false_ne_true
    refine call_meets F.slot_list_extend ⟨_, e, rfl⟩ F.entry_list_extend (F.args_list_extend_2 _ _)
      (extend_tup l its.toArray n b d2 sl2 its2.toArray n2 hlong (by rw [List.size_toArray]; omega) (by omega)) ⟨e, ho2, ?_⟩
    refine ⟨.non, _, I.lset (its' := its ++ its2) hH e (by simp) (r.append r2) ?_, rfl, q⟩
    rw [List.length_append]
    omega
def eExt (S : Sta) (te : TE) (ta : TA) : TE := fun σ H Q => te σ H fun x H1 => ∃ l, x = .ref l ∧ (∃ xs, H1 l = some (.lst xs)) ∧ ta σ H1 fun vs H2 => rExt S x vs H2 Q
theorem pe_ext {X : Cx} {S : Sta} {o e : Expr} {es : List Expr} {te : TE} {ta : TA} {apos cpos : Pos} (st : S = SK X.K) (ho : PE X o te) (ha : PA X (e :: es) ta)
    (hbase : attributeBase o "extend" X.env (eval o X.env) = eval o X.env := by rfl)
    (hfew : ((backTo cpos (starEach (e :: es) X.env)).all (fun x => !x.1) && (backToKw cpos (keywordEach [] X.env)).all (fun x => x.1.isSome)
      && decide ((e :: es).length + ([] : List Keyword).length + (if ([] : List Keyword).isEmpty then 0 else 1) < 30)) = true := by rfl)
    (hline : (apos.endLine == cpos.line) = true := by rfl) (hs : starEach (e :: es) X.env = (false, eval e X.env) :: starEach es X.env := by rfl) (hplain : (backTo cpos (starEach es X.env)).any (·.1) = false := by rfl) :
    PE X (.Call (.Attribute o "extend" apos) (e :: es) [] cpos) (eExt S te ta) :=
  pe_imp (pe_bm PySem.F.plainAttrs_list PySem.F.slot_list_extend PySem.F.type_list_extend (mt_ext st) (pe_mo ho) ha hbase hfew hline hs hplain) fun σ H Q q =>
    ⟨_, q, fun x H1 ⟨l, e1, ⟨xs, hl⟩, q1⟩ => by subst e1; exact ⟨.inl ⟨rfl, _, .inl (.inl hl)⟩, q1⟩⟩
/-! ### xs[a:c] = ys -/
def gSlS (to : TE) (tl th : TO) : TG := fun v σ H Q => to σ H fun o H1 => tl σ H1 fun a H2 => th σ H2 fun c H3 => ∃ l b xs ys i j, o = .ref l ∧ v = .ref b ∧ a = some i ∧ c = some j ∧ H3 l = some (.lst xs) ∧ H3 b = some (.lst ys) ∧ l ≠ b ∧ 0 ≤ i ∧ i ≤ j ∧ j ≤ (xs.length : Int) ∧ xs.length + ys.length ≤ sizeLine ∧ Q σ (upd H3 l (.lst (xs.take i.toNat ++ ys ++ xs.drop j.toNat)))
theorem pg_slS {X : Cx} {o lo hi : Expr} {to : TE} {tl th : TO} {p2 pos : Pos} (ho : PE X o to) (hl : PO X (some lo) tl) (hu : PO X (some hi) th)
    (ha : ∀ v, assign (.Subscript o (.Slice (some lo) (some hi) none p2) pos) X.env v = (do
      let ov ← holding [v] (eval o X.env)
      let iv ← holding [v, ov] (eval (.Slice (some lo) (some hi) none p2) X.env)
      standAt pos
      holding [v, ov, iv] (setItem ov iv v)
      release [iv, v, ov] []) := by intro _; rfl) : PG X (.Subscript o (.Slice (some lo) (some hi) none p2) pos) (gSlS to tl th) := by
  refine ⟨fun pins s σ H v u Q I r h => ?_⟩
  rw [ha]
  refine wpAny_bind (wpAny_holding (thn (ho.run pins s σ H _ I h) fun ov s1 ⟨x, H1, I1, r1, q1⟩ => ?_))
  refine wpAny_bind (wpAny_holding (wpAny_Slice (thn (hl.run pins s1 σ H1 _ I1 q1) fun vl s2 ⟨a, H2, I2, pl, q2⟩ => thn (hu.run pins s2 σ H2 _ I2 q2) fun vu s3 ⟨c, H3, I3, pu, q3⟩ => ?_)))
  rw [evalPart_none]
  refine wpAny_pure ?_
  have I4 : Inv X pins σ H3 { s3 with heap := s3.heap.push { cls := .type "slice", data := .fields #[vl, vu, .none] } } := I3.kept (t' := s3.toks) fun b ob q => Heap.get?_push_of_some _ q
  obtain ⟨l, b, xs, ys, i, j, rfl, rfl, rfl, rfl, hH, hB, hne, h0, hij, hj, hz, q⟩ := q3
  cases r1
  cases r
  cases pl with
  | int i ti =>
    cases pu with
    | int j tj =>
      refine wpAny_bind (wpAny_standAt (wpAny_bind (wpAny_holding (set_slice I4 hH hB hne (Heap.IsSliceOf.new ..) ⟨ti, rfl⟩ ⟨tj, rfl⟩ h0 hij hj hz fun s' I5 => ?_))))
      exact wpAny_release ⟨σ, _, I5, q⟩
/-! ### [e for x in range(a, b, c)] -/
def eLcR3 (ta : TA) (g : TG) (tt : TT) (tel : TE) (vs : List Nat) : TE := fun σ H Q => ta σ H fun xs H1 => ∃ (i j c : Int) (n : Nat), xs = [.int i, .int j, .int c] ∧ RgC i j c n ∧ ∀ D, H1 D = none → ∃ Pv : Nat → Hp → Prop, Pv 0 (upd H1 D (.lst [])) ∧
  (∀ (k : Nat) H, k < n → Pv k H → g (.int (i + (k : Nat) * c)) (wipe σ vs) H fun σ2 H2 => wipe σ2 vs = wipe σ vs ∧ tt σ2 H2 fun b H3 => if b = true then tel σ2 H3 fun z H4 => ∃ acc, H4 D = some (.lst acc) ∧ acc.length < sizeLine ∧ Pv (k + 1) (upd H4 D (.lst (acc ++ [z]))) else Pv (k + 1) H3) ∧
  ∀ H, Pv n H → Q (.ref D) H
theorem pe_lcR3 {X : Cx} {tg a b c elt : Expr} {ifs : List Expr} {ta : TA} {tel : TE} {tt : TT} {g : TG} {scope : Scope} {own : List (Str × Nat)} {pos p pos2 : Pos} (hc : X.calm = true) (hN : X.N.Nodup) (hgl : Gl X "range") (hm : X.mg "range" = none) (ha : PA X [a, b, c] ta) (ok : BlkOk X.N X.env.scope scope own) (B : Blk X scope tg elt ifs g tt tel)
    (hs : starEach [a, b, c] X.env = (false, eval a X.env) :: starEach [b, c] X.env := by rfl) (hpl : (backTo pos2 (starEach [b, c] X.env)).any (·.1) = false := by rfl) (hs' : ∀ x, foldedSetIterable (.Call (.Name "range" p) [a, b, c] [] pos2) X.env x = pure x := by intro _; rfl) :
    PE X (.ListComp elt [⟨tg, .Call (.Name "range" p) [a, b, c] [] pos2, ifs, 0⟩] scope pos) (eLcR3 ta g tt tel (own.map (·.2))) :=
  pe_imp (pe_lc hc hN (pi_range3 hgl hm (pa_mo ha) hs hpl) ok B.hg B.ht B.he hs') fun σ H Q q => ⟨_, q, fun xs H1 ⟨i, j, c, n, e, rg, q⟩ => ⟨i, j, c, n, e, rg, fun D hD => by
    obtain ⟨Pv, h0, ht, hd⟩ := q D hD
    exact lc_it walk_rangeC Pv h0 (fun _ _ _ _ => trivial) (fun k v H H' hk p ⟨e, ev⟩ => by
      subst e ev
      exact ht k H' hk p) hd⟩⟩
/-! ### leaf defs called where an exception is handled -/
theorem units_h {k : Nat} {A : Around} (r : L2H.RoomH k A) : A.units + 64 < cLine := by have := r.un; omega
/-- as FnOk, an exception being handled (its object is p) -/
structure FnW (P : Program) (w : World) (K : PySem.W.Frag) (mg : Str → Option Value) (base : Heap) (CX : CXT) (k : Nat) (f : Addr) (fd : FuncData) (ps : List Str) (sp : Sp) : Prop where
  ln : ∀ vs H Q E, sp vs H Q E → vs.length = ps.length
  go : ∀ (A : Around) (fs : List Env) (s : Shared) (H : Hp) (ar : Args) (us : List Value) (vs : List V) (Q : VK) (E : XK) (p : Addr × Obj), L2H.RoomH k A → L2H.PinOk fs H s p → Env0 P w K mg base A fs s H → BindsTo s fd ar (ps.zip us) → Vals vs us → sp vs H Q E → codeAny (model P w) A (.call (.ref f) ar) (CR CX fs P w H s Q E) s
theorem ok_bodyW {P : Program} {w : World} {K : PySem.W.Frag} {mg : Str → Option Value} {base : Heap} {x qual : Str} {st : Stmt} {f : Addr} {fd : FuncData} {N ps : List Str} {n m k : Nat} {t : XK → TS} (F : Fun K x qual st f fd) (S : FnScope N ps (defScope st)) (hn : N.length = n) (hm : ps.length = m)
    (h : ∀ (cdv : Value) (A : Around) (outer : List Env) (s : Shared) (H : Hp) (E : XK) (p : Addr × Obj), L2H.RoomH k (A.deeper (envOfC qual (defScope st) s.heap.objs.size f cdv)) → PSs (L2H.cxH (L2.CX P w) P w K mg base N qual (defScope st) f cdv A outer s H E p) (defBody st) (t E)) : FnW P w K mg base (L2.CX P w) (k + 1) f fd ps (spB n m t) := by
  subst hn hm
  obtain ⟨oc, od, kV, doc, pm, an, cdv, ct, osl, e, lk, hcd⟩ := F.ex
  subst e
  refine ⟨fun vs H Q E q => q.1, fun A fs s H ar us vs Q E p hr hpin e0 hb rv hsp => ?_⟩
  have kX : K.In s.heap := e0.mod.kin.keeps fun b o z => (e0.bs b o z).1
  have nl : s.heap.NoLimit := e0.mod.nolimit.keeps fun b o z => (e0.bs b o z).1
  refine codeAny_call_function hr.depth (kX _ _ lk) rfl S.co S.gen rfl (PySem.W.codeRec_of kX hcd) (hb _ _ _ _ (wpAny_newFunctionEnv_cells S.kind ?_ ?_))
  · rintro ⟨n, v⟩ hy
    rcases S.par n (List.of_mem_zip hy).1 with z | z
    · exact Or.inl z
    · exact Or.inr ⟨z, PySem.W.cellsFrom_some _ _ _ (Or.inl z)⟩
  · intro env he s1 ic
    cases he
    refine ⟨nl.keeps ic.toInCall.keep, codeAny_func ?_⟩
    have J : Inv (L2H.cxH (L2.CX P w) P w K mg base N qual (defScope st) f cdv A fs s H E p) [] (L2.start N vs) H s1 := L2H.inv_startH S hpin e0 hsp.1 rv ic
    refine wpAny_mono ((h cdv A fs s H E p (hr.deeper _)).run [] s1 (L2.start N vs) H { nx := fun _ H' => Q .non H', rt := Q } J hsp.2) ?_ (fun _ _ z => z)
    intro fl s' hs
    match fl, hs with
    | .ret u, ⟨v, σ', H', J', r', q'⟩ => exact ⟨v, H', J'.os, J'.bare, J'.base, J'.hok, r', q'⟩
    | .next, ⟨σ', H', J', q'⟩ => exact ⟨V.non, H', J'.os, J'.bare, J'.base, J'.hok, rfl, q'⟩
    | .brk, ⟨_, _, _, q'⟩ => exact q'.elim
    | .cont, ⟨_, _, _, q'⟩ => exact q'.elim
theorem pe_callW {X : Cx} {CX : CXT} {k : Nat} {f : Addr} {fd : FuncData} {ps : List Str} {sp : Sp} {E : XK} {x : Str} {p pos : Pos} {e : Expr} {es : List Expr} {t : TA} {pn : Addr × Obj} (F : FnW X.prog X.w X.K X.mg X.base CX k f fd ps sp) (hr : L2H.RoomH k X.A) (hp : pn ∈ X.pn) (hg : Gl X x) (hm : X.mg x = some (.ref f)) (hk : PySem.W.keepIn X.K (.ref f) = true) (hb : Binds X.K fd ps []) (hx : Passes CX X E) (ha : PA X (e :: es) t)
    (hdb : (x == ("__debug__" : Str)) = false := by decide) (he : starEach (e :: es) X.env = (false, eval e X.env) :: starEach es X.env := by rfl) (hpl : (backTo pos (starEach es X.env)).any (·.1) = false := by rfl) : PE X (.Call (.Name x p) (e :: es) [] pos) (tCall sp [] E t) := by
  constructor
  intro pins s σ H Q J h
  refine wpAny_Call_Name_kw (ld_glob J hg hm (PySem.W.callWith_K (h₀ := X.base) J.ok.mod.kin hk (thn (ha.run pos pins s σ H _ J h) ?_) he hpl) hdb)
  rintro us s1 ⟨vs, H1, J1, rv, q⟩
  rw [List.append_nil] at q
  refine ⟨J1.kIn, ?_⟩
  have ll : (us ++ []).length = ps.length := by rw [List.append_nil, ← rv.length, F.ln _ _ _ _ q]
  have hb1 := hb s1 us J1.kIn ll
  rw [List.append_nil] at hb1
  have P1 := J1.pin pn (List.mem_append_left _ hp)
  refine wpAny_call (codeAny_mono (F.go X.A X.stack s1 H1 ⟨us, []⟩ us vs Q E pn hr ⟨P1.1, P1.2.1, fun hm => (List.mem_cons.mp (J1.stkSub pn.1 hm)).elim P1.2.2.1 P1.2.2.2.1, P1.2.2.2.2⟩ J1.env0 hb1 rv q) ?_)
  intro r s' z
  match r, z with
  | .error e', z => exact hx pins σ H1 s1 e' s' J1 z
  | .ok (.ret u), z => exact J1.after z
theorem roomW {k : Nat} {A : Around} {v : Option Value} (r : Room k A) : L2H.RoomH k (A.mark v) := ⟨r.dp, r.un⟩
/-! ### == of two instances of a class, by its __eq__ -/
def rEqOwn (C : Addr) (sp : Sp) (E : XK) : R2 := fun x y H Q => ∃ a b dx dy fs gs, x = .ref a ∧ y = .ref b ∧ H a = some (.ins C dx fs) ∧ H b = some (.ins C dy gs) ∧ sp [x, y] H (fun v H' => ∃ c, v = .bl c ∧ Q (.bl c) H') E
theorem o_eqOwn {X : Cx} {CX : CXT} {C f : Addr} {fd : FuncData} {ps : List Str} {sp : Sp} {E : XK} {k : Nat} (F : FnOk X.prog X.w X.K X.mg X.base CX k f fd ps sp) (hm : Meth X.K C "__eq__" f) (hr : Room k X.A) (hb : Binds X.K fd ps []) (hx : Passes CX X E) : OpR X (compareOp .Eq) (rEqOwn C sp E) := fun pins s σ H x y u v Q I rx ry h => by
  obtain ⟨a, b, dx, dy, fs, gs, rfl, rfl, ha, hb', h⟩ := h
  cases rx
  cases ry
  obtain ⟨mA, J, _⟩ := ins_get I.hok ha
  obtain ⟨mB, J', _⟩ := ins_get I.hok hb'
  obtain ⟨od, J, _⟩ := J.look
  obtain ⟨od', J', _⟩ := J'.look
  obtain ⟨m, hF⟩ := I.fr
  show wpAny (model X.prog X.w) X.A (richCompare .Eq (.ref a) (.ref b)) (EP X pins σ Q) X.xe s
  refine PySem.W.cmp_K (op := .Eq) (tb := .ref C) hr.units0 hF I.ok.mod.kin J J'.type (by simp [PySem.W.notFirst]) hm.at_ hm.fn ?_
  refine thn (run_fn (us := [.ref a, .ref b]) (vs := [.ref a, .ref b]) (dvs := []) (ds := []) F hr hb .nil hx I (.cons rfl (.cons rfl .nil)) h) fun w s' q => ?_
  obtain ⟨z, H', I', rz, c, ez, q⟩ := q
  subst ez
  cases rz
  exact ⟨.bl c, H', I', rfl, q⟩
/-! ### slices of what is a list or a tuple -/
def rSlB (S : Sta) : V → Option Int → Option Int → Hp → VK → Prop := fun x lo hi H Q => rSl S x lo hi H Q ∨ rTSl S x lo hi H Q
theorem o_slB {X : Cx} {S : Sta} (st : S = SK X.K) : SlR X (rSlB S) := fun pins s σ H x v vl vu lo hi sl Q I rx hs pl pu h => h.elim (o_sl st pins s σ H x v vl vu lo hi sl Q I rx hs pl pu) (o_tsl st pins s σ H x v vl vu lo hi sl Q I rx hs pl pu)
end Y

/-! repr of data that may hold an empty dict. -/
namespace Y
open PySem PySem.Spec PyProof.Rows L2
mutual
inductive DpE (H : Hp) : V → PyData → Prop
  | non : DpE H .non .none
  | bl (b : Bool) : DpE H (.bl b) (.bool b)
  | int (i : Int) : DpE H (.int i) (.int i)
  | str (x : Str) : DpE H (.str x) (.str x)
  | lst {a : Addr} {xs : List V} {ds : List PyData} : H a = some (.lst xs) → DpEs H xs ds → DpE H (.ref a) (.list ds)
  | tup {a : Addr} {xs : List V} {ds : List PyData} : H a = some (.tup xs) → DpEs H xs ds → DpE H (.ref a) (.tuple ds)
  | dct {a : Addr} : H a = some (.dK []) → DpE H (.ref a) (.dict [])
inductive DpEs (H : Hp) : List V → List PyData → Prop
  | nil : DpEs H [] []
  | cons {v : V} {vs : List V} {d : PyData} {ds : List PyData} : DpE H v d → DpEs H vs ds → DpEs H (v :: vs) (d :: ds)
end
section
variable {X : Cx} {pins : List (Addr × Obj)} {σ : L2.St} {H : Hp} {s : Shared}
theorem sys_base (I : Inv X pins σ H s) (sb : ∃ mm, X.base.Ns sysModules mm) : H sysModules = none := by
  obtain ⟨mm, o, es, ep, e, _⟩ := sb
  exact (I.bs sysModules o e).2
theorem ne_sys (I : Inv X pins σ H s) (sb : ∃ mm, X.base.Ns sysModules mm) {a : Addr} {o : HO} (h : H a = some o) : sysModules ≠ a := fun e => by
  subst e
  rw [sys_base I sb] at h
  cases h
mutual
theorem DpE.reads (I : Inv X pins σ H s) (sb : ∃ mm, X.base.Ns sysModules mm) : ∀ (d : PyData) (v : V) (u : Value), DpE H v d → RelV v u → ∃ as, Reads s.heap u d as ∧ sysModules ∉ as
  | .none, _, _, h, r => by
    cases h
    cases r
    exact ⟨_, Reads.none, by simp⟩
  | .bool b, _, _, h, r => by
    cases h
    cases r
    exact ⟨_, Reads.bool b, by simp⟩
  | .int i, _, _, h, r => by
    cases h
    obtain ⟨t, rfl⟩ := r
    exact ⟨_, Reads.int i t, by simp⟩
  | .str x, _, _, h, r => by
    cases h
    obtain ⟨t, rfl⟩ := r
    exact ⟨_, Reads.str x t, by simp⟩
  | .list ds, _, _, h, r => by
    cases h with
    | lst hs ha =>
      cases r
      obtain ⟨its, rv, ⟨o, n, ho, hc, _, hd⟩, _⟩ := I.list (.inl (.inl hs))
      obtain ⟨as, hr, hn⟩ := DpEs.reads I sb ds _ its ha rv
      refine ⟨_, Reads.list ho hc hd hr, fun m => ?_⟩
      rcases List.mem_cons.mp m with m | m
      · exact ne_sys I sb hs m
      · exact hn m
  | .tuple ds, _, _, h, r => by
    cases h with
    | tup hs ha =>
      cases r
      obtain ⟨its, rv, ⟨o, ho, hc, n, hd⟩, _⟩ := I.tuple (.inl (.inl hs))
      obtain ⟨as, hr, hn⟩ := DpEs.reads I sb ds _ its ha rv
      exact ⟨_, Reads.tuple ho hc hd hr, hn⟩
  | .dict _, _, _, h, r => by
    cases h with
    | dct hs =>
      cases r
      obtain ⟨_, hm, vs, kv, o, es, ep, ho, ex, hd, _, pr, _⟩ := I.hok _ _ hs
      cases kv
      have he : es.toList = [] := by
        generalize es.toList = l at pr
        cases pr
        rfl
      refine ⟨_, Reads.dict ho ex.1 hd (by rw [he]; exact .nil) (by rw [he]; exact .nil), fun m => ?_⟩
      have m : sysModules = _ := List.mem_singleton.mp m
      exact ne_sys I sb hs m
theorem DpEs.reads (I : Inv X pins σ H s) (sb : ∃ mm, X.base.Ns sysModules mm) : ∀ (ds : List PyData) (vs : List V) (us : List Value), DpEs H vs ds → Vals vs us → ∃ as, ReadsAll s.heap us ds as ∧ sysModules ∉ as
  | [], _, _, h, r => by
    cases h
    cases r
    exact ⟨_, ReadsAll.nil, by simp⟩
  | d :: ds, _, _, h, r => by
    cases h with
    | cons h1 h2 =>
      cases r with
      | cons r1 r2 =>
        obtain ⟨as, q1, n1⟩ := DpE.reads I sb d _ _ h1 r1
        obtain ⟨bs, q2, n2⟩ := DpEs.reads I sb ds _ _ h2 r2
        exact ⟨_, ReadsAll.cons q1 q2, fun m => (List.mem_append.mp m).elim n1 n2⟩
end
end
/-- repr: data, or a list that may hold empty dicts -/
def rReprE (S : Sta) : List V → Hp → VK → Prop := fun xs H Q => rRepr S xs H Q ∨ ∃ (a : Addr) (d : PyData), xs = [.ref a] ∧ DpE H (.ref a) d ∧ d.showable = true ∧ d.depth ≤ 20 ∧ d.shown.length ≤ sizeLine ∧ Q (.str d.shown) H
theorem c_reprE {X : Cx} {S : Sta} (sb : ∃ mm, X.base.Ns sysModules mm) (st : S = SK X.K) (gd : X.A.guards = some []) (hu : X.A.units + 64 < cLine) : CallR X (.builtin "repr") (rReprE S) := by
  intro pins s σ H xs us Q J rv h
  rcases h with h | ⟨a, d, e, dp, h1, h3, h4, q⟩
  · exact c_repr st gd hu pins s σ H xs us Q J rv h
  · subst e
    match us, rv with
    | [u], .cons ru .nil =>
      cases ru
      obtain ⟨as, rd, hn⟩ := DpE.reads J sb d _ _ dp rfl
      refine repr_of_reads' rd h1 (fun _ => hn) gd (by omega) (fun _ _ z => z) (fun h' u tk hk => ?_) h4
      exact ⟨.str d.shown, H, J.kept hk, ⟨u, rfl⟩, q⟩
end Y

/-! Star parameters and star calls, operators of own classes, comprehensions with two fors, sorted. -/
namespace Y
open PySem PySem.Spec PyProof.Rows L2
/-! ### a def with a star parameter -/
def BindsSt (fd : FuncData) (ps : List Str) (pv : Str) : Prop := ∀ us rest : List Value, us.length = ps.length → bindArgs fd ⟨us ++ rest, []⟩ = (newTuple rest >>= fun t => pure (ps.zip us ++ [(pv, t)]))
def spSt (j : Nat) (sp : Sp) : Sp := fun vs H Q E => ∃ ws rest, vs = ws ++ rest ∧ ws.length = j ∧ rest.length ≤ sizeLine ∧ ∀ p, H p = none → sp (ws ++ [V.ref p]) (upd H p (.tup rest)) Q E
theorem ok_bodyR {P : Program} {w : World} {K : PySem.W.Frag} {mg : Str → Option Value} {base : Heap} {x qual pv : Str} {st : Stmt} {f : Addr} {fd : FuncData} {N ps : List Str} {n m k : Nat} {t : XK → TS} (F : Fun K x qual st f fd) (S : FnScope N (ps ++ [pv]) (defScope st)) (b : BindsSt fd ps pv) (hn : N.length = n)
    (h : ∀ (cdv : Value) (A : Around) (outer : List Env) (s : Shared) (H : Hp) (E : XK), Room k (A.deeper (envOfC qual (defScope st) s.heap.objs.size f cdv)) → PSs (cxOf (L2.CX P w) P w K mg base N qual (defScope st) f cdv A outer s H E) (defBody st) (t E)) :
    FnR P w K mg base (L2.CX P w) (k + 1) f (spSt ps.length (spB n m t)) := by
  subst hn
  obtain ⟨oc, od, kV, doc, pm, an, cdv, ct, osl, rfl, lk, hcd⟩ := F.ex
  exact StX.fn_star (sp := spB N.length m t) lk hcd S StX.cxUp b fun A outer s H vs Q E hr q => ⟨t E, h cdv A outer s H E hr, q.2⟩
/-! ### an instance by a star __init__ -/
def Kst (C : Addr) (sp : Sp) (vs : List V) (H1 : Hp) (Q : VK) (E : XK) : Prop := vs.length ≤ sizeLine ∧ ∀ x dx p, H1 x = none → H1 dx = none → dx ≠ x → H1 p = none → p ≠ x → p ≠ dx →
  sp [.ref x, .ref p] (upd (upd (upd H1 dx (.own x)) x (.ins C dx [])) p (.tup vs)) (fun v H2 => v = .non ∧ Q (.ref x) H2) E
def tMakeSt (C : Addr) (sp : Sp) (E : L2.St → XK) (t : TA) : TE := fun σ H Q => t σ H fun vs H1 => Kst C sp vs H1 Q (E σ)
/-- *e in an argument list -/
def tStarS (S : Sta) (te : TE) (t : TA) : TA := fun σ H Q => te σ H fun x H1 => ∃ a xs, x = .ref a ∧ Seq S H1 a xs ∧ t σ H1 fun ys H2 => Q (xs ++ ys) H2
section
variable {X : Cx} {CX : CXT} {k : Nat} {f C : Addr} {sp : Sp} {x : Str} {e : Expr} {es : List Expr} {te : TE} {t : TA} {p pos sp_ : Pos}
theorem run_makeSt {E : XK} {pins : List (Addr × Obj)} {σ : L2.St} {H : Hp} {s : Shared} {Q : VK} {us : List Value} {vs : List V} (M : Mk X.K C f) (F : FnR X.prog X.w X.K X.mg X.base CX k f (spSt 1 sp)) (hr : Room (k + 1) X.A) (hx : PassesAt CX X σ E) (I : Inv X pins σ H s) (r : Vals vs us)
    (h : Kst C sp vs H Q E) : wpAny (model X.prog X.w) X.A (call (.ref C) us) (EP X pins σ Q) X.xe s := by
  obtain ⟨hz, h⟩ := h
  have nn := Nat.le_refl s.heap.objs.size
  have ne : s.heap.objs.size ≠ s.heap.objs.size + 1 := Nat.ne_of_lt (Nat.lt_succ_self _)
  have hq : spSt 1 sp (V.ref (s.heap.objs.size + 1) :: vs) (upd (upd H s.heap.objs.size (.own (s.heap.objs.size + 1))) (s.heap.objs.size + 1) (.ins C s.heap.objs.size [])) (fun v H2 => v = .non ∧ Q (.ref (s.heap.objs.size + 1)) H2) E := by
    refine ⟨[V.ref (s.heap.objs.size + 1)], vs, rfl, rfl, hz, fun q hq => ?_⟩
    have h1 : q ≠ s.heap.objs.size + 1 := fun e => by rw [e, upd_same] at hq; cases hq
    rw [upd_ne h1] at hq
    have h2 : q ≠ s.heap.objs.size := fun e => by rw [e, upd_same] at hq; cases hq
    rw [upd_ne h2] at hq
    exact h _ _ q (I.hok.fresh (Nat.le_succ _)) (I.hok.fresh nn) ne hq h1 h2
  have I2 := Inv.made (C := C) I
  have r2 : Vals (V.ref (s.heap.objs.size + 1) :: vs) (Value.ref (s.heap.objs.size + 1) :: us) := .cons rfl r
  have e0 := I2.env0.make C us []
  refine wpAny_call (make_map (f := f) I.kIn M.makes M.init (beq_iff_eq.mp M.fn) (codeAny_mono (F _ X.stack _ _ (Value.ref (s.heap.objs.size + 1) :: us) _ _ E (hr.make C us []) e0 r2 hq) fun r s' hq' => ?_))
  cases r with
  | error e => exact hx pins _ _ e s' I2 hq'
  | ok fl =>
    cases fl with
    | ret u =>
      obtain ⟨v, H', I3, rv, ev, q3⟩ := I2.after hq'
      subst ev
      exact ⟨rv, V.ref (s.heap.objs.size + 1), H', I3, rfl, q3⟩
    | next | brk | cont => exact False.elim hq'
variable {E : L2.St → XK}
theorem pe_makeSt (M : Mk X.K C f) (F : FnR X.prog X.w X.K X.mg X.base CX k f (spSt 1 sp)) (hr : Room (k + 1) X.A) (hg : Gl X x) (hm : X.mg x = some (.ref C)) (hx : ∀ σ, PassesAt CX X σ (E σ))
    (ha : PA X (e :: es) t) (hdb : (x == ("__debug__" : Str)) = false := by decide) (he : starEach (e :: es) X.env = (false, eval e X.env) :: starEach es X.env := by rfl) (hpl : (backTo pos (starEach es X.env)).any (·.1) = false := by rfl) :
    PE X (.Call (.Name x p) (e :: es) [] pos) (tMakeSt C sp E t) :=
  ⟨fun pins s σ H Q I h => wpAny_Call_Name_kw (ld_glob I hg hm (PySem.W.callWith_K (h₀ := X.base) I.ok.mod.kin M.kp (thn (ha.run pos pins s σ H _ I h) fun us s1 ⟨vs, H1, I1, r, q⟩ => ⟨I1.kIn, run_makeSt M F hr (hx σ) I1 r q⟩) he hpl) hdb)⟩
theorem pe_makeSt0 (M : Mk X.K C f) (F : FnR X.prog X.w X.K X.mg X.base CX k f (spSt 1 sp)) (hr : Room (k + 1) X.A) (hg : Gl X x) (hm : X.mg x = some (.ref C)) (hx : ∀ σ, PassesAt CX X σ (E σ))
    (hdb : (x == ("__debug__" : Str)) = false := by decide) : PE X (.Call (.Name x p) [] [] pos) (tMakeSt C sp E tNil) :=
  ⟨fun pins s σ H Q I h => wpAny_Call_Name_kw (ld_glob I hg hm (PySem.W.callWith_K0 I.kIn M.kp (run_makeSt (us := []) M F hr (hx σ) I .nil h)) hdb)⟩
theorem pa_starS {S : Sta} (st : S = SK X.K) (he : PE X e te) (hr : PA X es t) (hs : starEach (.Starred e p :: es) X.env = (true, eval e X.env) :: starEach es X.env := by rfl) : PA X (.Starred e p :: es) (tStarS S te t) := by
  have z := StX.pa_star he hr hs
  refine ⟨fun pos pins s σ H Q I h => ?_⟩
  refine PySem.W.items_star (thn (he.run pins s σ H _ I h) fun v s1 ⟨y, H1, I1, ry, a, xs, ey, hx, q⟩ => ?_) hs
  subst ey
  obtain rfl : v = Value.ref a := ry
  refine StX.star_any I1 (hx.elim (fun q => .inr (sqL st q)) fun q => .inl (sqT st q)) fun us s2 I2 rv => ?_
  exact thn (hr.run pos pins s2 σ H1 _ I2 q) fun ws s3 ⟨vs, H3, I3, r3, q3⟩ => ⟨xs ++ vs, H3, I3, rv.append r3, q3⟩
/-- C(*y) -/
theorem pe_makeStar1 {S : Sta} (st : S = SK X.K) (M : Mk X.K C f) (F : FnR X.prog X.w X.K X.mg X.base CX k f (spSt 1 sp)) (hr : Room (k + 1) X.A) (hg : Gl X x) (hm : X.mg x = some (.ref C)) (hx : ∀ σ, PassesAt CX X σ (E σ)) (he : PE X e te) (hdb : (x == ("__debug__" : Str)) = false := by decide)
    (hst : starEach [.Starred e sp_] X.env = [(true, eval e X.env)] := by rfl) : PE X (.Call (.Name x p) [.Starred e sp_] [] pos) (tMakeSt C sp E (tStarS S te tNil)) := by
  refine ⟨fun pins s σ H Q I h => wpAny_Call_Name_kw (ld_glob I hg hm ?_ hdb)⟩
  refine PySem.W.callWith_S (h₀ := X.base) I.ok.mod.kin M.kp (thn (he.run pins s σ H _ I h) fun v s1 ⟨y, H1, I1, ry, a, xs, ey, hxs, q⟩ => ?_) hst
  subst ey
  obtain rfl : v = Value.ref a := ry
  have q : Kst C sp (xs ++ []) H1 Q (E σ) := q
  rw [List.append_nil] at q
  exact StX.star_any I1 (hxs.elim (fun q => .inr (sqL st q)) fun q => .inl (sqT st q)) fun us s2 I2 rv => ⟨I2.kIn, run_makeSt M F hr (hx σ) I2 rv q⟩
theorem evalArgs_st2 {M : Model} {A : Around} {E : Value → Shared → Prop} {s : Shared} {f : Value} {x y : Sem Value} {b c : Bool} {rest : List (Bool × Sem Value)} {Q : Args → Shared → Prop}
    (h : wpAny M A (spliced ((b, x) :: (c, y) :: rest)) (fun vs s' => Q ⟨vs, []⟩ s') E s) : wpAny M A (evalArgs f true ((b, x) :: (c, y) :: rest) []) Q E s := by
  unfold evalArgs
  cases b with
  | false =>
    show wpAny M A (spliced ((false, x) :: (c, y) :: rest) >>= _) Q E s
    refine wpAny_bind (wpAny_mono h (fun vs s' h' => ?_) fun _ _ x => x)
    refine wpAny_holding ?_
    exact wpAny_bind (wpAny_pure (wpAny_bind (wpAny_pure (wpAny_pure h'))))
  | true =>
    show wpAny M A (spliced ((true, x) :: (c, y) :: rest) >>= _) Q E s
    refine wpAny_bind (wpAny_mono h (fun vs s' h' => ?_) fun _ _ x => x)
    refine wpAny_holding ?_
    exact wpAny_bind (wpAny_pure (wpAny_bind (wpAny_pure (wpAny_pure h'))))
/-- C(*y, z, ..) -/
theorem pe_makeStar2 {e2 : Expr} {a2 : Bool × Sem Value} {r2 : List (Bool × Sem Value)} (M : Mk X.K C f) (F : FnR X.prog X.w X.K X.mg X.base CX k f (spSt 1 sp)) (hr : Room (k + 1) X.A) (hg : Gl X x) (hm : X.mg x = some (.ref C)) (hx : ∀ σ, PassesAt CX X σ (E σ))
    (ha : PA X (.Starred e sp_ :: e2 :: es) t) (hdb : (x == ("__debug__" : Str)) = false := by decide) (he : backTo pos (starEach (.Starred e sp_ :: e2 :: es) X.env) = (true, (do let v ← eval e X.env; standAt pos; pure v)) :: a2 :: r2 := by rfl) :
    PE X (.Call (.Name x p) (.Starred e sp_ :: e2 :: es) [] pos) (tMakeSt C sp E t) := by
  refine ⟨fun pins s σ H Q I h => wpAny_Call_Name_kw (ld_glob I hg hm ?_ hdb)⟩
  have z := thn (ha.run pos pins s σ H _ I h) (Q' := fun us s1 => X.K.In s1.heap ∧ wpAny (model X.prog X.w) X.A (call (.ref C) us) (EP X pins σ Q) X.xe s1) fun us s1 ⟨vs, H1, I1, r, q⟩ => ⟨I1.kIn, run_makeSt M F hr (hx σ) I1 r q⟩
  show wpAny _ _ (callWith pos (.ref C) [] (backTo pos (starEach (.Starred e sp_ :: e2 :: es) X.env)) []) _ _ _
  rw [he] at z ⊢
  obtain ⟨c, y⟩ := a2
  exact PySem.W.ks_call rfl (PySem.W.keeps_K M.kp) (evalArgs_st2 z)
end
/-! ### a op b by the def of an own class -/
def rOpOwn (C : Addr) (sp : Sp) (E : XK) : R2 := fun x y H Q => ∃ a b dx dy fs gs, x = .ref a ∧ y = .ref b ∧ H a = some (.ins C dx fs) ∧ H b = some (.ins C dy gs) ∧ sp [x, y] H Q E
theorem o_opOwn {X : Cx} {CX : CXT} {C f : Addr} {fd : FuncData} {ps : List Str} {sp : Sp} {E : XK} {k : Nat} {op : Operator} {m : Str} (F : FnOk X.prog X.w X.K X.mg X.base CX k f fd ps sp) (hs : PySem.W.selfFirst X.K C = true) (hm : Meth X.K C m f) (hr : Room k X.A) (hb : Binds X.K fd ps []) (hx : Passes CX X E) (hd : PySem.dunder op.info.2 = m) :
    OpR X (binaryOp op) (rOpOwn C sp E) := fun pins s σ H x y u v Q I rx ry h => by
  obtain ⟨a, b, dx, dy, fs, gs, rfl, rfl, ha, hb', h⟩ := h
  cases rx
  cases ry
  subst hd
  obtain ⟨mA, J, _⟩ := ins_get I.hok ha
  obtain ⟨mB, J', _⟩ := ins_get I.hok hb'
  obtain ⟨od, J, _⟩ := J.look
  obtain ⟨od', J', _⟩ := J'.look
  obtain ⟨m, hF⟩ := I.fr
  refine PySem.W.binop_K hF I.ok.mod.kin J J'.type hs hm.at_ hm.fn ?_
  refine thn (run_fn (us := [.ref a, .ref b]) (vs := [.ref a, .ref b]) (dvs := []) (ds := []) F hr hb .nil hx I (.cons rfl (.cons rfl .nil)) h) fun w s' q => ?_
  obtain ⟨z, H', I', rz, q⟩ := q
  exact SlX.cmpback rz ⟨z, H', I', rz, q⟩
/-! ### len(x) by the def of an own class -/
def rLenOwn (C : Addr) (sp : Sp) (E : XK) : List V → Hp → VK → Prop := fun xs H Q => ∃ a dx fs, xs = [.ref a] ∧ H a = some (.ins C dx fs) ∧ sp [.ref a] H (fun v H' => ∃ i : Int, v = .int i ∧ 0 ≤ i ∧ i < 2 ^ 63 ∧ Q (.int i) H') E
theorem c_lenOwn {X : Cx} {CX : CXT} {C f : Addr} {fd : FuncData} {ps : List Str} {sp : Sp} {E : XK} {k : Nat} (F : FnOk X.prog X.w X.K X.mg X.base CX k f fd ps sp) (hm : Meth X.K C "__len__" f) (hr : Room (k + 1) X.A) (hb : Binds X.K fd ps []) (hx : Passes CX X E) :
    CallR X (.builtin "len") (rLenOwn C sp E) := fun pins s σ H xs us Q I r h => by
  obtain ⟨a, dx, fs, rfl, ha, q⟩ := h
  obtain ⟨u, rfl, ru⟩ := r.one
  cases (show u = Value.ref a from ru)
  obtain ⟨mA, J, _⟩ := ins_get I.hok ha
  obtain ⟨od, J, _⟩ := J.look
  obtain ⟨m, hF⟩ := I.fr
  refine PySem.W.len_K hF I.ok.mod.kin J hm.at_ hm.fn ?_
  refine wpAny_mono (wpAny_call (SlX.run_at (us := [.ref a]) (ws := [.ref a]) (FnOk.raw F hb .nil) hr.in1 I.env0.in1 hx I (.cons rfl .nil) q)) (fun w s' z => ?_) fun _ _ x => x
  obtain ⟨z', H', I', rz, i, ei, h0, h1, qz⟩ := z
  subst ei
  obtain ⟨t, e⟩ := (show ∃ t, w = Value.int i t from rz)
  cases e
  exact ⟨⟨h0, h1⟩, .int i, H', I'.tok _, ⟨_, rfl⟩, qz⟩
/-- what has no reading -/
def eNo : TE := fun _ _ _ => False
theorem pe_no {X : Cx} {e : Expr} : PE X e eNo := ⟨fun _ _ _ _ _ _ h => False.elim h⟩
theorem bindst1 {fd : FuncData} {p1 pv : Str} (h0 : ∀ a, bindArgs fd ⟨[a], []⟩ = (newTuple [] >>= fun t => pure [(p1, a), (pv, t)])) (h1 : ∀ a r rs, bindArgs fd ⟨a :: r :: rs, []⟩ = (newTuple (r :: rs) >>= fun t => pure [(p1, a), (pv, t)])) : BindsSt fd [p1] pv :=
  StX.bind_star1 (B := fun l => bindArgs fd ⟨l, []⟩) h0 h1
/-! ### sorted -/
/-- sorted(xs): ints -/
def rSrtI (S : Sta) : List V → Hp → VK → Prop := fun vs H Q => ∃ (a : Addr) (ns : List Int), vs = [.ref a] ∧ RdS S H a (.lst (ns.map V.int)) ∧ ∀ (ns' : List Int) (p : Addr), ns'.Perm ns → ns'.Pairwise (· ≤ ·) → H p = none → Q (.ref p) (upd H p (.lst (ns'.map V.int)))
/-- .. or pairs of ints -/
def rSrt (S : Sta) : List V → Hp → VK → Prop := fun vs H Q => rSrtI S vs H Q ∨ ∃ (a : Addr) (xs : List V) (k : V → Int × Int), vs = [.ref a] ∧ RdS S H a (.lst xs) ∧ (∀ x ∈ xs, ∃ t, x = .ref t ∧ H t = some (.tup [.int (k x).1, .int (k x).2])) ∧
  ∀ ys p, SrtO.Srtd (ltP k) ys → SrtO.Stb (ltP k) ys xs → H p = none → Q (.ref p) (upd H p (.lst ys))
theorem c_srt {X : Cx} {S : Sta} (st : S = SK X.K) : CallR X (.builtin "sorted") (rSrt S) := fun pins s σ H xs us Q I r h => by
  rcases h with ⟨a, ns, e, hs, q⟩ | ⟨a, ys, k, e, hs, hp, q⟩
  · exact cr_sortedI pins s σ H xs us Q I r ⟨a, ns, e, sqL st hs, q⟩
  · exact cr_sortedPO pins s σ H xs us Q I r ⟨a, ys, k, e, sqL st hs, hp, q⟩
/-! ### a comprehension with two fors -/
def moG (g : TG) : TG := fun y σ H D => ∃ D0 : L2.St → Hp → Prop, g y σ H D0 ∧ ∀ σ' H', D0 σ' H' → D σ' H'
def moT (t : TT) : TT := fun σ H Q => ∃ Q0 : Bool → Hp → Prop, t σ H Q0 ∧ ∀ b H', Q0 b H' → Q b H'
theorem pg_mo {X : Cx} {tg : Expr} {g : TG} (h : PG X tg g) : PG X tg (moG g) := ⟨fun pins s σ H v u Q I r ⟨D0, q, hq⟩ => thn (h.run pins s σ H v u D0 I r q) fun _ _ ⟨σ', H', I', z⟩ => ⟨σ', H', I', hq σ' H' z⟩⟩
theorem pts_mo {X : Cx} {ifs : List Expr} {t : TT} (h : PTs X ifs t) : PTs X ifs (moT t) := ⟨fun pins s σ H Q I ⟨Q0, q, hq⟩ => thn (h.run pins s σ H Q0 I q) fun _ _ ⟨H', I', z⟩ => ⟨H', I', hq _ H' z⟩⟩
def eLc2 (S : Sta) (te : TE) (g : TG) (tt : TT) (te1 : TE) (g1 : TG) (tt1 : TT) (tel : TE) (vs vs1 : List Nat) : TE := fun σ H Q => te σ H fun x H1 => ∃ a xs, x = .ref a ∧ ∃ k : Bool, RdS S H1 a (if k then .lst xs else .tup xs) ∧ ∀ D, H1 D = none → ∃ Pv : Nat → Hp → Prop, Pv 0 (upd H1 D (.lst [])) ∧
  (∀ i H, i ≤ xs.length → Pv i H → RdS S H a (if k then .lst xs else .tup xs)) ∧
  (∀ i y H, xs[i]? = some y → Pv i H → g y (wipe σ vs) H fun σ2 H2 => wipe σ2 vs = wipe σ vs ∧ tt σ2 H2 fun b H3 => if b = true then
      te1 σ2 H3 fun x1 H4 => ∃ a1 xs1, x1 = .ref a1 ∧ ∃ k1 : Bool, ∃ Pw : Nat → Hp → Prop, Pw 0 H4 ∧ (∀ j H, j ≤ xs1.length → Pw j H → RdS S H a1 (if k1 then .lst xs1 else .tup xs1)) ∧
        (∀ j z H, xs1[j]? = some z → Pw j H → g1 z (wipe σ2 vs1) H fun σ3 H5 => wipe σ3 vs1 = wipe σ2 vs1 ∧ tt1 σ3 H5 fun b H6 => if b = true then tel σ3 H6 fun u H7 => ∃ acc, H7 D = some (.lst acc) ∧ acc.length < sizeLine ∧ Pw (j + 1) (upd H7 D (.lst (acc ++ [u]))) else Pw (j + 1) H6) ∧
        ∀ H, Pw xs1.length H → Pv (i + 1) H
    else Pv (i + 1) H3) ∧
  ∀ H, Pv xs.length H → Q (.ref D) H
theorem lp_list {K : PySem.W.Frag} {a : Addr} {xs : List V} {H0 : Hp} {Qd : Hp → Prop} {B : V → Hp → (Hp → Prop) → Prop} (Pv : Nat → Hp → Prop) (h0 : Pv 0 H0) (hl : ∀ i H, i ≤ xs.length → Pv i H → SqL K H a xs)
    (hs : ∀ i x H, xs[i]? = some x → Pv i H → B x H (Pv (i + 1))) (hd : ∀ H, Pv xs.length H → Qd H) :
    ∃ W : Nat → Nat → Hp → Prop, (∃ m, W 0 m H0) ∧ ∀ i m H, W i m H → ((Itl K a).stop i H ∧ Qd H) ∨ ((Itl K a).go i H ∧ ∃ Nx : Hp → Prop, (∀ H', Nx H' → ∃ m', m' < m ∧ W (i + 1) m' H') ∧ ∀ x H', (Itl K a).yld i H x H' → B x H' Nx) := by
  refine ⟨fun i m H => m = xs.length - i ∧ i ≤ xs.length ∧ Pv i H, ⟨xs.length, by simp, Nat.zero_le _, h0⟩, ?_⟩
  rintro i m H ⟨rfl, hi, p⟩
  have q := hl i H hi p
  by_cases hlt : i < xs.length
  · refine .inr ⟨⟨xs, xs[i], q, by simp [hlt]⟩, Pv (i + 1), fun H' p' => ⟨xs.length - (i + 1), by omega, rfl, hlt, p'⟩, fun x H' y => ?_⟩
    obtain ⟨e, y⟩ := y
    subst e
    exact hs i x _ (y xs q) p
  · have e : i = xs.length := by omega
    subst e
    exact .inl ⟨⟨xs, q, Nat.le_refl _⟩, hd H p⟩
theorem lp_tup {K : PySem.W.Frag} {a : Addr} {xs : List V} {H0 : Hp} {Qd : Hp → Prop} {B : V → Hp → (Hp → Prop) → Prop} (Pv : Nat → Hp → Prop) (h0 : Pv 0 H0) (hl : ∀ i H, i ≤ xs.length → Pv i H → SqT K H a xs)
    (hs : ∀ i x H, xs[i]? = some x → Pv i H → B x H (Pv (i + 1))) (hd : ∀ H, Pv xs.length H → Qd H) :
    ∃ W : Nat → Nat → Hp → Prop, (∃ m, W 0 m H0) ∧ ∀ i m H, W i m H → ((Itt K a).stop i H ∧ Qd H) ∨ ((Itt K a).go i H ∧ ∃ Nx : Hp → Prop, (∀ H', Nx H' → ∃ m', m' < m ∧ W (i + 1) m' H') ∧ ∀ x H', (Itt K a).yld i H x H' → B x H' Nx) := by
  refine ⟨fun i m H => m = xs.length - i ∧ i ≤ xs.length ∧ Pv i H, ⟨xs.length, by simp, Nat.zero_le _, h0⟩, ?_⟩
  rintro i m H ⟨rfl, hi, p⟩
  have q := hl i H hi p
  by_cases hlt : i < xs.length
  · refine .inr ⟨⟨xs, xs[i], q, by simp [hlt]⟩, Pv (i + 1), fun H' p' => ⟨xs.length - (i + 1), by omega, rfl, hlt, p'⟩, fun x H' y => ?_⟩
    obtain ⟨e, y⟩ := y
    subst e
    exact hs i x _ (y xs q) p
  · have e : i = xs.length := by omega
    subst e
    exact .inl ⟨⟨xs, q, Nat.le_refl _⟩, hd H p⟩
theorem lc2_of {K : PySem.W.Frag} {S : Sta} (st : S = SK K) {te te1 tel : TE} {g g1 : TG} {tt tt1 : TT} {vs vs1 : List Nat} {σ : L2.St} {H : Hp} {Q : VK} (q : eLc2 S te g tt te1 g1 tt1 tel vs vs1 σ H Q) :
    tLc2 (iSeq K (mo te)) (moG g) (moT tt) (iSeq K (mo te1)) g1 tt1 tel vs vs1 σ H Q := ⟨_, q, fun x H1 ⟨a, xs, e, k, rd, q⟩ => by
    have inner : ∀ {D : Addr} {Nx : Hp → Prop} {σ2 : L2.St} {H3 : Hp}, (te1 σ2 H3 fun x1 H4 => ∃ a1 xs1, x1 = .ref a1 ∧ ∃ k1 : Bool, ∃ Pw : Nat → Hp → Prop, Pw 0 H4 ∧ (∀ j H, j ≤ xs1.length → Pw j H → RdS S H a1 (if k1 then .lst xs1 else .tup xs1)) ∧
        (∀ j z H, xs1[j]? = some z → Pw j H → g1 z (wipe σ2 vs1) H fun σ3 H5 => wipe σ3 vs1 = wipe σ2 vs1 ∧ tt1 σ3 H5 fun b H6 => if b = true then tel σ3 H6 fun u H7 => ∃ acc, H7 D = some (.lst acc) ∧ acc.length < sizeLine ∧ Pw (j + 1) (upd H7 D (.lst (acc ++ [u]))) else Pw (j + 1) H6) ∧
        ∀ H, Pw xs1.length H → Nx H) → iSeq K (mo te1) σ2 H3 fun J1 H4 => ∃ W1 : Nat → Nat → Hp → Prop, (∃ m, W1 0 m H4) ∧ ∀ j k H, W1 j k H →
      (J1.stop j H ∧ Nx H) ∨ (J1.go j H ∧ ∃ Nx1 : Hp → Prop, (∀ H', Nx1 H' → ∃ k', k' < k ∧ W1 (j + 1) k' H') ∧ ∀ x H', J1.yld j H x H' → g1 x (wipe σ2 vs1) H' fun σ3 H5 => wipe σ3 vs1 = wipe σ2 vs1 ∧ tt1 σ3 H5 fun b H6 =>
        if b = true then tel σ3 H6 fun y H7 => ∃ acc, H7 D = some (.lst acc) ∧ acc.length < sizeLine ∧ Nx1 (upd H7 D (.lst (acc ++ [y]))) else Nx1 H6) := fun {D Nx σ2 H3} q => ⟨_, q, fun x1 H4 ⟨a1, xs1, e1, k1, Pw, h0', hl', hs', hd'⟩ => by
      refine ⟨a1, e1, ?_⟩
      cases k1 with
      | true => exact .inl ⟨⟨xs1, sqL st (hl' 0 H4 (Nat.zero_le _) h0')⟩, lp_list Pw h0' (fun i H hi p => sqL st (hl' i H hi p)) hs' hd'⟩
      | false => exact .inr ⟨⟨xs1, sqT st (hl' 0 H4 (Nat.zero_le _) h0')⟩, lp_tup Pw h0' (fun i H hi p => sqT st (hl' i H hi p)) hs' hd'⟩⟩
    refine ⟨a, e, ?_⟩
    cases k with
    | true =>
      refine .inl ⟨⟨xs, sqL st rd⟩, fun D hD => ?_⟩
      obtain ⟨Pv, h0, hl, ht, hd⟩ := q D hD
      refine lp_list Pv h0 (fun i H hi p => sqL st (hl i H hi p)) (fun i y H ey p => ⟨_, ht i y H ey p, fun σ2 H2 ⟨ew, q2⟩ => ⟨ew, _, q2, fun b H3 q3 => ?_⟩⟩) hd
      cases b with
      | false => exact q3
      | true => exact inner q3
    | false =>
      refine .inr ⟨⟨xs, sqT st rd⟩, fun D hD => ?_⟩
      obtain ⟨Pv, h0, hl, ht, hd⟩ := q D hD
      refine lp_tup Pv h0 (fun i H hi p => sqT st (hl i H hi p)) (fun i y H ey p => ⟨_, ht i y H ey p, fun σ2 H2 ⟨ew, q2⟩ => ⟨ew, _, q2, fun b H3 q3 => ?_⟩⟩) hd
      cases b with
      | false => exact q3
      | true => exact inner q3⟩
/-- what the block of a comprehension with two fors asks -/
structure Blk2 (X : Cx) (scope : Scope) (tg tg1 iter1 elt : Expr) (ifs ifs1 : List Expr) (g g1 : TG) (tt tt1 : TT) (te1 tel : TE) : Prop where
  hg : ∀ (s : Shared) (H : Hp) (C : Addr) (cl : List (Str × Addr)) (fp : List Addr), PG (X.blk s H scope (compEnvC scope cl C X.env) fp) tg g
  ht : ∀ (s : Shared) (H : Hp) (C : Addr) (cl : List (Str × Addr)) (fp : List Addr), PTs (X.blk s H scope (compEnvC scope cl C X.env) fp) ifs tt
  hi1 : ∀ (s : Shared) (H : Hp) (C : Addr) (cl : List (Str × Addr)) (fp : List Addr), PE (X.blk s H scope (compEnvC scope cl C X.env) fp) iter1 te1
  hg1 : ∀ (s : Shared) (H : Hp) (C : Addr) (cl : List (Str × Addr)) (fp : List Addr), PG (X.blk s H scope (compEnvC scope cl C X.env) fp) tg1 g1
  ht1 : ∀ (s : Shared) (H : Hp) (C : Addr) (cl : List (Str × Addr)) (fp : List Addr), PTs (X.blk s H scope (compEnvC scope cl C X.env) fp) ifs1 tt1
  he : ∀ (s : Shared) (H : Hp) (C : Addr) (cl : List (Str × Addr)) (fp : List Addr), PE (X.blk s H scope (compEnvC scope cl C X.env) fp) elt tel
section
variable {X : Cx} {S : Sta} {elt tg l tg1 iter1 : Expr} {ifs ifs1 : List Expr} {scope : Scope} {own : List (Str × Nat)} {vs1 : List Nat} {pos py spos : Pos} {g g1 : TG} {tt tt1 : TT} {te te1 tel : TE} {i : Nat} {y : Str}
theorem pe_lc2Seq (st : S = SK X.K) (hc : X.calm = true) (hN : X.N.Nodup) (hl : PE X l te) (ok : BlkOk X.N X.env.scope scope own) (hv : ∀ i ∈ vs1, i ∈ own.map (·.2)) (B : Blk2 X scope tg tg1 iter1 elt ifs ifs1 g g1 tt tt1 te1 tel) (hs : ∀ x, foldedSetIterable l X.env x = pure x := by intro _; rfl) (hs1 : ∀ env x, foldedSetIterable iter1 env x = pure x := by intro _ _; rfl) :
    PE X (.ListComp elt [⟨tg, l, ifs, 0⟩, ⟨tg1, iter1, ifs1, 0⟩] scope pos) (eLc2 S te g tt te1 g1 tt1 tel (own.map (·.2)) vs1) :=
  pe_imp (pe_lc2 hc hN (pi_seq (pe_mo hl)) ok hv (fun s H C cl fp => pg_mo (B.hg s H C cl fp)) (fun s H C cl fp => pts_mo (B.ht s H C cl fp)) (fun s H C cl fp => pi_seq (pe_mo (B.hi1 s H C cl fp))) B.hg1 B.ht1 B.he hs hs1) fun _ _ _ q => lc2_of st q
theorem ps_lc2Seq (st : S = SK X.K) (hc : X.calm = true) (hN : X.N.Nodup) (hy : X.N[i]? = some y) (hyl : X.env.scope.names.lookup y = some .local)
    (hsw : swapsWith (.ListComp elt [⟨tg, l, ifs, 0⟩, ⟨tg1, iter1, ifs1, 0⟩] scope pos) (some (.Name y py)) spos.line X.env = pure true) (hl : PE X l te) (ok : BlkOk X.N X.env.scope scope own) (hv : ∀ i ∈ vs1, i ∈ own.map (·.2)) (B : Blk2 X scope tg tg1 iter1 elt ifs ifs1 g g1 tt tt1 te1 tel)
    (hs : ∀ x, foldedSetIterable l X.env x = pure x := by intro _; rfl) (hs1 : ∀ env x, foldedSetIterable iter1 env x = pure x := by intro _ _; rfl) :
    PS X (.Assign [.Name y py] (.ListComp elt [⟨tg, l, ifs, 0⟩, ⟨tg1, iter1, ifs1, 0⟩] scope pos) spos) (tAsg (eLc2 S te g tt te1 g1 tt1 tel (own.map (·.2)) vs1) (gName i)) :=
  ps_imp (ps_setLc2 hc hN hy hyl hsw (pi_seq (pe_mo hl)) ok hv (fun s H C cl fp => pg_mo (B.hg s H C cl fp)) (fun s H C cl fp => pts_mo (B.ht s H C cl fp)) (fun s H C cl fp => pi_seq (pe_mo (B.hi1 s H C cl fp))) B.hg1 B.ht1 B.he hs hs1) fun _ _ _ q => lc2_of st q
end
/-! ### the truth of a list or a tuple -/
def tTru (S : Sta) (te : TE) : TT := fun σ H Q => te σ H fun x H' => ∃ (a : Addr) (xs : List V), x = .ref a ∧ Seq S H' a xs ∧ Q (!xs.isEmpty) H'
theorem tru_seq {X : Cx} {S : Sta} (st : S = SK X.K) : TruR X (fun x H Q => ∃ (a : Addr) (xs : List V), x = .ref a ∧ Seq S H a xs ∧ Q (!xs.isEmpty) H) := fun pins s σ H x v Q I rx ⟨a, xs, ex, hs, q⟩ =>
  tru_ok pins s σ H x v Q I rx ⟨!xs.isEmpty, by subst ex; exact hs.elim (fun h => .inl ⟨xs, sqL st h, rfl⟩) fun h => .inr (.inl ⟨xs, sqT st h, rfl⟩), q⟩
theorem pt_tru {X : Cx} {S : Sta} {e : Expr} {te : TE} (st : S = SK X.K) (he : PE X e te) (hi : ∀ whole, isTrue e X.env whole = (do let v ← whole; standAt e.pos; holding [v] (truthy v)) := by intro _; rfl) : PT X e (tTru S te) := pt_truthR he (tru_seq st) hi
end Y

/-! == of an instance with an own __eq__ and a value of another kind, on either side. -/
namespace Y
open PySem PySem.Spec PyProof.Rows L2
open AutoSeq1 (wpAny_loadPart')
open MeetsSeq
section
variable {prog : Program} {w : World} {A : Around} {E : Value → Shared → Prop} {s : Shared} {K : PySem.W.Frag} {x C f : Addr} {ox : Obj} {od : Option Obj}
theorem rc_refl_own {a : Value} {Ta ida : String} {Q : Value → Shared → Prop} (hu : A.units < cLine) (X : K.In s.heap) (I : PySem.W.InstAt s.heap x ox C od) (ha : s.TypeIs a Ta) (hsub : PySem.W.subIn K (.ref C) (.type Ta) = some false) (h1 : Slot Ta (cmpInfo .Eq).2.1 ida)
    (hc1 : ∀ Q' : Value → Shared → Prop, Q' .notImplemented s → wpAny (model prog w) A (call (.builtin ida) [a, .ref x]) Q' E s)
    (hs : PySem.W.findIn K (.ref C) "__eq__" = some (some (.ref f))) (hf : PySem.W.isFn K (.ref f) = true)
    (h : wpAny (model prog w) A (call (.ref f) [.ref x, a]) (PySem.W.CmpBack Q) E s) : wpAny (model prog w) A (richCompare .Eq a (.ref x)) Q E s := by
  have two : wpAny (model prog w) A (tryCompare (.ref x) "__eq__" a) (fun r s' => ∃ v, r = some v ∧ Q v s') E s := by
    unfold tryCompare
    refine wpAny_bind (PySem.W.ifBound_K X I hs hf (wpAny_mono h (fun v s' hv => ?_) fun _ _ e => e))
    cases v <;> first | exact hv.elim | exact wpAny_pure ⟨_, rfl, hv⟩
  have h1 : Slot Ta "__eq__" ida := h1
  simp only [richCompare, cmpInfo_Eq, ha.oneThing_none]
  refine wpAny_holding (wpAny_bind (wpAny_cRoomFor_or (.inr hu) ?_))
  refine wpAny_bind (wpAny_typeOf ha (wpAny_bind (I.type.here ?_)))
  have ne : (Value.type Ta != Value.ref C) = true := by simp
  have ne2 : (Value.ref C != Value.type Ta) = true := by simp
  simp only [ne, ne2, if_true]
  refine wpAny_bind ((PySem.W.looks_subIn X hsub).here ?_)
  simp only [Bool.false_eq_true, if_false, Bool.not_false, if_true]
  refine wpAny_bind (m := tryCompare a _ (.ref x)) (wpAny_tryCompare_declines ha h1 (hc1 _ ⟨rfl, ?_⟩))
  refine wpAny_bind (m := tryCompare (.ref x) _ a) (wpAny_mono two (fun r s' z => ?_) fun _ _ e => e)
  obtain ⟨v, rfl, hq⟩ := z
  exact wpAny_pure hq
end
theorem int_eq_inst (b : Int) (u : Tok) (l C dx : Addr) :
    Meets (Builtin.«int.__eq__» ⟨[.int b u, .ref l], []⟩) (fun _ R s => s.heap.get? l = some (PySem.W.instObj C dx) ∧ R (.ok (.ret .notImplemented)) s) :=
  .of_wp fun prog w A R s h => by obtain ⟨hp, g, d, tk, os⟩ := s; obtain ⟨hl, h⟩ := h; unfold PySem.W.instObj at hl; wp_walk using wpAny_loadPart' hl, wpAny_load hl; exact ⟨_, rfl, h⟩
theorem bool_eq_inst (b : Bool) (l C dx : Addr) :
    Meets (Builtin.«int.__eq__» ⟨[.bool b, .ref l], []⟩) (fun _ R s => s.heap.get? l = some (PySem.W.instObj C dx) ∧ R (.ok (.ret .notImplemented)) s) :=
  .of_wp fun prog w A R s h => by obtain ⟨hp, g, d, tk, os⟩ := s; obtain ⟨hl, h⟩ := h; unfold PySem.W.instObj at hl; wp_walk using wpAny_loadPart' hl, wpAny_load hl; exact ⟨_, rfl, h⟩
theorem str_eq_inst (b : Str) (u : Tok) (l C dx : Addr) :
    Meets (Builtin.«str.__eq__» ⟨[.str b u, .ref l], []⟩) (fun _ R s => s.heap.get? l = some (PySem.W.instObj C dx) ∧ R (.ok (.ret .notImplemented)) s) :=
  .of_wp fun prog w A R s h => by obtain ⟨hp, g, d, tk, os⟩ := s; obtain ⟨hl, h⟩ := h; unfold PySem.W.instObj at hl; wp_walk using wpAny_loadPart' hl, wpAny_load hl; exact ⟨_, rfl, h⟩
section
variable {M : Model} {A : Around} {E : Value → Shared → Prop} {s : Shared}
theorem list_eq_inst {l x : Addr} {o : Obj} {Q : Fin → Shared → Prop} (hl : s.heap.get? l = some o) (hi : ∀ (Q' : Bool → Shared → Prop), Q' false s → wpAny M A (isInstance (.ref x) (.type "list")) Q' E s)
    (h : Q (.done (.ret .notImplemented)) s) : wpAny M A (Builtin.«list.__eq__» ⟨[.ref l, .ref x], []⟩) Q E s := by
  obtain ⟨hp, g, d, tk, os⟩ := s
  wp_walk using wpAny_loadPart' hl, wpAny_load hl, hi
  exact h
theorem tup_eq_inst {l x : Addr} {o : Obj} {Q : Fin → Shared → Prop} (hl : s.heap.get? l = some o) (hi : ∀ (Q' : Bool → Shared → Prop), Q' false s → wpAny M A (isInstance (.ref x) (.type "tuple")) Q' E s)
    (h : Q (.done (.ret .notImplemented)) s) : wpAny M A (Builtin.«tuple.__eq__» ⟨[.ref l, .ref x], []⟩) Q E s := by
  obtain ⟨hp, g, d, tk, os⟩ := s
  wp_walk using wpAny_loadPart' hl, wpAny_load hl, hi
  exact h
end
/-- none of the kinds of other values is above the class -/
def NoSub (K : PySem.W.Frag) (C : Addr) : Prop := PySem.W.subIn K (.ref C) (.type "NoneType") = some false ∧ PySem.W.subIn K (.ref C) (.type "bool") = some false ∧ PySem.W.subIn K (.ref C) (.type "int") = some false ∧ PySem.W.subIn K (.ref C) (.type "str") = some false ∧ PySem.W.subIn K (.ref C) (.type "tuple") = some false ∧ PySem.W.subIn K (.ref C) (.type "list") = some false
/-- a value of another kind -/
def Oth (S : Sta) (H : Hp) : V → Prop
  | .non => True
  | .bl _ => True
  | .int _ => True
  | .str _ => True
  | .ref a => ∃ xs, Seq S H a xs
  | _ => False
def kB (Q : VK) : VK := fun v H => ∃ c, v = .bl c ∧ Q (.bl c) H
def rEqMix (S : Sta) (C : Addr) (sp : Sp) (E : XK) : R2 := fun x y H Q =>
  (∃ a dx fs, x = .ref a ∧ H a = some (.ins C dx fs) ∧ Oth S H y ∧ sp [x, y] H (kB Q) E) ∨ (∃ a dx fs, y = .ref a ∧ H a = some (.ins C dx fs) ∧ Oth S H x ∧ sp [y, x] H (kB Q) E)
theorem sub_ty {K : PySem.W.Frag} {C : Addr} {T : String} {l : List String} (e : fastBuiltinMro T = some (l.map Value.type)) : PySem.W.notFirst K C (.type T) = true := by
  show (Value.type T == Value.ref C || ((fastBuiltinMro T).map (·.contains (.ref C)) == some false)) = true
  have h : (l.map Value.type).contains (.ref C) = false := by
    rw [List.contains_eq_mem]
    exact decide_eq_false fun m => by
      obtain ⟨x, _, e⟩ := List.mem_map.mp m
      cases e
  rw [e]
  show (_ || (some ((l.map Value.type).contains (.ref C)) == some false)) = true
  rw [h]
  simp
theorem o_eqMix {X : Cx} {CX : CXT} {S : Sta} (st : S = SK X.K) {C f : Addr} {fd : FuncData} {ps : List Str} {sp : Sp} {E : XK} {k : Nat} (Fk : FnOk X.prog X.w X.K X.mg X.base CX k f fd ps sp) (ns : NoSub X.K C) (hm : Meth X.K C "__eq__" f) (hr : Room k X.A) (hb : Binds X.K fd ps []) (hx : Passes CX X E) : OpR X (compareOp .Eq) (rEqMix S C sp E) := fun pins s σ H x y u v Q I rx ry h => by
  show wpAny (model X.prog X.w) X.A (richCompare .Eq u v) (EP X pins σ Q) X.xe s
  obtain ⟨m, hF⟩ := I.fr
  have run : ∀ (a : Addr) (z : V) (w : Value), RelV z w → sp [.ref a, z] H (kB Q) E → wpAny (model X.prog X.w) X.A (call (.ref f) [.ref a, w]) (PySem.W.CmpBack (EP X pins σ Q)) X.xe s := fun a z w rz h => by
    refine thn (run_fn (us := [.ref a, w]) (vs := [.ref a, z]) (dvs := []) (ds := []) Fk hr hb .nil hx I (.cons rfl (.cons rz .nil)) h) fun w' s' q => ?_
    obtain ⟨z', H', I', rz', c, ez, q⟩ := q
    subst ez
    cases rz'
    exact ⟨.bl c, H', I', rfl, q⟩
  rcases h with ⟨a, dx, fs, rfl, ha, ho, h⟩ | ⟨a, dx, fs, rfl, ha, ho, h⟩
  · cases rx
    obtain ⟨mA, J, _⟩ := ins_get I.hok ha
    obtain ⟨od, J, _⟩ := J.look
    have g := run a y v ry h
    have fin : ∀ {T : String} {l : List String}, s.TypeIs v T → fastBuiltinMro T = some (l.map Value.type) → wpAny (model X.prog X.w) X.A (richCompare .Eq (.ref a) v) (EP X pins σ Q) X.xe s := fun {T l} hT e =>
      PySem.W.cmp_K (op := .Eq) (tb := .type T) hr.units0 hF I.ok.mod.kin J (fun A Q E s' k q => wpAny_typeOf (by
        cases v with
        | ref b =>
          obtain ⟨o, h1, h2⟩ := hT
          exact ⟨o, k _ _ h1, h2⟩
        | _ => exact hT) q) (sub_ty e) hm.at_ hm.fn g
    cases y with
    | non => obtain rfl : v = .none := ry; exact fin (T := "NoneType") (l := ["NoneType", "object"]) rfl (by decide +kernel)
    | bl b => obtain rfl : v = .bool b := ry; exact fin (T := "bool") (l := ["bool", "int", "object"]) rfl (by decide +kernel)
    | int i => obtain ⟨t, rfl⟩ := (show ∃ t, v = Value.int i t from ry); exact fin (T := "int") (l := ["int", "object"]) (typeIs_int s i t) (by decide +kernel)
    | str z => obtain ⟨t, rfl⟩ := (show ∃ t, v = Value.str z t from ry); exact fin (T := "str") (l := ["str", "object"]) (typeIs_str s z t) (by decide +kernel)
    | ref b =>
      obtain rfl : v = .ref b := ry
      obtain ⟨xs, hq⟩ := ho
      rcases hq with hq | hq
      · obtain ⟨its, _, ⟨o, n, e, hc, _⟩, _⟩ := I.list (sqL st hq)
        exact fin (T := "list") (l := ["list", "object"]) ⟨o, e, hc⟩ (by decide +kernel)
      · obtain ⟨its, _, ⟨o, e, hc, _⟩, _⟩ := I.tuple (sqT st hq)
        exact fin (T := "tuple") (l := ["tuple", "object"]) ⟨o, e, hc⟩ (by decide +kernel)
    | _ => exact ho.elim
  · cases ry
    obtain ⟨mA, J, _⟩ := ins_get I.hok ha
    have hobj := J.obj
    obtain ⟨od, J, _⟩ := J.look
    have g := run a x u rx h
    have Xk := I.kIn
    obtain ⟨n1, n2, n3, n4, n5, n6⟩ := ns
    have isl : PySem.W.Looks (model X.prog X.w) s.heap (isInstance (.ref a) (.type "list")) false := J.type.andThen (PySem.W.looks_subIn Xk n6)
    have ist : PySem.W.Looks (model X.prog X.w) s.heap (isInstance (.ref a) (.type "tuple")) false := J.type.andThen (PySem.W.looks_subIn Xk n5)
    cases x with
    | non =>
      obtain rfl : u = .none := rx
      exact rc_refl_own hr.units0 Xk J (show s.TypeIs .none "NoneType" from rfl) n1 F.slot_NoneType_eq (fun _ hq => call_gives F.slot_NoneType_eq rfl F.entry_NoneType_eq (F.args_NoneType_eq_2 _ _) (SeqAt.NoneType___eq___none_ref_0 a) hq) hm.at_ hm.fn g
    | bl b =>
      obtain rfl : u = .bool b := rx
      exact rc_refl_own hr.units0 Xk J (show s.TypeIs (.bool b) "bool" from rfl) n2 F.slot_bool_eq (fun _ hq => call_meets F.slot_bool_eq rfl F.entry_int_eq (F.args_int_eq_2 _ _) (bool_eq_inst b a C dx) ⟨hobj, hq⟩) hm.at_ hm.fn g
    | int i =>
      obtain ⟨t, rfl⟩ := (show ∃ t, u = Value.int i t from rx)
      exact rc_refl_own hr.units0 Xk J (typeIs_int s i t) n3 F.slot_int_eq (fun _ hq => call_meets F.slot_int_eq (typeIs_int s i t) F.entry_int_eq (F.args_int_eq_2 _ _) (int_eq_inst i t a C dx) ⟨hobj, hq⟩) hm.at_ hm.fn g
    | str z =>
      obtain ⟨t, rfl⟩ := (show ∃ t, u = Value.str z t from rx)
      exact rc_refl_own hr.units0 Xk J (typeIs_str s z t) n4 F.slot_str_eq (fun _ hq => call_meets F.slot_str_eq (typeIs_str s z t) F.entry_str_eq (F.args_str_eq_2 _ _) (str_eq_inst z t a C dx) ⟨hobj, hq⟩) hm.at_ hm.fn g
    | ref b =>
      obtain rfl : u = .ref b := rx
      obtain ⟨xs, hq⟩ := ho
      rcases hq with hq | hq
      · obtain ⟨its, _, ⟨o, n, e, hc, _⟩, _⟩ := I.list (sqL st hq)
        exact rc_refl_own hr.units0 Xk J (show s.TypeIs (.ref b) "list" from ⟨o, e, hc⟩) n6 F.slot_list_eq (fun _ hq => wpAny_call_entry F.slot_list_eq ⟨o, e, hc⟩ F.entry_list_eq (list_eq_inst e (fun _ q => isl.here q) ⟨_, rfl, hq⟩) (F.args_list_eq_2 _ _)) hm.at_ hm.fn g
      · obtain ⟨its, _, ⟨o, e, hc, _⟩, _⟩ := I.tuple (sqT st hq)
        exact rc_refl_own hr.units0 Xk J (show s.TypeIs (.ref b) "tuple" from ⟨o, e, hc⟩) n5 F.slot_tuple_eq (fun _ hq => wpAny_call_entry F.slot_tuple_eq ⟨o, e, hc⟩ F.entry_tuple_eq (tup_eq_inst e (fun _ q => ist.here q) ⟨_, rfl, hq⟩) (F.args_tuple_eq_2 _ _)) hm.at_ hm.fn g
    | _ => exact ho.elim
/-! ### isinstance(x, C), C a class of the text, x an instance or a value of another kind -/
theorem kit_all {K : PySem.W.Frag} {C : Addr} {T : String} {l : List String} (kn : PySem.W.kitOne K (.type "NoneType") (.ref C) = some false) (e : fastBuiltinMro T = some (l.map Value.type)) : PySem.W.kitOne K (.type T) (.ref C) = some false := by
  unfold PySem.W.kitOne at kn ⊢
  rw [if_neg (by simp)] at kn ⊢
  unfold PySem.W.kitCls at kn ⊢
  dsimp only at kn ⊢
  split at kn
  · rename_i hc
    rw [if_pos hc]
    show (fastBuiltinMro T).map (·.contains (.ref C)) = some false
    have h : (l.map Value.type).contains (.ref C) = false := by
      rw [List.contains_eq_mem]
      exact decide_eq_false fun m => by
        obtain ⟨x, _, e⟩ := List.mem_map.mp m
        cases e
    rw [e, Option.map_some, h]
  · cases kn
theorem oth_ty {K : PySem.W.Frag} {S : Sta} (st : S = SK K) {H : Hp} {C : Addr} (kn : PySem.W.kitOne K (.type "NoneType") (.ref C) = some false) {v : V} (h : Oth S H v) : ∃ t, TyX K H v t ∧ PySem.W.kitOne K t (.ref C) = some false := by
  cases v with
  | non => exact ⟨_, .base .non, kn⟩
  | bl b => exact ⟨_, .base (.bl b), kit_all (l := ["bool", "int", "object"]) kn (by decide +kernel)⟩
  | int i => exact ⟨_, .base (.int i), kit_all (l := ["int", "object"]) kn (by decide +kernel)⟩
  | str z => exact ⟨_, .base (.str z), kit_all (l := ["str", "object"]) kn (by decide +kernel)⟩
  | ref a =>
    obtain ⟨xs, hq⟩ := h
    have kl : PySem.W.kitOne K (.type "list") (.ref C) = some false := kit_all (l := ["list", "object"]) kn (by decide +kernel)
    have kt : PySem.W.kitOne K (.type "tuple") (.ref C) = some false := kit_all (l := ["tuple", "object"]) kn (by decide +kernel)
    subst st
    rcases hq with ((h | ⟨o, h⟩) | ⟨o, its, n, hk, hc, _⟩) | ((h | ⟨o, h⟩) | ⟨o, its, n, hk, hc, _⟩)
    · exact ⟨_, .base (.lst h), kl⟩
    · exact ⟨_, .base (.frz h), kl⟩
    · exact ⟨_, .kList hk hc, kl⟩
    · exact ⟨_, .base (.tup h), kt⟩
    · exact ⟨_, .fTuple h, kt⟩
    · exact ⟨_, .kTuple hk hc, kt⟩
  | _ => exact h.elim
def rIsOM (S : Sta) (D : Addr) (tbl : List (Addr × Bool)) : List V → Hp → VK → Prop := fun xs H Q => rIsO D tbl xs H Q ∨ ∃ v, xs = [v, .ref D] ∧ Oth S H v ∧ Q (.bl false) H
theorem c_isOM {X : Cx} {S : Sta} (st : S = SK X.K) {D : Addr} {tbl : List (Addr × Bool)} (T : ∀ p ∈ tbl, IsOb X.K D p) (kn : PySem.W.kitOne X.K (.type "NoneType") (.ref D) = some false) : CallR X (.builtin "isinstance") (rIsOM S D tbl) := fun pins s σ H xs us Q I r h => by
  rcases h with h | ⟨v, e, ho, q⟩
  · exact c_isO T pins s σ H xs us Q I r h
  · obtain ⟨t, ty, k⟩ := oth_ty st kn ho
    exact call_isi pins s σ H xs us Q I r ⟨v, .ref D, t, .ref D, false, e, .own D, ty, k, q⟩
end Y

/-! A generator def of the form «for y in e: yield y»: list(o.m(..)) and [x for x in o.m(..)]. The consumer has a list (S) and more objects of its own (W). -/
namespace Y
open PySem PySem.Spec PyProof.Rows L2 GenW
/-- asleep: the consumer puts v behind the list at S and may write at W -/
structure SlW (S : Addr) (W : List Addr) (v : Value) (s s' : Shared) : Prop where
  os : s'.os = s.os
  bare : AllBare s'.gens
  keep : ∀ b o, b ≠ S → b ∉ W → s.heap.get? b = some o → s'.heap.get? b = some o
  own : ∀ acc c, s.heap.get? S = some (lstObj acc c) → ∃ c', s'.heap.get? S = some (lstObj (acc.push v) c')
  there : ∀ b ∈ W, ∃ o, s'.heap.get? b = some o ∧ ∀ v, o.data ≠ .cell v
/-- awake: ys is out; what stands at W is what stood there at s0, the last waking -/
def GW (X : Cx) (S : Addr) (W : List Addr) (s0 : Shared) (ip : List (Addr × Obj)) (ys : List V) (σ : L2.St) (H : Hp) (s : Shared) : Prop :=
  (∀ b ∈ W, ∃ o, s0.heap.get? b = some o) ∧ ∃ (acc : Array Value) (c : Nat), Vals ys acc.toList ∧ Inv X (((S, lstObj acc c) :: pinsAt W s0.heap) ++ ip) σ H s
structure AptW (X : Cx) (S : Addr) (W : List Addr) : Prop where
  s : Apart X S
  w : ∀ b ∈ W, Apart X b ∧ b ≠ S
  pn : ∀ p ∈ X.pn, p.1 ≠ S ∧ p.1 ∉ W
section
variable {X : Cx} {S : Addr} {W : List Addr} {ip : List (Addr × Obj)} {ys : List V} {σ : L2.St} {H : Hp} {s s' s0 : Shared}
theorem GW.woken {x : V} {v : Value} (hA : AptW X S W) (hip : ∀ p ∈ ip, p.1 ≠ S ∧ p.1 ∉ W) (h : GW X S W s0 ip ys σ H s) (rv : RelV x v) (z : SlW S W v s s') : GW X S W s' ip (ys ++ [x]) σ H s' := by
  obtain ⟨h0, acc, c, r, I⟩ := h
  obtain ⟨eS, hS0, hSL, hSf, _⟩ := I.pin (S, lstObj acc c) (List.mem_append_right _ (List.mem_append_left _ List.mem_cons_self))
  have hW : ∀ b ∈ W, H b = none ∧ b ≠ X.env.locals ∧ b ∉ X.fs := fun b hb => by
    obtain ⟨o, e⟩ := h0 b hb
    obtain ⟨_, q1, q2, q3, _⟩ := I.pin (b, o) (List.mem_append_right _ (List.mem_append_left _ (List.mem_cons_of_mem _ (mem_pinsAt hb e))))
    exact ⟨q1, q2, q3⟩
  have I0 : Inv X ip σ H s := I.pins_of fun p hp => I.pin p (List.mem_append_right _ (List.mem_append_right _ hp))
  obtain ⟨z1, z2, z3, z4, z5⟩ := z
  obtain ⟨c', eS'⟩ := z4 acc c eS
  have nS : ∀ b u, H b = some u → b ≠ S := fun b u q e => by rw [e, hS0] at q; cases q
  have nW : ∀ b u, H b = some u → b ∉ W := fun b u q e => by rw [(hW b e).1] at q; cases q
  obtain ⟨hh, g, d, t, o⟩ := s'
  have ho : o = s.os := z1
  subst ho
  have kp : ∀ b ob, b ∉ S :: W → s.heap.get? b = some ob → hh.get? b = some ob := fun b ob hb q => z3 b ob (fun e => hb (by rw [e]; exact List.mem_cons_self)) (fun e => hb (List.mem_cons_of_mem _ e)) q
  have J : Inv X ip σ H { s with heap := hh, gens := g, drawn := d, toks := t } := by
    refine I0.step (g' := g) (t' := t) (d' := d) (ch := S :: W) (fun b hb => ?_)
      (fun b ob _ _ hc q _ => kp b ob hc q) (fun b ob _ _ hc q _ => ⟨ob.slots, kp b ob hc q⟩) (fun _ _ _ _ n => n) (fun b ob hc q => ⟨ob, kp b ob hc q⟩)
      (fun _ _ q => q) (fun _ _ _ q => q) (fun b ps q => ⟨#[], by rw [q]; simp⟩) (fun m hm => ?_) (fun b u q => ?_) z2
    · rcases List.mem_cons.mp hb with e | hb
      · rw [e]
        refine ⟨.inr hA.s.1, hA.s.2.1, hA.s.2.2, fun p hp => ?_⟩
        rcases List.mem_append.mp hp with hp | hp
        · exact (hA.pn p hp).1
        · exact (hip p hp).1
      · obtain ⟨⟨w1, w2, w3⟩, w4⟩ := hA.w b hb
        refine ⟨.inr w1, w2, w3, fun p hp e => ?_⟩
        rcases List.mem_append.mp hp with hp | hp
        · exact (hA.pn p hp).2 (e ▸ hb)
        · exact (hip p hp).2 (e ▸ hb)
    · obtain ⟨ob, es, ep, ho, r⟩ := hm
      exact ⟨ob, es, ep, z3 _ ob (Ne.symm hSL) (fun e => (hW _ e).2.1 rfl) ho, r⟩
    · refine (I0.hok b u q).stay (fun c v hc y => z3 c v ?_ ?_ y) (fun _ y => y) fun _ _ y => y
      · rcases hc with y | y
        · rw [y]; exact nS b u q
        · exact nS c _ y
      · rcases hc with y | y
        · rw [y]; exact nW b u q
        · exact nW c _ y
  refine ⟨fun b hb => (z5 b hb).imp fun o q => q.1, acc.push v, c', ?_, J.pins_of fun p hp => ?_⟩
  · rw [Array.toList_push]
    exact r.append (.cons rv .nil)
  · rcases List.mem_append.mp hp with hp | hp
    · rcases List.mem_cons.mp hp with hp | hp
      · rw [hp]
        exact ⟨eS', hS0, hSL, hSf, fun v q => by cases q⟩
      · obtain ⟨hb, e⟩ := of_pinsAt hp
        obtain ⟨q1, q2, q3⟩ := hW p.1 hb
        obtain ⟨o', e', nc⟩ := z5 p.1 hb
        have : o' = p.2 := Option.some.inj (e'.symm.trans e)
        exact ⟨e, q1, q2, q3, this ▸ nc⟩
    · exact J.pin p (List.mem_append_right _ hp)
def GYW (X : Cx) (S : Addr) (W : List Addr) : Protocol := fun n s0 v s kap =>
  ∃ ys x ip σ H, n + 1 + ys.length = sizeLine ∧ RelV x v ∧ GW X S W s0 ip ys σ H s ∧ ∀ s', SlW S W v s s' → kap (.send .none) s'
def GRW (X : Cx) (S : Addr) (W : List Addr) (Q : List V → Hp → Prop) (F : Value → Shared → Prop) : GenEnd := fun n s0 r s => match r with
  | .ok (.ret u) => ∃ ys ip σ H, u = .none ∧ n + ys.length = sizeLine ∧ GW X S W s0 ip ys σ H s ∧ Q ys H
  | .ok _ => False
  | .error e => F e s
/-! ### for, of a generator -/
theorem ld_var {A : Around} {pins : List (Addr × Obj)} {i : Nat} {x : Str} {v : V} {pos : Pos} {E : Value → Shared → Prop} {Q : Value → Shared → Prop} (I : Inv X pins σ H s) (hN : X.N[i]? = some x) (hv : Vis X.env.scope x) (e : σ[i]? = some (some v)) (h : ∀ u, RelV v u → Q u s)
    (hd : (x == ("__debug__" : Str)) = false) (hcd : (x == ("__classdict__" : Str)) = false) : wpAny (model X.prog X.w) A (eval (.Name x pos) X.env) Q E s := by
  obtain ⟨m, hn, hl⟩ := I.loc
  obtain ⟨u, r, l⟩ := hl i x v hN e hv
  rcases l with ⟨hk, hm⟩ | ⟨hk, c, hc, hcell⟩
  · exact wpAny_Name (wpAny_loadName_local I.ok.kind hk hn hm (h u r)) hd
  · rcases hk with hk | hk
    · exact wpAny_Name (wpAny_loadName_cell I.ok.kind hk hc hcell (h u r)) hd
    · exact wpAny_Name (wpAny_loadName_free I.ok.kind hk hc hcell (h u r) hcd) hd
end
section
variable {prog : Program} {w : World} {A : Around} {R : GenEnd} {Y : Protocol} {n : Nat} {s0 : Shared} {fs : List Frame} {s : Shared} {env : Env}
theorem seg_forLoop {target : Expr} {it : Value} {body : List Stmt}
    (h : wpAny (model prog w) (A.over (.forLoop target it body [] env) fs) (pyNext it) (fun r s1 => match r with
      | none => Seg (model prog w) A R Y n s0 (.forLoop target it body [] env) (.pure (.again (.block [] env))) fs s1
      | some v => wpAny (model prog w) (A.over (.forLoop target it body [] env) fs) (letOwnedTupleGo target it v) (fun _ s2 =>
          wpAny (model prog w) (A.over (.forLoop target it body [] env) fs) (assign target env v) (fun _ s3 =>
            Seg (model prog w) A R Y n s0 (.forLoop target it body [] env) ((execs body env).wrap (fun f => match f with
              | .next | .cont => .pure (.again (.forLoop target it body [] env))
              | .brk => .pure (.done .next)
              | .ret v => .pure (.done (.ret v))) (fun e => (do noteFrame e env; theTreesLotGoes e : Sem Unit).wrap (fun _ => .raise e) .raise id id) id id) fs s3)
          (fun _ _ => False) s2) (fun _ _ => False) s1) (fun _ _ => False) s) :
    Seg (model prog w) A R Y n s0 (.forLoop target it body [] env) ((model prog w).den (.forLoop target it body [] env)) fs s := by
  show Seg _ A R Y n s0 _ ((forTurn target it body [] env).onRaise (fun x => do noteFrame x env; theTreesLotGoes x)) fs s
  unfold forTurn
  rw [Sem.onRaise_eq_wrap]
  refine seg_bind_wrap (wpAny_standAt ?_)
  refine seg_bind_wrap (wpAny_onRaise (wpAny_mono h (fun r s1 h1 => ?_) fun _ _ f => f.elim))
  cases r with
  | none => exact h1
  | some v =>
    refine seg_bind_wrap (wpAny_mono h1 (fun _ s2 h2 => ?_) fun _ _ f => f.elim)
    refine seg_bind_wrap (wpAny_mono h2 (fun _ s3 h3 => ?_) fun _ _ f => f.elim)
    rw [Sem.bind_eq_wrap', Sem.wrap_wrap]
    rw [Sem.wrap_congr (execs body env) _ _ (K' := fun f => match f with
          | .next | .cont => .pure (.again (.forLoop target it body [] env))
          | .brk => .pure (.done .next)
          | .ret v => .pure (.done (.ret v))) (H' := (fun e => (do noteFrame e env; theTreesLotGoes e : Sem Unit).wrap (fun _ => .raise e) .raise id id))
      (fun f => by cases f <;> rfl)
      (fun e => by first | exact Sem.bind_eq_wrap _ _ | (show (do noteFrame e env; theTreesLotGoes e : Sem Unit).bind (fun _ => .raise e) = _; rw [Sem.bind_eq_wrap]))]
    exact h3
theorem seg_blockNil {k : Result → Sem PySem.Fin} {hh : Option Value} {g : Bool} {l kp : List Value} {c1 : Code} {p1 : Pos} {c : Code} (h : Seg (model prog w) A R Y n s0 c1 (k (.ok .next)) fs s) :
    Seg (model prog w) A R Y n s0 c (.pure (.again (.block [] env))) (.ret k hh g l c1 p1 kp :: fs) s := by
  refine seg_again rfl ?_
  show Seg _ A R Y n s0 _ ((execs [] env).onRaise (fun x => do noteFrame x env; theTreesLotGoes x) >>= fun f => pure (Fin.done f)) _ s
  refine seg_bind (wpAny_onRaise (wpAny_execs_nil ?_))
  exact seg_leaf (.ok .next) h
end
/-! ### the body -/
abbrev forY (y : Str) (py pz yp yq pos : Pos) (iter : Expr) : List Stmt := [.For (.Name y py) iter [.Expr (.Yield (some (.Name y pz)) yp) yq] [] pos]
section
variable {X : Cx} {S : Addr} {W : List Addr}
theorem seg_body {y : Str} {iy : Nat} {py pz yp yq pos : Pos} {iter : Expr} {te : TE} {A : Around} {Q : List V → Hp → Prop} {F : Value → Shared → Prop} {c : Code} {J : Value → Sem PySem.Fin} {σ : L2.St} {H : Hp} {s0 s : Shared}
    (hA : AptW X S W) (hov : A.over c [] = X.A) (hc : X.calm = true) (hN : X.N.Nodup) (hy : X.N[iy]? = some y) (hyl : X.env.scope.names.lookup y = some .local)
    (hd : (y == ("__debug__" : Str)) = false) (hcd : (y == ("__classdict__" : Str)) = false) (hco : X.env.scope.isCoroutine = false) (hi : interactive X.env = false) (hs : ∀ x, foldedSetIterable iter X.env x = pure x)
    (he : PE X iter te) (I : GW X S W s0 [] [] σ H s) (ht : te σ H fun x H1 => ∃ l xs, x = .ref l ∧ SqL X.K H1 l xs ∧ Q xs H1)
    (hJ : ∀ e s', X.xe e s' → Seg (model X.prog X.w) A (GRW X S W Q F) (GYW X S W) sizeLine s0 c (J e) [] s') :
    Seg (model X.prog X.w) A (GRW X S W Q F) (GYW X S W) sizeLine s0 c ((execs (forY y py pz yp yq pos iter) X.env).wrap (fun f => .pure (.done (.ret (match f with | .ret v => v | _ => .none)))) J id id) [] s := by
  obtain ⟨h0, acc0, c0, r0, I⟩ := I
  rw [List.append_nil] at I
  refine seg_execs_cons ?_
  rw [exec_For]
  refine seg_bind_wrap (wpAny_standAt ?_)
  have hpi := (pi_list (tg := .Name y py) (pe_mo he)).run _ s σ H (fun Jt H1 => ∃ l xs, Jt = Itl X.K l ∧ SqL X.K H1 l xs ∧ Q xs H1) I ⟨_, ht, fun x H1 ⟨l, xs, e, hq, q⟩ => ⟨l, e, ⟨xs, hq⟩, l, xs, rfl, hq, q⟩⟩
  refine seg_bind_wrap ?_
  rw [hov]
  refine wpAny_mono hpi (fun v s1 h1 => ?_) fun x s' hx => hJ x s' hx
  refine seg_bind_wrap (wpAny_of_eq (hs v) ?_)
  refine seg_bind_wrap (wpAny_standAt ?_)
  refine seg_bind_wrap (wpAny_holding ?_)
  rw [hov]
  refine wpAny_mono h1 (fun itv s2 h2 => ?_) fun x s' hx => hJ x s' hx
  obtain ⟨it, fp, tn, Jt, H1, e, I2, T, st2, f2, l, xs, eJ, hq, hQ⟩ := h2
  subst e
  subst eJ
  have hlen : xs.length ≤ sizeLine := by
    obtain ⟨its, rv, p, hz⟩ := I2.list hq
    have := rv.length
    omega
  have fS : ∀ b ∈ fp, b ≠ S ∧ b ∉ W := fun b hb => by
    obtain ⟨_, _, _, _, _, q⟩ := f2 b hb
    refine ⟨fun e => q (S, lstObj acc0 c0) (List.mem_append_right _ List.mem_cons_self) e.symm, fun hw => ?_⟩
    obtain ⟨o, eo⟩ := h0 b hw
    exact q (b, o) (List.mem_append_right _ (List.mem_cons_of_mem _ (mem_pinsAt hw eo))) rfl
  have fok : ∀ (acc : Array Value) (cc : Nat) (s' : Shared), ∀ b ∈ fp, FpOk X ((S, lstObj acc cc) :: pinsAt W s'.heap) H1 b := fun acc cc s' b hb => by
    obtain ⟨q1, q2, q3, q4, q5, q6⟩ := f2 b hb
    obtain ⟨w1, w2⟩ := fS b hb
    refine ⟨q1, q2, q3, q4, q5, fun p hp e => ?_⟩
    rcases List.mem_append.mp hp with hp | hp
    · exact q6 p (List.mem_append_left _ hp) e
    · rcases List.mem_cons.mp hp with hp | hp
      · rw [hp] at e; exact w1 e.symm
      · exact w2 (e ▸ (of_pinsAt hp).1)
  have loop : ∀ (fs : List Frame) (k : Result → Sem PySem.Fin) (l0 kp : List Value) (p : Pos), A.over (.forLoop (.Name y py) (.ref it) [.Expr (.Yield (some (.Name y pz)) yp) yq] [] X.env) (.ret k none false l0 c p kp :: fs) = X.A →
      splitAtGen (.ret k none false l0 c p kp :: fs) = none → (Frame.ret k none false l0 c p kp :: fs).any Frame.guarded = false →
      (∀ n s0 s', n + xs.length = sizeLine → (∃ σ', GW X S W s0 [] xs σ' H1 s') → Seg (model X.prog X.w) A (GRW X S W Q F) (GYW X S W) n s0 c (k (.ok .next)) fs s') →
      ∀ (r i n : Nat) (s0 s : Shared) (σ : L2.St), i + r = xs.length → n + i = sizeLine → GW X S W s0 [] (xs.take i) σ H1 s → tn i s.heap →
      Seg (model X.prog X.w) A (GRW X S W Q F) (GYW X S W) n s0 (.forLoop (.Name y py) (.ref it) [.Expr (.Yield (some (.Name y pz)) yp) yq] [] X.env)
        ((model X.prog X.w).den (.forLoop (.Name y py) (.ref it) [.Expr (.Yield (some (.Name y pz)) yp) yq] [] X.env)) (.ret k none false l0 c p kp :: fs) s := by
    intro fs k l0 kp p ov hsp hgu hend r
    induction r with
    | zero =>
      intro i n s0 s σ hi' hn hG hst
      have ei : i = xs.length := by omega
      subst ei
      rw [List.take_length] at hG
      obtain ⟨g0, acc, cc, rv, IG⟩ := hG
      rw [List.append_nil] at IG
      refine seg_forLoop ?_
      rw [ov]
      refine wpAny_mono (T.done X rfl rfl rfl hc _ _ s σ H1 _ IG (fok acc cc s0) hst ⟨xs, hq, Nat.le_refl _⟩) (fun r s1 ⟨hr, I1⟩ => ?_) fun _ _ x => x
      subst hr
      exact seg_blockNil (hend n s0 s1 hn ⟨σ, g0, acc, cc, rv, by rw [List.append_nil]; exact I1⟩)
    | succ r ih =>
      intro i n s0 s σ hi' hn hG hst
      have hlt : i < xs.length := by omega
      obtain ⟨n, rfl⟩ : ∃ m, n = m + 1 := ⟨n - 1, by omega⟩
      obtain ⟨g0, acc, cc, rv, IG⟩ := hG
      rw [List.append_nil] at IG
      refine seg_forLoop ?_
      rw [ov]
      refine wpAny_mono (T.item X rfl rfl rfl hc i _ s σ H1 _ IG (fok acc cc s0) hst ⟨xs, xs[i], hq, List.getElem?_eq_getElem hlt⟩) (fun r s1 ⟨u, hr, h1⟩ => ?_) fun _ _ x => x
      subst hr
      refine wpAny_mono h1 (fun _ sa ⟨x, H', Ia, rx, ⟨eH, ex⟩, st', _⟩ => ?_) fun _ _ x => x
      subst eH
      have ex := ex xs hq
      have I3 := Ia.pinned (fok acc cc s0) (T.obj _ _ st')
      refine wpAny_assign_Name (store_ok2 I3 hN hy (.inl hyl) rx (fun s3 I4 _ => ?_) (.inr hyl))
      refine seg_execs_cons ?_
      refine seg_Expr_Yield hsp rfl hgu ?_ hco hi
      rw [ov]
      have hiy : iy < σ.length := by rw [IG.len]; exact (List.getElem?_eq_some_iff.mp hy).1
      refine ld_var I4 hy (.inl hyl) (by rw [List.getElem?_set_self hiy]) (fun u' ru' => ?_) hd hcd
      intro kap hk
      have G1 : GW X S W s0 (pinsAt fp sa.heap) (xs.take i) (σ.set iy (some x)) H' s3 := ⟨g0, acc, cc, rv, I4⟩
      have hip : ∀ p ∈ pinsAt fp sa.heap, p.1 ≠ S ∧ p.1 ∉ W := fun p hp => fS p.1 (of_pinsAt hp).1
      refine ⟨_, x, _, _, _, ?_, ru', G1, fun s' z => hk .none s' ?_⟩
      · rw [List.length_take, Nat.min_eq_left (Nat.le_of_lt hlt)]; exact hn
      have G2 := G1.woken hA hip ru' z
      obtain ⟨g1, acc', cc', rv', I5⟩ := G2
      have st5 : tn (i + 1) s'.heap := T.keep _ _ _ st' fun b hb o e => (I5.pin (b, o) (List.mem_append_right _ (List.mem_append_right _ (mem_pinsAt hb e)))).1
      have etk : xs.take i ++ [x] = xs.take (i + 1) := by
        rw [List.take_add_one, ex]; rfl
      rw [etk] at rv'
      refine seg_execs_nil ?_
      refine seg_again rfl (ih (i + 1) n s' s' _ (by omega) (by omega) ⟨g1, acc', cc', rv', by rw [List.append_nil]; exact I5.unpinned⟩ st5)
  refine seg_call fun p => ?_
  refine loop [] _ _ _ p ?_ rfl rfl (fun n s0' s' hn hG => ?_) xs.length 0 sizeLine s0 s2 σ (Nat.zero_add _) rfl ⟨h0, acc0, c0, by rw [List.take_zero]; exact r0, by rw [List.append_nil]; exact I2⟩ st2
  · exact (over_loop rfl rfl).trans hov
  · obtain ⟨σ', hG⟩ := hG
    refine seg_execs_nil (env := X.env) ?_
    exact seg_end (.ok (.ret .none)) ⟨xs, [], σ', H1, rfl, hn, hG, hQ⟩
end
/-! ### the call -/
def YW (s : Shared) (S : Addr) (W : List Addr) (a : Addr) (g : Nat) : Protocol := fun n s0 v s1 kap =>
  s1.os = s.os ∧ AllBare s1.gens ∧ s1.heap.NoLimit ∧ s1.heap.IsGen a g ∧ (∃ (acc : Array Value) (c : Nat), s1.heap.get? S = some (lstObj acc c) ∧ n + 1 + acc.size = sizeLine) ∧ (∀ b ∈ W, ∀ o, s0.heap.get? b = some o → s1.heap.get? b = some o) ∧ ∀ s', SlW S W v s1 s' → kap (.send .none) s'
def RW (P : Program) (w : World) (outer : List Env) (H : Hp) (s : Shared) (S : Addr) (W : List Addr) (a : Addr) (g : Nat) (Q : List V → Hp → Prop) (E : XK) : GenEnd := fun n s0 r s1 =>
  ((r = .ok (.ret .none) ∨ r = .ok .next) ∧ (∃ H' ys acc c, s1.os = s.os ∧ AllBare s1.gens ∧ Un (frs outer) [] H H' s.heap s1.heap ∧ HOk P w H' s1.heap ∧ H' S = none ∧ s1.heap.get? S = some (lstObj acc c) ∧ Vals ys acc.toList ∧ ys.length ≤ sizeLine ∧ Q ys H' ∧ ∀ b ∈ W, H' b = none) ∧ ∀ b ∈ W, ∀ o, s0.heap.get? b = some o → s1.heap.get? b = some o) ∨
  ∃ e, r = .error e ∧ CX P w outer H s E e s1 ∧ s1.heap.IsGen a g
/-- a generator that has not begun -/
def GMadeW (P : Program) (w : World) (k : Nat) (outer : List Env) (H : Hp) (s : Shared) (Q : List V → Hp → Prop) (E : XK) (u : Value) (s' : Shared) : Prop :=
  ∃ (a : Addr) (g : Nat) (c : Code), u = .ref a ∧ s.heap.objs.size ≤ a ∧ a < s'.heap.objs.size ∧ s'.heap.IsGen a g ∧ s'.gens[g]? = some (.fresh c) ∧ s'.os = s.os ∧ AllBare s'.gens ∧ s'.heap.NoLimit ∧ (∀ b o, s.heap.get? b = some o → s'.heap.get? b = some o) ∧
    ∀ (A : Around) (S : Addr) (W : List Addr) (s2 : Shared), Room k A → A.frames = some outer → s'.heap.objs.size ≤ S → (∀ b ∈ W, s'.heap.objs.size ≤ b ∧ b ≠ S ∧ ∃ o, s2.heap.get? b = some o ∧ ∀ v, o.data ≠ .cell v) → (∀ b o, s'.heap.get? b = some o → s2.heap.get? b = some o) → (∃ c, s2.heap.get? S = some (lstObj #[] c)) → s2.os = s.os → AllBare s2.gens →
      Seg (model P w) A (RW P w outer H s S W a g Q E) (YW s S W a g) sizeLine s2 c ((model P w).den c) [] s2
structure GFnW (P : Program) (w : World) (K : PySem.W.Frag) (mg : Str → Option Value) (base : Heap) (k : Nat) (f : Addr) (fd : FuncData) (ps : List Str) (sp : SpG) : Prop where
  len : ∀ vs H Q E, sp vs H Q E → vs.length = ps.length
  run : ∀ (A : Around) (outer : List Env) (s : Shared) (H : Hp) (args : Args) (us : List Value) (vs : List V) (Q : List V → Hp → Prop) (E : XK), Room k A → Env0 P w K mg base A outer s H → BindsTo s fd args (ps.zip us) → Vals vs us → sp vs H Q E →
    codeAny (model P w) A (.call (.ref f) args) (fun r s' => match r with | .ok (.ret u) => GMadeW P w k outer H s Q E u s' | _ => False) s
theorem gfnW_of {P : Program} {w : World} {K : PySem.W.Frag} {mg : Str → Option Value} {base : Heap} {k : Nat} {f : Addr} {name qual : Str} {params : Arguments} {scope : Scope} {dV kV doc pm cdv ct oc : Value} {an od : Option Addr}
    {osl : Array (Option Value)} {N ps : List Str} {sp : SpG} {y : Str} {iy : Nat} {py pz yp yq pos : Pos} {iter : Expr}
    (lk : K.lookup f = some ⟨oc, od, .func (PySem.W.fnOf name qual params (forY y py pz yp yq pos iter) scope dV kV doc pm an cdv ct), osl⟩) (hcd : PySem.W.codeIn K cdv qual = true) (S : GScope N ps scope)
    (hy : N[iy]? = some y) (hyl : scope.names.lookup y = some .local) (hd : (y == ("__debug__" : Str)) = false) (hcd' : (y == ("__classdict__" : Str)) = false) (hs : ∀ env x, foldedSetIterable iter env x = pure x)
    (len : ∀ vs H Q E, sp vs H Q E → vs.length = ps.length)
    (hbody : ∀ (A : Around) (outer : List Env) (s : Shared) (H : Hp) (vs : List V) (Q : List V → Hp → Prop) (E : XK) (pn : List (Addr × Obj)), Room k (A.deeper (envOfC qual scope s.heap.objs.size f cdv)) → sp vs H Q E →
      ∃ te, PE (gcxOf P w K mg base N qual scope f cdv A outer s H E pn) iter te ∧ te (L2.start N vs) H fun x H1 => ∃ l xs, x = .ref l ∧ SqL K H1 l xs ∧ Q xs H1) :
    GFnW P w K mg base (k + 1) f (PySem.W.fnOf name qual params (forY y py pz yp yq pos iter) scope dV kV doc pm an cdv ct) ps sp := by
  refine ⟨len, fun A outer s H args us vs Q E hr e0 hb r hsp => ?_⟩
  have hl := len _ _ _ _ hsp
  have KX : K.In s.heap := e0.mod.kin.keeps fun b o e => (e0.bs b o e).1
  have lim : s.heap.NoLimit := e0.mod.nolimit.keeps fun b o e => (e0.bs b o e).1
  have hkind : ∀ y ∈ ps.zip us, scope.names.lookup y.1 = some .local ∨ (scope.names.lookup y.1 = some .cell ∧ ((cellsFrom (s.heap.objs.size + 1) scope.names []).lookup y.1).isSome = true) := fun ⟨n, v⟩ hy => by
    rcases S.par n (List.of_mem_zip hy).1 with q | q
    · exact .inl q
    · exact .inr ⟨q, PySem.W.cellsFrom_some _ _ _ (.inl q)⟩
  refine codeAny_call_generator hr.depth (KX _ _ lk) rfl S.co S.gen rfl (PySem.W.codeRec_of KX hcd) (hb _ _ _ _ ?_)
  refine wpAny_newFunctionEnv_cells S.kind hkind fun env he s1 x => ?_
  subst he
  refine ⟨lim.keeps x.toInCall.keep, ?_⟩
  obtain ⟨h1, tk, es1, hk1⟩ := x.done
  have os1 : s1.os = s.os := by rw [es1]
  have gen1 : s1.gens = s.gens := by rw [es1]
  have lt1 : s.heap.objs.size < s1.heap.objs.size := x.toInCall.ns.lt
  have sz1 : s.heap.objs.size ≤ s1.heap.objs.size := Nat.le_of_lt lt1
  have kp1 : ∀ b o, s.heap.get? b = some o → s1.heap.get? b = some o := x.toInCall.keep
  have main : ∀ (go : Obj) (nm qn : Value) (tk2 : Nat), go.cls = .type "generator" → go.data = .fields #[.int s1.gens.size 0, nm, qn] → go.slots = #[] → (∀ h : Heap, (h.push go).get? h.objs.size = some go) →
      GMadeW P w (k + 1) outer H s Q E (.ref s1.heap.objs.size) { s1 with gens := s1.gens.push (.fresh (.func (forY y py pz yp yq pos iter) (envOfC qual scope s.heap.objs.size f cdv))), toks := tk2, heap := s1.heap.push go } := by
    intro go nm qn tk2 hgc hgd0 hgs hgp
    have hgen : ∀ h : Heap, h.get? s1.heap.objs.size = some go → h.IsGen s1.heap.objs.size s1.gens.size := fun h e => ⟨go, nm, qn, e, hgc, hgd0, hgs⟩
    have hpushed : (s1.heap.push go).get? s1.heap.objs.size = some go := hgp _
    refine ⟨s1.heap.objs.size, s1.gens.size, _, rfl, sz1, ?_, hgen _ hpushed, Array.getElem?_push_size .., os1, ?_, (lim.keeps x.toInCall.keep).keeps fun b o e => Heap.get?_push_of_some _ e, fun b o e => Heap.get?_push_of_some _ (kp1 b o e), ?_⟩
    · show _ < (s1.heap.push _).objs.size
      rw [Heap.size_push]; exact Nat.lt_succ_self _
    · exact AllBare.push (by rw [gen1]; exact e0.bare) rfl
    intro Aw Sx Wx s2 hrw hfr hSx hWx hk2 hSo hos hba
    have hSx : s1.heap.objs.size < Sx := by
      have h : (s1.heap.push go).objs.size ≤ Sx := hSx
      rwa [Heap.size_push] at h
    have hWx : ∀ b ∈ Wx, s1.heap.objs.size < b ∧ b ≠ Sx ∧ ∃ o, s2.heap.get? b = some o ∧ ∀ v, o.data ≠ .cell v := fun b hb => by
      obtain ⟨h, q⟩ := hWx b hb
      have h : (s1.heap.push go).objs.size ≤ b := h
      rw [Heap.size_push] at h
      exact ⟨h, q⟩
    have e0w : Env0 P w K mg base Aw outer s H := ⟨hfr, e0.mod, e0.bs, e0.bsz, e0.funs, e0.frf, e0.hok, e0.bare⟩
    obtain ⟨te, ht, hq⟩ := hbody Aw outer s H vs Q E [(s1.heap.objs.size, go)] (hrw.deeper _) hsp
    have I1 : L2.Inv (gcxOf P w K mg base N qual scope f cdv Aw outer s H E []) [] (L2.start N vs) H s1 := inv_startG S hrw.hd e0w hl r x
    have kp2 : ∀ b o, s1.heap.get? b = some o → s2.heap.get? b = some o := fun b o e => hk2 b o (Heap.get?_push_of_some _ e)
    have I2 : L2.Inv (gcxOf P w K mg base N qual scope f cdv Aw outer s H E []) [] (L2.start N vs) H s2 :=
      I1.call' (ch := []) (hos.trans os1.symm) (Un.kept kp2) (I1.hok.kept kp2) hba fun b z => by simp at z
    obtain ⟨cS, heS⟩ := hSo
    have hea : s2.heap.get? s1.heap.objs.size = some go := hk2 s1.heap.objs.size go hpushed
    have hgd : ∀ v, go.data ≠ .cell v := fun v q => by rw [hgd0] at q; cases q
    have young : ∀ b, s1.heap.objs.size ≤ b → H b = none ∧ b ≠ s.heap.objs.size ∧ b ∉ frs outer ∧ s.heap.objs.size ≤ b ∧ ∀ y c, (cellsFrom (s.heap.objs.size + 1) scope.names []).lookup y = some c → c ≠ b := fun b hb => by
      refine ⟨I1.hok.fresh hb, Nat.ne_of_gt (Nat.lt_of_lt_of_le lt1 hb), I1.nofs hb, Nat.le_trans sz1 hb, fun y c e z => ?_⟩
      obtain ⟨v, ob, ho, _⟩ := I1.cell y c e
      have := Heap.lt_size ho
      rw [z] at this
      exact absurd (Nat.lt_of_lt_of_le this hb) (Nat.lt_irrefl _)
    have hG : GW (gcxOf P w K mg base N qual scope f cdv Aw outer s H E [(s1.heap.objs.size, go)]) Sx Wx s2 [] [] (L2.start N vs) H s2 := by
      refine ⟨fun b hb => (hWx b hb).2.2.imp fun o q => q.1, #[], cS, .nil, Inv.pinnedG I2 fun p hp => ?_⟩
      rcases List.mem_append.mp hp with z | z
      · rw [List.mem_singleton.mp z]
        obtain ⟨y1, y2, y3, _, _⟩ := young s1.heap.objs.size (Nat.le_refl _)
        exact ⟨hea, y1, y2, y3, hgd⟩
      · rw [List.append_nil] at z
        rcases List.mem_cons.mp z with z | z
        · rw [z]
          obtain ⟨y1, y2, y3, _, _⟩ := young Sx (Nat.le_of_lt hSx)
          exact ⟨heS, y1, y2, y3, fun v q => by cases q⟩
        · obtain ⟨hb, e⟩ := of_pinsAt z
          obtain ⟨l1, _, o, e', nc⟩ := hWx p.1 hb
          obtain ⟨y1, y2, y3, _, _⟩ := young p.1 (Nat.le_of_lt l1)
          exact ⟨e, y1, y2, y3, (Option.some.inj (e'.symm.trans e)) ▸ nc⟩
    have ap : ∀ b, s1.heap.objs.size < b → Apart (gcxOf P w K mg base N qual scope f cdv Aw outer s H E [(s1.heap.objs.size, go)]) b := fun b hb => by
      obtain ⟨_, y2, _, y4, y5⟩ := young b (Nat.le_of_lt hb)
      exact ⟨y4, y2, y5⟩
    have hA : AptW (gcxOf P w K mg base N qual scope f cdv Aw outer s H E [(s1.heap.objs.size, go)]) Sx Wx := by
      refine ⟨ap Sx hSx, fun b hb => ⟨ap b (hWx b hb).1, (hWx b hb).2.1⟩, fun p hp => ?_⟩
      rw [List.mem_singleton.mp hp]
      exact ⟨Nat.ne_of_lt hSx, fun z => Nat.lt_irrefl _ (hWx _ z).1⟩
    have facts : ∀ {s0 : Shared} {ip : List (Addr × Obj)} {ys : List V} {s' : Shared} {σ' : L2.St} {H' : Hp}, GW (gcxOf P w K mg base N qual scope f cdv Aw outer s H E [(s1.heap.objs.size, go)]) Sx Wx s0 ip ys σ' H' s' →
        s'.heap.IsGen s1.heap.objs.size s1.gens.size ∧ (∀ b ∈ Wx, ∀ o, s0.heap.get? b = some o → s'.heap.get? b = some o) ∧ s'.os = s.os ∧ AllBare s'.gens ∧ s'.heap.NoLimit ∧ Un (frs outer) [] H H' s.heap s'.heap ∧ HOk P w H' s'.heap ∧ H' Sx = none ∧ (∀ b ∈ Wx, H' b = none) ∧ ∃ acc c, s'.heap.get? Sx = some (lstObj acc c) ∧ Vals ys acc.toList := fun {s0 ip ys s' σ' H'} hI => by
      obtain ⟨g0, acc, cc, rv, J⟩ := hI
      obtain ⟨p1, p2, _⟩ := J.pin (Sx, lstObj acc cc) (List.mem_append_right _ (List.mem_append_left _ List.mem_cons_self))
      exact ⟨hgen _ (J.pin (s1.heap.objs.size, go) (List.mem_append_left _ (List.mem_singleton.mpr rfl))).1, fun b hb o e => (J.pin (b, o) (List.mem_append_right _ (List.mem_append_left _ (List.mem_cons_of_mem _ (mem_pinsAt hb e))))).1,
        J.os, J.bare, J.nolimit, J.base, J.hok, p2, (fun b hb => (g0 b hb).elim fun o e => (J.pin (b, o) (List.mem_append_right _ (List.mem_append_left _ (List.mem_cons_of_mem _ (mem_pinsAt hb e))))).2.1), acc, cc, p1, rv⟩
    refine seg_func ?_
    refine seg_imp (R := GRW (gcxOf P w K mg base N qual scope f cdv Aw outer s H E [(s1.heap.objs.size, go)]) Sx Wx Q fun e s' => CX P w outer H s E e s' ∧ ∀ p ∈ [(s1.heap.objs.size, go)], s'.heap.get? p.1 = some p.2)
      (Y := GYW (gcxOf P w K mg base N qual scope f cdv Aw outer s H E [(s1.heap.objs.size, go)]) Sx Wx) (fun n s0 r s1' hR => ?_) (fun n s0 v s1' kap kap' hkk hY => ?_) sizeLine ?_
    · cases r with
      | error e =>
        obtain ⟨q1, q2⟩ := hR
        exact .inr ⟨e, rfl, q1, hgen _ (q2 (s1.heap.objs.size, go) (List.mem_singleton.mpr rfl))⟩
      | ok fl =>
        cases fl with
        | next => exact False.elim hR
        | brk => exact False.elim hR
        | cont => exact False.elim hR
        | ret u =>
          obtain ⟨ys, ip, σ', H', eu, hn, hI, hQ⟩ := hR
          subst eu
          obtain ⟨_, f2, f3, f4, _, f6, f7, f8, f8w, acc, cc, f9, f10⟩ := facts hI
          exact .inl ⟨.inl rfl, ⟨H', ys, acc, cc, f3, f4, f6, f7, f8, f9, f10, by omega, hQ, f8w⟩, f2⟩
    · obtain ⟨ys, xx, ip, σ', H', hn, h2, hI, h3⟩ := hY
      obtain ⟨f1, f2, f3, f4, f5, _, _, _, _, acc, cc, f9, f10⟩ := facts hI
      have hsz : acc.size = ys.length := by
        have e1 := f10.length
        have e2 : acc.toList.length = acc.size := by simp
        omega
      exact ⟨f3, f4, f5, f1, ⟨acc, cc, f9, by rw [hsz]; exact hn⟩, f2, fun s' z => hkk _ _ (h3 s' z)⟩
    · refine seg_body (X := gcxOf P w K mg base N qual scope f cdv Aw outer s H E [(s1.heap.objs.size, go)]) hA over_func rfl S.nd hy hyl hd hcd' S.co (by unfold interactive; rw [show (gcxOf P w K mg base N qual scope f cdv Aw outer s H E [(s1.heap.objs.size, go)]).env.scope.kind = .function from S.kind]; rfl) (hs _) ht hG hq fun e s' hx => ?_
      refine seg_wrap ?_
      rw [over_func]
      refine wpAny_mono (show wpAny (model P w) (Aw.deeper (envOfC qual scope s.heap.objs.size f cdv)) (leaving (envOfC qual scope s.heap.objs.size f cdv) e) (fun _ s'' => CX P w outer H s E e s'' ∧ ∀ p ∈ [(s1.heap.objs.size, go)], s''.heap.get? p.1 = some p.2) (fun _ _ => False) s' from hx) (fun _ s'' q => ?_) fun _ s'' q => q.elim
      exact seg_end (.error e) q
  exact main _ _ _ _ rfl rfl rfl fun h => Heap.get?_push_size _ rfl
/-- with nothing more of its own the consumer is the kit's -/
theorem GMadeW.made {P : Program} {w : World} {k : Nat} {outer : List Env} {H : Hp} {s s' : Shared} {Q : List V → Hp → Prop} {E : XK} {u : Value} (h : GMadeW P w k outer H s Q E u s') : GMade P w k outer H s [] Q E u s' := by
  obtain ⟨a, g, c, h1, h2, h3, h4, h5, h6, h7, h8, h9, h10⟩ := h
  refine ⟨a, g, c, h1, h2, h3, h4, h5, h6, h7, h8, h9, fun A S s2 q1 q2 q3 q4 q5 q6 q7 => ?_⟩
  refine seg_imp (fun n s0 r s1 hR => ?_) (fun n s0 v s1 kap kap' hkk hY => ?_) sizeLine (h10 A S [] s2 q1 q2 q3 (fun b hb => (List.not_mem_nil hb).elim) q4 q5 q6 q7)
  · rcases hR with ⟨r1, ⟨H', ys, acc, cc, q1, q2, q3, q4, q5, q6, q7, q8, q9, _⟩, _⟩ | r1
    · exact .inl ⟨r1, H', ys, acc, cc, q1, q2, q3, q4, q5, q6, q7, q8, q9⟩
    · exact .inr r1
  · obtain ⟨y1, y2, y3, y4, y5, _, y7⟩ := hY
    exact ⟨y1, y2, y3, y4, y5, fun s' z => hkk _ _ (y7 s' ⟨z.os, z.bare, fun b o h _ e => z.keep b o h e, z.own, fun b hb => (List.not_mem_nil hb).elim⟩)⟩
/-! ### o.m(e, ..) -/
structure PGenW (X : Cx) (k : Nat) (e : Expr) (tg : TGen) (E : XK) : Prop where
  run : ∀ (pins : List (Addr × Obj)) (s : Shared) (σ : L2.St) (H : Hp) (cont : List V → Hp → Prop), Inv X pins σ H s → tg σ H cont → wpAny (model X.prog X.w) X.A (eval e X.env)
    (fun u s' => ∃ H1 sc, Inv X pins σ H1 sc ∧ GMadeW X.prog X.w k X.stack H1 sc cont E u s') X.xe s
section
variable {X : Cx} {k : Nat} {E : XK} {tg : TGen}
theorem PGenW.pgen {e : Expr} (h : PGenW X k e tg E) : PGen X k e tg E := ⟨fun pins s σ H cont I q => thn (h.run pins s σ H cont I q) fun u s' ⟨H1, sc, I1, g⟩ => ⟨H1, sc, [], I1, .nil, g.made⟩⟩
theorem pgenW_meth {f C : Addr} {fd : FuncData} {ps : List Str} {sp : SpG} {m : Str} {apos pos' : Pos} {o e : Expr} {es : List Expr} {ta : TE} {t : TA} {pl : Sem Bool} (he : PE X o ta) (c : Cls X.K C) (hm : Meth X.K C m f) (F : GFnW X.prog X.w X.K X.mg X.base k f fd ps sp) (hr : Room k X.A) (hb : Binds X.K fd ps []) (ha : PA X (e :: es) t)
    (hst : starEach (e :: es) X.env = (false, eval e X.env) :: starEach es X.env := by rfl) (hpl : (backTo pos' (starEach es X.env)).any (·.1) = false := by rfl)
    (ht : eval (.Call (.Attribute o m apos) (e :: es) [] pos') X.env = (do
      let ov ← eval o X.env
      standAt apos.atName
      let (f, first) ← holding [ov] (getMethod ov m pl)
      callWith pos' f first (backTo pos' (starEach (e :: es) X.env)) (backToKw pos' (keywordEach [] X.env))) := by rfl) :
    PGenW X k (.Call (.Attribute o m apos) (e :: es) [] pos') (tMethG C m sp [] E ta t) E := by
  refine ⟨fun pins s σ H cont I h => ?_⟩
  refine PySem.W.methodCall_KW (pl := pl) (thn (he.run pins s σ H _ I h) fun u s1 ⟨x, H1, I1, rx, a, dx, fs, ex, ea, l, q⟩ => ?_) ht
  subst ex
  obtain rfl : u = Value.ref a := rx
  refine getmeth_ok I1 ea c hm l ?_
  refine PySem.W.callWith_K (first := [.ref a]) (h₀ := X.base) I.ok.mod.kin hm.kp (thn (ha.run pos' pins s1 σ H1 _ I1 q) fun us s2 ⟨vs, H2, I2, r, q2⟩ => ⟨I2.kIn, ?_⟩) hst hpl
  have q2 : sp (V.ref a :: (vs ++ [])) H2 cont E := q2
  rw [List.append_nil] at q2
  have r2 : Vals (V.ref a :: vs) (Value.ref a :: us) := .cons rfl r
  have hl2 : (Value.ref a :: us).length = ps.length := by rw [← r2.length]; exact F.len _ _ _ _ q2
  have hbn : BindsTo s2 fd ⟨Value.ref a :: us, []⟩ (ps.zip (Value.ref a :: us)) := by
    have := hb s2 (Value.ref a :: us) I2.kIn (by simpa using hl2)
    rwa [List.append_nil] at this
  refine wpAny_call (codeAny_mono (F.run X.A X.stack s2 H2 _ (Value.ref a :: us) _ cont E hr I2.env0 hbn r2 q2) fun r s' hq => ?_)
  cases r with
  | error e => exact False.elim hq
  | ok fl =>
    cases fl with
    | ret u => exact ⟨H2, s2, I2, hq⟩
    | next => exact False.elim hq
    | brk => exact False.elim hq
    | cont => exact False.elim hq
theorem noStop0 {K : PySem.W.Frag} : NoStop K E0 := fun _ _ _ h => h.elim
/-- list(o.m(..)) -/
theorem pe_listW {e : Expr} {p pos : Pos} (h : PGenW X k e tg E0) (hr : Room (k + 3) X.A) (hg : Gl X "list") (hmg : X.mg "list" = none) (he : starEach [e] X.env = (false, eval e X.env) :: starEach [] X.env := by rfl) : PE X (.Call (.Name "list" p) [e] [] pos) (tListG tg) :=
  pe_listG h.pgen passN noStop0 hr hg hmg rfl (he := he)
end
/-! ### [y for y in o.m(..)] -/
theorem pe_lcW {X : Cx} {k : Nat} {tg : TGen} {y : Str} {py pz pos : Pos} {e : Expr} {scope : Scope} {own : List (Str × Nat)} (h : PGenW X k e tg E0) (hr : Room (k + 1) X.A) (ok : BlkOk X.N X.env.scope scope own) (hyl : scope.names.lookup y = some .local)
    (hd : (y == ("__debug__" : Str)) = false := by decide) (hs : ∀ x, foldedSetIterable e X.env x = pure x := by intro _; rfl) : PE X (.ListComp (.Name y pz) [⟨.Name y py, e, [], 0⟩] scope pos) (tListG tg) := by
  refine ⟨fun pins s σ H Q I hq => ?_⟩
  have hfree : ∀ y ∈ scope.names, y.2 = .free → ∃ c, X.env.cells.lookup y.1 = some c := fun y hy e => by
    rcases ok.free y hy e with k | k
    · exact I.ok.has _ (.inl k)
    · exact I.ok.has _ (.inr k)
  rw [eval_ListComp]
  refine wpAny_comprehension_free (use := none) rfl hs (closure_ok hfree) ok.kind (fun y hy e => by rw [ok.uniq y hy, e])
    (thn (h.run pins s σ H _ I hq) fun u s1 ⟨H1, sc, I1, hG⟩ => ?_)
  obtain ⟨a, g, c, rfl, h2, h3, h4, h5, h6, h7, h8, h9, wake⟩ := hG
  refine wpAny_pyIter_gen h4 ?_
  refine wpAny_newObj_type (newEnv_comp ?_) (by show 0 ≤ sizeLine; decide)
  have hsc : sc.heap.objs.size ≤ s1.heap.objs.size := Nat.le_trans h2 (Nat.le_of_lt h3)
  generalize hD : s1.heap.objs.size = D
  generalize hs3 : ({ s1 with heap := s1.heap.push { cls := .type "list", data := .seq ([] : List Value).toArray } } : Shared) = s3
  have h3p : s3.heap = s1.heap.push { cls := .type "list", data := .seq ([] : List Value).toArray } := by rw [← hs3]
  have hC3 : s3.heap.objs.size = D + 1 := by rw [h3p, Heap.size_push, hD]
  have hD3 : s3.heap.get? D = some (lstObj #[] 0) := by
    rw [h3p, ← hD]
    exact Heap.get?_push_size _ rfl
  show codeAny _ _ (.compStart (.ListComp (.Name y pz) [⟨.Name y py, e, [], 0⟩] scope pos) 0 (.ref a) (.ref D) (compEnvC scope (cellsFrom (s3.heap.objs.size + 1) scope.names (cloFrom X.env.cells scope.names [])) s3.heap.objs.size X.env)) (compPost (model X.prog X.w) X.A X.xe none (EP X pins σ Q) (.ref D) s3.heap.objs.size) { s3 with heap := pushCells (s3.heap.push { cls := .type "dict", data := .dict #[] }) scope.names }
  generalize hce : compEnvC scope (cellsFrom (s3.heap.objs.size + 1) scope.names (cloFrom X.env.cells scope.names [])) s3.heap.objs.size X.env = ce
  have cL : ce.locals = s3.heap.objs.size := by subst hce; rfl
  have csc : ce.scope = relabel scope X.env := by subst hce; rfl
  generalize hs4 : ({ s3 with heap := pushCells (s3.heap.push { cls := .type "dict", data := .dict #[] }) scope.names } : Shared) = s4
  have k34 : ∀ b o, s3.heap.get? b = some o → s4.heap.get? b = some o := fun b o e => by rw [← hs4]; exact pushCells_keeps _ _ _ _ (Heap.get?_push_of_some _ e)
  have k14 : ∀ b o, s1.heap.get? b = some o → s4.heap.get? b = some o := fun b o e => k34 b o (by rw [h3p]; exact Heap.get?_push_of_some _ e)
  have n4 : s4.heap.Ns s3.heap.objs.size fun _ => none := by
    rw [← hs4]
    exact Heap.Ns.keeps (Heap.Ns.new ..) fun b o e => pushCells_keeps _ _ _ _ e
  have g4 : s4.gens = s1.gens := by rw [← hs4, ← hs3]
  have o4 : s4.os = s1.os := by rw [← hs4, ← hs3]
  generalize hCd : s3.heap.objs.size = C at hC3 n4 cL
  have hCD : C ≠ D := by rw [hC3]; exact Nat.succ_ne_self D
  have kl : ce.kindOf y = some .local := by
    unfold Env.kindOf
    rw [csc]
    exact lookup_relabel_local hyl
  have kf : ce.scope.kind = .function := by rw [csc]; exact ok.kind
  have goes : ∀ {gs : GenState} {B : Around} {n : Nat} {r : Resume} {s : Shared}, gs.Goes (model X.prog X.w) B (RW X.prog X.w X.stack H1 sc D [C] a g (fun out H2 => ∀ p, H2 p = none → Q (.ref p) (upd H2 p (.lst out))) E0) (YW sc D [C] a g) n r s →
      gs.Goes (model X.prog X.w) B (fun n s₀ r s1 => ((r = .ok (.ret .none) ∨ r = .ok .next) ∧ ((∃ H' ys acc c, s1.os = sc.os ∧ AllBare s1.gens ∧ Un (frs X.stack) [] H1 H' sc.heap s1.heap ∧ HOk X.prog X.w H' s1.heap ∧ H' D = none ∧ s1.heap.get? D = some (lstObj acc c) ∧ Vals ys acc.toList ∧ ys.length ≤ sizeLine ∧ (∀ p, H' p = none → Q (.ref p) (upd H' p (.lst ys))) ∧ ∀ b ∈ [C], H' b = none) ∧ ∀ b ∈ [C], ∀ o, s₀.heap.get? b = some o → s1.heap.get? b = some o)) ∨
        ∃ e, r = .error e ∧ (CX X.prog X.w X.stack H1 sc E0 e s1 ∧ s1.heap.IsGen a g)) (YW sc D [C] a g) n r s := fun h => h
  have loop : codeAny (model X.prog X.w) X.A (.compLoop (.ListComp (.Name y pz) [⟨.Name y py, e, [], 0⟩] scope pos) 0 (.ref a) (.ref D) ce) (compPost (model X.prog X.w) X.A X.xe none (EP X pins σ Q) (.ref D) C) s4 := by
    refine compLoop_any (fun n s' => ∃ gs acc cc mm, s'.gens[g]? = some gs ∧ gs.Goes (model X.prog X.w) X.A.in1 (RW X.prog X.w X.stack H1 sc D [C] a g (fun out H2 => ∀ p, H2 p = none → Q (.ref p) (upd H2 p (.lst out))) E0) (YW sc D [C] a g) n (.send .none) (s'.setGen g .running) ∧
      s'.heap.IsGen a g ∧ s'.heap.NoLimit ∧ s'.heap.get? D = some (lstObj acc cc) ∧ s'.heap.Ns C mm) (fun n s5 hI => ?_) sizeLine ?_
    · obtain ⟨gs, acc, cc, mm, hgs, hgo, hig, hnl, hDs, hns⟩ := hI
      have hgl : g < s5.gens.size := (Array.getElem?_eq_some_iff.mp hgs).1
      refine wpAny_gsz (n := g + 1) hgl (next_genG (A := X.A) hr.hd hnl (by have := hr.dp; omega) hig hgs (goes hgo) (fun v s₁ gs' hbare hv => ?_) (fun s₁ hp h' hk => ?_) fun e s₁ he => ?_)
      · intro hsz
        obtain ⟨os1, hb1, hl1, hg1, ⟨acc1, c1, hS1, hasz⟩, hW1, hk⟩ := hv
        have hsz1 : g < s₁.gens.size := by
          have q : (s₁.setGen g gs').gens.size = s₁.gens.size := setGen_size _ _ _
          have hsz' : g + 1 ≤ (s₁.setGen g gs').gens.size := hsz
          omega
        have hns1 : s₁.heap.Ns C mm := hns.at' fun o e => hW1 C List.mem_cons_self o e
        refine wpAny_of_eq (rfl : letOwnedTupleGo (.Name y py) (.ref a) v = pure ()) ?_
        refine wpAny_assign_Name (wpAny_storeName_local kl (by rw [cL]; exact hns1) (fun h₂ hn₂ hs₂ => ?_) (by rw [kf]; rfl))
        rw [cL] at hn₂ hs₂
        refine wpAny_tests_nil ?_
        rw [if_pos rfl]
        refine wpAny_Name (wpAny_loadName_local kf kl (by rw [cL]; exact hn₂) (if_pos rfl) ?_) hd
        have hD2 : h₂.get? D = some (lstObj acc1 c1) := hs₂.extBut D _ (Ne.symm hCD) hS1
        refine append_at (hsz := by have : n - 1 + 1 + acc1.size = sizeLine := hasz; omega) hD2 fun h₃ sb₃ hD₃ => ?_
        have keep3 : ∀ b o, b ≠ D → b ≠ C → s₁.heap.get? b = some o → h₃.get? b = some o := fun b o hbD hbC e => sb₃.extBut b o hbD (hs₂.extBut b o hbC e)
        have nC3 : h₃.Ns C _ := hn₂.sameBut sb₃ hCD
        have sl : ∀ (S' : Shared), S'.os = s₁.os → AllBare S'.gens → S'.heap = h₃ → SlW D [C] v s₁ S' := fun S' e1 e2 e3 => by
          refine ⟨e1, e2, fun b o hbD hbC e => ?_, fun acc' c' e => ?_, fun b hb => ?_⟩
          · rw [e3]
            exact keep3 b o hbD (fun z => hbC (by rw [z]; exact List.mem_cons_self)) e
          · rw [hS1] at e
            cases e
            rw [e3]
            exact ⟨_, hD₃⟩
          · rw [List.mem_singleton.mp hb, e3]
            obtain ⟨o, es, ep, e, ed, _⟩ := nC3
            exact ⟨o, e, fun v z => by rw [ed] at z; cases z⟩
        cases n with
        | zero => exact False.elim (hk { s₁.setGen g gs' with heap := h₃ } (sl _ rfl (allBare_setGen hb1 hbare) rfl))
        | succ n =>
          obtain ⟨go, nm, qn, hgo1, hgr⟩ := hg1
          have haD : a ≠ D := by rw [← hD]; exact Nat.ne_of_lt h3
          have haC : a ≠ C := by
            rw [hC3, ← hD]
            exact Nat.ne_of_lt (Nat.lt_succ_of_lt h3)
          have cs : ∀ b o, s1.heap.get? b = some o → b ≠ D ∧ b ≠ C := fun b o e => by
            have := Heap.lt_size e
            rw [hC3, ← hD]
            exact ⟨Nat.ne_of_lt this, Nat.ne_of_lt (Nat.lt_succ_of_lt this)⟩
          refine ⟨n, Nat.lt_succ_self n, gs', acc1.push v, _, _, setGen_at hsz1, ?_, ⟨go, nm, qn, keep3 a go haD haC hgo1, hgr⟩, ?_, hD₃, nC3⟩
          · exact hk _ (sl _ rfl (allBare_setGen (allBare_setGen hb1 hbare) rfl) rfl)
          · obtain ⟨mc, hns', hnn⟩ := hl1
            refine ⟨mc, hns'.at' fun o e => ?_, hnn⟩
            obtain ⟨_, hcl, _⟩ := h8
            obtain ⟨oc, eso, epo, eoc, _⟩ := hcl
            obtain ⟨q1, q2⟩ := cs _ oc eoc
            exact keep3 _ o q1 q2 e
      · intro hsz
        obtain ⟨⟨H', ys, acc2, c2, q1, q2, q3, q4, q5, q6, q7, q8, q9, q10⟩, qW⟩ := hp
        have nC : s₁.heap.Ns C mm := hns.at' fun o e => qW C List.mem_cons_self o e
        have I2 := I1.drained (s' := { s₁.setGen g .finished with heap := h' }) (out := ys) (by rw [← hD]; exact hsc) q8 (hk _ _ q6) q7 .nil q1 (allBare_setGen q2 rfl) (q3.trans (Un.kept hk)) (q4.kept hk) q5
        refine ⟨mm, nC.keeps hk, fun h'' sb => ?_⟩
        have fC : FpOk X pins (upd H' D (.lst ys)) C := I1.fpOk (Nat.le_trans hsc (by rw [hC3, ← hD]; exact Nat.le_succ _)) (by rw [upd_ne hCD]; exact q10 C List.mem_cons_self)
        obtain ⟨f0, f1, f2, f3, f4, f5⟩ := fC
        exact ⟨.ref D, upd H' D (.lst ys), I2.turned (t' := s₁.toks) (fun b o hb e => (sb.2 b hb).trans e) f0 f1 f3 f4 f5, rfl, q9 D q5⟩
      · obtain ⟨hx, _⟩ := he
        obtain ⟨_, _, _, _, _, _, _, _, _, _, _, _, z⟩ := hx
        exact z.elim
    · refine ⟨.fresh c, #[], 0, fun _ => none, by rw [g4]; exact h5, ⟨rfl, ?_⟩, h4.keeps k14, h8.keeps k14, k34 _ _ hD3, n4⟩
      refine wake X.A.in1 D [C] (s4.setGen g .running) hr.in1 I1.ok.frames (Nat.le_of_eq hD) (fun b hb => ?_) k14 ⟨0, k34 _ _ hD3⟩ (o4.trans h6) (allBare_setGen (by rw [g4]; exact h7) rfl)
      rw [List.mem_singleton.mp hb]
      obtain ⟨o, es, ep, e, ed, _⟩ := n4
      exact ⟨by rw [hC3, ← hD]; exact Nat.le_succ _, hCD, o, e, fun v z => by rw [ed] at z; cases z⟩
  exact codeAny_compStart_list loop (wpAny_pyIter_gen (h4.keeps k14) loop)
/-! ### the def, by its text -/
/-- n slots, m parameters; what is walked is a list -/
def GnK (S : Sta) (Q : List V → Hp → Prop) (x : V) (H1 : Hp) : Prop := ∃ l xs, x = .ref l ∧ RdS S H1 l (.lst xs) ∧ Q xs H1
def spGF (S : Sta) (n m : Nat) (t : XK → TE) : SpG := fun vs H Q E => vs.length = m ∧ t E (start n vs) H fun x H1 => GnK S Q x H1
theorem ok_bodyGen {P : Program} {w : World} {K : PySem.W.Frag} {mg : Str → Option Value} {base : Heap} {S : Sta} {x qual : Str} {st : Stmt} {f : Addr} {fd : FuncData} {N ps : List Str} {n m k : Nat} {t : XK → TE} {y : Str} {iy : Nat} {py pz yp yq pos : Pos} {iter : Expr}
    (s0 : S = SK K) (F : Fun K x qual st f fd) (Sc : GScope N ps (defScope st)) (hn : N.length = n) (hm : ps.length = m) (hbd : defBody st = forY y py pz yp yq pos iter)
    (hy : N[iy]? = some y) (hyl : (defScope st).names.lookup y = some .local) (hd : (y == ("__debug__" : Str)) = false) (hcd : (y == ("__classdict__" : Str)) = false) (hs : ∀ env x, foldedSetIterable iter env x = pure x)
    (h : ∀ (cdv : Value) (A : Around) (outer : List Env) (s : Shared) (H : Hp) (E : XK) (pn : List (Addr × Obj)), Room k (A.deeper (envOfC qual (defScope st) s.heap.objs.size f cdv)) → PE (gcxOf P w K mg base N qual (defScope st) f cdv A outer s H E pn) iter (t E)) :
    GFnW P w K mg base (k + 1) f fd ps (spGF S n m t) := by
  subst hn
  subst hm
  obtain ⟨oc, od, kV, doc, pm, an, cdv, ct, osl, rfl, lk, hcdv⟩ := F.ex
  rw [hbd] at lk ⊢
  refine gfnW_of lk hcdv Sc hy hyl hd hcd hs (fun vs H Q E q => q.1) fun A outer s H vs Q E pn hr q => ⟨mo (t E), pe_mo (h cdv A outer s H E pn hr), _, q.2, fun x H1 ⟨l, xs, e, hl, hq⟩ => ⟨l, xs, e, sqL s0 hl, hq⟩⟩
/-! ### for .. in reversed(xs) -/
def ForRv (S : Sta) (g : TG) (s1 : TS) (nx : L2.St → Hp → Prop) (rt : VK) (x : V) (σ : L2.St) (H : Hp) : Prop := ∃ a xs, x = .ref a ∧ ∃ Pv : Nat → L2.St → Hp → Prop, Pv 0 σ H ∧ (∀ i σ H, i ≤ xs.length → Pv i σ H → RdS S H a (.lst xs)) ∧
  (∀ i y σ H, xs.reverse[i]? = some y → Pv i σ H → g y σ H fun σ' H' => s1 ⟨Pv (i + 1), rt, nx, Pv (i + 1)⟩ σ' H') ∧ ∀ σ H, Pv xs.length σ H → nx σ H
def sForRv (S : Sta) (te : TE) (g : TG) (tb : TS) : TS := fun D σ H => te σ H fun x H1 => ForRv S g tb D.nx D.rt x σ H1
theorem ps_forRv {X : Cx} {S : Sta} {tg l : Expr} {te : TE} {g : TG} {tb : TS} {body : List Stmt} {pos p pos2 : Pos} (st : S = SK X.K) (hp : PassesOwn (model X.prog X.w) X.A X.env X.xe) (hc : X.calm = true) (hgl : Gl X "reversed") (hm : X.mg "reversed" = none) (hl : PE X l te) (hg : PG X tg g) (hb : PSs X body tb)
    (hs : starEach [l] X.env = (false, eval l X.env) :: starEach [] X.env := by rfl) (hs1 : starEach [l] X.env = [(false, eval l X.env)] := by rfl) (hs' : ∀ x, foldedSetIterable (.Call (.Name "reversed" p) [l] [] pos2) X.env x = pure x := by intro _; rfl) :
    PS X (.For tg (.Call (.Name "reversed" p) [l] [] pos2) body [] pos) (sForRv S te g tb) :=
  ps_imp (ps_for hp hc (pi_reversed hgl hm (pa_cons (pe_mo hl) pa_nil hs) hs1) hg hb hs') fun D σ H q => ⟨_, q, fun x H1 ⟨a, xs, e, Pv, h0, hst, ht, hd⟩ => by
    subst e
    refine ⟨a, xs, rfl, sqL st (hst 0 _ _ (Nat.zero_le _) h0), ?_⟩
    refine ⟨fun i m σ H => m = xs.length - i ∧ i ≤ xs.length ∧ Pv i σ H, ⟨xs.length, by simp, Nat.zero_le _, h0⟩, ?_⟩
    rintro i m σ H ⟨rfl, hi, p⟩
    have q := sqL st (hst i σ H hi p)
    by_cases hlt : i < xs.length
    · have ej : xs[xs.length - 1 - i]? = some (xs[xs.length - 1 - i]'(by omega)) := List.getElem?_eq_getElem _
      refine .inr ⟨⟨hlt, xs, _, q, ej⟩, Pv (i + 1), fun σ' H' p' => ⟨xs.length - (i + 1), by omega, rfl, hlt, p'⟩, fun x H' y => ?_⟩
      obtain ⟨e, y⟩ := y
      subst e
      have y := y xs q
      refine ht i x σ _ ?_ p
      rw [List.getElem?_reverse hlt]
      exact y
    · have e : i = xs.length := by omega
      subst e
      exact .inl ⟨Nat.le_refl _, hd σ H p⟩⟩
end Y

/-! A property that is set; records (dicts with written keys); defs that get the exception in hand; is of truth values. -/
namespace Y
open PySem PySem.Spec PyProof.Rows L2
/-! ### o.f = v, f a property with a setter -/
structure PropSet (K : PySem.W.Frag) (C : Addr) (f : Str) (p g : Addr) : Prop where
  tk : PySem.W.takerIn K C f = some (some (.ref p))
  ty : PySem.W.typeIn K (.ref p) = some (.type "property")
  rec_ : ∃ a rest, PySem.W.recIn K p "property" = some (a :: .ref g :: rest)
def sPropS (C : Addr) (sp : Sp) (E : XK) (te tv : TE) : TS := fun D σ H => tv σ H fun y H1 => te σ H1 fun x H2 => ∃ a dx fs, x = .ref a ∧ H2 a = some (.ins C dx fs) ∧ sp [.ref a, y] H2 (fun _ H3 => D.nx σ H3) E
theorem ps_propSet {X : Cx} {CX : CXT} {k : Nat} {C p g : Addr} {f : Str} {fd : FuncData} {ps : List Str} {sp : Sp} {E : XK} {o ev : Expr} {pos pos' : Pos} {te tv : TE} (he : PE X o te) (hv : PE X ev tv) (c : Cls X.K C) (hp : PropSet X.K C f p g) (F : FnOk X.prog X.w X.K X.mg X.base CX k g fd ps sp) (hr : Room (k + 2) X.A) (hb : Binds X.K fd ps []) (hx : Passes CX X E)
    (hs : swapsWith ev (some (.Attribute o f pos')) pos.line X.env = pure false := by rfl) : PS X (.Assign [.Attribute o f pos'] ev pos) (sPropS C sp E te tv) := by
  refine ⟨fun pins s σ H D I h => ?_⟩
  refine plainObj_wpAny_Assign_Attribute (thn (hv.run pins s σ H _ I h) fun u s1 ⟨y, H1, I1, ry, q⟩ => thn (he.run pins s1 σ H1 _ I1 q) fun ov s2 ⟨x, H2, I2, rx, a, dx, fs, ex, ea, q2⟩ => ?_) hs
  subst ex
  obtain rfl : ov = Value.ref a := rx
  obtain ⟨mA, O, _, _, _, _⟩ := ins_get I2.hok ea
  obtain ⟨od, J, _⟩ := O.look
  obtain ⟨a0, rest, hrec⟩ := hp.rec_
  have I3 := I2.tok (s2.toks + 1)
  have rv : Vals [V.ref a, y] [Value.ref a, u] := .cons rfl (.cons ry .nil)
  have hl : ([Value.ref a, u] ++ []).length = ps.length := by
    rw [← F.len _ _ _ _ q2]
    rfl
  have hbn := hb { s2 with toks := s2.toks + 1 } [.ref a, u] I3.kIn hl
  rw [List.append_nil] at hbn
  refine PySem.W.set_plain I2.kIn J c.sa (PySem.W.osa_descr (s := { s2 with toks := s2.toks + 1 }) PySem.W.KF.slot_pset I3.kIn J c.po hp.tk hp.ty (PySem.W.prop_set (s := { s2 with toks := s2.toks + 1 }) I3.kIn hrec ?_))
  refine codeAny_mono (F.run X.A.in1.in1 X.stack { s2 with toks := s2.toks + 1 } H2 ⟨[.ref a, u], []⟩ [.ref a, u] [.ref a, y] (fun _ H3 => D.nx σ H3) E (show Room (k + 1) X.A.in1 from Room.in1 hr).in1 I3.env0.in1.in1 hbn rv q2) fun r s' hq => ?_
  cases r with
  | error er => exact hx pins σ H2 _ er s' I3 hq
  | ok fl =>
    cases fl with
    | ret w =>
      obtain ⟨v, H', I4, _, q3⟩ := I3.after hq
      exact ⟨σ, H', I4, q3⟩
    | next => exact False.elim hq
    | brk => exact False.elim hq
    | cont => exact False.elim hq
/-! ### records -/
abbrev Kvs := List (Key × V)
def RecK (k : Str) (Q : VK) (x : V) (H1 : Hp) : Prop := ∃ a kvs v, x = .ref a ∧ H1 a = some (.dK kvs) ∧ valV kvs (.inr k) = some v ∧ Q v H1
def tRec (te : TE) (k : Str) : TE := fun σ H Q => te σ H fun x H1 => RecK k Q x H1
def RecP (k : Str) (v : V) (QH : Hp → Prop) (x : V) (H2 : Hp) : Prop := ∃ a kvs, x = .ref a ∧ H2 a = some (.dK kvs) ∧ kvs.length < 1000 ∧ QH (upd H2 a (.dK (putK kvs (.inr k) v)))
def sRecP (te : TE) (k : Str) (tv : TE) : TS := fun D σ H => tv σ H fun v H1 => te σ H1 fun x H2 => RecP k v (D.nx σ) x H2
def tRecs : List (Str × TE) → L2.St → Hp → (Kvs → Hp → Prop) → Prop
  | [], _, H, Q => Q [] H
  | (k, t) :: r, σ, H, Q => t σ H fun y H1 => tRecs r σ H1 fun kvs H2 => Q ((.inr k, y) :: kvs) H2
def RecF (p : Addr) (Q : VK) (kvs : Kvs) (H2 : Hp) : Prop := H2 p = some (.dK []) ∧ kvs.length ≤ 15 ∧ mergeK [] kvs = kvs ∧ Q (.ref p) (upd H2 p (.dK kvs))
def tRecN (l : List (Str × TE)) : TE := fun σ H Q => ∀ p, H p = none → tRecs l σ (upd H p (.dK [])) (RecF p Q)
section
variable {X : Cx} {o ev : Expr} {pos pos' p2 : Pos} {te tv : TE} {k : Str} {j : Nat}
theorem pe_rec (hu : X.A.units + 1 < cLine) (ho : PE X o te) : PE X (.Subscript o (.Constant (.str k) j p2) pos) (tRec te k) :=
  pe_imp (pe_dget hu (pe_mo ho) (pe_str (x := k)) fun _ _ => rfl) fun σ H Q q => ⟨_, q, fun x H1 ⟨a, kvs, v, e, ea, ev, q1⟩ => ⟨a, v, e, by
    rw [← ev]
    exact DGet.k (k := .inr k) ea, q1⟩⟩
theorem ps_rec (hu : X.A.units + 1 < cLine) (ho : PE X o te) (hv : PE X ev tv) (hs : swapsWith ev (some (.Subscript o (.Constant (.str k) j p2) pos')) pos.line X.env = pure false := by rfl) : PS X (.Assign [.Subscript o (.Constant (.str k) j p2) pos'] ev pos) (sRecP te k tv) :=
  ps_imp (ps_dput hu (pe_mo ho) (pe_str (x := k)) (pe_mo hv) hs) fun D σ H q => ⟨_, q, fun v H1 q1 => ⟨_, q1, fun x H2 ⟨a, kvs, e, ea, hl, q2⟩ => ⟨a, _, e, DPut.k (k := .inr k) ea (by rw [sizeLine_eq]; omega), q2⟩⟩⟩
theorem tRecs_eq {σ : L2.St} : ∀ (l : List (Str × TE)) (H : Hp) (Q : List (V × V) → Hp → Prop), tPairs (l.map fun p => (tC (.str p.1), p.2)) σ H Q = tRecs l σ H fun kvs H' => Q (kvs.map fun kv => (kV kv.1, kv.2)) H'
  | [], _, _ => rfl
  | (k, t) :: r, H, Q => by
    show (t σ H fun y H2 => tPairs (r.map fun p => (tC (.str p.1), p.2)) σ H2 fun ps H3 => Q ((.str k, y) :: ps) H3) = t σ H fun y H1 => tRecs r σ H1 fun kvs H2 => Q ((.str k, y) :: kvs.map fun kv => (kV kv.1, kv.2)) H2
    congr 1
    funext y H1
    exact tRecs_eq r H1 fun ps H3 => Q ((.str k, y) :: ps) H3
theorem tRecs_mo {σ : L2.St} : ∀ {l : List (Str × TE)} {H : Hp} {Q Q' : Kvs → Hp → Prop}, tRecs l σ H Q → (∀ kvs H', Q kvs H' → Q' kvs H') → tRecs (l.map fun p => (p.1, mo p.2)) σ H Q'
  | [], _, _, _, h, k => k _ _ h
  | (_, _) :: _, _, _, _, h, k => ⟨_, h, fun y H1 h1 => tRecs_mo h1 fun kvs H' q => k _ H' q⟩
theorem pe_recN {keys : List (Option Expr)} {values : List Expr} {l : List (Str × TE)} (h : PPs X pos keys values (l.map fun p => (tC (.str p.1), mo p.2))) (hall : keys.all (·.isSome) = true) (hl : keys.length = values.length) (h0 : keys ≠ []) (h15 : keys.length ≤ 15) : PE X (.Dict keys values pos) (tRecN l) := by
  refine ⟨fun pins s σ H Q I q => ?_⟩
  refine (pe_disp h hall hl h0 h15).run pins s σ H Q I fun p hp => ?_
  have e : (l.map fun p => (tC (.str p.1), mo p.2)) = (l.map fun p => (p.1, mo p.2)).map fun p => (tC (.str p.1), p.2) := by rw [List.map_map]; rfl
  rw [e, tRecs_eq]
  exact tRecs_mo (q p hp) fun kvs H' ⟨q1, q2, q3, q4⟩ => ⟨q1, kvs, rfl, q2, by rw [q3]; exact q4⟩
theorem merge_of {kvs : Kvs} (h : (kvs.map (·.1)).Nodup) : mergeK [] kvs = kvs := by
  have key : ∀ (more acc : Kvs), ((acc ++ more).map (·.1)).Nodup → mergeK acc more = acc ++ more := by
    intro more
    induction more with
    | nil => intro acc _; exact (List.append_nil _).symm
    | cons p r ih =>
      intro acc h
      show mergeK (putK acc p.1 p.2) r = _
      have hn : (acc.any fun kv => decide (kv.1 = p.1)) = false := by
        rw [List.any_eq_false]
        intro kv m
        rw [decide_eq_true_eq]
        intro e
        rw [List.map_append, List.nodup_append] at h
        exact h.2.2 kv.1 (List.mem_map.mpr ⟨kv, m, rfl⟩) p.1 (List.mem_map.mpr ⟨p, List.mem_cons_self, rfl⟩) e
      unfold putK
      rw [hn, if_neg Bool.false_ne_true, ih (acc ++ [p]) (by rw [List.append_assoc]; exact h), List.append_assoc]
      rfl
  exact key kvs [] h
end
/-! ### is, of truth values -/
def rIsB : R2 := fun x y H Q => rIs x y H Q ∨ ∃ a b, x = .bl a ∧ y = .bl b ∧ Q (.bl (decide (a = b))) H
theorem o_isB {X : Cx} : OpR X (compareOp .Is) rIsB := fun pins s σ H x y u v Q I rx ry h => h.elim (fun h => o_is pins s σ H x y u v Q I rx ry h) fun h => op_is_bl pins s σ H x y u v Q I rx ry h
/-! ### a def that gets the exception in hand, called in an except suite -/
structure FnX (P : Program) (w : World) (K : PySem.W.Frag) (mg : Str → Option Value) (base : Heap) (CX : CXT) (k : Nat) (f : Addr) (fd : FuncData) (ps : List Str) (sp : Addr → Value → Option Addr → Sp) : Prop where
  ln : ∀ b cls d vs H Q E, sp b cls d vs H Q E → vs.length = ps.length
  go : ∀ (A : Around) (fs : List Env) (s : Shared) (H : Hp) (ar : Args) (us : List Value) (vs : List V) (Q : VK) (E : XK) (p : Addr × Obj) (cls : Value) (d : Option Addr), L2H.RoomH k A → L2H.PinOk fs H s p → Zc cls d p.2 → (∃ ws, p.2.data = .fields ws) → Env0 P w K mg base A fs s H → BindsTo s fd ar (ps.zip us) → Vals vs us → sp p.1 cls d vs H Q E → codeAny (model P w) A (.call (.ref f) ar) (CR CX fs P w H s Q E) s
theorem ok_bodyX {P : Program} {w : World} {K : PySem.W.Frag} {mg : Str → Option Value} {base : Heap} {x qual : Str} {st : Stmt} {f : Addr} {fd : FuncData} {N ps : List Str} {n m k : Nat} {t : Addr → Value → Option Addr → XK → TS} (F : Fun K x qual st f fd) (S : FnScope N ps (defScope st)) (hn : N.length = n) (hm : ps.length = m)
    (h : ∀ (cdv : Value) (A : Around) (outer : List Env) (s : Shared) (H : Hp) (E : XK) (p : Addr × Obj) (cls : Value) (d : Option Addr), L2H.RoomH k (A.deeper (envOfC qual (defScope st) s.heap.objs.size f cdv)) → Zc cls d p.2 → (∃ ws, p.2.data = .fields ws) → PSs (L2H.cxH (L2.CX P w) P w K mg base N qual (defScope st) f cdv A outer s H E p) (defBody st) (t p.1 cls d E)) : FnX P w K mg base (L2.CX P w) (k + 1) f fd ps fun b cls d => spB n m (t b cls d) := by
  subst hn hm
  obtain ⟨oc, od, kV, doc, pm, an, cdv, ct, osl, e, lk, hcd⟩ := F.ex
  subst e
  refine ⟨fun b cls d vs H Q E q => q.1, fun A fs s H ar us vs Q E p cls d hr hpin hz hf e0 hb rv hsp => ?_⟩
  have kX : K.In s.heap := e0.mod.kin.keeps fun b o z => (e0.bs b o z).1
  have nl : s.heap.NoLimit := e0.mod.nolimit.keeps fun b o z => (e0.bs b o z).1
  refine codeAny_call_function hr.depth (kX _ _ lk) rfl S.co S.gen rfl (PySem.W.codeRec_of kX hcd) (hb _ _ _ _ (wpAny_newFunctionEnv_cells S.kind ?_ ?_))
  · rintro ⟨n, v⟩ hy
    rcases S.par n (List.of_mem_zip hy).1 with z | z
    · exact Or.inl z
    · exact Or.inr ⟨z, PySem.W.cellsFrom_some _ _ _ (Or.inl z)⟩
  · intro env he s1 ic
    cases he
    refine ⟨nl.keeps ic.toInCall.keep, codeAny_func ?_⟩
    have J : Inv (L2H.cxH (L2.CX P w) P w K mg base N qual (defScope st) f cdv A fs s H E p) [] (L2.start N vs) H s1 := L2H.inv_startH S hpin e0 hsp.1 rv ic
    refine wpAny_mono ((h cdv A fs s H E p cls d (hr.deeper _) hz hf).run [] s1 (L2.start N vs) H { nx := fun _ H' => Q .non H', rt := Q } J hsp.2) ?_ (fun _ _ z => z)
    intro fl s' hs
    match fl, hs with
    | .ret u, ⟨v, σ', H', J', r', q'⟩ => exact ⟨v, H', J'.os, J'.bare, J'.base, J'.hok, r', q'⟩
    | .next, ⟨σ', H', J', q'⟩ => exact ⟨V.non, H', J'.os, J'.bare, J'.base, J'.hok, rfl, q'⟩
    | .brk, ⟨_, _, _, q'⟩ => exact q'.elim
    | .cont, ⟨_, _, _, q'⟩ => exact q'.elim
theorem pe_callX {X : Cx} {CX : CXT} {k : Nat} {f b : Addr} {oe : Obj} {cls : Value} {d : Option Addr} {fd : FuncData} {ps : List Str} {sp : Addr → Value → Option Addr → Sp} {E : XK} {x : Str} {p pos : Pos} {e : Expr} {es : List Expr} {t : TA} (F : FnX X.prog X.w X.K X.mg X.base CX k f fd ps sp) (hr : L2H.RoomH k X.A) (hp : (b, oe) ∈ X.pn) (hz : Zc cls d oe) (hf : ∃ ws, oe.data = .fields ws) (hg : Gl X x) (hm : X.mg x = some (.ref f)) (hk : PySem.W.keepIn X.K (.ref f) = true) (hb : Binds X.K fd ps []) (hx : Passes CX X E) (ha : PA X (e :: es) t)
    (hdb : (x == ("__debug__" : Str)) = false := by decide) (he : starEach (e :: es) X.env = (false, eval e X.env) :: starEach es X.env := by rfl) (hpl : (backTo pos (starEach es X.env)).any (·.1) = false := by rfl) : PE X (.Call (.Name x p) (e :: es) [] pos) (tCall (sp b cls d) [] E t) := by
  constructor
  intro pins s σ H Q J h
  refine wpAny_Call_Name_kw (ld_glob J hg hm (PySem.W.callWith_K (h₀ := X.base) J.ok.mod.kin hk (thn (ha.run pos pins s σ H _ J h) ?_) he hpl) hdb)
  rintro us s1 ⟨vs, H1, J1, rv, q⟩
  rw [List.append_nil] at q
  refine ⟨J1.kIn, ?_⟩
  have ll : (us ++ []).length = ps.length := by rw [List.append_nil, ← rv.length, F.ln _ _ _ _ _ _ _ q]
  have hb1 := hb s1 us J1.kIn ll
  rw [List.append_nil] at hb1
  have P1 := J1.pin (b, oe) (List.mem_append_left _ hp)
  refine wpAny_call (codeAny_mono (F.go X.A X.stack s1 H1 ⟨us, []⟩ us vs Q E (b, oe) cls d hr ⟨P1.1, P1.2.1, fun hm => (List.mem_cons.mp (J1.stkSub b hm)).elim P1.2.2.1 P1.2.2.2.1, P1.2.2.2.2⟩ hz hf J1.env0 hb1 rv q) ?_)
  intro r s' z
  match r, z with
  | .error e', z => exact hx pins σ H1 s1 e' s' J1 z
  | .ok (.ret u), z => exact J1.after z
theorem units1 {A : Around} (h : A.units + 64 < cLine) : A.units + 1 < cLine := by omega
theorem c_isXH {X : Cx} {a : Addr} {oe : Obj} {cls : Value} {d : Option Addr} {tbl : List (Value × V × Bool)} (hp : (a, oe) ∈ X.pn) (T : ∀ p ∈ tbl, IsOk X.K p.1 p.2.1 p.2.2) (hz : Zc cls d oe) (hf : ∃ vs, oe.data = .fields vs) :
    CallR X (.builtin "isinstance") (rIsX tbl a cls d) := by
  intro pins s σ H xs us Q I r h
  rcases h with ⟨c, b, rfl, m, ⟨dd, fs, ed, ea⟩, q⟩ | h
  · obtain ⟨D, cv, ec, C, hcv, e⟩ := (T _ m).ex
    cases r with
    | cons rx rr =>
      cases rr with
      | cons rt rr =>
        cases rr
        obtain rfl := hcv _ rt
        cases rx
        obtain ⟨vs, hv⟩ := hf
        have hget := (I.pin (a, oe) (List.mem_append_left _ hp)).1
        have ho : ObjOk X.prog X.w H s.heap dd (.xd fs) := I.hok dd _ ea
        obtain ⟨mA, ⟨od, es, ep, ho, _⟩, _⟩ := ho
        have J : PySem.W.InstAt s.heap a oe D (some od) := ⟨hget, by rw [hz.1]; exact ec, by unfold PySem.W.notCls; rw [hv] <;> rfl, by rw [hz.2, ed]; exact ho⟩
        have hcl : (PySem.W.clsIn X.K D).isSome = true := by
          obtain ⟨cd, hc, _⟩ := PySem.W.any_some C.hd
          rw [hc]
          rfl
        exact PySem.W.kia_one (PySem.W.kitx_exc hcl C.hg C.hk C.hs C.ha C.hn C.ht C.hm) I.kIn J e (fun z => nomatch z) fun tk => ⟨.bl b, H, I.kept (t' := tk) fun _ _ z => z, rfl, q⟩
  · exact c_isi pins s σ H xs us Q I r h
end Y

/-! Dicts: len, list. -/
namespace Y
open PySem PySem.Spec PyProof.Rows L2
def rLenD (xs : List V) (H : Hp) (Q : VK) : Prop := ∃ a kvs, xs = [V.ref a] ∧ H a = some (.dK kvs) ∧ Q (.int (kvs.length : Nat)) H
theorem c_lenD {X : Cx} : CallR X (.builtin "len") rLenD := call_lenD
def rListD (xs : List V) (H : Hp) (Q : VK) : Prop := ∃ (a : Addr) (kvs : List (Key × V)), xs = [V.ref a] ∧ H a = some (.dK kvs) ∧ ∀ p, H p = none → Q (.ref p) (upd H p (.lst (kvs.map fun kv => kV kv.1)))
theorem c_listD {X : Cx} (hc : X.calm = true) : CallR X (.type "list") rListD := call_imp (call_listD hc) fun xs H Q ⟨a, kvs, e, h, q⟩ => ⟨a, kvs, e, .inl h, q⟩
end Y

/-! Symbolic execution of readings: what is known of a heap (FH), one rule a construct. -/
namespace Y
open PySem PySem.Spec PyProof.Rows L2

/-! ### what is known of a heap -/
/-- tuples stay -/
def Per (H H' : Hp) : Prop := ∀ t xs, H t = some (.tup xs) → H' t = some (.tup xs)
theorem Per.refl (H : Hp) : Per H H := fun _ _ h => h
theorem per_new {H : Hp} {p : Addr} {o : HO} (h : H p = none) : Per H (upd H p o) := fun t xs e => (upd_ne (ne_of_none e h)).trans e
def NoTup : HO → Prop
  | .tup _ => False
  | _ => True
theorem per_put {H : Hp} {p : Addr} {o o' : HO} (h : H p = some o) (n : NoTup o) : Per H (upd H p o') := fun t xs e => by
  refine (upd_ne ?_).trans e
  intro z
  subst z
  rw [h] at e
  cases e
  exact n
/-- a statement of the object at an address and of the objects that it owns -/
structure Pr where
  s : Addr → Hp → List Addr → Prop
  loc : ∀ {p H H' ks}, s p H ks → (∀ a ∈ ks, H' a = H a) → Per H H' → s p H' ks
  liv : ∀ {p H ks}, s p H ks → ∀ a ∈ ks, H a ≠ none
  key : ∀ {p H ks}, s p H ks → p ∈ ks
abbrev Ent := Addr × Pr
inductive FHs (H : Hp) : List Ent → List Addr → Prop
  | nil : FHs H [] []
  | cons {p φ k L ks} (h : φ.s p H k) (r : FHs H L ks) (nd : k.Nodup) (dj : ∀ a ∈ k, a ∉ ks) : FHs H ((p, φ) :: L) (k ++ ks)
class FH (H : Hp) (L : outParam (List Ent)) : Prop where
  ex : ∃ ks, FHs H L ks
/-- of the object alone -/
def lift (φ : HO → Prop) : Pr where
  s := fun p H ks => ks = [p] ∧ ∃ o, H p = some o ∧ φ o
  loc := fun {p H H' ks} ⟨e, o, h, hφ⟩ k _ => ⟨e, o, (k p (by rw [e]; exact List.mem_cons_self)).trans h, hφ⟩
  liv := fun {p H ks} ⟨e, o, h, _⟩ a m => by
    rw [e] at m
    have e2 : a = p := by simpa using m
    rw [e2, h]
    simp
  key := fun {p H ks} ⟨e, _⟩ => by rw [e]; exact List.mem_cons_self
def Is (o : HO) : Pr := lift fun x => x = o
/-- a list that is read: tracked or locked -/
def IsR (xs : List V) : Pr := lift fun x => x = .lst xs ∨ ∃ o, x = .frz o (.lst xs)
inductive Put (p : Addr) (φ φ' : Pr) : List Ent → List Ent → Prop where
  | here {L} : Put p φ φ' ((p, φ) :: L) ((p, φ') :: L)
  | there {q L L'} (h : Put p φ φ' L L') : Put p φ φ' (q :: L) (q :: L')
section
variable {H H' : Hp} {L L' R : List Ent} {p q : Addr} {o o' : HO} {φ φ' : Pr} {xs : List V} {ks : List Addr} {x y : Ent}
theorem FHs.liv (F : FHs H L ks) : ∀ a ∈ ks, H a ≠ none := by
  induction F with
  | nil => intro a m; cases m
  | cons h r nd dj ih => exact fun a m => (List.mem_append.mp m).elim (Pr.liv _ h a) (ih a)
theorem FHs.keep (F : FHs H L ks) (k : ∀ a ∈ ks, H' a = H a) (e : Per H H') : FHs H' L ks := by
  induction F with
  | nil => exact .nil
  | cons h r nd dj ih => exact .cons (Pr.loc _ h (fun a m => k a (List.mem_append_left _ m)) e) (ih fun a m => k a (List.mem_append_right _ m)) nd dj
theorem FHs.nodup (F : FHs H L ks) : ks.Nodup := by
  induction F with
  | nil => exact List.nodup_nil
  | cons h r nd dj ih => exact List.nodup_append.mpr ⟨nd, ih, fun a m b m' e => dj a m (e ▸ m')⟩
theorem FHs.mem (F : FHs H L ks) (m : (p, φ) ∈ L) : ∃ k, φ.s p H k ∧ ∀ a ∈ k, a ∈ ks := by
  induction F with
  | nil => cases m
  | cons h r nd dj ih =>
    rcases List.mem_cons.mp m with e | m
    · cases e
      exact ⟨_, h, fun a m => List.mem_append_left _ m⟩
    · obtain ⟨k, h1, h2⟩ := ih m
      exact ⟨k, h1, fun a m => List.mem_append_right _ (h2 a m)⟩
theorem FHs.perm (F : FHs H L ks) (e : L.Perm L') : ∃ ks', FHs H L' ks' ∧ ks.Perm ks' := by
  induction e generalizing ks with
  | nil => exact ⟨_, F, List.Perm.refl _⟩
  | cons x _ ih =>
    cases F with
    | cons h r nd dj =>
      obtain ⟨ks', r', e'⟩ := ih r
      exact ⟨_, .cons h r' nd (fun a m m' => dj a m (e'.mem_iff.mpr m')), e'.append_left _⟩
  | swap x y l =>
    cases F with
    | cons h r nd dj =>
      cases r with
      | @cons p2 φ2 k2 L2 ks2 h2 r2 nd2 dj2 =>
        rename_i k1
        refine ⟨_, .cons h2 (.cons h r2 nd fun a m m' => dj a m (List.mem_append_right _ m')) nd2 fun a m m' => ?_, ?_⟩
        · rcases List.mem_append.mp m' with m' | m'
          · exact dj a m' (List.mem_append_left _ m)
          · exact dj2 a m m'
        · rw [← List.append_assoc, ← List.append_assoc]
          exact List.perm_append_comm.append_right _
  | trans _ _ ih1 ih2 =>
    obtain ⟨k1, F1, e1⟩ := ih1 F
    obtain ⟨k2, F2, e2⟩ := ih2 F1
    exact ⟨k2, F2, e1.trans e2⟩
theorem FHs.app {A B : List Ent} : ∀ {ks : List Addr}, FHs H (A ++ B) ks → ∃ k1 k2, FHs H A k1 ∧ FHs H B k2 ∧ ks = k1 ++ k2 := by
  induction A with
  | nil => exact fun {ks} F => ⟨[], ks, .nil, F, rfl⟩
  | cons x A ih =>
    intro ks F
    cases F with
    | cons h r nd dj =>
      obtain ⟨k1, k2, F1, F2, e⟩ := ih r
      subst e
      exact ⟨_, k2, .cons h F1 nd (fun a m m' => dj a m (List.mem_append_left _ m')), F2, (List.append_assoc _ _ _).symm⟩
theorem FHs.join {A B : List Ent} {k1 k2 : List Addr} (F1 : FHs H A k1) (F2 : FHs H B k2) (dj : ∀ a ∈ k1, a ∉ k2) : FHs H (A ++ B) (k1 ++ k2) := by
  induction F1 with
  | nil => exact F2
  | cons h r nd dj' ih =>
    rw [List.append_assoc]
    refine .cons h (ih fun a m => dj a (List.mem_append_right _ m)) nd fun a m m' => ?_
    rcases List.mem_append.mp m' with m' | m'
    · exact dj' a m m'
    · exact dj a (List.mem_append_left _ m) m'
theorem FHs.sub (F : FHs H L ks) (s : L'.Sublist L) : ∃ ks', FHs H L' ks' ∧ ks'.Sublist ks := by
  induction s generalizing ks with
  | slnil => exact ⟨_, F, List.Sublist.refl _⟩
  | cons x _ ih =>
    cases F with
    | cons h r nd dj =>
      obtain ⟨ks', r', e'⟩ := ih r
      exact ⟨ks', r', e'.trans (List.sublist_append_right _ _)⟩
  | cons_cons x _ ih =>
    cases F with
    | cons h r nd dj =>
      obtain ⟨ks', r', e'⟩ := ih r
      exact ⟨_, .cons h r' nd (fun a m m' => dj a m (e'.subset m')), (List.Sublist.refl _).append e'⟩
theorem FH.is (F : FH H L) {φ : HO → Prop} (m : (p, lift φ) ∈ L) : ∃ o, H p = some o ∧ φ o := by
  obtain ⟨ks, F⟩ := F.ex
  obtain ⟨k, ⟨_, h⟩, _⟩ := F.mem m
  exact h
theorem FH.get (F : FH H L) (m : (p, Is o) ∈ L) : H p = some o := by
  obtain ⟨o', h, e⟩ := F.is m
  exact h.trans (congrArg some e)
theorem FH.getR (F : FH H L) (m : (p, IsR xs) ∈ L) : Rd H p (.lst xs) := by
  obtain ⟨o', h, e | ⟨o, e⟩⟩ := F.is m
  · subst e; exact .inl h
  · subst e; exact .inr ⟨o, h⟩
theorem RdS.of {S : Sta} {u : HO} (h : Rd H p u) : RdS S H p u := .inl h
theorem FHs.other (F : FHs H L ks) (h : H p = none) : FHs (upd H p o) L ks := F.keep (fun a m => upd_ne fun e => F.liv a m (by rw [e]; exact h)) (per_new h)
theorem FH.other (F : FH H L) (h : H p = none) : FH (upd H p o) L := by
  obtain ⟨ks, F⟩ := F.ex
  exact ⟨ks, F.other h⟩
theorem FH.new (F : FH H L) (h : H p = none) : FH (upd H p o) ((p, Is o) :: L) := by
  obtain ⟨ks, F⟩ := F.ex
  refine ⟨[p] ++ ks, .cons ⟨rfl, o, upd_same, rfl⟩ (F.other h) (by simp) fun a m m' => ?_⟩
  have e : a = p := by simpa using m
  exact F.liv a m' (by rw [e]; exact h)
theorem Put.mem (m : Put p φ φ' L L') : (p, φ) ∈ L := by
  induction m with
  | here => exact List.mem_cons_self
  | there _ ih => exact List.mem_cons_of_mem _ ih
theorem Put.perm (m : Put p φ φ' L L') : ∃ R, L.Perm ((p, φ) :: R) ∧ L'.Perm ((p, φ') :: R) := by
  induction m with
  | @here L => exact ⟨L, List.Perm.refl _, List.Perm.refl _⟩
  | @there q _ _ _ ih =>
    obtain ⟨R, h1, h2⟩ := ih
    exact ⟨q :: R, (h1.cons _).trans (List.Perm.swap _ _ _), (h2.cons _).trans (List.Perm.swap _ _ _)⟩
theorem FHs.put (F : FHs H L ks) (m : Put p (Is o) (Is o') L L') (n : NoTup o) (h : H p = some o) : FHs (upd H p o') L' ks := by
  induction m generalizing ks with
  | here =>
    cases F with
    | cons h' r nd dj =>
      obtain ⟨e, _⟩ := h'
      subst e
      exact .cons ⟨rfl, o', upd_same, rfl⟩ (r.keep (fun a m => upd_ne fun e => dj a (by rw [e]; exact List.mem_cons_self) m) (per_put h n)) nd dj
  | there m ih =>
    cases F with
    | @cons p1 φ1 k1 L1 ks1 h' r nd dj =>
      have hp : p ∈ ks1 := by
        obtain ⟨k, hk, hs⟩ := r.mem m.mem
        exact hs p (Pr.key _ hk)
      exact .cons (Pr.loc _ h' (fun a m => upd_ne fun e => dj a m (by rw [e]; exact hp)) (per_put h n)) (ih r) nd dj
theorem FH.put (F : FH H L) (m : Put p (Is o) (Is o') L L') (n : NoTup o) : FH (upd H p o') L' := by
  have h := F.get m.mem
  obtain ⟨ks, F⟩ := F.ex
  exact ⟨ks, F.put m n h⟩
theorem FHs.weak (F : FHs H L ks) (m : Put p φ φ' L L') (i : ∀ k, φ.s p H k → φ'.s p H k) : FHs H L' ks := by
  induction m generalizing ks with
  | here =>
    cases F with
    | cons h' r nd dj => exact .cons (i _ h') r nd dj
  | there m ih =>
    cases F with
    | cons h' r nd dj => exact .cons h' (ih r) nd dj
/-- an entry says something else -/
theorem FH.weak (F : FH H L) (m : Put p φ φ' L L') (i : ∀ k, φ.s p H k → φ'.s p H k) : FH H L' := by
  obtain ⟨ks, F⟩ := F.ex
  exact ⟨ks, F.weak m i⟩
theorem FH.open_ {φ : HO → Prop} (F : FH H L) (m : (p, lift φ) ∈ L) : ∃ o, φ o ∧ ∀ L', Put p (lift φ) (Is o) L L' → FH H L' := by
  obtain ⟨o, h, hφ⟩ := F.is m
  exact ⟨o, hφ, fun L' pu => F.weak pu fun k ⟨e, _⟩ => ⟨e, o, h, rfl⟩⟩
theorem FH.close {φ : HO → Prop} (F : FH H L) (hφ : φ o) (pu : Put p (Is o) (lift φ) L L') : FH H L' := F.weak pu fun k ⟨e, o', h, e'⟩ => ⟨e, o', h, by rw [e']; exact hφ⟩
theorem FH.sub (F : FH H L) (s : L'.Sublist L) : FH H L' := by
  obtain ⟨ks, F⟩ := F.ex
  obtain ⟨ks', F', _⟩ := F.sub s
  exact ⟨ks', F'⟩
theorem FH.tail (F : FH H (x :: L)) : FH H L := F.sub (List.sublist_cons_self _ _)
theorem FH.one {x : Ent} (F : FH H L) (m : x ∈ L) : FH H [x] := F.sub (List.singleton_sublist.mpr m)
theorem FH.perm (F : FH H L) (e : L.Perm L') : FH H L' := by
  obtain ⟨ks, F⟩ := F.ex
  obtain ⟨ks', F', _⟩ := F.perm e
  exact ⟨ks', F'⟩
theorem FH.nil : FH H [] := ⟨[], .nil⟩
/-- an entry to the front -/
theorem pull (m : x ∈ L) : ∃ R, L.Perm (x :: R) := by
  obtain ⟨s, t, e⟩ := List.append_of_mem m
  subst e
  exact ⟨s ++ t, List.perm_middle⟩
theorem pull2 (m : x ∈ L) (m' : y ∈ L) (ne : x.1 ≠ y.1) : ∃ R, L.Perm (x :: y :: R) := by
  obtain ⟨R, h⟩ := pull m
  have m2 := h.mem_iff.mp m'
  rcases List.mem_cons.mp m2 with e | m2
  · exact absurd (congrArg Prod.fst e).symm ne
  · obtain ⟨R', h'⟩ := pull m2
    exact ⟨R', h.trans (h'.cons _)⟩
theorem FH.diff {φ ψ : HO → Prop} (F : FH H L) (m : (p, lift φ) ∈ L) (m' : (q, lift ψ) ∈ L) (h : ∀ o, φ o → ψ o → False) : p ≠ q := by
  intro e
  subst e
  obtain ⟨o, h1, ho⟩ := F.is m
  obtain ⟨o', h2, ho'⟩ := F.is m'
  rw [h1] at h2
  cases h2
  exact h o ho ho'
/-! a thing of several objects -/
def comp {α : Type} (E : Addr → α → List Ent) (P : α → Prop) : Pr where
  s := fun p H ks => p ∈ ks ∧ ∃ a, P a ∧ FHs H (E p a) ks
  loc := fun {p H H' ks} ⟨m, a, h, F⟩ k e => ⟨m, a, h, F.keep k e⟩
  liv := fun {p H ks} ⟨m, a, h, F⟩ => F.liv
  key := fun {p H ks} ⟨m, _⟩ => m
theorem FH.unfold {α : Type} {E : Addr → α → List Ent} {P : α → Prop} (F : FH H ((p, comp E P) :: L)) : ∃ a, P a ∧ FH H (E p a ++ L) := by
  obtain ⟨ks, F⟩ := F.ex
  cases F with
  | cons h r nd dj =>
    obtain ⟨m, a, hp, F'⟩ := h
    exact ⟨a, hp, _, F'.join r dj⟩
theorem FH.fold {α : Type} {E : Addr → α → List Ent} {P : α → Prop} (a : α) (hp : P a) (F : FH H (E p a ++ L)) (m : p ∈ (E p a).map (·.1)) : FH H ((p, comp E P) :: L) := by
  obtain ⟨ks, F⟩ := F.ex
  obtain ⟨k1, k2, F1, F2, e⟩ := F.app
  subst e
  have nd := List.nodup_append.mp (F1.join F2 (fun a m m' => (List.nodup_append.mp F.nodup).2.2 a m a m' rfl)).nodup
  obtain ⟨x, hx, ex⟩ := List.mem_map.mp m
  obtain ⟨k, hk, hs⟩ := F1.mem (p := x.1) (φ := x.2) hx
  exact ⟨k1 ++ k2, .cons ⟨by rw [← ex]; exact hs _ (Pr.key _ hk), a, hp, F1⟩ F2 nd.1 fun a m m' => nd.2.2 a m a m' rfl⟩
end
/-- x is taken out of L -/
inductive Take (x : Ent) : List Ent → List Ent → Prop where
  | here {L} : Take x (x :: L) L
  | there {y L L'} (h : Take x L L') : Take x (y :: L) (y :: L')
/-- some of L, in any order -/
inductive Sel : List Ent → List Ent → Prop where
  | nil {L} : Sel [] L
  | all {L} : Sel L L
  | cons {x R L L'} (h : Take x L L') (s : Sel R L') : Sel (x :: R) L
  | drop {x R L} (s : Sel R L) : Sel R (x :: L)
theorem Take.perm {x : Ent} {L L' : List Ent} (h : Take x L L') : L.Perm (x :: L') := by
  induction h with
  | here => exact List.Perm.refl _
  | there _ ih => exact (ih.cons _).trans (List.Perm.swap _ _ _)
theorem Sel.ok {R L : List Ent} (s : Sel R L) : ∃ M, L.Perm (R ++ M) := by
  induction s with
  | nil => exact ⟨_, List.Perm.refl _⟩
  | all => exact ⟨[], by rw [List.append_nil]⟩
  | cons h _ ih =>
    obtain ⟨M, e⟩ := ih
    exact ⟨M, h.perm.trans (e.cons _)⟩
  | @drop x _ _ _ ih =>
    obtain ⟨M, e⟩ := ih
    exact ⟨x :: M, (e.cons x).trans List.perm_middle.symm⟩
theorem FH.sel {H : Hp} {L R : List Ent} (F : FH H L) (s : Sel R L) : FH H R := by
  obtain ⟨M, e⟩ := s.ok
  exact (F.perm e).sub (List.sublist_append_left _ _)

/-! ### one rule a construct -/
abbrev K0 := L2.St → Hp → Prop
section
variable {σ : L2.St} {H H' : Hp} {Q : VK} {QB : Bool → Hp → Prop} {QL : List V → Hp → Prop} {QO : Option Int → Hp → Prop} {QS : L2.St → Hp → Prop} {te ta tb tc : TE} {t u : TT} {tl : TA} {r r' : R2} {rc : List V → Hp → VK → Prop} {s1 s2 : TS} {nx bk ct : K0} {rt : VK} {v x y : V} {g : TG} {i j : Int} {b : Bool} {E : XK} {sp : Sp} {C : Addr} {P : Prop} [Decidable P] {A B : Prop} {S : Sta}
theorem is_var {n : Nat} (h : tVar n σ H Q) : tVar n σ H Q := h
theorem is_g {n : Nat} (h : gName n v σ H QS) : gName n v σ H QS := h
theorem is_au {n : Nat} {te : TE} {ti : TIp} {D : Ends} (h : tAug n te ti D σ H) : tAug n te ti D σ H := h
theorem is_ml {n : Nat} {D : List V} (h : eMakeL n C sp D E tl σ H Q) : eMakeL n C sp D E tl σ H Q := h
theorem is_isi {l : List V} (h : rIsI l H Q) : rIsI l H Q := h
theorem is_pow (h : rPow x y H Q) : rPow x y H Q := h
theorem is_ix (h : rIx S x y H Q) : rIx S x y H Q := h
theorem is_len {l : List V} (h : rLen S l H Q) : rLen S l H Q := h
theorem is_sl {x : V} {lo hi : Option Int} (h : rSl S x lo hi H Q) : rSl S x lo hi H Q := h
theorem is_eq (h : rEq x y H Q) : rEq x y H Q := h
theorem is_ne (h : rNe x y H Q) : rNe x y H Q := h
theorem is_is (h : rIs x y H Q) : rIs x y H Q := h
theorem is_isn (h : rIsNot x y H Q) : rIsNot x y H Q := h
theorem x_c (h : Q v H) : tC v σ H Q := h
theorem x_con (h : Q v H) : eCon v σ H Q := h
theorem x_op (h : ta σ H fun x H1 => tb σ H1 fun y H2 => r x y H2 Q) : tOp r ta tb σ H Q := h
theorem x_un {ru : V → Hp → VK → Prop} (h : ta σ H fun x H1 => ru x H1 Q) : tUn ru ta σ H Q := h
theorem x_add (h : Q (.int (i + j)) H) : rAdd (.int i) (.int j) H Q := .inl ⟨i, j, rfl, rfl, h⟩
theorem x_sub (h : Q (.int (i - j)) H) : rSub (.int i) (.int j) H Q := ⟨i, j, rfl, rfl, h⟩
theorem x_mul (c : CMul i j) (h : Q (.int (i * j)) H) : rMul (.int i) (.int j) H Q := ⟨i, j, rfl, rfl, c, h⟩
theorem x_fdiv (c : CDivW i j) (h : Q (.int (i / j)) H) : rFdiv (.int i) (.int j) H Q := ⟨i, j, rfl, rfl, c, h⟩
theorem x_mod (c : 0 < j) (h : Q (.int (i % j)) H) : rMod (.int i) (.int j) H Q := ⟨i, j, rfl, rfl, c, h⟩
theorem x_pow (c : CPow i j) (h : Q (.int (i ^ j.toNat)) H) : rPow (.int i) (.int j) H Q := ⟨i, j, rfl, rfl, c, h⟩
theorem x_shl (c : CPow i j) (h : Q (.int (i * 2 ^ j.toNat)) H) : rShl (.int i) (.int j) H Q := ⟨i, j, rfl, rfl, c, h⟩
theorem x_band (h : Q (.int (Builtin.bitAnd i j)) H) : rAnd (.int i) (.int j) H Q := ⟨i, j, rfl, rfl, h⟩
theorem x_neg (h : Q (.int (-i)) H) : rNeg (.int i) H Q := ⟨i, rfl, h⟩
theorem x_lt (h : Q (.bl (decide (i < j))) H) : rLt (.int i) (.int j) H Q := ⟨i, j, rfl, rfl, h⟩
theorem x_le (h : Q (.bl (decide (i ≤ j))) H) : rLe (.int i) (.int j) H Q := ⟨i, j, rfl, rfl, h⟩
theorem x_gt (h : Q (.bl (decide (j < i))) H) : rGt (.int i) (.int j) H Q := ⟨i, j, rfl, rfl, h⟩
theorem x_ge (h : Q (.bl (decide (j ≤ i))) H) : rGe (.int i) (.int j) H Q := ⟨i, j, rfl, rfl, h⟩
theorem x_eqI (h : Q (.bl (decide (i = j))) H) : rEq (.int i) (.int j) H Q := ⟨rfl, by rw [show decide (V.int i = V.int j) = decide (i = j) by rw [Bool.eq_iff_iff]; simp]; exact h⟩
theorem x_neI (h : Q (.bl (decide (i ≠ j))) H) : rNe (.int i) (.int j) H Q := ⟨rfl, by rw [show (!decide (V.int i = V.int j)) = decide (i ≠ j) by rw [Bool.eq_iff_iff]; simp]; exact h⟩
theorem x_eqB {a b : Bool} (h : Q (.bl (decide (a = b))) H) : rEq (.bl a) (.bl b) H Q := ⟨rfl, by rw [show decide (V.bl a = V.bl b) = decide (a = b) by rw [Bool.eq_iff_iff]; simp]; exact h⟩
theorem x_neB {a b : Bool} (h : Q (.bl (decide (a ≠ b))) H) : rNe (.bl a) (.bl b) H Q := ⟨rfl, by rw [show (!decide (V.bl a = V.bl b)) = decide (a ≠ b) by rw [Bool.eq_iff_iff]; simp]; exact h⟩
theorem x_eqS {a b : Str} (h : Q (.bl (decide (a = b))) H) : rEq (.str a) (.str b) H Q := ⟨rfl, by rw [show decide (V.str a = V.str b) = decide (a = b) by rw [Bool.eq_iff_iff]; simp]; exact h⟩
theorem x_neS {a b : Str} (h : Q (.bl (decide (a ≠ b))) H) : rNe (.str a) (.str b) H Q := ⟨rfl, by rw [show (!decide (V.str a = V.str b)) = decide (a ≠ b) by rw [Bool.eq_iff_iff]; simp]; exact h⟩
theorem x_isN (h : Q (.bl true) H) : rIs .non .non H Q := ⟨rfl, h⟩
theorem x_isnN (h : Q (.bl false) H) : rIsNot .non .non H Q := ⟨rfl, h⟩
theorem x_isI (h : Q (.bl false) H) : rIs (.int i) .non H Q := ⟨rfl, h⟩
theorem x_isnI (h : Q (.bl true) H) : rIsNot (.int i) .non H Q := ⟨rfl, h⟩
theorem x_isR (h : Q (.bl false) H) : rIs (.ref C) .non H Q := ⟨rfl, h⟩
theorem x_isnR (h : Q (.bl true) H) : rIsNot (.ref C) .non H Q := ⟨rfl, h⟩
theorem x_isB (h : Q (.bl false) H) : rIs (.bl b) .non H Q := ⟨rfl, h⟩
theorem x_isnB (h : Q (.bl true) H) : rIsNot (.bl b) .non H Q := ⟨rfl, h⟩
/-! tests -/
theorem x_test (h : te σ H fun x H' => ∃ k, x = .bl k ∧ QB k H') : tTest te σ H QB := h
theorem x_tB (h : te σ H fun x H' => ∃ k, x = .bl k ∧ QB k H') : tB te σ H QB := h
theorem x_bl {QK : Bool → Prop} (h : QK b) : ∃ k, V.bl b = .bl k ∧ QK k := ⟨b, rfl, h⟩
theorem x_not (h : t σ H fun c H1 => QB (!c) H1) : tNot t σ H QB := h
theorem x_and (h : t σ H fun c H1 => if c = true then u σ H1 QB else QB false H1) : tAnd t u σ H QB := h
theorem x_or (h : t σ H fun c H1 => if c = true then QB true H1 else u σ H1 QB) : tOr t u σ H QB := h
theorem x_andV (h : ta σ H fun x H1 => ∃ c, x = .bl c ∧ if c = true then tb σ H1 Q else Q (.bl false) H1) : tAndV ta tb σ H Q := h
theorem x_orV (h : ta σ H fun x H1 => ∃ c, x = .bl c ∧ if c = true then Q (.bl true) H1 else tb σ H1 Q) : tOrV ta tb σ H Q := h
theorem x_notV (h : ta σ H fun x H1 => ∃ c, x = .bl c ∧ Q (.bl (!c)) H1) : tNotV ta σ H Q := h
theorem x_tIf (h : t σ H fun c H1 => if c = true then ta σ H1 Q else tb σ H1 Q) : tIf t ta tb σ H Q := h
theorem x_chain (h : ta σ H fun x H1 => tb σ H1 fun y H2 => r x y H2 fun z H3 => ∃ k, z = .bl k ∧ (if k = true then tc σ H3 fun w' H4 => r' y w' H4 Q else Q (.bl false) H3)) : tChain r r' ta tb tc σ H Q := h
/-! decisions -/
theorem x_ite (h1 : P → A) (h2 : ¬ P → B) : if decide P = true then A else B := by
  by_cases h : P
  · rw [if_pos (decide_eq_true h)]; exact h1 h
  · rw [if_neg (by rw [decide_eq_false h]; exact Bool.false_ne_true)]; exact h2 h
theorem x_niteP (h1 : ¬ P → A) (h2 : P → B) : if (!decide P) = true then A else B := by
  by_cases h : P
  · rw [decide_eq_true h, if_neg (by simp)]; exact h2 h
  · rw [decide_eq_false h, if_pos (by simp)]; exact h1 h
theorem x_iteT (h : A) : if true = true then A else B := by rw [if_pos rfl]; exact h
theorem x_iteF (h : B) : if false = true then A else B := by rw [if_neg Bool.false_ne_true]; exact h
theorem x_niteT (h : B) : if (!true) = true then A else B := x_iteF h
theorem x_niteF (h : A) : if (!false) = true then A else B := x_iteT h
theorem x_itec (h1 : b = true → A) (h2 : b = false → B) : if b = true then A else B := by
  cases b with
  | true => exact x_iteT (h1 rfl)
  | false => exact x_iteF (h2 rfl)
theorem x_nitec (h1 : b = false → A) (h2 : b = true → B) : if (!b) = true then A else B := by
  cases b with
  | true => exact x_iteF (h2 rfl)
  | false => exact x_iteT (h1 rfl)
/-! statements -/
theorem x_seq (h : s1 ⟨s2 ⟨nx, rt, bk, ct⟩, rt, bk, ct⟩ σ H) : tSeq s1 s2 ⟨nx, rt, bk, ct⟩ σ H := h
theorem x_next (h : nx σ H) : tNext ⟨nx, rt, bk, ct⟩ σ H := h
theorem x_brk (h : bk σ H) : tBreak ⟨nx, rt, bk, ct⟩ σ H := h
theorem x_cont (h : ct σ H) : tCont ⟨nx, rt, bk, ct⟩ σ H := h
theorem x_drop (h : te σ H fun _ H1 => nx σ H1) : tDrop te ⟨nx, rt, bk, ct⟩ σ H := h
theorem x_ret (h : te σ H rt) : tRet te ⟨nx, rt, bk, ct⟩ σ H := h
theorem x_retN (h : rt .non H) : tRetN ⟨nx, rt, bk, ct⟩ σ H := h
theorem x_ifS (h : t σ H fun b H1 => if b = true then s1 ⟨nx, rt, bk, ct⟩ σ H1 else s2 ⟨nx, rt, bk, ct⟩ σ H1) : tIfS t s1 s2 ⟨nx, rt, bk, ct⟩ σ H := h
theorem x_asg (h : te σ H fun x H1 => g x σ H1 nx) : tAsg te g ⟨nx, rt, bk, ct⟩ σ H := h
theorem x_augA (h : Q (.int (i + j)) H) : rAug (.int i) (.int j) H Q := ⟨i, j, rfl, rfl, h⟩
theorem x_augS (h : Q (.int (i - j)) H) : rAugS (.int i) (.int j) H Q := ⟨i, j, rfl, rfl, h⟩
/-! calls, displays -/
theorem x_nil (h : QL [] H) : tNil σ H QL := h
theorem x_cons (h : ta σ H fun x H1 => tl σ H1 fun xs H2 => QL (x :: xs) H2) : tCons ta tl σ H QL := h
theorem x_cb (h : tl σ H fun vs H1 => rc vs H1 Q) : tCB rc tl σ H Q := h
theorem x_call (h : tl σ H fun vs H1 => sp (vs ++ []) H1 Q E) : tCall sp [] E tl σ H Q := h
theorem x_chn {tl : TC} (h : ta σ H fun x H1 => tl σ x H1 Q) : tChn ta tl σ H Q := h
theorem x_clast (h : tb σ H fun y H1 => r x y H1 Q) : cLast r tb σ x H Q := h
theorem x_clink {tl : TC} (h : tb σ H fun y H1 => r x y H1 fun z H2 => ∃ k, z = .bl k ∧ (if k = true then tl σ y H2 Q else Q (.bl false) H2)) : cLink r tb tl σ x H Q := h
theorem x_bits (h : Q (.int (Builtin.Int.intBits i : Nat)) H) : rBits (.int i) H Q := ⟨i, rfl, h⟩
theorem x_app {vs : List V} (h : sp vs H Q E) : sp (vs ++ []) H Q E := by rw [List.append_nil]; exact h
theorem x_app' {vs : List V} (h : sp (x :: vs) H Q E) : sp (x :: (vs ++ [])) H Q E := by rw [List.append_nil]; exact h
theorem x_raw {vs : List V} (h : sp vs H Q E) : spRaw sp vs H Q E := by unfold spRaw; rw [List.append_nil]; exact h
theorem x_cmeth (h : tl σ H fun vs H2 => sp (.ref C :: vs) H2 Q E) : ClX.tCMeth C sp E (eCon (.ref C)) tl σ H Q := ⟨rfl, h⟩
def Kmake (C : Addr) (sp : Sp) (vs : List V) (H1 : Hp) (Q : VK) (E : XK) : Prop := ∀ x dx, H1 x = none → H1 dx = none → dx ≠ x → sp (.ref x :: (vs ++ [])) (upd (upd H1 dx (.own x)) x (.ins C dx [])) (fun v H2 => v = .non ∧ Q (.ref x) H2) E
theorem x_make (h : tl σ H fun vs H1 => Kmake C sp vs H1 Q E) : tMake C sp [] E tl σ H Q := h
theorem x_meth {m : Str} (h : ta σ H fun x H1 => ∃ a dx fs, x = .ref a ∧ H1 a = some (.ins C dx fs) ∧ fs.lookup m = none ∧ tl σ H1 fun vs H2 => sp (x :: (vs ++ [])) H2 Q E) : tMeth C m sp [] E ta tl σ H Q := h
def Klst (xs : List V) (H1 : Hp) (Q : VK) : Prop := xs.length ≤ sizeLine ∧ ∀ p, H1 p = none → Q (.ref p) (upd H1 p (.lst xs))
theorem x_lst (h : tl σ H fun xs H1 => Klst xs H1 Q) : tLst tl σ H Q := h
def Ktup (xs : List V) (H1 : Hp) (Q : VK) : Prop := xs.length ≤ sizeLine ∧ ∀ p, H1 p = none → Q (.ref p) (upd H1 p (.tup xs))
theorem x_tup (h : tl σ H fun xs H1 => Ktup xs H1 Q) : tTup tl σ H Q := h
theorem x_intI (h : Q (.int i) H) : rInt [.int i] H Q := .inl ⟨i, rfl, h⟩
theorem x_intB (h : Q (.int (if b then 1 else 0)) H) : rInt [.bl b] H Q := .inr ⟨b, rfl, h⟩
theorem isi_of {n t : String} {bb : Bool} (ty : TyN H x t) (k : kitB t n = some bb) (e : isA t n = bb) (h : Q (.bl bb) H) : rIsI [x, .ty n] H Q := ⟨x, n, t, rfl, ty, by rw [e]; exact k, by rw [e]; exact h⟩

theorem kit_int_int : kitB "int" "int" = some true := by decide +kernel
theorem x_isi_int_int (h : Q (.bl true) H) : rIsI [.int i, .ty "int"] H Q := isi_of (.int i) kit_int_int rfl h
theorem kit_int_bool : kitB "int" "bool" = some false := by decide +kernel
theorem x_isi_int_bool (h : Q (.bl false) H) : rIsI [.int i, .ty "bool"] H Q := isi_of (.int i) kit_int_bool rfl h
theorem kit_int_str : kitB "int" "str" = some false := by decide +kernel
theorem x_isi_int_str (h : Q (.bl false) H) : rIsI [.int i, .ty "str"] H Q := isi_of (.int i) kit_int_str rfl h
theorem kit_int_list : kitB "int" "list" = some false := by decide +kernel
theorem x_isi_int_list (h : Q (.bl false) H) : rIsI [.int i, .ty "list"] H Q := isi_of (.int i) kit_int_list rfl h
theorem kit_int_tuple : kitB "int" "tuple" = some false := by decide +kernel
theorem x_isi_int_tuple (h : Q (.bl false) H) : rIsI [.int i, .ty "tuple"] H Q := isi_of (.int i) kit_int_tuple rfl h
theorem kit_int_dict : kitB "int" "dict" = some false := by decide +kernel
theorem x_isi_int_dict (h : Q (.bl false) H) : rIsI [.int i, .ty "dict"] H Q := isi_of (.int i) kit_int_dict rfl h
theorem kit_bool_int : kitB "bool" "int" = some true := by decide +kernel
theorem x_isi_bool_int (h : Q (.bl true) H) : rIsI [.bl b, .ty "int"] H Q := isi_of (.bl b) kit_bool_int rfl h
theorem kit_bool_bool : kitB "bool" "bool" = some true := by decide +kernel
theorem x_isi_bool_bool (h : Q (.bl true) H) : rIsI [.bl b, .ty "bool"] H Q := isi_of (.bl b) kit_bool_bool rfl h
theorem kit_bool_str : kitB "bool" "str" = some false := by decide +kernel
theorem x_isi_bool_str (h : Q (.bl false) H) : rIsI [.bl b, .ty "str"] H Q := isi_of (.bl b) kit_bool_str rfl h
theorem kit_bool_list : kitB "bool" "list" = some false := by decide +kernel
theorem x_isi_bool_list (h : Q (.bl false) H) : rIsI [.bl b, .ty "list"] H Q := isi_of (.bl b) kit_bool_list rfl h
theorem kit_bool_tuple : kitB "bool" "tuple" = some false := by decide +kernel
theorem x_isi_bool_tuple (h : Q (.bl false) H) : rIsI [.bl b, .ty "tuple"] H Q := isi_of (.bl b) kit_bool_tuple rfl h
theorem kit_bool_dict : kitB "bool" "dict" = some false := by decide +kernel
theorem x_isi_bool_dict (h : Q (.bl false) H) : rIsI [.bl b, .ty "dict"] H Q := isi_of (.bl b) kit_bool_dict rfl h
theorem kit_str_int : kitB "str" "int" = some false := by decide +kernel
theorem x_isi_str_int {zs : Str} (h : Q (.bl false) H) : rIsI [.str zs, .ty "int"] H Q := isi_of (.str zs) kit_str_int rfl h
theorem kit_str_bool : kitB "str" "bool" = some false := by decide +kernel
theorem x_isi_str_bool {zs : Str} (h : Q (.bl false) H) : rIsI [.str zs, .ty "bool"] H Q := isi_of (.str zs) kit_str_bool rfl h
theorem kit_str_str : kitB "str" "str" = some true := by decide +kernel
theorem x_isi_str_str {zs : Str} (h : Q (.bl true) H) : rIsI [.str zs, .ty "str"] H Q := isi_of (.str zs) kit_str_str rfl h
theorem kit_str_list : kitB "str" "list" = some false := by decide +kernel
theorem x_isi_str_list {zs : Str} (h : Q (.bl false) H) : rIsI [.str zs, .ty "list"] H Q := isi_of (.str zs) kit_str_list rfl h
theorem kit_str_tuple : kitB "str" "tuple" = some false := by decide +kernel
theorem x_isi_str_tuple {zs : Str} (h : Q (.bl false) H) : rIsI [.str zs, .ty "tuple"] H Q := isi_of (.str zs) kit_str_tuple rfl h
theorem kit_str_dict : kitB "str" "dict" = some false := by decide +kernel
theorem x_isi_str_dict {zs : Str} (h : Q (.bl false) H) : rIsI [.str zs, .ty "dict"] H Q := isi_of (.str zs) kit_str_dict rfl h
theorem kit_NoneType_int : kitB "NoneType" "int" = some false := by decide +kernel
theorem x_isi_NoneType_int (h : Q (.bl false) H) : rIsI [.non, .ty "int"] H Q := isi_of (.non) kit_NoneType_int rfl h
theorem kit_NoneType_bool : kitB "NoneType" "bool" = some false := by decide +kernel
theorem x_isi_NoneType_bool (h : Q (.bl false) H) : rIsI [.non, .ty "bool"] H Q := isi_of (.non) kit_NoneType_bool rfl h
theorem kit_NoneType_str : kitB "NoneType" "str" = some false := by decide +kernel
theorem x_isi_NoneType_str (h : Q (.bl false) H) : rIsI [.non, .ty "str"] H Q := isi_of (.non) kit_NoneType_str rfl h
theorem kit_NoneType_list : kitB "NoneType" "list" = some false := by decide +kernel
theorem x_isi_NoneType_list (h : Q (.bl false) H) : rIsI [.non, .ty "list"] H Q := isi_of (.non) kit_NoneType_list rfl h
theorem kit_NoneType_tuple : kitB "NoneType" "tuple" = some false := by decide +kernel
theorem x_isi_NoneType_tuple (h : Q (.bl false) H) : rIsI [.non, .ty "tuple"] H Q := isi_of (.non) kit_NoneType_tuple rfl h
theorem kit_NoneType_dict : kitB "NoneType" "dict" = some false := by decide +kernel
theorem x_isi_NoneType_dict (h : Q (.bl false) H) : rIsI [.non, .ty "dict"] H Q := isi_of (.non) kit_NoneType_dict rfl h
theorem kit_list_int : kitB "list" "int" = some false := by decide +kernel
theorem kit_list_bool : kitB "list" "bool" = some false := by decide +kernel
theorem kit_list_str : kitB "list" "str" = some false := by decide +kernel
theorem kit_list_list : kitB "list" "list" = some true := by decide +kernel
theorem kit_list_tuple : kitB "list" "tuple" = some false := by decide +kernel
theorem kit_list_dict : kitB "list" "dict" = some false := by decide +kernel
theorem kit_tuple_int : kitB "tuple" "int" = some false := by decide +kernel
theorem kit_tuple_bool : kitB "tuple" "bool" = some false := by decide +kernel
theorem kit_tuple_str : kitB "tuple" "str" = some false := by decide +kernel
theorem kit_tuple_list : kitB "tuple" "list" = some false := by decide +kernel
theorem kit_tuple_tuple : kitB "tuple" "tuple" = some true := by decide +kernel
theorem kit_tuple_dict : kitB "tuple" "dict" = some false := by decide +kernel
theorem kit_dict_int : kitB "dict" "int" = some false := by decide +kernel
theorem kit_dict_bool : kitB "dict" "bool" = some false := by decide +kernel
theorem kit_dict_str : kitB "dict" "str" = some false := by decide +kernel
theorem kit_dict_list : kitB "dict" "list" = some false := by decide +kernel
theorem kit_dict_tuple : kitB "dict" "tuple" = some false := by decide +kernel
theorem kit_dict_dict : kitB "dict" "dict" = some true := by decide +kernel

/-! the heap -/
variable {L L' : List Ent} {p q : Addr} {xs : List V} {f : Str} {dx : Addr} {fs : List (Str × V)} {lo hi : Option Int}
theorem x_ixL (F : FH H L) (m : (p, Is (.lst xs)) ∈ L) (a : atI xs i = some v) (h : Q v H) : rIx S (.ref p) (.int i) H Q := .inl ⟨p, xs, i, v, rfl, rfl, .inl (.inl (.inl (F.get m))), a, h⟩
theorem x_ixT (F : FH H L) (m : (p, Is (.tup xs)) ∈ L) (a : atI xs i = some v) (h : Q v H) : rIx S (.ref p) (.int i) H Q := .inl ⟨p, xs, i, v, rfl, rfl, .inr (.inl (.inl (F.get m))), a, h⟩
theorem x_ixR (F : FH H L) (m : (p, IsR xs) ∈ L) (a : atI xs i = some v) (h : Q v H) : rIx S (.ref p) (.int i) H Q := .inl ⟨p, xs, i, v, rfl, rfl, .inl (.inl (F.getR m)), a, h⟩
theorem x_lenL (F : FH H L) (m : (p, Is (.lst xs)) ∈ L) (h : Q (.int (xs.length : Int)) H) : rLen S [.ref p] H Q := .inl ⟨p, xs, rfl, .inl (.inl (.inl (F.get m))), h⟩
theorem x_lenT (F : FH H L) (m : (p, Is (.tup xs)) ∈ L) (h : Q (.int (xs.length : Int)) H) : rLen S [.ref p] H Q := .inl ⟨p, xs, rfl, .inr (.inl (.inl (F.get m))), h⟩
theorem x_lenR (F : FH H L) (m : (p, IsR xs) ∈ L) (h : Q (.int (xs.length : Int)) H) : rLen S [.ref p] H Q := .inl ⟨p, xs, rfl, .inl (.inl (F.getR m)), h⟩
theorem x_fld (h : te σ H fun x H1 => ∃ a dx fs v, x = .ref a ∧ H1 a = some (.ins C dx fs) ∧ fs.lookup f = some v ∧ Q v H1) : eFld C f te σ H Q := h
theorem x_fldG {QV : V → Prop} (F : FH H L) (m : (p, Is (.ins C dx fs)) ∈ L) (l : fs.lookup f = some v) (h : QV v) : ∃ a dx fs v, V.ref p = .ref a ∧ H a = some (.ins C dx fs) ∧ fs.lookup f = some v ∧ QV v := ⟨p, dx, fs, v, rfl, F.get m, l, h⟩
theorem x_methG {m : Str} {B : Prop} (F : FH H L) (hm : (p, Is (.ins C dx fs)) ∈ L) (l : fs.lookup m = none) (h : B) : ∃ a dx fs, V.ref p = .ref a ∧ H a = some (.ins C dx fs) ∧ fs.lookup m = none ∧ B := ⟨p, dx, fs, rfl, F.get hm, l, h⟩
theorem x_inOwnF (F : FH H L) (m : (p, Is (.ins C dx fs)) ∈ L) (h : sp [.ref p, y] H (fun v H' => ∃ b, v = .bl b ∧ Q (.bl b) H') E) : rInOwn C false sp E y (.ref p) H Q := ⟨p, dx, fs, rfl, F.get m, h⟩
theorem x_inOwnT (F : FH H L) (m : (p, Is (.ins C dx fs)) ∈ L) (h : sp [.ref p, y] H (fun v H' => ∃ b, v = .bl b ∧ Q (.bl (!b)) H') E) : rInOwn C true sp E y (.ref p) H Q := ⟨p, dx, fs, rfl, F.get m, h⟩
theorem x_setF (h : tb σ H fun y H1 => te σ H1 fun x H2 => ∃ a dx fs, x = .ref a ∧ H2 a = some (.ins C dx fs) ∧ fs.length < 1000 ∧ nx σ (upd H2 a (.ins C dx (putF f y fs)))) : sSetF C f te tb ⟨nx, rt, bk, ct⟩ σ H := h
theorem x_setFG {QH : Hp → Prop} {fs' : List (Str × V)} (F : FH H L) (m : (p, Is (.ins C dx fs)) ∈ L) (hl : fs.length < 1000) (e : putF f y fs = fs') (pu : Put p (Is (.ins C dx fs)) (Is (.ins C dx fs')) L L') (h : ∀ H', FH H' L' → QH H') : ∃ a dx fs, V.ref p = .ref a ∧ H a = some (.ins C dx fs) ∧ fs.length < 1000 ∧ QH (upd H a (.ins C dx (putF f y fs))) :=
  ⟨p, dx, fs, rfl, F.get m, hl, by rw [e]; exact h _ (F.put pu trivial)⟩
theorem x_gsub {to ti : TE} {ts : TSet} (h : to σ H fun o H1 => ti σ H1 fun i H2 => ts o i v H2 fun H3 => QS σ H3) : gSub to ti ts v σ H QS := h
theorem x_setL {k : Nat} {QH : Hp → Prop} (F : FH H L) (m : (p, Is (.lst xs)) ∈ L) (a : ixN xs.length i = some k) (pu : Put p (Is (.lst xs)) (Is (.lst (xs.set k v))) L L') (h : ∀ H', FH H' L' → QH H') : rSetL (.ref p) (.int i) v H QH :=
  ⟨p, xs, i, k, rfl, rfl, F.get m, a, h _ (F.put pu trivial)⟩
theorem x_apd (h : te σ H fun x H1 => ∃ l, x = .ref l ∧ (∃ xs, H1 l = some (.lst xs)) ∧ tl σ H1 fun vs H2 => rAppend x vs H2 Q) : eApp te tl σ H Q := h
theorem x_apdG {B : Prop} (F : FH H L) (m : (p, Is (.lst xs)) ∈ L) (h : B) : ∃ l, V.ref p = .ref l ∧ (∃ xs, H l = some (.lst xs)) ∧ B := ⟨p, rfl, ⟨xs, F.get m⟩, h⟩
theorem x_append (F : FH H L) (m : (p, Is (.lst xs)) ∈ L) (z : xs.length < sizeLine) (pu : Put p (Is (.lst xs)) (Is (.lst (xs ++ [v]))) L L') (h : ∀ H', FH H' L' → Q .non H') : rAppend (.ref p) [v] H Q :=
  ⟨p, xs, v, rfl, rfl, F.get m, z, h _ (F.put pu trivial)⟩
theorem x_lstG {xs : List V} (F : FH H L) (z : xs.length ≤ sizeLine) (h : ∀ p H', H p = none → FH H' ((p, Is (.lst xs)) :: L) → Q (.ref p) H') : Klst xs H Q := ⟨z, fun p hp => h p _ hp (F.new hp)⟩
theorem x_tupG {xs : List V} (F : FH H L) (z : xs.length ≤ sizeLine) (h : ∀ p H', H p = none → FH H' ((p, Is (.tup xs)) :: L) → Q (.ref p) H') : Ktup xs H Q := ⟨z, fun p hp => h p _ hp (F.new hp)⟩
theorem x_makeG {C : Addr} {vs : List V} (F : FH H L) (h : ∀ x dx H', FH H' ((x, Is (.ins C dx [])) :: L) → sp (.ref x :: vs) H' (fun v H2 => v = .non ∧ Q (.ref x) H2) E) :
    Kmake C sp vs H Q E := fun x dx hx hd ne => by
  rw [List.append_nil]
  exact h x dx _ ((F.other hd).new (by rw [upd_ne (Ne.symm ne)]; exact hx))
theorem x_sl {tlo thi : TO} {rs : V → Option Int → Option Int → Hp → VK → Prop} (h : te σ H fun x H1 => tlo σ H1 fun l H2 => thi σ H2 fun u H3 => rs x l u H3 Q) : L2.tSl rs te tlo thi σ H Q := h
theorem x_nopart (h : QO none H) : tNoPart σ H QO := h
theorem x_part (h : te σ H fun x H1 => ∃ i, x = .int i ∧ QO (some i) H1) : tPart te σ H QO := h
theorem cutV_tail {x : V} : cutV (x :: xs) (some 1) none = xs := by
  unfold cutV
  rw [HT.sIx_none, show (1 : Int) = ((1 : Nat) : Int) from rfl, HT.sIx_nat]
  rw [show min 1 (x :: xs).length = 1 by rw [List.length_cons]; omega]
  show xs.take _ = xs
  rw [List.length_cons, show xs.length + 1 - 1 = xs.length by omega, List.take_length]
theorem x_slL (F : FH H L) (m : (p, Is (.lst xs)) ∈ L) (h : ∀ q H', H q = none → FH H' ((q, Is (.lst (cutV xs lo hi))) :: L) → Q (.ref q) H') : rSl S (.ref p) lo hi H Q := ⟨p, xs, rfl, .inl (.inl (F.get m)), fun q hq => h q _ hq (F.new hq)⟩
theorem x_sl1 {v : V} (F : FH H L) (m : (p, Is (.lst (v :: xs))) ∈ L) (h : ∀ q H', H q = none → FH H' ((q, Is (.lst xs)) :: L) → Q (.ref q) H') : rSl S (.ref p) (some 1) none H Q := ⟨p, _, rfl, .inl (.inl (F.get m)), fun q hq => h q _ hq (by rw [show cutV (v :: xs) (some 1) none = xs from cutV_tail]; exact F.new hq)⟩
theorem cutV_pre {n : Nat} {ys zs : List V} (e : ys.length = n) : cutV (ys ++ zs) none (some (n : Int)) = ys := by
  unfold cutV
  rw [HT.sIx_none, HT.sIx_nat, List.drop_zero, Nat.sub_zero, Nat.min_eq_left (by rw [List.length_append]; omega), ← e, List.take_left]
theorem x_slp1 {v0 : V} (F : FH H L) (m : (p, Is (.lst (v0 :: xs))) ∈ L) (h : ∀ q H', H q = none → FH H' ((q, Is (.lst [v0])) :: L) → Q (.ref q) H') : rSl S (.ref p) none (some 1) H Q := ⟨p, _, rfl, .inl (.inl (F.get m)), fun q hq => h q _ hq (by rw [show cutV (v0 :: xs) none (some 1) = [v0] from cutV_pre (ys := [v0]) (n := 1) rfl]; exact F.new hq)⟩
theorem x_slp2 {v0 v1 : V} (F : FH H L) (m : (p, Is (.lst (v0 :: v1 :: xs))) ∈ L) (h : ∀ q H', H q = none → FH H' ((q, Is (.lst [v0, v1])) :: L) → Q (.ref q) H') : rSl S (.ref p) none (some 2) H Q := ⟨p, _, rfl, .inl (.inl (F.get m)), fun q hq => h q _ hq (by rw [show cutV (v0 :: v1 :: xs) none (some 2) = [v0, v1] from cutV_pre (ys := [v0, v1]) (n := 2) rfl]; exact F.new hq)⟩
theorem x_slp3 {v0 v1 v2 : V} (F : FH H L) (m : (p, Is (.lst (v0 :: v1 :: v2 :: xs))) ∈ L) (h : ∀ q H', H q = none → FH H' ((q, Is (.lst [v0, v1, v2])) :: L) → Q (.ref q) H') : rSl S (.ref p) none (some 3) H Q := ⟨p, _, rfl, .inl (.inl (F.get m)), fun q hq => h q _ hq (by rw [show cutV (v0 :: v1 :: v2 :: xs) none (some 3) = [v0, v1, v2] from cutV_pre (ys := [v0, v1, v2]) (n := 3) rfl]; exact F.new hq)⟩
theorem x_slp4 {v0 v1 v2 v3 : V} (F : FH H L) (m : (p, Is (.lst (v0 :: v1 :: v2 :: v3 :: xs))) ∈ L) (h : ∀ q H', H q = none → FH H' ((q, Is (.lst [v0, v1, v2, v3])) :: L) → Q (.ref q) H') : rSl S (.ref p) none (some 4) H Q := ⟨p, _, rfl, .inl (.inl (F.get m)), fun q hq => h q _ hq (by rw [show cutV (v0 :: v1 :: v2 :: v3 :: xs) none (some 4) = [v0, v1, v2, v3] from cutV_pre (ys := [v0, v1, v2, v3]) (n := 4) rfl]; exact F.new hq)⟩
theorem x_slp5 {v0 v1 v2 v3 v4 : V} (F : FH H L) (m : (p, Is (.lst (v0 :: v1 :: v2 :: v3 :: v4 :: xs))) ∈ L) (h : ∀ q H', H q = none → FH H' ((q, Is (.lst [v0, v1, v2, v3, v4])) :: L) → Q (.ref q) H') : rSl S (.ref p) none (some 5) H Q := ⟨p, _, rfl, .inl (.inl (F.get m)), fun q hq => h q _ hq (by rw [show cutV (v0 :: v1 :: v2 :: v3 :: v4 :: xs) none (some 5) = [v0, v1, v2, v3, v4] from cutV_pre (ys := [v0, v1, v2, v3, v4]) (n := 5) rfl]; exact F.new hq)⟩
theorem x_slp6 {v0 v1 v2 v3 v4 v5 : V} (F : FH H L) (m : (p, Is (.lst (v0 :: v1 :: v2 :: v3 :: v4 :: v5 :: xs))) ∈ L) (h : ∀ q H', H q = none → FH H' ((q, Is (.lst [v0, v1, v2, v3, v4, v5])) :: L) → Q (.ref q) H') : rSl S (.ref p) none (some 6) H Q := ⟨p, _, rfl, .inl (.inl (F.get m)), fun q hq => h q _ hq (by rw [show cutV (v0 :: v1 :: v2 :: v3 :: v4 :: v5 :: xs) none (some 6) = [v0, v1, v2, v3, v4, v5] from cutV_pre (ys := [v0, v1, v2, v3, v4, v5]) (n := 6) rfl]; exact F.new hq)⟩
theorem x_slp7 {v0 v1 v2 v3 v4 v5 v6 : V} (F : FH H L) (m : (p, Is (.lst (v0 :: v1 :: v2 :: v3 :: v4 :: v5 :: v6 :: xs))) ∈ L) (h : ∀ q H', H q = none → FH H' ((q, Is (.lst [v0, v1, v2, v3, v4, v5, v6])) :: L) → Q (.ref q) H') : rSl S (.ref p) none (some 7) H Q := ⟨p, _, rfl, .inl (.inl (F.get m)), fun q hq => h q _ hq (by rw [show cutV (v0 :: v1 :: v2 :: v3 :: v4 :: v5 :: v6 :: xs) none (some 7) = [v0, v1, v2, v3, v4, v5, v6] from cutV_pre (ys := [v0, v1, v2, v3, v4, v5, v6]) (n := 7) rfl]; exact F.new hq)⟩
theorem x_slp8 {v0 v1 v2 v3 v4 v5 v6 v7 : V} (F : FH H L) (m : (p, Is (.lst (v0 :: v1 :: v2 :: v3 :: v4 :: v5 :: v6 :: v7 :: xs))) ∈ L) (h : ∀ q H', H q = none → FH H' ((q, Is (.lst [v0, v1, v2, v3, v4, v5, v6, v7])) :: L) → Q (.ref q) H') : rSl S (.ref p) none (some 8) H Q := ⟨p, _, rfl, .inl (.inl (F.get m)), fun q hq => h q _ hq (by rw [show cutV (v0 :: v1 :: v2 :: v3 :: v4 :: v5 :: v6 :: v7 :: xs) none (some 8) = [v0, v1, v2, v3, v4, v5, v6, v7] from cutV_pre (ys := [v0, v1, v2, v3, v4, v5, v6, v7]) (n := 8) rfl]; exact F.new hq)⟩
theorem x_slR (F : FH H L) (m : (p, IsR xs) ∈ L) (h : ∀ q H', H q = none → FH H' ((q, Is (.lst (cutV xs lo hi))) :: L) → Q (.ref q) H') : rSl S (.ref p) lo hi H Q := ⟨p, xs, rfl, .inl (F.getR m), fun q hq => h q _ hq (F.new hq)⟩
theorem x_slS (F : FH H L) (m : S p (.lst xs)) (h : ∀ q H', H q = none → FH H' ((q, Is (.lst (cutV xs lo hi))) :: L) → Q (.ref q) H') : rSl S (.ref p) lo hi H Q := ⟨p, xs, rfl, .inr m, fun q hq => h q _ hq (F.new hq)⟩
theorem x_ixS (m : S p (.lst xs)) (a : atI xs i = some v) (h : Q v H) : rIx S (.ref p) (.int i) H Q := .inl ⟨p, xs, i, v, rfl, rfl, .inl (.inr m), a, h⟩
theorem x_lenS (m : S p (.lst xs)) (h : Q (.int (xs.length : Int)) H) : rLen S [.ref p] H Q := .inl ⟨p, xs, rfl, .inl (.inr m), h⟩
theorem x_none (h : v = .non → Q v H) : v = .non → Q v H := h
theorem x_initEnd {B : Prop} (h : B) : V.non = .non ∧ B := ⟨rfl, h⟩
/-! loops -/
def ForR (g : TG) (s1 : TS) (nx : K0) (rt : VK) (lo hi : Int) (σ : L2.St) (H : Hp) : Prop := (-(2 ^ 62) ≤ lo ∧ lo < 2 ^ 62 ∧ -(2 ^ 62) ≤ hi ∧ hi < 2 ^ 62) ∧ ∃ Pv : Nat → L2.St → Hp → Prop, Pv 0 σ H ∧
    (∀ (i : Nat) σ H, lo + i < hi → Pv i σ H → g (.int (lo + i)) σ H fun σ' H' => s1 ⟨Pv (i + 1), rt, nx, Pv (i + 1)⟩ σ' H') ∧ ∀ σ H, Pv (hi - lo).toNat σ H → nx σ H
theorem x_forR1 (h : te σ H fun y H1 => ∃ j, y = .int j ∧ ForR g s1 nx rt 0 j σ H1) : sForR none te g s1 ⟨nx, rt, bk, ct⟩ σ H := h
theorem x_forR2 (h : ta σ H fun x H1 => tb σ H1 fun y H2 => ∃ i j, x = .int i ∧ y = .int j ∧ ForR g s1 nx rt i j σ H2) : sForR (some ta) tb g s1 ⟨nx, rt, bk, ct⟩ σ H := h
theorem x_int1 {QK : Int → Prop} (h : QK i) : ∃ k, V.int i = .int k ∧ QK k := ⟨i, rfl, h⟩
theorem x_int2 {QK : Int → Int → Prop} (h : QK i j) : ∃ k l, V.int i = .int k ∧ V.int j = .int l ∧ QK k l := ⟨i, j, rfl, rfl, h⟩
/-- a range from 0 by an invariant -/
theorem forG (Pv : Nat → L2.St → Hp → Prop) (h2 : j < 4611686018427387904) (h1 : -4611686018427387904 ≤ j) (h0 : Pv 0 σ H)
    (hs : ∀ (i : Nat) σ H, (i : Int) < j → Pv i σ H → g (.int (i : Int)) σ H fun σ' H' => s1 ⟨Pv (i + 1), rt, nx, Pv (i + 1)⟩ σ' H') (hd : ∀ σ H, Pv j.toNat σ H → nx σ H) : ForR g s1 nx rt 0 j σ H :=
  ⟨⟨by decide, by decide, h1, h2⟩, Pv, h0, fun i σ H h p => by rw [Int.zero_add] at h ⊢; exact hs i σ H h p, fun σ H p => hd σ H (by rw [Int.sub_zero] at p; exact p)⟩
theorem forG2 (Pv : Nat → L2.St → Hp → Prop) (h : -4611686018427387904 ≤ i ∧ i < 4611686018427387904 ∧ -4611686018427387904 ≤ j ∧ j < 4611686018427387904) (h0 : Pv 0 σ H)
    (hs : ∀ (n : Nat) σ H, i + n < j → Pv n σ H → g (.int (i + n)) σ H fun σ' H' => s1 ⟨Pv (n + 1), rt, nx, Pv (n + 1)⟩ σ' H') (hd : ∀ σ H, Pv (j - i).toNat σ H → nx σ H) : ForR g s1 nx rt i j σ H := ⟨h, Pv, h0, hs, hd⟩
/-- a while by a measure -/
def WhB (W : Nat → L2.St → Hp → Prop) (m : Nat) (s1 : TS) (nx : K0) (rt : VK) (σ : L2.St) (H1 : Hp) : Prop := ∃ N : L2.St → Hp → Prop, (∀ σ' H', N σ' H' → ∃ m', m' < m ∧ W m' σ' H') ∧ s1 ⟨N, rt, nx, N⟩ σ H1
def WhN (W : Nat → L2.St → Hp → Prop) (m : Nat) : K0 := fun σ' H' => ∃ m', m' < m ∧ W m' σ' H'
theorem x_whB {W : Nat → L2.St → Hp → Prop} {m : Nat} (h : s1 ⟨WhN W m, rt, nx, WhN W m⟩ σ H) : WhB W m s1 nx rt σ H := ⟨_, fun _ _ h => h, h⟩
theorem whileG (W : Nat → L2.St → Hp → Prop) (m0 : Nat) (h0 : W m0 σ H) (hs : ∀ m σ H, W m σ H → t σ H fun b H1 => if b = true then WhB W m s1 nx rt σ H1 else nx σ H1) : tWhile t s1 ⟨nx, rt, bk, ct⟩ σ H := ⟨W, ⟨m0, h0⟩, hs⟩
/-- the turns one by one: n turns from lo on; P behind them, bk behind a break -/
def forK (g : TG) (s1 : TS) (P bk : K0) (rt : VK) : Nat → Int → L2.St → Hp → Prop
  | 0, _, σ, H => P σ H
  | n + 1, lo, σ, H => g (.int lo) σ H fun σ' H' => s1 ⟨forK g s1 P bk rt n (lo + 1), rt, bk, forK g s1 P bk rt n (lo + 1)⟩ σ' H'
theorem forUC (n : Nat) (Post : L2.St → Hp → Prop) (e : j = (n : Int)) (h2 : j < 4611686018427387904) (h : forK g s1 Post nx rt n 0 σ H) (hd : ∀ σ H, Post σ H → nx σ H) : ForR g s1 nx rt 0 j σ H := by
  refine forG (fun i σ H => i ≤ n ∧ forK g s1 Post nx rt (n - i) (i : Int) σ H) h2 (by omega) ⟨Nat.zero_le _, h⟩ (fun i σ H hi p => ?_) fun σ H p => ?_
  · obtain ⟨q1, q2⟩ := p
    have e1 : n - i = (n - (i + 1)) + 1 := by omega
    rw [e1] at q2
    have e2 : ((i + 1 : Nat) : Int) = (i : Int) + 1 := by omega
    have e3 : (fun σ H => i + 1 ≤ n ∧ forK g s1 Post nx rt (n - (i + 1)) ((i + 1 : Nat) : Int) σ H) = forK g s1 Post nx rt (n - (i + 1)) ((i : Int) + 1) := by
      funext σ H
      rw [e2]
      exact propext ⟨fun h => h.2, fun h => ⟨by omega, h⟩⟩
    show g (.int (i : Int)) σ H fun σ' H' => s1 ⟨fun σ H => i + 1 ≤ n ∧ forK g s1 Post nx rt (n - (i + 1)) ((i + 1 : Nat) : Int) σ H, rt, nx, fun σ H => i + 1 ≤ n ∧ forK g s1 Post nx rt (n - (i + 1)) ((i + 1 : Nat) : Int) σ H⟩ σ' H'
    rw [e3]
    exact q2
  · obtain ⟨_, q⟩ := p
    have e4 : n - j.toNat = 0 := by omega
    rw [e4] at q
    exact hd _ _ q
theorem forU (n : Nat) (e : j = (n : Int)) (h2 : j < 4611686018427387904) (h : forK g s1 nx nx rt n 0 σ H) : ForR g s1 nx rt 0 j σ H := forUC n nx e h2 h fun _ _ h => h
theorem x_forK {n : Nat} (h : g (.int i) σ H fun σ' H' => s1 ⟨forK g s1 nx bk rt n (i + 1), rt, bk, forK g s1 nx bk rt n (i + 1)⟩ σ' H') : forK g s1 nx bk rt (n + 1) i σ H := h
theorem x_forK0 (h : nx σ H) : forK g s1 nx bk rt 0 i σ H := h
/-- where a list is read -/
inductive Src (S : Sta) (L : List Ent) (p : Addr) (xs : List V) : Prop where
  | is (m : (p, Is (.lst xs)) ∈ L)
  | rd (m : (p, IsR xs) ∈ L)
  | st (m : S p (.lst xs))
theorem Src.rdS {L : List Ent} (m : Src S L p xs) (F : FH H L) : RdS S H p (.lst xs) := by
  cases m with
  | is m => exact .inl (.inl (F.get m))
  | rd m => exact .inl (F.getR m)
  | st m => exact .inr m
theorem src_of {K : PySem.W.Frag} (st : S = SK K) (h : SqL K H p xs) : ∃ L, FH H L ∧ Src S L p xs := by
  subst st
  rcases h with h | h
  · refine ⟨[(p, IsR xs)], ⟨[p] ++ [], .cons (p := p) (φ := IsR xs) (k := [p]) ⟨rfl, ?_⟩ .nil (by simp) (fun a _ m => by cases m)⟩, .rd (List.Mem.head _)⟩
    rcases h with h | ⟨o, h⟩
    · exact ⟨_, h, .inl rfl⟩
    · exact ⟨_, h, .inr ⟨o, rfl⟩⟩
  · exact ⟨[], .nil, .st h⟩
def ForS (S : Sta) (g : TG) (s1 : TS) (nx : K0) (rt : VK) (x : V) (σ : L2.St) (H : Hp) : Prop := ∃ a xs, x = .ref a ∧ ∃ Pv : Nat → L2.St → Hp → Prop, Pv 0 σ H ∧ Stays S a xs (fun i H => ∃ σ, Pv i σ H) ∧
  (∀ i y σ H, xs[i]? = some y → Pv i σ H → g y σ H fun σ' H' => s1 ⟨Pv (i + 1), rt, nx, Pv (i + 1)⟩ σ' H') ∧ ∀ σ H, Pv xs.length σ H → nx σ H
theorem x_forE (h : te σ H fun x H1 => ForS S g s1 nx rt x σ H1) : sFor S te g s1 ⟨nx, rt, bk, ct⟩ σ H := h
/-- a list by an invariant -/
theorem forS (Pv : Nat → L2.St → Hp → Prop) (h0 : Pv 0 σ H) (hst : ∀ i σ H, i ≤ xs.length → Pv i σ H → RdS S H p (.lst xs))
    (hs : ∀ i y σ H, xs[i]? = some y → Pv i σ H → g y σ H fun σ' H' => s1 ⟨Pv (i + 1), rt, nx, Pv (i + 1)⟩ σ' H') (hd : ∀ σ H, Pv xs.length σ H → nx σ H) : ForS S g s1 nx rt (.ref p) σ H :=
  ⟨p, xs, rfl, Pv, h0, .inl fun i H hi ⟨σ, q⟩ => hst i σ H hi q, hs, hd⟩
/-- a list that stands: what is known of the heap is the same at each turn -/
theorem forL (Pv : Nat → L2.St → Prop) (F : FH H L) (m : Src S L p xs) (h0 : Pv 0 σ)
    (hs : ∀ i y σ H, xs[i]? = some y → Pv i σ → FH H L → g y σ H fun σ' H' => s1 ⟨fun σ H => Pv (i + 1) σ ∧ FH H L, rt, nx, fun σ H => Pv (i + 1) σ ∧ FH H L⟩ σ' H') (hd : ∀ σ H, Pv xs.length σ → FH H L → nx σ H) : ForS S g s1 nx rt (.ref p) σ H :=
  forS (fun i σ H => Pv i σ ∧ FH H L) ⟨h0, F⟩ (fun i σ H _ q => m.rdS q.2) (fun i y σ H e q => hs i y σ H e q.1 q.2) fun σ H q => hd σ H q.1 q.2
/-- the turns one by one over a known tuple -/
def forKS (S : Sta) (a : Addr) (u : HO) (g : TG) (s1 : TS) (P bk : K0) (rt : VK) : List V → L2.St → Hp → Prop
  | [], σ, H => P σ H
  | x :: xs, σ, H => g x σ H fun σ' H' => s1 ⟨fun σ H => RdS S H a u ∧ forKS S a u g s1 P bk rt xs σ H, rt, bk, fun σ H => RdS S H a u ∧ forKS S a u g s1 P bk rt xs σ H⟩ σ' H'
theorem forSU {k : Bool} (rd : RdS S H p (if k then .lst xs else .tup xs)) (Post : K0) (h : forKS S p (if k then .lst xs else .tup xs) g s1 Post nx rt xs σ H) (hp : ∀ σ H, Post σ H → nx σ H) : ForS S g s1 nx rt (.ref p) σ H := by
  refine ⟨p, xs, rfl, fun i σ H => RdS S H p (if k then .lst xs else .tup xs) ∧ forKS S p (if k then .lst xs else .tup xs) g s1 Post nx rt (xs.drop i) σ H, ⟨rd, by rw [List.drop_zero]; exact h⟩, ?_, fun i y σ H e q => ?_, fun σ H q => ?_⟩
  · cases k with
    | true => exact .inl fun i H _ ⟨σ, q, _⟩ => q
    | false => exact .inr fun i H _ ⟨σ, q, _⟩ => q
  · obtain ⟨_, q⟩ := q
    have hi := (List.getElem?_eq_some_iff.mp e)
    rw [List.drop_eq_getElem_cons hi.1, hi.2] at q
    exact q
  · obtain ⟨_, q⟩ := q
    rw [List.drop_length] at q
    exact hp σ H q
theorem forTU (F : FH H L) (m : (p, Is (.tup xs)) ∈ L) (h : forKS S p (.tup xs) g s1 nx nx rt xs σ H) : ForS S g s1 nx rt (.ref p) σ H := forSU (k := false) (.inl (.inl (F.get m))) nx h fun _ _ h => h
theorem forLU (F : FH H L) (m : (p, Is (.lst xs)) ∈ L) (h : forKS S p (.lst xs) g s1 nx nx rt xs σ H) : ForS S g s1 nx rt (.ref p) σ H := forSU (k := true) (.inl (.inl (F.get m))) nx h fun _ _ h => h
theorem x_forKS {a : Addr} {u : HO} (h : g x σ H fun σ' H' => s1 ⟨fun σ H => RdS S H a u ∧ forKS S a u g s1 nx bk rt xs σ H, rt, bk, fun σ H => RdS S H a u ∧ forKS S a u g s1 nx bk rt xs σ H⟩ σ' H') : forKS S a u g s1 nx bk rt (x :: xs) σ H := h
theorem x_forKS0 {a : Addr} {u : HO} (h : nx σ H) : forKS S a u g s1 nx bk rt [] σ H := h
theorem x_rdT (F : FH H L) (m : (p, Is (.tup xs)) ∈ L) (h : A) : RdS S H p (.tup xs) ∧ A := ⟨.inl (.inl (F.get m)), h⟩
theorem x_rdL (F : FH H L) (m : (p, Is (.lst xs)) ∈ L) (h : A) : RdS S H p (.lst xs) ∧ A := ⟨.inl (.inl (F.get m)), h⟩
/-! comprehensions -/
def LcS (S : Sta) (g : TG) (tt : TT) (tel : TE) (vs : List Nat) (Q : VK) (x : V) (σ : L2.St) (H1 : Hp) : Prop := ∃ a xs, x = .ref a ∧ ∃ k : Bool, RdS S H1 a (if k then .lst xs else .tup xs) ∧ ∀ D, H1 D = none → ∃ Pv : Nat → Hp → Prop, Pv 0 (upd H1 D (.lst [])) ∧ (∀ i H, i ≤ xs.length → Pv i H → RdS S H a (if k then .lst xs else .tup xs)) ∧
  (∀ i y H, xs[i]? = some y → Pv i H → g y (wipe σ vs) H fun σ2 H2 => wipe σ2 vs = wipe σ vs ∧ tt σ2 H2 fun b H3 => if b = true then tel σ2 H3 fun z H4 => ∃ acc, H4 D = some (.lst acc) ∧ acc.length < sizeLine ∧ Pv (i + 1) (upd H4 D (.lst (acc ++ [z]))) else Pv (i + 1) H3) ∧
  ∀ H, Pv xs.length H → Q (.ref D) H
theorem x_lcE {tt : TT} {tel : TE} {vs : List Nat} (h : te σ H fun x H1 => LcS S g tt tel vs Q x σ H1) : eLc S te g tt tel vs σ H Q := h
theorem x_wipe {σ2 σw : L2.St} {vs : List Nat} (e : wipe σ2 vs = σw) (h : A) : wipe σ2 vs = σw ∧ A := ⟨e, h⟩
theorem x_yes (h : QB true H) : tYes σ H QB := h
/-- a comprehension over a list that stands, whose element leaves the heap as it is -/
theorem lcFM {tt : TT} {tel : TE} {vs : List Nat} {σw : L2.St} (f : V → V) (keep : V → Bool) (F : FH H L) (m : Src S L p xs) (z : xs.length < 16777216) (ew : wipe σ vs = σw)
    (hs : ∀ y H (QX : V → Hp → Prop) (A : Hp → Prop), y ∈ xs → FH H L → (keep y = true → QX (f y) H) → (keep y = false → A H) → g y σw H fun σ2 H2 => wipe σ2 vs = σw ∧ tt σ2 H2 fun b H3 => if b = true then tel σ2 H3 QX else A H3)
    (hd : ∀ D H', FH H' ((D, Is (.lst ((xs.filter keep).map f))) :: L) → Q (.ref D) H') : LcS S g tt tel vs Q (.ref p) σ H := by
  have rd : ∀ H, FH H L → RdS S H p (.lst xs) := fun H F => m.rdS F
  subst ew
  refine ⟨p, xs, rfl, true, rd H F, fun D hD => ⟨fun i H => FH H ((D, Is (.lst (((xs.take i).filter keep).map f))) :: L), F.new hD, fun i H _ q => rd H q.tail, fun i y H e q => ?_, fun H q => hd D H ?_⟩⟩
  · have hi : i < xs.length := (List.getElem?_eq_some_iff.mp e).1
    have et : xs.take (i + 1) = xs.take i ++ [y] := by rw [List.take_add_one, e]; rfl
    refine hs y H _ _ (List.mem_of_getElem? e) q.tail (fun k => ⟨_, q.get (List.Mem.head _), ?_, ?_⟩) fun k => ?_
    · have h1 : (((xs.take i).filter keep).map f).length ≤ i := by
        rw [List.length_map]
        exact Nat.le_trans (List.length_filter_le _ _) (by rw [List.length_take]; exact Nat.min_le_left _ _)
      rw [sizeLine_eq]; omega
    · show FH _ ((D, Is (.lst (((xs.take (i + 1)).filter keep).map f))) :: L)
      rw [et, List.filter_append, List.map_append]
      have e1 : ([y].filter keep).map f = [f y] := by simp [k]
      rw [e1]
      exact q.put .here trivial
    · show FH _ ((D, Is (.lst (((xs.take (i + 1)).filter keep).map f))) :: L)
      rw [et, List.filter_append, List.map_append]
      have e1 : ([y].filter keep).map f = [] := by simp [k]
      rw [e1, List.append_nil]
      exact q
  · have q : FH H ((D, Is (.lst (((xs.take xs.length).filter keep).map f))) :: L) := q
    rw [List.take_length] at q
    exact q
/-- .. of ints by a map of ints -/
theorem lcII {ns : List Int} {tel : TE} {vs : List Nat} {σw : L2.St} (f : Int → Int) (F : FH H L) (m : Src S L p (ns.map V.int)) (z : ns.length < 16777216) (ew : wipe σ vs = σw)
    (hs : ∀ y H (QX : V → Hp → Prop), y ∈ ns → FH H L → QX (.int (f y)) H → g (.int y) σw H fun σ2 H2 => wipe σ2 vs = σw ∧ tel σ2 H2 QX)
    (hd : ∀ D H', FH H' ((D, Is (.lst ((ns.map f).map V.int))) :: L) → Q (.ref D) H') : LcS S g tYes tel vs Q (.ref p) σ H := by
  refine lcFM (xs := ns.map V.int) (fun v => match v with | .int i => .int (f i) | v => v) (fun _ => true) F m (by rw [List.length_map]; exact z) ew (fun y H QX A hy F' hk hA => ?_) fun D H' F' => hd D H' ?_
  · obtain ⟨n, hn, e⟩ := List.mem_map.mp hy
    subst e
    exact hs n H QX hn F' (hk rfl)
  · have e : ((ns.map V.int).filter fun _ => true).map (fun v => match v with | .int i => V.int (f i) | v => v) = (ns.map f).map V.int := by
      rw [List.filter_eq_self.mpr (fun _ _ => rfl), List.map_map, List.map_map]
      rfl
    rw [e] at F'
    exact F'
/-- .. of ints, with a test -/
theorem lcIK {ns : List Int} {tt : TT} {tel : TE} {vs : List Nat} {σw : L2.St} (f : Int → Int) (keep : Int → Bool) (F : FH H L) (m : Src S L p (ns.map V.int)) (z : ns.length < 16777216) (ew : wipe σ vs = σw)
    (hs : ∀ y H (QX : V → Hp → Prop) (A : Hp → Prop), y ∈ ns → FH H L → (keep y = true → QX (.int (f y)) H) → (keep y = false → A H) → g (.int y) σw H fun σ2 H2 => wipe σ2 vs = σw ∧ tt σ2 H2 fun b H3 => if b = true then tel σ2 H3 QX else A H3)
    (hd : ∀ D H', FH H' ((D, Is (.lst (((ns.filter keep).map f).map V.int))) :: L) → Q (.ref D) H') : LcS S g tt tel vs Q (.ref p) σ H := by
  refine lcFM (xs := ns.map V.int) (fun v => match v with | .int i => .int (f i) | v => v) (fun v => match v with | .int i => keep i | _ => false) F m (by rw [List.length_map]; exact z) ew (fun y H QX A hy F' hk hA => ?_) fun D H' F' => hd D H' ?_
  · obtain ⟨n, hn, e⟩ := List.mem_map.mp hy
    subst e
    exact hs n H QX A hn F' hk hA
  · have e : ((ns.map V.int).filter fun v => match v with | .int i => keep i | _ => false).map (fun v => match v with | .int i => V.int (f i) | v => v) = ((ns.filter keep).map f).map V.int := by
      rw [List.filter_map, List.map_map, List.map_map]
      rfl
    rw [e] at F'
    exact F'
/-- a known list, the turns one by one -/
def lcPut (D : Addr) (z : V) (k : Hp → Prop) (H : Hp) : Prop := ∃ acc, H D = some (.lst acc) ∧ acc.length < sizeLine ∧ k (upd H D (.lst (acc ++ [z])))
theorem x_lcPut {D : Addr} {z : V} {acc : List V} {k : Hp → Prop} {L' : List Ent} (F : FH H L) (pu : Put D (Is (.lst acc)) (Is (.lst (acc ++ [z]))) L L') (sz : acc.length < 16777216) (h : ∀ H', FH H' L' → k H') : lcPut D z k H :=
  ⟨acc, F.get pu.mem, by rw [sizeLine_eq]; exact sz, h _ (F.put pu trivial)⟩
def lcKS (S : Sta) (a : Addr) (u : HO) (g : TG) (tt : TT) (tel : TE) (vs : List Nat) (σw : L2.St) (D : Addr) (Q : VK) : List V → Hp → Prop
  | [], H => Q (.ref D) H
  | x :: xs, H => g x σw H fun σ2 H2 => wipe σ2 vs = σw ∧ tt σ2 H2 fun b H3 => if b = true then tel σ2 H3 fun z H4 => lcPut D z (fun H => RdS S H a u ∧ lcKS S a u g tt tel vs σw D Q xs H) H4 else RdS S H3 a u ∧ lcKS S a u g tt tel vs σw D Q xs H3
theorem lcLU {tt : TT} {tel : TE} {vs : List Nat} {σw : L2.St} (F : FH H L) (m : (p, Is (.lst xs)) ∈ L) (ew : wipe σ vs = σw) (h : ∀ D H', FH H' ((D, Is (.lst [])) :: L) → lcKS S p (.lst xs) g tt tel vs σw D Q xs H') : LcS S g tt tel vs Q (.ref p) σ H := by
  subst ew
  refine ⟨p, xs, rfl, true, .inl (.inl (F.get m)), fun D hD => ⟨fun i H => RdS S H p (.lst xs) ∧ lcKS S p (.lst xs) g tt tel vs (wipe σ vs) D Q (xs.drop i) H, ⟨.inl (.inl ((F.new hD).get (List.mem_cons_of_mem _ m))), by rw [List.drop_zero]; exact h D _ (F.new hD)⟩, fun i H _ q => q.1, fun i y H e q => ?_, fun H q => ?_⟩⟩
  · obtain ⟨_, q⟩ := q
    have hi := (List.getElem?_eq_some_iff.mp e)
    rw [List.drop_eq_getElem_cons hi.1, hi.2] at q
    exact q
  · obtain ⟨_, q⟩ := q
    rw [List.drop_length] at q
    exact q
theorem x_lcKS {a D : Addr} {u : HO} {tt : TT} {tel : TE} {vs : List Nat} {σw : L2.St} (h : g x σw H fun σ2 H2 => wipe σ2 vs = σw ∧ tt σ2 H2 fun b H3 => if b = true then tel σ2 H3 fun z H4 => lcPut D z (fun H => RdS S H a u ∧ lcKS S a u g tt tel vs σw D Q xs H) H4 else RdS S H3 a u ∧ lcKS S a u g tt tel vs σw D Q xs H3) : lcKS S a u g tt tel vs σw D Q (x :: xs) H := h
theorem x_lcKS0 {a D : Addr} {u : HO} {tt : TT} {tel : TE} {vs : List Nat} {σw : L2.St} (h : Q (.ref D) H) : lcKS S a u g tt tel vs σw D Q [] H := h
/-- over a range, the turns one by one -/
def LcR (g : TG) (tt : TT) (tel : TE) (vs : List Nat) (Q : VK) (y : V) (σ : L2.St) (H1 : Hp) : Prop := ∃ j, y = .int j ∧ ((-(2 ^ 62) ≤ (0 : Int) ∧ (0 : Int) < 2 ^ 62 ∧ -(2 ^ 62) ≤ j ∧ j < 2 ^ 62) ∧ ∀ D, H1 D = none → ∃ Pv : Nat → Hp → Prop, Pv 0 (upd H1 D (.lst [])) ∧
    (∀ (i : Nat) H, 0 + (i : Int) < j → Pv i H → g (.int (0 + (i : Int))) (wipe σ vs) H fun σ2 H2 => wipe σ2 vs = wipe σ vs ∧ tt σ2 H2 fun b H3 => if b = true then tel σ2 H3 fun z H4 => ∃ acc, H4 D = some (.lst acc) ∧ acc.length < sizeLine ∧ Pv (i + 1) (upd H4 D (.lst (acc ++ [z]))) else Pv (i + 1) H3) ∧
    ∀ H, Pv (j - 0).toNat H → Q (.ref D) H)
theorem x_lcR {tt : TT} {tel : TE} {vs : List Nat} (h : te σ H fun y H1 => LcR g tt tel vs Q y σ H1) : eLcR none te g tt tel vs σ H Q := h
def lcKR (g : TG) (tt : TT) (tel : TE) (vs : List Nat) (σw : L2.St) (D : Addr) (Q : VK) : List V → Hp → Prop
  | [], H => Q (.ref D) H
  | x :: xs, H => g x σw H fun σ2 H2 => wipe σ2 vs = σw ∧ tt σ2 H2 fun b H3 => if b = true then tel σ2 H3 fun z H4 => lcPut D z (fun H => lcKR g tt tel vs σw D Q xs H) H4 else lcKR g tt tel vs σw D Q xs H3
theorem lcRU {tt : TT} {tel : TE} {vs : List Nat} {σw : L2.St} (n : Nat) (ej : j = (n : Int)) (hn : (n : Int) < 4611686018427387904) (exs : (List.range n).map (fun (i : Nat) => V.int (0 + (i : Int))) = xs) (F : FH H L) (ew : wipe σ vs = σw) (h : ∀ D H', FH H' ((D, Is (.lst [])) :: L) → lcKR g tt tel vs σw D Q xs H') : LcR g tt tel vs Q (.int j) σ H := by
  subst ew ej exs
  have e62 : (2 : Int) ^ 62 = 4611686018427387904 := by decide
  refine ⟨_, rfl, ⟨by rw [e62]; decide, by rw [e62]; decide, by rw [e62]; omega, by rw [e62]; exact hn⟩, fun D hD => ⟨fun i H => lcKR g tt tel vs (wipe σ vs) D Q (((List.range n).map (fun (i : Nat) => V.int (0 + (i : Int)))).drop i) H, by (dsimp only; rw [List.drop_zero]; exact h D _ (F.new hD)), fun i H hi q => ?_, fun H q => ?_⟩⟩
  · dsimp only at q
    have hl : i < ((List.range n).map (fun (i : Nat) => V.int (0 + (i : Int)))).length := by rw [List.length_map, List.length_range]; omega
    rw [List.drop_eq_getElem_cons hl] at q
    rw [List.getElem_map, List.getElem_range] at q
    exact q
  · have e1 : ((n : Int) - 0).toNat = n := by omega
    dsimp only at q
    rw [e1, List.drop_of_length_le (by rw [List.length_map, List.length_range]; exact Nat.le_refl _)] at q
    exact q
theorem x_lcKR {D : Addr} {tt : TT} {tel : TE} {vs : List Nat} {σw : L2.St} (h : g x σw H fun σ2 H2 => wipe σ2 vs = σw ∧ tt σ2 H2 fun b H3 => if b = true then tel σ2 H3 fun z H4 => lcPut D z (fun H => lcKR g tt tel vs σw D Q xs H) H4 else lcKR g tt tel vs σw D Q xs H3) : lcKR g tt tel vs σw D Q (x :: xs) H := h
theorem x_lcKR0 {D : Addr} {tt : TT} {tel : TE} {vs : List Nat} {σw : L2.St} (h : Q (.ref D) H) : lcKR g tt tel vs σw D Q [] H := h
theorem x_listL (F : FH H L) (m : (p, Is (.lst xs)) ∈ L) (h : ∀ r H', H r = none → FH H' ((r, Is (.lst xs)) :: L) → Q (.ref r) H') : rListOf S [.ref p] H Q := ⟨p, xs, rfl, .inl (RdS.of (.inl (F.get m))), fun r hr => h r _ hr (F.new hr)⟩
theorem x_listT (F : FH H L) (m : (p, Is (.tup xs)) ∈ L) (h : ∀ r H', H r = none → FH H' ((r, Is (.lst xs)) :: L) → Q (.ref r) H') : rListOf S [.ref p] H Q := ⟨p, xs, rfl, .inr (RdS.of (.inl (F.get m))), fun r hr => h r _ hr (F.new hr)⟩
theorem x_tupleL (F : FH H L) (m : (p, Is (.lst xs)) ∈ L) (h : ∀ r H', H r = none → FH H' ((r, Is (.tup xs)) :: L) → Q (.ref r) H') : rTupleOf S [.ref p] H Q := ⟨p, xs, rfl, .inl ⟨RdS.of (.inl (F.get m)), fun r hr => h r _ hr (F.new hr)⟩⟩
theorem x_tupleT (F : FH H L) (m : (p, Is (.tup xs)) ∈ L) (h : Q (.ref p) H) : rTupleOf S [.ref p] H Q := ⟨p, xs, rfl, .inr ⟨RdS.of (.inl (F.get m)), h⟩⟩
/-- all are True -/
def AllT : Pr := lift fun o => ∃ bs : List Bool, o = .lst (bs.map V.bl) ∧ bs.all id = true
theorem lcT {tel : TE} {vs : List Nat} {σw : L2.St} (F : FH H L) (m : Src S L p xs) (z : xs.length < 16777216) (ew : wipe σ vs = σw)
    (hs : ∀ y H (QX : V → Hp → Prop), y ∈ xs → FH H L → QX (.bl true) H → g y σw H fun σ2 H2 => wipe σ2 vs = σw ∧ tel σ2 H2 QX)
    (hd : ∀ D H', FH H' ((D, AllT) :: L) → Q (.ref D) H') : LcS S g tYes tel vs Q (.ref p) σ H := by
  refine lcFM (fun _ => .bl true) (fun _ => true) F m z ew (fun y H QX A hy F' hk hA => hs y H QX hy F' (hk rfl)) fun D H' F' => hd D H' (F'.close (φ := fun o => ∃ bs : List Bool, o = .lst (bs.map V.bl) ∧ bs.all id = true) ⟨List.replicate xs.length true, ?_, ?_⟩ .here)
  · rw [List.filter_eq_self.mpr (fun _ _ => rfl)]
    congr 1
    clear m z hs F'
    induction xs with
    | nil => rfl
    | cons x xs ih => rw [List.map_cons, List.length_cons, List.replicate_succ, List.map_cons, ih]
  · generalize xs.length = n
    induction n with
    | zero => rfl
    | succ n ih => rw [List.replicate_succ, List.all_cons, ih]; rfl
theorem x_allT (F : FH H L) (m : (p, AllT) ∈ L) (h : Q (.bl true) H) : rAll S [.ref p] H Q := by
  obtain ⟨o, ho, bs, e, hb⟩ := F.is m
  subst e
  exact ⟨p, bs, rfl, .inl (.inl ho), by rw [hb]; exact h⟩
theorem Src.cons {L : List Ent} {x : Ent} (m : Src S L p xs) : Src S (x :: L) p xs := by
  cases m with
  | is m => exact .is (List.mem_cons_of_mem _ m)
  | rd m => exact .rd (List.mem_cons_of_mem _ m)
  | st m => exact .st m
theorem cutV_take {n : Nat} (h : xs.length ≤ n) : cutV xs none (some (n : Int)) = xs := by
  unfold cutV
  rw [HT.sIx_none, HT.sIx_nat, List.drop_zero, Nat.sub_zero, Nat.min_eq_right h, List.take_length]
/-! fields -/
theorem look_hit {f : Str} {v : V} {t : List (Str × V)} : List.lookup f ((f, v) :: t) = some v := by simp [List.lookup]
theorem look_nil {f : Str} : List.lookup f ([] : List (Str × V)) = none := rfl
theorem look_miss {f g : Str} {v : V} {r : Option V} {t : List (Str × V)} (h : ¬ f = g) (e : List.lookup f t = r) : List.lookup f ((g, v) :: t) = r := by
  have h' : (f == g) = false := by simpa using h
  simp only [List.lookup, h']
  exact e
theorem put_nil {f : Str} {v : V} : putF f v [] = [(f, v)] := rfl
theorem put_hit {f : Str} {v w : V} {t : List (Str × V)} : putF f v ((f, w) :: t) = (f, v) :: t := by
  show (if f = f then _ else _) = _
  rw [if_pos rfl]
theorem put_miss {f g : Str} {v w : V} {t t' : List (Str × V)} (h : ¬ g = f) (e : putF f v t = t') : putF f v ((g, w) :: t) = (g, w) :: t' := by
  show (if g = f then _ else _) = _
  rw [if_neg h, e]
/-! == of flat lists and tuples -/
def flatOk : V → Bool
  | .non => true
  | .bl _ => true
  | .int _ => true
  | .str s => PyData.canLay0 (.str s)
  | _ => false
def flatD : V → PyData
  | .bl b => .bool b
  | .int i => .int i
  | .str s => .str s
  | _ => .none
def eqvF (xs ys : List V) : Bool := PyData.eqvAll (xs.map flatD) (ys.map flatD)
theorem dp_flat {v : V} (h : flatOk v = true) : DpS S H v (flatD v) := by
  cases v with
  | non => exact .non
  | bl b => exact .bl b
  | int i => exact .int i
  | str s => exact .str s
  | _ => cases h
theorem dps_flat : ∀ {xs : List V}, xs.all flatOk = true → DpSs S H xs (xs.map flatD)
  | [], _ => .nil
  | x :: xs, h => by
    rw [List.all_cons, Bool.and_eq_true] at h
    exact .cons (dp_flat h.1) (dps_flat h.2)
theorem lay_flat : ∀ {xs : List V}, xs.all flatOk = true → PyData.canLayAll0 (xs.map flatD) = true ∧ PyData.depthAll (xs.map flatD) = 0
  | [], _ => ⟨rfl, rfl⟩
  | x :: xs, h => by
    rw [List.all_cons, Bool.and_eq_true] at h
    obtain ⟨h1, h2⟩ := lay_flat h.2
    rw [List.map_cons]
    have e : PyData.canLay0 (flatD x) = true ∧ PyData.depth (flatD x) = 0 := by
      cases x with
      | non => exact ⟨rfl, rfl⟩
      | bl b => exact ⟨rfl, rfl⟩
      | int i => exact ⟨rfl, rfl⟩
      | str s => exact ⟨h.1, rfl⟩
      | _ => cases h.1
    constructor
    · rw [PyData.canLayAll0, e.1, h1]; rfl
    · rw [PyData.depthAll, e.2, h2]; rfl
theorem shaped_flatL {xs : List V} (h : xs.all flatOk = true) : SeqAt.shaped (.list (xs.map flatD)) = true := by
  obtain ⟨h1, h2⟩ := lay_flat h
  unfold SeqAt.shaped
  rw [PyData.canLay0, h1, PyData.depth, h2]
  rfl
theorem shaped_flatT {xs : List V} (h : xs.all flatOk = true) : SeqAt.shaped (.tuple (xs.map flatD)) = true := by
  obtain ⟨h1, h2⟩ := lay_flat h
  unfold SeqAt.shaped
  rw [PyData.canLay0, h1, PyData.depth, h2]
  rfl
theorem eqv_nil : eqvF [] [] = true := rfl
theorem eqv_nc {x : V} {xs : List V} : eqvF [] (x :: xs) = false := rfl
theorem eqv_cn {x : V} {xs : List V} : eqvF (x :: xs) [] = false := rfl
theorem eqv_int {i j : Int} {xs ys : List V} : eqvF (.int i :: xs) (.int j :: ys) = (decide (i = j) && eqvF xs ys) := by
  show (i == j && _) = _
  rfl
theorem eqv_bl {i j : Bool} {xs ys : List V} : eqvF (.bl i :: xs) (.bl j :: ys) = (decide (i = j) && eqvF xs ys) := by
  show (i == j && _) = _
  cases i <;> cases j <;> rfl
theorem eqv_str {i j : Str} {xs ys : List V} : eqvF (.str i :: xs) (.str j :: ys) = (decide (i = j) && eqvF xs ys) := by
  show (i == j && _) = _
  congr 1
theorem eqv_ints : ∀ {ns ms : List Int}, eqvF (ns.map V.int) (ms.map V.int) = decide (ns = ms)
  | [], [] => rfl
  | [], _ :: _ => rfl
  | _ :: _, [] => rfl
  | n :: ns, m :: ms => by
    rw [List.map_cons, List.map_cons, eqv_int, eqv_ints, Bool.eq_iff_iff]
    simp only [Bool.and_eq_true, decide_eq_true_eq, List.cons.injEq]
theorem flat_ints : ∀ {ns : List Int}, (ns.map V.int).all flatOk = true
  | [] => rfl
  | _ :: ns => by rw [List.map_cons, List.all_cons, flat_ints]; rfl
theorem x_eqPL (F : FH H L) {q : Addr} {ys : List V} {b : Bool} (m : (p, Is (.lst xs)) ∈ L) (n : (q, Is (.lst ys)) ∈ L) (f1 : xs.all flatOk = true) (f2 : ys.all flatOk = true) (e : eqvF xs ys = b) (h : Q (.bl b) H) : rEqP S (.ref p) (.ref q) H Q :=
  .inr ⟨_, _, .lst (.inl (.inl (F.get m))) (dps_flat f1), .lst (.inl (.inl (F.get n))) (dps_flat f2), shaped_flatL f1, shaped_flatL f2, by
    show Q (.bl (eqvF xs ys)) H
    rw [e]; exact h⟩
theorem x_nePL (F : FH H L) {q : Addr} {ys : List V} {b : Bool} (m : (p, Is (.lst xs)) ∈ L) (n : (q, Is (.lst ys)) ∈ L) (f1 : xs.all flatOk = true) (f2 : ys.all flatOk = true) (e : eqvF xs ys = b) (h : Q (.bl (!b)) H) : rNeP S (.ref p) (.ref q) H Q :=
  .inr ⟨_, _, .lst (.inl (.inl (F.get m))) (dps_flat f1), .lst (.inl (.inl (F.get n))) (dps_flat f2), shaped_flatL f1, shaped_flatL f2, by
    show Q (.bl (!eqvF xs ys)) H
    rw [e]; exact h⟩
theorem x_eqPT (F : FH H L) {q : Addr} {ys : List V} {b : Bool} (m : (p, Is (.tup xs)) ∈ L) (n : (q, Is (.tup ys)) ∈ L) (f1 : xs.all flatOk = true) (f2 : ys.all flatOk = true) (e : eqvF xs ys = b) (h : Q (.bl b) H) : rEqP S (.ref p) (.ref q) H Q :=
  .inr ⟨_, _, .tup (.inl (.inl (F.get m))) (dps_flat f1), .tup (.inl (.inl (F.get n))) (dps_flat f2), shaped_flatT f1, shaped_flatT f2, by
    show Q (.bl (eqvF xs ys)) H
    rw [e]; exact h⟩
theorem x_nePT (F : FH H L) {q : Addr} {ys : List V} {b : Bool} (m : (p, Is (.tup xs)) ∈ L) (n : (q, Is (.tup ys)) ∈ L) (f1 : xs.all flatOk = true) (f2 : ys.all flatOk = true) (e : eqvF xs ys = b) (h : Q (.bl (!b)) H) : rNeP S (.ref p) (.ref q) H Q :=
  .inr ⟨_, _, .tup (.inl (.inl (F.get m))) (dps_flat f1), .tup (.inl (.inl (F.get n))) (dps_flat f2), shaped_flatT f1, shaped_flatT f2, by
    show Q (.bl (!eqvF xs ys)) H
    rw [e]; exact h⟩
theorem eqv_strS {s : Str} {xs ys : List V} : eqvF (.str s :: xs) (.str s :: ys) = eqvF xs ys := by rw [eqv_str, decide_eq_true rfl, Bool.true_and]
theorem eqv_strD {s t : Str} {xs ys : List V} (h : s ≠ t) : eqvF (.str s :: xs) (.str t :: ys) = false := by rw [eqv_str, decide_eq_false h, Bool.false_and]
theorem flat_cons {x : V} {xs : List V} (h : flatOk x = true) (t : xs.all flatOk = true) : (x :: xs).all flatOk = true := by rw [List.all_cons, h, t]; rfl
theorem x_eqPSs {a : Str} (h : Q (.bl true) H) : rEqP S (.str a) (.str a) H Q := .inl (x_eqS (by rw [decide_eq_true rfl]; exact h))
theorem x_nePSs {a : Str} (h : Q (.bl false) H) : rNeP S (.str a) (.str a) H Q := .inl (x_neS (by rw [decide_eq_false (fun z => z rfl)]; exact h))
theorem x_eqPSd {a b : Str} (ne : a ≠ b) (h : Q (.bl false) H) : rEqP S (.str a) (.str b) H Q := .inl (x_eqS (by rw [decide_eq_false ne]; exact h))
theorem x_nePSd {a b : Str} (ne : a ≠ b) (h : Q (.bl true) H) : rNeP S (.str a) (.str b) H Q := .inl (x_neS (by rw [decide_eq_true ne]; exact h))
theorem eqv_nn {xs ys : List V} : eqvF (.non :: xs) (.non :: ys) = eqvF xs ys := by show (true && _) = _; rw [Bool.true_and]; rfl
theorem eqv_ni {i : Int} {xs ys : List V} : eqvF (.non :: xs) (.int i :: ys) = false := rfl
theorem eqv_in {i : Int} {xs ys : List V} : eqvF (.int i :: xs) (.non :: ys) = false := rfl
theorem eqv_ns {s : Str} {xs ys : List V} : eqvF (.non :: xs) (.str s :: ys) = false := rfl
theorem eqv_sn {s : Str} {xs ys : List V} : eqvF (.str s :: xs) (.non :: ys) = false := rfl
theorem eqv_si {s : Str} {i : Int} {xs ys : List V} : eqvF (.str s :: xs) (.int i :: ys) = false := rfl
theorem eqv_is {s : Str} {i : Int} {xs ys : List V} : eqvF (.int i :: xs) (.str s :: ys) = false := rfl
theorem sc_of {x y : V} {b : Bool} (s : scal x y = true) (e : decide (x = y) = b) (h : Q (.bl b) H) : rEqP S x y H Q := .inl ⟨s, by rw [e]; exact h⟩
theorem sn_of {x y : V} {b : Bool} (s : scal x y = true) (e : decide (x = y) = b) (h : Q (.bl (!b)) H) : rNeP S x y H Q := .inl ⟨s, by rw [e]; exact h⟩
theorem x_eqP_nn (h : Q (.bl true) H) : rEqP S (.non) (.non) H Q := sc_of rfl (decide_eq_true rfl) h
theorem x_neP_nn (h : Q (.bl (!true)) H) : rNeP S (.non) (.non) H Q := sn_of rfl (decide_eq_true rfl) h
theorem x_eqP_ni (h : Q (.bl false) H) : rEqP S (.non) (.int i) H Q := sc_of rfl (decide_eq_false (by simp)) h
theorem x_neP_ni (h : Q (.bl (!false)) H) : rNeP S (.non) (.int i) H Q := sn_of rfl (decide_eq_false (by simp)) h
theorem x_eqP_in (h : Q (.bl false) H) : rEqP S (.int i) (.non) H Q := sc_of rfl (decide_eq_false (by simp)) h
theorem x_neP_in (h : Q (.bl (!false)) H) : rNeP S (.int i) (.non) H Q := sn_of rfl (decide_eq_false (by simp)) h
theorem x_eqP_nb (h : Q (.bl false) H) : rEqP S (.non) (.bl b) H Q := sc_of rfl (decide_eq_false (by simp)) h
theorem x_neP_nb (h : Q (.bl (!false)) H) : rNeP S (.non) (.bl b) H Q := sn_of rfl (decide_eq_false (by simp)) h
theorem x_eqP_bn (h : Q (.bl false) H) : rEqP S (.bl b) (.non) H Q := sc_of rfl (decide_eq_false (by simp)) h
theorem x_neP_bn (h : Q (.bl (!false)) H) : rNeP S (.bl b) (.non) H Q := sn_of rfl (decide_eq_false (by simp)) h
theorem x_eqP_ns {z : Str} (h : Q (.bl false) H) : rEqP S (.non) (.str z) H Q := sc_of rfl (decide_eq_false (by simp)) h
theorem x_neP_ns {z : Str} (h : Q (.bl (!false)) H) : rNeP S (.non) (.str z) H Q := sn_of rfl (decide_eq_false (by simp)) h
theorem x_eqP_sn {z : Str} (h : Q (.bl false) H) : rEqP S (.str z) (.non) H Q := sc_of rfl (decide_eq_false (by simp)) h
theorem x_neP_sn {z : Str} (h : Q (.bl (!false)) H) : rNeP S (.str z) (.non) H Q := sn_of rfl (decide_eq_false (by simp)) h
theorem x_eqP_is {z : Str} (h : Q (.bl false) H) : rEqP S (.int i) (.str z) H Q := sc_of rfl (decide_eq_false (by simp)) h
theorem x_neP_is {z : Str} (h : Q (.bl (!false)) H) : rNeP S (.int i) (.str z) H Q := sn_of rfl (decide_eq_false (by simp)) h
theorem x_eqP_si {z : Str} (h : Q (.bl false) H) : rEqP S (.str z) (.int i) H Q := sc_of rfl (decide_eq_false (by simp)) h
theorem x_neP_si {z : Str} (h : Q (.bl (!false)) H) : rNeP S (.str z) (.int i) H Q := sn_of rfl (decide_eq_false (by simp)) h
theorem x_eqP_bs {z : Str} (h : Q (.bl false) H) : rEqP S (.bl b) (.str z) H Q := sc_of rfl (decide_eq_false (by simp)) h
theorem x_neP_bs {z : Str} (h : Q (.bl (!false)) H) : rNeP S (.bl b) (.str z) H Q := sn_of rfl (decide_eq_false (by simp)) h
theorem x_eqP_sb {z : Str} (h : Q (.bl false) H) : rEqP S (.str z) (.bl b) H Q := sc_of rfl (decide_eq_false (by simp)) h
theorem x_neP_sb {z : Str} (h : Q (.bl (!false)) H) : rNeP S (.str z) (.bl b) H Q := sn_of rfl (decide_eq_false (by simp)) h
theorem x_isr_list_int (F : FH H L) (m : (p, Is (.lst xs)) ∈ L) (h : Q (.bl false) H) : rIsI [.ref p, .ty "int"] H Q := isi_of (.lst (.inl (F.get m))) kit_list_int rfl h
theorem x_isr_list_bool (F : FH H L) (m : (p, Is (.lst xs)) ∈ L) (h : Q (.bl false) H) : rIsI [.ref p, .ty "bool"] H Q := isi_of (.lst (.inl (F.get m))) kit_list_bool rfl h
theorem x_isr_list_str (F : FH H L) (m : (p, Is (.lst xs)) ∈ L) (h : Q (.bl false) H) : rIsI [.ref p, .ty "str"] H Q := isi_of (.lst (.inl (F.get m))) kit_list_str rfl h
theorem x_isr_list_list (F : FH H L) (m : (p, Is (.lst xs)) ∈ L) (h : Q (.bl true) H) : rIsI [.ref p, .ty "list"] H Q := isi_of (.lst (.inl (F.get m))) kit_list_list rfl h
theorem x_isr_list_tuple (F : FH H L) (m : (p, Is (.lst xs)) ∈ L) (h : Q (.bl false) H) : rIsI [.ref p, .ty "tuple"] H Q := isi_of (.lst (.inl (F.get m))) kit_list_tuple rfl h
theorem x_isr_list_dict (F : FH H L) (m : (p, Is (.lst xs)) ∈ L) (h : Q (.bl false) H) : rIsI [.ref p, .ty "dict"] H Q := isi_of (.lst (.inl (F.get m))) kit_list_dict rfl h
theorem x_isr_tuple_int (F : FH H L) (m : (p, Is (.tup xs)) ∈ L) (h : Q (.bl false) H) : rIsI [.ref p, .ty "int"] H Q := isi_of (.tup (.inl (F.get m))) kit_tuple_int rfl h
theorem x_isr_tuple_bool (F : FH H L) (m : (p, Is (.tup xs)) ∈ L) (h : Q (.bl false) H) : rIsI [.ref p, .ty "bool"] H Q := isi_of (.tup (.inl (F.get m))) kit_tuple_bool rfl h
theorem x_isr_tuple_str (F : FH H L) (m : (p, Is (.tup xs)) ∈ L) (h : Q (.bl false) H) : rIsI [.ref p, .ty "str"] H Q := isi_of (.tup (.inl (F.get m))) kit_tuple_str rfl h
theorem x_isr_tuple_list (F : FH H L) (m : (p, Is (.tup xs)) ∈ L) (h : Q (.bl false) H) : rIsI [.ref p, .ty "list"] H Q := isi_of (.tup (.inl (F.get m))) kit_tuple_list rfl h
theorem x_isr_tuple_tuple (F : FH H L) (m : (p, Is (.tup xs)) ∈ L) (h : Q (.bl true) H) : rIsI [.ref p, .ty "tuple"] H Q := isi_of (.tup (.inl (F.get m))) kit_tuple_tuple rfl h
theorem x_isr_tuple_dict (F : FH H L) (m : (p, Is (.tup xs)) ∈ L) (h : Q (.bl false) H) : rIsI [.ref p, .ty "dict"] H Q := isi_of (.tup (.inl (F.get m))) kit_tuple_dict rfl h
theorem is_eqP (h : rEqP S x y H Q) : rEqP S x y H Q := h
theorem is_neP (h : rNeP S x y H Q) : rNeP S x y H Q := h
theorem x_eqPI (h : Q (.bl (decide (i = j))) H) : rEqP S (.int i) (.int j) H Q := .inl (x_eqI h)
theorem x_nePI (h : Q (.bl (decide (i ≠ j))) H) : rNeP S (.int i) (.int j) H Q := .inl (x_neI h)
theorem x_eqPB {a b : Bool} (h : Q (.bl (decide (a = b))) H) : rEqP S (.bl a) (.bl b) H Q := .inl (x_eqB h)
theorem x_nePB {a b : Bool} (h : Q (.bl (decide (a ≠ b))) H) : rNeP S (.bl a) (.bl b) H Q := .inl (x_neB h)
theorem x_eqPS {a b : Str} (h : Q (.bl (decide (a = b))) H) : rEqP S (.str a) (.str b) H Q := .inl (x_eqS h)
theorem x_nePS {a b : Str} (h : Q (.bl (decide (a ≠ b))) H) : rNeP S (.str a) (.str b) H Q := .inl (x_neS h)
/-! small built-ins -/
theorem x_abs (h : Q (.int (if i < 0 then -i else i)) H) : rAbs [.int i] H Q := ⟨i, rfl, h⟩
theorem x_inL {bb : Bool} (F : FH H L) (m : (p, Is (.lst xs)) ∈ L) (f : flatV x = true) (fs : xs.all flatV = true) (e : inV x xs = bb) (h : Q (.bl bb) H) : rInA S false x (.ref p) H Q := .inl ⟨p, xs, rfl, .inl (.inl (.inl (F.get m))), f, fs, by rw [e]; exact h⟩
theorem x_inT {bb : Bool} (F : FH H L) (m : (p, Is (.tup xs)) ∈ L) (f : flatV x = true) (fs : xs.all flatV = true) (e : inV x xs = bb) (h : Q (.bl bb) H) : rInA S false x (.ref p) H Q := .inl ⟨p, xs, rfl, .inr (.inl (.inl (F.get m))), f, fs, by rw [e]; exact h⟩
theorem x_ninL {bb : Bool} (F : FH H L) (m : (p, Is (.lst xs)) ∈ L) (f : flatV x = true) (fs : xs.all flatV = true) (e : inV x xs = bb) (h : Q (.bl (!bb)) H) : rInA S true x (.ref p) H Q := .inl ⟨p, xs, rfl, .inl (.inl (.inl (F.get m))), f, fs, by rw [e]; exact h⟩
theorem x_ninT {bb : Bool} (F : FH H L) (m : (p, Is (.tup xs)) ∈ L) (f : flatV x = true) (fs : xs.all flatV = true) (e : inV x xs = bb) (h : Q (.bl (!bb)) H) : rInA S true x (.ref p) H Q := .inl ⟨p, xs, rfl, .inr (.inl (.inl (F.get m))), f, fs, by rw [e]; exact h⟩
theorem x_min3 {k : Int} (h : Q (.int (min (min i j) k)) H) : rMin3 [.int i, .int j, .int k] H Q := ⟨i, j, k, rfl, h⟩
theorem x_min2 (h : Q (.int (min i j)) H) : rMin2 [.int i, .int j] H Q := ⟨i, j, rfl, by rw [show (if j < i then j else i) = min i j by omega]; exact h⟩
theorem x_max2 (h : Q (.int (max i j)) H) : rMax2 [.int i, .int j] H Q := ⟨i, j, rfl, by rw [show (if j > i then j else i) = max i j by omega]; exact h⟩
theorem x_sumL {ns : List Int} (F : FH H L) (m : (p, Is (.lst (ns.map V.int))) ∈ L) (h : Q (.int ns.sum) H) : rSum S [.ref p] H Q := ⟨p, ns, rfl, .inl (.inl (F.get m)), h⟩
theorem x_allL {bs : List Bool} (F : FH H L) (m : (p, Is (.lst xs)) ∈ L) (e : xs = bs.map V.bl) (h : Q (.bl (bs.all id)) H) : rAll S [.ref p] H Q := ⟨p, bs, rfl, .inl (.inl (by rw [← e]; exact F.get m)), h⟩
theorem x_cat (F : FH H L) {q : Addr} {ys : List V} (m : (p, Is (.lst xs)) ∈ L) (n : (q, Is (.lst ys)) ∈ L) (z : (xs ++ ys).length ≤ sizeLine) (h : ∀ r H', H r = none → FH H' ((r, Is (.lst (xs ++ ys))) :: L) → Q (.ref r) H') : rAdd (.ref p) (.ref q) H Q :=
  .inr (.inr ⟨p, q, xs, ys, rfl, rfl, F.get m, F.get n, by rw [← List.length_append]; exact z, fun r hr => h r _ hr (F.new hr)⟩)
theorem x_prop {C : Addr} (h : te σ H fun x H1 => ∃ a dx fs, x = .ref a ∧ H1 a = some (.ins C dx fs) ∧ sp [.ref a] H1 Q E0) : eProp C sp te σ H Q := h
theorem x_propG {C : Addr} {B : Addr → Prop} (F : FH H L) (m : (p, Is (.ins C dx fs)) ∈ L) (h : B p) : ∃ a dx fs, V.ref p = .ref a ∧ H a = some (.ins C dx fs) ∧ B a := ⟨p, dx, fs, rfl, F.get m, h⟩
theorem x_augF {C : Addr} {rd : V → V → Hp → VK → Prop} (h : te σ H fun x H1 => ∃ a dx fs v, x = .ref a ∧ H1 a = some (.ins C dx fs) ∧ fs.lookup f = some v ∧
  tb σ H1 fun y H2 => rd v y H2 fun z H3 => ∃ dx' fs', H3 a = some (.ins C dx' fs') ∧ fs'.length < 1000 ∧ nx σ (upd H3 a (.ins C dx' (putF f z fs')))) : sAugF C f te tb rd ⟨nx, rt, bk, ct⟩ σ H := h
theorem x_augFG {C : Addr} {QAV : Addr → V → Prop} (F : FH H L) (m : (p, Is (.ins C dx fs)) ∈ L) (l : fs.lookup f = some v) (h : QAV p v) : ∃ a dx fs v, V.ref p = .ref a ∧ H a = some (.ins C dx fs) ∧ fs.lookup f = some v ∧ QAV a v := ⟨p, dx, fs, v, rfl, F.get m, l, h⟩
theorem x_augFS {C : Addr} {z : V} {QH : Hp → Prop} {fs' : List (Str × V)} (F : FH H L) (m : (p, Is (.ins C dx fs)) ∈ L) (hl : fs.length < 1000) (e : putF f z fs = fs') (pu : Put p (Is (.ins C dx fs)) (Is (.ins C dx fs')) L L') (h : ∀ H', FH H' L' → QH H') : ∃ dx' fs', H p = some (.ins C dx' fs') ∧ fs'.length < 1000 ∧ QH (upd H p (.ins C dx' (putF f z fs'))) :=
  ⟨dx, fs, F.get m, hl, by rw [e]; exact h _ (F.put pu trivial)⟩
theorem x_inAdd (h : Q (.int (i + j)) H) : rInAdd (.int i) (.int j) H Q := ⟨i, j, rfl, rfl, h⟩
theorem x_inSub (h : Q (.int (i - j)) H) : rInSub (.int i) (.int j) H Q := ⟨i, j, rfl, rfl, h⟩
/-! objects of several classes -/
variable {Cs : List Addr} {ls : List (Addr × Sp)}
theorem x_mD {ES : L2.St → XK} {m : Str} (h : ta σ H fun x H1 => ∃ a C dx fs sp, x = .ref a ∧ H1 a = some (.ins C dx fs) ∧ (C, sp) ∈ ls ∧ fs.lookup m = none ∧ tl σ H1 fun vs H2 => sp (x :: vs) H2 Q (ES σ)) : tMD ls m ES ta tl σ H Q := h
theorem x_mDG {C : Addr} {m : Str} {B : Sp → Prop} {sp1 : Sp} (F : FH H L) (hm : (p, Is (.ins C dx fs)) ∈ L) (mt : (C, sp1) ∈ ls) (l : fs.lookup m = none) (h : B sp1) : ∃ a C dx fs sp, V.ref p = .ref a ∧ H a = some (.ins C dx fs) ∧ (C, sp) ∈ ls ∧ fs.lookup m = none ∧ B sp := ⟨p, C, dx, fs, sp1, rfl, F.get hm, mt, l, h⟩
theorem x_fldD (h : te σ H fun x H1 => ∃ a C dx fs v, x = .ref a ∧ H1 a = some (.ins C dx fs) ∧ C ∈ Cs ∧ fs.lookup f = some v ∧ Q v H1) : eFldD Cs f te σ H Q := h
theorem x_fldDG {C : Addr} {QV : V → Prop} (F : FH H L) (m : (p, Is (.ins C dx fs)) ∈ L) (mt : C ∈ Cs) (l : fs.lookup f = some v) (h : QV v) : ∃ a C dx fs v, V.ref p = .ref a ∧ H a = some (.ins C dx fs) ∧ C ∈ Cs ∧ fs.lookup f = some v ∧ QV v := ⟨p, C, dx, fs, v, rfl, F.get m, mt, l, h⟩
theorem x_setFD (h : tb σ H fun y H1 => te σ H1 fun x H2 => ∃ a C dx fs, x = .ref a ∧ H2 a = some (.ins C dx fs) ∧ C ∈ Cs ∧ fs.length < 1000 ∧ nx σ (upd H2 a (.ins C dx (putF f y fs)))) : sSetFD Cs f te tb ⟨nx, rt, bk, ct⟩ σ H := h
theorem x_setFDG {C : Addr} {QH : Hp → Prop} {fs' : List (Str × V)} (F : FH H L) (m : (p, Is (.ins C dx fs)) ∈ L) (mt : C ∈ Cs) (z : fs.length < 1000) (e : putF f y fs = fs') (pu : Put p (Is (.ins C dx fs)) (Is (.ins C dx fs')) L L') (h : ∀ H', FH H' L' → QH H') :
    ∃ a C dx fs, V.ref p = .ref a ∧ H a = some (.ins C dx fs) ∧ C ∈ Cs ∧ fs.length < 1000 ∧ QH (upd H a (.ins C dx (putF f y fs))) := ⟨p, C, dx, fs, rfl, F.get m, mt, z, by rw [e]; exact h _ (F.put pu trivial)⟩
theorem x_augFD {rd : V → V → Hp → VK → Prop} (h : te σ H fun x H1 => ∃ a C dx fs v, x = .ref a ∧ H1 a = some (.ins C dx fs) ∧ C ∈ Cs ∧ fs.lookup f = some v ∧
  tb σ H1 fun y H2 => rd v y H2 fun z H3 => ∃ dx' fs', H3 a = some (.ins C dx' fs') ∧ fs'.length < 1000 ∧ nx σ (upd H3 a (.ins C dx' (putF f z fs')))) : sAugFD Cs f te tb rd ⟨nx, rt, bk, ct⟩ σ H := h
theorem x_augFDG {C : Addr} {QAV : Addr → Addr → V → Prop} (F : FH H L) (m : (p, Is (.ins C dx fs)) ∈ L) (mt : C ∈ Cs) (l : fs.lookup f = some v) (h : QAV p C v) : ∃ a C dx fs v, V.ref p = .ref a ∧ H a = some (.ins C dx fs) ∧ C ∈ Cs ∧ fs.lookup f = some v ∧ QAV a C v := ⟨p, C, dx, fs, v, rfl, F.get m, mt, l, h⟩
theorem x_propD (h : te σ H fun x H1 => ∃ a C dx fs sp, x = .ref a ∧ H1 a = some (.ins C dx fs) ∧ (C, sp) ∈ ls ∧ sp [.ref a] H1 Q E0) : ePropD ls te σ H Q := h
theorem x_propDG {C : Addr} {sp1 : Sp} {B : Addr → Sp → Prop} (F : FH H L) (m : (p, Is (.ins C dx fs)) ∈ L) (mt : (C, sp1) ∈ ls) (h : B p sp1) : ∃ a C dx fs sp, V.ref p = .ref a ∧ H a = some (.ins C dx fs) ∧ (C, sp) ∈ ls ∧ B a sp := ⟨p, C, dx, fs, sp1, rfl, F.get m, mt, h⟩
theorem x_supM {C : Addr} {σ : L2.St} (F : FH H L) (m : (p, Is (.ins C dx fs)) ∈ L) (mt : C ∈ Cs) (h : tl (some (.ref p) :: σ) H fun vs H1 => sp (.ref p :: vs) H1 Q E) : tSupM Cs sp E tl (some (.ref p) :: σ) H Q := ⟨p, C, dx, fs, rfl, F.get m, mt, h⟩
theorem x_augSub {to ti : TE} {tg : V → V → Hp → VK → Prop} {tp : TIp} {ts : TSet} (h : to σ H fun o H1 => ti σ H1 fun i H2 => tg o i H2 fun x H3 => te σ H3 fun y H4 => tp x y H4 fun z H5 => ts o i z H5 fun H6 => nx σ H6) : tAugS to ti te tg tp ts ⟨nx, rt, bk, ct⟩ σ H := h
theorem x_getL (F : FH H L) (m : (p, Is (.lst xs)) ∈ L) (a : atI xs i = some v) (h : Q v H) : rGetL (.ref p) (.int i) H Q := ⟨p, xs, i, v, rfl, rfl, F.get m, a, h⟩
def KmakeD (C : Addr) (sp : Sp) (vs : List V) (H1 : Hp) (Q : VK) (E : XK) : Prop := ∀ x dx, H1 x = none → H1 dx = none → dx ≠ x → sp (.ref x :: vs) (upd (upd H1 dx (.own x)) x (.ins C dx [])) (fun v H2 => v = .non ∧ Q (.ref x) H2) E
theorem x_makeD {C : Addr} {d : V} {ds : List V} (h : tl σ H fun vs H1 => KmakeD C sp (vs ++ d :: ds) H1 Q E) : tMake C sp (d :: ds) E tl σ H Q := h
theorem app0 {α : Type} {ws : List α} : [] ++ ws = ws := rfl
theorem app1 {α : Type} {x : α} {ws : List α} : [x] ++ ws = x :: ws := rfl
theorem app2 {α : Type} {x y : α} {ws : List α} : [x, y] ++ ws = x :: y :: ws := rfl
theorem app3 {α : Type} {x y z : α} {ws : List α} : [x, y, z] ++ ws = x :: y :: z :: ws := rfl
theorem x_makeDG {C : Addr} {vs ws : List V} (F : FH H L) (ap : vs = ws) (h : ∀ x dx H', FH H' ((x, Is (.ins C dx [])) :: L) → sp (.ref x :: ws) H' (fun v H2 => v = .non ∧ Q (.ref x) H2) E) :
    KmakeD C sp vs H Q E := fun x dx hx hd ne => by
  rw [ap]
  exact h x dx _ ((F.other hd).new (by rw [upd_ne (Ne.symm ne)]; exact hx))
/-! errors -/
def KmkC (C : Addr) (fs : List Str) (E : XK) (vs : List V) (H1 : Hp) : Prop := vs.length = fs.length ∧ ∀ d, H1 d = none → E (.ref C) (some d) (upd H1 d (.xd (exFs fs vs)))
theorem x_raise {C : Addr} {fs : List Str} {D : Ends} (h : tl σ H fun vs H1 => KmkC C fs E vs H1) : sRaise E (tMkC C fs tl) D σ H := h
theorem x_raiseS {C : Addr} {fs : List Str} {D : Ends} {W : WX} (h : tl σ H fun vs H1 => KmkC C fs (WE W σ) vs H1) : sRaiseS W (tMkC C fs tl) D σ H := h
theorem x_mkC1 {C : Addr} {f : Str} (F : FH H L) (h : ∀ d H', FH H' ((d, Is (.xd [(f, v)])) :: L) → E (.ref C) (some d) H') : KmkC C [f] E [v] H := ⟨rfl, fun d hd => h d _ (F.new hd)⟩
theorem x_mkC2 {C : Addr} {f g : Str} {w : V} (F : FH H L) (h : ∀ d H', FH H' ((d, Is (.xd [(g, w), (f, v)])) :: L) → E (.ref C) (some d) H') : KmkC C [f, g] E [v, w] H := ⟨rfl, fun d hd => h d _ (F.new hd)⟩
theorem x_try {tab : List (Value × Nat)} {cl : List Sui} {tw : WX → TS} (h : tw (wT tab cl ⟨nx, rt, bk, ct⟩) ⟨nx, rt, bk, ct⟩ σ H) : sTry tab cl tw ⟨nx, rt, bk, ct⟩ σ H := h
theorem x_cS {ES : L2.St → XK} (h : tl σ H fun vs H1 => sp vs H1 Q (ES σ)) : tCS sp ES tl σ H Q := h
theorem x_mS {ES : L2.St → XK} {m : Str} (h : ta σ H fun x H1 => ∃ a dx fs, x = .ref a ∧ H1 a = some (.ins C dx fs) ∧ fs.lookup m = none ∧ tl σ H1 fun vs H2 => sp (x :: vs) H2 Q (ES σ)) : tMS C m sp ES ta tl σ H Q := h
def KnewS (C : Addr) (sp : Sp) (vs : List V) (H1 : Hp) (Q : VK) (E : XK) : Prop := ∀ x dx, H1 x = none → H1 dx = none → dx ≠ x → sp (.ref x :: vs) (upd (upd H1 dx (.own x)) x (.ins C dx [])) (fun v H2 => v = .non ∧ Q (.ref x) H2) E
theorem x_newS {ES : L2.St → XK} (h : tl σ H fun vs H1 => KnewS C sp vs H1 Q (ES σ)) : tNewS C sp ES tl σ H Q := h
theorem x_newSG {C : Addr} {vs : List V} (F : FH H L) (h : ∀ x dx H', FH H' ((x, Is (.ins C dx [])) :: L) → sp (.ref x :: vs) H' (fun v H2 => v = .non ∧ Q (.ref x) H2) E) : KnewS C sp vs H Q E := fun x dx hx hd ne =>
  h x dx _ ((F.other hd).new (by rw [upd_ne (Ne.symm ne)]; exact hx))
def gDel (i : Nat) (σ : L2.St) (H : Hp) (k : K0) : Prop := k (σ.set i none) H
theorem is_d {n : Nat} {k : K0} (h : gDel n σ H k) : gDel n σ H k := h
theorem x_wTs {tab : List (Value × Nat)} {cl : List Sui} {k i : Nat} {ts : Addr → Value → Option Addr → TS} {cls : Value} {d : Option Addr} (mt : (cls, k) ∈ tab) (rf : cl[k]? = some (some i, ts)) (h : ∀ a, gName i (.ref a) σ H fun σ' H' => ts a cls d ⟨fun σ' H' => gDel i σ' H' nx, rt, fun σ' H' => gDel i σ' H' bk, fun σ' H' => gDel i σ' H' ct⟩ σ' H') :
    wT tab cl ⟨nx, rt, bk, ct⟩ cls d σ H := ⟨k, some i, ts, mt, rf, fun a _ => h a⟩
theorem x_wTn {tab : List (Value × Nat)} {cl : List Sui} {k : Nat} {ts : Addr → Value → Option Addr → TS} {cls : Value} {d : Option Addr} (mt : (cls, k) ∈ tab) (rf : cl[k]? = some (none, ts)) (h : ∀ a, ts a cls d ⟨nx, rt, bk, ct⟩ σ H) :
    wT tab cl ⟨nx, rt, bk, ct⟩ cls d σ H := ⟨k, none, ts, mt, rf, fun a _ => h a⟩
theorem x_xf {b : Addr} {cls : Value} {d : Option Addr} {Cs : List Addr} {f : Str} (h : te σ H fun x H1 => x = .ref b ∧ ∃ C, C ∈ Cs ∧ cls = .ref C ∧ ∃ (dd : Addr) (fs : List (Str × V)) (v : V), d = some dd ∧ H1 dd = some (.xd fs) ∧ fs.lookup f = some v ∧ Q v H1) : eXf b cls d Cs f te σ H Q := h
theorem x_xfG {b C : Addr} {Cs : List Addr} {f : Str} {QV : V → Prop} {fs : List (Str × V)} (F : FH H L) (m : (p, Is (.xd fs)) ∈ L) (mt : C ∈ Cs) (l : fs.lookup f = some v) (h : QV v) :
    V.ref b = .ref b ∧ ∃ C', C' ∈ Cs ∧ Value.ref C = .ref C' ∧ ∃ (dd : Addr) (fs : List (Str × V)) (v : V), some p = some dd ∧ H dd = some (.xd fs) ∧ fs.lookup f = some v ∧ QV v := ⟨rfl, C, mt, rfl, p, fs, v, rfl, F.get m, l, h⟩
theorem x_isX {b C : Addr} {tbl : List (Value × V × Bool)} {c : V} {k : Bool} {fs : List (Str × V)} (F : FH H L) (m : (p, Is (.xd fs)) ∈ L) (mt : (Value.ref C, c, k) ∈ tbl) (h : Q (.bl k) H) : rIsX tbl b (.ref C) (some p) [.ref b, c] H Q := .inl ⟨c, k, rfl, mt, ⟨p, fs, rfl, F.get m⟩, h⟩
theorem x_isXi {b : Addr} {tbl : List (Value × V × Bool)} {cls : Value} {d : Option Addr} {xs : List V} (h : rIsI xs H Q) : rIsX tbl b cls d xs H Q := .inr h
theorem x_strI (h1 : -18446744073709551616 < i ∧ i < 18446744073709551616) (h : Q (.str (toString i)) H) : rStrI [.int i] H Q := ⟨i, rfl, by
  by_cases e : i.natAbs = 0
  · rw [e]; decide
  · have h2 := Nat.log2_self_le e
    have h3 : 2 ^ i.natAbs.log2 < 2 ^ 64 := by
      have : (2 : Nat) ^ 64 = 18446744073709551616 := by decide
      omega
    have := (Nat.pow_lt_pow_iff_right (by decide : 1 < 2)).mp h3
    omega, h⟩
/-! places -/
theorem atI_at {α : Type} {xs : List α} {j : Nat} {v : α} (e : i = (j : Int)) (h : xs[j]? = some v) : atI xs i = some v := by subst e; exact atI_nat h
theorem ixN_at {n j : Nat} (e : i = (j : Int)) (h : j < n) : ixN n i = some j := by
  subst e
  unfold ixN
  rw [if_pos (by omega), if_pos (by omega)]
  simp
theorem atI_ints {ns : List Int} (h0 : 0 ≤ i) (h1 : i < ((ns.map V.int).length : Int)) : atI (ns.map V.int) i = some (.int (ns.getD i.toNat 0)) := by
  have hl : i.toNat < ns.length := by rw [List.length_map] at h1; omega
  refine atI_at (j := i.toNat) (by omega) ?_
  rw [List.getElem?_map, List.getElem?_eq_getElem hl, List.getD_eq_getElem?_getD, List.getElem?_eq_getElem hl]
  rfl
theorem getD_nn {ns : List Int} (h : ∀ n ∈ ns, 0 ≤ n) (k : Nat) : 0 ≤ ns.getD k 0 := by
  rw [List.getD_eq_getElem?_getD]
  cases e : ns[k]? with
  | none => exact Int.le_refl 0
  | some z => exact h z (List.mem_of_getElem? e)
theorem ixN_b {n j : Nat} (e : i = (j : Int)) (h : Nat.blt j n = true) : ixN n i = some j := ixN_at e (by simpa [Nat.blt_eq] using h)
theorem ixN_i {n : Nat} (h0 : 0 ≤ i) (h1 : i < (n : Int)) : ixN n i = some i.toNat := by
  unfold ixN
  rw [if_pos h0, if_pos h1]
theorem len_leB {xs : List V} (h : Nat.ble xs.length 16777216 = true) : xs.length ≤ sizeLine := by rw [sizeLine_eq]; exact Nat.le_of_ble_eq_true h
theorem len_ltB {xs : List V} (h : Nat.blt xs.length 16777216 = true) : xs.length < sizeLine := by rw [sizeLine_eq]; simpa [Nat.blt_eq] using h
theorem f_lt {fs : List (Str × V)} (h : Nat.blt fs.length 1000 = true) : fs.length < 1000 := by simpa [Nat.blt_eq] using h
theorem len_leN {xs : List V} (h : xs.length ≤ 16777216) : xs.length ≤ sizeLine := by rw [sizeLine_eq]; exact h
theorem len_ltN {xs : List V} (h : xs.length < 16777216) : xs.length < sizeLine := by rw [sizeLine_eq]; exact h
theorem len_le {xs : List V} {n : Nat} (e : xs.length = n) (h : n ≤ 16777216) : xs.length ≤ sizeLine := by rw [e, sizeLine_eq]; exact h
theorem len_lt {xs : List V} {n : Nat} (e : xs.length = n) (h : n < 16777216) : xs.length < sizeLine := by rw [e, sizeLine_eq]; exact h
theorem div_small (h1 : 0 < j) (h2 : j < 18446744073709551616) : CDivW i j := wide_div (b := 64) h1 (by omega) (by decide) (by decide)
theorem mulL (h1 : -18446744073709551616 < i) (h2 : i < 18446744073709551616) : CMul i j := .inl ⟨h1, h2⟩
theorem mulR (h1 : -18446744073709551616 < j) (h2 : j < 18446744073709551616) : CMul i j := .inr ⟨h1, h2⟩

theorem x_pw10_1 (h : Q (.int 10) H) : rPow (.int 10) (.int 1) H Q := x_pow ⟨by decide, by decide, by decide⟩ (by rw [show (10 : Int) ^ (Int.toNat 1) = 10 by decide]; exact h)
theorem x_pw10_2 (h : Q (.int 100) H) : rPow (.int 10) (.int 2) H Q := x_pow ⟨by decide, by decide, by decide⟩ (by rw [show (10 : Int) ^ (Int.toNat 2) = 100 by decide]; exact h)
theorem x_pw10_3 (h : Q (.int 1000) H) : rPow (.int 10) (.int 3) H Q := x_pow ⟨by decide, by decide, by decide⟩ (by rw [show (10 : Int) ^ (Int.toNat 3) = 1000 by decide]; exact h)
theorem x_pw10_4 (h : Q (.int 10000) H) : rPow (.int 10) (.int 4) H Q := x_pow ⟨by decide, by decide, by decide⟩ (by rw [show (10 : Int) ^ (Int.toNat 4) = 10000 by decide]; exact h)
theorem x_pw10_5 (h : Q (.int 100000) H) : rPow (.int 10) (.int 5) H Q := x_pow ⟨by decide, by decide, by decide⟩ (by rw [show (10 : Int) ^ (Int.toNat 5) = 100000 by decide]; exact h)
theorem x_pw10_6 (h : Q (.int 1000000) H) : rPow (.int 10) (.int 6) H Q := x_pow ⟨by decide, by decide, by decide⟩ (by rw [show (10 : Int) ^ (Int.toNat 6) = 1000000 by decide]; exact h)
theorem x_pw10_7 (h : Q (.int 10000000) H) : rPow (.int 10) (.int 7) H Q := x_pow ⟨by decide, by decide, by decide⟩ (by rw [show (10 : Int) ^ (Int.toNat 7) = 10000000 by decide]; exact h)
theorem x_pw10_8 (h : Q (.int 100000000) H) : rPow (.int 10) (.int 8) H Q := x_pow ⟨by decide, by decide, by decide⟩ (by rw [show (10 : Int) ^ (Int.toNat 8) = 100000000 by decide]; exact h)
theorem x_pw10_9 (h : Q (.int 1000000000) H) : rPow (.int 10) (.int 9) H Q := x_pow ⟨by decide, by decide, by decide⟩ (by rw [show (10 : Int) ^ (Int.toNat 9) = 1000000000 by decide]; exact h)
theorem x_pw10_10 (h : Q (.int 10000000000) H) : rPow (.int 10) (.int 10) H Q := x_pow ⟨by decide, by decide, by decide⟩ (by rw [show (10 : Int) ^ (Int.toNat 10) = 10000000000 by decide]; exact h)
theorem x_pw10_11 (h : Q (.int 100000000000) H) : rPow (.int 10) (.int 11) H Q := x_pow ⟨by decide, by decide, by decide⟩ (by rw [show (10 : Int) ^ (Int.toNat 11) = 100000000000 by decide]; exact h)
theorem x_pw10_12 (h : Q (.int 1000000000000) H) : rPow (.int 10) (.int 12) H Q := x_pow ⟨by decide, by decide, by decide⟩ (by rw [show (10 : Int) ^ (Int.toNat 12) = 1000000000000 by decide]; exact h)
theorem x_pw10_13 (h : Q (.int 10000000000000) H) : rPow (.int 10) (.int 13) H Q := x_pow ⟨by decide, by decide, by decide⟩ (by rw [show (10 : Int) ^ (Int.toNat 13) = 10000000000000 by decide]; exact h)
theorem x_pw10_14 (h : Q (.int 100000000000000) H) : rPow (.int 10) (.int 14) H Q := x_pow ⟨by decide, by decide, by decide⟩ (by rw [show (10 : Int) ^ (Int.toNat 14) = 100000000000000 by decide]; exact h)
theorem x_pw10_15 (h : Q (.int 1000000000000000) H) : rPow (.int 10) (.int 15) H Q := x_pow ⟨by decide, by decide, by decide⟩ (by rw [show (10 : Int) ^ (Int.toNat 15) = 1000000000000000 by decide]; exact h)
theorem x_pw10_16 (h : Q (.int 10000000000000000) H) : rPow (.int 10) (.int 16) H Q := x_pow ⟨by decide, by decide, by decide⟩ (by rw [show (10 : Int) ^ (Int.toNat 16) = 10000000000000000 by decide]; exact h)
theorem x_pw10_17 (h : Q (.int 100000000000000000) H) : rPow (.int 10) (.int 17) H Q := x_pow ⟨by decide, by decide, by decide⟩ (by rw [show (10 : Int) ^ (Int.toNat 17) = 100000000000000000 by decide]; exact h)
theorem x_pw10_18 (h : Q (.int 1000000000000000000) H) : rPow (.int 10) (.int 18) H Q := x_pow ⟨by decide, by decide, by decide⟩ (by rw [show (10 : Int) ^ (Int.toNat 18) = 1000000000000000000 by decide]; exact h)
theorem x_pw10_19 (h : Q (.int 10000000000000000000) H) : rPow (.int 10) (.int 19) H Q := x_pow ⟨by decide, by decide, by decide⟩ (by rw [show (10 : Int) ^ (Int.toNat 19) = 10000000000000000000 by decide]; exact h)
theorem x_pw10_20 (h : Q (.int 100000000000000000000) H) : rPow (.int 10) (.int 20) H Q := x_pow ⟨by decide, by decide, by decide⟩ (by rw [show (10 : Int) ^ (Int.toNat 20) = 100000000000000000000 by decide]; exact h)
theorem x_pw10_21 (h : Q (.int 1000000000000000000000) H) : rPow (.int 10) (.int 21) H Q := x_pow ⟨by decide, by decide, by decide⟩ (by rw [show (10 : Int) ^ (Int.toNat 21) = 1000000000000000000000 by decide]; exact h)
theorem x_pw10_22 (h : Q (.int 10000000000000000000000) H) : rPow (.int 10) (.int 22) H Q := x_pow ⟨by decide, by decide, by decide⟩ (by rw [show (10 : Int) ^ (Int.toNat 22) = 10000000000000000000000 by decide]; exact h)
theorem x_pw10_23 (h : Q (.int 100000000000000000000000) H) : rPow (.int 10) (.int 23) H Q := x_pow ⟨by decide, by decide, by decide⟩ (by rw [show (10 : Int) ^ (Int.toNat 23) = 100000000000000000000000 by decide]; exact h)
theorem x_pw10_24 (h : Q (.int 1000000000000000000000000) H) : rPow (.int 10) (.int 24) H Q := x_pow ⟨by decide, by decide, by decide⟩ (by rw [show (10 : Int) ^ (Int.toNat 24) = 1000000000000000000000000 by decide]; exact h)
theorem x_pw2_6 (h : Q (.int 64) H) : rPow (.int 2) (.int 6) H Q := x_pow ⟨by decide, by decide, by decide⟩ (by rw [show (2 : Int) ^ (Int.toNat 6) = 64 by decide]; exact h)
theorem x_pw2_10 (h : Q (.int 1024) H) : rPow (.int 2) (.int 10) H Q := x_pow ⟨by decide, by decide, by decide⟩ (by rw [show (2 : Int) ^ (Int.toNat 10) = 1024 by decide]; exact h)
theorem x_pw2_16 (h : Q (.int 65536) H) : rPow (.int 2) (.int 16) H Q := x_pow ⟨by decide, by decide, by decide⟩ (by rw [show (2 : Int) ^ (Int.toNat 16) = 65536 by decide]; exact h)
theorem x_pw2_20 (h : Q (.int 1048576) H) : rPow (.int 2) (.int 20) H Q := x_pow ⟨by decide, by decide, by decide⟩ (by rw [show (2 : Int) ^ (Int.toNat 20) = 1048576 by decide]; exact h)
theorem x_pw2_30 (h : Q (.int 1073741824) H) : rPow (.int 2) (.int 30) H Q := x_pow ⟨by decide, by decide, by decide⟩ (by rw [show (2 : Int) ^ (Int.toNat 30) = 1073741824 by decide]; exact h)
theorem x_pw2_31 (h : Q (.int 2147483648) H) : rPow (.int 2) (.int 31) H Q := x_pow ⟨by decide, by decide, by decide⟩ (by rw [show (2 : Int) ^ (Int.toNat 31) = 2147483648 by decide]; exact h)
theorem x_pw2_32 (h : Q (.int 4294967296) H) : rPow (.int 2) (.int 32) H Q := x_pow ⟨by decide, by decide, by decide⟩ (by rw [show (2 : Int) ^ (Int.toNat 32) = 4294967296 by decide]; exact h)
theorem x_pw2_40 (h : Q (.int 1099511627776) H) : rPow (.int 2) (.int 40) H Q := x_pow ⟨by decide, by decide, by decide⟩ (by rw [show (2 : Int) ^ (Int.toNat 40) = 1099511627776 by decide]; exact h)
theorem x_pw2_48 (h : Q (.int 281474976710656) H) : rPow (.int 2) (.int 48) H Q := x_pow ⟨by decide, by decide, by decide⟩ (by rw [show (2 : Int) ^ (Int.toNat 48) = 281474976710656 by decide]; exact h)
theorem x_pw2_60 (h : Q (.int 1152921504606846976) H) : rPow (.int 2) (.int 60) H Q := x_pow ⟨by decide, by decide, by decide⟩ (by rw [show (2 : Int) ^ (Int.toNat 60) = 1152921504606846976 by decide]; exact h)
theorem x_pw2_62 (h : Q (.int 4611686018427387904) H) : rPow (.int 2) (.int 62) H Q := x_pow ⟨by decide, by decide, by decide⟩ (by rw [show (2 : Int) ^ (Int.toNat 62) = 4611686018427387904 by decide]; exact h)
theorem x_pw2_63 (h : Q (.int 9223372036854775808) H) : rPow (.int 2) (.int 63) H Q := x_pow ⟨by decide, by decide, by decide⟩ (by rw [show (2 : Int) ^ (Int.toNat 63) = 9223372036854775808 by decide]; exact h)
theorem x_pw2_64 (h : Q (.int 18446744073709551616) H) : rPow (.int 2) (.int 64) H Q := x_pow ⟨by decide, by decide, by decide⟩ (by rw [show (2 : Int) ^ (Int.toNat 64) = 18446744073709551616 by decide]; exact h)
theorem x_v0 {σ : L2.St} (h : Q v H) : tVar 0 (some v :: σ) H Q := ⟨v, rfl, h⟩
theorem x_g0 {x : Option V} {σ : L2.St} (h : QS (some v :: σ) H) : gName 0 v (x :: σ) H QS := h
theorem x_d0 {x : Option V} {σ : L2.St} {k : K0} (h : k (none :: σ) H) : gDel 0 (x :: σ) H k := h
theorem x_ml0 {σ : L2.St} (h : tMake C sp [] E tl (some (.ref C) :: σ) H Q) : eMakeL 0 C sp [] E tl (some (.ref C) :: σ) H Q := ⟨rfl, h⟩
theorem x_au0 {te : TE} {ti : TIp} {σ : L2.St} (h : te (some x :: σ) H fun y H1 => ti x y H1 fun z H2 => nx (some z :: σ) H2) : tAug 0 te ti ⟨nx, rt, bk, ct⟩ (some x :: σ) H := ⟨x, rfl, h⟩
theorem x_v1 {a0 : Option V} {σ : L2.St} (h : Q v H) : tVar 1 (a0 :: some v :: σ) H Q := ⟨v, rfl, h⟩
theorem x_g1 {a0 : Option V} {x : Option V} {σ : L2.St} (h : QS (a0 :: some v :: σ) H) : gName 1 v (a0 :: x :: σ) H QS := h
theorem x_d1 {a0 : Option V} {x : Option V} {σ : L2.St} {k : K0} (h : k (a0 :: none :: σ) H) : gDel 1 (a0 :: x :: σ) H k := h
theorem x_ml1 {a0 : Option V} {σ : L2.St} (h : tMake C sp [] E tl (a0 :: some (.ref C) :: σ) H Q) : eMakeL 1 C sp [] E tl (a0 :: some (.ref C) :: σ) H Q := ⟨rfl, h⟩
theorem x_au1 {te : TE} {ti : TIp} {a0 : Option V} {σ : L2.St} (h : te (a0 :: some x :: σ) H fun y H1 => ti x y H1 fun z H2 => nx (a0 :: some z :: σ) H2) : tAug 1 te ti ⟨nx, rt, bk, ct⟩ (a0 :: some x :: σ) H := ⟨x, rfl, h⟩
theorem x_v2 {a0 a1 : Option V} {σ : L2.St} (h : Q v H) : tVar 2 (a0 :: a1 :: some v :: σ) H Q := ⟨v, rfl, h⟩
theorem x_g2 {a0 a1 : Option V} {x : Option V} {σ : L2.St} (h : QS (a0 :: a1 :: some v :: σ) H) : gName 2 v (a0 :: a1 :: x :: σ) H QS := h
theorem x_d2 {a0 a1 : Option V} {x : Option V} {σ : L2.St} {k : K0} (h : k (a0 :: a1 :: none :: σ) H) : gDel 2 (a0 :: a1 :: x :: σ) H k := h
theorem x_ml2 {a0 a1 : Option V} {σ : L2.St} (h : tMake C sp [] E tl (a0 :: a1 :: some (.ref C) :: σ) H Q) : eMakeL 2 C sp [] E tl (a0 :: a1 :: some (.ref C) :: σ) H Q := ⟨rfl, h⟩
theorem x_au2 {te : TE} {ti : TIp} {a0 a1 : Option V} {σ : L2.St} (h : te (a0 :: a1 :: some x :: σ) H fun y H1 => ti x y H1 fun z H2 => nx (a0 :: a1 :: some z :: σ) H2) : tAug 2 te ti ⟨nx, rt, bk, ct⟩ (a0 :: a1 :: some x :: σ) H := ⟨x, rfl, h⟩
theorem x_v3 {a0 a1 a2 : Option V} {σ : L2.St} (h : Q v H) : tVar 3 (a0 :: a1 :: a2 :: some v :: σ) H Q := ⟨v, rfl, h⟩
theorem x_g3 {a0 a1 a2 : Option V} {x : Option V} {σ : L2.St} (h : QS (a0 :: a1 :: a2 :: some v :: σ) H) : gName 3 v (a0 :: a1 :: a2 :: x :: σ) H QS := h
theorem x_d3 {a0 a1 a2 : Option V} {x : Option V} {σ : L2.St} {k : K0} (h : k (a0 :: a1 :: a2 :: none :: σ) H) : gDel 3 (a0 :: a1 :: a2 :: x :: σ) H k := h
theorem x_ml3 {a0 a1 a2 : Option V} {σ : L2.St} (h : tMake C sp [] E tl (a0 :: a1 :: a2 :: some (.ref C) :: σ) H Q) : eMakeL 3 C sp [] E tl (a0 :: a1 :: a2 :: some (.ref C) :: σ) H Q := ⟨rfl, h⟩
theorem x_au3 {te : TE} {ti : TIp} {a0 a1 a2 : Option V} {σ : L2.St} (h : te (a0 :: a1 :: a2 :: some x :: σ) H fun y H1 => ti x y H1 fun z H2 => nx (a0 :: a1 :: a2 :: some z :: σ) H2) : tAug 3 te ti ⟨nx, rt, bk, ct⟩ (a0 :: a1 :: a2 :: some x :: σ) H := ⟨x, rfl, h⟩
theorem x_v4 {a0 a1 a2 a3 : Option V} {σ : L2.St} (h : Q v H) : tVar 4 (a0 :: a1 :: a2 :: a3 :: some v :: σ) H Q := ⟨v, rfl, h⟩
theorem x_g4 {a0 a1 a2 a3 : Option V} {x : Option V} {σ : L2.St} (h : QS (a0 :: a1 :: a2 :: a3 :: some v :: σ) H) : gName 4 v (a0 :: a1 :: a2 :: a3 :: x :: σ) H QS := h
theorem x_d4 {a0 a1 a2 a3 : Option V} {x : Option V} {σ : L2.St} {k : K0} (h : k (a0 :: a1 :: a2 :: a3 :: none :: σ) H) : gDel 4 (a0 :: a1 :: a2 :: a3 :: x :: σ) H k := h
theorem x_ml4 {a0 a1 a2 a3 : Option V} {σ : L2.St} (h : tMake C sp [] E tl (a0 :: a1 :: a2 :: a3 :: some (.ref C) :: σ) H Q) : eMakeL 4 C sp [] E tl (a0 :: a1 :: a2 :: a3 :: some (.ref C) :: σ) H Q := ⟨rfl, h⟩
theorem x_au4 {te : TE} {ti : TIp} {a0 a1 a2 a3 : Option V} {σ : L2.St} (h : te (a0 :: a1 :: a2 :: a3 :: some x :: σ) H fun y H1 => ti x y H1 fun z H2 => nx (a0 :: a1 :: a2 :: a3 :: some z :: σ) H2) : tAug 4 te ti ⟨nx, rt, bk, ct⟩ (a0 :: a1 :: a2 :: a3 :: some x :: σ) H := ⟨x, rfl, h⟩
theorem x_v5 {a0 a1 a2 a3 a4 : Option V} {σ : L2.St} (h : Q v H) : tVar 5 (a0 :: a1 :: a2 :: a3 :: a4 :: some v :: σ) H Q := ⟨v, rfl, h⟩
theorem x_g5 {a0 a1 a2 a3 a4 : Option V} {x : Option V} {σ : L2.St} (h : QS (a0 :: a1 :: a2 :: a3 :: a4 :: some v :: σ) H) : gName 5 v (a0 :: a1 :: a2 :: a3 :: a4 :: x :: σ) H QS := h
theorem x_d5 {a0 a1 a2 a3 a4 : Option V} {x : Option V} {σ : L2.St} {k : K0} (h : k (a0 :: a1 :: a2 :: a3 :: a4 :: none :: σ) H) : gDel 5 (a0 :: a1 :: a2 :: a3 :: a4 :: x :: σ) H k := h
theorem x_ml5 {a0 a1 a2 a3 a4 : Option V} {σ : L2.St} (h : tMake C sp [] E tl (a0 :: a1 :: a2 :: a3 :: a4 :: some (.ref C) :: σ) H Q) : eMakeL 5 C sp [] E tl (a0 :: a1 :: a2 :: a3 :: a4 :: some (.ref C) :: σ) H Q := ⟨rfl, h⟩
theorem x_au5 {te : TE} {ti : TIp} {a0 a1 a2 a3 a4 : Option V} {σ : L2.St} (h : te (a0 :: a1 :: a2 :: a3 :: a4 :: some x :: σ) H fun y H1 => ti x y H1 fun z H2 => nx (a0 :: a1 :: a2 :: a3 :: a4 :: some z :: σ) H2) : tAug 5 te ti ⟨nx, rt, bk, ct⟩ (a0 :: a1 :: a2 :: a3 :: a4 :: some x :: σ) H := ⟨x, rfl, h⟩
theorem x_v6 {a0 a1 a2 a3 a4 a5 : Option V} {σ : L2.St} (h : Q v H) : tVar 6 (a0 :: a1 :: a2 :: a3 :: a4 :: a5 :: some v :: σ) H Q := ⟨v, rfl, h⟩
theorem x_g6 {a0 a1 a2 a3 a4 a5 : Option V} {x : Option V} {σ : L2.St} (h : QS (a0 :: a1 :: a2 :: a3 :: a4 :: a5 :: some v :: σ) H) : gName 6 v (a0 :: a1 :: a2 :: a3 :: a4 :: a5 :: x :: σ) H QS := h
theorem x_d6 {a0 a1 a2 a3 a4 a5 : Option V} {x : Option V} {σ : L2.St} {k : K0} (h : k (a0 :: a1 :: a2 :: a3 :: a4 :: a5 :: none :: σ) H) : gDel 6 (a0 :: a1 :: a2 :: a3 :: a4 :: a5 :: x :: σ) H k := h
theorem x_ml6 {a0 a1 a2 a3 a4 a5 : Option V} {σ : L2.St} (h : tMake C sp [] E tl (a0 :: a1 :: a2 :: a3 :: a4 :: a5 :: some (.ref C) :: σ) H Q) : eMakeL 6 C sp [] E tl (a0 :: a1 :: a2 :: a3 :: a4 :: a5 :: some (.ref C) :: σ) H Q := ⟨rfl, h⟩
theorem x_au6 {te : TE} {ti : TIp} {a0 a1 a2 a3 a4 a5 : Option V} {σ : L2.St} (h : te (a0 :: a1 :: a2 :: a3 :: a4 :: a5 :: some x :: σ) H fun y H1 => ti x y H1 fun z H2 => nx (a0 :: a1 :: a2 :: a3 :: a4 :: a5 :: some z :: σ) H2) : tAug 6 te ti ⟨nx, rt, bk, ct⟩ (a0 :: a1 :: a2 :: a3 :: a4 :: a5 :: some x :: σ) H := ⟨x, rfl, h⟩
theorem x_v7 {a0 a1 a2 a3 a4 a5 a6 : Option V} {σ : L2.St} (h : Q v H) : tVar 7 (a0 :: a1 :: a2 :: a3 :: a4 :: a5 :: a6 :: some v :: σ) H Q := ⟨v, rfl, h⟩
theorem x_g7 {a0 a1 a2 a3 a4 a5 a6 : Option V} {x : Option V} {σ : L2.St} (h : QS (a0 :: a1 :: a2 :: a3 :: a4 :: a5 :: a6 :: some v :: σ) H) : gName 7 v (a0 :: a1 :: a2 :: a3 :: a4 :: a5 :: a6 :: x :: σ) H QS := h
theorem x_d7 {a0 a1 a2 a3 a4 a5 a6 : Option V} {x : Option V} {σ : L2.St} {k : K0} (h : k (a0 :: a1 :: a2 :: a3 :: a4 :: a5 :: a6 :: none :: σ) H) : gDel 7 (a0 :: a1 :: a2 :: a3 :: a4 :: a5 :: a6 :: x :: σ) H k := h
theorem x_ml7 {a0 a1 a2 a3 a4 a5 a6 : Option V} {σ : L2.St} (h : tMake C sp [] E tl (a0 :: a1 :: a2 :: a3 :: a4 :: a5 :: a6 :: some (.ref C) :: σ) H Q) : eMakeL 7 C sp [] E tl (a0 :: a1 :: a2 :: a3 :: a4 :: a5 :: a6 :: some (.ref C) :: σ) H Q := ⟨rfl, h⟩
theorem x_au7 {te : TE} {ti : TIp} {a0 a1 a2 a3 a4 a5 a6 : Option V} {σ : L2.St} (h : te (a0 :: a1 :: a2 :: a3 :: a4 :: a5 :: a6 :: some x :: σ) H fun y H1 => ti x y H1 fun z H2 => nx (a0 :: a1 :: a2 :: a3 :: a4 :: a5 :: a6 :: some z :: σ) H2) : tAug 7 te ti ⟨nx, rt, bk, ct⟩ (a0 :: a1 :: a2 :: a3 :: a4 :: a5 :: a6 :: some x :: σ) H := ⟨x, rfl, h⟩
theorem x_v8 {a0 a1 a2 a3 a4 a5 a6 a7 : Option V} {σ : L2.St} (h : Q v H) : tVar 8 (a0 :: a1 :: a2 :: a3 :: a4 :: a5 :: a6 :: a7 :: some v :: σ) H Q := ⟨v, rfl, h⟩
theorem x_g8 {a0 a1 a2 a3 a4 a5 a6 a7 : Option V} {x : Option V} {σ : L2.St} (h : QS (a0 :: a1 :: a2 :: a3 :: a4 :: a5 :: a6 :: a7 :: some v :: σ) H) : gName 8 v (a0 :: a1 :: a2 :: a3 :: a4 :: a5 :: a6 :: a7 :: x :: σ) H QS := h
theorem x_d8 {a0 a1 a2 a3 a4 a5 a6 a7 : Option V} {x : Option V} {σ : L2.St} {k : K0} (h : k (a0 :: a1 :: a2 :: a3 :: a4 :: a5 :: a6 :: a7 :: none :: σ) H) : gDel 8 (a0 :: a1 :: a2 :: a3 :: a4 :: a5 :: a6 :: a7 :: x :: σ) H k := h
theorem x_ml8 {a0 a1 a2 a3 a4 a5 a6 a7 : Option V} {σ : L2.St} (h : tMake C sp [] E tl (a0 :: a1 :: a2 :: a3 :: a4 :: a5 :: a6 :: a7 :: some (.ref C) :: σ) H Q) : eMakeL 8 C sp [] E tl (a0 :: a1 :: a2 :: a3 :: a4 :: a5 :: a6 :: a7 :: some (.ref C) :: σ) H Q := ⟨rfl, h⟩
theorem x_au8 {te : TE} {ti : TIp} {a0 a1 a2 a3 a4 a5 a6 a7 : Option V} {σ : L2.St} (h : te (a0 :: a1 :: a2 :: a3 :: a4 :: a5 :: a6 :: a7 :: some x :: σ) H fun y H1 => ti x y H1 fun z H2 => nx (a0 :: a1 :: a2 :: a3 :: a4 :: a5 :: a6 :: a7 :: some z :: σ) H2) : tAug 8 te ti ⟨nx, rt, bk, ct⟩ (a0 :: a1 :: a2 :: a3 :: a4 :: a5 :: a6 :: a7 :: some x :: σ) H := ⟨x, rfl, h⟩
theorem x_v9 {a0 a1 a2 a3 a4 a5 a6 a7 a8 : Option V} {σ : L2.St} (h : Q v H) : tVar 9 (a0 :: a1 :: a2 :: a3 :: a4 :: a5 :: a6 :: a7 :: a8 :: some v :: σ) H Q := ⟨v, rfl, h⟩
theorem x_g9 {a0 a1 a2 a3 a4 a5 a6 a7 a8 : Option V} {x : Option V} {σ : L2.St} (h : QS (a0 :: a1 :: a2 :: a3 :: a4 :: a5 :: a6 :: a7 :: a8 :: some v :: σ) H) : gName 9 v (a0 :: a1 :: a2 :: a3 :: a4 :: a5 :: a6 :: a7 :: a8 :: x :: σ) H QS := h
theorem x_d9 {a0 a1 a2 a3 a4 a5 a6 a7 a8 : Option V} {x : Option V} {σ : L2.St} {k : K0} (h : k (a0 :: a1 :: a2 :: a3 :: a4 :: a5 :: a6 :: a7 :: a8 :: none :: σ) H) : gDel 9 (a0 :: a1 :: a2 :: a3 :: a4 :: a5 :: a6 :: a7 :: a8 :: x :: σ) H k := h
theorem x_ml9 {a0 a1 a2 a3 a4 a5 a6 a7 a8 : Option V} {σ : L2.St} (h : tMake C sp [] E tl (a0 :: a1 :: a2 :: a3 :: a4 :: a5 :: a6 :: a7 :: a8 :: some (.ref C) :: σ) H Q) : eMakeL 9 C sp [] E tl (a0 :: a1 :: a2 :: a3 :: a4 :: a5 :: a6 :: a7 :: a8 :: some (.ref C) :: σ) H Q := ⟨rfl, h⟩
theorem x_au9 {te : TE} {ti : TIp} {a0 a1 a2 a3 a4 a5 a6 a7 a8 : Option V} {σ : L2.St} (h : te (a0 :: a1 :: a2 :: a3 :: a4 :: a5 :: a6 :: a7 :: a8 :: some x :: σ) H fun y H1 => ti x y H1 fun z H2 => nx (a0 :: a1 :: a2 :: a3 :: a4 :: a5 :: a6 :: a7 :: a8 :: some z :: σ) H2) : tAug 9 te ti ⟨nx, rt, bk, ct⟩ (a0 :: a1 :: a2 :: a3 :: a4 :: a5 :: a6 :: a7 :: a8 :: some x :: σ) H := ⟨x, rfl, h⟩
theorem x_v10 {a0 a1 a2 a3 a4 a5 a6 a7 a8 a9 : Option V} {σ : L2.St} (h : Q v H) : tVar 10 (a0 :: a1 :: a2 :: a3 :: a4 :: a5 :: a6 :: a7 :: a8 :: a9 :: some v :: σ) H Q := ⟨v, rfl, h⟩
theorem x_g10 {a0 a1 a2 a3 a4 a5 a6 a7 a8 a9 : Option V} {x : Option V} {σ : L2.St} (h : QS (a0 :: a1 :: a2 :: a3 :: a4 :: a5 :: a6 :: a7 :: a8 :: a9 :: some v :: σ) H) : gName 10 v (a0 :: a1 :: a2 :: a3 :: a4 :: a5 :: a6 :: a7 :: a8 :: a9 :: x :: σ) H QS := h
theorem x_d10 {a0 a1 a2 a3 a4 a5 a6 a7 a8 a9 : Option V} {x : Option V} {σ : L2.St} {k : K0} (h : k (a0 :: a1 :: a2 :: a3 :: a4 :: a5 :: a6 :: a7 :: a8 :: a9 :: none :: σ) H) : gDel 10 (a0 :: a1 :: a2 :: a3 :: a4 :: a5 :: a6 :: a7 :: a8 :: a9 :: x :: σ) H k := h
theorem x_ml10 {a0 a1 a2 a3 a4 a5 a6 a7 a8 a9 : Option V} {σ : L2.St} (h : tMake C sp [] E tl (a0 :: a1 :: a2 :: a3 :: a4 :: a5 :: a6 :: a7 :: a8 :: a9 :: some (.ref C) :: σ) H Q) : eMakeL 10 C sp [] E tl (a0 :: a1 :: a2 :: a3 :: a4 :: a5 :: a6 :: a7 :: a8 :: a9 :: some (.ref C) :: σ) H Q := ⟨rfl, h⟩
theorem x_au10 {te : TE} {ti : TIp} {a0 a1 a2 a3 a4 a5 a6 a7 a8 a9 : Option V} {σ : L2.St} (h : te (a0 :: a1 :: a2 :: a3 :: a4 :: a5 :: a6 :: a7 :: a8 :: a9 :: some x :: σ) H fun y H1 => ti x y H1 fun z H2 => nx (a0 :: a1 :: a2 :: a3 :: a4 :: a5 :: a6 :: a7 :: a8 :: a9 :: some z :: σ) H2) : tAug 10 te ti ⟨nx, rt, bk, ct⟩ (a0 :: a1 :: a2 :: a3 :: a4 :: a5 :: a6 :: a7 :: a8 :: a9 :: some x :: σ) H := ⟨x, rfl, h⟩
theorem x_v11 {a0 a1 a2 a3 a4 a5 a6 a7 a8 a9 a10 : Option V} {σ : L2.St} (h : Q v H) : tVar 11 (a0 :: a1 :: a2 :: a3 :: a4 :: a5 :: a6 :: a7 :: a8 :: a9 :: a10 :: some v :: σ) H Q := ⟨v, rfl, h⟩
theorem x_g11 {a0 a1 a2 a3 a4 a5 a6 a7 a8 a9 a10 : Option V} {x : Option V} {σ : L2.St} (h : QS (a0 :: a1 :: a2 :: a3 :: a4 :: a5 :: a6 :: a7 :: a8 :: a9 :: a10 :: some v :: σ) H) : gName 11 v (a0 :: a1 :: a2 :: a3 :: a4 :: a5 :: a6 :: a7 :: a8 :: a9 :: a10 :: x :: σ) H QS := h
theorem x_d11 {a0 a1 a2 a3 a4 a5 a6 a7 a8 a9 a10 : Option V} {x : Option V} {σ : L2.St} {k : K0} (h : k (a0 :: a1 :: a2 :: a3 :: a4 :: a5 :: a6 :: a7 :: a8 :: a9 :: a10 :: none :: σ) H) : gDel 11 (a0 :: a1 :: a2 :: a3 :: a4 :: a5 :: a6 :: a7 :: a8 :: a9 :: a10 :: x :: σ) H k := h
theorem x_ml11 {a0 a1 a2 a3 a4 a5 a6 a7 a8 a9 a10 : Option V} {σ : L2.St} (h : tMake C sp [] E tl (a0 :: a1 :: a2 :: a3 :: a4 :: a5 :: a6 :: a7 :: a8 :: a9 :: a10 :: some (.ref C) :: σ) H Q) : eMakeL 11 C sp [] E tl (a0 :: a1 :: a2 :: a3 :: a4 :: a5 :: a6 :: a7 :: a8 :: a9 :: a10 :: some (.ref C) :: σ) H Q := ⟨rfl, h⟩
theorem x_au11 {te : TE} {ti : TIp} {a0 a1 a2 a3 a4 a5 a6 a7 a8 a9 a10 : Option V} {σ : L2.St} (h : te (a0 :: a1 :: a2 :: a3 :: a4 :: a5 :: a6 :: a7 :: a8 :: a9 :: a10 :: some x :: σ) H fun y H1 => ti x y H1 fun z H2 => nx (a0 :: a1 :: a2 :: a3 :: a4 :: a5 :: a6 :: a7 :: a8 :: a9 :: a10 :: some z :: σ) H2) : tAug 11 te ti ⟨nx, rt, bk, ct⟩ (a0 :: a1 :: a2 :: a3 :: a4 :: a5 :: a6 :: a7 :: a8 :: a9 :: a10 :: some x :: σ) H := ⟨x, rfl, h⟩
theorem x_v12 {a0 a1 a2 a3 a4 a5 a6 a7 a8 a9 a10 a11 : Option V} {σ : L2.St} (h : Q v H) : tVar 12 (a0 :: a1 :: a2 :: a3 :: a4 :: a5 :: a6 :: a7 :: a8 :: a9 :: a10 :: a11 :: some v :: σ) H Q := ⟨v, rfl, h⟩
theorem x_g12 {a0 a1 a2 a3 a4 a5 a6 a7 a8 a9 a10 a11 : Option V} {x : Option V} {σ : L2.St} (h : QS (a0 :: a1 :: a2 :: a3 :: a4 :: a5 :: a6 :: a7 :: a8 :: a9 :: a10 :: a11 :: some v :: σ) H) : gName 12 v (a0 :: a1 :: a2 :: a3 :: a4 :: a5 :: a6 :: a7 :: a8 :: a9 :: a10 :: a11 :: x :: σ) H QS := h
theorem x_d12 {a0 a1 a2 a3 a4 a5 a6 a7 a8 a9 a10 a11 : Option V} {x : Option V} {σ : L2.St} {k : K0} (h : k (a0 :: a1 :: a2 :: a3 :: a4 :: a5 :: a6 :: a7 :: a8 :: a9 :: a10 :: a11 :: none :: σ) H) : gDel 12 (a0 :: a1 :: a2 :: a3 :: a4 :: a5 :: a6 :: a7 :: a8 :: a9 :: a10 :: a11 :: x :: σ) H k := h
theorem x_ml12 {a0 a1 a2 a3 a4 a5 a6 a7 a8 a9 a10 a11 : Option V} {σ : L2.St} (h : tMake C sp [] E tl (a0 :: a1 :: a2 :: a3 :: a4 :: a5 :: a6 :: a7 :: a8 :: a9 :: a10 :: a11 :: some (.ref C) :: σ) H Q) : eMakeL 12 C sp [] E tl (a0 :: a1 :: a2 :: a3 :: a4 :: a5 :: a6 :: a7 :: a8 :: a9 :: a10 :: a11 :: some (.ref C) :: σ) H Q := ⟨rfl, h⟩
theorem x_au12 {te : TE} {ti : TIp} {a0 a1 a2 a3 a4 a5 a6 a7 a8 a9 a10 a11 : Option V} {σ : L2.St} (h : te (a0 :: a1 :: a2 :: a3 :: a4 :: a5 :: a6 :: a7 :: a8 :: a9 :: a10 :: a11 :: some x :: σ) H fun y H1 => ti x y H1 fun z H2 => nx (a0 :: a1 :: a2 :: a3 :: a4 :: a5 :: a6 :: a7 :: a8 :: a9 :: a10 :: a11 :: some z :: σ) H2) : tAug 12 te ti ⟨nx, rt, bk, ct⟩ (a0 :: a1 :: a2 :: a3 :: a4 :: a5 :: a6 :: a7 :: a8 :: a9 :: a10 :: a11 :: some x :: σ) H := ⟨x, rfl, h⟩
theorem x_v13 {a0 a1 a2 a3 a4 a5 a6 a7 a8 a9 a10 a11 a12 : Option V} {σ : L2.St} (h : Q v H) : tVar 13 (a0 :: a1 :: a2 :: a3 :: a4 :: a5 :: a6 :: a7 :: a8 :: a9 :: a10 :: a11 :: a12 :: some v :: σ) H Q := ⟨v, rfl, h⟩
theorem x_g13 {a0 a1 a2 a3 a4 a5 a6 a7 a8 a9 a10 a11 a12 : Option V} {x : Option V} {σ : L2.St} (h : QS (a0 :: a1 :: a2 :: a3 :: a4 :: a5 :: a6 :: a7 :: a8 :: a9 :: a10 :: a11 :: a12 :: some v :: σ) H) : gName 13 v (a0 :: a1 :: a2 :: a3 :: a4 :: a5 :: a6 :: a7 :: a8 :: a9 :: a10 :: a11 :: a12 :: x :: σ) H QS := h
theorem x_d13 {a0 a1 a2 a3 a4 a5 a6 a7 a8 a9 a10 a11 a12 : Option V} {x : Option V} {σ : L2.St} {k : K0} (h : k (a0 :: a1 :: a2 :: a3 :: a4 :: a5 :: a6 :: a7 :: a8 :: a9 :: a10 :: a11 :: a12 :: none :: σ) H) : gDel 13 (a0 :: a1 :: a2 :: a3 :: a4 :: a5 :: a6 :: a7 :: a8 :: a9 :: a10 :: a11 :: a12 :: x :: σ) H k := h
theorem x_ml13 {a0 a1 a2 a3 a4 a5 a6 a7 a8 a9 a10 a11 a12 : Option V} {σ : L2.St} (h : tMake C sp [] E tl (a0 :: a1 :: a2 :: a3 :: a4 :: a5 :: a6 :: a7 :: a8 :: a9 :: a10 :: a11 :: a12 :: some (.ref C) :: σ) H Q) : eMakeL 13 C sp [] E tl (a0 :: a1 :: a2 :: a3 :: a4 :: a5 :: a6 :: a7 :: a8 :: a9 :: a10 :: a11 :: a12 :: some (.ref C) :: σ) H Q := ⟨rfl, h⟩
theorem x_au13 {te : TE} {ti : TIp} {a0 a1 a2 a3 a4 a5 a6 a7 a8 a9 a10 a11 a12 : Option V} {σ : L2.St} (h : te (a0 :: a1 :: a2 :: a3 :: a4 :: a5 :: a6 :: a7 :: a8 :: a9 :: a10 :: a11 :: a12 :: some x :: σ) H fun y H1 => ti x y H1 fun z H2 => nx (a0 :: a1 :: a2 :: a3 :: a4 :: a5 :: a6 :: a7 :: a8 :: a9 :: a10 :: a11 :: a12 :: some z :: σ) H2) : tAug 13 te ti ⟨nx, rt, bk, ct⟩ (a0 :: a1 :: a2 :: a3 :: a4 :: a5 :: a6 :: a7 :: a8 :: a9 :: a10 :: a11 :: a12 :: some x :: σ) H := ⟨x, rfl, h⟩
theorem x_v14 {a0 a1 a2 a3 a4 a5 a6 a7 a8 a9 a10 a11 a12 a13 : Option V} {σ : L2.St} (h : Q v H) : tVar 14 (a0 :: a1 :: a2 :: a3 :: a4 :: a5 :: a6 :: a7 :: a8 :: a9 :: a10 :: a11 :: a12 :: a13 :: some v :: σ) H Q := ⟨v, rfl, h⟩
theorem x_g14 {a0 a1 a2 a3 a4 a5 a6 a7 a8 a9 a10 a11 a12 a13 : Option V} {x : Option V} {σ : L2.St} (h : QS (a0 :: a1 :: a2 :: a3 :: a4 :: a5 :: a6 :: a7 :: a8 :: a9 :: a10 :: a11 :: a12 :: a13 :: some v :: σ) H) : gName 14 v (a0 :: a1 :: a2 :: a3 :: a4 :: a5 :: a6 :: a7 :: a8 :: a9 :: a10 :: a11 :: a12 :: a13 :: x :: σ) H QS := h
theorem x_d14 {a0 a1 a2 a3 a4 a5 a6 a7 a8 a9 a10 a11 a12 a13 : Option V} {x : Option V} {σ : L2.St} {k : K0} (h : k (a0 :: a1 :: a2 :: a3 :: a4 :: a5 :: a6 :: a7 :: a8 :: a9 :: a10 :: a11 :: a12 :: a13 :: none :: σ) H) : gDel 14 (a0 :: a1 :: a2 :: a3 :: a4 :: a5 :: a6 :: a7 :: a8 :: a9 :: a10 :: a11 :: a12 :: a13 :: x :: σ) H k := h
theorem x_ml14 {a0 a1 a2 a3 a4 a5 a6 a7 a8 a9 a10 a11 a12 a13 : Option V} {σ : L2.St} (h : tMake C sp [] E tl (a0 :: a1 :: a2 :: a3 :: a4 :: a5 :: a6 :: a7 :: a8 :: a9 :: a10 :: a11 :: a12 :: a13 :: some (.ref C) :: σ) H Q) : eMakeL 14 C sp [] E tl (a0 :: a1 :: a2 :: a3 :: a4 :: a5 :: a6 :: a7 :: a8 :: a9 :: a10 :: a11 :: a12 :: a13 :: some (.ref C) :: σ) H Q := ⟨rfl, h⟩
theorem x_au14 {te : TE} {ti : TIp} {a0 a1 a2 a3 a4 a5 a6 a7 a8 a9 a10 a11 a12 a13 : Option V} {σ : L2.St} (h : te (a0 :: a1 :: a2 :: a3 :: a4 :: a5 :: a6 :: a7 :: a8 :: a9 :: a10 :: a11 :: a12 :: a13 :: some x :: σ) H fun y H1 => ti x y H1 fun z H2 => nx (a0 :: a1 :: a2 :: a3 :: a4 :: a5 :: a6 :: a7 :: a8 :: a9 :: a10 :: a11 :: a12 :: a13 :: some z :: σ) H2) : tAug 14 te ti ⟨nx, rt, bk, ct⟩ (a0 :: a1 :: a2 :: a3 :: a4 :: a5 :: a6 :: a7 :: a8 :: a9 :: a10 :: a11 :: a12 :: a13 :: some x :: σ) H := ⟨x, rfl, h⟩
theorem x_v15 {a0 a1 a2 a3 a4 a5 a6 a7 a8 a9 a10 a11 a12 a13 a14 : Option V} {σ : L2.St} (h : Q v H) : tVar 15 (a0 :: a1 :: a2 :: a3 :: a4 :: a5 :: a6 :: a7 :: a8 :: a9 :: a10 :: a11 :: a12 :: a13 :: a14 :: some v :: σ) H Q := ⟨v, rfl, h⟩
theorem x_g15 {a0 a1 a2 a3 a4 a5 a6 a7 a8 a9 a10 a11 a12 a13 a14 : Option V} {x : Option V} {σ : L2.St} (h : QS (a0 :: a1 :: a2 :: a3 :: a4 :: a5 :: a6 :: a7 :: a8 :: a9 :: a10 :: a11 :: a12 :: a13 :: a14 :: some v :: σ) H) : gName 15 v (a0 :: a1 :: a2 :: a3 :: a4 :: a5 :: a6 :: a7 :: a8 :: a9 :: a10 :: a11 :: a12 :: a13 :: a14 :: x :: σ) H QS := h
theorem x_d15 {a0 a1 a2 a3 a4 a5 a6 a7 a8 a9 a10 a11 a12 a13 a14 : Option V} {x : Option V} {σ : L2.St} {k : K0} (h : k (a0 :: a1 :: a2 :: a3 :: a4 :: a5 :: a6 :: a7 :: a8 :: a9 :: a10 :: a11 :: a12 :: a13 :: a14 :: none :: σ) H) : gDel 15 (a0 :: a1 :: a2 :: a3 :: a4 :: a5 :: a6 :: a7 :: a8 :: a9 :: a10 :: a11 :: a12 :: a13 :: a14 :: x :: σ) H k := h
theorem x_ml15 {a0 a1 a2 a3 a4 a5 a6 a7 a8 a9 a10 a11 a12 a13 a14 : Option V} {σ : L2.St} (h : tMake C sp [] E tl (a0 :: a1 :: a2 :: a3 :: a4 :: a5 :: a6 :: a7 :: a8 :: a9 :: a10 :: a11 :: a12 :: a13 :: a14 :: some (.ref C) :: σ) H Q) : eMakeL 15 C sp [] E tl (a0 :: a1 :: a2 :: a3 :: a4 :: a5 :: a6 :: a7 :: a8 :: a9 :: a10 :: a11 :: a12 :: a13 :: a14 :: some (.ref C) :: σ) H Q := ⟨rfl, h⟩
theorem x_au15 {te : TE} {ti : TIp} {a0 a1 a2 a3 a4 a5 a6 a7 a8 a9 a10 a11 a12 a13 a14 : Option V} {σ : L2.St} (h : te (a0 :: a1 :: a2 :: a3 :: a4 :: a5 :: a6 :: a7 :: a8 :: a9 :: a10 :: a11 :: a12 :: a13 :: a14 :: some x :: σ) H fun y H1 => ti x y H1 fun z H2 => nx (a0 :: a1 :: a2 :: a3 :: a4 :: a5 :: a6 :: a7 :: a8 :: a9 :: a10 :: a11 :: a12 :: a13 :: a14 :: some z :: σ) H2) : tAug 15 te ti ⟨nx, rt, bk, ct⟩ (a0 :: a1 :: a2 :: a3 :: a4 :: a5 :: a6 :: a7 :: a8 :: a9 :: a10 :: a11 :: a12 :: a13 :: a14 :: some x :: σ) H := ⟨x, rfl, h⟩
theorem x_v16 {a0 a1 a2 a3 a4 a5 a6 a7 a8 a9 a10 a11 a12 a13 a14 a15 : Option V} {σ : L2.St} (h : Q v H) : tVar 16 (a0 :: a1 :: a2 :: a3 :: a4 :: a5 :: a6 :: a7 :: a8 :: a9 :: a10 :: a11 :: a12 :: a13 :: a14 :: a15 :: some v :: σ) H Q := ⟨v, rfl, h⟩
theorem x_g16 {a0 a1 a2 a3 a4 a5 a6 a7 a8 a9 a10 a11 a12 a13 a14 a15 : Option V} {x : Option V} {σ : L2.St} (h : QS (a0 :: a1 :: a2 :: a3 :: a4 :: a5 :: a6 :: a7 :: a8 :: a9 :: a10 :: a11 :: a12 :: a13 :: a14 :: a15 :: some v :: σ) H) : gName 16 v (a0 :: a1 :: a2 :: a3 :: a4 :: a5 :: a6 :: a7 :: a8 :: a9 :: a10 :: a11 :: a12 :: a13 :: a14 :: a15 :: x :: σ) H QS := h
theorem x_d16 {a0 a1 a2 a3 a4 a5 a6 a7 a8 a9 a10 a11 a12 a13 a14 a15 : Option V} {x : Option V} {σ : L2.St} {k : K0} (h : k (a0 :: a1 :: a2 :: a3 :: a4 :: a5 :: a6 :: a7 :: a8 :: a9 :: a10 :: a11 :: a12 :: a13 :: a14 :: a15 :: none :: σ) H) : gDel 16 (a0 :: a1 :: a2 :: a3 :: a4 :: a5 :: a6 :: a7 :: a8 :: a9 :: a10 :: a11 :: a12 :: a13 :: a14 :: a15 :: x :: σ) H k := h
theorem x_ml16 {a0 a1 a2 a3 a4 a5 a6 a7 a8 a9 a10 a11 a12 a13 a14 a15 : Option V} {σ : L2.St} (h : tMake C sp [] E tl (a0 :: a1 :: a2 :: a3 :: a4 :: a5 :: a6 :: a7 :: a8 :: a9 :: a10 :: a11 :: a12 :: a13 :: a14 :: a15 :: some (.ref C) :: σ) H Q) : eMakeL 16 C sp [] E tl (a0 :: a1 :: a2 :: a3 :: a4 :: a5 :: a6 :: a7 :: a8 :: a9 :: a10 :: a11 :: a12 :: a13 :: a14 :: a15 :: some (.ref C) :: σ) H Q := ⟨rfl, h⟩
theorem x_au16 {te : TE} {ti : TIp} {a0 a1 a2 a3 a4 a5 a6 a7 a8 a9 a10 a11 a12 a13 a14 a15 : Option V} {σ : L2.St} (h : te (a0 :: a1 :: a2 :: a3 :: a4 :: a5 :: a6 :: a7 :: a8 :: a9 :: a10 :: a11 :: a12 :: a13 :: a14 :: a15 :: some x :: σ) H fun y H1 => ti x y H1 fun z H2 => nx (a0 :: a1 :: a2 :: a3 :: a4 :: a5 :: a6 :: a7 :: a8 :: a9 :: a10 :: a11 :: a12 :: a13 :: a14 :: a15 :: some z :: σ) H2) : tAug 16 te ti ⟨nx, rt, bk, ct⟩ (a0 :: a1 :: a2 :: a3 :: a4 :: a5 :: a6 :: a7 :: a8 :: a9 :: a10 :: a11 :: a12 :: a13 :: a14 :: a15 :: some x :: σ) H := ⟨x, rfl, h⟩
theorem x_v17 {a0 a1 a2 a3 a4 a5 a6 a7 a8 a9 a10 a11 a12 a13 a14 a15 a16 : Option V} {σ : L2.St} (h : Q v H) : tVar 17 (a0 :: a1 :: a2 :: a3 :: a4 :: a5 :: a6 :: a7 :: a8 :: a9 :: a10 :: a11 :: a12 :: a13 :: a14 :: a15 :: a16 :: some v :: σ) H Q := ⟨v, rfl, h⟩
theorem x_g17 {a0 a1 a2 a3 a4 a5 a6 a7 a8 a9 a10 a11 a12 a13 a14 a15 a16 : Option V} {x : Option V} {σ : L2.St} (h : QS (a0 :: a1 :: a2 :: a3 :: a4 :: a5 :: a6 :: a7 :: a8 :: a9 :: a10 :: a11 :: a12 :: a13 :: a14 :: a15 :: a16 :: some v :: σ) H) : gName 17 v (a0 :: a1 :: a2 :: a3 :: a4 :: a5 :: a6 :: a7 :: a8 :: a9 :: a10 :: a11 :: a12 :: a13 :: a14 :: a15 :: a16 :: x :: σ) H QS := h
theorem x_d17 {a0 a1 a2 a3 a4 a5 a6 a7 a8 a9 a10 a11 a12 a13 a14 a15 a16 : Option V} {x : Option V} {σ : L2.St} {k : K0} (h : k (a0 :: a1 :: a2 :: a3 :: a4 :: a5 :: a6 :: a7 :: a8 :: a9 :: a10 :: a11 :: a12 :: a13 :: a14 :: a15 :: a16 :: none :: σ) H) : gDel 17 (a0 :: a1 :: a2 :: a3 :: a4 :: a5 :: a6 :: a7 :: a8 :: a9 :: a10 :: a11 :: a12 :: a13 :: a14 :: a15 :: a16 :: x :: σ) H k := h
theorem x_ml17 {a0 a1 a2 a3 a4 a5 a6 a7 a8 a9 a10 a11 a12 a13 a14 a15 a16 : Option V} {σ : L2.St} (h : tMake C sp [] E tl (a0 :: a1 :: a2 :: a3 :: a4 :: a5 :: a6 :: a7 :: a8 :: a9 :: a10 :: a11 :: a12 :: a13 :: a14 :: a15 :: a16 :: some (.ref C) :: σ) H Q) : eMakeL 17 C sp [] E tl (a0 :: a1 :: a2 :: a3 :: a4 :: a5 :: a6 :: a7 :: a8 :: a9 :: a10 :: a11 :: a12 :: a13 :: a14 :: a15 :: a16 :: some (.ref C) :: σ) H Q := ⟨rfl, h⟩
theorem x_au17 {te : TE} {ti : TIp} {a0 a1 a2 a3 a4 a5 a6 a7 a8 a9 a10 a11 a12 a13 a14 a15 a16 : Option V} {σ : L2.St} (h : te (a0 :: a1 :: a2 :: a3 :: a4 :: a5 :: a6 :: a7 :: a8 :: a9 :: a10 :: a11 :: a12 :: a13 :: a14 :: a15 :: a16 :: some x :: σ) H fun y H1 => ti x y H1 fun z H2 => nx (a0 :: a1 :: a2 :: a3 :: a4 :: a5 :: a6 :: a7 :: a8 :: a9 :: a10 :: a11 :: a12 :: a13 :: a14 :: a15 :: a16 :: some z :: σ) H2) : tAug 17 te ti ⟨nx, rt, bk, ct⟩ (a0 :: a1 :: a2 :: a3 :: a4 :: a5 :: a6 :: a7 :: a8 :: a9 :: a10 :: a11 :: a12 :: a13 :: a14 :: a15 :: a16 :: some x :: σ) H := ⟨x, rfl, h⟩
theorem x_v18 {a0 a1 a2 a3 a4 a5 a6 a7 a8 a9 a10 a11 a12 a13 a14 a15 a16 a17 : Option V} {σ : L2.St} (h : Q v H) : tVar 18 (a0 :: a1 :: a2 :: a3 :: a4 :: a5 :: a6 :: a7 :: a8 :: a9 :: a10 :: a11 :: a12 :: a13 :: a14 :: a15 :: a16 :: a17 :: some v :: σ) H Q := ⟨v, rfl, h⟩
theorem x_g18 {a0 a1 a2 a3 a4 a5 a6 a7 a8 a9 a10 a11 a12 a13 a14 a15 a16 a17 : Option V} {x : Option V} {σ : L2.St} (h : QS (a0 :: a1 :: a2 :: a3 :: a4 :: a5 :: a6 :: a7 :: a8 :: a9 :: a10 :: a11 :: a12 :: a13 :: a14 :: a15 :: a16 :: a17 :: some v :: σ) H) : gName 18 v (a0 :: a1 :: a2 :: a3 :: a4 :: a5 :: a6 :: a7 :: a8 :: a9 :: a10 :: a11 :: a12 :: a13 :: a14 :: a15 :: a16 :: a17 :: x :: σ) H QS := h
theorem x_d18 {a0 a1 a2 a3 a4 a5 a6 a7 a8 a9 a10 a11 a12 a13 a14 a15 a16 a17 : Option V} {x : Option V} {σ : L2.St} {k : K0} (h : k (a0 :: a1 :: a2 :: a3 :: a4 :: a5 :: a6 :: a7 :: a8 :: a9 :: a10 :: a11 :: a12 :: a13 :: a14 :: a15 :: a16 :: a17 :: none :: σ) H) : gDel 18 (a0 :: a1 :: a2 :: a3 :: a4 :: a5 :: a6 :: a7 :: a8 :: a9 :: a10 :: a11 :: a12 :: a13 :: a14 :: a15 :: a16 :: a17 :: x :: σ) H k := h
theorem x_ml18 {a0 a1 a2 a3 a4 a5 a6 a7 a8 a9 a10 a11 a12 a13 a14 a15 a16 a17 : Option V} {σ : L2.St} (h : tMake C sp [] E tl (a0 :: a1 :: a2 :: a3 :: a4 :: a5 :: a6 :: a7 :: a8 :: a9 :: a10 :: a11 :: a12 :: a13 :: a14 :: a15 :: a16 :: a17 :: some (.ref C) :: σ) H Q) : eMakeL 18 C sp [] E tl (a0 :: a1 :: a2 :: a3 :: a4 :: a5 :: a6 :: a7 :: a8 :: a9 :: a10 :: a11 :: a12 :: a13 :: a14 :: a15 :: a16 :: a17 :: some (.ref C) :: σ) H Q := ⟨rfl, h⟩
theorem x_au18 {te : TE} {ti : TIp} {a0 a1 a2 a3 a4 a5 a6 a7 a8 a9 a10 a11 a12 a13 a14 a15 a16 a17 : Option V} {σ : L2.St} (h : te (a0 :: a1 :: a2 :: a3 :: a4 :: a5 :: a6 :: a7 :: a8 :: a9 :: a10 :: a11 :: a12 :: a13 :: a14 :: a15 :: a16 :: a17 :: some x :: σ) H fun y H1 => ti x y H1 fun z H2 => nx (a0 :: a1 :: a2 :: a3 :: a4 :: a5 :: a6 :: a7 :: a8 :: a9 :: a10 :: a11 :: a12 :: a13 :: a14 :: a15 :: a16 :: a17 :: some z :: σ) H2) : tAug 18 te ti ⟨nx, rt, bk, ct⟩ (a0 :: a1 :: a2 :: a3 :: a4 :: a5 :: a6 :: a7 :: a8 :: a9 :: a10 :: a11 :: a12 :: a13 :: a14 :: a15 :: a16 :: a17 :: some x :: σ) H := ⟨x, rfl, h⟩
theorem x_v19 {a0 a1 a2 a3 a4 a5 a6 a7 a8 a9 a10 a11 a12 a13 a14 a15 a16 a17 a18 : Option V} {σ : L2.St} (h : Q v H) : tVar 19 (a0 :: a1 :: a2 :: a3 :: a4 :: a5 :: a6 :: a7 :: a8 :: a9 :: a10 :: a11 :: a12 :: a13 :: a14 :: a15 :: a16 :: a17 :: a18 :: some v :: σ) H Q := ⟨v, rfl, h⟩
theorem x_g19 {a0 a1 a2 a3 a4 a5 a6 a7 a8 a9 a10 a11 a12 a13 a14 a15 a16 a17 a18 : Option V} {x : Option V} {σ : L2.St} (h : QS (a0 :: a1 :: a2 :: a3 :: a4 :: a5 :: a6 :: a7 :: a8 :: a9 :: a10 :: a11 :: a12 :: a13 :: a14 :: a15 :: a16 :: a17 :: a18 :: some v :: σ) H) : gName 19 v (a0 :: a1 :: a2 :: a3 :: a4 :: a5 :: a6 :: a7 :: a8 :: a9 :: a10 :: a11 :: a12 :: a13 :: a14 :: a15 :: a16 :: a17 :: a18 :: x :: σ) H QS := h
theorem x_d19 {a0 a1 a2 a3 a4 a5 a6 a7 a8 a9 a10 a11 a12 a13 a14 a15 a16 a17 a18 : Option V} {x : Option V} {σ : L2.St} {k : K0} (h : k (a0 :: a1 :: a2 :: a3 :: a4 :: a5 :: a6 :: a7 :: a8 :: a9 :: a10 :: a11 :: a12 :: a13 :: a14 :: a15 :: a16 :: a17 :: a18 :: none :: σ) H) : gDel 19 (a0 :: a1 :: a2 :: a3 :: a4 :: a5 :: a6 :: a7 :: a8 :: a9 :: a10 :: a11 :: a12 :: a13 :: a14 :: a15 :: a16 :: a17 :: a18 :: x :: σ) H k := h
theorem x_ml19 {a0 a1 a2 a3 a4 a5 a6 a7 a8 a9 a10 a11 a12 a13 a14 a15 a16 a17 a18 : Option V} {σ : L2.St} (h : tMake C sp [] E tl (a0 :: a1 :: a2 :: a3 :: a4 :: a5 :: a6 :: a7 :: a8 :: a9 :: a10 :: a11 :: a12 :: a13 :: a14 :: a15 :: a16 :: a17 :: a18 :: some (.ref C) :: σ) H Q) : eMakeL 19 C sp [] E tl (a0 :: a1 :: a2 :: a3 :: a4 :: a5 :: a6 :: a7 :: a8 :: a9 :: a10 :: a11 :: a12 :: a13 :: a14 :: a15 :: a16 :: a17 :: a18 :: some (.ref C) :: σ) H Q := ⟨rfl, h⟩
theorem x_au19 {te : TE} {ti : TIp} {a0 a1 a2 a3 a4 a5 a6 a7 a8 a9 a10 a11 a12 a13 a14 a15 a16 a17 a18 : Option V} {σ : L2.St} (h : te (a0 :: a1 :: a2 :: a3 :: a4 :: a5 :: a6 :: a7 :: a8 :: a9 :: a10 :: a11 :: a12 :: a13 :: a14 :: a15 :: a16 :: a17 :: a18 :: some x :: σ) H fun y H1 => ti x y H1 fun z H2 => nx (a0 :: a1 :: a2 :: a3 :: a4 :: a5 :: a6 :: a7 :: a8 :: a9 :: a10 :: a11 :: a12 :: a13 :: a14 :: a15 :: a16 :: a17 :: a18 :: some z :: σ) H2) : tAug 19 te ti ⟨nx, rt, bk, ct⟩ (a0 :: a1 :: a2 :: a3 :: a4 :: a5 :: a6 :: a7 :: a8 :: a9 :: a10 :: a11 :: a12 :: a13 :: a14 :: a15 :: a16 :: a17 :: a18 :: some x :: σ) H := ⟨x, rfl, h⟩
theorem x_v20 {a0 a1 a2 a3 a4 a5 a6 a7 a8 a9 a10 a11 a12 a13 a14 a15 a16 a17 a18 a19 : Option V} {σ : L2.St} (h : Q v H) : tVar 20 (a0 :: a1 :: a2 :: a3 :: a4 :: a5 :: a6 :: a7 :: a8 :: a9 :: a10 :: a11 :: a12 :: a13 :: a14 :: a15 :: a16 :: a17 :: a18 :: a19 :: some v :: σ) H Q := ⟨v, rfl, h⟩
theorem x_g20 {a0 a1 a2 a3 a4 a5 a6 a7 a8 a9 a10 a11 a12 a13 a14 a15 a16 a17 a18 a19 : Option V} {x : Option V} {σ : L2.St} (h : QS (a0 :: a1 :: a2 :: a3 :: a4 :: a5 :: a6 :: a7 :: a8 :: a9 :: a10 :: a11 :: a12 :: a13 :: a14 :: a15 :: a16 :: a17 :: a18 :: a19 :: some v :: σ) H) : gName 20 v (a0 :: a1 :: a2 :: a3 :: a4 :: a5 :: a6 :: a7 :: a8 :: a9 :: a10 :: a11 :: a12 :: a13 :: a14 :: a15 :: a16 :: a17 :: a18 :: a19 :: x :: σ) H QS := h
theorem x_d20 {a0 a1 a2 a3 a4 a5 a6 a7 a8 a9 a10 a11 a12 a13 a14 a15 a16 a17 a18 a19 : Option V} {x : Option V} {σ : L2.St} {k : K0} (h : k (a0 :: a1 :: a2 :: a3 :: a4 :: a5 :: a6 :: a7 :: a8 :: a9 :: a10 :: a11 :: a12 :: a13 :: a14 :: a15 :: a16 :: a17 :: a18 :: a19 :: none :: σ) H) : gDel 20 (a0 :: a1 :: a2 :: a3 :: a4 :: a5 :: a6 :: a7 :: a8 :: a9 :: a10 :: a11 :: a12 :: a13 :: a14 :: a15 :: a16 :: a17 :: a18 :: a19 :: x :: σ) H k := h
theorem x_ml20 {a0 a1 a2 a3 a4 a5 a6 a7 a8 a9 a10 a11 a12 a13 a14 a15 a16 a17 a18 a19 : Option V} {σ : L2.St} (h : tMake C sp [] E tl (a0 :: a1 :: a2 :: a3 :: a4 :: a5 :: a6 :: a7 :: a8 :: a9 :: a10 :: a11 :: a12 :: a13 :: a14 :: a15 :: a16 :: a17 :: a18 :: a19 :: some (.ref C) :: σ) H Q) : eMakeL 20 C sp [] E tl (a0 :: a1 :: a2 :: a3 :: a4 :: a5 :: a6 :: a7 :: a8 :: a9 :: a10 :: a11 :: a12 :: a13 :: a14 :: a15 :: a16 :: a17 :: a18 :: a19 :: some (.ref C) :: σ) H Q := ⟨rfl, h⟩
theorem x_au20 {te : TE} {ti : TIp} {a0 a1 a2 a3 a4 a5 a6 a7 a8 a9 a10 a11 a12 a13 a14 a15 a16 a17 a18 a19 : Option V} {σ : L2.St} (h : te (a0 :: a1 :: a2 :: a3 :: a4 :: a5 :: a6 :: a7 :: a8 :: a9 :: a10 :: a11 :: a12 :: a13 :: a14 :: a15 :: a16 :: a17 :: a18 :: a19 :: some x :: σ) H fun y H1 => ti x y H1 fun z H2 => nx (a0 :: a1 :: a2 :: a3 :: a4 :: a5 :: a6 :: a7 :: a8 :: a9 :: a10 :: a11 :: a12 :: a13 :: a14 :: a15 :: a16 :: a17 :: a18 :: a19 :: some z :: σ) H2) : tAug 20 te ti ⟨nx, rt, bk, ct⟩ (a0 :: a1 :: a2 :: a3 :: a4 :: a5 :: a6 :: a7 :: a8 :: a9 :: a10 :: a11 :: a12 :: a13 :: a14 :: a15 :: a16 :: a17 :: a18 :: a19 :: some x :: σ) H := ⟨x, rfl, h⟩
theorem x_v21 {a0 a1 a2 a3 a4 a5 a6 a7 a8 a9 a10 a11 a12 a13 a14 a15 a16 a17 a18 a19 a20 : Option V} {σ : L2.St} (h : Q v H) : tVar 21 (a0 :: a1 :: a2 :: a3 :: a4 :: a5 :: a6 :: a7 :: a8 :: a9 :: a10 :: a11 :: a12 :: a13 :: a14 :: a15 :: a16 :: a17 :: a18 :: a19 :: a20 :: some v :: σ) H Q := ⟨v, rfl, h⟩
theorem x_g21 {a0 a1 a2 a3 a4 a5 a6 a7 a8 a9 a10 a11 a12 a13 a14 a15 a16 a17 a18 a19 a20 : Option V} {x : Option V} {σ : L2.St} (h : QS (a0 :: a1 :: a2 :: a3 :: a4 :: a5 :: a6 :: a7 :: a8 :: a9 :: a10 :: a11 :: a12 :: a13 :: a14 :: a15 :: a16 :: a17 :: a18 :: a19 :: a20 :: some v :: σ) H) : gName 21 v (a0 :: a1 :: a2 :: a3 :: a4 :: a5 :: a6 :: a7 :: a8 :: a9 :: a10 :: a11 :: a12 :: a13 :: a14 :: a15 :: a16 :: a17 :: a18 :: a19 :: a20 :: x :: σ) H QS := h
theorem x_d21 {a0 a1 a2 a3 a4 a5 a6 a7 a8 a9 a10 a11 a12 a13 a14 a15 a16 a17 a18 a19 a20 : Option V} {x : Option V} {σ : L2.St} {k : K0} (h : k (a0 :: a1 :: a2 :: a3 :: a4 :: a5 :: a6 :: a7 :: a8 :: a9 :: a10 :: a11 :: a12 :: a13 :: a14 :: a15 :: a16 :: a17 :: a18 :: a19 :: a20 :: none :: σ) H) : gDel 21 (a0 :: a1 :: a2 :: a3 :: a4 :: a5 :: a6 :: a7 :: a8 :: a9 :: a10 :: a11 :: a12 :: a13 :: a14 :: a15 :: a16 :: a17 :: a18 :: a19 :: a20 :: x :: σ) H k := h
theorem x_ml21 {a0 a1 a2 a3 a4 a5 a6 a7 a8 a9 a10 a11 a12 a13 a14 a15 a16 a17 a18 a19 a20 : Option V} {σ : L2.St} (h : tMake C sp [] E tl (a0 :: a1 :: a2 :: a3 :: a4 :: a5 :: a6 :: a7 :: a8 :: a9 :: a10 :: a11 :: a12 :: a13 :: a14 :: a15 :: a16 :: a17 :: a18 :: a19 :: a20 :: some (.ref C) :: σ) H Q) : eMakeL 21 C sp [] E tl (a0 :: a1 :: a2 :: a3 :: a4 :: a5 :: a6 :: a7 :: a8 :: a9 :: a10 :: a11 :: a12 :: a13 :: a14 :: a15 :: a16 :: a17 :: a18 :: a19 :: a20 :: some (.ref C) :: σ) H Q := ⟨rfl, h⟩
theorem x_au21 {te : TE} {ti : TIp} {a0 a1 a2 a3 a4 a5 a6 a7 a8 a9 a10 a11 a12 a13 a14 a15 a16 a17 a18 a19 a20 : Option V} {σ : L2.St} (h : te (a0 :: a1 :: a2 :: a3 :: a4 :: a5 :: a6 :: a7 :: a8 :: a9 :: a10 :: a11 :: a12 :: a13 :: a14 :: a15 :: a16 :: a17 :: a18 :: a19 :: a20 :: some x :: σ) H fun y H1 => ti x y H1 fun z H2 => nx (a0 :: a1 :: a2 :: a3 :: a4 :: a5 :: a6 :: a7 :: a8 :: a9 :: a10 :: a11 :: a12 :: a13 :: a14 :: a15 :: a16 :: a17 :: a18 :: a19 :: a20 :: some z :: σ) H2) : tAug 21 te ti ⟨nx, rt, bk, ct⟩ (a0 :: a1 :: a2 :: a3 :: a4 :: a5 :: a6 :: a7 :: a8 :: a9 :: a10 :: a11 :: a12 :: a13 :: a14 :: a15 :: a16 :: a17 :: a18 :: a19 :: a20 :: some x :: σ) H := ⟨x, rfl, h⟩
theorem x_v22 {a0 a1 a2 a3 a4 a5 a6 a7 a8 a9 a10 a11 a12 a13 a14 a15 a16 a17 a18 a19 a20 a21 : Option V} {σ : L2.St} (h : Q v H) : tVar 22 (a0 :: a1 :: a2 :: a3 :: a4 :: a5 :: a6 :: a7 :: a8 :: a9 :: a10 :: a11 :: a12 :: a13 :: a14 :: a15 :: a16 :: a17 :: a18 :: a19 :: a20 :: a21 :: some v :: σ) H Q := ⟨v, rfl, h⟩
theorem x_g22 {a0 a1 a2 a3 a4 a5 a6 a7 a8 a9 a10 a11 a12 a13 a14 a15 a16 a17 a18 a19 a20 a21 : Option V} {x : Option V} {σ : L2.St} (h : QS (a0 :: a1 :: a2 :: a3 :: a4 :: a5 :: a6 :: a7 :: a8 :: a9 :: a10 :: a11 :: a12 :: a13 :: a14 :: a15 :: a16 :: a17 :: a18 :: a19 :: a20 :: a21 :: some v :: σ) H) : gName 22 v (a0 :: a1 :: a2 :: a3 :: a4 :: a5 :: a6 :: a7 :: a8 :: a9 :: a10 :: a11 :: a12 :: a13 :: a14 :: a15 :: a16 :: a17 :: a18 :: a19 :: a20 :: a21 :: x :: σ) H QS := h
theorem x_d22 {a0 a1 a2 a3 a4 a5 a6 a7 a8 a9 a10 a11 a12 a13 a14 a15 a16 a17 a18 a19 a20 a21 : Option V} {x : Option V} {σ : L2.St} {k : K0} (h : k (a0 :: a1 :: a2 :: a3 :: a4 :: a5 :: a6 :: a7 :: a8 :: a9 :: a10 :: a11 :: a12 :: a13 :: a14 :: a15 :: a16 :: a17 :: a18 :: a19 :: a20 :: a21 :: none :: σ) H) : gDel 22 (a0 :: a1 :: a2 :: a3 :: a4 :: a5 :: a6 :: a7 :: a8 :: a9 :: a10 :: a11 :: a12 :: a13 :: a14 :: a15 :: a16 :: a17 :: a18 :: a19 :: a20 :: a21 :: x :: σ) H k := h
theorem x_ml22 {a0 a1 a2 a3 a4 a5 a6 a7 a8 a9 a10 a11 a12 a13 a14 a15 a16 a17 a18 a19 a20 a21 : Option V} {σ : L2.St} (h : tMake C sp [] E tl (a0 :: a1 :: a2 :: a3 :: a4 :: a5 :: a6 :: a7 :: a8 :: a9 :: a10 :: a11 :: a12 :: a13 :: a14 :: a15 :: a16 :: a17 :: a18 :: a19 :: a20 :: a21 :: some (.ref C) :: σ) H Q) : eMakeL 22 C sp [] E tl (a0 :: a1 :: a2 :: a3 :: a4 :: a5 :: a6 :: a7 :: a8 :: a9 :: a10 :: a11 :: a12 :: a13 :: a14 :: a15 :: a16 :: a17 :: a18 :: a19 :: a20 :: a21 :: some (.ref C) :: σ) H Q := ⟨rfl, h⟩
theorem x_au22 {te : TE} {ti : TIp} {a0 a1 a2 a3 a4 a5 a6 a7 a8 a9 a10 a11 a12 a13 a14 a15 a16 a17 a18 a19 a20 a21 : Option V} {σ : L2.St} (h : te (a0 :: a1 :: a2 :: a3 :: a4 :: a5 :: a6 :: a7 :: a8 :: a9 :: a10 :: a11 :: a12 :: a13 :: a14 :: a15 :: a16 :: a17 :: a18 :: a19 :: a20 :: a21 :: some x :: σ) H fun y H1 => ti x y H1 fun z H2 => nx (a0 :: a1 :: a2 :: a3 :: a4 :: a5 :: a6 :: a7 :: a8 :: a9 :: a10 :: a11 :: a12 :: a13 :: a14 :: a15 :: a16 :: a17 :: a18 :: a19 :: a20 :: a21 :: some z :: σ) H2) : tAug 22 te ti ⟨nx, rt, bk, ct⟩ (a0 :: a1 :: a2 :: a3 :: a4 :: a5 :: a6 :: a7 :: a8 :: a9 :: a10 :: a11 :: a12 :: a13 :: a14 :: a15 :: a16 :: a17 :: a18 :: a19 :: a20 :: a21 :: some x :: σ) H := ⟨x, rfl, h⟩
theorem x_v23 {a0 a1 a2 a3 a4 a5 a6 a7 a8 a9 a10 a11 a12 a13 a14 a15 a16 a17 a18 a19 a20 a21 a22 : Option V} {σ : L2.St} (h : Q v H) : tVar 23 (a0 :: a1 :: a2 :: a3 :: a4 :: a5 :: a6 :: a7 :: a8 :: a9 :: a10 :: a11 :: a12 :: a13 :: a14 :: a15 :: a16 :: a17 :: a18 :: a19 :: a20 :: a21 :: a22 :: some v :: σ) H Q := ⟨v, rfl, h⟩
theorem x_g23 {a0 a1 a2 a3 a4 a5 a6 a7 a8 a9 a10 a11 a12 a13 a14 a15 a16 a17 a18 a19 a20 a21 a22 : Option V} {x : Option V} {σ : L2.St} (h : QS (a0 :: a1 :: a2 :: a3 :: a4 :: a5 :: a6 :: a7 :: a8 :: a9 :: a10 :: a11 :: a12 :: a13 :: a14 :: a15 :: a16 :: a17 :: a18 :: a19 :: a20 :: a21 :: a22 :: some v :: σ) H) : gName 23 v (a0 :: a1 :: a2 :: a3 :: a4 :: a5 :: a6 :: a7 :: a8 :: a9 :: a10 :: a11 :: a12 :: a13 :: a14 :: a15 :: a16 :: a17 :: a18 :: a19 :: a20 :: a21 :: a22 :: x :: σ) H QS := h
theorem x_d23 {a0 a1 a2 a3 a4 a5 a6 a7 a8 a9 a10 a11 a12 a13 a14 a15 a16 a17 a18 a19 a20 a21 a22 : Option V} {x : Option V} {σ : L2.St} {k : K0} (h : k (a0 :: a1 :: a2 :: a3 :: a4 :: a5 :: a6 :: a7 :: a8 :: a9 :: a10 :: a11 :: a12 :: a13 :: a14 :: a15 :: a16 :: a17 :: a18 :: a19 :: a20 :: a21 :: a22 :: none :: σ) H) : gDel 23 (a0 :: a1 :: a2 :: a3 :: a4 :: a5 :: a6 :: a7 :: a8 :: a9 :: a10 :: a11 :: a12 :: a13 :: a14 :: a15 :: a16 :: a17 :: a18 :: a19 :: a20 :: a21 :: a22 :: x :: σ) H k := h
theorem x_ml23 {a0 a1 a2 a3 a4 a5 a6 a7 a8 a9 a10 a11 a12 a13 a14 a15 a16 a17 a18 a19 a20 a21 a22 : Option V} {σ : L2.St} (h : tMake C sp [] E tl (a0 :: a1 :: a2 :: a3 :: a4 :: a5 :: a6 :: a7 :: a8 :: a9 :: a10 :: a11 :: a12 :: a13 :: a14 :: a15 :: a16 :: a17 :: a18 :: a19 :: a20 :: a21 :: a22 :: some (.ref C) :: σ) H Q) : eMakeL 23 C sp [] E tl (a0 :: a1 :: a2 :: a3 :: a4 :: a5 :: a6 :: a7 :: a8 :: a9 :: a10 :: a11 :: a12 :: a13 :: a14 :: a15 :: a16 :: a17 :: a18 :: a19 :: a20 :: a21 :: a22 :: some (.ref C) :: σ) H Q := ⟨rfl, h⟩
theorem x_au23 {te : TE} {ti : TIp} {a0 a1 a2 a3 a4 a5 a6 a7 a8 a9 a10 a11 a12 a13 a14 a15 a16 a17 a18 a19 a20 a21 a22 : Option V} {σ : L2.St} (h : te (a0 :: a1 :: a2 :: a3 :: a4 :: a5 :: a6 :: a7 :: a8 :: a9 :: a10 :: a11 :: a12 :: a13 :: a14 :: a15 :: a16 :: a17 :: a18 :: a19 :: a20 :: a21 :: a22 :: some x :: σ) H fun y H1 => ti x y H1 fun z H2 => nx (a0 :: a1 :: a2 :: a3 :: a4 :: a5 :: a6 :: a7 :: a8 :: a9 :: a10 :: a11 :: a12 :: a13 :: a14 :: a15 :: a16 :: a17 :: a18 :: a19 :: a20 :: a21 :: a22 :: some z :: σ) H2) : tAug 23 te ti ⟨nx, rt, bk, ct⟩ (a0 :: a1 :: a2 :: a3 :: a4 :: a5 :: a6 :: a7 :: a8 :: a9 :: a10 :: a11 :: a12 :: a13 :: a14 :: a15 :: a16 :: a17 :: a18 :: a19 :: a20 :: a21 :: a22 :: some x :: σ) H := ⟨x, rfl, h⟩
theorem x_setA0 {w : V} {QH : Hp → Prop} (F : FH H L) (m : (p, Is (.lst (w :: xs))) ∈ L) (pu : Put p (Is (.lst (w :: xs))) (Is (.lst (v :: xs))) L L') (h : ∀ H', FH H' L' → QH H') : rSetL (.ref p) (.int 0) v H QH :=
  ⟨p, _, 0, 0, rfl, rfl, F.get m, ixN_b (j := 0) rfl (by simp [Nat.blt_eq, List.length_cons]), h _ (F.put pu trivial)⟩
theorem x_setA1 {b0 : V} {w : V} {QH : Hp → Prop} (F : FH H L) (m : (p, Is (.lst (b0 :: w :: xs))) ∈ L) (pu : Put p (Is (.lst (b0 :: w :: xs))) (Is (.lst (b0 :: v :: xs))) L L') (h : ∀ H', FH H' L' → QH H') : rSetL (.ref p) (.int 1) v H QH :=
  ⟨p, _, 1, 1, rfl, rfl, F.get m, ixN_b (j := 1) rfl (by simp [Nat.blt_eq, List.length_cons]), h _ (F.put pu trivial)⟩
theorem x_setA2 {b0 b1 : V} {w : V} {QH : Hp → Prop} (F : FH H L) (m : (p, Is (.lst (b0 :: b1 :: w :: xs))) ∈ L) (pu : Put p (Is (.lst (b0 :: b1 :: w :: xs))) (Is (.lst (b0 :: b1 :: v :: xs))) L L') (h : ∀ H', FH H' L' → QH H') : rSetL (.ref p) (.int 2) v H QH :=
  ⟨p, _, 2, 2, rfl, rfl, F.get m, ixN_b (j := 2) rfl (by simp [Nat.blt_eq, List.length_cons]), h _ (F.put pu trivial)⟩
theorem x_setA3 {b0 b1 b2 : V} {w : V} {QH : Hp → Prop} (F : FH H L) (m : (p, Is (.lst (b0 :: b1 :: b2 :: w :: xs))) ∈ L) (pu : Put p (Is (.lst (b0 :: b1 :: b2 :: w :: xs))) (Is (.lst (b0 :: b1 :: b2 :: v :: xs))) L L') (h : ∀ H', FH H' L' → QH H') : rSetL (.ref p) (.int 3) v H QH :=
  ⟨p, _, 3, 3, rfl, rfl, F.get m, ixN_b (j := 3) rfl (by simp [Nat.blt_eq, List.length_cons]), h _ (F.put pu trivial)⟩
theorem x_setA4 {b0 b1 b2 b3 : V} {w : V} {QH : Hp → Prop} (F : FH H L) (m : (p, Is (.lst (b0 :: b1 :: b2 :: b3 :: w :: xs))) ∈ L) (pu : Put p (Is (.lst (b0 :: b1 :: b2 :: b3 :: w :: xs))) (Is (.lst (b0 :: b1 :: b2 :: b3 :: v :: xs))) L L') (h : ∀ H', FH H' L' → QH H') : rSetL (.ref p) (.int 4) v H QH :=
  ⟨p, _, 4, 4, rfl, rfl, F.get m, ixN_b (j := 4) rfl (by simp [Nat.blt_eq, List.length_cons]), h _ (F.put pu trivial)⟩
theorem x_setA5 {b0 b1 b2 b3 b4 : V} {w : V} {QH : Hp → Prop} (F : FH H L) (m : (p, Is (.lst (b0 :: b1 :: b2 :: b3 :: b4 :: w :: xs))) ∈ L) (pu : Put p (Is (.lst (b0 :: b1 :: b2 :: b3 :: b4 :: w :: xs))) (Is (.lst (b0 :: b1 :: b2 :: b3 :: b4 :: v :: xs))) L L') (h : ∀ H', FH H' L' → QH H') : rSetL (.ref p) (.int 5) v H QH :=
  ⟨p, _, 5, 5, rfl, rfl, F.get m, ixN_b (j := 5) rfl (by simp [Nat.blt_eq, List.length_cons]), h _ (F.put pu trivial)⟩
theorem x_setA6 {b0 b1 b2 b3 b4 b5 : V} {w : V} {QH : Hp → Prop} (F : FH H L) (m : (p, Is (.lst (b0 :: b1 :: b2 :: b3 :: b4 :: b5 :: w :: xs))) ∈ L) (pu : Put p (Is (.lst (b0 :: b1 :: b2 :: b3 :: b4 :: b5 :: w :: xs))) (Is (.lst (b0 :: b1 :: b2 :: b3 :: b4 :: b5 :: v :: xs))) L L') (h : ∀ H', FH H' L' → QH H') : rSetL (.ref p) (.int 6) v H QH :=
  ⟨p, _, 6, 6, rfl, rfl, F.get m, ixN_b (j := 6) rfl (by simp [Nat.blt_eq, List.length_cons]), h _ (F.put pu trivial)⟩
theorem x_setA7 {b0 b1 b2 b3 b4 b5 b6 : V} {w : V} {QH : Hp → Prop} (F : FH H L) (m : (p, Is (.lst (b0 :: b1 :: b2 :: b3 :: b4 :: b5 :: b6 :: w :: xs))) ∈ L) (pu : Put p (Is (.lst (b0 :: b1 :: b2 :: b3 :: b4 :: b5 :: b6 :: w :: xs))) (Is (.lst (b0 :: b1 :: b2 :: b3 :: b4 :: b5 :: b6 :: v :: xs))) L L') (h : ∀ H', FH H' L' → QH H') : rSetL (.ref p) (.int 7) v H QH :=
  ⟨p, _, 7, 7, rfl, rfl, F.get m, ixN_b (j := 7) rfl (by simp [Nat.blt_eq, List.length_cons]), h _ (F.put pu trivial)⟩
theorem x_setA8 {b0 b1 b2 b3 b4 b5 b6 b7 : V} {w : V} {QH : Hp → Prop} (F : FH H L) (m : (p, Is (.lst (b0 :: b1 :: b2 :: b3 :: b4 :: b5 :: b6 :: b7 :: w :: xs))) ∈ L) (pu : Put p (Is (.lst (b0 :: b1 :: b2 :: b3 :: b4 :: b5 :: b6 :: b7 :: w :: xs))) (Is (.lst (b0 :: b1 :: b2 :: b3 :: b4 :: b5 :: b6 :: b7 :: v :: xs))) L L') (h : ∀ H', FH H' L' → QH H') : rSetL (.ref p) (.int 8) v H QH :=
  ⟨p, _, 8, 8, rfl, rfl, F.get m, ixN_b (j := 8) rfl (by simp [Nat.blt_eq, List.length_cons]), h _ (F.put pu trivial)⟩
theorem x_setA9 {b0 b1 b2 b3 b4 b5 b6 b7 b8 : V} {w : V} {QH : Hp → Prop} (F : FH H L) (m : (p, Is (.lst (b0 :: b1 :: b2 :: b3 :: b4 :: b5 :: b6 :: b7 :: b8 :: w :: xs))) ∈ L) (pu : Put p (Is (.lst (b0 :: b1 :: b2 :: b3 :: b4 :: b5 :: b6 :: b7 :: b8 :: w :: xs))) (Is (.lst (b0 :: b1 :: b2 :: b3 :: b4 :: b5 :: b6 :: b7 :: b8 :: v :: xs))) L L') (h : ∀ H', FH H' L' → QH H') : rSetL (.ref p) (.int 9) v H QH :=
  ⟨p, _, 9, 9, rfl, rfl, F.get m, ixN_b (j := 9) rfl (by simp [Nat.blt_eq, List.length_cons]), h _ (F.put pu trivial)⟩
end
end Y

/-! the walk by class search: one step St1, as many as there are Go1 -/
namespace Y
open PySem PySem.Spec PyProof.Rows L2
class St1 (G : Prop) (G' : outParam Prop) : Prop where
  imp : G' → G
class Go0 (G : Prop) (G' : outParam Prop) : Prop where
  imp : G' → G
instance (priority := 10) go_stop {G : Prop} : Go0 G G := ⟨id⟩
instance (priority := 1000) go_step {G G' G'' : Prop} [a : St1 G G'] [b : Go0 G' G''] : Go0 G G'' := ⟨fun h => a.imp (b.imp h)⟩
theorem go {G G' G'' : Prop} [a : St1 G G'] [b : Go0 G' G''] (h : G'') : G := a.imp (b.imp h)
/-- what stands in a list -/
class Mm {α : Type} (x : α) (L : List α) : Prop where
  m : x ∈ L
instance mm_tail {α : Type} {x y : α} {L : List α} [a : Mm x L] : Mm x (y :: L) := ⟨List.mem_cons_of_mem _ a.m⟩
instance (priority := 2000) mm_head {α : Type} {x : α} {L : List α} : Mm x (x :: L) := ⟨List.mem_cons_self⟩
class PutE (p : Addr) (φ φ' : Pr) (L : List Ent) (L' : outParam (List Ent)) : Prop where
  pu : Put p φ φ' L L'
instance put_tail {p : Addr} {φ φ' : Pr} {y : Ent} {L L' : List Ent} [a : PutE p φ φ' L L'] : PutE p φ φ' (y :: L) (y :: L') := ⟨.there a.pu⟩
instance (priority := 2000) put_head {p : Addr} {φ φ' : Pr} {L : List Ent} : PutE p φ φ' ((p, φ) :: L) ((p, φ') :: L) := ⟨.here⟩
class NeS (f g : Str) : Prop where
  ne : f ≠ g
class LookF (fs : List (Str × V)) (f : Str) (v : outParam V) : Prop where
  l : fs.lookup f = some v
instance look_tail {f g : Str} {v w : V} {t : List (Str × V)} [n : NeS f g] [a : LookF t f v] : LookF ((g, w) :: t) f v := ⟨look_miss n.ne a.l⟩
instance (priority := 2000) look_head {f : Str} {v : V} {t : List (Str × V)} : LookF ((f, v) :: t) f v := ⟨look_hit⟩
class NoF (fs : List (Str × V)) (f : Str) : Prop where
  l : fs.lookup f = none
instance nof_nil {f : Str} : NoF [] f := ⟨look_nil⟩
instance nof_cons {f g : Str} {w : V} {t : List (Str × V)} [n : NeS f g] [a : NoF t f] : NoF ((g, w) :: t) f := ⟨look_miss n.ne a.l⟩
class PutFd (f : Str) (v : V) (fs : List (Str × V)) (fs' : outParam (List (Str × V))) : Prop where
  e : putF f v fs = fs'
instance putfd_nil {f : Str} {v : V} : PutFd f v [] [(f, v)] := ⟨put_nil⟩
instance putfd_tail {f g : Str} {v w : V} {t t' : List (Str × V)} [n : NeS f g] [a : PutFd f v t t'] : PutFd f v ((g, w) :: t) ((g, w) :: t') := ⟨put_miss (Ne.symm n.ne) a.e⟩
instance (priority := 2000) putfd_head {f : Str} {v w : V} {t : List (Str × V)} : PutFd f v ((f, w) :: t) ((f, v) :: t) := ⟨put_hit⟩
class Shr {α : Type} (n : Nat) (xs : List α) : Prop where
  l : xs.length ≤ n
instance shr_nil {α : Type} {n : Nat} : Shr n ([] : List α) := ⟨Nat.zero_le _⟩
instance shr_cons {α : Type} {n : Nat} {x : α} {xs : List α} [a : Shr n xs] : Shr (n + 1) (x :: xs) := ⟨Nat.succ_le_succ a.l⟩
class AtE (xs : List V) (i : Int) (v : outParam V) : Prop where
  e : atI xs i = some v
class SetE (xs : List V) (i : Int) (v : V) (ys : outParam (List V)) : Prop where
  e : ∃ k, ixN xs.length i = some k ∧ xs.set k v = ys
class AppE {α : Type} (xs ys : List α) (zs : outParam (List α)) : Prop where
  e : xs ++ ys = zs
instance (priority := 10) app_any {α : Type} {xs ys : List α} : AppE xs ys (xs ++ ys) := ⟨rfl⟩
instance app_nil {α : Type} {ys : List α} : AppE [] ys ys := ⟨rfl⟩
instance app_cons {α : Type} {x : α} {xs ys zs : List α} [a : AppE xs ys zs] : AppE (x :: xs) ys (x :: zs) := ⟨congrArg (x :: ·) a.e⟩
class WipeE (σ : L2.St) (vs : List Nat) (σ' : outParam L2.St) : Prop where
  e : wipe σ vs = σ'
class SetO (σ : L2.St) (v : Nat) (σ' : outParam L2.St) : Prop where
  e : σ.set v none = σ'
class LenE {α : Type} (xs : List α) (n : outParam Nat) : Prop where
  e : xs.length = n
/-! heads that the written rules may still take -/
class Hd (G : Prop) : Prop where
  t : True
theorem hd_is {G : Prop} [Hd G] (h : G) : G := h
instance at0 {v : V} {xs : List V} : AtE (v :: xs) 0 v := ⟨atI_at (j := 0) rfl rfl⟩
instance set0 {w v : V} {xs : List V} : SetE (w :: xs) 0 v (v :: xs) := ⟨0, ixN_at (j := 0) rfl (by simp only [List.length_cons]; omega), rfl⟩
instance seto0 {w : Option V} {σ : L2.St} : SetO (w :: σ) 0 (none :: σ) := ⟨rfl⟩
instance len0 {α : Type} : LenE (α := α) [] 0 := ⟨rfl⟩
instance at1 {b0 : V} {v : V} {xs : List V} : AtE (b0 :: v :: xs) 1 v := ⟨atI_at (j := 1) rfl rfl⟩
instance set1 {b0 : V} {w v : V} {xs : List V} : SetE (b0 :: w :: xs) 1 v (b0 :: v :: xs) := ⟨1, ixN_at (j := 1) rfl (by simp only [List.length_cons]; omega), rfl⟩
instance seto1 {b0 : Option V} {w : Option V} {σ : L2.St} : SetO (b0 :: w :: σ) 1 (b0 :: none :: σ) := ⟨rfl⟩
instance len1 {α : Type} {b0 : α} : LenE (α := α) [b0] 1 := ⟨rfl⟩
instance at2 {b0 b1 : V} {v : V} {xs : List V} : AtE (b0 :: b1 :: v :: xs) 2 v := ⟨atI_at (j := 2) rfl rfl⟩
instance set2 {b0 b1 : V} {w v : V} {xs : List V} : SetE (b0 :: b1 :: w :: xs) 2 v (b0 :: b1 :: v :: xs) := ⟨2, ixN_at (j := 2) rfl (by simp only [List.length_cons]; omega), rfl⟩
instance seto2 {b0 b1 : Option V} {w : Option V} {σ : L2.St} : SetO (b0 :: b1 :: w :: σ) 2 (b0 :: b1 :: none :: σ) := ⟨rfl⟩
instance len2 {α : Type} {b0 b1 : α} : LenE (α := α) [b0, b1] 2 := ⟨rfl⟩
instance at3 {b0 b1 b2 : V} {v : V} {xs : List V} : AtE (b0 :: b1 :: b2 :: v :: xs) 3 v := ⟨atI_at (j := 3) rfl rfl⟩
instance set3 {b0 b1 b2 : V} {w v : V} {xs : List V} : SetE (b0 :: b1 :: b2 :: w :: xs) 3 v (b0 :: b1 :: b2 :: v :: xs) := ⟨3, ixN_at (j := 3) rfl (by simp only [List.length_cons]; omega), rfl⟩
instance seto3 {b0 b1 b2 : Option V} {w : Option V} {σ : L2.St} : SetO (b0 :: b1 :: b2 :: w :: σ) 3 (b0 :: b1 :: b2 :: none :: σ) := ⟨rfl⟩
instance len3 {α : Type} {b0 b1 b2 : α} : LenE (α := α) [b0, b1, b2] 3 := ⟨rfl⟩
instance at4 {b0 b1 b2 b3 : V} {v : V} {xs : List V} : AtE (b0 :: b1 :: b2 :: b3 :: v :: xs) 4 v := ⟨atI_at (j := 4) rfl rfl⟩
instance set4 {b0 b1 b2 b3 : V} {w v : V} {xs : List V} : SetE (b0 :: b1 :: b2 :: b3 :: w :: xs) 4 v (b0 :: b1 :: b2 :: b3 :: v :: xs) := ⟨4, ixN_at (j := 4) rfl (by simp only [List.length_cons]; omega), rfl⟩
instance seto4 {b0 b1 b2 b3 : Option V} {w : Option V} {σ : L2.St} : SetO (b0 :: b1 :: b2 :: b3 :: w :: σ) 4 (b0 :: b1 :: b2 :: b3 :: none :: σ) := ⟨rfl⟩
instance len4 {α : Type} {b0 b1 b2 b3 : α} : LenE (α := α) [b0, b1, b2, b3] 4 := ⟨rfl⟩
instance at5 {b0 b1 b2 b3 b4 : V} {v : V} {xs : List V} : AtE (b0 :: b1 :: b2 :: b3 :: b4 :: v :: xs) 5 v := ⟨atI_at (j := 5) rfl rfl⟩
instance set5 {b0 b1 b2 b3 b4 : V} {w v : V} {xs : List V} : SetE (b0 :: b1 :: b2 :: b3 :: b4 :: w :: xs) 5 v (b0 :: b1 :: b2 :: b3 :: b4 :: v :: xs) := ⟨5, ixN_at (j := 5) rfl (by simp only [List.length_cons]; omega), rfl⟩
instance seto5 {b0 b1 b2 b3 b4 : Option V} {w : Option V} {σ : L2.St} : SetO (b0 :: b1 :: b2 :: b3 :: b4 :: w :: σ) 5 (b0 :: b1 :: b2 :: b3 :: b4 :: none :: σ) := ⟨rfl⟩
instance len5 {α : Type} {b0 b1 b2 b3 b4 : α} : LenE (α := α) [b0, b1, b2, b3, b4] 5 := ⟨rfl⟩
instance at6 {b0 b1 b2 b3 b4 b5 : V} {v : V} {xs : List V} : AtE (b0 :: b1 :: b2 :: b3 :: b4 :: b5 :: v :: xs) 6 v := ⟨atI_at (j := 6) rfl rfl⟩
instance set6 {b0 b1 b2 b3 b4 b5 : V} {w v : V} {xs : List V} : SetE (b0 :: b1 :: b2 :: b3 :: b4 :: b5 :: w :: xs) 6 v (b0 :: b1 :: b2 :: b3 :: b4 :: b5 :: v :: xs) := ⟨6, ixN_at (j := 6) rfl (by simp only [List.length_cons]; omega), rfl⟩
instance seto6 {b0 b1 b2 b3 b4 b5 : Option V} {w : Option V} {σ : L2.St} : SetO (b0 :: b1 :: b2 :: b3 :: b4 :: b5 :: w :: σ) 6 (b0 :: b1 :: b2 :: b3 :: b4 :: b5 :: none :: σ) := ⟨rfl⟩
instance len6 {α : Type} {b0 b1 b2 b3 b4 b5 : α} : LenE (α := α) [b0, b1, b2, b3, b4, b5] 6 := ⟨rfl⟩
instance at7 {b0 b1 b2 b3 b4 b5 b6 : V} {v : V} {xs : List V} : AtE (b0 :: b1 :: b2 :: b3 :: b4 :: b5 :: b6 :: v :: xs) 7 v := ⟨atI_at (j := 7) rfl rfl⟩
instance set7 {b0 b1 b2 b3 b4 b5 b6 : V} {w v : V} {xs : List V} : SetE (b0 :: b1 :: b2 :: b3 :: b4 :: b5 :: b6 :: w :: xs) 7 v (b0 :: b1 :: b2 :: b3 :: b4 :: b5 :: b6 :: v :: xs) := ⟨7, ixN_at (j := 7) rfl (by simp only [List.length_cons]; omega), rfl⟩
instance seto7 {b0 b1 b2 b3 b4 b5 b6 : Option V} {w : Option V} {σ : L2.St} : SetO (b0 :: b1 :: b2 :: b3 :: b4 :: b5 :: b6 :: w :: σ) 7 (b0 :: b1 :: b2 :: b3 :: b4 :: b5 :: b6 :: none :: σ) := ⟨rfl⟩
instance len7 {α : Type} {b0 b1 b2 b3 b4 b5 b6 : α} : LenE (α := α) [b0, b1, b2, b3, b4, b5, b6] 7 := ⟨rfl⟩
instance at8 {b0 b1 b2 b3 b4 b5 b6 b7 : V} {v : V} {xs : List V} : AtE (b0 :: b1 :: b2 :: b3 :: b4 :: b5 :: b6 :: b7 :: v :: xs) 8 v := ⟨atI_at (j := 8) rfl rfl⟩
instance set8 {b0 b1 b2 b3 b4 b5 b6 b7 : V} {w v : V} {xs : List V} : SetE (b0 :: b1 :: b2 :: b3 :: b4 :: b5 :: b6 :: b7 :: w :: xs) 8 v (b0 :: b1 :: b2 :: b3 :: b4 :: b5 :: b6 :: b7 :: v :: xs) := ⟨8, ixN_at (j := 8) rfl (by simp only [List.length_cons]; omega), rfl⟩
instance seto8 {b0 b1 b2 b3 b4 b5 b6 b7 : Option V} {w : Option V} {σ : L2.St} : SetO (b0 :: b1 :: b2 :: b3 :: b4 :: b5 :: b6 :: b7 :: w :: σ) 8 (b0 :: b1 :: b2 :: b3 :: b4 :: b5 :: b6 :: b7 :: none :: σ) := ⟨rfl⟩
instance len8 {α : Type} {b0 b1 b2 b3 b4 b5 b6 b7 : α} : LenE (α := α) [b0, b1, b2, b3, b4, b5, b6, b7] 8 := ⟨rfl⟩
instance at9 {b0 b1 b2 b3 b4 b5 b6 b7 b8 : V} {v : V} {xs : List V} : AtE (b0 :: b1 :: b2 :: b3 :: b4 :: b5 :: b6 :: b7 :: b8 :: v :: xs) 9 v := ⟨atI_at (j := 9) rfl rfl⟩
instance set9 {b0 b1 b2 b3 b4 b5 b6 b7 b8 : V} {w v : V} {xs : List V} : SetE (b0 :: b1 :: b2 :: b3 :: b4 :: b5 :: b6 :: b7 :: b8 :: w :: xs) 9 v (b0 :: b1 :: b2 :: b3 :: b4 :: b5 :: b6 :: b7 :: b8 :: v :: xs) := ⟨9, ixN_at (j := 9) rfl (by simp only [List.length_cons]; omega), rfl⟩
instance seto9 {b0 b1 b2 b3 b4 b5 b6 b7 b8 : Option V} {w : Option V} {σ : L2.St} : SetO (b0 :: b1 :: b2 :: b3 :: b4 :: b5 :: b6 :: b7 :: b8 :: w :: σ) 9 (b0 :: b1 :: b2 :: b3 :: b4 :: b5 :: b6 :: b7 :: b8 :: none :: σ) := ⟨rfl⟩
instance len9 {α : Type} {b0 b1 b2 b3 b4 b5 b6 b7 b8 : α} : LenE (α := α) [b0, b1, b2, b3, b4, b5, b6, b7, b8] 9 := ⟨rfl⟩
instance at10 {b0 b1 b2 b3 b4 b5 b6 b7 b8 b9 : V} {v : V} {xs : List V} : AtE (b0 :: b1 :: b2 :: b3 :: b4 :: b5 :: b6 :: b7 :: b8 :: b9 :: v :: xs) 10 v := ⟨atI_at (j := 10) rfl rfl⟩
instance set10 {b0 b1 b2 b3 b4 b5 b6 b7 b8 b9 : V} {w v : V} {xs : List V} : SetE (b0 :: b1 :: b2 :: b3 :: b4 :: b5 :: b6 :: b7 :: b8 :: b9 :: w :: xs) 10 v (b0 :: b1 :: b2 :: b3 :: b4 :: b5 :: b6 :: b7 :: b8 :: b9 :: v :: xs) := ⟨10, ixN_at (j := 10) rfl (by simp only [List.length_cons]; omega), rfl⟩
instance seto10 {b0 b1 b2 b3 b4 b5 b6 b7 b8 b9 : Option V} {w : Option V} {σ : L2.St} : SetO (b0 :: b1 :: b2 :: b3 :: b4 :: b5 :: b6 :: b7 :: b8 :: b9 :: w :: σ) 10 (b0 :: b1 :: b2 :: b3 :: b4 :: b5 :: b6 :: b7 :: b8 :: b9 :: none :: σ) := ⟨rfl⟩
instance len10 {α : Type} {b0 b1 b2 b3 b4 b5 b6 b7 b8 b9 : α} : LenE (α := α) [b0, b1, b2, b3, b4, b5, b6, b7, b8, b9] 10 := ⟨rfl⟩
instance at11 {b0 b1 b2 b3 b4 b5 b6 b7 b8 b9 b10 : V} {v : V} {xs : List V} : AtE (b0 :: b1 :: b2 :: b3 :: b4 :: b5 :: b6 :: b7 :: b8 :: b9 :: b10 :: v :: xs) 11 v := ⟨atI_at (j := 11) rfl rfl⟩
instance set11 {b0 b1 b2 b3 b4 b5 b6 b7 b8 b9 b10 : V} {w v : V} {xs : List V} : SetE (b0 :: b1 :: b2 :: b3 :: b4 :: b5 :: b6 :: b7 :: b8 :: b9 :: b10 :: w :: xs) 11 v (b0 :: b1 :: b2 :: b3 :: b4 :: b5 :: b6 :: b7 :: b8 :: b9 :: b10 :: v :: xs) := ⟨11, ixN_at (j := 11) rfl (by simp only [List.length_cons]; omega), rfl⟩
instance seto11 {b0 b1 b2 b3 b4 b5 b6 b7 b8 b9 b10 : Option V} {w : Option V} {σ : L2.St} : SetO (b0 :: b1 :: b2 :: b3 :: b4 :: b5 :: b6 :: b7 :: b8 :: b9 :: b10 :: w :: σ) 11 (b0 :: b1 :: b2 :: b3 :: b4 :: b5 :: b6 :: b7 :: b8 :: b9 :: b10 :: none :: σ) := ⟨rfl⟩
instance len11 {α : Type} {b0 b1 b2 b3 b4 b5 b6 b7 b8 b9 b10 : α} : LenE (α := α) [b0, b1, b2, b3, b4, b5, b6, b7, b8, b9, b10] 11 := ⟨rfl⟩
instance at12 {b0 b1 b2 b3 b4 b5 b6 b7 b8 b9 b10 b11 : V} {v : V} {xs : List V} : AtE (b0 :: b1 :: b2 :: b3 :: b4 :: b5 :: b6 :: b7 :: b8 :: b9 :: b10 :: b11 :: v :: xs) 12 v := ⟨atI_at (j := 12) rfl rfl⟩
instance set12 {b0 b1 b2 b3 b4 b5 b6 b7 b8 b9 b10 b11 : V} {w v : V} {xs : List V} : SetE (b0 :: b1 :: b2 :: b3 :: b4 :: b5 :: b6 :: b7 :: b8 :: b9 :: b10 :: b11 :: w :: xs) 12 v (b0 :: b1 :: b2 :: b3 :: b4 :: b5 :: b6 :: b7 :: b8 :: b9 :: b10 :: b11 :: v :: xs) := ⟨12, ixN_at (j := 12) rfl (by simp only [List.length_cons]; omega), rfl⟩
instance seto12 {b0 b1 b2 b3 b4 b5 b6 b7 b8 b9 b10 b11 : Option V} {w : Option V} {σ : L2.St} : SetO (b0 :: b1 :: b2 :: b3 :: b4 :: b5 :: b6 :: b7 :: b8 :: b9 :: b10 :: b11 :: w :: σ) 12 (b0 :: b1 :: b2 :: b3 :: b4 :: b5 :: b6 :: b7 :: b8 :: b9 :: b10 :: b11 :: none :: σ) := ⟨rfl⟩
instance len12 {α : Type} {b0 b1 b2 b3 b4 b5 b6 b7 b8 b9 b10 b11 : α} : LenE (α := α) [b0, b1, b2, b3, b4, b5, b6, b7, b8, b9, b10, b11] 12 := ⟨rfl⟩
instance at13 {b0 b1 b2 b3 b4 b5 b6 b7 b8 b9 b10 b11 b12 : V} {v : V} {xs : List V} : AtE (b0 :: b1 :: b2 :: b3 :: b4 :: b5 :: b6 :: b7 :: b8 :: b9 :: b10 :: b11 :: b12 :: v :: xs) 13 v := ⟨atI_at (j := 13) rfl rfl⟩
instance set13 {b0 b1 b2 b3 b4 b5 b6 b7 b8 b9 b10 b11 b12 : V} {w v : V} {xs : List V} : SetE (b0 :: b1 :: b2 :: b3 :: b4 :: b5 :: b6 :: b7 :: b8 :: b9 :: b10 :: b11 :: b12 :: w :: xs) 13 v (b0 :: b1 :: b2 :: b3 :: b4 :: b5 :: b6 :: b7 :: b8 :: b9 :: b10 :: b11 :: b12 :: v :: xs) := ⟨13, ixN_at (j := 13) rfl (by simp only [List.length_cons]; omega), rfl⟩
instance seto13 {b0 b1 b2 b3 b4 b5 b6 b7 b8 b9 b10 b11 b12 : Option V} {w : Option V} {σ : L2.St} : SetO (b0 :: b1 :: b2 :: b3 :: b4 :: b5 :: b6 :: b7 :: b8 :: b9 :: b10 :: b11 :: b12 :: w :: σ) 13 (b0 :: b1 :: b2 :: b3 :: b4 :: b5 :: b6 :: b7 :: b8 :: b9 :: b10 :: b11 :: b12 :: none :: σ) := ⟨rfl⟩
instance len13 {α : Type} {b0 b1 b2 b3 b4 b5 b6 b7 b8 b9 b10 b11 b12 : α} : LenE (α := α) [b0, b1, b2, b3, b4, b5, b6, b7, b8, b9, b10, b11, b12] 13 := ⟨rfl⟩
instance at14 {b0 b1 b2 b3 b4 b5 b6 b7 b8 b9 b10 b11 b12 b13 : V} {v : V} {xs : List V} : AtE (b0 :: b1 :: b2 :: b3 :: b4 :: b5 :: b6 :: b7 :: b8 :: b9 :: b10 :: b11 :: b12 :: b13 :: v :: xs) 14 v := ⟨atI_at (j := 14) rfl rfl⟩
instance set14 {b0 b1 b2 b3 b4 b5 b6 b7 b8 b9 b10 b11 b12 b13 : V} {w v : V} {xs : List V} : SetE (b0 :: b1 :: b2 :: b3 :: b4 :: b5 :: b6 :: b7 :: b8 :: b9 :: b10 :: b11 :: b12 :: b13 :: w :: xs) 14 v (b0 :: b1 :: b2 :: b3 :: b4 :: b5 :: b6 :: b7 :: b8 :: b9 :: b10 :: b11 :: b12 :: b13 :: v :: xs) := ⟨14, ixN_at (j := 14) rfl (by simp only [List.length_cons]; omega), rfl⟩
instance seto14 {b0 b1 b2 b3 b4 b5 b6 b7 b8 b9 b10 b11 b12 b13 : Option V} {w : Option V} {σ : L2.St} : SetO (b0 :: b1 :: b2 :: b3 :: b4 :: b5 :: b6 :: b7 :: b8 :: b9 :: b10 :: b11 :: b12 :: b13 :: w :: σ) 14 (b0 :: b1 :: b2 :: b3 :: b4 :: b5 :: b6 :: b7 :: b8 :: b9 :: b10 :: b11 :: b12 :: b13 :: none :: σ) := ⟨rfl⟩
instance len14 {α : Type} {b0 b1 b2 b3 b4 b5 b6 b7 b8 b9 b10 b11 b12 b13 : α} : LenE (α := α) [b0, b1, b2, b3, b4, b5, b6, b7, b8, b9, b10, b11, b12, b13] 14 := ⟨rfl⟩
instance at15 {b0 b1 b2 b3 b4 b5 b6 b7 b8 b9 b10 b11 b12 b13 b14 : V} {v : V} {xs : List V} : AtE (b0 :: b1 :: b2 :: b3 :: b4 :: b5 :: b6 :: b7 :: b8 :: b9 :: b10 :: b11 :: b12 :: b13 :: b14 :: v :: xs) 15 v := ⟨atI_at (j := 15) rfl rfl⟩
instance set15 {b0 b1 b2 b3 b4 b5 b6 b7 b8 b9 b10 b11 b12 b13 b14 : V} {w v : V} {xs : List V} : SetE (b0 :: b1 :: b2 :: b3 :: b4 :: b5 :: b6 :: b7 :: b8 :: b9 :: b10 :: b11 :: b12 :: b13 :: b14 :: w :: xs) 15 v (b0 :: b1 :: b2 :: b3 :: b4 :: b5 :: b6 :: b7 :: b8 :: b9 :: b10 :: b11 :: b12 :: b13 :: b14 :: v :: xs) := ⟨15, ixN_at (j := 15) rfl (by simp only [List.length_cons]; omega), rfl⟩
instance seto15 {b0 b1 b2 b3 b4 b5 b6 b7 b8 b9 b10 b11 b12 b13 b14 : Option V} {w : Option V} {σ : L2.St} : SetO (b0 :: b1 :: b2 :: b3 :: b4 :: b5 :: b6 :: b7 :: b8 :: b9 :: b10 :: b11 :: b12 :: b13 :: b14 :: w :: σ) 15 (b0 :: b1 :: b2 :: b3 :: b4 :: b5 :: b6 :: b7 :: b8 :: b9 :: b10 :: b11 :: b12 :: b13 :: b14 :: none :: σ) := ⟨rfl⟩
instance len15 {α : Type} {b0 b1 b2 b3 b4 b5 b6 b7 b8 b9 b10 b11 b12 b13 b14 : α} : LenE (α := α) [b0, b1, b2, b3, b4, b5, b6, b7, b8, b9, b10, b11, b12, b13, b14] 15 := ⟨rfl⟩
instance at16 {b0 b1 b2 b3 b4 b5 b6 b7 b8 b9 b10 b11 b12 b13 b14 b15 : V} {v : V} {xs : List V} : AtE (b0 :: b1 :: b2 :: b3 :: b4 :: b5 :: b6 :: b7 :: b8 :: b9 :: b10 :: b11 :: b12 :: b13 :: b14 :: b15 :: v :: xs) 16 v := ⟨atI_at (j := 16) rfl rfl⟩
instance set16 {b0 b1 b2 b3 b4 b5 b6 b7 b8 b9 b10 b11 b12 b13 b14 b15 : V} {w v : V} {xs : List V} : SetE (b0 :: b1 :: b2 :: b3 :: b4 :: b5 :: b6 :: b7 :: b8 :: b9 :: b10 :: b11 :: b12 :: b13 :: b14 :: b15 :: w :: xs) 16 v (b0 :: b1 :: b2 :: b3 :: b4 :: b5 :: b6 :: b7 :: b8 :: b9 :: b10 :: b11 :: b12 :: b13 :: b14 :: b15 :: v :: xs) := ⟨16, ixN_at (j := 16) rfl (by simp only [List.length_cons]; omega), rfl⟩
instance seto16 {b0 b1 b2 b3 b4 b5 b6 b7 b8 b9 b10 b11 b12 b13 b14 b15 : Option V} {w : Option V} {σ : L2.St} : SetO (b0 :: b1 :: b2 :: b3 :: b4 :: b5 :: b6 :: b7 :: b8 :: b9 :: b10 :: b11 :: b12 :: b13 :: b14 :: b15 :: w :: σ) 16 (b0 :: b1 :: b2 :: b3 :: b4 :: b5 :: b6 :: b7 :: b8 :: b9 :: b10 :: b11 :: b12 :: b13 :: b14 :: b15 :: none :: σ) := ⟨rfl⟩
instance len16 {α : Type} {b0 b1 b2 b3 b4 b5 b6 b7 b8 b9 b10 b11 b12 b13 b14 b15 : α} : LenE (α := α) [b0, b1, b2, b3, b4, b5, b6, b7, b8, b9, b10, b11, b12, b13, b14, b15] 16 := ⟨rfl⟩
instance at17 {b0 b1 b2 b3 b4 b5 b6 b7 b8 b9 b10 b11 b12 b13 b14 b15 b16 : V} {v : V} {xs : List V} : AtE (b0 :: b1 :: b2 :: b3 :: b4 :: b5 :: b6 :: b7 :: b8 :: b9 :: b10 :: b11 :: b12 :: b13 :: b14 :: b15 :: b16 :: v :: xs) 17 v := ⟨atI_at (j := 17) rfl rfl⟩
instance set17 {b0 b1 b2 b3 b4 b5 b6 b7 b8 b9 b10 b11 b12 b13 b14 b15 b16 : V} {w v : V} {xs : List V} : SetE (b0 :: b1 :: b2 :: b3 :: b4 :: b5 :: b6 :: b7 :: b8 :: b9 :: b10 :: b11 :: b12 :: b13 :: b14 :: b15 :: b16 :: w :: xs) 17 v (b0 :: b1 :: b2 :: b3 :: b4 :: b5 :: b6 :: b7 :: b8 :: b9 :: b10 :: b11 :: b12 :: b13 :: b14 :: b15 :: b16 :: v :: xs) := ⟨17, ixN_at (j := 17) rfl (by simp only [List.length_cons]; omega), rfl⟩
instance seto17 {b0 b1 b2 b3 b4 b5 b6 b7 b8 b9 b10 b11 b12 b13 b14 b15 b16 : Option V} {w : Option V} {σ : L2.St} : SetO (b0 :: b1 :: b2 :: b3 :: b4 :: b5 :: b6 :: b7 :: b8 :: b9 :: b10 :: b11 :: b12 :: b13 :: b14 :: b15 :: b16 :: w :: σ) 17 (b0 :: b1 :: b2 :: b3 :: b4 :: b5 :: b6 :: b7 :: b8 :: b9 :: b10 :: b11 :: b12 :: b13 :: b14 :: b15 :: b16 :: none :: σ) := ⟨rfl⟩
instance len17 {α : Type} {b0 b1 b2 b3 b4 b5 b6 b7 b8 b9 b10 b11 b12 b13 b14 b15 b16 : α} : LenE (α := α) [b0, b1, b2, b3, b4, b5, b6, b7, b8, b9, b10, b11, b12, b13, b14, b15, b16] 17 := ⟨rfl⟩
instance at18 {b0 b1 b2 b3 b4 b5 b6 b7 b8 b9 b10 b11 b12 b13 b14 b15 b16 b17 : V} {v : V} {xs : List V} : AtE (b0 :: b1 :: b2 :: b3 :: b4 :: b5 :: b6 :: b7 :: b8 :: b9 :: b10 :: b11 :: b12 :: b13 :: b14 :: b15 :: b16 :: b17 :: v :: xs) 18 v := ⟨atI_at (j := 18) rfl rfl⟩
instance set18 {b0 b1 b2 b3 b4 b5 b6 b7 b8 b9 b10 b11 b12 b13 b14 b15 b16 b17 : V} {w v : V} {xs : List V} : SetE (b0 :: b1 :: b2 :: b3 :: b4 :: b5 :: b6 :: b7 :: b8 :: b9 :: b10 :: b11 :: b12 :: b13 :: b14 :: b15 :: b16 :: b17 :: w :: xs) 18 v (b0 :: b1 :: b2 :: b3 :: b4 :: b5 :: b6 :: b7 :: b8 :: b9 :: b10 :: b11 :: b12 :: b13 :: b14 :: b15 :: b16 :: b17 :: v :: xs) := ⟨18, ixN_at (j := 18) rfl (by simp only [List.length_cons]; omega), rfl⟩
instance seto18 {b0 b1 b2 b3 b4 b5 b6 b7 b8 b9 b10 b11 b12 b13 b14 b15 b16 b17 : Option V} {w : Option V} {σ : L2.St} : SetO (b0 :: b1 :: b2 :: b3 :: b4 :: b5 :: b6 :: b7 :: b8 :: b9 :: b10 :: b11 :: b12 :: b13 :: b14 :: b15 :: b16 :: b17 :: w :: σ) 18 (b0 :: b1 :: b2 :: b3 :: b4 :: b5 :: b6 :: b7 :: b8 :: b9 :: b10 :: b11 :: b12 :: b13 :: b14 :: b15 :: b16 :: b17 :: none :: σ) := ⟨rfl⟩
instance len18 {α : Type} {b0 b1 b2 b3 b4 b5 b6 b7 b8 b9 b10 b11 b12 b13 b14 b15 b16 b17 : α} : LenE (α := α) [b0, b1, b2, b3, b4, b5, b6, b7, b8, b9, b10, b11, b12, b13, b14, b15, b16, b17] 18 := ⟨rfl⟩
instance at19 {b0 b1 b2 b3 b4 b5 b6 b7 b8 b9 b10 b11 b12 b13 b14 b15 b16 b17 b18 : V} {v : V} {xs : List V} : AtE (b0 :: b1 :: b2 :: b3 :: b4 :: b5 :: b6 :: b7 :: b8 :: b9 :: b10 :: b11 :: b12 :: b13 :: b14 :: b15 :: b16 :: b17 :: b18 :: v :: xs) 19 v := ⟨atI_at (j := 19) rfl rfl⟩
instance set19 {b0 b1 b2 b3 b4 b5 b6 b7 b8 b9 b10 b11 b12 b13 b14 b15 b16 b17 b18 : V} {w v : V} {xs : List V} : SetE (b0 :: b1 :: b2 :: b3 :: b4 :: b5 :: b6 :: b7 :: b8 :: b9 :: b10 :: b11 :: b12 :: b13 :: b14 :: b15 :: b16 :: b17 :: b18 :: w :: xs) 19 v (b0 :: b1 :: b2 :: b3 :: b4 :: b5 :: b6 :: b7 :: b8 :: b9 :: b10 :: b11 :: b12 :: b13 :: b14 :: b15 :: b16 :: b17 :: b18 :: v :: xs) := ⟨19, ixN_at (j := 19) rfl (by simp only [List.length_cons]; omega), rfl⟩
instance seto19 {b0 b1 b2 b3 b4 b5 b6 b7 b8 b9 b10 b11 b12 b13 b14 b15 b16 b17 b18 : Option V} {w : Option V} {σ : L2.St} : SetO (b0 :: b1 :: b2 :: b3 :: b4 :: b5 :: b6 :: b7 :: b8 :: b9 :: b10 :: b11 :: b12 :: b13 :: b14 :: b15 :: b16 :: b17 :: b18 :: w :: σ) 19 (b0 :: b1 :: b2 :: b3 :: b4 :: b5 :: b6 :: b7 :: b8 :: b9 :: b10 :: b11 :: b12 :: b13 :: b14 :: b15 :: b16 :: b17 :: b18 :: none :: σ) := ⟨rfl⟩
instance len19 {α : Type} {b0 b1 b2 b3 b4 b5 b6 b7 b8 b9 b10 b11 b12 b13 b14 b15 b16 b17 b18 : α} : LenE (α := α) [b0, b1, b2, b3, b4, b5, b6, b7, b8, b9, b10, b11, b12, b13, b14, b15, b16, b17, b18] 19 := ⟨rfl⟩
instance at20 {b0 b1 b2 b3 b4 b5 b6 b7 b8 b9 b10 b11 b12 b13 b14 b15 b16 b17 b18 b19 : V} {v : V} {xs : List V} : AtE (b0 :: b1 :: b2 :: b3 :: b4 :: b5 :: b6 :: b7 :: b8 :: b9 :: b10 :: b11 :: b12 :: b13 :: b14 :: b15 :: b16 :: b17 :: b18 :: b19 :: v :: xs) 20 v := ⟨atI_at (j := 20) rfl rfl⟩
instance set20 {b0 b1 b2 b3 b4 b5 b6 b7 b8 b9 b10 b11 b12 b13 b14 b15 b16 b17 b18 b19 : V} {w v : V} {xs : List V} : SetE (b0 :: b1 :: b2 :: b3 :: b4 :: b5 :: b6 :: b7 :: b8 :: b9 :: b10 :: b11 :: b12 :: b13 :: b14 :: b15 :: b16 :: b17 :: b18 :: b19 :: w :: xs) 20 v (b0 :: b1 :: b2 :: b3 :: b4 :: b5 :: b6 :: b7 :: b8 :: b9 :: b10 :: b11 :: b12 :: b13 :: b14 :: b15 :: b16 :: b17 :: b18 :: b19 :: v :: xs) := ⟨20, ixN_at (j := 20) rfl (by simp only [List.length_cons]; omega), rfl⟩
instance seto20 {b0 b1 b2 b3 b4 b5 b6 b7 b8 b9 b10 b11 b12 b13 b14 b15 b16 b17 b18 b19 : Option V} {w : Option V} {σ : L2.St} : SetO (b0 :: b1 :: b2 :: b3 :: b4 :: b5 :: b6 :: b7 :: b8 :: b9 :: b10 :: b11 :: b12 :: b13 :: b14 :: b15 :: b16 :: b17 :: b18 :: b19 :: w :: σ) 20 (b0 :: b1 :: b2 :: b3 :: b4 :: b5 :: b6 :: b7 :: b8 :: b9 :: b10 :: b11 :: b12 :: b13 :: b14 :: b15 :: b16 :: b17 :: b18 :: b19 :: none :: σ) := ⟨rfl⟩
instance len20 {α : Type} {b0 b1 b2 b3 b4 b5 b6 b7 b8 b9 b10 b11 b12 b13 b14 b15 b16 b17 b18 b19 : α} : LenE (α := α) [b0, b1, b2, b3, b4, b5, b6, b7, b8, b9, b10, b11, b12, b13, b14, b15, b16, b17, b18, b19] 20 := ⟨rfl⟩
instance at21 {b0 b1 b2 b3 b4 b5 b6 b7 b8 b9 b10 b11 b12 b13 b14 b15 b16 b17 b18 b19 b20 : V} {v : V} {xs : List V} : AtE (b0 :: b1 :: b2 :: b3 :: b4 :: b5 :: b6 :: b7 :: b8 :: b9 :: b10 :: b11 :: b12 :: b13 :: b14 :: b15 :: b16 :: b17 :: b18 :: b19 :: b20 :: v :: xs) 21 v := ⟨atI_at (j := 21) rfl rfl⟩
instance set21 {b0 b1 b2 b3 b4 b5 b6 b7 b8 b9 b10 b11 b12 b13 b14 b15 b16 b17 b18 b19 b20 : V} {w v : V} {xs : List V} : SetE (b0 :: b1 :: b2 :: b3 :: b4 :: b5 :: b6 :: b7 :: b8 :: b9 :: b10 :: b11 :: b12 :: b13 :: b14 :: b15 :: b16 :: b17 :: b18 :: b19 :: b20 :: w :: xs) 21 v (b0 :: b1 :: b2 :: b3 :: b4 :: b5 :: b6 :: b7 :: b8 :: b9 :: b10 :: b11 :: b12 :: b13 :: b14 :: b15 :: b16 :: b17 :: b18 :: b19 :: b20 :: v :: xs) := ⟨21, ixN_at (j := 21) rfl (by simp only [List.length_cons]; omega), rfl⟩
instance seto21 {b0 b1 b2 b3 b4 b5 b6 b7 b8 b9 b10 b11 b12 b13 b14 b15 b16 b17 b18 b19 b20 : Option V} {w : Option V} {σ : L2.St} : SetO (b0 :: b1 :: b2 :: b3 :: b4 :: b5 :: b6 :: b7 :: b8 :: b9 :: b10 :: b11 :: b12 :: b13 :: b14 :: b15 :: b16 :: b17 :: b18 :: b19 :: b20 :: w :: σ) 21 (b0 :: b1 :: b2 :: b3 :: b4 :: b5 :: b6 :: b7 :: b8 :: b9 :: b10 :: b11 :: b12 :: b13 :: b14 :: b15 :: b16 :: b17 :: b18 :: b19 :: b20 :: none :: σ) := ⟨rfl⟩
instance len21 {α : Type} {b0 b1 b2 b3 b4 b5 b6 b7 b8 b9 b10 b11 b12 b13 b14 b15 b16 b17 b18 b19 b20 : α} : LenE (α := α) [b0, b1, b2, b3, b4, b5, b6, b7, b8, b9, b10, b11, b12, b13, b14, b15, b16, b17, b18, b19, b20] 21 := ⟨rfl⟩
instance at22 {b0 b1 b2 b3 b4 b5 b6 b7 b8 b9 b10 b11 b12 b13 b14 b15 b16 b17 b18 b19 b20 b21 : V} {v : V} {xs : List V} : AtE (b0 :: b1 :: b2 :: b3 :: b4 :: b5 :: b6 :: b7 :: b8 :: b9 :: b10 :: b11 :: b12 :: b13 :: b14 :: b15 :: b16 :: b17 :: b18 :: b19 :: b20 :: b21 :: v :: xs) 22 v := ⟨atI_at (j := 22) rfl rfl⟩
instance set22 {b0 b1 b2 b3 b4 b5 b6 b7 b8 b9 b10 b11 b12 b13 b14 b15 b16 b17 b18 b19 b20 b21 : V} {w v : V} {xs : List V} : SetE (b0 :: b1 :: b2 :: b3 :: b4 :: b5 :: b6 :: b7 :: b8 :: b9 :: b10 :: b11 :: b12 :: b13 :: b14 :: b15 :: b16 :: b17 :: b18 :: b19 :: b20 :: b21 :: w :: xs) 22 v (b0 :: b1 :: b2 :: b3 :: b4 :: b5 :: b6 :: b7 :: b8 :: b9 :: b10 :: b11 :: b12 :: b13 :: b14 :: b15 :: b16 :: b17 :: b18 :: b19 :: b20 :: b21 :: v :: xs) := ⟨22, ixN_at (j := 22) rfl (by simp only [List.length_cons]; omega), rfl⟩
instance seto22 {b0 b1 b2 b3 b4 b5 b6 b7 b8 b9 b10 b11 b12 b13 b14 b15 b16 b17 b18 b19 b20 b21 : Option V} {w : Option V} {σ : L2.St} : SetO (b0 :: b1 :: b2 :: b3 :: b4 :: b5 :: b6 :: b7 :: b8 :: b9 :: b10 :: b11 :: b12 :: b13 :: b14 :: b15 :: b16 :: b17 :: b18 :: b19 :: b20 :: b21 :: w :: σ) 22 (b0 :: b1 :: b2 :: b3 :: b4 :: b5 :: b6 :: b7 :: b8 :: b9 :: b10 :: b11 :: b12 :: b13 :: b14 :: b15 :: b16 :: b17 :: b18 :: b19 :: b20 :: b21 :: none :: σ) := ⟨rfl⟩
instance len22 {α : Type} {b0 b1 b2 b3 b4 b5 b6 b7 b8 b9 b10 b11 b12 b13 b14 b15 b16 b17 b18 b19 b20 b21 : α} : LenE (α := α) [b0, b1, b2, b3, b4, b5, b6, b7, b8, b9, b10, b11, b12, b13, b14, b15, b16, b17, b18, b19, b20, b21] 22 := ⟨rfl⟩
instance at23 {b0 b1 b2 b3 b4 b5 b6 b7 b8 b9 b10 b11 b12 b13 b14 b15 b16 b17 b18 b19 b20 b21 b22 : V} {v : V} {xs : List V} : AtE (b0 :: b1 :: b2 :: b3 :: b4 :: b5 :: b6 :: b7 :: b8 :: b9 :: b10 :: b11 :: b12 :: b13 :: b14 :: b15 :: b16 :: b17 :: b18 :: b19 :: b20 :: b21 :: b22 :: v :: xs) 23 v := ⟨atI_at (j := 23) rfl rfl⟩
instance set23 {b0 b1 b2 b3 b4 b5 b6 b7 b8 b9 b10 b11 b12 b13 b14 b15 b16 b17 b18 b19 b20 b21 b22 : V} {w v : V} {xs : List V} : SetE (b0 :: b1 :: b2 :: b3 :: b4 :: b5 :: b6 :: b7 :: b8 :: b9 :: b10 :: b11 :: b12 :: b13 :: b14 :: b15 :: b16 :: b17 :: b18 :: b19 :: b20 :: b21 :: b22 :: w :: xs) 23 v (b0 :: b1 :: b2 :: b3 :: b4 :: b5 :: b6 :: b7 :: b8 :: b9 :: b10 :: b11 :: b12 :: b13 :: b14 :: b15 :: b16 :: b17 :: b18 :: b19 :: b20 :: b21 :: b22 :: v :: xs) := ⟨23, ixN_at (j := 23) rfl (by simp only [List.length_cons]; omega), rfl⟩
instance seto23 {b0 b1 b2 b3 b4 b5 b6 b7 b8 b9 b10 b11 b12 b13 b14 b15 b16 b17 b18 b19 b20 b21 b22 : Option V} {w : Option V} {σ : L2.St} : SetO (b0 :: b1 :: b2 :: b3 :: b4 :: b5 :: b6 :: b7 :: b8 :: b9 :: b10 :: b11 :: b12 :: b13 :: b14 :: b15 :: b16 :: b17 :: b18 :: b19 :: b20 :: b21 :: b22 :: w :: σ) 23 (b0 :: b1 :: b2 :: b3 :: b4 :: b5 :: b6 :: b7 :: b8 :: b9 :: b10 :: b11 :: b12 :: b13 :: b14 :: b15 :: b16 :: b17 :: b18 :: b19 :: b20 :: b21 :: b22 :: none :: σ) := ⟨rfl⟩
instance len23 {α : Type} {b0 b1 b2 b3 b4 b5 b6 b7 b8 b9 b10 b11 b12 b13 b14 b15 b16 b17 b18 b19 b20 b21 b22 : α} : LenE (α := α) [b0, b1, b2, b3, b4, b5, b6, b7, b8, b9, b10, b11, b12, b13, b14, b15, b16, b17, b18, b19, b20, b21, b22] 23 := ⟨rfl⟩
instance wipe0 {σ : L2.St} : WipeE σ [] σ := ⟨rfl⟩
instance wipe1 {σ σ1 : L2.St} {v : Nat} [a : SetO σ v σ1] : WipeE σ [v] σ1 := ⟨a.e⟩
instance wipe2 {σ σ1 σ2 : L2.St} {v u : Nat} [a : SetO σ u σ1] [b : SetO σ1 v σ2] : WipeE σ [v, u] σ2 := ⟨by show (σ.set u none).set v none = σ2; rw [a.e, b.e]⟩
section
variable {σ : L2.St} {H H' : Hp} {Q : VK} {QB : Bool → Hp → Prop} {QL : List V → Hp → Prop} {QO : Option Int → Hp → Prop} {QS : L2.St → Hp → Prop} {te ta tb tc : TE} {t u : TT} {tl : TA} {r r' : R2} {rc : List V → Hp → VK → Prop} {s1 s2 : TS} {nx bk ct : K0} {rt : VK} {v x y : V} {g : TG} {i j : Int} {b : Bool} {E : XK} {sp : Sp} {C : Addr} {P : Prop} [Decidable P] {A B : Prop} {S : Sta}
variable {L L' : List Ent} {p q : Addr} {xs : List V} {f : Str} {dx : Addr} {fs : List (Str × V)} {lo hi : Option Int}
variable {Cs : List Addr} {ls : List (Addr × Sp)}
variable {QV : V → Prop} {m : Str} {fs' : List (Str × V)} {ys zs : List V} {k : Nat} {vs : List V}
instance i_op  : St1 (tOp r ta tb σ H Q) (ta σ H fun x H1 => tb σ H1 fun y H2 => r x y H2 Q) := ⟨fun h => x_op h⟩
instance i_c  : St1 (tC v σ H Q) (Q v H) := ⟨fun h => x_c h⟩
instance i_seq  : St1 (tSeq s1 s2 ⟨nx, rt, bk, ct⟩ σ H) (s1 ⟨s2 ⟨nx, rt, bk, ct⟩, rt, bk, ct⟩ σ H) := ⟨fun h => x_seq h⟩
instance i_asg  : St1 (tAsg te g ⟨nx, rt, bk, ct⟩ σ H) (te σ H fun x H1 => g x σ H1 nx) := ⟨fun h => x_asg h⟩
instance i_cons  : St1 (tCons ta tl σ H QL) (ta σ H fun x H1 => tl σ H1 fun xs H2 => QL (x :: xs) H2) := ⟨fun h => x_cons h⟩
instance i_nil  : St1 (tNil σ H QL) (QL [] H) := ⟨fun h => x_nil h⟩
instance i_cb  : St1 (tCB rc tl σ H Q) (tl σ H fun vs H1 => rc vs H1 Q) := ⟨fun h => x_cb h⟩
instance i_ifS  : St1 (tIfS t s1 s2 ⟨nx, rt, bk, ct⟩ σ H) (t σ H fun b H1 => if b = true then s1 ⟨nx, rt, bk, ct⟩ σ H1 else s2 ⟨nx, rt, bk, ct⟩ σ H1) := ⟨fun h => x_ifS h⟩
instance i_iteT  : St1 (if true = true then A else B) (A) := ⟨fun h => x_iteT h⟩
instance i_iteF  : St1 (if false = true then A else B) (B) := ⟨fun h => x_iteF h⟩
instance i_next  : St1 (tNext ⟨nx, rt, bk, ct⟩ σ H) (nx σ H) := ⟨fun h => x_next h⟩
instance i_ret  : St1 (tRet te ⟨nx, rt, bk, ct⟩ σ H) (te σ H rt) := ⟨fun h => x_ret h⟩
instance i_add  : St1 (rAdd (.int i) (.int j) H Q) (Q (.int (i + j)) H) := ⟨fun h => x_add h⟩
instance i_sub  : St1 (rSub (.int i) (.int j) H Q) (Q (.int (i - j)) H) := ⟨fun h => x_sub h⟩
instance i_eqI  : St1 (rEq (.int i) (.int j) H Q) (Q (.bl (decide (i = j))) H) := ⟨fun h => x_eqI h⟩
instance i_eqB {a b : Bool} : St1 (rEq (.bl a) (.bl b) H Q) (Q (.bl (decide (a = b))) H) := ⟨fun h => x_eqB h⟩
instance i_eqS {a b : Str} : St1 (rEq (.str a) (.str b) H Q) (Q (.bl (decide (a = b))) H) := ⟨fun h => x_eqS h⟩
instance i_neI  : St1 (rNe (.int i) (.int j) H Q) (Q (.bl (decide (i ≠ j))) H) := ⟨fun h => x_neI h⟩
instance i_neB {a b : Bool} : St1 (rNe (.bl a) (.bl b) H Q) (Q (.bl (decide (a ≠ b))) H) := ⟨fun h => x_neB h⟩
instance i_neS {a b : Str} : St1 (rNe (.str a) (.str b) H Q) (Q (.bl (decide (a ≠ b))) H) := ⟨fun h => x_neS h⟩
instance i_eqPI  : St1 (rEqP S (.int i) (.int j) H Q) (Q (.bl (decide (i = j))) H) := ⟨fun h => x_eqPI h⟩
instance i_eqPB {a b : Bool} : St1 (rEqP S (.bl a) (.bl b) H Q) (Q (.bl (decide (a = b))) H) := ⟨fun h => x_eqPB h⟩
instance i_nePI  : St1 (rNeP S (.int i) (.int j) H Q) (Q (.bl (decide (i ≠ j))) H) := ⟨fun h => x_nePI h⟩
instance i_nePB {a b : Bool} : St1 (rNeP S (.bl a) (.bl b) H Q) (Q (.bl (decide (a ≠ b))) H) := ⟨fun h => x_nePB h⟩
instance i_eqPSs {a : Str} : St1 (rEqP S (.str a) (.str a) H Q) (Q (.bl true) H) := ⟨fun h => x_eqPSs h⟩
instance i_nePSs {a : Str} : St1 (rNeP S (.str a) (.str a) H Q) (Q (.bl false) H) := ⟨fun h => x_nePSs h⟩
instance i_isN  : St1 (rIs .non .non H Q) (Q (.bl true) H) := ⟨fun h => x_isN h⟩
instance i_isI  : St1 (rIs (.int i) .non H Q) (Q (.bl false) H) := ⟨fun h => x_isI h⟩
instance i_isR  : St1 (rIs (.ref C) .non H Q) (Q (.bl false) H) := ⟨fun h => x_isR h⟩
instance i_isB  : St1 (rIs (.bl b) .non H Q) (Q (.bl false) H) := ⟨fun h => x_isB h⟩
instance i_isnN  : St1 (rIsNot .non .non H Q) (Q (.bl false) H) := ⟨fun h => x_isnN h⟩
instance i_isnI  : St1 (rIsNot (.int i) .non H Q) (Q (.bl true) H) := ⟨fun h => x_isnI h⟩
instance i_isnR  : St1 (rIsNot (.ref C) .non H Q) (Q (.bl true) H) := ⟨fun h => x_isnR h⟩
instance i_isnB  : St1 (rIsNot (.bl b) .non H Q) (Q (.bl true) H) := ⟨fun h => x_isnB h⟩
instance i_lt  : St1 (rLt (.int i) (.int j) H Q) (Q (.bl (decide (i < j))) H) := ⟨fun h => x_lt h⟩
instance i_le  : St1 (rLe (.int i) (.int j) H Q) (Q (.bl (decide (i ≤ j))) H) := ⟨fun h => x_le h⟩
instance i_gt  : St1 (rGt (.int i) (.int j) H Q) (Q (.bl (decide (j < i))) H) := ⟨fun h => x_gt h⟩
instance i_ge  : St1 (rGe (.int i) (.int j) H Q) (Q (.bl (decide (j ≤ i))) H) := ⟨fun h => x_ge h⟩
instance i_intI  : St1 (rInt [.int i] H Q) (Q (.int i) H) := ⟨fun h => x_intI h⟩
instance i_and  : St1 (tAnd t u σ H QB) (t σ H fun c H1 => if c = true then u σ H1 QB else QB false H1) := ⟨fun h => x_and h⟩
instance i_or  : St1 (tOr t u σ H QB) (t σ H fun c H1 => if c = true then QB true H1 else u σ H1 QB) := ⟨fun h => x_or h⟩
instance i_con  : St1 (eCon v σ H Q) (Q v H) := ⟨fun h => x_con h⟩
instance i_gsub {to ti : TE} {ts : TSet} : St1 (gSub to ti ts v σ H QS) (to σ H fun o H1 => ti σ H1 fun i H2 => ts o i v H2 fun H3 => QS σ H3) := ⟨fun h => x_gsub h⟩
instance i_lst  : St1 (tLst tl σ H Q) (tl σ H fun xs H1 => Klst xs H1 Q) := ⟨fun h => x_lst h⟩
instance i_tup  : St1 (tTup tl σ H Q) (tl σ H fun xs H1 => Ktup xs H1 Q) := ⟨fun h => x_tup h⟩
instance i_drop  : St1 (tDrop te ⟨nx, rt, bk, ct⟩ σ H) (te σ H fun _ H1 => nx σ H1) := ⟨fun h => x_drop h⟩
instance i_tIf  : St1 (tIf t ta tb σ H Q) (t σ H fun c H1 => if c = true then ta σ H1 Q else tb σ H1 Q) := ⟨fun h => x_tIf h⟩
instance i_un {ru : V → Hp → VK → Prop} : St1 (tUn ru ta σ H Q) (ta σ H fun x H1 => ru x H1 Q) := ⟨fun h => x_un h⟩
instance i_retN  : St1 (tRetN ⟨nx, rt, bk, ct⟩ σ H) (rt .non H) := ⟨fun h => x_retN h⟩
instance i_brk  : St1 (tBreak ⟨nx, rt, bk, ct⟩ σ H) (bk σ H) := ⟨fun h => x_brk h⟩
instance i_cont  : St1 (tCont ⟨nx, rt, bk, ct⟩ σ H) (ct σ H) := ⟨fun h => x_cont h⟩
instance i_cmeth  : St1 (ClX.tCMeth C sp E (eCon (.ref C)) tl σ H Q) (tl σ H fun vs H2 => sp (.ref C :: vs) H2 Q E) := ⟨fun h => x_cmeth h⟩
instance i_sl {tlo thi : TO} {rs : V → Option Int → Option Int → Hp → VK → Prop} : St1 (L2.tSl rs te tlo thi σ H Q) (te σ H fun x H1 => tlo σ H1 fun l H2 => thi σ H2 fun u H3 => rs x l u H3 Q) := ⟨fun h => x_sl h⟩
instance i_nopart  : St1 (tNoPart σ H QO) (QO none H) := ⟨fun h => x_nopart h⟩
instance i_niteT  : St1 (if (!true) = true then A else B) (B) := ⟨fun h => x_niteT h⟩
instance i_niteF  : St1 (if (!false) = true then A else B) (A) := ⟨fun h => x_niteF h⟩
instance i_initEnd {B : Prop} : St1 (V.non = .non ∧ B) (B) := ⟨fun h => x_initEnd h⟩
instance i_neg  : St1 (rNeg (.int i) H Q) (Q (.int (-i)) H) := ⟨fun h => x_neg h⟩
instance i_band  : St1 (rAnd (.int i) (.int j) H Q) (Q (.int (Builtin.bitAnd i j)) H) := ⟨fun h => x_band h⟩
instance i_intB  : St1 (rInt [.bl b] H Q) (Q (.int (if b then 1 else 0)) H) := ⟨fun h => x_intB h⟩
instance i_augA  : St1 (rAug (.int i) (.int j) H Q) (Q (.int (i + j)) H) := ⟨fun h => x_augA h⟩
instance i_augS  : St1 (rAugS (.int i) (.int j) H Q) (Q (.int (i - j)) H) := ⟨fun h => x_augS h⟩
instance i_forE  : St1 (sFor S te g s1 ⟨nx, rt, bk, ct⟩ σ H) (te σ H fun x H1 => ForS S g s1 nx rt x σ H1) := ⟨fun h => x_forE h⟩
instance i_lcE {tt : TT} {tel : TE} {vs : List Nat} : St1 (eLc S te g tt tel vs σ H Q) (te σ H fun x H1 => LcS S g tt tel vs Q x σ H1) := ⟨fun h => x_lcE h⟩
instance i_yes  : St1 (tYes σ H QB) (QB true H) := ⟨fun h => x_yes h⟩
instance i_forK0  : St1 (forK g s1 nx bk rt 0 i σ H) (nx σ H) := ⟨fun h => x_forK0 h⟩
instance i_forK {n : Nat} : St1 (forK g s1 nx bk rt (n + 1) i σ H) (g (.int i) σ H fun σ' H' => s1 ⟨forK g s1 nx bk rt n (i + 1), rt, bk, forK g s1 nx bk rt n (i + 1)⟩ σ' H') := ⟨fun h => x_forK h⟩
instance i_chn {tl : TC} : St1 (tChn ta tl σ H Q) (ta σ H fun x H1 => tl σ x H1 Q) := ⟨fun h => x_chn h⟩
instance i_clast  : St1 (cLast r tb σ x H Q) (tb σ H fun y H1 => r x y H1 Q) := ⟨fun h => x_clast h⟩
instance i_bits  : St1 (rBits (.int i) H Q) (Q (.int (Builtin.Int.intBits i : Nat)) H) := ⟨fun h => x_bits h⟩
instance i_forKS {a : Addr} {u : HO} : St1 (forKS S a u g s1 nx bk rt (x :: xs) σ H) (g x σ H fun σ' H' => s1 ⟨fun σ H => RdS S H a u ∧ forKS S a u g s1 nx bk rt xs σ H, rt, bk, fun σ H => RdS S H a u ∧ forKS S a u g s1 nx bk rt xs σ H⟩ σ' H') := ⟨fun h => x_forKS h⟩
instance i_forKS0 {a : Addr} {u : HO} : St1 (forKS S a u g s1 nx bk rt [] σ H) (nx σ H) := ⟨fun h => x_forKS0 h⟩
instance i_lcKS {a D : Addr} {u : HO} {tt : TT} {tel : TE} {vs : List Nat} {σw : L2.St} : St1 (lcKS S a u g tt tel vs σw D Q (x :: xs) H) (g x σw H fun σ2 H2 => wipe σ2 vs = σw ∧ tt σ2 H2 fun b H3 => if b = true then tel σ2 H3 fun z H4 => lcPut D z (fun H => RdS S H a u ∧ lcKS S a u g tt tel vs σw D Q xs H) H4 else RdS S H3 a u ∧ lcKS S a u g tt tel vs σw D Q xs H3) := ⟨fun h => x_lcKS h⟩
instance i_lcKS0 {a D : Addr} {u : HO} {tt : TT} {tel : TE} {vs : List Nat} {σw : L2.St} : St1 (lcKS S a u g tt tel vs σw D Q [] H) (Q (.ref D) H) := ⟨fun h => x_lcKS0 h⟩
instance i_lcR {tt : TT} {tel : TE} {vs : List Nat} : St1 (eLcR none te g tt tel vs σ H Q) (te σ H fun y H1 => LcR g tt tel vs Q y σ H1) := ⟨fun h => x_lcR h⟩
instance i_lcKR {D : Addr} {tt : TT} {tel : TE} {vs : List Nat} {σw : L2.St} : St1 (lcKR g tt tel vs σw D Q (x :: xs) H) (g x σw H fun σ2 H2 => wipe σ2 vs = σw ∧ tt σ2 H2 fun b H3 => if b = true then tel σ2 H3 fun z H4 => lcPut D z (fun H => lcKR g tt tel vs σw D Q xs H) H4 else lcKR g tt tel vs σw D Q xs H3) := ⟨fun h => x_lcKR h⟩
instance i_lcKR0 {D : Addr} {tt : TT} {tel : TE} {vs : List Nat} {σw : L2.St} : St1 (lcKR g tt tel vs σw D Q [] H) (Q (.ref D) H) := ⟨fun h => x_lcKR0 h⟩
instance i_abs  : St1 (rAbs [.int i] H Q) (Q (.int (if i < 0 then -i else i)) H) := ⟨fun h => x_abs h⟩
instance i_min2  : St1 (rMin2 [.int i, .int j] H Q) (Q (.int (min i j)) H) := ⟨fun h => x_min2 h⟩
instance i_min3 {k : Int} : St1 (rMin3 [.int i, .int j, .int k] H Q) (Q (.int (min (min i j) k)) H) := ⟨fun h => x_min3 h⟩
instance i_max2  : St1 (rMax2 [.int i, .int j] H Q) (Q (.int (max i j)) H) := ⟨fun h => x_max2 h⟩
instance i_inAdd  : St1 (rInAdd (.int i) (.int j) H Q) (Q (.int (i + j)) H) := ⟨fun h => x_inAdd h⟩
instance i_inSub  : St1 (rInSub (.int i) (.int j) H Q) (Q (.int (i - j)) H) := ⟨fun h => x_inSub h⟩
instance i_augSub {to ti : TE} {tg : V → V → Hp → VK → Prop} {tp : TIp} {ts : TSet} : St1 (tAugS to ti te tg tp ts ⟨nx, rt, bk, ct⟩ σ H) (to σ H fun o H1 => ti σ H1 fun i H2 => tg o i H2 fun x H3 => te σ H3 fun y H4 => tp x y H4 fun z H5 => ts o i z H5 fun H6 => nx σ H6) := ⟨fun h => x_augSub h⟩
instance i_raise {C : Addr} {fs : List Str} {D : Ends} : St1 (sRaise E (tMkC C fs tl) D σ H) (tl σ H fun vs H1 => KmkC C fs E vs H1) := ⟨fun h => x_raise h⟩
instance i_raiseS {C : Addr} {fs : List Str} {D : Ends} {W : WX} : St1 (sRaiseS W (tMkC C fs tl) D σ H) (tl σ H fun vs H1 => KmkC C fs (WE W σ) vs H1) := ⟨fun h => x_raiseS h⟩
instance i_try {tab : List (Value × Nat)} {cl : List Sui} {tw : WX → TS} : St1 (sTry tab cl tw ⟨nx, rt, bk, ct⟩ σ H) (tw (wT tab cl ⟨nx, rt, bk, ct⟩) ⟨nx, rt, bk, ct⟩ σ H) := ⟨fun h => x_try h⟩
instance i_cS {ES : L2.St → XK} : St1 (tCS sp ES tl σ H Q) (tl σ H fun vs H1 => sp vs H1 Q (ES σ)) := ⟨fun h => x_cS h⟩
instance i_newS {ES : L2.St → XK} : St1 (tNewS C sp ES tl σ H Q) (tl σ H fun vs H1 => KnewS C sp vs H1 Q (ES σ)) := ⟨fun h => x_newS h⟩
instance i_whB {W : Nat → L2.St → Hp → Prop} {m : Nat} : St1 (WhB W m s1 nx rt σ H) (s1 ⟨WhN W m, rt, nx, WhN W m⟩ σ H) := ⟨fun h => x_whB h⟩
instance i_raw {vs : List V} : St1 (spRaw sp vs H Q E) (sp vs H Q E) := ⟨fun h => x_raw h⟩
instance i_v0 {σ : L2.St} : St1 (tVar 0 (some v :: σ) H Q) (Q v H) := ⟨fun h => x_v0 h⟩
instance i_v1 {a0 : Option V} {σ : L2.St} : St1 (tVar 1 (a0 :: some v :: σ) H Q) (Q v H) := ⟨fun h => x_v1 h⟩
instance i_v2 {a0 a1 : Option V} {σ : L2.St} : St1 (tVar 2 (a0 :: a1 :: some v :: σ) H Q) (Q v H) := ⟨fun h => x_v2 h⟩
instance i_v3 {a0 a1 a2 : Option V} {σ : L2.St} : St1 (tVar 3 (a0 :: a1 :: a2 :: some v :: σ) H Q) (Q v H) := ⟨fun h => x_v3 h⟩
instance i_v4 {a0 a1 a2 a3 : Option V} {σ : L2.St} : St1 (tVar 4 (a0 :: a1 :: a2 :: a3 :: some v :: σ) H Q) (Q v H) := ⟨fun h => x_v4 h⟩
instance i_v5 {a0 a1 a2 a3 a4 : Option V} {σ : L2.St} : St1 (tVar 5 (a0 :: a1 :: a2 :: a3 :: a4 :: some v :: σ) H Q) (Q v H) := ⟨fun h => x_v5 h⟩
instance i_v6 {a0 a1 a2 a3 a4 a5 : Option V} {σ : L2.St} : St1 (tVar 6 (a0 :: a1 :: a2 :: a3 :: a4 :: a5 :: some v :: σ) H Q) (Q v H) := ⟨fun h => x_v6 h⟩
instance i_v7 {a0 a1 a2 a3 a4 a5 a6 : Option V} {σ : L2.St} : St1 (tVar 7 (a0 :: a1 :: a2 :: a3 :: a4 :: a5 :: a6 :: some v :: σ) H Q) (Q v H) := ⟨fun h => x_v7 h⟩
instance i_v8 {a0 a1 a2 a3 a4 a5 a6 a7 : Option V} {σ : L2.St} : St1 (tVar 8 (a0 :: a1 :: a2 :: a3 :: a4 :: a5 :: a6 :: a7 :: some v :: σ) H Q) (Q v H) := ⟨fun h => x_v8 h⟩
instance i_v9 {a0 a1 a2 a3 a4 a5 a6 a7 a8 : Option V} {σ : L2.St} : St1 (tVar 9 (a0 :: a1 :: a2 :: a3 :: a4 :: a5 :: a6 :: a7 :: a8 :: some v :: σ) H Q) (Q v H) := ⟨fun h => x_v9 h⟩
instance i_v10 {a0 a1 a2 a3 a4 a5 a6 a7 a8 a9 : Option V} {σ : L2.St} : St1 (tVar 10 (a0 :: a1 :: a2 :: a3 :: a4 :: a5 :: a6 :: a7 :: a8 :: a9 :: some v :: σ) H Q) (Q v H) := ⟨fun h => x_v10 h⟩
instance i_v11 {a0 a1 a2 a3 a4 a5 a6 a7 a8 a9 a10 : Option V} {σ : L2.St} : St1 (tVar 11 (a0 :: a1 :: a2 :: a3 :: a4 :: a5 :: a6 :: a7 :: a8 :: a9 :: a10 :: some v :: σ) H Q) (Q v H) := ⟨fun h => x_v11 h⟩
instance i_v12 {a0 a1 a2 a3 a4 a5 a6 a7 a8 a9 a10 a11 : Option V} {σ : L2.St} : St1 (tVar 12 (a0 :: a1 :: a2 :: a3 :: a4 :: a5 :: a6 :: a7 :: a8 :: a9 :: a10 :: a11 :: some v :: σ) H Q) (Q v H) := ⟨fun h => x_v12 h⟩
instance i_v13 {a0 a1 a2 a3 a4 a5 a6 a7 a8 a9 a10 a11 a12 : Option V} {σ : L2.St} : St1 (tVar 13 (a0 :: a1 :: a2 :: a3 :: a4 :: a5 :: a6 :: a7 :: a8 :: a9 :: a10 :: a11 :: a12 :: some v :: σ) H Q) (Q v H) := ⟨fun h => x_v13 h⟩
instance i_v14 {a0 a1 a2 a3 a4 a5 a6 a7 a8 a9 a10 a11 a12 a13 : Option V} {σ : L2.St} : St1 (tVar 14 (a0 :: a1 :: a2 :: a3 :: a4 :: a5 :: a6 :: a7 :: a8 :: a9 :: a10 :: a11 :: a12 :: a13 :: some v :: σ) H Q) (Q v H) := ⟨fun h => x_v14 h⟩
instance i_v15 {a0 a1 a2 a3 a4 a5 a6 a7 a8 a9 a10 a11 a12 a13 a14 : Option V} {σ : L2.St} : St1 (tVar 15 (a0 :: a1 :: a2 :: a3 :: a4 :: a5 :: a6 :: a7 :: a8 :: a9 :: a10 :: a11 :: a12 :: a13 :: a14 :: some v :: σ) H Q) (Q v H) := ⟨fun h => x_v15 h⟩
instance i_v16 {a0 a1 a2 a3 a4 a5 a6 a7 a8 a9 a10 a11 a12 a13 a14 a15 : Option V} {σ : L2.St} : St1 (tVar 16 (a0 :: a1 :: a2 :: a3 :: a4 :: a5 :: a6 :: a7 :: a8 :: a9 :: a10 :: a11 :: a12 :: a13 :: a14 :: a15 :: some v :: σ) H Q) (Q v H) := ⟨fun h => x_v16 h⟩
instance i_v17 {a0 a1 a2 a3 a4 a5 a6 a7 a8 a9 a10 a11 a12 a13 a14 a15 a16 : Option V} {σ : L2.St} : St1 (tVar 17 (a0 :: a1 :: a2 :: a3 :: a4 :: a5 :: a6 :: a7 :: a8 :: a9 :: a10 :: a11 :: a12 :: a13 :: a14 :: a15 :: a16 :: some v :: σ) H Q) (Q v H) := ⟨fun h => x_v17 h⟩
instance i_v18 {a0 a1 a2 a3 a4 a5 a6 a7 a8 a9 a10 a11 a12 a13 a14 a15 a16 a17 : Option V} {σ : L2.St} : St1 (tVar 18 (a0 :: a1 :: a2 :: a3 :: a4 :: a5 :: a6 :: a7 :: a8 :: a9 :: a10 :: a11 :: a12 :: a13 :: a14 :: a15 :: a16 :: a17 :: some v :: σ) H Q) (Q v H) := ⟨fun h => x_v18 h⟩
instance i_v19 {a0 a1 a2 a3 a4 a5 a6 a7 a8 a9 a10 a11 a12 a13 a14 a15 a16 a17 a18 : Option V} {σ : L2.St} : St1 (tVar 19 (a0 :: a1 :: a2 :: a3 :: a4 :: a5 :: a6 :: a7 :: a8 :: a9 :: a10 :: a11 :: a12 :: a13 :: a14 :: a15 :: a16 :: a17 :: a18 :: some v :: σ) H Q) (Q v H) := ⟨fun h => x_v19 h⟩
instance i_v20 {a0 a1 a2 a3 a4 a5 a6 a7 a8 a9 a10 a11 a12 a13 a14 a15 a16 a17 a18 a19 : Option V} {σ : L2.St} : St1 (tVar 20 (a0 :: a1 :: a2 :: a3 :: a4 :: a5 :: a6 :: a7 :: a8 :: a9 :: a10 :: a11 :: a12 :: a13 :: a14 :: a15 :: a16 :: a17 :: a18 :: a19 :: some v :: σ) H Q) (Q v H) := ⟨fun h => x_v20 h⟩
instance i_v21 {a0 a1 a2 a3 a4 a5 a6 a7 a8 a9 a10 a11 a12 a13 a14 a15 a16 a17 a18 a19 a20 : Option V} {σ : L2.St} : St1 (tVar 21 (a0 :: a1 :: a2 :: a3 :: a4 :: a5 :: a6 :: a7 :: a8 :: a9 :: a10 :: a11 :: a12 :: a13 :: a14 :: a15 :: a16 :: a17 :: a18 :: a19 :: a20 :: some v :: σ) H Q) (Q v H) := ⟨fun h => x_v21 h⟩
instance i_v22 {a0 a1 a2 a3 a4 a5 a6 a7 a8 a9 a10 a11 a12 a13 a14 a15 a16 a17 a18 a19 a20 a21 : Option V} {σ : L2.St} : St1 (tVar 22 (a0 :: a1 :: a2 :: a3 :: a4 :: a5 :: a6 :: a7 :: a8 :: a9 :: a10 :: a11 :: a12 :: a13 :: a14 :: a15 :: a16 :: a17 :: a18 :: a19 :: a20 :: a21 :: some v :: σ) H Q) (Q v H) := ⟨fun h => x_v22 h⟩
instance i_v23 {a0 a1 a2 a3 a4 a5 a6 a7 a8 a9 a10 a11 a12 a13 a14 a15 a16 a17 a18 a19 a20 a21 a22 : Option V} {σ : L2.St} : St1 (tVar 23 (a0 :: a1 :: a2 :: a3 :: a4 :: a5 :: a6 :: a7 :: a8 :: a9 :: a10 :: a11 :: a12 :: a13 :: a14 :: a15 :: a16 :: a17 :: a18 :: a19 :: a20 :: a21 :: a22 :: some v :: σ) H Q) (Q v H) := ⟨fun h => x_v23 h⟩
instance i_g0 {x : Option V} {σ : L2.St} : St1 (gName 0 v (x :: σ) H QS) (QS (some v :: σ) H) := ⟨fun h => x_g0 h⟩
instance i_g1 {a0 : Option V} {x : Option V} {σ : L2.St} : St1 (gName 1 v (a0 :: x :: σ) H QS) (QS (a0 :: some v :: σ) H) := ⟨fun h => x_g1 h⟩
instance i_g2 {a0 a1 : Option V} {x : Option V} {σ : L2.St} : St1 (gName 2 v (a0 :: a1 :: x :: σ) H QS) (QS (a0 :: a1 :: some v :: σ) H) := ⟨fun h => x_g2 h⟩
instance i_g3 {a0 a1 a2 : Option V} {x : Option V} {σ : L2.St} : St1 (gName 3 v (a0 :: a1 :: a2 :: x :: σ) H QS) (QS (a0 :: a1 :: a2 :: some v :: σ) H) := ⟨fun h => x_g3 h⟩
instance i_g4 {a0 a1 a2 a3 : Option V} {x : Option V} {σ : L2.St} : St1 (gName 4 v (a0 :: a1 :: a2 :: a3 :: x :: σ) H QS) (QS (a0 :: a1 :: a2 :: a3 :: some v :: σ) H) := ⟨fun h => x_g4 h⟩
instance i_g5 {a0 a1 a2 a3 a4 : Option V} {x : Option V} {σ : L2.St} : St1 (gName 5 v (a0 :: a1 :: a2 :: a3 :: a4 :: x :: σ) H QS) (QS (a0 :: a1 :: a2 :: a3 :: a4 :: some v :: σ) H) := ⟨fun h => x_g5 h⟩
instance i_g6 {a0 a1 a2 a3 a4 a5 : Option V} {x : Option V} {σ : L2.St} : St1 (gName 6 v (a0 :: a1 :: a2 :: a3 :: a4 :: a5 :: x :: σ) H QS) (QS (a0 :: a1 :: a2 :: a3 :: a4 :: a5 :: some v :: σ) H) := ⟨fun h => x_g6 h⟩
instance i_g7 {a0 a1 a2 a3 a4 a5 a6 : Option V} {x : Option V} {σ : L2.St} : St1 (gName 7 v (a0 :: a1 :: a2 :: a3 :: a4 :: a5 :: a6 :: x :: σ) H QS) (QS (a0 :: a1 :: a2 :: a3 :: a4 :: a5 :: a6 :: some v :: σ) H) := ⟨fun h => x_g7 h⟩
instance i_g8 {a0 a1 a2 a3 a4 a5 a6 a7 : Option V} {x : Option V} {σ : L2.St} : St1 (gName 8 v (a0 :: a1 :: a2 :: a3 :: a4 :: a5 :: a6 :: a7 :: x :: σ) H QS) (QS (a0 :: a1 :: a2 :: a3 :: a4 :: a5 :: a6 :: a7 :: some v :: σ) H) := ⟨fun h => x_g8 h⟩
instance i_g9 {a0 a1 a2 a3 a4 a5 a6 a7 a8 : Option V} {x : Option V} {σ : L2.St} : St1 (gName 9 v (a0 :: a1 :: a2 :: a3 :: a4 :: a5 :: a6 :: a7 :: a8 :: x :: σ) H QS) (QS (a0 :: a1 :: a2 :: a3 :: a4 :: a5 :: a6 :: a7 :: a8 :: some v :: σ) H) := ⟨fun h => x_g9 h⟩
instance i_g10 {a0 a1 a2 a3 a4 a5 a6 a7 a8 a9 : Option V} {x : Option V} {σ : L2.St} : St1 (gName 10 v (a0 :: a1 :: a2 :: a3 :: a4 :: a5 :: a6 :: a7 :: a8 :: a9 :: x :: σ) H QS) (QS (a0 :: a1 :: a2 :: a3 :: a4 :: a5 :: a6 :: a7 :: a8 :: a9 :: some v :: σ) H) := ⟨fun h => x_g10 h⟩
instance i_g11 {a0 a1 a2 a3 a4 a5 a6 a7 a8 a9 a10 : Option V} {x : Option V} {σ : L2.St} : St1 (gName 11 v (a0 :: a1 :: a2 :: a3 :: a4 :: a5 :: a6 :: a7 :: a8 :: a9 :: a10 :: x :: σ) H QS) (QS (a0 :: a1 :: a2 :: a3 :: a4 :: a5 :: a6 :: a7 :: a8 :: a9 :: a10 :: some v :: σ) H) := ⟨fun h => x_g11 h⟩
instance i_g12 {a0 a1 a2 a3 a4 a5 a6 a7 a8 a9 a10 a11 : Option V} {x : Option V} {σ : L2.St} : St1 (gName 12 v (a0 :: a1 :: a2 :: a3 :: a4 :: a5 :: a6 :: a7 :: a8 :: a9 :: a10 :: a11 :: x :: σ) H QS) (QS (a0 :: a1 :: a2 :: a3 :: a4 :: a5 :: a6 :: a7 :: a8 :: a9 :: a10 :: a11 :: some v :: σ) H) := ⟨fun h => x_g12 h⟩
instance i_g13 {a0 a1 a2 a3 a4 a5 a6 a7 a8 a9 a10 a11 a12 : Option V} {x : Option V} {σ : L2.St} : St1 (gName 13 v (a0 :: a1 :: a2 :: a3 :: a4 :: a5 :: a6 :: a7 :: a8 :: a9 :: a10 :: a11 :: a12 :: x :: σ) H QS) (QS (a0 :: a1 :: a2 :: a3 :: a4 :: a5 :: a6 :: a7 :: a8 :: a9 :: a10 :: a11 :: a12 :: some v :: σ) H) := ⟨fun h => x_g13 h⟩
instance i_g14 {a0 a1 a2 a3 a4 a5 a6 a7 a8 a9 a10 a11 a12 a13 : Option V} {x : Option V} {σ : L2.St} : St1 (gName 14 v (a0 :: a1 :: a2 :: a3 :: a4 :: a5 :: a6 :: a7 :: a8 :: a9 :: a10 :: a11 :: a12 :: a13 :: x :: σ) H QS) (QS (a0 :: a1 :: a2 :: a3 :: a4 :: a5 :: a6 :: a7 :: a8 :: a9 :: a10 :: a11 :: a12 :: a13 :: some v :: σ) H) := ⟨fun h => x_g14 h⟩
instance i_g15 {a0 a1 a2 a3 a4 a5 a6 a7 a8 a9 a10 a11 a12 a13 a14 : Option V} {x : Option V} {σ : L2.St} : St1 (gName 15 v (a0 :: a1 :: a2 :: a3 :: a4 :: a5 :: a6 :: a7 :: a8 :: a9 :: a10 :: a11 :: a12 :: a13 :: a14 :: x :: σ) H QS) (QS (a0 :: a1 :: a2 :: a3 :: a4 :: a5 :: a6 :: a7 :: a8 :: a9 :: a10 :: a11 :: a12 :: a13 :: a14 :: some v :: σ) H) := ⟨fun h => x_g15 h⟩
instance i_g16 {a0 a1 a2 a3 a4 a5 a6 a7 a8 a9 a10 a11 a12 a13 a14 a15 : Option V} {x : Option V} {σ : L2.St} : St1 (gName 16 v (a0 :: a1 :: a2 :: a3 :: a4 :: a5 :: a6 :: a7 :: a8 :: a9 :: a10 :: a11 :: a12 :: a13 :: a14 :: a15 :: x :: σ) H QS) (QS (a0 :: a1 :: a2 :: a3 :: a4 :: a5 :: a6 :: a7 :: a8 :: a9 :: a10 :: a11 :: a12 :: a13 :: a14 :: a15 :: some v :: σ) H) := ⟨fun h => x_g16 h⟩
instance i_g17 {a0 a1 a2 a3 a4 a5 a6 a7 a8 a9 a10 a11 a12 a13 a14 a15 a16 : Option V} {x : Option V} {σ : L2.St} : St1 (gName 17 v (a0 :: a1 :: a2 :: a3 :: a4 :: a5 :: a6 :: a7 :: a8 :: a9 :: a10 :: a11 :: a12 :: a13 :: a14 :: a15 :: a16 :: x :: σ) H QS) (QS (a0 :: a1 :: a2 :: a3 :: a4 :: a5 :: a6 :: a7 :: a8 :: a9 :: a10 :: a11 :: a12 :: a13 :: a14 :: a15 :: a16 :: some v :: σ) H) := ⟨fun h => x_g17 h⟩
instance i_g18 {a0 a1 a2 a3 a4 a5 a6 a7 a8 a9 a10 a11 a12 a13 a14 a15 a16 a17 : Option V} {x : Option V} {σ : L2.St} : St1 (gName 18 v (a0 :: a1 :: a2 :: a3 :: a4 :: a5 :: a6 :: a7 :: a8 :: a9 :: a10 :: a11 :: a12 :: a13 :: a14 :: a15 :: a16 :: a17 :: x :: σ) H QS) (QS (a0 :: a1 :: a2 :: a3 :: a4 :: a5 :: a6 :: a7 :: a8 :: a9 :: a10 :: a11 :: a12 :: a13 :: a14 :: a15 :: a16 :: a17 :: some v :: σ) H) := ⟨fun h => x_g18 h⟩
instance i_g19 {a0 a1 a2 a3 a4 a5 a6 a7 a8 a9 a10 a11 a12 a13 a14 a15 a16 a17 a18 : Option V} {x : Option V} {σ : L2.St} : St1 (gName 19 v (a0 :: a1 :: a2 :: a3 :: a4 :: a5 :: a6 :: a7 :: a8 :: a9 :: a10 :: a11 :: a12 :: a13 :: a14 :: a15 :: a16 :: a17 :: a18 :: x :: σ) H QS) (QS (a0 :: a1 :: a2 :: a3 :: a4 :: a5 :: a6 :: a7 :: a8 :: a9 :: a10 :: a11 :: a12 :: a13 :: a14 :: a15 :: a16 :: a17 :: a18 :: some v :: σ) H) := ⟨fun h => x_g19 h⟩
instance i_g20 {a0 a1 a2 a3 a4 a5 a6 a7 a8 a9 a10 a11 a12 a13 a14 a15 a16 a17 a18 a19 : Option V} {x : Option V} {σ : L2.St} : St1 (gName 20 v (a0 :: a1 :: a2 :: a3 :: a4 :: a5 :: a6 :: a7 :: a8 :: a9 :: a10 :: a11 :: a12 :: a13 :: a14 :: a15 :: a16 :: a17 :: a18 :: a19 :: x :: σ) H QS) (QS (a0 :: a1 :: a2 :: a3 :: a4 :: a5 :: a6 :: a7 :: a8 :: a9 :: a10 :: a11 :: a12 :: a13 :: a14 :: a15 :: a16 :: a17 :: a18 :: a19 :: some v :: σ) H) := ⟨fun h => x_g20 h⟩
instance i_g21 {a0 a1 a2 a3 a4 a5 a6 a7 a8 a9 a10 a11 a12 a13 a14 a15 a16 a17 a18 a19 a20 : Option V} {x : Option V} {σ : L2.St} : St1 (gName 21 v (a0 :: a1 :: a2 :: a3 :: a4 :: a5 :: a6 :: a7 :: a8 :: a9 :: a10 :: a11 :: a12 :: a13 :: a14 :: a15 :: a16 :: a17 :: a18 :: a19 :: a20 :: x :: σ) H QS) (QS (a0 :: a1 :: a2 :: a3 :: a4 :: a5 :: a6 :: a7 :: a8 :: a9 :: a10 :: a11 :: a12 :: a13 :: a14 :: a15 :: a16 :: a17 :: a18 :: a19 :: a20 :: some v :: σ) H) := ⟨fun h => x_g21 h⟩
instance i_g22 {a0 a1 a2 a3 a4 a5 a6 a7 a8 a9 a10 a11 a12 a13 a14 a15 a16 a17 a18 a19 a20 a21 : Option V} {x : Option V} {σ : L2.St} : St1 (gName 22 v (a0 :: a1 :: a2 :: a3 :: a4 :: a5 :: a6 :: a7 :: a8 :: a9 :: a10 :: a11 :: a12 :: a13 :: a14 :: a15 :: a16 :: a17 :: a18 :: a19 :: a20 :: a21 :: x :: σ) H QS) (QS (a0 :: a1 :: a2 :: a3 :: a4 :: a5 :: a6 :: a7 :: a8 :: a9 :: a10 :: a11 :: a12 :: a13 :: a14 :: a15 :: a16 :: a17 :: a18 :: a19 :: a20 :: a21 :: some v :: σ) H) := ⟨fun h => x_g22 h⟩
instance i_g23 {a0 a1 a2 a3 a4 a5 a6 a7 a8 a9 a10 a11 a12 a13 a14 a15 a16 a17 a18 a19 a20 a21 a22 : Option V} {x : Option V} {σ : L2.St} : St1 (gName 23 v (a0 :: a1 :: a2 :: a3 :: a4 :: a5 :: a6 :: a7 :: a8 :: a9 :: a10 :: a11 :: a12 :: a13 :: a14 :: a15 :: a16 :: a17 :: a18 :: a19 :: a20 :: a21 :: a22 :: x :: σ) H QS) (QS (a0 :: a1 :: a2 :: a3 :: a4 :: a5 :: a6 :: a7 :: a8 :: a9 :: a10 :: a11 :: a12 :: a13 :: a14 :: a15 :: a16 :: a17 :: a18 :: a19 :: a20 :: a21 :: a22 :: some v :: σ) H) := ⟨fun h => x_g23 h⟩
instance i_d0 {x : Option V} {σ : L2.St} {k : K0} : St1 (gDel 0 (x :: σ) H k) (k (none :: σ) H) := ⟨fun h => x_d0 h⟩
instance i_d1 {a0 : Option V} {x : Option V} {σ : L2.St} {k : K0} : St1 (gDel 1 (a0 :: x :: σ) H k) (k (a0 :: none :: σ) H) := ⟨fun h => x_d1 h⟩
instance i_d2 {a0 a1 : Option V} {x : Option V} {σ : L2.St} {k : K0} : St1 (gDel 2 (a0 :: a1 :: x :: σ) H k) (k (a0 :: a1 :: none :: σ) H) := ⟨fun h => x_d2 h⟩
instance i_d3 {a0 a1 a2 : Option V} {x : Option V} {σ : L2.St} {k : K0} : St1 (gDel 3 (a0 :: a1 :: a2 :: x :: σ) H k) (k (a0 :: a1 :: a2 :: none :: σ) H) := ⟨fun h => x_d3 h⟩
instance i_d4 {a0 a1 a2 a3 : Option V} {x : Option V} {σ : L2.St} {k : K0} : St1 (gDel 4 (a0 :: a1 :: a2 :: a3 :: x :: σ) H k) (k (a0 :: a1 :: a2 :: a3 :: none :: σ) H) := ⟨fun h => x_d4 h⟩
instance i_d5 {a0 a1 a2 a3 a4 : Option V} {x : Option V} {σ : L2.St} {k : K0} : St1 (gDel 5 (a0 :: a1 :: a2 :: a3 :: a4 :: x :: σ) H k) (k (a0 :: a1 :: a2 :: a3 :: a4 :: none :: σ) H) := ⟨fun h => x_d5 h⟩
instance i_d6 {a0 a1 a2 a3 a4 a5 : Option V} {x : Option V} {σ : L2.St} {k : K0} : St1 (gDel 6 (a0 :: a1 :: a2 :: a3 :: a4 :: a5 :: x :: σ) H k) (k (a0 :: a1 :: a2 :: a3 :: a4 :: a5 :: none :: σ) H) := ⟨fun h => x_d6 h⟩
instance i_d7 {a0 a1 a2 a3 a4 a5 a6 : Option V} {x : Option V} {σ : L2.St} {k : K0} : St1 (gDel 7 (a0 :: a1 :: a2 :: a3 :: a4 :: a5 :: a6 :: x :: σ) H k) (k (a0 :: a1 :: a2 :: a3 :: a4 :: a5 :: a6 :: none :: σ) H) := ⟨fun h => x_d7 h⟩
instance i_d8 {a0 a1 a2 a3 a4 a5 a6 a7 : Option V} {x : Option V} {σ : L2.St} {k : K0} : St1 (gDel 8 (a0 :: a1 :: a2 :: a3 :: a4 :: a5 :: a6 :: a7 :: x :: σ) H k) (k (a0 :: a1 :: a2 :: a3 :: a4 :: a5 :: a6 :: a7 :: none :: σ) H) := ⟨fun h => x_d8 h⟩
instance i_d9 {a0 a1 a2 a3 a4 a5 a6 a7 a8 : Option V} {x : Option V} {σ : L2.St} {k : K0} : St1 (gDel 9 (a0 :: a1 :: a2 :: a3 :: a4 :: a5 :: a6 :: a7 :: a8 :: x :: σ) H k) (k (a0 :: a1 :: a2 :: a3 :: a4 :: a5 :: a6 :: a7 :: a8 :: none :: σ) H) := ⟨fun h => x_d9 h⟩
instance i_d10 {a0 a1 a2 a3 a4 a5 a6 a7 a8 a9 : Option V} {x : Option V} {σ : L2.St} {k : K0} : St1 (gDel 10 (a0 :: a1 :: a2 :: a3 :: a4 :: a5 :: a6 :: a7 :: a8 :: a9 :: x :: σ) H k) (k (a0 :: a1 :: a2 :: a3 :: a4 :: a5 :: a6 :: a7 :: a8 :: a9 :: none :: σ) H) := ⟨fun h => x_d10 h⟩
instance i_d11 {a0 a1 a2 a3 a4 a5 a6 a7 a8 a9 a10 : Option V} {x : Option V} {σ : L2.St} {k : K0} : St1 (gDel 11 (a0 :: a1 :: a2 :: a3 :: a4 :: a5 :: a6 :: a7 :: a8 :: a9 :: a10 :: x :: σ) H k) (k (a0 :: a1 :: a2 :: a3 :: a4 :: a5 :: a6 :: a7 :: a8 :: a9 :: a10 :: none :: σ) H) := ⟨fun h => x_d11 h⟩
instance i_d12 {a0 a1 a2 a3 a4 a5 a6 a7 a8 a9 a10 a11 : Option V} {x : Option V} {σ : L2.St} {k : K0} : St1 (gDel 12 (a0 :: a1 :: a2 :: a3 :: a4 :: a5 :: a6 :: a7 :: a8 :: a9 :: a10 :: a11 :: x :: σ) H k) (k (a0 :: a1 :: a2 :: a3 :: a4 :: a5 :: a6 :: a7 :: a8 :: a9 :: a10 :: a11 :: none :: σ) H) := ⟨fun h => x_d12 h⟩
instance i_d13 {a0 a1 a2 a3 a4 a5 a6 a7 a8 a9 a10 a11 a12 : Option V} {x : Option V} {σ : L2.St} {k : K0} : St1 (gDel 13 (a0 :: a1 :: a2 :: a3 :: a4 :: a5 :: a6 :: a7 :: a8 :: a9 :: a10 :: a11 :: a12 :: x :: σ) H k) (k (a0 :: a1 :: a2 :: a3 :: a4 :: a5 :: a6 :: a7 :: a8 :: a9 :: a10 :: a11 :: a12 :: none :: σ) H) := ⟨fun h => x_d13 h⟩
instance i_d14 {a0 a1 a2 a3 a4 a5 a6 a7 a8 a9 a10 a11 a12 a13 : Option V} {x : Option V} {σ : L2.St} {k : K0} : St1 (gDel 14 (a0 :: a1 :: a2 :: a3 :: a4 :: a5 :: a6 :: a7 :: a8 :: a9 :: a10 :: a11 :: a12 :: a13 :: x :: σ) H k) (k (a0 :: a1 :: a2 :: a3 :: a4 :: a5 :: a6 :: a7 :: a8 :: a9 :: a10 :: a11 :: a12 :: a13 :: none :: σ) H) := ⟨fun h => x_d14 h⟩
instance i_d15 {a0 a1 a2 a3 a4 a5 a6 a7 a8 a9 a10 a11 a12 a13 a14 : Option V} {x : Option V} {σ : L2.St} {k : K0} : St1 (gDel 15 (a0 :: a1 :: a2 :: a3 :: a4 :: a5 :: a6 :: a7 :: a8 :: a9 :: a10 :: a11 :: a12 :: a13 :: a14 :: x :: σ) H k) (k (a0 :: a1 :: a2 :: a3 :: a4 :: a5 :: a6 :: a7 :: a8 :: a9 :: a10 :: a11 :: a12 :: a13 :: a14 :: none :: σ) H) := ⟨fun h => x_d15 h⟩
instance i_d16 {a0 a1 a2 a3 a4 a5 a6 a7 a8 a9 a10 a11 a12 a13 a14 a15 : Option V} {x : Option V} {σ : L2.St} {k : K0} : St1 (gDel 16 (a0 :: a1 :: a2 :: a3 :: a4 :: a5 :: a6 :: a7 :: a8 :: a9 :: a10 :: a11 :: a12 :: a13 :: a14 :: a15 :: x :: σ) H k) (k (a0 :: a1 :: a2 :: a3 :: a4 :: a5 :: a6 :: a7 :: a8 :: a9 :: a10 :: a11 :: a12 :: a13 :: a14 :: a15 :: none :: σ) H) := ⟨fun h => x_d16 h⟩
instance i_d17 {a0 a1 a2 a3 a4 a5 a6 a7 a8 a9 a10 a11 a12 a13 a14 a15 a16 : Option V} {x : Option V} {σ : L2.St} {k : K0} : St1 (gDel 17 (a0 :: a1 :: a2 :: a3 :: a4 :: a5 :: a6 :: a7 :: a8 :: a9 :: a10 :: a11 :: a12 :: a13 :: a14 :: a15 :: a16 :: x :: σ) H k) (k (a0 :: a1 :: a2 :: a3 :: a4 :: a5 :: a6 :: a7 :: a8 :: a9 :: a10 :: a11 :: a12 :: a13 :: a14 :: a15 :: a16 :: none :: σ) H) := ⟨fun h => x_d17 h⟩
instance i_d18 {a0 a1 a2 a3 a4 a5 a6 a7 a8 a9 a10 a11 a12 a13 a14 a15 a16 a17 : Option V} {x : Option V} {σ : L2.St} {k : K0} : St1 (gDel 18 (a0 :: a1 :: a2 :: a3 :: a4 :: a5 :: a6 :: a7 :: a8 :: a9 :: a10 :: a11 :: a12 :: a13 :: a14 :: a15 :: a16 :: a17 :: x :: σ) H k) (k (a0 :: a1 :: a2 :: a3 :: a4 :: a5 :: a6 :: a7 :: a8 :: a9 :: a10 :: a11 :: a12 :: a13 :: a14 :: a15 :: a16 :: a17 :: none :: σ) H) := ⟨fun h => x_d18 h⟩
instance i_d19 {a0 a1 a2 a3 a4 a5 a6 a7 a8 a9 a10 a11 a12 a13 a14 a15 a16 a17 a18 : Option V} {x : Option V} {σ : L2.St} {k : K0} : St1 (gDel 19 (a0 :: a1 :: a2 :: a3 :: a4 :: a5 :: a6 :: a7 :: a8 :: a9 :: a10 :: a11 :: a12 :: a13 :: a14 :: a15 :: a16 :: a17 :: a18 :: x :: σ) H k) (k (a0 :: a1 :: a2 :: a3 :: a4 :: a5 :: a6 :: a7 :: a8 :: a9 :: a10 :: a11 :: a12 :: a13 :: a14 :: a15 :: a16 :: a17 :: a18 :: none :: σ) H) := ⟨fun h => x_d19 h⟩
instance i_d20 {a0 a1 a2 a3 a4 a5 a6 a7 a8 a9 a10 a11 a12 a13 a14 a15 a16 a17 a18 a19 : Option V} {x : Option V} {σ : L2.St} {k : K0} : St1 (gDel 20 (a0 :: a1 :: a2 :: a3 :: a4 :: a5 :: a6 :: a7 :: a8 :: a9 :: a10 :: a11 :: a12 :: a13 :: a14 :: a15 :: a16 :: a17 :: a18 :: a19 :: x :: σ) H k) (k (a0 :: a1 :: a2 :: a3 :: a4 :: a5 :: a6 :: a7 :: a8 :: a9 :: a10 :: a11 :: a12 :: a13 :: a14 :: a15 :: a16 :: a17 :: a18 :: a19 :: none :: σ) H) := ⟨fun h => x_d20 h⟩
instance i_d21 {a0 a1 a2 a3 a4 a5 a6 a7 a8 a9 a10 a11 a12 a13 a14 a15 a16 a17 a18 a19 a20 : Option V} {x : Option V} {σ : L2.St} {k : K0} : St1 (gDel 21 (a0 :: a1 :: a2 :: a3 :: a4 :: a5 :: a6 :: a7 :: a8 :: a9 :: a10 :: a11 :: a12 :: a13 :: a14 :: a15 :: a16 :: a17 :: a18 :: a19 :: a20 :: x :: σ) H k) (k (a0 :: a1 :: a2 :: a3 :: a4 :: a5 :: a6 :: a7 :: a8 :: a9 :: a10 :: a11 :: a12 :: a13 :: a14 :: a15 :: a16 :: a17 :: a18 :: a19 :: a20 :: none :: σ) H) := ⟨fun h => x_d21 h⟩
instance i_d22 {a0 a1 a2 a3 a4 a5 a6 a7 a8 a9 a10 a11 a12 a13 a14 a15 a16 a17 a18 a19 a20 a21 : Option V} {x : Option V} {σ : L2.St} {k : K0} : St1 (gDel 22 (a0 :: a1 :: a2 :: a3 :: a4 :: a5 :: a6 :: a7 :: a8 :: a9 :: a10 :: a11 :: a12 :: a13 :: a14 :: a15 :: a16 :: a17 :: a18 :: a19 :: a20 :: a21 :: x :: σ) H k) (k (a0 :: a1 :: a2 :: a3 :: a4 :: a5 :: a6 :: a7 :: a8 :: a9 :: a10 :: a11 :: a12 :: a13 :: a14 :: a15 :: a16 :: a17 :: a18 :: a19 :: a20 :: a21 :: none :: σ) H) := ⟨fun h => x_d22 h⟩
instance i_d23 {a0 a1 a2 a3 a4 a5 a6 a7 a8 a9 a10 a11 a12 a13 a14 a15 a16 a17 a18 a19 a20 a21 a22 : Option V} {x : Option V} {σ : L2.St} {k : K0} : St1 (gDel 23 (a0 :: a1 :: a2 :: a3 :: a4 :: a5 :: a6 :: a7 :: a8 :: a9 :: a10 :: a11 :: a12 :: a13 :: a14 :: a15 :: a16 :: a17 :: a18 :: a19 :: a20 :: a21 :: a22 :: x :: σ) H k) (k (a0 :: a1 :: a2 :: a3 :: a4 :: a5 :: a6 :: a7 :: a8 :: a9 :: a10 :: a11 :: a12 :: a13 :: a14 :: a15 :: a16 :: a17 :: a18 :: a19 :: a20 :: a21 :: a22 :: none :: σ) H) := ⟨fun h => x_d23 h⟩
instance i_au0 {te : TE} {ti : TIp} {σ : L2.St} : St1 (tAug 0 te ti ⟨nx, rt, bk, ct⟩ (some x :: σ) H) (te (some x :: σ) H fun y H1 => ti x y H1 fun z H2 => nx (some z :: σ) H2) := ⟨fun h => x_au0 h⟩
instance i_au1 {te : TE} {ti : TIp} {a0 : Option V} {σ : L2.St} : St1 (tAug 1 te ti ⟨nx, rt, bk, ct⟩ (a0 :: some x :: σ) H) (te (a0 :: some x :: σ) H fun y H1 => ti x y H1 fun z H2 => nx (a0 :: some z :: σ) H2) := ⟨fun h => x_au1 h⟩
instance i_au2 {te : TE} {ti : TIp} {a0 a1 : Option V} {σ : L2.St} : St1 (tAug 2 te ti ⟨nx, rt, bk, ct⟩ (a0 :: a1 :: some x :: σ) H) (te (a0 :: a1 :: some x :: σ) H fun y H1 => ti x y H1 fun z H2 => nx (a0 :: a1 :: some z :: σ) H2) := ⟨fun h => x_au2 h⟩
instance i_au3 {te : TE} {ti : TIp} {a0 a1 a2 : Option V} {σ : L2.St} : St1 (tAug 3 te ti ⟨nx, rt, bk, ct⟩ (a0 :: a1 :: a2 :: some x :: σ) H) (te (a0 :: a1 :: a2 :: some x :: σ) H fun y H1 => ti x y H1 fun z H2 => nx (a0 :: a1 :: a2 :: some z :: σ) H2) := ⟨fun h => x_au3 h⟩
instance i_au4 {te : TE} {ti : TIp} {a0 a1 a2 a3 : Option V} {σ : L2.St} : St1 (tAug 4 te ti ⟨nx, rt, bk, ct⟩ (a0 :: a1 :: a2 :: a3 :: some x :: σ) H) (te (a0 :: a1 :: a2 :: a3 :: some x :: σ) H fun y H1 => ti x y H1 fun z H2 => nx (a0 :: a1 :: a2 :: a3 :: some z :: σ) H2) := ⟨fun h => x_au4 h⟩
instance i_au5 {te : TE} {ti : TIp} {a0 a1 a2 a3 a4 : Option V} {σ : L2.St} : St1 (tAug 5 te ti ⟨nx, rt, bk, ct⟩ (a0 :: a1 :: a2 :: a3 :: a4 :: some x :: σ) H) (te (a0 :: a1 :: a2 :: a3 :: a4 :: some x :: σ) H fun y H1 => ti x y H1 fun z H2 => nx (a0 :: a1 :: a2 :: a3 :: a4 :: some z :: σ) H2) := ⟨fun h => x_au5 h⟩
instance i_au6 {te : TE} {ti : TIp} {a0 a1 a2 a3 a4 a5 : Option V} {σ : L2.St} : St1 (tAug 6 te ti ⟨nx, rt, bk, ct⟩ (a0 :: a1 :: a2 :: a3 :: a4 :: a5 :: some x :: σ) H) (te (a0 :: a1 :: a2 :: a3 :: a4 :: a5 :: some x :: σ) H fun y H1 => ti x y H1 fun z H2 => nx (a0 :: a1 :: a2 :: a3 :: a4 :: a5 :: some z :: σ) H2) := ⟨fun h => x_au6 h⟩
instance i_au7 {te : TE} {ti : TIp} {a0 a1 a2 a3 a4 a5 a6 : Option V} {σ : L2.St} : St1 (tAug 7 te ti ⟨nx, rt, bk, ct⟩ (a0 :: a1 :: a2 :: a3 :: a4 :: a5 :: a6 :: some x :: σ) H) (te (a0 :: a1 :: a2 :: a3 :: a4 :: a5 :: a6 :: some x :: σ) H fun y H1 => ti x y H1 fun z H2 => nx (a0 :: a1 :: a2 :: a3 :: a4 :: a5 :: a6 :: some z :: σ) H2) := ⟨fun h => x_au7 h⟩
instance i_au8 {te : TE} {ti : TIp} {a0 a1 a2 a3 a4 a5 a6 a7 : Option V} {σ : L2.St} : St1 (tAug 8 te ti ⟨nx, rt, bk, ct⟩ (a0 :: a1 :: a2 :: a3 :: a4 :: a5 :: a6 :: a7 :: some x :: σ) H) (te (a0 :: a1 :: a2 :: a3 :: a4 :: a5 :: a6 :: a7 :: some x :: σ) H fun y H1 => ti x y H1 fun z H2 => nx (a0 :: a1 :: a2 :: a3 :: a4 :: a5 :: a6 :: a7 :: some z :: σ) H2) := ⟨fun h => x_au8 h⟩
instance i_au9 {te : TE} {ti : TIp} {a0 a1 a2 a3 a4 a5 a6 a7 a8 : Option V} {σ : L2.St} : St1 (tAug 9 te ti ⟨nx, rt, bk, ct⟩ (a0 :: a1 :: a2 :: a3 :: a4 :: a5 :: a6 :: a7 :: a8 :: some x :: σ) H) (te (a0 :: a1 :: a2 :: a3 :: a4 :: a5 :: a6 :: a7 :: a8 :: some x :: σ) H fun y H1 => ti x y H1 fun z H2 => nx (a0 :: a1 :: a2 :: a3 :: a4 :: a5 :: a6 :: a7 :: a8 :: some z :: σ) H2) := ⟨fun h => x_au9 h⟩
instance i_au10 {te : TE} {ti : TIp} {a0 a1 a2 a3 a4 a5 a6 a7 a8 a9 : Option V} {σ : L2.St} : St1 (tAug 10 te ti ⟨nx, rt, bk, ct⟩ (a0 :: a1 :: a2 :: a3 :: a4 :: a5 :: a6 :: a7 :: a8 :: a9 :: some x :: σ) H) (te (a0 :: a1 :: a2 :: a3 :: a4 :: a5 :: a6 :: a7 :: a8 :: a9 :: some x :: σ) H fun y H1 => ti x y H1 fun z H2 => nx (a0 :: a1 :: a2 :: a3 :: a4 :: a5 :: a6 :: a7 :: a8 :: a9 :: some z :: σ) H2) := ⟨fun h => x_au10 h⟩
instance i_au11 {te : TE} {ti : TIp} {a0 a1 a2 a3 a4 a5 a6 a7 a8 a9 a10 : Option V} {σ : L2.St} : St1 (tAug 11 te ti ⟨nx, rt, bk, ct⟩ (a0 :: a1 :: a2 :: a3 :: a4 :: a5 :: a6 :: a7 :: a8 :: a9 :: a10 :: some x :: σ) H) (te (a0 :: a1 :: a2 :: a3 :: a4 :: a5 :: a6 :: a7 :: a8 :: a9 :: a10 :: some x :: σ) H fun y H1 => ti x y H1 fun z H2 => nx (a0 :: a1 :: a2 :: a3 :: a4 :: a5 :: a6 :: a7 :: a8 :: a9 :: a10 :: some z :: σ) H2) := ⟨fun h => x_au11 h⟩
instance i_au12 {te : TE} {ti : TIp} {a0 a1 a2 a3 a4 a5 a6 a7 a8 a9 a10 a11 : Option V} {σ : L2.St} : St1 (tAug 12 te ti ⟨nx, rt, bk, ct⟩ (a0 :: a1 :: a2 :: a3 :: a4 :: a5 :: a6 :: a7 :: a8 :: a9 :: a10 :: a11 :: some x :: σ) H) (te (a0 :: a1 :: a2 :: a3 :: a4 :: a5 :: a6 :: a7 :: a8 :: a9 :: a10 :: a11 :: some x :: σ) H fun y H1 => ti x y H1 fun z H2 => nx (a0 :: a1 :: a2 :: a3 :: a4 :: a5 :: a6 :: a7 :: a8 :: a9 :: a10 :: a11 :: some z :: σ) H2) := ⟨fun h => x_au12 h⟩
instance i_au13 {te : TE} {ti : TIp} {a0 a1 a2 a3 a4 a5 a6 a7 a8 a9 a10 a11 a12 : Option V} {σ : L2.St} : St1 (tAug 13 te ti ⟨nx, rt, bk, ct⟩ (a0 :: a1 :: a2 :: a3 :: a4 :: a5 :: a6 :: a7 :: a8 :: a9 :: a10 :: a11 :: a12 :: some x :: σ) H) (te (a0 :: a1 :: a2 :: a3 :: a4 :: a5 :: a6 :: a7 :: a8 :: a9 :: a10 :: a11 :: a12 :: some x :: σ) H fun y H1 => ti x y H1 fun z H2 => nx (a0 :: a1 :: a2 :: a3 :: a4 :: a5 :: a6 :: a7 :: a8 :: a9 :: a10 :: a11 :: a12 :: some z :: σ) H2) := ⟨fun h => x_au13 h⟩
instance i_au14 {te : TE} {ti : TIp} {a0 a1 a2 a3 a4 a5 a6 a7 a8 a9 a10 a11 a12 a13 : Option V} {σ : L2.St} : St1 (tAug 14 te ti ⟨nx, rt, bk, ct⟩ (a0 :: a1 :: a2 :: a3 :: a4 :: a5 :: a6 :: a7 :: a8 :: a9 :: a10 :: a11 :: a12 :: a13 :: some x :: σ) H) (te (a0 :: a1 :: a2 :: a3 :: a4 :: a5 :: a6 :: a7 :: a8 :: a9 :: a10 :: a11 :: a12 :: a13 :: some x :: σ) H fun y H1 => ti x y H1 fun z H2 => nx (a0 :: a1 :: a2 :: a3 :: a4 :: a5 :: a6 :: a7 :: a8 :: a9 :: a10 :: a11 :: a12 :: a13 :: some z :: σ) H2) := ⟨fun h => x_au14 h⟩
instance i_au15 {te : TE} {ti : TIp} {a0 a1 a2 a3 a4 a5 a6 a7 a8 a9 a10 a11 a12 a13 a14 : Option V} {σ : L2.St} : St1 (tAug 15 te ti ⟨nx, rt, bk, ct⟩ (a0 :: a1 :: a2 :: a3 :: a4 :: a5 :: a6 :: a7 :: a8 :: a9 :: a10 :: a11 :: a12 :: a13 :: a14 :: some x :: σ) H) (te (a0 :: a1 :: a2 :: a3 :: a4 :: a5 :: a6 :: a7 :: a8 :: a9 :: a10 :: a11 :: a12 :: a13 :: a14 :: some x :: σ) H fun y H1 => ti x y H1 fun z H2 => nx (a0 :: a1 :: a2 :: a3 :: a4 :: a5 :: a6 :: a7 :: a8 :: a9 :: a10 :: a11 :: a12 :: a13 :: a14 :: some z :: σ) H2) := ⟨fun h => x_au15 h⟩
instance i_au16 {te : TE} {ti : TIp} {a0 a1 a2 a3 a4 a5 a6 a7 a8 a9 a10 a11 a12 a13 a14 a15 : Option V} {σ : L2.St} : St1 (tAug 16 te ti ⟨nx, rt, bk, ct⟩ (a0 :: a1 :: a2 :: a3 :: a4 :: a5 :: a6 :: a7 :: a8 :: a9 :: a10 :: a11 :: a12 :: a13 :: a14 :: a15 :: some x :: σ) H) (te (a0 :: a1 :: a2 :: a3 :: a4 :: a5 :: a6 :: a7 :: a8 :: a9 :: a10 :: a11 :: a12 :: a13 :: a14 :: a15 :: some x :: σ) H fun y H1 => ti x y H1 fun z H2 => nx (a0 :: a1 :: a2 :: a3 :: a4 :: a5 :: a6 :: a7 :: a8 :: a9 :: a10 :: a11 :: a12 :: a13 :: a14 :: a15 :: some z :: σ) H2) := ⟨fun h => x_au16 h⟩
instance i_au17 {te : TE} {ti : TIp} {a0 a1 a2 a3 a4 a5 a6 a7 a8 a9 a10 a11 a12 a13 a14 a15 a16 : Option V} {σ : L2.St} : St1 (tAug 17 te ti ⟨nx, rt, bk, ct⟩ (a0 :: a1 :: a2 :: a3 :: a4 :: a5 :: a6 :: a7 :: a8 :: a9 :: a10 :: a11 :: a12 :: a13 :: a14 :: a15 :: a16 :: some x :: σ) H) (te (a0 :: a1 :: a2 :: a3 :: a4 :: a5 :: a6 :: a7 :: a8 :: a9 :: a10 :: a11 :: a12 :: a13 :: a14 :: a15 :: a16 :: some x :: σ) H fun y H1 => ti x y H1 fun z H2 => nx (a0 :: a1 :: a2 :: a3 :: a4 :: a5 :: a6 :: a7 :: a8 :: a9 :: a10 :: a11 :: a12 :: a13 :: a14 :: a15 :: a16 :: some z :: σ) H2) := ⟨fun h => x_au17 h⟩
instance i_au18 {te : TE} {ti : TIp} {a0 a1 a2 a3 a4 a5 a6 a7 a8 a9 a10 a11 a12 a13 a14 a15 a16 a17 : Option V} {σ : L2.St} : St1 (tAug 18 te ti ⟨nx, rt, bk, ct⟩ (a0 :: a1 :: a2 :: a3 :: a4 :: a5 :: a6 :: a7 :: a8 :: a9 :: a10 :: a11 :: a12 :: a13 :: a14 :: a15 :: a16 :: a17 :: some x :: σ) H) (te (a0 :: a1 :: a2 :: a3 :: a4 :: a5 :: a6 :: a7 :: a8 :: a9 :: a10 :: a11 :: a12 :: a13 :: a14 :: a15 :: a16 :: a17 :: some x :: σ) H fun y H1 => ti x y H1 fun z H2 => nx (a0 :: a1 :: a2 :: a3 :: a4 :: a5 :: a6 :: a7 :: a8 :: a9 :: a10 :: a11 :: a12 :: a13 :: a14 :: a15 :: a16 :: a17 :: some z :: σ) H2) := ⟨fun h => x_au18 h⟩
instance i_au19 {te : TE} {ti : TIp} {a0 a1 a2 a3 a4 a5 a6 a7 a8 a9 a10 a11 a12 a13 a14 a15 a16 a17 a18 : Option V} {σ : L2.St} : St1 (tAug 19 te ti ⟨nx, rt, bk, ct⟩ (a0 :: a1 :: a2 :: a3 :: a4 :: a5 :: a6 :: a7 :: a8 :: a9 :: a10 :: a11 :: a12 :: a13 :: a14 :: a15 :: a16 :: a17 :: a18 :: some x :: σ) H) (te (a0 :: a1 :: a2 :: a3 :: a4 :: a5 :: a6 :: a7 :: a8 :: a9 :: a10 :: a11 :: a12 :: a13 :: a14 :: a15 :: a16 :: a17 :: a18 :: some x :: σ) H fun y H1 => ti x y H1 fun z H2 => nx (a0 :: a1 :: a2 :: a3 :: a4 :: a5 :: a6 :: a7 :: a8 :: a9 :: a10 :: a11 :: a12 :: a13 :: a14 :: a15 :: a16 :: a17 :: a18 :: some z :: σ) H2) := ⟨fun h => x_au19 h⟩
instance i_au20 {te : TE} {ti : TIp} {a0 a1 a2 a3 a4 a5 a6 a7 a8 a9 a10 a11 a12 a13 a14 a15 a16 a17 a18 a19 : Option V} {σ : L2.St} : St1 (tAug 20 te ti ⟨nx, rt, bk, ct⟩ (a0 :: a1 :: a2 :: a3 :: a4 :: a5 :: a6 :: a7 :: a8 :: a9 :: a10 :: a11 :: a12 :: a13 :: a14 :: a15 :: a16 :: a17 :: a18 :: a19 :: some x :: σ) H) (te (a0 :: a1 :: a2 :: a3 :: a4 :: a5 :: a6 :: a7 :: a8 :: a9 :: a10 :: a11 :: a12 :: a13 :: a14 :: a15 :: a16 :: a17 :: a18 :: a19 :: some x :: σ) H fun y H1 => ti x y H1 fun z H2 => nx (a0 :: a1 :: a2 :: a3 :: a4 :: a5 :: a6 :: a7 :: a8 :: a9 :: a10 :: a11 :: a12 :: a13 :: a14 :: a15 :: a16 :: a17 :: a18 :: a19 :: some z :: σ) H2) := ⟨fun h => x_au20 h⟩
instance i_au21 {te : TE} {ti : TIp} {a0 a1 a2 a3 a4 a5 a6 a7 a8 a9 a10 a11 a12 a13 a14 a15 a16 a17 a18 a19 a20 : Option V} {σ : L2.St} : St1 (tAug 21 te ti ⟨nx, rt, bk, ct⟩ (a0 :: a1 :: a2 :: a3 :: a4 :: a5 :: a6 :: a7 :: a8 :: a9 :: a10 :: a11 :: a12 :: a13 :: a14 :: a15 :: a16 :: a17 :: a18 :: a19 :: a20 :: some x :: σ) H) (te (a0 :: a1 :: a2 :: a3 :: a4 :: a5 :: a6 :: a7 :: a8 :: a9 :: a10 :: a11 :: a12 :: a13 :: a14 :: a15 :: a16 :: a17 :: a18 :: a19 :: a20 :: some x :: σ) H fun y H1 => ti x y H1 fun z H2 => nx (a0 :: a1 :: a2 :: a3 :: a4 :: a5 :: a6 :: a7 :: a8 :: a9 :: a10 :: a11 :: a12 :: a13 :: a14 :: a15 :: a16 :: a17 :: a18 :: a19 :: a20 :: some z :: σ) H2) := ⟨fun h => x_au21 h⟩
instance i_au22 {te : TE} {ti : TIp} {a0 a1 a2 a3 a4 a5 a6 a7 a8 a9 a10 a11 a12 a13 a14 a15 a16 a17 a18 a19 a20 a21 : Option V} {σ : L2.St} : St1 (tAug 22 te ti ⟨nx, rt, bk, ct⟩ (a0 :: a1 :: a2 :: a3 :: a4 :: a5 :: a6 :: a7 :: a8 :: a9 :: a10 :: a11 :: a12 :: a13 :: a14 :: a15 :: a16 :: a17 :: a18 :: a19 :: a20 :: a21 :: some x :: σ) H) (te (a0 :: a1 :: a2 :: a3 :: a4 :: a5 :: a6 :: a7 :: a8 :: a9 :: a10 :: a11 :: a12 :: a13 :: a14 :: a15 :: a16 :: a17 :: a18 :: a19 :: a20 :: a21 :: some x :: σ) H fun y H1 => ti x y H1 fun z H2 => nx (a0 :: a1 :: a2 :: a3 :: a4 :: a5 :: a6 :: a7 :: a8 :: a9 :: a10 :: a11 :: a12 :: a13 :: a14 :: a15 :: a16 :: a17 :: a18 :: a19 :: a20 :: a21 :: some z :: σ) H2) := ⟨fun h => x_au22 h⟩
instance i_au23 {te : TE} {ti : TIp} {a0 a1 a2 a3 a4 a5 a6 a7 a8 a9 a10 a11 a12 a13 a14 a15 a16 a17 a18 a19 a20 a21 a22 : Option V} {σ : L2.St} : St1 (tAug 23 te ti ⟨nx, rt, bk, ct⟩ (a0 :: a1 :: a2 :: a3 :: a4 :: a5 :: a6 :: a7 :: a8 :: a9 :: a10 :: a11 :: a12 :: a13 :: a14 :: a15 :: a16 :: a17 :: a18 :: a19 :: a20 :: a21 :: a22 :: some x :: σ) H) (te (a0 :: a1 :: a2 :: a3 :: a4 :: a5 :: a6 :: a7 :: a8 :: a9 :: a10 :: a11 :: a12 :: a13 :: a14 :: a15 :: a16 :: a17 :: a18 :: a19 :: a20 :: a21 :: a22 :: some x :: σ) H fun y H1 => ti x y H1 fun z H2 => nx (a0 :: a1 :: a2 :: a3 :: a4 :: a5 :: a6 :: a7 :: a8 :: a9 :: a10 :: a11 :: a12 :: a13 :: a14 :: a15 :: a16 :: a17 :: a18 :: a19 :: a20 :: a21 :: a22 :: some z :: σ) H2) := ⟨fun h => x_au23 h⟩
instance i_ml0 {σ : L2.St} : St1 (eMakeL 0 C sp [] E tl (some (.ref C) :: σ) H Q) (tMake C sp [] E tl (some (.ref C) :: σ) H Q) := ⟨fun h => x_ml0 h⟩
instance i_ml1 {a0 : Option V} {σ : L2.St} : St1 (eMakeL 1 C sp [] E tl (a0 :: some (.ref C) :: σ) H Q) (tMake C sp [] E tl (a0 :: some (.ref C) :: σ) H Q) := ⟨fun h => x_ml1 h⟩
instance i_eqP_nn  : St1 (rEqP S (.non) (.non) H Q) (Q (.bl true) H) := ⟨fun h => x_eqP_nn h⟩
instance i_eqP_ni  : St1 (rEqP S (.non) (.int i) H Q) (Q (.bl false) H) := ⟨fun h => x_eqP_ni h⟩
instance i_eqP_in  : St1 (rEqP S (.int i) (.non) H Q) (Q (.bl false) H) := ⟨fun h => x_eqP_in h⟩
instance i_eqP_nb  : St1 (rEqP S (.non) (.bl b) H Q) (Q (.bl false) H) := ⟨fun h => x_eqP_nb h⟩
instance i_eqP_bn  : St1 (rEqP S (.bl b) (.non) H Q) (Q (.bl false) H) := ⟨fun h => x_eqP_bn h⟩
instance i_eqP_ns {z : Str} : St1 (rEqP S (.non) (.str z) H Q) (Q (.bl false) H) := ⟨fun h => x_eqP_ns h⟩
instance i_eqP_sn {z : Str} : St1 (rEqP S (.str z) (.non) H Q) (Q (.bl false) H) := ⟨fun h => x_eqP_sn h⟩
instance i_eqP_is {z : Str} : St1 (rEqP S (.int i) (.str z) H Q) (Q (.bl false) H) := ⟨fun h => x_eqP_is h⟩
instance i_eqP_si {z : Str} : St1 (rEqP S (.str z) (.int i) H Q) (Q (.bl false) H) := ⟨fun h => x_eqP_si h⟩
instance i_eqP_bs {z : Str} : St1 (rEqP S (.bl b) (.str z) H Q) (Q (.bl false) H) := ⟨fun h => x_eqP_bs h⟩
instance i_eqP_sb {z : Str} : St1 (rEqP S (.str z) (.bl b) H Q) (Q (.bl false) H) := ⟨fun h => x_eqP_sb h⟩
instance i_neP_nn  : St1 (rNeP S (.non) (.non) H Q) (Q (.bl (!true)) H) := ⟨fun h => x_neP_nn h⟩
instance i_neP_ni  : St1 (rNeP S (.non) (.int i) H Q) (Q (.bl (!false)) H) := ⟨fun h => x_neP_ni h⟩
instance i_neP_in  : St1 (rNeP S (.int i) (.non) H Q) (Q (.bl (!false)) H) := ⟨fun h => x_neP_in h⟩
instance i_neP_nb  : St1 (rNeP S (.non) (.bl b) H Q) (Q (.bl (!false)) H) := ⟨fun h => x_neP_nb h⟩
instance i_neP_bn  : St1 (rNeP S (.bl b) (.non) H Q) (Q (.bl (!false)) H) := ⟨fun h => x_neP_bn h⟩
instance i_neP_ns {z : Str} : St1 (rNeP S (.non) (.str z) H Q) (Q (.bl (!false)) H) := ⟨fun h => x_neP_ns h⟩
instance i_neP_sn {z : Str} : St1 (rNeP S (.str z) (.non) H Q) (Q (.bl (!false)) H) := ⟨fun h => x_neP_sn h⟩
instance i_neP_is {z : Str} : St1 (rNeP S (.int i) (.str z) H Q) (Q (.bl (!false)) H) := ⟨fun h => x_neP_is h⟩
instance i_neP_si {z : Str} : St1 (rNeP S (.str z) (.int i) H Q) (Q (.bl (!false)) H) := ⟨fun h => x_neP_si h⟩
instance i_neP_bs {z : Str} : St1 (rNeP S (.bl b) (.str z) H Q) (Q (.bl (!false)) H) := ⟨fun h => x_neP_bs h⟩
instance i_neP_sb {z : Str} : St1 (rNeP S (.str z) (.bl b) H Q) (Q (.bl (!false)) H) := ⟨fun h => x_neP_sb h⟩
instance i_isi_int_int  : St1 (rIsI [.int i, .ty "int"] H Q) (Q (.bl true) H) := ⟨fun h => x_isi_int_int h⟩
instance i_isi_int_bool  : St1 (rIsI [.int i, .ty "bool"] H Q) (Q (.bl false) H) := ⟨fun h => x_isi_int_bool h⟩
instance i_isi_int_str  : St1 (rIsI [.int i, .ty "str"] H Q) (Q (.bl false) H) := ⟨fun h => x_isi_int_str h⟩
instance i_isi_int_list  : St1 (rIsI [.int i, .ty "list"] H Q) (Q (.bl false) H) := ⟨fun h => x_isi_int_list h⟩
instance i_isi_int_tuple  : St1 (rIsI [.int i, .ty "tuple"] H Q) (Q (.bl false) H) := ⟨fun h => x_isi_int_tuple h⟩
instance i_isi_int_dict  : St1 (rIsI [.int i, .ty "dict"] H Q) (Q (.bl false) H) := ⟨fun h => x_isi_int_dict h⟩
instance i_isi_bool_int  : St1 (rIsI [.bl b, .ty "int"] H Q) (Q (.bl true) H) := ⟨fun h => x_isi_bool_int h⟩
instance i_isi_bool_bool  : St1 (rIsI [.bl b, .ty "bool"] H Q) (Q (.bl true) H) := ⟨fun h => x_isi_bool_bool h⟩
instance i_isi_bool_str  : St1 (rIsI [.bl b, .ty "str"] H Q) (Q (.bl false) H) := ⟨fun h => x_isi_bool_str h⟩
instance i_isi_bool_list  : St1 (rIsI [.bl b, .ty "list"] H Q) (Q (.bl false) H) := ⟨fun h => x_isi_bool_list h⟩
instance i_isi_bool_tuple  : St1 (rIsI [.bl b, .ty "tuple"] H Q) (Q (.bl false) H) := ⟨fun h => x_isi_bool_tuple h⟩
instance i_isi_bool_dict  : St1 (rIsI [.bl b, .ty "dict"] H Q) (Q (.bl false) H) := ⟨fun h => x_isi_bool_dict h⟩
instance i_isi_str_int {zs : Str} : St1 (rIsI [.str zs, .ty "int"] H Q) (Q (.bl false) H) := ⟨fun h => x_isi_str_int h⟩
instance i_isi_str_bool {zs : Str} : St1 (rIsI [.str zs, .ty "bool"] H Q) (Q (.bl false) H) := ⟨fun h => x_isi_str_bool h⟩
instance i_isi_str_str {zs : Str} : St1 (rIsI [.str zs, .ty "str"] H Q) (Q (.bl true) H) := ⟨fun h => x_isi_str_str h⟩
instance i_isi_str_list {zs : Str} : St1 (rIsI [.str zs, .ty "list"] H Q) (Q (.bl false) H) := ⟨fun h => x_isi_str_list h⟩
instance i_isi_str_tuple {zs : Str} : St1 (rIsI [.str zs, .ty "tuple"] H Q) (Q (.bl false) H) := ⟨fun h => x_isi_str_tuple h⟩
instance i_isi_str_dict {zs : Str} : St1 (rIsI [.str zs, .ty "dict"] H Q) (Q (.bl false) H) := ⟨fun h => x_isi_str_dict h⟩
instance i_isi_NoneType_int  : St1 (rIsI [.non, .ty "int"] H Q) (Q (.bl false) H) := ⟨fun h => x_isi_NoneType_int h⟩
instance i_isi_NoneType_bool  : St1 (rIsI [.non, .ty "bool"] H Q) (Q (.bl false) H) := ⟨fun h => x_isi_NoneType_bool h⟩
instance i_isi_NoneType_str  : St1 (rIsI [.non, .ty "str"] H Q) (Q (.bl false) H) := ⟨fun h => x_isi_NoneType_str h⟩
instance i_isi_NoneType_list  : St1 (rIsI [.non, .ty "list"] H Q) (Q (.bl false) H) := ⟨fun h => x_isi_NoneType_list h⟩
instance i_isi_NoneType_tuple  : St1 (rIsI [.non, .ty "tuple"] H Q) (Q (.bl false) H) := ⟨fun h => x_isi_NoneType_tuple h⟩
instance i_isi_NoneType_dict  : St1 (rIsI [.non, .ty "dict"] H Q) (Q (.bl false) H) := ⟨fun h => x_isi_NoneType_dict h⟩
/-! with a bool in hand -/
def KBl (x : V) (QK : Bool → Prop) : Prop := ∃ k, x = .bl k ∧ QK k
instance i_bl {QK : Bool → Prop} : St1 (KBl (.bl b) QK) (QK b) := ⟨x_bl⟩
instance i_test : St1 (tTest te σ H QB) (te σ H fun x H' => KBl x fun k => QB k H') := ⟨id⟩
instance i_tB : St1 (tB te σ H QB) (te σ H fun x H' => KBl x fun k => QB k H') := ⟨id⟩
instance i_andV : St1 (tAndV ta tb σ H Q) (ta σ H fun x H1 => KBl x fun c => if c = true then tb σ H1 Q else Q (.bl false) H1) := ⟨id⟩
instance i_orV : St1 (tOrV ta tb σ H Q) (ta σ H fun x H1 => KBl x fun c => if c = true then Q (.bl true) H1 else tb σ H1 Q) := ⟨id⟩
def KNv (c : Bool) (Q : VK) (H : Hp) : Prop := Q (.bl (!c)) H
instance i_notV : St1 (tNotV ta σ H Q) (ta σ H fun x H1 => KBl x fun c => KNv c Q H1) := ⟨id⟩
instance (priority := 10) i_nv : St1 (KNv b Q H) (Q (.bl (!b)) H) := ⟨id⟩
instance i_nvT : St1 (KNv true Q H) (Q (.bl false) H) := ⟨id⟩
instance i_nvF : St1 (KNv false Q H) (Q (.bl true) H) := ⟨id⟩
def KNb (c : Bool) (QB : Bool → Hp → Prop) (H : Hp) : Prop := QB (!c) H
instance i_not : St1 (tNot t σ H QB) (t σ H fun c H1 => KNb c QB H1) := ⟨id⟩
instance (priority := 10) i_nb : St1 (KNb b QB H) (QB (!b) H) := ⟨id⟩
instance i_nbT : St1 (KNb true QB H) (QB false H) := ⟨id⟩
instance i_nbF : St1 (KNb false QB H) (QB true H) := ⟨id⟩
instance i_chain : St1 (tChain r r' ta tb tc σ H Q) (ta σ H fun x H1 => tb σ H1 fun y H2 => r x y H2 fun z H3 => KBl z fun k => if k = true then tc σ H3 fun w' H4 => r' y w' H4 Q else Q (.bl false) H3) := ⟨id⟩
instance i_clink {tl : TC} : St1 (cLink r tb tl σ x H Q) (tb σ H fun y H1 => r x y H1 fun z H2 => KBl z fun k => if k = true then tl σ y H2 Q else Q (.bl false) H2) := ⟨id⟩
/-! with an int in hand -/
def KIn (x : V) (QK : Int → Prop) : Prop := ∃ k, x = .int k ∧ QK k
instance i_in {QK : Int → Prop} : St1 (KIn (.int i) QK) (QK i) := ⟨x_int1⟩
instance i_forR1 : St1 (sForR none te g s1 ⟨nx, rt, bk, ct⟩ σ H) (te σ H fun y H1 => KIn y fun j => ForR g s1 nx rt 0 j σ H1) := ⟨id⟩
instance i_forR2 : St1 (sForR (some ta) tb g s1 ⟨nx, rt, bk, ct⟩ σ H) (ta σ H fun x H1 => tb σ H1 fun y H2 => KIn x fun i => KIn y fun j => ForR g s1 nx rt i j σ H2) := ⟨fun h => by
  refine x_forR2 ?_
  have e : (fun x H1 => tb σ H1 fun y H2 => KIn x fun i => KIn y fun j => ForR g s1 nx rt i j σ H2) = (fun x H1 => tb σ H1 fun y H2 => ∃ i j, x = .int i ∧ y = .int j ∧ ForR g s1 nx rt i j σ H2) := by
    funext x H1
    congr 1
    funext y H2
    exact propext ⟨fun ⟨i, e1, j, e2, h⟩ => ⟨i, j, e1, e2, h⟩, fun ⟨i, j, e1, e2, h⟩ => ⟨i, e1, j, e2, h⟩⟩
  rw [← e]
  exact h⟩
instance i_part : St1 (tPart te σ H QO) (te σ H fun x H1 => KIn x fun i => QO (some i) H1) := ⟨id⟩
/-! calls -/
theorem sp_app : (fun (vs : List V) (H1 : Hp) => sp (vs ++ []) H1 Q E) = fun vs H1 => sp vs H1 Q E := by
  funext vs H1
  rw [List.append_nil]
instance i_call : St1 (tCall sp [] E tl σ H Q) (tl σ H fun vs H1 => sp vs H1 Q E) := ⟨fun h => by
  refine x_call ?_
  rw [sp_app]
  exact h⟩
def KMk (C : Addr) (sp : Sp) (vs : List V) (H1 : Hp) (Q : VK) (E : XK) : Prop := ∀ x dx, H1 x = none → H1 dx = none → dx ≠ x → sp (.ref x :: vs) (upd (upd H1 dx (.own x)) x (.ins C dx [])) (fun v H2 => v = .non ∧ Q (.ref x) H2) E
instance i_make : St1 (tMake C sp [] E tl σ H Q) (tl σ H fun vs H1 => KMk C sp vs H1 Q E) := ⟨fun h => by
  refine x_make ?_
  have e : (fun (vs : List V) (H1 : Hp) => Kmake C sp vs H1 Q E) = fun vs H1 => KMk C sp vs H1 Q E := by
    funext vs H1
    unfold Kmake KMk
    simp only [List.append_nil]
  rw [e]
  exact h⟩
instance i_makeD {d : V} {ds : List V} : St1 (tMake C sp (d :: ds) E tl σ H Q) (tl σ H fun vs H1 => KmakeD C sp (vs ++ d :: ds) H1 Q E) := ⟨x_makeD⟩
instance i_mkG [F : FH H L] : St1 (KMk C sp vs H Q E) (∀ x dx H', FH H' ((x, Is (.ins C dx [])) :: L) → sp (.ref x :: vs) H' (fun v H2 => v = .non ∧ Q (.ref x) H2) E) := ⟨fun h x dx hx hd ne => h x dx _ ((F.other hd).new (by rw [upd_ne (Ne.symm ne)]; exact hx))⟩
instance i_mkDG {ws : List V} [F : FH H L] [ap : AppE xs ys ws] : St1 (KmakeD C sp (xs ++ ys) H Q E) (∀ x dx H', FH H' ((x, Is (.ins C dx [])) :: L) → sp (.ref x :: ws) H' (fun v H2 => v = .non ∧ Q (.ref x) H2) E) := ⟨fun h => x_makeDG F ap.e h⟩
instance i_newSG [F : FH H L] : St1 (KnewS C sp vs H Q E) (∀ x dx H', FH H' ((x, Is (.ins C dx [])) :: L) → sp (.ref x :: vs) H' (fun v H2 => v = .non ∧ Q (.ref x) H2) E) := ⟨fun h => x_newSG F h⟩
/-! objects -/
def KFl (C : Addr) (f : Str) (x : V) (H1 : Hp) (Q : VK) : Prop := ∃ a dx fs v, x = .ref a ∧ H1 a = some (.ins C dx fs) ∧ fs.lookup f = some v ∧ Q v H1
instance i_fld : St1 (eFld C f te σ H Q) (te σ H fun x H1 => KFl C f x H1 Q) := ⟨id⟩
instance i_fldG [F : FH H L] [a : Mm (p, Is (.ins C dx fs)) L] [l : LookF fs f v] : St1 (KFl C f (.ref p) H Q) (Q v H) := ⟨fun h => ⟨p, dx, fs, v, rfl, F.get a.m, l.l, h⟩⟩
def KFlD (Cs : List Addr) (f : Str) (x : V) (H1 : Hp) (Q : VK) : Prop := ∃ a C dx fs v, x = .ref a ∧ H1 a = some (.ins C dx fs) ∧ C ∈ Cs ∧ fs.lookup f = some v ∧ Q v H1
instance i_fldD : St1 (eFldD Cs f te σ H Q) (te σ H fun x H1 => KFlD Cs f x H1 Q) := ⟨id⟩
instance i_fldDG [F : FH H L] [a : Mm (p, Is (.ins C dx fs)) L] [c : Mm C Cs] [l : LookF fs f v] : St1 (KFlD Cs f (.ref p) H Q) (Q v H) := ⟨fun h => ⟨p, C, dx, fs, v, rfl, F.get a.m, c.m, l.l, h⟩⟩
def KSf (C : Addr) (f : Str) (y x : V) (H2 : Hp) (QH : Hp → Prop) : Prop := ∃ a dx fs, x = .ref a ∧ H2 a = some (.ins C dx fs) ∧ fs.length < 1000 ∧ QH (upd H2 a (.ins C dx (putF f y fs)))
instance i_setF : St1 (sSetF C f te tb ⟨nx, rt, bk, ct⟩ σ H) (tb σ H fun y H1 => te σ H1 fun x H2 => KSf C f y x H2 (nx σ)) := ⟨id⟩
instance i_setFG {QH : Hp → Prop} [F : FH H L] [a : Mm (p, Is (.ins C dx fs)) L] [z : Shr 60 fs] [e : PutFd f y fs fs'] [u : PutE p (Is (.ins C dx fs)) (Is (.ins C dx fs')) L L'] : St1 (KSf C f y (.ref p) H QH) (∀ H', FH H' L' → QH H') :=
  ⟨fun h => ⟨p, dx, fs, rfl, F.get a.m, Nat.lt_of_le_of_lt z.l (by decide), by rw [e.e]; exact h _ (F.put u.pu trivial)⟩⟩
def KSfD (Cs : List Addr) (f : Str) (y x : V) (H2 : Hp) (QH : Hp → Prop) : Prop := ∃ a C dx fs, x = .ref a ∧ H2 a = some (.ins C dx fs) ∧ C ∈ Cs ∧ fs.length < 1000 ∧ QH (upd H2 a (.ins C dx (putF f y fs)))
instance i_setFD : St1 (sSetFD Cs f te tb ⟨nx, rt, bk, ct⟩ σ H) (tb σ H fun y H1 => te σ H1 fun x H2 => KSfD Cs f y x H2 (nx σ)) := ⟨id⟩
instance i_setFDG {QH : Hp → Prop} [F : FH H L] [a : Mm (p, Is (.ins C dx fs)) L] [c : Mm C Cs] [z : Shr 60 fs] [e : PutFd f y fs fs'] [u : PutE p (Is (.ins C dx fs)) (Is (.ins C dx fs')) L L'] : St1 (KSfD Cs f y (.ref p) H QH) (∀ H', FH H' L' → QH H') :=
  ⟨fun h => ⟨p, C, dx, fs, rfl, F.get a.m, c.m, Nat.lt_of_le_of_lt z.l (by decide), by rw [e.e]; exact h _ (F.put u.pu trivial)⟩⟩
def KAf (C : Addr) (f : Str) (x : V) (H1 : Hp) (QAV : Addr → V → Prop) : Prop := ∃ a dx fs v, x = .ref a ∧ H1 a = some (.ins C dx fs) ∧ fs.lookup f = some v ∧ QAV a v
def KAs (C : Addr) (f : Str) (a : Addr) (z : V) (H3 : Hp) (QH : Hp → Prop) : Prop := ∃ dx' fs', H3 a = some (.ins C dx' fs') ∧ fs'.length < 1000 ∧ QH (upd H3 a (.ins C dx' (putF f z fs')))
instance i_augF {rd : V → V → Hp → VK → Prop} : St1 (sAugF C f te tb rd ⟨nx, rt, bk, ct⟩ σ H) (te σ H fun x H1 => KAf C f x H1 fun a v => tb σ H1 fun y H2 => rd v y H2 fun z H3 => KAs C f a z H3 (nx σ)) := ⟨id⟩
instance i_augFG {QAV : Addr → V → Prop} [F : FH H L] [a : Mm (p, Is (.ins C dx fs)) L] [l : LookF fs f v] : St1 (KAf C f (.ref p) H QAV) (QAV p v) := ⟨fun h => ⟨p, dx, fs, v, rfl, F.get a.m, l.l, h⟩⟩
instance i_augS2 {QH : Hp → Prop} [F : FH H L] [a : Mm (p, Is (.ins C dx fs)) L] [z : Shr 60 fs] [e : PutFd f y fs fs'] [u : PutE p (Is (.ins C dx fs)) (Is (.ins C dx fs')) L L'] : St1 (KAs C f p y H QH) (∀ H', FH H' L' → QH H') :=
  ⟨fun h => ⟨dx, fs, F.get a.m, Nat.lt_of_le_of_lt z.l (by decide), by rw [e.e]; exact h _ (F.put u.pu trivial)⟩⟩
def KAfD (Cs : List Addr) (f : Str) (x : V) (H1 : Hp) (QAV : Addr → Addr → V → Prop) : Prop := ∃ a C dx fs v, x = .ref a ∧ H1 a = some (.ins C dx fs) ∧ C ∈ Cs ∧ fs.lookup f = some v ∧ QAV a C v
instance i_augFD {rd : V → V → Hp → VK → Prop} : St1 (sAugFD Cs f te tb rd ⟨nx, rt, bk, ct⟩ σ H) (te σ H fun x H1 => KAfD Cs f x H1 fun a C v => tb σ H1 fun y H2 => rd v y H2 fun z H3 => KAs C f a z H3 (nx σ)) := ⟨id⟩
instance i_augFDG {QAV : Addr → Addr → V → Prop} [F : FH H L] [a : Mm (p, Is (.ins C dx fs)) L] [c : Mm C Cs] [l : LookF fs f v] : St1 (KAfD Cs f (.ref p) H QAV) (QAV p C v) := ⟨fun h => ⟨p, C, dx, fs, v, rfl, F.get a.m, c.m, l.l, h⟩⟩
def KMe (C : Addr) (m : Str) (x : V) (H1 : Hp) (B : Prop) : Prop := ∃ a dx fs, x = .ref a ∧ H1 a = some (.ins C dx fs) ∧ fs.lookup m = none ∧ B
theorem sp_app2 {x : V} : (fun (vs : List V) (H2 : Hp) => sp (x :: (vs ++ [])) H2 Q E) = fun vs H2 => sp (x :: vs) H2 Q E := by
  funext vs H1
  rw [List.append_nil]
instance i_meth : St1 (tMeth C m sp [] E ta tl σ H Q) (ta σ H fun x H1 => KMe C m x H1 (tl σ H1 fun vs H2 => sp (x :: vs) H2 Q E)) := ⟨fun h => by
  refine x_meth ?_
  have e : (fun x H1 => KMe C m x H1 (tl σ H1 fun vs H2 => sp (x :: vs) H2 Q E)) = fun x H1 => ∃ a dx fs, x = .ref a ∧ H1 a = some (.ins C dx fs) ∧ fs.lookup m = none ∧ tl σ H1 fun vs H2 => sp (x :: (vs ++ [])) H2 Q E := by
    funext x H1
    rw [sp_app2]
    rfl
  rw [← e]
  exact h⟩
instance i_methG [F : FH H L] [a : Mm (p, Is (.ins C dx fs)) L] [l : NoF fs m] : St1 (KMe C m (.ref p) H B) B := ⟨fun h => ⟨p, dx, fs, rfl, F.get a.m, l.l, h⟩⟩
instance i_mS {ES : L2.St → XK} : St1 (tMS C m sp ES ta tl σ H Q) (ta σ H fun x H1 => KMe C m x H1 (tl σ H1 fun vs H2 => sp (x :: vs) H2 Q (ES σ))) := ⟨id⟩
def KMD (ls : List (Addr × Sp)) (m : Str) (x : V) (H1 : Hp) (B : Sp → Prop) : Prop := ∃ a C dx fs sp, x = .ref a ∧ H1 a = some (.ins C dx fs) ∧ (C, sp) ∈ ls ∧ fs.lookup m = none ∧ B sp
instance i_mD {ES : L2.St → XK} : St1 (tMD ls m ES ta tl σ H Q) (ta σ H fun x H1 => KMD ls m x H1 fun sp => tl σ H1 fun vs H2 => sp (x :: vs) H2 Q (ES σ)) := ⟨id⟩
instance i_mDG {B : Sp → Prop} [F : FH H L] [a : Mm (p, Is (.ins C dx fs)) L] [c : Mm (C, sp) ls] [l : NoF fs m] : St1 (KMD ls m (.ref p) H B) (B sp) := ⟨fun h => ⟨p, C, dx, fs, sp, rfl, F.get a.m, c.m, l.l, h⟩⟩
def KPr (C : Addr) (x : V) (H1 : Hp) (B : Addr → Prop) : Prop := ∃ a dx fs, x = .ref a ∧ H1 a = some (.ins C dx fs) ∧ B a
instance i_prop : St1 (eProp C sp te σ H Q) (te σ H fun x H1 => KPr C x H1 fun a => sp [.ref a] H1 Q E0) := ⟨id⟩
instance i_propG {B : Addr → Prop} [F : FH H L] [a : Mm (p, Is (.ins C dx fs)) L] : St1 (KPr C (.ref p) H B) (B p) := ⟨fun h => ⟨p, dx, fs, rfl, F.get a.m, h⟩⟩
def KPrD (ls : List (Addr × Sp)) (x : V) (H1 : Hp) (B : Addr → Sp → Prop) : Prop := ∃ a C dx fs sp, x = .ref a ∧ H1 a = some (.ins C dx fs) ∧ (C, sp) ∈ ls ∧ B a sp
instance i_propD : St1 (ePropD ls te σ H Q) (te σ H fun x H1 => KPrD ls x H1 fun a sp => sp [.ref a] H1 Q E0) := ⟨id⟩
instance i_propDG {B : Addr → Sp → Prop} [F : FH H L] [a : Mm (p, Is (.ins C dx fs)) L] [c : Mm (C, sp) ls] : St1 (KPrD ls (.ref p) H B) (B p sp) := ⟨fun h => ⟨p, C, dx, fs, sp, rfl, F.get a.m, c.m, h⟩⟩
instance i_supM [F : FH H L] [a : Mm (p, Is (.ins C dx fs)) L] [c : Mm C Cs] : St1 (tSupM Cs sp E tl (some (.ref p) :: σ) H Q) (tl (some (.ref p) :: σ) H fun vs H1 => sp (.ref p :: vs) H1 Q E) := ⟨fun h => x_supM F a.m c.m h⟩
instance i_inOwnF [F : FH H L] [a : Mm (p, Is (.ins C dx fs)) L] : St1 (rInOwn C false sp E y (.ref p) H Q) (sp [.ref p, y] H (fun v H' => KBl v fun b => Q (.bl b) H') E) := ⟨fun h => x_inOwnF F a.m h⟩
instance i_inOwnT [F : FH H L] [a : Mm (p, Is (.ins C dx fs)) L] : St1 (rInOwn C true sp E y (.ref p) H Q) (sp [.ref p, y] H (fun v H' => KBl v fun b => Q (.bl (!b)) H') E) := ⟨fun h => x_inOwnT F a.m h⟩
/-! lists and tuples -/
instance i_ixL [F : FH H L] [a : Mm (p, Is (.lst xs)) L] [e : AtE xs i v] : St1 (rIx S (.ref p) (.int i) H Q) (Q v H) := ⟨fun h => x_ixL F a.m e.e h⟩
instance i_ixT [F : FH H L] [a : Mm (p, Is (.tup xs)) L] [e : AtE xs i v] : St1 (rIx S (.ref p) (.int i) H Q) (Q v H) := ⟨fun h => x_ixT F a.m e.e h⟩
instance i_getL [F : FH H L] [a : Mm (p, Is (.lst xs)) L] [e : AtE xs i v] : St1 (rGetL (.ref p) (.int i) H Q) (Q v H) := ⟨fun h => x_getL F a.m e.e h⟩
instance i_setL {QH : Hp → Prop} [F : FH H L] [a : Mm (p, Is (.lst xs)) L] [e : SetE xs i v ys] [u : PutE p (Is (.lst xs)) (Is (.lst ys)) L L'] : St1 (rSetL (.ref p) (.int i) v H QH) (∀ H', FH H' L' → QH H') := ⟨fun h => by
  obtain ⟨k, e1, e2⟩ := e.e
  subst e2
  exact x_setL F a.m e1 u.pu h⟩
instance i_lstG [F : FH H L] [z : Shr 100 xs] : St1 (Klst xs H Q) (∀ p H', H p = none → FH H' ((p, Is (.lst xs)) :: L) → Q (.ref p) H') := ⟨fun h => x_lstG F (len_leN (Nat.le_trans z.l (by decide))) h⟩
instance i_tupG [F : FH H L] [z : Shr 100 xs] : St1 (Ktup xs H Q) (∀ p H', H p = none → FH H' ((p, Is (.tup xs)) :: L) → Q (.ref p) H') := ⟨fun h => x_tupG F (len_leN (Nat.le_trans z.l (by decide))) h⟩
def KAp (x : V) (H1 : Hp) (B : Prop) : Prop := ∃ l, x = .ref l ∧ (∃ xs, H1 l = some (.lst xs)) ∧ B
instance i_apd : St1 (eApp te tl σ H Q) (te σ H fun x H1 => KAp x H1 (tl σ H1 fun vs H2 => rAppend x vs H2 Q)) := ⟨id⟩
instance i_apdG [F : FH H L] [a : Mm (p, Is (.lst xs)) L] : St1 (KAp (.ref p) H B) B := ⟨fun h => ⟨p, rfl, ⟨xs, F.get a.m⟩, h⟩⟩
instance i_append [F : FH H L] [a : Mm (p, Is (.lst xs)) L] [z : Shr 100 xs] [e : AppE xs [v] ys] [u : PutE p (Is (.lst xs)) (Is (.lst ys)) L L'] : St1 (rAppend (.ref p) [v] H Q) (∀ H', FH H' L' → Q .non H') := ⟨fun h => by
  have e1 := e.e
  subst e1
  exact x_append F a.m (len_ltN (Nat.lt_of_le_of_lt z.l (by decide))) u.pu h⟩
instance i_lcPut {D : Addr} {z : V} {k : Hp → Prop} [F : FH H L] [a : Mm (D, Is (.lst xs)) L] [s : Shr 100 xs] [e : AppE xs [z] ys] [u : PutE D (Is (.lst xs)) (Is (.lst ys)) L L'] : St1 (lcPut D z k H) (∀ H', FH H' L' → k H') := ⟨fun h => by
  have e1 := e.e
  subst e1
  exact x_lcPut F u.pu (Nat.lt_of_le_of_lt s.l (by decide)) h⟩
instance i_wipe {σ2 σw : L2.St} {vs : List Nat} [e : WipeE σ2 vs σw] : St1 (wipe σ2 vs = σw ∧ A) A := ⟨fun h => ⟨e.e, h⟩⟩
instance i_rdT [F : FH H L] [a : Mm (p, Is (.tup xs)) L] : St1 (RdS S H p (.tup xs) ∧ A) A := ⟨fun h => x_rdT F a.m h⟩
instance i_rdL [F : FH H L] [a : Mm (p, Is (.lst xs)) L] : St1 (RdS S H p (.lst xs) ∧ A) A := ⟨fun h => x_rdL F a.m h⟩
instance i_forTU [F : FH H L] [a : Mm (p, Is (.tup xs)) L] : St1 (ForS S g s1 nx rt (.ref p) σ H) (forKS S p (.tup xs) g s1 nx nx rt xs σ H) := ⟨fun h => forTU F a.m h⟩
instance i_lenL [F : FH H L] [a : Mm (p, Is (.lst xs)) L] [n : LenE xs k] : St1 (rLen S [.ref p] H Q) (Q (.int (k : Int)) H) := ⟨fun h => x_lenL F a.m (by rw [n.e]; exact h)⟩
instance i_lenT [F : FH H L] [a : Mm (p, Is (.tup xs)) L] [n : LenE xs k] : St1 (rLen S [.ref p] H Q) (Q (.int (k : Int)) H) := ⟨fun h => x_lenT F a.m (by rw [n.e]; exact h)⟩
instance i_listL [F : FH H L] [a : Mm (p, Is (.lst xs)) L] : St1 (rListOf S [.ref p] H Q) (∀ r H', H r = none → FH H' ((r, Is (.lst xs)) :: L) → Q (.ref r) H') := ⟨fun h => x_listL F a.m h⟩
instance i_listT [F : FH H L] [a : Mm (p, Is (.tup xs)) L] : St1 (rListOf S [.ref p] H Q) (∀ r H', H r = none → FH H' ((r, Is (.lst xs)) :: L) → Q (.ref r) H') := ⟨fun h => x_listT F a.m h⟩
instance i_tupleL [F : FH H L] [a : Mm (p, Is (.lst xs)) L] : St1 (rTupleOf S [.ref p] H Q) (∀ r H', H r = none → FH H' ((r, Is (.tup xs)) :: L) → Q (.ref r) H') := ⟨fun h => x_tupleL F a.m h⟩
instance i_tupleT [F : FH H L] [a : Mm (p, Is (.tup xs)) L] : St1 (rTupleOf S [.ref p] H Q) (Q (.ref p) H) := ⟨fun h => x_tupleT F a.m h⟩
instance i_cat {q : Addr} [F : FH H L] [a : Mm (p, Is (.lst xs)) L] [c : Mm (q, Is (.lst ys)) L] [s1 : Shr 100 xs] [s2 : Shr 100 ys] [e : AppE xs ys zs] : St1 (rAdd (.ref p) (.ref q) H Q) (∀ r H', H r = none → FH H' ((r, Is (.lst zs)) :: L) → Q (.ref r) H') := ⟨fun h => by
  have e1 := e.e
  subst e1
  exact x_cat F a.m c.m (len_leN (by rw [List.length_append]; exact Nat.le_trans (Nat.add_le_add s1.l s2.l) (by decide))) h⟩
instance i_allT [F : FH H L] [a : Mm (p, AllT) L] : St1 (rAll S [.ref p] H Q) (Q (.bl true) H) := ⟨fun h => x_allT F a.m h⟩
instance i_eqLs {q : Addr} {ns : List Int} [F : FH H L] [a : Mm (p, Is (.lst (ns.map V.int))) L] [b : Mm (q, Is (.lst (ns.map V.int))) L] : St1 (rEqP S (.ref p) (.ref q) H Q) (Q (.bl true) H) := ⟨fun h => x_eqPL F a.m b.m flat_ints flat_ints (by rw [eqv_ints, decide_eq_true rfl]) h⟩
instance i_neLs {q : Addr} {ns : List Int} [F : FH H L] [a : Mm (p, Is (.lst (ns.map V.int))) L] [b : Mm (q, Is (.lst (ns.map V.int))) L] : St1 (rNeP S (.ref p) (.ref q) H Q) (Q (.bl false) H) := ⟨fun h => x_nePL (b := true) F a.m b.m flat_ints flat_ints (by rw [eqv_ints, decide_eq_true rfl]) h⟩
instance (priority := 2000) i_eqPIs : St1 (rEqP S (.int i) (.int i) H Q) (Q (.bl true) H) := ⟨fun h => x_eqPI (by rw [decide_eq_true rfl]; exact h)⟩
instance (priority := 2000) i_nePIs : St1 (rNeP S (.int i) (.int i) H Q) (Q (.bl false) H) := ⟨fun h => x_nePI (by rw [decide_eq_false (fun z => z rfl)]; exact h)⟩
instance (priority := 2000) i_eqPBs : St1 (rEqP S (.bl b) (.bl b) H Q) (Q (.bl true) H) := ⟨fun h => x_eqPB (by rw [decide_eq_true rfl]; exact h)⟩
instance (priority := 2000) i_nePBs : St1 (rNeP S (.bl b) (.bl b) H Q) (Q (.bl false) H) := ⟨fun h => x_nePB (by rw [decide_eq_false (fun z => z rfl)]; exact h)⟩
instance i_eqPSd {a b : Str} [n : NeS a b] : St1 (rEqP S (.str a) (.str b) H Q) (Q (.bl false) H) := ⟨fun h => x_eqPSd n.ne h⟩
instance i_nePSd {a b : Str} [n : NeS a b] : St1 (rNeP S (.str a) (.str b) H Q) (Q (.bl true) H) := ⟨fun h => x_nePSd n.ne h⟩
/-! errors -/
instance i_mkC1 {C : Addr} {f : Str} [F : FH H L] : St1 (KmkC C [f] E [v] H) (∀ d H', FH H' ((d, Is (.xd [(f, v)])) :: L) → E (.ref C) (some d) H') := ⟨fun h => x_mkC1 F h⟩
instance i_mkC2 {C : Addr} {f g : Str} {w : V} [F : FH H L] : St1 (KmkC C [f, g] E [v, w] H) (∀ d H', FH H' ((d, Is (.xd [(g, w), (f, v)])) :: L) → E (.ref C) (some d) H') := ⟨fun h => x_mkC2 F h⟩
def KXf (b : Addr) (cls : Value) (d : Option Addr) (Cs : List Addr) (f : Str) (x : V) (H1 : Hp) (Q : VK) : Prop := x = .ref b ∧ ∃ C, C ∈ Cs ∧ cls = .ref C ∧ ∃ (dd : Addr) (fs : List (Str × V)) (v : V), d = some dd ∧ H1 dd = some (.xd fs) ∧ fs.lookup f = some v ∧ Q v H1
instance i_xf {b : Addr} {cls : Value} {d : Option Addr} : St1 (eXf b cls d Cs f te σ H Q) (te σ H fun x H1 => KXf b cls d Cs f x H1 Q) := ⟨id⟩
instance i_xfG {b C : Addr} [F : FH H L] [a : Mm (p, Is (.xd fs)) L] [c : Mm C Cs] [l : LookF fs f v] : St1 (KXf b (.ref C) (some p) Cs f (.ref b) H Q) (Q v H) := ⟨fun h => ⟨rfl, C, c.m, rfl, p, fs, v, rfl, F.get a.m, l.l, h⟩⟩
instance i_isX {b C : Addr} {tbl : List (Value × V × Bool)} {c : V} {k : Bool} [F : FH H L] [a : Mm (p, Is (.xd fs)) L] [n : Mm (Value.ref C, c, k) tbl] : St1 (rIsX tbl b (.ref C) (some p) [.ref b, c] H Q) (Q (.bl k) H) := ⟨fun h => x_isX F a.m n.m h⟩
instance i_isr_list_int [F : FH H L] [a : Mm (p, Is (.lst xs)) L] : St1 (rIsI [.ref p, .ty "int"] H Q) (Q (.bl false) H) := ⟨fun h => x_isr_list_int F a.m h⟩
instance i_isr_list_bool [F : FH H L] [a : Mm (p, Is (.lst xs)) L] : St1 (rIsI [.ref p, .ty "bool"] H Q) (Q (.bl false) H) := ⟨fun h => x_isr_list_bool F a.m h⟩
instance i_isr_list_str [F : FH H L] [a : Mm (p, Is (.lst xs)) L] : St1 (rIsI [.ref p, .ty "str"] H Q) (Q (.bl false) H) := ⟨fun h => x_isr_list_str F a.m h⟩
instance i_isr_list_list [F : FH H L] [a : Mm (p, Is (.lst xs)) L] : St1 (rIsI [.ref p, .ty "list"] H Q) (Q (.bl true) H) := ⟨fun h => x_isr_list_list F a.m h⟩
instance i_isr_list_tuple [F : FH H L] [a : Mm (p, Is (.lst xs)) L] : St1 (rIsI [.ref p, .ty "tuple"] H Q) (Q (.bl false) H) := ⟨fun h => x_isr_list_tuple F a.m h⟩
instance i_isr_list_dict [F : FH H L] [a : Mm (p, Is (.lst xs)) L] : St1 (rIsI [.ref p, .ty "dict"] H Q) (Q (.bl false) H) := ⟨fun h => x_isr_list_dict F a.m h⟩
instance i_isr_tuple_int [F : FH H L] [a : Mm (p, Is (.tup xs)) L] : St1 (rIsI [.ref p, .ty "int"] H Q) (Q (.bl false) H) := ⟨fun h => x_isr_tuple_int F a.m h⟩
instance i_isr_tuple_bool [F : FH H L] [a : Mm (p, Is (.tup xs)) L] : St1 (rIsI [.ref p, .ty "bool"] H Q) (Q (.bl false) H) := ⟨fun h => x_isr_tuple_bool F a.m h⟩
instance i_isr_tuple_str [F : FH H L] [a : Mm (p, Is (.tup xs)) L] : St1 (rIsI [.ref p, .ty "str"] H Q) (Q (.bl false) H) := ⟨fun h => x_isr_tuple_str F a.m h⟩
instance i_isr_tuple_list [F : FH H L] [a : Mm (p, Is (.tup xs)) L] : St1 (rIsI [.ref p, .ty "list"] H Q) (Q (.bl false) H) := ⟨fun h => x_isr_tuple_list F a.m h⟩
instance i_isr_tuple_tuple [F : FH H L] [a : Mm (p, Is (.tup xs)) L] : St1 (rIsI [.ref p, .ty "tuple"] H Q) (Q (.bl true) H) := ⟨fun h => x_isr_tuple_tuple F a.m h⟩
instance i_isr_tuple_dict [F : FH H L] [a : Mm (p, Is (.tup xs)) L] : St1 (rIsI [.ref p, .ty "dict"] H Q) (Q (.bl false) H) := ⟨fun h => x_isr_tuple_dict F a.m h⟩
instance i_slp1 {b0 : V} [F : FH H L] [a : Mm (p, Is (.lst (b0 :: xs))) L] : St1 (rSl S (.ref p) none (some 1) H Q) (∀ q H', H q = none → FH H' ((q, Is (.lst [b0])) :: L) → Q (.ref q) H') := ⟨fun h => x_slL F a.m (by rw [show cutV (b0 :: xs) none (some 1) = [b0] from cutV_pre (ys := [b0]) (n := 1) rfl]; exact h)⟩
instance i_slp2 {b0 b1 : V} [F : FH H L] [a : Mm (p, Is (.lst (b0 :: b1 :: xs))) L] : St1 (rSl S (.ref p) none (some 2) H Q) (∀ q H', H q = none → FH H' ((q, Is (.lst [b0, b1])) :: L) → Q (.ref q) H') := ⟨fun h => x_slL F a.m (by rw [show cutV (b0 :: b1 :: xs) none (some 2) = [b0, b1] from cutV_pre (ys := [b0, b1]) (n := 2) rfl]; exact h)⟩
instance i_slp3 {b0 b1 b2 : V} [F : FH H L] [a : Mm (p, Is (.lst (b0 :: b1 :: b2 :: xs))) L] : St1 (rSl S (.ref p) none (some 3) H Q) (∀ q H', H q = none → FH H' ((q, Is (.lst [b0, b1, b2])) :: L) → Q (.ref q) H') := ⟨fun h => x_slL F a.m (by rw [show cutV (b0 :: b1 :: b2 :: xs) none (some 3) = [b0, b1, b2] from cutV_pre (ys := [b0, b1, b2]) (n := 3) rfl]; exact h)⟩
instance i_slp4 {b0 b1 b2 b3 : V} [F : FH H L] [a : Mm (p, Is (.lst (b0 :: b1 :: b2 :: b3 :: xs))) L] : St1 (rSl S (.ref p) none (some 4) H Q) (∀ q H', H q = none → FH H' ((q, Is (.lst [b0, b1, b2, b3])) :: L) → Q (.ref q) H') := ⟨fun h => x_slL F a.m (by rw [show cutV (b0 :: b1 :: b2 :: b3 :: xs) none (some 4) = [b0, b1, b2, b3] from cutV_pre (ys := [b0, b1, b2, b3]) (n := 4) rfl]; exact h)⟩
instance i_slp5 {b0 b1 b2 b3 b4 : V} [F : FH H L] [a : Mm (p, Is (.lst (b0 :: b1 :: b2 :: b3 :: b4 :: xs))) L] : St1 (rSl S (.ref p) none (some 5) H Q) (∀ q H', H q = none → FH H' ((q, Is (.lst [b0, b1, b2, b3, b4])) :: L) → Q (.ref q) H') := ⟨fun h => x_slL F a.m (by rw [show cutV (b0 :: b1 :: b2 :: b3 :: b4 :: xs) none (some 5) = [b0, b1, b2, b3, b4] from cutV_pre (ys := [b0, b1, b2, b3, b4]) (n := 5) rfl]; exact h)⟩
instance i_slp6 {b0 b1 b2 b3 b4 b5 : V} [F : FH H L] [a : Mm (p, Is (.lst (b0 :: b1 :: b2 :: b3 :: b4 :: b5 :: xs))) L] : St1 (rSl S (.ref p) none (some 6) H Q) (∀ q H', H q = none → FH H' ((q, Is (.lst [b0, b1, b2, b3, b4, b5])) :: L) → Q (.ref q) H') := ⟨fun h => x_slL F a.m (by rw [show cutV (b0 :: b1 :: b2 :: b3 :: b4 :: b5 :: xs) none (some 6) = [b0, b1, b2, b3, b4, b5] from cutV_pre (ys := [b0, b1, b2, b3, b4, b5]) (n := 6) rfl]; exact h)⟩
instance i_slp7 {b0 b1 b2 b3 b4 b5 b6 : V} [F : FH H L] [a : Mm (p, Is (.lst (b0 :: b1 :: b2 :: b3 :: b4 :: b5 :: b6 :: xs))) L] : St1 (rSl S (.ref p) none (some 7) H Q) (∀ q H', H q = none → FH H' ((q, Is (.lst [b0, b1, b2, b3, b4, b5, b6])) :: L) → Q (.ref q) H') := ⟨fun h => x_slL F a.m (by rw [show cutV (b0 :: b1 :: b2 :: b3 :: b4 :: b5 :: b6 :: xs) none (some 7) = [b0, b1, b2, b3, b4, b5, b6] from cutV_pre (ys := [b0, b1, b2, b3, b4, b5, b6]) (n := 7) rfl]; exact h)⟩
instance i_slp8 {b0 b1 b2 b3 b4 b5 b6 b7 : V} [F : FH H L] [a : Mm (p, Is (.lst (b0 :: b1 :: b2 :: b3 :: b4 :: b5 :: b6 :: b7 :: xs))) L] : St1 (rSl S (.ref p) none (some 8) H Q) (∀ q H', H q = none → FH H' ((q, Is (.lst [b0, b1, b2, b3, b4, b5, b6, b7])) :: L) → Q (.ref q) H') := ⟨fun h => x_slL F a.m (by rw [show cutV (b0 :: b1 :: b2 :: b3 :: b4 :: b5 :: b6 :: b7 :: xs) none (some 8) = [b0, b1, b2, b3, b4, b5, b6, b7] from cutV_pre (ys := [b0, b1, b2, b3, b4, b5, b6, b7]) (n := 8) rfl]; exact h)⟩
instance i_slp9 {b0 b1 b2 b3 b4 b5 b6 b7 b8 : V} [F : FH H L] [a : Mm (p, Is (.lst (b0 :: b1 :: b2 :: b3 :: b4 :: b5 :: b6 :: b7 :: b8 :: xs))) L] : St1 (rSl S (.ref p) none (some 9) H Q) (∀ q H', H q = none → FH H' ((q, Is (.lst [b0, b1, b2, b3, b4, b5, b6, b7, b8])) :: L) → Q (.ref q) H') := ⟨fun h => x_slL F a.m (by rw [show cutV (b0 :: b1 :: b2 :: b3 :: b4 :: b5 :: b6 :: b7 :: b8 :: xs) none (some 9) = [b0, b1, b2, b3, b4, b5, b6, b7, b8] from cutV_pre (ys := [b0, b1, b2, b3, b4, b5, b6, b7, b8]) (n := 9) rfl]; exact h)⟩
instance i_slp10 {b0 b1 b2 b3 b4 b5 b6 b7 b8 b9 : V} [F : FH H L] [a : Mm (p, Is (.lst (b0 :: b1 :: b2 :: b3 :: b4 :: b5 :: b6 :: b7 :: b8 :: b9 :: xs))) L] : St1 (rSl S (.ref p) none (some 10) H Q) (∀ q H', H q = none → FH H' ((q, Is (.lst [b0, b1, b2, b3, b4, b5, b6, b7, b8, b9])) :: L) → Q (.ref q) H') := ⟨fun h => x_slL F a.m (by rw [show cutV (b0 :: b1 :: b2 :: b3 :: b4 :: b5 :: b6 :: b7 :: b8 :: b9 :: xs) none (some 10) = [b0, b1, b2, b3, b4, b5, b6, b7, b8, b9] from cutV_pre (ys := [b0, b1, b2, b3, b4, b5, b6, b7, b8, b9]) (n := 10) rfl]; exact h)⟩
instance i_slp11 {b0 b1 b2 b3 b4 b5 b6 b7 b8 b9 b10 : V} [F : FH H L] [a : Mm (p, Is (.lst (b0 :: b1 :: b2 :: b3 :: b4 :: b5 :: b6 :: b7 :: b8 :: b9 :: b10 :: xs))) L] : St1 (rSl S (.ref p) none (some 11) H Q) (∀ q H', H q = none → FH H' ((q, Is (.lst [b0, b1, b2, b3, b4, b5, b6, b7, b8, b9, b10])) :: L) → Q (.ref q) H') := ⟨fun h => x_slL F a.m (by rw [show cutV (b0 :: b1 :: b2 :: b3 :: b4 :: b5 :: b6 :: b7 :: b8 :: b9 :: b10 :: xs) none (some 11) = [b0, b1, b2, b3, b4, b5, b6, b7, b8, b9, b10] from cutV_pre (ys := [b0, b1, b2, b3, b4, b5, b6, b7, b8, b9, b10]) (n := 11) rfl]; exact h)⟩
instance i_slp12 {b0 b1 b2 b3 b4 b5 b6 b7 b8 b9 b10 b11 : V} [F : FH H L] [a : Mm (p, Is (.lst (b0 :: b1 :: b2 :: b3 :: b4 :: b5 :: b6 :: b7 :: b8 :: b9 :: b10 :: b11 :: xs))) L] : St1 (rSl S (.ref p) none (some 12) H Q) (∀ q H', H q = none → FH H' ((q, Is (.lst [b0, b1, b2, b3, b4, b5, b6, b7, b8, b9, b10, b11])) :: L) → Q (.ref q) H') := ⟨fun h => x_slL F a.m (by rw [show cutV (b0 :: b1 :: b2 :: b3 :: b4 :: b5 :: b6 :: b7 :: b8 :: b9 :: b10 :: b11 :: xs) none (some 12) = [b0, b1, b2, b3, b4, b5, b6, b7, b8, b9, b10, b11] from cutV_pre (ys := [b0, b1, b2, b3, b4, b5, b6, b7, b8, b9, b10, b11]) (n := 12) rfl]; exact h)⟩
instance i_sl1 {b0 : V} [F : FH H L] [a : Mm (p, Is (.lst (b0 :: xs))) L] : St1 (rSl S (.ref p) (some 1) none H Q) (∀ q H', H q = none → FH H' ((q, Is (.lst xs)) :: L) → Q (.ref q) H') := ⟨fun h => x_sl1 F a.m h⟩
/-! enumerate; isinstance of several types; insert; messages; dicts without a key -/
instance i_forEn {gi gj : TG} : St1 (sForEn S te gi gj s1 ⟨nx, rt, bk, ct⟩ σ H) (te σ H fun x H1 => EnS S gi gj s1 nx rt x σ H1) := ⟨id⟩
theorem enL {gi gj : TG} (Pv : Nat → L2.St → Prop) (F : FH H L) (m : (p, Is (.lst xs)) ∈ L ∨ (p, Is (.tup xs)) ∈ L) (h0 : Pv 0 σ)
    (hs : ∀ (i : Nat) y σ H, xs[i]? = some y → Pv i σ → FH H L → gi (.int (i : Int)) σ H fun σ' H' => gj y σ' H' fun σ2 H2 => s1 ⟨fun σ H => Pv (i + 1) σ ∧ FH H L, rt, nx, fun σ H => Pv (i + 1) σ ∧ FH H L⟩ σ2 H2) (hd : ∀ σ H, Pv xs.length σ → FH H L → nx σ H) : EnS S gi gj s1 nx rt (.ref p) σ H := by
  refine ⟨p, xs, rfl, fun i σ H => Pv i σ ∧ FH H L, ⟨h0, F⟩, ?_, fun i y σ H T e q hT => hs i y σ _ e q.1 (q.2.other hT), fun σ H q => hd σ H q.1 q.2⟩
  rcases m with m | m
  · exact .inl fun i H _ ⟨σ, q⟩ => .inl (.inl (q.2.get m))
  · exact .inr fun i H _ ⟨σ, q⟩ => .inl (.inl (q.2.get m))
instance i_dnew [F : FH H L] : St1 (tDNewK σ H Q) (∀ p H', FH H' ((p, Is (.dK [])) :: L) → Q (.ref p) H') := ⟨fun h p hp => h p _ (F.new hp)⟩
def KFm (vs : List V) (A : Prop) : Prop := (∀ y ∈ vs, fmtOk y) ∧ A
instance i_raiseF {C : Addr} {gs : List Str} {D : Ends} : St1 (sRaise E (tMkF C gs tl) D σ H) (tl σ H fun vs H1 => KFm vs (KmkC C gs E vs H1)) := ⟨id⟩
instance i_raiseSF {C : Addr} {gs : List Str} {D : Ends} {W : WX} : St1 (sRaiseS W (tMkF C gs tl) D σ H) (tl σ H fun vs H1 => KFm vs (KmkC C gs (WE W σ) vs H1)) := ⟨id⟩
class ShZ (z : Str) : Prop where
  l : z.length ≤ 100000
instance i_fmS {z : Str} {A : Prop} [c : ShZ z] : St1 (KFm [.str z] A) A := ⟨fun h => ⟨fun y hy => by
  have e : y = .str z := by simpa using hy
  subst e
  exact c.l, h⟩⟩
theorem x_fmI (h1 : -18446744073709551616 < i ∧ i < 18446744073709551616) (h : A) : KFm [.int i] A := ⟨fun y hy => by
  have e : y = .int i := by simpa using hy
  subst e
  show i.natAbs.log2 < 1920
  by_cases e : i.natAbs = 0
  · rw [e]; decide
  · have h2 := Nat.log2_self_le e
    have h3 : 2 ^ i.natAbs.log2 < 2 ^ 64 := by
      have : (2 : Nat) ^ 64 = 18446744073709551616 := by decide
      omega
    have := (Nat.pow_lt_pow_iff_right (by decide : 1 < 2)).mp h3
    omega, h⟩
class TyE (H : Hp) (v : V) (t : outParam String) : Prop where
  t : TyN H v t
instance ty_non : TyE H .non "NoneType" := ⟨.non⟩
instance ty_bl : TyE H (.bl b) "bool" := ⟨.bl b⟩
instance ty_int : TyE H (.int i) "int" := ⟨.int i⟩
instance ty_str {z : Str} : TyE H (.str z) "str" := ⟨.str z⟩
instance ty_lst [F : FH H L] [a : Mm (p, Is (.lst xs)) L] : TyE H (.ref p) "list" := ⟨.lst (.inl (F.get a.m))⟩
instance ty_tup [F : FH H L] [a : Mm (p, Is (.tup xs)) L] : TyE H (.ref p) "tuple" := ⟨.tup (.inl (F.get a.m))⟩
instance ty_dk {kvs : List (Key × V)} [F : FH H L] [a : Mm (p, Is (.dK kvs)) L] : TyE H (.ref p) "dict" := ⟨.dK (F.get a.m)⟩
class Kit1 (t n : String) (c : outParam Bool) : Prop where
  k : kitB t n = some c
  e : isA t n = c
class OrE (a b : Bool) (c : outParam Bool) : Prop where
  e : (a || b) = c
instance or_t {b : Bool} : OrE true b true := ⟨rfl⟩
instance or_f {b : Bool} : OrE false b b := ⟨rfl⟩
class KitA (t : String) (vs : List V) (c : outParam Bool) : Prop where
  e : ∃ ns, Tys vs ns ∧ (∀ n ∈ ns, kitB t n = some (isA t n)) ∧ ns.any (isA t) = c
instance kita_nil {t : String} : KitA t [] false := ⟨[], .nil, (fun _ h => nomatch h), rfl⟩
instance kita_cons {t n : String} {vs : List V} {c d e : Bool} [a : Kit1 t n c] [b : KitA t vs d] [o : OrE c d e] : KitA t (.ty n :: vs) e := ⟨by
  obtain ⟨ns, h1, h2, h3⟩ := b.e
  refine ⟨n :: ns, .cons h1, fun m hm => ?_, ?_⟩
  · rcases List.mem_cons.mp hm with z | z
    · subst z; rw [a.e]; exact a.k
    · exact h2 m z
  · rw [List.any_cons, a.e, h3, o.e]⟩
instance i_isT {vs : List V} {t : String} {c : Bool} [F : FH H L] [ty : TyE H x t] [a : Mm (p, Is (.tup vs)) L] [k : KitA t vs c] : St1 (rIsT [x, .ref p] H Q) (Q (.bl c) H) := ⟨fun h => by
  obtain ⟨ns, h1, h2, h3⟩ := k.e
  exact ⟨x, p, vs, ns, t, rfl, F.get a.m, h1, ty.t, h2, by rw [h3]; exact h⟩⟩
def KIns (x : V) (H1 : Hp) (B : Prop) : Prop := ∃ l, x = .ref l ∧ (∃ xs, H1 l = some (.lst xs)) ∧ B
instance i_ins : St1 (eIns te tl σ H Q) (te σ H fun x H1 => KIns x H1 (tl σ H1 fun vs H2 => rIns x vs H2 Q)) := ⟨id⟩
instance i_insG [F : FH H L] [a : Mm (p, Is (.lst xs)) L] : St1 (KIns (.ref p) H B) B := ⟨fun h => ⟨p, rfl, ⟨xs, F.get a.m⟩, h⟩⟩
theorem x_insL (F : FH H L) (pu : Put p (Is (.lst xs)) (Is (.lst (xs.take i.toNat ++ [y] ++ xs.drop i.toNat))) L L') (sz : xs.length < 16777216) (h0 : 0 ≤ i) (h1 : i < 9223372036854775808) (h : ∀ H', FH H' L' → Q .non H') : rIns (.ref p) [.int i, y] H Q := by
  have e : (2 : Int) ^ 63 = 9223372036854775808 := by decide
  exact ⟨p, xs, i, y, rfl, rfl, F.get pu.mem, by rw [sizeLine_eq]; exact sz, h0, by rw [e]; exact h1, h _ (F.put pu trivial)⟩
/-! instances: their class, its constants; static tuples; texts; index; keywords -/
instance i_isO {D C dx : Addr} {fs : List (Str × V)} {tbl : List (Addr × Bool)} {b : Bool} [F : FH H L] [a : Mm (p, Is (.ins C dx fs)) L] [c : Mm (C, b) tbl] : St1 (rIsO D tbl [.ref p, .ref D] H Q) (Q (.bl b) H) := ⟨fun h => ⟨p, C, dx, fs, b, rfl, F.get a.m, c.m, h⟩⟩
def KCo (l : List (Addr × V)) (f : Str) (x : V) (H1 : Hp) (Q : VK) : Prop := ∃ a C dx fs v, x = .ref a ∧ H1 a = some (.ins C dx fs) ∧ (C, v) ∈ l ∧ fs.lookup f = none ∧ Q v H1
instance i_conD {l : List (Addr × V)} : St1 (eConD l f te σ H Q) (te σ H fun x H1 => KCo l f x H1 Q) := ⟨id⟩
instance i_conDG {l : List (Addr × V)} [F : FH H L] [a : Mm (p, Is (.ins C dx fs)) L] [c : Mm (C, v) l] [n : NoF fs f] : St1 (KCo l f (.ref p) H Q) (Q v H) := ⟨fun h => ⟨p, C, dx, fs, v, rfl, F.get a.m, c.m, n.l, h⟩⟩
class StT (S : Sta) (p : Addr) (xs : outParam (List V)) : Prop where
  s : S p (.tup xs)
instance i_isS {n : String} [s : StT S p xs] [k : Kit1 "tuple" n b] : St1 (rIsS S [.ref p, .ty n] H Q) (Q (.bl b) H) := ⟨fun h => ⟨p, xs, n, rfl, s.s, by rw [k.e]; exact k.k, by rw [k.e]; exact h⟩⟩
instance i_lenS {k : Nat} [s : StT S p xs] [n : LenE xs k] : St1 (rLen S [.ref p] H Q) (Q (.int (k : Int)) H) := ⟨fun h => .inl ⟨p, xs, rfl, .inr (.inr s.s), by rw [n.e]; exact h⟩⟩
instance i_listS [s : StT S p xs] [F : FH H L] : St1 (rListOf S [.ref p] H Q) (∀ r H', H r = none → FH H' ((r, Is (.lst xs)) :: L) → Q (.ref r) H') := ⟨fun h => ⟨p, xs, rfl, .inr (.inr s.s), fun r hr => h r _ hr (F.new hr)⟩⟩
instance i_rdS [s : StT S p xs] : St1 (RdS S H p (.tup xs) ∧ A) A := ⟨fun h => ⟨.inr s.s, h⟩⟩
def KIdx (x : V) (H1 : Hp) (B : Prop) : Prop := ∃ l, x = .ref l ∧ (∃ xs, H1 l = some (.lst xs)) ∧ B
instance i_idx : St1 (eIdx te tl σ H Q) (te σ H fun x H1 => KIdx x H1 (tl σ H1 fun vs H2 => rIdx x vs H2 Q)) := ⟨id⟩
instance i_idxG [F : FH H L] [a : Mm (p, Is (.lst xs)) L] : St1 (KIdx (.ref p) H B) B := ⟨fun h => ⟨p, rfl, ⟨xs, F.get a.m⟩, h⟩⟩
def KmKw (C : Addr) (n m : Nat) (sp : Sp) (vs zs : List V) (H2 : Hp) (Q : VK) (E : XK) : Prop := vs.length = n ∧ zs.length = m ∧ ∀ x dx, H2 x = none → H2 dx = none → dx ≠ x → sp (.ref x :: (vs ++ zs)) (upd (upd H2 dx (.own x)) x (.ins C dx [])) (fun v H3 => v = .non ∧ Q (.ref x) H3) E
instance i_makeKw {n m : Nat} {tk : TA} : St1 (tMakeKw C n m sp E tl tk σ H Q) (tl σ H fun vs H1 => tk σ H1 fun zs H2 => KmKw C n m sp vs zs H2 Q E) := ⟨id⟩
instance i_makeKwG {n m : Nat} {ws : List V} [F : FH H L] [l1 : LenE xs n] [l2 : LenE ys m] [ap : AppE xs ys ws] : St1 (KmKw C n m sp xs ys H Q E) (∀ x dx H', FH H' ((x, Is (.ins C dx [])) :: L) → sp (.ref x :: ws) H' (fun v H2 => v = .non ∧ Q (.ref x) H2) E) := ⟨fun h => ⟨l1.e, l2.e, fun x dx hx hd ne => by
  rw [ap.e]
  exact h x dx _ ((F.other hd).new (by rw [upd_ne (Ne.symm ne)]; exact hx))⟩⟩
/-! tuples as targets; == of unlike kinds -/
instance i_gTup {k : Nat} {u : TGs} [F : FH H L] [a : Mm (p, Is (.tup xs)) L] [n : LenE xs k] : St1 (gTupS S k u (.ref p) σ H QS) (u xs σ H QS) := ⟨fun h => ⟨p, xs, rfl, .inl (.inl (F.get a.m)), n.e, h⟩⟩
instance i_gCons {u : TGs} : St1 (gCons g u (v :: vs) σ H QS) (g v σ H fun σ' H' => u vs σ' H' QS) := ⟨fun h => ⟨v, vs, rfl, h⟩⟩
instance i_gNil : St1 (gNil [] σ H QS) (QS σ H) := ⟨fun h => ⟨rfl, h⟩⟩
instance i_gTupA {k : Nat} {u : TGs} [F : FH H L] [a : Mm (p, Is (.tup xs)) L] [n : LenE xs k] : St1 (gTupA S k u (.ref p) σ H QS) (u xs σ H QS) := ⟨fun h => ⟨p, xs, rfl, .inr (.inl (.inl (F.get a.m))), n.e, h⟩⟩
instance i_gTupAl {k : Nat} {u : TGs} [F : FH H L] [a : Mm (p, Is (.lst xs)) L] [n : LenE xs k] : St1 (gTupA S k u (.ref p) σ H QS) (u xs σ H QS) := ⟨fun h => ⟨p, xs, rfl, .inl (.inl (.inl (F.get a.m))), n.e, h⟩⟩
instance i_gTupAs {k : Nat} {u : TGs} [a : StT S p xs] [n : LenE xs k] : St1 (gTupA S k u (.ref p) σ H QS) (u xs σ H QS) := ⟨fun h => ⟨p, xs, rfl, .inr (.inr a.s), n.e, h⟩⟩
/-! keyword-only parameters; texts; isinstance with the module's tuples -/
class TakE (ms : List V) (i : Nat) (t d : outParam (List V)) : Prop where
  e : ms.take i = t ∧ ms.drop i = d
instance tk_zero {ms : List V} : TakE ms 0 [] ms := ⟨rfl, rfl⟩
instance tk_succ {m : V} {ms t d : List V} {i : Nat} [a : TakE ms i t d] : TakE (m :: ms) (i + 1) (m :: t) d := ⟨by rw [List.take_succ_cons, a.e.1], by rw [List.drop_succ_cons, a.e.2]⟩
def KmW (C : Addr) (n m i : Nat) (ms : List V) (sp : Sp) (vs zs : List V) (H2 : Hp) (Q : VK) (E : XK) : Prop := vs.length = n ∧ zs.length = m ∧ ∀ x dx, H2 x = none → H2 dx = none → dx ≠ x → sp (.ref x :: (vs ++ (ms.take i ++ (zs ++ ms.drop i)))) (upd (upd H2 dx (.own x)) x (.ins C dx [])) (fun v H3 => v = .non ∧ Q (.ref x) H3) E
instance i_makeW {n m i : Nat} {ms : List V} {tk : TA} : St1 (tMakeW C n m i ms sp E tl tk σ H Q) (tl σ H fun vs H1 => tk σ H1 fun zs H2 => KmW C n m i ms sp vs zs H2 Q E) := ⟨id⟩
instance i_makeWG {n m i : Nat} {ms t d u w ws : List V} [F : FH H L] [l1 : LenE xs n] [l2 : LenE ys m] [tk : TakE ms i t d] [a1 : AppE ys d u] [a2 : AppE t u w] [a3 : AppE xs w ws] : St1 (KmW C n m i ms sp xs ys H Q E) (∀ x dx H', FH H' ((x, Is (.ins C dx [])) :: L) → sp (.ref x :: ws) H' (fun v H2 => v = .non ∧ Q (.ref x) H2) E) := ⟨fun h => ⟨l1.e, l2.e, fun x dx hx hd ne => by
  rw [tk.e.1, tk.e.2, a1.e, a2.e, a3.e]
  exact h x dx _ ((F.other hd).new (by rw [upd_ne (Ne.symm ne)]; exact hx))⟩⟩
def KSt (x : V) (B : Prop) : Prop := (∃ a, x = .str a) ∧ B
instance i_kst {z : Str} : St1 (KSt (.str z) B) B := ⟨fun h => ⟨⟨z, rfl⟩, h⟩⟩
instance i_tM1 {r : V → List V → Hp → VK → Prop} {to te : TE} : St1 (tM1 r to te σ H Q) (to σ H fun x H1 => KSt x (te σ H1 fun y H2 => r x [y] H2 Q)) := ⟨id⟩
instance i_cnt {y z : Str} : St1 (rCnt (.str y) [.str z] H Q) (Q (.int (Txt.count y z)) H) := ⟨fun h => ⟨y, z, rfl, rfl, h⟩⟩
instance i_isJ {xs : List V} {G : Prop} [a : St1 (rIsI xs H Q) G] : St1 (rIsJ S xs H Q) G := ⟨fun h => .inl (a.imp h)⟩
instance i_isJs {xs : List V} {G : Prop} [a : St1 (rIsS S xs H Q) G] : St1 (rIsJ S xs H Q) G := ⟨fun h => .inr (a.imp h)⟩
instance i_isU {xs : List V} {G : Prop} [a : St1 (rIsT xs H Q) G] : St1 (rIsU S xs H Q) G := ⟨fun h => .inl (a.imp h)⟩
instance i_isUs {q : Addr} {ys vs : List V} {c : Bool} [F : FH H L] [s : StT S p ys] [a : Mm (q, Is (.tup vs)) L] [k : KitA "tuple" vs c] : St1 (rIsU S [.ref p, .ref q] H Q) (Q (.bl c) H) := ⟨fun h => by
  obtain ⟨ns, h1, h2, h3⟩ := k.e
  exact .inr ⟨p, ys, q, vs, ns, rfl, s.s, F.get a.m, h1, h2, by rw [h3]; exact h⟩⟩
/-! zip, extend -/
instance i_forZp {S : Sta} {gi gj : TG} : St1 (sForZp S tl gi gj s1 ⟨nx, rt, bk, ct⟩ σ H) (tl σ H fun vs H1 => ZpS S gi gj s1 nx rt vs σ H1) := ⟨id⟩
def KExt (x : V) (H1 : Hp) (B : Prop) : Prop := ∃ l, x = .ref l ∧ (∃ xs, H1 l = some (.lst xs)) ∧ B
instance i_ext : St1 (eExt S te tl σ H Q) (te σ H fun x H1 => KExt x H1 (tl σ H1 fun vs H2 => rExt S x vs H2 Q)) := ⟨id⟩
instance i_extK [F : FH H L] [a : Mm (p, Is (.lst xs)) L] : St1 (KExt (.ref p) H B) B := ⟨fun h => ⟨p, rfl, ⟨xs, F.get a.m⟩, h⟩⟩
instance i_extL {q : Addr} {ys zs : List V} [F : FH H L] [a : Mm (p, Is (.lst xs)) L] [b : Mm (q, Is (.lst ys)) L] [x1 : Shr 100 xs] [x2 : Shr 100 ys] [ap : AppE xs ys zs] [u : PutE p (Is (.lst xs)) (Is (.lst zs)) L L'] : St1 (rExt S (.ref p) [.ref q] H Q) (∀ H', FH H' L' → Q .non H') :=
  ⟨fun h => ⟨p, q, xs, ys, rfl, rfl, F.get a.m, .inl (F.get b.m), by have := x1.l; have := x2.l; rw [sizeLine_eq]; omega, by rw [ap.e]; exact h _ (F.put u.pu trivial)⟩⟩
class StrK (z : Str) : Prop where
  k : PyData.canLay0 (.str z) = true
class FltA (xs : List V) : Prop where
  f : xs.all flatOk = true
instance flta_nil : FltA [] := ⟨rfl⟩
instance flta_non [a : FltA xs] : FltA (.non :: xs) := ⟨by rw [List.all_cons, a.f]; rfl⟩
instance flta_bl [a : FltA xs] : FltA (.bl b :: xs) := ⟨by rw [List.all_cons, a.f]; rfl⟩
instance flta_int [a : FltA xs] : FltA (.int i :: xs) := ⟨by rw [List.all_cons, a.f]; rfl⟩
instance flta_str {z : Str} [k : StrK z] [a : FltA xs] : FltA (.str z :: xs) := ⟨by rw [List.all_cons, a.f, Bool.and_true]; exact k.k⟩
instance flta_ints {ns : List Int} : FltA (ns.map V.int) := ⟨flat_ints⟩
class DpC (S : Sta) (H : Hp) (v : V) (d : outParam PyData) : Prop where
  p : DpS S H v d
  s : SeqAt.shaped d = true
instance dpc_non : DpC S H .non .none := ⟨.non, rfl⟩
instance dpc_bl : DpC S H (.bl b) (.bool b) := ⟨.bl b, rfl⟩
instance dpc_int : DpC S H (.int i) (.int i) := ⟨.int i, rfl⟩
instance dpc_str {z : Str} [k : StrK z] : DpC S H (.str z) (.str z) := ⟨.str z, by unfold SeqAt.shaped; rw [k.k]; rfl⟩
instance dpc_lst [F : FH H L] [a : Mm (p, Is (.lst xs)) L] [f : FltA xs] : DpC S H (.ref p) (.list (xs.map flatD)) := ⟨.lst (.inl (.inl (F.get a.m))) (dps_flat f.f), shaped_flatL f.f⟩
instance dpc_tup [F : FH H L] [a : Mm (p, Is (.tup xs)) L] [f : FltA xs] : DpC S H (.ref p) (.tuple (xs.map flatD)) := ⟨.tup (.inl (.inl (F.get a.m))) (dps_flat f.f), shaped_flatT f.f⟩
class EqvC (d e : PyData) (b : outParam Bool) : Prop where
  e : PyData.eqv d e = b
theorem eqG {d e : PyData} (h1 : DpS S H x d) (h2 : DpS S H y e) (s1 : SeqAt.shaped d = true) (s2 : SeqAt.shaped e = true) (ev : PyData.eqv d e = b) (h : Q (.bl b) H) : rEqP S x y H Q := .inr ⟨d, e, h1, h2, s1, s2, by rw [ev]; exact h⟩
theorem neG {d e : PyData} (h1 : DpS S H x d) (h2 : DpS S H y e) (s1 : SeqAt.shaped d = true) (s2 : SeqAt.shaped e = true) (ev : PyData.eqv d e = b) (h : Q (.bl (!b)) H) : rNeP S x y H Q := .inr ⟨d, e, h1, h2, s1, s2, by rw [ev]; exact h⟩
instance (priority := 50) i_eqG {d e : PyData} [h1 : DpC S H x d] [h2 : DpC S H y e] [v : EqvC d e b] : St1 (rEqP S x y H Q) (Q (.bl b) H) := ⟨fun h => eqG h1.p h2.p h1.s h2.s v.e h⟩
instance (priority := 50) i_neGt {d e : PyData} [h1 : DpC S H x d] [h2 : DpC S H y e] [v : EqvC d e true] : St1 (rNeP S x y H Q) (Q (.bl false) H) := ⟨fun h => neG h1.p h2.p h1.s h2.s v.e h⟩
instance (priority := 50) i_neGf {d e : PyData} [h1 : DpC S H x d] [h2 : DpC S H y e] [v : EqvC d e false] : St1 (rNeP S x y H Q) (Q (.bl true) H) := ⟨fun h => neG h1.p h2.p h1.s h2.s v.e h⟩
instance eqv_none_list {ds : List PyData} : EqvC (.none) (.list ds) false := ⟨rfl⟩
instance eqv_none_tuple {es : List PyData} : EqvC (.none) (.tuple es) false := ⟨rfl⟩
instance eqv_bool_list {b : Bool} {ds : List PyData} : EqvC (.bool b) (.list ds) false := ⟨rfl⟩
instance eqv_bool_tuple {b : Bool} {es : List PyData} : EqvC (.bool b) (.tuple es) false := ⟨rfl⟩
instance eqv_int_list {i : Int} {ds : List PyData} : EqvC (.int i) (.list ds) false := ⟨rfl⟩
instance eqv_int_tuple {i : Int} {es : List PyData} : EqvC (.int i) (.tuple es) false := ⟨rfl⟩
instance eqv_str_list {z : Str} {ds : List PyData} : EqvC (.str z) (.list ds) false := ⟨rfl⟩
instance eqv_str_tuple {z : Str} {es : List PyData} : EqvC (.str z) (.tuple es) false := ⟨rfl⟩
instance eqv_list_none {ds : List PyData} : EqvC (.list ds) (.none) false := ⟨rfl⟩
instance eqv_list_bool {ds : List PyData} {b : Bool} : EqvC (.list ds) (.bool b) false := ⟨rfl⟩
instance eqv_list_int {ds : List PyData} {i : Int} : EqvC (.list ds) (.int i) false := ⟨rfl⟩
instance eqv_list_str {ds : List PyData} {z : Str} : EqvC (.list ds) (.str z) false := ⟨rfl⟩
instance eqv_list_tuple {ds : List PyData} {es : List PyData} : EqvC (.list ds) (.tuple es) false := ⟨rfl⟩
instance eqv_tuple_none {es : List PyData} : EqvC (.tuple es) (.none) false := ⟨rfl⟩
instance eqv_tuple_bool {es : List PyData} {b : Bool} : EqvC (.tuple es) (.bool b) false := ⟨rfl⟩
instance eqv_tuple_int {es : List PyData} {i : Int} : EqvC (.tuple es) (.int i) false := ⟨rfl⟩
instance eqv_tuple_str {es : List PyData} {z : Str} : EqvC (.tuple es) (.str z) false := ⟨rfl⟩
instance eqv_tuple_list {es : List PyData} {ds : List PyData} : EqvC (.tuple es) (.list ds) false := ⟨rfl⟩
instance kit1_int_int : Kit1 "int" "int" true := ⟨kit_int_int, by decide⟩
instance kit1_int_bool : Kit1 "int" "bool" false := ⟨kit_int_bool, by decide⟩
instance kit1_int_str : Kit1 "int" "str" false := ⟨kit_int_str, by decide⟩
instance kit1_int_list : Kit1 "int" "list" false := ⟨kit_int_list, by decide⟩
instance kit1_int_tuple : Kit1 "int" "tuple" false := ⟨kit_int_tuple, by decide⟩
instance kit1_int_dict : Kit1 "int" "dict" false := ⟨kit_int_dict, by decide⟩
instance kit1_bool_int : Kit1 "bool" "int" true := ⟨kit_bool_int, by decide⟩
instance kit1_bool_bool : Kit1 "bool" "bool" true := ⟨kit_bool_bool, by decide⟩
instance kit1_bool_str : Kit1 "bool" "str" false := ⟨kit_bool_str, by decide⟩
instance kit1_bool_list : Kit1 "bool" "list" false := ⟨kit_bool_list, by decide⟩
instance kit1_bool_tuple : Kit1 "bool" "tuple" false := ⟨kit_bool_tuple, by decide⟩
instance kit1_bool_dict : Kit1 "bool" "dict" false := ⟨kit_bool_dict, by decide⟩
instance kit1_str_int : Kit1 "str" "int" false := ⟨kit_str_int, by decide⟩
instance kit1_str_bool : Kit1 "str" "bool" false := ⟨kit_str_bool, by decide⟩
instance kit1_str_str : Kit1 "str" "str" true := ⟨kit_str_str, by decide⟩
instance kit1_str_list : Kit1 "str" "list" false := ⟨kit_str_list, by decide⟩
instance kit1_str_tuple : Kit1 "str" "tuple" false := ⟨kit_str_tuple, by decide⟩
instance kit1_str_dict : Kit1 "str" "dict" false := ⟨kit_str_dict, by decide⟩
instance kit1_NoneType_int : Kit1 "NoneType" "int" false := ⟨kit_NoneType_int, by decide⟩
instance kit1_NoneType_bool : Kit1 "NoneType" "bool" false := ⟨kit_NoneType_bool, by decide⟩
instance kit1_NoneType_str : Kit1 "NoneType" "str" false := ⟨kit_NoneType_str, by decide⟩
instance kit1_NoneType_list : Kit1 "NoneType" "list" false := ⟨kit_NoneType_list, by decide⟩
instance kit1_NoneType_tuple : Kit1 "NoneType" "tuple" false := ⟨kit_NoneType_tuple, by decide⟩
instance kit1_NoneType_dict : Kit1 "NoneType" "dict" false := ⟨kit_NoneType_dict, by decide⟩
instance kit1_list_int : Kit1 "list" "int" false := ⟨kit_list_int, by decide⟩
instance kit1_list_bool : Kit1 "list" "bool" false := ⟨kit_list_bool, by decide⟩
instance kit1_list_str : Kit1 "list" "str" false := ⟨kit_list_str, by decide⟩
instance kit1_list_list : Kit1 "list" "list" true := ⟨kit_list_list, by decide⟩
instance kit1_list_tuple : Kit1 "list" "tuple" false := ⟨kit_list_tuple, by decide⟩
instance kit1_list_dict : Kit1 "list" "dict" false := ⟨kit_list_dict, by decide⟩
instance kit1_tuple_int : Kit1 "tuple" "int" false := ⟨kit_tuple_int, by decide⟩
instance kit1_tuple_bool : Kit1 "tuple" "bool" false := ⟨kit_tuple_bool, by decide⟩
instance kit1_tuple_str : Kit1 "tuple" "str" false := ⟨kit_tuple_str, by decide⟩
instance kit1_tuple_list : Kit1 "tuple" "list" false := ⟨kit_tuple_list, by decide⟩
instance kit1_tuple_tuple : Kit1 "tuple" "tuple" true := ⟨kit_tuple_tuple, by decide⟩
instance kit1_tuple_dict : Kit1 "tuple" "dict" false := ⟨kit_tuple_dict, by decide⟩
instance kit1_dict_int : Kit1 "dict" "int" false := ⟨kit_dict_int, by decide⟩
instance i_isr_dict_int {kvs : List (Key × V)} [F : FH H L] [a : Mm (p, Is (.dK kvs)) L] : St1 (rIsI [.ref p, .ty "int"] H Q) (Q (.bl false) H) := ⟨fun h => isi_of (.dK (F.get a.m)) kit_dict_int rfl h⟩
instance kit1_dict_bool : Kit1 "dict" "bool" false := ⟨kit_dict_bool, by decide⟩
instance i_isr_dict_bool {kvs : List (Key × V)} [F : FH H L] [a : Mm (p, Is (.dK kvs)) L] : St1 (rIsI [.ref p, .ty "bool"] H Q) (Q (.bl false) H) := ⟨fun h => isi_of (.dK (F.get a.m)) kit_dict_bool rfl h⟩
instance kit1_dict_str : Kit1 "dict" "str" false := ⟨kit_dict_str, by decide⟩
instance i_isr_dict_str {kvs : List (Key × V)} [F : FH H L] [a : Mm (p, Is (.dK kvs)) L] : St1 (rIsI [.ref p, .ty "str"] H Q) (Q (.bl false) H) := ⟨fun h => isi_of (.dK (F.get a.m)) kit_dict_str rfl h⟩
instance kit1_dict_list : Kit1 "dict" "list" false := ⟨kit_dict_list, by decide⟩
instance i_isr_dict_list {kvs : List (Key × V)} [F : FH H L] [a : Mm (p, Is (.dK kvs)) L] : St1 (rIsI [.ref p, .ty "list"] H Q) (Q (.bl false) H) := ⟨fun h => isi_of (.dK (F.get a.m)) kit_dict_list rfl h⟩
instance kit1_dict_tuple : Kit1 "dict" "tuple" false := ⟨kit_dict_tuple, by decide⟩
instance i_isr_dict_tuple {kvs : List (Key × V)} [F : FH H L] [a : Mm (p, Is (.dK kvs)) L] : St1 (rIsI [.ref p, .ty "tuple"] H Q) (Q (.bl false) H) := ⟨fun h => isi_of (.dK (F.get a.m)) kit_dict_tuple rfl h⟩
instance kit1_dict_dict : Kit1 "dict" "dict" true := ⟨kit_dict_dict, by decide⟩
instance i_isr_dict_dict {kvs : List (Key × V)} [F : FH H L] [a : Mm (p, Is (.dK kvs)) L] : St1 (rIsI [.ref p, .ty "dict"] H Q) (Q (.bl true) H) := ⟨fun h => isi_of (.dK (F.get a.m)) kit_dict_dict rfl h⟩
/-- a comprehension over a range: a map -/
theorem lcRM {tel : TE} {us : List Nat} {σw : L2.St} (n : Nat) (f : Nat → V) (ej : j = (n : Int)) (hn : n < 16777216) (F : FH H L) (ew : wipe σ us = σw)
    (hs : ∀ (i : Nat) H (QX : V → Hp → Prop), i < n → FH H L → QX (f i) H → g (.int (i : Int)) σw H fun σ2 H2 => wipe σ2 us = σw ∧ tel σ2 H2 QX)
    (hd : ∀ D H', FH H' ((D, Is (.lst ((List.range n).map f))) :: L) → Q (.ref D) H') : LcR g tYes tel us Q (.int j) σ H := by
  subst ew ej
  have e62 : (2 : Int) ^ 62 = 4611686018427387904 := by decide
  refine ⟨_, rfl, ⟨by rw [e62]; decide, by rw [e62]; decide, by rw [e62]; omega, by rw [e62]; omega⟩, fun D hD => ⟨fun i H => FH H ((D, Is (.lst ((List.range i).map f))) :: L), F.new hD, fun i H hi q => ?_, fun H q => hd D H ?_⟩⟩
  · have h := hs i H (fun z H4 => ∃ acc, H4 D = some (.lst acc) ∧ acc.length < sizeLine ∧ FH (upd H4 D (.lst (acc ++ [z]))) ((D, Is (.lst ((List.range (i + 1)).map f))) :: L)) (by omega) q.tail ⟨_, q.get (List.Mem.head _), by rw [sizeLine_eq, List.length_map, List.length_range]; omega, by rw [List.range_succ, List.map_append]; exact q.put .here trivial⟩
    rw [Int.zero_add]
    exact h
  · have e1 : ((n : Int) - 0).toNat = n := by omega
    dsimp only at q
    rw [e1] at q
    exact q
/-! unrolled where Unr is an instance -/
class Unr : Prop where
  t : True
class Lit (xs : List V) : Prop where
  t : True
instance lit_nil : Lit [] := ⟨trivial⟩
instance lit_cons [a : Lit xs] : Lit (x :: xs) := ⟨trivial⟩
class RgE (j : Int) (n : outParam Nat) (xs : outParam (List V)) : Prop where
  j : j = (n : Int)
  l : n < 1000
  e : (List.range n).map (fun (i : Nat) => V.int (0 + (i : Int))) = xs
def forKL (g : TG) (s1 : TS) (P bk : K0) (rt : VK) : List V → L2.St → Hp → Prop
  | [], σ, H => P σ H
  | x :: xs, σ, H => g x σ H fun σ' H' => s1 ⟨forKL g s1 P bk rt xs, rt, bk, forKL g s1 P bk rt xs⟩ σ' H'
instance i_forKL {P : K0} : St1 (forKL g s1 P bk rt (x :: xs) σ H) (g x σ H fun σ' H' => s1 ⟨forKL g s1 P bk rt xs, rt, bk, forKL g s1 P bk rt xs⟩ σ' H') := ⟨id⟩
instance i_forKL0 {P : K0} : St1 (forKL g s1 P bk rt [] σ H) (P σ H) := ⟨id⟩
theorem forRU (n : Nat) (ej : j = (n : Int)) (hn : n < 1000) (exs : (List.range n).map (fun (i : Nat) => V.int (0 + (i : Int))) = xs) (h : forKL g s1 nx nx rt xs σ H) : ForR g s1 nx rt 0 j σ H := by
  subst ej exs
  have e62 : (2 : Int) ^ 62 = 4611686018427387904 := by decide
  refine ⟨⟨by rw [e62]; decide, by rw [e62]; decide, by rw [e62]; omega, by rw [e62]; omega⟩, fun i σ H => forKL g s1 nx nx rt (((List.range n).map (fun (i : Nat) => V.int (0 + (i : Int)))).drop i) σ H, by (dsimp only; rw [List.drop_zero]; exact h), fun i σ H hi q => ?_, fun σ H q => ?_⟩
  · dsimp only at q
    have hl : i < ((List.range n).map (fun (i : Nat) => V.int (0 + (i : Int)))).length := by rw [List.length_map, List.length_range]; omega
    rw [List.drop_eq_getElem_cons hl] at q
    rw [List.getElem_map, List.getElem_range] at q
    exact q
  · have e1 : ((n : Int) - 0).toNat = n := by omega
    dsimp only at q
    rw [e1, List.drop_of_length_le (by rw [List.length_map, List.length_range]; exact Nat.le_refl _)] at q
    exact q
instance i_forRU [Unr] {n : Nat} [r : RgE j n xs] : St1 (ForR g s1 nx rt 0 j σ H) (forKL g s1 nx nx rt xs σ H) := ⟨fun h => forRU n r.j r.l r.e h⟩
instance i_lcRU [Unr] {tt : TT} {tel : TE} {us : List Nat} {σw : L2.St} {n : Nat} [F : FH H L] [r : RgE j n xs] [e : WipeE σ us σw] : St1 (LcR g tt tel us Q (.int j) σ H) (∀ D H', FH H' ((D, Is (.lst [])) :: L) → lcKR g tt tel us σw D Q xs H') := ⟨fun h => lcRU n r.j (by have := r.l; omega) r.e F e.e h⟩
instance i_lcLU [Unr] {tt : TT} {tel : TE} {us : List Nat} {σw : L2.St} [F : FH H L] [a : Mm (p, Is (.lst xs)) L] [l : Lit xs] [e : WipeE σ us σw] : St1 (LcS S g tt tel us Q (.ref p) σ H) (∀ D H', FH H' ((D, Is (.lst [])) :: L) → lcKS S p (.lst xs) g tt tel us σw D Q xs H') := ⟨fun h => lcLU F a.m e.e h⟩
theorem lcSU {tt : TT} {tel : TE} {vs : List Nat} {σw : L2.St} (F : FH H L) (st : S p (.tup xs)) (ew : wipe σ vs = σw) (h : ∀ D H', FH H' ((D, Is (.lst [])) :: L) → lcKS S p (.tup xs) g tt tel vs σw D Q xs H') : LcS S g tt tel vs Q (.ref p) σ H := by
  subst ew
  refine ⟨p, xs, rfl, false, .inr st, fun D hD => ⟨fun i H => RdS S H p (.tup xs) ∧ lcKS S p (.tup xs) g tt tel vs (wipe σ vs) D Q (xs.drop i) H, ⟨.inr st, by rw [List.drop_zero]; exact h D _ (F.new hD)⟩, fun i H _ q => q.1, fun i y H e q => ?_, fun H q => ?_⟩⟩
  · obtain ⟨_, q⟩ := q
    have hi := (List.getElem?_eq_some_iff.mp e)
    rw [List.drop_eq_getElem_cons hi.1, hi.2] at q
    exact q
  · obtain ⟨_, q⟩ := q
    rw [List.drop_length] at q
    exact q
instance i_lcSU [Unr] {tt : TT} {tel : TE} {us : List Nat} {σw : L2.St} [F : FH H L] [a : StT S p xs] [e : WipeE σ us σw] : St1 (LcS S g tt tel us Q (.ref p) σ H) (∀ D H', FH H' ((D, Is (.lst [])) :: L) → lcKS S p (.tup xs) g tt tel us σw D Q xs H') := ⟨fun h => lcSU F a.s e.e h⟩
instance i_forLU [Unr] [F : FH H L] [a : Mm (p, Is (.lst xs)) L] [l : Lit xs] : St1 (ForS S g s1 nx rt (.ref p) σ H) (forKS S p (.lst xs) g s1 nx nx rt xs σ H) := ⟨fun h => forLU F a.m h⟩
instance rg0 : RgE 0 0 [] := ⟨rfl, by decide, rfl⟩
instance rg1 : RgE 1 1 [.int 0] := ⟨rfl, by decide, rfl⟩
instance rg2 : RgE 2 2 [.int 0, .int 1] := ⟨rfl, by decide, rfl⟩
instance rg3 : RgE 3 3 [.int 0, .int 1, .int 2] := ⟨rfl, by decide, rfl⟩
instance rg4 : RgE 4 4 [.int 0, .int 1, .int 2, .int 3] := ⟨rfl, by decide, rfl⟩
instance rg5 : RgE 5 5 [.int 0, .int 1, .int 2, .int 3, .int 4] := ⟨rfl, by decide, rfl⟩
instance rg6 : RgE 6 6 [.int 0, .int 1, .int 2, .int 3, .int 4, .int 5] := ⟨rfl, by decide, rfl⟩
instance rg7 : RgE 7 7 [.int 0, .int 1, .int 2, .int 3, .int 4, .int 5, .int 6] := ⟨rfl, by decide, rfl⟩
instance rg8 : RgE 8 8 [.int 0, .int 1, .int 2, .int 3, .int 4, .int 5, .int 6, .int 7] := ⟨rfl, by decide, rfl⟩
instance rg9 : RgE 9 9 [.int 0, .int 1, .int 2, .int 3, .int 4, .int 5, .int 6, .int 7, .int 8] := ⟨rfl, by decide, rfl⟩
instance rg10 : RgE 10 10 [.int 0, .int 1, .int 2, .int 3, .int 4, .int 5, .int 6, .int 7, .int 8, .int 9] := ⟨rfl, by decide, rfl⟩
instance rg11 : RgE 11 11 [.int 0, .int 1, .int 2, .int 3, .int 4, .int 5, .int 6, .int 7, .int 8, .int 9, .int 10] := ⟨rfl, by decide, rfl⟩
instance rg12 : RgE 12 12 [.int 0, .int 1, .int 2, .int 3, .int 4, .int 5, .int 6, .int 7, .int 8, .int 9, .int 10, .int 11] := ⟨rfl, by decide, rfl⟩
instance rg13 : RgE 13 13 [.int 0, .int 1, .int 2, .int 3, .int 4, .int 5, .int 6, .int 7, .int 8, .int 9, .int 10, .int 11, .int 12] := ⟨rfl, by decide, rfl⟩
instance rg14 : RgE 14 14 [.int 0, .int 1, .int 2, .int 3, .int 4, .int 5, .int 6, .int 7, .int 8, .int 9, .int 10, .int 11, .int 12, .int 13] := ⟨rfl, by decide, rfl⟩
instance rg15 : RgE 15 15 [.int 0, .int 1, .int 2, .int 3, .int 4, .int 5, .int 6, .int 7, .int 8, .int 9, .int 10, .int 11, .int 12, .int 13, .int 14] := ⟨rfl, by decide, rfl⟩
instance rg16 : RgE 16 16 [.int 0, .int 1, .int 2, .int 3, .int 4, .int 5, .int 6, .int 7, .int 8, .int 9, .int 10, .int 11, .int 12, .int 13, .int 14, .int 15] := ⟨rfl, by decide, rfl⟩
/-! heads -/
class HdAr (G : Prop) : Prop where
  t : True
theorem hdAr_is {G : Prop} [HdAr G] (h : G) : G := h
class HdIx (G : Prop) : Prop where
  t : True
theorem hdIx_is {G : Prop} [HdIx G] (h : G) : G := h
class HdEq (G : Prop) : Prop where
  t : True
theorem hdEq_is {G : Prop} [HdEq G] (h : G) : G := h
class HdIn (G : Prop) : Prop where
  t : True
theorem hdIn_is {G : Prop} [HdIn G] (h : G) : G := h
class HdTy (G : Prop) : Prop where
  t : True
theorem hdTy_is {G : Prop} [HdTy G] (h : G) : G := h
class HdFm (G : Prop) : Prop where
  t : True
theorem hdFm_is {G : Prop} [HdFm G] (h : G) : G := h
class HdK (G : Prop) : Prop where
  t : True
theorem hdK_is {G : Prop} [HdK G] (h : G) : G := h
instance hd0 : HdIx (rIx S x y H Q) := ⟨trivial⟩
instance hd1 : HdIx (rLen S xs H Q) := ⟨trivial⟩
instance hd2 : HdIx (rSl S x lo hi H Q) := ⟨trivial⟩
instance hd3 : HdEq (rEqP S x y H Q) := ⟨trivial⟩
instance hd4 : HdEq (rNeP S x y H Q) := ⟨trivial⟩
instance hd5 : HdEq (rEq x y H Q) := ⟨trivial⟩
instance hd6 : HdEq (rNe x y H Q) := ⟨trivial⟩
instance hd7 : HdAr (rMul x y H Q) := ⟨trivial⟩
instance hd8 : HdAr (rFdiv x y H Q) := ⟨trivial⟩
instance hd9 : HdAr (rMod x y H Q) := ⟨trivial⟩
instance hd10 : HdAr (rPow x y H Q) := ⟨trivial⟩
instance hd11 : HdAr (rShl x y H Q) := ⟨trivial⟩
instance hd12 : HdAr (rStrI xs H Q) := ⟨trivial⟩
instance hd13 : HdIn (rInA S b x y H Q) := ⟨trivial⟩
instance hd14 : Hd (rSum S xs H Q) := ⟨trivial⟩
instance hd15 : Hd (rAll S xs H Q) := ⟨trivial⟩
instance hd16 : Hd (rAdd x y H Q) := ⟨trivial⟩
instance hd17 : HdTy (rIsI xs H Q) := ⟨trivial⟩
instance hd18 {tbl : List (Value × V × Bool)} {a : Value} {z : Option Addr} : Hd (rIsX tbl C a z xs H Q) := ⟨trivial⟩
instance hd19 : Hd (rGetL x y H Q) := ⟨trivial⟩
instance hd20 {QH : Hp → Prop} : Hd (rSetL x y v H QH) := ⟨trivial⟩
instance hd21 : Hd (Klst xs H Q) := ⟨trivial⟩
instance hd22 : Hd (Ktup xs H Q) := ⟨trivial⟩
instance hd23 {QH : Hp → Prop} : Hd (lcPut p v QH H) := ⟨trivial⟩
instance hd24 : Hd (rAppend x xs H Q) := ⟨trivial⟩
instance hd25 : Hd (tSupM Cs sp E tl σ H Q) := ⟨trivial⟩
instance hd26 {QK : Bool → Prop} : HdK (KBl x QK) := ⟨trivial⟩
instance hd27 {QK : Int → Prop} : HdK (KIn x QK) := ⟨trivial⟩
instance hd28 : HdK (KFl C f x H Q) := ⟨trivial⟩
instance hd29 : HdK (KFlD Cs f x H Q) := ⟨trivial⟩
instance hd30 {QH : Hp → Prop} : HdK (KSf C f x y H QH) := ⟨trivial⟩
instance hd31 {QH : Hp → Prop} : HdK (KSfD Cs f x y H QH) := ⟨trivial⟩
instance hd32 {QAV : Addr → V → Prop} : HdK (KAf C f x H QAV) := ⟨trivial⟩
instance hd33 {QH : Hp → Prop} : HdK (KAs C f p x H QH) := ⟨trivial⟩
instance hd34 {QAV : Addr → Addr → V → Prop} : HdK (KAfD Cs f x H QAV) := ⟨trivial⟩
instance hd35 : HdK (KMe C m x H B) := ⟨trivial⟩
instance hd36 {QB2 : Sp → Prop} : HdK (KMD ls m x H QB2) := ⟨trivial⟩
instance hd37 {QA : Addr → Prop} : HdK (KPr C x H QA) := ⟨trivial⟩
instance hd38 {QA : Addr → Sp → Prop} : HdK (KPrD ls x H QA) := ⟨trivial⟩
instance hd39 : HdK (KAp x H B) := ⟨trivial⟩
instance hd40 {tab : List (Value × Nat)} {cl : List Sui} {D : Ends} {cls : Value} {d : Option Addr} : Hd (wT tab cl D cls d σ H) := ⟨trivial⟩
instance hd41 : Hd (A ∧ B) := ⟨trivial⟩
instance hd42 : HdFm (KFm xs A) := ⟨trivial⟩
instance hd43 : Hd (rIsT xs H Q) := ⟨trivial⟩
instance hd44 : Hd (rIns x xs H Q) := ⟨trivial⟩
instance hd45 : Hd (rListOf S xs H Q) := ⟨trivial⟩
instance hd46 : Hd (rTupleOf S xs H Q) := ⟨trivial⟩
instance hd47 {D : Addr} {tbl : List (Addr × Bool)} : Hd (rIsO D tbl xs H Q) := ⟨trivial⟩
instance hd48 {l : List (Addr × V)} : HdK (KCo l f x H Q) := ⟨trivial⟩
instance hd49 : Hd (rIsS S xs H Q) := ⟨trivial⟩
instance hd50 : HdK (KIdx x H B) := ⟨trivial⟩
instance hd51 : Hd (rIdx x xs H Q) := ⟨trivial⟩
end
end Y

namespace Y.k11
open PySem PySem.Spec PyProof.Rows L2
/-! ### the readings -/
structure Cl where
  S : Sta
  c_Outbox : Addr
  c_InvalidSetting : Addr
  c_NotAllowed : Addr
  c_InvalidNumber : Addr
  c_LossError : Addr
def t_box (a : Cl) (E : XK) : TS :=
  (tRet (tLst (tCons (tCB (rListOf a.S) (tCons (tVar 0) tNil)) (tCons (tC (.int 0)) (tCons (tC (.int 0)) (tCons (tC (.int 0)) (tCons (tC (.int 0)) tNil)))))))
def sp_box (a : Cl) : Sp := spB 1 1 (t_box a)
theorem in_box {a : Cl} {v0 : V} {H : Hp} {Q : VK} {E : XK} (h : (tRet (tLst (tCons (tCB (rListOf a.S) (tCons (tVar 0) tNil)) (tCons (tC (.int 0)) (tCons (tC (.int 0)) (tCons (tC (.int 0)) (tCons (tC (.int 0)) tNil))))))) ⟨fun _ H' => Q .non H', Q, fun _ _ => False, fun _ _ => False⟩ [some v0] H) : sp_box a [v0] H Q E := ⟨rfl, h⟩
def t_draw (a : Cl) (E : XK) : TS :=
  (tSeq (tAsg (tOp rAdd (tOp (rIx a.S) (tVar 0) (tC (.int 4))) (tC (.int 1))) (gSub (tVar 0) (tC (.int 4)) rSetL))
    (tSeq (tIfS (tAnd (tTest (tOp (rEqP a.S) (tOp (rIx a.S) (tVar 0) (tC (.int 2))) (tC (.int 0)))) (tTest (tOp rLt (tOp (rIx a.S) (tVar 0) (tC (.int 1))) (tCB (rLen a.S) (tCons (tOp (rIx a.S) (tVar 0) (tC (.int 0))) tNil))))) (tSeq (tAsg (tOp (rIx a.S) (tOp (rIx a.S) (tVar 0) (tC (.int 0))) (tOp (rIx a.S) (tVar 0) (tC (.int 1)))) (gName 2))
    (tSeq (tAsg (tOp rAdd (tOp (rIx a.S) (tVar 0) (tC (.int 1))) (tC (.int 1))) (gSub (tVar 0) (tC (.int 1)) rSetL))
    (tIfS (tTest (tOp rGe (tCB rAbs (tCons (tVar 2) tNil)) (tOp rPow (tC (.int 10)) (tC (.int 18))))) (tAsg (tCB rAbs (tCons (tVar 2) tNil)) (gSub (tVar 0) (tC (.int 2)) rSetL)) (tAsg (tOp rMod (tCB rInt (tCons (tOp rAdd (tOp rAdd (tOp rMul (tOp (rIx a.S) (tVar 0) (tC (.int 3))) (tC (.int 48271))) (tOp rMul (tVar 2) (tC (.int 69621)))) (tOp (rIx a.S) (tVar 0) (tC (.int 1)))) tNil)) (tC (.int 2147483647))) (gSub (tVar 0) (tC (.int 3)) rSetL))))) tNext)
    (tSeq (tIfS (tTest (tOp rGt (tOp (rIx a.S) (tVar 0) (tC (.int 2))) (tC (.int 0)))) (tSeq (tAsg (tOp rMod (tCB rInt (tCons (tOp (rIx a.S) (tVar 0) (tC (.int 2))) tNil)) (tVar 1)) (gName 3))
    (tSeq (tAsg (tOp rFdiv (tOp (rIx a.S) (tVar 0) (tC (.int 2))) (tVar 1)) (gSub (tVar 0) (tC (.int 2)) rSetL))
    (tRet (tVar 3)))) tNext)
    (tSeq (tAsg (tOp rMod (tCB rInt (tCons (tOp rMul (tOp (rIx a.S) (tVar 0) (tC (.int 3))) (tC (.int 48271))) tNil)) (tC (.int 2147483647))) (gSub (tVar 0) (tC (.int 3)) rSetL))
    (tSeq (tAsg (tOp rMod (tCB rInt (tCons (tOp rMul (tOp (rIx a.S) (tVar 0) (tC (.int 3))) (tC (.int 40692))) tNil)) (tC (.int 2147483399))) (gName 4))
    (tRet (tOp rMod (tCB rInt (tCons (tOp rAdd (tOp rAdd (tOp rFdiv (tVar 4) (tC (.int 7))) (tOp (rIx a.S) (tVar 0) (tC (.int 4)))) (tOp rFdiv (tOp (rIx a.S) (tVar 0) (tC (.int 4))) (tC (.int 5)))) tNil)) (tVar 1))))))))
def sp_draw (a : Cl) : Sp := spB 5 2 (t_draw a)
theorem in_draw {a : Cl} {v0 v1 : V} {H : Hp} {Q : VK} {E : XK} (h : (tSeq (tAsg (tOp rAdd (tOp (rIx a.S) (tVar 0) (tC (.int 4))) (tC (.int 1))) (gSub (tVar 0) (tC (.int 4)) rSetL))
    (tSeq (tIfS (tAnd (tTest (tOp (rEqP a.S) (tOp (rIx a.S) (tVar 0) (tC (.int 2))) (tC (.int 0)))) (tTest (tOp rLt (tOp (rIx a.S) (tVar 0) (tC (.int 1))) (tCB (rLen a.S) (tCons (tOp (rIx a.S) (tVar 0) (tC (.int 0))) tNil))))) (tSeq (tAsg (tOp (rIx a.S) (tOp (rIx a.S) (tVar 0) (tC (.int 0))) (tOp (rIx a.S) (tVar 0) (tC (.int 1)))) (gName 2))
    (tSeq (tAsg (tOp rAdd (tOp (rIx a.S) (tVar 0) (tC (.int 1))) (tC (.int 1))) (gSub (tVar 0) (tC (.int 1)) rSetL))
    (tIfS (tTest (tOp rGe (tCB rAbs (tCons (tVar 2) tNil)) (tOp rPow (tC (.int 10)) (tC (.int 18))))) (tAsg (tCB rAbs (tCons (tVar 2) tNil)) (gSub (tVar 0) (tC (.int 2)) rSetL)) (tAsg (tOp rMod (tCB rInt (tCons (tOp rAdd (tOp rAdd (tOp rMul (tOp (rIx a.S) (tVar 0) (tC (.int 3))) (tC (.int 48271))) (tOp rMul (tVar 2) (tC (.int 69621)))) (tOp (rIx a.S) (tVar 0) (tC (.int 1)))) tNil)) (tC (.int 2147483647))) (gSub (tVar 0) (tC (.int 3)) rSetL))))) tNext)
    (tSeq (tIfS (tTest (tOp rGt (tOp (rIx a.S) (tVar 0) (tC (.int 2))) (tC (.int 0)))) (tSeq (tAsg (tOp rMod (tCB rInt (tCons (tOp (rIx a.S) (tVar 0) (tC (.int 2))) tNil)) (tVar 1)) (gName 3))
    (tSeq (tAsg (tOp rFdiv (tOp (rIx a.S) (tVar 0) (tC (.int 2))) (tVar 1)) (gSub (tVar 0) (tC (.int 2)) rSetL))
    (tRet (tVar 3)))) tNext)
    (tSeq (tAsg (tOp rMod (tCB rInt (tCons (tOp rMul (tOp (rIx a.S) (tVar 0) (tC (.int 3))) (tC (.int 48271))) tNil)) (tC (.int 2147483647))) (gSub (tVar 0) (tC (.int 3)) rSetL))
    (tSeq (tAsg (tOp rMod (tCB rInt (tCons (tOp rMul (tOp (rIx a.S) (tVar 0) (tC (.int 3))) (tC (.int 40692))) tNil)) (tC (.int 2147483399))) (gName 4))
    (tRet (tOp rMod (tCB rInt (tCons (tOp rAdd (tOp rAdd (tOp rFdiv (tVar 4) (tC (.int 7))) (tOp (rIx a.S) (tVar 0) (tC (.int 4)))) (tOp rFdiv (tOp (rIx a.S) (tVar 0) (tC (.int 4))) (tC (.int 5)))) tNil)) (tVar 1)))))))) ⟨fun _ H' => Q .non H', Q, fun _ _ => False, fun _ _ => False⟩ [some v0, some v1, none, none, none] H) : sp_draw a [v0, v1] H Q E := ⟨rfl, h⟩
def t_limit (a : Cl) (E : XK) : TS :=
  (tSeq (tIfS (tTest (tOp (rEqP a.S) (tCall (sp_draw a) [] E (tCons (tVar 0) (tCons (tC (.int 8)) tNil))) (tC (.int 7)))) (tRet (tOp rAdd (tC (.int 1)) (tCall (sp_draw a) [] E (tCons (tVar 0) (tCons (tC (.int 65535)) tNil))))) tNext)
    (tRet (tOp rAdd (tC (.int 1)) (tCall (sp_draw a) [] E (tCons (tVar 0) (tCons (tC (.int 16)) tNil))))))
def sp_limit (a : Cl) : Sp := spB 1 1 (t_limit a)
theorem in_limit {a : Cl} {v0 : V} {H : Hp} {Q : VK} {E : XK} (h : (tSeq (tIfS (tTest (tOp (rEqP a.S) (tCall (sp_draw a) [] E (tCons (tVar 0) (tCons (tC (.int 8)) tNil))) (tC (.int 7)))) (tRet (tOp rAdd (tC (.int 1)) (tCall (sp_draw a) [] E (tCons (tVar 0) (tCons (tC (.int 65535)) tNil))))) tNext)
    (tRet (tOp rAdd (tC (.int 1)) (tCall (sp_draw a) [] E (tCons (tVar 0) (tCons (tC (.int 16)) tNil)))))) ⟨fun _ H' => Q .non H', Q, fun _ _ => False, fun _ _ => False⟩ [some v0] H) : sp_limit a [v0] H Q E := ⟨rfl, h⟩
def t_is_whole (a : Cl) (E : XK) : TS :=
  (tRet (tAndV (tCB rIsI (tCons (tVar 0) (tCons (tC (.ty "int")) tNil))) (tNotV (tCB rIsI (tCons (tVar 0) (tCons (tC (.ty "bool")) tNil))))))
def sp_is_whole (a : Cl) : Sp := spB 1 1 (t_is_whole a)
theorem in_is_whole {a : Cl} {v0 : V} {H : Hp} {Q : VK} {E : XK} (h : (tRet (tAndV (tCB rIsI (tCons (tVar 0) (tCons (tC (.ty "int")) tNil))) (tNotV (tCB rIsI (tCons (tVar 0) (tCons (tC (.ty "bool")) tNil)))))) ⟨fun _ H' => Q .non H', Q, fun _ _ => False, fun _ _ => False⟩ [some v0] H) : sp_is_whole a [v0] H Q E := ⟨rfl, h⟩
def t_in_range (a : Cl) (E : XK) : TS :=
  (tRet (tAndV (tCall (sp_is_whole a) [] E (tCons (tVar 0) tNil)) (tChain rLe rLe (tVar 1) (tVar 0) (tVar 2))))
def sp_in_range (a : Cl) : Sp := spB 3 3 (t_in_range a)
theorem in_in_range {a : Cl} {v0 v1 v2 : V} {H : Hp} {Q : VK} {E : XK} (h : (tRet (tAndV (tCall (sp_is_whole a) [] E (tCons (tVar 0) tNil)) (tChain rLe rLe (tVar 1) (tVar 0) (tVar 2)))) ⟨fun _ H' => Q .non H', Q, fun _ _ => False, fun _ _ => False⟩ [some v0, some v1, some v2] H) : sp_in_range a [v0, v1, v2] H Q E := ⟨rfl, h⟩
def t_checked_limit (a : Cl) (E : XK) : TS :=
  (tSeq (tIfS (tNot (tB (tCall (sp_in_range a) [] E (tCons (tVar 0) (tCons (tC (.int 1)) (tCons (tC (.int 65535)) tNil)))))) (sRaise E (tMkC a.c_InvalidSetting ["setting"] (tCons (tC (.str "limit")) tNil))) tNext)
    (tRet (tVar 0)))
def sp_checked_limit (a : Cl) : Sp := spB 1 1 (t_checked_limit a)
theorem in_checked_limit {a : Cl} {v0 : V} {H : Hp} {Q : VK} {E : XK} (h : (tSeq (tIfS (tNot (tB (tCall (sp_in_range a) [] E (tCons (tVar 0) (tCons (tC (.int 1)) (tCons (tC (.int 65535)) tNil)))))) (sRaise E (tMkC a.c_InvalidSetting ["setting"] (tCons (tC (.str "limit")) tNil))) tNext)
    (tRet (tVar 0))) ⟨fun _ H' => Q .non H', Q, fun _ _ => False, fun _ _ => False⟩ [some v0] H) : sp_checked_limit a [v0] H Q E := ⟨rfl, h⟩
def t_Outbox_limit_set (a : Cl) (E : XK) : TS :=
  (sSetF a.c_Outbox "capacity" (tVar 0) (tCall (sp_checked_limit a) [] E (tCons (tVar 1) tNil)))
def sp_Outbox_limit_set (a : Cl) : Sp := spB 2 2 (t_Outbox_limit_set a)
theorem in_Outbox_limit_set {a : Cl} {v0 v1 : V} {H : Hp} {Q : VK} {E : XK} (h : (sSetF a.c_Outbox "capacity" (tVar 0) (tCall (sp_checked_limit a) [] E (tCons (tVar 1) tNil))) ⟨fun _ H' => Q .non H', Q, fun _ _ => False, fun _ _ => False⟩ [some v0, some v1] H) : sp_Outbox_limit_set a [v0, v1] H Q E := ⟨rfl, h⟩
def t_Outbox___init__ (a : Cl) (E : XK) : TS :=
  (tSeq (sPropS a.c_Outbox (sp_Outbox_limit_set a) E (tVar 0) (tVar 1))
    (tSeq (sSetF a.c_Outbox "base" (tVar 0) (tC (.int 1)))
    (tSeq (sSetF a.c_Outbox "end" (tVar 0) (tC (.int 1)))
    (tSeq (sSetF a.c_Outbox "closed" (tVar 0) (tC (.bl false)))
    (tSeq (sSetF a.c_Outbox "urgent_end" (tVar 0) (tC (.int 0)))
    (sSetF a.c_Outbox "content" (tVar 0) (tLst tNil)))))))
def sp_Outbox___init__ (a : Cl) : Sp := spB 2 2 (t_Outbox___init__ a)
theorem in_Outbox___init__ {a : Cl} {v0 v1 : V} {H : Hp} {Q : VK} {E : XK} (h : (tSeq (sPropS a.c_Outbox (sp_Outbox_limit_set a) E (tVar 0) (tVar 1))
    (tSeq (sSetF a.c_Outbox "base" (tVar 0) (tC (.int 1)))
    (tSeq (sSetF a.c_Outbox "end" (tVar 0) (tC (.int 1)))
    (tSeq (sSetF a.c_Outbox "closed" (tVar 0) (tC (.bl false)))
    (tSeq (sSetF a.c_Outbox "urgent_end" (tVar 0) (tC (.int 0)))
    (sSetF a.c_Outbox "content" (tVar 0) (tLst tNil))))))) ⟨fun _ H' => Q .non H', Q, fun _ _ => False, fun _ _ => False⟩ [some v0, some v1] H) : sp_Outbox___init__ a [v0, v1] H Q E := ⟨rfl, h⟩
def t_Outbox_free (a : Cl) (E : XK) : TS :=
  (tRet (tCB rMax2 (tCons (tC (.int 0)) (tCons (tOp rSub (eFld a.c_Outbox "capacity" (tVar 0)) (tOp rSub (eFld a.c_Outbox "end" (tVar 0)) (eFld a.c_Outbox "base" (tVar 0)))) tNil))))
def sp_Outbox_free (a : Cl) : Sp := spB 1 1 (t_Outbox_free a)
theorem in_Outbox_free {a : Cl} {v0 : V} {H : Hp} {Q : VK} {E : XK} (h : (tRet (tCB rMax2 (tCons (tC (.int 0)) (tCons (tOp rSub (eFld a.c_Outbox "capacity" (tVar 0)) (tOp rSub (eFld a.c_Outbox "end" (tVar 0)) (eFld a.c_Outbox "base" (tVar 0)))) tNil)))) ⟨fun _ H' => Q .non H', Q, fun _ _ => False, fun _ _ => False⟩ [some v0] H) : sp_Outbox_free a [v0] H Q E := ⟨rfl, h⟩
def t_Outbox_limit (a : Cl) (E : XK) : TS :=
  (tRet (eFld a.c_Outbox "capacity" (tVar 0)))
def sp_Outbox_limit (a : Cl) : Sp := spB 1 1 (t_Outbox_limit a)
theorem in_Outbox_limit {a : Cl} {v0 : V} {H : Hp} {Q : VK} {E : XK} (h : (tRet (eFld a.c_Outbox "capacity" (tVar 0))) ⟨fun _ H' => Q .non H', Q, fun _ _ => False, fun _ _ => False⟩ [some v0] H) : sp_Outbox_limit a [v0] H Q E := ⟨rfl, h⟩
def t_Outbox_bound (a : Cl) (E : XK) : TS :=
  (tSeq (tIfS (tB (eFld a.c_Outbox "closed" (tVar 0))) (tRet (tOp rAdd (eFld a.c_Outbox "end" (tVar 0)) (tC (.int 1)))) tNext)
    (tRet (eFld a.c_Outbox "end" (tVar 0))))
def sp_Outbox_bound (a : Cl) : Sp := spB 1 1 (t_Outbox_bound a)
theorem in_Outbox_bound {a : Cl} {v0 : V} {H : Hp} {Q : VK} {E : XK} (h : (tSeq (tIfS (tB (eFld a.c_Outbox "closed" (tVar 0))) (tRet (tOp rAdd (eFld a.c_Outbox "end" (tVar 0)) (tC (.int 1)))) tNext)
    (tRet (eFld a.c_Outbox "end" (tVar 0)))) ⟨fun _ H' => Q .non H', Q, fun _ _ => False, fun _ _ => False⟩ [some v0] H) : sp_Outbox_bound a [v0] H Q E := ⟨rfl, h⟩
def t_l_is_whole (a : Cl) (E : XK) : TS :=
  (tRet (tAndV (tCB rIsI (tCons (tVar 0) (tCons (tC (.ty "int")) tNil))) (tNotV (tCB rIsI (tCons (tVar 0) (tCons (tC (.ty "bool")) tNil))))))
def sp_l_is_whole (a : Cl) : Sp := spB 1 1 (t_l_is_whole a)
theorem in_l_is_whole {a : Cl} {v0 : V} {H : Hp} {Q : VK} {E : XK} (h : (tRet (tAndV (tCB rIsI (tCons (tVar 0) (tCons (tC (.ty "int")) tNil))) (tNotV (tCB rIsI (tCons (tVar 0) (tCons (tC (.ty "bool")) tNil)))))) ⟨fun _ H' => Q .non H', Q, fun _ _ => False, fun _ _ => False⟩ [some v0] H) : sp_l_is_whole a [v0] H Q E := ⟨rfl, h⟩
def t_state (a : Cl) (E : XK) : TS :=
  (tSeq (tAsg (tOp rAdd (tC (.int 1)) (tCB (rLen a.S) (tCons (tRec (tVar 1) "content") tNil))) (gName 2))
    (tSeq (tAsg (tCB rMax2 (tCons (tC (.int 0)) (tCons (tOp rSub (tRec (tVar 1) "limit") (tOp rSub (tVar 2) (tRec (tVar 1) "base"))) tNil))) (gName 3))
    (tSeq (tAsg (tLst (tCons (tTup (tCons (eFld a.c_Outbox "base" (tVar 0)) (tCons (tRec (tVar 1) "base") tNil))) (tCons (tTup (tCons (eFld a.c_Outbox "end" (tVar 0)) (tCons (tVar 2) tNil))) (tCons (tTup (tCons (eFld a.c_Outbox "urgent_end" (tVar 0)) (tCons (tRec (tVar 1) "urgent") tNil))) tNil)))) (gName 4))
    (tSeq (tAsg (tOp rAdd (tVar 4) (tLst (tCons (tTup (tCons (eProp a.c_Outbox (sp_Outbox_limit a) (tVar 0)) (tCons (tRec (tVar 1) "limit") tNil))) (tCons (tTup (tCons (eProp a.c_Outbox (sp_Outbox_free a) (tVar 0)) (tCons (tVar 3) tNil))) tNil)))) (gName 4))
    (tSeq (tAsg (tOp rAdd (tVar 4) (tLst (tCons (tTup (tCons (eProp a.c_Outbox (sp_Outbox_bound a) (tVar 0)) (tCons (tOp rAdd (tVar 2) (tCB rInt (tCons (tRec (tVar 1) "closed") tNil))) tNil))) tNil))) (gName 4))
    (tSeq (sFor a.S (tVar 4) (gName 5) (tIfS (tOr (tNot (tB (tCall (sp_l_is_whole a) [] E (tCons (tOp (rIx a.S) (tVar 5) (tC (.int 0))) tNil)))) (tTest (tOp (rNeP a.S) (tOp (rIx a.S) (tVar 5) (tC (.int 0))) (tOp (rIx a.S) (tVar 5) (tC (.int 1)))))) (tRet (tC (.bl false))) tNext))
    (tSeq (tIfS (tB (tRec (tVar 1) "closed")) (tRet (tOp rIsB (eFld a.c_Outbox "closed" (tVar 0)) (tC (.bl true)))) tNext)
    (tRet (tOp rIsB (eFld a.c_Outbox "closed" (tVar 0)) (tC (.bl false)))))))))))
def sp_state (a : Cl) : Sp := spB 6 2 (t_state a)
theorem in_state {a : Cl} {v0 v1 : V} {H : Hp} {Q : VK} {E : XK} (h : (tSeq (tAsg (tOp rAdd (tC (.int 1)) (tCB (rLen a.S) (tCons (tRec (tVar 1) "content") tNil))) (gName 2))
    (tSeq (tAsg (tCB rMax2 (tCons (tC (.int 0)) (tCons (tOp rSub (tRec (tVar 1) "limit") (tOp rSub (tVar 2) (tRec (tVar 1) "base"))) tNil))) (gName 3))
    (tSeq (tAsg (tLst (tCons (tTup (tCons (eFld a.c_Outbox "base" (tVar 0)) (tCons (tRec (tVar 1) "base") tNil))) (tCons (tTup (tCons (eFld a.c_Outbox "end" (tVar 0)) (tCons (tVar 2) tNil))) (tCons (tTup (tCons (eFld a.c_Outbox "urgent_end" (tVar 0)) (tCons (tRec (tVar 1) "urgent") tNil))) tNil)))) (gName 4))
    (tSeq (tAsg (tOp rAdd (tVar 4) (tLst (tCons (tTup (tCons (eProp a.c_Outbox (sp_Outbox_limit a) (tVar 0)) (tCons (tRec (tVar 1) "limit") tNil))) (tCons (tTup (tCons (eProp a.c_Outbox (sp_Outbox_free a) (tVar 0)) (tCons (tVar 3) tNil))) tNil)))) (gName 4))
    (tSeq (tAsg (tOp rAdd (tVar 4) (tLst (tCons (tTup (tCons (eProp a.c_Outbox (sp_Outbox_bound a) (tVar 0)) (tCons (tOp rAdd (tVar 2) (tCB rInt (tCons (tRec (tVar 1) "closed") tNil))) tNil))) tNil))) (gName 4))
    (tSeq (sFor a.S (tVar 4) (gName 5) (tIfS (tOr (tNot (tB (tCall (sp_l_is_whole a) [] E (tCons (tOp (rIx a.S) (tVar 5) (tC (.int 0))) tNil)))) (tTest (tOp (rNeP a.S) (tOp (rIx a.S) (tVar 5) (tC (.int 0))) (tOp (rIx a.S) (tVar 5) (tC (.int 1)))))) (tRet (tC (.bl false))) tNext))
    (tSeq (tIfS (tB (tRec (tVar 1) "closed")) (tRet (tOp rIsB (eFld a.c_Outbox "closed" (tVar 0)) (tC (.bl true)))) tNext)
    (tRet (tOp rIsB (eFld a.c_Outbox "closed" (tVar 0)) (tC (.bl false))))))))))) ⟨fun _ H' => Q .non H', Q, fun _ _ => False, fun _ _ => False⟩ [some v0, some v1, none, none, none, none] H) : sp_state a [v0, v1] H Q E := ⟨rfl, h⟩
def t_bytes (a : Cl) (E : XK) : TS :=
  (tSeq (tAsg (tCall (sp_draw a) [] E (tCons (tVar 0) (tCons (tC (.int 7)) tNil))) (gName 2))
    (tSeq (tIfS (tTest (tOp (rEqP a.S) (tCall (sp_draw a) [] E (tCons (tVar 0) (tCons (tC (.int 4)) tNil))) (tC (.int 3)))) (tAsg (tCall (sp_draw a) [] E (tCons (tVar 0) (tCons (tOp rAdd (tVar 1) (tC (.int 1))) tNil))) (gName 2)) tNext)
    (tSeq (tIfS (tTest (tOp (rEqP a.S) (tCall (sp_draw a) [] E (tCons (tVar 0) (tCons (tC (.int 2)) tNil))) (tC (.int 0)))) (tRet (eLcR none (tVar 2) (gName 3) tYes (tCall (sp_draw a) [] E0 (tCons (tVar 0) (tCons (tC (.int 256)) tNil))) [3])) tNext)
    (tSeq (tAsg (tCall (sp_draw a) [] E (tCons (tVar 0) (tCons (tC (.int 256)) tNil))) (gName 4))
    (tSeq (tAsg (tCall (sp_draw a) [] E (tCons (tVar 0) (tCons (tC (.int 256)) tNil))) (gName 5))
    (tRet (eLcR none (tVar 2) (gName 3) tYes (tOp rMod (tCB rInt (tCons (tOp rAdd (tVar 4) (tOp rMul (tVar 3) (tVar 5))) tNil)) (tC (.int 256))) [3])))))))
def sp_bytes (a : Cl) : Sp := spB 6 2 (t_bytes a)
theorem in_bytes {a : Cl} {v0 v1 : V} {H : Hp} {Q : VK} {E : XK} (h : (tSeq (tAsg (tCall (sp_draw a) [] E (tCons (tVar 0) (tCons (tC (.int 7)) tNil))) (gName 2))
    (tSeq (tIfS (tTest (tOp (rEqP a.S) (tCall (sp_draw a) [] E (tCons (tVar 0) (tCons (tC (.int 4)) tNil))) (tC (.int 3)))) (tAsg (tCall (sp_draw a) [] E (tCons (tVar 0) (tCons (tOp rAdd (tVar 1) (tC (.int 1))) tNil))) (gName 2)) tNext)
    (tSeq (tIfS (tTest (tOp (rEqP a.S) (tCall (sp_draw a) [] E (tCons (tVar 0) (tCons (tC (.int 2)) tNil))) (tC (.int 0)))) (tRet (eLcR none (tVar 2) (gName 3) tYes (tCall (sp_draw a) [] E0 (tCons (tVar 0) (tCons (tC (.int 256)) tNil))) [3])) tNext)
    (tSeq (tAsg (tCall (sp_draw a) [] E (tCons (tVar 0) (tCons (tC (.int 256)) tNil))) (gName 4))
    (tSeq (tAsg (tCall (sp_draw a) [] E (tCons (tVar 0) (tCons (tC (.int 256)) tNil))) (gName 5))
    (tRet (eLcR none (tVar 2) (gName 3) tYes (tOp rMod (tCB rInt (tCons (tOp rAdd (tVar 4) (tOp rMul (tVar 3) (tVar 5))) tNil)) (tC (.int 256))) [3]))))))) ⟨fun _ H' => Q .non H', Q, fun _ _ => False, fun _ _ => False⟩ [some v0, some v1, none, none, none, none] H) : sp_bytes a [v0, v1] H Q E := ⟨rfl, h⟩
def t_is_row (a : Cl) (E : XK) : TS :=
  (tRet (tCB rIsT (tCons (tVar 0) (tCons (tTup (tCons (tC (.ty "list")) (tCons (tC (.ty "tuple")) tNil))) tNil))))
def sp_is_row (a : Cl) : Sp := spB 1 1 (t_is_row a)
theorem in_is_row {a : Cl} {v0 : V} {H : Hp} {Q : VK} {E : XK} (h : (tRet (tCB rIsT (tCons (tVar 0) (tCons (tTup (tCons (tC (.ty "list")) (tCons (tC (.ty "tuple")) tNil))) tNil)))) ⟨fun _ H' => Q .non H', Q, fun _ _ => False, fun _ _ => False⟩ [some v0] H) : sp_is_row a [v0] H Q E := ⟨rfl, h⟩
def t_as_data (a : Cl) (E : XK) : TS :=
  (tSeq (tIfS (tNot (tB (tCall (sp_is_row a) [] E (tCons (tVar 0) tNil)))) (sRaise E (tMkC a.c_InvalidNumber ["number"] (tCons (tVar 0) tNil))) tNext)
    (tSeq (sFor a.S (tVar 0) (gName 1) (tIfS (tNot (tB (tCall (sp_in_range a) [] E (tCons (tVar 1) (tCons (tC (.int 0)) (tCons (tC (.int 255)) tNil)))))) (sRaise E (tMkC a.c_InvalidNumber ["number"] (tCons (tVar 1) tNil))) tNext))
    (tRet (tCB (rTupleOf a.S) (tCons (tVar 0) tNil)))))
def sp_as_data (a : Cl) : Sp := spB 2 1 (t_as_data a)
theorem in_as_data {a : Cl} {v0 : V} {H : Hp} {Q : VK} {E : XK} (h : (tSeq (tIfS (tNot (tB (tCall (sp_is_row a) [] E (tCons (tVar 0) tNil)))) (sRaise E (tMkC a.c_InvalidNumber ["number"] (tCons (tVar 0) tNil))) tNext)
    (tSeq (sFor a.S (tVar 0) (gName 1) (tIfS (tNot (tB (tCall (sp_in_range a) [] E (tCons (tVar 1) (tCons (tC (.int 0)) (tCons (tC (.int 255)) tNil)))))) (sRaise E (tMkC a.c_InvalidNumber ["number"] (tCons (tVar 1) tNil))) tNext))
    (tRet (tCB (rTupleOf a.S) (tCons (tVar 0) tNil))))) ⟨fun _ H' => Q .non H', Q, fun _ _ => False, fun _ _ => False⟩ [some v0, none] H) : sp_as_data a [v0] H Q E := ⟨rfl, h⟩
def t_Outbox_put (a : Cl) (E : XK) : TS :=
  (tSeq (tIfS (tB (eFld a.c_Outbox "closed" (tVar 0))) (sRaise E (tMkF a.c_NotAllowed ["state"] (tCons (tC (.str "closed")) tNil))) tNext)
    (tSeq (tAsg (L2.tSl (rTSl a.S) (tCall (sp_as_data a) [] E (tCons (tVar 1) tNil)) tNoPart (tPart (eProp a.c_Outbox (sp_Outbox_free a) (tVar 0)))) (gName 2))
    (tSeq (sSetF a.c_Outbox "content" (tVar 0) (tOp rAdd (eFld a.c_Outbox "content" (tVar 0)) (tCB (rListOf a.S) (tCons (tVar 2) tNil))))
    (tSeq (sSetF a.c_Outbox "end" (tVar 0) (tOp rAdd (eFld a.c_Outbox "end" (tVar 0)) (tCB (rLen a.S) (tCons (tVar 2) tNil))))
    (tRet (tCB (rLen a.S) (tCons (tVar 2) tNil)))))))
def sp_Outbox_put (a : Cl) : Sp := spB 3 2 (t_Outbox_put a)
theorem in_Outbox_put {a : Cl} {v0 v1 : V} {H : Hp} {Q : VK} {E : XK} (h : (tSeq (tIfS (tB (eFld a.c_Outbox "closed" (tVar 0))) (sRaise E (tMkF a.c_NotAllowed ["state"] (tCons (tC (.str "closed")) tNil))) tNext)
    (tSeq (tAsg (L2.tSl (rTSl a.S) (tCall (sp_as_data a) [] E (tCons (tVar 1) tNil)) tNoPart (tPart (eProp a.c_Outbox (sp_Outbox_free a) (tVar 0)))) (gName 2))
    (tSeq (sSetF a.c_Outbox "content" (tVar 0) (tOp rAdd (eFld a.c_Outbox "content" (tVar 0)) (tCB (rListOf a.S) (tCons (tVar 2) tNil))))
    (tSeq (sSetF a.c_Outbox "end" (tVar 0) (tOp rAdd (eFld a.c_Outbox "end" (tVar 0)) (tCB (rLen a.S) (tCons (tVar 2) tNil))))
    (tRet (tCB (rLen a.S) (tCons (tVar 2) tNil))))))) ⟨fun _ H' => Q .non H', Q, fun _ _ => False, fun _ _ => False⟩ [some v0, some v1, none] H) : sp_Outbox_put a [v0, v1] H Q E := ⟨rfl, h⟩
def t_Outbox_urge (a : Cl) (E : XK) : TS :=
  (tSeq (tAsg (tMeth a.c_Outbox "put" (sp_Outbox_put a) [] E (tVar 0) (tCons (tVar 1) tNil)) (gName 2))
    (tSeq (tIfS (tTest (tOp rGt (tVar 2) (tC (.int 0)))) (sSetF a.c_Outbox "urgent_end" (tVar 0) (eFld a.c_Outbox "end" (tVar 0))) tNext)
    (tRet (tVar 2))))
def sp_Outbox_urge (a : Cl) : Sp := spB 3 2 (t_Outbox_urge a)
theorem in_Outbox_urge {a : Cl} {v0 v1 : V} {H : Hp} {Q : VK} {E : XK} (h : (tSeq (tAsg (tMeth a.c_Outbox "put" (sp_Outbox_put a) [] E (tVar 0) (tCons (tVar 1) tNil)) (gName 2))
    (tSeq (tIfS (tTest (tOp rGt (tVar 2) (tC (.int 0)))) (sSetF a.c_Outbox "urgent_end" (tVar 0) (eFld a.c_Outbox "end" (tVar 0))) tNext)
    (tRet (tVar 2)))) ⟨fun _ H' => Q .non H', Q, fun _ _ => False, fun _ _ => False⟩ [some v0, some v1, none] H) : sp_Outbox_urge a [v0, v1] H Q E := ⟨rfl, h⟩
def t_only (a : Cl) (b : Addr) (cls : Value) (d : Option Addr) (E : XK) : TS :=
  (tSeq (tIfS (tOr (tNot (tB (tCB (rIsX [(.ref a.c_NotAllowed, .ref a.c_LossError, true), (.ref a.c_InvalidSetting, .ref a.c_LossError, true), (.ref a.c_InvalidNumber, .ref a.c_LossError, true)] b cls d) (tCons (tVar 0) (tCons (eCon (.ref a.c_LossError)) tNil))))) (tNot (tB (tCB (rIsX [(.ref a.c_NotAllowed, .ty "ValueError", true), (.ref a.c_InvalidSetting, .ty "ValueError", true), (.ref a.c_InvalidNumber, .ty "ValueError", true)] b cls d) (tCons (tVar 0) (tCons (tC (.ty "ValueError")) tNil)))))) (tRet (tC (.bl false))) tNext)
    (tSeq (tIfS (tOr (tTest (tOp (rNeP a.S) (tCB (rIsX [(.ref a.c_NotAllowed, .ref a.c_InvalidNumber, false), (.ref a.c_InvalidSetting, .ref a.c_InvalidNumber, false), (.ref a.c_InvalidNumber, .ref a.c_InvalidNumber, true)] b cls d) (tCons (tVar 0) (tCons (eCon (.ref a.c_InvalidNumber)) tNil))) (tVar 1))) (tTest (tOp (rNeP a.S) (tCB (rIsX [(.ref a.c_NotAllowed, .ref a.c_InvalidSetting, false), (.ref a.c_InvalidSetting, .ref a.c_InvalidSetting, true), (.ref a.c_InvalidNumber, .ref a.c_InvalidSetting, false)] b cls d) (tCons (tVar 0) (tCons (eCon (.ref a.c_InvalidSetting)) tNil))) (tVar 2)))) (tRet (tC (.bl false))) tNext)
    (tRet (tOp (rEqP a.S) (tCB (rIsX [(.ref a.c_NotAllowed, .ref a.c_NotAllowed, true), (.ref a.c_InvalidSetting, .ref a.c_NotAllowed, false), (.ref a.c_InvalidNumber, .ref a.c_NotAllowed, false)] b cls d) (tCons (tVar 0) (tCons (eCon (.ref a.c_NotAllowed)) tNil))) (tVar 3)))))
def sp_only (a : Cl) (b : Addr) (cls : Value) (d : Option Addr) : Sp := spB 4 4 (t_only a b cls d)
theorem in_only {a : Cl} {b : Addr} {cls : Value} {d : Option Addr} {v0 v1 v2 v3 : V} {H : Hp} {Q : VK} {E : XK} (h : (tSeq (tIfS (tOr (tNot (tB (tCB (rIsX [(.ref a.c_NotAllowed, .ref a.c_LossError, true), (.ref a.c_InvalidSetting, .ref a.c_LossError, true), (.ref a.c_InvalidNumber, .ref a.c_LossError, true)] b cls d) (tCons (tVar 0) (tCons (eCon (.ref a.c_LossError)) tNil))))) (tNot (tB (tCB (rIsX [(.ref a.c_NotAllowed, .ty "ValueError", true), (.ref a.c_InvalidSetting, .ty "ValueError", true), (.ref a.c_InvalidNumber, .ty "ValueError", true)] b cls d) (tCons (tVar 0) (tCons (tC (.ty "ValueError")) tNil)))))) (tRet (tC (.bl false))) tNext)
    (tSeq (tIfS (tOr (tTest (tOp (rNeP a.S) (tCB (rIsX [(.ref a.c_NotAllowed, .ref a.c_InvalidNumber, false), (.ref a.c_InvalidSetting, .ref a.c_InvalidNumber, false), (.ref a.c_InvalidNumber, .ref a.c_InvalidNumber, true)] b cls d) (tCons (tVar 0) (tCons (eCon (.ref a.c_InvalidNumber)) tNil))) (tVar 1))) (tTest (tOp (rNeP a.S) (tCB (rIsX [(.ref a.c_NotAllowed, .ref a.c_InvalidSetting, false), (.ref a.c_InvalidSetting, .ref a.c_InvalidSetting, true), (.ref a.c_InvalidNumber, .ref a.c_InvalidSetting, false)] b cls d) (tCons (tVar 0) (tCons (eCon (.ref a.c_InvalidSetting)) tNil))) (tVar 2)))) (tRet (tC (.bl false))) tNext)
    (tRet (tOp (rEqP a.S) (tCB (rIsX [(.ref a.c_NotAllowed, .ref a.c_NotAllowed, true), (.ref a.c_InvalidSetting, .ref a.c_NotAllowed, false), (.ref a.c_InvalidNumber, .ref a.c_NotAllowed, false)] b cls d) (tCons (tVar 0) (tCons (eCon (.ref a.c_NotAllowed)) tNil))) (tVar 3))))) ⟨fun _ H' => Q .non H', Q, fun _ _ => False, fun _ _ => False⟩ [some v0, some v1, some v2, some v3] H) : sp_only a b cls d [v0, v1, v2, v3] H Q E := ⟨rfl, h⟩
def t_adds (a : Cl) (E : XK) : TS :=
  (tSeq (tAsg (tCB (rListOf a.S) (tCons (tVar 2) tNil)) (gName 4))
    (tSeq (tAsg (tCB rMax2 (tCons (tC (.int 0)) (tCons (tOp rSub (tRec (tVar 1) "limit") (tOp rSub (tOp rAdd (tC (.int 1)) (tCB (rLen a.S) (tCons (tRec (tVar 1) "content") tNil))) (tRec (tVar 1) "base"))) tNil))) (gName 5))
    (tSeq (tAsg (tCB rMin2 (tCons (tVar 5) (tCons (tCB (rLen a.S) (tCons (tVar 4) tNil)) tNil))) (gName 6))
    (tSeq (sTry [(.ref a.c_NotAllowed, 0)] [(some 8, fun b cls d => (tRet (tAndV (tRec (tVar 1) "closed") (tAndV (tOp (rEqP a.S) (eXf b cls d [a.c_NotAllowed] "state" (tVar 8)) (tC (.str "closed"))) (tCall (sp_only a b cls d) [] E0 (tCons (tVar 8) (tCons (tC (.bl false)) (tCons (tC (.bl false)) (tCons (tC (.bl true)) tNil)))))))))] (fun W => (tIfS (tB (tVar 3)) (tAsg (tMS a.c_Outbox "urge" (sp_Outbox_urge a) (WE W) (tVar 0) (tCons (tVar 2) tNil)) (gName 7)) (tAsg (tMS a.c_Outbox "put" (sp_Outbox_put a) (WE W) (tVar 0) (tCons (tVar 2) tNil)) (gName 7)))))
    (tSeq (tIfS (tOr (tB (tRec (tVar 1) "closed")) (tOr (tNot (tB (tCall (sp_l_is_whole a) [] E (tCons (tVar 7) tNil)))) (tOr (tTest (tOp (rNeP a.S) (tVar 7) (tVar 6))) (tTest (tOp (rNeP a.S) (tCB (rListOf a.S) (tCons (tVar 2) tNil)) (tVar 4)))))) (tRet (tC (.bl false))) tNext)
    (tSeq (tIfS (tB (tCB rIsI (tCons (tVar 2) (tCons (tC (.ty "list")) tNil)))) (tSeq (tDrop (eApp (tVar 2) (tCons (tC (.int 7)) tNil)))
    (tAsg (tC (.int 300)) (gSub (tVar 2) (tC (.int 0)) rSetL))) tNext)
    (tSeq (sRecP (tVar 1) "content" (tOp rAdd (tRec (tVar 1) "content") (L2.tSl (rSl a.S) (tVar 4) tNoPart (tPart (tVar 6)))))
    (tSeq (tIfS (tAnd (tB (tVar 3)) (tTest (tOp rGt (tVar 6) (tC (.int 0))))) (sRecP (tVar 1) "urgent" (tOp rAdd (tC (.int 1)) (tCB (rLen a.S) (tCons (tRec (tVar 1) "content") tNil)))) tNext)
    (tRet (tC (.bl true)))))))))))
def sp_adds (a : Cl) : Sp := spB 9 4 (t_adds a)
theorem in_adds {a : Cl} {v0 v1 v2 v3 : V} {H : Hp} {Q : VK} {E : XK} (h : (tSeq (tAsg (tCB (rListOf a.S) (tCons (tVar 2) tNil)) (gName 4))
    (tSeq (tAsg (tCB rMax2 (tCons (tC (.int 0)) (tCons (tOp rSub (tRec (tVar 1) "limit") (tOp rSub (tOp rAdd (tC (.int 1)) (tCB (rLen a.S) (tCons (tRec (tVar 1) "content") tNil))) (tRec (tVar 1) "base"))) tNil))) (gName 5))
    (tSeq (tAsg (tCB rMin2 (tCons (tVar 5) (tCons (tCB (rLen a.S) (tCons (tVar 4) tNil)) tNil))) (gName 6))
    (tSeq (sTry [(.ref a.c_NotAllowed, 0)] [(some 8, fun b cls d => (tRet (tAndV (tRec (tVar 1) "closed") (tAndV (tOp (rEqP a.S) (eXf b cls d [a.c_NotAllowed] "state" (tVar 8)) (tC (.str "closed"))) (tCall (sp_only a b cls d) [] E0 (tCons (tVar 8) (tCons (tC (.bl false)) (tCons (tC (.bl false)) (tCons (tC (.bl true)) tNil)))))))))] (fun W => (tIfS (tB (tVar 3)) (tAsg (tMS a.c_Outbox "urge" (sp_Outbox_urge a) (WE W) (tVar 0) (tCons (tVar 2) tNil)) (gName 7)) (tAsg (tMS a.c_Outbox "put" (sp_Outbox_put a) (WE W) (tVar 0) (tCons (tVar 2) tNil)) (gName 7)))))
    (tSeq (tIfS (tOr (tB (tRec (tVar 1) "closed")) (tOr (tNot (tB (tCall (sp_l_is_whole a) [] E (tCons (tVar 7) tNil)))) (tOr (tTest (tOp (rNeP a.S) (tVar 7) (tVar 6))) (tTest (tOp (rNeP a.S) (tCB (rListOf a.S) (tCons (tVar 2) tNil)) (tVar 4)))))) (tRet (tC (.bl false))) tNext)
    (tSeq (tIfS (tB (tCB rIsI (tCons (tVar 2) (tCons (tC (.ty "list")) tNil)))) (tSeq (tDrop (eApp (tVar 2) (tCons (tC (.int 7)) tNil)))
    (tAsg (tC (.int 300)) (gSub (tVar 2) (tC (.int 0)) rSetL))) tNext)
    (tSeq (sRecP (tVar 1) "content" (tOp rAdd (tRec (tVar 1) "content") (L2.tSl (rSl a.S) (tVar 4) tNoPart (tPart (tVar 6)))))
    (tSeq (tIfS (tAnd (tB (tVar 3)) (tTest (tOp rGt (tVar 6) (tC (.int 0))))) (sRecP (tVar 1) "urgent" (tOp rAdd (tC (.int 1)) (tCB (rLen a.S) (tCons (tRec (tVar 1) "content") tNil)))) tNext)
    (tRet (tC (.bl true))))))))))) ⟨fun _ H' => Q .non H', Q, fun _ _ => False, fun _ _ => False⟩ [some v0, some v1, some v2, some v3, none, none, none, none, none] H) : sp_adds a [v0, v1, v2, v3] H Q E := ⟨rfl, h⟩
def t_tuple_is (a : Cl) (E : XK) : TS :=
  (tSeq (tIfS (tOr (tNot (tB (tCB rIsI (tCons (tVar 0) (tCons (tC (.ty "tuple")) tNil))))) (tTest (tOp (rNeP a.S) (tCB (rLen a.S) (tCons (tVar 0) tNil)) (tCB (rLen a.S) (tCons (tVar 1) tNil))))) (tRet (tC (.bl false))) tNext)
    (tSeq (sForR none (tCB (rLen a.S) (tCons (tVar 1) tNil)) (gName 2) (tIfS (tOr (tNot (tB (tCall (sp_l_is_whole a) [] E (tCons (tOp (rIx a.S) (tVar 0) (tVar 2)) tNil)))) (tTest (tOp (rNeP a.S) (tOp (rIx a.S) (tVar 0) (tVar 2)) (tOp (rIx a.S) (tVar 1) (tVar 2))))) (tRet (tC (.bl false))) tNext))
    (tRet (tC (.bl true)))))
def sp_tuple_is (a : Cl) : Sp := spB 3 2 (t_tuple_is a)
theorem in_tuple_is {a : Cl} {v0 v1 : V} {H : Hp} {Q : VK} {E : XK} (h : (tSeq (tIfS (tOr (tNot (tB (tCB rIsI (tCons (tVar 0) (tCons (tC (.ty "tuple")) tNil))))) (tTest (tOp (rNeP a.S) (tCB (rLen a.S) (tCons (tVar 0) tNil)) (tCB (rLen a.S) (tCons (tVar 1) tNil))))) (tRet (tC (.bl false))) tNext)
    (tSeq (sForR none (tCB (rLen a.S) (tCons (tVar 1) tNil)) (gName 2) (tIfS (tOr (tNot (tB (tCall (sp_l_is_whole a) [] E (tCons (tOp (rIx a.S) (tVar 0) (tVar 2)) tNil)))) (tTest (tOp (rNeP a.S) (tOp (rIx a.S) (tVar 0) (tVar 2)) (tOp (rIx a.S) (tVar 1) (tVar 2))))) (tRet (tC (.bl false))) tNext))
    (tRet (tC (.bl true))))) ⟨fun _ H' => Q .non H', Q, fun _ _ => False, fun _ _ => False⟩ [some v0, some v1, none] H) : sp_tuple_is a [v0, v1] H Q E := ⟨rfl, h⟩
def t_Outbox_cut (a : Cl) (E : XK) : TS :=
  (tSeq (tIfS (tNot (tB (tCall (sp_in_range a) [] E (tCons (tVar 1) (tCons (eFld a.c_Outbox "base" (tVar 0)) (tCons (eFld a.c_Outbox "end" (tVar 0)) tNil)))))) (sRaise E (tMkC a.c_InvalidNumber ["number"] (tCons (tVar 1) tNil))) tNext)
    (tSeq (tIfS (tNot (tB (tCall (sp_in_range a) [] E (tCons (tVar 2) (tCons (tVar 1) (tCons (eFld a.c_Outbox "end" (tVar 0)) tNil)))))) (sRaise E (tMkC a.c_InvalidNumber ["number"] (tCons (tVar 2) tNil))) tNext)
    (tRet (tCB (rTupleOf a.S) (tCons (L2.tSl (rSl a.S) (eFld a.c_Outbox "content" (tVar 0)) (tPart (tOp rSub (tVar 1) (eFld a.c_Outbox "base" (tVar 0)))) (tPart (tOp rSub (tVar 2) (eFld a.c_Outbox "base" (tVar 0))))) tNil)))))
def sp_Outbox_cut (a : Cl) : Sp := spB 3 3 (t_Outbox_cut a)
theorem in_Outbox_cut {a : Cl} {v0 v1 v2 : V} {H : Hp} {Q : VK} {E : XK} (h : (tSeq (tIfS (tNot (tB (tCall (sp_in_range a) [] E (tCons (tVar 1) (tCons (eFld a.c_Outbox "base" (tVar 0)) (tCons (eFld a.c_Outbox "end" (tVar 0)) tNil)))))) (sRaise E (tMkC a.c_InvalidNumber ["number"] (tCons (tVar 1) tNil))) tNext)
    (tSeq (tIfS (tNot (tB (tCall (sp_in_range a) [] E (tCons (tVar 2) (tCons (tVar 1) (tCons (eFld a.c_Outbox "end" (tVar 0)) tNil)))))) (sRaise E (tMkC a.c_InvalidNumber ["number"] (tCons (tVar 2) tNil))) tNext)
    (tRet (tCB (rTupleOf a.S) (tCons (L2.tSl (rSl a.S) (eFld a.c_Outbox "content" (tVar 0)) (tPart (tOp rSub (tVar 1) (eFld a.c_Outbox "base" (tVar 0)))) (tPart (tOp rSub (tVar 2) (eFld a.c_Outbox "base" (tVar 0))))) tNil))))) ⟨fun _ H' => Q .non H', Q, fun _ _ => False, fun _ _ => False⟩ [some v0, some v1, some v2] H) : sp_Outbox_cut a [v0, v1, v2] H Q E := ⟨rfl, h⟩
def t_cuts (a : Cl) (E : XK) : TS :=
  (tSeq (tAsg (tOp rAdd (tC (.int 1)) (tCB (rLen a.S) (tCons (tRec (tVar 2) "content") tNil))) (gName 3))
    (tSeq (tAsg (tOp rAdd (tRec (tVar 2) "base") (tCall (sp_draw a) [] E (tCons (tVar 0) (tCons (tOp rAdd (tOp rSub (tVar 3) (tRec (tVar 2) "base")) (tC (.int 1))) tNil)))) (gName 4))
    (tSeq (tAsg (tOp rAdd (tVar 4) (tCall (sp_draw a) [] E (tCons (tVar 0) (tCons (tOp rAdd (tOp rSub (tVar 3) (tVar 4)) (tC (.int 1))) tNil)))) (gName 5))
    (tSeq (tAsg (L2.tSl (rSl a.S) (tRec (tVar 2) "content") (tPart (tOp rSub (tVar 4) (tC (.int 1)))) (tPart (tOp rSub (tVar 5) (tC (.int 1))))) (gName 6))
    (tSeq (tIfS (tNot (tB (tCall (sp_tuple_is a) [] E (tCons (tMeth a.c_Outbox "cut" (sp_Outbox_cut a) [] E (tVar 1) (tCons (tVar 4) (tCons (tVar 5) tNil))) (tCons (tVar 6) tNil))))) (tRet (tC (.bl false))) tNext)
    (tRet (tCall (sp_tuple_is a) [] E (tCons (tMeth a.c_Outbox "cut" (sp_Outbox_cut a) [] E (tVar 1) (tCons (tRec (tVar 2) "base") (tCons (tVar 3) tNil))) (tCons (L2.tSl (rSl a.S) (tRec (tVar 2) "content") (tPart (tOp rSub (tRec (tVar 2) "base") (tC (.int 1)))) tNoPart) tNil)))))))))
def sp_cuts (a : Cl) : Sp := spB 7 3 (t_cuts a)
theorem in_cuts {a : Cl} {v0 v1 v2 : V} {H : Hp} {Q : VK} {E : XK} (h : (tSeq (tAsg (tOp rAdd (tC (.int 1)) (tCB (rLen a.S) (tCons (tRec (tVar 2) "content") tNil))) (gName 3))
    (tSeq (tAsg (tOp rAdd (tRec (tVar 2) "base") (tCall (sp_draw a) [] E (tCons (tVar 0) (tCons (tOp rAdd (tOp rSub (tVar 3) (tRec (tVar 2) "base")) (tC (.int 1))) tNil)))) (gName 4))
    (tSeq (tAsg (tOp rAdd (tVar 4) (tCall (sp_draw a) [] E (tCons (tVar 0) (tCons (tOp rAdd (tOp rSub (tVar 3) (tVar 4)) (tC (.int 1))) tNil)))) (gName 5))
    (tSeq (tAsg (L2.tSl (rSl a.S) (tRec (tVar 2) "content") (tPart (tOp rSub (tVar 4) (tC (.int 1)))) (tPart (tOp rSub (tVar 5) (tC (.int 1))))) (gName 6))
    (tSeq (tIfS (tNot (tB (tCall (sp_tuple_is a) [] E (tCons (tMeth a.c_Outbox "cut" (sp_Outbox_cut a) [] E (tVar 1) (tCons (tVar 4) (tCons (tVar 5) tNil))) (tCons (tVar 6) tNil))))) (tRet (tC (.bl false))) tNext)
    (tRet (tCall (sp_tuple_is a) [] E (tCons (tMeth a.c_Outbox "cut" (sp_Outbox_cut a) [] E (tVar 1) (tCons (tRec (tVar 2) "base") (tCons (tVar 3) tNil))) (tCons (L2.tSl (rSl a.S) (tRec (tVar 2) "content") (tPart (tOp rSub (tRec (tVar 2) "base") (tC (.int 1)))) tNoPart) tNil))))))))) ⟨fun _ H' => Q .non H', Q, fun _ _ => False, fun _ _ => False⟩ [some v0, some v1, some v2, none, none, none, none] H) : sp_cuts a [v0, v1, v2] H Q E := ⟨rfl, h⟩
def t_Outbox_release (a : Cl) (E : XK) : TS :=
  (tSeq (tIfS (tNot (tB (tCall (sp_in_range a) [] E (tCons (tVar 1) (tCons (eFld a.c_Outbox "base" (tVar 0)) (tCons (eFld a.c_Outbox "end" (tVar 0)) tNil)))))) (sRaise E (tMkC a.c_InvalidNumber ["number"] (tCons (tVar 1) tNil))) tNext)
    (tSeq (tAsg (tOp rSub (tVar 1) (eFld a.c_Outbox "base" (tVar 0))) (gName 2))
    (tSeq (sSetF a.c_Outbox "content" (tVar 0) (L2.tSl (rSl a.S) (eFld a.c_Outbox "content" (tVar 0)) (tPart (tVar 2)) tNoPart))
    (tSeq (sSetF a.c_Outbox "base" (tVar 0) (tVar 1))
    (tRet (tVar 2))))))
def sp_Outbox_release (a : Cl) : Sp := spB 3 2 (t_Outbox_release a)
theorem in_Outbox_release {a : Cl} {v0 v1 : V} {H : Hp} {Q : VK} {E : XK} (h : (tSeq (tIfS (tNot (tB (tCall (sp_in_range a) [] E (tCons (tVar 1) (tCons (eFld a.c_Outbox "base" (tVar 0)) (tCons (eFld a.c_Outbox "end" (tVar 0)) tNil)))))) (sRaise E (tMkC a.c_InvalidNumber ["number"] (tCons (tVar 1) tNil))) tNext)
    (tSeq (tAsg (tOp rSub (tVar 1) (eFld a.c_Outbox "base" (tVar 0))) (gName 2))
    (tSeq (sSetF a.c_Outbox "content" (tVar 0) (L2.tSl (rSl a.S) (eFld a.c_Outbox "content" (tVar 0)) (tPart (tVar 2)) tNoPart))
    (tSeq (sSetF a.c_Outbox "base" (tVar 0) (tVar 1))
    (tRet (tVar 2)))))) ⟨fun _ H' => Q .non H', Q, fun _ _ => False, fun _ _ => False⟩ [some v0, some v1, none] H) : sp_Outbox_release a [v0, v1] H Q E := ⟨rfl, h⟩
def t_releases (a : Cl) (E : XK) : TS :=
  (tSeq (tAsg (tOp rAdd (tRec (tVar 2) "base") (tCall (sp_draw a) [] E (tCons (tVar 0) (tCons (tOp rAdd (tOp rSub (tOp rAdd (tC (.int 1)) (tCB (rLen a.S) (tCons (tRec (tVar 2) "content") tNil))) (tRec (tVar 2) "base")) (tC (.int 1))) tNil)))) (gName 3))
    (tSeq (tAsg (tMeth a.c_Outbox "release" (sp_Outbox_release a) [] E (tVar 1) (tCons (tVar 3) tNil)) (gName 4))
    (tSeq (tAsg (tOp rSub (tVar 3) (tRec (tVar 2) "base")) (gName 5))
    (tSeq (sRecP (tVar 2) "base" (tVar 3))
    (tRet (tAndV (tCall (sp_l_is_whole a) [] E (tCons (tVar 4) tNil)) (tOp (rEqP a.S) (tVar 4) (tVar 5))))))))
def sp_releases (a : Cl) : Sp := spB 6 3 (t_releases a)
theorem in_releases {a : Cl} {v0 v1 v2 : V} {H : Hp} {Q : VK} {E : XK} (h : (tSeq (tAsg (tOp rAdd (tRec (tVar 2) "base") (tCall (sp_draw a) [] E (tCons (tVar 0) (tCons (tOp rAdd (tOp rSub (tOp rAdd (tC (.int 1)) (tCB (rLen a.S) (tCons (tRec (tVar 2) "content") tNil))) (tRec (tVar 2) "base")) (tC (.int 1))) tNil)))) (gName 3))
    (tSeq (tAsg (tMeth a.c_Outbox "release" (sp_Outbox_release a) [] E (tVar 1) (tCons (tVar 3) tNil)) (gName 4))
    (tSeq (tAsg (tOp rSub (tVar 3) (tRec (tVar 2) "base")) (gName 5))
    (tSeq (sRecP (tVar 2) "base" (tVar 3))
    (tRet (tAndV (tCall (sp_l_is_whole a) [] E (tCons (tVar 4) tNil)) (tOp (rEqP a.S) (tVar 4) (tVar 5)))))))) ⟨fun _ H' => Q .non H', Q, fun _ _ => False, fun _ _ => False⟩ [some v0, some v1, some v2, none, none, none] H) : sp_releases a [v0, v1, v2] H Q E := ⟨rfl, h⟩
def t_Outbox_resize (a : Cl) (E : XK) : TS :=
  (sPropS a.c_Outbox (sp_Outbox_limit_set a) E (tVar 0) (tVar 1))
def sp_Outbox_resize (a : Cl) : Sp := spB 2 2 (t_Outbox_resize a)
theorem in_Outbox_resize {a : Cl} {v0 v1 : V} {H : Hp} {Q : VK} {E : XK} (h : (sPropS a.c_Outbox (sp_Outbox_limit_set a) E (tVar 0) (tVar 1)) ⟨fun _ H' => Q .non H', Q, fun _ _ => False, fun _ _ => False⟩ [some v0, some v1] H) : sp_Outbox_resize a [v0, v1] H Q E := ⟨rfl, h⟩
def t_Outbox_shut (a : Cl) (E : XK) : TS :=
  (sSetF a.c_Outbox "closed" (tVar 0) (tC (.bl true)))
def sp_Outbox_shut (a : Cl) : Sp := spB 1 1 (t_Outbox_shut a)
theorem in_Outbox_shut {a : Cl} {v0 : V} {H : Hp} {Q : VK} {E : XK} (h : (sSetF a.c_Outbox "closed" (tVar 0) (tC (.bl true))) ⟨fun _ H' => Q .non H', Q, fun _ _ => False, fun _ _ => False⟩ [some v0] H) : sp_Outbox_shut a [v0] H Q E := ⟨rfl, h⟩
def t_bad_data (a : Cl) (E : XK) : TS :=
  (tSeq (tAsg (eLcR none (tCall (sp_draw a) [] E (tCons (tVar 0) (tCons (tC (.int 9)) tNil))) (gName 2) tYes (tCall (sp_draw a) [] E0 (tCons (tVar 0) (tCons (tC (.int 256)) tNil))) [2]) (gName 1))
    (tSeq (tAsg (tLst (tCons (tOp rAdd (tC (.int 256)) (tCall (sp_draw a) [] E (tCons (tVar 0) (tCons (tC (.int 1000)) tNil)))) (tCons (tOp rSub (tOp rSub (tC (.int 0)) (tC (.int 1))) (tCall (sp_draw a) [] E (tCons (tVar 0) (tCons (tC (.int 1000)) tNil)))) (tCons (tC (.bl true)) (tCons (tC (.bl false)) (tCons (tC .non) (tCons (tC (.str "7")) (tCons (tTup (tCons (tC (.int 1)) tNil)) tNil)))))))) (gName 3))
    (tSeq (tAsg (tOp (rIx a.S) (tVar 3) (tCall (sp_draw a) [] E (tCons (tVar 0) (tCons (tC (.int 7)) tNil)))) (gName 4))
    (tSeq (tAsg (tOp (rIx a.S) (tVar 3) (tCall (sp_draw a) [] E (tCons (tVar 0) (tCons (tC (.int 7)) tNil)))) (gName 5))
    (tSeq (tAsg (tCall (sp_draw a) [] E (tCons (tVar 0) (tCons (tOp rAdd (tCB (rLen a.S) (tCons (tVar 1) tNil)) (tC (.int 1))) tNil))) (gName 6))
    (tSeq (tAsg (tCall (sp_draw a) [] E (tCons (tVar 0) (tCons (tC (.int 4)) tNil))) (gName 7))
    (tSeq (tIfS (tTest (tOp (rEqP a.S) (tVar 7) (tC (.int 0)))) (tSeq (tAsg (tOp (rIx a.S) (tLst (tCons (tC .non) (tCons (tC (.str "")) (tCons (tC (.str "01")) (tCons (tC (.int 5)) (tCons (tOp rSub (tC (.int 0)) (tC (.int 1))) (tCons (tC (.bl true)) tNil))))))) (tCall (sp_draw a) [] E (tCons (tVar 0) (tCons (tC (.int 6)) tNil)))) (gName 8))
    (tRet (tLst (tCons (tVar 8) (tCons (tVar 8) tNil))))) tNext)
    (tSeq (tIfS (tTest (tOp (rEqP a.S) (tVar 7) (tC (.int 1)))) (tRet (tLst (tCons (tOp rAdd (tOp rAdd (tOp rAdd (L2.tSl (rSl a.S) (tVar 1) tNoPart (tPart (tVar 6))) (tLst (tCons (tVar 4) tNil))) (L2.tSl (rSl a.S) (tVar 1) (tPart (tVar 6)) tNoPart)) (tLst (tCons (tVar 5) tNil))) (tCons (tVar 4) tNil)))) tNext)
    (tSeq (tIfS (tTest (tOp (rEqP a.S) (tVar 7) (tC (.int 2)))) (tRet (tLst (tCons (tCB (rTupleOf a.S) (tCons (tOp rAdd (tOp rAdd (L2.tSl (rSl a.S) (tVar 1) tNoPart (tPart (tVar 6))) (tLst (tCons (tVar 4) tNil))) (L2.tSl (rSl a.S) (tVar 1) (tPart (tVar 6)) tNoPart)) tNil)) (tCons (tVar 4) tNil)))) tNext)
    (tRet (tLst (tCons (tOp rAdd (tOp rAdd (L2.tSl (rSl a.S) (tVar 1) tNoPart (tPart (tVar 6))) (tLst (tCons (tVar 4) (tCons (tVar 5) tNil)))) (L2.tSl (rSl a.S) (tVar 1) (tPart (tVar 6)) tNoPart)) (tCons (tVar 4) tNil)))))))))))))
def sp_bad_data (a : Cl) : Sp := spB 9 1 (t_bad_data a)
theorem in_bad_data {a : Cl} {v0 : V} {H : Hp} {Q : VK} {E : XK} (h : (tSeq (tAsg (eLcR none (tCall (sp_draw a) [] E (tCons (tVar 0) (tCons (tC (.int 9)) tNil))) (gName 2) tYes (tCall (sp_draw a) [] E0 (tCons (tVar 0) (tCons (tC (.int 256)) tNil))) [2]) (gName 1))
    (tSeq (tAsg (tLst (tCons (tOp rAdd (tC (.int 256)) (tCall (sp_draw a) [] E (tCons (tVar 0) (tCons (tC (.int 1000)) tNil)))) (tCons (tOp rSub (tOp rSub (tC (.int 0)) (tC (.int 1))) (tCall (sp_draw a) [] E (tCons (tVar 0) (tCons (tC (.int 1000)) tNil)))) (tCons (tC (.bl true)) (tCons (tC (.bl false)) (tCons (tC .non) (tCons (tC (.str "7")) (tCons (tTup (tCons (tC (.int 1)) tNil)) tNil)))))))) (gName 3))
    (tSeq (tAsg (tOp (rIx a.S) (tVar 3) (tCall (sp_draw a) [] E (tCons (tVar 0) (tCons (tC (.int 7)) tNil)))) (gName 4))
    (tSeq (tAsg (tOp (rIx a.S) (tVar 3) (tCall (sp_draw a) [] E (tCons (tVar 0) (tCons (tC (.int 7)) tNil)))) (gName 5))
    (tSeq (tAsg (tCall (sp_draw a) [] E (tCons (tVar 0) (tCons (tOp rAdd (tCB (rLen a.S) (tCons (tVar 1) tNil)) (tC (.int 1))) tNil))) (gName 6))
    (tSeq (tAsg (tCall (sp_draw a) [] E (tCons (tVar 0) (tCons (tC (.int 4)) tNil))) (gName 7))
    (tSeq (tIfS (tTest (tOp (rEqP a.S) (tVar 7) (tC (.int 0)))) (tSeq (tAsg (tOp (rIx a.S) (tLst (tCons (tC .non) (tCons (tC (.str "")) (tCons (tC (.str "01")) (tCons (tC (.int 5)) (tCons (tOp rSub (tC (.int 0)) (tC (.int 1))) (tCons (tC (.bl true)) tNil))))))) (tCall (sp_draw a) [] E (tCons (tVar 0) (tCons (tC (.int 6)) tNil)))) (gName 8))
    (tRet (tLst (tCons (tVar 8) (tCons (tVar 8) tNil))))) tNext)
    (tSeq (tIfS (tTest (tOp (rEqP a.S) (tVar 7) (tC (.int 1)))) (tRet (tLst (tCons (tOp rAdd (tOp rAdd (tOp rAdd (L2.tSl (rSl a.S) (tVar 1) tNoPart (tPart (tVar 6))) (tLst (tCons (tVar 4) tNil))) (L2.tSl (rSl a.S) (tVar 1) (tPart (tVar 6)) tNoPart)) (tLst (tCons (tVar 5) tNil))) (tCons (tVar 4) tNil)))) tNext)
    (tSeq (tIfS (tTest (tOp (rEqP a.S) (tVar 7) (tC (.int 2)))) (tRet (tLst (tCons (tCB (rTupleOf a.S) (tCons (tOp rAdd (tOp rAdd (L2.tSl (rSl a.S) (tVar 1) tNoPart (tPart (tVar 6))) (tLst (tCons (tVar 4) tNil))) (L2.tSl (rSl a.S) (tVar 1) (tPart (tVar 6)) tNoPart)) tNil)) (tCons (tVar 4) tNil)))) tNext)
    (tRet (tLst (tCons (tOp rAdd (tOp rAdd (L2.tSl (rSl a.S) (tVar 1) tNoPart (tPart (tVar 6))) (tLst (tCons (tVar 4) (tCons (tVar 5) tNil)))) (L2.tSl (rSl a.S) (tVar 1) (tPart (tVar 6)) tNoPart)) (tCons (tVar 4) tNil))))))))))))) ⟨fun _ H' => Q .non H', Q, fun _ _ => False, fun _ _ => False⟩ [some v0, none, none, none, none, none, none, none, none] H) : sp_bad_data a [v0] H Q E := ⟨rfl, h⟩
def t_data_refused (a : Cl) (E : XK) : TS :=
  (tSeq (sTry [(.ref a.c_InvalidNumber, 1), (.ref a.c_NotAllowed, 0)] [(some 5, fun b cls d => (tRet (tAndV (tRec (tVar 1) "closed") (tAndV (tOp (rEqP a.S) (eXf b cls d [a.c_NotAllowed] "state" (tVar 5)) (tC (.str "closed"))) (tCall (sp_only a b cls d) [] E0 (tCons (tVar 5) (tCons (tC (.bl false)) (tCons (tC (.bl false)) (tCons (tC (.bl true)) tNil))))))))), (some 5, fun b cls d => (tRet (tAndV (tNotV (tRec (tVar 1) "closed")) (tAndV (tOp (rEqP a.S) (tCB (rRepr a.S) (tCons (eXf b cls d [a.c_InvalidNumber] "number" (tVar 5)) tNil)) (tCB (rRepr a.S) (tCons (tVar 3) tNil))) (tCall (sp_only a b cls d) [] E0 (tCons (tVar 5) (tCons (tC (.bl true)) (tCons (tC (.bl false)) (tCons (tC (.bl false)) tNil)))))))))] (fun W => (tIfS (tB (tVar 4)) (tDrop (tMS a.c_Outbox "urge" (sp_Outbox_urge a) (WE W) (tVar 0) (tCons (tVar 2) tNil))) (tDrop (tMS a.c_Outbox "put" (sp_Outbox_put a) (WE W) (tVar 0) (tCons (tVar 2) tNil))))))
    (tRet (tC (.bl false))))
def sp_data_refused (a : Cl) : Sp := spB 6 5 (t_data_refused a)
theorem in_data_refused {a : Cl} {v0 v1 v2 v3 v4 : V} {H : Hp} {Q : VK} {E : XK} (h : (tSeq (sTry [(.ref a.c_InvalidNumber, 1), (.ref a.c_NotAllowed, 0)] [(some 5, fun b cls d => (tRet (tAndV (tRec (tVar 1) "closed") (tAndV (tOp (rEqP a.S) (eXf b cls d [a.c_NotAllowed] "state" (tVar 5)) (tC (.str "closed"))) (tCall (sp_only a b cls d) [] E0 (tCons (tVar 5) (tCons (tC (.bl false)) (tCons (tC (.bl false)) (tCons (tC (.bl true)) tNil))))))))), (some 5, fun b cls d => (tRet (tAndV (tNotV (tRec (tVar 1) "closed")) (tAndV (tOp (rEqP a.S) (tCB (rRepr a.S) (tCons (eXf b cls d [a.c_InvalidNumber] "number" (tVar 5)) tNil)) (tCB (rRepr a.S) (tCons (tVar 3) tNil))) (tCall (sp_only a b cls d) [] E0 (tCons (tVar 5) (tCons (tC (.bl true)) (tCons (tC (.bl false)) (tCons (tC (.bl false)) tNil)))))))))] (fun W => (tIfS (tB (tVar 4)) (tDrop (tMS a.c_Outbox "urge" (sp_Outbox_urge a) (WE W) (tVar 0) (tCons (tVar 2) tNil))) (tDrop (tMS a.c_Outbox "put" (sp_Outbox_put a) (WE W) (tVar 0) (tCons (tVar 2) tNil))))))
    (tRet (tC (.bl false)))) ⟨fun _ H' => Q .non H', Q, fun _ _ => False, fun _ _ => False⟩ [some v0, some v1, some v2, some v3, some v4, none] H) : sp_data_refused a [v0, v1, v2, v3, v4] H Q E := ⟨rfl, h⟩
def t_cut_refused (a : Cl) (E : XK) : TS :=
  (tSeq (tAsg (tOp rAdd (tC (.int 1)) (tCB (rLen a.S) (tCons (tRec (tVar 2) "content") tNil))) (gName 3))
    (tSeq (tAsg (tOp rSub (tOp rSub (tRec (tVar 2) "base") (tC (.int 1))) (tCall (sp_draw a) [] E (tCons (tVar 0) (tCons (tC (.int 3)) tNil)))) (gName 4))
    (tSeq (tAsg (tOp rAdd (tOp rAdd (tVar 3) (tC (.int 1))) (tCall (sp_draw a) [] E (tCons (tVar 0) (tCons (tC (.int 1000)) tNil)))) (gName 5))
    (tSeq (tAsg (tOp rAdd (tRec (tVar 2) "base") (tCall (sp_draw a) [] E (tCons (tVar 0) (tCons (tOp rAdd (tOp rSub (tVar 3) (tRec (tVar 2) "base")) (tC (.int 1))) tNil)))) (gName 6))
    (tSeq (tAsg (tOp (rIx a.S) (tLst (tCons (tC .non) (tCons (tC (.bl true)) (tCons (tC (.str "1")) (tCons (tTup (tCons (tC (.int 1)) tNil)) (tCons (tLst (tCons (tC (.int 1)) tNil)) tNil)))))) (tCall (sp_draw a) [] E (tCons (tVar 0) (tCons (tC (.int 5)) tNil)))) (gName 7))
    (tSeq (tAsg (tCall (sp_draw a) [] E (tCons (tVar 0) (tCons (tC (.int 7)) tNil))) (gName 8))
    (tSeq (tAsg (tOp (rIx a.S) (tLst (tCons (tVar 4) (tCons (tVar 5) (tCons (tVar 6) (tCons (tVar 6) (tCons (tVar 4) (tCons (tVar 7) (tCons (tVar 6) tNil)))))))) (tVar 8)) (gName 9))
    (tSeq (tAsg (tOp (rIx a.S) (tLst (tCons (tVar 3) (tCons (tVar 3) (tCons (tOp rSub (tOp rSub (tVar 6) (tC (.int 1))) (tCall (sp_draw a) [] E (tCons (tVar 0) (tCons (tC (.int 3)) tNil)))) (tCons (tVar 5) (tCons (tVar 5) (tCons (tVar 3) (tCons (tVar 7) tNil)))))))) (tVar 8)) (gName 10))
    (tSeq (tAsg (tOp (rIx a.S) (tLst (tCons (tVar 9) (tCons (tVar 9) (tCons (tVar 10) (tCons (tVar 10) (tCons (tVar 9) (tCons (tVar 9) (tCons (tVar 10) tNil)))))))) (tVar 8)) (gName 11))
    (tSeq (sTry [(.ref a.c_InvalidNumber, 0)] [(some 12, fun b cls d => (tRet (tAndV (tOp (rEqP a.S) (tCB (rRepr a.S) (tCons (eXf b cls d [a.c_InvalidNumber] "number" (tVar 12)) tNil)) (tCB (rRepr a.S) (tCons (tVar 11) tNil))) (tCall (sp_only a b cls d) [] E0 (tCons (tVar 12) (tCons (tC (.bl true)) (tCons (tC (.bl false)) (tCons (tC (.bl false)) tNil))))))))] (fun W => (tDrop (tMS a.c_Outbox "cut" (sp_Outbox_cut a) (WE W) (tVar 1) (tCons (tVar 9) (tCons (tVar 10) tNil))))))
    (tRet (tC (.bl false)))))))))))))
def sp_cut_refused (a : Cl) : Sp := spB 13 3 (t_cut_refused a)
theorem in_cut_refused {a : Cl} {v0 v1 v2 : V} {H : Hp} {Q : VK} {E : XK} (h : (tSeq (tAsg (tOp rAdd (tC (.int 1)) (tCB (rLen a.S) (tCons (tRec (tVar 2) "content") tNil))) (gName 3))
    (tSeq (tAsg (tOp rSub (tOp rSub (tRec (tVar 2) "base") (tC (.int 1))) (tCall (sp_draw a) [] E (tCons (tVar 0) (tCons (tC (.int 3)) tNil)))) (gName 4))
    (tSeq (tAsg (tOp rAdd (tOp rAdd (tVar 3) (tC (.int 1))) (tCall (sp_draw a) [] E (tCons (tVar 0) (tCons (tC (.int 1000)) tNil)))) (gName 5))
    (tSeq (tAsg (tOp rAdd (tRec (tVar 2) "base") (tCall (sp_draw a) [] E (tCons (tVar 0) (tCons (tOp rAdd (tOp rSub (tVar 3) (tRec (tVar 2) "base")) (tC (.int 1))) tNil)))) (gName 6))
    (tSeq (tAsg (tOp (rIx a.S) (tLst (tCons (tC .non) (tCons (tC (.bl true)) (tCons (tC (.str "1")) (tCons (tTup (tCons (tC (.int 1)) tNil)) (tCons (tLst (tCons (tC (.int 1)) tNil)) tNil)))))) (tCall (sp_draw a) [] E (tCons (tVar 0) (tCons (tC (.int 5)) tNil)))) (gName 7))
    (tSeq (tAsg (tCall (sp_draw a) [] E (tCons (tVar 0) (tCons (tC (.int 7)) tNil))) (gName 8))
    (tSeq (tAsg (tOp (rIx a.S) (tLst (tCons (tVar 4) (tCons (tVar 5) (tCons (tVar 6) (tCons (tVar 6) (tCons (tVar 4) (tCons (tVar 7) (tCons (tVar 6) tNil)))))))) (tVar 8)) (gName 9))
    (tSeq (tAsg (tOp (rIx a.S) (tLst (tCons (tVar 3) (tCons (tVar 3) (tCons (tOp rSub (tOp rSub (tVar 6) (tC (.int 1))) (tCall (sp_draw a) [] E (tCons (tVar 0) (tCons (tC (.int 3)) tNil)))) (tCons (tVar 5) (tCons (tVar 5) (tCons (tVar 3) (tCons (tVar 7) tNil)))))))) (tVar 8)) (gName 10))
    (tSeq (tAsg (tOp (rIx a.S) (tLst (tCons (tVar 9) (tCons (tVar 9) (tCons (tVar 10) (tCons (tVar 10) (tCons (tVar 9) (tCons (tVar 9) (tCons (tVar 10) tNil)))))))) (tVar 8)) (gName 11))
    (tSeq (sTry [(.ref a.c_InvalidNumber, 0)] [(some 12, fun b cls d => (tRet (tAndV (tOp (rEqP a.S) (tCB (rRepr a.S) (tCons (eXf b cls d [a.c_InvalidNumber] "number" (tVar 12)) tNil)) (tCB (rRepr a.S) (tCons (tVar 11) tNil))) (tCall (sp_only a b cls d) [] E0 (tCons (tVar 12) (tCons (tC (.bl true)) (tCons (tC (.bl false)) (tCons (tC (.bl false)) tNil))))))))] (fun W => (tDrop (tMS a.c_Outbox "cut" (sp_Outbox_cut a) (WE W) (tVar 1) (tCons (tVar 9) (tCons (tVar 10) tNil))))))
    (tRet (tC (.bl false))))))))))))) ⟨fun _ H' => Q .non H', Q, fun _ _ => False, fun _ _ => False⟩ [some v0, some v1, some v2, none, none, none, none, none, none, none, none, none, none] H) : sp_cut_refused a [v0, v1, v2] H Q E := ⟨rfl, h⟩
def t_release_refused (a : Cl) (E : XK) : TS :=
  (tSeq (tAsg (tOp rSub (tOp rSub (tRec (tVar 2) "base") (tC (.int 1))) (tCall (sp_draw a) [] E (tCons (tVar 0) (tCons (tC (.int 3)) tNil)))) (gName 3))
    (tSeq (tAsg (tCall (sp_draw a) [] E (tCons (tVar 0) (tCons (tC (.int 3)) tNil))) (gName 4))
    (tSeq (tIfS (tTest (tOp (rEqP a.S) (tVar 4) (tC (.int 1)))) (tAsg (tOp rAdd (tOp rAdd (tOp rAdd (tC (.int 1)) (tCB (rLen a.S) (tCons (tRec (tVar 2) "content") tNil))) (tC (.int 1))) (tCall (sp_draw a) [] E (tCons (tVar 0) (tCons (tC (.int 1000)) tNil)))) (gName 3)) tNext)
    (tSeq (tIfS (tTest (tOp (rEqP a.S) (tVar 4) (tC (.int 2)))) (tAsg (tOp (rIx a.S) (tLst (tCons (tC .non) (tCons (tC (.bl true)) (tCons (tC (.str "1")) (tCons (tTup (tCons (tC (.int 1)) tNil)) (tCons (tLst (tCons (tC (.int 1)) tNil)) tNil)))))) (tCall (sp_draw a) [] E (tCons (tVar 0) (tCons (tC (.int 5)) tNil)))) (gName 3)) tNext)
    (tSeq (sTry [(.ref a.c_InvalidNumber, 0)] [(some 5, fun b cls d => (tRet (tAndV (tOp (rEqP a.S) (tCB (rRepr a.S) (tCons (eXf b cls d [a.c_InvalidNumber] "number" (tVar 5)) tNil)) (tCB (rRepr a.S) (tCons (tVar 3) tNil))) (tCall (sp_only a b cls d) [] E0 (tCons (tVar 5) (tCons (tC (.bl true)) (tCons (tC (.bl false)) (tCons (tC (.bl false)) tNil))))))))] (fun W => (tDrop (tMS a.c_Outbox "release" (sp_Outbox_release a) (WE W) (tVar 1) (tCons (tVar 3) tNil)))))
    (tRet (tC (.bl false))))))))
def sp_release_refused (a : Cl) : Sp := spB 6 3 (t_release_refused a)
theorem in_release_refused {a : Cl} {v0 v1 v2 : V} {H : Hp} {Q : VK} {E : XK} (h : (tSeq (tAsg (tOp rSub (tOp rSub (tRec (tVar 2) "base") (tC (.int 1))) (tCall (sp_draw a) [] E (tCons (tVar 0) (tCons (tC (.int 3)) tNil)))) (gName 3))
    (tSeq (tAsg (tCall (sp_draw a) [] E (tCons (tVar 0) (tCons (tC (.int 3)) tNil))) (gName 4))
    (tSeq (tIfS (tTest (tOp (rEqP a.S) (tVar 4) (tC (.int 1)))) (tAsg (tOp rAdd (tOp rAdd (tOp rAdd (tC (.int 1)) (tCB (rLen a.S) (tCons (tRec (tVar 2) "content") tNil))) (tC (.int 1))) (tCall (sp_draw a) [] E (tCons (tVar 0) (tCons (tC (.int 1000)) tNil)))) (gName 3)) tNext)
    (tSeq (tIfS (tTest (tOp (rEqP a.S) (tVar 4) (tC (.int 2)))) (tAsg (tOp (rIx a.S) (tLst (tCons (tC .non) (tCons (tC (.bl true)) (tCons (tC (.str "1")) (tCons (tTup (tCons (tC (.int 1)) tNil)) (tCons (tLst (tCons (tC (.int 1)) tNil)) tNil)))))) (tCall (sp_draw a) [] E (tCons (tVar 0) (tCons (tC (.int 5)) tNil)))) (gName 3)) tNext)
    (tSeq (sTry [(.ref a.c_InvalidNumber, 0)] [(some 5, fun b cls d => (tRet (tAndV (tOp (rEqP a.S) (tCB (rRepr a.S) (tCons (eXf b cls d [a.c_InvalidNumber] "number" (tVar 5)) tNil)) (tCB (rRepr a.S) (tCons (tVar 3) tNil))) (tCall (sp_only a b cls d) [] E0 (tCons (tVar 5) (tCons (tC (.bl true)) (tCons (tC (.bl false)) (tCons (tC (.bl false)) tNil))))))))] (fun W => (tDrop (tMS a.c_Outbox "release" (sp_Outbox_release a) (WE W) (tVar 1) (tCons (tVar 3) tNil)))))
    (tRet (tC (.bl false)))))))) ⟨fun _ H' => Q .non H', Q, fun _ _ => False, fun _ _ => False⟩ [some v0, some v1, some v2, none, none, none] H) : sp_release_refused a [v0, v1, v2] H Q E := ⟨rfl, h⟩
def t_limit_refused (a : Cl) (E : XK) : TS :=
  (tSeq (tAsg (tLst (tCons (tC (.int 0)) (tCons (tOp rSub (tOp rSub (tC (.int 0)) (tC (.int 1))) (tCall (sp_draw a) [] E (tCons (tVar 0) (tCons (tC (.int 1000)) tNil)))) (tCons (tC (.int 65536)) (tCons (tOp rAdd (tC (.int 65536)) (tCall (sp_draw a) [] E (tCons (tVar 0) (tCons (tC (.int 1000)) tNil)))) (tCons (tC (.bl true)) (tCons (tC (.bl false)) (tCons (tC .non) (tCons (tC (.str "8")) (tCons (tTup (tCons (tC (.int 8)) tNil)) (tCons (tLst (tCons (tC (.int 8)) tNil)) tNil))))))))))) (gName 2))
    (tSeq (tAsg (tOp (rIx a.S) (tVar 2) (tCall (sp_draw a) [] E (tCons (tVar 0) (tCons (tC (.int 10)) tNil)))) (gName 3))
    (tSeq (tAsg (tOp (rEqP a.S) (tCall (sp_draw a) [] E (tCons (tVar 0) (tCons (tC (.int 2)) tNil))) (tC (.int 1))) (gName 4))
    (tSeq (sTry [(.ref a.c_InvalidSetting, 0)] [(some 5, fun b cls d => (tRet (tAndV (tOp (rEqP a.S) (eXf b cls d [a.c_InvalidSetting] "setting" (tVar 5)) (tC (.str "limit"))) (tCall (sp_only a b cls d) [] E0 (tCons (tVar 5) (tCons (tC (.bl false)) (tCons (tC (.bl true)) (tCons (tC (.bl false)) tNil))))))))] (fun W => (tIfS (tB (tVar 4)) (tDrop (tNewS a.c_Outbox (sp_Outbox___init__ a) (WE W) (tCons (tVar 3) tNil))) (tDrop (tMS a.c_Outbox "resize" (sp_Outbox_resize a) (WE W) (tVar 1) (tCons (tVar 3) tNil))))))
    (tRet (tC (.bl false)))))))
def sp_limit_refused (a : Cl) : Sp := spB 6 2 (t_limit_refused a)
theorem in_limit_refused {a : Cl} {v0 v1 : V} {H : Hp} {Q : VK} {E : XK} (h : (tSeq (tAsg (tLst (tCons (tC (.int 0)) (tCons (tOp rSub (tOp rSub (tC (.int 0)) (tC (.int 1))) (tCall (sp_draw a) [] E (tCons (tVar 0) (tCons (tC (.int 1000)) tNil)))) (tCons (tC (.int 65536)) (tCons (tOp rAdd (tC (.int 65536)) (tCall (sp_draw a) [] E (tCons (tVar 0) (tCons (tC (.int 1000)) tNil)))) (tCons (tC (.bl true)) (tCons (tC (.bl false)) (tCons (tC .non) (tCons (tC (.str "8")) (tCons (tTup (tCons (tC (.int 8)) tNil)) (tCons (tLst (tCons (tC (.int 8)) tNil)) tNil))))))))))) (gName 2))
    (tSeq (tAsg (tOp (rIx a.S) (tVar 2) (tCall (sp_draw a) [] E (tCons (tVar 0) (tCons (tC (.int 10)) tNil)))) (gName 3))
    (tSeq (tAsg (tOp (rEqP a.S) (tCall (sp_draw a) [] E (tCons (tVar 0) (tCons (tC (.int 2)) tNil))) (tC (.int 1))) (gName 4))
    (tSeq (sTry [(.ref a.c_InvalidSetting, 0)] [(some 5, fun b cls d => (tRet (tAndV (tOp (rEqP a.S) (eXf b cls d [a.c_InvalidSetting] "setting" (tVar 5)) (tC (.str "limit"))) (tCall (sp_only a b cls d) [] E0 (tCons (tVar 5) (tCons (tC (.bl false)) (tCons (tC (.bl true)) (tCons (tC (.bl false)) tNil))))))))] (fun W => (tIfS (tB (tVar 4)) (tDrop (tNewS a.c_Outbox (sp_Outbox___init__ a) (WE W) (tCons (tVar 3) tNil))) (tDrop (tMS a.c_Outbox "resize" (sp_Outbox_resize a) (WE W) (tVar 1) (tCons (tVar 3) tNil))))))
    (tRet (tC (.bl false))))))) ⟨fun _ H' => Q .non H', Q, fun _ _ => False, fun _ _ => False⟩ [some v0, some v1, none, none, none, none] H) : sp_limit_refused a [v0, v1] H Q E := ⟨rfl, h⟩
def t_deed (a : Cl) (E : XK) : TS :=
  (tSeq (tAsg (tCall (sp_draw a) [] E (tCons (tVar 0) (tCons (tC (.int 16)) tNil))) (gName 3))
    (tSeq (tIfS (tTest (tOp rLt (tVar 3) (tC (.int 5)))) (tSeq (tAsg (tCall (sp_bytes a) [] E (tCons (tVar 0) (tCons (tC (.int 70)) tNil))) (gName 4))
    (tSeq (tIfS (tTest (tOp (rEqP a.S) (tCall (sp_draw a) [] E (tCons (tVar 0) (tCons (tC (.int 2)) tNil))) (tC (.int 1)))) (tRet (tCall (sp_adds a) [] E (tCons (tVar 1) (tCons (tVar 2) (tCons (tCB (rTupleOf a.S) (tCons (tVar 4) tNil)) (tCons (tOp rGt (tVar 3) (tC (.int 2))) tNil)))))) tNext)
    (tRet (tCall (sp_adds a) [] E (tCons (tVar 1) (tCons (tVar 2) (tCons (tVar 4) (tCons (tOp rGt (tVar 3) (tC (.int 2))) tNil)))))))) tNext)
    (tSeq (tIfS (tTest (tOp rLt (tVar 3) (tC (.int 7)))) (tRet (tCall (sp_cuts a) [] E (tCons (tVar 0) (tCons (tVar 1) (tCons (tVar 2) tNil))))) tNext)
    (tSeq (tIfS (tTest (tOp rLt (tVar 3) (tC (.int 10)))) (tRet (tCall (sp_releases a) [] E (tCons (tVar 0) (tCons (tVar 1) (tCons (tVar 2) tNil))))) tNext)
    (tSeq (tIfS (tTest (tOp (rEqP a.S) (tVar 3) (tC (.int 10)))) (tSeq (sRecP (tVar 2) "limit" (tCall (sp_limit a) [] E (tCons (tVar 0) tNil)))
    (tRet (tOp rIs (tMeth a.c_Outbox "resize" (sp_Outbox_resize a) [] E (tVar 1) (tCons (tRec (tVar 2) "limit") tNil)) (tC .non)))) tNext)
    (tSeq (tIfS (tTest (tOp (rEqP a.S) (tVar 3) (tC (.int 11)))) (tSeq (tIfS (tTest (tOp (rEqP a.S) (tCall (sp_draw a) [] E (tCons (tVar 0) (tCons (tC (.int 2)) tNil))) (tC (.int 0)))) (tRet (tC (.bl true))) tNext)
    (tSeq (sRecP (tVar 2) "closed" (tC (.bl true)))
    (tRet (tOp rIs (tMeth a.c_Outbox "shut" (sp_Outbox_shut a) [] E (tVar 1) tNil) (tC .non))))) tNext)
    (tSeq (tIfS (tTest (tOp rLt (tVar 3) (tC (.int 14)))) (tSeq (tAsg (tCall (sp_bad_data a) [] E (tCons (tVar 0) tNil)) (gName 5))
    (tRet (tCall (sp_data_refused a) [] E (tCons (tVar 1) (tCons (tVar 2) (tCons (tOp (rIx a.S) (tVar 5) (tC (.int 0))) (tCons (tOp (rIx a.S) (tVar 5) (tC (.int 1))) (tCons (tOp (rEqP a.S) (tVar 3) (tC (.int 13))) tNil)))))))) tNext)
    (tSeq (tIfS (tTest (tOp (rEqP a.S) (tVar 3) (tC (.int 14)))) (tRet (tAndV (tCall (sp_cut_refused a) [] E (tCons (tVar 0) (tCons (tVar 1) (tCons (tVar 2) tNil)))) (tCall (sp_release_refused a) [] E (tCons (tVar 0) (tCons (tVar 1) (tCons (tVar 2) tNil)))))) tNext)
    (tRet (tCall (sp_limit_refused a) [] E (tCons (tVar 0) (tCons (tVar 1) tNil))))))))))))
def sp_deed (a : Cl) : Sp := spB 6 3 (t_deed a)
theorem in_deed {a : Cl} {v0 v1 v2 : V} {H : Hp} {Q : VK} {E : XK} (h : (tSeq (tAsg (tCall (sp_draw a) [] E (tCons (tVar 0) (tCons (tC (.int 16)) tNil))) (gName 3))
    (tSeq (tIfS (tTest (tOp rLt (tVar 3) (tC (.int 5)))) (tSeq (tAsg (tCall (sp_bytes a) [] E (tCons (tVar 0) (tCons (tC (.int 70)) tNil))) (gName 4))
    (tSeq (tIfS (tTest (tOp (rEqP a.S) (tCall (sp_draw a) [] E (tCons (tVar 0) (tCons (tC (.int 2)) tNil))) (tC (.int 1)))) (tRet (tCall (sp_adds a) [] E (tCons (tVar 1) (tCons (tVar 2) (tCons (tCB (rTupleOf a.S) (tCons (tVar 4) tNil)) (tCons (tOp rGt (tVar 3) (tC (.int 2))) tNil)))))) tNext)
    (tRet (tCall (sp_adds a) [] E (tCons (tVar 1) (tCons (tVar 2) (tCons (tVar 4) (tCons (tOp rGt (tVar 3) (tC (.int 2))) tNil)))))))) tNext)
    (tSeq (tIfS (tTest (tOp rLt (tVar 3) (tC (.int 7)))) (tRet (tCall (sp_cuts a) [] E (tCons (tVar 0) (tCons (tVar 1) (tCons (tVar 2) tNil))))) tNext)
    (tSeq (tIfS (tTest (tOp rLt (tVar 3) (tC (.int 10)))) (tRet (tCall (sp_releases a) [] E (tCons (tVar 0) (tCons (tVar 1) (tCons (tVar 2) tNil))))) tNext)
    (tSeq (tIfS (tTest (tOp (rEqP a.S) (tVar 3) (tC (.int 10)))) (tSeq (sRecP (tVar 2) "limit" (tCall (sp_limit a) [] E (tCons (tVar 0) tNil)))
    (tRet (tOp rIs (tMeth a.c_Outbox "resize" (sp_Outbox_resize a) [] E (tVar 1) (tCons (tRec (tVar 2) "limit") tNil)) (tC .non)))) tNext)
    (tSeq (tIfS (tTest (tOp (rEqP a.S) (tVar 3) (tC (.int 11)))) (tSeq (tIfS (tTest (tOp (rEqP a.S) (tCall (sp_draw a) [] E (tCons (tVar 0) (tCons (tC (.int 2)) tNil))) (tC (.int 0)))) (tRet (tC (.bl true))) tNext)
    (tSeq (sRecP (tVar 2) "closed" (tC (.bl true)))
    (tRet (tOp rIs (tMeth a.c_Outbox "shut" (sp_Outbox_shut a) [] E (tVar 1) tNil) (tC .non))))) tNext)
    (tSeq (tIfS (tTest (tOp rLt (tVar 3) (tC (.int 14)))) (tSeq (tAsg (tCall (sp_bad_data a) [] E (tCons (tVar 0) tNil)) (gName 5))
    (tRet (tCall (sp_data_refused a) [] E (tCons (tVar 1) (tCons (tVar 2) (tCons (tOp (rIx a.S) (tVar 5) (tC (.int 0))) (tCons (tOp (rIx a.S) (tVar 5) (tC (.int 1))) (tCons (tOp (rEqP a.S) (tVar 3) (tC (.int 13))) tNil)))))))) tNext)
    (tSeq (tIfS (tTest (tOp (rEqP a.S) (tVar 3) (tC (.int 14)))) (tRet (tAndV (tCall (sp_cut_refused a) [] E (tCons (tVar 0) (tCons (tVar 1) (tCons (tVar 2) tNil)))) (tCall (sp_release_refused a) [] E (tCons (tVar 0) (tCons (tVar 1) (tCons (tVar 2) tNil)))))) tNext)
    (tRet (tCall (sp_limit_refused a) [] E (tCons (tVar 0) (tCons (tVar 1) tNil)))))))))))) ⟨fun _ H' => Q .non H', Q, fun _ _ => False, fun _ _ => False⟩ [some v0, some v1, some v2, none, none, none] H) : sp_deed a [v0, v1, v2] H Q E := ⟨rfl, h⟩
def t_law (a : Cl) (E : XK) : TS :=
  (tSeq (tAsg (tCall (sp_box a) [] E (tCons (tVar 0) tNil)) (gName 1))
    (tSeq (tAsg (tLst tNil) (gName 2))
    (tSeq (tAsg (tLst tNil) (gName 3))
    (tSeq (tAsg (tOp rAdd (tC (.int 4)) (tCall (sp_draw a) [] E (tCons (tVar 1) (tCons (tC (.int 15)) tNil)))) (gName 4))
    (tSeq (sForR none (tC (.int 2)) (gName 5) (tSeq (tAsg (tCall (sp_limit a) [] E (tCons (tVar 1) tNil)) (gName 6))
    (tSeq (tDrop (eApp (tVar 2) (tCons (tRecN [("limit", (tVar 6)), ("content", (tLst tNil)), ("base", (tC (.int 1))), ("closed", (tC (.bl false))), ("urgent", (tC (.int 0)))]) tNil)))
    (tSeq (tDrop (eApp (tVar 3) (tCons (tMake a.c_Outbox (sp_Outbox___init__ a) [] E (tCons (tVar 6) tNil)) tNil)))
    (tIfS (tNot (tB (tCall (sp_state a) [] E (tCons (tOp (rIx a.S) (tVar 3) (tVar 5)) (tCons (tOp (rIx a.S) (tVar 2) (tVar 5)) tNil))))) (tRet (tC (.bl false))) tNext)))))
    (tSeq (sForR none (tVar 4) (gName 5) (tSeq (tAsg (tCall (sp_draw a) [] E (tCons (tVar 1) (tCons (tC (.int 2)) tNil))) (gName 7))
    (tSeq (tIfS (tNot (tB (tCall (sp_deed a) [] E (tCons (tVar 1) (tCons (tOp (rIx a.S) (tVar 3) (tVar 7)) (tCons (tOp (rIx a.S) (tVar 2) (tVar 7)) tNil)))))) (tRet (tC (.bl false))) tNext)
    (tIfS (tAnd (tTest (tOp rGt (tCall (sp_draw a) [] E (tCons (tVar 1) (tCons (tC (.int 3)) tNil))) (tC (.int 0)))) (tNot (tB (tCall (sp_state a) [] E (tCons (tOp (rIx a.S) (tVar 3) (tVar 7)) (tCons (tOp (rIx a.S) (tVar 2) (tVar 7)) tNil)))))) (tRet (tC (.bl false))) tNext))))
    (tSeq (sForR none (tC (.int 2)) (gName 5) (tSeq (tIfS (tOr (tNot (tB (tCall (sp_state a) [] E (tCons (tOp (rIx a.S) (tVar 3) (tVar 5)) (tCons (tOp (rIx a.S) (tVar 2) (tVar 5)) tNil))))) (tNot (tB (tCall (sp_cuts a) [] E (tCons (tVar 1) (tCons (tOp (rIx a.S) (tVar 3) (tVar 5)) (tCons (tOp (rIx a.S) (tVar 2) (tVar 5)) tNil))))))) (tRet (tC (.bl false))) tNext)
    (tSeq (tIfS (tOr (tTest (tOp rIsNot (tMeth a.c_Outbox "shut" (sp_Outbox_shut a) [] E (tOp (rIx a.S) (tVar 3) (tVar 5)) tNil) (tC .non))) (tTest (tOp rIsNot (tMeth a.c_Outbox "shut" (sp_Outbox_shut a) [] E (tOp (rIx a.S) (tVar 3) (tVar 5)) tNil) (tC .non)))) (tRet (tC (.bl false))) tNext)
    (tSeq (sRecP (tOp (rIx a.S) (tVar 2) (tVar 5)) "closed" (tC (.bl true)))
    (tSeq (tIfS (tOr (tNot (tB (tCall (sp_state a) [] E (tCons (tOp (rIx a.S) (tVar 3) (tVar 5)) (tCons (tOp (rIx a.S) (tVar 2) (tVar 5)) tNil))))) (tNot (tB (tCall (sp_adds a) [] E (tCons (tOp (rIx a.S) (tVar 3) (tVar 5)) (tCons (tOp (rIx a.S) (tVar 2) (tVar 5)) (tCons (tLst tNil) (tCons (tOp (rEqP a.S) (tVar 5) (tC (.int 1))) tNil)))))))) (tRet (tC (.bl false))) tNext)
    (tSeq (tAsg (tCall (sp_bad_data a) [] E (tCons (tVar 1) tNil)) (gName 8))
    (tSeq (tIfS (tNot (tB (tCall (sp_data_refused a) [] E (tCons (tOp (rIx a.S) (tVar 3) (tVar 5)) (tCons (tOp (rIx a.S) (tVar 2) (tVar 5)) (tCons (tOp (rIx a.S) (tVar 8) (tC (.int 0))) (tCons (tOp (rIx a.S) (tVar 8) (tC (.int 1))) (tCons (tOp (rEqP a.S) (tVar 5) (tC (.int 0))) tNil)))))))) (tRet (tC (.bl false))) tNext)
    (tIfS (tOr (tNot (tB (tCall (sp_state a) [] E (tCons (tOp (rIx a.S) (tVar 3) (tVar 5)) (tCons (tOp (rIx a.S) (tVar 2) (tVar 5)) tNil))))) (tNot (tB (tCall (sp_cuts a) [] E (tCons (tVar 1) (tCons (tOp (rIx a.S) (tVar 3) (tVar 5)) (tCons (tOp (rIx a.S) (tVar 2) (tVar 5)) tNil))))))) (tRet (tC (.bl false))) tNext))))))))
    (tRet (tC (.bl true))))))))))
def sp_law (a : Cl) : Sp := spB 9 1 (t_law a)
theorem in_law {a : Cl} {v0 : V} {H : Hp} {Q : VK} {E : XK} (h : (tSeq (tAsg (tCall (sp_box a) [] E (tCons (tVar 0) tNil)) (gName 1))
    (tSeq (tAsg (tLst tNil) (gName 2))
    (tSeq (tAsg (tLst tNil) (gName 3))
    (tSeq (tAsg (tOp rAdd (tC (.int 4)) (tCall (sp_draw a) [] E (tCons (tVar 1) (tCons (tC (.int 15)) tNil)))) (gName 4))
    (tSeq (sForR none (tC (.int 2)) (gName 5) (tSeq (tAsg (tCall (sp_limit a) [] E (tCons (tVar 1) tNil)) (gName 6))
    (tSeq (tDrop (eApp (tVar 2) (tCons (tRecN [("limit", (tVar 6)), ("content", (tLst tNil)), ("base", (tC (.int 1))), ("closed", (tC (.bl false))), ("urgent", (tC (.int 0)))]) tNil)))
    (tSeq (tDrop (eApp (tVar 3) (tCons (tMake a.c_Outbox (sp_Outbox___init__ a) [] E (tCons (tVar 6) tNil)) tNil)))
    (tIfS (tNot (tB (tCall (sp_state a) [] E (tCons (tOp (rIx a.S) (tVar 3) (tVar 5)) (tCons (tOp (rIx a.S) (tVar 2) (tVar 5)) tNil))))) (tRet (tC (.bl false))) tNext)))))
    (tSeq (sForR none (tVar 4) (gName 5) (tSeq (tAsg (tCall (sp_draw a) [] E (tCons (tVar 1) (tCons (tC (.int 2)) tNil))) (gName 7))
    (tSeq (tIfS (tNot (tB (tCall (sp_deed a) [] E (tCons (tVar 1) (tCons (tOp (rIx a.S) (tVar 3) (tVar 7)) (tCons (tOp (rIx a.S) (tVar 2) (tVar 7)) tNil)))))) (tRet (tC (.bl false))) tNext)
    (tIfS (tAnd (tTest (tOp rGt (tCall (sp_draw a) [] E (tCons (tVar 1) (tCons (tC (.int 3)) tNil))) (tC (.int 0)))) (tNot (tB (tCall (sp_state a) [] E (tCons (tOp (rIx a.S) (tVar 3) (tVar 7)) (tCons (tOp (rIx a.S) (tVar 2) (tVar 7)) tNil)))))) (tRet (tC (.bl false))) tNext))))
    (tSeq (sForR none (tC (.int 2)) (gName 5) (tSeq (tIfS (tOr (tNot (tB (tCall (sp_state a) [] E (tCons (tOp (rIx a.S) (tVar 3) (tVar 5)) (tCons (tOp (rIx a.S) (tVar 2) (tVar 5)) tNil))))) (tNot (tB (tCall (sp_cuts a) [] E (tCons (tVar 1) (tCons (tOp (rIx a.S) (tVar 3) (tVar 5)) (tCons (tOp (rIx a.S) (tVar 2) (tVar 5)) tNil))))))) (tRet (tC (.bl false))) tNext)
    (tSeq (tIfS (tOr (tTest (tOp rIsNot (tMeth a.c_Outbox "shut" (sp_Outbox_shut a) [] E (tOp (rIx a.S) (tVar 3) (tVar 5)) tNil) (tC .non))) (tTest (tOp rIsNot (tMeth a.c_Outbox "shut" (sp_Outbox_shut a) [] E (tOp (rIx a.S) (tVar 3) (tVar 5)) tNil) (tC .non)))) (tRet (tC (.bl false))) tNext)
    (tSeq (sRecP (tOp (rIx a.S) (tVar 2) (tVar 5)) "closed" (tC (.bl true)))
    (tSeq (tIfS (tOr (tNot (tB (tCall (sp_state a) [] E (tCons (tOp (rIx a.S) (tVar 3) (tVar 5)) (tCons (tOp (rIx a.S) (tVar 2) (tVar 5)) tNil))))) (tNot (tB (tCall (sp_adds a) [] E (tCons (tOp (rIx a.S) (tVar 3) (tVar 5)) (tCons (tOp (rIx a.S) (tVar 2) (tVar 5)) (tCons (tLst tNil) (tCons (tOp (rEqP a.S) (tVar 5) (tC (.int 1))) tNil)))))))) (tRet (tC (.bl false))) tNext)
    (tSeq (tAsg (tCall (sp_bad_data a) [] E (tCons (tVar 1) tNil)) (gName 8))
    (tSeq (tIfS (tNot (tB (tCall (sp_data_refused a) [] E (tCons (tOp (rIx a.S) (tVar 3) (tVar 5)) (tCons (tOp (rIx a.S) (tVar 2) (tVar 5)) (tCons (tOp (rIx a.S) (tVar 8) (tC (.int 0))) (tCons (tOp (rIx a.S) (tVar 8) (tC (.int 1))) (tCons (tOp (rEqP a.S) (tVar 5) (tC (.int 0))) tNil)))))))) (tRet (tC (.bl false))) tNext)
    (tIfS (tOr (tNot (tB (tCall (sp_state a) [] E (tCons (tOp (rIx a.S) (tVar 3) (tVar 5)) (tCons (tOp (rIx a.S) (tVar 2) (tVar 5)) tNil))))) (tNot (tB (tCall (sp_cuts a) [] E (tCons (tVar 1) (tCons (tOp (rIx a.S) (tVar 3) (tVar 5)) (tCons (tOp (rIx a.S) (tVar 2) (tVar 5)) tNil))))))) (tRet (tC (.bl false))) tNext))))))))
    (tRet (tC (.bl true)))))))))) ⟨fun _ H' => Q .non H', Q, fun _ _ => False, fun _ _ => False⟩ [some v0, none, none, none, none, none, none, none, none] H) : sp_law a [v0] H Q E := ⟨rfl, h⟩
instance ne_0 : NeS "number" "setting" := ⟨by decide +kernel⟩
instance ne_1 : NeS "number" "state" := ⟨by decide +kernel⟩
instance ne_2 : NeS "number" "base" := ⟨by decide +kernel⟩
instance ne_3 : NeS "number" "end" := ⟨by decide +kernel⟩
instance ne_4 : NeS "number" "closed" := ⟨by decide +kernel⟩
instance ne_5 : NeS "number" "urgent_end" := ⟨by decide +kernel⟩
instance ne_6 : NeS "number" "content" := ⟨by decide +kernel⟩
instance ne_7 : NeS "number" "capacity" := ⟨by decide +kernel⟩
instance ne_8 : NeS "setting" "number" := ⟨by decide +kernel⟩
instance ne_9 : NeS "setting" "state" := ⟨by decide +kernel⟩
instance ne_10 : NeS "setting" "base" := ⟨by decide +kernel⟩
instance ne_11 : NeS "setting" "end" := ⟨by decide +kernel⟩
instance ne_12 : NeS "setting" "closed" := ⟨by decide +kernel⟩
instance ne_13 : NeS "setting" "urgent_end" := ⟨by decide +kernel⟩
instance ne_14 : NeS "setting" "content" := ⟨by decide +kernel⟩
instance ne_15 : NeS "setting" "capacity" := ⟨by decide +kernel⟩
instance ne_16 : NeS "state" "number" := ⟨by decide +kernel⟩
instance ne_17 : NeS "state" "setting" := ⟨by decide +kernel⟩
instance ne_18 : NeS "state" "base" := ⟨by decide +kernel⟩
instance ne_19 : NeS "state" "end" := ⟨by decide +kernel⟩
instance ne_20 : NeS "state" "closed" := ⟨by decide +kernel⟩
instance ne_21 : NeS "state" "urgent_end" := ⟨by decide +kernel⟩
instance ne_22 : NeS "state" "content" := ⟨by decide +kernel⟩
instance ne_23 : NeS "state" "capacity" := ⟨by decide +kernel⟩
instance ne_24 : NeS "base" "number" := ⟨by decide +kernel⟩
instance ne_25 : NeS "base" "setting" := ⟨by decide +kernel⟩
instance ne_26 : NeS "base" "state" := ⟨by decide +kernel⟩
instance ne_27 : NeS "base" "end" := ⟨by decide +kernel⟩
instance ne_28 : NeS "base" "closed" := ⟨by decide +kernel⟩
instance ne_29 : NeS "base" "urgent_end" := ⟨by decide +kernel⟩
instance ne_30 : NeS "base" "content" := ⟨by decide +kernel⟩
instance ne_31 : NeS "base" "capacity" := ⟨by decide +kernel⟩
instance ne_32 : NeS "end" "number" := ⟨by decide +kernel⟩
instance ne_33 : NeS "end" "setting" := ⟨by decide +kernel⟩
instance ne_34 : NeS "end" "state" := ⟨by decide +kernel⟩
instance ne_35 : NeS "end" "base" := ⟨by decide +kernel⟩
instance ne_36 : NeS "end" "closed" := ⟨by decide +kernel⟩
instance ne_37 : NeS "end" "urgent_end" := ⟨by decide +kernel⟩
instance ne_38 : NeS "end" "content" := ⟨by decide +kernel⟩
instance ne_39 : NeS "end" "capacity" := ⟨by decide +kernel⟩
instance ne_40 : NeS "closed" "number" := ⟨by decide +kernel⟩
instance ne_41 : NeS "closed" "setting" := ⟨by decide +kernel⟩
instance ne_42 : NeS "closed" "state" := ⟨by decide +kernel⟩
instance ne_43 : NeS "closed" "base" := ⟨by decide +kernel⟩
instance ne_44 : NeS "closed" "end" := ⟨by decide +kernel⟩
instance ne_45 : NeS "closed" "urgent_end" := ⟨by decide +kernel⟩
instance ne_46 : NeS "closed" "content" := ⟨by decide +kernel⟩
instance ne_47 : NeS "closed" "capacity" := ⟨by decide +kernel⟩
instance ne_48 : NeS "urgent_end" "number" := ⟨by decide +kernel⟩
instance ne_49 : NeS "urgent_end" "setting" := ⟨by decide +kernel⟩
instance ne_50 : NeS "urgent_end" "state" := ⟨by decide +kernel⟩
instance ne_51 : NeS "urgent_end" "base" := ⟨by decide +kernel⟩
instance ne_52 : NeS "urgent_end" "end" := ⟨by decide +kernel⟩
instance ne_53 : NeS "urgent_end" "closed" := ⟨by decide +kernel⟩
instance ne_54 : NeS "urgent_end" "content" := ⟨by decide +kernel⟩
instance ne_55 : NeS "urgent_end" "capacity" := ⟨by decide +kernel⟩
instance ne_56 : NeS "content" "number" := ⟨by decide +kernel⟩
instance ne_57 : NeS "content" "setting" := ⟨by decide +kernel⟩
instance ne_58 : NeS "content" "state" := ⟨by decide +kernel⟩
instance ne_59 : NeS "content" "base" := ⟨by decide +kernel⟩
instance ne_60 : NeS "content" "end" := ⟨by decide +kernel⟩
instance ne_61 : NeS "content" "closed" := ⟨by decide +kernel⟩
instance ne_62 : NeS "content" "urgent_end" := ⟨by decide +kernel⟩
instance ne_63 : NeS "content" "capacity" := ⟨by decide +kernel⟩
instance ne_64 : NeS "capacity" "number" := ⟨by decide +kernel⟩
instance ne_65 : NeS "capacity" "setting" := ⟨by decide +kernel⟩
instance ne_66 : NeS "capacity" "state" := ⟨by decide +kernel⟩
instance ne_67 : NeS "capacity" "base" := ⟨by decide +kernel⟩
instance ne_68 : NeS "capacity" "end" := ⟨by decide +kernel⟩
instance ne_69 : NeS "capacity" "closed" := ⟨by decide +kernel⟩
instance ne_70 : NeS "capacity" "urgent_end" := ⟨by decide +kernel⟩
instance ne_71 : NeS "capacity" "content" := ⟨by decide +kernel⟩
instance ne_72 : NeS "limit" "number" := ⟨by decide +kernel⟩
instance ne_73 : NeS "limit" "setting" := ⟨by decide +kernel⟩
instance ne_74 : NeS "limit" "state" := ⟨by decide +kernel⟩
instance ne_75 : NeS "limit" "base" := ⟨by decide +kernel⟩
instance ne_76 : NeS "limit" "end" := ⟨by decide +kernel⟩
instance ne_77 : NeS "limit" "closed" := ⟨by decide +kernel⟩
instance ne_78 : NeS "limit" "urgent_end" := ⟨by decide +kernel⟩
instance ne_79 : NeS "limit" "content" := ⟨by decide +kernel⟩
instance ne_80 : NeS "limit" "capacity" := ⟨by decide +kernel⟩
instance ne_81 : NeS "free" "number" := ⟨by decide +kernel⟩
instance ne_82 : NeS "free" "setting" := ⟨by decide +kernel⟩
instance ne_83 : NeS "free" "state" := ⟨by decide +kernel⟩
instance ne_84 : NeS "free" "base" := ⟨by decide +kernel⟩
instance ne_85 : NeS "free" "end" := ⟨by decide +kernel⟩
instance ne_86 : NeS "free" "closed" := ⟨by decide +kernel⟩
instance ne_87 : NeS "free" "urgent_end" := ⟨by decide +kernel⟩
instance ne_88 : NeS "free" "content" := ⟨by decide +kernel⟩
instance ne_89 : NeS "free" "capacity" := ⟨by decide +kernel⟩
instance ne_90 : NeS "bound" "number" := ⟨by decide +kernel⟩
instance ne_91 : NeS "bound" "setting" := ⟨by decide +kernel⟩
instance ne_92 : NeS "bound" "state" := ⟨by decide +kernel⟩
instance ne_93 : NeS "bound" "base" := ⟨by decide +kernel⟩
instance ne_94 : NeS "bound" "end" := ⟨by decide +kernel⟩
instance ne_95 : NeS "bound" "closed" := ⟨by decide +kernel⟩
instance ne_96 : NeS "bound" "urgent_end" := ⟨by decide +kernel⟩
instance ne_97 : NeS "bound" "content" := ⟨by decide +kernel⟩
instance ne_98 : NeS "bound" "capacity" := ⟨by decide +kernel⟩
instance ne_99 : NeS "resize" "number" := ⟨by decide +kernel⟩
instance ne_100 : NeS "resize" "setting" := ⟨by decide +kernel⟩
instance ne_101 : NeS "resize" "state" := ⟨by decide +kernel⟩
instance ne_102 : NeS "resize" "base" := ⟨by decide +kernel⟩
instance ne_103 : NeS "resize" "end" := ⟨by decide +kernel⟩
instance ne_104 : NeS "resize" "closed" := ⟨by decide +kernel⟩
instance ne_105 : NeS "resize" "urgent_end" := ⟨by decide +kernel⟩
instance ne_106 : NeS "resize" "content" := ⟨by decide +kernel⟩
instance ne_107 : NeS "resize" "capacity" := ⟨by decide +kernel⟩
instance ne_108 : NeS "put" "number" := ⟨by decide +kernel⟩
instance ne_109 : NeS "put" "setting" := ⟨by decide +kernel⟩
instance ne_110 : NeS "put" "state" := ⟨by decide +kernel⟩
instance ne_111 : NeS "put" "base" := ⟨by decide +kernel⟩
instance ne_112 : NeS "put" "end" := ⟨by decide +kernel⟩
instance ne_113 : NeS "put" "closed" := ⟨by decide +kernel⟩
instance ne_114 : NeS "put" "urgent_end" := ⟨by decide +kernel⟩
instance ne_115 : NeS "put" "content" := ⟨by decide +kernel⟩
instance ne_116 : NeS "put" "capacity" := ⟨by decide +kernel⟩
instance ne_117 : NeS "urge" "number" := ⟨by decide +kernel⟩
instance ne_118 : NeS "urge" "setting" := ⟨by decide +kernel⟩
instance ne_119 : NeS "urge" "state" := ⟨by decide +kernel⟩
instance ne_120 : NeS "urge" "base" := ⟨by decide +kernel⟩
instance ne_121 : NeS "urge" "end" := ⟨by decide +kernel⟩
instance ne_122 : NeS "urge" "closed" := ⟨by decide +kernel⟩
instance ne_123 : NeS "urge" "urgent_end" := ⟨by decide +kernel⟩
instance ne_124 : NeS "urge" "content" := ⟨by decide +kernel⟩
instance ne_125 : NeS "urge" "capacity" := ⟨by decide +kernel⟩
instance ne_126 : NeS "shut" "number" := ⟨by decide +kernel⟩
instance ne_127 : NeS "shut" "setting" := ⟨by decide +kernel⟩
instance ne_128 : NeS "shut" "state" := ⟨by decide +kernel⟩
instance ne_129 : NeS "shut" "base" := ⟨by decide +kernel⟩
instance ne_130 : NeS "shut" "end" := ⟨by decide +kernel⟩
instance ne_131 : NeS "shut" "closed" := ⟨by decide +kernel⟩
instance ne_132 : NeS "shut" "urgent_end" := ⟨by decide +kernel⟩
instance ne_133 : NeS "shut" "content" := ⟨by decide +kernel⟩
instance ne_134 : NeS "shut" "capacity" := ⟨by decide +kernel⟩
instance ne_135 : NeS "cut" "number" := ⟨by decide +kernel⟩
instance ne_136 : NeS "cut" "setting" := ⟨by decide +kernel⟩
instance ne_137 : NeS "cut" "state" := ⟨by decide +kernel⟩
instance ne_138 : NeS "cut" "base" := ⟨by decide +kernel⟩
instance ne_139 : NeS "cut" "end" := ⟨by decide +kernel⟩
instance ne_140 : NeS "cut" "closed" := ⟨by decide +kernel⟩
instance ne_141 : NeS "cut" "urgent_end" := ⟨by decide +kernel⟩
instance ne_142 : NeS "cut" "content" := ⟨by decide +kernel⟩
instance ne_143 : NeS "cut" "capacity" := ⟨by decide +kernel⟩
instance ne_144 : NeS "release" "number" := ⟨by decide +kernel⟩
instance ne_145 : NeS "release" "setting" := ⟨by decide +kernel⟩
instance ne_146 : NeS "release" "state" := ⟨by decide +kernel⟩
instance ne_147 : NeS "release" "base" := ⟨by decide +kernel⟩
instance ne_148 : NeS "release" "end" := ⟨by decide +kernel⟩
instance ne_149 : NeS "release" "closed" := ⟨by decide +kernel⟩
instance ne_150 : NeS "release" "urgent_end" := ⟨by decide +kernel⟩
instance ne_151 : NeS "release" "content" := ⟨by decide +kernel⟩
instance ne_152 : NeS "release" "capacity" := ⟨by decide +kernel⟩
instance ne_153 : NeS "closed" "limit" := ⟨by decide +kernel⟩
instance ne_154 : NeS "closed" "urgent" := ⟨by decide +kernel⟩
instance ne_155 : NeS "content" "limit" := ⟨by decide +kernel⟩
instance ne_156 : NeS "content" "urgent" := ⟨by decide +kernel⟩
instance ne_157 : NeS "limit" "urgent" := ⟨by decide +kernel⟩
instance ne_158 : NeS "base" "limit" := ⟨by decide +kernel⟩
instance ne_159 : NeS "base" "urgent" := ⟨by decide +kernel⟩
instance ne_160 : NeS "urgent" "closed" := ⟨by decide +kernel⟩
instance ne_161 : NeS "urgent" "content" := ⟨by decide +kernel⟩
instance ne_162 : NeS "urgent" "limit" := ⟨by decide +kernel⟩
instance ne_163 : NeS "urgent" "base" := ⟨by decide +kernel⟩

/-! the walker: «walk_at "y 1"» one step, «walk_at "y"» as far as it goes -/
local macro_rules | `(tactic| walk_at "y mem") => `(tactic| repeat (first | assumption | exact List.Mem.head _ | apply List.Mem.tail))
local macro_rules | `(tactic| walk_at "y sub") => `(tactic| first | exact List.Sublist.refl _ | exact List.nil_sublist _ | (refine List.Sublist.cons₂ _ ?_; walk_at "y sub") | (refine List.Sublist.cons _ ?_; walk_at "y sub"))
local macro_rules | `(tactic| walk_at "y take") => `(tactic| first | exact Y.Take.here | (apply Y.Take.there; walk_at "y take"))
local macro_rules | `(tactic| walk_at "y sel") => `(tactic| first | exact Y.Sel.all | exact Y.Sel.nil | (refine' Y.Sel.cons ?h ?s; (case h => walk_at "y take"); (case s => walk_at "y sel")) | ((fail_if_success (show Y.Sel (_ :: _) _)); apply Y.Sel.drop; walk_at "y sel"))
local macro_rules | `(tactic| walk_at "y src") => `(tactic| first | assumption | (refine Y.Src.is ?_; walk_at "y mem"; done) | (refine Y.Src.rd ?_; walk_at "y mem"; done) | (refine Y.Src.st ?_; assumption) | (apply Y.Src.cons; walk_at "y src"))
local macro_rules | `(tactic| walk_at "y put") => `(tactic| repeat (first | assumption | exact Y.Put.here | apply Y.Put.there))
local macro_rules | `(tactic| walk_at "y at") => `(tactic| first | exact Y.atI_at (j := 0) rfl rfl | exact Y.atI_at (j := 1) rfl rfl | exact Y.atI_at (j := 2) rfl rfl | exact Y.atI_at (j := 3) rfl rfl | exact Y.atI_at (j := 4) rfl rfl | exact Y.atI_at (j := 5) rfl rfl | exact Y.atI_at (j := 6) rfl rfl | exact Y.atI_at (j := 7) rfl rfl | exact Y.atI_at (j := 8) rfl rfl | exact Y.atI_at (j := 9) rfl rfl | exact Y.atI_at (j := 10) rfl rfl | exact Y.atI_at (j := 11) rfl rfl | exact Y.atI_at (j := 12) rfl rfl | exact Y.atI_at (j := 13) rfl rfl | exact Y.atI_at (j := 14) rfl rfl | exact Y.atI_at (j := 15) rfl rfl | assumption | exact Y.atI_ints (by omega) (by omega))
local macro_rules | `(tactic| walk_at "y ix") => `(tactic| first | exact Y.ixN_b (j := 0) rfl rfl | exact Y.ixN_b (j := 1) rfl rfl | exact Y.ixN_b (j := 2) rfl rfl | exact Y.ixN_b (j := 3) rfl rfl | exact Y.ixN_b (j := 4) rfl rfl | exact Y.ixN_b (j := 5) rfl rfl | exact Y.ixN_b (j := 6) rfl rfl | exact Y.ixN_b (j := 7) rfl rfl | exact Y.ixN_b (j := 8) rfl rfl | exact Y.ixN_b (j := 9) rfl rfl | exact Y.ixN_b (j := 10) rfl rfl | exact Y.ixN_b (j := 11) rfl rfl | exact Y.ixN_b (j := 12) rfl rfl | exact Y.ixN_b (j := 13) rfl rfl | exact Y.ixN_b (j := 14) rfl rfl | exact Y.ixN_b (j := 15) rfl rfl | assumption | exact Y.ixN_i (by omega) (by omega))
local macro_rules | `(tactic| walk_at "y field") => `(tactic| first | assumption | exact Y.look_hit | exact Y.look_nil | (refine' Y.look_miss ?hd ?tl; (case hd => decide +kernel); (case tl => walk_at "y field")))
local macro_rules | `(tactic| walk_at "y putf") => `(tactic| first | exact Y.put_nil | exact Y.put_hit | (refine' Y.put_miss ?hd ?tl; (case hd => decide +kernel); (case tl => walk_at "y putf")))
local macro_rules | `(tactic| walk_at "y size") => `(tactic| first | exact Y.len_leB rfl | exact Y.len_ltB rfl | exact Y.f_lt rfl | (refine Y.len_leN ?_; simp only [List.length_append, List.length_cons, List.length_nil, List.length_map]; omega) | (refine Y.len_ltN ?_; simp only [List.length_append, List.length_cons, List.length_nil, List.length_map]; omega))
local macro_rules | `(tactic| walk_at "y flat") => `(tactic| first | exact Y.flat_ints | rfl | assumption | (refine Y.flat_cons ?_ ?_; (first | rfl | decide +kernel | assumption); walk_at "y flat"))
local macro_rules | `(tactic| walk_at "y eqv") => `(tactic| first | exact Y.eqv_nil | exact Y.eqv_nc | exact Y.eqv_cn | exact Y.eqv_ints | assumption | ((try simp (disch := decide +kernel) only [Y.eqv_strS, Y.eqv_strD, Y.eqv_int, Y.eqv_bl, Y.eqv_nil, Y.eqv_nc, Y.eqv_cn, Y.eqv_nn, Y.eqv_ni, Y.eqv_in, Y.eqv_ns, Y.eqv_sn, Y.eqv_si, Y.eqv_is, decide_true, Bool.true_and, Bool.false_and, Bool.and_true, Bool.and_false, eq_self, List.cons_append, List.nil_append]); (try simp only [Y.eqv_str, Y.eqv_int, Y.eqv_bl, Y.eqv_nil, Y.eqv_nc, Y.eqv_cn, Y.eqv_nn, Y.eqv_ni, Y.eqv_in, Y.eqv_ns, Y.eqv_sn, Y.eqv_si, Y.eqv_is, decide_true, Bool.true_and, Bool.false_and, Bool.and_true, Bool.and_false, eq_self, List.cons_append, List.nil_append, ← Bool.decide_and]); rfl))
local macro_rules | `(tactic| walk_at "y side") => `(tactic| fail "side")
local macro_rules | `(tactic| walk_at "y spec") => `(tactic| fail "spec")
local macro_rules | `(tactic| walk_at "y old Ar") => `(tactic| first
  | ((with_reducible refine' Y.x_strI ?c ?_); (case c => omega))
  | ((with_reducible refine' Y.x_mod ?c ?_); (case c => first | omega | decide | walk_at "y side"))
  | ((with_reducible refine' Y.x_fdiv ?c ?_); (case c => first | exact Y.div_small (by omega) (by omega) | walk_at "y side"))
  | ((with_reducible refine' Y.x_mul ?c ?_); (case c => first | exact Y.mulR (by omega) (by omega) | exact Y.mulL (by omega) (by omega) | walk_at "y side"))
  | ((with_reducible refine Y.is_pow ?_); first
    | (with_reducible refine Y.x_pw10_1 ?_)
    | (with_reducible refine Y.x_pw10_2 ?_)
    | (with_reducible refine Y.x_pw10_3 ?_)
    | (with_reducible refine Y.x_pw10_4 ?_)
    | (with_reducible refine Y.x_pw10_5 ?_)
    | (with_reducible refine Y.x_pw10_6 ?_)
    | (with_reducible refine Y.x_pw10_7 ?_)
    | (with_reducible refine Y.x_pw10_8 ?_)
    | (with_reducible refine Y.x_pw10_9 ?_)
    | (with_reducible refine Y.x_pw10_10 ?_)
    | (with_reducible refine Y.x_pw10_11 ?_)
    | (with_reducible refine Y.x_pw10_12 ?_)
    | (with_reducible refine Y.x_pw10_13 ?_)
    | (with_reducible refine Y.x_pw10_14 ?_)
    | (with_reducible refine Y.x_pw10_15 ?_)
    | (with_reducible refine Y.x_pw10_16 ?_)
    | (with_reducible refine Y.x_pw10_17 ?_)
    | (with_reducible refine Y.x_pw10_18 ?_)
    | (with_reducible refine Y.x_pw10_19 ?_)
    | (with_reducible refine Y.x_pw10_20 ?_)
    | (with_reducible refine Y.x_pw10_21 ?_)
    | (with_reducible refine Y.x_pw10_22 ?_)
    | (with_reducible refine Y.x_pw10_23 ?_)
    | (with_reducible refine Y.x_pw10_24 ?_)
    | (with_reducible refine Y.x_pw2_6 ?_)
    | (with_reducible refine Y.x_pw2_10 ?_)
    | (with_reducible refine Y.x_pw2_16 ?_)
    | (with_reducible refine Y.x_pw2_20 ?_)
    | (with_reducible refine Y.x_pw2_30 ?_)
    | (with_reducible refine Y.x_pw2_31 ?_)
    | (with_reducible refine Y.x_pw2_32 ?_)
    | (with_reducible refine Y.x_pw2_40 ?_)
    | (with_reducible refine Y.x_pw2_48 ?_)
    | (with_reducible refine Y.x_pw2_60 ?_)
    | (with_reducible refine Y.x_pw2_62 ?_)
    | (with_reducible refine Y.x_pw2_63 ?_)
    | (with_reducible refine Y.x_pw2_64 ?_))
  | ((with_reducible refine' Y.x_pow ?c ?_); (case c => first | exact ⟨by decide, by decide, by decide⟩ | walk_at "y side"))
  | ((with_reducible refine' Y.x_shl ?c ?_); (case c => first | exact ⟨by omega, by omega, by decide⟩ | walk_at "y side")))
local macro_rules | `(tactic| walk_at "y old Ix") => `(tactic| first
  | ((with_reducible refine Y.is_ix ?_); first
    | ((with_reducible refine' Y.x_ixL ?F ?m ?a ?_); (case F => assumption); (case m => walk_at "y mem"); (case a => walk_at "y at"))
    | ((with_reducible refine' Y.x_ixT ?F ?m ?a ?_); (case F => assumption); (case m => walk_at "y mem"); (case a => walk_at "y at"))
    | ((with_reducible refine' Y.x_ixR ?F ?m ?a ?_); (case F => assumption); (case m => walk_at "y mem"); (case a => walk_at "y at"))
    | ((with_reducible refine' Y.x_ixS ?ms ?a ?_); (case ms => assumption); (case a => walk_at "y at")))
  | ((with_reducible refine Y.is_len ?_); first
    | ((with_reducible refine' Y.x_lenL ?F ?m ?_); (case F => assumption); (case m => walk_at "y mem"))
    | ((with_reducible refine' Y.x_lenT ?F ?m ?_); (case F => assumption); (case m => walk_at "y mem"))
    | ((with_reducible refine' Y.x_lenR ?F ?m ?_); (case F => assumption); (case m => walk_at "y mem"))
    | ((with_reducible refine' Y.x_lenS ?ms ?_); (case ms => assumption)))
  | ((with_reducible refine Y.is_sl ?_); first
    | ((with_reducible refine' Y.x_sl1 ?F ?m ?_); (case F => assumption); (case m => walk_at "y mem"); intro _ _ _ _)
    | ((with_reducible refine' Y.x_slp1 ?F ?m ?_); (case F => assumption); (case m => walk_at "y mem"); intro _ _ _ _)
    | ((with_reducible refine' Y.x_slp2 ?F ?m ?_); (case F => assumption); (case m => walk_at "y mem"); intro _ _ _ _)
    | ((with_reducible refine' Y.x_slp3 ?F ?m ?_); (case F => assumption); (case m => walk_at "y mem"); intro _ _ _ _)
    | ((with_reducible refine' Y.x_slp4 ?F ?m ?_); (case F => assumption); (case m => walk_at "y mem"); intro _ _ _ _)
    | ((with_reducible refine' Y.x_slp5 ?F ?m ?_); (case F => assumption); (case m => walk_at "y mem"); intro _ _ _ _)
    | ((with_reducible refine' Y.x_slp6 ?F ?m ?_); (case F => assumption); (case m => walk_at "y mem"); intro _ _ _ _)
    | ((with_reducible refine' Y.x_slp7 ?F ?m ?_); (case F => assumption); (case m => walk_at "y mem"); intro _ _ _ _)
    | ((with_reducible refine' Y.x_slp8 ?F ?m ?_); (case F => assumption); (case m => walk_at "y mem"); intro _ _ _ _)
    | ((with_reducible refine' Y.x_slL ?F ?m ?_); (case F => assumption); (case m => walk_at "y mem"); intro _ _ _ _)
    | ((with_reducible refine' Y.x_slR ?F ?m ?_); (case F => assumption); (case m => walk_at "y mem"); intro _ _ _ _)
    | ((with_reducible refine' Y.x_slS ?F ?ms ?_); (case F => assumption); (case ms => assumption); intro _ _ _ _)))
local macro_rules | `(tactic| walk_at "y old Eq") => `(tactic| first
  | ((with_reducible refine Y.is_eqP ?_); first
    | (with_reducible refine Y.x_eqPI ?_)
    | (with_reducible refine Y.x_eqPB ?_)
    | (with_reducible refine Y.x_eqPSs ?_)
    | ((with_reducible refine' Y.x_eqPSd ?ne ?_); (case ne => decide +kernel))
    | (with_reducible refine Y.x_eqPS ?_)
    | (with_reducible refine Y.x_eqP_nn ?_)
    | (with_reducible refine Y.x_eqP_ni ?_)
    | (with_reducible refine Y.x_eqP_in ?_)
    | (with_reducible refine Y.x_eqP_nb ?_)
    | (with_reducible refine Y.x_eqP_bn ?_)
    | (with_reducible refine Y.x_eqP_ns ?_)
    | (with_reducible refine Y.x_eqP_sn ?_)
    | (with_reducible refine Y.x_eqP_is ?_)
    | (with_reducible refine Y.x_eqP_si ?_)
    | (with_reducible refine Y.x_eqP_bs ?_)
    | (with_reducible refine Y.x_eqP_sb ?_)
    | ((with_reducible refine' Y.x_eqPL ?F ?m ?n ?f1 ?f2 ?ev ?_); (case F => assumption); (case m => walk_at "y mem"); (case n => walk_at "y mem"); (case f1 => walk_at "y flat"); (case f2 => walk_at "y flat"); (case ev => walk_at "y eqv"))
    | ((with_reducible refine' Y.x_eqPT ?F ?m ?n ?f1 ?f2 ?ev ?_); (case F => assumption); (case m => walk_at "y mem"); (case n => walk_at "y mem"); (case f1 => walk_at "y flat"); (case f2 => walk_at "y flat"); (case ev => walk_at "y eqv")))
  | ((with_reducible refine Y.is_neP ?_); first
    | (with_reducible refine Y.x_nePI ?_)
    | (with_reducible refine Y.x_nePB ?_)
    | (with_reducible refine Y.x_nePSs ?_)
    | ((with_reducible refine' Y.x_nePSd ?ne ?_); (case ne => decide +kernel))
    | (with_reducible refine Y.x_nePS ?_)
    | (with_reducible refine Y.x_neP_nn ?_)
    | (with_reducible refine Y.x_neP_ni ?_)
    | (with_reducible refine Y.x_neP_in ?_)
    | (with_reducible refine Y.x_neP_nb ?_)
    | (with_reducible refine Y.x_neP_bn ?_)
    | (with_reducible refine Y.x_neP_ns ?_)
    | (with_reducible refine Y.x_neP_sn ?_)
    | (with_reducible refine Y.x_neP_is ?_)
    | (with_reducible refine Y.x_neP_si ?_)
    | (with_reducible refine Y.x_neP_bs ?_)
    | (with_reducible refine Y.x_neP_sb ?_)
    | ((with_reducible refine' Y.x_nePL ?F ?m ?n ?f1 ?f2 ?ev ?_); (case F => assumption); (case m => walk_at "y mem"); (case n => walk_at "y mem"); (case f1 => walk_at "y flat"); (case f2 => walk_at "y flat"); (case ev => walk_at "y eqv"))
    | ((with_reducible refine' Y.x_nePT ?F ?m ?n ?f1 ?f2 ?ev ?_); (case F => assumption); (case m => walk_at "y mem"); (case n => walk_at "y mem"); (case f1 => walk_at "y flat"); (case f2 => walk_at "y flat"); (case ev => walk_at "y eqv"))))
local macro_rules | `(tactic| walk_at "y old In") => `(tactic| first
  | ((with_reducible refine' Y.x_inL (bb := false) ?F ?m ?f ?fs ?e ?_); (case F => assumption); (case m => walk_at "y mem"); (case f => rfl); (case fs => rfl); (case e => rfl))
  | ((with_reducible refine' Y.x_inL (bb := true) ?F ?m ?f ?fs ?e ?_); (case F => assumption); (case m => walk_at "y mem"); (case f => rfl); (case fs => rfl); (case e => rfl))
  | ((with_reducible refine' Y.x_inL ?F ?m ?f ?fs ?e ?_); (case F => assumption); (case m => walk_at "y mem"); (case f => rfl); (case fs => rfl); (case e => rfl))
  | ((with_reducible refine' Y.x_inT (bb := false) ?F ?m ?f ?fs ?e ?_); (case F => assumption); (case m => walk_at "y mem"); (case f => rfl); (case fs => rfl); (case e => rfl))
  | ((with_reducible refine' Y.x_inT (bb := true) ?F ?m ?f ?fs ?e ?_); (case F => assumption); (case m => walk_at "y mem"); (case f => rfl); (case fs => rfl); (case e => rfl))
  | ((with_reducible refine' Y.x_inT ?F ?m ?f ?fs ?e ?_); (case F => assumption); (case m => walk_at "y mem"); (case f => rfl); (case fs => rfl); (case e => rfl))
  | ((with_reducible refine' Y.x_ninL (bb := false) ?F ?m ?f ?fs ?e ?_); (case F => assumption); (case m => walk_at "y mem"); (case f => rfl); (case fs => rfl); (case e => rfl))
  | ((with_reducible refine' Y.x_ninL (bb := true) ?F ?m ?f ?fs ?e ?_); (case F => assumption); (case m => walk_at "y mem"); (case f => rfl); (case fs => rfl); (case e => rfl))
  | ((with_reducible refine' Y.x_ninL ?F ?m ?f ?fs ?e ?_); (case F => assumption); (case m => walk_at "y mem"); (case f => rfl); (case fs => rfl); (case e => rfl))
  | ((with_reducible refine' Y.x_ninT (bb := false) ?F ?m ?f ?fs ?e ?_); (case F => assumption); (case m => walk_at "y mem"); (case f => rfl); (case fs => rfl); (case e => rfl))
  | ((with_reducible refine' Y.x_ninT (bb := true) ?F ?m ?f ?fs ?e ?_); (case F => assumption); (case m => walk_at "y mem"); (case f => rfl); (case fs => rfl); (case e => rfl))
  | ((with_reducible refine' Y.x_ninT ?F ?m ?f ?fs ?e ?_); (case F => assumption); (case m => walk_at "y mem"); (case f => rfl); (case fs => rfl); (case e => rfl)))
local macro_rules | `(tactic| walk_at "y old Ty") => `(tactic| first
  | ((with_reducible refine Y.is_isi ?_); first
    | ((with_reducible refine' Y.x_isr_list_int ?F ?m ?_); (case F => assumption); (case m => walk_at "y mem"))
    | ((with_reducible refine' Y.x_isr_list_bool ?F ?m ?_); (case F => assumption); (case m => walk_at "y mem"))
    | ((with_reducible refine' Y.x_isr_list_str ?F ?m ?_); (case F => assumption); (case m => walk_at "y mem"))
    | ((with_reducible refine' Y.x_isr_list_list ?F ?m ?_); (case F => assumption); (case m => walk_at "y mem"))
    | ((with_reducible refine' Y.x_isr_list_tuple ?F ?m ?_); (case F => assumption); (case m => walk_at "y mem"))
    | ((with_reducible refine' Y.x_isr_list_dict ?F ?m ?_); (case F => assumption); (case m => walk_at "y mem"))
    | ((with_reducible refine' Y.x_isr_tuple_int ?F ?m ?_); (case F => assumption); (case m => walk_at "y mem"))
    | ((with_reducible refine' Y.x_isr_tuple_bool ?F ?m ?_); (case F => assumption); (case m => walk_at "y mem"))
    | ((with_reducible refine' Y.x_isr_tuple_str ?F ?m ?_); (case F => assumption); (case m => walk_at "y mem"))
    | ((with_reducible refine' Y.x_isr_tuple_list ?F ?m ?_); (case F => assumption); (case m => walk_at "y mem"))
    | ((with_reducible refine' Y.x_isr_tuple_tuple ?F ?m ?_); (case F => assumption); (case m => walk_at "y mem"))
    | ((with_reducible refine' Y.x_isr_tuple_dict ?F ?m ?_); (case F => assumption); (case m => walk_at "y mem"))))
local macro_rules | `(tactic| walk_at "y old Oth") => `(tactic| first
  | ((with_reducible refine' Y.x_wipe ?e ?_); (case e => rfl))
  | ((with_reducible refine' Y.x_lcPut ?F ?pu ?sz ?_); (case F => assumption); (case pu => walk_at "y put"); (case sz => walk_at "y size"); intro _ _)
  | ((with_reducible refine' Y.x_mDG ?F ?hm ?mt ?l ?_); (case F => assumption); (case hm => walk_at "y mem"); (case mt => walk_at "y mem"); (case l => walk_at "y field"))
  | ((with_reducible refine' Y.x_fldDG ?F ?m ?mt ?l ?_); (case F => assumption); (case m => walk_at "y mem"); (case mt => walk_at "y mem"); (case l => walk_at "y field"))
  | ((with_reducible refine' Y.x_setFDG ?F ?m ?mt ?z ?e ?pu ?_); (case F => assumption); (case m => walk_at "y mem"); (case mt => walk_at "y mem"); (case z => walk_at "y size"); (case e => walk_at "y putf"); (case pu => walk_at "y put"); intro _ _)
  | ((with_reducible refine' Y.x_augFDG ?F ?m ?mt ?l ?_); (case F => assumption); (case m => walk_at "y mem"); (case mt => walk_at "y mem"); (case l => walk_at "y field"))
  | ((with_reducible refine' Y.x_propDG ?F ?m ?mt ?_); (case F => assumption); (case m => walk_at "y mem"); (case mt => walk_at "y mem"))
  | ((with_reducible refine' Y.x_supM ?F ?m ?mt ?_); (case F => assumption); (case m => walk_at "y mem"); (case mt => walk_at "y mem"))
  | ((with_reducible refine' Y.x_getL ?F ?m ?a ?_); (case F => assumption); (case m => walk_at "y mem"); (case a => walk_at "y at"))
  | ((with_reducible refine' Y.x_wTs ?mt ?rf ?_); (case mt => walk_at "y mem"); (case rf => rfl); intro _)
  | ((with_reducible refine' Y.x_wTn ?mt ?rf ?_); (case mt => walk_at "y mem"); (case rf => rfl); intro _)
  | ((with_reducible refine' Y.x_xfG ?F ?m ?mt ?l ?_); (case F => assumption); (case m => walk_at "y mem"); (case mt => walk_at "y mem"); (case l => walk_at "y field"))
  | ((with_reducible refine' Y.x_isX ?F ?m ?mt ?_); (case F => assumption); (case m => walk_at "y mem"); (case mt => walk_at "y mem"))
  | ((with_reducible refine' Y.x_isXi  ?_); )
  | ((with_reducible refine' Y.x_fldG ?F ?m ?l ?_); (case F => assumption); (case m => walk_at "y mem"); (case l => walk_at "y field"))
  | ((with_reducible refine' Y.x_methG ?F ?m ?l ?_); (case F => assumption); (case m => walk_at "y mem"); (case l => walk_at "y field"))
  | ((with_reducible refine' Y.x_inOwnF ?F ?m ?_); (case F => assumption); (case m => walk_at "y mem"))
  | ((with_reducible refine' Y.x_inOwnT ?F ?m ?_); (case F => assumption); (case m => walk_at "y mem"))
  | ((with_reducible refine' Y.x_setFG ?F ?m ?z ?e ?pu ?_); (case F => assumption); (case m => walk_at "y mem"); (case z => walk_at "y size"); (case e => walk_at "y putf"); (case pu => walk_at "y put"); intro _ _)
  | ((with_reducible refine' Y.x_setL ?F ?m ?ax ?pu ?_); (case F => assumption); (case m => walk_at "y mem"); (case ax => walk_at "y ix"); (case pu => walk_at "y put"); intro _ _)
  | ((with_reducible refine' Y.x_apdG ?F ?m ?_); (case F => assumption); (case m => walk_at "y mem"))
  | ((with_reducible refine' Y.x_append ?F ?m ?z ?pu ?_); (case F => assumption); (case m => walk_at "y mem"); (case z => walk_at "y size"); (case pu => walk_at "y put"); intro _ _)
  | ((with_reducible refine' Y.x_lstG ?F ?z ?_); (case F => assumption); (case z => walk_at "y size"); intro _ _ _ _)
  | ((with_reducible refine' Y.x_tupG ?F ?z ?_); (case F => assumption); (case z => walk_at "y size"); intro _ _ _ _)
  | ((with_reducible refine' Y.forTU ?F ?m ?_); (case F => assumption); (case m => walk_at "y mem"))
  | ((with_reducible refine' Y.x_sumL ?F ?m ?_); (case F => assumption); (case m => walk_at "y mem"))
  | ((with_reducible refine' Y.x_cat ?F ?m ?n ?z ?_); (case F => assumption); (case m => walk_at "y mem"); (case n => walk_at "y mem"); (case z => walk_at "y size"); intro _ _ _ _)
  | ((with_reducible refine' Y.x_propG ?F ?m ?_); (case F => assumption); (case m => walk_at "y mem"))
  | ((with_reducible refine' Y.x_augFG ?F ?m ?l ?_); (case F => assumption); (case m => walk_at "y mem"); (case l => walk_at "y field"))
  | ((with_reducible refine' Y.x_augFS ?F ?m ?z ?e ?pu ?_); (case F => assumption); (case m => walk_at "y mem"); (case z => walk_at "y size"); (case e => walk_at "y putf"); (case pu => walk_at "y put"); intro _ _))
local macro_rules | `(tactic| walk_at "y open") => `(tactic| with_reducible first | unfold Y.KFl | unfold Y.KFlD | unfold Y.KSf | unfold Y.KSfD | unfold Y.KAf | unfold Y.KAs | unfold Y.KAfD | unfold Y.KMe | unfold Y.KMD | unfold Y.KPr | unfold Y.KPrD | unfold Y.KAp | unfold Y.KBl | unfold Y.KIn)
local macro_rules | `(tactic| walk_at "y 1") => `(tactic| first
  | ((with_reducible refine Y.go ?_); intros)
  | ((with_reducible refine Y.hdAr_is ?_); walk_at "y old Ar")
  | ((with_reducible refine Y.hdIx_is ?_); walk_at "y old Ix")
  | ((with_reducible refine Y.hdEq_is ?_); walk_at "y old Eq")
  | ((with_reducible refine Y.hdIn_is ?_); walk_at "y old In")
  | ((with_reducible refine Y.hdTy_is ?_); walk_at "y old Ty")
  | ((with_reducible refine Y.hdFm_is ?_); ((with_reducible refine' Y.x_fmI ?b ?_); (case b => omega)))
  | ((with_reducible refine Y.hdK_is ?_); walk_at "y open"; walk_at "y old Oth")
  | ((with_reducible refine Y.hd_is ?_); walk_at "y old Oth"))
local macro_rules | `(tactic| walk_at "y if") => `(tactic| first
  | ((with_reducible refine Y.x_ite ?_ ?_); all_goals (intro _; try (exfalso; omega)))
  | ((with_reducible refine Y.x_niteP ?_ ?_); all_goals (intro _; try (exfalso; omega)))
  | ((with_reducible refine Y.x_itec ?_ ?_); all_goals intro _)
  | ((with_reducible refine Y.x_nitec ?_ ?_); all_goals intro _))
local macro_rules | `(tactic| walk_at "y") => `(tactic| repeat' (first | walk_at "y 1" | walk_at "y if" | walk_at "y spec"))

section
/-! the plain law: runs of offsets -/
abbrev Run := Int × Int
def Mem (rs : List Run) (x : Int) : Prop := ∃ r ∈ rs, r.1 ≤ x ∧ x < r.2
def Nf : List Run → Prop
  | [] => True
  | r :: rs => r.1 < r.2 ∧ (∀ s ∈ rs, r.2 < s.1) ∧ Nf rs
theorem mem_nil {x : Int} : ¬ Mem [] x := fun ⟨_, m, _⟩ => by cases m
theorem mem_cons {r : Run} {rs : List Run} {x : Int} : Mem (r :: rs) x ↔ (r.1 ≤ x ∧ x < r.2) ∨ Mem rs x := by
  constructor
  · rintro ⟨s, m, h⟩
    rcases List.mem_cons.mp m with rfl | m
    · exact .inl h
    · exact .inr ⟨s, m, h⟩
  · rintro (h | ⟨s, m, h⟩)
    · exact ⟨r, List.mem_cons_self, h⟩
    · exact ⟨s, List.mem_cons_of_mem _ m, h⟩
theorem mem_app {rs ts : List Run} {x : Int} : Mem (rs ++ ts) x ↔ Mem rs x ∨ Mem ts x := by
  induction rs with
  | nil => exact ⟨.inr, fun h => h.elim (fun h => absurd h mem_nil) id⟩
  | cons r rs ih => rw [List.cons_append, mem_cons, mem_cons, ih, or_assoc]
theorem mem_one {r : Run} {x : Int} : Mem [r] x ↔ r.1 ≤ x ∧ x < r.2 := by
  rw [mem_cons]
  exact ⟨fun h => h.elim id fun h => absurd h mem_nil, .inl⟩
theorem mem_snoc {rs : List Run} {r : Run} {x : Int} : Mem (rs ++ [r]) x ↔ Mem rs x ∨ (r.1 ≤ x ∧ x < r.2) := by rw [mem_app, mem_one]
theorem mem_perm {rs ts : List Run} (h : rs.Perm ts) {x : Int} : Mem rs x ↔ Mem ts x :=
  ⟨fun ⟨r, m, z⟩ => ⟨r, h.mem_iff.mp m, z⟩, fun ⟨r, m, z⟩ => ⟨r, h.mem_iff.mpr m, z⟩⟩
theorem nf_lt : ∀ {rs : List Run}, Nf rs → ∀ r ∈ rs, r.1 < r.2
  | r :: rs, ⟨h, _, n⟩, s, m => by
    rcases List.mem_cons.mp m with rfl | m
    · exact h
    · exact nf_lt n s m
theorem nf_head {r : Run} {rs : List Run} (n : Nf (r :: rs)) {x : Int} (h : Mem (r :: rs) x) : r.1 ≤ x := by
  rcases mem_cons.mp h with h | ⟨s, m, h⟩
  · exact h.1
  · have := n.2.1 s m
    have := n.1
    omega
theorem nf_tail {r : Run} {rs : List Run} (n : Nf (r :: rs)) {x : Int} : Mem rs x ↔ Mem (r :: rs) x ∧ r.2 ≤ x := by
  rw [mem_cons]
  constructor
  · rintro ⟨s, m, h⟩
    have := n.2.1 s m
    exact ⟨.inr ⟨s, m, h⟩, by omega⟩
  · rintro ⟨h | h, z⟩
    · omega
    · exact h
theorem nf_uni : ∀ {rs ts : List Run}, Nf rs → Nf ts → (∀ x, Mem rs x ↔ Mem ts x) → rs = ts
  | [], [], _, _, _ => rfl
  | [], t :: ts, _, n, h => absurd ((h t.1).mpr ⟨t, List.mem_cons_self, by have := n.1; omega⟩) mem_nil
  | r :: rs, [], n, _, h => absurd ((h r.1).mp ⟨r, List.mem_cons_self, by have := n.1; omega⟩) mem_nil
  | r :: rs, t :: ts, n, n', h => by
    have h1 := n.1
    have h2 := n'.1
    have e1 : t.1 ≤ r.1 := nf_head n' ((h r.1).mp ⟨r, List.mem_cons_self, by omega⟩)
    have e2 : r.1 ≤ t.1 := nf_head n ((h t.1).mpr ⟨t, List.mem_cons_self, by omega⟩)
    have e3 : ¬ r.2 < t.2 := fun z => by
      rcases mem_cons.mp ((h r.2).mpr ⟨t, List.mem_cons_self, by omega⟩) with w | ⟨s, m, w⟩
      · omega
      · have := n.2.1 s m
        omega
    have e4 : ¬ t.2 < r.2 := fun z => by
      rcases mem_cons.mp ((h t.2).mp ⟨r, List.mem_cons_self, by omega⟩) with w | ⟨s, m, w⟩
      · omega
      · have := n'.2.1 s m
        omega
    have e : r = t := Prod.ext (by omega) (by omega)
    subst e
    have e5 : rs = ts := nf_uni n.2.2 n'.2.2 fun x => by rw [nf_tail n, nf_tail n', h x]
    rw [e5]
theorem nf_snoc {rs : List Run} {r : Run} (n : Nf rs) (h : r.1 < r.2) (hs : ∀ s ∈ rs, s.2 < r.1) : Nf (rs ++ [r]) := by
  induction rs with
  | nil => exact ⟨h, fun s m => (by cases m), trivial⟩
  | cons s rs ih =>
    refine ⟨n.1, fun u m => ?_, ih n.2.2 fun u m => hs u (List.mem_cons_of_mem _ m)⟩
    rcases List.mem_append.mp m with m | m
    · exact n.2.1 u m
    · rw [List.mem_singleton.mp m]
      exact hs s List.mem_cons_self
theorem nf_app {rs ts : List Run} (n : Nf (rs ++ ts)) : Nf rs ∧ Nf ts ∧ ∀ r ∈ rs, ∀ t ∈ ts, r.2 < t.1 := by
  induction rs with
  | nil => exact ⟨trivial, n, fun r m => by cases m⟩
  | cons s rs ih =>
    obtain ⟨h1, h2, h3⟩ := ih n.2.2
    refine ⟨⟨n.1, fun u m => n.2.1 u (List.mem_append_left _ m), h1⟩, h2, fun r m t mt => ?_⟩
    rcases List.mem_cons.mp m with rfl | m
    · exact n.2.1 t (List.mem_append_right _ mt)
    · exact h3 r m t mt
/-- merging: what stands for the pairs that are done -/
structure MInv (rs done : List Run) : Prop where
  nf : Nf rs
  mem : ∀ x, Mem rs x ↔ Mem done x
  low : ∀ r ∈ rs, ∃ d ∈ done, r.1 = d.1
  len : rs.length ≤ done.length
theorem MInv.nil : MInv [] [] := ⟨trivial, fun _ => Iff.rfl, fun r m => (by cases m), Nat.le_refl _⟩
theorem MInv.skip {rs done : List Run} {p : Run} (h : MInv rs done) (e : p.1 = p.2) : MInv rs (done ++ [p]) :=
  ⟨h.nf, fun x => by rw [mem_snoc, ← h.mem]; exact ⟨.inl, fun z => z.elim id fun z => by omega⟩, fun r m => by
    obtain ⟨d, md, e⟩ := h.low r m
    exact ⟨d, List.mem_append_left _ md, e⟩, by rw [List.length_append]; have := h.len; omega⟩
theorem MInv.app {rs done : List Run} {p : Run} (h : MInv rs done) (e : p.1 < p.2) (hl : ∀ s ∈ rs, s.2 < p.1) : MInv (rs ++ [p]) (done ++ [p]) :=
  ⟨nf_snoc h.nf e hl, fun x => by rw [mem_snoc, mem_snoc, h.mem], fun r m => by
    rcases List.mem_append.mp m with m | m
    · obtain ⟨d, md, e⟩ := h.low r m
      exact ⟨d, List.mem_append_left _ md, e⟩
    · exact ⟨p, List.mem_append_right _ List.mem_cons_self, by rw [List.mem_singleton.mp m]⟩, by rw [List.length_append, List.length_append]; have := h.len; omega⟩
theorem MInv.join {ini done : List Run} {p : Run} {a b : Int} (h : MInv (ini ++ [(a, b)]) done) (e : p.1 < p.2) (h1 : a ≤ p.1) (h2 : p.1 ≤ b) : MInv (ini ++ [(a, max b p.2)]) (done ++ [p]) := by
  obtain ⟨n1, n2, n3⟩ := nf_app h.nf
  have n2 : a < b := n2.1
  refine ⟨nf_snoc n1 (by show a < max b p.2; omega) fun s m => n3 s m (a, b) List.mem_cons_self, fun x => ?_, fun r m => ?_, ?_⟩
  · rw [mem_snoc, mem_snoc, ← h.mem, mem_snoc]
    dsimp only
    constructor
    · rintro (z | z)
      · exact .inl (.inl z)
      · by_cases w : x < b
        · exact .inl (.inr ⟨z.1, w⟩)
        · exact .inr (by omega)
    · rintro ((z | z) | z)
      · exact .inl z
      · exact .inr (by omega)
      · exact .inr (by omega)
  · rcases List.mem_append.mp m with m | m
    · obtain ⟨d, md, e⟩ := h.low r (List.mem_append_left _ m)
      exact ⟨d, List.mem_append_left _ md, e⟩
    · obtain ⟨d, md, e⟩ := h.low (a, b) (List.mem_append_right _ List.mem_cons_self)
      exact ⟨d, List.mem_append_left _ md, by rw [List.mem_singleton.mp m]; exact e⟩
  · have := h.len
    rw [List.length_append, List.length_cons, List.length_nil] at this ⊢
    rw [List.length_append, List.length_cons, List.length_nil]
    omega
/-- what is missing below `at` -/
structure AInv (res done : List Run) (low at_ : Int) : Prop where
  lo : low ≤ at_
  top : ∀ r ∈ done, r.2 ≤ at_
  mem : ∀ x, Mem res x ↔ (low ≤ x ∧ x < at_ ∧ ¬ Mem done x)
  ok : ∀ r ∈ res, low ≤ r.1 ∧ r.1 < r.2
  len : res.length ≤ done.length
  was : at_ = low ∨ ∃ s ∈ done, at_ = s.2
theorem AInv.nil {low : Int} : AInv [] [] low low := ⟨Int.le_refl _, fun r m => (by cases m), fun x => ⟨fun h => absurd h mem_nil, fun h => by omega⟩, fun r m => (by cases m), Nat.le_refl _, .inl rfl⟩
theorem AInv.step {res done : List Run} {low at_ : Int} {r : Run} (h : AInv res done low at_) (h1 : r.1 < r.2) (h2 : ∀ s ∈ done, s.2 < r.1) : AInv (if at_ < r.1 then res ++ [(at_, r.1)] else res) (done ++ [r]) low (max at_ r.2) := by
  have lo := h.lo
  refine ⟨by omega, fun s m => ?_, fun x => ?_, fun s m => ?_, ?_, ?_⟩
  · rcases List.mem_append.mp m with m | m
    · have := h.top s m; omega
    · rw [List.mem_singleton.mp m]; omega
  · have nd : at_ ≤ x → ¬ Mem done x := fun hx ⟨s, m, z⟩ => by have := h.top s m; omega
    rw [mem_snoc]
    split
    · rw [mem_snoc, h.mem]
      dsimp only
      constructor
      · rintro (⟨a1, a2, a3⟩ | z)
        · exact ⟨a1, by omega, fun w => w.elim a3 fun w => by omega⟩
        · exact ⟨by omega, by omega, fun w => w.elim (nd z.1) fun w => by omega⟩
      · rintro ⟨a1, a2, a3⟩
        by_cases w : x < at_
        · exact .inl ⟨a1, w, fun q => a3 (.inl q)⟩
        · exact .inr ⟨by omega, Classical.byContradiction fun q => a3 (.inr (by omega))⟩
    · rw [h.mem]
      constructor
      · rintro ⟨a1, a2, a3⟩
        refine ⟨a1, by omega, fun w => w.elim a3 fun w => ?_⟩
        rcases h.was with e | ⟨s, m, e⟩
        · omega
        · have := h2 s m
          omega
      · rintro ⟨a1, a2, a3⟩
        by_cases w : x < at_
        · exact ⟨a1, w, fun q => a3 (.inl q)⟩
        · exact absurd (.inr (by omega)) a3
  · split at m
    · rcases List.mem_append.mp m with m | m
      · exact h.ok s m
      · rw [List.mem_singleton.mp m]
        dsimp only
        omega
    · exact h.ok s m
  · have := h.len
    rw [List.length_append, List.length_cons, List.length_nil]
    split
    · rw [List.length_append, List.length_cons, List.length_nil]; omega
    · omega
  · by_cases q : at_ ≤ r.2
    · exact .inr ⟨r, List.mem_append_right _ List.mem_cons_self, by omega⟩
    · rcases h.was with e | ⟨s, m, e⟩
      · exact .inl (by omega)
      · exact .inr ⟨s, List.mem_append_left _ m, by omega⟩
/-- the end of absent -/
theorem AInv.fin {res done rest : List Run} {low high at_ : Int} (h : AInv res done low at_) (hr : ∀ r ∈ rest, high ≤ r.1) (hd : ∀ r ∈ res, r.2 ≤ high) :
    (∀ x, Mem (if at_ < high then res ++ [(at_, high)] else res) x ↔ (low ≤ x ∧ x < high ∧ ¬ Mem (done ++ rest) x)) ∧ (∀ r ∈ (if at_ < high then res ++ [(at_, high)] else res), low ≤ r.1 ∧ r.1 < r.2) ∧ (if at_ < high then res ++ [(at_, high)] else res).length ≤ done.length + 1 := by
  have lo := h.lo
  refine ⟨fun x => ?_, fun s m => ?_, ?_⟩
  · rw [mem_app]
    have nr : x < high → ¬ Mem rest x := fun hx ⟨s, m, z⟩ => by have := hr s m; omega
    have nd : at_ ≤ x → ¬ Mem done x := fun hx ⟨s, m, z⟩ => by have := h.top s m; omega
    have hh : Mem res x → x < high := fun ⟨s, m, z⟩ => by have := hd s m; omega
    split
    · rw [mem_snoc]
      dsimp only
      constructor
      · rintro (z | z)
        · have z2 := (h.mem x).mp z
          exact ⟨z2.1, hh z, fun w => w.elim z2.2.2 (nr (hh z))⟩
        · exact ⟨by omega, z.2, fun w => w.elim (nd z.1) (nr z.2)⟩
      · rintro ⟨a1, a2, a3⟩
        by_cases w : x < at_
        · exact .inl ((h.mem x).mpr ⟨a1, w, fun q => a3 (.inl q)⟩)
        · exact .inr (by omega)
    · constructor
      · intro z
        have z2 := (h.mem x).mp z
        exact ⟨z2.1, hh z, fun w => w.elim z2.2.2 (nr (hh z))⟩
      · rintro ⟨a1, a2, a3⟩
        exact (h.mem x).mpr ⟨a1, by omega, fun q => a3 (.inl q)⟩
  · split at m
    · rcases List.mem_append.mp m with m | m
      · exact h.ok s m
      · rw [List.mem_singleton.mp m]
        dsimp only
        omega
    · exact h.ok s m
  · have := h.len
    split
    · rw [List.length_append, List.length_cons, List.length_nil]; omega
    · omega
/-! the history -/
structure Deed where
  b : Bool
  lo : Int
  hi : Int
def hasF (acc : Bool) (d : Deed) (x : Int) : Bool := if d.lo ≤ x ∧ x < d.hi then d.b else acc
def hasL (hs : List Deed) (x : Int) : Bool := hs.foldl (fun acc d => hasF acc d x) false
theorem hasL_snoc {hs : List Deed} {d : Deed} {x : Int} : hasL (hs ++ [d]) x = if d.lo ≤ x ∧ x < d.hi then d.b else hasL hs x := by
  unfold hasL
  rw [List.foldl_append]
  rfl
def HInv (rs : List Run) (hs : List Deed) : Prop := Nf rs ∧ ∀ x, Mem rs x ↔ hasL hs x = true
theorem HInv.uni {rs ts : List Run} {hs : List Deed} (h : HInv rs hs) (h' : HInv ts hs) : rs = ts := nf_uni h.1 h'.1 fun x => by rw [h.2, h'.2]
theorem HInv.put {rs ts : List Run} {hs : List Deed} {lo hi : Int} (h : HInv rs hs) (n : Nf ts) (m : ∀ x, Mem ts x ↔ Mem rs x ∨ (lo ≤ x ∧ x < hi)) : HInv ts (hs ++ [⟨true, lo, hi⟩]) := ⟨n, fun x => by
  rw [m, h.2, hasL_snoc]
  dsimp only
  split
  · exact ⟨fun _ => rfl, fun _ => .inr (by assumption)⟩
  · exact ⟨fun z => z.elim id fun z => absurd z (by assumption), .inl⟩⟩
theorem HInv.drop {rs ts : List Run} {hs : List Deed} {lo hi : Int} (h : HInv rs hs) (n : Nf ts) (m : ∀ x, Mem ts x ↔ Mem rs x ∧ ¬ (lo ≤ x ∧ x < hi)) : HInv ts (hs ++ [⟨false, lo, hi⟩]) := ⟨n, fun x => by
  rw [m, h.2, hasL_snoc]
  dsimp only
  split
  · exact ⟨fun z => absurd (by assumption) z.2, fun z => by cases z⟩
  · exact ⟨fun z => z.1, fun z => ⟨z, by assumption⟩⟩⟩
theorem has_pairs {ps : List Run} {x : Int} : hasL (ps.map fun p => ⟨true, p.1, p.2⟩) x = true ↔ Mem ps x := by
  have key : ∀ (ps : List Run) (acc : Bool), (ps.map fun p => (⟨true, p.1, p.2⟩ : Deed)).foldl (fun acc d => hasF acc d x) acc = true ↔ acc = true ∨ Mem ps x := fun ps => by
    induction ps with
    | nil => exact fun acc => ⟨.inl, fun h => h.elim id fun h => absurd h mem_nil⟩
    | cons p ps ih =>
      intro acc
      rw [List.map_cons, List.foldl_cons, ih, mem_cons]
      unfold hasF
      dsimp only
      split
      · exact ⟨fun _ => .inr (.inl (by assumption)), fun _ => .inl rfl⟩
      · exact ⟨fun h => h.elim .inl fun h => .inr (.inr h), fun h => h.elim .inl fun h => h.elim (fun h => absurd h (by assumption)) .inr⟩
  exact (key ps false).trans ⟨fun h => h.elim (fun h => by cases h) id, .inr⟩
theorem HInv.new {rs ps : List Run} (n : Nf rs) (m : ∀ x, Mem rs x ↔ Mem ps x) : HInv rs (ps.map fun p => ⟨true, p.1, p.2⟩) := ⟨n, fun x => by rw [m, has_pairs]⟩
/-- what is told for each place between two ends is told everywhere between them -/
theorem has_const {hs : List Deed} {x y : Int} (h : ∀ d ∈ hs, (d.lo ≤ x ↔ d.lo ≤ y) ∧ (d.hi ≤ x ↔ d.hi ≤ y)) : hasL hs x = hasL hs y := by
  have key : ∀ (hs : List Deed) (acc : Bool), (∀ d ∈ hs, (d.lo ≤ x ↔ d.lo ≤ y) ∧ (d.hi ≤ x ↔ d.hi ≤ y)) → hs.foldl (fun acc d => hasF acc d x) acc = hs.foldl (fun acc d => hasF acc d y) acc := fun hs => by
    induction hs with
    | nil => exact fun acc _ => rfl
    | cons d hs ih =>
      intro acc h
      obtain ⟨h1, h2⟩ := h d List.mem_cons_self
      rw [List.foldl_cons, List.foldl_cons, ih _ fun e m => h e (List.mem_cons_of_mem _ m)]
      have e : hasF acc d x = hasF acc d y := by
        unfold hasF
        by_cases z : d.lo ≤ x ∧ x < d.hi
        · rw [if_pos z, if_pos (by omega)]
        · rw [if_neg z, if_neg (by omega)]
      rw [e]
  exact key hs false h
theorem has_out {hs : List Deed} {x : Int} (h : ∀ d ∈ hs, ¬ (d.lo ≤ x ∧ x < d.hi)) : hasL hs x = false := by
  have key : ∀ (hs : List Deed), (∀ d ∈ hs, ¬ (d.lo ≤ x ∧ x < d.hi)) → hs.foldl (fun acc d => hasF acc d x) false = false := fun hs => by
    induction hs with
    | nil => exact fun _ => rfl
    | cons d hs ih =>
      intro h
      rw [List.foldl_cons]
      have e : hasF false d x = false := by unfold hasF; rw [if_neg (h d List.mem_cons_self)]
      rw [e, ih fun e m => h e (List.mem_cons_of_mem _ m)]
  exact key hs h
/-- sorted ends -/
def Ends (es : List Int) (hs : List Deed) : Prop := es.Pairwise (· ≤ ·) ∧ ∀ d ∈ hs, d.lo ∈ es ∧ d.hi ∈ es
theorem ends_at {es : List Int} {hs : List Deed} (h : Ends es hs) {k : Nat} {a b : Int} (h1 : es[k]? = some a) (h2 : es[k + 1]? = some b) {x : Int} (hx : a ≤ x ∧ x < b) : hasL hs x = hasL hs a := by
  have mono : ∀ {i j : Nat} {u v : Int}, es[i]? = some u → es[j]? = some v → i ≤ j → u ≤ v := fun {i j u v} e1 e2 hij => by
    obtain ⟨l1, e1⟩ := List.getElem?_eq_some_iff.mp e1
    obtain ⟨l2, e2⟩ := List.getElem?_eq_some_iff.mp e2
    subst e1 e2
    by_cases w : i = j
    · subst w; exact Int.le_refl _
    · exact (List.pairwise_iff_getElem.mp h.1) i j l1 l2 (by omega)
  have key : ∀ u ∈ es, (u ≤ x ↔ u ≤ a) := fun u m => by
    obtain ⟨i, hi, e⟩ := List.getElem_of_mem m
    have e : es[i]? = some u := by rw [List.getElem?_eq_getElem hi, e]
    by_cases w : i ≤ k
    · have := mono e h1 w
      omega
    · have := mono h2 e (by omega)
      omega
  exact has_const fun d m => ⟨key _ (h.2 d m).1, key _ (h.2 d m).2⟩
/-- what is due up to the place k of the ends -/
structure DInv (rs : List Run) (hs : List Deed) (es : List Int) (k : Nat) : Prop where
  nf : Nf rs
  mem : ∀ x, Mem rs x ↔ (hasL hs x = true ∧ ∃ a b, es[0]? = some a ∧ es[k]? = some b ∧ a ≤ x ∧ x < b)
  top : ∀ r ∈ rs, ∃ b, es[k]? = some b ∧ r.2 ≤ b
  len : rs.length ≤ k
theorem DInv.nil {hs : List Deed} {es : List Int} : DInv [] hs es 0 := ⟨trivial, fun x => ⟨fun h => absurd h mem_nil, fun ⟨_, a, b, e1, e2, h⟩ => by rw [e1] at e2; cases e2; omega⟩, fun r m => (by cases m), Nat.le_refl _⟩
section
variable {rs ini : List Run} {hs : List Deed} {es : List Int} {k : Nat} {a b c : Int}
theorem DInv.step0 (h : DInv rs hs es k) (en : Ends es hs) (h1 : es[k]? = some a) (h2 : es[k + 1]? = some b) (n : ¬ (a < b ∧ hasL hs a = true)) : DInv rs hs es (k + 1) := by
  have hab : a ≤ b := by
    obtain ⟨l1, e1⟩ := List.getElem?_eq_some_iff.mp h1
    obtain ⟨l2, e2⟩ := List.getElem?_eq_some_iff.mp h2
    subst e1 e2
    exact (List.pairwise_iff_getElem.mp en.1) k (k + 1) l1 l2 (by omega)
  refine ⟨h.nf, fun x => ?_, fun r m => ?_, Nat.le_succ_of_le h.len⟩
  · rw [h.mem]
    constructor
    · rintro ⟨z, u, v, e1, e2, z2⟩
      rw [h1] at e2
      cases e2
      exact ⟨z, u, b, e1, h2, by omega⟩
    · rintro ⟨z, u, v, e1, e2, z2⟩
      rw [h2] at e2
      cases e2
      refine ⟨z, u, a, e1, h1, z2.1, ?_⟩
      refine Classical.byContradiction fun w => n ⟨by omega, ?_⟩
      rw [← ends_at en h1 h2 (x := x) (by omega)]
      exact z
  · obtain ⟨u, e, hu⟩ := h.top r m
    rw [h1] at e
    cases e
    exact ⟨b, h2, by omega⟩
theorem DInv.memS (h : DInv rs hs es k) (en : Ends es hs) (h1 : es[k]? = some a) (h2 : es[k + 1]? = some b) (hab : a < b) (z : hasL hs a = true) (x : Int) : (Mem rs x ∨ (a ≤ x ∧ x < b)) ↔ (hasL hs x = true ∧ ∃ u v, es[0]? = some u ∧ es[k + 1]? = some v ∧ u ≤ x ∧ x < v) := by
  obtain ⟨u0, e0⟩ : ∃ u0, es[0]? = some u0 := ⟨es[0]'(by have := (List.getElem?_eq_some_iff.mp h1).1; omega), List.getElem?_eq_getElem _⟩
  have h0 : u0 ≤ a := by
    obtain ⟨l1, e1⟩ := List.getElem?_eq_some_iff.mp e0
    obtain ⟨l2, e2⟩ := List.getElem?_eq_some_iff.mp h1
    subst e1 e2
    by_cases w : k = 0
    · subst w; exact Int.le_refl _
    · exact (List.pairwise_iff_getElem.mp en.1) 0 k l1 l2 (by omega)
  rw [h.mem]
  constructor
  · rintro (⟨z, u, v, e1, e2, z2⟩ | w)
    · rw [h1] at e2
      cases e2
      exact ⟨z, u, b, e1, h2, by omega⟩
    · exact ⟨by rw [ends_at en h1 h2 w]; exact z, u0, b, e0, h2, by omega⟩
  · rintro ⟨z, u, v, e1, e2, z2⟩
    rw [h2] at e2
    cases e2
    by_cases w : x < a
    · exact .inl ⟨z, u, a, e1, h1, by omega⟩
    · exact .inr (by omega)
theorem DInv.app (h : DInv rs hs es k) (en : Ends es hs) (h1 : es[k]? = some a) (h2 : es[k + 1]? = some b) (hab : a < b) (z : hasL hs a = true) (hl : ∀ r ∈ rs, r.2 ≠ a) : DInv (rs ++ [(a, b)]) hs es (k + 1) := by
  refine ⟨nf_snoc h.nf hab fun s m => ?_, fun x => by rw [mem_snoc]; exact h.memS en h1 h2 hab z x, fun r m => ?_, by rw [List.length_append]; have := h.len; simp; omega⟩
  · obtain ⟨u, e, hu⟩ := h.top s m
    rw [h1] at e
    cases e
    have := hl s m
    show s.2 < a
    omega
  · rcases List.mem_append.mp m with m | m
    · obtain ⟨u, e, hu⟩ := h.top r m
      rw [h1] at e
      cases e
      exact ⟨b, h2, by omega⟩
    · rw [List.mem_singleton.mp m]
      exact ⟨b, h2, Int.le_refl _⟩
theorem DInv.join (h : DInv (ini ++ [(c, a)]) hs es k) (en : Ends es hs) (h1 : es[k]? = some a) (h2 : es[k + 1]? = some b) (hab : a < b) (z : hasL hs a = true) : DInv (ini ++ [(c, b)]) hs es (k + 1) := by
  obtain ⟨n1, n2, n3⟩ := nf_app h.nf
  have n2 : c < a := n2.1
  refine ⟨nf_snoc n1 (by show c < b; omega) fun s m => n3 s m (c, a) List.mem_cons_self, fun x => ?_, fun r m => ?_, by have := h.len; rw [List.length_append] at this ⊢; simp at this ⊢; omega⟩
  · rw [← h.memS en h1 h2 hab z x, mem_snoc, mem_snoc]
    dsimp only
    constructor
    · rintro (z | z)
      · exact .inl (.inl z)
      · by_cases w : x < a
        · exact .inl (.inr ⟨z.1, w⟩)
        · exact .inr (by omega)
    · rintro ((z | z) | z)
      · exact .inl z
      · exact .inr (by omega)
      · exact .inr (by omega)
  · rcases List.mem_append.mp m with m | m
    · obtain ⟨u, e, hu⟩ := h.top r (List.mem_append_left _ m)
      rw [h1] at e
      cases e
      exact ⟨b, h2, by omega⟩
    · rw [List.mem_singleton.mp m]
      exact ⟨b, h2, Int.le_refl _⟩
theorem DInv.last_ne (h : DInv (ini ++ [(c, b)]) hs es k) (h1 : es[k]? = some a) (ne : b ≠ a) : ∀ r ∈ ini ++ [(c, b)], r.2 ≠ a := fun r m => by
  obtain ⟨n1, n2, n3⟩ := nf_app h.nf
  have n2 : c < b := n2.1
  rcases List.mem_append.mp m with m | m
  · have := n3 r m (c, b) List.mem_cons_self
    obtain ⟨u, e, hu⟩ := h.top (c, b) (List.mem_append_right _ List.mem_cons_self)
    rw [h1] at e
    cases e
    dsimp only at this hu
    omega
  · rw [List.mem_singleton.mp m]
    exact ne
theorem DInv.fin (h : DInv rs hs es k) (en : Ends es hs) (hk : es.length = k + 1 ∨ es = []) : HInv rs hs := ⟨h.nf, fun x => by
  rw [h.mem]
  refine ⟨fun z => z.1, fun z => ⟨z, ?_⟩⟩
  have : ∃ d ∈ hs, d.lo ≤ x ∧ x < d.hi := Classical.byContradiction fun w => by
    rw [has_out fun d m q => w ⟨d, m, q⟩] at z
    cases z
  obtain ⟨d, m, q⟩ := this
  obtain ⟨m1, m2⟩ := en.2 d m
  obtain ⟨i, hi, e1⟩ := List.getElem_of_mem m1
  obtain ⟨j, hj, e2⟩ := List.getElem_of_mem m2
  have hk : es.length = k + 1 := hk.elim id fun e => by rw [e] at m1; cases m1
  have hk2 : k < es.length := by omega
  have g1 : es[0] ≤ es[i] := by
    by_cases w : i = 0
    · subst w; exact Int.le_refl _
    · exact (List.pairwise_iff_getElem.mp en.1) 0 i (by omega) hi (by omega)
  have g2 : es[j] ≤ es[k] := by
    by_cases w : j = k
    · subst w; exact Int.le_refl _
    · exact (List.pairwise_iff_getElem.mp en.1) j k hj hk2 (by omega)
  exact ⟨es[0], es[k], List.getElem?_eq_getElem _, List.getElem?_eq_getElem _, by omega, by omega⟩⟩
end

/-! the box of the draws -/
structure Pz where
  c : Addr
  ns : List Int
  i : Int
  d : Int
  s : Int
  k : Int
def purE (p : Addr) (z : Pz) : List Ent := [(p, Is (.lst [.ref z.c, .int z.i, .int z.d, .int z.s, .int z.k])), (z.c, Is (.lst (z.ns.map V.int)))]
def purP (z : Pz) : Prop := 0 ≤ z.i ∧ 0 ≤ z.d
def Box : Pr := comp purE purP
theorem pur_fold {p c : Addr} {ns : List Int} {i d k s : Int} {R : List Ent} {H : Hp} (F : FH H ((p, Is (.lst [.ref c, .int i, .int d, .int s, .int k])) :: (c, Is (.lst (ns.map V.int))) :: R)) (hi : 0 ≤ i) (hd : 0 ≤ d) : FH H ((p, Box) :: R) :=
  FH.fold (E := purE) (P := purP) ⟨c, ns, i, d, s, k⟩ ⟨hi, hd⟩ F List.mem_cons_self
theorem draw_ok {a : Cl} {H : Hp} {L : List Ent} {p : Addr} {n : Int} {Q : VK} {E : XK} (F : FH H L) (m : (p, Box) ∈ L) (hn : 0 < n) (hn2 : n ≤ 1000000000000) (k : ∀ r H', 0 ≤ r → r < n → FH H' L → Q (.int r) H') : sp_draw a [.ref p, .int n] H Q E := by
  obtain ⟨R, hR⟩ := pull m
  obtain ⟨⟨c, ns, i, d, s, kk⟩, ⟨hi, hd⟩, F1⟩ := (F.perm hR).unfold
  have fin : ∀ (r i' d' k' s' : Int) H', 0 ≤ r → r < n → 0 ≤ i' → 0 ≤ d' → FH H' ((p, Is (.lst [.ref c, .int i', .int d', .int s', .int k'])) :: (c, Is (.lst (ns.map V.int))) :: R) → Q (.int r) H' := fun r i' d' k' s' H' h1 h2 h3 h4 F' =>
    k r H' h1 h2 ((pur_fold F' h3 h4).perm hR.symm)
  have F2 : FH H ((p, Is (.lst [.ref c, .int i, .int d, .int s, .int kk])) :: (c, Is (.lst (ns.map V.int))) :: R) := F1
  dsimp only at hi hd
  clear k F1 F m hR
  refine in_draw ?_
  walk_at "y"
  all_goals
    refine fin _ _ _ _ _ _ ?_ ?_ ?_ ?_ (by assumption)
    all_goals first
      | exact Int.emod_nonneg _ (by omega)
      | exact Int.emod_lt_of_pos _ hn
      | omega
      | exact Int.ediv_nonneg (by omega) (by omega)
theorem box_ok {a : Cl} {H : Hp} {L : List Ent} {q : Addr} {ns : List Int} {Q : VK} {E : XK} (F : FH H L) (m : Src a.S L q (ns.map V.int)) (k : ∀ p H', FH H' ((p, Box) :: L) → Q (.ref p) H') : sp_box a [.ref q] H Q E := by
  refine in_box ?_
  repeat' walk_at "y 1"
  refine ⟨q, _, rfl, .inl (m.rdS F), fun l hl => ?_⟩
  have F1 := F.new (o := .lst (ns.map V.int)) hl
  dsimp only
  clear F
  repeat' walk_at "y 1"
  rename_i p2 H4 _ F4
  exact k p2 H4 (pur_fold F4 (by decide) (by decide))

set_option synthInstance.checkSynthOrder false
/-! sequences and pairs by class search (k04, k06) -/
instance (priority := 10) lenE_any {α : Type} {xs : List α} : LenE xs xs.length := ⟨rfl⟩
instance mm_appR {x : Ent} {A B : List Ent} [m : Mm x B] : Mm x (A ++ B) := ⟨List.mem_append_right _ m.m⟩
instance (priority := 50) mm_appL {x : Ent} {A B : List Ent} [m : Mm x A] : Mm x (A ++ B) := ⟨List.mem_append_left _ m.m⟩
theorem put_app {p : Addr} {φ φ' : Pr} {N L L' : List Ent} (h : Put p φ φ' L L') : Put p φ φ' (N ++ L) (N ++ L') := by
  induction N with
  | nil => exact h
  | cons x N ih => exact .there ih
instance put_appE {p : Addr} {φ φ' : Pr} {N L L' : List Ent} [a : PutE p φ φ' L L'] : PutE p φ φ' (N ++ L) (N ++ L') := ⟨put_app a.pu⟩
/-- a list, a tuple, a tuple of the module -/
def Sq (S : Sta) (L : List Ent) (p : Addr) (xs : List V) : Prop := (p, Is (.lst xs)) ∈ L ∨ (p, Is (.tup xs)) ∈ L ∨ S p (.tup xs)
def Tq (S : Sta) (L : List Ent) (p : Addr) (xs : List V) : Prop := (p, Is (.tup xs)) ∈ L ∨ S p (.tup xs)
theorem Sq.mono {S : Sta} {L M : List Ent} (s : ∀ e ∈ L, e ∈ M) {p : Addr} {xs : List V} (h : Sq S L p xs) : Sq S M p xs := h.elim (fun h => .inl (s _ h)) fun h => h.elim (fun h => .inr (.inl (s _ h))) fun h => .inr (.inr h)
theorem Tq.mono {S : Sta} {L M : List Ent} (s : ∀ e ∈ L, e ∈ M) {p : Addr} {xs : List V} (h : Tq S L p xs) : Tq S M p xs := h.elim (fun h => .inl (s _ h)) fun h => .inr h
theorem Tq.sq {S : Sta} {L : List Ent} {p : Addr} {xs : List V} (h : Tq S L p xs) : Sq S L p xs := .inr h
theorem Sq.rd {S : Sta} {L : List Ent} {p : Addr} {xs : List V} (m : Sq S L p xs) : ∃ k : Bool, ∀ H, FH H L → RdS S H p (if k then .lst xs else .tup xs) := by
  rcases m with m | m | m
  · exact ⟨true, fun H F => .inl (.inl (F.get m))⟩
  · exact ⟨false, fun H F => .inl (.inl (F.get m))⟩
  · exact ⟨false, fun H F => .inr m⟩
theorem Sq.seq {S : Sta} {L : List Ent} {p : Addr} {xs : List V} {H : Hp} (m : Sq S L p xs) (F : FH H L) : Seq S H p xs := by
  rcases m with m | m | m
  · exact .inl (.inl (.inl (F.get m)))
  · exact .inr (.inl (.inl (F.get m)))
  · exact .inr (.inr m)
inductive Prs (T : Addr → List V → Prop) : List V → List (Int × Int) → Prop
  | nil : Prs T [] []
  | cons {q : Addr} {x y : Int} {vs : List V} {ps : List (Int × Int)} (h : T q [.int x, .int y]) (t : Prs T vs ps) : Prs T (.ref q :: vs) ((x, y) :: ps)
theorem Prs.mono {T T' : Addr → List V → Prop} (s : ∀ p xs, T p xs → T' p xs) {vs : List V} {ps : List (Int × Int)} (h : Prs T vs ps) : Prs T' vs ps := by
  induction h with
  | nil => exact .nil
  | cons h t ih => exact .cons (s _ _ h) ih
theorem Prs.len {T : Addr → List V → Prop} {vs : List V} {ps : List (Int × Int)} (h : Prs T vs ps) : vs.length = ps.length := by
  induction h with
  | nil => rfl
  | cons h t ih => rw [List.length_cons, List.length_cons, ih]
theorem Prs.get {T : Addr → List V → Prop} {vs : List V} {ps : List (Int × Int)} (h : Prs T vs ps) {i : Nat} {v : V} (e : vs[i]? = some v) : ∃ q x y, v = .ref q ∧ ps[i]? = some (x, y) ∧ T q [.int x, .int y] := by
  induction h generalizing i with
  | nil => cases i <;> cases e
  | @cons q x y vs ps h t ih =>
    cases i with
    | zero => cases e; exact ⟨q, x, y, rfl, rfl, h⟩
    | succ i => exact ih e
theorem Prs.snoc {T : Addr → List V → Prop} {vs : List V} {ps : List (Int × Int)} {q : Addr} {x y : Int} (h : Prs T vs ps) (t : T q [.int x, .int y]) : Prs T (vs ++ [.ref q]) (ps ++ [(x, y)]) := by
  induction h with
  | nil => exact .cons t .nil
  | cons h _ ih => exact .cons h ih
theorem take_snoc {α : Type} {xs : List α} {i : Nat} {x : α} (e : xs[i]? = some x) : xs.take (i + 1) = xs.take i ++ [x] := by
  rw [List.take_add_one, e]
  rfl
/-- a comprehension over what is listed, by an invariant of what was kept -/
theorem lcQ {S : Sta} {p : Addr} {xs : List V} {L : List Ent} {g : TG} {tt : TT} {tel : TE} {vs : List Nat} {σ σw : L2.St} {H : Hp} {Q : VK} (Pv : Nat → List V → Prop) (F : FH H L) (m : Sq S L p xs) (z : xs.length < 16777216) (ew : wipe σ vs = σw) (h0 : Pv 0 []) (hl : ∀ i ys, Pv i ys → ys.length ≤ i)
    (hs : ∀ i y ys D H (QX : V → Hp → Prop) (A : Hp → Prop), xs[i]? = some y → Pv i ys → FH H ((D, Is (.lst ys)) :: L) → (∀ v H', Pv (i + 1) (ys ++ [v]) → FH H' ((D, Is (.lst ys)) :: L) → QX v H') → (∀ H', Pv (i + 1) ys → FH H' ((D, Is (.lst ys)) :: L) → A H') →
      g y σw H fun σ2 H2 => wipe σ2 vs = σw ∧ tt σ2 H2 fun b H3 => if b = true then tel σ2 H3 QX else A H3)
    (hd : ∀ D ys H', Pv xs.length ys → FH H' ((D, Is (.lst ys)) :: L) → Q (.ref D) H') : LcS S g tt tel vs Q (.ref p) σ H := by
  subst ew
  obtain ⟨k, rd⟩ := m.rd
  refine ⟨p, xs, rfl, k, rd _ F, fun D hD => ⟨fun i H => ∃ ys, Pv i ys ∧ FH H ((D, Is (.lst ys)) :: L), ⟨[], h0, F.new hD⟩, fun i H _ ⟨ys, _, q⟩ => rd _ q.tail, fun i y H e ⟨ys, hp, q⟩ => ?_, fun H ⟨ys, hp, q⟩ => hd D ys H hp q⟩⟩
  have hi : i < xs.length := (List.getElem?_eq_some_iff.mp e).1
  refine hs i y ys D H _ _ e hp q (fun v H' hp' q' => ⟨ys, q'.get (List.Mem.head _), ?_, ys ++ [v], hp', q'.put .here trivial⟩) fun H' hp' q' => ⟨ys, hp', q'⟩
  have := hl i ys hp
  rw [sizeLine_eq]
  omega
/-- [sp(y) for y in p]: the verdicts -/
theorem tup_g {S : Sta} {H : Hp} {X L : List Ent} {p : Addr} {xs : List V} {Q : VK} (F : FH H L) (m : Sq S X p xs) (s : ∀ e ∈ X, e ∈ L) (k : ∀ q N H', Tq S (N ++ X) q xs → FH H' (N ++ L) → Q (.ref q) H') : rTupleOf S [.ref p] H Q := by
  refine ⟨p, xs, rfl, ?_⟩
  rcases m with m | m | m
  · exact .inl ⟨.inl (.inl (F.get (s _ m))), fun l hl => k l [(l, Is (.tup xs))] _ (.inl List.mem_cons_self) (F.new hl)⟩
  · exact .inr ⟨.inl (.inl (F.get (s _ m))), k p [] H (.inl m) F⟩
  · exact .inr ⟨.inr m, k p [] H (.inr m) F⟩
/-- a comprehension that makes objects -/
theorem lcN {S : Sta} {p : Addr} {xs : List V} {L : List Ent} {g : TG} {tel : TE} {vs : List Nat} {σ σw : L2.St} {H : Hp} {Q : VK} (Pv : Nat → List V → List Ent → Prop) (F : FH H L) (m : Sq S L p xs) (z : xs.length < 16777216) (ew : wipe σ vs = σw) (h0 : Pv 0 [] []) (hl : ∀ i ys N, Pv i ys N → ys.length ≤ i)
    (hs : ∀ i y ys N D H (QX : V → Hp → Prop), xs[i]? = some y → Pv i ys N → FH H ((D, Is (.lst ys)) :: (N ++ L)) → (∀ v M H', Pv (i + 1) (ys ++ [v]) (M ++ N) → FH H' (M ++ (D, Is (.lst ys)) :: (N ++ L)) → QX v H') →
      g y σw H fun σ2 H2 => wipe σ2 vs = σw ∧ tel σ2 H2 QX)
    (hd : ∀ D ys N H', Pv xs.length ys N → FH H' ((D, Is (.lst ys)) :: (N ++ L)) → Q (.ref D) H') : LcS S g tYes tel vs Q (.ref p) σ H := by
  subst ew
  obtain ⟨k, rd⟩ := m.rd
  refine ⟨p, xs, rfl, k, rd _ F, fun D hD => ⟨fun i H => ∃ ys N, Pv i ys N ∧ FH H ((D, Is (.lst ys)) :: (N ++ L)), ⟨[], [], h0, F.new hD⟩, fun i H _ ⟨ys, N, _, q⟩ => rd _ (q.tail.sub (List.sublist_append_right _ _)), fun i y H e ⟨ys, N, hp, q⟩ => ?_, fun H ⟨ys, N, hp, q⟩ => hd D ys N H hp q⟩⟩
  have hi : i < xs.length := (List.getElem?_eq_some_iff.mp e).1
  refine hs i y ys N D H _ e hp q fun v M H' hp' q' => ?_
  have q2 := q'.perm (L' := (D, Is (.lst ys)) :: (M ++ N ++ L)) (by rw [List.append_assoc]; exact List.perm_middle)
  refine ⟨ys, q2.get (List.Mem.head _), ?_, ys ++ [v], M ++ N, hp', q2.put .here trivial⟩
  have := hl i ys N hp
  rw [sizeLine_eq]
  omega
/-! what is listed, by class search -/
class SqC (S : Sta) (L : List Ent) (p : Addr) (xs : outParam (List V)) : Prop where
  m : Sq S L p xs
instance sqc_tail {S : Sta} {L : List Ent} {p : Addr} {xs : List V} {y : Ent} [a : SqC S L p xs] : SqC S (y :: L) p xs := ⟨a.m.mono fun e m => List.mem_cons_of_mem _ m⟩
instance sqc_app {S : Sta} {N L : List Ent} {p : Addr} {xs : List V} [a : SqC S L p xs] : SqC S (N ++ L) p xs := ⟨a.m.mono fun e m => List.mem_append_right _ m⟩
instance (priority := 100) sqc_l {S : Sta} {L : List Ent} {p : Addr} {xs : List V} [a : Mm (p, Is (.lst xs)) L] : SqC S L p xs := ⟨.inl a.m⟩
instance (priority := 100) sqc_t {S : Sta} {L : List Ent} {p : Addr} {xs : List V} [a : Mm (p, Is (.tup xs)) L] : SqC S L p xs := ⟨.inr (.inl a.m)⟩
instance (priority := 100) sqc_s {S : Sta} {L : List Ent} {p : Addr} {xs : List V} [a : StT S p xs] : SqC S L p xs := ⟨.inr (.inr a.s)⟩
instance (priority := 2000) lenE_map {α β : Type} {f : α → β} {xs : List α} : LenE (xs.map f) xs.length := ⟨List.length_map f⟩
instance (priority := 500) i_ixQ {S : Sta} {H : Hp} {L : List Ent} {p : Addr} {xs : List V} {i : Int} {v : V} {Q : VK} [F : FH H L] [m : SqC S L p xs] [a : AtE xs i v] : St1 (rIx S (.ref p) (.int i) H Q) (Q v H) := ⟨fun h => .inl ⟨p, xs, i, v, rfl, rfl, m.m.seq F, a.e, h⟩⟩
instance (priority := 500) i_lenQ {S : Sta} {H : Hp} {L : List Ent} {p : Addr} {xs : List V} {n : Nat} {Q : VK} [F : FH H L] [m : SqC S L p xs] [a : LenE xs n] : St1 (rLen S [.ref p] H Q) (Q (.int (n : Int)) H) := ⟨fun h => .inl ⟨p, xs, rfl, m.m.seq F, by rw [a.e]; exact h⟩⟩
instance (priority := 500) i_listQ {S : Sta} {H : Hp} {L : List Ent} {p : Addr} {xs : List V} {Q : VK} [F : FH H L] [m : SqC S L p xs] : St1 (rListOf S [.ref p] H Q) (∀ l H', FH H' ((l, Is (.lst xs)) :: L) → Q (.ref l) H') := ⟨fun h => ⟨p, xs, rfl, m.m.seq F, fun l hl => h l _ (F.new hl)⟩⟩
class SufE (M L : List Ent) (N : outParam (List Ent)) : Prop where
  e : M = N ++ L
instance (priority := 2000) suf_refl {L : List Ent} : SufE L L [] := ⟨rfl⟩
instance suf_cons {M L N : List Ent} {y : Ent} [a : SufE M L N] : SufE (y :: M) L (y :: N) := ⟨by rw [a.e]; rfl⟩
instance suf_app {M L N A : List Ent} [a : SufE M L N] : SufE (A ++ M) L (A ++ N) := ⟨by rw [a.e, List.append_assoc]⟩
theorem fin_suf {M L N : List Ent} [s : SufE M L N] (P : List Ent → Prop) (h : P M) : P (N ++ L) := s.e ▸ h
theorem forQ {S : Sta} {X : List Ent} {p : Addr} {xs : List V} {g : TG} {s1 : TS} {nx : L2.St → Hp → Prop} {rt : VK} {σ : L2.St} {H : Hp} (Pv : Nat → L2.St → Hp → Prop) (m : Sq S X p xs) (h0 : Pv 0 σ H) (hX : ∀ i σ H, Pv i σ H → ∃ L, FH H L ∧ ∀ e ∈ X, e ∈ L)
    (hs : ∀ i y σ H, xs[i]? = some y → Pv i σ H → g y σ H fun σ' H' => s1 ⟨Pv (i + 1), rt, nx, Pv (i + 1)⟩ σ' H') (hd : ∀ σ H, Pv xs.length σ H → nx σ H) : ForS S g s1 nx rt (.ref p) σ H := by
  refine ⟨p, xs, rfl, Pv, h0, ?_, hs, hd⟩
  rcases m with m | m | m
  · exact .inl fun i H _ ⟨σ, q⟩ => by
      obtain ⟨L, F, s⟩ := hX i σ H q
      exact .inl (.inl (F.get (s _ m)))
  · exact .inr fun i H _ ⟨σ, q⟩ => by
      obtain ⟨L, F, s⟩ := hX i σ H q
      exact .inl (.inl (F.get (s _ m)))
  · exact .inr fun i H _ ⟨σ, q⟩ => .inr m
theorem ix_mem {S : Sta} {H : Hp} {L : List Ent} {p : Addr} {xs : List V} {i : Int} {Q : VK} (F : FH H L) (m : (p, Is (.lst xs)) ∈ L) (h0 : 0 ≤ i) (h1 : i < (xs.length : Int)) (k : ∀ v, xs[i.toNat]? = some v → Q v H) : rIx S (.ref p) (.int i) H Q := by
  have hl : i.toNat < xs.length := by omega
  exact .inl ⟨p, xs, i, xs[i.toNat], rfl, rfl, .inl (.inl (.inl (F.get m))), atI_at (j := i.toNat) (by omega) (List.getElem?_eq_getElem hl), k _ (List.getElem?_eq_getElem hl)⟩
theorem len_q {S : Sta} {H : Hp} {L : List Ent} {p : Addr} {xs : List V} {Q : VK} (F : FH H L) (m : Sq S L p xs) (k : Q (.int xs.length) H) : rLen S [.ref p] H Q := .inl ⟨p, xs, rfl, m.seq F, k⟩
theorem ix_q {S : Sta} {H : Hp} {L : List Ent} {p : Addr} {xs : List V} {i : Nat} {v : V} {Q : VK} (F : FH H L) (m : Sq S L p xs) (e : xs[i]? = some v) (k : Q v H) : rIx S (.ref p) (.int i) H Q := .inl ⟨p, xs, i, v, rfl, rfl, m.seq F, atI_nat e, k⟩

set_option synthInstance.checkSynthOrder false
/-! steps of the readings of Spn -/
def TruK (S : Sta) (QB : Bool → Hp → Prop) (x : V) (H : Hp) : Prop := ∃ (a : Addr) (xs : List V), x = .ref a ∧ Seq S H a xs ∧ QB (!xs.isEmpty) H
instance i_tTru {S : Sta} {te : TE} {σ : L2.St} {H : Hp} {QB : Bool → Hp → Prop} : St1 (tTru S te σ H QB) (te σ H fun x H1 => TruK S QB x H1) := ⟨id⟩
class TrE (xs : List V) (b : outParam Bool) : Prop where
  e : (!xs.isEmpty) = b
instance tr_nil : TrE [] false := ⟨rfl⟩
instance tr_cons {x : V} {xs : List V} : TrE (x :: xs) true := ⟨rfl⟩
instance tr_snoc {x : V} {xs : List V} : TrE (xs ++ [x]) true := ⟨by cases xs <;> rfl⟩
instance (priority := 10) tr_any {xs : List V} : TrE xs (!xs.isEmpty) := ⟨rfl⟩
instance i_truK {S : Sta} {p : Addr} {xs : List V} {b : Bool} {L : List Ent} {H : Hp} {QB : Bool → Hp → Prop} [F : FH H L] [m : SqC S L p xs] [t : TrE xs b] : St1 (TruK S QB (.ref p) H) (QB b H) := ⟨fun h => ⟨p, xs, rfl, m.m.seq F, by rw [t.e]; exact h⟩⟩
instance i_makeSt {C : Addr} {sp : Sp} {E : L2.St → XK} {t : TA} {σ : L2.St} {H : Hp} {Q : VK} : St1 (tMakeSt C sp E t σ H Q) (t σ H fun vs H1 => Kst C sp vs H1 Q (E σ)) := ⟨id⟩
def StarK (S : Sta) (t : TA) (σ : L2.St) (Q : List V → Hp → Prop) (x : V) (H1 : Hp) : Prop := ∃ a xs, x = .ref a ∧ Seq S H1 a xs ∧ t σ H1 fun ys H2 => Q (xs ++ ys) H2
instance i_starS {S : Sta} {te : TE} {t : TA} {σ : L2.St} {H : Hp} {Q : List V → Hp → Prop} : St1 (tStarS S te t σ H Q) (te σ H fun x H1 => StarK S t σ Q x H1) := ⟨id⟩
instance i_starK {S : Sta} {t : TA} {σ : L2.St} {p : Addr} {xs : List V} {L : List Ent} {H : Hp} {Q : List V → Hp → Prop} [F : FH H L] [m : SqC S L p xs] : St1 (StarK S t σ Q (.ref p) H) (t σ H fun ys H2 => Q (xs ++ ys) H2) := ⟨fun h => ⟨p, xs, rfl, m.m.seq F, h⟩⟩
instance i_opOwn {C a b dx dy : Addr} {sp : Sp} {E : XK} {fs gs : List (Str × V)} {L : List Ent} {H : Hp} {Q : VK} [F : FH H L] [m : Mm (a, Is (.ins C dx fs)) L] [n : Mm (b, Is (.ins C dy gs)) L] : St1 (rOpOwn C sp E (.ref a) (.ref b) H Q) (sp [.ref a, .ref b] H Q E) := ⟨fun h => ⟨a, b, dx, dy, fs, gs, rfl, rfl, F.get m.m, F.get n.m, h⟩⟩
def LenK (Q : VK) (v : V) (H : Hp) : Prop := ∃ i : Int, v = .int i ∧ 0 ≤ i ∧ i < 2 ^ 63 ∧ Q (.int i) H
instance i_lenOwn {C a dx : Addr} {sp : Sp} {E : XK} {fs : List (Str × V)} {L : List Ent} {H : Hp} {Q : VK} [F : FH H L] [m : Mm (a, Is (.ins C dx fs)) L] : St1 (rLenOwn C sp E [.ref a] H Q) (sp [.ref a] H (fun v H' => LenK Q v H') E) := ⟨fun h => ⟨a, dx, fs, rfl, F.get m.m, h⟩⟩
theorem lenK {Q : VK} {n : Nat} {H : Hp} (hn : n ≤ 16777216) (h : Q (.int (n : Int)) H) : LenK Q (.int (n : Int)) H := ⟨n, rfl, by omega, by rw [show (2 : Int) ^ 63 = 9223372036854775808 by decide]; omega, h⟩
theorem atI_last {xs : List V} {v : V} : atI (xs ++ [v]) (-1) = some v := by
  unfold atI ixN
  rw [if_neg (by decide), if_pos (by rw [List.length_append, List.length_cons, List.length_nil]; omega)]
  show (xs ++ [v])[((-1 : Int) + ((xs ++ [v]).length : Nat)).toNat]? = some v
  rw [show ((-1 : Int) + ((xs ++ [v]).length : Nat)).toNat = xs.length by rw [List.length_append, List.length_cons, List.length_nil]; omega]
  simp
instance (priority := 2000) at_last {xs : List V} {v : V} : AtE (xs ++ [v]) (-1) v := ⟨atI_last⟩
instance (priority := 2000) set_last {xs : List V} {v w : V} : SetE (xs ++ [v]) (-1) w (xs ++ [w]) := ⟨xs.length, by
  unfold ixN
  rw [if_neg (by decide), if_pos (by rw [List.length_append, List.length_cons, List.length_nil]; omega), List.length_append, List.length_cons, List.length_nil]
  congr 1
  omega, by simp⟩
theorem kst_g {C : Addr} {sp : Sp} {vs : List V} {H : Hp} {L : List Ent} {Q : VK} {E : XK} (F : FH H L) (hl : vs.length ≤ 16777216) (h : ∀ x dx p H', FH H' ((p, Is (.tup vs)) :: (x, Is (.ins C dx [])) :: L) → sp [.ref x, .ref p] H' (fun v H2 => v = .non ∧ Q (.ref x) H2) E) : Kst C sp vs H Q E :=
  ⟨by rw [sizeLine_eq]; exact hl, fun x dx p hx hd ne hp n1 n2 => h x dx p _ (((F.other hd).new (by rw [upd_ne (Ne.symm ne)]; exact hx)).new (by rw [upd_ne n1, upd_ne n2]; exact hp))⟩
/-- a mutable entry to the front -/
class TkC (x : Ent) (L : List Ent) (L' : outParam (List Ent)) : Prop where
  p : L.Perm (x :: L')
instance (priority := 2000) tk_here {x : Ent} {L : List Ent} : TkC x (x :: L) L := ⟨List.Perm.refl _⟩
instance tk_there {x y : Ent} {L L' : List Ent} [a : TkC x L L'] : TkC x (y :: L) (y :: L') := ⟨(a.p.cons y).trans (List.Perm.swap _ _ _)⟩
instance tk_app {x : Ent} {N L L' : List Ent} [a : TkC x L L'] : TkC x (N ++ L) (N ++ L') := ⟨(a.p.append_left N).trans List.perm_middle⟩
theorem _root_.Y.FH.tk {H : Hp} {L : List Ent} (F : FH H L) (x : Ent) {L' : List Ent} [a : TkC x L L'] : FH H (x :: L') := F.perm a.p
/-- a list that has room -/
class Szl (xs : List V) : Prop where
  z : xs.length < 16777216
instance (priority := 200) i_appendS {p : Addr} {xs : List V} {v : V} {L L' : List Ent} {H : Hp} {Q : VK} [F : FH H L] [a : Mm (p, Is (.lst xs)) L] [z : Szl xs] [u : PutE p (Is (.lst xs)) (Is (.lst (xs ++ [v]))) L L'] : St1 (rAppend (.ref p) [v] H Q) (∀ H', FH H' L' → Q .non H') := ⟨fun h => x_append F a.m (by rw [sizeLine_eq]; exact z.z) u.pu h⟩

set_option synthInstance.checkSynthOrder false
/-! steps of the readings of Rec -/
class ValE (kvs : Kvs) (k : Str) (v : outParam V) : Prop where
  e : valV kvs (.inr k) = some v
instance vale_tail {f g : Str} {v w : V} {t : Kvs} [n : NeS f g] [a : ValE t f v] : ValE ((.inr g, w) :: t) f v := ⟨by rw [valV_neg (by intro e; exact n.ne (Sum.inr.inj e).symm)]; exact a.e⟩
instance (priority := 2000) vale_head {f : Str} {v : V} {t : Kvs} : ValE ((.inr f, v) :: t) f v := ⟨valV_pos rfl⟩
class NoKy (kvs : Kvs) (k : Str) : Prop where
  e : ∀ p ∈ kvs, p.1 ≠ Sum.inr k
instance noky_nil {k : Str} : NoKy [] k := ⟨fun _ m => by cases m⟩
instance noky_cons {f g : Str} {w : V} {t : Kvs} [n : NeS f g] [a : NoKy t f] : NoKy ((.inr g, w) :: t) f := ⟨fun p m => (List.mem_cons.mp m).elim (fun e => by rw [e]; exact fun z => n.ne (Sum.inr.inj z).symm) (a.e p)⟩
class PutV (kvs : Kvs) (k : Str) (v : V) (kvs' : outParam Kvs) : Prop where
  a : (kvs.any fun kv => decide (kv.1 = Sum.inr k)) = true
  m : kvs.map (fun kv => if kv.1 = Sum.inr k then (kv.1, v) else kv) = kvs'
instance putv_tail {f g : Str} {v w : V} {t t' : Kvs} [n : NeS f g] [a : PutV t f v t'] : PutV ((.inr g, w) :: t) f v ((.inr g, w) :: t') := ⟨by rw [List.any_cons, a.a, Bool.or_true], by
  rw [List.map_cons, a.m, if_neg (by intro e; exact n.ne (Sum.inr.inj e).symm)]⟩
instance (priority := 2000) putv_head {f : Str} {v w : V} {t : Kvs} [n : NoKy t f] : PutV ((.inr f, w) :: t) f v ((.inr f, v) :: t) := ⟨by rw [List.any_cons, decide_eq_true rfl, Bool.true_or], by
  rw [List.map_cons, if_pos rfl, show t.map (fun kv => if kv.1 = Sum.inr f then (kv.1, v) else kv) = t from (List.map_congr_left fun p m => if_neg (n.e p m)).trans (List.map_id t)]⟩
instance i_tRec {te : TE} {k : Str} {σ : L2.St} {H : Hp} {Q : VK} : St1 (tRec te k σ H Q) (te σ H fun x H1 => RecK k Q x H1) := ⟨id⟩
instance i_recK {a : Addr} {kvs : Kvs} {k : Str} {v : V} {L : List Ent} {H : Hp} {Q : VK} [F : FH H L] [m : Mm (a, Is (.dK kvs)) L] [e : ValE kvs k v] : St1 (RecK k Q (.ref a) H) (Q v H) := ⟨fun h => ⟨a, kvs, v, rfl, F.get m.m, e.e, h⟩⟩
instance i_sRecP {te tv : TE} {k : Str} {nx bk ct : L2.St → Hp → Prop} {rt : VK} {σ : L2.St} {H : Hp} : St1 (sRecP te k tv ⟨nx, rt, bk, ct⟩ σ H) (tv σ H fun v H1 => te σ H1 fun x H2 => RecP k v (nx σ) x H2) := ⟨id⟩
instance i_recP {a : Addr} {kvs kvs' : Kvs} {k : Str} {v : V} {L L' : List Ent} {H : Hp} {QH : Hp → Prop} [F : FH H L] [m : Mm (a, Is (.dK kvs)) L] [z : Shr 60 kvs] [e : PutV kvs k v kvs'] [u : PutE a (Is (.dK kvs)) (Is (.dK kvs')) L L'] : St1 (RecP k v QH (.ref a) H) (∀ H', FH H' L' → QH H') :=
  ⟨fun h => ⟨a, kvs, rfl, F.get m.m, Nat.lt_of_le_of_lt z.l (by decide), by unfold putK; rw [if_pos e.a, e.m]; exact h _ (F.put u.pu trivial)⟩⟩
def KPs (C : Addr) (sp : Sp) (E : XK) (y : V) (nxσ : Hp → Prop) (x : V) (H2 : Hp) : Prop := ∃ a dx fs, x = .ref a ∧ H2 a = some (.ins C dx fs) ∧ sp [.ref a, y] H2 (fun _ H3 => nxσ H3) E
instance i_sPropS {C : Addr} {sp : Sp} {E : XK} {te tv : TE} {nx bk ct : L2.St → Hp → Prop} {rt : VK} {σ : L2.St} {H : Hp} : St1 (sPropS C sp E te tv ⟨nx, rt, bk, ct⟩ σ H) (tv σ H fun y H1 => te σ H1 fun x H2 => KPs C sp E y (nx σ) x H2) := ⟨id⟩
instance i_kPs {C a dx : Addr} {sp : Sp} {E : XK} {fs : List (Str × V)} {y : V} {nxσ : Hp → Prop} {L : List Ent} {H : Hp} [F : FH H L] [m : Mm (a, Is (.ins C dx fs)) L] : St1 (KPs C sp E y nxσ (.ref a) H) (sp [.ref a, y] H (fun _ H3 => nxσ H3) E) := ⟨fun h => ⟨a, dx, fs, rfl, F.get m.m, h⟩⟩
instance i_isBB {x y : Bool} {H : Hp} {Q : VK} : St1 (rIsB (.bl x) (.bl y) H Q) (Q (.bl (decide (x = y))) H) := ⟨fun h => .inr ⟨x, y, rfl, rfl, h⟩⟩
instance i_recN {l : List (Str × TE)} {σ : L2.St} {H : Hp} {Q : VK} {L : List Ent} [F : FH H L] : St1 (tRecN l σ H Q) (∀ p H', FH H' ((p, Is (.dK [])) :: L) → tRecs l σ H' (RecF p Q)) := ⟨fun h p hp => h p _ (F.new hp)⟩
instance i_recs0 {σ : L2.St} {H : Hp} {QK : Kvs → Hp → Prop} : St1 (tRecs [] σ H QK) (QK [] H) := ⟨id⟩
instance i_recs {k : Str} {t : TE} {r : List (Str × TE)} {σ : L2.St} {H : Hp} {QK : Kvs → Hp → Prop} : St1 (tRecs ((k, t) :: r) σ H QK) (t σ H fun y H1 => tRecs r σ H1 fun kvs H2 => QK ((.inr k, y) :: kvs) H2) := ⟨id⟩
theorem recF_ok {p : Addr} {kvs : Kvs} {L L' : List Ent} {H : Hp} {Q : VK} (F : FH H L) (m : (p, Is (.dK [])) ∈ L) (u : Put p (Is (.dK [])) (Is (.dK kvs)) L L') (hl : kvs.length ≤ 15) (nd : (kvs.map (·.1)).Nodup) (k : ∀ H', FH H' L' → Q (.ref p) H') : RecF p Q kvs H := ⟨F.get m, hl, merge_of nd, k _ (F.put u trivial)⟩

end
section
/-! numbers, rows -/
theorem whole_i {a : Cl} {H : Hp} {i : Int} {Q : VK} {E : XK} (k : Q (.bl true) H) : sp_is_whole a [.int i] H Q E := by
  refine in_is_whole ?_
  walk_at "y"
  exact k
theorem lwhole_i {a : Cl} {H : Hp} {i : Int} {Q : VK} {E : XK} (k : Q (.bl true) H) : sp_l_is_whole a [.int i] H Q E := by
  refine in_l_is_whole ?_
  walk_at "y"
  exact k
/-- no integer -/
inductive NoI (X : List Ent) : V → Prop
  | non : NoI X .non
  | bl (b : Bool) : NoI X (.bl b)
  | str (s : Str) : NoI X (.str s)
  | tup (q : Addr) (xs : List V) (m : (q, Is (.tup xs)) ∈ X) : NoI X (.ref q)
  | lst (q : Addr) (xs : List V) (m : (q, Is (.lst xs)) ∈ X) : NoI X (.ref q)
theorem NoI.mono {X Y : List Ent} {v : V} (h : NoI X v) (s : ∀ e ∈ X, e ∈ Y) : NoI Y v := by
  cases h with
  | non => exact .non
  | bl b => exact .bl b
  | str z => exact .str z
  | tup q xs m => exact .tup q xs (s _ m)
  | lst q xs m => exact .lst q xs (s _ m)
theorem whole_no {a : Cl} {H : Hp} {L : List Ent} {v : V} {Q : VK} {E : XK} (F : FH H L) (h : NoI L v) (k : Q (.bl false) H) : sp_is_whole a [v] H Q E := by
  refine in_is_whole ?_
  cases h with
  | tup q xs m =>
    have mi := Mm.mk m
    walk_at "y"
    exact k
  | lst q xs m =>
    have mi := Mm.mk m
    walk_at "y"
    exact k
  | _ =>
    walk_at "y"
    exact k
/-- a list or a tuple -/
def Lq (L : List Ent) (p : Addr) (xs : List V) : Prop := (p, Is (.lst xs)) ∈ L ∨ (p, Is (.tup xs)) ∈ L
theorem Lq.sq {S : Sta} {L : List Ent} {p : Addr} {xs : List V} (h : Lq L p xs) : Sq S L p xs := h.elim .inl fun h => .inr (.inl h)
theorem Lq.mono {L M : List Ent} (s : ∀ e ∈ L, e ∈ M) {p : Addr} {xs : List V} (h : Lq L p xs) : Lq M p xs := h.elim (fun h => .inl (s _ h)) fun h => .inr (s _ h)
theorem row_q {a : Cl} {H : Hp} {L : List Ent} {p : Addr} {xs : List V} {Q : VK} {E : XK} (F : FH H L) (m : Lq L p xs) (k : ∀ H', FH H' L → Q (.bl true) H') : sp_is_row a [.ref p] H Q E := by
  refine in_is_row ?_
  rcases m with m | m
  · have mi := Mm.mk m
    walk_at "y"
    exact k _ (FH.sub (by assumption) (by walk_at "y sub"))
  · have mi := Mm.mk m
    walk_at "y"
    exact k _ (FH.sub (by assumption) (by walk_at "y sub"))
theorem rng_i {a : Cl} {H : Hp} {i l h : Int} {Q : VK} {E : XK} (k : Q (.bl (decide (l ≤ i ∧ i ≤ h))) H) : sp_in_range a [.int i, .int l, .int h] H Q E := by
  refine in_in_range ?_
  repeat' walk_at "y 1"
  refine whole_i ?_
  walk_at "y"
  · have e : decide (l ≤ i ∧ i ≤ h) = decide (i ≤ h) := by rw [Bool.eq_iff_iff]; simp; omega
    rw [e] at k; exact k
  · have e : decide (l ≤ i ∧ i ≤ h) = false := by rw [decide_eq_false_iff_not]; omega
    rw [e] at k; exact k
theorem rng_no {a : Cl} {H : Hp} {L : List Ent} {v : V} {l h : Int} {Q : VK} {E : XK} (F : FH H L) (n : NoI L v) (k : Q (.bl false) H) : sp_in_range a [v, .int l, .int h] H Q E := by
  refine in_in_range ?_
  repeat' walk_at "y 1"
  refine whole_no F n ?_
  repeat' walk_at "y 1"
  exact k
/-- no integer from l to h -/
def BadI (L : List Ent) (l h : Int) (v : V) : Prop := NoI L v ∨ ∃ i, v = .int i ∧ ¬ (l ≤ i ∧ i ≤ h)
theorem BadI.mono {X Y : List Ent} {l h : Int} {v : V} (b : BadI X l h v) (s : ∀ e ∈ X, e ∈ Y) : BadI Y l h v := b.imp (fun b => b.mono s) id
theorem rng_bad {a : Cl} {H : Hp} {L : List Ent} {v : V} {l h : Int} {Q : VK} {E : XK} (F : FH H L) (b : BadI L l h v) (k : Q (.bl false) H) : sp_in_range a [v, .int l, .int h] H Q E := by
  rcases b with b | ⟨i, rfl, b⟩
  · exact rng_no F b k
  · refine rng_i ?_
    rw [decide_eq_false b]
    exact k

end
section
/-! limits, bytes, data -/
theorem lcRP {L : List Ent} {g : TG} {tel : TE} {us : List Nat} {σ σw : L2.St} {H : Hp} {Q : VK} {j : Int} (n : Nat) (ej : j = (n : Int)) (hn : n < 1000000) (P : V → Prop) (F : FH H L) (ew : wipe σ us = σw)
    (hs : ∀ (i : Nat) ys D H (QX : V → Hp → Prop), i < n → FH H ((D, Is (.lst ys)) :: L) → (∀ v H', P v → FH H' ((D, Is (.lst ys)) :: L) → QX v H') → g (.int (i : Int)) σw H fun σ2 H2 => wipe σ2 us = σw ∧ tel σ2 H2 QX)
    (hd : ∀ D ys H', ys.length = n → (∀ v ∈ ys, P v) → FH H' ((D, Is (.lst ys)) :: L) → Q (.ref D) H') : LcR g tYes tel us Q (.int j) σ H := by
  subst ew ej
  have e62 : (2 : Int) ^ 62 = 4611686018427387904 := by decide
  refine ⟨_, rfl, ⟨by rw [e62]; decide, by rw [e62]; decide, by rw [e62]; omega, by rw [e62]; omega⟩, fun D hD => ⟨fun i H => ∃ ys, ys.length = i ∧ (∀ v ∈ ys, P v) ∧ FH H ((D, Is (.lst ys)) :: L), ⟨[], rfl, (fun _ m => by cases m), F.new hD⟩, fun i H hi ⟨ys, hl, hp, q⟩ => ?_, fun H ⟨ys, hl, hp, q⟩ => hd D ys H (by omega) hp q⟩⟩
  rw [Int.zero_add]
  have h := hs i ys D H (fun z H4 => ∃ acc, H4 D = some (.lst acc) ∧ acc.length < sizeLine ∧ ∃ ys', ys'.length = i + 1 ∧ (∀ v ∈ ys', P v) ∧ FH (upd H4 D (.lst (acc ++ [z]))) ((D, Is (.lst ys')) :: L)) (by omega) q fun v H' hv q' => ⟨ys, q'.get (List.Mem.head _), by rw [sizeLine_eq]; omega, ys ++ [v], by rw [List.length_append, hl]; rfl, fun w mw => (List.mem_append.mp mw).elim (hp w) fun mw => by rw [List.mem_singleton.mp mw]; exact hv, q'.put .here trivial⟩
  exact h
def Byt (v : V) : Prop := ∃ x : Int, v = .int x ∧ 0 ≤ x ∧ x < 256
def Bts (xs : List Int) : Prop := ∀ x ∈ xs, 0 ≤ x ∧ x < 256
theorem bts_of : ∀ {ys : List V}, (∀ v ∈ ys, Byt v) → ∃ xs : List Int, ys = xs.map V.int ∧ Bts xs
  | [], _ => ⟨[], rfl, fun _ m => by cases m⟩
  | y :: ys, h => by
    obtain ⟨x, rfl, hx⟩ := h y List.mem_cons_self
    obtain ⟨xs, rfl, hs⟩ := bts_of fun v m => h v (List.mem_cons_of_mem _ m)
    exact ⟨x :: xs, rfl, fun z m => (List.mem_cons.mp m).elim (fun e => by rw [e]; exact hx) (hs z)⟩
theorem limit_ok {a : Cl} {H : Hp} {L : List Ent} {p : Addr} {Q : VK} {E : XK} (F : FH H L) (m : (p, Box) ∈ L) (k : ∀ r H', 1 ≤ r ∧ r ≤ 65535 → FH H' L → Q (.int r) H') : sp_limit a [.ref p] H Q E := by
  refine in_limit ?_
  repeat' walk_at "y 1"
  refine draw_ok F m (by decide) (by decide) fun w H1 w0 w1 F1 => ?_
  repeat' (first | walk_at "y 1" | walk_at "y if")
  · refine draw_ok F1 m (by decide) (by decide) fun r H2 r0 r1 F2 => ?_
    repeat' walk_at "y 1"
    exact k _ _ (by omega) F2
  · refine draw_ok F1 m (by decide) (by decide) fun r H2 r0 r1 F2 => ?_
    repeat' walk_at "y 1"
    exact k _ _ (by omega) F2
theorem bytes_ok {a : Cl} {H : Hp} {L : List Ent} {p : Addr} {n : Int} {Q : VK} {E : XK} (F : FH H L) (m : (p, Box) ∈ L) (hn : 0 ≤ n ∧ n ≤ 1000) (k : ∀ D xs H', Bts xs → xs.length ≤ 1000 → FH H' ((D, Is (.lst (xs.map V.int))) :: L) → Q (.ref D) H') : sp_bytes a [.ref p, .int n] H Q E := by
  have im := Mm.mk m
  refine in_bytes ?_
  repeat' walk_at "y 1"
  refine draw_ok F m (by decide) (by decide) fun w H1 w0 w1 F1 => ?_
  clear F
  repeat' walk_at "y 1"
  refine draw_ok F1 m (by decide) (by decide) fun w2 H2 w20 w21 F2 => ?_
  clear F1
  repeat' (first | walk_at "y 1" | walk_at "y if")
  · refine draw_ok F2 m (by omega) (by omega) fun w3 H3 w30 w31 F3 => ?_
    clear F2
    repeat' walk_at "y 1"
    refine draw_ok F3 m (by decide) (by decide) fun u H4 u0 u1 F4 => ?_
    clear F3
    repeat' (first | walk_at "y 1" | walk_at "y if")
    · refine lcRP (w3).toNat (by omega) (by omega) Byt F4 WipeE.e (fun i ys D H3 QX hi F3 hk => ?_) fun D ys H3 hl hp F3 => ?_
      · clear F4
        repeat' walk_at "y 1"
        refine draw_ok F3 (.tail _ m) (by decide) (by decide) fun r H4 r0 r1 F4 => ?_
        repeat' walk_at "y 1"
        exact hk _ _ ⟨_, rfl, r0, r1⟩ F4
      · obtain ⟨xs, rfl, hb⟩ := bts_of hp
        rw [List.length_map] at hl
        exact k D xs H3 hb (by omega) F3
    · refine draw_ok F4 m (by decide) (by decide) fun r H5 r0 r1 F5 => ?_
      clear F4
      repeat' walk_at "y 1"
      refine draw_ok F5 m (by decide) (by decide) fun r2 H6 r20 r21 F6 => ?_
      clear F5
      repeat' walk_at "y 1"
      refine lcRP (w3).toNat (by omega) (by omega) Byt F6 WipeE.e (fun i ys D H3 QX hi F3 hk => ?_) fun D ys H3 hl hp F3 => ?_
      · clear F6
        repeat' walk_at "y 1"
        exact hk _ _ ⟨_, rfl, Int.emod_nonneg _ (by decide), Int.emod_lt_of_pos _ (by decide)⟩ F3
      · obtain ⟨xs, rfl, hb⟩ := bts_of hp
        rw [List.length_map] at hl
        exact k D xs H3 hb (by omega) F3
  · skip
    refine draw_ok F2 m (by decide) (by decide) fun u H4 u0 u1 F4 => ?_
    clear F2
    repeat' (first | walk_at "y 1" | walk_at "y if")
    · refine lcRP (w).toNat (by omega) (by omega) Byt F4 WipeE.e (fun i ys D H3 QX hi F3 hk => ?_) fun D ys H3 hl hp F3 => ?_
      · clear F4
        repeat' walk_at "y 1"
        refine draw_ok F3 (.tail _ m) (by decide) (by decide) fun r H4 r0 r1 F4 => ?_
        repeat' walk_at "y 1"
        exact hk _ _ ⟨_, rfl, r0, r1⟩ F4
      · obtain ⟨xs, rfl, hb⟩ := bts_of hp
        rw [List.length_map] at hl
        exact k D xs H3 hb (by omega) F3
    · refine draw_ok F4 m (by decide) (by decide) fun r H5 r0 r1 F5 => ?_
      clear F4
      repeat' walk_at "y 1"
      refine draw_ok F5 m (by decide) (by decide) fun r2 H6 r20 r21 F6 => ?_
      clear F5
      repeat' walk_at "y 1"
      refine lcRP (w).toNat (by omega) (by omega) Byt F6 WipeE.e (fun i ys D H3 QX hi F3 hk => ?_) fun D ys H3 hl hp F3 => ?_
      · clear F6
        repeat' walk_at "y 1"
        exact hk _ _ ⟨_, rfl, Int.emod_nonneg _ (by decide), Int.emod_lt_of_pos _ (by decide)⟩ F3
      · obtain ⟨xs, rfl, hb⟩ := bts_of hp
        rw [List.length_map] at hl
        exact k D xs H3 hb (by omega) F3
theorem lq_rd {S : Sta} {H : Hp} {L : List Ent} {p : Addr} {xs : List V} (F : FH H L) (m : Lq L p xs) : Seq S H p xs := (m.sq (S := S)).seq F
theorem as_data_ok {a : Cl} {H : Hp} {L M : List Ent} {d : Addr} {xs : List Int} {Q : VK} {E : XK} (F : FH H M) (s : ∀ e ∈ L, e ∈ M) (m : Lq L d (xs.map V.int)) (hb : Bts xs) (k : ∀ q N H', (q, Is (.tup (xs.map V.int))) ∈ N ++ L → FH H' (N ++ M) → Q (.ref q) H') : sp_as_data a [.ref d] H Q E := by
  refine in_as_data ?_
  repeat' walk_at "y 1"
  have m' := m.mono s
  refine row_q F m' fun H1 F1 => ?_
  clear F
  repeat' walk_at "y 1"
  refine forQ (X := M) (fun i σ H' => (∃ y, σ = [some (.ref d), y]) ∧ FH H' M) m'.sq ⟨⟨_, rfl⟩, F1⟩ (fun i σ H' ⟨_, F2⟩ => ⟨_, F2, fun e m => m⟩) (fun i v σ H' ev hh => ?_) fun σ H' hh => ?_
  · obtain ⟨⟨y, rfl⟩, F2⟩ := hh
    clear F1
    obtain ⟨x, hx, rfl⟩ := List.mem_map.mp (List.mem_of_getElem? ev)
    have := hb x hx
    repeat' walk_at "y 1"
    refine rng_i ?_
    rw [decide_eq_true (by omega)]
    repeat' walk_at "y 1"
    exact ⟨⟨_, rfl⟩, F2⟩
  · obtain ⟨⟨y, rfl⟩, F2⟩ := hh
    clear F1
    repeat' walk_at "y 1"
    rcases m with m | m
    · refine ⟨d, _, rfl, .inl ⟨.inl (.inl (F2.get (s _ m))), fun l hl => ?_⟩⟩
      have F3 := F2.new (o := .tup (xs.map V.int)) hl
      clear F2
      repeat' walk_at "y 1"
      exact k l [_] _ (.head _) F3
    · refine ⟨d, _, rfl, .inr ⟨.inl (.inl (F2.get (s _ m))), ?_⟩⟩
      repeat' walk_at "y 1"
      exact k d [] _ m F2
/-- data that is refused, and with what -/
inductive BadD (L : List Ent) : V → V → Prop
  | whole (v : V) (h : (∃ i, v = .int i) ∨ v = .non ∨ (∃ b, v = .bl b) ∨ ∃ z, v = .str z) : BadD L v v
  | item (d : Addr) (xs : List Int) (y : V) (zs : List V) (m : Lq L d (xs.map V.int ++ y :: zs)) (hb : Bts xs) (b : BadI L 0 255 y) : BadD L (.ref d) y
theorem BadD.mono {X Y : List Ent} {v w : V} (b : BadD X v w) (s : ∀ e ∈ X, e ∈ Y) : BadD Y v w := by
  cases b with
  | whole _ h => exact .whole _ h
  | item d xs y zs m hb b => exact .item d xs w zs (m.mono s) hb (b.mono s)
theorem as_data_bad {a : Cl} {H : Hp} {L : List Ent} {v w : V} {Q : VK} {E : XK} (F : FH H L) (b : BadD L v w) (k : ∀ d H', FH H' ((d, Is (.xd [("number", w)])) :: L) → E (.ref a.c_InvalidNumber) (some d) H') : sp_as_data a [v] H Q E := by
  refine in_as_data ?_
  repeat' walk_at "y 1"
  cases b with
  | whole _ h =>
    refine in_is_row ?_
    rcases h with ⟨i, rfl⟩ | rfl | ⟨b, rfl⟩ | ⟨z, rfl⟩
    all_goals
      walk_at "y"
      exact k _ _ (FH.sub (by assumption) (by walk_at "y sub"))
  | item d xs y zs m hb b =>
    refine row_q F m fun H1 F1 => ?_
    clear F
    repeat' walk_at "y 1"
    refine forQ (X := L) (fun i σ H' => i ≤ xs.length ∧ (∃ y, σ = [some (.ref d), y]) ∧ FH H' L) m.sq ⟨Nat.zero_le _, ⟨_, rfl⟩, F1⟩ (fun i σ H' ⟨_, _, F2⟩ => ⟨_, F2, fun e m => m⟩) (fun i v σ H' ev hh => ?_) fun σ H' hh => ?_
    · obtain ⟨hi, ⟨y', rfl⟩, F2⟩ := hh
      clear F1
      rcases Nat.lt_or_ge i xs.length with hlt | hge
      · rw [List.getElem?_append_left (by rw [List.length_map]; exact hlt)] at ev
        obtain ⟨x, hx, rfl⟩ := List.mem_map.mp (List.mem_of_getElem? ev)
        have := hb x hx
        repeat' walk_at "y 1"
        refine rng_i ?_
        rw [decide_eq_true (by omega)]
        repeat' walk_at "y 1"
        exact ⟨hlt, ⟨_, rfl⟩, F2⟩
      · have ei : i = xs.length := by omega
        rw [List.getElem?_append_right (by rw [List.length_map]; exact hge), List.length_map, ei, Nat.sub_self] at ev
        cases ev
        repeat' walk_at "y 1"
        refine rng_bad F2 b ?_
        repeat' walk_at "y 1"
        exact k _ _ (by assumption)
    · obtain ⟨hi, _⟩ := hh
      rw [List.length_append, List.length_map, List.length_cons] at hi
      omega

end
section
/-! the sending buffer -/
theorem cut_take {xs : List V} {n : Nat} : cutV xs none (some (n : Int)) = xs.take n := by
  unfold cutV
  rw [HT.sIx_none, HT.sIx_nat, List.drop_zero, Nat.sub_zero, ← List.take_eq_take_min]
theorem cut_drop {xs : List V} {n : Nat} : cutV xs (some (n : Int)) none = xs.drop n := by
  unfold cutV
  rw [HT.sIx_none, HT.sIx_nat]
  by_cases h : n ≤ xs.length
  · rw [Nat.min_eq_left h, List.take_of_length_le (by rw [List.length_drop]; exact Nat.le_refl _)]
  · rw [Nat.min_eq_right (by omega), List.drop_length, List.take_nil, List.drop_of_length_le (by omega)]
theorem x_tsl {S : Sta} {H : Hp} {L : List Ent} {p : Addr} {xs : List V} {lo hi : Option Int} {Q : VK} (F : FH H L) (m : (p, Is (.tup xs)) ∈ L) (h : ∀ q Y H', FH H' (Y ++ L) → (q, Is (.tup (cutV xs lo hi))) ∈ Y ++ L → Q (.ref q) H') : rTSl S (.ref p) lo hi H Q :=
  ⟨p, xs, rfl, .inl (.inl (F.get m)), fun e => h p [] H F (by rw [e]; exact m), fun q hq => h q [(q, Is (.tup (cutV xs lo hi)))] _ (F.new hq) List.mem_cons_self⟩
theorem cat_g {H : Hp} {L : List Ent} {p q : Addr} {xs ys : List V} {Q : VK} (F : FH H L) (m : (p, Is (.lst xs)) ∈ L) (n : (q, Is (.lst ys)) ∈ L) (z : xs.length + ys.length ≤ 100000) (k : ∀ r H', FH H' ((r, Is (.lst (xs ++ ys))) :: L) → Q (.ref r) H') : rAdd (.ref p) (.ref q) H Q :=
  x_cat F m n (by rw [List.length_append, sizeLine_eq]; omega) fun r H' _ F' => k r H' F'
/-- a part of a list -/
theorem cutV_mid {xs : List V} {i j : Nat} (h1 : i ≤ j) (h2 : j ≤ xs.length) : cutV xs (some (i : Int)) (some (j : Int)) = (xs.take j).drop i := by
  unfold cutV
  rw [HT.sIx_nat, HT.sIx_nat, Nat.min_eq_left h2, Nat.min_eq_left (by omega), List.drop_take]
theorem cutV_from {xs : List V} {i : Nat} (h2 : i ≤ xs.length) : cutV xs (some (i : Int)) none = xs.drop i := by
  unfold cutV
  rw [HT.sIx_nat, HT.sIx_none, Nat.min_eq_left h2, List.take_of_length_le (by rw [List.length_drop]; omega)]
theorem cut_g {S : Sta} {H : Hp} {L : List Ent} {p : Addr} {xs ys : List V} {a c : Option Int} {Q : VK} (F : FH H L) (m : (p, Is (.lst xs)) ∈ L) (e : cutV xs a c = ys) (k : ∀ l H', FH H' ((l, Is (.lst ys)) :: L) → Q (.ref l) H') : rSl S (.ref p) a c H Q :=
  ⟨p, xs, rfl, .inl (.inl (F.get m)), fun q hq => by rw [e]; exact k q _ (F.new hq)⟩
abbrev lE (h : Addr) (ws : List V) : Ent := (h, Is (.lst ws))
abbrev oE (a : Cl) (o dx qc : Addr) (m b e : Int) (c : Bool) (u : Int) : Ent := (o, Is (.ins a.c_Outbox dx [("capacity", .int m), ("base", .int b), ("end", .int e), ("closed", .bl c), ("urgent_end", .int u), ("content", .ref qc)]))
section
variable {a : Cl} {H : Hp} {L : List Ent} {o dx qc d : Addr} {m b e u : Int} {c : Bool} {C xs : List Int} {Q : VK} {E : XK}
theorem free_ok (F : FH H L) (mo : oE a o dx qc m b e c u ∈ L) (k : Q (.int (max 0 (m - (e - b)))) H) : sp_Outbox_free a [.ref o] H Q E := by
  have i0 := Mm.mk mo
  refine in_Outbox_free ?_
  repeat' walk_at "y 1"
  exact k
theorem limit_get (F : FH H L) (mo : oE a o dx qc m b e c u ∈ L) (k : Q (.int m) H) : sp_Outbox_limit a [.ref o] H Q E := by
  have i0 := Mm.mk mo
  refine in_Outbox_limit ?_
  repeat' walk_at "y 1"
  exact k
theorem bound_ok (F : FH H L) (mo : oE a o dx qc m b e c u ∈ L) (k : Q (.int (e + if c then 1 else 0)) H) : sp_Outbox_bound a [.ref o] H Q E := by
  have i0 := Mm.mk mo
  refine in_Outbox_bound ?_
  cases c with
  | true =>
    repeat' walk_at "y 1"
    exact k
  | false =>
    repeat' walk_at "y 1"
    have k : Q (.int (e + 0)) H := k
    rw [Int.add_zero] at k
    exact k
def fr (m b e : Int) : Nat := (max 0 (m - (e - b))).toNat
theorem x_tsl2 {S : Sta} {Z M : List Ent} {p : Addr} {xs : List V} {lo hi : Option Int} {Q : VK} (F : FH H M) (s : ∀ e ∈ Z, e ∈ M) (m : (p, Is (.tup xs)) ∈ Z) (h : ∀ q Y H', FH H' (Y ++ M) → (q, Is (.tup (cutV xs lo hi))) ∈ Y ++ Z → Q (.ref q) H') : rTSl S (.ref p) lo hi H Q :=
  ⟨p, xs, rfl, .inl (.inl (F.get (s _ m))), fun e => h p [] H F (by rw [e]; exact m), fun q hq => h q [(q, Is (.tup (cutV xs lo hi)))] _ (F.new hq) List.mem_cons_self⟩
instance : ShZ (Str.ofString "closed") := ⟨by decide⟩
theorem put_ok (F : FH H (oE a o dx qc m b e false u :: L)) (mc : lE qc (C.map V.int) ∈ L) (md : Lq L d (xs.map V.int)) (hb : Bts xs) (hx : xs.length ≤ 1000) (hc : C.length ≤ 90000)
    (k : ∀ qn N H', FH H' (oE a o dx qn m b (e + (xs.take (fr m b e)).length) false u :: lE qn ((C ++ xs.take (fr m b e)).map V.int) :: (N ++ L)) → Q (.int (xs.take (fr m b e)).length) H') : sp_Outbox_put a [.ref o, .ref d] H Q E := by
  have i0 := Mm.mk mc
  refine in_Outbox_put ?_
  repeat' walk_at "y 1"
  refine as_data_ok F (fun e m => .tail _ m) md hb fun q N H1 mq F1 => ?_
  clear F
  repeat' walk_at "y 1"
  refine free_ok F1 (o := o) (dx := dx) (qc := qc) (m := m) (b := b) (e := e) (c := false) (u := u) Mm.m ?_
  repeat' walk_at "y 1"
  have ef : cutV (xs.map V.int) none (some (max 0 (m - (e - b)))) = (xs.take (fr m b e)).map V.int := by
    rw [show max 0 (m - (e - b)) = ((fr m b e : Nat) : Int) by unfold fr; omega, cut_take, List.map_take]
  refine x_tsl2 F1 (fun e m => (List.mem_append.mp m).elim (fun m => List.mem_append_left _ m) fun m => List.mem_append_right _ (.tail _ m)) mq fun q2 Y H2 F2 mq2 => ?_
  clear F1
  rw [ef] at mq2
  have hl : (xs.take (fr m b e)).length ≤ 1000 := by rw [List.length_take]; omega
  generalize xs.take (fr m b e) = ys at mq2 hl k ⊢
  rcases List.mem_append.mp mq2 with mq2 | mq2
  rotate_left
  rcases List.mem_append.mp mq2 with mq2 | mq2
  all_goals
    have i1 := Mm.mk mq2
    repeat' walk_at "y 1"
    refine cat_g (p := qc) (xs := C.map V.int) (ys := ys.map V.int) (by assumption) Mm.m Mm.m (by simp only [List.length_map]; omega) fun r2 H3 F3 => ?_
    rw [← List.map_append] at F3
    repeat' walk_at "y 1"
  all_goals
    rename_i F9
    have G := (F9.tk (lE r2 ((C ++ ys).map V.int))).tk (oE a o dx r2 m b (e + ys.length) false u)
    exact k r2 (lE _ (ys.map V.int) :: (Y ++ N)) _ (by rw [List.cons_append, List.append_assoc]; exact G)
theorem put_closed (F : FH H L) (mo : oE a o dx qc m b e true u ∈ L) {v : V} (k : ∀ d H', FH H' ((d, Is (.xd [("state", .str "closed")])) :: L) → E (.ref a.c_NotAllowed) (some d) H') : sp_Outbox_put a [.ref o, v] H Q E := by
  have i0 := Mm.mk mo
  refine in_Outbox_put ?_
  repeat' walk_at "y 1"
  exact k _ _ (by assumption)
theorem put_bad (F : FH H L) (mo : oE a o dx qc m b e false u ∈ L) {v w : V} (hb : BadD L v w) (k : ∀ d H', FH H' ((d, Is (.xd [("number", w)])) :: L) → E (.ref a.c_InvalidNumber) (some d) H') : sp_Outbox_put a [.ref o, v] H Q E := by
  have i0 := Mm.mk mo
  refine in_Outbox_put ?_
  repeat' walk_at "y 1"
  exact as_data_bad F hb k
theorem urge_closed (F : FH H L) (mo : oE a o dx qc m b e true u ∈ L) {v : V} (k : ∀ d H', FH H' ((d, Is (.xd [("state", .str "closed")])) :: L) → E (.ref a.c_NotAllowed) (some d) H') : sp_Outbox_urge a [.ref o, v] H Q E := by
  have i0 := Mm.mk mo
  refine in_Outbox_urge ?_
  repeat' walk_at "y 1"
  exact put_closed F mo k
theorem urge_bad (F : FH H L) (mo : oE a o dx qc m b e false u ∈ L) {v w : V} (hb : BadD L v w) (k : ∀ d H', FH H' ((d, Is (.xd [("number", w)])) :: L) → E (.ref a.c_InvalidNumber) (some d) H') : sp_Outbox_urge a [.ref o, v] H Q E := by
  have i0 := Mm.mk mo
  refine in_Outbox_urge ?_
  repeat' walk_at "y 1"
  exact put_bad F mo hb k
theorem urge_ok (F : FH H (oE a o dx qc m b e false u :: L)) (mc : lE qc (C.map V.int) ∈ L) (md : Lq L d (xs.map V.int)) (hb : Bts xs) (hx : xs.length ≤ 1000) (hc : C.length ≤ 90000)
    (k : ∀ qn N H', FH H' (oE a o dx qn m b (e + (xs.take (fr m b e)).length) false (if 0 < (xs.take (fr m b e)).length then e + (xs.take (fr m b e)).length else u) :: lE qn ((C ++ xs.take (fr m b e)).map V.int) :: (N ++ L)) → Q (.int (xs.take (fr m b e)).length) H') : sp_Outbox_urge a [.ref o, .ref d] H Q E := by
  refine in_Outbox_urge ?_
  repeat' walk_at "y 1"
  refine put_ok F mc md hb hx hc fun qn N H1 F1 => ?_
  clear F
  generalize xs.take (fr m b e) = ys at k F1 ⊢
  repeat' (first | walk_at "y 1" | walk_at "y if")
  · rw [if_pos (by omega)] at k
    exact k qn N _ (by assumption)
  · rw [if_neg (by omega)] at k
    exact k qn N _ (by assumption)
theorem cut_ok (F : FH H (oE a o dx qc m b e c u :: L)) (mc : lE qc (C.map V.int) ∈ L) {l h : Int} (h1 : b ≤ l ∧ l ≤ h ∧ h ≤ e) (he : e - b = C.length) (hc : C.length ≤ 90000)
    (k : ∀ q N H', FH H' ((q, Is (.tup (((C.take (h - b).toNat).drop (l - b).toNat).map V.int))) :: (N ++ oE a o dx qc m b e c u :: L)) → Q (.ref q) H') : sp_Outbox_cut a [.ref o, .int l, .int h] H Q E := by
  have i0 := Mm.mk mc
  refine in_Outbox_cut ?_
  repeat' walk_at "y 1"
  refine rng_i ?_
  rw [decide_eq_true (by omega)]
  repeat' walk_at "y 1"
  refine rng_i ?_
  rw [decide_eq_true (by omega)]
  repeat' walk_at "y 1"
  have ec : cutV (C.map V.int) (some (l - b)) (some (h - b)) = ((C.take (h - b).toNat).drop (l - b).toNat).map V.int := by
    rw [show l - b = (((l - b).toNat : Nat) : Int) by omega, show h - b = (((h - b).toNat : Nat) : Int) by omega, cutV_mid (by omega) (by rw [List.length_map]; omega), Int.toNat_natCast, Int.toNat_natCast, List.map_drop, List.map_take]
  rename_i q2 H2 _ F2
  rw [ec] at F2
  clear F
  have hl : ((C.take (h - b).toNat).drop (l - b).toNat).length ≤ 90000 := by rw [List.length_drop, List.length_take]; omega
  generalize (C.take (h - b).toNat).drop (l - b).toNat = ys at hl k F2 ⊢
  repeat' walk_at "y 1"
  exact k _ [_] _ (by assumption)
theorem cut_low (F : FH H L) (mo : oE a o dx qc m b e c u ∈ L) {v w : V} (hb : BadI L b e v) (k : ∀ d H', FH H' ((d, Is (.xd [("number", v)])) :: L) → E (.ref a.c_InvalidNumber) (some d) H') : sp_Outbox_cut a [.ref o, v, w] H Q E := by
  have i0 := Mm.mk mo
  refine in_Outbox_cut ?_
  repeat' walk_at "y 1"
  refine rng_bad F hb ?_
  repeat' walk_at "y 1"
  exact k _ _ (by assumption)
theorem cut_high (F : FH H L) (mo : oE a o dx qc m b e c u ∈ L) {l : Int} {w : V} (hl : b ≤ l ∧ l ≤ e) (hb : BadI L l e w) (k : ∀ d H', FH H' ((d, Is (.xd [("number", w)])) :: L) → E (.ref a.c_InvalidNumber) (some d) H') : sp_Outbox_cut a [.ref o, .int l, w] H Q E := by
  have i0 := Mm.mk mo
  refine in_Outbox_cut ?_
  repeat' walk_at "y 1"
  refine rng_i ?_
  rw [decide_eq_true (by omega)]
  repeat' walk_at "y 1"
  refine rng_bad F hb ?_
  repeat' walk_at "y 1"
  exact k _ _ (by assumption)
theorem release_bad (F : FH H L) (mo : oE a o dx qc m b e c u ∈ L) {v : V} (hb : BadI L b e v) (k : ∀ d H', FH H' ((d, Is (.xd [("number", v)])) :: L) → E (.ref a.c_InvalidNumber) (some d) H') : sp_Outbox_release a [.ref o, v] H Q E := by
  have i0 := Mm.mk mo
  refine in_Outbox_release ?_
  repeat' walk_at "y 1"
  refine rng_bad F hb ?_
  repeat' walk_at "y 1"
  exact k _ _ (by assumption)
theorem release_ok (F : FH H (oE a o dx qc m b e c u :: L)) (mc : lE qc (C.map V.int) ∈ L) {l : Int} (h1 : b ≤ l ∧ l ≤ e) (he : e - b = C.length) (hc : C.length ≤ 90000)
    (k : ∀ qn H', FH H' (oE a o dx qn m l e c u :: lE qn ((C.drop (l - b).toNat).map V.int) :: L) → Q (.int (l - b)) H') : sp_Outbox_release a [.ref o, .int l] H Q E := by
  have i0 := Mm.mk mc
  refine in_Outbox_release ?_
  repeat' walk_at "y 1"
  refine rng_i ?_
  rw [decide_eq_true (by omega)]
  repeat' walk_at "y 1"
  have ec : cutV (C.map V.int) (some (l - b)) none = (C.drop (l - b).toNat).map V.int := by
    rw [show l - b = (((l - b).toNat : Nat) : Int) by omega, cutV_from (by rw [List.length_map]; omega), Int.toNat_natCast, List.map_drop]
  rename_i q2 H2 _ F2
  rw [ec] at F2
  exact k _ _ (F2.perm (List.Perm.swap _ _ _))
theorem lim_ok {l : Int} (hl : 1 ≤ l ∧ l ≤ 65535) (k : Q (.int l) H) : sp_checked_limit a [.int l] H Q E := by
  refine in_checked_limit ?_
  repeat' walk_at "y 1"
  refine rng_i ?_
  rw [decide_eq_true (by omega)]
  repeat' walk_at "y 1"
  exact k
theorem lim_bad (F : FH H L) {v : V} (hb : BadI L 1 65535 v) (k : ∀ d H', FH H' ((d, Is (.xd [("setting", .str "limit")])) :: L) → E (.ref a.c_InvalidSetting) (some d) H') : sp_checked_limit a [v] H Q E := by
  refine in_checked_limit ?_
  repeat' walk_at "y 1"
  refine rng_bad F hb ?_
  repeat' walk_at "y 1"
  exact k _ _ (by assumption)
theorem resize_ok (F : FH H (oE a o dx qc m b e c u :: L)) {l : Int} (hl : 1 ≤ l ∧ l ≤ 65535) (k : ∀ H', FH H' (oE a o dx qc l b e c u :: L) → Q .non H') : sp_Outbox_resize a [.ref o, .int l] H Q E := by
  refine in_Outbox_resize ?_
  repeat' walk_at "y 1"
  refine in_Outbox_limit_set ?_
  repeat' walk_at "y 1"
  refine lim_ok hl ?_
  repeat' walk_at "y 1"
  exact k _ (by assumption)
theorem resize_bad (F : FH H L) (mo : oE a o dx qc m b e c u ∈ L) {v : V} (hb : BadI L 1 65535 v) (k : ∀ d H', FH H' ((d, Is (.xd [("setting", .str "limit")])) :: L) → E (.ref a.c_InvalidSetting) (some d) H') : sp_Outbox_resize a [.ref o, v] H Q E := by
  have i0 := Mm.mk mo
  refine in_Outbox_resize ?_
  repeat' walk_at "y 1"
  refine in_Outbox_limit_set ?_
  repeat' walk_at "y 1"
  exact lim_bad F hb k
theorem init_ok (F : FH H ((o, Is (.ins a.c_Outbox dx [])) :: L)) {l : Int} (hl : 1 ≤ l ∧ l ≤ 65535) (k : ∀ qc H', FH H' (oE a o dx qc l 1 1 false 0 :: lE qc [] :: L) → Q .non H') : sp_Outbox___init__ a [.ref o, .int l] H Q E := by
  refine in_Outbox___init__ ?_
  repeat' walk_at "y 1"
  refine in_Outbox_limit_set ?_
  repeat' walk_at "y 1"
  refine lim_ok hl ?_
  repeat' walk_at "y 1"
  rename_i F9
  exact k _ _ (F9.perm (List.Perm.swap _ _ _))
theorem init_bad (F : FH H ((o, Is (.ins a.c_Outbox dx [])) :: L)) {v : V} (hb : BadI L 1 65535 v) (k : ∀ d H', FH H' ((d, Is (.xd [("setting", .str "limit")])) :: (o, Is (.ins a.c_Outbox dx [])) :: L) → E (.ref a.c_InvalidSetting) (some d) H') : sp_Outbox___init__ a [.ref o, v] H Q E := by
  refine in_Outbox___init__ ?_
  repeat' walk_at "y 1"
  refine in_Outbox_limit_set ?_
  repeat' walk_at "y 1"
  exact lim_bad F (hb.mono fun e m => .tail _ m) k
theorem shut_ok (F : FH H (oE a o dx qc m b e c u :: L)) (k : ∀ H', FH H' (oE a o dx qc m b e true u :: L) → Q .non H') : sp_Outbox_shut a [.ref o] H Q E := by
  refine in_Outbox_shut ?_
  repeat' walk_at "y 1"
  exact k _ (by assumption)
end

end
section
set_option synthInstance.checkSynthOrder false
/-! the law's own answers -/
abbrev rE (r : Addr) (m : Int) (qw : Addr) (b : Int) (c : Bool) (u : Int) : Ent := (r, Is (.dK [(.inr "limit", .int m), (.inr "content", .ref qw), (.inr "base", .int b), (.inr "closed", .bl c), (.inr "urgent", .int u)]))
abbrev SE (a : Cl) (o dx qc r qw : Addr) (m b u : Int) (c : Bool) (C W : List Int) (L : List Ent) : List Ent := oE a o dx qc m b (1 + (W.length : Int)) c u :: lE qc (C.map V.int) :: rE r m qw b c u :: lE qw (W.map V.int) :: L
structure OK (m b : Int) (C W : List Int) : Prop where
  hm : 1 ≤ m ∧ m ≤ 65535
  hb : 1 ≤ b ∧ b ≤ 1 + (W.length : Int)
  hc : C = W.drop (b - 1).toNat
  hw : W.length ≤ 80000
theorem OK.len {m b : Int} {C W : List Int} (h : OK m b C W) : (C.length : Int) = 1 + (W.length : Int) - b ∧ C.length ≤ 80000 := by
  have hb := h.hb
  have hw := h.hw
  rw [h.hc, List.length_drop]
  omega
section
variable {a : Cl} {H : Hp} {L : List Ent} {o dx qc r qw : Addr} {m b u : Int} {c : Bool} {C W : List Int} {Q : VK} {E : XK}
theorem only_na {x p : Addr} {fs : List (Str × V)} (F : FH H L) (mp : (p, Is (.xd fs)) ∈ L) (k : Q (.bl true) H) : sp_only a x (.ref a.c_NotAllowed) (some p) [.ref x, .bl false, .bl false, .bl true] H Q E := by
  have i0 := Mm.mk mp
  refine in_only ?_
  repeat' walk_at "y 1"
  exact k
theorem only_num {x p : Addr} {fs : List (Str × V)} (F : FH H L) (mp : (p, Is (.xd fs)) ∈ L) (k : Q (.bl true) H) : sp_only a x (.ref a.c_InvalidNumber) (some p) [.ref x, .bl true, .bl false, .bl false] H Q E := by
  have i0 := Mm.mk mp
  refine in_only ?_
  repeat' walk_at "y 1"
  exact k
theorem only_set {x p : Addr} {fs : List (Str × V)} (F : FH H L) (mp : (p, Is (.xd fs)) ∈ L) (k : Q (.bl true) H) : sp_only a x (.ref a.c_InvalidSetting) (some p) [.ref x, .bl false, .bl true, .bl false] H Q E := by
  have i0 := Mm.mk mp
  refine in_only ?_
  repeat' walk_at "y 1"
  exact k
theorem limit_getS (F : FH H L) (i : Mm (oE a o dx qc m b (1 + (W.length : Int)) c u) L) (k : Q (.int m) H) : sp_Outbox_limit a [.ref o] H Q E := limit_get F i.m k
theorem free_okS (F : FH H L) (i : Mm (oE a o dx qc m b (1 + (W.length : Int)) c u) L) (k : Q (.int (max 0 (m - (1 + (W.length : Int) - b)))) H) : sp_Outbox_free a [.ref o] H Q E := free_ok F i.m k
theorem bound_okS (F : FH H L) (i : Mm (oE a o dx qc m b (1 + (W.length : Int)) c u) L) (k : Q (.int (1 + (W.length : Int) + if c then 1 else 0)) H) : sp_Outbox_bound a [.ref o] H Q E := bound_ok F i.m k
section
local instance : Unr := ⟨trivial⟩
theorem state_ok (F : FH H (SE a o dx qc r qw m b u c C W L)) (hW : W.length ≤ 80000) (k : ∀ H', FH H' (SE a o dx qc r qw m b u c C W L) → Q (.bl true) H') : sp_state a [.ref o, .ref r] H Q E := by
  refine in_state ?_
  repeat' walk_at "y 1"
  refine limit_get (o := o) (dx := dx) (qc := qc) (m := m) (b := b) (e := 1 + (W.length : Int)) (c := c) (u := u) (by assumption) Mm.m ?_
  repeat' walk_at "y 1"
  refine free_ok (o := o) (dx := dx) (qc := qc) (m := m) (b := b) (e := 1 + (W.length : Int)) (c := c) (u := u) (by assumption) Mm.m ?_
  repeat' walk_at "y 1"
  refine bound_ok (o := o) (dx := dx) (qc := qc) (m := m) (b := b) (e := 1 + (W.length : Int)) (c := c) (u := u) (by assumption) Mm.m ?_
  iterate 6
    repeat' walk_at "y 1"
    refine lwhole_i ?_
  repeat' walk_at "y 1"
  rename_i F9
  cases c with
  | true =>
    repeat' walk_at "y 1"
    exact k _ (FH.sub F9 (by walk_at "y sub"))
  | false =>
    repeat' walk_at "y 1"
    exact k _ (FH.sub F9 (by walk_at "y sub"))
end
theorem tuple_is {q p : Addr} {xs : List Int} (F : FH H L) (mq : (q, Is (.tup (xs.map V.int))) ∈ L) (mp : (p, Is (.lst (xs.map V.int))) ∈ L) (hl : xs.length ≤ 80000) (k : Q (.bl true) H) : sp_tuple_is a [.ref q, .ref p] H Q E := by
  have i0 := Mm.mk mp
  have i1 := Mm.mk mq
  refine in_tuple_is ?_
  repeat' walk_at "y 1"
  refine forG (fun i σ H' => (∃ y, σ = [some (.ref q), some (.ref p), y]) ∧ H' = H) (by omega) (by omega) ⟨⟨_, rfl⟩, rfl⟩ (fun i σ H' hi ⟨⟨y, hs⟩, hh⟩ => ?_) fun σ H' ⟨⟨y, hs⟩, hh⟩ => ?_
  · subst hs hh
    have hi' : i < xs.length := by omega
    have ev : (xs.map V.int)[i]? = some (.int xs[i]) := by rw [List.getElem?_map, List.getElem?_eq_getElem hi']; rfl
    haveI : AtE (xs.map V.int) (i : Int) (.int xs[i]) := ⟨atI_nat ev⟩
    repeat' walk_at "y 1"
    refine lwhole_i ?_
    repeat' walk_at "y 1"
    exact ⟨⟨_, rfl⟩, rfl⟩
  · subst hs hh
    repeat' walk_at "y 1"
    exact k
end

end
section
set_option synthInstance.checkSynthOrder false
/-! cuts, releases -/
local macro_rules | `(tactic| walk_at "y sub") => `(tactic| (refine List.Sublist.trans ?_ (List.sublist_append_right _ _); walk_at "y sub"))
theorem cut_eq {m b l h : Int} {C W : List Int} (ok : OK m b C W) (h1 : b ≤ l ∧ l ≤ h ∧ h ≤ 1 + (W.length : Int)) : (C.take (h - b).toNat).drop (l - b).toNat = (W.take (h - 1).toNat).drop (l - 1).toNat := by
  have hb := ok.hb
  rw [ok.hc, List.drop_take, List.drop_take, List.drop_drop, show (h - b).toNat - (l - b).toNat = (h - 1).toNat - (l - 1).toNat by omega, show (b - 1).toNat + (l - b).toNat = (l - 1).toNat by omega]
section
variable {a : Cl} {H : Hp} {L : List Ent} {o dx qc r qw x : Addr} {m b u : Int} {c : Bool} {C W : List Int} {Q : VK} {E : XK}
theorem cuts_ok (F : FH H (SE a o dx qc r qw m b u c C W L)) (mx : (x, Box) ∈ L) (ok : OK m b C W) (k : ∀ H', FH H' (SE a o dx qc r qw m b u c C W L) → Q (.bl true) H') : sp_cuts a [.ref x, .ref o, .ref r] H Q E := by
  have i0 := Mm.mk mx
  have hb := ok.hb
  have hw := ok.hw
  have hl := ok.len
  refine in_cuts ?_
  repeat' walk_at "y 1"
  refine draw_ok F Mm.m (by omega) (by omega) fun w1 H1 w10 w11 F1 => ?_
  clear F
  repeat' walk_at "y 1"
  refine draw_ok F1 Mm.m (by omega) (by omega) fun w2 H2 w20 w21 F2 => ?_
  clear F1
  repeat' walk_at "y 1"
  have ec : cutV (W.map V.int) (some (b + w1 - 1)) (some (b + w1 + w2 - 1)) = ((W.take (b + w1 + w2 - 1).toNat).drop (b + w1 - 1).toNat).map V.int := by
    rw [show b + w1 - 1 = (((b + w1 - 1).toNat : Nat) : Int) by omega, show b + w1 + w2 - 1 = (((b + w1 + w2 - 1).toNat : Nat) : Int) by omega, cutV_mid (by omega) (by rw [List.length_map]; omega), Int.toNat_natCast, Int.toNat_natCast, List.map_drop, List.map_take]
  rename_i q2 H2 _ F2
  rw [ec] at F2
  refine cut_ok (F2.tk (oE a o dx qc m b (1 + (W.length : Int)) c u)) (C := C) (l := b + w1) (h := b + w1 + w2) Mm.m (by omega) (by omega) (by omega) fun q3 N3 H3 F3 => ?_
  have e1 : (C.take (b + w1 + w2 - b).toNat).drop (b + w1 - b).toNat = (W.take (b + w1 + w2 - 1).toNat).drop (b + w1 - 1).toNat := cut_eq ok ⟨by omega, by omega, by omega⟩
  rw [e1] at F3
  clear F2
  have hy : ((W.take (b + w1 + w2 - 1).toNat).drop (b + w1 - 1).toNat).length ≤ 80000 := by rw [List.length_drop, List.length_take]; omega
  clear e1 ec
  generalize (W.take (b + w1 + w2 - 1).toNat).drop (b + w1 - 1).toNat = ys at F3 hy
  repeat' walk_at "y 1"
  refine tuple_is F3 (xs := ys) Mm.m Mm.m hy ?_
  repeat' walk_at "y 1"
  refine cut_ok (F3.tk (oE a o dx qc m b (1 + (W.length : Int)) c u)) (C := C) (l := b) (h := 1 + (W.length : Int)) Mm.m (by omega) (by omega) (by omega) fun q4 N4 H4 F4 => ?_
  clear F3
  have e2 : (C.take (1 + (W.length : Int) - b).toNat).drop (b - b).toNat = (W.take (1 + (W.length : Int) - 1).toNat).drop (b - 1).toNat := cut_eq ok ⟨by omega, by omega, by omega⟩
  rw [show (1 + (W.length : Int) - 1).toNat = W.length by omega, List.take_length] at e2
  rw [e2] at F4
  repeat' walk_at "y 1"
  have ec : cutV (W.map V.int) (some (b - 1)) none = (W.drop (b - 1).toNat).map V.int := by
    rw [show b - 1 = (((b - 1).toNat : Nat) : Int) by omega, cutV_from (by rw [List.length_map]; omega), Int.toNat_natCast, List.map_drop]
  refine cut_g F4 (p := qw) (xs := W.map V.int) Mm.m ec fun q5 H5 F5 => ?_
  clear F4
  repeat' walk_at "y 1"
  have hz : (W.drop (b - 1).toNat).length ≤ 80000 := by rw [List.length_drop]; omega
  generalize W.drop (b - 1).toNat = zs at F5 hz
  refine tuple_is F5 (xs := zs) Mm.m Mm.m hz ?_
  exact k _ (FH.sub F5 (by walk_at "y sub"))
theorem releases_ok (F : FH H (SE a o dx qc r qw m b u c C W L)) (mx : (x, Box) ∈ L) (ok : OK m b C W) (k : ∀ b' qc' C' H', OK m b' C' W → FH H' (SE a o dx qc' r qw m b' u c C' W L) → Q (.bl true) H') : sp_releases a [.ref x, .ref o, .ref r] H Q E := by
  have i0 := Mm.mk mx
  have hb := ok.hb
  have hw := ok.hw
  have hl := ok.len
  refine in_releases ?_
  repeat' walk_at "y 1"
  refine draw_ok F Mm.m (by omega) (by omega) fun w1 H1 w10 w11 F1 => ?_
  clear F
  repeat' walk_at "y 1"
  refine release_ok F1 (C := C) (l := b + w1) Mm.m (by omega) (by omega) (by omega) fun qn H2 F2 => ?_
  clear F1
  repeat' walk_at "y 1"
  refine lwhole_i ?_
  repeat' walk_at "y 1"
  refine k (b + w1) qn (C.drop (b + w1 - b).toNat) _ ⟨ok.hm, by omega, by rw [ok.hc, List.drop_drop, show (b - 1).toNat + (b + w1 - b).toNat = (b + w1 - 1).toNat by omega], hw⟩ (FH.sub (by assumption) (by walk_at "y sub"))
end

end
section
set_option synthInstance.checkSynthOrder false
/-! bytes that are added (printed by gen_k11e.py) -/
local macro_rules | `(tactic| walk_at "y sub") => `(tactic| (refine List.Sublist.trans ?_ (List.sublist_append_right _ _); walk_at "y sub"))
section
variable {a : Cl} {H : Hp} {L : List Ent} {o dx qc r qw x d : Addr} {m b u : Int} {c g : Bool} {C W xs : List Int} {Q : VK} {E : XK}
theorem OK.add {ys : List Int} (ok : OK m b C W) (h : W.length + ys.length ≤ 80000) : OK m b (C ++ ys) (W ++ ys) := by
  have hb := ok.hb
  refine ⟨ok.hm, by rw [List.length_append]; omega, ?_, by rw [List.length_append]; exact h⟩
  rw [ok.hc, List.drop_append_of_le_length (by omega)]
theorem take_min (n : Nat) : xs.take (xs.take n).length = xs.take n := by
  rw [List.length_take, ← List.take_eq_take_min]
theorem adds_t (F : FH H (SE a o dx qc r qw m b u c C W L)) (ok : OK m b C W) (hW : W.length ≤ 70000) (md : (d, Is (.tup (xs.map V.int))) ∈ L) (hb : Bts xs) (hx : xs.length ≤ 1000)
    (k : ∀ qc' qw' u' C' W' N H', OK m b C' W' → W'.length ≤ W.length + 1000 → FH H' (SE a o dx qc' r qw' m b u' c C' W' (N ++ L)) → Q (.bl true) H') : sp_adds a [.ref o, .ref r, .ref d, .bl g] H Q E := by
  have i0 := Mm.mk md
  have h1 := ok.hb
  have h2 := ok.hw
  have h3 := ok.len
  have em : min (max 0 (m - (1 + (W.length : Int) - b))) (xs.length : Int) = ((xs.take (fr m b (1 + (W.length : Int)))).length : Int) := by
    rw [List.length_take]; unfold fr; omega
  have ec : cutV (xs.map V.int) none (some ((xs.take (fr m b (1 + (W.length : Int)))).length : Int)) = (xs.take (fr m b (1 + (W.length : Int)))).map V.int := by
    rw [cut_take, ← List.map_take, take_min]
  have hl : (xs.take (fr m b (1 + (W.length : Int)))).length ≤ 1000 := by rw [List.length_take]; omega
  refine in_adds ?_
  repeat' walk_at "y 1"
  cases c with
  | true =>
    cases g with
    | true =>
      repeat' walk_at "y 1"
      refine urge_closed (by assumption) (o := o) (dx := dx) (qc := qc) (m := m) (b := b) (e := 1 + (W.length : Int)) (u := u) Mm.m fun p H1 F1 => ?_
      repeat' walk_at "y 1"
      refine only_na F1 (p := p) (.head _) ?_
      repeat' walk_at "y 1"
      exact k qc qw u C W [] _ ok (by omega) (FH.sub F1 (by walk_at "y sub"))
    | false =>
      repeat' walk_at "y 1"
      refine put_closed (by assumption) (o := o) (dx := dx) (qc := qc) (m := m) (b := b) (e := 1 + (W.length : Int)) (u := u) Mm.m fun p H1 F1 => ?_
      repeat' walk_at "y 1"
      refine only_na F1 (p := p) (.head _) ?_
      repeat' walk_at "y 1"
      exact k qc qw u C W [] _ ok (by omega) (FH.sub F1 (by walk_at "y sub"))
  | false =>
    rename_i F9
    have F8 := F9.tk (oE a o dx qc m b (1 + (W.length : Int)) false u)
    cases g with
    | true =>
      repeat' walk_at "y 1"
      refine urge_ok F8 (C := C) (xs := xs) Mm.m (.inr Mm.m) hb hx (by omega) fun qn N H1 F1 => ?_
      clear F8 F9
      rw [em]
      generalize xs.take (fr m b (1 + (W.length : Int))) = ys at *
      have el : 1 + (W.length : Int) + (ys.length : Int) = 1 + ((W ++ ys).length : Int) := by rw [List.length_append]; omega
      repeat' walk_at "y 1"
      refine lwhole_i ?_
      repeat' (first | walk_at "y 1" | walk_at "y if")
      refine cut_g (by assumption) (xs := xs.map V.int) Mm.m ec fun q5 H5 F5 => ?_
      repeat' walk_at "y 1"
      refine cat_g F5 (p := qw) (q := q5) (xs := W.map V.int) (ys := ys.map V.int) Mm.m Mm.m (by rw [List.length_map, List.length_map]; omega) fun q6 H6 F6 => ?_
      rw [← List.map_append] at F6
      repeat' (first | walk_at "y 1" | walk_at "y if")
      · rename_i hp _ F9
        rw [if_pos (by omega), el] at F9
        have G := (((F9.tk (lE q6 ((W ++ ys).map V.int))).tk (rE r m q6 b false (1 + ((W ++ ys).length : Int)))).tk (lE qn ((C ++ ys).map V.int))).tk (oE a o dx qn m b (1 + ((W ++ ys).length : Int)) false (1 + ((W ++ ys).length : Int)))
        exact k qn q6 _ (C ++ ys) (W ++ ys) [] _ (ok.add (by omega)) (by rw [List.length_append]; omega) (FH.sub G (by walk_at "y sub"))
      · rename_i F9 hp
        rw [if_neg (by omega), el] at F9
        have G := (((F9.tk (lE q6 ((W ++ ys).map V.int))).tk (rE r m q6 b false u)).tk (lE qn ((C ++ ys).map V.int))).tk (oE a o dx qn m b (1 + ((W ++ ys).length : Int)) false u)
        exact k qn q6 _ (C ++ ys) (W ++ ys) [] _ (ok.add (by omega)) (by rw [List.length_append]; omega) (FH.sub G (by walk_at "y sub"))
    | false =>
      repeat' walk_at "y 1"
      refine put_ok F8 (C := C) (xs := xs) Mm.m (.inr Mm.m) hb hx (by omega) fun qn N H1 F1 => ?_
      clear F8 F9
      rw [em]
      generalize xs.take (fr m b (1 + (W.length : Int))) = ys at *
      have el : 1 + (W.length : Int) + (ys.length : Int) = 1 + ((W ++ ys).length : Int) := by rw [List.length_append]; omega
      repeat' walk_at "y 1"
      refine lwhole_i ?_
      repeat' (first | walk_at "y 1" | walk_at "y if")
      refine cut_g (by assumption) (xs := xs.map V.int) Mm.m ec fun q5 H5 F5 => ?_
      repeat' walk_at "y 1"
      refine cat_g F5 (p := qw) (q := q5) (xs := W.map V.int) (ys := ys.map V.int) Mm.m Mm.m (by rw [List.length_map, List.length_map]; omega) fun q6 H6 F6 => ?_
      rw [← List.map_append] at F6
      repeat' walk_at "y 1"
      rename_i F9
      rw [el] at F9
      have G := (((F9.tk (lE q6 ((W ++ ys).map V.int))).tk (rE r m q6 b false u)).tk (lE qn ((C ++ ys).map V.int))).tk (oE a o dx qn m b (1 + ((W ++ ys).length : Int)) false u)
      exact k qn q6 _ (C ++ ys) (W ++ ys) [] _ (ok.add (by omega)) (by rw [List.length_append]; omega) (FH.sub G (by walk_at "y sub"))
theorem adds_l (F : FH H (SE a o dx qc r qw m b u c C W (lE d (xs.map V.int) :: L))) (ok : OK m b C W) (hW : W.length ≤ 70000) (hb : Bts xs) (hx : xs.length ≤ 1000)
    (k : ∀ qc' qw' u' C' W' N H', OK m b C' W' → W'.length ≤ W.length + 1000 → FH H' (SE a o dx qc' r qw' m b u' c C' W' (N ++ L)) → Q (.bl true) H') : sp_adds a [.ref o, .ref r, .ref d, .bl g] H Q E := by
  have h1 := ok.hb
  have h2 := ok.hw
  have h3 := ok.len
  have em : min (max 0 (m - (1 + (W.length : Int) - b))) (xs.length : Int) = ((xs.take (fr m b (1 + (W.length : Int)))).length : Int) := by
    rw [List.length_take]; unfold fr; omega
  have ec : cutV (xs.map V.int) none (some ((xs.take (fr m b (1 + (W.length : Int)))).length : Int)) = (xs.take (fr m b (1 + (W.length : Int)))).map V.int := by
    rw [cut_take, ← List.map_take, take_min]
  have hl : (xs.take (fr m b (1 + (W.length : Int)))).length ≤ 1000 := by rw [List.length_take]; omega
  haveI sz : Szl (xs.map V.int) := ⟨by rw [List.length_map]; omega⟩
  haveI st : SetE (xs.map V.int ++ [V.int 7]) 0 (V.int 300) ((xs.map V.int ++ [V.int 7]).set 0 (V.int 300)) := ⟨0, by unfold ixN; rw [if_pos (by decide), if_pos (by simp only [List.length_append, List.length_cons, List.length_nil]; omega)]; rfl, rfl⟩
  refine in_adds ?_
  repeat' walk_at "y 1"
  cases c with
  | true =>
    cases g with
    | true =>
      repeat' walk_at "y 1"
      refine urge_closed (by assumption) (o := o) (dx := dx) (qc := qc) (m := m) (b := b) (e := 1 + (W.length : Int)) (u := u) Mm.m fun p H1 F1 => ?_
      repeat' walk_at "y 1"
      refine only_na F1 (p := p) (.head _) ?_
      repeat' walk_at "y 1"
      exact k qc qw u C W [] _ ok (by omega) (FH.sub F1 (by walk_at "y sub"))
    | false =>
      repeat' walk_at "y 1"
      refine put_closed (by assumption) (o := o) (dx := dx) (qc := qc) (m := m) (b := b) (e := 1 + (W.length : Int)) (u := u) Mm.m fun p H1 F1 => ?_
      repeat' walk_at "y 1"
      refine only_na F1 (p := p) (.head _) ?_
      repeat' walk_at "y 1"
      exact k qc qw u C W [] _ ok (by omega) (FH.sub F1 (by walk_at "y sub"))
  | false =>
    rename_i F9
    have F8 := F9.tk (oE a o dx qc m b (1 + (W.length : Int)) false u)
    cases g with
    | true =>
      repeat' walk_at "y 1"
      refine urge_ok F8 (C := C) (xs := xs) Mm.m (.inl Mm.m) hb hx (by omega) fun qn N H1 F1 => ?_
      clear F8 F9
      rw [em]
      generalize xs.take (fr m b (1 + (W.length : Int))) = ys at *
      have el : 1 + (W.length : Int) + (ys.length : Int) = 1 + ((W ++ ys).length : Int) := by rw [List.length_append]; omega
      repeat' walk_at "y 1"
      refine lwhole_i ?_
      repeat' (first | walk_at "y 1" | walk_at "y if")
      refine cut_g (by assumption) (xs := xs.map V.int) Mm.m ec fun q5 H5 F5 => ?_
      repeat' walk_at "y 1"
      refine cat_g F5 (p := qw) (q := q5) (xs := W.map V.int) (ys := ys.map V.int) Mm.m Mm.m (by rw [List.length_map, List.length_map]; omega) fun q6 H6 F6 => ?_
      rw [← List.map_append] at F6
      repeat' (first | walk_at "y 1" | walk_at "y if")
      · rename_i hp _ F9
        rw [if_pos (by omega), el] at F9
        have G := (((F9.tk (lE q6 ((W ++ ys).map V.int))).tk (rE r m q6 b false (1 + ((W ++ ys).length : Int)))).tk (lE qn ((C ++ ys).map V.int))).tk (oE a o dx qn m b (1 + ((W ++ ys).length : Int)) false (1 + ((W ++ ys).length : Int)))
        exact k qn q6 _ (C ++ ys) (W ++ ys) [] _ (ok.add (by omega)) (by rw [List.length_append]; omega) (FH.sub G (by walk_at "y sub"))
      · rename_i F9 hp
        rw [if_neg (by omega), el] at F9
        have G := (((F9.tk (lE q6 ((W ++ ys).map V.int))).tk (rE r m q6 b false u)).tk (lE qn ((C ++ ys).map V.int))).tk (oE a o dx qn m b (1 + ((W ++ ys).length : Int)) false u)
        exact k qn q6 _ (C ++ ys) (W ++ ys) [] _ (ok.add (by omega)) (by rw [List.length_append]; omega) (FH.sub G (by walk_at "y sub"))
    | false =>
      repeat' walk_at "y 1"
      refine put_ok F8 (C := C) (xs := xs) Mm.m (.inl Mm.m) hb hx (by omega) fun qn N H1 F1 => ?_
      clear F8 F9
      rw [em]
      generalize xs.take (fr m b (1 + (W.length : Int))) = ys at *
      have el : 1 + (W.length : Int) + (ys.length : Int) = 1 + ((W ++ ys).length : Int) := by rw [List.length_append]; omega
      repeat' walk_at "y 1"
      refine lwhole_i ?_
      repeat' (first | walk_at "y 1" | walk_at "y if")
      refine cut_g (by assumption) (xs := xs.map V.int) Mm.m ec fun q5 H5 F5 => ?_
      repeat' walk_at "y 1"
      refine cat_g F5 (p := qw) (q := q5) (xs := W.map V.int) (ys := ys.map V.int) Mm.m Mm.m (by rw [List.length_map, List.length_map]; omega) fun q6 H6 F6 => ?_
      rw [← List.map_append] at F6
      repeat' walk_at "y 1"
      rename_i F9
      rw [el] at F9
      have G := (((F9.tk (lE q6 ((W ++ ys).map V.int))).tk (rE r m q6 b false u)).tk (lE qn ((C ++ ys).map V.int))).tk (oE a o dx qn m b (1 + ((W ++ ys).length : Int)) false u)
      exact k qn q6 _ (C ++ ys) (W ++ ys) [] _ (ok.add (by omega)) (by rw [List.length_append]; omega) (FH.sub G (by walk_at "y sub"))
end

end
section
/-! what a text of data comes to -/
mutual
def costD : PyData → Nat
  | .none => 5
  | .bool _ => 5
  | .int _ => 1921
  | .str x => (reprText x).length
  | .list xs => costDs xs + 3
  | .tuple xs => costDs xs + 3
  | .dict kvs => (PyData.shown (.dict kvs)).length
def costDs : List PyData → Nat
  | [] => 0
  | x :: xs => costD x + 2 + costDs xs
end
mutual
theorem shown_le : ∀ d : PyData, d.showable = true → d.shown.length ≤ costD d
  | .none, _ => by rw [PyData.shown, costD]; decide
  | .bool b, _ => by rw [PyData.shown, costD]; cases b <;> decide
  | .int i, h => by rw [PyData.shown, costD]; exact int_text_len_1921 (by simpa [PyData.showable] using h)
  | .str x, _ => by rw [PyData.shown, costD]; exact Nat.le_refl _
  | .list xs, h => by
    rw [PyData.shown, costD]
    have h1 := listText_len_le (PyData.shownAll xs)
    have h2 := shownAll_le xs (by simpa [PyData.showable] using h)
    omega
  | .tuple xs, h => by
    rw [PyData.shown, costD]
    have h1 := tupleText_len_le (PyData.shownAll xs)
    have h2 := shownAll_le xs (by simpa [PyData.showable] using h)
    omega
  | .dict kvs, _ => by rw [costD]; exact Nat.le_refl _
theorem shownAll_le : ∀ ds : List PyData, PyData.showableAll ds = true → ((PyData.shownAll ds).map (·.length)).sum + 2 * (PyData.shownAll ds).length ≤ costDs ds
  | [], _ => by rw [PyData.shownAll, costDs]; decide
  | x :: xs, h => by
    rw [PyData.showableAll, Bool.and_eq_true] at h
    have h1 := shown_le x h.1
    have h2 := shownAll_le xs h.2
    rw [PyData.shownAll, costDs, List.map_cons, List.sum_cons, List.length_cons]
    omega
end
theorem x_repr {S : Sta} {H : Hp} {v : V} {d : PyData} {Q : VK} (p : DpS S H v d) (h1 : d.showable = true) (h2 : d.hasDict = false) (h3 : d.depth ≤ 20) (h4 : costD d ≤ 16777216) (h : Q (.str d.shown) H) : rRepr S [v] H Q :=
  ⟨v, d, rfl, p, h1, h2, h3, by rw [sizeLine_eq]; exact Nat.le_trans (shown_le d h1) h4, h⟩
theorem log_small {i : Int} (h : -18446744073709551616 < i ∧ i < 18446744073709551616) : i.natAbs.log2 < 1920 := by
  by_cases e : i.natAbs = 0
  · rw [e]; decide
  · have h2 := Nat.log2_self_le e
    have h3 : 2 ^ i.natAbs.log2 < 2 ^ 64 := by
      have : (2 : Nat) ^ 64 = 18446744073709551616 := by decide
      omega
    have := (Nat.pow_lt_pow_iff_right (by decide : 1 < 2)).mp h3
    omega
theorem ints_show : ∀ {ns : List Int}, (∀ n ∈ ns, -18446744073709551616 < n ∧ n < 18446744073709551616) → PyData.showableAll (ns.map PyData.int) = true ∧ PyData.hasDictAll (ns.map PyData.int) = false ∧ PyData.depthAll (ns.map PyData.int) = 0 ∧ costDs (ns.map PyData.int) = 1923 * ns.length ∧ PyData.canLayAll0 (ns.map PyData.int) = true
  | [], _ => ⟨rfl, rfl, rfl, rfl, rfl⟩
  | n :: ns, h => by
    obtain ⟨h1, h2, h3, h4, h5⟩ := ints_show (ns := ns) fun x hx => h x (List.mem_cons_of_mem _ hx)
    have h0 := log_small (h n List.mem_cons_self)
    rw [List.map_cons]
    refine ⟨?_, ?_, ?_, ?_, ?_⟩
    · rw [PyData.showableAll, h1, PyData.showable, decide_eq_true h0]; rfl
    · rw [PyData.hasDictAll, h2, PyData.hasDict]; rfl
    · rw [PyData.depthAll, h3, PyData.depth]; rfl
    · rw [costDs, h4, costD, List.length_cons]; omega
    · rw [PyData.canLayAll0, h5, PyData.canLay0]; rfl
theorem dps_ints {S : Sta} {H : Hp} : ∀ {ns : List Int}, DpSs S H (ns.map V.int) (ns.map PyData.int)
  | [] => .nil
  | n :: ns => .cons (.int n) dps_ints
/-- a comprehension over a list that stands, by an invariant of what was kept -/
theorem lcG {S : Sta} {p : Addr} {xs : List V} {L : List Ent} {g : TG} {tt : TT} {tel : TE} {vs : List Nat} {σ σw : L2.St} {H : Hp} {Q : VK} (Pv : Nat → List V → Prop) (F : FH H L) (m : Src S L p xs) (z : xs.length < 16777216) (ew : wipe σ vs = σw) (h0 : Pv 0 []) (hl : ∀ i ys, Pv i ys → ys.length ≤ i)
    (hs : ∀ i y ys D H (QX : V → Hp → Prop) (A : Hp → Prop), xs[i]? = some y → Pv i ys → FH H ((D, Is (.lst ys)) :: L) → (∀ v H', Pv (i + 1) (ys ++ [v]) → FH H' ((D, Is (.lst ys)) :: L) → QX v H') → (∀ H', Pv (i + 1) ys → FH H' ((D, Is (.lst ys)) :: L) → A H') →
      g y σw H fun σ2 H2 => wipe σ2 vs = σw ∧ tt σ2 H2 fun b H3 => if b = true then tel σ2 H3 QX else A H3)
    (hd : ∀ D ys H', Pv xs.length ys → FH H' ((D, Is (.lst ys)) :: L) → Q (.ref D) H') : LcS S g tt tel vs Q (.ref p) σ H := by
  subst ew
  refine ⟨p, xs, rfl, true, m.rdS F, fun D hD => ⟨fun i H => ∃ ys, Pv i ys ∧ FH H ((D, Is (.lst ys)) :: L), ⟨[], h0, F.new hD⟩, fun i H _ ⟨ys, _, q⟩ => m.rdS q.tail, fun i y H e ⟨ys, hp, q⟩ => ?_, fun H ⟨ys, hp, q⟩ => hd D ys H hp q⟩⟩
  have hi : i < xs.length := (List.getElem?_eq_some_iff.mp e).1
  refine hs i y ys D H _ _ e hp q (fun v H' hp' q' => ⟨ys, q'.get (List.Mem.head _), ?_, ys ++ [v], hp', q'.put .here trivial⟩) fun H' hp' q' => ⟨ys, hp', q'⟩
  have := hl i ys hp
  rw [sizeLine_eq]
  omega

/-! what is refused, and how it is shown -/
def ShI (n c : Nat) (d : PyData) : Prop := d.showable = true ∧ d.hasDict = false ∧ d.depth ≤ n ∧ costD d ≤ c
instance {n c : Nat} {d : PyData} : Decidable (ShI n c d) := by unfold ShI; infer_instance
theorem shi_all {n c : Nat} : ∀ {ds : List PyData}, (∀ d ∈ ds, ShI n c d) → PyData.showableAll ds = true ∧ PyData.hasDictAll ds = false ∧ PyData.depthAll ds ≤ n ∧ costDs ds ≤ (c + 2) * ds.length
  | [], _ => ⟨rfl, rfl, Nat.zero_le _, Nat.zero_le _⟩
  | d :: ds, h => by
    obtain ⟨h1, h2, h3, h4⟩ := h d List.mem_cons_self
    obtain ⟨i1, i2, i3, i4⟩ := shi_all fun x m => h x (List.mem_cons_of_mem _ m)
    refine ⟨?_, ?_, ?_, ?_⟩
    · rw [PyData.showableAll, h1, i1]; rfl
    · rw [PyData.hasDictAll, h2, i2]; rfl
    · rw [PyData.depthAll]; omega
    · rw [costDs, List.length_cons, Nat.mul_succ]; omega
theorem shi_tup {n c : Nat} {ds : List PyData} (h : ∀ d ∈ ds, ShI n c d) : ShI (n + 1) ((c + 2) * ds.length + 3) (.tuple ds) := by
  obtain ⟨i1, i2, i3, i4⟩ := shi_all h
  refine ⟨?_, ?_, ?_, ?_⟩
  · rw [PyData.showable]; exact i1
  · rw [PyData.hasDict]; exact i2
  · rw [PyData.depth]; omega
  · rw [costD]; omega
def Rp (S : Sta) (X : List Ent) (v : V) (d : PyData) : Prop := (∀ (L : List Ent) (H : Hp), (∀ e ∈ X, e ∈ L) → FH H L → DpS S H v d) ∧ ShI 10 100000 d
theorem Rp.mono {S : Sta} {X Y : List Ent} {v : V} {d : PyData} (h : Rp S X v d) (s : ∀ e ∈ X, e ∈ Y) : Rp S Y v d := ⟨fun L H z F => h.1 L H (fun e m => z e (s e m)) F, h.2⟩
theorem repr_ok {S : Sta} {H : Hp} {L : List Ent} {v : V} {d : PyData} {Q : VK} (F : FH H L) (h : Rp S L v d) (k : Q (.str d.shown) H) : rRepr S [v] H Q :=
  x_repr (h.1 L H (fun _ m => m) F) h.2.1 h.2.2.1 (by have := h.2.2.2.1; omega) (by have := h.2.2.2.2; omega) k
theorem shi_int {i : Int} (b : -18446744073709551616 < i ∧ i < 18446744073709551616) : ShI 0 4000 (.int i) := ⟨by rw [PyData.showable]; exact decide_eq_true (log_small b), rfl, Nat.le_refl _, by rw [costD]; decide⟩
inductive ItD (X : List Ent) : V → PyData → Prop
  | int (i : Int) (b : -18446744073709551616 < i ∧ i < 18446744073709551616) : ItD X (.int i) (.int i)
  | non : ItD X .non .none
  | bl (b : Bool) : ItD X (.bl b) (.bool b)
  | str (z : Str) (h : ShI 0 4000 (.str z)) : ItD X (.str z) (.str z)
  | tup (q : Addr) (i j : Int) (m : (q, Is (.tup [.int i, .int j])) ∈ X) (b : -18446744073709551616 < i ∧ i < 18446744073709551616) (b' : -18446744073709551616 < j ∧ j < 18446744073709551616) : ItD X (.ref q) (.tuple [.int i, .int j])
theorem ItD.rp {S : Sta} {X : List Ent} {v : V} {d : PyData} (h : ItD X v d) : (∀ (L : List Ent) (H : Hp), (∀ e ∈ X, e ∈ L) → FH H L → DpS S H v d) ∧ ShI 1 9000 d := by
  cases h with
  | int i b => exact ⟨fun _ _ _ _ => .int i, (shi_int b).1, (shi_int b).2.1, Nat.zero_le _, by have := (shi_int b).2.2.2; omega⟩
  | non => exact ⟨fun _ _ _ _ => .non, by decide +kernel⟩
  | bl b => exact ⟨fun _ _ _ _ => .bl b, by cases b <;> decide +kernel⟩
  | str z h => exact ⟨fun _ _ _ _ => .str z, h.1, h.2.1, by have := h.2.2.1; omega, by have := h.2.2.2; omega⟩
  | tup q i j m b b' =>
    refine ⟨fun L H s F => .tup (.inl (.inl (F.get (s _ m)))) (.cons (.int i) (.cons (.int j) .nil)), ?_⟩
    have := shi_tup (n := 0) (c := 4000) (ds := [.int i, .int j]) fun d m => by
      rcases List.mem_cons.mp m with rfl | m
      · exact shi_int b
      · rw [List.mem_singleton.mp m]; exact shi_int b'
    exact ⟨this.1, this.2.1, this.2.2.1, Nat.le_trans this.2.2.2 (by show (4000 + 2) * 2 + 3 ≤ 9000; omega)⟩
inductive ItDs (X : List Ent) : List V → List PyData → Prop
  | nil : ItDs X [] []
  | cons {v : V} {d : PyData} {vs : List V} {ds : List PyData} (h : ItD X v d) (t : ItDs X vs ds) : ItDs X (v :: vs) (d :: ds)
theorem ItD.mono {X Y : List Ent} {v : V} {d : PyData} (h : ItD X v d) (s : ∀ e ∈ X, e ∈ Y) : ItD Y v d := by
  cases h with
  | int i b => exact .int i b
  | non => exact .non
  | bl b => exact .bl b
  | str z h => exact .str z h
  | tup q i j m b b' => exact .tup q i j (s _ m) b b'
theorem ItDs.mono {X Y : List Ent} {v : List V} {d : List PyData} (h : ItDs X v d) (s : ∀ e ∈ X, e ∈ Y) : ItDs Y v d := by
  induction h with
  | nil => exact .nil
  | cons h t ih => exact .cons (h.mono s) ih
theorem ItDs.rp {S : Sta} {X : List Ent} {vs : List V} {ds : List PyData} (h : ItDs X vs ds) : (∀ (L : List Ent) (H : Hp), (∀ e ∈ X, e ∈ L) → FH H L → DpSs S H vs ds) ∧ (∀ d ∈ ds, ShI 1 9000 d) ∧ vs.length = ds.length := by
  induction h with
  | nil => exact ⟨fun _ _ _ _ => .nil, (fun _ m => by cases m), rfl⟩
  | cons h t ih => exact ⟨fun L H s F => .cons (h.rp.1 L H s F) (ih.1 L H s F), (fun d m => (List.mem_cons.mp m).elim (fun e => by rw [e]; exact (h.rp (S := S)).2) (ih.2.1 d)), by rw [List.length_cons, List.length_cons, ih.2.2]⟩
theorem rp_tup {S : Sta} {X : List Ent} {q : Addr} {vs : List V} {ds : List PyData} (m : (q, Is (.tup vs)) ∈ X) (h : ItDs X vs ds) (hl : vs.length ≤ 5) : Rp S X (.ref q) (.tuple ds) := by
  obtain ⟨h1, h2, h3⟩ := h.rp (S := S)
  refine ⟨fun L H s F => .tup (.inl (.inl (F.get (s _ m)))) (h1 L H s F), ?_⟩
  have := shi_tup h2
  have hm : (9000 + 2) * ds.length ≤ (9000 + 2) * 5 := Nat.mul_le_mul_left _ (by omega)
  exact ⟨this.1, this.2.1, by have := this.2.2.1; omega, by have := this.2.2.2; omega⟩
theorem rp_at {S : Sta} {X : List Ent} {v : V} {d : PyData} (h : ItD X v d) : Rp S X v d := ⟨h.rp.1, by
  have := (h.rp (S := S)).2
  exact ⟨this.1, this.2.1, by have := this.2.2.1; omega, by have := this.2.2.2; omega⟩⟩
theorem sh_s1 : ShI 0 4000 (.str "1") := by decide +kernel
theorem rp_lst2 {S : Sta} {X : List Ent} {q : Addr} (m : (q, Is (.lst [.int 2])) ∈ X) : Rp S X (.ref q) (.list [.int 2]) :=
  ⟨fun L H s F => .lst (.inl (.inl (F.get (s _ m)))) (.cons (.int 2) .nil), by decide +kernel⟩

set_option synthInstance.checkSynthOrder false
/-! data that is refused -/
theorem rp_tup1 {S : Sta} {X : List Ent} {q : Addr} {i : Int} (m : (q, Is (.tup [.int i])) ∈ X) (h : -18446744073709551616 < i ∧ i < 18446744073709551616) : Rp S X (.ref q) (.tuple [.int i]) := rp_tup m (.cons (.int i h) .nil) (by simp)
theorem sh_s7 : ShI 0 4000 (.str "7") := by decide +kernel
theorem sh_s0 : ShI 0 4000 (.str "") := by decide +kernel
theorem sh_s01 : ShI 0 4000 (.str "01") := by decide +kernel
section
variable {a : Cl} {H : Hp} {L : List Ent} {x : Addr} {Q : VK} {E : XK}
theorem bad_data_ok (F : FH H L) (mx : (x, Box) ∈ L) (k : ∀ D v w d N H', BadD N v w → Rp a.S N w d → FH H' (lE D [v, w] :: (N ++ L)) → Q (.ref D) H') : sp_bad_data a [.ref x] H Q E := by
  have i0 := Mm.mk mx
  refine in_bad_data ?_
  repeat' walk_at "y 1"
  refine draw_ok F Mm.m (by decide) (by decide) fun w1 H1 w10 w11 F1 => ?_
  clear F
  repeat' walk_at "y 1"
  refine lcRP (w1).toNat (by omega) (by omega) Byt F1 WipeE.e (fun i ys D H3 QX hi F3 hk => ?_) fun D ys H3 hl hp F3 => ?_
  · clear F1
    repeat' walk_at "y 1"
    refine draw_ok F3 (.tail _ mx) (by decide) (by decide) fun r H4 r0 r1 F4 => ?_
    repeat' walk_at "y 1"
    exact hk _ _ ⟨_, rfl, r0, r1⟩ F4
  obtain ⟨xs, rfl, hb⟩ := bts_of hp
  rw [List.length_map] at hl
  clear F1
  repeat' walk_at "y 1"
  refine draw_ok F3 Mm.m (by decide) (by decide) fun w2 H4 w20 w21 F4 => ?_
  clear F3
  repeat' walk_at "y 1"
  refine draw_ok F4 Mm.m (by decide) (by decide) fun w3 H5 w30 w31 F5 => ?_
  clear F4
  repeat' walk_at "y 1"
  rename_i q1 H6 _ F6 q2 H7 _ F7
  clear F5
  have hall : ∀ v ∈ [V.int (256 + w2), V.int (0 - 1 - w3), V.bl true, V.bl false, V.non, V.str "7", V.ref q1], ∃ d, BadI [(q1, Is (HO.tup [V.int 1]))] 0 255 v ∧ Rp a.S [(q1, Is (HO.tup [V.int 1]))] v d := by
    intro v hv
    simp only [List.mem_cons, List.not_mem_nil, or_false] at hv
    rcases hv with rfl | rfl | rfl | rfl | rfl | rfl | rfl
    · exact ⟨_, .inr ⟨_, rfl, by omega⟩, rp_at (.int _ (by omega))⟩
    · exact ⟨_, .inr ⟨_, rfl, by omega⟩, rp_at (.int _ (by omega))⟩
    · exact ⟨_, .inl (.bl _), rp_at (.bl _)⟩
    · exact ⟨_, .inl (.bl _), rp_at (.bl _)⟩
    · exact ⟨_, .inl .non, rp_at .non⟩
    · exact ⟨_, .inl (.str _), rp_at (.str _ sh_s7)⟩
    · exact ⟨_, .inl (.tup _ _ (.head _)), rp_tup1 (.head _) (by omega)⟩
  have hlen : [V.int (256 + w2), V.int (0 - 1 - w3), V.bl true, V.bl false, V.non, V.str "7", V.ref q1].length = 7 := rfl
  generalize [V.int (256 + w2), V.int (0 - 1 - w3), V.bl true, V.bl false, V.non, V.str "7", V.ref q1] = os at *
  refine draw_ok F7 Mm.m (by decide) (by decide) fun w4 H8 w40 w41 F8 => ?_
  clear F6 F7
  have hg := List.getElem?_eq_getElem (l := os) (i := w4.toNat) (by omega)
  obtain ⟨db, hbb, hbr⟩ := hall _ (List.getElem_mem (l := os) (n := w4.toNat) (by omega))
  generalize os[w4.toNat] = bv at hg hbb hbr
  haveI : AtE os w4 bv := ⟨atI_at (by omega) hg⟩
  repeat' walk_at "y 1"
  refine draw_ok F8 Mm.m (by decide) (by decide) fun w5 H9 w50 w51 F9 => ?_
  clear F8
  have hg2 := List.getElem?_eq_getElem (l := os) (i := w5.toNat) (by omega)
  generalize os[w5.toNat] = av at hg2
  haveI : AtE os w5 av := ⟨atI_at (by omega) hg2⟩
  repeat' walk_at "y 1"
  refine draw_ok F9 Mm.m (by omega) (by omega) fun w6 H10 w60 w61 F10 => ?_
  clear F9
  repeat' walk_at "y 1"
  refine draw_ok F10 Mm.m (by omega) (by omega) fun w7 H11 w70 w71 F11 => ?_
  clear F10
  have hw : w7 = 0 ∨ w7 = 1 ∨ w7 = 2 ∨ w7 = 3 := by omega
  rcases hw with rfl | rfl | rfl | rfl
  all_goals repeat' (first | walk_at "y 1" | walk_at "y if")
  all_goals
    have e1 : cutV (xs.map V.int) none (some w6) = (xs.take w6.toNat).map V.int := by
      rw [show w6 = ((w6.toNat : Nat) : Int) by omega, cut_take, Int.toNat_natCast, List.map_take]
    have e2 : cutV (xs.map V.int) (some w6) none = (xs.drop w6.toNat).map V.int := by
      rw [show w6 = ((w6.toNat : Nat) : Int) by omega, cut_drop, Int.toNat_natCast, List.map_drop]
    have z1 : (xs.take w6.toNat).length ≤ 20 := by rw [List.length_take]; omega
    have z2 : (xs.drop w6.toNat).length ≤ 20 := by rw [List.length_drop]; omega
    have hb1 : Bts (xs.take w6.toNat) := fun y m => hb y (List.mem_of_mem_take m)
  · rename_i F12
    refine draw_ok F12 Mm.m (by decide) (by decide) fun w8 H13 w80 w81 F13 => ?_
    have hw8 : w8 = 0 ∨ w8 = 1 ∨ w8 = 2 ∨ w8 = 3 ∨ w8 = 4 ∨ w8 = 5 := by omega
    rcases hw8 with rfl | rfl | rfl | rfl | rfl | rfl
    all_goals repeat' walk_at "y 1"
    · exact k _ _ _ _ [_, _, _, _] _ (.whole _ (.inr (.inl rfl))) (rp_at .non) (by assumption)
    · exact k _ _ _ _ [_, _, _, _] _ (.whole _ (.inr (.inr (.inr ⟨_, rfl⟩)))) (rp_at (.str _ sh_s0)) (by assumption)
    · exact k _ _ _ _ [_, _, _, _] _ (.whole _ (.inr (.inr (.inr ⟨_, rfl⟩)))) (rp_at (.str _ sh_s01)) (by assumption)
    · exact k _ _ _ _ [_, _, _, _] _ (.whole _ (.inl ⟨_, rfl⟩)) (rp_at (.int 5 (by decide))) (by assumption)
    · exact k _ _ _ _ [_, _, _, _] _ (.whole _ (.inl ⟨_, rfl⟩)) (rp_at (.int (0 - 1) (by decide))) (by assumption)
    · exact k _ _ _ _ [_, _, _, _] _ (.whole _ (.inr (.inr (.inl ⟨_, rfl⟩)))) (rp_at (.bl _)) (by assumption)
  · rename_i F12
    rw [e1] at F12
    refine cat_g F12 (xs := (xs.take w6.toNat).map V.int) (ys := [bv]) Mm.m Mm.m (by rw [List.length_map]; simp only [List.length_cons, List.length_nil]; omega) fun q6 H6 F6 => ?_
    repeat' walk_at "y 1"
    rename_i F13
    rw [e2] at F13
    refine cat_g F13 (xs := (xs.take w6.toNat).map V.int ++ [bv]) (ys := (xs.drop w6.toNat).map V.int) Mm.m Mm.m (by simp only [List.length_append, List.length_map, List.length_cons, List.length_nil]; omega) fun q8 H8 F8 => ?_
    repeat' walk_at "y 1"
    rename_i F10
    have ee : (xs.take w6.toNat).map V.int ++ [bv] ++ (xs.drop w6.toNat).map V.int ++ [av] = (xs.take w6.toNat).map V.int ++ bv :: ((xs.drop w6.toNat).map V.int ++ [av]) := by simp
    rw [ee] at F10
    exact k _ _ _ _ [_, _, _, _, _, _, _, _, _, _] _ (.item _ (xs.take w6.toNat) bv ((xs.drop w6.toNat).map V.int ++ [av]) (.inl (.head _)) hb1 (hbb.mono fun e m => by rw [List.mem_singleton.mp m]; exact Mm.m)) (hbr.mono fun e m => by rw [List.mem_singleton.mp m]; exact Mm.m) F10
  · rename_i F12
    rw [e1] at F12
    refine cat_g F12 (xs := (xs.take w6.toNat).map V.int) (ys := [bv]) Mm.m Mm.m (by rw [List.length_map]; simp only [List.length_cons, List.length_nil]; omega) fun q6 H6 F6 => ?_
    repeat' walk_at "y 1"
    rename_i F13
    rw [e2] at F13
    refine cat_g F13 (xs := (xs.take w6.toNat).map V.int ++ [bv]) (ys := (xs.drop w6.toNat).map V.int) Mm.m Mm.m (by simp only [List.length_append, List.length_map, List.length_cons, List.length_nil]; omega) fun q8 H8 F8 => ?_
    repeat' walk_at "y 1"
    rename_i F10
    have ee : (xs.take w6.toNat).map V.int ++ [bv] ++ (xs.drop w6.toNat).map V.int = (xs.take w6.toNat).map V.int ++ bv :: ((xs.drop w6.toNat).map V.int) := by simp
    rw [ee] at F10
    exact k _ _ _ _ [_, _, _, _, _, _, _, _, _] _ (.item _ (xs.take w6.toNat) bv ((xs.drop w6.toNat).map V.int) (.inr (.head _)) hb1 (hbb.mono fun e m => by rw [List.mem_singleton.mp m]; exact Mm.m)) (hbr.mono fun e m => by rw [List.mem_singleton.mp m]; exact Mm.m) F10
  · rename_i F12
    rw [e1] at F12
    refine cat_g F12 (xs := (xs.take w6.toNat).map V.int) (ys := [bv, av]) Mm.m Mm.m (by rw [List.length_map]; simp only [List.length_cons, List.length_nil]; omega) fun q6 H6 F6 => ?_
    repeat' walk_at "y 1"
    rename_i F13
    rw [e2] at F13
    refine cat_g F13 (xs := (xs.take w6.toNat).map V.int ++ [bv, av]) (ys := (xs.drop w6.toNat).map V.int) Mm.m Mm.m (by simp only [List.length_append, List.length_map, List.length_cons, List.length_nil]; omega) fun q8 H8 F8 => ?_
    repeat' walk_at "y 1"
    rename_i F10
    have ee : (xs.take w6.toNat).map V.int ++ [bv, av] ++ (xs.drop w6.toNat).map V.int = (xs.take w6.toNat).map V.int ++ bv :: (av :: (xs.drop w6.toNat).map V.int) := by simp
    rw [ee] at F10
    exact k _ _ _ _ [_, _, _, _, _, _, _, _] _ (.item _ (xs.take w6.toNat) bv (av :: (xs.drop w6.toNat).map V.int) (.inl (.head _)) hb1 (hbb.mono fun e m => by rw [List.mem_singleton.mp m]; exact Mm.m)) (hbr.mono fun e m => by rw [List.mem_singleton.mp m]; exact Mm.m) F10
end

end
section
set_option synthInstance.checkSynthOrder false
/-! calls that are refused -/
local macro_rules | `(tactic| walk_at "y sub") => `(tactic| (refine List.Sublist.trans ?_ (List.sublist_append_right _ _); walk_at "y sub"))
section
variable {a : Cl} {H : Hp} {L : List Ent} {o dx qc r qw x : Addr} {m b u : Int} {c g : Bool} {C W : List Int} {Q : VK} {E : XK}
theorem rp_lst1 {S : Sta} {X : List Ent} {q : Addr} (m : (q, Is (.lst [.int 1])) ∈ X) : Rp S X (.ref q) (.list [.int 1]) :=
  ⟨fun L H s F => .lst (.inl (.inl (F.get (s _ m)))) (.cons (.int 1) .nil), by decide +kernel⟩
theorem data_refused_ok {v w : V} {d : PyData} (F : FH H (SE a o dx qc r qw m b u c C W L)) (hv : BadD L v w) (hr : Rp a.S L w d) (k : ∀ H', FH H' (SE a o dx qc r qw m b u c C W L) → Q (.bl true) H') : sp_data_refused a [.ref o, .ref r, v, w, .bl g] H Q E := by
  refine in_data_refused ?_
  cases c with
  | true =>
    cases g with
    | true =>
      repeat' walk_at "y 1"
      refine urge_closed F (o := o) (dx := dx) (qc := qc) (m := m) (b := b) (e := 1 + (W.length : Int)) (u := u) Mm.m fun p H1 F1 => ?_
      repeat' walk_at "y 1"
      refine only_na F1 (p := p) (.head _) ?_
      repeat' walk_at "y 1"
      exact k _ (FH.sub F1 (by walk_at "y sub"))
    | false =>
      repeat' walk_at "y 1"
      refine put_closed F (o := o) (dx := dx) (qc := qc) (m := m) (b := b) (e := 1 + (W.length : Int)) (u := u) Mm.m fun p H1 F1 => ?_
      repeat' walk_at "y 1"
      refine only_na F1 (p := p) (.head _) ?_
      repeat' walk_at "y 1"
      exact k _ (FH.sub F1 (by walk_at "y sub"))
  | false =>
    have sL : ∀ e ∈ L, e ∈ SE a o dx qc r qw m b u false C W L := fun e m => .tail _ (.tail _ (.tail _ (.tail _ m)))
    have hv2 := hv.mono sL
    cases g with
    | true =>
      repeat' walk_at "y 1"
      refine urge_bad F (o := o) (dx := dx) (qc := qc) (m := m) (b := b) (e := 1 + (W.length : Int)) (u := u) Mm.m hv2 fun p H1 F1 => ?_
      have r1 := hr.mono (fun e m => List.mem_cons_of_mem (p, Is (HO.xd [("number", w)])) (sL e m))
      repeat' walk_at "y 1"
      refine repr_ok F1 r1 ?_
      repeat' walk_at "y 1"
      refine repr_ok F1 r1 ?_
      repeat' walk_at "y 1"
      refine only_num F1 (p := p) (.head _) ?_
      repeat' walk_at "y 1"
      exact k _ (FH.sub F1 (by walk_at "y sub"))
    | false =>
      repeat' walk_at "y 1"
      refine put_bad F (o := o) (dx := dx) (qc := qc) (m := m) (b := b) (e := 1 + (W.length : Int)) (u := u) Mm.m hv2 fun p H1 F1 => ?_
      have r1 := hr.mono (fun e m => List.mem_cons_of_mem (p, Is (HO.xd [("number", w)])) (sL e m))
      repeat' walk_at "y 1"
      refine repr_ok F1 r1 ?_
      repeat' walk_at "y 1"
      refine repr_ok F1 r1 ?_
      repeat' walk_at "y 1"
      refine only_num F1 (p := p) (.head _) ?_
      repeat' walk_at "y 1"
      exact k _ (FH.sub F1 (by walk_at "y sub"))
theorem limit_refused_ok (F : FH H (SE a o dx qc r qw m b u c C W L)) (mx : (x, Box) ∈ L) (k : ∀ H', FH H' (SE a o dx qc r qw m b u c C W L) → Q (.bl true) H') : sp_limit_refused a [.ref x, .ref o] H Q E := by
  have i0 := Mm.mk mx
  refine in_limit_refused ?_
  repeat' walk_at "y 1"
  refine draw_ok F Mm.m (by decide) (by decide) fun w1 H1 w10 w11 F1 => ?_
  clear F
  repeat' walk_at "y 1"
  refine draw_ok F1 Mm.m (by decide) (by decide) fun w2 H2 w20 w21 F2 => ?_
  clear F1
  repeat' walk_at "y 1"
  rename_i q1 H3 _ F3 q2 H4 _ F4 q3 H5 _ F5
  clear F3 F4
  have hall : ∀ v ∈ [V.int 0, V.int (0 - 1 - w1), V.int 65536, V.int (65536 + w2), V.bl true, V.bl false, V.non, V.str "8", V.ref q1, V.ref q2], BadI [(q1, Is (HO.tup [V.int 8])), (q2, Is (HO.lst [V.int 8]))] 1 65535 v := by
    intro v hv
    simp only [List.mem_cons, List.not_mem_nil, or_false] at hv
    rcases hv with rfl | rfl | rfl | rfl | rfl | rfl | rfl | rfl | rfl | rfl
    · exact .inr ⟨_, rfl, by omega⟩
    · exact .inr ⟨_, rfl, by omega⟩
    · exact .inr ⟨_, rfl, by omega⟩
    · exact .inr ⟨_, rfl, by omega⟩
    · exact .inl (.bl _)
    · exact .inl (.bl _)
    · exact .inl .non
    · exact .inl (.str _)
    · exact .inl (.tup _ _ (.head _))
    · exact .inl (.lst _ _ (.tail _ (.head _)))
  have hlen : [V.int 0, V.int (0 - 1 - w1), V.int 65536, V.int (65536 + w2), V.bl true, V.bl false, V.non, V.str "8", V.ref q1, V.ref q2].length = 10 := rfl
  generalize [V.int 0, V.int (0 - 1 - w1), V.int 65536, V.int (65536 + w2), V.bl true, V.bl false, V.non, V.str "8", V.ref q1, V.ref q2] = os at *
  refine draw_ok F5 Mm.m (by decide) (by decide) fun w4 H8 w40 w41 F8 => ?_
  clear F5
  have hg := List.getElem?_eq_getElem (l := os) (i := w4.toNat) (by omega)
  have hbb := hall _ (List.getElem_mem (l := os) (n := w4.toNat) (by omega))
  generalize os[w4.toNat] = bv at hg hbb
  haveI : AtE os w4 bv := ⟨atI_at (by omega) hg⟩
  repeat' walk_at "y 1"
  refine draw_ok F8 Mm.m (by decide) (by decide) fun w5 H9 w50 w51 F9 => ?_
  clear F8
  have hw : w5 = 0 ∨ w5 = 1 := by omega
  rcases hw with rfl | rfl
  · repeat' (first | walk_at "y 1" | walk_at "y if")
    refine resize_bad F9 (o := o) (dx := dx) (qc := qc) (m := m) (b := b) (e := 1 + (W.length : Int)) (c := c) (u := u) Mm.m (hbb.mono fun e m => by simp only [List.mem_cons, List.not_mem_nil, or_false] at m; rcases m with rfl | rfl <;> exact Mm.m) fun p H10 F10 => ?_
    repeat' walk_at "y 1"
    refine only_set F10 (p := p) (.head _) ?_
    repeat' walk_at "y 1"
    exact k _ (FH.sub F10 (by walk_at "y sub"))
  · repeat' walk_at "y 1"
    rename_i F9
    refine init_bad F9 (hbb.mono fun e m => by simp only [List.mem_cons, List.not_mem_nil, or_false] at m; rcases m with rfl | rfl <;> exact Mm.m) fun p H10 F10 => ?_
    repeat' walk_at "y 1"
    refine only_set F10 (p := p) (.head _) ?_
    repeat' walk_at "y 1"
    exact k _ (FH.sub F10 (by walk_at "y sub"))
/-- the values of another kind -/
def Knd (S : Sta) (X : List Ent) (v : V) : Prop := NoI X v ∧ ∃ d, Rp S X v d
theorem knd_all {S : Sta} {q1 q2 : Addr} : ∀ v ∈ [V.non, V.bl true, V.str "1", V.ref q1, V.ref q2], Knd S [(q1, Is (HO.tup [V.int 1])), (q2, Is (HO.lst [V.int 1]))] v := by
  intro v hv
  simp only [List.mem_cons, List.not_mem_nil, or_false] at hv
  rcases hv with rfl | rfl | rfl | rfl | rfl
  · exact ⟨.non, _, rp_at .non⟩
  · exact ⟨.bl _, _, rp_at (.bl _)⟩
  · exact ⟨.str _, _, rp_at (.str _ sh_s1)⟩
  · exact ⟨.tup _ _ (.head _), _, rp_tup1 (.head _) (by decide)⟩
  · exact ⟨.lst _ _ (.tail _ (.head _)), _, rp_lst1 (.tail _ (.head _))⟩
theorem release_refused_ok (F : FH H (SE a o dx qc r qw m b u c C W L)) (mx : (x, Box) ∈ L) (ok : OK m b C W) (k : ∀ H', FH H' (SE a o dx qc r qw m b u c C W L) → Q (.bl true) H') : sp_release_refused a [.ref x, .ref o, .ref r] H Q E := by
  have i0 := Mm.mk mx
  have hb := ok.hb
  have hw := ok.hw
  refine in_release_refused ?_
  repeat' walk_at "y 1"
  refine draw_ok F Mm.m (by decide) (by decide) fun w1 H1 w10 w11 F1 => ?_
  clear F
  repeat' walk_at "y 1"
  refine draw_ok F1 Mm.m (by decide) (by decide) fun w2 H2 w20 w21 F2 => ?_
  clear F1
  have hw2 : w2 = 0 ∨ w2 = 1 ∨ w2 = 2 := by omega
  rcases hw2 with rfl | rfl | rfl
  all_goals repeat' (first | walk_at "y 1" | walk_at "y if")
  · refine release_bad F2 (o := o) (dx := dx) (qc := qc) (m := m) (b := b) (e := 1 + (W.length : Int)) (c := c) (u := u) Mm.m (.inr ⟨_, rfl, by omega⟩) fun p H20 F20 => ?_
    have r1 := (rp_at (.int (b - 1 - w1) (by omega)) : Rp a.S ((p, Is (HO.xd [("number", V.int (b - 1 - w1))])) :: SE a o dx qc r qw m b u c C W L) _ _)
    repeat' walk_at "y 1"
    refine repr_ok F20 (r1) ?_
    repeat' walk_at "y 1"
    refine repr_ok F20 (r1) ?_
    repeat' walk_at "y 1"
    refine only_num F20 (p := p) (.head _) ?_
    repeat' walk_at "y 1"
    exact k _ (FH.sub F20 (by walk_at "y sub"))
  · refine draw_ok F2 Mm.m (by decide) (by decide) fun w3 H3 w30 w31 F3 => ?_
    repeat' (first | walk_at "y 1" | walk_at "y if")
    refine release_bad F3 (o := o) (dx := dx) (qc := qc) (m := m) (b := b) (e := 1 + (W.length : Int)) (c := c) (u := u) Mm.m (.inr ⟨_, rfl, by omega⟩) fun p H20 F20 => ?_
    have r1 := (rp_at (.int (1 + (W.length : Int) + 1 + w3) (by omega)) : Rp a.S ((p, Is (HO.xd [("number", V.int (1 + (W.length : Int) + 1 + w3))])) :: SE a o dx qc r qw m b u c C W L) _ _)
    repeat' walk_at "y 1"
    refine repr_ok F20 (r1) ?_
    repeat' walk_at "y 1"
    refine repr_ok F20 (r1) ?_
    repeat' walk_at "y 1"
    refine only_num F20 (p := p) (.head _) ?_
    repeat' walk_at "y 1"
    exact k _ (FH.sub F20 (by walk_at "y sub"))
  · rename_i q1 H3 _ F3 q2 H4 _ F4 q3 H5 _ F5
    clear F2 F3 F4
    have hall := knd_all (S := a.S) (q1 := q1) (q2 := q2)
    have hlen : [V.non, V.bl true, V.str "1", V.ref q1, V.ref q2].length = 5 := rfl
    generalize [V.non, V.bl true, V.str "1", V.ref q1, V.ref q2] = os at *
    refine draw_ok F5 Mm.m (by decide) (by decide) fun w4 H6 w40 w41 F6 => ?_
    clear F5
    have hg := List.getElem?_eq_getElem (l := os) (i := w4.toNat) (by omega)
    obtain ⟨hkn, dk, hkr⟩ := hall _ (List.getElem_mem (l := os) (n := w4.toNat) (by omega))
    generalize os[w4.toNat] = kv at hg hkn hkr
    haveI : AtE os w4 kv := ⟨atI_at (by omega) hg⟩
    have hs : ∀ e ∈ [(q1, Is (HO.tup [V.int 1])), (q2, Is (HO.lst [V.int 1]))], e ∈ (q3, Is (HO.lst os)) :: (q2, Is (HO.lst [V.int 1])) :: (q1, Is (HO.tup [V.int 1])) :: SE a o dx qc r qw m b u c C W L := by
      intro e m
      simp only [List.mem_cons, List.not_mem_nil, or_false] at m
      rcases m with rfl | rfl
      · exact .tail _ (.tail _ (.head _))
      · exact .tail _ (.head _)
    repeat' walk_at "y 1"
    refine release_bad F6 (o := o) (dx := dx) (qc := qc) (m := m) (b := b) (e := 1 + (W.length : Int)) (c := c) (u := u) Mm.m (.inl (hkn.mono hs)) fun p H20 F20 => ?_
    have r1 := hkr.mono fun e m => List.mem_cons_of_mem (p, Is (HO.xd [("number", kv)])) (hs e m)
    repeat' walk_at "y 1"
    refine repr_ok F20 (r1) ?_
    repeat' walk_at "y 1"
    refine repr_ok F20 (r1) ?_
    repeat' walk_at "y 1"
    refine only_num F20 (p := p) (.head _) ?_
    repeat' walk_at "y 1"
    exact k _ (FH.sub F20 (by walk_at "y sub"))
theorem cut_refused_ok (F : FH H (SE a o dx qc r qw m b u c C W L)) (mx : (x, Box) ∈ L) (ok : OK m b C W) (k : ∀ H', FH H' (SE a o dx qc r qw m b u c C W L) → Q (.bl true) H') : sp_cut_refused a [.ref x, .ref o, .ref r] H Q E := by
  have i0 := Mm.mk mx
  have hb := ok.hb
  have hw := ok.hw
  refine in_cut_refused ?_
  repeat' walk_at "y 1"
  refine draw_ok F Mm.m (by decide) (by decide) fun w1 H1 w10 w11 F1 => ?_
  clear F
  repeat' walk_at "y 1"
  refine draw_ok F1 Mm.m (by decide) (by decide) fun w2 H2 w20 w21 F2 => ?_
  clear F1
  repeat' walk_at "y 1"
  refine draw_ok F2 Mm.m (by omega) (by omega) fun w3 H30 w30 w31 F30 => ?_
  clear F2
  repeat' walk_at "y 1"
  rename_i q1 H3 _ F3 q2 H4 _ F4 q3 H5 _ F5
  clear F30 F3 F4
  have hall := knd_all (S := a.S) (q1 := q1) (q2 := q2)
  have hlen : [V.non, V.bl true, V.str "1", V.ref q1, V.ref q2].length = 5 := rfl
  generalize [V.non, V.bl true, V.str "1", V.ref q1, V.ref q2] = os at *
  refine draw_ok F5 Mm.m (by decide) (by decide) fun w4 H6 w40 w41 F6 => ?_
  clear F5
  have hg := List.getElem?_eq_getElem (l := os) (i := w4.toNat) (by omega)
  obtain ⟨hkn, dk, hkr⟩ := hall _ (List.getElem_mem (l := os) (n := w4.toNat) (by omega))
  generalize os[w4.toNat] = kv at hg hkn hkr
  haveI : AtE os w4 kv := ⟨atI_at (by omega) hg⟩
  have hs : ∀ e ∈ [(q1, Is (HO.tup [V.int 1])), (q2, Is (HO.lst [V.int 1]))], e ∈ (q3, Is (HO.lst os)) :: (q2, Is (HO.lst [V.int 1])) :: (q1, Is (HO.tup [V.int 1])) :: SE a o dx qc r qw m b u c C W L := by
    intro e m
    simp only [List.mem_cons, List.not_mem_nil, or_false] at m
    rcases m with rfl | rfl
    · exact .tail _ (.tail _ (.head _))
    · exact .tail _ (.head _)
  repeat' walk_at "y 1"
  refine draw_ok F6 Mm.m (by decide) (by decide) fun w5 H7 w50 w51 F7 => ?_
  clear F6
  have hs2 : ∀ e ∈ [(q1, Is (HO.tup [V.int 1])), (q2, Is (HO.lst [V.int 1]))], ∀ e1 e2 e3 : Ent, e ∈ e1 :: e2 :: e3 :: (q3, Is (HO.lst os)) :: (q2, Is (HO.lst [V.int 1])) :: (q1, Is (HO.tup [V.int 1])) :: SE a o dx qc r qw m b u c C W L := fun e m _ _ _ => .tail _ (.tail _ (.tail _ (hs e m)))
  have hw5 : w5 = 0 ∨ w5 = 1 ∨ w5 = 2 ∨ w5 = 3 ∨ w5 = 4 ∨ w5 = 5 ∨ w5 = 6 := by omega
  rcases hw5 with rfl | rfl | rfl | rfl | rfl | rfl | rfl
  all_goals
    repeat' walk_at "y 1"
    rename_i F8
    refine draw_ok F8 Mm.m (by decide) (by decide) fun w6 H9 w60 w61 F9 => ?_
    clear F7 F8
    repeat' walk_at "y 1"
    rename_i F10
  · refine cut_low F10 (o := o) (dx := dx) (qc := qc) (m := m) (b := b) (e := 1 + (W.length : Int)) (c := c) (u := u) Mm.m (.inr ⟨_, rfl, by omega⟩) fun p H20 F20 => ?_
    have r1 := fun X : List Ent => (rp_at (.int (b - 1 - w1) (by omega)) : Rp a.S X (V.int (b - 1 - w1)) _)
    repeat' walk_at "y 1"
    refine repr_ok F20 (r1 _) ?_
    repeat' walk_at "y 1"
    refine repr_ok F20 (r1 _) ?_
    repeat' walk_at "y 1"
    refine only_num F20 (p := p) (.head _) ?_
    repeat' walk_at "y 1"
    exact k _ (FH.sub F20 (by walk_at "y sub"))
  · refine cut_low F10 (o := o) (dx := dx) (qc := qc) (m := m) (b := b) (e := 1 + (W.length : Int)) (c := c) (u := u) Mm.m (.inr ⟨_, rfl, by omega⟩) fun p H20 F20 => ?_
    have r1 := fun X : List Ent => (rp_at (.int (1 + (W.length : Int) + 1 + w2) (by omega)) : Rp a.S X (V.int (1 + (W.length : Int) + 1 + w2)) _)
    repeat' walk_at "y 1"
    refine repr_ok F20 (r1 _) ?_
    repeat' walk_at "y 1"
    refine repr_ok F20 (r1 _) ?_
    repeat' walk_at "y 1"
    refine only_num F20 (p := p) (.head _) ?_
    repeat' walk_at "y 1"
    exact k _ (FH.sub F20 (by walk_at "y sub"))
  · refine cut_high F10 (o := o) (dx := dx) (qc := qc) (m := m) (b := b) (e := 1 + (W.length : Int)) (c := c) (u := u) Mm.m (by omega) (.inr ⟨_, rfl, by omega⟩) fun p H20 F20 => ?_
    have r1 := fun X : List Ent => (rp_at (.int (b + w3 - 1 - w6) (by omega)) : Rp a.S X (V.int (b + w3 - 1 - w6)) _)
    repeat' walk_at "y 1"
    refine repr_ok F20 (r1 _) ?_
    repeat' walk_at "y 1"
    refine repr_ok F20 (r1 _) ?_
    repeat' walk_at "y 1"
    refine only_num F20 (p := p) (.head _) ?_
    repeat' walk_at "y 1"
    exact k _ (FH.sub F20 (by walk_at "y sub"))
  · refine cut_high F10 (o := o) (dx := dx) (qc := qc) (m := m) (b := b) (e := 1 + (W.length : Int)) (c := c) (u := u) Mm.m (by omega) (.inr ⟨_, rfl, by omega⟩) fun p H20 F20 => ?_
    have r1 := fun X : List Ent => (rp_at (.int (1 + (W.length : Int) + 1 + w2) (by omega)) : Rp a.S X (V.int (1 + (W.length : Int) + 1 + w2)) _)
    repeat' walk_at "y 1"
    refine repr_ok F20 (r1 _) ?_
    repeat' walk_at "y 1"
    refine repr_ok F20 (r1 _) ?_
    repeat' walk_at "y 1"
    refine only_num F20 (p := p) (.head _) ?_
    repeat' walk_at "y 1"
    exact k _ (FH.sub F20 (by walk_at "y sub"))
  · refine cut_low F10 (o := o) (dx := dx) (qc := qc) (m := m) (b := b) (e := 1 + (W.length : Int)) (c := c) (u := u) Mm.m (.inr ⟨_, rfl, by omega⟩) fun p H20 F20 => ?_
    have r1 := fun X : List Ent => (rp_at (.int (b - 1 - w1) (by omega)) : Rp a.S X (V.int (b - 1 - w1)) _)
    repeat' walk_at "y 1"
    refine repr_ok F20 (r1 _) ?_
    repeat' walk_at "y 1"
    refine repr_ok F20 (r1 _) ?_
    repeat' walk_at "y 1"
    refine only_num F20 (p := p) (.head _) ?_
    repeat' walk_at "y 1"
    exact k _ (FH.sub F20 (by walk_at "y sub"))
  · refine cut_low F10 (o := o) (dx := dx) (qc := qc) (m := m) (b := b) (e := 1 + (W.length : Int)) (c := c) (u := u) Mm.m (.inl (hkn.mono fun e m => hs2 e m _ _ _)) fun p H20 F20 => ?_
    have r1 := fun e1 e2 e3 : Ent => hkr.mono fun e m => List.mem_cons_of_mem (p, Is (HO.xd [("number", kv)])) (hs2 e m e1 e2 e3)
    repeat' walk_at "y 1"
    refine repr_ok F20 (r1 _ _ _) ?_
    repeat' walk_at "y 1"
    refine repr_ok F20 (r1 _ _ _) ?_
    repeat' walk_at "y 1"
    refine only_num F20 (p := p) (.head _) ?_
    repeat' walk_at "y 1"
    exact k _ (FH.sub F20 (by walk_at "y sub"))
  · refine cut_high F10 (o := o) (dx := dx) (qc := qc) (m := m) (b := b) (e := 1 + (W.length : Int)) (c := c) (u := u) Mm.m (by omega) (.inl (hkn.mono fun e m => hs2 e m _ _ _)) fun p H20 F20 => ?_
    have r1 := fun e1 e2 e3 : Ent => hkr.mono fun e m => List.mem_cons_of_mem (p, Is (HO.xd [("number", kv)])) (hs2 e m e1 e2 e3)
    repeat' walk_at "y 1"
    refine repr_ok F20 (r1 _ _ _) ?_
    repeat' walk_at "y 1"
    refine repr_ok F20 (r1 _ _ _) ?_
    repeat' walk_at "y 1"
    refine only_num F20 (p := p) (.head _) ?_
    repeat' walk_at "y 1"
    exact k _ (FH.sub F20 (by walk_at "y sub"))
end

end
section
set_option synthInstance.checkSynthOrder false
/-! one deed -/
local macro_rules | `(tactic| walk_at "y sub") => `(tactic| (refine List.Sublist.trans ?_ (List.sublist_append_right _ _); walk_at "y sub"))
section
variable {a : Cl} {H : Hp} {L : List Ent} {o dx qc r qw x : Addr} {m b u : Int} {c g : Bool} {C W : List Int} {Q : VK} {E : XK}
theorem se_front {N L' : List Ent} (F : FH H L) [t1 : TkC (lE qw (W.map V.int)) L N] {N2 : List Ent} [t2 : TkC (rE r m qw b c u) N N2] {N3 : List Ent} [t3 : TkC (lE qc (C.map V.int)) N2 N3] [t4 : TkC (oE a o dx qc m b (1 + (W.length : Int)) c u) N3 L'] : FH H (SE a o dx qc r qw m b u c C W L') := by
  have p : L.Perm (SE a o dx qc r qw m b u c C W L') := by
    refine t1.p.trans (((t2.p.cons _).trans (.swap _ _ _)).trans ?_)
    refine ((((t3.p.cons _).trans (.swap _ _ _)).cons _)).trans ((List.Perm.swap _ _ _).trans ?_)
    refine (((((t4.p.cons _).trans (.swap _ _ _)).cons _).trans (.swap _ _ _)).cons _).trans ((List.Perm.swap _ _ _).trans ?_)
    exact .refl _
  exact F.perm p
theorem deed_ok (F : FH H (SE a o dx qc r qw m b u c C W L)) (mx : (x, Box) ∈ L) (ok : OK m b C W) (hW : W.length ≤ 60000)
    (k : ∀ qc' qw' m' b' u' c' C' W' N H', OK m' b' C' W' → W'.length ≤ W.length + 1000 → FH H' (SE a o dx qc' r qw' m' b' u' c' C' W' (N ++ L)) → Q (.bl true) H') : sp_deed a [.ref x, .ref o, .ref r] H Q E := by
  have i0 := Mm.mk mx
  have hb := ok.hb
  have hw := ok.hw
  refine in_deed ?_
  repeat' walk_at "y 1"
  refine draw_ok F Mm.m (by decide) (by decide) fun w1 H1 w10 w11 F1 => ?_
  clear F
  repeat' (first | walk_at "y 1" | walk_at "y if")
  · refine bytes_ok F1 Mm.m (by decide) fun D xs H2 hbx hxl F2 => ?_
    clear F1
    repeat' walk_at "y 1"
    refine draw_ok F2 Mm.m (by decide) (by decide) fun w2 H3 w20 w21 F3 => ?_
    clear F2
    repeat' (first | walk_at "y 1" | walk_at "y if")
    · rename_i F4
      refine adds_t (se_front (a := a) (o := o) (dx := dx) (qc := qc) (r := r) (qw := qw) (m := m) (b := b) (u := u) (c := c) (C := C) (W := W) F4) ok (by omega) Mm.m hbx hxl fun qc' qw' u' C' W' N H' ok' hl F5 => ?_
      repeat' walk_at "y 1"
      exact k qc' qw' m b u' c C' W' [] _ ok' hl (FH.sub F5 (by walk_at "y sub"))
    · refine adds_l (se_front (a := a) (o := o) (dx := dx) (qc := qc) (r := r) (qw := qw) (m := m) (b := b) (u := u) (c := c) (C := C) (W := W) F3) ok (by omega) hbx hxl fun qc' qw' u' C' W' N H' ok' hl F5 => ?_
      repeat' walk_at "y 1"
      exact k qc' qw' m b u' c C' W' [] _ ok' hl (FH.sub F5 (by walk_at "y sub"))
  · refine cuts_ok F1 mx ok fun H2 F2 => ?_
    exact k qc qw m b u c C W [] _ ok (by omega) F2
  · refine releases_ok F1 mx ok fun b' qc' C' H2 ok' F2 => ?_
    exact k qc' qw m b' u c C' W [] _ ok' (by omega) F2
  · refine limit_ok F1 Mm.m fun l H2 hl F2 => ?_
    clear F1
    repeat' walk_at "y 1"
    rename_i F3
    refine resize_ok F3 hl fun H4 F4 => ?_
    repeat' walk_at "y 1"
    exact k qc qw l b u c C W [] _ ⟨hl, ok.hb, ok.hc, ok.hw⟩ (by omega) F4
  · refine draw_ok F1 Mm.m (by decide) (by decide) fun w2 H3 w20 w21 F3 => ?_
    clear F1
    repeat' (first | walk_at "y 1" | walk_at "y if")
    · exact k qc qw m b u c C W [] _ ok (by omega) F3
    · rename_i F4
      refine shut_ok F4 fun H5 F5 => ?_
      repeat' walk_at "y 1"
      exact k qc qw m b u true C W [] _ ok (by omega) F5
  · refine bad_data_ok F1 Mm.m fun D v w d N H2 hv hr F2 => ?_
    clear F1
    repeat' walk_at "y 1"
    refine data_refused_ok (se_front (a := a) (o := o) (dx := dx) (qc := qc) (r := r) (qw := qw) (m := m) (b := b) (u := u) (c := c) (C := C) (W := W) F2) (hv.mono fun e m => .tail _ (List.mem_append_left _ m)) (hr.mono fun e m => .tail _ (List.mem_append_left _ m)) fun H5 F5 => ?_
    exact k qc qw m b u c C W [] _ ok (by omega) (FH.sub F5 (by walk_at "y sub"))
  · refine cut_refused_ok F1 mx ok fun H2 F2 => ?_
    repeat' walk_at "y 1"
    refine release_refused_ok F2 mx ok fun H3 F3 => ?_
    repeat' walk_at "y 1"
    exact k qc qw m b u c C W [] _ ok (by omega) F3
  · refine limit_refused_ok F1 mx fun H2 F2 => ?_
    repeat' walk_at "y 1"
    exact k qc qw m b u c C W [] _ ok (by omega) F2
end

end
section
set_option synthInstance.checkSynthOrder false
/-! one buffer with its record, two of them -/
local macro_rules | `(tactic| walk_at "y sub") => `(tactic| (refine List.Sublist.trans ?_ (List.sublist_append_right _ _); walk_at "y sub"))
def Buf (a : Cl) (o dx r : Addr) (n : Nat) (N : List Ent) : Prop := ∃ qc qw m b u c C W, OK m b C W ∧ W.length ≤ n ∧ N = [oE a o dx qc m b (1 + (W.length : Int)) c u, lE qc (C.map V.int), rE r m qw b c u, lE qw (W.map V.int)]
theorem Buf.mono {a : Cl} {o dx r : Addr} {n n' : Nat} {N : List Ent} (h : Buf a o dx r n N) (hn : n ≤ n') : Buf a o dx r n' N := by
  obtain ⟨qc, qw, m, b, u, c, C, W, ok, hl, e⟩ := h
  exact ⟨qc, qw, m, b, u, c, C, W, ok, by omega, e⟩
theorem pick {a : Cl} {o0 dx0 r0 o1 dx1 r1 : Addr} {n i : Nat} {N0 N1 : List Ent} (hi : i < 2) (B0 : Buf a o0 dx0 r0 n N0) (B1 : Buf a o1 dx1 r1 n N1) : ∃ o dx r N N', Buf a o dx r n N ∧ (∀ M, (N0 ++ (N1 ++ M)).Perm (N ++ (N' ++ M))) ∧ AtE [.ref o0, .ref o1] (i : Int) (.ref o) ∧ AtE [.ref r0, .ref r1] (i : Int) (.ref r) ∧
    ∀ n' N2, n ≤ n' → Buf a o dx r n' N2 → ∃ K0 K1, Buf a o0 dx0 r0 n' K0 ∧ Buf a o1 dx1 r1 n' K1 ∧ ∀ M, (N2 ++ (N' ++ M)).Perm (K0 ++ (K1 ++ M)) := by
  rcases (by omega : i = 0 ∨ i = 1) with rfl | rfl
  · exact ⟨o0, dx0, r0, N0, N1, B0, fun M => .refl _, ⟨atI_nat rfl⟩, ⟨atI_nat rfl⟩, fun n' N2 hn B => ⟨N2, N1, B, B1.mono hn, fun M => .refl _⟩⟩
  · exact ⟨o1, dx1, r1, N1, N0, B1, fun M => List.perm_append_comm_assoc _ _ _, ⟨atI_nat rfl⟩, ⟨atI_nat rfl⟩, fun n' N2 hn B => ⟨N0, N2, B0.mono hn, B, fun M => List.perm_append_comm_assoc _ _ _⟩⟩
section
variable {a : Cl} {H : Hp} {L N : List Ent} {o dx r x : Addr} {n : Nat} {Q : VK} {E : XK}
theorem deedB (F : FH H (N ++ L)) (B : Buf a o dx r n N) (mx : (x, Box) ∈ L) (hn : n ≤ 60000) (k : ∀ N2 N' H', Buf a o dx r (n + 1000) N2 → FH H' (N2 ++ (N' ++ L)) → Q (.bl true) H') : sp_deed a [.ref x, .ref o, .ref r] H Q E := by
  obtain ⟨qc, qw, m, b, u, c, C, W, ok, hl, rfl⟩ := B
  exact deed_ok F mx ok (by omega) fun qc' qw' m' b' u' c' C' W' N H' ok' hl' F' => k _ N H' ⟨qc', qw', m', b', u', c', C', W', ok', by omega, rfl⟩ F'
theorem stateB (F : FH H (N ++ L)) (B : Buf a o dx r n N) (hn : n ≤ 80000) (k : ∀ H', FH H' (N ++ L) → Q (.bl true) H') : sp_state a [.ref o, .ref r] H Q E := by
  obtain ⟨qc, qw, m, b, u, c, C, W, ok, hl, rfl⟩ := B
  exact state_ok F (by omega) k
end

set_option synthInstance.checkSynthOrder false
/-! the law -/
local macro_rules | `(tactic| walk_at "y sub") => `(tactic| (refine List.Sublist.trans ?_ (List.sublist_append_right _ _); walk_at "y sub"))
theorem se_front0 {a : Cl} {H : Hp} {L N L' : List Ent} {o dx qc r qw : Addr} {m : Int} (F : FH H L) [t1 : TkC (qw, Is (.lst [])) L N] {N2 : List Ent} [t2 : TkC (rE r m qw 1 false 0) N N2] {N3 : List Ent} [t3 : TkC (qc, Is (.lst [])) N2 N3] [t4 : TkC (oE a o dx qc m 1 1 false 0) N3 L'] : FH H (SE a o dx qc r qw m 1 0 false [] [] L') := by
  haveI : TkC (lE qw (([] : List Int).map V.int)) L N := t1
  haveI : TkC (lE qc (([] : List Int).map V.int)) N2 N3 := t3
  haveI : TkC (oE a o dx qc m 1 (1 + (([] : List Int).length : Int)) false 0) N3 L' := t4
  exact se_front (N := N) (N2 := N2) (N3 := N3) F
theorem keys_nd {m b u qw c : V} : (([(.inr "limit", m), (.inr "content", qw), (.inr "base", b), (.inr "closed", c), (.inr "urgent", u)] : Kvs).map (·.1)).Nodup := by
  show ([.inr "limit", .inr "content", .inr "base", .inr "closed", .inr "urgent"] : List (Int ⊕ Str)).Nodup
  decide
theorem law_ok {a : Cl} {H : Hp} {L : List Ent} {q0 : Addr} {ns : List Int} {Q : VK} {E : XK} (F : FH H L) (m : Src a.S L q0 (ns.map V.int)) (k : ∀ H', Q (.bl true) H') : sp_law a [.ref q0] H Q E := by
  have unr : Unr := ⟨trivial⟩
  refine in_law ?_
  repeat' walk_at "y 1"
  refine box_ok F m fun x H1 F1 => ?_
  clear F
  repeat' walk_at "y 1"
  rename_i st H2 _ F2 pr H3 _ F3
  clear F1 F2
  refine draw_ok F3 Mm.m (by decide) (by decide) fun mr H4 m0 m1 F4 => ?_
  clear F3
  repeat' walk_at "y 1"
  refine limit_ok F4 Mm.m fun l0 H5 hl0 F5 => ?_
  clear F4
  repeat' walk_at "y 1"
  rename_i r0 H6 F6 qw0 H7 _ F7
  clear F5 F6
  refine recF_ok F7 Mm.m Put.here.there (by simp) keys_nd fun H8 F8 => ?_
  clear F7
  repeat' walk_at "y 1"
  rename_i o0 dx0 H9 F9
  refine init_ok F9 hl0 fun qc0 H10 F10 => ?_
  repeat' walk_at "y 1"
  rename_i F11
  have F12 := se_front0 (a := a) (o := o0) (dx := dx0) (qc := qc0) (r := r0) (qw := qw0) (m := l0) F11
  refine state_ok F12 (by decide) fun H13 F13 => ?_
  clear F8 F9 F10 F11 F12
  repeat' walk_at "y 1"
  refine limit_ok F13 Mm.m fun l1 H14 hl1 F14 => ?_
  clear F13
  repeat' walk_at "y 1"
  rename_i r1 H15 F15 qw1 H16 _ F16
  clear F14 F15
  refine recF_ok F16 Mm.m Put.here.there (by simp) keys_nd fun H17 F17 => ?_
  clear F16
  repeat' walk_at "y 1"
  rename_i o1 dx1 H18 F18
  refine init_ok F18 hl1 fun qc1 H19 F19 => ?_
  repeat' walk_at "y 1"
  rename_i F20
  have F21 := se_front0 (a := a) (o := o1) (dx := dx1) (qc := qc1) (r := r1) (qw := qw1) (m := l1) F20
  refine state_ok F21 (by decide) fun H22 F22 => ?_
  clear F17 F18 F19 F20 F21
  clear unr
  obtain ⟨N0, N1, M, B0, B1, ix, is, ip, F23⟩ : ∃ N0 N1 M, Buf a o0 dx0 r0 0 N0 ∧ Buf a o1 dx1 r1 0 N1 ∧ Mm (x, Box) M ∧ Mm (lE st [.ref r0, .ref r1]) M ∧ Mm (lE pr [.ref o0, .ref o1]) M ∧ FH H22 (N0 ++ (N1 ++ M)) := by
    have B0 : Buf a o0 dx0 r0 0 [oE a o0 dx0 qc0 l0 1 1 false 0, lE qc0 [], rE r0 l0 qw0 1 false 0, lE qw0 []] := ⟨qc0, qw0, l0, 1, 0, false, [], [], ⟨hl0, by decide, rfl, by decide⟩, by decide, rfl⟩
    have B1 : Buf a o1 dx1 r1 0 [oE a o1 dx1 qc1 l1 1 1 false 0, lE qc1 [], rE r1 l1 qw1 1 false 0, lE qw1 []] := ⟨qc1, qw1, l1, 1, 0, false, [], [], ⟨hl1, by decide, rfl, by decide⟩, by decide, rfl⟩
    exact ⟨_, _, _, B0, B1, inferInstance, inferInstance, inferInstance, F22.perm (List.perm_append_comm_assoc [oE a o1 dx1 qc1 l1 1 1 false 0, lE qc1 [], rE r1 l1 qw1 1 false 0, lE qw1 []] [oE a o0 dx0 qc0 l0 1 1 false 0, lE qc0 [], rE r0 l0 qw0 1 false 0, lE qw0 []] _)⟩
  clear F22
  repeat' walk_at "y 1"
  refine forG (fun i σ H' => ∃ N0 N1 N x5 x6 x7 x8, σ = [some (.ref q0), some (.ref x), some (.ref st), some (.ref pr), some (.int (4 + mr)), x5, x6, x7, x8] ∧ Buf a o0 dx0 r0 (1000 * i) N0 ∧ Buf a o1 dx1 r1 (1000 * i) N1 ∧ FH H' (N0 ++ (N1 ++ (N ++ M)))) (by omega) (by omega) ⟨N0, N1, [], _, _, _, _, rfl, B0, B1, F23⟩ (fun i σ H' hi' hP => ?_) fun σ H' hP => ?_
  · obtain ⟨N0, N1, N, x5, x6, x7, x8, rfl, B0, B1, F1⟩ := hP
    clear F23
    repeat' walk_at "y 1"
    refine draw_ok F1 Mm.m (by decide) (by decide) fun w H2 w0 w1 F2 => ?_
    clear F1
    obtain ⟨n, rfl⟩ := Int.eq_ofNat_of_zero_le w0
    obtain ⟨o, dx, r, K, K', B, hp, ao, ar, put⟩ := pick (i := n) (by omega) B0 B1
    have F3 := F2.perm (hp _)
    clear F2
    repeat' walk_at "y 1"
    refine deedB F3 B Mm.m (by omega) fun K2 N2 H3 B2 F4 => ?_
    clear F3
    repeat' walk_at "y 1"
    refine draw_ok F4 Mm.m (by decide) (by decide) fun w2 H4 w20 w21 F5 => ?_
    clear F4
    obtain ⟨J0, J1, C0, C1, hq⟩ := put _ K2 (by omega) B2
    have fin : ∀ H', FH H' (K2 ++ (N2 ++ (K' ++ (N ++ M)))) → FH H' (J0 ++ (J1 ++ ((N2 ++ N) ++ M))) := fun H' F => by
      have p := hq ((N2 ++ N) ++ M)
      refine F.perm (List.Perm.trans (List.Perm.append_left K2 ?_) p)
      rw [List.append_assoc]
      exact List.perm_append_comm_assoc _ _ _
    rw [← Nat.mul_succ] at C0 C1
    repeat' (first | walk_at "y 1" | walk_at "y if")
    · refine stateB F5 B2 (by omega) fun H5 F6 => ?_
      clear F5
      repeat' walk_at "y 1"
      exact ⟨J0, J1, N2 ++ N, _, _, _, _, rfl, C0, C1, fin _ F6⟩
    · exact ⟨J0, J1, N2 ++ N, _, _, _, _, rfl, C0, C1, fin _ F5⟩
  obtain ⟨N0, N1, N, x5, x6, x7, x8, rfl, B0, B1, F24⟩ := hP
  clear F23
  replace B0 := B0.mono (n' := 19000) (by omega)
  replace B1 := B1.mono (n' := 19000) (by omega)
  have jx : Mm (x, Box) (N ++ M) := inferInstance
  have js : Mm (lE st [.ref r0, .ref r1]) (N ++ M) := inferInstance
  have jp : Mm (lE pr [.ref o0, .ref o1]) (N ++ M) := inferInstance
  clear ix is ip
  generalize N ++ M = M at jx js jp F24
  repeat' walk_at "y 1"
  refine forG (fun i σ H' => ∃ N0 N1 N x5 x6 x7 x8, σ = [some (.ref q0), some (.ref x), some (.ref st), some (.ref pr), some (.int (4 + mr)), x5, x6, x7, x8] ∧ Buf a o0 dx0 r0 (19000 + 1000 * i) N0 ∧ Buf a o1 dx1 r1 (19000 + 1000 * i) N1 ∧ FH H' (N0 ++ (N1 ++ (N ++ M)))) (by omega) (by omega) ⟨N0, N1, [], _, _, _, _, rfl, B0, B1, F24⟩ (fun i σ H' hi' hP => ?_) fun σ H' hP => ?_
  · obtain ⟨N0, N1, N, x5, x6, x7, x8, rfl, B0, B1, F1⟩ := hP
    clear F24
    obtain ⟨o, dx, r, K, K', ⟨qc, qw, m, b, u, c, C, W, ok, hl, rfl⟩, hp, ao, ar, put⟩ := pick (i := i) (by omega) B0 B1
    have F2 : FH H' (SE a o dx qc r qw m b u c C W (K' ++ (N ++ M))) := F1.perm (hp _)
    clear F1 hp
    repeat' walk_at "y 1"
    refine state_ok F2 (by omega) fun H3 F3 => ?_
    clear F2
    repeat' walk_at "y 1"
    refine cuts_ok F3 Mm.m ok fun H4 F4 => ?_
    clear F3
    repeat' walk_at "y 1"
    refine shut_ok F4 fun H5 F5 => ?_
    clear F4
    repeat' walk_at "y 1"
    refine shut_ok F5 fun H6 F6 => ?_
    clear F5
    repeat' walk_at "y 1"
    rename_i H7 F7
    refine state_ok F7 (by omega) fun H8 F8 => ?_
    clear F6 F7
    repeat' walk_at "y 1"
    rename_i d H9 _ F9
    clear F8
    have F10 := se_front (a := a) (o := o) (dx := dx) (qc := qc) (r := r) (qw := qw) (m := m) (b := b) (u := u) (c := true) (C := C) (W := W) F9
    refine adds_l (xs := []) F10 ok (by omega) (fun _ z => by cases z) (by decide) fun qc' qw' u' C' W' N2 H11 ok' hl' F11 => ?_
    clear F9 F10
    repeat' walk_at "y 1"
    refine bad_data_ok F11 Mm.m fun D v w d N3 H12 hv hr F12 => ?_
    clear F11
    repeat' walk_at "y 1"
    refine data_refused_ok (se_front (a := a) (o := o) (dx := dx) (qc := qc') (r := r) (qw := qw') (m := m) (b := b) (u := u') (c := true) (C := C') (W := W') F12) (hv.mono fun e m => .tail _ (List.mem_append_left _ m)) (hr.mono fun e m => .tail _ (List.mem_append_left _ m)) fun H13 F13 => ?_
    clear F12
    repeat' walk_at "y 1"
    refine state_ok F13 (by omega) fun H14 F14 => ?_
    clear F13
    repeat' walk_at "y 1"
    refine cuts_ok F14 Mm.m ok' fun H15 F15 => ?_
    clear F14
    repeat' walk_at "y 1"
    obtain ⟨J0, J1, C0, C1, hq⟩ := put (19000 + 1000 * (i + 1)) [oE a o dx qc' m b (1 + (W'.length : Int)) true u', lE qc' (C'.map V.int), rE r m qw' b true u', lE qw' (W'.map V.int)] (by omega) ⟨qc', qw', m, b, u', true, C', W', ok', by omega, rfl⟩
    refine ⟨J0, J1, (lE D [v, w] :: (N3 ++ N2)) ++ N, _, _, _, _, rfl, C0, C1, ?_⟩
    refine F15.perm (List.Perm.trans (List.Perm.append_left [oE a o dx qc' m b (1 + (W'.length : Int)) true u', lE qc' (C'.map V.int), rE r m qw' b true u', lE qw' (W'.map V.int)] ?_) (hq _))
    have p := List.perm_append_comm_assoc (lE D [v, w] :: (N3 ++ N2)) K' (N ++ M)
    simpa [List.append_assoc] using p
  repeat' walk_at "y 1"
  exact k _
theorem law_holds (a : Cl) {K : PySem.W.Frag} (st : a.S = SK K) (vs : List V) (H : Hp) (Q : VK) (E : XK) (h : ∃ (p : Addr) (ns : List Int), vs = [.ref p] ∧ SqL K H p (ns.map V.int) ∧ ns.length ≤ 63 ∧ Only H ∧ ∀ H', Q (.bl true) H') : sp_law a vs H Q E := by
  obtain ⟨p, ns, rfl, hS, hl, hO, k⟩ := h
  obtain ⟨L, F, m⟩ := src_of st hS
  exact law_ok F m k

end
/-! ### the text, by places -/
abbrev top (i : Nat) : Stmt := PySem.Challenge.pw_lossway_k11_outbox_history.main.body.getD i (.Pass ⟨0, 0, 0, 0⟩)
structure Ad extends Cl where
  f_box : Addr
  d_box : FuncData
  f_draw : Addr
  d_draw : FuncData
  f_limit : Addr
  d_limit : FuncData
  f_is_whole : Addr
  d_is_whole : FuncData
  f_in_range : Addr
  d_in_range : FuncData
  f_checked_limit : Addr
  d_checked_limit : FuncData
  f_Outbox_limit_set : Addr
  d_Outbox_limit_set : FuncData
  f_Outbox___init__ : Addr
  d_Outbox___init__ : FuncData
  f_Outbox_free : Addr
  d_Outbox_free : FuncData
  f_Outbox_limit : Addr
  d_Outbox_limit : FuncData
  f_Outbox_bound : Addr
  d_Outbox_bound : FuncData
  f_l_is_whole : Addr
  d_l_is_whole : FuncData
  f_state : Addr
  d_state : FuncData
  f_bytes : Addr
  d_bytes : FuncData
  f_is_row : Addr
  d_is_row : FuncData
  f_as_data : Addr
  d_as_data : FuncData
  f_Outbox_put : Addr
  d_Outbox_put : FuncData
  f_Outbox_urge : Addr
  d_Outbox_urge : FuncData
  f_only : Addr
  d_only : FuncData
  f_adds : Addr
  d_adds : FuncData
  f_tuple_is : Addr
  d_tuple_is : FuncData
  f_Outbox_cut : Addr
  d_Outbox_cut : FuncData
  f_cuts : Addr
  d_cuts : FuncData
  f_Outbox_release : Addr
  d_Outbox_release : FuncData
  f_releases : Addr
  d_releases : FuncData
  f_Outbox_resize : Addr
  d_Outbox_resize : FuncData
  f_Outbox_shut : Addr
  d_Outbox_shut : FuncData
  f_bad_data : Addr
  d_bad_data : FuncData
  f_data_refused : Addr
  d_data_refused : FuncData
  f_cut_refused : Addr
  d_cut_refused : FuncData
  f_release_refused : Addr
  d_release_refused : FuncData
  f_limit_refused : Addr
  d_limit_refused : FuncData
  f_deed : Addr
  d_deed : FuncData
  f_law : Addr
  d_law : FuncData
  f_InvalidSetting___init__ : Addr
  d_InvalidSetting___init__ : FuncData
  f_NotAllowed___init__ : Addr
  d_NotAllowed___init__ : FuncData
  f_InvalidNumber___init__ : Addr
  d_InvalidNumber___init__ : FuncData
structure Txt (P : Program) (K : PySem.W.Frag) (mg : Str → Option Value) (a : Ad) : Prop where
  st : a.S = SK K
  no_list : mg "list" = none
  mg_box : mg "_law_box" = some (.ref a.f_box)
  bd_box : Binds K a.d_box ["_law_script"] []
  fn_box : Fun K "_law_box" "_law_box" (top 16) a.f_box a.d_box
  no_len : mg "len" = none
  no_abs : mg "abs" = none
  no_int : mg "int" = none
  mg_draw : mg "_law_draw" = some (.ref a.f_draw)
  bd_draw : Binds K a.d_draw ["_law_box_here", "_law_size"] []
  fn_draw : Fun K "_law_draw" "_law_draw" (top 17) a.f_draw a.d_draw
  no_range : mg "range" = none
  mg_limit : mg "_law_limit" = some (.ref a.f_limit)
  bd_limit : Binds K a.d_limit ["_law_box_here"] []
  fn_limit : Fun K "_law_limit" "_law_limit" (top 19) a.f_limit a.d_limit
  no_isinstance : mg "isinstance" = none
  no_bool : mg "bool" = none
  mg_is_whole : mg "is_whole" = some (.ref a.f_is_whole)
  bd_is_whole : Binds K a.d_is_whole ["value"] []
  fn_is_whole : Fun K "is_whole" "is_whole" (top 7) a.f_is_whole a.d_is_whole
  mg_in_range : mg "in_range" = some (.ref a.f_in_range)
  bd_in_range : Binds K a.d_in_range ["value", "low", "high"] []
  mg_GREATEST_LIMIT : ∃ t, mg "GREATEST_LIMIT" = some (.int 65535 t)
  fn_in_range : Fun K "in_range" "in_range" (top 9) a.f_in_range a.d_in_range
  oe_InvalidSetting : OexC K a.c_InvalidSetting
  ii_InvalidSetting_InvalidSetting : PySem.W.findIn K (.ref a.c_InvalidSetting) "__init__" = some (some (.ref a.f_InvalidSetting___init__))
  it_InvalidSetting : PySem.W.typeIn K (.ref a.f_InvalidSetting___init__) = some (.type "function")
  mg_InvalidSetting : mg "InvalidSetting" = some (.ref a.c_InvalidSetting)
  be_InvalidSetting : Binds K a.d_InvalidSetting___init__ ["self", "setting"] []
  mg_checked_limit : mg "checked_limit" = some (.ref a.f_checked_limit)
  bd_checked_limit : Binds K a.d_checked_limit ["limit"] []
  fn_checked_limit : Fun K "checked_limit" "checked_limit" (top 13) a.f_checked_limit a.d_checked_limit
  cl_Outbox : Cls K a.c_Outbox
  na_Outbox_capacity : NoAttr K a.c_Outbox "capacity"
  pset_Outbox_limit : ∃ p, PropSet K a.c_Outbox "limit" p a.f_Outbox_limit_set
  bd_Outbox_limit_set : Binds K a.d_Outbox_limit_set ["self", "value"] []
  na_Outbox_base : NoAttr K a.c_Outbox "base"
  na_Outbox_end : NoAttr K a.c_Outbox "end"
  na_Outbox_closed : NoAttr K a.c_Outbox "closed"
  na_Outbox_urgent_end : NoAttr K a.c_Outbox "urgent_end"
  na_Outbox_content : NoAttr K a.c_Outbox "content"
  mk_Outbox : Mk K a.c_Outbox a.f_Outbox___init__
  mg_Outbox : mg "Outbox" = some (.ref a.c_Outbox)
  bd_Outbox___init__ : Binds K a.d_Outbox___init__ ["self", "limit"] []
  no_max : mg "max" = none
  pp_Outbox_free : ∃ p, PropOf K a.c_Outbox "free" p a.f_Outbox_free
  bd_Outbox_free : Binds K a.d_Outbox_free ["self"] []
  pp_Outbox_limit : ∃ p, PropOf K a.c_Outbox "limit" p a.f_Outbox_limit
  bd_Outbox_limit : Binds K a.d_Outbox_limit ["self"] []
  pp_Outbox_bound : ∃ p, PropOf K a.c_Outbox "bound" p a.f_Outbox_bound
  bd_Outbox_bound : Binds K a.d_Outbox_bound ["self"] []
  mg_l_is_whole : mg "_law_is_whole" = some (.ref a.f_l_is_whole)
  bd_l_is_whole : Binds K a.d_l_is_whole ["_law_value"] []
  fn_l_is_whole : Fun K "_law_is_whole" "_law_is_whole" (top 18) a.f_l_is_whole a.d_l_is_whole
  mg_state : mg "_law_state" = some (.ref a.f_state)
  bd_state : Binds K a.d_state ["_law_outbox", "_law_state_here"] []
  fn_state : Fun K "_law_state" "_law_state" (top 22) a.f_state a.d_state
  mg_bytes : mg "_law_bytes" = some (.ref a.f_bytes)
  bd_bytes : Binds K a.d_bytes ["_law_box_here", "_law_most"] []
  fn_bytes : Fun K "_law_bytes" "_law_bytes" (top 20) a.f_bytes a.d_bytes
  no_min : mg "min" = none
  ex_NotAllowed_NotAllowed : PySem.W.exmOne K (.ref a.c_NotAllowed) (.ref a.c_NotAllowed) = some true
  oe_NotAllowed : OexC K a.c_NotAllowed
  ii_NotAllowed_NotAllowed : PySem.W.findIn K (.ref a.c_NotAllowed) "__init__" = some (some (.ref a.f_NotAllowed___init__))
  it_NotAllowed : PySem.W.typeIn K (.ref a.f_NotAllowed___init__) = some (.type "function")
  mg_NotAllowed : mg "NotAllowed" = some (.ref a.c_NotAllowed)
  be_NotAllowed : Binds K a.d_NotAllowed___init__ ["self", "state"] []
  no_tuple : mg "tuple" = none
  mg_is_row : mg "is_row" = some (.ref a.f_is_row)
  bd_is_row : Binds K a.d_is_row ["value"] []
  fn_is_row : Fun K "is_row" "is_row" (top 8) a.f_is_row a.d_is_row
  oe_InvalidNumber : OexC K a.c_InvalidNumber
  ii_InvalidNumber_InvalidNumber : PySem.W.findIn K (.ref a.c_InvalidNumber) "__init__" = some (some (.ref a.f_InvalidNumber___init__))
  it_InvalidNumber : PySem.W.typeIn K (.ref a.f_InvalidNumber___init__) = some (.type "function")
  mg_InvalidNumber : mg "InvalidNumber" = some (.ref a.c_InvalidNumber)
  be_InvalidNumber : Binds K a.d_InvalidNumber___init__ ["self", "number"] []
  mg_GREATEST_BYTE : ∃ t, mg "GREATEST_BYTE" = some (.int 255 t)
  mg_as_data : mg "as_data" = some (.ref a.f_as_data)
  bd_as_data : Binds K a.d_as_data ["value"] []
  fn_as_data : Fun K "as_data" "as_data" (top 10) a.f_as_data a.d_as_data
  mt_Outbox_put : Meth K a.c_Outbox "put" a.f_Outbox_put
  bd_Outbox_put : Binds K a.d_Outbox_put ["self", "data"] []
  mt_Outbox_urge : Meth K a.c_Outbox "urge" a.f_Outbox_urge
  bd_Outbox_urge : Binds K a.d_Outbox_urge ["self", "data"] []
  xf_NotAllowed_state : XfOk K a.c_NotAllowed "state"
  is_InvalidNumber_LossError : IsOk K (.ref a.c_InvalidNumber) (.ref a.c_LossError) true
  is_InvalidSetting_LossError : IsOk K (.ref a.c_InvalidSetting) (.ref a.c_LossError) true
  is_NotAllowed_LossError : IsOk K (.ref a.c_NotAllowed) (.ref a.c_LossError) true
  mg_LossError : mg "LossError" = some (.ref a.c_LossError)
  is_InvalidNumber_ValueError : IsOk K (.ref a.c_InvalidNumber) (.ty "ValueError") true
  is_InvalidSetting_ValueError : IsOk K (.ref a.c_InvalidSetting) (.ty "ValueError") true
  is_NotAllowed_ValueError : IsOk K (.ref a.c_NotAllowed) (.ty "ValueError") true
  no_ValueError : mg "ValueError" = none
  is_InvalidNumber_InvalidNumber : IsOk K (.ref a.c_InvalidNumber) (.ref a.c_InvalidNumber) true
  is_InvalidSetting_InvalidNumber : IsOk K (.ref a.c_InvalidSetting) (.ref a.c_InvalidNumber) false
  is_NotAllowed_InvalidNumber : IsOk K (.ref a.c_NotAllowed) (.ref a.c_InvalidNumber) false
  is_InvalidNumber_InvalidSetting : IsOk K (.ref a.c_InvalidNumber) (.ref a.c_InvalidSetting) false
  is_InvalidSetting_InvalidSetting : IsOk K (.ref a.c_InvalidSetting) (.ref a.c_InvalidSetting) true
  is_NotAllowed_InvalidSetting : IsOk K (.ref a.c_NotAllowed) (.ref a.c_InvalidSetting) false
  is_InvalidNumber_NotAllowed : IsOk K (.ref a.c_InvalidNumber) (.ref a.c_NotAllowed) false
  is_InvalidSetting_NotAllowed : IsOk K (.ref a.c_InvalidSetting) (.ref a.c_NotAllowed) false
  is_NotAllowed_NotAllowed : IsOk K (.ref a.c_NotAllowed) (.ref a.c_NotAllowed) true
  mg_only : mg "_law_only" = some (.ref a.f_only)
  bd_only : Binds K a.d_only ["_law_e", "_law_number", "_law_setting", "_law_state_here"] []
  fn_only : Fun K "_law_only" "_law_only" (top 24) a.f_only a.d_only
  mg_adds : mg "_law_adds" = some (.ref a.f_adds)
  bd_adds : Binds K a.d_adds ["_law_outbox", "_law_state_here", "_law_data", "_law_urgent"] []
  fn_adds : Fun K "_law_adds" "_law_adds" (top 25) a.f_adds a.d_adds
  mg_tuple_is : mg "_law_tuple_is" = some (.ref a.f_tuple_is)
  bd_tuple_is : Binds K a.d_tuple_is ["_law_told", "_law_due"] []
  mt_Outbox_cut : Meth K a.c_Outbox "cut" a.f_Outbox_cut
  bd_Outbox_cut : Binds K a.d_Outbox_cut ["self", "low", "high"] []
  fn_tuple_is : Fun K "_law_tuple_is" "_law_tuple_is" (top 23) a.f_tuple_is a.d_tuple_is
  mg_cuts : mg "_law_cuts" = some (.ref a.f_cuts)
  bd_cuts : Binds K a.d_cuts ["_law_box_here", "_law_outbox", "_law_state_here"] []
  fn_cuts : Fun K "_law_cuts" "_law_cuts" (top 27) a.f_cuts a.d_cuts
  mt_Outbox_release : Meth K a.c_Outbox "release" a.f_Outbox_release
  bd_Outbox_release : Binds K a.d_Outbox_release ["self", "offset"] []
  mg_releases : mg "_law_releases" = some (.ref a.f_releases)
  bd_releases : Binds K a.d_releases ["_law_box_here", "_law_outbox", "_law_state_here"] []
  fn_releases : Fun K "_law_releases" "_law_releases" (top 29) a.f_releases a.d_releases
  mt_Outbox_resize : Meth K a.c_Outbox "resize" a.f_Outbox_resize
  bd_Outbox_resize : Binds K a.d_Outbox_resize ["self", "limit"] []
  mt_Outbox_shut : Meth K a.c_Outbox "shut" a.f_Outbox_shut
  bd_Outbox_shut : Binds K a.d_Outbox_shut ["self"] []
  mg_bad_data : mg "_law_bad_data" = some (.ref a.f_bad_data)
  bd_bad_data : Binds K a.d_bad_data ["_law_box_here"] []
  fn_bad_data : Fun K "_law_bad_data" "_law_bad_data" (top 21) a.f_bad_data a.d_bad_data
  ex_InvalidNumber_InvalidNumber : PySem.W.exmOne K (.ref a.c_InvalidNumber) (.ref a.c_InvalidNumber) = some true
  ex_InvalidNumber_NotAllowed : PySem.W.exmOne K (.ref a.c_InvalidNumber) (.ref a.c_NotAllowed) = some false
  no_repr : mg "repr" = none
  xf_InvalidNumber_number : XfOk K a.c_InvalidNumber "number"
  mg_data_refused : mg "_law_data_refused" = some (.ref a.f_data_refused)
  bd_data_refused : Binds K a.d_data_refused ["_law_outbox", "_law_state_here", "_law_data", "_law_bad", "_law_urgent"] []
  fn_data_refused : Fun K "_law_data_refused" "_law_data_refused" (top 26) a.f_data_refused a.d_data_refused
  mg_cut_refused : mg "_law_cut_refused" = some (.ref a.f_cut_refused)
  bd_cut_refused : Binds K a.d_cut_refused ["_law_box_here", "_law_outbox", "_law_state_here"] []
  fn_cut_refused : Fun K "_law_cut_refused" "_law_cut_refused" (top 28) a.f_cut_refused a.d_cut_refused
  mg_release_refused : mg "_law_release_refused" = some (.ref a.f_release_refused)
  bd_release_refused : Binds K a.d_release_refused ["_law_box_here", "_law_outbox", "_law_state_here"] []
  fn_release_refused : Fun K "_law_release_refused" "_law_release_refused" (top 30) a.f_release_refused a.d_release_refused
  ex_InvalidSetting_InvalidSetting : PySem.W.exmOne K (.ref a.c_InvalidSetting) (.ref a.c_InvalidSetting) = some true
  xf_InvalidSetting_setting : XfOk K a.c_InvalidSetting "setting"
  mg_limit_refused : mg "_law_limit_refused" = some (.ref a.f_limit_refused)
  bd_limit_refused : Binds K a.d_limit_refused ["_law_box_here", "_law_outbox"] []
  fn_limit_refused : Fun K "_law_limit_refused" "_law_limit_refused" (top 31) a.f_limit_refused a.d_limit_refused
  mg_deed : mg "_law_deed" = some (.ref a.f_deed)
  bd_deed : Binds K a.d_deed ["_law_box_here", "_law_outbox", "_law_state_here"] []
  fn_deed : Fun K "_law_deed" "_law_deed" (top 32) a.f_deed a.d_deed
  fn_Outbox_limit_set : Fun K "limit" "Outbox.limit" (inClass (top 14) 2) a.f_Outbox_limit_set a.d_Outbox_limit_set
  fn_Outbox___init__ : Fun K "__init__" "Outbox.__init__" (inClass (top 14) 0) a.f_Outbox___init__ a.d_Outbox___init__
  fn_Outbox_free : Fun K "free" "Outbox.free" (inClass (top 14) 3) a.f_Outbox_free a.d_Outbox_free
  fn_Outbox_limit : Fun K "limit" "Outbox.limit" (inClass (top 14) 1) a.f_Outbox_limit a.d_Outbox_limit
  fn_Outbox_bound : Fun K "bound" "Outbox.bound" (inClass (top 14) 4) a.f_Outbox_bound a.d_Outbox_bound
  fn_Outbox_put : Fun K "put" "Outbox.put" (inClass (top 14) 6) a.f_Outbox_put a.d_Outbox_put
  fn_Outbox_urge : Fun K "urge" "Outbox.urge" (inClass (top 14) 7) a.f_Outbox_urge a.d_Outbox_urge
  fn_Outbox_cut : Fun K "cut" "Outbox.cut" (inClass (top 14) 9) a.f_Outbox_cut a.d_Outbox_cut
  fn_Outbox_release : Fun K "release" "Outbox.release" (inClass (top 14) 10) a.f_Outbox_release a.d_Outbox_release
  fn_Outbox_resize : Fun K "resize" "Outbox.resize" (inClass (top 14) 5) a.f_Outbox_resize a.d_Outbox_resize
  fn_Outbox_shut : Fun K "shut" "Outbox.shut" (inClass (top 14) 8) a.f_Outbox_shut a.d_Outbox_shut
  fn_law : Fun K "law" "law" (top 33) a.f_law a.d_law
  bd_law : Binds K a.d_law ["_law_script"] []
  mg_law : mg "law" = some (.ref a.f_law)
  fs_InvalidSetting : FunS P K "__init__" "InvalidSetting.__init__" (inClass (top 3) 0) a.f_InvalidSetting___init__ a.d_InvalidSetting___init__ a.c_InvalidSetting
  sv_InvalidSetting_InvalidSetting : SupV K a.c_InvalidSetting a.c_InvalidSetting
  nf_InvalidSetting_setting : PySem.W.findIn K (.ref a.c_InvalidSetting) "setting" = some none
  fs_NotAllowed : FunS P K "__init__" "NotAllowed.__init__" (inClass (top 4) 0) a.f_NotAllowed___init__ a.d_NotAllowed___init__ a.c_NotAllowed
  sv_NotAllowed_NotAllowed : SupV K a.c_NotAllowed a.c_NotAllowed
  nf_NotAllowed_state : PySem.W.findIn K (.ref a.c_NotAllowed) "state" = some none
  fs_InvalidNumber : FunS P K "__init__" "InvalidNumber.__init__" (inClass (top 2) 0) a.f_InvalidNumber___init__ a.d_InvalidNumber___init__ a.c_InvalidNumber
  sv_InvalidNumber_InvalidNumber : SupV K a.c_InvalidNumber a.c_InvalidNumber
  nf_InvalidNumber_number : PySem.W.findIn K (.ref a.c_InvalidNumber) "number" = some none
  no_super : mg "super" = none
  sup_top : (P.main.scope.names.lookup ("super" : Str)).isSome = false
section
variable {P : Program} {w : World} {K : PySem.W.Frag} {mg : Str → Option Value} {base : Heap} {a : Ad}
theorem se_InvalidSetting : FnScS ["self", "setting"] ["self", "setting"] (defScope (inClass (top 3) 0)) := ⟨rfl, rfl, rfl, by decide +kernel, rfl, by decide +kernel, by decide +kernel, by decide +kernel⟩
theorem ok_InvalidSetting___init__ (T : Txt P K mg a) : FnOk P w K mg base (L2.CX P w) 1 a.f_InvalidSetting___init__ a.d_InvalidSetting___init__ ["self", "setting"] (spEx [a.c_InvalidSetting] ["setting"]) :=
  T.fs_InvalidSetting.ok se_InvalidSetting rfl rfl rfl rfl rfl T.sup_top T.no_super (fun vs H Q E q => show vs.length = 2 from spEx_len (fs := ["setting"]) vs H Q E q) fun cdv cc A outer s H vs Q E hr T1 q =>
    ⟨_, pssa_cons (psa_supV T1 (pa_cons pe_str pa_nil)) (pssa_one (psa_of (ps_ost (pv 0) (pv 1)))), ex1 (m := "the setting is invalid or unknown") (all_cons (p := fun C => SupV K C a.c_InvalidSetting ∧ PySem.W.findIn K (.ref C) "setting" = some none) ⟨T.sv_InvalidSetting_InvalidSetting, T.nf_InvalidSetting_setting⟩ (all_nil)) q⟩
theorem se_NotAllowed : FnScS ["self", "state"] ["self", "state"] (defScope (inClass (top 4) 0)) := ⟨rfl, rfl, rfl, by decide +kernel, rfl, by decide +kernel, by decide +kernel, by decide +kernel⟩
theorem ok_NotAllowed___init__ (T : Txt P K mg a) : FnOk P w K mg base (L2.CX P w) 1 a.f_NotAllowed___init__ a.d_NotAllowed___init__ ["self", "state"] (spExF [a.c_NotAllowed] ["state"]) :=
  T.fs_NotAllowed.ok se_NotAllowed rfl rfl rfl rfl rfl T.sup_top T.no_super (fun vs H Q E q => show vs.length = 2 from spExF_len (fs := ["state"]) vs H Q E q) fun cdv cc A outer s H vs Q E hr T1 q =>
    ⟨_, pssa_cons (psa_supV T1 (pa_cons (pe_joined (.cons pe_str (.cons (pe_fmt (pv 1)) .nil))) pa_nil)) (pssa_one (psa_of (ps_ost (pv 0) (pv 1)))), exF (ts := [(tC (.str "the call is not allowed in the state ")), (tFmt (tVar 1))]) (by decide) (fun a x H hx => (all_cons (short_c (by decide)) (all_cons (short_f rfl hx) all_nil))) (all_cons (p := fun C => SupV K C a.c_NotAllowed ∧ PySem.W.findIn K (.ref C) "state" = some none) ⟨T.sv_NotAllowed_NotAllowed, T.nf_NotAllowed_state⟩ (all_nil)) q⟩
theorem se_InvalidNumber : FnScS ["self", "number"] ["self", "number"] (defScope (inClass (top 2) 0)) := ⟨rfl, rfl, rfl, by decide +kernel, rfl, by decide +kernel, by decide +kernel, by decide +kernel⟩
theorem ok_InvalidNumber___init__ (T : Txt P K mg a) : FnOk P w K mg base (L2.CX P w) 1 a.f_InvalidNumber___init__ a.d_InvalidNumber___init__ ["self", "number"] (spEx [a.c_InvalidNumber] ["number"]) :=
  T.fs_InvalidNumber.ok se_InvalidNumber rfl rfl rfl rfl rfl T.sup_top T.no_super (fun vs H Q E q => show vs.length = 2 from spEx_len (fs := ["number"]) vs H Q E q) fun cdv cc A outer s H vs Q E hr T1 q =>
    ⟨_, pssa_cons (psa_supV T1 (pa_cons pe_str pa_nil)) (pssa_one (psa_of (ps_ost (pv 0) (pv 1)))), ex1 (m := "the number, or another argument, is invalid") (all_cons (p := fun C => SupV K C a.c_InvalidNumber ∧ PySem.W.findIn K (.ref C) "number" = some none) ⟨T.sv_InvalidNumber_InvalidNumber, T.nf_InvalidNumber_number⟩ (all_nil)) q⟩
abbrev nm_box : List Str := ["_law_script"]
theorem sc_box : FnScope nm_box ["_law_script"] (defScope (top 16)) := ⟨rfl, rfl, rfl, by decide +kernel, rfl, by decide +kernel, by decide +kernel⟩
theorem ok_box (T : Txt P K mg a) : FnOk P w K mg base (L2.CX P w) 1 a.f_box a.d_box ["_law_script"] (sp_box a.toCl) := by
  refine ok_body T.fn_box sc_box rfl rfl fun cdv A outer s H E hr => ?_
  exact (pss_one (ps_ret (pe_lst (pa_cons (pe_callTy (c_list T.st) (by rfl) T.no_list (by decide +kernel) (pa_cons (pv 0) pa_nil)) (pa_cons pe_int (pa_cons pe_int (pa_cons pe_int (pa_cons pe_int pa_nil))))))))
abbrev nm_draw : List Str := ["_law_box_here", "_law_size", "_law_cell", "_law_digit", "_law_mixed"]
theorem sc_draw : FnScope nm_draw ["_law_box_here", "_law_size"] (defScope (top 17)) := ⟨rfl, rfl, rfl, by decide +kernel, rfl, by decide +kernel, by decide +kernel⟩
theorem ok_draw (T : Txt P K mg a) : FnOk P w K mg base (L2.CX P w) 1 a.f_draw a.d_draw ["_law_box_here", "_law_size"] (sp_draw a.toCl) := by
  refine ok_body T.fn_draw sc_draw rfl rfl fun cdv A outer s H E hr => ?_
  exact (pss_cons (ps_asg (pe_op o_add (pe_ix (o_ix T.st) (pv 0) pe_int (fun _ _ => rfl)) pe_int) (pg_sub (pv 0) pe_int set_list))
    (pss_cons (ps_if (PW.pt (pw_and (pt_cmpR (o_eqP T.st hr.units) (pe_ix (o_ix T.st) (pv 0) pe_int (fun _ _ => rfl)) pe_int (nomark _)) (pw_and1 (pt_cmpR o_lt (pe_ix (o_ix T.st) (pv 0) pe_int (fun _ _ => rfl)) (pe_callB (c_len T.st) (by rfl) T.no_len (by decide +kernel) (pa_cons (pe_ix (o_ix T.st) (pv 0) pe_int (fun _ _ => rfl)) pa_nil)) (nomark _))))) (pss_cons (ps_set (i := 2) sc_draw.nd rfl (by first | exact Or.inl rfl | exact Or.inr rfl) (pe_ix (o_ix T.st) (pe_ix (o_ix T.st) (pv 0) pe_int (fun _ _ => rfl)) (pe_ix (o_ix T.st) (pv 0) pe_int (fun _ _ => rfl)) (fun _ _ => rfl)))
    (pss_cons (ps_asg (pe_op o_add (pe_ix (o_ix T.st) (pv 0) pe_int (fun _ _ => rfl)) pe_int) (pg_sub (pv 0) pe_int set_list))
    (pss_one (ps_if (pt_cmpR o_ge (pe_callB c_abs (by rfl) T.no_abs (by decide +kernel) (pa_cons (pv 2) pa_nil)) (pe_op o_pow pe_int pe_int) (nomark _)) (pss_one (ps_asg (pe_callB c_abs (by rfl) T.no_abs (by decide +kernel) (pa_cons (pv 2) pa_nil)) (pg_sub (pv 0) pe_int set_list))) (pss_one (ps_asg (pe_op o_mod (pe_callTy c_int (by rfl) T.no_int (by decide +kernel) (pa_cons (pe_op o_add (pe_op o_add (pe_op o_mul (pe_ix (o_ix T.st) (pv 0) pe_int (fun _ _ => rfl)) pe_int) (pe_op o_mul (pv 2) pe_int)) (pe_ix (o_ix T.st) (pv 0) pe_int (fun _ _ => rfl))) pa_nil)) pe_int) (pg_sub (pv 0) pe_int set_list))))))) pss_nil)
    (pss_cons (ps_if (pt_cmpR o_gt (pe_ix (o_ix T.st) (pv 0) pe_int (fun _ _ => rfl)) pe_int (nomark _)) (pss_cons (ps_set (i := 3) sc_draw.nd rfl (by first | exact Or.inl rfl | exact Or.inr rfl) (pe_op o_mod (pe_callTy c_int (by rfl) T.no_int (by decide +kernel) (pa_cons (pe_ix (o_ix T.st) (pv 0) pe_int (fun _ _ => rfl)) pa_nil)) (pv 1)))
    (pss_cons (ps_asg (pe_op o_fdiv (pe_ix (o_ix T.st) (pv 0) pe_int (fun _ _ => rfl)) (pv 1)) (pg_sub (pv 0) pe_int set_list))
    (pss_one (ps_ret (pv 3))))) pss_nil)
    (pss_cons (ps_asg (pe_op o_mod (pe_callTy c_int (by rfl) T.no_int (by decide +kernel) (pa_cons (pe_op o_mul (pe_ix (o_ix T.st) (pv 0) pe_int (fun _ _ => rfl)) pe_int) pa_nil)) pe_int) (pg_sub (pv 0) pe_int set_list))
    (pss_cons (ps_set (i := 4) sc_draw.nd rfl (by first | exact Or.inl rfl | exact Or.inr rfl) (pe_op o_mod (pe_callTy c_int (by rfl) T.no_int (by decide +kernel) (pa_cons (pe_op o_mul (pe_ix (o_ix T.st) (pv 0) pe_int (fun _ _ => rfl)) pe_int) pa_nil)) pe_int))
    (pss_one (ps_ret (pe_op o_mod (pe_callTy c_int (by rfl) T.no_int (by decide +kernel) (pa_cons (pe_op o_add (pe_op o_add (pe_op o_fdiv (pv 4) pe_int) (pe_ix (o_ix T.st) (pv 0) pe_int (fun _ _ => rfl))) (pe_op o_fdiv (pe_ix (o_ix T.st) (pv 0) pe_int (fun _ _ => rfl)) pe_int)) pa_nil)) (pv 1)))))))))
abbrev nm_limit : List Str := ["_law_box_here"]
theorem sc_limit : FnScope nm_limit ["_law_box_here"] (defScope (top 19)) := ⟨rfl, rfl, rfl, by decide +kernel, rfl, by decide +kernel, by decide +kernel⟩
theorem ok_limit (T : Txt P K mg a) : FnOk P w K mg base (L2.CX P w) 2 a.f_limit a.d_limit ["_law_box_here"] (sp_limit a.toCl) := by
  refine ok_body T.fn_limit sc_limit rfl rfl fun cdv A outer s H E hr => ?_
  exact (pss_cons (ps_if (pt_cmpR (o_eqP T.st hr.units) (pe_call (ok_draw T) (hr.mono (by decide)) rfl T.mg_draw (T.fn_draw).kp T.bd_draw .nil passE (pa_cons (pv 0) (pa_cons pe_int pa_nil))) pe_int (nomark _)) (pss_one (ps_ret (pe_op o_add pe_int (pe_call (ok_draw T) (hr.mono (by decide)) rfl T.mg_draw (T.fn_draw).kp T.bd_draw .nil passE (pa_cons (pv 0) (pa_cons pe_int pa_nil)))))) pss_nil)
    (pss_one (ps_ret (pe_op o_add pe_int (pe_call (ok_draw T) (hr.mono (by decide)) rfl T.mg_draw (T.fn_draw).kp T.bd_draw .nil passE (pa_cons (pv 0) (pa_cons pe_int pa_nil)))))))
abbrev nm_is_whole : List Str := ["value"]
theorem sc_is_whole : FnScope nm_is_whole ["value"] (defScope (top 7)) := ⟨rfl, rfl, rfl, by decide +kernel, rfl, by decide +kernel, by decide +kernel⟩
theorem ok_is_whole (T : Txt P K mg a) : FnOk P w K mg base (L2.CX P w) 1 a.f_is_whole a.d_is_whole ["value"] (sp_is_whole a.toCl) := by
  refine ok_body T.fn_is_whole sc_is_whole rfl rfl fun cdv A outer s H E hr => ?_
  exact (pss_one (ps_ret (pe_and (pe_callB c_isi (by rfl) T.no_isinstance (by decide +kernel) (pa_cons (pv 0) (pa_cons (pe_bltn (v := .ty "int") (by rfl) T.no_int (by decide +kernel) rfl) pa_nil))) (pe_one (pe_not (pe_callB c_isi (by rfl) T.no_isinstance (by decide +kernel) (pa_cons (pv 0) (pa_cons (pe_bltn (v := .ty "bool") (by rfl) T.no_bool (by decide +kernel) rfl) pa_nil))))))))
abbrev nm_in_range : List Str := ["value", "low", "high"]
theorem sc_in_range : FnScope nm_in_range ["value", "low", "high"] (defScope (top 9)) := ⟨rfl, rfl, rfl, by decide +kernel, rfl, by decide +kernel, by decide +kernel⟩
theorem ok_in_range (T : Txt P K mg a) : FnOk P w K mg base (L2.CX P w) 2 a.f_in_range a.d_in_range ["value", "low", "high"] (sp_in_range a.toCl) := by
  refine ok_body T.fn_in_range sc_in_range rfl rfl fun cdv A outer s H E hr => ?_
  exact (pss_one (ps_ret (pe_and (pe_call (ok_is_whole T) (hr.mono (by decide)) rfl T.mg_is_whole (T.fn_is_whole).kp T.bd_is_whole .nil passE (pa_cons (pv 0) pa_nil)) (pe_one (pe_chain o_le o_le (pv 1) (pv 0) (pv 2))))))
abbrev nm_checked_limit : List Str := ["limit"]
theorem sc_checked_limit : FnScope nm_checked_limit ["limit"] (defScope (top 13)) := ⟨rfl, rfl, rfl, by decide +kernel, rfl, by decide +kernel, by decide +kernel⟩
theorem ok_checked_limit (T : Txt P K mg a) : FnOk P w K mg base (L2.CX P w) 3 a.f_checked_limit a.d_checked_limit ["limit"] (sp_checked_limit a.toCl) := by
  obtain ⟨_, mg_GREATEST_LIMIT_⟩ := T.mg_GREATEST_LIMIT
  refine ok_body T.fn_checked_limit sc_checked_limit rfl rfl fun cdv A outer s H E hr => ?_
  exact (pss_cons (ps_if (pt_not (pt_val (pe_call (ok_in_range T) (hr.mono (by decide)) rfl T.mg_in_range (T.fn_in_range).kp T.bd_in_range .nil passE (pa_cons (pv 0) (pa_cons pe_int (pa_cons (pe_constI mg_GREATEST_LIMIT_ rfl) pa_nil)))))) (pss_one (ps_raiseE rfl (takes_of rfl rfl rfl rfl) (pmk_ex T.oe_InvalidSetting T.ii_InvalidSetting_InvalidSetting T.it_InvalidSetting (ok_InvalidSetting___init__ T) (by repeat first | exact List.Mem.head _ | apply List.Mem.tail) (by decide) (hr.mono (by decide)) T.be_InvalidSetting passL rfl T.mg_InvalidSetting (pa_cons pe_str pa_nil)))) pss_nil)
    (pss_one (ps_ret (pv 0))))
abbrev nm_Outbox_limit_set : List Str := ["self", "value"]
theorem sc_Outbox_limit_set : FnScope nm_Outbox_limit_set ["self", "value"] (defScope (inClass (top 14) 2)) := ⟨rfl, rfl, rfl, by decide +kernel, rfl, by decide +kernel, by decide +kernel⟩
theorem ok_Outbox_limit_set (T : Txt P K mg a) : FnOk P w K mg base (L2.CX P w) 4 a.f_Outbox_limit_set a.d_Outbox_limit_set ["self", "value"] (sp_Outbox_limit_set a.toCl) := by
  refine ok_body T.fn_Outbox_limit_set sc_Outbox_limit_set rfl rfl fun cdv A outer s H E hr => ?_
  exact (pss_one (ps_setF T.cl_Outbox T.na_Outbox_capacity (pv 0) (pe_call (ok_checked_limit T) (hr.mono (by decide)) rfl T.mg_checked_limit (T.fn_checked_limit).kp T.bd_checked_limit .nil passE (pa_cons (pv 1) pa_nil))))
abbrev nm_Outbox___init__ : List Str := ["self", "limit"]
theorem sc_Outbox___init__ : FnScope nm_Outbox___init__ ["self", "limit"] (defScope (inClass (top 14) 0)) := ⟨rfl, rfl, rfl, by decide +kernel, rfl, by decide +kernel, by decide +kernel⟩
theorem ok_Outbox___init__ (T : Txt P K mg a) : FnOk P w K mg base (L2.CX P w) 7 a.f_Outbox___init__ a.d_Outbox___init__ ["self", "limit"] (sp_Outbox___init__ a.toCl) := by
  obtain ⟨_, pset_Outbox_limit_⟩ := T.pset_Outbox_limit
  refine ok_body T.fn_Outbox___init__ sc_Outbox___init__ rfl rfl fun cdv A outer s H E hr => ?_
  exact (pss_cons (ps_propSet (pv 0) (pv 1) T.cl_Outbox pset_Outbox_limit_ (ok_Outbox_limit_set T) (hr.mono (by decide)) T.bd_Outbox_limit_set passE)
    (pss_cons (ps_setF T.cl_Outbox T.na_Outbox_base (pv 0) pe_int)
    (pss_cons (ps_setF T.cl_Outbox T.na_Outbox_end (pv 0) pe_int)
    (pss_cons (ps_setF T.cl_Outbox T.na_Outbox_closed (pv 0) pe_bl)
    (pss_cons (ps_setF T.cl_Outbox T.na_Outbox_urgent_end (pv 0) pe_int)
    (pss_one (ps_setF T.cl_Outbox T.na_Outbox_content (pv 0) (pe_lst pa_nil))))))))
abbrev nm_Outbox_free : List Str := ["self"]
theorem sc_Outbox_free : FnScope nm_Outbox_free ["self"] (defScope (inClass (top 14) 3)) := ⟨rfl, rfl, rfl, by decide +kernel, rfl, by decide +kernel, by decide +kernel⟩
theorem ok_Outbox_free (T : Txt P K mg a) : FnOk P w K mg base (L2.CX P w) 1 a.f_Outbox_free a.d_Outbox_free ["self"] (sp_Outbox_free a.toCl) := by
  refine ok_body T.fn_Outbox_free sc_Outbox_free rfl rfl fun cdv A outer s H E hr => ?_
  exact (pss_one (ps_ret (pe_callB (c_max2 rfl) (by rfl) T.no_max (by decide +kernel) (pa_cons pe_int (pa_cons (pe_op o_sub (pe_fldC T.cl_Outbox T.na_Outbox_capacity (pv 0)) (pe_op o_sub (pe_fldC T.cl_Outbox T.na_Outbox_end (pv 0)) (pe_fldC T.cl_Outbox T.na_Outbox_base (pv 0)))) pa_nil)))))
abbrev nm_Outbox_limit : List Str := ["self"]
theorem sc_Outbox_limit : FnScope nm_Outbox_limit ["self"] (defScope (inClass (top 14) 1)) := ⟨rfl, rfl, rfl, by decide +kernel, rfl, by decide +kernel, by decide +kernel⟩
theorem ok_Outbox_limit (T : Txt P K mg a) : FnOk P w K mg base (L2.CX P w) 1 a.f_Outbox_limit a.d_Outbox_limit ["self"] (sp_Outbox_limit a.toCl) := by
  refine ok_body T.fn_Outbox_limit sc_Outbox_limit rfl rfl fun cdv A outer s H E hr => ?_
  exact (pss_one (ps_ret (pe_fldC T.cl_Outbox T.na_Outbox_capacity (pv 0))))
abbrev nm_Outbox_bound : List Str := ["self"]
theorem sc_Outbox_bound : FnScope nm_Outbox_bound ["self"] (defScope (inClass (top 14) 4)) := ⟨rfl, rfl, rfl, by decide +kernel, rfl, by decide +kernel, by decide +kernel⟩
theorem ok_Outbox_bound (T : Txt P K mg a) : FnOk P w K mg base (L2.CX P w) 1 a.f_Outbox_bound a.d_Outbox_bound ["self"] (sp_Outbox_bound a.toCl) := by
  refine ok_body T.fn_Outbox_bound sc_Outbox_bound rfl rfl fun cdv A outer s H E hr => ?_
  exact (pss_cons (ps_if (pt_val (pe_fldC T.cl_Outbox T.na_Outbox_closed (pv 0))) (pss_one (ps_ret (pe_op o_add (pe_fldC T.cl_Outbox T.na_Outbox_end (pv 0)) pe_int))) pss_nil)
    (pss_one (ps_ret (pe_fldC T.cl_Outbox T.na_Outbox_end (pv 0)))))
abbrev nm_l_is_whole : List Str := ["_law_value"]
theorem sc_l_is_whole : FnScope nm_l_is_whole ["_law_value"] (defScope (top 18)) := ⟨rfl, rfl, rfl, by decide +kernel, rfl, by decide +kernel, by decide +kernel⟩
theorem ok_l_is_whole (T : Txt P K mg a) : FnOk P w K mg base (L2.CX P w) 1 a.f_l_is_whole a.d_l_is_whole ["_law_value"] (sp_l_is_whole a.toCl) := by
  refine ok_body T.fn_l_is_whole sc_l_is_whole rfl rfl fun cdv A outer s H E hr => ?_
  exact (pss_one (ps_ret (pe_and (pe_callB c_isi (by rfl) T.no_isinstance (by decide +kernel) (pa_cons (pv 0) (pa_cons (pe_bltn (v := .ty "int") (by rfl) T.no_int (by decide +kernel) rfl) pa_nil))) (pe_one (pe_not (pe_callB c_isi (by rfl) T.no_isinstance (by decide +kernel) (pa_cons (pv 0) (pa_cons (pe_bltn (v := .ty "bool") (by rfl) T.no_bool (by decide +kernel) rfl) pa_nil))))))))
abbrev nm_state : List Str := ["_law_outbox", "_law_state_here", "_law_end", "_law_spare", "_law_numbers", "_law_pair"]
theorem sc_state : FnScope nm_state ["_law_outbox", "_law_state_here"] (defScope (top 22)) := ⟨rfl, rfl, rfl, by decide +kernel, rfl, by decide +kernel, by decide +kernel⟩
theorem ok_state (T : Txt P K mg a) : FnOk P w K mg base (L2.CX P w) 3 a.f_state a.d_state ["_law_outbox", "_law_state_here"] (sp_state a.toCl) := by
  obtain ⟨_, pp_Outbox_free_⟩ := T.pp_Outbox_free
  obtain ⟨_, pp_Outbox_limit_⟩ := T.pp_Outbox_limit
  obtain ⟨_, pp_Outbox_bound_⟩ := T.pp_Outbox_bound
  refine ok_body T.fn_state sc_state rfl rfl fun cdv A outer s H E hr => ?_
  exact (pss_cons (ps_set (i := 2) sc_state.nd rfl (by first | exact Or.inl rfl | exact Or.inr rfl) (pe_op o_add pe_int (pe_callB (c_len T.st) (by rfl) T.no_len (by decide +kernel) (pa_cons (pe_rec (units1 hr.units) (pv 1)) pa_nil))))
    (pss_cons (ps_set (i := 3) sc_state.nd rfl (by first | exact Or.inl rfl | exact Or.inr rfl) (pe_callB (c_max2 rfl) (by rfl) T.no_max (by decide +kernel) (pa_cons pe_int (pa_cons (pe_op o_sub (pe_rec (units1 hr.units) (pv 1)) (pe_op o_sub (pv 2) (pe_rec (units1 hr.units) (pv 1)))) pa_nil))))
    (pss_cons (ps_set (i := 4) sc_state.nd rfl (by first | exact Or.inl rfl | exact Or.inr rfl) (pe_lst (pa_cons (pe_tup (pa_cons (pe_fldC T.cl_Outbox T.na_Outbox_base (pv 0)) (pa_cons (pe_rec (units1 hr.units) (pv 1)) pa_nil))) (pa_cons (pe_tup (pa_cons (pe_fldC T.cl_Outbox T.na_Outbox_end (pv 0)) (pa_cons (pv 2) pa_nil))) (pa_cons (pe_tup (pa_cons (pe_fldC T.cl_Outbox T.na_Outbox_urgent_end (pv 0)) (pa_cons (pe_rec (units1 hr.units) (pv 1)) pa_nil))) pa_nil)))))
    (pss_cons (ps_set (i := 4) sc_state.nd rfl (by first | exact Or.inl rfl | exact Or.inr rfl) (pe_op o_add (pv 4) (pe_lst (pa_cons (pe_tup (pa_cons (pe_propC (pv 0) T.cl_Outbox pp_Outbox_limit_ (ok_Outbox_limit T) (hr.mono (by decide)) T.bd_Outbox_limit passN) (pa_cons (pe_rec (units1 hr.units) (pv 1)) pa_nil))) (pa_cons (pe_tup (pa_cons (pe_propC (pv 0) T.cl_Outbox pp_Outbox_free_ (ok_Outbox_free T) (hr.mono (by decide)) T.bd_Outbox_free passN) (pa_cons (pv 3) pa_nil))) pa_nil)))))
    (pss_cons (ps_set (i := 4) sc_state.nd rfl (by first | exact Or.inl rfl | exact Or.inr rfl) (pe_op o_add (pv 4) (pe_lst (pa_cons (pe_tup (pa_cons (pe_propC (pv 0) T.cl_Outbox pp_Outbox_bound_ (ok_Outbox_bound T) (hr.mono (by decide)) T.bd_Outbox_bound passN) (pa_cons (pe_op o_add (pv 2) (pe_callTy c_int (by rfl) T.no_int (by decide +kernel) (pa_cons (pe_rec (units1 hr.units) (pv 1)) pa_nil))) pa_nil))) pa_nil))))
    (pss_cons (ps_forSeq T.st (passes_of rfl) rfl (pv 4) (pg_name (i := 5) sc_state.nd rfl (by first | exact Or.inl rfl | exact Or.inr rfl)) (pss_one (ps_if (PW.pt (pw_or (pt_not (pt_val (pe_call (ok_l_is_whole T) (hr.mono (by decide)) rfl T.mg_l_is_whole (T.fn_l_is_whole).kp T.bd_l_is_whole .nil passE (pa_cons (pe_ix (o_ix T.st) (pv 5) pe_int (fun _ _ => rfl)) pa_nil)))) (pw_or1 (pt_cmpR (o_neP T.st hr.units) (pe_ix (o_ix T.st) (pv 5) pe_int (fun _ _ => rfl)) (pe_ix (o_ix T.st) (pv 5) pe_int (fun _ _ => rfl)) (nomark _))))) (pss_one (ps_ret pe_bl)) pss_nil)))
    (pss_cons (ps_if (pt_val (pe_rec (units1 hr.units) (pv 1))) (pss_one (ps_ret (pe_cmpR o_isB (pe_fldC T.cl_Outbox T.na_Outbox_closed (pv 0)) pe_bl (nomark _)))) pss_nil)
    (pss_one (ps_ret (pe_cmpR o_isB (pe_fldC T.cl_Outbox T.na_Outbox_closed (pv 0)) pe_bl (nomark _)))))))))))
abbrev nm_bytes : List Str := ["_law_box_here", "_law_most", "_law_many", "_law_k", "_law_base", "_law_step"]
theorem sc_bytes : FnScope nm_bytes ["_law_box_here", "_law_most"] (defScope (top 20)) := ⟨rfl, rfl, rfl, by decide +kernel, rfl, by decide +kernel, by decide +kernel⟩
theorem ok_bytes (T : Txt P K mg a) : FnOk P w K mg base (L2.CX P w) 2 a.f_bytes a.d_bytes ["_law_box_here", "_law_most"] (sp_bytes a.toCl) := by
  refine ok_body T.fn_bytes sc_bytes rfl rfl fun cdv A outer s H E hr => ?_
  exact (pss_cons (ps_set (i := 2) sc_bytes.nd rfl (by first | exact Or.inl rfl | exact Or.inr rfl) (pe_call (ok_draw T) (hr.mono (by decide)) rfl T.mg_draw (T.fn_draw).kp T.bd_draw .nil passE (pa_cons (pv 0) (pa_cons pe_int pa_nil))))
    (pss_cons (ps_if (pt_cmpR (o_eqP T.st hr.units) (pe_call (ok_draw T) (hr.mono (by decide)) rfl T.mg_draw (T.fn_draw).kp T.bd_draw .nil passE (pa_cons (pv 0) (pa_cons pe_int pa_nil))) pe_int (nomark _)) (pss_one (ps_set (i := 2) sc_bytes.nd rfl (by first | exact Or.inl rfl | exact Or.inr rfl) (pe_call (ok_draw T) (hr.mono (by decide)) rfl T.mg_draw (T.fn_draw).kp T.bd_draw .nil passE (pa_cons (pv 0) (pa_cons (pe_op o_add (pv 1) pe_int) pa_nil))))) pss_nil)
    (pss_cons (ps_if (pt_cmpR (o_eqP T.st hr.units) (pe_call (ok_draw T) (hr.mono (by decide)) rfl T.mg_draw (T.fn_draw).kp T.bd_draw .nil passE (pa_cons (pv 0) (pa_cons pe_int pa_nil))) pe_int (nomark _)) (pss_one (ps_ret (pe_lcR1 (own := [("_law_k", 3)]) rfl sc_bytes.nd rfl T.no_range (pv 2) (blkOk_by (own := [("_law_k", 3)]) (N := nm_bytes) (sc := defScope (top 20)) (by decide +kernel)) ⟨fun _ _ _ _ _ => (pg_name (i := 3) sc_bytes.nd rfl (by first | exact Or.inl rfl | exact Or.inr rfl)), fun _ _ _ _ _ => pts_nil, fun _ _ _ _ _ => (pe_call (ok_draw T) (hr.mono (by decide)) rfl T.mg_draw (T.fn_draw).kp T.bd_draw .nil passL (pa_cons (pv 0) (pa_cons pe_int pa_nil)))⟩))) pss_nil)
    (pss_cons (ps_set (i := 4) sc_bytes.nd rfl (by first | exact Or.inl rfl | exact Or.inr rfl) (pe_call (ok_draw T) (hr.mono (by decide)) rfl T.mg_draw (T.fn_draw).kp T.bd_draw .nil passE (pa_cons (pv 0) (pa_cons pe_int pa_nil))))
    (pss_cons (ps_set (i := 5) sc_bytes.nd rfl (by first | exact Or.inl rfl | exact Or.inr rfl) (pe_call (ok_draw T) (hr.mono (by decide)) rfl T.mg_draw (T.fn_draw).kp T.bd_draw .nil passE (pa_cons (pv 0) (pa_cons pe_int pa_nil))))
    (pss_one (ps_ret (pe_lcR1 (own := [("_law_k", 3)]) rfl sc_bytes.nd rfl T.no_range (pv 2) (blkOk_by (own := [("_law_k", 3)]) (N := nm_bytes) (sc := defScope (top 20)) (by decide +kernel)) ⟨fun _ _ _ _ _ => (pg_name (i := 3) sc_bytes.nd rfl (by first | exact Or.inl rfl | exact Or.inr rfl)), fun _ _ _ _ _ => pts_nil, fun _ _ _ _ _ => (pe_op o_mod (pe_callTy c_int (by rfl) T.no_int (by decide +kernel) (pa_cons (pe_op o_add (pv 4) (pe_op o_mul (pv 3) (pv 5))) pa_nil)) pe_int)⟩))))))))
abbrev nm_is_row : List Str := ["value"]
theorem sc_is_row : FnScope nm_is_row ["value"] (defScope (top 8)) := ⟨rfl, rfl, rfl, by decide +kernel, rfl, by decide +kernel, by decide +kernel⟩
theorem ok_is_row (T : Txt P K mg a) : FnOk P w K mg base (L2.CX P w) 1 a.f_is_row a.d_is_row ["value"] (sp_is_row a.toCl) := by
  refine ok_body T.fn_is_row sc_is_row rfl rfl fun cdv A outer s H E hr => ?_
  exact (pss_one (ps_ret (pe_callB c_isT (by rfl) T.no_isinstance (by decide +kernel) (pa_cons (pv 0) (pa_cons (pe_tup (pa_cons (pe_bltn (v := .ty "list") (by rfl) T.no_list (by decide +kernel) rfl) (pa_cons (pe_bltn (v := .ty "tuple") (by rfl) T.no_tuple (by decide +kernel) rfl) pa_nil))) pa_nil)))))
abbrev nm_as_data : List Str := ["value", "item"]
theorem sc_as_data : FnScope nm_as_data ["value"] (defScope (top 10)) := ⟨rfl, rfl, rfl, by decide +kernel, rfl, by decide +kernel, by decide +kernel⟩
theorem ok_as_data (T : Txt P K mg a) : FnOk P w K mg base (L2.CX P w) 3 a.f_as_data a.d_as_data ["value"] (sp_as_data a.toCl) := by
  obtain ⟨_, mg_GREATEST_BYTE_⟩ := T.mg_GREATEST_BYTE
  refine ok_body T.fn_as_data sc_as_data rfl rfl fun cdv A outer s H E hr => ?_
  exact (pss_cons (ps_if (pt_not (pt_val (pe_call (ok_is_row T) (hr.mono (by decide)) rfl T.mg_is_row (T.fn_is_row).kp T.bd_is_row .nil passE (pa_cons (pv 0) pa_nil)))) (pss_one (ps_raiseE rfl (takes_of rfl rfl rfl rfl) (pmk_ex T.oe_InvalidNumber T.ii_InvalidNumber_InvalidNumber T.it_InvalidNumber (ok_InvalidNumber___init__ T) (by repeat first | exact List.Mem.head _ | apply List.Mem.tail) (by decide) (hr.mono (by decide)) T.be_InvalidNumber passL rfl T.mg_InvalidNumber (pa_cons (pv 0) pa_nil)))) pss_nil)
    (pss_cons (ps_forSeq T.st (passes_of rfl) rfl (pv 0) (pg_name (i := 1) sc_as_data.nd rfl (by first | exact Or.inl rfl | exact Or.inr rfl)) (pss_one (ps_if (pt_not (pt_val (pe_call (ok_in_range T) (hr.mono (by decide)) rfl T.mg_in_range (T.fn_in_range).kp T.bd_in_range .nil passE (pa_cons (pv 1) (pa_cons pe_int (pa_cons (pe_constI mg_GREATEST_BYTE_ rfl) pa_nil)))))) (pss_one (ps_raiseE rfl (takes_of rfl rfl rfl rfl) (pmk_ex T.oe_InvalidNumber T.ii_InvalidNumber_InvalidNumber T.it_InvalidNumber (ok_InvalidNumber___init__ T) (by repeat first | exact List.Mem.head _ | apply List.Mem.tail) (by decide) (hr.mono (by decide)) T.be_InvalidNumber passL rfl T.mg_InvalidNumber (pa_cons (pv 1) pa_nil)))) pss_nil)))
    (pss_one (ps_ret (pe_callTy (c_tuple T.st) (by rfl) T.no_tuple (by decide +kernel) (pa_cons (pv 0) pa_nil))))))
abbrev nm_Outbox_put : List Str := ["self", "data", "accepted"]
theorem sc_Outbox_put : FnScope nm_Outbox_put ["self", "data"] (defScope (inClass (top 14) 6)) := ⟨rfl, rfl, rfl, by decide +kernel, rfl, by decide +kernel, by decide +kernel⟩
theorem ok_Outbox_put (T : Txt P K mg a) : FnOk P w K mg base (L2.CX P w) 4 a.f_Outbox_put a.d_Outbox_put ["self", "data"] (sp_Outbox_put a.toCl) := by
  obtain ⟨_, pp_Outbox_free_⟩ := T.pp_Outbox_free
  refine ok_body T.fn_Outbox_put sc_Outbox_put rfl rfl fun cdv A outer s H E hr => ?_
  exact (pss_cons (ps_if (pt_val (pe_fldC T.cl_Outbox T.na_Outbox_closed (pv 0))) (pss_one (ps_raiseE rfl (takes_of rfl rfl rfl rfl) (pmk_exF T.oe_NotAllowed T.ii_NotAllowed_NotAllowed T.it_NotAllowed (ok_NotAllowed___init__ T) (by repeat first | exact List.Mem.head _ | apply List.Mem.tail) (by decide) (hr.mono (by decide)) T.be_NotAllowed passL rfl T.mg_NotAllowed (pa_cons pe_str pa_nil)))) pss_nil)
    (pss_cons (ps_set (i := 2) sc_Outbox_put.nd rfl (by first | exact Or.inl rfl | exact Or.inr rfl) (pe_slice (o_tsl T.st) (pe_call (ok_as_data T) (hr.mono (by decide)) rfl T.mg_as_data (T.fn_as_data).kp T.bd_as_data .nil passE (pa_cons (pv 1) pa_nil)) po_none (po_some (pe_propC (pv 0) T.cl_Outbox pp_Outbox_free_ (ok_Outbox_free T) (hr.mono (by decide)) T.bd_Outbox_free passN))))
    (pss_cons (ps_setF T.cl_Outbox T.na_Outbox_content (pv 0) (pe_op o_add (pe_fldC T.cl_Outbox T.na_Outbox_content (pv 0)) (pe_callTy (c_list T.st) (by rfl) T.no_list (by decide +kernel) (pa_cons (pv 2) pa_nil))))
    (pss_cons (ps_setF T.cl_Outbox T.na_Outbox_end (pv 0) (pe_op o_add (pe_fldC T.cl_Outbox T.na_Outbox_end (pv 0)) (pe_callB (c_len T.st) (by rfl) T.no_len (by decide +kernel) (pa_cons (pv 2) pa_nil))))
    (pss_one (ps_ret (pe_callB (c_len T.st) (by rfl) T.no_len (by decide +kernel) (pa_cons (pv 2) pa_nil))))))))
abbrev nm_Outbox_urge : List Str := ["self", "data", "count"]
theorem sc_Outbox_urge : FnScope nm_Outbox_urge ["self", "data"] (defScope (inClass (top 14) 7)) := ⟨rfl, rfl, rfl, by decide +kernel, rfl, by decide +kernel, by decide +kernel⟩
theorem ok_Outbox_urge (T : Txt P K mg a) : FnOk P w K mg base (L2.CX P w) 5 a.f_Outbox_urge a.d_Outbox_urge ["self", "data"] (sp_Outbox_urge a.toCl) := by
  refine ok_body T.fn_Outbox_urge sc_Outbox_urge rfl rfl fun cdv A outer s H E hr => ?_
  exact (pss_cons (ps_set (i := 2) sc_Outbox_urge.nd rfl (by first | exact Or.inl rfl | exact Or.inr rfl) (pe_meth (pv 0) T.cl_Outbox T.mt_Outbox_put (ok_Outbox_put T) (hr.mono (by decide)) T.bd_Outbox_put .nil passE (pa_cons (pv 1) pa_nil)))
    (pss_cons (ps_if (pt_cmpR o_gt (pv 2) pe_int (nomark _)) (pss_one (ps_setF T.cl_Outbox T.na_Outbox_urgent_end (pv 0) (pe_fldC T.cl_Outbox T.na_Outbox_end (pv 0)))) pss_nil)
    (pss_one (ps_ret (pv 2)))))
abbrev nm_only : List Str := ["_law_e", "_law_number", "_law_setting", "_law_state_here"]
theorem sc_only : FnScope nm_only ["_law_e", "_law_number", "_law_setting", "_law_state_here"] (defScope (top 24)) := ⟨rfl, rfl, rfl, by decide +kernel, rfl, by decide +kernel, by decide +kernel⟩
theorem okX_only (T : Txt P K mg a) : FnX P w K mg base (L2.CX P w) 1 a.f_only a.d_only ["_law_e", "_law_number", "_law_setting", "_law_state_here"] (sp_only a.toCl) := by
  refine ok_bodyX T.fn_only sc_only rfl rfl fun cdv A outer s H E p cls d hr hz hf => ?_
  exact (pss_cons (ps_if (PW.pt (pw_or (pt_not (pt_val (pe_callB (c_isXH (tbl := [(.ref a.c_NotAllowed, .ref a.c_LossError, true), (.ref a.c_InvalidSetting, .ref a.c_LossError, true), (.ref a.c_InvalidNumber, .ref a.c_LossError, true)]) List.mem_cons_self (all_cons T.is_NotAllowed_LossError (all_cons T.is_InvalidSetting_LossError (all_cons T.is_InvalidNumber_LossError (all_nil)))) hz hf) (by rfl) T.no_isinstance (by decide +kernel) (pa_cons (pv 0) (pa_cons (pe_clsName rfl T.mg_LossError) pa_nil))))) (pw_or1 (pt_not (pt_val (pe_callB (c_isXH (tbl := [(.ref a.c_NotAllowed, .ty "ValueError", true), (.ref a.c_InvalidSetting, .ty "ValueError", true), (.ref a.c_InvalidNumber, .ty "ValueError", true)]) List.mem_cons_self (all_cons T.is_NotAllowed_ValueError (all_cons T.is_InvalidSetting_ValueError (all_cons T.is_InvalidNumber_ValueError (all_nil)))) hz hf) (by rfl) T.no_isinstance (by decide +kernel) (pa_cons (pv 0) (pa_cons (pe_bltn (v := .ty "ValueError") (by rfl) T.no_ValueError (by decide +kernel) rfl) pa_nil)))))))) (pss_one (ps_ret pe_bl)) pss_nil)
    (pss_cons (ps_if (PW.pt (pw_or (pt_cmpR (o_neP T.st (units_h hr)) (pe_callB (c_isXH (tbl := [(.ref a.c_NotAllowed, .ref a.c_InvalidNumber, false), (.ref a.c_InvalidSetting, .ref a.c_InvalidNumber, false), (.ref a.c_InvalidNumber, .ref a.c_InvalidNumber, true)]) List.mem_cons_self (all_cons T.is_NotAllowed_InvalidNumber (all_cons T.is_InvalidSetting_InvalidNumber (all_cons T.is_InvalidNumber_InvalidNumber (all_nil)))) hz hf) (by rfl) T.no_isinstance (by decide +kernel) (pa_cons (pv 0) (pa_cons (pe_clsName rfl T.mg_InvalidNumber) pa_nil))) (pv 1) (nomark _)) (pw_or1 (pt_cmpR (o_neP T.st (units_h hr)) (pe_callB (c_isXH (tbl := [(.ref a.c_NotAllowed, .ref a.c_InvalidSetting, false), (.ref a.c_InvalidSetting, .ref a.c_InvalidSetting, true), (.ref a.c_InvalidNumber, .ref a.c_InvalidSetting, false)]) List.mem_cons_self (all_cons T.is_NotAllowed_InvalidSetting (all_cons T.is_InvalidSetting_InvalidSetting (all_cons T.is_InvalidNumber_InvalidSetting (all_nil)))) hz hf) (by rfl) T.no_isinstance (by decide +kernel) (pa_cons (pv 0) (pa_cons (pe_clsName rfl T.mg_InvalidSetting) pa_nil))) (pv 2) (nomark _))))) (pss_one (ps_ret pe_bl)) pss_nil)
    (pss_one (ps_ret (pe_cmpR (o_eqP T.st (units_h hr)) (pe_callB (c_isXH (tbl := [(.ref a.c_NotAllowed, .ref a.c_NotAllowed, true), (.ref a.c_InvalidSetting, .ref a.c_NotAllowed, false), (.ref a.c_InvalidNumber, .ref a.c_NotAllowed, false)]) List.mem_cons_self (all_cons T.is_NotAllowed_NotAllowed (all_cons T.is_InvalidSetting_NotAllowed (all_cons T.is_InvalidNumber_NotAllowed (all_nil)))) hz hf) (by rfl) T.no_isinstance (by decide +kernel) (pa_cons (pv 0) (pa_cons (pe_clsName rfl T.mg_NotAllowed) pa_nil))) (pv 3) (nomark _))))))
abbrev nm_adds : List Str := ["_law_outbox", "_law_state_here", "_law_data", "_law_urgent", "_law_kept", "_law_spare", "_law_many", "_law_told", "_law_e"]
theorem sc_adds : FnScope nm_adds ["_law_outbox", "_law_state_here", "_law_data", "_law_urgent"] (defScope (top 25)) := ⟨rfl, rfl, rfl, by decide +kernel, rfl, by decide +kernel, by decide +kernel⟩
theorem ok_adds (T : Txt P K mg a) : FnOk P w K mg base (L2.CX P w) 6 a.f_adds a.d_adds ["_law_outbox", "_law_state_here", "_law_data", "_law_urgent"] (sp_adds a.toCl) := by
  refine ok_body T.fn_adds sc_adds rfl rfl fun cdv A outer s H E hr => ?_
  exact (pss_cons (ps_set (i := 4) sc_adds.nd rfl (by first | exact Or.inl rfl | exact Or.inr rfl) (pe_callTy (c_list T.st) (by rfl) T.no_list (by decide +kernel) (pa_cons (pv 2) pa_nil)))
    (pss_cons (ps_set (i := 5) sc_adds.nd rfl (by first | exact Or.inl rfl | exact Or.inr rfl) (pe_callB (c_max2 rfl) (by rfl) T.no_max (by decide +kernel) (pa_cons pe_int (pa_cons (pe_op o_sub (pe_rec (units1 hr.units) (pv 1)) (pe_op o_sub (pe_op o_add pe_int (pe_callB (c_len T.st) (by rfl) T.no_len (by decide +kernel) (pa_cons (pe_rec (units1 hr.units) (pv 1)) pa_nil))) (pe_rec (units1 hr.units) (pv 1)))) pa_nil))))
    (pss_cons (ps_set (i := 6) sc_adds.nd rfl (by first | exact Or.inl rfl | exact Or.inr rfl) (pe_callB (c_min2 rfl) (by rfl) T.no_min (by decide +kernel) (pa_cons (pv 5) (pa_cons (pe_callB (c_len T.st) (by rfl) T.no_len (by decide +kernel) (pa_cons (pv 4) pa_nil)) pa_nil))))
    (pss_cons (ps_tryT (tab := [(.ref a.c_NotAllowed, 0)]) (tb := fun W => (tIfS (tB (tVar 3)) (tAsg (tMS a.c_Outbox "urge" (sp_Outbox_urge a.toCl) (WE W) (tVar 0) (tCons (tVar 2) tNil)) (gName 7)) (tAsg (tMS a.c_Outbox "put" (sp_Outbox_put a.toCl) (WE W) (tVar 0) (tCons (tVar 2) tNil)) (gName 7)))) (l := [⟨.ref a.c_NotAllowed, some 8, fun b cls d => (tRet (tAndV (tRec (tVar 1) "closed") (tAndV (tOp (rEqP a.S) (eXf b cls d [a.c_NotAllowed] "state" (tVar 8)) (tC (.str "closed"))) (tCall (sp_only a.toCl b cls d) [] E0 (tCons (tVar 8) (tCons (tC (.bl false)) (tCons (tC (.bl false)) (tCons (tC (.bl true)) tNil))))))))⟩]) (all_cons (Hits.here T.ex_NotAllowed_NotAllowed) all_nil) rfl rfl sc_adds.nd (fun W pn xe tk pa => (pss_one (ps_if (pt_val (pv 3)) (pss_one (ps_set (i := 7) sc_adds.nd rfl (by first | exact Or.inl rfl | exact Or.inr rfl) (pe_mS (pv 0) T.cl_Outbox T.mt_Outbox_urge (ok_Outbox_urge T) (hr.mono (by decide)) T.bd_Outbox_urge (fun σ => passAt tk σ) (pa_cons (pv 2) pa_nil)))) (pss_one (ps_set (i := 7) sc_adds.nd rfl (by first | exact Or.inl rfl | exact Or.inr rfl) (pe_mS (pv 0) T.cl_Outbox T.mt_Outbox_put (ok_Outbox_put T) (hr.mono (by decide)) T.bd_Outbox_put (fun σ => passAt tk σ) (pa_cons (pv 2) pa_nil))))))) (HnOk.named ⟨rfl, by decide, .inl T.mg_NotAllowed⟩ (i := 8) rfl rfl (fun b oe cls d pn hz hf => (pss_one (ps_ret (pe_and (pe_rec (units1 hr.units) (pv 1)) (pe_and (pe_cmpR (o_eqP T.st hr.units) (pe_eXf (Cs := [a.c_NotAllowed]) (all_cons T.xf_NotAllowed_state (all_nil)) hz hf (pv 8)) pe_str (nomark _)) (pe_one (pe_callX (okX_only T) (roomW (hr.mono (by decide))) List.mem_cons_self hz hf rfl T.mg_only (T.fn_only).kp T.bd_only passN (pa_cons (pv 8) (pa_cons pe_bl (pa_cons pe_bl (pa_cons pe_bl pa_nil))))))))))) HnOk.nil))
    (pss_cons (ps_if (PW.pt (pw_or (pt_val (pe_rec (units1 hr.units) (pv 1))) (pw_or (pt_not (pt_val (pe_call (ok_l_is_whole T) (hr.mono (by decide)) rfl T.mg_l_is_whole (T.fn_l_is_whole).kp T.bd_l_is_whole .nil passE (pa_cons (pv 7) pa_nil)))) (pw_or (pt_cmpR (o_neP T.st hr.units) (pv 7) (pv 6) (nomark _)) (pw_or1 (pt_cmpR (o_neP T.st hr.units) (pe_callTy (c_list T.st) (by rfl) T.no_list (by decide +kernel) (pa_cons (pv 2) pa_nil)) (pv 4) (nomark _))))))) (pss_one (ps_ret pe_bl)) pss_nil)
    (pss_cons (ps_if (pt_val (pe_callB c_isi (by rfl) T.no_isinstance (by decide +kernel) (pa_cons (pv 2) (pa_cons (pe_bltn (v := .ty "list") (by rfl) T.no_list (by decide +kernel) rfl) pa_nil)))) (pss_cons (ps_expr (pe_app (pv 2) (pa_cons pe_int pa_nil)))
    (pss_one (ps_asg pe_int (pg_sub (pv 2) pe_int set_list)))) pss_nil)
    (pss_cons (ps_rec (units1 hr.units) (pv 1) (pe_op o_add (pe_rec (units1 hr.units) (pv 1)) (pe_slice (o_sl T.st) (pv 4) po_none (po_some (pv 6)))))
    (pss_cons (ps_if (PW.pt (pw_and (pt_val (pv 3)) (pw_and1 (pt_cmpR o_gt (pv 6) pe_int (nomark _))))) (pss_one (ps_rec (units1 hr.units) (pv 1) (pe_op o_add pe_int (pe_callB (c_len T.st) (by rfl) T.no_len (by decide +kernel) (pa_cons (pe_rec (units1 hr.units) (pv 1)) pa_nil))))) pss_nil)
    (pss_one (ps_ret pe_bl))))))))))
abbrev nm_tuple_is : List Str := ["_law_told", "_law_due", "_law_k"]
theorem sc_tuple_is : FnScope nm_tuple_is ["_law_told", "_law_due"] (defScope (top 23)) := ⟨rfl, rfl, rfl, by decide +kernel, rfl, by decide +kernel, by decide +kernel⟩
theorem ok_tuple_is (T : Txt P K mg a) : FnOk P w K mg base (L2.CX P w) 2 a.f_tuple_is a.d_tuple_is ["_law_told", "_law_due"] (sp_tuple_is a.toCl) := by
  refine ok_body T.fn_tuple_is sc_tuple_is rfl rfl fun cdv A outer s H E hr => ?_
  exact (pss_cons (ps_if (PW.pt (pw_or (pt_not (pt_val (pe_callB c_isi (by rfl) T.no_isinstance (by decide +kernel) (pa_cons (pv 0) (pa_cons (pe_bltn (v := .ty "tuple") (by rfl) T.no_tuple (by decide +kernel) rfl) pa_nil))))) (pw_or1 (pt_cmpR (o_neP T.st hr.units) (pe_callB (c_len T.st) (by rfl) T.no_len (by decide +kernel) (pa_cons (pv 0) pa_nil)) (pe_callB (c_len T.st) (by rfl) T.no_len (by decide +kernel) (pa_cons (pv 1) pa_nil)) (nomark _))))) (pss_one (ps_ret pe_bl)) pss_nil)
    (pss_cons (ps_forR1 (passes_of rfl) rfl rfl T.no_range (pe_callB (c_len T.st) (by rfl) T.no_len (by decide +kernel) (pa_cons (pv 1) pa_nil)) (pg_name (i := 2) sc_tuple_is.nd rfl (by first | exact Or.inl rfl | exact Or.inr rfl)) (pss_one (ps_if (PW.pt (pw_or (pt_not (pt_val (pe_call (ok_l_is_whole T) (hr.mono (by decide)) rfl T.mg_l_is_whole (T.fn_l_is_whole).kp T.bd_l_is_whole .nil passE (pa_cons (pe_ix (o_ix T.st) (pv 0) (pv 2) (fun _ _ => rfl)) pa_nil)))) (pw_or1 (pt_cmpR (o_neP T.st hr.units) (pe_ix (o_ix T.st) (pv 0) (pv 2) (fun _ _ => rfl)) (pe_ix (o_ix T.st) (pv 1) (pv 2) (fun _ _ => rfl)) (nomark _))))) (pss_one (ps_ret pe_bl)) pss_nil)))
    (pss_one (ps_ret pe_bl))))
abbrev nm_Outbox_cut : List Str := ["self", "low", "high"]
theorem sc_Outbox_cut : FnScope nm_Outbox_cut ["self", "low", "high"] (defScope (inClass (top 14) 9)) := ⟨rfl, rfl, rfl, by decide +kernel, rfl, by decide +kernel, by decide +kernel⟩
theorem ok_Outbox_cut (T : Txt P K mg a) : FnOk P w K mg base (L2.CX P w) 3 a.f_Outbox_cut a.d_Outbox_cut ["self", "low", "high"] (sp_Outbox_cut a.toCl) := by
  refine ok_body T.fn_Outbox_cut sc_Outbox_cut rfl rfl fun cdv A outer s H E hr => ?_
  exact (pss_cons (ps_if (pt_not (pt_val (pe_call (ok_in_range T) (hr.mono (by decide)) rfl T.mg_in_range (T.fn_in_range).kp T.bd_in_range .nil passE (pa_cons (pv 1) (pa_cons (pe_fldC T.cl_Outbox T.na_Outbox_base (pv 0)) (pa_cons (pe_fldC T.cl_Outbox T.na_Outbox_end (pv 0)) pa_nil)))))) (pss_one (ps_raiseE rfl (takes_of rfl rfl rfl rfl) (pmk_ex T.oe_InvalidNumber T.ii_InvalidNumber_InvalidNumber T.it_InvalidNumber (ok_InvalidNumber___init__ T) (by repeat first | exact List.Mem.head _ | apply List.Mem.tail) (by decide) (hr.mono (by decide)) T.be_InvalidNumber passL rfl T.mg_InvalidNumber (pa_cons (pv 1) pa_nil)))) pss_nil)
    (pss_cons (ps_if (pt_not (pt_val (pe_call (ok_in_range T) (hr.mono (by decide)) rfl T.mg_in_range (T.fn_in_range).kp T.bd_in_range .nil passE (pa_cons (pv 2) (pa_cons (pv 1) (pa_cons (pe_fldC T.cl_Outbox T.na_Outbox_end (pv 0)) pa_nil)))))) (pss_one (ps_raiseE rfl (takes_of rfl rfl rfl rfl) (pmk_ex T.oe_InvalidNumber T.ii_InvalidNumber_InvalidNumber T.it_InvalidNumber (ok_InvalidNumber___init__ T) (by repeat first | exact List.Mem.head _ | apply List.Mem.tail) (by decide) (hr.mono (by decide)) T.be_InvalidNumber passL rfl T.mg_InvalidNumber (pa_cons (pv 2) pa_nil)))) pss_nil)
    (pss_one (ps_ret (pe_callTy (c_tuple T.st) (by rfl) T.no_tuple (by decide +kernel) (pa_cons (pe_slice (o_sl T.st) (pe_fldC T.cl_Outbox T.na_Outbox_content (pv 0)) (po_some (pe_op o_sub (pv 1) (pe_fldC T.cl_Outbox T.na_Outbox_base (pv 0)))) (po_some (pe_op o_sub (pv 2) (pe_fldC T.cl_Outbox T.na_Outbox_base (pv 0))))) pa_nil))))))
abbrev nm_cuts : List Str := ["_law_box_here", "_law_outbox", "_law_state_here", "_law_end", "_law_low", "_law_high", "_law_due"]
theorem sc_cuts : FnScope nm_cuts ["_law_box_here", "_law_outbox", "_law_state_here"] (defScope (top 27)) := ⟨rfl, rfl, rfl, by decide +kernel, rfl, by decide +kernel, by decide +kernel⟩
theorem ok_cuts (T : Txt P K mg a) : FnOk P w K mg base (L2.CX P w) 4 a.f_cuts a.d_cuts ["_law_box_here", "_law_outbox", "_law_state_here"] (sp_cuts a.toCl) := by
  refine ok_body T.fn_cuts sc_cuts rfl rfl fun cdv A outer s H E hr => ?_
  exact (pss_cons (ps_set (i := 3) sc_cuts.nd rfl (by first | exact Or.inl rfl | exact Or.inr rfl) (pe_op o_add pe_int (pe_callB (c_len T.st) (by rfl) T.no_len (by decide +kernel) (pa_cons (pe_rec (units1 hr.units) (pv 2)) pa_nil))))
    (pss_cons (ps_set (i := 4) sc_cuts.nd rfl (by first | exact Or.inl rfl | exact Or.inr rfl) (pe_op o_add (pe_rec (units1 hr.units) (pv 2)) (pe_call (ok_draw T) (hr.mono (by decide)) rfl T.mg_draw (T.fn_draw).kp T.bd_draw .nil passE (pa_cons (pv 0) (pa_cons (pe_op o_add (pe_op o_sub (pv 3) (pe_rec (units1 hr.units) (pv 2))) pe_int) pa_nil)))))
    (pss_cons (ps_set (i := 5) sc_cuts.nd rfl (by first | exact Or.inl rfl | exact Or.inr rfl) (pe_op o_add (pv 4) (pe_call (ok_draw T) (hr.mono (by decide)) rfl T.mg_draw (T.fn_draw).kp T.bd_draw .nil passE (pa_cons (pv 0) (pa_cons (pe_op o_add (pe_op o_sub (pv 3) (pv 4)) pe_int) pa_nil)))))
    (pss_cons (ps_set (i := 6) sc_cuts.nd rfl (by first | exact Or.inl rfl | exact Or.inr rfl) (pe_slice (o_sl T.st) (pe_rec (units1 hr.units) (pv 2)) (po_some (pe_op o_sub (pv 4) pe_int)) (po_some (pe_op o_sub (pv 5) pe_int))))
    (pss_cons (ps_if (pt_not (pt_val (pe_call (ok_tuple_is T) (hr.mono (by decide)) rfl T.mg_tuple_is (T.fn_tuple_is).kp T.bd_tuple_is .nil passE (pa_cons (pe_meth (pv 1) T.cl_Outbox T.mt_Outbox_cut (ok_Outbox_cut T) (hr.mono (by decide)) T.bd_Outbox_cut .nil passE (pa_cons (pv 4) (pa_cons (pv 5) pa_nil))) (pa_cons (pv 6) pa_nil))))) (pss_one (ps_ret pe_bl)) pss_nil)
    (pss_one (ps_ret (pe_call (ok_tuple_is T) (hr.mono (by decide)) rfl T.mg_tuple_is (T.fn_tuple_is).kp T.bd_tuple_is .nil passE (pa_cons (pe_meth (pv 1) T.cl_Outbox T.mt_Outbox_cut (ok_Outbox_cut T) (hr.mono (by decide)) T.bd_Outbox_cut .nil passE (pa_cons (pe_rec (units1 hr.units) (pv 2)) (pa_cons (pv 3) pa_nil))) (pa_cons (pe_slice (o_sl T.st) (pe_rec (units1 hr.units) (pv 2)) (po_some (pe_op o_sub (pe_rec (units1 hr.units) (pv 2)) pe_int)) po_none) pa_nil))))))))))
abbrev nm_Outbox_release : List Str := ["self", "offset", "count"]
theorem sc_Outbox_release : FnScope nm_Outbox_release ["self", "offset"] (defScope (inClass (top 14) 10)) := ⟨rfl, rfl, rfl, by decide +kernel, rfl, by decide +kernel, by decide +kernel⟩
theorem ok_Outbox_release (T : Txt P K mg a) : FnOk P w K mg base (L2.CX P w) 3 a.f_Outbox_release a.d_Outbox_release ["self", "offset"] (sp_Outbox_release a.toCl) := by
  refine ok_body T.fn_Outbox_release sc_Outbox_release rfl rfl fun cdv A outer s H E hr => ?_
  exact (pss_cons (ps_if (pt_not (pt_val (pe_call (ok_in_range T) (hr.mono (by decide)) rfl T.mg_in_range (T.fn_in_range).kp T.bd_in_range .nil passE (pa_cons (pv 1) (pa_cons (pe_fldC T.cl_Outbox T.na_Outbox_base (pv 0)) (pa_cons (pe_fldC T.cl_Outbox T.na_Outbox_end (pv 0)) pa_nil)))))) (pss_one (ps_raiseE rfl (takes_of rfl rfl rfl rfl) (pmk_ex T.oe_InvalidNumber T.ii_InvalidNumber_InvalidNumber T.it_InvalidNumber (ok_InvalidNumber___init__ T) (by repeat first | exact List.Mem.head _ | apply List.Mem.tail) (by decide) (hr.mono (by decide)) T.be_InvalidNumber passL rfl T.mg_InvalidNumber (pa_cons (pv 1) pa_nil)))) pss_nil)
    (pss_cons (ps_set (i := 2) sc_Outbox_release.nd rfl (by first | exact Or.inl rfl | exact Or.inr rfl) (pe_op o_sub (pv 1) (pe_fldC T.cl_Outbox T.na_Outbox_base (pv 0))))
    (pss_cons (ps_setF T.cl_Outbox T.na_Outbox_content (pv 0) (pe_slice (o_sl T.st) (pe_fldC T.cl_Outbox T.na_Outbox_content (pv 0)) (po_some (pv 2)) po_none))
    (pss_cons (ps_setF T.cl_Outbox T.na_Outbox_base (pv 0) (pv 1))
    (pss_one (ps_ret (pv 2)))))))
abbrev nm_releases : List Str := ["_law_box_here", "_law_outbox", "_law_state_here", "_law_offset", "_law_told", "_law_many"]
theorem sc_releases : FnScope nm_releases ["_law_box_here", "_law_outbox", "_law_state_here"] (defScope (top 29)) := ⟨rfl, rfl, rfl, by decide +kernel, rfl, by decide +kernel, by decide +kernel⟩
theorem ok_releases (T : Txt P K mg a) : FnOk P w K mg base (L2.CX P w) 4 a.f_releases a.d_releases ["_law_box_here", "_law_outbox", "_law_state_here"] (sp_releases a.toCl) := by
  refine ok_body T.fn_releases sc_releases rfl rfl fun cdv A outer s H E hr => ?_
  exact (pss_cons (ps_set (i := 3) sc_releases.nd rfl (by first | exact Or.inl rfl | exact Or.inr rfl) (pe_op o_add (pe_rec (units1 hr.units) (pv 2)) (pe_call (ok_draw T) (hr.mono (by decide)) rfl T.mg_draw (T.fn_draw).kp T.bd_draw .nil passE (pa_cons (pv 0) (pa_cons (pe_op o_add (pe_op o_sub (pe_op o_add pe_int (pe_callB (c_len T.st) (by rfl) T.no_len (by decide +kernel) (pa_cons (pe_rec (units1 hr.units) (pv 2)) pa_nil))) (pe_rec (units1 hr.units) (pv 2))) pe_int) pa_nil)))))
    (pss_cons (ps_set (i := 4) sc_releases.nd rfl (by first | exact Or.inl rfl | exact Or.inr rfl) (pe_meth (pv 1) T.cl_Outbox T.mt_Outbox_release (ok_Outbox_release T) (hr.mono (by decide)) T.bd_Outbox_release .nil passE (pa_cons (pv 3) pa_nil)))
    (pss_cons (ps_set (i := 5) sc_releases.nd rfl (by first | exact Or.inl rfl | exact Or.inr rfl) (pe_op o_sub (pv 3) (pe_rec (units1 hr.units) (pv 2))))
    (pss_cons (ps_rec (units1 hr.units) (pv 2) (pv 3))
    (pss_one (ps_ret (pe_and (pe_call (ok_l_is_whole T) (hr.mono (by decide)) rfl T.mg_l_is_whole (T.fn_l_is_whole).kp T.bd_l_is_whole .nil passE (pa_cons (pv 4) pa_nil)) (pe_one (pe_cmpR (o_eqP T.st hr.units) (pv 4) (pv 5) (nomark _))))))))))
abbrev nm_Outbox_resize : List Str := ["self", "limit"]
theorem sc_Outbox_resize : FnScope nm_Outbox_resize ["self", "limit"] (defScope (inClass (top 14) 5)) := ⟨rfl, rfl, rfl, by decide +kernel, rfl, by decide +kernel, by decide +kernel⟩
theorem ok_Outbox_resize (T : Txt P K mg a) : FnOk P w K mg base (L2.CX P w) 7 a.f_Outbox_resize a.d_Outbox_resize ["self", "limit"] (sp_Outbox_resize a.toCl) := by
  obtain ⟨_, pset_Outbox_limit_⟩ := T.pset_Outbox_limit
  refine ok_body T.fn_Outbox_resize sc_Outbox_resize rfl rfl fun cdv A outer s H E hr => ?_
  exact (pss_one (ps_propSet (pv 0) (pv 1) T.cl_Outbox pset_Outbox_limit_ (ok_Outbox_limit_set T) (hr.mono (by decide)) T.bd_Outbox_limit_set passE))
abbrev nm_Outbox_shut : List Str := ["self"]
theorem sc_Outbox_shut : FnScope nm_Outbox_shut ["self"] (defScope (inClass (top 14) 8)) := ⟨rfl, rfl, rfl, by decide +kernel, rfl, by decide +kernel, by decide +kernel⟩
theorem ok_Outbox_shut (T : Txt P K mg a) : FnOk P w K mg base (L2.CX P w) 1 a.f_Outbox_shut a.d_Outbox_shut ["self"] (sp_Outbox_shut a.toCl) := by
  refine ok_body T.fn_Outbox_shut sc_Outbox_shut rfl rfl fun cdv A outer s H E hr => ?_
  exact (pss_one (ps_setF T.cl_Outbox T.na_Outbox_closed (pv 0) pe_bl))
abbrev nm_bad_data : List Str := ["_law_box_here", "_law_items", "_law_k", "_law_odd", "_law_bad", "_law_also", "_law_place", "_law_way", "_law_whole"]
theorem sc_bad_data : FnScope nm_bad_data ["_law_box_here"] (defScope (top 21)) := ⟨rfl, rfl, rfl, by decide +kernel, rfl, by decide +kernel, by decide +kernel⟩
theorem ok_bad_data (T : Txt P K mg a) : FnOk P w K mg base (L2.CX P w) 2 a.f_bad_data a.d_bad_data ["_law_box_here"] (sp_bad_data a.toCl) := by
  refine ok_body T.fn_bad_data sc_bad_data rfl rfl fun cdv A outer s H E hr => ?_
  exact (pss_cons (ps_lcR1 (i := 1) (own := [("_law_k", 2)]) rfl sc_bad_data.nd rfl rfl rfl T.no_range (sw_true rfl rfl rfl (by decide +kernel)) (pe_call (ok_draw T) (hr.mono (by decide)) rfl T.mg_draw (T.fn_draw).kp T.bd_draw .nil passE (pa_cons (pv 0) (pa_cons pe_int pa_nil))) (blkOk_by (own := [("_law_k", 2)]) (N := nm_bad_data) (sc := defScope (top 21)) (by decide +kernel)) ⟨fun _ _ _ _ _ => (pg_name (i := 2) sc_bad_data.nd rfl (by first | exact Or.inl rfl | exact Or.inr rfl)), fun _ _ _ _ _ => pts_nil, fun _ _ _ _ _ => (pe_call (ok_draw T) (hr.mono (by decide)) rfl T.mg_draw (T.fn_draw).kp T.bd_draw .nil passL (pa_cons (pv 0) (pa_cons pe_int pa_nil)))⟩)
    (pss_cons (ps_set (i := 3) sc_bad_data.nd rfl (by first | exact Or.inl rfl | exact Or.inr rfl) (pe_lst (pa_cons (pe_op o_add pe_int (pe_call (ok_draw T) (hr.mono (by decide)) rfl T.mg_draw (T.fn_draw).kp T.bd_draw .nil passE (pa_cons (pv 0) (pa_cons pe_int pa_nil)))) (pa_cons (pe_op o_sub (pe_op o_sub pe_int pe_int) (pe_call (ok_draw T) (hr.mono (by decide)) rfl T.mg_draw (T.fn_draw).kp T.bd_draw .nil passE (pa_cons (pv 0) (pa_cons pe_int pa_nil)))) (pa_cons pe_bl (pa_cons pe_bl (pa_cons pe_non (pa_cons pe_str (pa_cons (pe_tup (pa_cons pe_int pa_nil)) pa_nil)))))))))
    (pss_cons (ps_set (i := 4) sc_bad_data.nd rfl (by first | exact Or.inl rfl | exact Or.inr rfl) (pe_ix (o_ix T.st) (pv 3) (pe_call (ok_draw T) (hr.mono (by decide)) rfl T.mg_draw (T.fn_draw).kp T.bd_draw .nil passE (pa_cons (pv 0) (pa_cons pe_int pa_nil))) (fun _ _ => rfl)))
    (pss_cons (ps_set (i := 5) sc_bad_data.nd rfl (by first | exact Or.inl rfl | exact Or.inr rfl) (pe_ix (o_ix T.st) (pv 3) (pe_call (ok_draw T) (hr.mono (by decide)) rfl T.mg_draw (T.fn_draw).kp T.bd_draw .nil passE (pa_cons (pv 0) (pa_cons pe_int pa_nil))) (fun _ _ => rfl)))
    (pss_cons (ps_set (i := 6) sc_bad_data.nd rfl (by first | exact Or.inl rfl | exact Or.inr rfl) (pe_call (ok_draw T) (hr.mono (by decide)) rfl T.mg_draw (T.fn_draw).kp T.bd_draw .nil passE (pa_cons (pv 0) (pa_cons (pe_op o_add (pe_callB (c_len T.st) (by rfl) T.no_len (by decide +kernel) (pa_cons (pv 1) pa_nil)) pe_int) pa_nil))))
    (pss_cons (ps_set (i := 7) sc_bad_data.nd rfl (by first | exact Or.inl rfl | exact Or.inr rfl) (pe_call (ok_draw T) (hr.mono (by decide)) rfl T.mg_draw (T.fn_draw).kp T.bd_draw .nil passE (pa_cons (pv 0) (pa_cons pe_int pa_nil))))
    (pss_cons (ps_if (pt_cmpR (o_eqP T.st hr.units) (pv 7) pe_int (nomark _)) (pss_cons (ps_set (i := 8) sc_bad_data.nd rfl (by first | exact Or.inl rfl | exact Or.inr rfl) (pe_ix (o_ix T.st) (pe_lst (pa_cons pe_non (pa_cons pe_str (pa_cons pe_str (pa_cons pe_int (pa_cons (pe_op o_sub pe_int pe_int) (pa_cons pe_bl pa_nil))))))) (pe_call (ok_draw T) (hr.mono (by decide)) rfl T.mg_draw (T.fn_draw).kp T.bd_draw .nil passE (pa_cons (pv 0) (pa_cons pe_int pa_nil))) (fun _ _ => rfl)))
    (pss_one (ps_ret (pe_lst (pa_cons (pv 8) (pa_cons (pv 8) pa_nil)))))) pss_nil)
    (pss_cons (ps_if (pt_cmpR (o_eqP T.st hr.units) (pv 7) pe_int (nomark _)) (pss_one (ps_ret (pe_lst (pa_cons (pe_op o_add (pe_op o_add (pe_op o_add (pe_slice (o_sl T.st) (pv 1) po_none (po_some (pv 6))) (pe_lst (pa_cons (pv 4) pa_nil))) (pe_slice (o_sl T.st) (pv 1) (po_some (pv 6)) po_none)) (pe_lst (pa_cons (pv 5) pa_nil))) (pa_cons (pv 4) pa_nil))))) pss_nil)
    (pss_cons (ps_if (pt_cmpR (o_eqP T.st hr.units) (pv 7) pe_int (nomark _)) (pss_one (ps_ret (pe_lst (pa_cons (pe_callTy (c_tuple T.st) (by rfl) T.no_tuple (by decide +kernel) (pa_cons (pe_op o_add (pe_op o_add (pe_slice (o_sl T.st) (pv 1) po_none (po_some (pv 6))) (pe_lst (pa_cons (pv 4) pa_nil))) (pe_slice (o_sl T.st) (pv 1) (po_some (pv 6)) po_none)) pa_nil)) (pa_cons (pv 4) pa_nil))))) pss_nil)
    (pss_one (ps_ret (pe_lst (pa_cons (pe_op o_add (pe_op o_add (pe_slice (o_sl T.st) (pv 1) po_none (po_some (pv 6))) (pe_lst (pa_cons (pv 4) (pa_cons (pv 5) pa_nil)))) (pe_slice (o_sl T.st) (pv 1) (po_some (pv 6)) po_none)) (pa_cons (pv 4) pa_nil))))))))))))))
abbrev nm_data_refused : List Str := ["_law_outbox", "_law_state_here", "_law_data", "_law_bad", "_law_urgent", "_law_e"]
theorem sc_data_refused : FnScope nm_data_refused ["_law_outbox", "_law_state_here", "_law_data", "_law_bad", "_law_urgent"] (defScope (top 26)) := ⟨rfl, rfl, rfl, by decide +kernel, rfl, by decide +kernel, by decide +kernel⟩
theorem ok_data_refused (T : Txt P K mg a) : FnG P w K mg base (L2.CX P w) 6 a.f_data_refused a.d_data_refused ["_law_outbox", "_law_state_here", "_law_data", "_law_bad", "_law_urgent"] (sp_data_refused a.toCl) := by
  refine ok_bodyG T.fn_data_refused sc_data_refused rfl rfl fun cdv A outer s H E gd hr => ?_
  exact (pss_cons (ps_tryT (tab := [(.ref a.c_InvalidNumber, 1), (.ref a.c_NotAllowed, 0)]) (tb := fun W => (tIfS (tB (tVar 4)) (tDrop (tMS a.c_Outbox "urge" (sp_Outbox_urge a.toCl) (WE W) (tVar 0) (tCons (tVar 2) tNil))) (tDrop (tMS a.c_Outbox "put" (sp_Outbox_put a.toCl) (WE W) (tVar 0) (tCons (tVar 2) tNil))))) (l := [⟨.ref a.c_NotAllowed, some 5, fun b cls d => (tRet (tAndV (tRec (tVar 1) "closed") (tAndV (tOp (rEqP a.S) (eXf b cls d [a.c_NotAllowed] "state" (tVar 5)) (tC (.str "closed"))) (tCall (sp_only a.toCl b cls d) [] E0 (tCons (tVar 5) (tCons (tC (.bl false)) (tCons (tC (.bl false)) (tCons (tC (.bl true)) tNil))))))))⟩, ⟨.ref a.c_InvalidNumber, some 5, fun b cls d => (tRet (tAndV (tNotV (tRec (tVar 1) "closed")) (tAndV (tOp (rEqP a.S) (tCB (rRepr a.S) (tCons (eXf b cls d [a.c_InvalidNumber] "number" (tVar 5)) tNil)) (tCB (rRepr a.S) (tCons (tVar 3) tNil))) (tCall (sp_only a.toCl b cls d) [] E0 (tCons (tVar 5) (tCons (tC (.bl true)) (tCons (tC (.bl false)) (tCons (tC (.bl false)) tNil))))))))⟩]) (all_cons (Hits.there T.ex_InvalidNumber_NotAllowed (Hits.here T.ex_InvalidNumber_InvalidNumber)) (all_cons (Hits.here T.ex_NotAllowed_NotAllowed) all_nil)) rfl rfl sc_data_refused.nd (fun W pn xe tk pa => (pss_one (ps_if (pt_val (pv 4)) (pss_one (ps_expr (pe_mS (pv 0) T.cl_Outbox T.mt_Outbox_urge (ok_Outbox_urge T) (hr.mono (by decide)) T.bd_Outbox_urge (fun σ => passAt tk σ) (pa_cons (pv 2) pa_nil)))) (pss_one (ps_expr (pe_mS (pv 0) T.cl_Outbox T.mt_Outbox_put (ok_Outbox_put T) (hr.mono (by decide)) T.bd_Outbox_put (fun σ => passAt tk σ) (pa_cons (pv 2) pa_nil))))))) (HnOk.named ⟨rfl, by decide, .inl T.mg_NotAllowed⟩ (i := 5) rfl rfl (fun b oe cls d pn hz hf => (pss_one (ps_ret (pe_and (pe_rec (units1 hr.units) (pv 1)) (pe_and (pe_cmpR (o_eqP T.st hr.units) (pe_eXf (Cs := [a.c_NotAllowed]) (all_cons T.xf_NotAllowed_state (all_nil)) hz hf (pv 5)) pe_str (nomark _)) (pe_one (pe_callX (okX_only T) (roomW (hr.mono (by decide))) List.mem_cons_self hz hf rfl T.mg_only (T.fn_only).kp T.bd_only passN (pa_cons (pv 5) (pa_cons pe_bl (pa_cons pe_bl (pa_cons pe_bl pa_nil))))))))))) (HnOk.named ⟨rfl, by decide, .inl T.mg_InvalidNumber⟩ (i := 5) rfl rfl (fun b oe cls d pn hz hf => (pss_one (ps_ret (pe_and (pe_not (pe_rec (units1 hr.units) (pv 1))) (pe_and (pe_cmpR (o_eqP T.st hr.units) (pe_callB (c_repr T.st gd hr.units) (by rfl) T.no_repr (by decide +kernel) (pa_cons (pe_eXf (Cs := [a.c_InvalidNumber]) (all_cons T.xf_InvalidNumber_number (all_nil)) hz hf (pv 5)) pa_nil)) (pe_callB (c_repr T.st gd hr.units) (by rfl) T.no_repr (by decide +kernel) (pa_cons (pv 3) pa_nil)) (nomark _)) (pe_one (pe_callX (okX_only T) (roomW (hr.mono (by decide))) List.mem_cons_self hz hf rfl T.mg_only (T.fn_only).kp T.bd_only passN (pa_cons (pv 5) (pa_cons pe_bl (pa_cons pe_bl (pa_cons pe_bl pa_nil))))))))))) HnOk.nil)))
    (pss_one (ps_ret pe_bl)))
abbrev nm_cut_refused : List Str := ["_law_box_here", "_law_outbox", "_law_state_here", "_law_end", "_law_less", "_law_more", "_law_inner", "_law_kind", "_law_way", "_law_low", "_law_high", "_law_bad", "_law_e"]
theorem sc_cut_refused : FnScope nm_cut_refused ["_law_box_here", "_law_outbox", "_law_state_here"] (defScope (top 28)) := ⟨rfl, rfl, rfl, by decide +kernel, rfl, by decide +kernel, by decide +kernel⟩
theorem ok_cut_refused (T : Txt P K mg a) : FnG P w K mg base (L2.CX P w) 4 a.f_cut_refused a.d_cut_refused ["_law_box_here", "_law_outbox", "_law_state_here"] (sp_cut_refused a.toCl) := by
  refine ok_bodyG T.fn_cut_refused sc_cut_refused rfl rfl fun cdv A outer s H E gd hr => ?_
  exact (pss_cons (ps_set (i := 3) sc_cut_refused.nd rfl (by first | exact Or.inl rfl | exact Or.inr rfl) (pe_op o_add pe_int (pe_callB (c_len T.st) (by rfl) T.no_len (by decide +kernel) (pa_cons (pe_rec (units1 hr.units) (pv 2)) pa_nil))))
    (pss_cons (ps_set (i := 4) sc_cut_refused.nd rfl (by first | exact Or.inl rfl | exact Or.inr rfl) (pe_op o_sub (pe_op o_sub (pe_rec (units1 hr.units) (pv 2)) pe_int) (pe_call (ok_draw T) (hr.mono (by decide)) rfl T.mg_draw (T.fn_draw).kp T.bd_draw .nil passE (pa_cons (pv 0) (pa_cons pe_int pa_nil)))))
    (pss_cons (ps_set (i := 5) sc_cut_refused.nd rfl (by first | exact Or.inl rfl | exact Or.inr rfl) (pe_op o_add (pe_op o_add (pv 3) pe_int) (pe_call (ok_draw T) (hr.mono (by decide)) rfl T.mg_draw (T.fn_draw).kp T.bd_draw .nil passE (pa_cons (pv 0) (pa_cons pe_int pa_nil)))))
    (pss_cons (ps_set (i := 6) sc_cut_refused.nd rfl (by first | exact Or.inl rfl | exact Or.inr rfl) (pe_op o_add (pe_rec (units1 hr.units) (pv 2)) (pe_call (ok_draw T) (hr.mono (by decide)) rfl T.mg_draw (T.fn_draw).kp T.bd_draw .nil passE (pa_cons (pv 0) (pa_cons (pe_op o_add (pe_op o_sub (pv 3) (pe_rec (units1 hr.units) (pv 2))) pe_int) pa_nil)))))
    (pss_cons (ps_set (i := 7) sc_cut_refused.nd rfl (by first | exact Or.inl rfl | exact Or.inr rfl) (pe_ix (o_ix T.st) (pe_lst (pa_cons pe_non (pa_cons pe_bl (pa_cons pe_str (pa_cons (pe_tup (pa_cons pe_int pa_nil)) (pa_cons (pe_lst (pa_cons pe_int pa_nil)) pa_nil)))))) (pe_call (ok_draw T) (hr.mono (by decide)) rfl T.mg_draw (T.fn_draw).kp T.bd_draw .nil passE (pa_cons (pv 0) (pa_cons pe_int pa_nil))) (fun _ _ => rfl)))
    (pss_cons (ps_set (i := 8) sc_cut_refused.nd rfl (by first | exact Or.inl rfl | exact Or.inr rfl) (pe_call (ok_draw T) (hr.mono (by decide)) rfl T.mg_draw (T.fn_draw).kp T.bd_draw .nil passE (pa_cons (pv 0) (pa_cons pe_int pa_nil))))
    (pss_cons (ps_set (i := 9) sc_cut_refused.nd rfl (by first | exact Or.inl rfl | exact Or.inr rfl) (pe_ix (o_ix T.st) (pe_lst (pa_cons (pv 4) (pa_cons (pv 5) (pa_cons (pv 6) (pa_cons (pv 6) (pa_cons (pv 4) (pa_cons (pv 7) (pa_cons (pv 6) pa_nil)))))))) (pv 8) (fun _ _ => rfl)))
    (pss_cons (ps_set (i := 10) sc_cut_refused.nd rfl (by first | exact Or.inl rfl | exact Or.inr rfl) (pe_ix (o_ix T.st) (pe_lst (pa_cons (pv 3) (pa_cons (pv 3) (pa_cons (pe_op o_sub (pe_op o_sub (pv 6) pe_int) (pe_call (ok_draw T) (hr.mono (by decide)) rfl T.mg_draw (T.fn_draw).kp T.bd_draw .nil passE (pa_cons (pv 0) (pa_cons pe_int pa_nil)))) (pa_cons (pv 5) (pa_cons (pv 5) (pa_cons (pv 3) (pa_cons (pv 7) pa_nil)))))))) (pv 8) (fun _ _ => rfl)))
    (pss_cons (ps_set (i := 11) sc_cut_refused.nd rfl (by first | exact Or.inl rfl | exact Or.inr rfl) (pe_ix (o_ix T.st) (pe_lst (pa_cons (pv 9) (pa_cons (pv 9) (pa_cons (pv 10) (pa_cons (pv 10) (pa_cons (pv 9) (pa_cons (pv 9) (pa_cons (pv 10) pa_nil)))))))) (pv 8) (fun _ _ => rfl)))
    (pss_cons (ps_tryT (tab := [(.ref a.c_InvalidNumber, 0)]) (tb := fun W => (tDrop (tMS a.c_Outbox "cut" (sp_Outbox_cut a.toCl) (WE W) (tVar 1) (tCons (tVar 9) (tCons (tVar 10) tNil))))) (l := [⟨.ref a.c_InvalidNumber, some 12, fun b cls d => (tRet (tAndV (tOp (rEqP a.S) (tCB (rRepr a.S) (tCons (eXf b cls d [a.c_InvalidNumber] "number" (tVar 12)) tNil)) (tCB (rRepr a.S) (tCons (tVar 11) tNil))) (tCall (sp_only a.toCl b cls d) [] E0 (tCons (tVar 12) (tCons (tC (.bl true)) (tCons (tC (.bl false)) (tCons (tC (.bl false)) tNil)))))))⟩]) (all_cons (Hits.here T.ex_InvalidNumber_InvalidNumber) all_nil) rfl rfl sc_cut_refused.nd (fun W pn xe tk pa => (pss_one (ps_expr (pe_mS (pv 1) T.cl_Outbox T.mt_Outbox_cut (ok_Outbox_cut T) (hr.mono (by decide)) T.bd_Outbox_cut (fun σ => passAt tk σ) (pa_cons (pv 9) (pa_cons (pv 10) pa_nil)))))) (HnOk.named ⟨rfl, by decide, .inl T.mg_InvalidNumber⟩ (i := 12) rfl rfl (fun b oe cls d pn hz hf => (pss_one (ps_ret (pe_and (pe_cmpR (o_eqP T.st hr.units) (pe_callB (c_repr T.st gd hr.units) (by rfl) T.no_repr (by decide +kernel) (pa_cons (pe_eXf (Cs := [a.c_InvalidNumber]) (all_cons T.xf_InvalidNumber_number (all_nil)) hz hf (pv 12)) pa_nil)) (pe_callB (c_repr T.st gd hr.units) (by rfl) T.no_repr (by decide +kernel) (pa_cons (pv 11) pa_nil)) (nomark _)) (pe_one (pe_callX (okX_only T) (roomW (hr.mono (by decide))) List.mem_cons_self hz hf rfl T.mg_only (T.fn_only).kp T.bd_only passN (pa_cons (pv 12) (pa_cons pe_bl (pa_cons pe_bl (pa_cons pe_bl pa_nil)))))))))) HnOk.nil))
    (pss_one (ps_ret pe_bl))))))))))))
abbrev nm_release_refused : List Str := ["_law_box_here", "_law_outbox", "_law_state_here", "_law_bad", "_law_way", "_law_e"]
theorem sc_release_refused : FnScope nm_release_refused ["_law_box_here", "_law_outbox", "_law_state_here"] (defScope (top 30)) := ⟨rfl, rfl, rfl, by decide +kernel, rfl, by decide +kernel, by decide +kernel⟩
theorem ok_release_refused (T : Txt P K mg a) : FnG P w K mg base (L2.CX P w) 4 a.f_release_refused a.d_release_refused ["_law_box_here", "_law_outbox", "_law_state_here"] (sp_release_refused a.toCl) := by
  refine ok_bodyG T.fn_release_refused sc_release_refused rfl rfl fun cdv A outer s H E gd hr => ?_
  exact (pss_cons (ps_set (i := 3) sc_release_refused.nd rfl (by first | exact Or.inl rfl | exact Or.inr rfl) (pe_op o_sub (pe_op o_sub (pe_rec (units1 hr.units) (pv 2)) pe_int) (pe_call (ok_draw T) (hr.mono (by decide)) rfl T.mg_draw (T.fn_draw).kp T.bd_draw .nil passE (pa_cons (pv 0) (pa_cons pe_int pa_nil)))))
    (pss_cons (ps_set (i := 4) sc_release_refused.nd rfl (by first | exact Or.inl rfl | exact Or.inr rfl) (pe_call (ok_draw T) (hr.mono (by decide)) rfl T.mg_draw (T.fn_draw).kp T.bd_draw .nil passE (pa_cons (pv 0) (pa_cons pe_int pa_nil))))
    (pss_cons (ps_if (pt_cmpR (o_eqP T.st hr.units) (pv 4) pe_int (nomark _)) (pss_one (ps_set (i := 3) sc_release_refused.nd rfl (by first | exact Or.inl rfl | exact Or.inr rfl) (pe_op o_add (pe_op o_add (pe_op o_add pe_int (pe_callB (c_len T.st) (by rfl) T.no_len (by decide +kernel) (pa_cons (pe_rec (units1 hr.units) (pv 2)) pa_nil))) pe_int) (pe_call (ok_draw T) (hr.mono (by decide)) rfl T.mg_draw (T.fn_draw).kp T.bd_draw .nil passE (pa_cons (pv 0) (pa_cons pe_int pa_nil)))))) pss_nil)
    (pss_cons (ps_if (pt_cmpR (o_eqP T.st hr.units) (pv 4) pe_int (nomark _)) (pss_one (ps_set (i := 3) sc_release_refused.nd rfl (by first | exact Or.inl rfl | exact Or.inr rfl) (pe_ix (o_ix T.st) (pe_lst (pa_cons pe_non (pa_cons pe_bl (pa_cons pe_str (pa_cons (pe_tup (pa_cons pe_int pa_nil)) (pa_cons (pe_lst (pa_cons pe_int pa_nil)) pa_nil)))))) (pe_call (ok_draw T) (hr.mono (by decide)) rfl T.mg_draw (T.fn_draw).kp T.bd_draw .nil passE (pa_cons (pv 0) (pa_cons pe_int pa_nil))) (fun _ _ => rfl)))) pss_nil)
    (pss_cons (ps_tryT (tab := [(.ref a.c_InvalidNumber, 0)]) (tb := fun W => (tDrop (tMS a.c_Outbox "release" (sp_Outbox_release a.toCl) (WE W) (tVar 1) (tCons (tVar 3) tNil)))) (l := [⟨.ref a.c_InvalidNumber, some 5, fun b cls d => (tRet (tAndV (tOp (rEqP a.S) (tCB (rRepr a.S) (tCons (eXf b cls d [a.c_InvalidNumber] "number" (tVar 5)) tNil)) (tCB (rRepr a.S) (tCons (tVar 3) tNil))) (tCall (sp_only a.toCl b cls d) [] E0 (tCons (tVar 5) (tCons (tC (.bl true)) (tCons (tC (.bl false)) (tCons (tC (.bl false)) tNil)))))))⟩]) (all_cons (Hits.here T.ex_InvalidNumber_InvalidNumber) all_nil) rfl rfl sc_release_refused.nd (fun W pn xe tk pa => (pss_one (ps_expr (pe_mS (pv 1) T.cl_Outbox T.mt_Outbox_release (ok_Outbox_release T) (hr.mono (by decide)) T.bd_Outbox_release (fun σ => passAt tk σ) (pa_cons (pv 3) pa_nil))))) (HnOk.named ⟨rfl, by decide, .inl T.mg_InvalidNumber⟩ (i := 5) rfl rfl (fun b oe cls d pn hz hf => (pss_one (ps_ret (pe_and (pe_cmpR (o_eqP T.st hr.units) (pe_callB (c_repr T.st gd hr.units) (by rfl) T.no_repr (by decide +kernel) (pa_cons (pe_eXf (Cs := [a.c_InvalidNumber]) (all_cons T.xf_InvalidNumber_number (all_nil)) hz hf (pv 5)) pa_nil)) (pe_callB (c_repr T.st gd hr.units) (by rfl) T.no_repr (by decide +kernel) (pa_cons (pv 3) pa_nil)) (nomark _)) (pe_one (pe_callX (okX_only T) (roomW (hr.mono (by decide))) List.mem_cons_self hz hf rfl T.mg_only (T.fn_only).kp T.bd_only passN (pa_cons (pv 5) (pa_cons pe_bl (pa_cons pe_bl (pa_cons pe_bl pa_nil)))))))))) HnOk.nil))
    (pss_one (ps_ret pe_bl)))))))
abbrev nm_limit_refused : List Str := ["_law_box_here", "_law_outbox", "_law_menu", "_law_bad", "_law_anew", "_law_e"]
theorem sc_limit_refused : FnScope nm_limit_refused ["_law_box_here", "_law_outbox"] (defScope (top 31)) := ⟨rfl, rfl, rfl, by decide +kernel, rfl, by decide +kernel, by decide +kernel⟩
theorem ok_limit_refused (T : Txt P K mg a) : FnOk P w K mg base (L2.CX P w) 9 a.f_limit_refused a.d_limit_refused ["_law_box_here", "_law_outbox"] (sp_limit_refused a.toCl) := by
  refine ok_body T.fn_limit_refused sc_limit_refused rfl rfl fun cdv A outer s H E hr => ?_
  exact (pss_cons (ps_set (i := 2) sc_limit_refused.nd rfl (by first | exact Or.inl rfl | exact Or.inr rfl) (pe_lst (pa_cons pe_int (pa_cons (pe_op o_sub (pe_op o_sub pe_int pe_int) (pe_call (ok_draw T) (hr.mono (by decide)) rfl T.mg_draw (T.fn_draw).kp T.bd_draw .nil passE (pa_cons (pv 0) (pa_cons pe_int pa_nil)))) (pa_cons pe_int (pa_cons (pe_op o_add pe_int (pe_call (ok_draw T) (hr.mono (by decide)) rfl T.mg_draw (T.fn_draw).kp T.bd_draw .nil passE (pa_cons (pv 0) (pa_cons pe_int pa_nil)))) (pa_cons pe_bl (pa_cons pe_bl (pa_cons pe_non (pa_cons pe_str (pa_cons (pe_tup (pa_cons pe_int pa_nil)) (pa_cons (pe_lst (pa_cons pe_int pa_nil)) pa_nil))))))))))))
    (pss_cons (ps_set (i := 3) sc_limit_refused.nd rfl (by first | exact Or.inl rfl | exact Or.inr rfl) (pe_ix (o_ix T.st) (pv 2) (pe_call (ok_draw T) (hr.mono (by decide)) rfl T.mg_draw (T.fn_draw).kp T.bd_draw .nil passE (pa_cons (pv 0) (pa_cons pe_int pa_nil))) (fun _ _ => rfl)))
    (pss_cons (ps_set (i := 4) sc_limit_refused.nd rfl (by first | exact Or.inl rfl | exact Or.inr rfl) (pe_cmpR (o_eqP T.st hr.units) (pe_call (ok_draw T) (hr.mono (by decide)) rfl T.mg_draw (T.fn_draw).kp T.bd_draw .nil passE (pa_cons (pv 0) (pa_cons pe_int pa_nil))) pe_int (nomark _)))
    (pss_cons (ps_tryT (tab := [(.ref a.c_InvalidSetting, 0)]) (tb := fun W => (tIfS (tB (tVar 4)) (tDrop (tNewS a.c_Outbox (sp_Outbox___init__ a.toCl) (WE W) (tCons (tVar 3) tNil))) (tDrop (tMS a.c_Outbox "resize" (sp_Outbox_resize a.toCl) (WE W) (tVar 1) (tCons (tVar 3) tNil))))) (l := [⟨.ref a.c_InvalidSetting, some 5, fun b cls d => (tRet (tAndV (tOp (rEqP a.S) (eXf b cls d [a.c_InvalidSetting] "setting" (tVar 5)) (tC (.str "limit"))) (tCall (sp_only a.toCl b cls d) [] E0 (tCons (tVar 5) (tCons (tC (.bl false)) (tCons (tC (.bl true)) (tCons (tC (.bl false)) tNil)))))))⟩]) (all_cons (Hits.here T.ex_InvalidSetting_InvalidSetting) all_nil) rfl rfl sc_limit_refused.nd (fun W pn xe tk pa => (pss_one (ps_if (pt_val (pv 4)) (pss_one (ps_expr (pe_newS T.mk_Outbox (ok_Outbox___init__ T) (hr.mono (by decide)) rfl T.mg_Outbox T.bd_Outbox___init__ (fun σ => passAt tk σ) (pa_cons (pv 3) pa_nil)))) (pss_one (ps_expr (pe_mS (pv 1) T.cl_Outbox T.mt_Outbox_resize (ok_Outbox_resize T) (hr.mono (by decide)) T.bd_Outbox_resize (fun σ => passAt tk σ) (pa_cons (pv 3) pa_nil))))))) (HnOk.named ⟨rfl, by decide, .inl T.mg_InvalidSetting⟩ (i := 5) rfl rfl (fun b oe cls d pn hz hf => (pss_one (ps_ret (pe_and (pe_cmpR (o_eqP T.st hr.units) (pe_eXf (Cs := [a.c_InvalidSetting]) (all_cons T.xf_InvalidSetting_setting (all_nil)) hz hf (pv 5)) pe_str (nomark _)) (pe_one (pe_callX (okX_only T) (roomW (hr.mono (by decide))) List.mem_cons_self hz hf rfl T.mg_only (T.fn_only).kp T.bd_only passN (pa_cons (pv 5) (pa_cons pe_bl (pa_cons pe_bl (pa_cons pe_bl pa_nil)))))))))) HnOk.nil))
    (pss_one (ps_ret pe_bl))))))
abbrev nm_deed : List Str := ["_law_box_here", "_law_outbox", "_law_state_here", "_law_way", "_law_data", "_law_bad"]
theorem sc_deed : FnScope nm_deed ["_law_box_here", "_law_outbox", "_law_state_here"] (defScope (top 32)) := ⟨rfl, rfl, rfl, by decide +kernel, rfl, by decide +kernel, by decide +kernel⟩
theorem ok_deed (T : Txt P K mg a) : FnG P w K mg base (L2.CX P w) 10 a.f_deed a.d_deed ["_law_box_here", "_law_outbox", "_law_state_here"] (sp_deed a.toCl) := by
  refine ok_bodyG T.fn_deed sc_deed rfl rfl fun cdv A outer s H E gd hr => ?_
  exact (pss_cons (ps_set (i := 3) sc_deed.nd rfl (by first | exact Or.inl rfl | exact Or.inr rfl) (pe_call (ok_draw T) (hr.mono (by decide)) rfl T.mg_draw (T.fn_draw).kp T.bd_draw .nil passE (pa_cons (pv 0) (pa_cons pe_int pa_nil))))
    (pss_cons (ps_if (pt_cmpR o_lt (pv 3) pe_int (nomark _)) (pss_cons (ps_set (i := 4) sc_deed.nd rfl (by first | exact Or.inl rfl | exact Or.inr rfl) (pe_call (ok_bytes T) (hr.mono (by decide)) rfl T.mg_bytes (T.fn_bytes).kp T.bd_bytes .nil passE (pa_cons (pv 0) (pa_cons pe_int pa_nil))))
    (pss_cons (ps_if (pt_cmpR (o_eqP T.st hr.units) (pe_call (ok_draw T) (hr.mono (by decide)) rfl T.mg_draw (T.fn_draw).kp T.bd_draw .nil passE (pa_cons (pv 0) (pa_cons pe_int pa_nil))) pe_int (nomark _)) (pss_one (ps_ret (pe_call (ok_adds T) (hr.mono (by decide)) rfl T.mg_adds (T.fn_adds).kp T.bd_adds .nil passE (pa_cons (pv 1) (pa_cons (pv 2) (pa_cons (pe_callTy (c_tuple T.st) (by rfl) T.no_tuple (by decide +kernel) (pa_cons (pv 4) pa_nil)) (pa_cons (pe_cmpR o_gt (pv 3) pe_int (nomark _)) pa_nil))))))) pss_nil)
    (pss_one (ps_ret (pe_call (ok_adds T) (hr.mono (by decide)) rfl T.mg_adds (T.fn_adds).kp T.bd_adds .nil passE (pa_cons (pv 1) (pa_cons (pv 2) (pa_cons (pv 4) (pa_cons (pe_cmpR o_gt (pv 3) pe_int (nomark _)) pa_nil))))))))) pss_nil)
    (pss_cons (ps_if (pt_cmpR o_lt (pv 3) pe_int (nomark _)) (pss_one (ps_ret (pe_call (ok_cuts T) (hr.mono (by decide)) rfl T.mg_cuts (T.fn_cuts).kp T.bd_cuts .nil passE (pa_cons (pv 0) (pa_cons (pv 1) (pa_cons (pv 2) pa_nil)))))) pss_nil)
    (pss_cons (ps_if (pt_cmpR o_lt (pv 3) pe_int (nomark _)) (pss_one (ps_ret (pe_call (ok_releases T) (hr.mono (by decide)) rfl T.mg_releases (T.fn_releases).kp T.bd_releases .nil passE (pa_cons (pv 0) (pa_cons (pv 1) (pa_cons (pv 2) pa_nil)))))) pss_nil)
    (pss_cons (ps_if (pt_cmpR (o_eqP T.st hr.units) (pv 3) pe_int (nomark _)) (pss_cons (ps_rec (units1 hr.units) (pv 2) (pe_call (ok_limit T) (hr.mono (by decide)) rfl T.mg_limit (T.fn_limit).kp T.bd_limit .nil passE (pa_cons (pv 0) pa_nil)))
    (pss_one (ps_ret (pe_cmpR o_is (pe_meth (pv 1) T.cl_Outbox T.mt_Outbox_resize (ok_Outbox_resize T) (hr.mono (by decide)) T.bd_Outbox_resize .nil passE (pa_cons (pe_rec (units1 hr.units) (pv 2)) pa_nil)) pe_non (nomark _))))) pss_nil)
    (pss_cons (ps_if (pt_cmpR (o_eqP T.st hr.units) (pv 3) pe_int (nomark _)) (pss_cons (ps_if (pt_cmpR (o_eqP T.st hr.units) (pe_call (ok_draw T) (hr.mono (by decide)) rfl T.mg_draw (T.fn_draw).kp T.bd_draw .nil passE (pa_cons (pv 0) (pa_cons pe_int pa_nil))) pe_int (nomark _)) (pss_one (ps_ret pe_bl)) pss_nil)
    (pss_cons (ps_rec (units1 hr.units) (pv 2) pe_bl)
    (pss_one (ps_ret (pe_cmpR o_is (pe_meth0 (pv 1) T.cl_Outbox T.mt_Outbox_shut (ok_Outbox_shut T) (hr.mono (by decide)) T.bd_Outbox_shut .nil passE ) pe_non (nomark _)))))) pss_nil)
    (pss_cons (ps_if (pt_cmpR o_lt (pv 3) pe_int (nomark _)) (pss_cons (ps_set (i := 5) sc_deed.nd rfl (by first | exact Or.inl rfl | exact Or.inr rfl) (pe_call (ok_bad_data T) (hr.mono (by decide)) rfl T.mg_bad_data (T.fn_bad_data).kp T.bd_bad_data .nil passE (pa_cons (pv 0) pa_nil)))
    (pss_one (ps_ret (pe_callG (ok_data_refused T) gd (hr.mono (by decide)) rfl T.mg_data_refused (T.fn_data_refused).kp T.bd_data_refused passE (pa_cons (pv 1) (pa_cons (pv 2) (pa_cons (pe_ix (o_ix T.st) (pv 5) pe_int (fun _ _ => rfl)) (pa_cons (pe_ix (o_ix T.st) (pv 5) pe_int (fun _ _ => rfl)) (pa_cons (pe_cmpR (o_eqP T.st hr.units) (pv 3) pe_int (nomark _)) pa_nil))))))))) pss_nil)
    (pss_cons (ps_if (pt_cmpR (o_eqP T.st hr.units) (pv 3) pe_int (nomark _)) (pss_one (ps_ret (pe_and (pe_callG (ok_cut_refused T) gd (hr.mono (by decide)) rfl T.mg_cut_refused (T.fn_cut_refused).kp T.bd_cut_refused passE (pa_cons (pv 0) (pa_cons (pv 1) (pa_cons (pv 2) pa_nil)))) (pe_one (pe_callG (ok_release_refused T) gd (hr.mono (by decide)) rfl T.mg_release_refused (T.fn_release_refused).kp T.bd_release_refused passE (pa_cons (pv 0) (pa_cons (pv 1) (pa_cons (pv 2) pa_nil)))))))) pss_nil)
    (pss_one (ps_ret (pe_call (ok_limit_refused T) (hr.mono (by decide)) rfl T.mg_limit_refused (T.fn_limit_refused).kp T.bd_limit_refused .nil passE (pa_cons (pv 0) (pa_cons (pv 1) pa_nil)))))))))))))
abbrev nm_law : List Str := ["_law_script", "_law_box_here", "_law_states", "_law_pair", "_law_many", "_law_k", "_law_most", "_law_which", "_law_bad"]
theorem sc_law : FnScope nm_law ["_law_script"] (defScope (top 33)) := ⟨rfl, rfl, rfl, by decide +kernel, rfl, by decide +kernel, by decide +kernel⟩
theorem ok_law (T : Txt P K mg a) : FnG P w K mg base (L2.CX P w) 11 a.f_law a.d_law ["_law_script"] (sp_law a.toCl) := by
  refine ok_bodyG T.fn_law sc_law rfl rfl fun cdv A outer s H E gd hr => ?_
  exact (pss_cons (ps_set (i := 1) sc_law.nd rfl (by first | exact Or.inl rfl | exact Or.inr rfl) (pe_call (ok_box T) (hr.mono (by decide)) rfl T.mg_box (T.fn_box).kp T.bd_box .nil passE (pa_cons (pv 0) pa_nil)))
    (pss_cons (ps_set (i := 2) sc_law.nd rfl (by first | exact Or.inl rfl | exact Or.inr rfl) (pe_lst pa_nil))
    (pss_cons (ps_set (i := 3) sc_law.nd rfl (by first | exact Or.inl rfl | exact Or.inr rfl) (pe_lst pa_nil))
    (pss_cons (ps_set (i := 4) sc_law.nd rfl (by first | exact Or.inl rfl | exact Or.inr rfl) (pe_op o_add pe_int (pe_call (ok_draw T) (hr.mono (by decide)) rfl T.mg_draw (T.fn_draw).kp T.bd_draw .nil passE (pa_cons (pv 1) (pa_cons pe_int pa_nil)))))
    (pss_cons (ps_forR1 (passes_of rfl) rfl rfl T.no_range pe_int (pg_name (i := 5) sc_law.nd rfl (by first | exact Or.inl rfl | exact Or.inr rfl)) (pss_cons (ps_set (i := 6) sc_law.nd rfl (by first | exact Or.inl rfl | exact Or.inr rfl) (pe_call (ok_limit T) (hr.mono (by decide)) rfl T.mg_limit (T.fn_limit).kp T.bd_limit .nil passE (pa_cons (pv 1) pa_nil)))
    (pss_cons (ps_expr (pe_app (pv 2) (pa_cons (pe_recN (l := [("limit", (tVar 6)), ("content", (tLst tNil)), ("base", (tC (.int 1))), ("closed", (tC (.bl false))), ("urgent", (tC (.int 0)))]) (pps_cons pe_str (pe_mo (pv 6)) (pps_cons pe_str (pe_mo (pe_lst pa_nil)) (pps_cons pe_str (pe_mo pe_int) (pps_cons pe_str (pe_mo pe_bl) (pps_cons pe_str (pe_mo pe_int) pps_nil))))) rfl rfl (by simp) (by decide)) pa_nil)))
    (pss_cons (ps_expr (pe_app (pv 3) (pa_cons (pe_make T.mk_Outbox (ok_Outbox___init__ T) (hr.mono (by decide)) rfl T.mg_Outbox T.bd_Outbox___init__ .nil passE (pa_cons (pv 6) pa_nil)) pa_nil)))
    (pss_one (ps_if (pt_not (pt_val (pe_call (ok_state T) (hr.mono (by decide)) rfl T.mg_state (T.fn_state).kp T.bd_state .nil passE (pa_cons (pe_ix (o_ix T.st) (pv 3) (pv 5) (fun _ _ => rfl)) (pa_cons (pe_ix (o_ix T.st) (pv 2) (pv 5) (fun _ _ => rfl)) pa_nil))))) (pss_one (ps_ret pe_bl)) pss_nil))))))
    (pss_cons (ps_forR1 (passes_of rfl) rfl rfl T.no_range (pv 4) (pg_name (i := 5) sc_law.nd rfl (by first | exact Or.inl rfl | exact Or.inr rfl)) (pss_cons (ps_set (i := 7) sc_law.nd rfl (by first | exact Or.inl rfl | exact Or.inr rfl) (pe_call (ok_draw T) (hr.mono (by decide)) rfl T.mg_draw (T.fn_draw).kp T.bd_draw .nil passE (pa_cons (pv 1) (pa_cons pe_int pa_nil))))
    (pss_cons (ps_if (pt_not (pt_val (pe_callG (ok_deed T) gd (hr.mono (by decide)) rfl T.mg_deed (T.fn_deed).kp T.bd_deed passE (pa_cons (pv 1) (pa_cons (pe_ix (o_ix T.st) (pv 3) (pv 7) (fun _ _ => rfl)) (pa_cons (pe_ix (o_ix T.st) (pv 2) (pv 7) (fun _ _ => rfl)) pa_nil)))))) (pss_one (ps_ret pe_bl)) pss_nil)
    (pss_one (ps_if (PW.pt (pw_and (pt_cmpR o_gt (pe_call (ok_draw T) (hr.mono (by decide)) rfl T.mg_draw (T.fn_draw).kp T.bd_draw .nil passE (pa_cons (pv 1) (pa_cons pe_int pa_nil))) pe_int (nomark _)) (pw_and1 (pt_not (pt_val (pe_call (ok_state T) (hr.mono (by decide)) rfl T.mg_state (T.fn_state).kp T.bd_state .nil passE (pa_cons (pe_ix (o_ix T.st) (pv 3) (pv 7) (fun _ _ => rfl)) (pa_cons (pe_ix (o_ix T.st) (pv 2) (pv 7) (fun _ _ => rfl)) pa_nil)))))))) (pss_one (ps_ret pe_bl)) pss_nil)))))
    (pss_cons (ps_forR1 (passes_of rfl) rfl rfl T.no_range pe_int (pg_name (i := 5) sc_law.nd rfl (by first | exact Or.inl rfl | exact Or.inr rfl)) (pss_cons (ps_if (PW.pt (pw_or (pt_not (pt_val (pe_call (ok_state T) (hr.mono (by decide)) rfl T.mg_state (T.fn_state).kp T.bd_state .nil passE (pa_cons (pe_ix (o_ix T.st) (pv 3) (pv 5) (fun _ _ => rfl)) (pa_cons (pe_ix (o_ix T.st) (pv 2) (pv 5) (fun _ _ => rfl)) pa_nil))))) (pw_or1 (pt_not (pt_val (pe_call (ok_cuts T) (hr.mono (by decide)) rfl T.mg_cuts (T.fn_cuts).kp T.bd_cuts .nil passE (pa_cons (pv 1) (pa_cons (pe_ix (o_ix T.st) (pv 3) (pv 5) (fun _ _ => rfl)) (pa_cons (pe_ix (o_ix T.st) (pv 2) (pv 5) (fun _ _ => rfl)) pa_nil))))))))) (pss_one (ps_ret pe_bl)) pss_nil)
    (pss_cons (ps_if (PW.pt (pw_or (pt_cmpR o_isnot (pe_meth0 (pe_ix (o_ix T.st) (pv 3) (pv 5) (fun _ _ => rfl)) T.cl_Outbox T.mt_Outbox_shut (ok_Outbox_shut T) (hr.mono (by decide)) T.bd_Outbox_shut .nil passE ) pe_non (nomark _)) (pw_or1 (pt_cmpR o_isnot (pe_meth0 (pe_ix (o_ix T.st) (pv 3) (pv 5) (fun _ _ => rfl)) T.cl_Outbox T.mt_Outbox_shut (ok_Outbox_shut T) (hr.mono (by decide)) T.bd_Outbox_shut .nil passE ) pe_non (nomark _))))) (pss_one (ps_ret pe_bl)) pss_nil)
    (pss_cons (ps_rec (units1 hr.units) (pe_ix (o_ix T.st) (pv 2) (pv 5) (fun _ _ => rfl)) pe_bl)
    (pss_cons (ps_if (PW.pt (pw_or (pt_not (pt_val (pe_call (ok_state T) (hr.mono (by decide)) rfl T.mg_state (T.fn_state).kp T.bd_state .nil passE (pa_cons (pe_ix (o_ix T.st) (pv 3) (pv 5) (fun _ _ => rfl)) (pa_cons (pe_ix (o_ix T.st) (pv 2) (pv 5) (fun _ _ => rfl)) pa_nil))))) (pw_or1 (pt_not (pt_val (pe_call (ok_adds T) (hr.mono (by decide)) rfl T.mg_adds (T.fn_adds).kp T.bd_adds .nil passE (pa_cons (pe_ix (o_ix T.st) (pv 3) (pv 5) (fun _ _ => rfl)) (pa_cons (pe_ix (o_ix T.st) (pv 2) (pv 5) (fun _ _ => rfl)) (pa_cons (pe_lst pa_nil) (pa_cons (pe_cmpR (o_eqP T.st hr.units) (pv 5) pe_int (nomark _)) pa_nil)))))))))) (pss_one (ps_ret pe_bl)) pss_nil)
    (pss_cons (ps_set (i := 8) sc_law.nd rfl (by first | exact Or.inl rfl | exact Or.inr rfl) (pe_call (ok_bad_data T) (hr.mono (by decide)) rfl T.mg_bad_data (T.fn_bad_data).kp T.bd_bad_data .nil passE (pa_cons (pv 1) pa_nil)))
    (pss_cons (ps_if (pt_not (pt_val (pe_callG (ok_data_refused T) gd (hr.mono (by decide)) rfl T.mg_data_refused (T.fn_data_refused).kp T.bd_data_refused passE (pa_cons (pe_ix (o_ix T.st) (pv 3) (pv 5) (fun _ _ => rfl)) (pa_cons (pe_ix (o_ix T.st) (pv 2) (pv 5) (fun _ _ => rfl)) (pa_cons (pe_ix (o_ix T.st) (pv 8) pe_int (fun _ _ => rfl)) (pa_cons (pe_ix (o_ix T.st) (pv 8) pe_int (fun _ _ => rfl)) (pa_cons (pe_cmpR (o_eqP T.st hr.units) (pv 5) pe_int (nomark _)) pa_nil)))))))) (pss_one (ps_ret pe_bl)) pss_nil)
    (pss_one (ps_if (PW.pt (pw_or (pt_not (pt_val (pe_call (ok_state T) (hr.mono (by decide)) rfl T.mg_state (T.fn_state).kp T.bd_state .nil passE (pa_cons (pe_ix (o_ix T.st) (pv 3) (pv 5) (fun _ _ => rfl)) (pa_cons (pe_ix (o_ix T.st) (pv 2) (pv 5) (fun _ _ => rfl)) pa_nil))))) (pw_or1 (pt_not (pt_val (pe_call (ok_cuts T) (hr.mono (by decide)) rfl T.mg_cuts (T.fn_cuts).kp T.bd_cuts .nil passE (pa_cons (pv 1) (pa_cons (pe_ix (o_ix T.st) (pv 3) (pv 5) (fun _ _ => rfl)) (pa_cons (pe_ix (o_ix T.st) (pv 2) (pv 5) (fun _ _ => rfl)) pa_nil))))))))) (pss_one (ps_ret pe_bl)) pss_nil)))))))))
    (pss_one (ps_ret pe_bl)))))))))
end
/-! ### what the top has written -/
theorem useFn {R : Prop} {K : PySem.W.Frag} {h : Heap} {mg : Str → Option Value} (X : K.In h) (G : h.Ns mainGlobals mg) {x : Str} {st : Stmt} {f : Addr} {ps : List Str} {oc kV doc pm cd ct : Value} {od an : Option Addr} {sl : Array (Option Value)}
    (n : PySem.W.nsIn K mainGlobals x = some (some (.ref f))) (l : K.lookup f = some ⟨oc, od, .func (PySem.W.fnOf x x (defArgs st) (defBody st) (defScope st) .none kV doc pm an cd ct), sl⟩) (c : PySem.W.codeIn K cd x = true) (k : PySem.W.keepIn K (.ref f) = true)
    (hb : ∀ (kV doc pm : Value) (an : Option Addr) (cdv ct : Value) (us : List Value), us.length = ps.length → bindArgs (PySem.W.fnOf x x (defArgs st) (defBody st) (defScope st) .none kV doc pm an cdv ct) ⟨us, []⟩ = pure (ps.zip us))
    (r : ∀ (f : Addr) (fd : FuncData), mg x = some (.ref f) → Fun K x x st f fd → (∀ us : List Value, us.length = ps.length → bindArgs fd ⟨us, []⟩ = pure (ps.zip us)) → R) : R :=
  r f _ (PySem.W.mg_of X G n) (fun_mk l c k) fun us hl => hb kV doc pm an cd ct us hl
theorem useConst {R : Prop} {K : PySem.W.Frag} {h : Heap} {mg : Str → Option Value} (X : K.In h) (G : h.Ns mainGlobals mg) {x : Str} {i : Int} {t : Tok} (n : PySem.W.nsIn K mainGlobals x = some (some (.int i t))) (r : (∃ t, mg x = some (.int i t)) → R) : R := r ⟨t, PySem.W.mg_of X G n⟩
theorem useConstS {R : Prop} {K : PySem.W.Frag} {h : Heap} {mg : Str → Option Value} (X : K.In h) (G : h.Ns mainGlobals mg) {x : Str} {i : Str} {t : Tok} (n : PySem.W.nsIn K mainGlobals x = some (some (.str i t))) (r : (∃ t, mg x = some (.str i t)) → R) : R := r ⟨t, PySem.W.mg_of X G n⟩
theorem useC_Outbox {R : Prop} {K : PySem.W.Frag} {h : Heap} {mg : Str → Option Value} {P : Program} (X : K.In h) (G : h.Ns mainGlobals mg) {c_Outbox : Addr} {f_Outbox_limit_set : Addr} {oc_Outbox_limit_set doc_Outbox_limit_set pm_Outbox_limit_set ct_Outbox_limit_set : Value} {od_Outbox_limit_set an_Outbox_limit_set : Option Addr} {sl_Outbox_limit_set : Array (Option Value)} {kV_Outbox_limit_set : Value} {cd_Outbox_limit_set : Value} {ps_Outbox_limit_set : Addr} {as_Outbox_limit_set : Value} {rs_Outbox_limit_set : List Value} {f_Outbox___init__ : Addr} {oc_Outbox___init__ doc_Outbox___init__ pm_Outbox___init__ ct_Outbox___init__ : Value} {od_Outbox___init__ an_Outbox___init__ : Option Addr} {sl_Outbox___init__ : Array (Option Value)} {kV_Outbox___init__ : Value} {cd_Outbox___init__ : Value} {f_Outbox_free : Addr} {oc_Outbox_free doc_Outbox_free pm_Outbox_free ct_Outbox_free : Value} {od_Outbox_free an_Outbox_free : Option Addr} {sl_Outbox_free : Array (Option Value)} {kV_Outbox_free : Value} {cd_Outbox_free : Value} {p_Outbox_free : Addr} {rest_Outbox_free : List Value} {f_Outbox_limit : Addr} {oc_Outbox_limit doc_Outbox_limit pm_Outbox_limit ct_Outbox_limit : Value} {od_Outbox_limit an_Outbox_limit : Option Addr} {sl_Outbox_limit : Array (Option Value)} {kV_Outbox_limit : Value} {cd_Outbox_limit : Value} {p_Outbox_limit : Addr} {rest_Outbox_limit : List Value} {f_Outbox_bound : Addr} {oc_Outbox_bound doc_Outbox_bound pm_Outbox_bound ct_Outbox_bound : Value} {od_Outbox_bound an_Outbox_bound : Option Addr} {sl_Outbox_bound : Array (Option Value)} {kV_Outbox_bound : Value} {cd_Outbox_bound : Value} {p_Outbox_bound : Addr} {rest_Outbox_bound : List Value} {f_Outbox_put : Addr} {oc_Outbox_put doc_Outbox_put pm_Outbox_put ct_Outbox_put : Value} {od_Outbox_put an_Outbox_put : Option Addr} {sl_Outbox_put : Array (Option Value)} {kV_Outbox_put : Value} {cd_Outbox_put : Value} {f_Outbox_urge : Addr} {oc_Outbox_urge doc_Outbox_urge pm_Outbox_urge ct_Outbox_urge : Value} {od_Outbox_urge an_Outbox_urge : Option Addr} {sl_Outbox_urge : Array (Option Value)} {kV_Outbox_urge : Value} {cd_Outbox_urge : Value} {f_Outbox_cut : Addr} {oc_Outbox_cut doc_Outbox_cut pm_Outbox_cut ct_Outbox_cut : Value} {od_Outbox_cut an_Outbox_cut : Option Addr} {sl_Outbox_cut : Array (Option Value)} {kV_Outbox_cut : Value} {cd_Outbox_cut : Value} {f_Outbox_release : Addr} {oc_Outbox_release doc_Outbox_release pm_Outbox_release ct_Outbox_release : Value} {od_Outbox_release an_Outbox_release : Option Addr} {sl_Outbox_release : Array (Option Value)} {kV_Outbox_release : Value} {cd_Outbox_release : Value} {f_Outbox_resize : Addr} {oc_Outbox_resize doc_Outbox_resize pm_Outbox_resize ct_Outbox_resize : Value} {od_Outbox_resize an_Outbox_resize : Option Addr} {sl_Outbox_resize : Array (Option Value)} {kV_Outbox_resize : Value} {cd_Outbox_resize : Value} {f_Outbox_shut : Addr} {oc_Outbox_shut doc_Outbox_shut pm_Outbox_shut ct_Outbox_shut : Value} {od_Outbox_shut an_Outbox_shut : Option Addr} {sl_Outbox_shut : Array (Option Value)} {kV_Outbox_shut : Value} {cd_Outbox_shut : Value}
    (n_Outbox : PySem.W.nsIn K mainGlobals "Outbox" = some (some (.ref c_Outbox)))
    (hd_Outbox : PySem.W.hasDictIn K c_Outbox = true)
    (pg_Outbox : PySem.W.plainGet K c_Outbox Str.empty = true)
    (po_Outbox : PySem.W.plainOver K c_Outbox = true)
    (sa_Outbox : PySem.W.findIn K (.ref c_Outbox) "__setattr__" = some (some (.builtin "object.__setattr__")))
    (mk_Outbox : PySem.W.makesIn K c_Outbox = true)
    (kc_Outbox : PySem.W.keepIn K (.ref c_Outbox) = true)
    (na_Outbox_capacity : PySem.W.findIn K (.ref c_Outbox) "capacity" = some none)
    (na_Outbox_base : PySem.W.findIn K (.ref c_Outbox) "base" = some none)
    (na_Outbox_end : PySem.W.findIn K (.ref c_Outbox) "end" = some none)
    (na_Outbox_closed : PySem.W.findIn K (.ref c_Outbox) "closed" = some none)
    (na_Outbox_urgent_end : PySem.W.findIn K (.ref c_Outbox) "urgent_end" = some none)
    (na_Outbox_content : PySem.W.findIn K (.ref c_Outbox) "content" = some none)
    (tk_Outbox_limit_set : PySem.W.takerIn K c_Outbox "limit" = some (some (.ref ps_Outbox_limit_set)))
    (ty_Outbox_limit_set : PySem.W.typeIn K (.ref ps_Outbox_limit_set) = some (.type "property"))
    (rc_Outbox_limit_set : PySem.W.recIn K ps_Outbox_limit_set "property" = some (as_Outbox_limit_set :: .ref f_Outbox_limit_set :: rs_Outbox_limit_set))
    (l_Outbox_limit_set : K.lookup f_Outbox_limit_set = some ⟨oc_Outbox_limit_set, od_Outbox_limit_set, .func (PySem.W.fnOf "limit" "Outbox.limit" (defArgs (inClass (top 14) 2)) (defBody (inClass (top 14) 2)) (defScope (inClass (top 14) 2)) .none kV_Outbox_limit_set doc_Outbox_limit_set pm_Outbox_limit_set an_Outbox_limit_set cd_Outbox_limit_set ct_Outbox_limit_set), sl_Outbox_limit_set⟩)
    (c_Outbox_limit_set : PySem.W.codeIn K cd_Outbox_limit_set "Outbox.limit" = true)
    (k_Outbox_limit_set : PySem.W.keepIn K (.ref f_Outbox_limit_set) = true)
    (n_Outbox___init__ : PySem.W.findIn K (.ref c_Outbox) "__init__" = some (some (.ref f_Outbox___init__)))
    (i_Outbox___init__ : PySem.W.isFn K (.ref f_Outbox___init__) = true)
    (l_Outbox___init__ : K.lookup f_Outbox___init__ = some ⟨oc_Outbox___init__, od_Outbox___init__, .func (PySem.W.fnOf "__init__" "Outbox.__init__" (defArgs (inClass (top 14) 0)) (defBody (inClass (top 14) 0)) (defScope (inClass (top 14) 0)) .none kV_Outbox___init__ doc_Outbox___init__ pm_Outbox___init__ an_Outbox___init__ cd_Outbox___init__ ct_Outbox___init__), sl_Outbox___init__⟩)
    (c_Outbox___init__ : PySem.W.codeIn K cd_Outbox___init__ "Outbox.__init__" = true)
    (k_Outbox___init__ : PySem.W.keepIn K (.ref f_Outbox___init__) = true)
    (n_Outbox_free : PySem.W.findIn K (.ref c_Outbox) "free" = some (some (.ref p_Outbox_free)))
    (g_Outbox_free : PySem.W.specialIn K (.ref p_Outbox_free) "__get__" = some (some (.builtin "property.__get__")))
    (t_Outbox_free : PySem.W.takesIn K (.ref p_Outbox_free) = some true)
    (r_Outbox_free : PySem.W.recIn K p_Outbox_free "property" = some (.ref f_Outbox_free :: rest_Outbox_free))
    (l_Outbox_free : K.lookup f_Outbox_free = some ⟨oc_Outbox_free, od_Outbox_free, .func (PySem.W.fnOf "free" "Outbox.free" (defArgs (inClass (top 14) 3)) (defBody (inClass (top 14) 3)) (defScope (inClass (top 14) 3)) .none kV_Outbox_free doc_Outbox_free pm_Outbox_free an_Outbox_free cd_Outbox_free ct_Outbox_free), sl_Outbox_free⟩)
    (c_Outbox_free : PySem.W.codeIn K cd_Outbox_free "Outbox.free" = true)
    (k_Outbox_free : PySem.W.keepIn K (.ref f_Outbox_free) = true)
    (n_Outbox_limit : PySem.W.findIn K (.ref c_Outbox) "limit" = some (some (.ref p_Outbox_limit)))
    (g_Outbox_limit : PySem.W.specialIn K (.ref p_Outbox_limit) "__get__" = some (some (.builtin "property.__get__")))
    (t_Outbox_limit : PySem.W.takesIn K (.ref p_Outbox_limit) = some true)
    (r_Outbox_limit : PySem.W.recIn K p_Outbox_limit "property" = some (.ref f_Outbox_limit :: rest_Outbox_limit))
    (l_Outbox_limit : K.lookup f_Outbox_limit = some ⟨oc_Outbox_limit, od_Outbox_limit, .func (PySem.W.fnOf "limit" "Outbox.limit" (defArgs (inClass (top 14) 1)) (defBody (inClass (top 14) 1)) (defScope (inClass (top 14) 1)) .none kV_Outbox_limit doc_Outbox_limit pm_Outbox_limit an_Outbox_limit cd_Outbox_limit ct_Outbox_limit), sl_Outbox_limit⟩)
    (c_Outbox_limit : PySem.W.codeIn K cd_Outbox_limit "Outbox.limit" = true)
    (k_Outbox_limit : PySem.W.keepIn K (.ref f_Outbox_limit) = true)
    (n_Outbox_bound : PySem.W.findIn K (.ref c_Outbox) "bound" = some (some (.ref p_Outbox_bound)))
    (g_Outbox_bound : PySem.W.specialIn K (.ref p_Outbox_bound) "__get__" = some (some (.builtin "property.__get__")))
    (t_Outbox_bound : PySem.W.takesIn K (.ref p_Outbox_bound) = some true)
    (r_Outbox_bound : PySem.W.recIn K p_Outbox_bound "property" = some (.ref f_Outbox_bound :: rest_Outbox_bound))
    (l_Outbox_bound : K.lookup f_Outbox_bound = some ⟨oc_Outbox_bound, od_Outbox_bound, .func (PySem.W.fnOf "bound" "Outbox.bound" (defArgs (inClass (top 14) 4)) (defBody (inClass (top 14) 4)) (defScope (inClass (top 14) 4)) .none kV_Outbox_bound doc_Outbox_bound pm_Outbox_bound an_Outbox_bound cd_Outbox_bound ct_Outbox_bound), sl_Outbox_bound⟩)
    (c_Outbox_bound : PySem.W.codeIn K cd_Outbox_bound "Outbox.bound" = true)
    (k_Outbox_bound : PySem.W.keepIn K (.ref f_Outbox_bound) = true)
    (n_Outbox_put : PySem.W.findIn K (.ref c_Outbox) "put" = some (some (.ref f_Outbox_put)))
    (i_Outbox_put : PySem.W.isFn K (.ref f_Outbox_put) = true)
    (l_Outbox_put : K.lookup f_Outbox_put = some ⟨oc_Outbox_put, od_Outbox_put, .func (PySem.W.fnOf "put" "Outbox.put" (defArgs (inClass (top 14) 6)) (defBody (inClass (top 14) 6)) (defScope (inClass (top 14) 6)) .none kV_Outbox_put doc_Outbox_put pm_Outbox_put an_Outbox_put cd_Outbox_put ct_Outbox_put), sl_Outbox_put⟩)
    (c_Outbox_put : PySem.W.codeIn K cd_Outbox_put "Outbox.put" = true)
    (k_Outbox_put : PySem.W.keepIn K (.ref f_Outbox_put) = true)
    (n_Outbox_urge : PySem.W.findIn K (.ref c_Outbox) "urge" = some (some (.ref f_Outbox_urge)))
    (i_Outbox_urge : PySem.W.isFn K (.ref f_Outbox_urge) = true)
    (l_Outbox_urge : K.lookup f_Outbox_urge = some ⟨oc_Outbox_urge, od_Outbox_urge, .func (PySem.W.fnOf "urge" "Outbox.urge" (defArgs (inClass (top 14) 7)) (defBody (inClass (top 14) 7)) (defScope (inClass (top 14) 7)) .none kV_Outbox_urge doc_Outbox_urge pm_Outbox_urge an_Outbox_urge cd_Outbox_urge ct_Outbox_urge), sl_Outbox_urge⟩)
    (c_Outbox_urge : PySem.W.codeIn K cd_Outbox_urge "Outbox.urge" = true)
    (k_Outbox_urge : PySem.W.keepIn K (.ref f_Outbox_urge) = true)
    (n_Outbox_cut : PySem.W.findIn K (.ref c_Outbox) "cut" = some (some (.ref f_Outbox_cut)))
    (i_Outbox_cut : PySem.W.isFn K (.ref f_Outbox_cut) = true)
    (l_Outbox_cut : K.lookup f_Outbox_cut = some ⟨oc_Outbox_cut, od_Outbox_cut, .func (PySem.W.fnOf "cut" "Outbox.cut" (defArgs (inClass (top 14) 9)) (defBody (inClass (top 14) 9)) (defScope (inClass (top 14) 9)) .none kV_Outbox_cut doc_Outbox_cut pm_Outbox_cut an_Outbox_cut cd_Outbox_cut ct_Outbox_cut), sl_Outbox_cut⟩)
    (c_Outbox_cut : PySem.W.codeIn K cd_Outbox_cut "Outbox.cut" = true)
    (k_Outbox_cut : PySem.W.keepIn K (.ref f_Outbox_cut) = true)
    (n_Outbox_release : PySem.W.findIn K (.ref c_Outbox) "release" = some (some (.ref f_Outbox_release)))
    (i_Outbox_release : PySem.W.isFn K (.ref f_Outbox_release) = true)
    (l_Outbox_release : K.lookup f_Outbox_release = some ⟨oc_Outbox_release, od_Outbox_release, .func (PySem.W.fnOf "release" "Outbox.release" (defArgs (inClass (top 14) 10)) (defBody (inClass (top 14) 10)) (defScope (inClass (top 14) 10)) .none kV_Outbox_release doc_Outbox_release pm_Outbox_release an_Outbox_release cd_Outbox_release ct_Outbox_release), sl_Outbox_release⟩)
    (c_Outbox_release : PySem.W.codeIn K cd_Outbox_release "Outbox.release" = true)
    (k_Outbox_release : PySem.W.keepIn K (.ref f_Outbox_release) = true)
    (n_Outbox_resize : PySem.W.findIn K (.ref c_Outbox) "resize" = some (some (.ref f_Outbox_resize)))
    (i_Outbox_resize : PySem.W.isFn K (.ref f_Outbox_resize) = true)
    (l_Outbox_resize : K.lookup f_Outbox_resize = some ⟨oc_Outbox_resize, od_Outbox_resize, .func (PySem.W.fnOf "resize" "Outbox.resize" (defArgs (inClass (top 14) 5)) (defBody (inClass (top 14) 5)) (defScope (inClass (top 14) 5)) .none kV_Outbox_resize doc_Outbox_resize pm_Outbox_resize an_Outbox_resize cd_Outbox_resize ct_Outbox_resize), sl_Outbox_resize⟩)
    (c_Outbox_resize : PySem.W.codeIn K cd_Outbox_resize "Outbox.resize" = true)
    (k_Outbox_resize : PySem.W.keepIn K (.ref f_Outbox_resize) = true)
    (n_Outbox_shut : PySem.W.findIn K (.ref c_Outbox) "shut" = some (some (.ref f_Outbox_shut)))
    (i_Outbox_shut : PySem.W.isFn K (.ref f_Outbox_shut) = true)
    (l_Outbox_shut : K.lookup f_Outbox_shut = some ⟨oc_Outbox_shut, od_Outbox_shut, .func (PySem.W.fnOf "shut" "Outbox.shut" (defArgs (inClass (top 14) 8)) (defBody (inClass (top 14) 8)) (defScope (inClass (top 14) 8)) .none kV_Outbox_shut doc_Outbox_shut pm_Outbox_shut an_Outbox_shut cd_Outbox_shut ct_Outbox_shut), sl_Outbox_shut⟩)
    (c_Outbox_shut : PySem.W.codeIn K cd_Outbox_shut "Outbox.shut" = true)
    (k_Outbox_shut : PySem.W.keepIn K (.ref f_Outbox_shut) = true)
    (r : ∀ (c_Outbox : Addr) (f_Outbox_limit_set : Addr) (d_Outbox_limit_set : FuncData) (f_Outbox___init__ : Addr) (d_Outbox___init__ : FuncData) (f_Outbox_free : Addr) (d_Outbox_free : FuncData) (f_Outbox_limit : Addr) (d_Outbox_limit : FuncData) (f_Outbox_bound : Addr) (d_Outbox_bound : FuncData) (f_Outbox_put : Addr) (d_Outbox_put : FuncData) (f_Outbox_urge : Addr) (d_Outbox_urge : FuncData) (f_Outbox_cut : Addr) (d_Outbox_cut : FuncData) (f_Outbox_release : Addr) (d_Outbox_release : FuncData) (f_Outbox_resize : Addr) (d_Outbox_resize : FuncData) (f_Outbox_shut : Addr) (d_Outbox_shut : FuncData), (Fun K "limit" "Outbox.limit" (inClass (top 14) 2) f_Outbox_limit_set d_Outbox_limit_set) → (Binds K d_Outbox_limit_set ["self", "value"] []) → (Fun K "__init__" "Outbox.__init__" (inClass (top 14) 0) f_Outbox___init__ d_Outbox___init__) → (Binds K d_Outbox___init__ ["self", "limit"] []) → (Fun K "free" "Outbox.free" (inClass (top 14) 3) f_Outbox_free d_Outbox_free) → (Binds K d_Outbox_free ["self"] []) → (Fun K "limit" "Outbox.limit" (inClass (top 14) 1) f_Outbox_limit d_Outbox_limit) → (Binds K d_Outbox_limit ["self"] []) → (Fun K "bound" "Outbox.bound" (inClass (top 14) 4) f_Outbox_bound d_Outbox_bound) → (Binds K d_Outbox_bound ["self"] []) → (Fun K "put" "Outbox.put" (inClass (top 14) 6) f_Outbox_put d_Outbox_put) → (Binds K d_Outbox_put ["self", "data"] []) → (Fun K "urge" "Outbox.urge" (inClass (top 14) 7) f_Outbox_urge d_Outbox_urge) → (Binds K d_Outbox_urge ["self", "data"] []) → (Fun K "cut" "Outbox.cut" (inClass (top 14) 9) f_Outbox_cut d_Outbox_cut) → (Binds K d_Outbox_cut ["self", "low", "high"] []) → (Fun K "release" "Outbox.release" (inClass (top 14) 10) f_Outbox_release d_Outbox_release) → (Binds K d_Outbox_release ["self", "offset"] []) → (Fun K "resize" "Outbox.resize" (inClass (top 14) 5) f_Outbox_resize d_Outbox_resize) → (Binds K d_Outbox_resize ["self", "limit"] []) → (Fun K "shut" "Outbox.shut" (inClass (top 14) 8) f_Outbox_shut d_Outbox_shut) → (Binds K d_Outbox_shut ["self"] []) → (Cls K c_Outbox) → (NoAttr K c_Outbox "capacity") → (∃ p, PropSet K c_Outbox "limit" p f_Outbox_limit_set) → (NoAttr K c_Outbox "base") → (NoAttr K c_Outbox "end") → (NoAttr K c_Outbox "closed") → (NoAttr K c_Outbox "urgent_end") → (NoAttr K c_Outbox "content") → (Mk K c_Outbox f_Outbox___init__) → (mg "Outbox" = some (.ref c_Outbox)) → (∃ p, PropOf K c_Outbox "free" p f_Outbox_free) → (∃ p, PropOf K c_Outbox "limit" p f_Outbox_limit) → (∃ p, PropOf K c_Outbox "bound" p f_Outbox_bound) → (Meth K c_Outbox "put" f_Outbox_put) → (Meth K c_Outbox "urge" f_Outbox_urge) → (Meth K c_Outbox "cut" f_Outbox_cut) → (Meth K c_Outbox "release" f_Outbox_release) → (Meth K c_Outbox "resize" f_Outbox_resize) → (Meth K c_Outbox "shut" f_Outbox_shut) → R) : R :=
  r c_Outbox f_Outbox_limit_set _ f_Outbox___init__ _ f_Outbox_free _ f_Outbox_limit _ f_Outbox_bound _ f_Outbox_put _ f_Outbox_urge _ f_Outbox_cut _ f_Outbox_release _ f_Outbox_resize _ f_Outbox_shut _ (fun_mk l_Outbox_limit_set c_Outbox_limit_set k_Outbox_limit_set) ((fun_mk (st := inClass (top 14) 2) l_Outbox_limit_set c_Outbox_limit_set k_Outbox_limit_set).binds (ps := ["self", "value"]) (fun _ _ _ _ _ _ us hl => match us, hl with | [_, _], _ => rfl)) (fun_mk l_Outbox___init__ c_Outbox___init__ k_Outbox___init__) ((fun_mk (st := inClass (top 14) 0) l_Outbox___init__ c_Outbox___init__ k_Outbox___init__).binds (ps := ["self", "limit"]) (fun _ _ _ _ _ _ us hl => match us, hl with | [_, _], _ => rfl)) (fun_mk l_Outbox_free c_Outbox_free k_Outbox_free) ((fun_mk (st := inClass (top 14) 3) l_Outbox_free c_Outbox_free k_Outbox_free).binds (ps := ["self"]) (fun _ _ _ _ _ _ us hl => match us, hl with | [_], _ => rfl)) (fun_mk l_Outbox_limit c_Outbox_limit k_Outbox_limit) ((fun_mk (st := inClass (top 14) 1) l_Outbox_limit c_Outbox_limit k_Outbox_limit).binds (ps := ["self"]) (fun _ _ _ _ _ _ us hl => match us, hl with | [_], _ => rfl)) (fun_mk l_Outbox_bound c_Outbox_bound k_Outbox_bound) ((fun_mk (st := inClass (top 14) 4) l_Outbox_bound c_Outbox_bound k_Outbox_bound).binds (ps := ["self"]) (fun _ _ _ _ _ _ us hl => match us, hl with | [_], _ => rfl)) (fun_mk l_Outbox_put c_Outbox_put k_Outbox_put) ((fun_mk (st := inClass (top 14) 6) l_Outbox_put c_Outbox_put k_Outbox_put).binds (ps := ["self", "data"]) (fun _ _ _ _ _ _ us hl => match us, hl with | [_, _], _ => rfl)) (fun_mk l_Outbox_urge c_Outbox_urge k_Outbox_urge) ((fun_mk (st := inClass (top 14) 7) l_Outbox_urge c_Outbox_urge k_Outbox_urge).binds (ps := ["self", "data"]) (fun _ _ _ _ _ _ us hl => match us, hl with | [_, _], _ => rfl)) (fun_mk l_Outbox_cut c_Outbox_cut k_Outbox_cut) ((fun_mk (st := inClass (top 14) 9) l_Outbox_cut c_Outbox_cut k_Outbox_cut).binds (ps := ["self", "low", "high"]) (fun _ _ _ _ _ _ us hl => match us, hl with | [_, _, _], _ => rfl)) (fun_mk l_Outbox_release c_Outbox_release k_Outbox_release) ((fun_mk (st := inClass (top 14) 10) l_Outbox_release c_Outbox_release k_Outbox_release).binds (ps := ["self", "offset"]) (fun _ _ _ _ _ _ us hl => match us, hl with | [_, _], _ => rfl)) (fun_mk l_Outbox_resize c_Outbox_resize k_Outbox_resize) ((fun_mk (st := inClass (top 14) 5) l_Outbox_resize c_Outbox_resize k_Outbox_resize).binds (ps := ["self", "limit"]) (fun _ _ _ _ _ _ us hl => match us, hl with | [_, _], _ => rfl)) (fun_mk l_Outbox_shut c_Outbox_shut k_Outbox_shut) ((fun_mk (st := inClass (top 14) 8) l_Outbox_shut c_Outbox_shut k_Outbox_shut).binds (ps := ["self"]) (fun _ _ _ _ _ _ us hl => match us, hl with | [_], _ => rfl)) (⟨pg_Outbox, hd_Outbox, po_Outbox, sa_Outbox⟩) (na_Outbox_capacity) (⟨_, tk_Outbox_limit_set, ty_Outbox_limit_set, _, _, rc_Outbox_limit_set⟩) (na_Outbox_base) (na_Outbox_end) (na_Outbox_closed) (na_Outbox_urgent_end) (na_Outbox_content) (⟨mk_Outbox, n_Outbox___init__, i_Outbox___init__, kc_Outbox⟩) (PySem.W.mg_of X G n_Outbox) (⟨p_Outbox_free, n_Outbox_free, g_Outbox_free, t_Outbox_free, ⟨rest_Outbox_free, r_Outbox_free⟩⟩) (⟨p_Outbox_limit, n_Outbox_limit, g_Outbox_limit, t_Outbox_limit, ⟨rest_Outbox_limit, r_Outbox_limit⟩⟩) (⟨p_Outbox_bound, n_Outbox_bound, g_Outbox_bound, t_Outbox_bound, ⟨rest_Outbox_bound, r_Outbox_bound⟩⟩) (⟨n_Outbox_put, i_Outbox_put, k_Outbox_put⟩) (⟨n_Outbox_urge, i_Outbox_urge, k_Outbox_urge⟩) (⟨n_Outbox_cut, i_Outbox_cut, k_Outbox_cut⟩) (⟨n_Outbox_release, i_Outbox_release, k_Outbox_release⟩) (⟨n_Outbox_resize, i_Outbox_resize, k_Outbox_resize⟩) (⟨n_Outbox_shut, i_Outbox_shut, k_Outbox_shut⟩)
theorem useExc {K : PySem.W.Frag} {h : Heap} {mg : Str → Option Value} {P : Program} {R : Prop} {c_InvalidSetting : Addr} {nm_InvalidSetting q_InvalidSetting : Str} {N_InvalidSetting : Addr} {bs_InvalidSetting bm_InvalidSetting : List Value} {sn_InvalidSetting : List Str} {sub_InvalidSetting : List Value} {ab_InvalidSetting : Bool} {col_InvalidSetting : Option Bool} {dd_InvalidSetting : Option Addr} {m0_InvalidSetting m1_InvalidSetting m2_InvalidSetting m3_InvalidSetting m5_InvalidSetting : Option Value} {c_NotAllowed : Addr} {nm_NotAllowed q_NotAllowed : Str} {N_NotAllowed : Addr} {bs_NotAllowed bm_NotAllowed : List Value} {sn_NotAllowed : List Str} {sub_NotAllowed : List Value} {ab_NotAllowed : Bool} {col_NotAllowed : Option Bool} {dd_NotAllowed : Option Addr} {m0_NotAllowed m1_NotAllowed m2_NotAllowed m3_NotAllowed m5_NotAllowed : Option Value} {c_InvalidNumber : Addr} {nm_InvalidNumber q_InvalidNumber : Str} {N_InvalidNumber : Addr} {bs_InvalidNumber bm_InvalidNumber : List Value} {sn_InvalidNumber : List Str} {sub_InvalidNumber : List Value} {ab_InvalidNumber : Bool} {col_InvalidNumber : Option Bool} {dd_InvalidNumber : Option Addr} {m0_InvalidNumber m1_InvalidNumber m2_InvalidNumber m3_InvalidNumber m5_InvalidNumber : Option Value} {c_LossError : Addr} {f_InvalidSetting_i : Addr} {oc_InvalidSetting_i kV_InvalidSetting_i doc_InvalidSetting_i pm_InvalidSetting_i ct_InvalidSetting_i cl_InvalidSetting_i ccl_InvalidSetting_i : Value} {od_InvalidSetting_i an_InvalidSetting_i cld_InvalidSetting_i cdd_InvalidSetting_i : Option Addr} {sl_InvalidSetting_i csl_InvalidSetting_i ccs_InvalidSetting_i : Array (Option Value)} {cda_InvalidSetting_i cc_InvalidSetting_i : Addr} {vs_InvalidSetting_i : Array Value} {file_InvalidSetting_i : Str} {tf_InvalidSetting_i : Tok} {f_NotAllowed_i : Addr} {oc_NotAllowed_i kV_NotAllowed_i doc_NotAllowed_i pm_NotAllowed_i ct_NotAllowed_i cl_NotAllowed_i ccl_NotAllowed_i : Value} {od_NotAllowed_i an_NotAllowed_i cld_NotAllowed_i cdd_NotAllowed_i : Option Addr} {sl_NotAllowed_i csl_NotAllowed_i ccs_NotAllowed_i : Array (Option Value)} {cda_NotAllowed_i cc_NotAllowed_i : Addr} {vs_NotAllowed_i : Array Value} {file_NotAllowed_i : Str} {tf_NotAllowed_i : Tok} {f_InvalidNumber_i : Addr} {oc_InvalidNumber_i kV_InvalidNumber_i doc_InvalidNumber_i pm_InvalidNumber_i ct_InvalidNumber_i cl_InvalidNumber_i ccl_InvalidNumber_i : Value} {od_InvalidNumber_i an_InvalidNumber_i cld_InvalidNumber_i cdd_InvalidNumber_i : Option Addr} {sl_InvalidNumber_i csl_InvalidNumber_i ccs_InvalidNumber_i : Array (Option Value)} {cda_InvalidNumber_i cc_InvalidNumber_i : Addr} {vs_InvalidNumber_i : Array Value} {file_InvalidNumber_i : Str} {tf_InvalidNumber_i : Tok} (X : K.In h) (G : h.Ns mainGlobals mg)
    (opq : PySem.W.nsIn K PySem.cStatics "thirdparty.any" = some none)
    (hn : PySem.W.specialIn K (.builtin "object.__class__") "__get__" = some (some (.builtin "getset_descriptor.__get__")))
    (ht : PySem.W.takesIn K (.builtin "object.__class__") = some true)
    (n_InvalidSetting : PySem.W.nsIn K mainGlobals "InvalidSetting" = some (some (.ref c_InvalidSetting)))
    (eC_InvalidSetting : PySem.W.subIn K (.ref c_InvalidSetting) (.type "BaseException") = some true)
    (tC_InvalidSetting : PySem.W.typeIn K (.ref c_InvalidSetting) = some (.type "type"))
    (hC_InvalidSetting : PySem.W.hasDictIn K c_InvalidSetting = true)
    (l_InvalidSetting : K.lookup c_InvalidSetting = some (excClassObj nm_InvalidSetting q_InvalidSetting c_InvalidSetting N_InvalidSetting bs_InvalidSetting bm_InvalidSetting true sn_InvalidSetting sub_InvalidSetting ab_InvalidSetting col_InvalidSetting dd_InvalidSetting m0_InvalidSetting m1_InvalidSetting m2_InvalidSetting m3_InvalidSetting m5_InvalidSetting "ValueError.__new__"))
    (hb_InvalidSetting : PySem.HandSPX.refsVE bm_InvalidSetting = true)
    (sa_InvalidSetting : PySem.W.findIn K (.ref c_InvalidSetting) "__setattr__" = some (some (.builtin "object.__setattr__")))
    (kC_InvalidSetting : PySem.W.keepIn K (.ref c_InvalidSetting) = true)
    (ga_InvalidSetting : PySem.W.findIn K (.ref c_InvalidSetting) "__getattribute__" = some (some (.builtin "BaseException.__getattribute__")))
    (gg_InvalidSetting : PySem.W.findIn K (.ref c_InvalidSetting) "__getattr__" = some none)
    (ha_InvalidSetting : PySem.W.findIn K (.ref c_InvalidSetting) "__class__" = some (some (.builtin "object.__class__")))
    (hm_InvalidSetting : PySem.W.mroIn K c_InvalidSetting (.type "object") = some true)
    (vs_InvalidSetting : PySem.W.subIn K (.ref c_InvalidSetting) (.type "ValueError") = some true)
    (i_InvalidSetting : PySem.W.findIn K (.ref c_InvalidSetting) "__init__" = some (some (.ref f_InvalidSetting_i)))
    (n_NotAllowed : PySem.W.nsIn K mainGlobals "NotAllowed" = some (some (.ref c_NotAllowed)))
    (eC_NotAllowed : PySem.W.subIn K (.ref c_NotAllowed) (.type "BaseException") = some true)
    (tC_NotAllowed : PySem.W.typeIn K (.ref c_NotAllowed) = some (.type "type"))
    (hC_NotAllowed : PySem.W.hasDictIn K c_NotAllowed = true)
    (l_NotAllowed : K.lookup c_NotAllowed = some (excClassObj nm_NotAllowed q_NotAllowed c_NotAllowed N_NotAllowed bs_NotAllowed bm_NotAllowed true sn_NotAllowed sub_NotAllowed ab_NotAllowed col_NotAllowed dd_NotAllowed m0_NotAllowed m1_NotAllowed m2_NotAllowed m3_NotAllowed m5_NotAllowed "ValueError.__new__"))
    (hb_NotAllowed : PySem.HandSPX.refsVE bm_NotAllowed = true)
    (sa_NotAllowed : PySem.W.findIn K (.ref c_NotAllowed) "__setattr__" = some (some (.builtin "object.__setattr__")))
    (kC_NotAllowed : PySem.W.keepIn K (.ref c_NotAllowed) = true)
    (ga_NotAllowed : PySem.W.findIn K (.ref c_NotAllowed) "__getattribute__" = some (some (.builtin "BaseException.__getattribute__")))
    (gg_NotAllowed : PySem.W.findIn K (.ref c_NotAllowed) "__getattr__" = some none)
    (ha_NotAllowed : PySem.W.findIn K (.ref c_NotAllowed) "__class__" = some (some (.builtin "object.__class__")))
    (hm_NotAllowed : PySem.W.mroIn K c_NotAllowed (.type "object") = some true)
    (vs_NotAllowed : PySem.W.subIn K (.ref c_NotAllowed) (.type "ValueError") = some true)
    (i_NotAllowed : PySem.W.findIn K (.ref c_NotAllowed) "__init__" = some (some (.ref f_NotAllowed_i)))
    (n_InvalidNumber : PySem.W.nsIn K mainGlobals "InvalidNumber" = some (some (.ref c_InvalidNumber)))
    (eC_InvalidNumber : PySem.W.subIn K (.ref c_InvalidNumber) (.type "BaseException") = some true)
    (tC_InvalidNumber : PySem.W.typeIn K (.ref c_InvalidNumber) = some (.type "type"))
    (hC_InvalidNumber : PySem.W.hasDictIn K c_InvalidNumber = true)
    (l_InvalidNumber : K.lookup c_InvalidNumber = some (excClassObj nm_InvalidNumber q_InvalidNumber c_InvalidNumber N_InvalidNumber bs_InvalidNumber bm_InvalidNumber true sn_InvalidNumber sub_InvalidNumber ab_InvalidNumber col_InvalidNumber dd_InvalidNumber m0_InvalidNumber m1_InvalidNumber m2_InvalidNumber m3_InvalidNumber m5_InvalidNumber "ValueError.__new__"))
    (hb_InvalidNumber : PySem.HandSPX.refsVE bm_InvalidNumber = true)
    (sa_InvalidNumber : PySem.W.findIn K (.ref c_InvalidNumber) "__setattr__" = some (some (.builtin "object.__setattr__")))
    (kC_InvalidNumber : PySem.W.keepIn K (.ref c_InvalidNumber) = true)
    (ga_InvalidNumber : PySem.W.findIn K (.ref c_InvalidNumber) "__getattribute__" = some (some (.builtin "BaseException.__getattribute__")))
    (gg_InvalidNumber : PySem.W.findIn K (.ref c_InvalidNumber) "__getattr__" = some none)
    (ha_InvalidNumber : PySem.W.findIn K (.ref c_InvalidNumber) "__class__" = some (some (.builtin "object.__class__")))
    (hm_InvalidNumber : PySem.W.mroIn K c_InvalidNumber (.type "object") = some true)
    (vs_InvalidNumber : PySem.W.subIn K (.ref c_InvalidNumber) (.type "ValueError") = some true)
    (i_InvalidNumber : PySem.W.findIn K (.ref c_InvalidNumber) "__init__" = some (some (.ref f_InvalidNumber_i)))
    (n_LossError : PySem.W.nsIn K mainGlobals "LossError" = some (some (.ref c_LossError)))
    (eC_LossError : PySem.W.subIn K (.ref c_LossError) (.type "BaseException") = some true)
    (tC_LossError : PySem.W.typeIn K (.ref c_LossError) = some (.type "type"))
    (hC_LossError : PySem.W.hasDictIn K c_LossError = true)
    (l_InvalidSetting_i : K.lookup f_InvalidSetting_i = some ⟨oc_InvalidSetting_i, od_InvalidSetting_i, .func (PySem.W.ksFn "__init__" "InvalidSetting.__init__" (defArgs (inClass (top 3) 0)) (defBody (inClass (top 3) 0)) (defScope (inClass (top 3) 0)) .none kV_InvalidSetting_i doc_InvalidSetting_i pm_InvalidSetting_i an_InvalidSetting_i (.ref cda_InvalidSetting_i) ct_InvalidSetting_i cc_InvalidSetting_i), sl_InvalidSetting_i⟩)
    (c_InvalidSetting_i : PySem.W.codeIn K (.ref cda_InvalidSetting_i) "InvalidSetting.__init__" = true)
    (k_InvalidSetting_i : PySem.W.keepIn K (.ref f_InvalidSetting_i) = true)
    (t_InvalidSetting_i : PySem.W.typeIn K (.ref f_InvalidSetting_i) = some (.type "function"))
    (cc_InvalidSetting_i : K.lookup cc_InvalidSetting_i = some ⟨cl_InvalidSetting_i, cld_InvalidSetting_i, .cell (some (.ref c_InvalidSetting)), csl_InvalidSetting_i⟩)
    (cd_InvalidSetting_i : K.lookup cda_InvalidSetting_i = some ⟨ccl_InvalidSetting_i, cdd_InvalidSetting_i, .fields vs_InvalidSetting_i, ccs_InvalidSetting_i⟩)
    (v_InvalidSetting_i : vs_InvalidSetting_i[2]? = some (.str file_InvalidSetting_i tf_InvalidSetting_i))
    (fl_InvalidSetting_i : ((P.main.file : Str) == file_InvalidSetting_i) = true)
    (l_NotAllowed_i : K.lookup f_NotAllowed_i = some ⟨oc_NotAllowed_i, od_NotAllowed_i, .func (PySem.W.ksFn "__init__" "NotAllowed.__init__" (defArgs (inClass (top 4) 0)) (defBody (inClass (top 4) 0)) (defScope (inClass (top 4) 0)) .none kV_NotAllowed_i doc_NotAllowed_i pm_NotAllowed_i an_NotAllowed_i (.ref cda_NotAllowed_i) ct_NotAllowed_i cc_NotAllowed_i), sl_NotAllowed_i⟩)
    (c_NotAllowed_i : PySem.W.codeIn K (.ref cda_NotAllowed_i) "NotAllowed.__init__" = true)
    (k_NotAllowed_i : PySem.W.keepIn K (.ref f_NotAllowed_i) = true)
    (t_NotAllowed_i : PySem.W.typeIn K (.ref f_NotAllowed_i) = some (.type "function"))
    (cc_NotAllowed_i : K.lookup cc_NotAllowed_i = some ⟨cl_NotAllowed_i, cld_NotAllowed_i, .cell (some (.ref c_NotAllowed)), csl_NotAllowed_i⟩)
    (cd_NotAllowed_i : K.lookup cda_NotAllowed_i = some ⟨ccl_NotAllowed_i, cdd_NotAllowed_i, .fields vs_NotAllowed_i, ccs_NotAllowed_i⟩)
    (v_NotAllowed_i : vs_NotAllowed_i[2]? = some (.str file_NotAllowed_i tf_NotAllowed_i))
    (fl_NotAllowed_i : ((P.main.file : Str) == file_NotAllowed_i) = true)
    (l_InvalidNumber_i : K.lookup f_InvalidNumber_i = some ⟨oc_InvalidNumber_i, od_InvalidNumber_i, .func (PySem.W.ksFn "__init__" "InvalidNumber.__init__" (defArgs (inClass (top 2) 0)) (defBody (inClass (top 2) 0)) (defScope (inClass (top 2) 0)) .none kV_InvalidNumber_i doc_InvalidNumber_i pm_InvalidNumber_i an_InvalidNumber_i (.ref cda_InvalidNumber_i) ct_InvalidNumber_i cc_InvalidNumber_i), sl_InvalidNumber_i⟩)
    (c_InvalidNumber_i : PySem.W.codeIn K (.ref cda_InvalidNumber_i) "InvalidNumber.__init__" = true)
    (k_InvalidNumber_i : PySem.W.keepIn K (.ref f_InvalidNumber_i) = true)
    (t_InvalidNumber_i : PySem.W.typeIn K (.ref f_InvalidNumber_i) = some (.type "function"))
    (cc_InvalidNumber_i : K.lookup cc_InvalidNumber_i = some ⟨cl_InvalidNumber_i, cld_InvalidNumber_i, .cell (some (.ref c_InvalidNumber)), csl_InvalidNumber_i⟩)
    (cd_InvalidNumber_i : K.lookup cda_InvalidNumber_i = some ⟨ccl_InvalidNumber_i, cdd_InvalidNumber_i, .fields vs_InvalidNumber_i, ccs_InvalidNumber_i⟩)
    (v_InvalidNumber_i : vs_InvalidNumber_i[2]? = some (.str file_InvalidNumber_i tf_InvalidNumber_i))
    (fl_InvalidNumber_i : ((P.main.file : Str) == file_InvalidNumber_i) = true)
    (su_NotAllowed_NotAllowed : PySem.W.subIn K (.ref c_NotAllowed) (.ref c_NotAllowed) = some true)
    (nf_NotAllowed_state : PySem.W.findIn K (.ref c_NotAllowed) "state" = some none)
    (ki_InvalidNumber_LossError : PySem.W.kitOne K (.ref c_InvalidNumber) (.ref c_LossError) = some true)
    (ki_InvalidSetting_LossError : PySem.W.kitOne K (.ref c_InvalidSetting) (.ref c_LossError) = some true)
    (ki_NotAllowed_LossError : PySem.W.kitOne K (.ref c_NotAllowed) (.ref c_LossError) = some true)
    (ki_InvalidNumber_ValueError : PySem.W.kitOne K (.ref c_InvalidNumber) (.type "ValueError") = some true)
    (ki_InvalidSetting_ValueError : PySem.W.kitOne K (.ref c_InvalidSetting) (.type "ValueError") = some true)
    (ki_NotAllowed_ValueError : PySem.W.kitOne K (.ref c_NotAllowed) (.type "ValueError") = some true)
    (ki_InvalidNumber_InvalidNumber : PySem.W.kitOne K (.ref c_InvalidNumber) (.ref c_InvalidNumber) = some true)
    (ki_InvalidSetting_InvalidNumber : PySem.W.kitOne K (.ref c_InvalidSetting) (.ref c_InvalidNumber) = some false)
    (ki_NotAllowed_InvalidNumber : PySem.W.kitOne K (.ref c_NotAllowed) (.ref c_InvalidNumber) = some false)
    (ki_InvalidNumber_InvalidSetting : PySem.W.kitOne K (.ref c_InvalidNumber) (.ref c_InvalidSetting) = some false)
    (ki_InvalidSetting_InvalidSetting : PySem.W.kitOne K (.ref c_InvalidSetting) (.ref c_InvalidSetting) = some true)
    (ki_NotAllowed_InvalidSetting : PySem.W.kitOne K (.ref c_NotAllowed) (.ref c_InvalidSetting) = some false)
    (ki_InvalidNumber_NotAllowed : PySem.W.kitOne K (.ref c_InvalidNumber) (.ref c_NotAllowed) = some false)
    (ki_InvalidSetting_NotAllowed : PySem.W.kitOne K (.ref c_InvalidSetting) (.ref c_NotAllowed) = some false)
    (ki_NotAllowed_NotAllowed : PySem.W.kitOne K (.ref c_NotAllowed) (.ref c_NotAllowed) = some true)
    (su_InvalidNumber_InvalidNumber : PySem.W.subIn K (.ref c_InvalidNumber) (.ref c_InvalidNumber) = some true)
    (su_InvalidNumber_NotAllowed : PySem.W.subIn K (.ref c_InvalidNumber) (.ref c_NotAllowed) = some false)
    (nf_InvalidNumber_number : PySem.W.findIn K (.ref c_InvalidNumber) "number" = some none)
    (su_InvalidSetting_InvalidSetting : PySem.W.subIn K (.ref c_InvalidSetting) (.ref c_InvalidSetting) = some true)
    (nf_InvalidSetting_setting : PySem.W.findIn K (.ref c_InvalidSetting) "setting" = some none)
    (sf_InvalidSetting_InvalidSetting : PySem.W.ks_superIn K c_InvalidSetting c_InvalidSetting "__init__" = some (some (.builtin "ValueError.__init__")))
    (sm_InvalidSetting_InvalidSetting : PySem.W.mroIn K c_InvalidSetting (.ref c_InvalidSetting) = some true)
    (nf_InvalidSetting_setting : PySem.W.findIn K (.ref c_InvalidSetting) "setting" = some none)
    (sf_NotAllowed_NotAllowed : PySem.W.ks_superIn K c_NotAllowed c_NotAllowed "__init__" = some (some (.builtin "ValueError.__init__")))
    (sm_NotAllowed_NotAllowed : PySem.W.mroIn K c_NotAllowed (.ref c_NotAllowed) = some true)
    (nf_NotAllowed_state : PySem.W.findIn K (.ref c_NotAllowed) "state" = some none)
    (sf_InvalidNumber_InvalidNumber : PySem.W.ks_superIn K c_InvalidNumber c_InvalidNumber "__init__" = some (some (.builtin "ValueError.__init__")))
    (sm_InvalidNumber_InvalidNumber : PySem.W.mroIn K c_InvalidNumber (.ref c_InvalidNumber) = some true)
    (nf_InvalidNumber_number : PySem.W.findIn K (.ref c_InvalidNumber) "number" = some none)
    (r : ∀ (c_InvalidSetting : Addr) (c_NotAllowed : Addr) (c_InvalidNumber : Addr) (c_LossError : Addr) (f_InvalidSetting_i : Addr) (d_InvalidSetting_i : FuncData) (f_NotAllowed_i : Addr) (d_NotAllowed_i : FuncData) (f_InvalidNumber_i : Addr) (d_InvalidNumber_i : FuncData), (OexC K c_InvalidSetting) → (PySem.W.findIn K (.ref c_InvalidSetting) "__init__" = some (some (.ref f_InvalidSetting_i))) → (PySem.W.typeIn K (.ref f_InvalidSetting_i) = some (.type "function")) → (mg "InvalidSetting" = some (.ref c_InvalidSetting)) → (Binds K d_InvalidSetting_i ["self", "setting"] []) → (PySem.W.exmOne K (.ref c_NotAllowed) (.ref c_NotAllowed) = some true) → (OexC K c_NotAllowed) → (PySem.W.findIn K (.ref c_NotAllowed) "__init__" = some (some (.ref f_NotAllowed_i))) → (PySem.W.typeIn K (.ref f_NotAllowed_i) = some (.type "function")) → (mg "NotAllowed" = some (.ref c_NotAllowed)) → (Binds K d_NotAllowed_i ["self", "state"] []) → (OexC K c_InvalidNumber) → (PySem.W.findIn K (.ref c_InvalidNumber) "__init__" = some (some (.ref f_InvalidNumber_i))) → (PySem.W.typeIn K (.ref f_InvalidNumber_i) = some (.type "function")) → (mg "InvalidNumber" = some (.ref c_InvalidNumber)) → (Binds K d_InvalidNumber_i ["self", "number"] []) → (XfOk K c_NotAllowed "state") → (IsOk K (.ref c_InvalidNumber) (.ref c_LossError) true) → (IsOk K (.ref c_InvalidSetting) (.ref c_LossError) true) → (IsOk K (.ref c_NotAllowed) (.ref c_LossError) true) → (mg "LossError" = some (.ref c_LossError)) → (IsOk K (.ref c_InvalidNumber) (.ty "ValueError") true) → (IsOk K (.ref c_InvalidSetting) (.ty "ValueError") true) → (IsOk K (.ref c_NotAllowed) (.ty "ValueError") true) → (IsOk K (.ref c_InvalidNumber) (.ref c_InvalidNumber) true) → (IsOk K (.ref c_InvalidSetting) (.ref c_InvalidNumber) false) → (IsOk K (.ref c_NotAllowed) (.ref c_InvalidNumber) false) → (IsOk K (.ref c_InvalidNumber) (.ref c_InvalidSetting) false) → (IsOk K (.ref c_InvalidSetting) (.ref c_InvalidSetting) true) → (IsOk K (.ref c_NotAllowed) (.ref c_InvalidSetting) false) → (IsOk K (.ref c_InvalidNumber) (.ref c_NotAllowed) false) → (IsOk K (.ref c_InvalidSetting) (.ref c_NotAllowed) false) → (IsOk K (.ref c_NotAllowed) (.ref c_NotAllowed) true) → (PySem.W.exmOne K (.ref c_InvalidNumber) (.ref c_InvalidNumber) = some true) → (PySem.W.exmOne K (.ref c_InvalidNumber) (.ref c_NotAllowed) = some false) → (XfOk K c_InvalidNumber "number") → (PySem.W.exmOne K (.ref c_InvalidSetting) (.ref c_InvalidSetting) = some true) → (XfOk K c_InvalidSetting "setting") → (FunS P K "__init__" "InvalidSetting.__init__" (inClass (top 3) 0) f_InvalidSetting_i d_InvalidSetting_i c_InvalidSetting) → (SupV K c_InvalidSetting c_InvalidSetting) → (PySem.W.findIn K (.ref c_InvalidSetting) "setting" = some none) → (FunS P K "__init__" "NotAllowed.__init__" (inClass (top 4) 0) f_NotAllowed_i d_NotAllowed_i c_NotAllowed) → (SupV K c_NotAllowed c_NotAllowed) → (PySem.W.findIn K (.ref c_NotAllowed) "state" = some none) → (FunS P K "__init__" "InvalidNumber.__init__" (inClass (top 2) 0) f_InvalidNumber_i d_InvalidNumber_i c_InvalidNumber) → (SupV K c_InvalidNumber c_InvalidNumber) → (PySem.W.findIn K (.ref c_InvalidNumber) "number" = some none) → R) : R :=
  r c_InvalidSetting c_NotAllowed c_InvalidNumber c_LossError f_InvalidSetting_i _ f_NotAllowed_i _ f_InvalidNumber_i _ (⟨⟨_, _, _, _, _, _, _, _, _, _, _, _, _, _, _, l_InvalidSetting, hb_InvalidSetting⟩, sa_InvalidSetting, eC_InvalidSetting, tC_InvalidSetting, kC_InvalidSetting⟩) (i_InvalidSetting) (t_InvalidSetting_i) (PySem.W.mg_of X G n_InvalidSetting) (.all (fun us hl => match us, hl with | [_, _], _ => rfl)) (PySem.W.exm_ref eC_NotAllowed hC_NotAllowed tC_NotAllowed su_NotAllowed_NotAllowed) (⟨⟨_, _, _, _, _, _, _, _, _, _, _, _, _, _, _, l_NotAllowed, hb_NotAllowed⟩, sa_NotAllowed, eC_NotAllowed, tC_NotAllowed, kC_NotAllowed⟩) (i_NotAllowed) (t_NotAllowed_i) (PySem.W.mg_of X G n_NotAllowed) (.all (fun us hl => match us, hl with | [_, _], _ => rfl)) (⟨⟨_, _, _, _, _, _, _, _, _, _, _, _, _, _, _, l_InvalidNumber, hb_InvalidNumber⟩, sa_InvalidNumber, eC_InvalidNumber, tC_InvalidNumber, kC_InvalidNumber⟩) (i_InvalidNumber) (t_InvalidNumber_i) (PySem.W.mg_of X G n_InvalidNumber) (.all (fun us hl => match us, hl with | [_, _], _ => rfl)) (⟨⟨ga_NotAllowed, gg_NotAllowed, eC_NotAllowed, hC_NotAllowed⟩, nf_NotAllowed_state⟩) (⟨⟨_, _, rfl, ⟨ga_InvalidNumber, gg_InvalidNumber, eC_InvalidNumber, hC_InvalidNumber, ha_InvalidNumber, hn, ht, hm_InvalidNumber⟩, fun _ r => r, ki_InvalidNumber_LossError⟩⟩) (⟨⟨_, _, rfl, ⟨ga_InvalidSetting, gg_InvalidSetting, eC_InvalidSetting, hC_InvalidSetting, ha_InvalidSetting, hn, ht, hm_InvalidSetting⟩, fun _ r => r, ki_InvalidSetting_LossError⟩⟩) (⟨⟨_, _, rfl, ⟨ga_NotAllowed, gg_NotAllowed, eC_NotAllowed, hC_NotAllowed, ha_NotAllowed, hn, ht, hm_NotAllowed⟩, fun _ r => r, ki_NotAllowed_LossError⟩⟩) (PySem.W.mg_of X G n_LossError) (⟨⟨_, _, rfl, ⟨ga_InvalidNumber, gg_InvalidNumber, eC_InvalidNumber, hC_InvalidNumber, ha_InvalidNumber, hn, ht, hm_InvalidNumber⟩, fun _ r => r, ki_InvalidNumber_ValueError⟩⟩) (⟨⟨_, _, rfl, ⟨ga_InvalidSetting, gg_InvalidSetting, eC_InvalidSetting, hC_InvalidSetting, ha_InvalidSetting, hn, ht, hm_InvalidSetting⟩, fun _ r => r, ki_InvalidSetting_ValueError⟩⟩) (⟨⟨_, _, rfl, ⟨ga_NotAllowed, gg_NotAllowed, eC_NotAllowed, hC_NotAllowed, ha_NotAllowed, hn, ht, hm_NotAllowed⟩, fun _ r => r, ki_NotAllowed_ValueError⟩⟩) (⟨⟨_, _, rfl, ⟨ga_InvalidNumber, gg_InvalidNumber, eC_InvalidNumber, hC_InvalidNumber, ha_InvalidNumber, hn, ht, hm_InvalidNumber⟩, fun _ r => r, ki_InvalidNumber_InvalidNumber⟩⟩) (⟨⟨_, _, rfl, ⟨ga_InvalidSetting, gg_InvalidSetting, eC_InvalidSetting, hC_InvalidSetting, ha_InvalidSetting, hn, ht, hm_InvalidSetting⟩, fun _ r => r, ki_InvalidSetting_InvalidNumber⟩⟩) (⟨⟨_, _, rfl, ⟨ga_NotAllowed, gg_NotAllowed, eC_NotAllowed, hC_NotAllowed, ha_NotAllowed, hn, ht, hm_NotAllowed⟩, fun _ r => r, ki_NotAllowed_InvalidNumber⟩⟩) (⟨⟨_, _, rfl, ⟨ga_InvalidNumber, gg_InvalidNumber, eC_InvalidNumber, hC_InvalidNumber, ha_InvalidNumber, hn, ht, hm_InvalidNumber⟩, fun _ r => r, ki_InvalidNumber_InvalidSetting⟩⟩) (⟨⟨_, _, rfl, ⟨ga_InvalidSetting, gg_InvalidSetting, eC_InvalidSetting, hC_InvalidSetting, ha_InvalidSetting, hn, ht, hm_InvalidSetting⟩, fun _ r => r, ki_InvalidSetting_InvalidSetting⟩⟩) (⟨⟨_, _, rfl, ⟨ga_NotAllowed, gg_NotAllowed, eC_NotAllowed, hC_NotAllowed, ha_NotAllowed, hn, ht, hm_NotAllowed⟩, fun _ r => r, ki_NotAllowed_InvalidSetting⟩⟩) (⟨⟨_, _, rfl, ⟨ga_InvalidNumber, gg_InvalidNumber, eC_InvalidNumber, hC_InvalidNumber, ha_InvalidNumber, hn, ht, hm_InvalidNumber⟩, fun _ r => r, ki_InvalidNumber_NotAllowed⟩⟩) (⟨⟨_, _, rfl, ⟨ga_InvalidSetting, gg_InvalidSetting, eC_InvalidSetting, hC_InvalidSetting, ha_InvalidSetting, hn, ht, hm_InvalidSetting⟩, fun _ r => r, ki_InvalidSetting_NotAllowed⟩⟩) (⟨⟨_, _, rfl, ⟨ga_NotAllowed, gg_NotAllowed, eC_NotAllowed, hC_NotAllowed, ha_NotAllowed, hn, ht, hm_NotAllowed⟩, fun _ r => r, ki_NotAllowed_NotAllowed⟩⟩) (PySem.W.exm_ref eC_InvalidNumber hC_InvalidNumber tC_InvalidNumber su_InvalidNumber_InvalidNumber) (PySem.W.exm_ref eC_NotAllowed hC_NotAllowed tC_NotAllowed su_InvalidNumber_NotAllowed) (⟨⟨ga_InvalidNumber, gg_InvalidNumber, eC_InvalidNumber, hC_InvalidNumber⟩, nf_InvalidNumber_number⟩) (PySem.W.exm_ref eC_InvalidSetting hC_InvalidSetting tC_InvalidSetting su_InvalidSetting_InvalidSetting) (⟨⟨ga_InvalidSetting, gg_InvalidSetting, eC_InvalidSetting, hC_InvalidSetting⟩, nf_InvalidSetting_setting⟩) (⟨⟨_, _, _, _, _, _, _, _, _, _, _, _, _, _, _, _, _, _, _, _, _, rfl, l_InvalidSetting_i, c_InvalidSetting_i, cc_InvalidSetting_i, cd_InvalidSetting_i, v_InvalidSetting_i, fl_InvalidSetting_i, (by unfold PySem.W.clsIn; rw [l_InvalidSetting] <;> rfl)⟩, k_InvalidSetting_i⟩) (⟨⟨⟨_, _, _, _, _, _, _, _, _, _, _, _, _, _, _, l_InvalidSetting, hb_InvalidSetting⟩, sa_InvalidSetting, eC_InvalidSetting, tC_InvalidSetting, kC_InvalidSetting⟩, opq, sf_InvalidSetting_InvalidSetting, vs_InvalidSetting, sm_InvalidSetting_InvalidSetting⟩) (nf_InvalidSetting_setting) (⟨⟨_, _, _, _, _, _, _, _, _, _, _, _, _, _, _, _, _, _, _, _, _, rfl, l_NotAllowed_i, c_NotAllowed_i, cc_NotAllowed_i, cd_NotAllowed_i, v_NotAllowed_i, fl_NotAllowed_i, (by unfold PySem.W.clsIn; rw [l_NotAllowed] <;> rfl)⟩, k_NotAllowed_i⟩) (⟨⟨⟨_, _, _, _, _, _, _, _, _, _, _, _, _, _, _, l_NotAllowed, hb_NotAllowed⟩, sa_NotAllowed, eC_NotAllowed, tC_NotAllowed, kC_NotAllowed⟩, opq, sf_NotAllowed_NotAllowed, vs_NotAllowed, sm_NotAllowed_NotAllowed⟩) (nf_NotAllowed_state) (⟨⟨_, _, _, _, _, _, _, _, _, _, _, _, _, _, _, _, _, _, _, _, _, rfl, l_InvalidNumber_i, c_InvalidNumber_i, cc_InvalidNumber_i, cd_InvalidNumber_i, v_InvalidNumber_i, fl_InvalidNumber_i, (by unfold PySem.W.clsIn; rw [l_InvalidNumber] <;> rfl)⟩, k_InvalidNumber_i⟩) (⟨⟨⟨_, _, _, _, _, _, _, _, _, _, _, _, _, _, _, l_InvalidNumber, hb_InvalidNumber⟩, sa_InvalidNumber, eC_InvalidNumber, tC_InvalidNumber, kC_InvalidNumber⟩, opq, sf_InvalidNumber_InvalidNumber, vs_InvalidNumber, sm_InvalidNumber_InvalidNumber⟩) (nf_InvalidNumber_number)
def spLaw (K : PySem.W.Frag) : Sp := fun vs H Q _ => ∃ (a : Addr) (ns : List Int), vs = [.ref a] ∧ SqL K H a (ns.map V.int) ∧ ns.length ≤ 63 ∧ Only H ∧ ∀ H', Q (.bl true) H'
theorem walk {l : PySem.W.OpenLaw} {q : Program} {loose : List Str} {XP : (Str → Option Value) → Heap → Prop} {YP : World → Heap → Prop} {d : DefRec} {K : Params → PySem.W.Frag} (hi : importsNone q = true) (hn : l.most = some 63) (hdf : d.params.defaults = [])
    (hY : ∀ (w : World) (h : Heap), YP w h → (K w.params).In h)
    (F : ∀ (w : World) (mg : Str → Option Value) (fa : Addr) (h : Heap), (K w.params).In h → h.Ns mainGlobals mg → mg d.name = some (.ref fa) →
      ∃ fd : FuncData, (∀ (s : Shared) (u : Value), BindsTo s fd ⟨[u], []⟩ [("_law_script", u)]) ∧ ∀ base : Heap, (K w.params).In base → base.Ns mainGlobals mg → (∃ mm, base.Ns sysModules mm) → FnG l.prog w (K w.params) mg base (L2.CX l.prog w) 11 fa fd ["_law_script"] (spLaw (K w.params))) :
    PySem.W.WalkO q loose XP YP l.row.toRowW d [] (fun f vs => PySem.call f vs) :=
  walk_ofG hi (n := 63) (k := 11) (x := "_law_script") (CX := fun w => L2.CX l.prog w) (sp := fun w => spLaw (K w.params)) hn (by decide) hdf ⟨rfl, by decide, by decide⟩ hY F (fun _ _ a ns hl hO hS => ⟨a, ns, rfl, hS, hl, hO, fun _ => rfl⟩) fun w H s e s' z => by
    obtain ⟨_, _, _, _, _, _, _, _, _, _, _, _, z⟩ := z
    exact z.elim
end Y.k11
open PySem PySem.W PyProof.Rows
set_option maxRecDepth 100000 in
set_option maxHeartbeats 0 in
theorem PySem.Challenge.cw_lossway_k11_outbox_history_holds : PySem.Challenge.rw_lossway_k11_outbox_history.Holds := by
  w_on; o_law; k_head; (case hw => w_witness2)
  k_fill
  refine Y.k11.walk (l := PySem.Challenge.rw_lossway_k11_outbox_history) (by first | rfl | decide +kernel) rfl rfl (fun w h Y => PySem.W.kIn_of Y) ?F
  case F =>
    intro w mg fa h KX G hmg
    refine' Y.k11.useFn KX G (x := "_law_box") (st := Y.k11.top 16) (ps := ["_law_script"]) ?nbox ?lbox ?cbox ?kbox (fun _ _ _ _ _ _ us hl => match us, hl with | [_], _ => rfl) ?rbox
    (case nbox => k_is); (case lbox => k_is); (case cbox => k_is); (case kbox => k_is)
    intro f_box d_box m_box F_box b_box
    refine' Y.k11.useFn KX G (x := "_law_draw") (st := Y.k11.top 17) (ps := ["_law_box_here", "_law_size"]) ?ndraw ?ldraw ?cdraw ?kdraw (fun _ _ _ _ _ _ us hl => match us, hl with | [_, _], _ => rfl) ?rdraw
    (case ndraw => k_is); (case ldraw => k_is); (case cdraw => k_is); (case kdraw => k_is)
    intro f_draw d_draw m_draw F_draw b_draw
    refine' Y.k11.useFn KX G (x := "_law_limit") (st := Y.k11.top 19) (ps := ["_law_box_here"]) ?nlimit ?llimit ?climit ?klimit (fun _ _ _ _ _ _ us hl => match us, hl with | [_], _ => rfl) ?rlimit
    (case nlimit => k_is); (case llimit => k_is); (case climit => k_is); (case klimit => k_is)
    intro f_limit d_limit m_limit F_limit b_limit
    refine' Y.k11.useFn KX G (x := "is_whole") (st := Y.k11.top 7) (ps := ["value"]) ?nis_whole ?lis_whole ?cis_whole ?kis_whole (fun _ _ _ _ _ _ us hl => match us, hl with | [_], _ => rfl) ?ris_whole
    (case nis_whole => k_is); (case lis_whole => k_is); (case cis_whole => k_is); (case kis_whole => k_is)
    intro f_is_whole d_is_whole m_is_whole F_is_whole b_is_whole
    refine' Y.k11.useFn KX G (x := "in_range") (st := Y.k11.top 9) (ps := ["value", "low", "high"]) ?nin_range ?lin_range ?cin_range ?kin_range (fun _ _ _ _ _ _ us hl => match us, hl with | [_, _, _], _ => rfl) ?rin_range
    (case nin_range => k_is); (case lin_range => k_is); (case cin_range => k_is); (case kin_range => k_is)
    intro f_in_range d_in_range m_in_range F_in_range b_in_range
    refine' Y.k11.useFn KX G (x := "checked_limit") (st := Y.k11.top 13) (ps := ["limit"]) ?nchecked_limit ?lchecked_limit ?cchecked_limit ?kchecked_limit (fun _ _ _ _ _ _ us hl => match us, hl with | [_], _ => rfl) ?rchecked_limit
    (case nchecked_limit => k_is); (case lchecked_limit => k_is); (case cchecked_limit => k_is); (case kchecked_limit => k_is)
    intro f_checked_limit d_checked_limit m_checked_limit F_checked_limit b_checked_limit
    refine' Y.k11.useFn KX G (x := "_law_is_whole") (st := Y.k11.top 18) (ps := ["_law_value"]) ?nl_is_whole ?ll_is_whole ?cl_is_whole ?kl_is_whole (fun _ _ _ _ _ _ us hl => match us, hl with | [_], _ => rfl) ?rl_is_whole
    (case nl_is_whole => k_is); (case ll_is_whole => k_is); (case cl_is_whole => k_is); (case kl_is_whole => k_is)
    intro f_l_is_whole d_l_is_whole m_l_is_whole F_l_is_whole b_l_is_whole
    refine' Y.k11.useFn KX G (x := "_law_state") (st := Y.k11.top 22) (ps := ["_law_outbox", "_law_state_here"]) ?nstate ?lstate ?cstate ?kstate (fun _ _ _ _ _ _ us hl => match us, hl with | [_, _], _ => rfl) ?rstate
    (case nstate => k_is); (case lstate => k_is); (case cstate => k_is); (case kstate => k_is)
    intro f_state d_state m_state F_state b_state
    refine' Y.k11.useFn KX G (x := "_law_bytes") (st := Y.k11.top 20) (ps := ["_law_box_here", "_law_most"]) ?nbytes ?lbytes ?cbytes ?kbytes (fun _ _ _ _ _ _ us hl => match us, hl with | [_, _], _ => rfl) ?rbytes
    (case nbytes => k_is); (case lbytes => k_is); (case cbytes => k_is); (case kbytes => k_is)
    intro f_bytes d_bytes m_bytes F_bytes b_bytes
    refine' Y.k11.useFn KX G (x := "is_row") (st := Y.k11.top 8) (ps := ["value"]) ?nis_row ?lis_row ?cis_row ?kis_row (fun _ _ _ _ _ _ us hl => match us, hl with | [_], _ => rfl) ?ris_row
    (case nis_row => k_is); (case lis_row => k_is); (case cis_row => k_is); (case kis_row => k_is)
    intro f_is_row d_is_row m_is_row F_is_row b_is_row
    refine' Y.k11.useFn KX G (x := "as_data") (st := Y.k11.top 10) (ps := ["value"]) ?nas_data ?las_data ?cas_data ?kas_data (fun _ _ _ _ _ _ us hl => match us, hl with | [_], _ => rfl) ?ras_data
    (case nas_data => k_is); (case las_data => k_is); (case cas_data => k_is); (case kas_data => k_is)
    intro f_as_data d_as_data m_as_data F_as_data b_as_data
    refine' Y.k11.useFn KX G (x := "_law_only") (st := Y.k11.top 24) (ps := ["_law_e", "_law_number", "_law_setting", "_law_state_here"]) ?nonly ?lonly ?conly ?konly (fun _ _ _ _ _ _ us hl => match us, hl with | [_, _, _, _], _ => rfl) ?ronly
    (case nonly => k_is); (case lonly => k_is); (case conly => k_is); (case konly => k_is)
    intro f_only d_only m_only F_only b_only
    refine' Y.k11.useFn KX G (x := "_law_adds") (st := Y.k11.top 25) (ps := ["_law_outbox", "_law_state_here", "_law_data", "_law_urgent"]) ?nadds ?ladds ?cadds ?kadds (fun _ _ _ _ _ _ us hl => match us, hl with | [_, _, _, _], _ => rfl) ?radds
    (case nadds => k_is); (case ladds => k_is); (case cadds => k_is); (case kadds => k_is)
    intro f_adds d_adds m_adds F_adds b_adds
    refine' Y.k11.useFn KX G (x := "_law_tuple_is") (st := Y.k11.top 23) (ps := ["_law_told", "_law_due"]) ?ntuple_is ?ltuple_is ?ctuple_is ?ktuple_is (fun _ _ _ _ _ _ us hl => match us, hl with | [_, _], _ => rfl) ?rtuple_is
    (case ntuple_is => k_is); (case ltuple_is => k_is); (case ctuple_is => k_is); (case ktuple_is => k_is)
    intro f_tuple_is d_tuple_is m_tuple_is F_tuple_is b_tuple_is
    refine' Y.k11.useFn KX G (x := "_law_cuts") (st := Y.k11.top 27) (ps := ["_law_box_here", "_law_outbox", "_law_state_here"]) ?ncuts ?lcuts ?ccuts ?kcuts (fun _ _ _ _ _ _ us hl => match us, hl with | [_, _, _], _ => rfl) ?rcuts
    (case ncuts => k_is); (case lcuts => k_is); (case ccuts => k_is); (case kcuts => k_is)
    intro f_cuts d_cuts m_cuts F_cuts b_cuts
    refine' Y.k11.useFn KX G (x := "_law_releases") (st := Y.k11.top 29) (ps := ["_law_box_here", "_law_outbox", "_law_state_here"]) ?nreleases ?lreleases ?creleases ?kreleases (fun _ _ _ _ _ _ us hl => match us, hl with | [_, _, _], _ => rfl) ?rreleases
    (case nreleases => k_is); (case lreleases => k_is); (case creleases => k_is); (case kreleases => k_is)
    intro f_releases d_releases m_releases F_releases b_releases
    refine' Y.k11.useFn KX G (x := "_law_bad_data") (st := Y.k11.top 21) (ps := ["_law_box_here"]) ?nbad_data ?lbad_data ?cbad_data ?kbad_data (fun _ _ _ _ _ _ us hl => match us, hl with | [_], _ => rfl) ?rbad_data
    (case nbad_data => k_is); (case lbad_data => k_is); (case cbad_data => k_is); (case kbad_data => k_is)
    intro f_bad_data d_bad_data m_bad_data F_bad_data b_bad_data
    refine' Y.k11.useFn KX G (x := "_law_data_refused") (st := Y.k11.top 26) (ps := ["_law_outbox", "_law_state_here", "_law_data", "_law_bad", "_law_urgent"]) ?ndata_refused ?ldata_refused ?cdata_refused ?kdata_refused (fun _ _ _ _ _ _ us hl => match us, hl with | [_, _, _, _, _], _ => rfl) ?rdata_refused
    (case ndata_refused => k_is); (case ldata_refused => k_is); (case cdata_refused => k_is); (case kdata_refused => k_is)
    intro f_data_refused d_data_refused m_data_refused F_data_refused b_data_refused
    refine' Y.k11.useFn KX G (x := "_law_cut_refused") (st := Y.k11.top 28) (ps := ["_law_box_here", "_law_outbox", "_law_state_here"]) ?ncut_refused ?lcut_refused ?ccut_refused ?kcut_refused (fun _ _ _ _ _ _ us hl => match us, hl with | [_, _, _], _ => rfl) ?rcut_refused
    (case ncut_refused => k_is); (case lcut_refused => k_is); (case ccut_refused => k_is); (case kcut_refused => k_is)
    intro f_cut_refused d_cut_refused m_cut_refused F_cut_refused b_cut_refused
    refine' Y.k11.useFn KX G (x := "_law_release_refused") (st := Y.k11.top 30) (ps := ["_law_box_here", "_law_outbox", "_law_state_here"]) ?nrelease_refused ?lrelease_refused ?crelease_refused ?krelease_refused (fun _ _ _ _ _ _ us hl => match us, hl with | [_, _, _], _ => rfl) ?rrelease_refused
    (case nrelease_refused => k_is); (case lrelease_refused => k_is); (case crelease_refused => k_is); (case krelease_refused => k_is)
    intro f_release_refused d_release_refused m_release_refused F_release_refused b_release_refused
    refine' Y.k11.useFn KX G (x := "_law_limit_refused") (st := Y.k11.top 31) (ps := ["_law_box_here", "_law_outbox"]) ?nlimit_refused ?llimit_refused ?climit_refused ?klimit_refused (fun _ _ _ _ _ _ us hl => match us, hl with | [_, _], _ => rfl) ?rlimit_refused
    (case nlimit_refused => k_is); (case llimit_refused => k_is); (case climit_refused => k_is); (case klimit_refused => k_is)
    intro f_limit_refused d_limit_refused m_limit_refused F_limit_refused b_limit_refused
    refine' Y.k11.useFn KX G (x := "_law_deed") (st := Y.k11.top 32) (ps := ["_law_box_here", "_law_outbox", "_law_state_here"]) ?ndeed ?ldeed ?cdeed ?kdeed (fun _ _ _ _ _ _ us hl => match us, hl with | [_, _, _], _ => rfl) ?rdeed
    (case ndeed => k_is); (case ldeed => k_is); (case cdeed => k_is); (case kdeed => k_is)
    intro f_deed d_deed m_deed F_deed b_deed
    refine' Y.k11.useFn KX G (x := "law") (st := Y.k11.top 33) (ps := ["_law_script"]) ?nlaw ?llaw ?claw ?klaw (fun _ _ _ _ _ _ us hl => match us, hl with | [_], _ => rfl) ?rlaw
    (case nlaw => k_is); (case llaw => k_is); (case claw => k_is); (case klaw => k_is)
    intro f_law d_law m_law F_law b_law
    refine' Y.k11.useC_Outbox (P := (PySem.Challenge.rw_lossway_k11_outbox_history).prog) KX G ?qOutbox0 ?qOutbox1 ?qOutbox2 ?qOutbox3 ?qOutbox4 ?qOutbox5 ?qOutbox6 ?qOutbox7 ?qOutbox8 ?qOutbox9 ?qOutbox10 ?qOutbox11 ?qOutbox12 ?qOutbox13 ?qOutbox14 ?qOutbox15 ?qOutbox16 ?qOutbox17 ?qOutbox18 ?qOutbox19 ?qOutbox20 ?qOutbox21 ?qOutbox22 ?qOutbox23 ?qOutbox24 ?qOutbox25 ?qOutbox26 ?qOutbox27 ?qOutbox28 ?qOutbox29 ?qOutbox30 ?qOutbox31 ?qOutbox32 ?qOutbox33 ?qOutbox34 ?qOutbox35 ?qOutbox36 ?qOutbox37 ?qOutbox38 ?qOutbox39 ?qOutbox40 ?qOutbox41 ?qOutbox42 ?qOutbox43 ?qOutbox44 ?qOutbox45 ?qOutbox46 ?qOutbox47 ?qOutbox48 ?qOutbox49 ?qOutbox50 ?qOutbox51 ?qOutbox52 ?qOutbox53 ?qOutbox54 ?qOutbox55 ?qOutbox56 ?qOutbox57 ?qOutbox58 ?qOutbox59 ?qOutbox60 ?qOutbox61 ?qOutbox62 ?qOutbox63 ?qOutbox64 ?qOutbox65 ?qOutbox66 ?qOutbox67 ?qOutbox68 ?qOutbox69 ?qOutbox70 ?qOutbox71 ?qOutbox72 ?qOutbox73 ?qOutbox74 ?rOutbox
    (case qOutbox0 => k_is); (case qOutbox1 => k_is); (case qOutbox2 => k_is); (case qOutbox3 => k_is); (case qOutbox4 => k_is); (case qOutbox5 => k_is); (case qOutbox6 => k_is); (case qOutbox7 => k_is); (case qOutbox8 => k_is); (case qOutbox9 => k_is); (case qOutbox10 => k_is); (case qOutbox11 => k_is); (case qOutbox12 => k_is); (case qOutbox13 => k_is); (case qOutbox14 => k_is); (case qOutbox15 => k_is); (case qOutbox16 => k_is); (case qOutbox17 => k_is); (case qOutbox18 => k_is); (case qOutbox19 => k_is); (case qOutbox20 => k_is); (case qOutbox21 => k_is); (case qOutbox22 => k_is); (case qOutbox23 => k_is); (case qOutbox24 => k_is); (case qOutbox25 => k_is); (case qOutbox26 => k_is); (case qOutbox27 => k_is); (case qOutbox28 => k_is); (case qOutbox29 => k_is); (case qOutbox30 => k_is); (case qOutbox31 => k_is); (case qOutbox32 => k_is); (case qOutbox33 => k_is); (case qOutbox34 => k_is); (case qOutbox35 => k_is); (case qOutbox36 => k_is); (case qOutbox37 => k_is); (case qOutbox38 => k_is); (case qOutbox39 => k_is); (case qOutbox40 => k_is); (case qOutbox41 => k_is); (case qOutbox42 => k_is); (case qOutbox43 => k_is); (case qOutbox44 => k_is); (case qOutbox45 => k_is); (case qOutbox46 => k_is); (case qOutbox47 => k_is); (case qOutbox48 => k_is); (case qOutbox49 => k_is); (case qOutbox50 => k_is); (case qOutbox51 => k_is); (case qOutbox52 => k_is); (case qOutbox53 => k_is); (case qOutbox54 => k_is); (case qOutbox55 => k_is); (case qOutbox56 => k_is); (case qOutbox57 => k_is); (case qOutbox58 => k_is); (case qOutbox59 => k_is); (case qOutbox60 => k_is); (case qOutbox61 => k_is); (case qOutbox62 => k_is); (case qOutbox63 => k_is); (case qOutbox64 => k_is); (case qOutbox65 => k_is); (case qOutbox66 => k_is); (case qOutbox67 => k_is); (case qOutbox68 => k_is); (case qOutbox69 => k_is); (case qOutbox70 => k_is); (case qOutbox71 => k_is); (case qOutbox72 => k_is); (case qOutbox73 => k_is); (case qOutbox74 => k_is)
    intro c_Outbox f_Outbox_limit_set d_Outbox_limit_set f_Outbox___init__ d_Outbox___init__ f_Outbox_free d_Outbox_free f_Outbox_limit d_Outbox_limit f_Outbox_bound d_Outbox_bound f_Outbox_put d_Outbox_put f_Outbox_urge d_Outbox_urge f_Outbox_cut d_Outbox_cut f_Outbox_release d_Outbox_release f_Outbox_resize d_Outbox_resize f_Outbox_shut d_Outbox_shut F_Outbox_limit_set b_Outbox_limit_set F_Outbox___init__ b_Outbox___init__ F_Outbox_free b_Outbox_free F_Outbox_limit b_Outbox_limit F_Outbox_bound b_Outbox_bound F_Outbox_put b_Outbox_put F_Outbox_urge b_Outbox_urge F_Outbox_cut b_Outbox_cut F_Outbox_release b_Outbox_release F_Outbox_resize b_Outbox_resize F_Outbox_shut b_Outbox_shut x_cl_Outbox x_na_Outbox_capacity x_pset_Outbox_limit x_na_Outbox_base x_na_Outbox_end x_na_Outbox_closed x_na_Outbox_urgent_end x_na_Outbox_content x_mk_Outbox x_mg_Outbox x_pp_Outbox_free x_pp_Outbox_limit x_pp_Outbox_bound x_mt_Outbox_put x_mt_Outbox_urge x_mt_Outbox_cut x_mt_Outbox_release x_mt_Outbox_resize x_mt_Outbox_shut
    refine' Y.k11.useExc (P := (PySem.Challenge.rw_lossway_k11_outbox_history).prog) KX G ?qx0 ?qx1 ?qx2 ?qx3 ?qx4 ?qx5 ?qx6 ?qx7 ?qx8 ?qx9 ?qx10 ?qx11 ?qx12 ?qx13 ?qx14 ?qx15 ?qx16 ?qx17 ?qx18 ?qx19 ?qx20 ?qx21 ?qx22 ?qx23 ?qx24 ?qx25 ?qx26 ?qx27 ?qx28 ?qx29 ?qx30 ?qx31 ?qx32 ?qx33 ?qx34 ?qx35 ?qx36 ?qx37 ?qx38 ?qx39 ?qx40 ?qx41 ?qx42 ?qx43 ?qx44 ?qx45 ?qx46 ?qx47 ?qx48 ?qx49 ?qx50 ?qx51 ?qx52 ?qx53 ?qx54 ?qx55 ?qx56 ?qx57 ?qx58 ?qx59 ?qx60 ?qx61 ?qx62 ?qx63 ?qx64 ?qx65 ?qx66 ?qx67 ?qx68 ?qx69 ?qx70 ?qx71 ?qx72 ?qx73 ?qx74 ?qx75 ?qx76 ?qx77 ?qx78 ?qx79 ?qx80 ?qx81 ?qx82 ?qx83 ?qx84 ?qx85 ?qx86 ?qx87 ?qx88 ?qx89 ?qx90 ?qx91 ?qx92 ?qx93 ?qx94 ?qx95 ?qx96 ?qx97 ?qx98 ?qx99 ?qx100 ?qx101 ?qx102 ?qx103 ?rExc
    (case qx0 => k_is); (case qx1 => k_is); (case qx2 => k_is); (case qx3 => k_is); (case qx4 => k_is); (case qx5 => k_is); (case qx6 => k_is); (case qx7 => k_is); (case qx8 => first | rfl | decide +kernel); (case qx9 => k_is); (case qx10 => k_is); (case qx11 => k_is); (case qx12 => k_is); (case qx13 => k_is); (case qx14 => k_is); (case qx15 => k_is); (case qx16 => k_is); (case qx17 => k_is); (case qx18 => k_is); (case qx19 => k_is); (case qx20 => k_is); (case qx21 => k_is); (case qx22 => first | rfl | decide +kernel); (case qx23 => k_is); (case qx24 => k_is); (case qx25 => k_is); (case qx26 => k_is); (case qx27 => k_is); (case qx28 => k_is); (case qx29 => k_is); (case qx30 => k_is); (case qx31 => k_is); (case qx32 => k_is); (case qx33 => k_is); (case qx34 => k_is); (case qx35 => k_is); (case qx36 => first | rfl | decide +kernel); (case qx37 => k_is); (case qx38 => k_is); (case qx39 => k_is); (case qx40 => k_is); (case qx41 => k_is); (case qx42 => k_is); (case qx43 => k_is); (case qx44 => k_is); (case qx45 => k_is); (case qx46 => k_is); (case qx47 => k_is); (case qx48 => k_is); (case qx49 => k_is); (case qx50 => k_is); (case qx51 => k_is); (case qx52 => k_is); (case qx53 => k_is); (case qx54 => k_is); (case qx55 => first | rfl | k_is); (case qx56 => first | rfl | decide +kernel); (case qx57 => k_is); (case qx58 => k_is); (case qx59 => k_is); (case qx60 => k_is); (case qx61 => k_is); (case qx62 => k_is); (case qx63 => first | rfl | k_is); (case qx64 => first | rfl | decide +kernel); (case qx65 => k_is); (case qx66 => k_is); (case qx67 => k_is); (case qx68 => k_is); (case qx69 => k_is); (case qx70 => k_is); (case qx71 => first | rfl | k_is); (case qx72 => first | rfl | decide +kernel); (case qx73 => first | k_is | rfl); (case qx74 => k_is); (case qx75 => first | kit_is | k_is | rfl); (case qx76 => first | kit_is | k_is | rfl); (case qx77 => first | kit_is | k_is | rfl); (case qx78 => first | kit_is | k_is | rfl); (case qx79 => first | kit_is | k_is | rfl); (case qx80 => first | kit_is | k_is | rfl); (case qx81 => first | kit_is | k_is | rfl); (case qx82 => first | kit_is | k_is | rfl); (case qx83 => first | kit_is | k_is | rfl); (case qx84 => first | kit_is | k_is | rfl); (case qx85 => first | kit_is | k_is | rfl); (case qx86 => first | kit_is | k_is | rfl); (case qx87 => first | kit_is | k_is | rfl); (case qx88 => first | kit_is | k_is | rfl); (case qx89 => first | kit_is | k_is | rfl); (case qx90 => first | k_is | rfl); (case qx91 => first | k_is | rfl); (case qx92 => k_is); (case qx93 => first | k_is | rfl); (case qx94 => k_is); (case qx95 => ks_is); (case qx96 => k_is); (case qx97 => k_is); (case qx98 => ks_is); (case qx99 => k_is); (case qx100 => k_is); (case qx101 => ks_is); (case qx102 => k_is); (case qx103 => k_is)
    intro c_InvalidSetting c_NotAllowed c_InvalidNumber c_LossError f_InvalidSetting___init__ d_InvalidSetting___init__ f_NotAllowed___init__ d_NotAllowed___init__ f_InvalidNumber___init__ d_InvalidNumber___init__ x_oe_InvalidSetting x_ii_InvalidSetting_InvalidSetting x_it_InvalidSetting x_mg_InvalidSetting x_be_InvalidSetting x_ex_NotAllowed_NotAllowed x_oe_NotAllowed x_ii_NotAllowed_NotAllowed x_it_NotAllowed x_mg_NotAllowed x_be_NotAllowed x_oe_InvalidNumber x_ii_InvalidNumber_InvalidNumber x_it_InvalidNumber x_mg_InvalidNumber x_be_InvalidNumber x_xf_NotAllowed_state x_is_InvalidNumber_LossError x_is_InvalidSetting_LossError x_is_NotAllowed_LossError x_mg_LossError x_is_InvalidNumber_ValueError x_is_InvalidSetting_ValueError x_is_NotAllowed_ValueError x_is_InvalidNumber_InvalidNumber x_is_InvalidSetting_InvalidNumber x_is_NotAllowed_InvalidNumber x_is_InvalidNumber_InvalidSetting x_is_InvalidSetting_InvalidSetting x_is_NotAllowed_InvalidSetting x_is_InvalidNumber_NotAllowed x_is_InvalidSetting_NotAllowed x_is_NotAllowed_NotAllowed x_ex_InvalidNumber_InvalidNumber x_ex_InvalidNumber_NotAllowed x_xf_InvalidNumber_number x_ex_InvalidSetting_InvalidSetting x_xf_InvalidSetting_setting x_fs_InvalidSetting x_sv_InvalidSetting_InvalidSetting x_nf_InvalidSetting_setting x_fs_NotAllowed x_sv_NotAllowed_NotAllowed x_nf_NotAllowed_state x_fs_InvalidNumber x_sv_InvalidNumber_InvalidNumber x_nf_InvalidNumber_number
    have x_no_list : mg "list" = none := by
      refine' PySem.W.mg_none_of KX G ?nno_list
      (case nno_list => k_is)
    have x_no_len : mg "len" = none := by
      refine' PySem.W.mg_none_of KX G ?nno_len
      (case nno_len => k_is)
    have x_no_abs : mg "abs" = none := by
      refine' PySem.W.mg_none_of KX G ?nno_abs
      (case nno_abs => k_is)
    have x_no_int : mg "int" = none := by
      refine' PySem.W.mg_none_of KX G ?nno_int
      (case nno_int => k_is)
    have x_no_range : mg "range" = none := by
      refine' PySem.W.mg_none_of KX G ?nno_range
      (case nno_range => k_is)
    have x_no_isinstance : mg "isinstance" = none := by
      refine' PySem.W.mg_none_of KX G ?nno_isinstance
      (case nno_isinstance => k_is)
    have x_no_bool : mg "bool" = none := by
      refine' PySem.W.mg_none_of KX G ?nno_bool
      (case nno_bool => k_is)
    refine' Y.k11.useConst KX G (x := "GREATEST_LIMIT") (i := 65535) ?nmg_GREATEST_LIMIT ?rmg_GREATEST_LIMIT
    (case nmg_GREATEST_LIMIT => k_is)
    intro x_mg_GREATEST_LIMIT
    have x_no_max : mg "max" = none := by
      refine' PySem.W.mg_none_of KX G ?nno_max
      (case nno_max => k_is)
    have x_no_min : mg "min" = none := by
      refine' PySem.W.mg_none_of KX G ?nno_min
      (case nno_min => k_is)
    have x_no_tuple : mg "tuple" = none := by
      refine' PySem.W.mg_none_of KX G ?nno_tuple
      (case nno_tuple => k_is)
    refine' Y.k11.useConst KX G (x := "GREATEST_BYTE") (i := 255) ?nmg_GREATEST_BYTE ?rmg_GREATEST_BYTE
    (case nmg_GREATEST_BYTE => k_is)
    intro x_mg_GREATEST_BYTE
    have x_no_ValueError : mg "ValueError" = none := by
      refine' PySem.W.mg_none_of KX G ?nno_ValueError
      (case nno_ValueError => k_is)
    have x_no_repr : mg "repr" = none := by
      refine' PySem.W.mg_none_of KX G ?nno_repr
      (case nno_repr => k_is)
    have x_no_super : mg "super" = none := by
      refine' PySem.W.mg_none_of KX G ?nno_super
      (case nno_super => k_is)
    have x_sup_top : ((PySem.Challenge.rw_lossway_k11_outbox_history).prog.main.scope.names.lookup ("super" : Str)).isSome = false := by first | rfl | decide +kernel
    have e := hmg.symm.trans m_law
    cases e
    refine ⟨d_law, fun s u => .of_eq (b_law [u] rfl), fun base hb hg sb => ?_⟩
    exact (Y.k11.ok_law (a := { S := Y.SK _, f_box := f_box, d_box := d_box, f_draw := f_draw, d_draw := d_draw, f_limit := f_limit, d_limit := d_limit, f_is_whole := f_is_whole, d_is_whole := d_is_whole, f_in_range := f_in_range, d_in_range := d_in_range, f_checked_limit := f_checked_limit, d_checked_limit := d_checked_limit, f_Outbox_limit_set := f_Outbox_limit_set, d_Outbox_limit_set := d_Outbox_limit_set, f_Outbox___init__ := f_Outbox___init__, d_Outbox___init__ := d_Outbox___init__, f_Outbox_free := f_Outbox_free, d_Outbox_free := d_Outbox_free, f_Outbox_limit := f_Outbox_limit, d_Outbox_limit := d_Outbox_limit, f_Outbox_bound := f_Outbox_bound, d_Outbox_bound := d_Outbox_bound, f_l_is_whole := f_l_is_whole, d_l_is_whole := d_l_is_whole, f_state := f_state, d_state := d_state, f_bytes := f_bytes, d_bytes := d_bytes, f_is_row := f_is_row, d_is_row := d_is_row, f_as_data := f_as_data, d_as_data := d_as_data, f_Outbox_put := f_Outbox_put, d_Outbox_put := d_Outbox_put, f_Outbox_urge := f_Outbox_urge, d_Outbox_urge := d_Outbox_urge, f_only := f_only, d_only := d_only, f_adds := f_adds, d_adds := d_adds, f_tuple_is := f_tuple_is, d_tuple_is := d_tuple_is, f_Outbox_cut := f_Outbox_cut, d_Outbox_cut := d_Outbox_cut, f_cuts := f_cuts, d_cuts := d_cuts, f_Outbox_release := f_Outbox_release, d_Outbox_release := d_Outbox_release, f_releases := f_releases, d_releases := d_releases, f_Outbox_resize := f_Outbox_resize, d_Outbox_resize := d_Outbox_resize, f_Outbox_shut := f_Outbox_shut, d_Outbox_shut := d_Outbox_shut, f_bad_data := f_bad_data, d_bad_data := d_bad_data, f_data_refused := f_data_refused, d_data_refused := d_data_refused, f_cut_refused := f_cut_refused, d_cut_refused := d_cut_refused, f_release_refused := f_release_refused, d_release_refused := d_release_refused, f_limit_refused := f_limit_refused, d_limit_refused := d_limit_refused, f_deed := f_deed, d_deed := d_deed, f_law := _, d_law := d_law, f_InvalidSetting___init__ := f_InvalidSetting___init__, d_InvalidSetting___init__ := d_InvalidSetting___init__, f_NotAllowed___init__ := f_NotAllowed___init__, d_NotAllowed___init__ := d_NotAllowed___init__, f_InvalidNumber___init__ := f_InvalidNumber___init__, d_InvalidNumber___init__ := d_InvalidNumber___init__, c_Outbox := c_Outbox, c_InvalidSetting := c_InvalidSetting, c_NotAllowed := c_NotAllowed, c_InvalidNumber := c_InvalidNumber, c_LossError := c_LossError }) { st := rfl, no_list := x_no_list, mg_box := m_box, bd_box := .all b_box, fn_box := F_box, no_len := x_no_len, no_abs := x_no_abs, no_int := x_no_int, mg_draw := m_draw, bd_draw := .all b_draw, fn_draw := F_draw, no_range := x_no_range, mg_limit := m_limit, bd_limit := .all b_limit, fn_limit := F_limit, no_isinstance := x_no_isinstance, no_bool := x_no_bool, mg_is_whole := m_is_whole, bd_is_whole := .all b_is_whole, fn_is_whole := F_is_whole, mg_in_range := m_in_range, bd_in_range := .all b_in_range, mg_GREATEST_LIMIT := x_mg_GREATEST_LIMIT, fn_in_range := F_in_range, oe_InvalidSetting := x_oe_InvalidSetting, ii_InvalidSetting_InvalidSetting := x_ii_InvalidSetting_InvalidSetting, it_InvalidSetting := x_it_InvalidSetting, mg_InvalidSetting := x_mg_InvalidSetting, be_InvalidSetting := x_be_InvalidSetting, mg_checked_limit := m_checked_limit, bd_checked_limit := .all b_checked_limit, fn_checked_limit := F_checked_limit, cl_Outbox := x_cl_Outbox, na_Outbox_capacity := x_na_Outbox_capacity, pset_Outbox_limit := x_pset_Outbox_limit, bd_Outbox_limit_set := b_Outbox_limit_set, na_Outbox_base := x_na_Outbox_base, na_Outbox_end := x_na_Outbox_end, na_Outbox_closed := x_na_Outbox_closed, na_Outbox_urgent_end := x_na_Outbox_urgent_end, na_Outbox_content := x_na_Outbox_content, mk_Outbox := x_mk_Outbox, mg_Outbox := x_mg_Outbox, bd_Outbox___init__ := b_Outbox___init__, no_max := x_no_max, pp_Outbox_free := x_pp_Outbox_free, bd_Outbox_free := b_Outbox_free, pp_Outbox_limit := x_pp_Outbox_limit, bd_Outbox_limit := b_Outbox_limit, pp_Outbox_bound := x_pp_Outbox_bound, bd_Outbox_bound := b_Outbox_bound, mg_l_is_whole := m_l_is_whole, bd_l_is_whole := .all b_l_is_whole, fn_l_is_whole := F_l_is_whole, mg_state := m_state, bd_state := .all b_state, fn_state := F_state, mg_bytes := m_bytes, bd_bytes := .all b_bytes, fn_bytes := F_bytes, no_min := x_no_min, ex_NotAllowed_NotAllowed := x_ex_NotAllowed_NotAllowed, oe_NotAllowed := x_oe_NotAllowed, ii_NotAllowed_NotAllowed := x_ii_NotAllowed_NotAllowed, it_NotAllowed := x_it_NotAllowed, mg_NotAllowed := x_mg_NotAllowed, be_NotAllowed := x_be_NotAllowed, no_tuple := x_no_tuple, mg_is_row := m_is_row, bd_is_row := .all b_is_row, fn_is_row := F_is_row, oe_InvalidNumber := x_oe_InvalidNumber, ii_InvalidNumber_InvalidNumber := x_ii_InvalidNumber_InvalidNumber, it_InvalidNumber := x_it_InvalidNumber, mg_InvalidNumber := x_mg_InvalidNumber, be_InvalidNumber := x_be_InvalidNumber, mg_GREATEST_BYTE := x_mg_GREATEST_BYTE, mg_as_data := m_as_data, bd_as_data := .all b_as_data, fn_as_data := F_as_data, mt_Outbox_put := x_mt_Outbox_put, bd_Outbox_put := b_Outbox_put, mt_Outbox_urge := x_mt_Outbox_urge, bd_Outbox_urge := b_Outbox_urge, xf_NotAllowed_state := x_xf_NotAllowed_state, is_InvalidNumber_LossError := x_is_InvalidNumber_LossError, is_InvalidSetting_LossError := x_is_InvalidSetting_LossError, is_NotAllowed_LossError := x_is_NotAllowed_LossError, mg_LossError := x_mg_LossError, is_InvalidNumber_ValueError := x_is_InvalidNumber_ValueError, is_InvalidSetting_ValueError := x_is_InvalidSetting_ValueError, is_NotAllowed_ValueError := x_is_NotAllowed_ValueError, no_ValueError := x_no_ValueError, is_InvalidNumber_InvalidNumber := x_is_InvalidNumber_InvalidNumber, is_InvalidSetting_InvalidNumber := x_is_InvalidSetting_InvalidNumber, is_NotAllowed_InvalidNumber := x_is_NotAllowed_InvalidNumber, is_InvalidNumber_InvalidSetting := x_is_InvalidNumber_InvalidSetting, is_InvalidSetting_InvalidSetting := x_is_InvalidSetting_InvalidSetting, is_NotAllowed_InvalidSetting := x_is_NotAllowed_InvalidSetting, is_InvalidNumber_NotAllowed := x_is_InvalidNumber_NotAllowed, is_InvalidSetting_NotAllowed := x_is_InvalidSetting_NotAllowed, is_NotAllowed_NotAllowed := x_is_NotAllowed_NotAllowed, mg_only := m_only, bd_only := .all b_only, fn_only := F_only, mg_adds := m_adds, bd_adds := .all b_adds, fn_adds := F_adds, mg_tuple_is := m_tuple_is, bd_tuple_is := .all b_tuple_is, mt_Outbox_cut := x_mt_Outbox_cut, bd_Outbox_cut := b_Outbox_cut, fn_tuple_is := F_tuple_is, mg_cuts := m_cuts, bd_cuts := .all b_cuts, fn_cuts := F_cuts, mt_Outbox_release := x_mt_Outbox_release, bd_Outbox_release := b_Outbox_release, mg_releases := m_releases, bd_releases := .all b_releases, fn_releases := F_releases, mt_Outbox_resize := x_mt_Outbox_resize, bd_Outbox_resize := b_Outbox_resize, mt_Outbox_shut := x_mt_Outbox_shut, bd_Outbox_shut := b_Outbox_shut, mg_bad_data := m_bad_data, bd_bad_data := .all b_bad_data, fn_bad_data := F_bad_data, ex_InvalidNumber_InvalidNumber := x_ex_InvalidNumber_InvalidNumber, ex_InvalidNumber_NotAllowed := x_ex_InvalidNumber_NotAllowed, no_repr := x_no_repr, xf_InvalidNumber_number := x_xf_InvalidNumber_number, mg_data_refused := m_data_refused, bd_data_refused := .all b_data_refused, fn_data_refused := F_data_refused, mg_cut_refused := m_cut_refused, bd_cut_refused := .all b_cut_refused, fn_cut_refused := F_cut_refused, mg_release_refused := m_release_refused, bd_release_refused := .all b_release_refused, fn_release_refused := F_release_refused, ex_InvalidSetting_InvalidSetting := x_ex_InvalidSetting_InvalidSetting, xf_InvalidSetting_setting := x_xf_InvalidSetting_setting, mg_limit_refused := m_limit_refused, bd_limit_refused := .all b_limit_refused, fn_limit_refused := F_limit_refused, mg_deed := m_deed, bd_deed := .all b_deed, fn_deed := F_deed, fn_Outbox_limit_set := F_Outbox_limit_set, fn_Outbox___init__ := F_Outbox___init__, fn_Outbox_free := F_Outbox_free, fn_Outbox_limit := F_Outbox_limit, fn_Outbox_bound := F_Outbox_bound, fn_Outbox_put := F_Outbox_put, fn_Outbox_urge := F_Outbox_urge, fn_Outbox_cut := F_Outbox_cut, fn_Outbox_release := F_Outbox_release, fn_Outbox_resize := F_Outbox_resize, fn_Outbox_shut := F_Outbox_shut, fn_law := F_law, bd_law := .all b_law, mg_law := m_law, fs_InvalidSetting := x_fs_InvalidSetting, sv_InvalidSetting_InvalidSetting := x_sv_InvalidSetting_InvalidSetting, nf_InvalidSetting_setting := x_nf_InvalidSetting_setting, fs_NotAllowed := x_fs_NotAllowed, sv_NotAllowed_NotAllowed := x_sv_NotAllowed_NotAllowed, nf_NotAllowed_state := x_nf_NotAllowed_state, fs_InvalidNumber := x_fs_InvalidNumber, sv_InvalidNumber_InvalidNumber := x_sv_InvalidNumber_InvalidNumber, nf_InvalidNumber_number := x_nf_InvalidNumber_number, no_super := x_no_super, sup_top := x_sup_top }).imp fun vs H Q E h => Y.k11.law_holds _ rfl vs H Q E h

