import PyProof.Rows.All
import Wide.All
import OpenK.AllK
import Wide.FinOn
import HandS.ForMost
import HandS.ForExc
import HandS.IsInst
import HandS.ClsMeth
import HandS.Wide
import HandS.Flow
import HandS.Property
import HandS.WideBits
import HandS.Flt
import HandS.ExcInit
import HandS.ExcSuper
import HandS.ExcField
import HandS.ExcIs
import HandS.ExcOwn
import HandS.WordsExc
import KE.KExcSuper
import KE.KSuper
import KE.KExcIs
import HandS.Defaults
import KE.GoesEnum
import HandS.FStr
import HandS.More
import HandS.Walk
import PyProof.Rows.RegStrFacts
import HandS.MakeKw
import HandS.MakeKwOnly
import HandS.Text
import PyProof.ReprRoads
import HandS.Ends
import HandS.TupAny
import HandS.MakeKwOnly
import HandS.Defaults
import HandS.Zip
import HandS.Text
import HandS.Walk
import KE.KUnpack
import HandS.HotCalls
import HandS.Walk
import HandS.Star
import HandS.SlotsOwn
import HandS.SortRule
import HandS.SortInts
import HandS.Records
import PyProof.EqKinds
import HandS.GenList
import HandS.Iter
import HandS.TupLe
import HandS.WordsDict
import HandS.More
import HandS.Deep
import HandS.EndTab
import HandS.HeadWalk
import KE.SortKeyHeap
import KE.KNestM
import KE.DataMinMax
import KE.KDictList
import HandS.SortKw
import HandS.TupLe
import HandS.Strs
import PyProof.Rows.All
import Wide.All
import PySem.Challenge.RW_lossway_k17_alarms_history
set_option Elab.async false
set_option linter.all false
set_option maxRecDepth 100000
set_option maxHeartbeats 4000000
set_option synthInstance.maxHeartbeats 0
set_option synthInstance.maxSize 1000000
set_option synthInstance.checkSynthOrder false
/-! The layer of this work: readings without the written part, a def's promise by its own body. -/
namespace Y
open PySem PySem.Spec PyProof.Rows L2

/-! ### weaker readings -/
section
variable {X : Cx}
theorem pe_imp {e : Expr} {t t' : TE} (h : PE X e t) (hi : ∀ σ H Q, t' σ H Q → t σ H Q) : PE X e t' := ⟨fun pins s σ H Q I q => h.run pins s σ H Q I (hi σ H Q q)⟩
theorem ps_imp {e : Stmt} {t t' : TS} (h : PS X e t) (hi : ∀ D σ H, t' D σ H → t D σ H) : PS X e t' := ⟨fun pins s σ H D I q => h.run pins s σ H D I (hi D σ H q)⟩
theorem op_imp {f : Value → Value → Sem Value} {r r' : R2} (h : OpR X f r) (hi : ∀ x y H Q, r' x y H Q → r x y H Q) : OpR X f r' := fun pins s σ H x y v u Q I rx ry q => h pins s σ H x y v u Q I rx ry (hi x y H Q q)
theorem op_or {f : Value → Value → Sem Value} {r r' : R2} (h : OpR X f r) (h' : OpR X f r') : OpR X f (fun x y H Q => r x y H Q ∨ r' x y H Q) := fun pins s σ H x y v u Q I rx ry q =>
  q.elim (h pins s σ H x y v u Q I rx ry) (h' pins s σ H x y v u Q I rx ry)
theorem ix_imp {r r' : R2} (h : IxR X r) (hi : ∀ x y H Q, r' x y H Q → r x y H Q) : IxR X r' := fun value slice pins s σ H x y v u Q I rx ry q hs => h value slice pins s σ H x y v u Q I rx ry (hi x y H Q q) hs
theorem call_imp {f : Value} {r r' : List V → Hp → VK → Prop} (h : CallR X f r) (hi : ∀ xs H Q, r' xs H Q → r xs H Q) : CallR X f r' := fun pins s σ H xs us Q I rx q => h pins s σ H xs us Q I rx (hi xs H Q q)
end

/-! ### what stands at an address; S: static things, of the written part -/
abbrev Sta := Addr → HO → Prop
def SK (K : PySem.W.Frag) : Sta := fun a u => match u with
  | .lst xs => ∃ (o : Obj) (its : Array Value) (n : Nat), K.lookup a = some o ∧ o.cls = .type "list" ∧ o.dict = none ∧ o.data = .seq its n ∧ its.size ≤ sizeLine ∧ Vals xs its.toList
  | .tup xs => ∃ (o : Obj) (its : Array Value) (n : Nat), K.lookup a = some o ∧ o.cls = .type "tuple" ∧ o.data = .seq its n ∧ its.size ≤ sizeLine ∧ Vals xs its.toList
  | _ => False
def RdS (S : Sta) (H : Hp) (p : Addr) (u : HO) : Prop := Rd H p u ∨ S p u
theorem sqL {K : PySem.W.Frag} {S : Sta} {H : Hp} {p : Addr} {xs : List V} (e : S = SK K) (h : RdS S H p (.lst xs)) : SqL K H p xs := by subst e; exact h
theorem sqT {K : PySem.W.Frag} {S : Sta} {H : Hp} {p : Addr} {xs : List V} (e : S = SK K) (h : RdS S H p (.tup xs)) : SqT K H p xs := by subst e; exact h
/-- a list or a tuple -/
def Seq (S : Sta) (H : Hp) (p : Addr) (xs : List V) : Prop := RdS S H p (.lst xs) ∨ RdS S H p (.tup xs)

/-! ### operators -/
def rAdd : R2 := fun x y H Q => (∃ i j, x = .int i ∧ y = .int j ∧ Q (.int (i + j)) H) ∨ (∃ i j, x = .str i ∧ y = .str j ∧ i.length + j.length ≤ sizeLine ∧ Q (.str (i ++ j)) H)
  ∨ (∃ p q a b, x = .ref p ∧ y = .ref q ∧ H p = some (.lst a) ∧ H q = some (.lst b) ∧ a.length + b.length ≤ sizeLine ∧ ∀ r, H r = none → Q (.ref r) (upd H r (.lst (a ++ b))))
def rSub : R2 := rI0 fun i j => .int (i - j)
def rMul : R2 := rI CMul fun i j => .int (i * j)
def rFdiv : R2 := rI CDivW fun i j => .int (i / j)
def rMod : R2 := rI (fun _ j => 0 < j) fun i j => .int (i % j)
def rPow : R2 := rI CPow fun i j => .int (i ^ j.toNat)
def rShl : R2 := rI CPow fun i j => .int (i * 2 ^ j.toNat)
def rAnd : R2 := rI0 fun i j => .int (Builtin.bitAnd i j)
def rLt : R2 := rI0 fun i j => .bl (decide (i < j))
def rLe : R2 := rI0 fun i j => .bl (decide (i ≤ j))
def rGt : R2 := rI0 fun i j => .bl (decide (j < i))
def rGe : R2 := rI0 fun i j => .bl (decide (j ≤ i))
def rNeg : V → Hp → VK → Prop := rU fun i => .int (-i)
def rIs : R2 := fun x y H Q => y = .non ∧ Q (.bl (decide (x = .non))) H
def rIsNot : R2 := fun x y H Q => y = .non ∧ Q (.bl (!decide (x = .non))) H
section
variable {X : Cx}
theorem o_add : OpR X (binaryOp .Add) rAdd := op_imp (op_or op_add (op_or op_add_str op_cat)) fun x y H Q q => by
  rcases q with q | q | ⟨p, q, a, b, e1, e2, h1, h2, h3, h4⟩
  · exact .inl q
  · exact .inr (.inl q)
  · exact .inr (.inr ⟨p, q, a, b, e1, e2, h1, h2, h3, h4⟩)
theorem o_sub : OpR X (binaryOp .Sub) rSub := op_sub
theorem o_mul : OpR X (binaryOp .Mult) rMul := op_mul
theorem o_fdiv : OpR X (binaryOp .FloorDiv) rFdiv := op_fdivW
theorem o_mod : OpR X (binaryOp .Mod) rMod := op_mod
theorem o_pow : OpR X (binaryOp .Pow) rPow := op_pow
theorem o_shl : OpR X (binaryOp .LShift) rShl := op_shl
theorem o_and : OpR X (binaryOp .BitAnd) rAnd := op_and
theorem o_lt : OpR X (compareOp .Lt) rLt := op_lt
theorem o_le : OpR X (compareOp .LtE) rLe := op_le
theorem o_gt : OpR X (compareOp .Gt) rGt := op_gt
theorem o_ge : OpR X (compareOp .GtE) rGe := op_ge
theorem o_eq : OpR X (compareOp .Eq) rEq := op_eq
theorem o_ne : OpR X (compareOp .NotEq) rNe := op_ne
theorem o_is : OpR X (compareOp .Is) rIs := op_isN
theorem o_isnot : OpR X (compareOp .IsNot) rIsNot := op_notN
theorem o_neg : UnR X (unaryOp .USub) rNeg := un_neg
end

/-! ### subscripts, len, slices -/
def rIx (S : Sta) : R2 := fun x y H Q => (∃ p xs i v, x = .ref p ∧ y = .int i ∧ Seq S H p xs ∧ atI xs i = some v ∧ Q v H) ∨ (∃ z i c, x = .str z ∧ y = .int i ∧ z.length ≤ sizeLine ∧ atI z.cps.toList i = some c ∧ Q (.str ⟨#[c]⟩) H)
def rLen (S : Sta) : List V → Hp → VK → Prop := fun xs H Q => (∃ p ys, xs = [.ref p] ∧ Seq S H p ys ∧ Q (.int ys.length) H) ∨ (∃ z, xs = [.str z] ∧ z.length ≤ sizeLine ∧ Q (.int z.length) H)
def rInt : List V → Hp → VK → Prop := fun xs H Q => (∃ i, xs = [.int i] ∧ Q (.int i) H) ∨ ∃ k, xs = [.bl k] ∧ Q (.int (if k then 1 else 0)) H
def rStrI : List V → Hp → VK → Prop := fun xs H Q => ∃ i, xs = [.int i] ∧ i.natAbs.log2 < 1920 ∧ Q (.str (toString i)) H
def rSl (S : Sta) : V → Option Int → Option Int → Hp → VK → Prop := fun x lo hi H Q => ∃ a xs, x = .ref a ∧ RdS S H a (.lst xs) ∧ ∀ p, H p = none → Q (.ref p) (upd H p (.lst (cutV xs lo hi)))
section
variable {X : Cx}
variable {S : Sta}
theorem o_ix (st : S = SK X.K) : IxR X (rIx S) := ix_imp (ix_list.or (ix_tup.or ix_str)) fun x y H Q q => by
  rcases q with ⟨p, xs, i, v, e1, e2, h | h, h2, h3⟩ | q
  · exact .inl ⟨p, xs, i, v, e1, e2, sqL st h, h2, h3⟩
  · exact .inr (.inl ⟨p, xs, i, v, e1, e2, sqT st h, h2, h3⟩)
  · exact .inr (.inr q)
theorem c_len (st : S = SK X.K) : CallR X (.builtin "len") (rLen S) := call_imp call_len fun xs H Q q => by
  rcases q with ⟨p, ys, e, h | h, q⟩ | ⟨z, e, h, q⟩
  · exact ⟨_, _, e, .inl ⟨_, sqL st h, rfl⟩, q⟩
  · exact ⟨_, _, e, .inr ⟨_, sqT st h, rfl⟩, q⟩
  · exact ⟨_, _, e, ⟨h, rfl⟩, q⟩
theorem c_int : CallR X (.type "int") rInt := call_int1
theorem c_strI : CallR X (.type "str") rStrI := call_str_int
theorem o_sl (st : S = SK X.K) : SlR X (rSl S) := fun pins s σ H x v vl vu lo hi sl Q I rx hs pl pu h => by
  obtain ⟨a, xs, e, hx, q⟩ := h
  exact sl_list pins s σ H x v vl vu lo hi sl Q I rx hs pl pu ⟨a, xs, e, sqL st hx, q⟩
end

/-! ### small built-ins -/
def rAbs : List V → Hp → VK → Prop := fun xs H Q => ∃ i, xs = [.int i] ∧ Q (.int (if i < 0 then -i else i)) H
def rMin2 : List V → Hp → VK → Prop := fun xs H Q => ∃ i j, xs = [.int i, .int j] ∧ Q (.int (if j < i then j else i)) H
def rMax2 : List V → Hp → VK → Prop := fun xs H Q => ∃ i j, xs = [.int i, .int j] ∧ Q (.int (if j > i then j else i)) H
def rMin3 : List V → Hp → VK → Prop := fun xs H Q => ∃ i j k, xs = [.int i, .int j, .int k] ∧ Q (.int (min (min i j) k)) H
def rSum (S : Sta) : List V → Hp → VK → Prop := fun vs H Q => ∃ (a : Addr) (ns : List Int), vs = [V.ref a] ∧ RdS S H a (.lst (ns.map V.int)) ∧ Q (.int ns.sum) H
def rAll (S : Sta) : List V → Hp → VK → Prop := fun vs H Q => ∃ (a : Addr) (bs : List Bool), vs = [V.ref a] ∧ RdS S H a (.lst (bs.map V.bl)) ∧ Q (.bl (bs.all id)) H
def rMaxL (S : Sta) : List V → Hp → VK → Prop := fun vs H Q => ∃ (a : Addr) (ns : List Int), vs = [V.ref a] ∧ RdS S H a (.lst (ns.map V.int)) ∧ 0 < ns.length ∧ ∀ m, m ∈ ns → (∀ y, y ∈ ns → y ≤ m) → Q (.int m) H
def rMinL (S : Sta) : List V → Hp → VK → Prop := fun vs H Q => ∃ (a : Addr) (ns : List Int), vs = [V.ref a] ∧ RdS S H a (.lst (ns.map V.int)) ∧ 0 < ns.length ∧ ∀ m, m ∈ ns → (∀ y, y ∈ ns → m ≤ y) → Q (.int m) H
def rListOf (S : Sta) : List V → Hp → VK → Prop := fun xs H Q => ∃ p ys, xs = [.ref p] ∧ Seq S H p ys ∧ ∀ l, H l = none → Q (.ref l) (upd H l (.lst ys))
def rTupleOf (S : Sta) : List V → Hp → VK → Prop := fun xs H Q => ∃ p ys, xs = [.ref p] ∧ ((RdS S H p (.lst ys) ∧ ∀ l, H l = none → Q (.ref l) (upd H l (.tup ys))) ∨ (RdS S H p (.tup ys) ∧ Q (.ref p) H))
section
variable {X : Cx} {S : Sta}
theorem c_abs : CallR X (.builtin "abs") rAbs := call_abs
theorem c_min2 (hc : X.calm = true) : CallR X (.builtin "min") rMin2 := call_min2 hc
theorem c_max2 (hc : X.calm = true) : CallR X (.builtin "max") rMax2 := call_max2 hc
theorem c_min3 (hc : X.calm = true) : CallR X (.builtin "min") rMin3 := call_imp (call_min3Nu hc) fun xs H Q ⟨i, j, k, e, q⟩ => by
  refine ⟨.int i, .int j, .int k, .int (min (min i j) k), e, ?_, q⟩
  have h2 : ∀ a b : Int, nuMin2 (.int a) (.int b) = some (.int (min a b)) := fun a b => by
    show some (if decide (b < a) = true then V.int b else V.int a) = _
    by_cases h : b < a
    · rw [decide_eq_true h, if_pos rfl, show min a b = b by omega]
    · rw [decide_eq_false h, if_neg Bool.false_ne_true, show min a b = a by omega]
  show (nuMin2 (.int i) (.int j)).bind _ = _
  rw [h2]
  exact h2 _ _
theorem c_sum (st : S = SK X.K) (hc : X.calm = true) : CallR X (.builtin "sum") (rSum S) := call_imp (cr_sum hc) fun xs H Q ⟨a, ns, e, h, q⟩ => ⟨a, ns, e, sqL st h, q⟩
theorem c_all (st : S = SK X.K) (hc : X.calm = true) : CallR X (.builtin "all") (rAll S) := call_imp (cr_all hc) fun xs H Q ⟨a, ns, e, h, q⟩ => ⟨a, ns, e, sqL st h, q⟩
theorem c_maxL (st : S = SK X.K) (hc : X.calm = true) : CallR X (.builtin "max") (rMaxL S) := call_imp (cr_max hc) fun xs H Q ⟨a, ns, e, h, q⟩ => ⟨a, ns, e, sqL st h, q⟩
theorem c_minL (st : S = SK X.K) (hc : X.calm = true) : CallR X (.builtin "min") (rMinL S) := call_imp (cr_min hc) fun xs H Q ⟨a, ns, e, h, q⟩ => ⟨a, ns, e, sqL st h, q⟩
theorem c_list (st : S = SK X.K) : CallR X (.type "list") (rListOf S) := call_imp call_list_of fun xs H Q ⟨p, ys, e, h, q⟩ => ⟨p, ys, e, h.elim (fun h => .inl (sqL st h)) (fun h => .inr (sqT st h)), q⟩
theorem c_tuple (st : S = SK X.K) : CallR X (.type "tuple") (rTupleOf S) := call_imp call_tuple_of fun xs H Q ⟨p, ys, e, h⟩ => ⟨p, ys, e, h.elim (fun h => .inl ⟨sqL st h.1, h.2⟩) (fun h => .inr ⟨sqT st h.1, h.2⟩)⟩
end

/-! ### == of data at any depth -/
mutual
inductive DpS (S : Sta) (H : Hp) : V → PyData → Prop
  | non : DpS S H .non .none
  | bl (b : Bool) : DpS S H (.bl b) (.bool b)
  | int (i : Int) : DpS S H (.int i) (.int i)
  | str (x : Str) : DpS S H (.str x) (.str x)
  | lst {a : Addr} {xs : List V} {ds : List PyData} : RdS S H a (.lst xs) → DpSs S H xs ds → DpS S H (.ref a) (.list ds)
  | tup {a : Addr} {xs : List V} {ds : List PyData} : RdS S H a (.tup xs) → DpSs S H xs ds → DpS S H (.ref a) (.tuple ds)
inductive DpSs (S : Sta) (H : Hp) : List V → List PyData → Prop
  | nil : DpSs S H [] []
  | cons {v : V} {vs : List V} {d : PyData} {ds : List PyData} : DpS S H v d → DpSs S H vs ds → DpSs S H (v :: vs) (d :: ds)
end
mutual
theorem DpS.dp {K : PySem.W.Frag} {S : Sta} (st : S = SK K) {H : Hp} : ∀ {v : V} {d : PyData}, DpS S H v d → Dp K H v d
  | _, _, .non => .non
  | _, _, .bl b => .bl b
  | _, _, .int i => .int i
  | _, _, .str x => .str x
  | _, _, .lst h r => .lst (sqL st h) (DpSs.dp st r)
  | _, _, .tup h r => .tup (sqT st h) (DpSs.dp st r)
theorem DpSs.dp {K : PySem.W.Frag} {S : Sta} (st : S = SK K) {H : Hp} : ∀ {v : List V} {d : List PyData}, DpSs S H v d → DpAll K H v d
  | _, _, .nil => .nil
  | _, _, .cons h r => .cons (DpS.dp st h) (DpSs.dp st r)
end
def rEqP (S : Sta) : R2 := fun x y H Q => rEq x y H Q ∨ ∃ d e, DpS S H x d ∧ DpS S H y e ∧ SeqAt.shaped d = true ∧ SeqAt.shaped e = true ∧ Q (.bl (PyData.eqv d e)) H
def rNeP (S : Sta) : R2 := fun x y H Q => rNe x y H Q ∨ ∃ d e, DpS S H x d ∧ DpS S H y e ∧ SeqAt.shaped d = true ∧ SeqAt.shaped e = true ∧ Q (.bl (!PyData.eqv d e)) H
section
variable {X : Cx} {S : Sta}
theorem o_eqP (st : S = SK X.K) (hu : X.A.units + 64 < cLine) : OpR X (compareOp .Eq) (rEqP S) := op_imp (op_or op_eq (op_eqD hu)) fun x y H Q q => q.elim .inl fun ⟨d, e, h1, h2, q⟩ => .inr ⟨d, e, h1.dp st, h2.dp st, q⟩
theorem o_neP (st : S = SK X.K) (hu : X.A.units + 64 < cLine) : OpR X (compareOp .NotEq) (rNeP S) := op_imp (op_or op_ne (op_neD hu)) fun x y H Q q => q.elim .inl fun ⟨d, e, h1, h2, q⟩ => .inr ⟨d, e, h1.dp st, h2.dp st, q⟩
end

/-! ### in: a sign in a text; a flat value in a list or a tuple -/
def rInA (S : Sta) (neg : Bool) : R2 := fun x y H Q => (∃ p xs, y = .ref p ∧ Seq S H p xs ∧ flatV x = true ∧ xs.all flatV = true ∧ Q (.bl (if neg then !inV x xs else inV x xs)) H)
  ∨ (∃ (c : Nat) (z : Str), x = .str ⟨#[c]⟩ ∧ y = .str z ∧ Q (.bl (if neg then !decide (c ∈ z.cps.toList) else decide (c ∈ z.cps.toList))) H)
section
variable {X : Cx} {S : Sta}
theorem o_inA (st : S = SK X.K) : OpR X (compareOp .In) (rInA S false) := op_imp (op_or op_in_seq op_in_sign) fun x y H Q q => by
  rcases q with ⟨p, xs, e, h, f, fs, q⟩ | q
  · exact .inl ⟨p, xs, e, h.elim (fun h => .inl (sqL st h)) (fun h => .inr (sqT st h)), f, fs, q⟩
  · exact .inr q
theorem o_notInA (st : S = SK X.K) : OpR X (compareOp .NotIn) (rInA S true) := op_imp (op_or op_notIn_seq op_notIn_sign) fun x y H Q q => by
  rcases q with ⟨p, xs, e, h, f, fs, q⟩ | q
  · exact .inl ⟨p, xs, e, h.elim (fun h => .inl (sqL st h)) (fun h => .inr (sqT st h)), f, fs, q⟩
  · exact .inr q
end

/-! ### types -/
inductive TyN (H : Hp) : V → String → Prop where
  | non : TyN H .non "NoneType"
  | bl (b : Bool) : TyN H (.bl b) "bool"
  | int (i : Int) : TyN H (.int i) "int"
  | str (s : Str) : TyN H (.str s) "str"
  | lst {a : Addr} {xs : List V} (e : Rd H a (.lst xs)) : TyN H (.ref a) "list"
  | tup {a : Addr} {xs : List V} (e : Rd H a (.tup xs)) : TyN H (.ref a) "tuple"
  | dK {a : Addr} {kvs : List (Key × V)} (e : H a = some (.dK kvs)) : TyN H (.ref a) "dict"
theorem TyN.x {K : PySem.W.Frag} {H : Hp} {x : V} {n : String} (t : TyN H x n) : TyX K H x (.type n) := by
  cases t with
  | non => exact .base .non
  | bl b => exact .base (.bl b)
  | int i => exact .base (.int i)
  | str s => exact .base (.str s)
  | lst e =>
    rcases e with e | ⟨o, e⟩
    · exact .base (.lst e)
    · exact .base (.frz e)
  | tup e =>
    rcases e with e | ⟨o, e⟩
    · exact .base (.tup e)
    · exact .fTuple e
  | dK e => exact .base (.dK e)
/-- isinstance(x, n) of a built-in class n, for the types above -/
def isA (t n : String) : Bool := t == n || (t == "bool" && n == "int")
def rIsI : List V → Hp → VK → Prop := fun xs H Q => ∃ x n t, xs = [x, .ty n] ∧ TyN H x t ∧ kitB t n = some (isA t n) ∧ Q (.bl (isA t n)) H
theorem c_isi {X : Cx} : CallR X (.builtin "isinstance") rIsI := call_imp call_isi fun xs H Q q => by
  obtain ⟨x, n, t, e, ty, k, q⟩ := q
  exact ⟨x, .ty n, .type t, .type n, isA t n, e, .ty n, ty.x, kit_ty k, q⟩

/-! ### fields, methods -/
/-- a reading closed under weaker ends -/
def mo (te : TE) : TE := fun σ H Q => ∃ Q0 : VK, te σ H Q0 ∧ ∀ v H', Q0 v H' → Q v H'
def moA (ta : TA) : TA := fun σ H Q => ∃ Q0 : List V → Hp → Prop, ta σ H Q0 ∧ ∀ v H', Q0 v H' → Q v H'
def eFld (C : Addr) (f : Str) (te : TE) : TE := fun σ H Q => te σ H fun x H1 => ∃ a dx fs v, x = .ref a ∧ H1 a = some (.ins C dx fs) ∧ fs.lookup f = some v ∧ Q v H1
def sSetF (C : Addr) (f : Str) (te tv : TE) : TS := fun D σ H => tv σ H fun y H1 => te σ H1 fun x H2 => ∃ a dx fs, x = .ref a ∧ H2 a = some (.ins C dx fs) ∧ fs.length < 1000 ∧ D.nx σ (upd H2 a (.ins C dx (putF f y fs)))
/-- o.f, a property -/
def eProp (C : Addr) (sp : Sp) (te : TE) : TE := fun σ H Q => te σ H fun x H1 => ∃ a dx fs, x = .ref a ∧ H1 a = some (.ins C dx fs) ∧ sp [.ref a] H1 Q E0
/-- o.f += e -/
def sAugF (C : Addr) (f : Str) (te tv : TE) (rd : V → V → Hp → VK → Prop) : TS := fun D σ H => te σ H fun x H1 => ∃ a dx fs v, x = .ref a ∧ H1 a = some (.ins C dx fs) ∧ fs.lookup f = some v ∧
  tv σ H1 fun y H2 => rd v y H2 fun z H3 => ∃ dx' fs', H3 a = some (.ins C dx' fs') ∧ fs'.length < 1000 ∧ D.nx σ (upd H3 a (.ins C dx' (putF f z fs')))
/-- x.append(e) -/
def eApp (te : TE) (ta : TA) : TE := fun σ H Q => te σ H fun x H1 => ∃ l, x = .ref l ∧ (∃ xs, H1 l = some (.lst xs)) ∧ ta σ H1 fun vs H2 => rAppend x vs H2 Q
section
variable {X : Cx} {C : Addr} {f : Str} {e ev o : Expr} {es : List Expr} {te tv : TE} {ta : TA} {pos pos' pos2 apos cpos : Pos}
theorem pe_mo (he : PE X e te) : PE X e (mo te) := ⟨fun pins s σ H Q I ⟨Q0, h, hq⟩ => thn (he.run pins s σ H Q0 I h) fun _ _ ⟨v, H', I', r, q⟩ => ⟨v, H', I', r, hq v H' q⟩⟩
theorem pa_mo (he : PA X es ta) : PA X es (moA ta) := ⟨fun pos pins s σ H Q I ⟨Q0, h, hq⟩ => thn (he.run pos pins s σ H Q0 I h) fun _ _ ⟨v, H', I', r, q⟩ => ⟨v, H', I', r, hq v H' q⟩⟩
theorem pe_fldC (c : Cls X.K C) (n : NoAttr X.K C f) (he : PE X e te) (hb : attributeBase e f X.env (eval e X.env) = eval e X.env := by rfl) : PE X (.Attribute e f pos) (eFld C f te) :=
  pe_imp (pe_fld (pe_mo he) hb) fun σ H Q q => ⟨_, q, fun v H' ⟨a, dx, fs, w, e1, e2, l, q⟩ => ⟨a, C, dx, fs, w, e1, e2, c, n, l, q⟩⟩
theorem ps_setF (c : Cls X.K C) (n : NoAttr X.K C f) (ha : PE X o te) (hv : PE X ev tv) (hs : swapsWith ev (some (.Attribute o f pos')) pos.line X.env = pure false := by rfl) :
    PS X (.Assign [.Attribute o f pos'] ev pos) (sSetF C f te tv) :=
  ps_imp (ps_fld (pe_mo ha) (pe_mo hv) hs) fun D σ H q => ⟨_, q, fun y H1 q1 => ⟨_, q1, fun x H2 ⟨a, dx, fs, e1, e2, l, q2⟩ => ⟨a, C, dx, fs, e1, e2, c, n, l, q2⟩⟩⟩
theorem pe_propC {CX : CXT} {k : Nat} {p g : Addr} {fd : FuncData} {ps : List Str} {sp : Sp} (he : PE X e te) (c : Cls X.K C) (hp : PropOf X.K C f p g) (F : FnOk X.prog X.w X.K X.mg X.base CX k g fd ps sp) (hr : Room (k + 1) X.A) (hb : Binds X.K fd ps []) (hx : Passes CX X.nox E0)
    (hab : attributeBase e f X.env (eval e X.env) = eval e X.env := by rfl) : PE X (.Attribute e f pos) (eProp C sp te) := pe_imp (pe_prop he c hp F hr hb .nil hx hab) fun _ _ _ q => q
theorem ps_augF {op : Operator} {rd : V → V → Hp → VK → Prop} (c : Cls X.K C) (n : NoAttr X.K C f) (ha : PE X o te) (hv : PE X ev tv) (hop : InOp X op rd) : PS X (.AugAssign (.Attribute o f pos') op ev pos) (sAugF C f te tv rd) :=
  ps_imp (ps_fldaug (pe_mo ha) (pe_mo hv) hop) fun D σ H q => ⟨_, q, fun x H1 ⟨a, dx, fs, v, e1, e2, l, q2⟩ => ⟨a, C, dx, fs, v, e1, e2, c, n, l, ⟨_, q2, fun y H2 q3 => q3⟩⟩⟩
theorem pe_app (ho : PE X o te) (ha : PA X (e :: es) ta)
    (hbase : attributeBase o "append" X.env (eval o X.env) = eval o X.env := by rfl)
    (hfew : ((backTo cpos (starEach (e :: es) X.env)).all (fun x => !x.1) && (backToKw cpos (keywordEach [] X.env)).all (fun x => x.1.isSome)
      && decide ((e :: es).length + ([] : List Keyword).length + (if ([] : List Keyword).isEmpty then 0 else 1) < 30)) = true := by rfl)
    (hline : (apos.endLine == cpos.line) = true := by rfl) (hs : starEach (e :: es) X.env = (false, eval e X.env) :: starEach es X.env := by rfl) (hplain : (backTo cpos (starEach es X.env)).any (·.1) = false := by rfl) :
    PE X (.Call (.Attribute o "append" apos) (e :: es) [] cpos) (eApp te ta) :=
  pe_imp (pe_bm PySem.F.plainAttrs_list PySem.F.slot_list_append PySem.F.type_list_append mt_append (pe_mo ho) ha hbase hfew hline hs hplain) fun σ H Q q =>
    ⟨_, q, fun x H1 ⟨l, e1, ⟨xs, hl⟩, q1⟩ => by subst e1; exact ⟨.inl ⟨rfl, _, .inl (.inl hl)⟩, q1⟩⟩
end

/-! ### for, over a list or a tuple; over a range -/
/-- what is walked stays as it is -/
def Stays (S : Sta) (a : Addr) (xs : List V) (R : Nat → Hp → Prop) : Prop := (∀ i H, i ≤ xs.length → R i H → RdS S H a (.lst xs)) ∨ (∀ i H, i ≤ xs.length → R i H → RdS S H a (.tup xs))
def iSeq (K : PySem.W.Frag) (te : TE) : TI := fun σ H R => te σ H fun x H1 => ∃ a, x = .ref a ∧ (((∃ xs, SqL K H1 a xs) ∧ R (Itl K a) H1) ∨ ((∃ xs, SqT K H1 a xs) ∧ R (Itt K a) H1))
def sFor (S : Sta) (te : TE) (g : TG) (tb : TS) : TS := fun D σ H => te σ H fun x H1 => ∃ a xs, x = .ref a ∧ ∃ Pv : Nat → L2.St → Hp → Prop, Pv 0 σ H1 ∧ Stays S a xs (fun i H => ∃ σ, Pv i σ H) ∧
  (∀ i y σ H, xs[i]? = some y → Pv i σ H → g y σ H fun σ' H' => tb ⟨Pv (i + 1), D.rt, D.nx, Pv (i + 1)⟩ σ' H') ∧ ∀ σ H, Pv xs.length σ H → D.nx σ H
def sForR (lo : Option TE) (hi : TE) (g : TG) (tb : TS) : TS := fun D σ H =>
  let body : Int → Int → L2.St → Hp → Prop := fun lo hi σ1 H1 => (-(2 ^ 62) ≤ lo ∧ lo < 2 ^ 62 ∧ -(2 ^ 62) ≤ hi ∧ hi < 2 ^ 62) ∧ ∃ Pv : Nat → L2.St → Hp → Prop, Pv 0 σ1 H1 ∧
    (∀ (i : Nat) σ H, lo + i < hi → Pv i σ H → g (.int (lo + i)) σ H fun σ' H' => tb ⟨Pv (i + 1), D.rt, D.nx, Pv (i + 1)⟩ σ' H') ∧ ∀ σ H, Pv (hi - lo).toNat σ H → D.nx σ H
  match lo with
  | none => hi σ H fun y H1 => ∃ j, y = .int j ∧ body 0 j σ H1
  | some lo => lo σ H fun x H1 => hi σ H1 fun y H2 => ∃ i j, x = .int i ∧ y = .int j ∧ body i j σ H2
section
variable {X : Cx} {tg l a b : Expr} {te ta tb' : TE} {g : TG} {tb : TS} {body : List Stmt} {pos p : Pos}
theorem pi_seq (hl : PE X l te) : PI X tg l (iSeq X.K te) := by
  refine ⟨fun pins s σ H R I h => ?_⟩
  refine thn (hl.run pins s σ H _ I h) fun v s1 ⟨x, H1, I1, r1, q1⟩ => ?_
  obtain ⟨a, e, q⟩ := q1
  subst e
  cases r1
  have fp : ∀ b ∈ [s1.heap.objs.size], ∀ {s2 : Shared} , Inv X pins σ H1 s2 → s2.heap.objs.size = s1.heap.objs.size → FpOk X pins H1 b := fun b hb s2 I2 hs => by
    have e : b = s1.heap.objs.size := by simpa using hb
    subst e
    exact I1.fpOk (Nat.le_refl _) (I1.hok.fresh (Nat.le_refl _))
  rcases q with ⟨⟨xs, hq⟩, q⟩ | ⟨⟨xs, hq⟩, q⟩
  · obtain ⟨its, rv, p, hz⟩ := I1.list hq
    refine wpAny_pyIter_list p.isList ?_
    refine ⟨s1.heap.objs.size, [s1.heap.objs.size], _, _, H1, rfl, I1.kept (t' := s1.toks) fun b o e => Heap.get?_push_of_some _ e, turn_list a _, ⟨_, Heap.get?_push_size _ rfl, rfl, rfl⟩, fun b hb => fp b hb I1 rfl, q⟩
  · obtain ⟨its, rv, p, hz⟩ := I1.tuple hq
    refine wpAny_pyIter_tuple (show s1.heap.IsTuple a its.toArray from p) ?_
    refine ⟨s1.heap.objs.size, [s1.heap.objs.size], _, _, H1, rfl, I1.kept (t' := s1.toks) fun b o e => Heap.get?_push_of_some _ e, turn_tuple a _, ⟨_, Heap.get?_push_size _ rfl, rfl, rfl⟩, fun b hb => fp b hb I1 rfl, q⟩
theorem ps_forSeq {S : Sta} (st : S = SK X.K) (hp : PassesOwn (model X.prog X.w) X.A X.env X.xe) (hc : X.calm = true) (hl : PE X l te) (hg : PG X tg g) (hb : PSs X body tb) (hs : ∀ x, foldedSetIterable l X.env x = pure x := by intro _; rfl) :
    PS X (.For tg l body [] pos) (sFor S te g tb) :=
  ps_imp (ps_for hp hc (pi_seq (pe_mo hl)) hg hb hs) fun D σ H q => ⟨_, q, fun x H1 ⟨a, xs, e, Pv, h0, hst, ht, hd⟩ => by
    refine ⟨a, e, ?_⟩
    rcases hst with z | z
    · exact .inl ⟨⟨xs, sqL st (z 0 H1 (Nat.zero_le _) ⟨σ, h0⟩)⟩, for_list (K := X.K) (a := a) (xs := xs) Pv h0 (fun i σ H hi p => sqL st (z i H hi ⟨σ, p⟩)) ht hd⟩
    · exact .inr ⟨⟨xs, sqT st (z 0 H1 (Nat.zero_le _) ⟨σ, h0⟩)⟩, for_tup (K := X.K) (a := a) (xs := xs) Pv h0 (fun i σ H hi p => sqT st (z i H hi ⟨σ, p⟩)) ht hd⟩⟩
theorem ps_forR1 (hp : PassesOwn (model X.prog X.w) X.A X.env X.xe) (hc : X.calm = true) (hgl : Gl X "range") (hm : X.mg "range" = none) (ha : PE X a ta) (hg : PG X tg g) (hb : PSs X body tb) (hs : starEach [a] X.env = (false, eval a X.env) :: starEach [] X.env := by rfl)
    (hs' : ∀ x, foldedSetIterable (.Call (.Name "range" p) [a] [] pos2) X.env x = pure x := by intro _; rfl) :
    PS X (.For tg (.Call (.Name "range" p) [a] [] pos2) body [] pos) (sForR none ta g tb) :=
  ps_imp (ps_for hp hc (pi_range1 hgl hm (pa_cons (pe_mo ha) pa_nil hs) hs) hg hb hs') fun D σ H q => ⟨_, q, fun y H1 ⟨j, e, ⟨_, _, h1, h2⟩, Pv, h0, ht, hd⟩ => by
    subst e
    refine ⟨j, rfl, h1, h2, for_range (lo := 0) (n := j.toNat) Pv h0 (fun i σ H hi p => ht i σ H (by omega) p) fun σ H p => hd σ H (by rw [Int.sub_zero]; exact p)⟩⟩
theorem ps_forR2 (hp : PassesOwn (model X.prog X.w) X.A X.env X.xe) (hc : X.calm = true) (hgl : Gl X "range") (hm : X.mg "range" = none) (ha : PE X a ta) (hb' : PE X b tb') (hg : PG X tg g) (hb : PSs X body tb) (hs : starEach [a, b] X.env = (false, eval a X.env) :: starEach [b] X.env := by rfl) (hs2 : starEach [b] X.env = (false, eval b X.env) :: starEach [] X.env := by rfl)
    (hs' : ∀ x, foldedSetIterable (.Call (.Name "range" p) [a, b] [] pos2) X.env x = pure x := by intro _; rfl) :
    PS X (.For tg (.Call (.Name "range" p) [a, b] [] pos2) body [] pos) (sForR (some ta) tb' g tb) :=
  ps_imp (ps_for hp hc (pi_range2 hgl hm (pa_cons (pe_mo ha) (pa_cons (pe_mo hb') pa_nil hs2) hs) (hs.trans (by rw [hs2]; rfl)) hs2) hg hb hs') fun D σ H q => ⟨_, q, fun x H1 q1 => ⟨_, q1, fun y H2 ⟨i, j, e, e', ⟨h1, h2, h3, h4⟩, Pv, h0, ht, hd⟩ => by
    subst e e'
    exact ⟨i, j, rfl, ⟨h1, h2, h3, h4⟩, for_range (lo := i) (n := (j - i).toNat) Pv h0 (fun k σ H hi p => ht k σ H (by omega) p) hd⟩⟩⟩
end

/-! ### list comprehensions -/
def eLc (S : Sta) (te : TE) (g : TG) (tt : TT) (tel : TE) (vs : List Nat) : TE := fun σ H Q => te σ H fun x H1 => ∃ a xs, x = .ref a ∧ ∃ k : Bool, RdS S H1 a (if k then .lst xs else .tup xs) ∧ ∀ D, H1 D = none → ∃ Pv : Nat → Hp → Prop, Pv 0 (upd H1 D (.lst [])) ∧ (∀ i H, i ≤ xs.length → Pv i H → RdS S H a (if k then .lst xs else .tup xs)) ∧
  (∀ i y H, xs[i]? = some y → Pv i H → g y (wipe σ vs) H fun σ2 H2 => wipe σ2 vs = wipe σ vs ∧ tt σ2 H2 fun b H3 => if b = true then tel σ2 H3 fun z H4 => ∃ acc, H4 D = some (.lst acc) ∧ acc.length < sizeLine ∧ Pv (i + 1) (upd H4 D (.lst (acc ++ [z]))) else Pv (i + 1) H3) ∧
  ∀ H, Pv xs.length H → Q (.ref D) H
def eLcR (lo : Option TE) (hi : TE) (g : TG) (tt : TT) (tel : TE) (vs : List Nat) : TE := fun σ H Q =>
  let body : Int → Int → Hp → Prop := fun lo hi H1 => (-(2 ^ 62) ≤ lo ∧ lo < 2 ^ 62 ∧ -(2 ^ 62) ≤ hi ∧ hi < 2 ^ 62) ∧ ∀ D, H1 D = none → ∃ Pv : Nat → Hp → Prop, Pv 0 (upd H1 D (.lst [])) ∧
    (∀ (i : Nat) H, lo + i < hi → Pv i H → g (.int (lo + i)) (wipe σ vs) H fun σ2 H2 => wipe σ2 vs = wipe σ vs ∧ tt σ2 H2 fun b H3 => if b = true then tel σ2 H3 fun z H4 => ∃ acc, H4 D = some (.lst acc) ∧ acc.length < sizeLine ∧ Pv (i + 1) (upd H4 D (.lst (acc ++ [z]))) else Pv (i + 1) H3) ∧
    ∀ H, Pv (hi - lo).toNat H → Q (.ref D) H
  match lo with
  | none => hi σ H fun y H1 => ∃ j, y = .int j ∧ body 0 j H1
  | some lo => lo σ H fun x H1 => hi σ H1 fun y H2 => ∃ i j, x = .int i ∧ y = .int j ∧ body i j H2
section
variable {X : Cx} {tg l a b elt : Expr} {ifs : List Expr} {te ta tb' tel : TE} {tt : TT} {g : TG} {scope : Scope} {own : List (Str × Nat)} {pos p pos2 spos py : Pos}
/-- what a block of a comprehension asks -/
structure Blk (X : Cx) (scope : Scope) (tg elt : Expr) (ifs : List Expr) (g : TG) (tt : TT) (tel : TE) : Prop where
  hg : ∀ (s : Shared) (H : Hp) (C : Addr) (cl : List (Str × Addr)) (fp : List Addr), PG (X.blk s H scope (compEnvC scope cl C X.env) fp) tg g
  ht : ∀ (s : Shared) (H : Hp) (C : Addr) (cl : List (Str × Addr)) (fp : List Addr), PTs (X.blk s H scope (compEnvC scope cl C X.env) fp) ifs tt
  he : ∀ (s : Shared) (H : Hp) (C : Addr) (cl : List (Str × Addr)) (fp : List Addr), PE (X.blk s H scope (compEnvC scope cl C X.env) fp) elt tel
theorem lc_of {K : PySem.W.Frag} {S : Sta} (st : S = SK K) {vs : List Nat} {σ : L2.St} {H : Hp} {Q : VK} (q : eLc S te g tt tel vs σ H Q) : tLc (iSeq K (mo te)) g tt tel vs σ H Q := ⟨_, q, fun x H1 ⟨a, xs, e, k, rd, q⟩ => by
    refine ⟨a, e, ?_⟩
    cases k with
    | true =>
      refine .inl ⟨⟨xs, sqL st rd⟩, fun D hD => ?_⟩
      obtain ⟨Pv, h0, z, ht, hd⟩ := q D hD
      exact lc_list (K := K) (a := a) (xs := xs) Pv h0 (fun i H hi p => sqL st (z i H hi p)) ht hd
    | false =>
      refine .inr ⟨⟨xs, sqT st rd⟩, fun D hD => ?_⟩
      obtain ⟨Pv, h0, z, ht, hd⟩ := q D hD
      exact lc_tup (K := K) (a := a) (xs := xs) Pv h0 (fun i H hi p => sqT st (z i H hi p)) ht hd⟩
theorem pe_lcSeq {S : Sta} (st : S = SK X.K) (hc : X.calm = true) (hN : X.N.Nodup) (hl : PE X l te) (ok : BlkOk X.N X.env.scope scope own) (B : Blk X scope tg elt ifs g tt tel) (hs : ∀ x, foldedSetIterable l X.env x = pure x := by intro _; rfl) :
    PE X (.ListComp elt [⟨tg, l, ifs, 0⟩] scope pos) (eLc S te g tt tel (own.map (·.2))) := pe_imp (pe_lc hc hN (pi_seq (pe_mo hl)) ok B.hg B.ht B.he hs) fun _ _ _ q => lc_of st q
theorem ps_lcSeq {S : Sta} {i : Nat} {y : Str} (st : S = SK X.K) (hc : X.calm = true) (hN : X.N.Nodup) (hy : X.N[i]? = some y) (hyl : X.env.scope.names.lookup y = some .local)
    (hsw : swapsWith (.ListComp elt [⟨tg, l, ifs, 0⟩] scope pos) (some (.Name y py)) spos.line X.env = pure true) (hl : PE X l te) (ok : BlkOk X.N X.env.scope scope own) (B : Blk X scope tg elt ifs g tt tel) (hs : ∀ x, foldedSetIterable l X.env x = pure x := by intro _; rfl) :
    PS X (.Assign [.Name y py] (.ListComp elt [⟨tg, l, ifs, 0⟩] scope pos) spos) (tAsg (eLc S te g tt tel (own.map (·.2))) (gName i)) :=
  ps_imp (ps_setLc hc hN hy hyl hsw (pi_seq (pe_mo hl)) ok B.hg B.ht B.he hs) fun _ _ _ q => lc_of st q
theorem lcR1_of {vs : List Nat} {σ : L2.St} {H : Hp} {Q : VK} (q : eLcR none ta g tt tel vs σ H Q) : tLc (iRng1 (tCons (mo ta) tNil)) g tt tel vs σ H Q := ⟨_, q, fun y H1 ⟨j, e, ⟨_, _, h1, h2⟩, q⟩ => by
    subst e
    refine ⟨j, rfl, h1, h2, fun D hD => ?_⟩
    obtain ⟨Pv, h0, ht, hd⟩ := q D hD
    exact lc_range (lo := 0) (n := j.toNat) Pv h0 (fun i H hi p => ht i H (by omega) p) fun H p => hd H (by rw [Int.sub_zero]; exact p)⟩
theorem pe_lcR1 (hc : X.calm = true) (hN : X.N.Nodup) (hgl : Gl X "range") (hm : X.mg "range" = none) (ha : PE X a ta) (ok : BlkOk X.N X.env.scope scope own) (B : Blk X scope tg elt ifs g tt tel) (hs : starEach [a] X.env = (false, eval a X.env) :: starEach [] X.env := by rfl)
    (hs' : ∀ x, foldedSetIterable (.Call (.Name "range" p) [a] [] pos2) X.env x = pure x := by intro _; rfl) :
    PE X (.ListComp elt [⟨tg, .Call (.Name "range" p) [a] [] pos2, ifs, 0⟩] scope pos) (eLcR none ta g tt tel (own.map (·.2))) := pe_imp (pe_lc hc hN (pi_range1 hgl hm (pa_cons (pe_mo ha) pa_nil hs) hs) ok B.hg B.ht B.he hs') fun _ _ _ q => lcR1_of q
theorem ps_lcR1 {i : Nat} {y : Str} (hc : X.calm = true) (hN : X.N.Nodup) (hy : X.N[i]? = some y) (hyl : X.env.scope.names.lookup y = some .local) (hgl : Gl X "range") (hm : X.mg "range" = none)
    (hsw : swapsWith (.ListComp elt [⟨tg, .Call (.Name "range" p) [a] [] pos2, ifs, 0⟩] scope pos) (some (.Name y py)) spos.line X.env = pure true) (ha : PE X a ta) (ok : BlkOk X.N X.env.scope scope own) (B : Blk X scope tg elt ifs g tt tel)
    (hs : starEach [a] X.env = (false, eval a X.env) :: starEach [] X.env := by rfl) (hs' : ∀ x, foldedSetIterable (.Call (.Name "range" p) [a] [] pos2) X.env x = pure x := by intro _; rfl) :
    PS X (.Assign [.Name y py] (.ListComp elt [⟨tg, .Call (.Name "range" p) [a] [] pos2, ifs, 0⟩] scope pos) spos) (tAsg (eLcR none ta g tt tel (own.map (·.2))) (gName i)) :=
  ps_imp (ps_setLc hc hN hy hyl hsw (pi_range1 hgl hm (pa_cons (pe_mo ha) pa_nil hs) hs) ok B.hg B.ht B.he hs') fun _ _ _ q => lcR1_of q
end

/-! ### in, by an own __contains__ -/
section
open PySem.W
variable {prog : Program} {w : World} {A : Around} {E : Value → Shared → Prop} {s : Shared} {K : Frag} {x C f : Addr} {ox : Obj} {od : Option Obj}
theorem unlessNone_K {M : Model} {name : Str} {args : List Value} {refuse : Sem Value} {Q : Option Value → Shared → Prop} (X : K.In s.heap) (I : InstAt s.heap x ox C od) (hs : findIn K (.ref C) name = some (some (.ref f))) (hf : isFn K (.ref f) = true)
    (h : wpAny M A (call (.ref f) (.ref x :: args)) (fun v => Q (some v)) E s) : wpAny M A (callSpecialUnlessNone? (.ref x) name args refuse) Q E s := by
  simp only [callSpecialUnlessNone?]
  refine wpAny_bind (wpAny_bind (I.type.here ((looks_findIn X hs).here ?_)))
  refine wpAny_holding (wpAny_bind ((bind_fn X _ (beq_iff_eq.mp hf)).here ?_))
  show wpAny _ _ (if (Value.ref f == Value.none) = true then _ else _) _ _ _
  rw [if_neg (by simp)]
  exact wpAny_bind (wpAny_mono h (fun v s' h' => wpAny_pure h') fun _ _ h' => h')
theorem contains_K {v : Value} {Q : Bool → Shared → Prop} (X : K.In s.heap) (I : InstAt s.heap x ox C od) (hs : findIn K (.ref C) "__contains__" = some (some (.ref f))) (hf : isFn K (.ref f) = true)
    (h : wpAny (model prog w) A (call (.ref f) [.ref x, v]) (PySem.W.BoolBack Q) E s) : wpAny (model prog w) A (contains (.ref x) v) Q E s := by
  unfold contains
  refine wpAny_holding ?_
  show wpAny _ _ (specialOf (.ref x) (Str.ofString "__contains__") >>= _) _ _ _
  refine wpAny_bind (wpAny_bind (I.type.here ((looks_findIn X hs).here ?_)))
  show wpAny _ _ (if (some (Value.ref f) == some Value.none) = true then _ else _) _ _ _
  rw [if_neg (by simp)]
  refine wpAny_bind (unlessNone_K X I hs hf (wpAny_mono h (fun r s' hr => ?_) fun _ _ y => y))
  cases r <;> first | exact hr.elim | skip
  exact wpAny_truthy_bool hr
end
section
variable {X : Cx} {CX : CXT} {C f : Addr} {fd : FuncData} {ps : List Str} {sp : Sp} {E : XK} {k : Nat}
/-- y in x, x an instance of the class at C, by its __contains__ -/
def rInOwn (C : Addr) (neg : Bool) (sp : Sp) (E : XK) : R2 := fun y x H Q => ∃ a dx fs, x = .ref a ∧ H a = some (.ins C dx fs) ∧ sp [x, y] H (fun v H' => ∃ b, v = .bl b ∧ Q (.bl (if neg then !b else b)) H') E
theorem in_own {pins : List (Addr × Obj)} {σ : L2.St} {H : Hp} {s : Shared} {a dx : Addr} {fs : List (Str × V)} {y : V} {u : Value} {Q : Bool → Hp → Prop} (F : FnOk X.prog X.w X.K X.mg X.base CX k f fd ps sp) (hm : Meth X.K C "__contains__" f) (hr : Room k X.A) (hb : Binds X.K fd ps []) (hx : Passes CX X E)
    (I : Inv X pins σ H s) (ry : RelV y u) (ha : H a = some (.ins C dx fs)) (h : sp [.ref a, y] H (fun v H' => ∃ b, v = .bl b ∧ Q b H') E) :
    wpAny (model X.prog X.w) X.A (contains (.ref a) u) (TP X pins σ Q) X.xe s := by
  obtain ⟨mA, J, _⟩ := ins_get I.hok ha
  obtain ⟨od, J, _⟩ := J.look
  refine contains_K I.kIn J hm.at_ hm.fn (thn (run_fn (us := [.ref a, u]) (vs := [.ref a, y]) (dvs := []) (ds := []) F hr hb .nil hx I (.cons rfl (.cons ry .nil)) h) fun v s' q => ?_)
  obtain ⟨z, H', I', rz, b, ez, q⟩ := q
  subst ez
  cases rz
  exact ⟨H', I', q⟩
theorem o_inOwn (F : FnOk X.prog X.w X.K X.mg X.base CX k f fd ps sp) (hm : Meth X.K C "__contains__" f) (hr : Room k X.A) (hb : Binds X.K fd ps []) (hx : Passes CX X E) : OpR X (compareOp .In) (rInOwn C false sp E) := fun pins s σ H y x u v Q I ry rx h => by
  obtain ⟨a, dx, fs, e, ha, q⟩ := h
  subst e
  cases rx
  show wpAny _ _ (contains (.ref a) u >>= fun b => pure (Value.bool b)) _ _ _
  refine wpAny_bind (thn (in_own F hm hr hb hx I ry ha (Q := fun b H' => Q (.bl b) H') q) fun b s' hq => ?_)
  obtain ⟨H', I', q⟩ := hq
  exact wpAny_pure ⟨.bl b, H', I', rfl, q⟩
theorem o_notInOwn (F : FnOk X.prog X.w X.K X.mg X.base CX k f fd ps sp) (hm : Meth X.K C "__contains__" f) (hr : Room k X.A) (hb : Binds X.K fd ps []) (hx : Passes CX X E) : OpR X (compareOp .NotIn) (rInOwn C true sp E) := fun pins s σ H y x u v Q I ry rx h => by
  obtain ⟨a, dx, fs, e, ha, q⟩ := h
  subst e
  cases rx
  show wpAny _ _ (contains (.ref a) u >>= fun b => pure (Value.bool (!b))) _ _ _
  refine wpAny_bind (thn (in_own F hm hr hb hx I ry ha (Q := fun b H' => Q (.bl (!b)) H') q) fun b s' hq => ?_)
  obtain ⟨H', I', q⟩ := hq
  exact wpAny_pure ⟨.bl (!b), H', I', rfl, q⟩
end

/-! ### classes: constants, classmethods, a class held in a name -/
def eCon (v : V) : TE := fun _ H Q => Q v H
/-- the argument's heap, then a new instance and __init__ (tMake), the class in slot i -/
def eMakeL (i : Nat) (C : Addr) (sp : Sp) (dvs : List V) (E : XK) (t : TA) : TE := fun σ H Q => σ[i]? = some (some (.ref C)) ∧ tMake C sp dvs E t σ H Q
section
variable {X : Cx} {CX : CXT} {C f p g : Addr} {mc u : Value} {fd : FuncData} {ps : List Str} {sp : Sp} {E : XK} {k i : Nat} {x y m : Str} {v : V} {pos pos2 p2 apos : Pos} {e : Expr} {es : List Expr} {t : TA} {dvs : List V} {ds : List Value}
theorem pe_clsName (hg : Gl X x) (hm : X.mg x = some (.ref C)) (hdb : (x == ("__debug__" : Str)) = false := by decide) : PE X (.Name x p2) (eCon (.ref C)) := pe_imp (pe_glob hg hm (v := .ref C) rfl hdb) fun _ _ _ q => q
theorem pe_clsCon (r : ClX.CRead X.K C mc) (c : ClX.CVal X.K C mc y v u) (hg : Gl X x) (hm : X.mg x = some (.ref C)) (hdb : (x == ("__debug__" : Str)) = false := by decide)
    (hb : attributeBase (.Name x p2) y X.env (eval (.Name x p2) X.env) = eval (.Name x p2) X.env := by rfl) : PE X (.Attribute (.Name x p2) y pos) (eCon v) :=
  pe_imp (ClX.pe_cval (pe_clsName hg hm hdb) hb) fun _ _ _ q => ⟨C, mc, v, u, rfl, r, c, q⟩
theorem pe_makeL (M : Mk X.K C f) (F : FnOk X.prog X.w X.K X.mg X.base CX k f fd ps sp) (hr : Room (k + 1) X.A) (hN : X.N[i]? = some x) (hv : Vis X.env.scope x) (hb : Binds X.K fd ps ds) (hd : Vals dvs ds) (hx : Passes CX X E)
    (ha : PA X (e :: es) t) (hdb : (x == ("__debug__" : Str)) = false := by decide) (hcd : (x == ("__classdict__" : Str)) = false := by decide) (he : starEach (e :: es) X.env = (false, eval e X.env) :: starEach es X.env := by rfl) (hpl : (backTo pos (starEach es X.env)).any (·.1) = false := by rfl) :
    PE X (.Call (.Name x p2) (e :: es) [] pos) (eMakeL i C sp dvs E t) := by
  refine ⟨fun pins s σ H Q I h => ?_⟩
  obtain ⟨hs, ht⟩ := h
  refine wpAny_Call_Name_kw (thn ((pe_var (pos := p2) hN hv hdb hcd).run pins s σ H (fun v H1 => v = .ref C ∧ H1 = H) I ⟨.ref C, hs, rfl, rfl⟩) fun u s1 ⟨v, H1, I1, r1, q1⟩ => ?_)
  obtain ⟨rfl, rfl⟩ := q1
  cases r1
  refine PySem.W.callWith_K (h₀ := X.base) I.ok.mod.kin M.kp (thn (ha.run pos pins s1 σ _ _ I1 ht) fun us s2 ⟨vs, H2, I2, r, q⟩ => ⟨I2.kIn, ?_⟩) he hpl
  exact run_make M F hr hb hd hx I2 r q
end

/-- a module's constant -/
theorem pe_constI {X : Cx} {x : Str} {i : Int} {t : Tok} {p2 : Pos} (hm : X.mg x = some (.int i t)) (hg : Gl X x) (hdb : (x == ("__debug__" : Str)) = false := by decide) : PE X (.Name x p2) (tC (.int i)) := pe_imp (pe_glob hg hm (v := .int i) ⟨t, rfl⟩ hdb) fun _ _ _ q => q
def rAug : TIp := ipI fun i j => i + j
def rAugS : TIp := ipI fun i j => i - j
theorem ip_addI {X : Cx} : PIp X .Add rAug := ip_add
def rInAdd : V → V → Hp → VK → Prop := fun x y H Q => ∃ i j, x = .int i ∧ y = .int j ∧ Q (.int (i + j)) H
def rInSub : V → V → Hp → VK → Prop := fun x y H Q => ∃ i j, x = .int i ∧ y = .int j ∧ Q (.int (i - j)) H
theorem in_addI {X : Cx} : InOp X .Add rInAdd := in_add
theorem in_subI {X : Cx} : InOp X .Sub rInSub := in_sub
theorem ip_subI {X : Cx} : PIp X .Sub rAugS := ip_sub
def spRaw (sp : Sp) : Sp := fun vs H Q E => sp (vs ++ []) H Q E
/-! ### a def's promise, by its own body -/
def start (n : Nat) (vs : List V) : L2.St := vs.map some ++ List.replicate (n - vs.length) none
/-- n slots, m parameters -/
def spB (n m : Nat) (t : XK → TS) : Sp := fun vs H Q E => vs.length = m ∧ t E { nx := fun _ H' => Q .non H', rt := Q } (start n vs) H
theorem start_eq (N : List Str) (vs : List V) : L2.start N vs = start N.length vs := rfl
theorem passE {P : Program} {w : World} {K : PySem.W.Frag} {mg : Str → Option Value} {base : Heap} {N : List Str} {qual : Str} {scope : Scope} {f : Addr} {cd : Value} {A : Around} {outer : List Env} {s : Shared} {H : Hp} {E : XK} :
    Passes (L2.CX P w) (cxOf (L2.CX P w) P w K mg base N qual scope f cd A outer s H E) E := passes_call (takes_of rfl rfl rfl rfl) fun _ _ _ _ h => h
/-- where nothing is let out -/
theorem passN {X : Cx} : Passes (L2.CX X.prog X.w) X E0 := fun _ _ _ _ _ _ _ h => by
  obtain ⟨_, _, _, _, _, _, _, _, _, _, _, _, z⟩ := h
  exact z.elim
theorem ok_body {P : Program} {w : World} {K : PySem.W.Frag} {mg : Str → Option Value} {base : Heap} {x qual : Str} {st : Stmt} {f : Addr} {fd : FuncData} {N ps : List Str} {n m k : Nat} {t : XK → TS} (F : Fun K x qual st f fd) (S : FnScope N ps (defScope st)) (hn : N.length = n) (hm : ps.length = m)
    (h : ∀ (cdv : Value) (A : Around) (outer : List Env) (s : Shared) (H : Hp) (E : XK), Room k (A.deeper (envOfC qual (defScope st) s.heap.objs.size f cdv)) → PSs (cxOf (L2.CX P w) P w K mg base N qual (defScope st) f cdv A outer s H E) (defBody st) (t E)) :
    FnOk P w K mg base (L2.CX P w) (k + 1) f fd ps (spB n m t) := by
  subst hn
  subst hm
  exact F.okX S (fun vs H Q E q => q.1) fun cdv A outer s H vs Q E hr q => ⟨t E, h cdv A outer s H E hr, q.2⟩
/-! ### chains of comparisons, as tests -/
abbrev TC := L2.St → V → Hp → VK → Prop
def cLast (r : R2) (tb : TE) : TC := fun σ x H Q => tb σ H fun y H1 => r x y H1 Q
def cLink (r : R2) (tb : TE) (tl : TC) : TC := fun σ x H Q => tb σ H fun y H1 => r x y H1 fun z H2 => ∃ k, z = .bl k ∧ (if k = true then tl σ y H2 Q else Q (.bl false) H2)
def tChn (ta : TE) (tl : TC) : TE := fun σ H Q => ta σ H fun x H1 => tl σ x H1 Q
structure PCh (X : Cx) (ops : List CmpOp) (es : List Expr) (tl : TC) : Prop where
  run : ∀ (pos : Pos) (pins : List (Addr × Obj)) (s : Shared) (σ : L2.St) (H : Hp) (x : V) (v : Value) (Q : Bool → Hp → Prop), Inv X pins σ H s → RelV x v → tl σ x H (fun z H' => ∃ k, z = .bl k ∧ Q k H') → wpAny (model X.prog X.w) X.A (testChain pos v ops (evalEach es X.env)) (TP X pins σ Q) X.xe s
section
variable {X : Cx} {a b e e' : Expr} {es : List Expr} {ta tb : TE} {tl : TC} {r : R2} {op op' : CmpOp} {ops : List CmpOp} {pos : Pos}
theorem pch_last (ho : OpR X (compareOp op) r) (hb : PE X b tb) : PCh X [op] [b] (cLast r tb) :=
  ⟨fun pos pins s σ H x v Q I rx q => test_last (thn (hb.run pins s σ H _ I q) fun u s1 ⟨y, H1, I1, r1, q1⟩ => thn (ho pins s1 σ H1 x y v u _ I1 rx r1 q1) fun d s2 ⟨z, H2, I2, r2, k, e, q2⟩ => by
    subst e
    cases r2
    exact wpAny_truthy_bool ⟨H2, I2, q2⟩)⟩
theorem pch_link (ho : OpR X (compareOp op) r) (hb : PE X b tb) (hl : PCh X (op' :: ops) (e :: es) tl) : PCh X (op :: op' :: ops) (b :: e :: es) (cLink r tb tl) :=
  ⟨fun pos pins s σ H x v Q I rx q => test_link (thn (hb.run pins s σ H _ I q) fun u s1 ⟨y, H1, I1, r1, q1⟩ => thn (ho pins s1 σ H1 x y v u _ I1 rx r1 q1) fun d s2 ⟨z, H2, I2, r2, k, e, q2⟩ => by
    subst e
    cases r2
    refine wpAny_truthy_bool ?_
    cases k with
    | false =>
      obtain ⟨k', e', q'⟩ := q2
      cases e'
      exact ite_ff ⟨H2, I2, q'⟩
    | true => exact ite_tt (hl.run pos pins s2 σ H2 y u Q I2 r1 q2))⟩
theorem pt_chn (ha : PE X a ta) (hl : PCh X (op :: op' :: ops) (e :: e' :: es) tl) (hm : lastMarks (op :: op' :: ops) (e :: e' :: es) = false := by with_unfolding_all rfl) : PT X (.Compare a (op :: op' :: ops) (e :: e' :: es) pos) (tTest (tChn ta tl)) :=
  ⟨fun pins s σ H Q I h => isTrue_chain (thn (ha.run pins s σ H _ I h) fun v s1 ⟨x, H1, I1, r1, q1⟩ => hl.run pos pins s1 σ H1 x v Q I1 r1 q1) hm⟩
/-! ### x.bit_length() -/
def rBits : V → Hp → VK → Prop := fun x H Q => ∃ i, x = .int i ∧ Q (.int (Builtin.Int.intBits i : Nat)) H
theorem pe_bitsU {o : Expr} {to : TE} {apos pos : Pos} (ho : PE X o to) (hbase : attributeBase o "bit_length" X.env (eval o X.env) = eval o X.env := by rfl) (hline : (apos.endLine == pos.line) = true := by rfl) : PE X (.Call (.Attribute o "bit_length" apos) [] [] pos) (tUn rBits to) := pe_bits ho hbase hline
end
end Y

/-! Errors: defs that say super(), own exceptions, try with several clauses. -/
namespace Y
open PySem PySem.Spec PyProof.Rows L2
open PySem.W (ksEnv ksFn)

/-! ### statements under a known activation -/
structure PSA (X : Cx) (c : Code) (st : Stmt) (t : TS) : Prop where
  run : ∀ (pins : List (Addr × Obj)) (s : Shared) (σ : L2.St) (H : Hp) (D : Ends), Inv X pins σ H s → t D σ H → _root_.PySem.wpAt (model X.prog X.w) X.A c (exec st X.env) (SP X pins D) X.xe s
structure PSsA (X : Cx) (c : Code) (st : List Stmt) (t : TS) : Prop where
  run : ∀ (pins : List (Addr × Obj)) (s : Shared) (σ : L2.St) (H : Hp) (D : Ends), Inv X pins σ H s → t D σ H → _root_.PySem.wpAt (model X.prog X.w) X.A c (execs st X.env) (SP X pins D) X.xe s
section
variable {X : Cx} {c : Code} {st : Stmt} {rest body orelse : List Stmt} {t u : TS} {tc : TT} {test : Expr} {pos : Pos}
theorem psa_of (h : PS X st t) : PSA X c st t := ⟨fun pins s σ H D I q => wpAt_of_wpAny (h.run pins s σ H D I q)⟩
theorem pssa_of (h : PSs X rest t) : PSsA X c rest t := ⟨fun pins s σ H D I q => wpAt_of_wpAny (h.run pins s σ H D I q)⟩
theorem pssa_cons (h : PSA X c st t) (r : PSsA X c rest u) : PSsA X c (st :: rest) (tSeq t u) := ⟨fun pins s σ H D I q => by
  refine ks_wpAt_execs_cons (ks_wpAt_mono (h.run pins s σ H { D with nx := u D } I q) (fun f s1 hs => ?_) fun _ _ z => z)
  cases f with
  | next =>
    obtain ⟨σ1, H1, I1, q1⟩ := hs
    exact r.run pins s1 σ1 H1 D I1 q1
  | ret v => exact hs
  | brk => exact hs
  | cont => exact hs⟩
theorem pssa_one (h : PSA X c st t) : PSsA X c [st] t := ⟨fun pins s σ H D I q => by
  refine ks_wpAt_execs_cons (ks_wpAt_mono (h.run pins s σ H D I q) (fun f s1 hs => ?_) fun _ _ z => z)
  cases f with
  | next =>
    obtain ⟨σ1, H1, I1, q1⟩ := hs
    exact wpAt_of_wpAny (wpAny_execs_nil ⟨σ1, H1, I1, q1⟩)
  | ret v => exact hs
  | brk => exact hs
  | cont => exact hs⟩
theorem psa_if (hc : PT X test tc) (ha : PSsA X c body t) (hb : PSsA X c orelse u) : PSA X c (.If test body orelse pos) (tIfS tc t u) := ⟨fun pins s σ H D I q => by
  refine ks_wpAt_If (wpAt_of_wpAny (thn (hc.run pins s σ H _ I q) fun b s1 ⟨H1, I1, q1⟩ => ?_))
  cases b with
  | true => exact ha.run pins s1 σ H1 D I1 q1
  | false => exact hb.run pins s1 σ H1 D I1 q1⟩
end

/-! ### a def that closes over __class__ -/
structure FnScS (N P : List Str) (sc : Scope) : Prop where
  kind : sc.kind = .function
  co : sc.isCoroutine = false
  gen : sc.isGenerator = false
  nd : N.Nodup
  pre : N.take P.length = P
  par : ∀ x ∈ P, sc.names.lookup x = some .local
  nocell : ∀ y ∈ sc.names, y.2 ≠ .cell
  free : ∀ y ∈ sc.names, y.2 = .free → y.1 = "__class__"
def cxS (P : Program) (w : World) (K : PySem.W.Frag) (mg : Str → Option Value) (base : Heap) (N : List Str) (qual : Str) (scope : Scope) (f : Addr) (cd : Value) (cc : Addr) (A : Around) (outer : List Env) (s : Shared) (H : Hp) (E : XK) : Cx where
  prog := P
  w := w
  K := K
  mg := mg
  base := base
  A := A.deeper (ksEnv qual scope s.heap.objs.size f cd cc)
  N := N
  s_0 := s
  H_0 := H
  env := ksEnv qual scope s.heap.objs.size f cd cc
  outer := outer
  stack := ksEnv qual scope s.heap.objs.size f cd cc :: outer
  ex := []
  calm := true
  fn := fun _ => false
  pn := []
  xe := fun e s' => wpAny (model P w) (A.deeper (ksEnv qual scope s.heap.objs.size f cd cc)) (leaving (ksEnv qual scope s.heap.objs.size f cd cc) e) (fun _ s'' => L2.CX P w outer H s E e s'') (fun e' s'' => L2.CX P w outer H s E e' s'') s'
theorem lookup_nd {l : List (Str × Value)} {x : Str} {v : Value} (nd : (l.map (·.1)).Nodup) (m : (x, v) ∈ l) : l.lookup x = some v := by
  induction l with
  | nil => cases m
  | cons p r ih =>
    obtain ⟨y, z⟩ := p
    rw [List.map_cons, List.nodup_cons] at nd
    rcases List.mem_cons.mp m with e | m
    · cases e
      simp [List.lookup]
    · have hne : x ≠ y := fun e => nd.1 (by rw [← e]; exact List.mem_map_of_mem (f := (·.1)) m)
      have hb : (x == y) = false := by simpa using hne
      show (match x == y with | true => some z | false => r.lookup x) = some v
      rw [hb]
      exact ih nd.2 m
theorem zip_get {P : List Str} {us : List Value} {i : Nat} {x : Str} {u : Value} (h1 : P[i]? = some x) (h2 : us[i]? = some u) : (x, u) ∈ P.zip us := by
  refine List.mem_of_getElem? (i := i) ?_
  rw [List.getElem?_zip_eq_some]
  exact ⟨h1, h2⟩
theorem zip_keys : ∀ {P : List Str} {us : List Value}, us.length = P.length → (P.zip us).map (·.1) = P
  | [], [], _ => rfl
  | p :: P, u :: us, h => by
    rw [List.zip_cons_cons, List.map_cons, zip_keys (by simpa using h)]
  | [], _ :: _, h => by simp at h
  | _ :: _, [], h => by simp at h
theorem inv_startS {P : Program} {w : World} {K : PySem.W.Frag} {mg : Str → Option Value} {base : Heap} {N ps : List Str} {qual : Str} {scope : Scope} {f cc D : Addr} {cd cl : Value} {cld : Option Addr} {csl : Array (Option Value)} {A : Around} {outer : List Env} {s : Shared} {h1 : Heap} {tk : Nat} {H : Hp} {E : XK} {us : List Value} {vs : List V}
    (S : FnScS N ps scope) (hcc : K.lookup cc = some ⟨cl, cld, .cell (some (.ref D)), csl⟩) (hd : A.handled = none) (e0 : Env0 P w K mg base A outer s H) (hl : vs.length = ps.length) (r : Vals vs us)
    (hns : h1.Ns s.heap.objs.size (fun x => (ps.zip us).reverse.lookup x)) (hk : ∀ b o, s.heap.get? b = some o → h1.get? b = some o) :
    Inv (cxS P w K mg base N qual scope f cd cc A outer s H E) [] (L2.start N vs) H { s with heap := h1, toks := tk } := by
  have hpl : ps.length ≤ N.length := by have := congrArg List.length S.pre; rw [List.length_take] at this; omega
  have noA : ∀ b : Addr, b ∉ (cxS P w K mg base N qual scope f cd cc A outer s H E).ex := fun b z => absurd (show b ∈ ([] : List Addr) from z) (by simp)
  have cells : ∀ (y : Str) (c : Addr), (cxS P w K mg base N qual scope f cd cc A outer s H E).env.cells.lookup y = some c → y = "__class__" ∧ c = cc := fun y c h => by
    have h : ([(("__class__" : Str), cc)] : List (Str × Addr)).lookup y = some c := h
    simp only [List.lookup] at h
    split at h
    · rename_i e
      exact ⟨by simpa using e, (Option.some.inj h).symm⟩
    · cases h
  have bcc := e0.mod.kin _ _ hcc
  have hus : us.length = ps.length := by rw [← r.length]; exact hl
  have ndP : ps.Nodup := by rw [← S.pre]; exact S.nd.sublist (List.take_sublist _ _)
  refine ⟨⟨e0.mod, S.kind, rfl, rfl, Nat.le_refl _, fun y z c h1 h2 => (cells y c h1).1.trans (cells z c h2).1.symm, fun y hy => ?_, fun y c z _ => absurd (show false = true from z) (by simp), fun _ => hd, Around.frames_deeper e0.frames, .inr ⟨rfl, rfl⟩, fun b z => absurd z (noA b), e0.bs, e0.bsz, fun b _ _ => noA b, fun b z => absurd z (noA b), e0.funs, e0.frf⟩,
    rfl, e0.bare, Un.kept hk, ⟨_, hns, fun i y v h1 h2 h3 => ?_⟩, fun y c h => ?_, e0.hok.fresh (Nat.le_refl _), fun y c h => ?_, fun p hp => absurd (show p ∈ ([] : List (Addr × Obj)) from hp) (by simp), e0.hok.kept hk, ?_⟩
  · have hy : scope.names.lookup y = some .cell ∨ scope.names.lookup y = some .free := hy
    rcases hy with hy | hy
    · exact absurd rfl (S.nocell _ (PySem.mem_of_lookup hy))
    · have e := S.free _ (PySem.mem_of_lookup hy) rfl
      have e : y = "__class__" := e
      subst e
      exact ⟨cc, by show List.lookup ("__class__" : Str) [(("__class__" : Str), cc)] = some cc; simp [List.lookup]⟩
  · have hi : i < vs.length := by
      unfold L2.start at h2
      by_cases hi : i < vs.length
      · exact hi
      · rw [List.getElem?_append_right (by simpa using hi), List.getElem?_replicate] at h2
        split at h2 <;> cases h2
    have ha : vs[i]? = some v := by
      unfold L2.start at h2
      rw [List.getElem?_append_left (by simpa using hi), List.getElem?_map] at h2
      cases e : vs[i]? with
      | none => rw [e] at h2; cases h2
      | some a => rw [e] at h2; cases h2; rfl
    obtain ⟨u, hu, rv⟩ := r.get ha
    have hp : ps[i]? = some y := by
      rw [← S.pre, List.getElem?_take_of_lt (by omega)]; exact h1
    refine ⟨u, rv, .inl ⟨S.par y (List.mem_of_getElem? hp), ?_⟩⟩
    show (ps.zip us).reverse.lookup y = some u
    have hk : ((ps.zip us).map (·.1)).Nodup := by rw [zip_keys hus]; exact ndP
    rw [PySem.lookup_reverse_of_nodup _ hk]
    exact lookup_nd hk (zip_get hp hu)
  · obtain ⟨rfl, rfl⟩ := cells y c h
    exact ⟨_, ⟨_, hk _ _ (e0.bs _ _ bcc).1, rfl⟩⟩
  · obtain ⟨rfl, rfl⟩ := cells y c h
    exact (e0.bs _ _ bcc).2
  · unfold L2.start
    show _ = N.length
    rw [List.length_append, List.length_map, List.length_replicate]
    omega
/-- the rule for such a def -/
theorem fn_ofS {P : Program} {w : World} {K : PySem.W.Frag} {mg : Str → Option Value} {base : Heap} {k : Nat} {f cc D : Addr} {name qual : Str} {params : Arguments} {body : List Stmt} {scope : Scope} {dV kV doc pm cdv ct oc cl : Value} {an od cld : Option Addr}
    {osl csl : Array (Option Value)} {N ps : List Str} {sp : Sp} (lk : K.lookup f = some ⟨oc, od, .func (ksFn name qual params body scope dV kV doc pm an cdv ct cc), osl⟩) (hcd : PySem.W.codeIn K cdv qual = true)
    (hcc : K.lookup cc = some ⟨cl, cld, .cell (some (.ref D)), csl⟩) (S : FnScS N ps scope) (len : ∀ vs H Q E, sp vs H Q E → vs.length = ps.length)
    (hbody : ∀ (A : Around) (outer : List Env) (s : Shared) (H : Hp) (vs : List V) (Q : VK) (E : XK), Room k (A.deeper (ksEnv qual scope s.heap.objs.size f cdv cc)) → sp vs H Q E →
      ∃ t, PSsA (cxS P w K mg base N qual scope f cdv cc A outer s H E) (.func body (ksEnv qual scope s.heap.objs.size f cdv cc)) body t ∧ t { nx := fun _ H' => Q .non H', rt := Q } (L2.start N vs) H) :
    FnOk P w K mg base (L2.CX P w) (k + 1) f (ksFn name qual params body scope dV kV doc pm an cdv ct cc) ps sp := by
  refine ⟨len, fun A outer s H args us vs Q E hr e0 hb r hsp => ?_⟩
  have hl := len _ _ _ _ hsp
  have hus : us.length = ps.length := by rw [← r.length]; exact hl
  have KX : K.In s.heap := e0.mod.kin.keeps fun b o e => (e0.bs b o e).1
  have lim : s.heap.NoLimit := e0.mod.nolimit.keeps fun b o e => (e0.bs b o e).1
  have hloc : ∀ x ∈ ps.zip us, scope.names.lookup x.1 = some .local := fun ⟨n, v⟩ hy => S.par n (List.of_mem_zip hy).1
  refine ks_codeAny_call_defAt (fd := ksFn name qual params body scope dV kV doc pm an cdv ct cc) (body := body) (binds := ps.zip us) hr.depth (KX _ _ lk) rfl lim (PySem.W.codeRec_of KX hcd) rfl hb S.nocell hloc (fun h1 hns hk => ?_) S.co S.gen S.kind
  obtain ⟨t, ht, hq⟩ := hbody A outer s H vs Q E (hr.deeper _) hsp
  have I := inv_startS (tk := s.toks + (ps.zip us).length) (f := f) (qual := qual) (cd := cdv) (E := E) S hcc hr.hd e0 hl r hns hk
  refine ks_wpAt_mono (ht.run [] _ (L2.start N vs) H _ I hq) (fun fl s' hs => ?_) fun e s' hs => hs
  have fin : ∀ {σ' : L2.St} {H' : Hp} {v : V} {u : Value}, Inv (cxS P w K mg base N qual scope f cdv cc A outer s H E) [] σ' H' s' → RelV v u → Q v H' → CE outer P w H s Q u s' :=
    fun {σ' H' v u} J rv q => ⟨v, H', J.os, J.bare, J.base, J.hok, rv, q⟩
  cases fl with
  | ret u =>
    obtain ⟨v, σ', H', J, rv, q⟩ := hs
    exact fin J rv q
  | next =>
    obtain ⟨σ', H', J, q⟩ := hs
    exact fin (v := V.non) (u := Value.none) J rfl q
  | brk =>
    obtain ⟨_, _, _, q⟩ := hs
    exact False.elim q
  | cont =>
    obtain ⟨_, _, _, q⟩ := hs
    exact False.elim q

/-! ### super() -/
theorem sup_base {X : Cx} {pins : List (Addr × Obj)} {σ : L2.St} {H : Hp} {s : Shared} {body : List Stmt} {p0 p1 : Pos} {attr : Str} {whole : Sem Value} {f cc cda D x C : Addr} {fd : FuncData} {ar : Arg} {vs : Array Value} {file : Str} {tf : Tok} {oc ccl cl : Value} {od cdd cld : Option Addr} {osl ccs csl : Array (Option Value)} {cdD : ClassData} {ox : Obj} {odx : Option Obj} {Q : Value → Shared → Prop} {E : Value → Shared → Prop}
    (I : Inv X pins σ H s) (hks : X.env.kindOf "super" = some .globalImplicit) (hkc : X.env.kindOf "__class__" = some .free) (hat : (attr == ("__class__" : Str)) = false) (hfu : X.env.func = some f) (hf : X.K.lookup f = some ⟨oc, od, .func fd, osl⟩) (hp : (fd.params.posonlyargs ++ fd.params.args).head? = some ar)
    (hco : X.env.code = .ref cda) (hcode : X.K.lookup cda = some ⟨ccl, cdd, .fields vs, ccs⟩) (hvs : vs[2]? = some (.str file tf)) (hfile : ((X.prog.main.file : Str) == file) = true) (htop : (X.prog.main.scope.names.lookup ("super" : Str)).isSome = false) (hm : X.mg "super" = none)
    (hcl : X.env.cells.lookup ("__class__" : Str) = some cc) (hcell : X.K.lookup cc = some ⟨cl, cld, .cell (some (.ref D)), csl⟩) (hD : PySem.W.clsIn X.K D = some cdD) (hka : X.env.kindOf ar.arg = some .local) (hN : X.N[0]? = some ar.arg) (hσ : σ[0]? = some (some (.ref x)))
    (J : PySem.W.InstAt s.heap x ox C odx) (hsub : PySem.W.mroIn X.K C (.ref D) = some true)
    (h : ∀ h', h'.get? s.heap.objs.size = some (PySem.W.ks_superObj D x C) → (∀ b o, s.heap.get? b = some o → h'.get? b = some o) → Q (.ref s.heap.objs.size) { s with heap := h' }) :
    _root_.PySem.wpAt (model X.prog X.w) X.A (.func body X.env) (attributeBase (.Call (.Name "super" p0) [] [] p1) attr X.env whole) Q E s := by
  have KX := I.kIn
  obtain ⟨m, hn, hl⟩ := id I.loc
  obtain ⟨u, ru, lk⟩ := hl 0 ar.arg (.ref x) hN hσ (.inl hka)
  obtain ⟨mb, b1, b2⟩ := I.mod.blt
  have hg : s.heap.Ns X.env.globals X.mg := by rw [I.ok.glob]; exact I.mod.glob.keeps I.bk
  have hb : s.heap.Ns X.env.builtins mb := by rw [I.ok.blt]; exact b1.keeps I.bk
  have hk := I.ok.kind
  have em : m ar.arg = some (.ref x) := by
    have ru' : u = Value.ref x := ru
    subst ru'
    rcases lk with ⟨_, e⟩ | ⟨e, _⟩
    · exact e
    · rw [hka] at e
      rcases e with e | e <;> cases e
  obtain ⟨oD, hD1, hD2⟩ : ∃ oD, s.heap.get? D = some oD ∧ oD.data = .cls cdD := by
    unfold PySem.W.clsIn at hD
    split at hD
    · rename_i q1 q2 q3 q4 ho
      cases hD
      exact ⟨_, KX _ _ ho, rfl⟩
    · cases hD
  obtain ⟨hh, g, d, t, os⟩ := s
  refine ks_wpAt_super_base hks hkc hat hfu (KX _ _ hf) rfl hp hco (KX _ _ hcode) rfl hvs hfile htop ?_
  refine PySem.W.ks_loadName_global hk hks (PySem.Calls.loadGlobal_builtin hg hm hb ((b2 _ (by decide)).trans PyProof.Rows.Boot.«super») ⟨rfl, ?_⟩)
  refine PySem.wpAny_loadName_free hk hkc hcl ⟨_, KX _ _ hcell, rfl⟩ ?_
  refine wpAny_loadName_local hk hka hn em ?_
  refine ks_wpAny_isType_cls hD1 hD2 ⟨rfl, ?_⟩
  refine ks_wpAny_call_super hD1 hD2 J.at_ J.cls (fun c e => ?_) (PySem.W.looks_mroIn KX hsub) fun h' e k => h h' e k
  have z := J.no
  unfold PySem.W.notCls at z
  rw [e] at z
  exact Bool.noConfusion z
/-- the bound ValueError.__init__ called -/
theorem call_vw {prog : Program} {w : World} {A : Around} {E : Value → Shared → Prop} {h : Heap} {g : Array GenState} {d : Drawn} {t : Nat} {os : OsState} {nm q : Str} {C N u e t0 : Addr} {bs bm : List Value} {hdct : Bool} {sn : List Str} {sub : List Value} {ab : Bool} {col : Option Bool} {dd : Option Addr} {k0 k1 k2 k3 k5 : Option Value}
    {rest : List Value} {Q : Value → Shared → Prop} (hC : h.get? C = some (excClassObj nm q C N bs bm hdct sn sub ab col dd k0 k1 k2 k3 k5 "ValueError.__new__")) (he : h.get? e = some (HandSPX.excO C t0)) (hu : h.get? u = some (PySem.W.kxs_mw "ValueError.__init__" e)) (hz : rest.length ≤ sizeLine)
    (hq : ∀ h' t1, (∀ b o, b ≠ e → h.get? b = some o → h'.get? b = some o) → h'.get? e = some (HandSPX.excO C t1) → Q .none ⟨h', g, d, t, os⟩) : wpAny (model prog w) A (call (.ref u) rest) Q E ⟨h, g, d, t, os⟩ := by
  refine wpAny_call (codeAny_of_tree ?_)
  show wpAny _ A.in1 (callAny (.ref u) ⟨rest, []⟩) _ _ _
  simp only [callAny]
  refine wpAny_bind (wpAny_load hu ?_)
  simp only [PySem.W.kxs_mw, (by decide : (Value.type "method-wrapper" == Value.type "method" || Value.type "method-wrapper" == Value.type "builtin_function_or_method" || Value.type "method-wrapper" == Value.type "method-wrapper") = true), if_true]
  refine PySem.W.KFB.if_so (by decide) ?_
  refine wpAny_bind (PySem.ESX.check_bound F.excBase_ValueError hC he rfl (wpAny_bind (wpAny_pure (wpAny_pure ⟨Code.quiet_builtin _ (by decide +kernel), codeAny_builtin F.excBase_ValueError.initEntry ?_⟩))))
  rw [Around.under_plainId F.excBase_ValueError.init.plain _]
  wp_walk
  refine hq _ h.objs.size (fun b o hb ho => (Heap.get?_update_other _ _ (Ne.symm hb)).trans (Heap.get?_push_of_some _ ho)) ?_
  rw [Heap.get?_update_self _ (Heap.get?_push_of_some _ he) rfl]
  rfl
/-- what the written part says of the class at C, where super() stands in a method of the class at D and finds ValueError.__init__ -/
structure SupV (K : PySem.W.Frag) (C D : Addr) : Prop where
  ex : OexC K C
  opq : PySem.W.nsIn K PySem.cStatics "thirdparty.any" = some none
  fnd : PySem.W.ks_superIn K C D "__init__" = some (some (.builtin "ValueError.__init__"))
  sub : PySem.W.subIn K (.ref C) (.type "ValueError") = some true
  mro : PySem.W.mroIn K C (.ref D) = some true
/-- super().__init__(..) of an exception that is being made -/
def tSupV (K : PySem.W.Frag) (D : Addr) (ta : TA) : TE := fun σ H Q => ∃ a C : Addr, σ[0]? = some (some (.ref a)) ∧ H a = some (exo a C none) ∧ SupV K C D ∧ ta σ H fun vs H1 => vs.length ≤ 1000 ∧ H1 a = some (exo a C none) ∧ Q .non H1
/-- what the text says of the method that says super() -/
structure SupT (X : Cx) (D : Addr) : Prop where
  ex : ∃ (f cc cda : Addr) (fd : FuncData) (ar : Arg) (vs : Array Value) (file : Str) (tf : Tok) (oc ccl cl : Value) (od cdd cld : Option Addr) (osl ccs csl : Array (Option Value)) (cdD : ClassData),
    X.env.func = some f ∧ X.K.lookup f = some ⟨oc, od, .func fd, osl⟩ ∧ (fd.params.posonlyargs ++ fd.params.args).head? = some ar ∧ X.env.code = .ref cda ∧ X.K.lookup cda = some ⟨ccl, cdd, .fields vs, ccs⟩ ∧ vs[2]? = some (.str file tf) ∧ ((X.prog.main.file : Str) == file) = true ∧
    X.env.cells.lookup ("__class__" : Str) = some cc ∧ X.K.lookup cc = some ⟨cl, cld, .cell (some (.ref D)), csl⟩ ∧ PySem.W.clsIn X.K D = some cdD ∧ X.env.kindOf ar.arg = some .local ∧ X.N[0]? = some ar.arg
  ks : X.env.kindOf "super" = some .globalImplicit
  kc : X.env.kindOf "__class__" = some .free
  top : (X.prog.main.scope.names.lookup ("super" : Str)).isSome = false
  mg : X.mg "super" = none
section
variable {X : Cx} {D : Addr} {body : List Stmt} {p0 p1 apos pos pos2 : Pos} {e : Expr} {es : List Expr} {ta : TA}
theorem psa_supV (T : SupT X D) (ha : PA X (e :: es) ta) {pl : Sem Bool}
    (hc : eval (.Call (.Attribute (.Call (.Name "super" p0) [] [] p1) "__init__" apos) (e :: es) [] pos) X.env = (do
      let ov ← attributeBase (.Call (.Name "super" p0) [] [] p1) "__init__" X.env (eval (.Call (.Name "super" p0) [] [] p1) X.env)
      standAt apos.atName
      let (f, first) ← holding [ov] (getMethod ov "__init__" pl)
      callWith pos f first (backTo pos (starEach (e :: es) X.env)) []) := by rfl)
    (hi : interactive X.env = false := by rfl) (hs : swapsWith (.Call (.Attribute (.Call (.Name "super" p0) [] [] p1) "__init__" apos) (e :: es) [] pos) none pos2.line X.env = pure false := by rfl)
    (he : starEach (e :: es) X.env = (false, eval e X.env) :: starEach es X.env := by rfl) (hpl : (backTo pos (starEach es X.env)).any (·.1) = false := by rfl) :
    PSA X (.func body X.env) (.Expr (.Call (.Attribute (.Call (.Name "super" p0) [] [] p1) "__init__" apos) (e :: es) [] pos) pos2) (tDrop (tSupV X.K D ta)) := by
  refine ⟨fun pins s σ H K I h => ?_⟩
  obtain ⟨a, C, hσ, ea, V, q⟩ := h
  obtain ⟨f, cc, cda, fd, ar, vs, file, tf, oc, ccl, cl, od, cdd, cld, osl, ccs, csl, cdD, z1, z2, z3, z4, z5, z6, z7, z8, z9, z10, z11, z12⟩ := T.ex
  obtain ⟨t0, ho⟩ := exo_at I.hok ea
  have J : PySem.W.InstAt s.heap a _ C none := ⟨ho, rfl, rfl, trivial⟩
  obtain ⟨nm, qq, N, bs, bm, sn, sub, ab, col, dd, k0, k1, k2, k3, k5, hC, hbm⟩ := V.ex.cls
  have hcl : PySem.W.clsIn X.K C = some { name := nm, bases := bs, mro := .ref C :: bm, ns := N, qualname := qq, hasDict := true, slotNames := sn, subclasses := sub, abstract := ab, collection := col, hasDel := false } := by unfold PySem.W.clsIn; rw [hC] <;> rfl
  refine ks_wpAt_Expr_any (ks_wpAt_MethodCall (sup_base I T.ks T.kc (by decide) z1 z2 z3 z4 z5 z6 z7 T.top T.mg z8 z9 z10 z11 z12 hσ J V.mro fun h1 o1 k1' => ?_) hc) hi hs
  have I1 : Inv X pins σ H { s with heap := h1 } := by
    have z := I.kept (t' := s.toks) k1'
    exact z
  have KX := I1.kIn
  obtain ⟨hp, g, d, t, os⟩ := s
  have hI : PySem.W.Looks (model X.prog X.w) h1 (isInstance (.ref a) (.type "ValueError")) true := (PySem.W.InstAt.type (M := model X.prog X.w) (⟨k1' _ _ ho, rfl, rfl, trivial⟩ : PySem.W.InstAt h1 a _ C none)).andThen (PySem.W.looks_subIn KX V.sub)
  have hf := V.fnd
  unfold PySem.W.ks_superIn at hf
  rw [hcl] at hf
  refine PySem.W.kxs_getMethod PySem.W.kxs_ValueError o1 (PySem.W.looks_opaque KX V.opq) (l₀ := .ref C :: bm) ?_ rfl KX hf hI (PySem.W.ks_ne I.kIn J hcl) (by decide) ?_
  · exact fun A Q E s k q => wpAny_bind ((PySem.W.looks_clsIn KX hcl) A _ E s k (wpAny_pure q))
  · have kk : ∀ b o, hp.get? b = some o → (h1.push (PySem.W.kxs_mw "ValueError.__init__" a)).get? b = some o := fun b o z => Heap.get?_push_of_some _ (k1' b o z)
    have hu : (h1.push (PySem.W.kxs_mw "ValueError.__init__" a)).get? h1.objs.size = some (PySem.W.kxs_mw "ValueError.__init__" a) := Heap.get?_push_at rfl rfl
    have szu : hp.objs.size ≤ h1.objs.size := by
      exact Nat.le_of_lt (Heap.lt_size o1)
    have I2 : Inv X ((h1.objs.size, PySem.W.kxs_mw "ValueError.__init__" a) :: pins) σ H ⟨h1.push (PySem.W.kxs_mw "ValueError.__init__" a), g, d, t + 1, os⟩ := by
      have z : Inv X pins σ H ⟨h1.push (PySem.W.kxs_mw "ValueError.__init__" a), g, d, t + 1, os⟩ := I.kept (t' := t + 1) kk
      refine z.pins_of fun p hp' => ?_
      rcases List.mem_cons.mp hp' with e | hp'
      · subst e
        have hl := I.lt
        refine ⟨hu, I.hok.fresh szu, fun y => ?_, I.nofs szu, fun v y => ?_⟩
        · have y : h1.objs.size = X.env.locals := y
          have hl : X.env.locals < hp.objs.size := hl
          rw [← y] at hl
          exact absurd (Nat.lt_of_lt_of_le hl szu) (Nat.lt_irrefl _)
        · cases y
      · exact z.pin p (List.mem_append_right _ hp')
    rw [he]
    refine PySem.W.kxs_callWith (i := "ValueError.__init__") (x := a) (by show (false || (backTo pos (starEach es X.env)).any (·.1)) = false; rw [hpl]; rfl) ?_
    have hsp := ha.run pos _ _ σ H _ I2 q
    rw [he] at hsp
    refine PySem.Calls.evalArgs_plain (wpAny_mono hsp (fun us s2 h2 => ?_) fun _ _ z => z)
    obtain ⟨ws, H2, I3, rw', hl, ea2, q2⟩ := h2
    have pu := (I3.pin (h1.objs.size, PySem.W.kxs_mw "ValueError.__init__" a) (List.mem_append_right _ List.mem_cons_self)).1
    refine ⟨pu, ?_⟩
    obtain ⟨t1, ho1⟩ := exo_at I3.hok ea2
    have I4 : Inv X pins σ H2 s2 := I3.pins_of fun p hp' => I3.pin p (by
      rcases List.mem_append.mp (List.mem_append_right X.pn hp') with z | z
      · exact List.mem_append_left _ z
      · exact List.mem_append_right _ (List.mem_cons_of_mem _ z))
    have hlen : us.length ≤ sizeLine := by
      rw [← Paired.length rw', sizeLine_eq]
      omega
    obtain ⟨hp2, g2, d2, tk2, os2⟩ := s2
    show wpAny _ _ (call (.ref h1.objs.size) us) _ _ _
    refine call_vw (I4.kIn _ _ hC) ho1 pu hlen fun h' t2 k hx => ?_
    have J4 := I4.write (t' := tk2) (x := a) (e := a) (o := exo a C none) (by rw [ea2]; exact True.intro) (.inl rfl) k ⟨_, hx⟩ (exo_ok hx)
    have eu : upd H2 a (exo a C none) = H2 := by
      funext b
      by_cases hb : b = a
      · rw [hb, upd_same, ea2]
      · rw [upd_ne hb]
    rw [eu] at J4
    exact ⟨σ, H2, J4, q2⟩
end

/-! ### an error's own __init__ -/
theorem lookup_fs_nil {f : Str} : (([] : List (Str × V)).lookup f) = none := rfl
/-- the promise of such an __init__: the fields fs are set, in this order -/
def exFs (fs : List Str) (ys : List V) : List (Str × V) := (fs.zip ys).reverse
def spEx (Cs : List Addr) (fs : List Str) : Sp := fun vs H Q _ => ∃ (a C : Addr) (ys : List V), C ∈ Cs ∧ vs = .ref a :: ys ∧ ys.length = fs.length ∧ H a = some (exo a C none) ∧
  ∀ d, H d = none → d ≠ a → Q .non (upd (upd H d (exd d (exFs fs ys))) a (exo a C (some d)))
/-- C(..), an error with its fields -/
def tMkC (C : Addr) (fs : List Str) (ta : TA) : L2.St → Hp → XK → Prop := fun σ H Q => ta σ H fun vs H1 => vs.length = fs.length ∧ ∀ d, H1 d = none → Q (.ref C) (some d) (upd H1 d (.xd (exFs fs vs)))
theorem pmk_imp {X : Cx} {e : Expr} {t t' : L2.St → Hp → XK → Prop} (h : PMk X e t) (i : ∀ σ H Q, t' σ H Q → t σ H Q) : PMk X e t' := fun pins s σ H Q I q => h pins s σ H Q I (i σ H Q q)
theorem mo_pa {X : Cx} {es : List Expr} {ta : TA} (h : PA X es ta) : PA X es (moA ta) := pa_mo h
theorem mkC_of {C : Addr} {Cs : List Addr} {fs : List Str} {ta : TA} (hC : C ∈ Cs) (hl : fs.length ≤ 900) {σ : L2.St} {H : Hp} {Q : XK} (q : tMkC C fs ta σ H Q) : tMkO C (spEx Cs fs) [] (moA ta) σ H Q := by
  refine ⟨_, q, fun vs H1 ⟨e, h⟩ => ⟨by omega, fun a ha => ⟨a, C, vs, hC, by rw [List.append_nil], e, upd_same, fun d hd hne => ⟨rfl, d, exFs fs vs, upd_same, ?_, ?_, ?_⟩⟩⟩⟩
  · rw [upd_ne hne, upd_same]
  · rw [upd_ne hne] at hd
    exact hd
  · rw [upd_ne hne] at hd
    have e2 : upd (del (upd (upd (upd H1 a (exo a C none)) d (exd d (exFs fs vs))) a (exo a C (some d))) a) d (.xd (exFs fs vs)) = upd H1 d (.xd (exFs fs vs)) := by
      funext b
      by_cases hb : b = d
      · rw [hb, upd_same, upd_same]
      · rw [upd_ne hb, upd_ne hb]
        by_cases hba : b = a
        · rw [hba, del_same, ha]
        · rw [del_ne hba, upd_ne hba, upd_ne hb, upd_ne hba]
    rw [e2]
    exact h d hd
theorem pmk_ex {X : Cx} {CX : CXT} {x : Str} {C fI : Addr} {Cs : List Addr} {fs : List Str} {k : Nat} {fd : FuncData} {ps : List Str} {e : Expr} {es : List Expr} {ta : TA} {p pos : Pos} (T : OexC X.K C) (iC : PySem.W.findIn X.K (.ref C) "__init__" = some (some (.ref fI))) (tI : PySem.W.typeIn X.K (.ref fI) = some (.type "function"))
    (F1 : FnOk X.prog X.w X.K X.mg X.base CX k fI fd ps (spEx Cs fs)) (hC : C ∈ Cs) (hl : fs.length ≤ 900) (hr : Room (k + 1) X.A) (hb : Binds X.K fd ps []) (hx : Passes CX X (fun _ _ _ => False)) (hg : Gl X x) (hm : X.mg x = some (.ref C)) (ha : PA X (e :: es) ta)
    (hdb : (x == ("__debug__" : Str)) = false := by decide) (he : starEach (e :: es) X.env = (false, eval e X.env) :: starEach es X.env := by rfl) (hpl : (backTo pos (starEach es X.env)).any (·.1) = false := by rfl) :
    PMk X (.Call (.Name x p) (e :: es) [] pos) (tMkC C fs ta) :=
  pmk_imp (pmk_oex (dvs := []) (ds := []) T iC tI F1 hr hb .nil hx hg hm (pa_mo ha) hdb he hpl) fun _ _ _ q => mkC_of hC hl q
/-- raise C(..) -/
def sRaise (E : XK) (t : L2.St → Hp → XK → Prop) : TS := fun _ σ H => t σ H E
def sRaiseS (W : WX) (t : L2.St → Hp → XK → Prop) : TS := fun _ σ H => t σ H fun cls d H' => W cls d σ H'
theorem ps_raiseE {X : Cx} {E : XK} {e : Expr} {t : L2.St → Hp → XK → Prop} {pos : Pos} (hc : X.calm = true) (tk : Takes X (fun cls d _ H => E cls d H)) (he : PMk X e t) : PS X (.Raise (some e) none pos) (sRaise E t) := ps_raise hc tk he
theorem ps_raiseS {X : Cx} {W : WX} {e : Expr} {t : L2.St → Hp → XK → Prop} {pos : Pos} (hc : X.calm = true) (tk : Takes X W) (he : PMk X e t) : PS X (.Raise (some e) none pos) (sRaiseS W t) := ps_raise hc tk he

/-! ### try, with several clauses -/
structure Clz where
  c : Value
  i : Option Nat
  ts : Addr → Value → Option Addr → TS
def endsI : Option Nat → Ends → Ends
  | none, D => D
  | some i, D => { nx := fun σ' H' => D.nx (σ'.set i none) H', rt := D.rt, bk := fun σ' H' => D.bk (σ'.set i none) H', ct := fun σ' H' => D.ct (σ'.set i none) H' }
def setI : Option Nat → V → L2.St → L2.St
  | none, _, σ => σ
  | some i, v, σ => σ.set i (some v)
/-- a clause takes the exception -/
def hitN (K : PySem.W.Frag) (D : Ends) (cls : Value) (d : Option Addr) (σ : L2.St) (H : Hp) : List Clz → Prop
  | [] => False
  | z :: r => (PySem.W.exmOne K cls z.c = some true ∧ ∀ a, H a = none → z.ts a cls d (endsI z.i D) (setI z.i (.ref a) σ) H) ∨ (PySem.W.exmOne K cls z.c = some false ∧ hitN K D cls d σ H r)
inductive HnOk (X : Cx) : List ExceptHandler → List Clz → Prop
  | nil : HnOk X [] []
  | anon {x : Str} {c : Value} {ts : Addr → Value → Option Addr → TS} {b₀ : Stmt} {suite : List Stmt} {np pos' : Pos} {hds : List ExceptHandler} {l : List Clz} (hc : Names X x c)
      (hsu : ∀ (a : Addr) (oe : Obj) (cls : Value) (d : Option Addr) (pn : List (Addr × Obj)), Zc cls d oe → (∃ vs, oe.data = .fields vs) → PSs (X.suite a ((a, oe) :: pn)) (b₀ :: suite) (ts a cls d)) (r : HnOk X hds l) :
      HnOk X (.ExceptHandler (some (.Name x np)) none (b₀ :: suite) pos' :: hds) (⟨c, none, ts⟩ :: l)
  | named {x n : Str} {i : Nat} {c : Value} {ts : Addr → Value → Option Addr → TS} {b₀ : Stmt} {suite : List Stmt} {np pos' : Pos} {hds : List ExceptHandler} {l : List Clz} (hc : Names X x c) (hi : X.N[i]? = some n) (hln : X.env.kindOf n = some .local)
      (hsu : ∀ (a : Addr) (oe : Obj) (cls : Value) (d : Option Addr) (pn : List (Addr × Obj)), Zc cls d oe → (∃ vs, oe.data = .fields vs) → PSs (X.suite a ((a, oe) :: pn)) (b₀ :: suite) (ts a cls d)) (r : HnOk X hds l) :
      HnOk X (.ExceptHandler (some (.Name x np)) (some n) (b₀ :: suite) pos' :: hds) (⟨c, some i, ts⟩ :: l)
section
variable {X : Cx} {body : List Stmt} {h₀ : ExceptHandler} {hds : List ExceptHandler} {l : List Clz} {pos : Pos} {tb : WX → TS}
theorem ps_tryN (hs : X.stack = X.env :: X.outer) (hf : X.env.frame = some X.env.locals) (hN : X.N.Nodup)
    (hb : ∀ (W : WX) (pn : List (Addr × Obj)) (xe : Value → Shared → Prop), Takes (X.tr pn xe) W → PassesOwn (model X.prog X.w) X.A X.env xe → PSs (X.tr pn xe) body (tb W))
    (hh : HnOk X (h₀ :: hds) l) : PS X (.Try body (h₀ :: hds) [] [] pos) (fun D σ H => tb (fun cls d σ H => hitN X.K D cls d σ H l) D σ H) := ⟨fun pins s σ H D I h => by
  have ok := I.ok
  have frame : X.A.frames = some (X.env :: X.outer) := ok.frames.trans (congrArg some hs)
  refine wpAny_Try_except (wpAny_mono ((hb _ (X.pn ++ pins) _ (fun u s' xx => ?_) PassesOwn.looking).run [] s σ H D (I.toTry _) h) (fun f s1 hsp => ?_) fun e s1 he => he)
  · obtain ⟨a, B, sI, pins', σ', H', cls, d, rfl, J', nb, up, sky, na, os, ag, w⟩ := xx
    have J : Inv X pins σ' H' sI := J'.ofTry ok
    have sk : Sky B (X.env :: X.outer) a (Zc cls d) X.env.locals s'.heap := hs ▸ sky
    refine Sky.land Zc.steady frame hf sk fun hL fL uL => ?_
    have JL : Inv X pins σ' H' { s' with heap := hL } := J.landed nb fL.1 (up.trans uL) os ag
    obtain ⟨oL, vL, gL, zL, dL⟩ := fL.there
    have apart : a ∉ frs (X.env :: X.outer) := fun hm => by
      obtain ⟨_, o', e', hnf⟩ := fL.2.2.1.mem hm
      rw [gL] at e'
      cases e'
      exact hnf _ dL
    have aL : a ≠ X.env.locals := fun z => apart (List.mem_filterMap.mpr ⟨X.env, List.mem_cons_self, by rw [hf, z]⟩)
    have aF : a ∉ X.fs := fun hm => by
      obtain ⟨e, he, q⟩ := List.mem_filterMap.mp hm
      exact apart (List.mem_filterMap.mpr ⟨e, List.mem_cons_of_mem _ he, q⟩)
    have SL := JL.suite gL dL na aL aF
    have LT : PySem.W.Looks (model X.prog X.w) hL (typeOf (.ref a)) cls := fun A Q E s k q => wpAny_typeOf_ref (k _ _ gL) (by rw [zL.1]; exact q)
    have names : ∀ {x : Str} {c : Value} {np : Pos} {Q : Value → Shared → Prop} {E : Value → Shared → Prop}, Names X x c → Q c { s' with heap := hL } → wpAny (model X.prog X.w) (X.A.mark (some (.ref a))) (eval (.Name x np) X.env) Q E { s' with heap := hL } := fun {x c np Q E} hc q => by
      obtain ⟨hg, hdbg, hm | ⟨hm, hv, hnn⟩⟩ := hc
      · exact ld_glob (X := X.suite a ((a, oL) :: (X.pn ++ pins))) SL hg hm q hdbg
      · exact ld_blt (X := X.suite a ((a, oL) :: (X.pn ++ pins))) SL hg hm hv q hnn hdbg
    suffices go : ∀ {hs' : List ExceptHandler} {l' : List Clz}, HnOk X hs' l' → hitN X.K D cls d σ' H' l' → wpAny (model X.prog X.w) X.A (handleBy (.ref a) X.env hs') (SP X pins D) X.xe { s' with heap := hL } from go hh w
    intro hs' l' hk
    induction hk with
    | nil => exact fun w => w.elim
    | @anon x c ts b₀ suite np pos' hds2 l2 hc hsu r ih =>
      intro w
      refine wpAny_handleBy_cons (codeAny_handlers_test ?_) (by intro q; cases q)
      rcases w with ⟨e, w⟩ | ⟨e, w⟩
      · refine names hc ((PySem.W.exm_one (M := model X.prog X.w) JL.kIn LT e).here ?_)
        refine codeAny_handlers_suite (HandSPX.lands_againZ fL fun h4 f4 u4 => ?_)
        have J4 : Inv X pins σ' H' { s' with heap := h4 } := J.landed nb f4.1 ((up.trans uL).trans u4) os ag
        obtain ⟨o4, v4, g4, z4, d4⟩ := f4.there
        refine wpAny_mono ((hsu a o4 cls d (X.pn ++ pins) z4 ⟨_, d4⟩).run [] _ σ' H' _ (J4.suite g4 d4 na aL aF) (w a na)) (fun f s6 hsp => ?_) (fun _ _ z => False.elim z)
        cases f with
        | ret u =>
          obtain ⟨v6, σ6, H6, S6, r6, q6⟩ := hsp
          exact ⟨_, _, _, S6.unsuite ok, r6, q6⟩
        | next | brk | cont =>
          obtain ⟨σ6, H6, S6, q6⟩ := hsp
          exact ⟨_, _, S6.unsuite ok, q6⟩
      · exact names hc ((PySem.W.exm_one (M := model X.prog X.w) JL.kIn LT e).here (ih w))
    | @named x n i c ts b₀ suite np pos' hds2 l2 hc hi hln hsu r ih =>
      intro w
      refine wpAny_handleBy_cons (codeAny_handlers_test ?_) (by intro q; cases q)
      rcases w with ⟨e, w⟩ | ⟨e, w⟩
      · refine names hc ((PySem.W.exm_one (M := model X.prog X.w) JL.kIn LT e).here ?_)
        refine codeAny_handlers_suite_as (HandSPX.lands_againZ fL fun h4 f4 u4 => ?_)
        have J4 : Inv X pins σ' H' { s' with heap := h4 } := J.landed nb f4.1 ((up.trans uL).trans u4) os ag
        obtain ⟨o4, v4, g4, z4, d4⟩ := f4.there
        refine store_ok (X := X.suite a ((a, o4) :: (X.pn ++ pins))) (v := .ref a) (J4.suite g4 d4 na aL aF) hN hi (.inl hln) rfl (fun s5 S5 => ?_) (.inr hln)
        refine wpAny_mono ((hsu a o4 cls d (X.pn ++ pins) z4 ⟨_, d4⟩).run [] s5 _ H' _ S5 (w a na)) (fun f s6 hsp => ?_) (fun _ _ z => False.elim z)
        have away : ∀ {σ6 : L2.St} {H6 : Hp} {Q : Shared → Prop}, Inv (X.suite a ((a, o4) :: (X.pn ++ pins))) [] σ6 H6 s6 → (∀ s7, Inv X pins (σ6.set i none) H6 s7 → Q s7) →
            wpAny (model X.prog X.w) X.A (do bindName X.env n .none; unbindBehindTheSuite X.env n pos') (fun _ s7 => Q s7) X.xe s6 := fun {σ6 H6 Q} S6 hq => gone_ok (S6.unsuite ok) hN hi hln hq
        cases f with
        | ret u =>
          obtain ⟨v6, σ6, H6, S6, r6, q6⟩ := hsp
          exact away S6 fun s7 J7 => ⟨_, _, _, J7, r6, q6⟩
        | next | brk | cont =>
          obtain ⟨σ6, H6, S6, q6⟩ := hsp
          exact away S6 fun s7 J7 => ⟨_, _, J7, q6⟩
      · exact names hc ((PySem.W.exm_one (M := model X.prog X.w) JL.kIn LT e).here (ih w))
  · cases f with
    | next =>
      obtain ⟨σ', H', J', q⟩ := hsp
      exact wpAny_execs_nil ⟨σ', H', J'.ofTry ok, q⟩
    | ret u =>
      obtain ⟨v, σ', H', J', r, q⟩ := hsp
      exact ⟨v, σ', H', J'.ofTry ok, r, q⟩
    | brk | cont =>
      obtain ⟨σ', H', J', q⟩ := hsp
      exact ⟨σ', H', J'.ofTry ok, q⟩⟩
/-- which clause takes the exception of the class cls -/
inductive Hits (K : PySem.W.Frag) (cls : Value) : List Value → Nat → Prop
  | here {c : Value} {r : List Value} (h : PySem.W.exmOne K cls c = some true) : Hits K cls (c :: r) 0
  | there {c : Value} {r : List Value} {k : Nat} (h : PySem.W.exmOne K cls c = some false) (t : Hits K cls r k) : Hits K cls (c :: r) (k + 1)
abbrev Sui := Option Nat × (Addr → Value → Option Addr → TS)
/-- the wish of a try's body, by a table of classes -/
def wT (tab : List (Value × Nat)) (cl : List Sui) (D : Ends) : WX := fun cls d σ H => ∃ k i ts, (cls, k) ∈ tab ∧ cl[k]? = some (i, ts) ∧ ∀ a, H a = none → ts a cls d (endsI i D) (setI i (.ref a) σ) H
def sTry (tab : List (Value × Nat)) (cl : List Sui) (tb : WX → TS) : TS := fun D σ H => tb (wT tab cl D) D σ H
theorem hits_of {K : PySem.W.Frag} {D : Ends} {cls : Value} {d : Option Addr} {σ : L2.St} {H : Hp} {i : Option Nat} {ts : Addr → Value → Option Addr → TS} (q : ∀ a, H a = none → ts a cls d (endsI i D) (setI i (.ref a) σ) H) :
    ∀ {l : List Clz} {k : Nat}, Hits K cls (l.map (·.c)) k → (l.map fun z => ((z.i, z.ts) : Sui))[k]? = some (i, ts) → hitN K D cls d σ H l
  | [], _, _, h => by cases h
  | z :: l, 0, h, e => by
    have e : ((z.i, z.ts) : Sui) = (i, ts) := by simpa using e
    cases e
    cases h with
    | here h => exact .inl ⟨h, q⟩
  | z :: l, k + 1, h, e => by
    cases h with
    | there h t => exact .inr ⟨h, hits_of q t (by simpa using e)⟩
theorem ps_tryT {tab : List (Value × Nat)} (tk0 : ∀ p ∈ tab, Hits X.K p.1 (l.map (·.c)) p.2) (hs : X.stack = X.env :: X.outer) (hf : X.env.frame = some X.env.locals) (hN : X.N.Nodup)
    (hb : ∀ (W : WX) (pn : List (Addr × Obj)) (xe : Value → Shared → Prop), Takes (X.tr pn xe) W → PassesOwn (model X.prog X.w) X.A X.env xe → PSs (X.tr pn xe) body (tb W))
    (hh : HnOk X (h₀ :: hds) l) : PS X (.Try body (h₀ :: hds) [] [] pos) (sTry tab (l.map fun z => (z.i, z.ts)) tb) := by
  refine ps_imp (ps_tryN (tb := fun W D σ H => ∃ W', (∀ c d σ H, W' c d σ H → W c d σ H) ∧ tb W' D σ H) hs hf hN (fun W pn xe tk pa => ⟨fun pins s σ H D I ⟨W', i, q⟩ => (hb W' pn xe (tk.imp i) pa).run pins s σ H D I q⟩) hh) fun D σ H q => ⟨_, fun c d σ H h => ?_, q⟩
  obtain ⟨k, i, ts, m, e, h⟩ := h
  exact hits_of h (tk0 _ m) e
end

/-! ### calls in a try's body: what is raised is wished for at the slots -/
section
variable {X : Cx} {CX : CXT} {k : Nat} {f C g p2' : Addr} {fd : FuncData} {ps : List Str} {sp : Sp} {E : L2.St → XK} {x m : Str} {p pos apos : Pos} {e o : Expr} {es : List Expr} {ta : TE} {t : TA}
def tCS (sp : Sp) (E : L2.St → XK) (t : TA) : TE := fun σ H Q => t σ H fun vs H1 => sp vs H1 Q (E σ)
def tMS (C : Addr) (m : Str) (sp : Sp) (E : L2.St → XK) (ta : TE) (t : TA) : TE := fun σ H Q => ta σ H fun x H1 => ∃ a dx fs, x = .ref a ∧ H1 a = some (.ins C dx fs) ∧ fs.lookup m = none ∧ t σ H1 fun vs H2 => sp (x :: vs) H2 Q (E σ)
def tNewS (C : Addr) (sp : Sp) (E : L2.St → XK) (t : TA) : TE := fun σ H Q => t σ H fun vs H1 => ∀ x dx, H1 x = none → H1 dx = none → dx ≠ x →
  sp (.ref x :: vs) (upd (upd H1 dx (.own x)) x (.ins C dx [])) (fun v H2 => v = .non ∧ Q (.ref x) H2) (E σ)
theorem pe_cS (F : FnOk X.prog X.w X.K X.mg X.base CX k f fd ps sp) (hr : Room k X.A) (hg : Gl X x) (hm : X.mg x = some (.ref f)) (hk : PySem.W.keepIn X.K (.ref f) = true) (hb : Binds X.K fd ps []) (hx : ∀ σ, PassesAt CX X σ (E σ))
    (ha : PA X (e :: es) t) (hdb : (x == ("__debug__" : Str)) = false := by decide) (he : starEach (e :: es) X.env = (false, eval e X.env) :: starEach es X.env := by rfl) (hpl : (backTo pos (starEach es X.env)).any (·.1) = false := by rfl) :
    PE X (.Call (.Name x p) (e :: es) [] pos) (tCS sp E t) := pe_callS F hr hg hm hk hb hx ha hdb he hpl
theorem pe_cS0 (F : FnOk X.prog X.w X.K X.mg X.base CX k f fd ps sp) (hr : Room k X.A) (hg : Gl X x) (hm : X.mg x = some (.ref f)) (hk : PySem.W.keepIn X.K (.ref f) = true) (hb : Binds X.K fd ps []) (hx : ∀ σ, PassesAt CX X σ (E σ))
    (hdb : (x == ("__debug__" : Str)) = false := by decide) : PE X (.Call (.Name x p) [] [] pos) (tCS sp E tNil) :=
  ⟨fun _ _ σ _ _ I h => wpAny_Call_Name_kw (ld_glob I hg hm (PySem.W.callWith_K0 I.kIn hk (run_fnS (us := []) F hr hb (hx σ) I .nil h)) hdb)⟩
theorem pe_mS {pl : Sem Bool} (he : PE X o ta) (c : Cls X.K C) (hm : Meth X.K C m f) (F : FnOk X.prog X.w X.K X.mg X.base CX k f fd ps sp) (hr : Room k X.A) (hb : Binds X.K fd ps []) (hx : ∀ σ, PassesAt CX X σ (E σ)) (ha : PA X (e :: es) t)
    (hst : starEach (e :: es) X.env = (false, eval e X.env) :: starEach es X.env := by rfl) (hpl : (backTo pos (starEach es X.env)).any (·.1) = false := by rfl)
    (ht : eval (.Call (.Attribute o m apos) (e :: es) [] pos) X.env = (do
      let ov ← eval o X.env
      standAt apos.atName
      let (f, first) ← holding [ov] (getMethod ov m pl)
      callWith pos f first (backTo pos (starEach (e :: es) X.env)) (backToKw pos (keywordEach [] X.env))) := by rfl) :
    PE X (.Call (.Attribute o m apos) (e :: es) [] pos) (tMS C m sp E ta t) := by
  refine ⟨fun pins s σ H Q I h => PySem.W.methodCall_KW (pl := pl) (thn (he.run pins s σ H _ I h) fun u s1 ⟨x, H1, I1, rx, a, dx, fs, ex, ea, l, q⟩ => ?_) ht⟩
  subst ex
  obtain rfl : u = Value.ref a := rx
  refine getmeth_ok I1 ea c hm l (PySem.W.callWith_K (first := [.ref a]) (h₀ := X.base) I.ok.mod.kin hm.kp (thn (ha.run pos pins s1 σ H1 _ I1 q) fun us s2 ⟨vs, H2, I2, r, q2⟩ => ⟨I2.kIn, ?_⟩) hst hpl)
  exact run_fnS (us := .ref a :: us) (vs := .ref a :: vs) F hr hb (hx σ) I2 (.cons rfl r) q2
theorem pe_mS0 {pl : Sem Bool} (he : PE X o ta) (c : Cls X.K C) (hm : Meth X.K C m f) (F : FnOk X.prog X.w X.K X.mg X.base CX k f fd ps sp) (hr : Room k X.A) (hb : Binds X.K fd ps []) (hx : ∀ σ, PassesAt CX X σ (E σ))
    (ht : eval (.Call (.Attribute o m apos) [] [] pos) X.env = (do
      let ov ← eval o X.env
      standAt apos.atName
      let (f, first) ← holding [ov] (getMethod ov m pl)
      callWith pos f first (backTo pos (starEach [] X.env)) (backToKw pos (keywordEach [] X.env))) := by rfl) :
    PE X (.Call (.Attribute o m apos) [] [] pos) (tMS C m sp E ta tNil) := by
  refine ⟨fun pins s σ H Q I h => PySem.W.methodCall_KW (pl := pl) (thn (he.run pins s σ H _ I h) fun u s1 ⟨x, H1, I1, rx, a, dx, fs, ex, ea, l, q⟩ => ?_) ht⟩
  subst ex
  obtain rfl : u = Value.ref a := rx
  exact getmeth_ok I1 ea c hm l (PySem.W.callWith_K0 (first := [.ref a]) I1.kIn hm.kp (run_fnS (us := [.ref a]) (vs := [.ref a]) F hr hb (hx σ) I1 (.cons rfl .nil) q))
theorem run_newS {E : XK} {pins : List (Addr × Obj)} {σ : L2.St} {H : Hp} {s : Shared} {Q : VK} {us : List Value} {vs : List V} (M : Mk X.K C f) (F : FnOk X.prog X.w X.K X.mg X.base CX k f fd ps sp) (hr : Room (k + 1) X.A) (hb : Binds X.K fd ps [])
    (hx : PassesAt CX X σ E) (I : Inv X pins σ H s) (r : Vals vs us)
    (h : ∀ x dx, H x = none → H dx = none → dx ≠ x → sp (.ref x :: vs) (upd (upd H dx (.own x)) x (.ins C dx [])) (fun v H2 => v = .non ∧ Q (.ref x) H2) E) : wpAny (model X.prog X.w) X.A (call (.ref C) us) (EP X pins σ Q) X.xe s := by
  have nn := Nat.le_refl s.heap.objs.size
  have hq := h (s.heap.objs.size + 1) s.heap.objs.size (I.hok.fresh (Nat.le_succ _)) (I.hok.fresh nn) (Nat.ne_of_lt (Nat.lt_succ_self _))
  have I2 := Inv.made (C := C) I
  have r2 : Vals (V.ref (s.heap.objs.size + 1) :: vs) (Value.ref (s.heap.objs.size + 1) :: us) := .cons rfl r
  have hl : (Value.ref (s.heap.objs.size + 1) :: us).length = ps.length := r2.length.symm.trans (F.len _ _ _ _ hq)
  have b := hb _ (Value.ref (s.heap.objs.size + 1) :: us) I2.kIn (by rw [List.append_nil]; exact hl)
  rw [List.append_nil] at b
  have e0 := I2.env0.make C us []
  refine wpAny_call (make_map (f := f) I.kIn M.makes M.init (beq_iff_eq.mp M.fn) (codeAny_mono (F.run _ X.stack _ _ ⟨Value.ref (s.heap.objs.size + 1) :: us, []⟩ _ _ _ _ (hr.make C us []) e0 b r2 hq) fun r s' hq' => ?_))
  cases r with
  | error e => exact hx pins _ _ e s' I2 hq'
  | ok fl =>
    cases fl with
    | ret u =>
      obtain ⟨v, H', I3, rv, ev, q3⟩ := I2.after hq'
      subst ev
      exact ⟨rv, V.ref (s.heap.objs.size + 1), H', I3, rfl, q3⟩
    | next | brk | cont => exact False.elim hq'
theorem pe_newS (M : Mk X.K C f) (F : FnOk X.prog X.w X.K X.mg X.base CX k f fd ps sp) (hr : Room (k + 1) X.A) (hg : Gl X x) (hm : X.mg x = some (.ref C)) (hb : Binds X.K fd ps []) (hx : ∀ σ, PassesAt CX X σ (E σ))
    (ha : PA X (e :: es) t) (hdb : (x == ("__debug__" : Str)) = false := by decide) (he : starEach (e :: es) X.env = (false, eval e X.env) :: starEach es X.env := by rfl) (hpl : (backTo pos (starEach es X.env)).any (·.1) = false := by rfl) :
    PE X (.Call (.Name x p) (e :: es) [] pos) (tNewS C sp E t) :=
  ⟨fun pins s σ H Q I h => wpAny_Call_Name_kw (ld_glob I hg hm (PySem.W.callWith_K (h₀ := X.base) I.ok.mod.kin M.kp (thn (ha.run pos pins s σ H _ I h) fun us s1 ⟨vs, H1, I1, r, q⟩ => ⟨I1.kIn, run_newS M F hr hb (hx σ) I1 r q⟩) he hpl) hdb)⟩
end

/-! ### in an except suite: isinstance, fields -/
/-- its dict stands -/
def DOk (d : Option Addr) (H : Hp) : Prop := ∃ dd fs, d = some dd ∧ H dd = some (.xd fs)
/-- isinstance(e, c), e the exception in hand, by a table -/
def rIsX (tbl : List (Value × V × Bool)) (a : Addr) (cls : Value) (d : Option Addr) : List V → Hp → VK → Prop := fun xs H Q => (∃ c b, xs = [.ref a, c] ∧ (cls, c, b) ∈ tbl ∧ DOk d H ∧ Q (.bl b) H) ∨ rIsI xs H Q
structure IsOk (K : PySem.W.Frag) (cls : Value) (c : V) (b : Bool) : Prop where
  ex : ∃ (D : Addr) (cv : Value), cls = .ref D ∧ ExcC K D ∧ (∀ u, RelV c u → u = cv) ∧ PySem.W.kitOne K (.ref D) cv = some b
theorem c_isX {X : Cx} {a : Addr} {oe : Obj} {cls : Value} {d : Option Addr} {pn : List (Addr × Obj)} {tbl : List (Value × V × Bool)} (T : ∀ p ∈ tbl, IsOk X.K p.1 p.2.1 p.2.2) (hz : Zc cls d oe) (hf : ∃ vs, oe.data = .fields vs) :
    CallR (X.suite a ((a, oe) :: pn)) (.builtin "isinstance") (rIsX tbl a cls d) := by
  intro pins s σ H xs us Q I r h
  rcases h with ⟨c, b, rfl, m, ⟨dd, fs, ed, ea⟩, q⟩ | h
  · obtain ⟨D, cv, ec, C, hcv, e⟩ := (T _ m).ex
    cases r with
    | cons rx rr =>
      cases rr with
      | cons rt rr =>
        cases rr
        obtain rfl := hcv _ rt
        cases rx
        obtain ⟨vs, hv⟩ := hf
        have hget := (I.pin (a, oe) (List.mem_append_left _ List.mem_cons_self)).1
        have ho : ObjOk X.prog X.w H s.heap dd (.xd fs) := I.hok dd _ ea
        obtain ⟨mA, ⟨od, es, ep, ho, _⟩, _⟩ := ho
        have J : PySem.W.InstAt s.heap a oe D (some od) := ⟨hget, by rw [hz.1]; exact ec, by unfold PySem.W.notCls; rw [hv] <;> rfl, by rw [hz.2, ed]; exact ho⟩
        have hcl : (PySem.W.clsIn X.K D).isSome = true := by
          obtain ⟨cd, hc, _⟩ := PySem.W.any_some C.hd
          rw [hc]
          rfl
        exact PySem.W.kia_one (PySem.W.kitx_exc hcl C.hg C.hk C.hs C.ha C.hn C.ht C.hm) I.kIn J e (fun z => nomatch z) fun tk => ⟨.bl b, H, I.kept (t' := tk) fun _ _ z => z, rfl, q⟩
  · exact c_isi pins s σ H xs us Q I r h
/-- e.f, e the exception in hand -/
def eXf (a : Addr) (cls : Value) (d : Option Addr) (Cs : List Addr) (f : Str) (te : TE) : TE := fun σ H Q => te σ H fun x H1 => x = .ref a ∧ ∃ C, C ∈ Cs ∧ cls = .ref C ∧ ∃ (dd : Addr) (fs : List (Str × V)) (v : V), d = some dd ∧ H1 dd = some (.xd fs) ∧ fs.lookup f = some v ∧ Q v H1
structure XfOk (K : PySem.W.Frag) (C : Addr) (f : Str) : Prop where
  xf : XfC K C
  no : PySem.W.findIn K (.ref C) f = some none
theorem pe_eXf {X : Cx} {a : Addr} {oe : Obj} {cls : Value} {d : Option Addr} {pn : List (Addr × Obj)} {e : Expr} {te : TE} {pos : Pos} {n : Str} {Cs : List Addr} (T : ∀ C ∈ Cs, XfOk X.K C n) (hz : Zc cls d oe) (hf : ∃ vs, oe.data = .fields vs) (he : PE (X.suite a ((a, oe) :: pn)) e te)
    (hb : attributeBase e n X.env (eval e X.env) = eval e X.env := by rfl) : PE (X.suite a ((a, oe) :: pn)) (.Attribute e n pos) (eXf a cls d Cs n te) := by
  refine ⟨fun pins s σ H Q I h => attr_of hb (thn (he.run pins s σ H _ I h) fun u s1 hh => ?_)⟩
  obtain ⟨x, H1, I1, rx, rfl, C, hC, rfl, dd, fs, v, rfl, ea, l, q⟩ := hh
  obtain rfl : u = Value.ref a := rx
  have T1 := (T C hC).xf
  obtain ⟨ha, _⟩ := I1.pin (a, oe) (List.mem_append_left _ List.mem_cons_self)
  obtain ⟨vs, hd⟩ := hf
  obtain ⟨mA, hns, hr⟩ : ObjOk X.prog X.w H1 s1.heap dd (.xd fs) := I1.hok dd _ ea
  obtain ⟨od, ho, hl⟩ := lookIn_ns hns
  obtain ⟨u, hu, ru⟩ := RelO.some_of (v := v) (o := mA n) (by rw [← l]; exact hr n)
  have J : PySem.W.InstAt s1.heap a oe C (some od) := ⟨ha, hz.1, by unfold PySem.W.notCls; rw [hd] <;> rfl, by rw [hz.2]; exact ho⟩
  exact HandSPX.exc_get I1.kIn J T1.ga T1.gg T1.exC (PySem.W.findObj_own T1.hdC (T C hC).no rfl (by rw [hl, hu])) (handed_of ru) ⟨v, H1, I1.tok _, ru, q⟩

/-! ### a def of the text that says super(), by its body -/
structure FunS (P : Program) (K : PySem.W.Frag) (x qual : Str) (st : Stmt) (f : Addr) (fd : FuncData) (D : Addr) : Prop where
  ex : ∃ (oc cl ccl dV kV doc pm ct : Value) (od cld cdd an : Option Addr) (osl csl ccs : Array (Option Value)) (cda cc : Addr) (vs : Array Value) (file : Str) (tf : Tok) (cdD : ClassData),
    fd = ksFn x qual (defArgs st) (defBody st) (defScope st) dV kV doc pm an (.ref cda) ct cc ∧ K.lookup f = some ⟨oc, od, .func fd, osl⟩ ∧ PySem.W.codeIn K (.ref cda) qual = true ∧ K.lookup cc = some ⟨cl, cld, .cell (some (.ref D)), csl⟩ ∧
    K.lookup cda = some ⟨ccl, cdd, .fields vs, ccs⟩ ∧ vs[2]? = some (.str file tf) ∧ ((P.main.file : Str) == file) = true ∧ PySem.W.clsIn K D = some cdD
  kp : PySem.W.keepIn K (.ref f) = true
theorem FunS.ok {P : Program} {w : World} {K : PySem.W.Frag} {mg : Str → Option Value} {base : Heap} {x qual : Str} {st : Stmt} {f D : Addr} {fd : FuncData} {N ps : List Str} {k : Nat} {sp : Sp} {ar : Arg} (F : FunS P K x qual st f fd D) (S : FnScS N ps (defScope st))
    (ha : ((defArgs st).posonlyargs ++ (defArgs st).args).head? = some ar) (hka : (defScope st).names.lookup ar.arg = some .local) (hN : N[0]? = some ar.arg) (hks : (defScope st).names.lookup ("super" : Str) = some .globalImplicit) (hkc : (defScope st).names.lookup ("__class__" : Str) = some .free)
    (htop : (P.main.scope.names.lookup ("super" : Str)).isSome = false) (hmg : mg "super" = none) (len : ∀ vs H Q E, sp vs H Q E → vs.length = ps.length)
    (hbody : ∀ (cdv : Value) (cc : Addr) (A : Around) (outer : List Env) (s : Shared) (H : Hp) (vs : List V) (Q : VK) (E : XK), Room k (A.deeper (ksEnv qual (defScope st) s.heap.objs.size f cdv cc)) → SupT (cxS P w K mg base N qual (defScope st) f cdv cc A outer s H E) D → sp vs H Q E →
      ∃ t, PSsA (cxS P w K mg base N qual (defScope st) f cdv cc A outer s H E) (.func (defBody st) (ksEnv qual (defScope st) s.heap.objs.size f cdv cc)) (defBody st) t ∧ t { nx := fun _ H' => Q .non H', rt := Q } (L2.start N vs) H) :
    FnOk P w K mg base (L2.CX P w) (k + 1) f fd ps sp := by
  obtain ⟨oc, cl, ccl, dV, kV, doc, pm, ct, od, cld, cdd, an, osl, csl, ccs, cda, cc, vs, file, tf, cdD, e, lk, hcd, hcc, hcode, hv, hfile, hD⟩ := F.ex
  subst e
  refine fn_ofS lk hcd hcc S len fun A outer s H vs' Q E hr hsp => hbody (.ref cda) cc A outer s H vs' Q E hr ?_ hsp
  refine ⟨⟨f, cc, cda, _, ar, vs, file, tf, oc, ccl, cl, od, cdd, cld, osl, ccs, csl, cdD, rfl, lk, ha, rfl, hcode, hv, hfile, ?_, hcc, hD, hka, hN⟩, hks, hkc, htop, hmg⟩
  show List.lookup ("__class__" : Str) [(("__class__" : Str), cc)] = some cc
  simp [List.lookup]
/-- an error with one field -/
theorem ex1 {K : PySem.W.Frag} {Cs : List Addr} {D : Addr} {f m : Str} (h : ∀ C ∈ Cs, SupV K C D ∧ PySem.W.findIn K (.ref C) f = some none) {vs : List V} {H : Hp} {Q : VK} {E : XK} (q : spEx Cs [f] vs H Q E) {n x : Str} :
    tSeq (tDrop (tSupV K D (tCons (tC (.str m)) tNil))) (tOst K f (tVar 0) (tVar 1)) { nx := fun _ H' => Q .non H', rt := Q } (L2.start [n, x] vs) H := by
  obtain ⟨a, C, ys, hC, rfl, hl, ea, q⟩ := q
  obtain ⟨V, na⟩ := h C hC
  cases ys with
  | nil => cases hl
  | cons y ys =>
    cases ys with
    | cons _ _ => cases hl
    | nil => exact ⟨a, C, rfl, ea, V, (by show 1 ≤ 1000; decide), ea, y, rfl, .ref a, rfl, a, C, rfl, V.ex, na, .inl ⟨ea, fun dx hd hne => q dx hd hne⟩⟩
theorem spEx_len {Cs : List Addr} {fs : List Str} (vs : List V) (H : Hp) (Q : VK) (E : XK) (q : spEx Cs fs vs H Q E) : vs.length = fs.length + 1 := by
  obtain ⟨a, C, ys, _, rfl, hl, _⟩ := q
  rw [List.length_cons, hl]
theorem all_nil {α : Type} {p : α → Prop} : ∀ x ∈ ([] : List α), p x := fun _ h => nomatch h
theorem all_cons {α : Type} {p : α → Prop} {a : α} {l : List α} (h : p a) (t : ∀ x ∈ l, p x) : ∀ x ∈ a :: l, p x := fun x m => by
  rcases List.mem_cons.mp m with e | m
  · rw [e]; exact h
  · exact t x m
end Y

/-! Objects of several classes: dispatch, inherited members, super().m(..), defaults. -/
namespace Y
open PySem PySem.Spec PyProof.Rows L2
open PySem.W (ksEnv ksFn)

/-! ### a method, a field, a property by the object's class -/
structure MD (X : Cx) (m : Str) (k : Nat) (p : Addr × Sp) : Prop where
  ex : ∃ (f : Addr) (fd : FuncData) (ps : List Str), Cls X.K p.1 ∧ Meth X.K p.1 m f ∧ FnOk X.prog X.w X.K X.mg X.base (L2.CX X.prog X.w) k f fd ps p.2 ∧ Binds X.K fd ps []
structure PD (X : Cx) (f : Str) (k : Nat) (p : Addr × Sp) : Prop where
  ex : ∃ (pa g : Addr) (fd : FuncData) (ps : List Str), Cls X.K p.1 ∧ PropOf X.K p.1 f pa g ∧ FnOk X.prog X.w X.K X.mg X.base (L2.CX X.prog X.w) k g fd ps p.2 ∧ Binds X.K fd ps []
structure FD (K : PySem.W.Frag) (f : Str) (C : Addr) : Prop where
  c : Cls K C
  n : NoAttr K C f
def tMD (l : List (Addr × Sp)) (m : Str) (E : L2.St → XK) (ta : TE) (t : TA) : TE := fun σ H Q => ta σ H fun x H1 => ∃ a C dx fs sp, x = .ref a ∧ H1 a = some (.ins C dx fs) ∧ (C, sp) ∈ l ∧ fs.lookup m = none ∧ t σ H1 fun vs H2 => sp (x :: vs) H2 Q (E σ)
def eFldD (Cs : List Addr) (f : Str) (te : TE) : TE := fun σ H Q => te σ H fun x H1 => ∃ a C dx fs v, x = .ref a ∧ H1 a = some (.ins C dx fs) ∧ C ∈ Cs ∧ fs.lookup f = some v ∧ Q v H1
def sSetFD (Cs : List Addr) (f : Str) (te tv : TE) : TS := fun D σ H => tv σ H fun y H1 => te σ H1 fun x H2 => ∃ a C dx fs, x = .ref a ∧ H2 a = some (.ins C dx fs) ∧ C ∈ Cs ∧ fs.length < 1000 ∧ D.nx σ (upd H2 a (.ins C dx (putF f y fs)))
def sAugFD (Cs : List Addr) (f : Str) (te tv : TE) (rd : V → V → Hp → VK → Prop) : TS := fun D σ H => te σ H fun x H1 => ∃ a C dx fs v, x = .ref a ∧ H1 a = some (.ins C dx fs) ∧ C ∈ Cs ∧ fs.lookup f = some v ∧
  tv σ H1 fun y H2 => rd v y H2 fun z H3 => ∃ dx' fs', H3 a = some (.ins C dx' fs') ∧ fs'.length < 1000 ∧ D.nx σ (upd H3 a (.ins C dx' (putF f z fs')))
def ePropD (l : List (Addr × Sp)) (te : TE) : TE := fun σ H Q => te σ H fun x H1 => ∃ a C dx fs sp, x = .ref a ∧ H1 a = some (.ins C dx fs) ∧ (C, sp) ∈ l ∧ sp [.ref a] H1 Q E0
theorem pass_at {X : Cx} {CX : CXT} {E : XK} (hx : Passes CX X E) (σ : L2.St) : PassesAt CX X σ ((fun _ => E) σ) := fun pins H s e s' I c => hx pins σ H s e s' I c
section
variable {X : Cx} {k : Nat} {l : List (Addr × Sp)} {Cs : List Addr} {m f : Str} {E : L2.St → XK} {p pos pos' apos : Pos} {e ev o : Expr} {es : List Expr} {ta te tv : TE} {t : TA}
theorem pe_mD {pl : Sem Bool} (he : PE X o ta) (T : ∀ p ∈ l, MD X m k p) (hr : Room k X.A) (hx : ∀ σ, PassesAt (L2.CX X.prog X.w) X σ (E σ)) (ha : PA X (e :: es) t)
    (hst : starEach (e :: es) X.env = (false, eval e X.env) :: starEach es X.env := by rfl) (hpl : (backTo pos (starEach es X.env)).any (·.1) = false := by rfl)
    (ht : eval (.Call (.Attribute o m apos) (e :: es) [] pos) X.env = (do
      let ov ← eval o X.env
      standAt apos.atName
      let (f, first) ← holding [ov] (getMethod ov m pl)
      callWith pos f first (backTo pos (starEach (e :: es) X.env)) (backToKw pos (keywordEach [] X.env))) := by rfl) :
    PE X (.Call (.Attribute o m apos) (e :: es) [] pos) (tMD l m E ta t) := by
  refine ⟨fun pins s σ H Q I h => PySem.W.methodCall_KW (pl := pl) (thn (he.run pins s σ H _ I h) fun u s1 ⟨x, H1, I1, rx, a, C, dx, fs, sp, ex, ea, hC, l, q⟩ => ?_) ht⟩
  obtain ⟨f, fd, ps, c, hm, F, hb⟩ := (T _ hC).ex
  subst ex
  obtain rfl : u = Value.ref a := rx
  refine getmeth_ok I1 ea c hm l (PySem.W.callWith_K (first := [.ref a]) (h₀ := X.base) I.ok.mod.kin hm.kp (thn (ha.run pos pins s1 σ H1 _ I1 q) fun us s2 ⟨vs, H2, I2, r, q2⟩ => ⟨I2.kIn, ?_⟩) hst hpl)
  exact run_fnS (us := .ref a :: us) (vs := .ref a :: vs) F hr hb (hx σ) I2 (.cons rfl r) q2
theorem pe_mD0 {pl : Sem Bool} (he : PE X o ta) (T : ∀ p ∈ l, MD X m k p) (hr : Room k X.A) (hx : ∀ σ, PassesAt (L2.CX X.prog X.w) X σ (E σ))
    (ht : eval (.Call (.Attribute o m apos) [] [] pos) X.env = (do
      let ov ← eval o X.env
      standAt apos.atName
      let (f, first) ← holding [ov] (getMethod ov m pl)
      callWith pos f first (backTo pos (starEach [] X.env)) (backToKw pos (keywordEach [] X.env))) := by rfl) :
    PE X (.Call (.Attribute o m apos) [] [] pos) (tMD l m E ta tNil) := by
  refine ⟨fun pins s σ H Q I h => PySem.W.methodCall_KW (pl := pl) (thn (he.run pins s σ H _ I h) fun u s1 ⟨x, H1, I1, rx, a, C, dx, fs, sp, ex, ea, hC, l, q⟩ => ?_) ht⟩
  obtain ⟨f, fd, ps, c, hm, F, hb⟩ := (T _ hC).ex
  subst ex
  obtain rfl : u = Value.ref a := rx
  exact getmeth_ok I1 ea c hm l (PySem.W.callWith_K0 (first := [.ref a]) I1.kIn hm.kp (run_fnS (us := [.ref a]) (vs := [.ref a]) F hr hb (hx σ) I1 (.cons rfl .nil) q))
theorem pe_fldD (T : ∀ C ∈ Cs, FD X.K f C) (he : PE X e te) (hb : attributeBase e f X.env (eval e X.env) = eval e X.env := by rfl) : PE X (.Attribute e f pos) (eFldD Cs f te) :=
  pe_imp (pe_fld (pe_mo he) hb) fun σ H Q q => ⟨_, q, fun v H' ⟨a, C, dx, fs, w, e1, e2, hC, l, q⟩ => ⟨a, C, dx, fs, w, e1, e2, (T C hC).c, (T C hC).n, l, q⟩⟩
theorem ps_setFD (T : ∀ C ∈ Cs, FD X.K f C) (ha : PE X o te) (hv : PE X ev tv) (hs : swapsWith ev (some (.Attribute o f pos')) pos.line X.env = pure false := by rfl) : PS X (.Assign [.Attribute o f pos'] ev pos) (sSetFD Cs f te tv) :=
  ps_imp (ps_fld (pe_mo ha) (pe_mo hv) hs) fun D σ H q => ⟨_, q, fun y H1 q1 => ⟨_, q1, fun x H2 ⟨a, C, dx, fs, e1, e2, hC, l, q2⟩ => ⟨a, C, dx, fs, e1, e2, (T C hC).c, (T C hC).n, l, q2⟩⟩⟩
theorem ps_augFD {op : Operator} {rd : V → V → Hp → VK → Prop} (T : ∀ C ∈ Cs, FD X.K f C) (ha : PE X o te) (hv : PE X ev tv) (hop : InOp X op rd) : PS X (.AugAssign (.Attribute o f pos') op ev pos) (sAugFD Cs f te tv rd) :=
  ps_imp (ps_fldaug (pe_mo ha) (pe_mo hv) hop) fun D σ H q => ⟨_, q, fun x H1 ⟨a, C, dx, fs, v, e1, e2, hC, l, q2⟩ => ⟨a, C, dx, fs, v, e1, e2, (T C hC).c, (T C hC).n, l, ⟨_, q2, fun y H2 q3 => q3⟩⟩⟩
theorem pe_propD (he : PE X e te) (T : ∀ p ∈ l, PD X f k p) (hr : Room (k + 1) X.A) (hx : Passes (L2.CX X.prog X.w) X.nox E0) (hab : attributeBase e f X.env (eval e X.env) = eval e X.env := by rfl) : PE X (.Attribute e f pos) (ePropD l te) := by
  refine ⟨fun pins s σ H Q I h => attr_of hab (thn (he.run pins s σ H _ I h) fun u s1 ⟨x, H1, I1, rx, a, C, dx, fs, sp, ex, ea, hC, q⟩ => ?_)⟩
  obtain ⟨pa, g, fd, ps, c, hp, F, hb⟩ := (T _ hC).ex
  subst ex
  obtain rfl : u = Value.ref a := rx
  exact getprop_ok I1 ea c hp F hr hb .nil hx q
end

/-! ### super().m(..), m of an own class -/
structure SupM (K : PySem.W.Frag) (m : Str) (D f2 : Addr) (C : Addr) : Prop where
  opq : PySem.W.nsIn K PySem.cStatics "thirdparty.any" = some none
  fnd : PySem.W.ks_superIn K C D m = some (some (.ref f2))
  ty : PySem.W.typeIn K (.ref f2) = some (.type "function")
  fn : PySem.W.fnIn K f2 = true
  cls : (PySem.W.clsIn K C).isSome = true
  mro : PySem.W.mroIn K C (.ref D) = some true
def tSupM (Cs : List Addr) (sp : Sp) (E : XK) (t : TA) : TE := fun σ H Q => ∃ a C dx fs, σ[0]? = some (some (.ref a)) ∧ H a = some (.ins C dx fs) ∧ C ∈ Cs ∧ t σ H fun vs H1 => sp (.ref a :: vs) H1 Q E
section
variable {X : Cx} {D f2 : Addr} {Cs : List Addr} {m : Str} {k : Nat} {fd2 : FuncData} {ps2 : List Str} {sp : Sp} {E : XK} {body : List Stmt} {p0 p1 apos pos pos2 : Pos} {e : Expr} {es : List Expr} {ta : TA}
theorem psa_supM (T : SupT X D) (S : ∀ C ∈ Cs, SupM X.K m D f2 C) (F : FnOk X.prog X.w X.K X.mg X.base (L2.CX X.prog X.w) k f2 fd2 ps2 sp) (hr : Room k X.A) (hb : Binds X.K fd2 ps2 []) (hx : Passes (L2.CX X.prog X.w) X E) (ha : PA X (e :: es) ta) (hmc : (m == ("__class__" : Str)) = false := by decide) {pl : Sem Bool}
    (hc : eval (.Call (.Attribute (.Call (.Name "super" p0) [] [] p1) m apos) (e :: es) [] pos) X.env = (do
      let ov ← attributeBase (.Call (.Name "super" p0) [] [] p1) m X.env (eval (.Call (.Name "super" p0) [] [] p1) X.env)
      standAt apos.atName
      let (f, first) ← holding [ov] (getMethod ov m pl)
      callWith pos f first (backTo pos (starEach (e :: es) X.env)) []) := by rfl)
    (hi : interactive X.env = false := by rfl) (hs : swapsWith (.Call (.Attribute (.Call (.Name "super" p0) [] [] p1) m apos) (e :: es) [] pos) none pos2.line X.env = pure false := by rfl)
    (he : starEach (e :: es) X.env = (false, eval e X.env) :: starEach es X.env := by rfl) (hpl : (backTo pos (starEach es X.env)).any (·.1) = false := by rfl) :
    PSA X (.func body X.env) (.Expr (.Call (.Attribute (.Call (.Name "super" p0) [] [] p1) m apos) (e :: es) [] pos) pos2) (tDrop (tSupM Cs sp E ta)) := by
  refine ⟨fun pins s σ H K I h => ?_⟩
  obtain ⟨a, C, dx, fs, hσ, ea, hC, q⟩ := h
  obtain ⟨f, cc, cda, fd, ar, vs, file, tf, oc, ccl, cl, od, cdd, cld, osl, ccs, csl, cdD, z1, z2, z3, z4, z5, z6, z7, z8, z9, z10, z11, z12⟩ := T.ex
  obtain ⟨opq, fnd, ty, fnn, cls, mro⟩ := S C hC
  obtain ⟨mA, J0, _⟩ := ins_get I.hok ea
  obtain ⟨odx, J, _⟩ := J0.look
  obtain ⟨cd, hcl⟩ := Option.isSome_iff_exists.mp cls
  refine ks_wpAt_Expr_any (ks_wpAt_MethodCall (sup_base I T.ks T.kc hmc z1 z2 z3 z4 z5 z6 z7 T.top T.mg z8 z9 z10 z11 z12 hσ J mro fun h1 o1 k1 => ?_) hc) hi hs
  have KX : X.K.In h1 := I.kIn.keeps k1
  obtain ⟨hp, g, d, t, os⟩ := s
  obtain ⟨of, hof, hofc⟩ : ∃ of, h1.get? f2 = some of ∧ of.cls = .type "function" := by
    have ht' : (X.K.lookup f2).map (·.cls) = some (.type "function") := ty
    cases z : X.K.lookup f2 with
    | none => rw [z] at ht'; cases ht'
    | some of => rw [z] at ht'; exact ⟨of, KX _ _ z, Option.some.inj ht'⟩
  have hf := fnd
  unfold PySem.W.ks_superIn at hf
  rw [hcl] at hf
  refine ks_wpAny_getMethod_super o1 (PySem.W.looks_opaque KX opq) (l₀ := cd.mro) (fun A Q E s k q => wpAny_bind ((PySem.W.looks_clsIn KX hcl) A _ E s k (wpAny_pure q))) rfl KX hf hof hofc (PySem.W.ks_ne I.kIn J hcl) hmc ?_
  have kk : ∀ b o, hp.get? b = some o → (h1.push { cls := .type "method", data := .fields #[.ref f2, .ref a] }).get? b = some o := fun b o z => Heap.get?_push_of_some _ (k1 b o z)
  have hu : (h1.push { cls := .type "method", data := .fields #[.ref f2, .ref a] }).get? h1.objs.size = some { cls := .type "method", data := .fields #[.ref f2, .ref a] } := Heap.get?_push_at rfl rfl
  have szu : hp.objs.size ≤ h1.objs.size := Nat.le_of_lt (Heap.lt_size o1)
  have I2 : Inv X ((h1.objs.size, { cls := .type "method", data := .fields #[.ref f2, .ref a] }) :: pins) σ H ⟨h1.push { cls := .type "method", data := .fields #[.ref f2, .ref a] }, g, d, t + 1, os⟩ := by
    have z : Inv X pins σ H ⟨h1.push { cls := .type "method", data := .fields #[.ref f2, .ref a] }, g, d, t + 1, os⟩ := I.kept (t' := t + 1) kk
    refine z.pins_of fun p hp' => ?_
    rcases List.mem_cons.mp hp' with e | hp'
    · subst e
      have hl := I.lt
      refine ⟨hu, I.hok.fresh szu, fun y => ?_, I.nofs szu, fun v y => ?_⟩
      · have y : h1.objs.size = X.env.locals := y
        have hl : X.env.locals < hp.objs.size := hl
        rw [← y] at hl
        exact absurd (Nat.lt_of_lt_of_le hl szu) (Nat.lt_irrefl _)
      · cases y
    · exact z.pin p (List.mem_append_right _ hp')
  rw [he]
  refine PySem.W.callWith_of (P := PySem.W.MethP X.K h1.objs.size f2 (.ref a)) (by show ((false || (backTo pos (starEach es X.env)).any (·.1)) || false) = false; rw [hpl]; rfl) (PySem.W.keeps_M fnn) ?_
  have hsp := ha.run pos _ _ σ H _ I2 q
  rw [he] at hsp
  refine PySem.Calls.evalArgs_plain (wpAny_mono hsp (fun us s2 h2 => ?_) fun _ _ z => z)
  obtain ⟨ws, H2, I3, rw', q2⟩ := h2
  have pu := (I3.pin (h1.objs.size, { cls := .type "method", data := .fields #[.ref f2, .ref a] }) (List.mem_append_right _ List.mem_cons_self)).1
  refine ⟨⟨pu, I3.kIn⟩, ?_⟩
  have I4 : Inv X pins σ H2 s2 := I3.pins_of fun p hp' => I3.pin p (by
    rcases List.mem_append.mp (List.mem_append_right X.pn hp') with z | z
    · exact List.mem_append_left _ z
    · exact List.mem_append_right _ (List.mem_cons_of_mem _ z))
  have r2 : Vals (V.ref a :: ws) (Value.ref a :: us) := .cons rfl rw'
  have hl : (Value.ref a :: us).length = ps2.length := r2.length.symm.trans (F.len _ _ _ _ q2)
  have b := hb s2 (Value.ref a :: us) I4.kIn (by rw [List.append_nil]; exact hl)
  rw [List.append_nil] at b
  refine wpAny_call (PySem.W.method_call pu (codeAny_mono (F.run X.A X.stack s2 H2 ⟨Value.ref a :: us, []⟩ (Value.ref a :: us) _ _ E hr I4.env0 b r2 q2) fun r s' hq => ?_))
  cases r with
  | error e => exact hx pins σ H2 s2 e s' I4 hq
  | ok fl =>
    cases fl with
    | ret u =>
      obtain ⟨v, H3, I5, rv, q3⟩ := I4.after hq
      exact ⟨σ, H3, I5, q3⟩
    | next | brk | cont => exact False.elim hq
end

/-! ### a def that says super(), by its body; defaults -/
theorem ok_bodyS {P : Program} {w : World} {K : PySem.W.Frag} {mg : Str → Option Value} {base : Heap} {x qual : Str} {st : Stmt} {f D : Addr} {fd : FuncData} {N ps : List Str} {n m k : Nat} {t : XK → TS} {ar : Arg} (F : FunS P K x qual st f fd D) (S : FnScS N ps (defScope st)) (hn : N.length = n) (hm : ps.length = m)
    (ha : ((defArgs st).posonlyargs ++ (defArgs st).args).head? = some ar) (hka : (defScope st).names.lookup ar.arg = some .local) (hN : N[0]? = some ar.arg) (hks : (defScope st).names.lookup ("super" : Str) = some .globalImplicit) (hkc : (defScope st).names.lookup ("__class__" : Str) = some .free)
    (htop : (P.main.scope.names.lookup ("super" : Str)).isSome = false) (hmg : mg "super" = none)
    (h : ∀ (cdv : Value) (cc : Addr) (A : Around) (outer : List Env) (s : Shared) (H : Hp) (E : XK), Room k (A.deeper (ksEnv qual (defScope st) s.heap.objs.size f cdv cc)) → SupT (cxS P w K mg base N qual (defScope st) f cdv cc A outer s H E) D →
      PSsA (cxS P w K mg base N qual (defScope st) f cdv cc A outer s H E) (.func (defBody st) (ksEnv qual (defScope st) s.heap.objs.size f cdv cc)) (defBody st) (t E)) :
    FnOk P w K mg base (L2.CX P w) (k + 1) f fd ps (spB n m t) := by
  subst hn
  subst hm
  exact F.ok S ha hka hN hks hkc htop hmg (fun vs H Q E q => q.1) fun cdv cc A outer s H vs Q E hr T q => ⟨t E, h cdv cc A outer s H E hr T, q.2⟩
theorem passS {P : Program} {w : World} {K : PySem.W.Frag} {mg : Str → Option Value} {base : Heap} {N : List Str} {qual : Str} {scope : Scope} {f cc : Addr} {cd : Value} {A : Around} {outer : List Env} {s : Shared} {H : Hp} {E : XK} :
    Passes (L2.CX P w) (cxS P w K mg base N qual scope f cd cc A outer s H E) E := passes_call (takes_of rfl rfl rfl rfl) fun _ _ _ _ h => h
/-- n values are written, the others are the defaults ds -/
theorem binds_dfl {K : PySem.W.Frag} {fd : FuncData} {ps : List Str} {T : Addr} {o : Obj} {its : Array Value} {n j : Nat} {ds : List Value} (lT : K.lookup T = some o) (oT : o.data = .seq its j) (hn : n + ds.length = ps.length)
    (h : ∀ us : List Value, us.length = n → ∃ k, bindArgs fd ⟨us, []⟩ = seqItems? (.ref T) >>= k ∧ k (some its) = pure (ps.zip (us ++ ds))) : Binds K fd ps ds := fun s us X hl => by
  have l2 : us.length = n := by
    rw [List.length_append] at hl
    omega
  obtain ⟨k, e1, e2⟩ := h us l2
  refine BindsTo.of_looks fun M => ?_
  rw [e1]
  exact looks_items X lT oT (.of_pure e2)

/-! ### tables, from the text's facts -/
theorem md_mk {X : Cx} {m : Str} {k k' : Nat} {C f : Addr} {fd : FuncData} {ps : List Str} {sp : Sp} (c : Cls X.K C) (hm : Meth X.K C m f) (F : FnOk X.prog X.w X.K X.mg X.base (L2.CX X.prog X.w) k' f fd ps sp) (hk : k' ≤ k) (hb : Binds X.K fd ps []) : MD X m k (C, sp) :=
  ⟨f, fd, ps, c, hm, F.mono hk, hb⟩
theorem pd_mk {X : Cx} {m : Str} {k k' : Nat} {C f : Addr} {fd : FuncData} {ps : List Str} {sp : Sp} (c : Cls X.K C) (hp : ∃ pa, PropOf X.K C m pa f) (F : FnOk X.prog X.w X.K X.mg X.base (L2.CX X.prog X.w) k' f fd ps sp) (hk : k' ≤ k) (hb : Binds X.K fd ps []) : PD X m k (C, sp) := by
  obtain ⟨pa, hp⟩ := hp
  exact ⟨pa, f, fd, ps, c, hp, F.mono hk, hb⟩
theorem fd_mk {K : PySem.W.Frag} {f : Str} {C : Addr} (c : Cls K C) (n : NoAttr K C f) : FD K f C := ⟨c, n⟩
theorem cls_some {K : PySem.W.Frag} {C : Addr} (h : PySem.W.hasDictIn K C = true) : (PySem.W.clsIn K C).isSome = true := by
  obtain ⟨cd, hc, _⟩ := PySem.W.any_some h
  rw [hc]
  rfl
theorem funS_mk {P : Program} {K : PySem.W.Frag} {x qual : Str} {st : Stmt} {f D cc cda : Addr} {oc cl ccl dV kV doc pm ct : Value} {od cld cdd an : Option Addr} {osl csl ccs : Array (Option Value)} {vs : Array Value} {file : Str} {tf : Tok}
    (lk : K.lookup f = some ⟨oc, od, .func (ksFn x qual (defArgs st) (defBody st) (defScope st) dV kV doc pm an (.ref cda) ct cc), osl⟩) (hc : PySem.W.codeIn K (.ref cda) qual = true) (hcc : K.lookup cc = some ⟨cl, cld, .cell (some (.ref D)), csl⟩)
    (hcode : K.lookup cda = some ⟨ccl, cdd, .fields vs, ccs⟩) (hv : vs[2]? = some (.str file tf)) (hf : ((P.main.file : Str) == file) = true) (hd : PySem.W.hasDictIn K D = true) (kp : PySem.W.keepIn K (.ref f) = true) :
    FunS P K x qual st f (ksFn x qual (defArgs st) (defBody st) (defScope st) dV kV doc pm an (.ref cda) ct cc) D := by
  obtain ⟨cd, hcl⟩ := Option.isSome_iff_exists.mp (cls_some hd)
  exact ⟨⟨oc, cl, ccl, dV, kV, doc, pm, ct, od, cld, cdd, an, osl, csl, ccs, cda, cc, vs, file, tf, cd, rfl, lk, hc, hcc, hcode, hv, hf, hcl⟩, kp⟩

/-! ### o[i] += e -/
def rGetL : V → V → Hp → VK → Prop := fun x y H Q => ∃ p xs i v, x = .ref p ∧ y = .int i ∧ H p = some (.lst xs) ∧ atI xs i = some v ∧ Q v H
theorem get_listI {X : Cx} : PGet X rGetL := by
  intro pins s σ H x y v u Q I rx ry h
  obtain ⟨p, xs, i, z, rfl, rfl, hq, he, q⟩ := h
  cases rx
  obtain ⟨t, rfl⟩ := ry
  obtain ⟨its, r, pl, hz⟩ := I.list (sqL (S := SK X.K) rfl (.inl (.inl hq)))
  obtain ⟨j, h1, h2, h3, h4, h5⟩ := atI_get he
  obtain ⟨w, ew, rw'⟩ := r.get h2
  have hl := r.length
  have hn := line63
  have fin : EP X pins σ Q w s := ⟨z, H, I, rw', q⟩
  by_cases h0 : 0 ≤ i
  · have hj : i.toNat = j := by
      rw [seqIndex_of h0 h5] at h1
      exact Option.some.inj h1
    exact wpAny_getItem_list pl.isList h0 (by omega) (by rw [hj]; simpa using ew) fin
  · have hj : (i + (its.toArray.size : Int)).toNat = j := by
      rw [seqIndex_neg (by omega) h4] at h1
      rw [List.size_toArray, ← hl]
      exact Option.some.inj h1
    exact wpAny_getItem_list_neg pl.isList (by omega) (by rw [List.size_toArray] <;> omega) (by omega) (by rw [hj]; simpa using ew) fin
theorem ps_augSI {X : Cx} {o i e : Expr} {to ti te : TE} {tip : TIp} {op : Operator} {pos tpos : Pos} (ho : PE X o to) (hi : PE X i ti) (he : PE X e te) (hp : PIp X op tip)
    (ha : ∀ ov iv new, augStore i ov iv new = (do holding [new, ov, iv] (setItem ov iv new); release [new, ov, iv] []; pure .next) := by intros; rfl) : PS X (.AugAssign (.Subscript o i tpos) op e pos) (tAugS to ti te rGetL tip rSetL) := ps_augS ho hi get_listI he hp set_list ha
end Y

/-! enumerate over a list or a tuple; isinstance with a tuple of types; insert; messages that are f-strings. -/
namespace Y
open PySem PySem.Spec PyProof.Rows L2

section
open Builtin
theorem meets_enum1 {v : Value} {o : Obj} {H : Heap → Prop} (B : Begins v o H) :
    Meets (Builtin.«enumerate.__new__» ⟨[.type "enumerate", v], []⟩) (fun _ R s => H s.heap ∧
      R (.ok (.ret (.ref (s.heap.push o).objs.size))) { s with heap := (s.heap.push o).push { cls := .type "enumerate", data := .fields #[.none, .bool false, .ref s.heap.objs.size, rawInt 0, .none, .none] } }) :=
  .of_wp fun prog w A R s h => by
    obtain ⟨hp, g, d, tk, os⟩ := s
    obtain ⟨h1, h⟩ := h
    have hsub := sub_enumerate
    have q1 : ∀ {A' : Around} {E : Value → Shared → Prop} {Q : Value → Shared → Prop}, Q (.ref hp.objs.size) ⟨hp.push o, g, d, tk, os⟩ → wpAny (model prog w) A' (pyIter v) Q E ⟨hp, g, d, tk, os⟩ :=
      fun q => B.iter prog w _ _ ⟨hp, g, d, tk, os⟩ _ h1 q
    wp_walk using q1
    refine wpAny_stack_any fun st => wpAny_pure ?_
    split
    · rename_i c _ _ _ _ _
      cases (c == Value.type "enumerate")
      · wp_walk using q1
        exact ⟨_, rfl, h⟩
      · wp_walk using q1
        exact ⟨_, rfl, h⟩
    · wp_walk using q1
      exact ⟨_, rfl, h⟩
end
theorem enum1_begins {prog : Program} {w : World} {A : Around} {E : Value → Shared → Prop} {s : Shared} {v : Value} {o : Obj} {H : Heap → Prop} {Q : Value → Shared → Prop} (B : Begins v o H) (h1 : H s.heap)
    (h : ∀ h', IsEnum h' (s.heap.objs.size + 1) s.heap.objs.size 0 .none → h'.get? s.heap.objs.size = some o → h'.objs.size = s.heap.objs.size + 2 →
      (∀ b o, s.heap.get? b = some o → h'.get? b = some o) → Q (.ref (s.heap.objs.size + 1)) { s with heap := h' }) :
    wpAny (model prog w) A (call (.type "enumerate") [v]) Q E s := by
  refine callType_new F.called_enumerate (by decide) (F.typeCall_enumerate_1 _) (F.newCall_enumerate_1 _) (fun obj => F.args_object_init_2 obj _) F.entry_enumerate_new
    (meets_enum1 B) ⟨h1, ?_⟩
  have hz : (s.heap.push o).objs.size = s.heap.objs.size + 1 := Heap.size_push ..
  show _ ∧ _
  rw [hz]
  have he : IsEnum ((s.heap.push o).push { cls := .type "enumerate", data := .fields #[.none, .bool false, .ref s.heap.objs.size, rawInt 0, .none, .none] }) (s.heap.objs.size + 1) s.heap.objs.size 0 .none := by
    have := Heap.get?_push_size (s.heap.push o) (o := { cls := .type "enumerate", data := .fields #[.none, .bool false, .ref s.heap.objs.size, rawInt 0, .none, .none] }) rfl
    rw [hz] at this
    exact this
  exact ⟨⟨_, he, rfl⟩, h _ he (Heap.get?_push_of_some _ (Heap.get?_push_size _ B.free)) (by rw [Heap.size_push, hz]) fun b o x => Heap.get?_push_of_some _ (Heap.get?_push_of_some _ x)⟩
def IteT (K : PySem.W.Frag) (a : Addr) : It :=
  ⟨fun i H => ∃ (xs : List V) (x : V), SqT K H a xs ∧ xs[i]? = some x, fun i H v H' => ∃ T x, v = .ref T ∧ H T = none ∧ H' = upd H T (.tup [.int (i : Nat), x]) ∧ ∀ xs, SqT K H a xs → xs[i]? = some x, fun i H => ∃ xs : List V, SqT K H a xs ∧ xs.length = i⟩
theorem turn_enumT {P : Program} {w : World} {K : PySem.W.Frag} {elts : List Expr} {kk : Nat} {tpos : Pos} (a e it : Addr) :
    Turn P w K (.Tuple elts kk tpos) (IteT K a) [e, it] e (fun i h => (∃ old, IsEnum h e it ((i : Nat) : Int) old) ∧ h.IsTupleIter it a i ∧ e ≠ it ∧ a ≠ it ∧ e ≠ a) where
  mem := by simp
  obj := fun i h st b hb => by
    obtain ⟨⟨old, he⟩, ⟨o, ho, hc, hd⟩, _⟩ := st
    have e' : b = e ∨ b = it := by simpa using hb
    rcases e' with z | z
    · rw [z]; exact ⟨_, he, fun v q => nomatch q⟩
    · rw [z]; exact ⟨o, ho, fun v q => by rw [hd] at q; cases q⟩
  keep := fun i h h' st k => by
    obtain ⟨⟨old, he⟩, ⟨o, ho, hc, hd⟩, hne⟩ := st
    exact ⟨⟨old, k e (by simp) _ he⟩, ⟨o, k it (by simp) o ho, hc, hd⟩, hne⟩
  item := by
    intro X hP hw hK hc i pins s σ H E I hf st hg
    subst hP hw hK
    obtain ⟨⟨old, he⟩, hit, hne, hna, hea⟩ := st
    obtain ⟨xs, x, hq, hx⟩ := hg
    obtain ⟨its, rv, p, hz⟩ := I.tuple hq
    have hi : i < xs.length := (List.getElem?_eq_some_iff.mp hx).1
    have hl := rv.length
    have hel : e < s.heap.objs.size := Heap.lt_size he
    have hil : it < s.heap.objs.size := by obtain ⟨_, q, _⟩ := hit; exact Heap.lt_size q
    have D := Draws.tuple (prog := X.prog) (w := X.w) (A := X.A.in1) (I.ok.hd hc) it a hna its.toArray
    refine wpAny_pyNext_enum_itemD D he ⟨hit, p⟩ (by rw [List.size_toArray]; omega) hne (by simp [hne, hea]) fun u h' tk hu ho hst hT hsz hk => ?_
    have ru : RelV x u := by
      obtain ⟨u', hu', ru⟩ := rv.get hx
      have hu2 : its[i]? = some u := by simpa using hu
      rw [hu'] at hu2
      cases hu2
      exact ru
    refine ⟨_, rfl, wpAny_letOwnedTupleGo_enum (s := { s with heap := h', toks := tk + 1 }) ho fun h'' he' sb => ?_⟩
    have hT2 : h''.get? s.heap.objs.size = some { cls := .type "tuple", data := .seq #[.int i tk, u] } := (sb.2 _ (Nat.ne_of_gt hel)).trans hT
    have new : ObjOk X.prog X.w (upd H s.heap.objs.size (.tup [.int (i : Nat), x])) h'' s.heap.objs.size (.tup [.int (i : Nat), x]) :=
      ⟨by show 2 ≤ sizeLine; decide, [.int i tk, u], .cons ⟨_, rfl⟩ (.cons ru .nil), ⟨_, hT2, rfl, _, rfl⟩⟩
    have I1 : Inv X pins σ (upd H s.heap.objs.size (.tup [.int (i : Nat), x])) { s with heap := h'', toks := tk + 1 } :=
      I.turnedNew (ch := [e, it]) (fun b ob hb q => (sb.2 b (fun z => hb (by simp [z]))).trans (hk b ob (fun z => hb (by simp [z])) (fun z => hb (by simp [z])) q)) hf (Nat.le_refl _) new
    refine ⟨.ref s.heap.objs.size, _, I1, rfl, ⟨_, x, rfl, I.hok.fresh (Nat.le_refl _), rfl, fun ys hy => by rw [I.tuple_inj hy hq]; exact hx⟩, ⟨⟨u, ?_⟩, ?_, hne, hna, hea⟩, fun b hb => ?_⟩
    · have e1 : ((i + 1 : Nat) : Int) = (i : Int) + 1 := by omega
      rw [e1]; exact he'
    · obtain ⟨o, ho1, ho2, ho3⟩ := hst.1
      exact ⟨o, (sb.2 it (Ne.symm hne)).trans ho1, ho2, ho3⟩
    · have hb' : b < s.heap.objs.size := by
        have e' : b = e ∨ b = it := by simpa using hb
        rcases e' with z | z
        · rw [z]; exact hel
        · rw [z]; exact hil
      rw [upd_ne (Nat.ne_of_lt hb')]
      exact (hf b hb).1
  done := by
    intro X hP hw hK hc i pins s σ H E I hf st hg
    subst hP hw hK
    obtain ⟨⟨old, he⟩, hit, hne, hna, hea⟩ := st
    obtain ⟨xs, hq, hx⟩ := hg
    obtain ⟨its, rv, p, hz⟩ := I.tuple hq
    obtain ⟨f0, f1, f2, f3, f4, f5⟩ := hf it (by simp)
    have hl := rv.length
    have D := Draws.tuple (prog := X.prog) (w := X.w) (A := X.A.in1) (I.ok.hd hc) it a hna its.toArray
    have hn : its.toArray.size = i := by rw [List.size_toArray]; omega
    exact wpAny_pyNext_enum_endD D he (by rw [hn]; exact ⟨hit, p⟩) fun h' eb => ⟨rfl, I.turned (t' := s.toks) (fun b o hb q => eb b o hb q) f0 f1 f3 f4 f5⟩
  self := fun A i s Q E st h => let ⟨⟨_, he⟩, _⟩ := st; wpAny_pyIter_enum he h
/-- enumerate(e), e a list or a tuple -/
def iEn (K : PySem.W.Frag) (te : TE) : TI := fun σ H R => te σ H fun x H1 => ∃ a, x = .ref a ∧ (((∃ xs, SqL K H1 a xs) ∧ R (Ite K a) H1) ∨ ((∃ xs, SqT K H1 a xs) ∧ R (IteT K a) H1))
theorem pi_en {X : Cx} {e : Expr} {te : TE} {p pos tpos : Pos} {elts : List Expr} {kk : Nat} (hg : Gl X "enumerate") (hm : X.mg "enumerate" = none) (he : PE X e te) (hs : starEach [e] X.env = (false, eval e X.env) :: starEach [] X.env := by rfl) (hs2 : starEach [e] X.env = [(false, eval e X.env)] := by rfl) :
    PI X (.Tuple elts kk tpos) (.Call (.Name "enumerate" p) [e] [] pos) (iEn X.K te) := by
  refine ⟨fun pins s σ H R I h => ?_⟩
  refine Call_ (ld_blt I hg hm boot_enumerate (PyProof.Rows.callWith_type1 (thn ((pa_cons (pe_mo he) pa_nil hs).run pos pins s σ H (fun vs H1 => ∃ x, vs = [x] ∧ ∃ a, x = .ref a ∧ (((∃ xs, SqL X.K H1 a xs) ∧ R (Ite X.K a) H1) ∨ ((∃ xs, SqT X.K H1 a xs) ∧ R (IteT X.K a) H1))) I ⟨_, h, fun v H' q => ⟨v, rfl, q⟩⟩) fun us s1 ⟨vs, H1, I1, r1, q1⟩ => ?_) hs2 rfl))
  obtain ⟨x, rfl, a, rfl, q⟩ := q1
  cases r1 with
  | cons r rr =>
    cases rr
    cases r
    have fp : ∀ {b : Addr}, b ∈ [s1.heap.objs.size + 1, s1.heap.objs.size] → FpOk X pins H1 b := fun {b} hb => by
      have e' : b = s1.heap.objs.size + 1 ∨ b = s1.heap.objs.size := by simpa using hb
      have hle : s1.heap.objs.size ≤ b := by
        rcases e' with z | z
        · rw [z]; exact Nat.le_add_right _ _
        · rw [z]; exact Nat.le_refl _
      exact I1.fpOk hle (I1.hok.fresh hle)
    rcases q with ⟨⟨xs, hq⟩, q⟩ | ⟨⟨xs, hq⟩, q⟩
    · obtain ⟨its, rv, p', hz⟩ := I1.list hq
      refine call_enumerate_list p'.isList fun h' he hit hsz hk => wpAny_pyIter_enum he ?_
      have I2 : Inv X pins σ H1 { s1 with heap := h' } := I1.kept (t' := s1.toks) hk
      exact ⟨s1.heap.objs.size + 1, [s1.heap.objs.size + 1, s1.heap.objs.size], _, _, H1, rfl, I2, turn_enum a (s1.heap.objs.size + 1) s1.heap.objs.size, ⟨⟨.none, he⟩, hit, Nat.succ_ne_self _⟩, fun b hb => fp hb, q⟩
    · obtain ⟨its, rv, p', hz⟩ := I1.tuple hq
      have pT : s1.heap.IsTuple a its.toArray := p'
      have hal : a < s1.heap.objs.size := by obtain ⟨o, ho, _⟩ := pT; exact Heap.lt_size ho
      refine enum1_begins (begins_tuple a its.toArray) pT fun h' he hit hsz hk => wpAny_pyIter_enum he ?_
      have I2 : Inv X pins σ H1 { s1 with heap := h' } := I1.kept (t' := s1.toks) hk
      exact ⟨s1.heap.objs.size + 1, [s1.heap.objs.size + 1, s1.heap.objs.size], _, _, H1, rfl, I2, turn_enumT a (s1.heap.objs.size + 1) s1.heap.objs.size, ⟨⟨.none, he⟩, ⟨_, hit, rfl, rfl⟩, Nat.succ_ne_self _, Nat.ne_of_lt hal, Nat.ne_of_gt (Nat.lt_succ_of_lt hal)⟩, fun b hb => fp hb, q⟩
theorem walk_enumT {K : PySem.W.Frag} {a : Addr} {xs : List V} : Walk (IteT K a) xs.length (fun H => SqT K H a xs) (YPair (fun i => some (.int (i : Nat))) (fun i => xs[i]?)) := by
  refine ⟨fun i _ hi q => ⟨xs, xs[i], q, by simp [hi]⟩, fun _ q => ⟨xs, q, rfl⟩, fun i H v H' _ q y => ?_⟩
  obtain ⟨T, x, h1, h2, h3, h4⟩ := y
  exact ⟨T, .int (i : Nat), x, h1, h2, h3, rfl, h4 xs q⟩
/-- the turns of for i, x in enumerate(p); the pair itself is a new tuple -/
def EnS (S : Sta) (gi gj : TG) (s1 : TS) (nx : L2.St → Hp → Prop) (rt : VK) (x : V) (σ : L2.St) (H : Hp) : Prop := ∃ p xs, x = .ref p ∧ ∃ Pv : Nat → L2.St → Hp → Prop, Pv 0 σ H ∧ Stays S p xs (fun i H => ∃ σ, Pv i σ H) ∧
  (∀ (i : Nat) y σ H T, xs[i]? = some y → Pv i σ H → H T = none → gi (.int (i : Int)) σ (upd H T (.tup [.int (i : Int), y])) fun σ' H' => gj y σ' H' fun σ2 H2 => s1 ⟨Pv (i + 1), rt, nx, Pv (i + 1)⟩ σ2 H2) ∧ ∀ σ H, Pv xs.length σ H → nx σ H
def sForEn (S : Sta) (te : TE) (gi gj : TG) (tb : TS) : TS := fun D σ H => te σ H fun x H1 => EnS S gi gj tb D.nx D.rt x σ H1
theorem gpair {gj : TG} {z : V} {Q : L2.St → Hp → Prop} : (fun σ' H' => gCons gj gNil [z] σ' H' Q) = fun σ' H' => gj z σ' H' Q := by
  funext σ' H'
  have e : (fun σ2 H2 => gNil [] σ2 H2 Q) = Q := by
    funext σ2 H2
    exact propext ⟨And.right, fun h => ⟨rfl, h⟩⟩
  refine propext ⟨fun ⟨v, r, e1, h⟩ => ?_, fun h => ⟨z, [], rfl, ?_⟩⟩
  · cases e1
    rw [e] at h
    exact h
  · rw [e]
    exact h
theorem ps_forEn {X : Cx} {S : Sta} {e ea eb : Expr} {te : TE} {gi gj : TG} {tb : TS} {body : List Stmt} {pos p pos2 tpos : Pos} {kk : Nat} (st : S = SK X.K) (hp : PassesOwn (model X.prog X.w) X.A X.env X.xe) (hc : X.calm = true) (hgl : Gl X "enumerate") (hm : X.mg "enumerate" = none) (he : PE X e te)
    (hgi : PG X ea gi) (hgj : PG X eb gj) (hb : PSs X body tb) (hs : starEach [e] X.env = (false, eval e X.env) :: starEach [] X.env := by rfl) (hs2 : starEach [e] X.env = [(false, eval e X.env)] := by rfl)
    (hs' : ∀ x, foldedSetIterable (.Call (.Name "enumerate" p) [e] [] pos2) X.env x = pure x := by intro _; rfl)
    (h1 : (assignEach [ea, eb] X.env).map (·.2) = assign ea X.env :: (assignEach [eb] X.env).map (·.2) := by rfl) (h2 : (assignEach [eb] X.env).map (·.2) = assign eb X.env :: (assignEach [] X.env).map (·.2) := by rfl)
    (h3 : (assignEach [ea, eb] X.env).length = 2 := by rfl) (h4 : (assignEach [ea, eb] X.env).findIdx? (·.1) = none := by rfl) :
    PS X (.For (.Tuple [ea, eb] kk tpos) (.Call (.Name "enumerate" p) [e] [] pos2) body [] pos) (sForEn S te gi gj tb) :=
  ps_imp (ps_for hp hc (pi_en hgl hm (pe_mo he) hs hs2) (pg_tup hc (pgs_cons hgi (pgs_cons hgj pgs_nil h2) h1) h3 h4) hb hs') fun D σ H q => ⟨_, q, fun x H1 ⟨a, xs, e, Pv, h0, hst, ht, hd⟩ => by
    refine ⟨a, e, ?_⟩
    have tn : ∀ (i : Nat) x σ H H', i < xs.length → Pv i σ H → YPair (fun i => some (.int (i : Nat))) (fun i => xs[i]?) i H x H' → gTup X.K 2 (gCons gi (gCons gj gNil)) x σ H' fun σ2 H2 => tb { D with nx := Pv (i + 1), ct := Pv (i + 1), bk := D.nx } σ2 H2 := by
      rintro i x σ H H' hi p ⟨T, y, z, rfl, hT, rfl, h5, h6⟩
      have e5 : V.int (i : Nat) = y := by injection h5
      subst e5
      exact ⟨T, [.int (i : Nat), z], rfl, .inl (.inl upd_same), rfl, .int (i : Nat), [z], rfl, by
        have h := ht i z σ H T h6 p hT
        rw [← gpair] at h
        exact h⟩
    rcases hst with z | z
    · exact .inl ⟨⟨xs, sqL st (z 0 H1 (Nat.zero_le _) ⟨σ, h0⟩)⟩, for_it walk_enum Pv h0 (fun i σ H hi p => sqL st (z i H hi ⟨σ, p⟩)) tn hd⟩
    · exact .inr ⟨⟨xs, sqT st (z 0 H1 (Nat.zero_le _) ⟨σ, h0⟩)⟩, for_it walk_enumT Pv h0 (fun i σ H hi p => sqT st (z i H hi ⟨σ, p⟩)) tn hd⟩⟩
/-! ### isinstance(x, (T1, T2, ..)) of built-in types -/
inductive Tys : List V → List String → Prop
  | nil : Tys [] []
  | cons {n : String} {vs : List V} {ns : List String} (h : Tys vs ns) : Tys (.ty n :: vs) (n :: ns)
def rIsT : List V → Hp → VK → Prop := fun xs H Q => ∃ x p vs ns t, xs = [x, .ref p] ∧ H p = some (.tup vs) ∧ Tys vs ns ∧ TyN H x t ∧ (∀ n ∈ ns, kitB t n = some (isA t n)) ∧ Q (.bl (ns.any (isA t))) H
theorem Tys.cls : ∀ {vs : List V} {ns : List String}, Tys vs ns → Paired ClsV vs (ns.map Value.type)
  | _, _, .nil => .nil
  | _, _, .cons h => .cons (.ty _) h.cls
theorem kit_any {K : PySem.W.Frag} {t : String} : ∀ {ns : List String}, (∀ n ∈ ns, kitB t n = some (isA t n)) → PySem.W.kitAny K (.type t) (ns.map Value.type) = some (ns.any (isA t))
  | [], _ => rfl
  | n :: ns, h => by
    have h1 := kit_ty (K := K) (h n List.mem_cons_self)
    have h2 := kit_any (K := K) (ns := ns) fun m hm => h m (List.mem_cons_of_mem _ hm)
    refine kitAny_cons h1 (fun hb => ?_) fun hb => ?_
    · rw [h2, List.any_cons, hb, Bool.false_or]
    · rw [List.any_cons, hb, Bool.true_or]
theorem c_isT {X : Cx} : CallR X (.builtin "isinstance") rIsT := call_imp call_isiT fun xs H Q q => by
  obtain ⟨x, p, vs, ns, t, e, h, k, ty, ha, q⟩ := q
  exact ⟨x, p, vs, .type t, ns.map Value.type, ns.any (isA t), e, h, k.cls, ty.x, kit_any ha, q⟩

/-! ### xs.insert(i, y) -/
def rIns : V → List V → Hp → VK → Prop := fun x vs H Q => ∃ (l : Addr) (xs : List V) (i : Int) (y : V), x = .ref l ∧ vs = [.int i, y] ∧ H l = some (.lst xs) ∧ xs.length < sizeLine ∧ 0 ≤ i ∧ i < 2 ^ 63 ∧ Q .non (upd H l (.lst (xs.take i.toNat ++ [y] ++ xs.drop i.toNat)))
def eIns (te : TE) (ta : TA) : TE := fun σ H Q => te σ H fun x H1 => ∃ l, x = .ref l ∧ (∃ xs, H1 l = some (.lst xs)) ∧ ta σ H1 fun vs H2 => rIns x vs H2 Q
theorem pe_ins {X : Cx} {o e : Expr} {es : List Expr} {te : TE} {ta : TA} {apos cpos : Pos} (ho : PE X o te) (ha : PA X (e :: es) ta)
    (hbase : attributeBase o "insert" X.env (eval o X.env) = eval o X.env := by rfl)
    (hfew : ((backTo cpos (starEach (e :: es) X.env)).all (fun x => !x.1) && (backToKw cpos (keywordEach [] X.env)).all (fun x => x.1.isSome)
      && decide ((e :: es).length + ([] : List Keyword).length + (if ([] : List Keyword).isEmpty then 0 else 1) < 30)) = true := by rfl)
    (hline : (apos.endLine == cpos.line) = true := by rfl) (hs : starEach (e :: es) X.env = (false, eval e X.env) :: starEach es X.env := by rfl) (hplain : (backTo cpos (starEach es X.env)).any (·.1) = false := by rfl) :
    PE X (.Call (.Attribute o "insert" apos) (e :: es) [] cpos) (eIns te ta) :=
  pe_imp (pe_bm PySem.F.plainAttrs_list PySem.F.slot_list_insert PySem.F.type_list_insert mt_insert (pe_mo ho) ha hbase hfew hline hs hplain) fun σ H Q q =>
    ⟨_, q, fun x H1 ⟨l, e1, ⟨xs, hl⟩, q1⟩ => by subst e1; exact ⟨.inl ⟨rfl, _, .inl (.inl hl)⟩, q1⟩⟩

/-! ### messages: f-strings of texts and small numbers -/
def fmtOk : V → Prop
  | .int i => i.natAbs.log2 < 1920
  | .str y => y.length ≤ 100000
  | _ => False
def ShortE (t : TE) (σ : L2.St) (H : Hp) : Prop := ∀ Q : VK, (∀ y : Str, y.length ≤ 100000 → Q (.str y) H) → t σ H Q
theorem short_c {m : Str} {σ : L2.St} {H : Hp} (h : m.length ≤ 100000) : ShortE (tC (.str m)) σ H := fun Q k => k m h
theorem short_f {n : Nat} {v : V} {σ : L2.St} {H : Hp} (e : σ[n]? = some (some v)) (h : fmtOk v) : ShortE (tFmt (tVar n)) σ H := fun Q k => by
  refine ⟨v, e, ?_⟩
  cases v with
  | int i => exact .inr ⟨i, rfl, h, k _ (Nat.le_trans (int_text_len_1921 h) (by decide))⟩
  | str y => exact .inl ⟨y, rfl, by have h : y.length ≤ 100000 := h; rw [sizeLine_eq]; omega, k _ h⟩
  | _ => exact h.elim
theorem tjs_ok : ∀ {ts : List TE} {acc : Str} {σ : L2.St} {H : Hp} {Q : Str → Hp → Prop}, (∀ t ∈ ts, ShortE t σ H) → acc.length + 100000 * ts.length ≤ 16777216 → (∀ z, Q z H) → tJs ts acc σ H Q
  | [], acc, σ, H, Q, _, _, k => k acc
  | t :: ts, acc, σ, H, Q, h, hl, k => h t List.mem_cons_self _ fun y hy => by
    rw [List.length_cons] at hl
    have e : (acc ++ y).length = acc.length + y.length := Str.length_append ..
    exact ⟨y, rfl, by rw [e, sizeLine_eq]; omega, tjs_ok (fun t ht => h t (List.mem_cons_of_mem _ ht)) (by rw [e]; omega) k⟩
/-! ### errors whose message shows their field -/
def spExF (Cs : List Addr) (fs : List Str) : Sp := fun vs H Q E => (∀ y ∈ vs.tail, fmtOk y) ∧ spEx Cs fs vs H Q E
def tMkF (C : Addr) (fs : List Str) (ta : TA) : L2.St → Hp → XK → Prop := fun σ H Q => ta σ H fun vs H1 => (∀ y ∈ vs, fmtOk y) ∧ vs.length = fs.length ∧ ∀ d, H1 d = none → Q (.ref C) (some d) (upd H1 d (.xd (exFs fs vs)))
theorem mkF_of {C : Addr} {Cs : List Addr} {fs : List Str} {ta : TA} (hC : C ∈ Cs) (hl : fs.length ≤ 900) {σ : L2.St} {H : Hp} {Q : XK} (q : tMkF C fs ta σ H Q) : tMkO C (spExF Cs fs) [] (moA ta) σ H Q := by
  refine ⟨_, q, fun vs H1 ⟨g, e, h⟩ => ⟨by omega, fun a ha => ⟨by rw [List.append_nil]; exact g, a, C, vs, hC, by rw [List.append_nil], e, upd_same, fun d hd hne => ⟨rfl, d, exFs fs vs, upd_same, ?_, ?_, ?_⟩⟩⟩⟩
  · rw [upd_ne hne, upd_same]
  · rw [upd_ne hne] at hd
    exact hd
  · rw [upd_ne hne] at hd
    have e2 : upd (del (upd (upd (upd H1 a (exo a C none)) d (exd d (exFs fs vs))) a (exo a C (some d))) a) d (.xd (exFs fs vs)) = upd H1 d (.xd (exFs fs vs)) := by
      funext b
      by_cases hb : b = d
      · rw [hb, upd_same, upd_same]
      · rw [upd_ne hb, upd_ne hb]
        by_cases hba : b = a
        · rw [hba, del_same, ha]
        · rw [del_ne hba, upd_ne hba, upd_ne hb, upd_ne hba]
    rw [e2]
    exact h d hd
theorem pmk_exF {X : Cx} {CX : CXT} {x : Str} {C fI : Addr} {Cs : List Addr} {fs : List Str} {k : Nat} {fd : FuncData} {ps : List Str} {e : Expr} {es : List Expr} {ta : TA} {p pos : Pos} (T : OexC X.K C) (iC : PySem.W.findIn X.K (.ref C) "__init__" = some (some (.ref fI))) (tI : PySem.W.typeIn X.K (.ref fI) = some (.type "function"))
    (F1 : FnOk X.prog X.w X.K X.mg X.base CX k fI fd ps (spExF Cs fs)) (hC : C ∈ Cs) (hl : fs.length ≤ 900) (hr : Room (k + 1) X.A) (hb : Binds X.K fd ps []) (hx : Passes CX X (fun _ _ _ => False)) (hg : Gl X x) (hm : X.mg x = some (.ref C)) (ha : PA X (e :: es) ta)
    (hdb : (x == ("__debug__" : Str)) = false := by decide) (he : starEach (e :: es) X.env = (false, eval e X.env) :: starEach es X.env := by rfl) (hpl : (backTo pos (starEach es X.env)).any (·.1) = false := by rfl) :
    PMk X (.Call (.Name x p) (e :: es) [] pos) (tMkF C fs ta) :=
  pmk_imp (pmk_oex (dvs := []) (ds := []) T iC tI F1 hr hb .nil hx hg hm (pa_mo ha) hdb he hpl) fun _ _ _ q => mkF_of hC hl q
theorem exF {K : PySem.W.Frag} {Cs : List Addr} {D : Addr} {f : Str} {ts : List TE} (hl : ts.length ≤ 100) (hts : ∀ (a : V) (x : V) (H : Hp), fmtOk x → ∀ t ∈ ts, ShortE t [some a, some x] H) (h : ∀ C ∈ Cs, SupV K C D ∧ PySem.W.findIn K (.ref C) f = some none) {vs : List V} {H : Hp} {Q : VK} {E : XK} (q : spExF Cs [f] vs H Q E) {n x : Str} :
    tSeq (tDrop (tSupV K D (tCons (fun σ H Q => tJs ts Str.empty σ H fun out H1 => Q (.str out) H1) tNil))) (tOst K f (tVar 0) (tVar 1)) { nx := fun _ H' => Q .non H', rt := Q } (L2.start [n, x] vs) H := by
  obtain ⟨g, a, C, ys, hC, rfl, hl2, ea, q⟩ := q
  obtain ⟨V, na⟩ := h C hC
  cases ys with
  | nil => cases hl2
  | cons y ys =>
    cases ys with
    | cons _ _ => cases hl2
    | nil =>
      refine ⟨a, C, rfl, ea, V, ?_⟩
      refine tjs_ok (hts (.ref a) y H (g y List.mem_cons_self)) (by have : (Str.empty).length = 0 := rfl; omega) fun z => ?_
      exact ⟨by show 1 ≤ 1000; decide, ea, y, rfl, .ref a, rfl, a, C, rfl, V.ex, na, .inl ⟨ea, fun dx hd hne => q dx hd hne⟩⟩
theorem spExF_len {Cs : List Addr} {fs : List Str} (vs : List V) (H : Hp) (Q : VK) (E : XK) (q : spExF Cs fs vs H Q E) : vs.length = fs.length + 1 := spEx_len vs H Q E q.2
end Y

/-! isinstance of an instance; a class constant read at an instance; static tuples; keywords of a class; slices of texts; index. -/
namespace Y
open PySem PySem.Spec PyProof.Rows L2

/-! ### isinstance(o, D), o an instance of one of the table's classes -/
structure IsOb (K : PySem.W.Frag) (D : Addr) (p : Addr × Bool) : Prop where
  c : Cls K p.1
  ha : PySem.W.findIn K (.ref p.1) "__class__" = some (some (.builtin "object.__class__"))
  hn : PySem.W.specialIn K (.builtin "object.__class__") "__get__" = some (some (.builtin "getset_descriptor.__get__"))
  ht : PySem.W.takesIn K (.builtin "object.__class__") = some true
  hm : PySem.W.mroIn K p.1 (.type "object") = some true
  k : PySem.W.kitOne K (.ref p.1) (.ref D) = some p.2
def rIsO (D : Addr) (tbl : List (Addr × Bool)) : List V → Hp → VK → Prop := fun xs H Q => ∃ a C dx fs b, xs = [.ref a, .ref D] ∧ H a = some (.ins C dx fs) ∧ (C, b) ∈ tbl ∧ Q (.bl b) H
theorem c_isO {X : Cx} {D : Addr} {tbl : List (Addr × Bool)} (T : ∀ p ∈ tbl, IsOb X.K D p) : CallR X (.builtin "isinstance") (rIsO D tbl) := call_imp call_isi fun xs H Q q => by
  obtain ⟨a, C, dx, fs, b, e, h, hm, q⟩ := q
  have t := T _ hm
  exact ⟨.ref a, .ref D, .ref C, .ref D, b, e, .own D, .base (.ins h t.c t.ha t.hn t.ht t.hm), t.k, q⟩
/-! ### o.F, F a constant of o's class -/
structure ConD (K : PySem.W.Frag) (f : Str) (p : Addr × V) : Prop where
  c : Cls K p.1
  k : ∃ u, Con K p.1 f p.2 u
def eConD (l : List (Addr × V)) (f : Str) (te : TE) : TE := fun σ H Q => te σ H fun x H1 => ∃ a C dx fs v, x = .ref a ∧ H1 a = some (.ins C dx fs) ∧ (C, v) ∈ l ∧ fs.lookup f = none ∧ Q v H1
theorem pe_conD {X : Cx} {f : Str} {l : List (Addr × V)} {e : Expr} {te : TE} {pos : Pos} (T : ∀ p ∈ l, ConD X.K f p) (he : PE X e te) (hb : attributeBase e f X.env (eval e X.env) = eval e X.env := by rfl) : PE X (.Attribute e f pos) (eConD l f te) :=
  pe_imp (pe_con (pe_mo he) hb) fun σ H Q q => ⟨_, q, fun v H' ⟨a, C, dx, fs, w, e1, e2, hC, l, q⟩ => by
    obtain ⟨u, k⟩ := (T _ hC).k
    exact ⟨a, C, dx, fs, w, u, e1, e2, (T _ hC).c, k, l, q⟩⟩
theorem con_mk {K : PySem.W.Frag} {C : Addr} {f : Str} {v : V} {u : Value} (c : Cls K C) (h1 : PySem.W.findIn K (.ref C) f = some (some u)) (r : RelV v u) (h2 : PySem.W.specialIn K u "__get__" = some none) (h3 : PySem.W.copiedNames.contains f = false) : ConD K f (C, v) := ⟨c, u, h1, r, h2, h3⟩
/-! ### a module's tuple -/
theorem pe_stat {X : Cx} {x : Str} {g : Addr} {p2 : Pos} (hm : X.mg x = some (.ref g)) (hg : Gl X x) (hdb : (x == ("__debug__" : Str)) = false := by decide) : PE X (.Name x p2) (eCon (.ref g)) := pe_imp (pe_glob hg hm (v := .ref g) rfl hdb) fun _ _ _ q => q
def rIsS (S : Sta) : List V → Hp → VK → Prop := fun xs H Q => ∃ p ys n, xs = [.ref p, .ty n] ∧ S p (.tup ys) ∧ kitB "tuple" n = some (isA "tuple" n) ∧ Q (.bl (isA "tuple" n)) H
theorem c_isS {X : Cx} {S : Sta} (st : S = SK X.K) : CallR X (.builtin "isinstance") (rIsS S) := call_imp call_isi fun xs H Q q => by
  subst st
  obtain ⟨p, ys, n, e, ⟨o, its, m, h1, h2, _⟩, k, q⟩ := q
  exact ⟨.ref p, .ty n, .type "tuple", .type n, _, e, .ty n, .kTuple h1 h2, kit_ty k, q⟩
/-! ### slices of texts -/
theorem pe_slS {X : Cx} {e : Expr} {te : TE} {lo hi : Option Expr} {tl th : TO} {p2 pos : Pos} (he : PE X e te) (hl : PO X lo tl) (hu : PO X hi th) : PE X (.Subscript e (.Slice lo hi none p2) pos) (L2.tSl rSlS te tl th) := pe_slice sl_str he hl hu
/-! ### xs.index(y) -/
def rIdx : V → List V → Hp → VK → Prop := fun x vs H Q => ∃ (l : Addr) (xs : List V) (y : V) (j : Nat) (z : V), x = .ref l ∧ vs = [y] ∧ H l = some (.lst xs) ∧ flatV y = true ∧ xs.all flatV = true ∧ xs[j]? = some z ∧ eqV z y = true ∧
  (∀ (m : Nat) (z' : V), m < j → xs[m]? = some z' → eqV z' y = false) ∧ Q (.int (j : Nat)) H
def eIdx (te : TE) (ta : TA) : TE := fun σ H Q => te σ H fun x H1 => ∃ l, x = .ref l ∧ (∃ xs, H1 l = some (.lst xs)) ∧ ta σ H1 fun vs H2 => rIdx x vs H2 Q
theorem mt_idx {X : Cx} : MtR X "list.index" rIdx := fun pins s σ H x xs v us Q I rx rxs h => mt_index pins s σ H x xs v us Q I rx rxs (by
  obtain ⟨l, ys, y, j, z, e1, e2, h, a, b, c, d, f, q⟩ := h
  exact ⟨l, ys, y, j, z, e1, e2, sqL (S := SK X.K) rfl (.inl (.inl h)), a, b, c, d, f, q⟩)
theorem pe_idx {X : Cx} {o e : Expr} {es : List Expr} {te : TE} {ta : TA} {apos cpos : Pos} (ho : PE X o te) (ha : PA X (e :: es) ta)
    (hbase : attributeBase o "index" X.env (eval o X.env) = eval o X.env := by rfl)
    (hfew : ((backTo cpos (starEach (e :: es) X.env)).all (fun x => !x.1) && (backToKw cpos (keywordEach [] X.env)).all (fun x => x.1.isSome)
      && decide ((e :: es).length + ([] : List Keyword).length + (if ([] : List Keyword).isEmpty then 0 else 1) < 30)) = true := by rfl)
    (hline : (apos.endLine == cpos.line) = true := by rfl) (hs : starEach (e :: es) X.env = (false, eval e X.env) :: starEach es X.env := by rfl) (hplain : (backTo cpos (starEach es X.env)).any (·.1) = false := by rfl) :
    PE X (.Call (.Attribute o "index" apos) (e :: es) [] cpos) (eIdx te ta) :=
  pe_imp (pe_bm PySem.F.plainAttrs_list PySem.F.slot_list_index PySem.F.type_list_index mt_idx (pe_mo ho) ha hbase hfew hline hs hplain) fun σ H Q q =>
    ⟨_, q, fun x H1 ⟨l, e1, ⟨xs, hl⟩, q1⟩ => by subst e1; exact ⟨.inl ⟨rfl, _, .inl (.inl hl)⟩, q1⟩⟩
/-! ### C(e, .., k = v): the keywords fill the last parameters in their order -/
def tMakeKw (C : Addr) (n m : Nat) (sp : Sp) (E : XK) (t tk : TA) : TE := fun σ H Q => t σ H fun vs H1 => tk σ H1 fun zs H2 => vs.length = n ∧ zs.length = m ∧
  ∀ x dx, H2 x = none → H2 dx = none → dx ≠ x → sp (.ref x :: (vs ++ zs)) (upd (upd H2 dx (.own x)) x (.ins C dx [])) (fun v H3 => v = .non ∧ Q (.ref x) H3) E
/-- n values us by place and the values ws of the keywords ks, all parameters named -/
structure BindsK (K : PySem.W.Frag) (fd : FuncData) (ps : List Str) (n : Nat) (ks : List Str) : Prop where
  to : ∀ (s : Shared) (us ws : List Value), K.In s.heap → us.length = n → ws.length = ks.length → BindsTo s fd ⟨us, ks.zip ws⟩ (ps.zip (us ++ ws))
theorem BindsK.kbn {K : PySem.W.Frag} {fd : FuncData} {ps : List Str} {n : Nat} {ks : List Str} (h : BindsK K fd ps n ks) : KBn K fd ps n ks (fun us ws => us ++ ws) (fun vs zs => vs ++ zs) := ⟨h.to, fun r1 r2 => r1.append r2⟩
theorem bindsk_dfl {K : PySem.W.Frag} {fd : FuncData} {ps : List Str} {T : Addr} {o : Obj} {its : Array Value} {n j : Nat} {ks : List Str} (lT : K.lookup T = some o) (oT : o.data = .seq its j)
    (h : ∀ us ws : List Value, us.length = n → ws.length = ks.length → ∃ k, bindArgs fd ⟨us, ks.zip ws⟩ = seqItems? (.ref T) >>= k ∧ k (some its) = pure (ps.zip (us ++ ws))) : BindsK K fd ps n ks := ⟨fun s us ws X l1 l2 => by
  obtain ⟨k, e1, e2⟩ := h us ws l1 l2
  refine BindsTo.of_looks fun M => ?_
  rw [e1]
  exact looks_items X lT oT (.of_pure e2)⟩
theorem pe_makeKw {X : Cx} {CX : CXT} {k n m : Nat} {f C : Addr} {fd : FuncData} {ps ks : List Str} {sp : Sp} {E : XK} {x : Str} {p pos : Pos} {e : Expr} {es : List Expr} {kws : List Keyword} {t tk : TA}
    (M : Mk X.K C f) (F : FnOk X.prog X.w X.K X.mg X.base CX k f fd ps sp) (hr : Room (k + 1) X.A) (hg : Gl X x) (hm : X.mg x = some (.ref C)) (hb : BindsK X.K fd ps (n + 1) ks) (hx : Passes CX X E)
    (ha : PA X (e :: es) t) (hkw : PK X kws tk) (hml : ks.length = m := by rfl) (hall : (backToKw pos (keywordEach kws X.env)).all (·.1.isSome) = true := by rfl) (hks : (backToKw pos (keywordEach kws X.env)).filterMap (·.1) = ks := by rfl)
    (hdb : (x == ("__debug__" : Str)) = false := by decide) (he : starEach (e :: es) X.env = (false, eval e X.env) :: starEach es X.env := by rfl)
    (hpl : ((backTo pos (starEach (e :: es) X.env)).any (·.1) || (backToKw pos (keywordEach kws X.env)).any (·.1.isNone)) = false := by rfl) :
    PE X (.Call (.Name x p) (e :: es) kws pos) (tMakeKw C n m sp E t tk) := by
  subst hml
  exact pe_makeN M F hr hg hm hb.kbn hx ha hkw hall hks hdb he hpl
end Y

/-! repr of data: defs that promise only where no repr is under way (FnG). -/
namespace Y
open PySem PySem.Spec PyProof.Rows L2
/-- as FnOk, no text of a list or a tuple being under way -/
structure FnG (P : Program) (w : World) (K : PySem.W.Frag) (mg : Str → Option Value) (base : Heap) (CX : CXT) (k : Nat) (f : Addr) (fd : FuncData) (ps : List Str) (sp : Sp) : Prop where
  ln : ∀ vs H Q E, sp vs H Q E → vs.length = ps.length
  go : ∀ (A : Around) (fs : List Env) (s : Shared) (H : Hp) (ar : Args) (us : List Value) (vs : List V) (Q : VK) (E : XK), A.guards = some [] → Room k A → Env0 P w K mg base A fs s H → BindsTo s fd ar (ps.zip us) → Vals vs us → sp vs H Q E → codeAny (model P w) A (.call (.ref f) ar) (CR CX fs P w H s Q E) s
theorem FnG.of {P : Program} {w : World} {K : PySem.W.Frag} {mg : Str → Option Value} {base : Heap} {CX : CXT} {k : Nat} {f : Addr} {fd : FuncData} {ps : List Str} {sp : Sp} (F : FnOk P w K mg base CX k f fd ps sp) : FnG P w K mg base CX k f fd ps sp := ⟨F.len, fun A fs s H ar us vs Q E _ => F.run A fs s H ar us vs Q E⟩
theorem FnG.imp {P : Program} {w : World} {K : PySem.W.Frag} {mg : Str → Option Value} {base : Heap} {CX : CXT} {k : Nat} {f : Addr} {fd : FuncData} {ps : List Str} {sp sp' : Sp} (F : FnG P w K mg base CX k f fd ps sp) (h : ∀ vs H Q E, sp' vs H Q E → sp vs H Q E) : FnG P w K mg base CX k f fd ps sp' :=
  ⟨fun vs H Q E q => F.ln vs H Q E (h _ _ _ _ q), fun A fs s H ar us vs Q E g hr he hb hv hs => F.go A fs s H ar us vs Q E g hr he hb hv (h _ _ _ _ hs)⟩
section
variable {X : Cx} {CX : CXT} {k : Nat} {f : Addr} {fd : FuncData} {ps : List Str} {sp : Sp} {E : XK} {x : Str} {p pos : Pos} {e : Expr} {es : List Expr} {t : TA}
theorem run_g {pins : List (Addr × Obj)} {σ : L2.St} {H : Hp} {s : Shared} {Q : VK} {us : List Value} {vs : List V} (F : FnG X.prog X.w X.K X.mg X.base CX k f fd ps sp) (gd : X.A.guards = some []) (hr : Room k X.A) (hb : Binds X.K fd ps []) (hx : Passes CX X E) (J : Inv X pins σ H s) (rv : Vals vs us) (h : sp vs H Q E) :
    wpAny (model X.prog X.w) X.A (call (.ref f) us) (EP X pins σ Q) X.xe s := by
  have ll : (us ++ []).length = ps.length := by rw [List.append_nil, ← rv.length, F.ln _ _ _ _ h]
  have hb1 := hb s us J.kIn ll
  rw [List.append_nil] at hb1
  refine wpAny_call (codeAny_mono (F.go X.A X.stack s H ⟨us, []⟩ us vs Q E gd hr J.env0 hb1 rv h) ?_)
  intro r s' z
  match r, z with
  | .error e', z => exact hx pins σ H s e' s' J z
  | .ok (.ret u), z => exact J.after z
theorem pe_callG (F : FnG X.prog X.w X.K X.mg X.base CX k f fd ps sp) (gd : X.A.guards = some []) (hr : Room k X.A) (hg : Gl X x) (hm : X.mg x = some (.ref f)) (hk : PySem.W.keepIn X.K (.ref f) = true) (hb : Binds X.K fd ps []) (hx : Passes CX X E) (ha : PA X (e :: es) t)
    (hdb : (x == ("__debug__" : Str)) = false := by decide) (he : starEach (e :: es) X.env = (false, eval e X.env) :: starEach es X.env := by rfl) (hpl : (backTo pos (starEach es X.env)).any (·.1) = false := by rfl) : PE X (.Call (.Name x p) (e :: es) [] pos) (tCall sp [] E t) := by
  constructor
  intro pins s σ H Q J h
  refine wpAny_Call_Name_kw (ld_glob J hg hm (PySem.W.callWith_K (h₀ := X.base) J.ok.mod.kin hk (thn (ha.run pos pins s σ H _ J h) ?_) he hpl) hdb)
  rintro us s1 ⟨vs, H1, J1, rv, q⟩
  rw [List.append_nil] at q
  exact ⟨J1.kIn, run_g F gd hr hb hx J1 rv q⟩
theorem pe_callG0 (F : FnG X.prog X.w X.K X.mg X.base CX k f fd ps sp) (gd : X.A.guards = some []) (hr : Room k X.A) (hg : Gl X x) (hm : X.mg x = some (.ref f)) (hk : PySem.W.keepIn X.K (.ref f) = true) (hb : Binds X.K fd ps []) (hx : Passes CX X E) (hdb : (x == ("__debug__" : Str)) = false := by decide) : PE X (.Call (.Name x p) [] [] pos) (tCall sp [] E tNil) := by
  constructor
  intro pins s σ H Q J h
  exact wpAny_Call_Name_kw (ld_glob J hg hm (PySem.W.callWith_K0 J.kIn hk (run_g (us := []) (vs := []) F gd hr hb hx J .nil h)) hdb)
end
section
variable {CX : CXT} {P : Program} {w : World} {K : PySem.W.Frag} {mg : Str → Option Value} {base : Heap}
theorem fnG_of {k : Nat} {f : Addr} {x qual : Str} {st : Stmt} {fd : FuncData} {N ps : List Str} {sp : Sp} (F : Fun K x qual st f fd) (S : FnScope N ps (defScope st)) (len : ∀ vs H Q E, sp vs H Q E → vs.length = ps.length)
    (body : ∀ (cdv : Value) (A : Around) (fs : List Env) (s : Shared) (H : Hp) (vs : List V) (Q : VK) (E : XK), A.guards = some [] → Room k (A.deeper (envOfC qual (defScope st) s.heap.objs.size f cdv)) → sp vs H Q E →
      ∃ t, PSs (cxOf CX P w K mg base N qual (defScope st) f cdv A fs s H E) (defBody st) t ∧ t { nx := fun _ H' => Q .non H', rt := Q } (L2.start N vs) H) : FnG P w K mg base CX (k + 1) f fd ps sp := by
  obtain ⟨oc, od, kV, doc, pm, an, cdv, ct, osl, e, lk, hcd⟩ := F.ex
  subst e
  constructor
  · exact len
  · intro A fs s H ar us vs Q E gd hr e0 hb rv hsp
    have kX : K.In s.heap := e0.mod.kin.keeps fun b o z => (e0.bs b o z).1
    have nl : s.heap.NoLimit := e0.mod.nolimit.keeps fun b o z => (e0.bs b o z).1
    refine codeAny_call_function hr.depth (kX _ _ lk) rfl S.co S.gen rfl (PySem.W.codeRec_of kX hcd) (hb _ _ _ _ (wpAny_newFunctionEnv_cells S.kind ?_ ?_))
    · rintro ⟨n, v⟩ hy
      rcases S.par n (List.of_mem_zip hy).1 with z | z
      · exact Or.inl z
      · exact Or.inr ⟨z, PySem.W.cellsFrom_some _ _ _ (Or.inl z)⟩
    · intro env he s1 ic
      cases he
      refine ⟨nl.keeps ic.toInCall.keep, codeAny_func ?_⟩
      obtain ⟨t, ht, hq⟩ := body cdv A fs s H vs Q E gd (hr.deeper _) hsp
      have J : Inv (cxOf CX P w K mg base N qual (defScope st) f cdv A fs s H E) [] (L2.start N vs) H s1 := inv_start S hr.hd e0 (len _ _ _ _ hsp) rv ic
      refine wpAny_mono (ht.run [] s1 (L2.start N vs) H _ J hq) ?_ (fun _ _ z => z)
      intro fl s' hs
      match fl, hs with
      | .ret u, ⟨v, σ', H', J', r', q'⟩ => exact ⟨v, H', J'.os, J'.bare, J'.base, J'.hok, r', q'⟩
      | .next, ⟨σ', H', J', q'⟩ => exact ⟨V.non, H', J'.os, J'.bare, J'.base, J'.hok, rfl, q'⟩
      | .brk, ⟨_, _, _, q'⟩ => exact q'.elim
      | .cont, ⟨_, _, _, q'⟩ => exact q'.elim
end
theorem ok_bodyG {P : Program} {w : World} {K : PySem.W.Frag} {mg : Str → Option Value} {base : Heap} {x qual : Str} {st : Stmt} {f : Addr} {fd : FuncData} {N ps : List Str} {n m k : Nat} {t : XK → TS} (F : Fun K x qual st f fd) (S : FnScope N ps (defScope st)) (hn : N.length = n) (hm : ps.length = m)
    (h : ∀ (cdv : Value) (A : Around) (outer : List Env) (s : Shared) (H : Hp) (E : XK), A.guards = some [] → Room k (A.deeper (envOfC qual (defScope st) s.heap.objs.size f cdv)) → PSs (cxOf (L2.CX P w) P w K mg base N qual (defScope st) f cdv A outer s H E) (defBody st) (t E)) : FnG P w K mg base (L2.CX P w) (k + 1) f fd ps (spB n m t) := by
  subst hn hm
  exact fnG_of F S (fun vs H Q E q => q.1) fun cdv A fs s H vs Q E gd hr q => ⟨t E, h cdv A fs s H E gd hr, q.2⟩
/-! ### the head -/
theorem callG {P : Program} {w : World} {K : PySem.W.Frag} {mg mb : Str → Option Value} {CX : CXT} {k : Nat} {fa a : Addr} {fd : FuncData} {x : Str} {sp : Sp} {s1 : Shared} {vs : List Value} {ns : List Int} (kX : K.In s1.heap) (n1 : s1.heap.Ns mainGlobals mg) (n2 : s1.heap.Ns builtinsNs mb) (n3 : ∀ x : Str, x ≠ "__name__" → mb x = bootBuiltins x) (nl : s1.heap.NoLimit) (ng : s1.gens = #[])
    (ha : s1.heap.get? a = some { cls := .type "list", data := .seq vs.toArray }) (hi : IntsAre vs ns) (hl : ns.length ≤ sizeLine) (hr : Room k callerA) (sm : ∃ mm, s1.heap.Ns sysModules mm) (F : ∀ base : Heap, K.In base → base.Ns mainGlobals mg → (∃ mm, base.Ns sysModules mm) → FnG P w K mg base CX k fa fd [x] sp) (hb : ∀ (s : Shared) (u : Value), BindsTo s fd ⟨[u], []⟩ [(x, u)])
    (hsp : ∀ H : Hp, Only H → SqL K H a (ns.map V.int) → sp [.ref a] H (fun v _ => v = .bl true) fun _ _ _ => False) (hC : ∀ H e s', CX [] H s1 (fun _ _ _ => False) e s' → False) :
    codeAny (model P w) callerA (.call (.ref fa) ⟨[.ref a], []⟩) (fun r s' => r = .ok (.ret (.bool true)) ∧ OldK s1.heap s'.heap ∧ s'.os = s1.os ∧ AllBare s'.gens) s1 := by
  have main : ∀ T : Hp, Only T → SqL K T a (ns.map V.int) → HOk P w T s1.heap → (∀ b, T b ≠ none → b = a ∧ K.lookup a = none) → codeAny (model P w) callerA (.call (.ref fa) ⟨[.ref a], []⟩) (fun r s' => r = .ok (.ret (.bool true)) ∧ OldK s1.heap s'.heap ∧ s'.os = s1.os ∧ AllBare s'.gens) s1 := by
    intro T hO hS ok hT
    have free : ∀ {b : Addr} {o : Obj}, s1.heap.get? b = some o → (b = a → False) → T b = none := fun {b o} e ne => Classical.byContradiction fun z => ne (hT b z).1
    have inK : K.In (hidT s1.heap T) := fun b o e => hidT_get (kX b o e) (Classical.byContradiction fun z => by
      obtain ⟨e1, e2⟩ := hT b z
      rw [e1, e2] at e
      cases e)
    have ns' : ∀ {b : Addr} {m : Str → Option Value}, s1.heap.Ns b m → (hidT s1.heap T).Ns b m := by
      rintro b m ⟨o, es, ep, e, d, r⟩
      refine ⟨o, es, ep, hidT_get e (free e ?_), d, r⟩
      rintro rfl
      rw [ha] at e
      cases e
      cases d
    have md : Mod K mg (hidT s1.heap T) := ⟨inK, ns' n1, ⟨mb, ns' n2, n3⟩, by obtain ⟨mc, h1, h2⟩ := nl; exact ⟨mc, ns' h1, h2⟩⟩
    have nomem : ∀ {b : Addr}, b ∈ ([] : List Addr) → False := fun z => by cases z
    refine codeAny_mono ((F _ inK (ns' n1) (by obtain ⟨mm, h⟩ := sm; exact ⟨mm, ns' h⟩)).go callerA [] s1 T ⟨[.ref a], []⟩ [.ref a] [.ref a] _ _ rfl hr ⟨rfl, md, fun b o e => of_hidT e, Nat.le_of_eq (hidT_size _ _), trivial, fun b z => (nomem z).elim, ok, .of_eq ng⟩ (hb s1 (.ref a)) (.cons rfl .nil) (hsp T hO hS)) ?_
    intro r s' z
    match r, z with
    | .error e, z => exact (hC T e s' z).elim
    | .ok (.ret u), ⟨v, T', os, br, un, ok', rv, q⟩ =>
      cases q
      obtain rfl : u = Value.bool true := rv
      refine ⟨rfl, OldK.of_keep fun b o e => ?_, os, br⟩
      cases hb : T b with
      | none => exact un.keep b o e hb (fun z => nomem z) (by simp)
      | some u =>
        rcases hO b with z | ⟨ob, xs, z⟩
        · rw [hb] at z; cases z
        · have e1 := (ok b _ z).1
          have e2 := (ok' b _ (un.frzs b ob _ z)).1
          rw [e] at e1
          cases e1
          exact e2
  have rv := vals_ints hi
  rcases hK : K.lookup a with _ | o
  · refine main (fun b => if b = a then some (.frz { cls := .type "list", data := .seq vs.toArray } (.lst (ns.map V.int))) else none) (fun b => ?_) (.inl (.inr ⟨_, if_pos rfl⟩)) ?_ (fun b z => ⟨Classical.byContradiction fun ne => z (if_neg ne), hK⟩)
    · by_cases e : b = a
      · exact .inr ⟨_, _, if_pos e⟩
      · exact .inl (if_neg e)
    · intro b u z
      by_cases e : b = a
      · subst e
        have z2 := (if_pos rfl).symm.trans z
        cases z2
        exact ⟨ha, by rw [List.length_map]; exact hl, vs, _, rv, ha⟩
      · have z2 := (if_neg e).symm.trans z
        cases z2
  · have e := kX a o hK
    rw [ha] at e
    cases e
    exact main (fun _ => none) (fun _ => .inl rfl) (.inr ⟨_, vs.toArray, _, hK, rfl, rfl, rfl, by rw [List.size_toArray, hi.length]; exact hl, by simpa using rv⟩) (fun b u z => by cases z) fun b z => (z rfl).elim
theorem walk_ofG {l : PySem.W.OpenLaw} {n k : Nat} {q : Program} {loose : List Str} {XP : (Str → Option Value) → Heap → Prop} {YP : World → Heap → Prop} {d : DefRec} {K : Params → PySem.W.Frag} {CX : World → CXT} {sp : World → Sp} {x : Str} (hi : importsNone q = true) (hn : l.most = some n) (hn2 : n ≤ sizeLine) (hdf : d.params.defaults = []) (hr : Room k callerA)
    (hY : ∀ (w : World) (h : Heap), YP w h → (K w.params).In h) (F : ∀ (w : World) (mg : Str → Option Value) (fa : Addr) (h : Heap), (K w.params).In h → h.Ns mainGlobals mg → mg d.name = some (.ref fa) → ∃ fd : FuncData, (∀ (s : Shared) (u : Value), BindsTo s fd ⟨[u], []⟩ [(x, u)]) ∧ ∀ base : Heap, (K w.params).In base → base.Ns mainGlobals mg → (∃ mm, base.Ns sysModules mm) → FnG l.prog w (K w.params) mg base (CX w) k fa fd [x] (sp w))
    (hsp : ∀ (w : World) (H : Hp) (a : Addr) (ns : List Int), ns.length ≤ n → Only H → SqL (K w.params) H a (ns.map V.int) → sp w [.ref a] H (fun v _ => v = .bl true) fun _ _ _ => False) (hC : ∀ (w : World) (H : Hp) (s : Shared) (e : Value) (s' : Shared), CX w [] H s (fun _ _ _ => False) e s' → False) :
    PySem.W.WalkO q loose XP YP l.row.toRowW d [] (fun f vs => PySem.call f vs) := Att.attach_call hn hdf fun w s0 s1 mg mb fa o pm cd doc a vs ns G Y ho hd hcd hmg hobj hints hlen hgen => by
  obtain ⟨fd, hb, hF⟩ := F w mg fa _ (hY w _ Y) G.T.g hmg
  exact callG (hY w _ Y) G.T.g G.T.b G.T.builtins G.T.nolimit hgen hobj hints (Nat.le_trans hlen hn2) hr (by obtain ⟨mm, h, _⟩ := (G.T.seer hi).mods; exact ⟨mm, h⟩) hF hb (fun T hO hS => hsp w T a ns hlen hO hS) fun T e s' => hC w T s1 e s'
/-! ### repr -/
def rRepr (S : Sta) : List V → Hp → VK → Prop := fun xs H Q => ∃ v d, xs = [v] ∧ DpS S H v d ∧ d.showable = true ∧ d.hasDict = false ∧ d.depth ≤ 20 ∧ d.shown.length ≤ sizeLine ∧ Q (.str d.shown) H
theorem c_repr {X : Cx} {S : Sta} (st : S = SK X.K) (gd : X.A.guards = some []) (hu : X.A.units + 64 < cLine) : CallR X (.builtin "repr") (rRepr S) := by
  intro pins s σ H xs us Q J rv h
  obtain ⟨v, d, e, dp, h1, h2, h3, h4, q⟩ := h
  subst e
  have dp1 := dp.dp st
  match us, rv with
  | [u], .cons ru .nil =>
    cases v with
    | ref a =>
      cases ru
      obtain ⟨as, rd⟩ := Dp.reads J d _ _ dp1 rfl
      refine repr_of_reads' rd h1 (fun z => by rw [h2] at z; cases z) gd (by omega) (fun _ _ z => z) (fun h' u tk hk => ?_) h4
      exact ⟨.str d.shown, H, J.kept hk, ⟨u, rfl⟩, q⟩
    | non =>
      cases dp1
      cases ru
      exact PySem.P.repr_of_none ⟨.str _, H, J.tok _, ⟨_, rfl⟩, by simpa only [PyData.shown] using q⟩
    | bl b =>
      cases dp1
      cases ru
      exact PySem.P.repr_of_bool ⟨.str _, H, J.tok _, ⟨_, rfl⟩, by simpa only [PyData.shown] using q⟩
    | int i =>
      cases dp1
      obtain ⟨t, rfl⟩ := ru
      exact PySem.P.repr_of_int (by simpa only [PyData.showable, decide_eq_true_eq] using h1) ⟨.str _, H, J.tok _, ⟨_, rfl⟩, by simpa only [PyData.shown] using q⟩
    | str z =>
      cases dp1
      obtain ⟨t, rfl⟩ := ru
      exact PySem.P.repr_of_str ⟨.str _, H, J.tok _, ⟨_, rfl⟩, by simpa only [PyData.shown] using q⟩ (by simpa only [PyData.shown] using h4)
    | _ => cases dp1
end Y

/-! tuples as targets; slices and sums of tuples. -/
namespace Y
open PySem PySem.Spec PyProof.Rows L2
section
variable {X : Cx} {S : Sta}
/-- a, b, .. = v -/
def gTupS (S : Sta) (n : Nat) (t : TGs) : TG := fun v σ H Q => ∃ a xs, v = .ref a ∧ RdS S H a (.tup xs) ∧ xs.length = n ∧ t xs σ H Q
theorem pg_tupS {es : List Expr} {k n : Nat} {t : TGs} {pos : Pos} (st : S = SK X.K) (hc : X.calm = true) (h : PGs X es t) (hn : (assignEach es X.env).length = n := by rfl) (hs : (assignEach es X.env).findIdx? (·.1) = none := by rfl) : PG X (.Tuple es k pos) (gTupS S n t) :=
  ⟨fun pins s σ H v u Q I r ⟨a, xs, e, hq, hl, hw⟩ => (pg_tup hc h hn hs).run pins s σ H v u Q I r ⟨a, xs, e, sqT st hq, hl, hw⟩⟩
/-- t[lo:hi], t a tuple -/
def rTSl (S : Sta) : V → Option Int → Option Int → Hp → VK → Prop := fun x lo hi H Q => ∃ a xs, x = .ref a ∧ RdS S H a (.tup xs) ∧ (cutV xs lo hi = xs → Q (.ref a) H) ∧ ∀ p, H p = none → Q (.ref p) (upd H p (.tup (cutV xs lo hi)))
theorem o_tsl (st : S = SK X.K) : SlR X (rTSl S) := fun pins s σ H x v vl vu lo hi sl Q I rx hs pl pu ⟨a, xs, e, hx, q1, q2⟩ => sl_tupA pins s σ H x v vl vu lo hi sl Q I rx hs pl pu ⟨a, xs, e, sqT st hx, fun w => q1 (by
  unfold cutV
  rw [w.1, w.2, List.drop_zero, Nat.sub_zero, List.take_length]), fun _ => q2⟩
/-- t + u, both tuples -/
def rTAdd (S : Sta) : R2 := fun x y H Q => ∃ a b xs ys, x = .ref a ∧ y = .ref b ∧ RdS S H a (.tup xs) ∧ RdS S H b (.tup ys) ∧ xs.length + ys.length ≤ sizeLine ∧ (xs = [] → Q (.ref b) H) ∧ (ys = [] → Q (.ref a) H) ∧ ∀ p, H p = none → Q (.ref p) (upd H p (.tup (xs ++ ys)))
theorem o_tadd (st : S = SK X.K) : OpR X (binaryOp .Add) (rTAdd S) := op_imp op_catA fun x y H Q ⟨a, b, xs, ys, e1, e2, h1, h2, z, q0, q1, q2⟩ => ⟨a, b, xs, ys, e1, e2, sqT st h1, sqT st h2, z, q0, fun _ => q1, fun _ _ => q2⟩
end
end Y

/-! keyword-only parameters of a class; zip of tuples; lists taken apart; comprehensions over a text; join, count, [x] * n. -/
namespace Y
open PySem PySem.Spec PyProof.Rows L2
/-! ### a, b, .. = a list or a tuple -/
def gTupA (S : Sta) (n : Nat) (t : TGs) : TG := fun v σ H Q => ∃ a xs, v = .ref a ∧ Seq S H a xs ∧ xs.length = n ∧ t xs σ H Q
theorem pg_tupA {X : Cx} {S : Sta} {es : List Expr} {k n : Nat} {t : TGs} {pos : Pos} (st : S = SK X.K) (hc : X.calm = true) (h : PGs X es t) (hn : (assignEach es X.env).length = n := by rfl) (hs : (assignEach es X.env).findIdx? (·.1) = none := by rfl) : PG X (.Tuple es k pos) (gTupA S n t) := by
  refine ⟨fun pins s σ H v u Q I r hw => ?_⟩
  obtain ⟨a, xs, e1, hq, hl, hw⟩ := hw
  rcases hq with hq | hq
  · subst e1
    cases r
    obtain ⟨its, rv, p, hz⟩ := I.list (sqL st hq)
    have hn2 : (assignEach es X.env).length = its.toArray.size := by simp [hn, ← hl, rv.length]
    rw [assign_Tuple]
    refine wpAny_bind (wpAny_standAt ?_)
    unfold unpack
    rw [hn2, hs]
    refine wpAny_bind (wpAny_holding (PySem.W.kun_itemsOf (I.ok.hd hc) p.isList fun h' hx => ?_))
    have I1 : Inv X pins σ H { s with heap := h' } := I.kept (t' := s.toks) fun b o e => hx b o (Nat.ne_of_lt (Heap.lt_size e)) e
    exact h.run pins _ σ H xs _ Q I1 (by simpa using rv) hw
  · exact (pg_tup hc h hn hs).run pins s σ H v u Q I r ⟨a, xs, e1, sqT st hq, hl, hw⟩
/-! ### for x, y in zip(p, q), both tuples of one length -/
def ZpS (S : Sta) (gi gj : TG) (s1 : TS) (nx : L2.St → Hp → Prop) (rt : VK) (vs : List V) (σ : L2.St) (H : Hp) : Prop := ∃ p q xs ys, vs = [.ref p, .ref q] ∧ xs.length = ys.length ∧ ∃ Pv : Nat → L2.St → Hp → Prop, Pv 0 σ H ∧ (∀ i σ H, Pv i σ H → RdS S H p (.tup xs) ∧ RdS S H q (.tup ys)) ∧
  (∀ (i : Nat) x y σ H T, xs[i]? = some x → ys[i]? = some y → Pv i σ H → H T = none → gi x σ (upd H T (.tup [x, y])) fun σ' H' => gj y σ' H' fun σ2 H2 => s1 ⟨Pv (i + 1), rt, nx, Pv (i + 1)⟩ σ2 H2) ∧ ∀ σ H, Pv xs.length σ H → nx σ H
def sForZp (S : Sta) (ta : TA) (gi gj : TG) (tb : TS) : TS := fun D σ H => ta σ H fun vs H1 => ZpS S gi gj tb D.nx D.rt vs σ H1
theorem ps_forZp {X : Cx} {S : Sta} {e e2 ea eb : Expr} {ta : TA} {gi gj : TG} {tb : TS} {body : List Stmt} {pos p pos2 tpos : Pos} {kk : Nat} (st : S = SK X.K) (hp : PassesOwn (model X.prog X.w) X.A X.env X.xe) (hc : X.calm = true) (hgl : Gl X "zip") (hm : X.mg "zip" = none) (ha : PA X [e, e2] ta)
    (hgi : PG X ea gi) (hgj : PG X eb gj) (hb : PSs X body tb) (hs : starEach [e, e2] X.env = (false, eval e X.env) :: starEach [e2] X.env := by rfl) (hpl : (backTo pos2 (starEach [e2] X.env)).any (·.1) = false := by rfl)
    (hs' : ∀ x, foldedSetIterable (.Call (.Name "zip" p) [e, e2] [] pos2) X.env x = pure x := by intro _; rfl)
    (h1 : (assignEach [ea, eb] X.env).map (·.2) = assign ea X.env :: (assignEach [eb] X.env).map (·.2) := by rfl) (h2 : (assignEach [eb] X.env).map (·.2) = assign eb X.env :: (assignEach [] X.env).map (·.2) := by rfl)
    (h3 : (assignEach [ea, eb] X.env).length = 2 := by rfl) (h4 : (assignEach [ea, eb] X.env).findIdx? (·.1) = none := by rfl) :
    PS X (.For (.Tuple [ea, eb] kk tpos) (.Call (.Name "zip" p) [e, e2] [] pos2) body [] pos) (sForZp S ta gi gj tb) :=
  ps_imp (ps_for hp hc (RZ.pi_zipA hgl hm (pa_mo ha) hs hpl) (pg_tup hc (pgs_cons hgi (pgs_cons hgj pgs_nil h2) h1) h3 h4) hb hs') fun D σ H q => ⟨_, q, fun vs H1 ⟨p, q, xs, ys, e, hl, Pv, h0, hst, ht, hd⟩ => by
    refine ⟨p, q, xs, ys, e, .inr ⟨sqT st (hst 0 _ _ h0).1, sqT st (hst 0 _ _ h0).2, ?_⟩⟩
    exact RZ.for_zipT (K := X.K) (a := p) (b := q) hl Pv h0 (fun i σ H z => ⟨sqT st (hst i σ H z).1, sqT st (hst i σ H z).2⟩) (fun i x y T σ H hx hy z hT => ⟨T, [x, y], rfl, .inl (.inl upd_same), rfl, x, [y], rfl, by
      have h := ht i x y σ H T hx hy z hT
      rw [← gpair] at h
      exact h⟩) hd⟩
/-! ### [e for c in text if ..] -/
def eLcT (te : TE) (g : TG) (tt : TT) (tel : TE) (vs : List Nat) : TE := fun σ H Q => te σ H fun x H1 => ∃ z : Str, x = .str z ∧ ∀ D, H1 D = none → ∃ Pv : Nat → Hp → Prop, Pv 0 (upd H1 D (.lst [])) ∧
  (∀ (i : Nat) (c : Nat) H, z.cps[i]? = some c → Pv i H → g (.str ⟨#[c]⟩) (wipe σ vs) H fun σ2 H2 => wipe σ2 vs = wipe σ vs ∧ tt σ2 H2 fun b H3 => if b = true then tel σ2 H3 fun z H4 => ∃ acc, H4 D = some (.lst acc) ∧ acc.length < sizeLine ∧ Pv (i + 1) (upd H4 D (.lst (acc ++ [z]))) else Pv (i + 1) H3) ∧
  ∀ H, Pv z.cps.size H → Q (.ref D) H
section
variable {X : Cx} {tg l elt : Expr} {ifs : List Expr} {te tel : TE} {tt : TT} {g : TG} {scope : Scope} {own : List (Str × Nat)} {pos spos py : Pos}
theorem lcT_of {vs : List Nat} {σ : L2.St} {H : Hp} {Q : VK} (q : eLcT te g tt tel vs σ H Q) : tLc (iStr (mo te)) g tt tel vs σ H Q := ⟨_, q, fun x H1 ⟨z, e, q⟩ => ⟨z, e, fun D hD => by
  obtain ⟨Pv, h0, ht, hd⟩ := q D hD
  exact lc_it walk_str Pv h0 (fun _ _ _ _ => trivial) (fun i v H H' hi p ⟨e, c, hc, ev⟩ => by
    subst e ev
    exact ht i c H' hc p) hd⟩⟩
theorem pe_lcStr (hc : X.calm = true) (hN : X.N.Nodup) (hl : PE X l te) (ok : BlkOk X.N X.env.scope scope own) (B : Blk X scope tg elt ifs g tt tel) (hs : ∀ x, foldedSetIterable l X.env x = pure x := by intro _; rfl) :
    PE X (.ListComp elt [⟨tg, l, ifs, 0⟩] scope pos) (eLcT te g tt tel (own.map (·.2))) := pe_imp (pe_lc hc hN (pi_str (pe_mo hl)) ok B.hg B.ht B.he hs) fun _ _ _ q => lcT_of q
end
/-! ### texts: a.join(xs), a.count(b) -/
def rJoin (S : Sta) : V → List V → Hp → VK → Prop := fun x xs H Q => ∃ (a : Str) (p : Addr) (ys : List Str), x = .str a ∧ xs = [.ref p] ∧ Seq S H p (ys.map V.str) ∧ (ys.map (·.length)).sum + ys.length * a.length ≤ 16777216 ∧ Q (.str (Txt.join a ys)) H
def rCnt : V → List V → Hp → VK → Prop := fun x xs H Q => ∃ a b, x = .str a ∧ xs = [.str b] ∧ Q (.int (Txt.count a b)) H
theorem pe_joinS {X : Cx} {S : Sta} {o e : Expr} {to te : TE} {apos pos : Pos} (st : S = SK X.K) (ho : PE X o to) (he : PE X e te) (hs : starEach [e] X.env = [(false, eval e X.env)] := by rfl) (hbase : attributeBase o "join" X.env (eval o X.env) = eval o X.env := by rfl) (hline : (apos.endLine == pos.line) = true := by rfl) :
    PE X (.Call (.Attribute o "join" apos) [e] [] pos) (tM1 (rJoin S) to te) := pe_imp (pe_join (pe_mo ho) (pe_mo he) hs hbase hline) fun σ H Q q => ⟨_, q, fun x H1 ⟨h1, q1⟩ => ⟨h1, _, q1, fun y H2 ⟨a, p, ys, e1, e2, h2, h3, q2⟩ => ⟨a, p, ys, e1, e2, h2.elim (fun h => .inl (sqL st h)) (fun h => .inr (sqT st h)), h3, q2⟩⟩⟩
theorem pe_count {X : Cx} {o e : Expr} {to te : TE} {apos pos : Pos} (ho : PE X o to) (he : PE X e te) (hs : starEach [e] X.env = [(false, eval e X.env)] := by rfl) (hbase : attributeBase o "count" X.env (eval o X.env) = eval o X.env := by rfl) (hline : (apos.endLine == pos.line) = true := by rfl) :
    PE X (.Call (.Attribute o "count" apos) [e] [] pos) (tM1 rCnt to te) := pe_m1 F.slot_str_count F.type_str_count mt_count ho he hs hbase hline
/-! ### C(e, .., k = v, ..): keyword-only parameters, those that lack have their defaults -/
/-- n values by place, those of the keywords ks behind i of the lacking ones (their defaults ms) -/
structure BindsW (K : PySem.W.Frag) (fd : FuncData) (ps : List Str) (n : Nat) (ks : List Str) (i : Nat) (ms : List V) : Prop where
  ex : ∃ mv : List Value, Vals ms mv ∧ ∀ (s : Shared) (us ws : List Value), K.In s.heap → us.length = n → ws.length = ks.length → BindsTo s fd ⟨us, ks.zip ws⟩ (ps.zip (us ++ (mv.take i ++ (ws ++ mv.drop i))))
theorem BindsW.kbn {K : PySem.W.Frag} {fd : FuncData} {ps : List Str} {n i : Nat} {ks : List Str} {ms : List V} (h : BindsW K fd ps n ks i ms) : ∃ mv : List Value, KBn K fd ps n ks (fun us ws => us ++ (mv.take i ++ (ws ++ mv.drop i))) (fun vs zs => vs ++ (ms.take i ++ (zs ++ ms.drop i))) := by
  obtain ⟨mv, r, h⟩ := h.ex
  exact ⟨mv, h, fun r1 r2 => r1.append ((r.take i).append (r2.append (r.drop i)))⟩
theorem looks_forIn {α β : Type} {M : Model} {h : Heap} {l : List α} {f : α → β → Sem (ForInStep β)} (st : Nat → β) (hs : ∀ i x, l[i]? = some x → PySem.W.Looks M h (f x (st i)) (.yield (st (i + 1)))) : PySem.W.Looks M h (forIn l (st 0) f) (st l.length) := by
  induction l generalizing st with
  | nil => exact PySem.W.Looks.of_pure (by simp)
  | cons x l ih =>
    rw [List.forIn_cons]
    exact (hs 0 x rfl).andThen (ih (fun i => st (i + 1)) fun i y e => hs (i + 1) y e)
theorem take_snoc' {α : Type} {xs : List α} {i : Nat} {x : α} (e : xs[i]? = some x) : xs.take (i + 1) = xs.take i ++ [x] := by
  rw [List.take_add_one, e]
  rfl
theorem look_app {V : Type} {A B : List (Str × V)} {n : Str} : (A ++ B).lookup n = (A.lookup n).or (B.lookup n) := by
  induction A with
  | nil => rfl
  | cons x A ih =>
    obtain ⟨m, v⟩ := x
    rw [List.cons_append, List.lookup_cons, List.lookup_cons, ih]
    cases n == m <;> rfl
theorem look_none {V : Type} {A : List (Str × V)} {n : Str} (h : n ∉ A.map (·.1)) : A.lookup n = none := by
  induction A with
  | nil => rfl
  | cons x A ih =>
    obtain ⟨m, v⟩ := x
    rw [List.map_cons, List.mem_cons, not_or] at h
    rw [List.lookup_cons, ih h.2, beq_false_of_ne h.1]
theorem look_zip {V : Type} {ns : List Str} {us : List V} (hl : us.length = ns.length) {n : Str} (h : n ∈ ns) : ∃ u, (ns.zip us).lookup n = some u := by
  induction ns generalizing us with
  | nil => cases h
  | cons m ns ih =>
    cases us with
    | nil => cases hl
    | cons u us =>
      rw [List.zip_cons_cons, List.lookup_cons]
      cases e : n == m with
      | true => exact ⟨u, rfl⟩
      | false => exact ih (by simpa using hl) ((List.mem_cons.mp h).resolve_left (by simpa using e))
theorem zipk {V : Type} {ns : List Str} {us : List V} : ∀ n ∈ (ns.zip us).map (·.1), n ∈ ns := fun n h => by
  obtain ⟨q, hq, e⟩ := List.mem_map.mp h
  subst e
  exact (List.of_mem_zip (a := q.1) (b := q.2) hq).1
theorem fm_congr {α β : Type} {l : List α} {f g : α → Option β} (h : ∀ x ∈ l, f x = g x) : l.filterMap f = l.filterMap g := by
  induction l with
  | nil => rfl
  | cons x l ih => rw [List.filterMap_cons, List.filterMap_cons, h x List.mem_cons_self, ih fun y m => h y (List.mem_cons_of_mem _ m)]
theorem fm_map {α β : Type} {l : List α} {f : α → Option β} {g : α → β} (h : ∀ x ∈ l, f x = some (g x)) : l.filterMap f = l.map g := by
  induction l with
  | nil => rfl
  | cons x l ih => rw [List.filterMap_cons, h x List.mem_cons_self, List.map_cons, ih fun y m => h y (List.mem_cons_of_mem _ m)]
theorem fm_zip {V : Type} {ns : List Str} {us : List V} {R : List (Str × V)} (nd : ns.Nodup) (hl : us.length = ns.length) : ns.filterMap (fun n => ((ns.zip us ++ R).lookup n).map (n, ·)) = ns.zip us := by
  induction ns generalizing us with
  | nil => rfl
  | cons m ns ih =>
    cases us with
    | nil => cases hl
    | cons u us =>
      obtain ⟨n1, n2⟩ := List.nodup_cons.mp nd
      rw [List.filterMap_cons, List.zip_cons_cons, List.cons_append, List.lookup_cons, beq_self_eq_true]
      have e : ns.filterMap (fun n => (((m, u) :: (ns.zip us ++ R)).lookup n).map (n, ·)) = ns.filterMap (fun n => ((ns.zip us ++ R).lookup n).map (n, ·)) := by
        refine fm_congr fun n hn => ?_
        rw [List.lookup_cons, beq_false_of_ne (fun z : n = m => n1 (by rw [← z]; exact hn))]
      rw [e, ih n2 (by simpa using hl)]
      rfl
theorem bind_kw {M : Model} {h : Heap} {K : PySem.W.Frag} {fd : FuncData} {D : Addr} {ns kn : List Str} (X : K.In h) (hp : fd.params.posonlyargs = []) (hn : fd.params.args.map (·.arg) = ns) (hk : fd.params.kwonlyargs.map (·.arg) = kn) (hv : fd.params.vararg = none) (hw : fd.params.kwarg = none) (hd : fd.defaults = .none) (hD : fd.kwdefaults = .ref D)
   (nd : (ns ++ kn).Nodup) {us : List Value} {given : List (Str × Value)} (hl : us.length = ns.length) (hg : ∀ q ∈ given, q.1 ∈ kn) (gd : (given.map (·.1)).Nodup) {dv : Str → Value} (hm : ∀ n ∈ kn, given.lookup n = none → PySem.W.nsIn K D n = some (some (dv n))) :
   PySem.W.Looks M h (bindArgs fd ⟨us, given⟩) (ns.zip us ++ kn.map fun n => (n, (given.lookup n).getD (dv n))) := by
  obtain ⟨nd1, nd2, nd3⟩ := List.nodup_append.mp nd
  have nk : ∀ n ∈ kn, n ∉ ns := fun n h1 h2 => nd3 n h2 n h1 rfl
  unfold bindArgs
  simp only [hp, hn, hk, hv, hw, hd, hD, List.map_nil, List.nil_append]
  refine PySem.W.Looks.andThen (a := (ns.zip us ++ given, [])) ?_ ?_
  · have e : ∀ f, (∀ i x, given[i]? = some x → PySem.W.Looks M h (f x (ns.zip us ++ given.take i, ([] : List (Str × Value)))) (.yield (ns.zip us ++ given.take (i + 1), ([] : List (Str × Value))))) → PySem.W.Looks M h (forIn given (ns.zip us, []) f) (ns.zip us ++ given, []) := fun f hs => by
      have e := looks_forIn (M := M) (h := h) (l := given) (f := f) (fun i => (ns.zip us ++ given.take i, ([] : List (Str × Value)))) hs
      simp only [List.take_zero, List.append_nil, List.take_length] at e
      exact e
    refine e _ fun i x hx => ?_
    have hi := List.getElem?_eq_some_iff.mp hx
    have xm : x ∈ given := List.mem_of_getElem? hx
    have hc : (ns.contains x.1 || kn.contains x.1) = true := by
      rw [Bool.or_eq_true]
      exact .inr (List.contains_iff_mem.mpr (hg x xm))
    have h2 : (List.lookup x.1 (ns.zip us ++ given.take i)).isSome = false := by
      rw [look_app, look_none (fun z => nk _ (hg x xm) (zipk _ z)), look_none]
      · rfl
      · intro z
        rw [List.map_take] at z
        obtain ⟨j, hj, e⟩ := List.mem_take_iff_getElem.mp z
        have h3 : (given.map (·.1))[i]'(by rw [List.length_map]; exact hi.1) = x.1 := by rw [List.getElem_map, hi.2]
        have := (List.getElem_inj (h₀ := by omega) (h₁ := by rw [List.length_map]; exact hi.1) gd).mp (e.trans h3.symm)
        omega
    rw [if_pos hc, if_neg (by rw [h2]; simp), take_snoc' hx, ← List.append_assoc]
    exact PySem.W.Looks.of_pure rfl
  · refine PySem.W.Looks.andThen (a := none) (.of_pure rfl) ?_
    have hA : ∀ n ∈ ns, ∀ R : List (Str × Value), ∃ u, (ns.zip us ++ R).lookup n = some u := fun n hn R => by
      obtain ⟨u, e⟩ := look_zip hl hn
      exact ⟨u, by rw [look_app, e]; rfl⟩
    have f0 : ns.filter (fun n => ((ns.zip us ++ given).lookup n).isNone) = [] := by
      refine List.filter_eq_nil_iff.mpr fun n hn => ?_
      obtain ⟨u, e⟩ := hA n hn given
      rw [e]; simp
    have e1 : (decide (us.length > ns.length) && (none : Option Arg).isNone) = false := by simp [hl]
    simp only [e1, Bool.false_eq_true, if_false, Option.getD_none, List.drop_nil, List.length_nil, Nat.sub_zero, List.take_length, f0, List.isEmpty_nil, Bool.not_true, List.drop_length, List.zip_nil_left, List.forIn_nil, pure_bind]
    have key : ∀ n ∈ kn, ∀ B : List (Str × Value), n ∉ B.map (·.1) → (ns.zip us ++ (given ++ B)).lookup n = given.lookup n := fun n hn B hB => by
      rw [look_app, look_none (fun z => nk _ hn (zipk _ z)), look_app, look_none hB]
      cases given.lookup n <;> rfl
    have e : ∀ f, (∀ i x, kn[i]? = some x → PySem.W.Looks M h (f x (ns.zip us ++ (given ++ ((kn.take i).filter (fun n => (given.lookup n).isNone)).map fun n => (n, dv n)), ([] : List Str))) (.yield (ns.zip us ++ (given ++ ((kn.take (i + 1)).filter (fun n => (given.lookup n).isNone)).map fun n => (n, dv n)), ([] : List Str)))) → PySem.W.Looks M h (forIn kn (ns.zip us ++ given, ([] : List Str)) f) (ns.zip us ++ (given ++ (kn.filter (fun n => (given.lookup n).isNone)).map fun n => (n, dv n)), []) := fun f hs => by
      have e := looks_forIn (M := M) (h := h) (l := kn) (f := f) (fun i => (ns.zip us ++ (given ++ ((kn.take i).filter (fun n => (given.lookup n).isNone)).map fun n => (n, dv n)), ([] : List Str))) hs
      simp only [List.take_zero, List.filter_nil, List.map_nil, List.append_nil, List.take_length] at e
      exact e
    refine PySem.W.Looks.andThen (e _ fun i n hx => ?_) ?_
    · have hi := List.getElem?_eq_some_iff.mp hx
      have nm : n ∈ kn := List.mem_of_getElem? hx
      have nb : n ∉ (((kn.take i).filter (fun n => (given.lookup n).isNone)).map fun n => (n, dv n)).map (·.1) := by
        intro z
        rw [List.map_map] at z
        obtain ⟨m, hm1, e1⟩ := List.mem_map.mp z
        have e1 : m = n := e1
        subst e1
        obtain ⟨j, hj, e⟩ := List.mem_take_iff_getElem.mp (List.mem_filter.mp hm1).1
        have := (List.getElem_inj (h₀ := by omega) (h₁ := hi.1) nd2).mp (e.trans hi.2.symm)
        omega
      have hk := key n nm _ nb
      rw [take_snoc' hx, List.filter_append]
      simp only [hk]
      cases hg2 : given.lookup n with
      | none =>
        simp only [Option.isNone_none, if_true]
        refine PySem.W.Looks.andThen (PySem.W.looks_nsIn X (hm n nm hg2)) (PySem.W.Looks.of_pure ?_)
        simp [hg2]
      | some v =>
        simp only [Option.isNone_some, Bool.false_eq_true, if_false]
        refine PySem.W.Looks.of_pure ?_
        simp [hg2]
    · have kk : kn.filterMap (fun n => ((ns.zip us ++ (given ++ (kn.filter (fun n => (given.lookup n).isNone)).map fun n => (n, dv n))).lookup n).map (n, ·)) = kn.map fun n => (n, (given.lookup n).getD (dv n)) := by
        refine fm_map fun n hn => ?_
        rw [look_app, look_none (fun z => nk _ hn (zipk _ z)), look_app]
        cases hg2 : given.lookup n with
        | some v => rfl
        | none =>
          have : ((kn.filter (fun n => (given.lookup n).isNone)).map fun n => (n, dv n)).lookup n = some (dv n) := by
            have hmem : n ∈ kn.filter (fun n => (given.lookup n).isNone) := List.mem_filter.mpr ⟨hn, by rw [hg2]; rfl⟩
            generalize kn.filter (fun n => (given.lookup n).isNone) = l at hmem
            induction l with
            | nil => cases hmem
            | cons m l ih =>
              rw [List.map_cons, List.lookup_cons]
              cases e : n == m with
              | true => have : n = m := by simpa using e
                        subst this; rfl
              | false => exact ih ((List.mem_cons.mp hmem).resolve_left (by simpa using e))
          rw [this]
          rfl
      refine PySem.W.Looks.of_pure ?_
      simp only [List.isEmpty_nil, Bool.not_true, Bool.false_eq_true, if_false, pure_bind, List.filterMap_append, fm_zip nd1 hl, kk]
theorem map_look {V : Type} {l : List Str} {vs : List V} (nd : l.Nodup) (hl : vs.length = l.length) {g : Str → V} (h : ∀ n ∈ l, ∀ v, (l.zip vs).lookup n = some v → g n = v) : l.map (fun n => (n, g n)) = l.zip vs := by
  induction l generalizing vs with
  | nil => rfl
  | cons n l ih =>
    cases vs with
    | nil => cases hl
    | cons v vs =>
      obtain ⟨n1, n2⟩ := List.nodup_cons.mp nd
      have e : g n = v := h n List.mem_cons_self v (by rw [List.zip_cons_cons, List.lookup_cons, beq_self_eq_true])
      rw [List.map_cons, List.zip_cons_cons, e, ih n2 (by simpa using hl) fun m hm w hw => h m (List.mem_cons_of_mem _ hm) w (by
        rw [List.zip_cons_cons, List.lookup_cons, beq_false_of_ne (fun z : m = n => n1 (by rw [← z]; exact hm))]
        exact hw)]
theorem look_mem {V : Type} {A : List (Str × V)} {n : Str} {v : V} (h : A.lookup n = some v) : (n, v) ∈ A := by
  induction A with
  | nil => cases h
  | cons x A ih =>
    obtain ⟨m, w⟩ := x
    rw [List.lookup_cons] at h
    cases e : n == m with
    | true =>
      rw [e] at h
      have e : n = m := by simpa using e
      cases h
      subst e
      exact List.mem_cons_self
    | false =>
      rw [e] at h
      exact List.mem_cons_of_mem _ (ih h)
theorem bindsW_of {K : PySem.W.Frag} {fd : FuncData} {D : Addr} {ns k1 ks k2 : List Str} {m1 m2 : List V} {v1 v2 : List Value} (hp : fd.params.posonlyargs = []) (hn : fd.params.args.map (·.arg) = ns) (hk : fd.params.kwonlyargs.map (·.arg) = k1 ++ (ks ++ k2)) (hv : fd.params.vararg = none) (hw : fd.params.kwarg = none) (hd : fd.defaults = .none) (hD : fd.kwdefaults = .ref D)
   (nd : (ns ++ (k1 ++ (ks ++ k2))).Nodup) (r1 : Vals m1 v1) (r2 : Vals m2 v2) (l1 : v1.length = k1.length) (l2 : v2.length = k2.length) (h1 : ∀ q ∈ k1.zip v1, PySem.W.nsIn K D q.1 = some (some q.2)) (h2 : ∀ q ∈ k2.zip v2, PySem.W.nsIn K D q.1 = some (some q.2)) : BindsW K fd (ns ++ (k1 ++ (ks ++ k2))) ns.length ks k1.length (m1 ++ m2) := by
  have l3 : m1.length = k1.length := r1.length.trans l1
  refine ⟨v1 ++ v2, r1.append r2, fun s us ws X lu lw => L2.BindsTo.of_looks fun M => ?_⟩
  obtain ⟨nd1, nd2, nd3⟩ := List.nodup_append.mp nd
  obtain ⟨nd4, nd5, nd6⟩ := List.nodup_append.mp nd2
  obtain ⟨nd7, nd8, nd9⟩ := List.nodup_append.mp nd5
  have a1 : ∀ n ∈ ks, n ∉ k1 := fun n h h' => nd6 n h' n (List.mem_append_left _ h) rfl
  have a2 : ∀ n ∈ k2, n ∉ k1 := fun n h h' => nd6 n h' n (List.mem_append_right _ h) rfl
  have a3 : ∀ n ∈ k2, n ∉ ks := fun n h h' => nd9 n h' n h rfl
  have gk : ∀ n, n ∉ ks → (ks.zip ws).lookup n = none := fun n h => look_none fun z => h (zipk _ z)
  have e := bind_kw (M := M) (us := us) (given := ks.zip ws) (dv := fun n => ((k1.zip v1 ++ k2.zip v2).lookup n).getD .none) X hp hn hk hv hw hd hD nd lu (fun q hq => List.mem_append_right _ (List.mem_append_left _ (List.of_mem_zip (a := q.1) (b := q.2) hq).1)) (by rw [List.map_fst_zip (by omega)]; exact nd7) (fun n hn hg => by
    rcases List.mem_append.mp hn with hn | hn
    · obtain ⟨v, e⟩ := look_zip l1 hn
      rw [look_app, e]
      exact h1 _ (look_mem e)
    · rcases List.mem_append.mp hn with hn | hn
      · obtain ⟨v, e⟩ := look_zip lw hn
        rw [e] at hg
        cases hg
      · obtain ⟨v, e⟩ := look_zip l2 hn
        rw [look_app, look_none (fun z => a2 n hn (zipk _ z)), e]
        exact h2 _ (look_mem e))
  have q1 : k1.map (fun n => (n, ((ks.zip ws).lookup n).getD (((k1.zip v1 ++ k2.zip v2).lookup n).getD .none))) = k1.zip v1 := map_look nd4 l1 fun n hn v e => by
    rw [gk n (fun z => a1 n z hn), look_app, e]; rfl
  have q2 : ks.map (fun n => (n, ((ks.zip ws).lookup n).getD (((k1.zip v1 ++ k2.zip v2).lookup n).getD .none))) = ks.zip ws := map_look nd7 lw fun n hn v e => by
    rw [e]; rfl
  have q3 : k2.map (fun n => (n, ((ks.zip ws).lookup n).getD (((k1.zip v1 ++ k2.zip v2).lookup n).getD .none))) = k2.zip v2 := map_look nd8 l2 fun n hn v e => by
    rw [gk n (a3 n hn), look_app, look_none (fun z => a2 n hn (zipk _ z)), e]; rfl
  rw [List.map_append, List.map_append, q1, q2, q3] at e
  have e1 : (v1 ++ v2).take k1.length = v1 := by rw [← l1]; simp
  have e2 : (v1 ++ v2).drop k1.length = v2 := by rw [← l1]; simp
  rw [e1, e2, List.zip_append lu.symm, List.zip_append l1.symm, List.zip_append lw.symm]
  exact e
def tMakeW (C : Addr) (n m i : Nat) (ms : List V) (sp : Sp) (E : XK) (t tk : TA) : TE := fun σ H Q => t σ H fun vs H1 => tk σ H1 fun zs H2 => vs.length = n ∧ zs.length = m ∧
  ∀ x dx, H2 x = none → H2 dx = none → dx ≠ x → sp (.ref x :: (vs ++ (ms.take i ++ (zs ++ ms.drop i)))) (upd (upd H2 dx (.own x)) x (.ins C dx [])) (fun v H3 => v = .non ∧ Q (.ref x) H3) E
section
variable {X : Cx} {CX : CXT} {k n m i : Nat} {f C : Addr} {fd : FuncData} {ps ks : List Str} {sp : Sp} {E : XK} {x : Str} {p pos : Pos} {e : Expr} {es : List Expr} {kws : List Keyword} {t tk : TA} {ms : List V}
theorem pe_makeW (M : Mk X.K C f) (F : FnOk X.prog X.w X.K X.mg X.base CX k f fd ps sp) (hr : Room (k + 1) X.A) (hg : Gl X x) (hm : X.mg x = some (.ref C)) (hb : BindsW X.K fd ps (n + 1) ks i ms) (hx : Passes CX X E)
    (ha : PA X (e :: es) t) (hkw : PK X kws tk) (hml : ks.length = m := by rfl) (hall : (backToKw pos (keywordEach kws X.env)).all (·.1.isSome) = true := by rfl) (hks : (backToKw pos (keywordEach kws X.env)).filterMap (·.1) = ks := by rfl)
    (hdb : (x == ("__debug__" : Str)) = false := by decide) (he : starEach (e :: es) X.env = (false, eval e X.env) :: starEach es X.env := by rfl)
    (hpl : ((backTo pos (starEach (e :: es) X.env)).any (·.1) || (backToKw pos (keywordEach kws X.env)).any (·.1.isNone)) = false := by rfl) :
    PE X (.Call (.Name x p) (e :: es) kws pos) (tMakeW C n m i ms sp E t tk) := by
  subst hml
  obtain ⟨mv, hb⟩ := hb.kbn
  exact pe_makeK M F hr hg hm hb hx ha hkw hall hks hdb he hpl
theorem pe_makeW0 (M : Mk X.K C f) (F : FnOk X.prog X.w X.K X.mg X.base CX k f fd ps sp) (hr : Room (k + 1) X.A) (hg : Gl X x) (hm : X.mg x = some (.ref C)) (hb : BindsW X.K fd ps 1 ks i ms) (hx : Passes CX X E)
    (hkw : PK X kws tk) (hml : ks.length = m := by rfl) (hall : (backToKw pos (keywordEach kws X.env)).all (·.1.isSome) = true := by rfl) (hks : (backToKw pos (keywordEach kws X.env)).filterMap (·.1) = ks := by rfl)
    (hdb : (x == ("__debug__" : Str)) = false := by decide) (hpl : ((backTo pos (starEach [] X.env)).any (·.1) || (backToKw pos (keywordEach kws X.env)).any (·.1.isNone)) = false := by rfl) :
    PE X (.Call (.Name x p) [] kws pos) (tMakeW C 0 m i ms sp E tNil tk) := by
  subst hml
  obtain ⟨mv, hb⟩ := hb.kbn
  exact pe_makeK0 M F hr hg hm hb hx hkw hall hks hdb hpl
end
/-- a module's text -/
theorem pe_constS {X : Cx} {x : Str} {i : Str} {t : Tok} {p2 : Pos} (hm : X.mg x = some (.str i t)) (hg : Gl X x) (hdb : (x == ("__debug__" : Str)) = false := by decide) : PE X (.Name x p2) (tC (.str i)) := pe_imp (pe_glob hg hm (v := .str i) ⟨t, rfl⟩ hdb) fun _ _ _ q => q
/-! ### isinstance, the module's tuples too -/
def rIsJ (S : Sta) : List V → Hp → VK → Prop := fun xs H Q => rIsI xs H Q ∨ rIsS S xs H Q
theorem c_isJ {X : Cx} {S : Sta} (st : S = SK X.K) : CallR X (.builtin "isinstance") (rIsJ S) := fun pins s σ H xs us Q J r h => h.elim (c_isi pins s σ H xs us Q J r) (c_isS st pins s σ H xs us Q J r)
def rIsTS (S : Sta) : List V → Hp → VK → Prop := fun xs H Q => ∃ p ys q vs ns, xs = [.ref p, .ref q] ∧ S p (.tup ys) ∧ H q = some (.tup vs) ∧ Tys vs ns ∧ (∀ n ∈ ns, kitB "tuple" n = some (isA "tuple" n)) ∧ Q (.bl (ns.any (isA "tuple"))) H
theorem c_isTS {X : Cx} {S : Sta} (st : S = SK X.K) : CallR X (.builtin "isinstance") (rIsTS S) := call_imp call_isiT fun xs H Q q => by
  subst st
  obtain ⟨p, ys, q', vs, ns, e, ⟨o, its, m, h1, h2, _⟩, h, k, ha, q⟩ := q
  exact ⟨.ref p, q', vs, .type "tuple", ns.map Value.type, ns.any (isA "tuple"), e, h, k.cls, .kTuple h1 h2, kit_any ha, q⟩
def rIsU (S : Sta) : List V → Hp → VK → Prop := fun xs H Q => rIsT xs H Q ∨ rIsTS S xs H Q
theorem c_isU {X : Cx} {S : Sta} (st : S = SK X.K) : CallR X (.builtin "isinstance") (rIsU S) := fun pins s σ H xs us Q J r h => h.elim (c_isT pins s σ H xs us Q J r) (c_isTS st pins s σ H xs us Q J r)
end Y

/-! extend by a list or a tuple; xs[a:c] = ys; comprehensions over a range with a step; leaf defs called in an except suite. -/
namespace Y
open PySem PySem.Spec PyProof.Rows L2
/-! ### xs.extend(ys) -/
section
open Builtin
theorem extend_tup (l : Addr) (items : Array Value) (n : Nat) (b : Addr) (d2 : Option Addr) (sl2 : Array (Option Value)) (items2 : Array Value) (n2 : Nat) (hs0 : ¬(!items.isEmpty && Builtin.List.listTooLong (items.size + items2.size)) = true) (hs1 : items.size ≤ sizeLine) (hs2 : items.size + items2.size ≤ sizeLine + 1) :
    Meets (Builtin.«list.extend» ⟨[.ref l, .ref b], []⟩) (fun _ R s => s.heap.get? l = some { cls := .type "list", dict := none, data := .seq items n, slots := #[] } ∧ s.heap.get? b = some { cls := .type "tuple", dict := d2, data := .seq items2 n2, slots := sl2 } ∧ R (.ok (.ret Value.none)) { s with heap := s.heap.update l (Obj.mapSeq fun x => x ++ items2), toks := s.toks }) :=
  .of_wp fun prog w A R s h => by
    obtain ⟨hp, g, d, tk, os⟩ := s; obtain ⟨hl, hb, h⟩ := h; have f1 := AutoSeq1.idx_int; have f2 := AutoSeq1.sub_tuple_tuple; have f3 := AutoSeq1.sub_list_list; have f4 := AutoSeq1.sub_tuple_list; have f5 := AutoSeq1.sub_list_tuple
    have hz' : (items ++ items2).size ≤ sizeLine + 1 := by rw [Array.size_append]; exact hs2
    wp_walk using (wpAny_updateSeq hl rfl (hz := hs1) (_hz' := hz')), wpAny_loadPart' hl, wpAny_loadPart' hb; exact ⟨_, rfl, h⟩
end
def rExt (S : Sta) : V → List V → Hp → VK → Prop := fun x vs H Q => ∃ l b xs zs, x = .ref l ∧ vs = [.ref b] ∧ H l = some (.lst xs) ∧ (H b = some (.lst zs) ∨ RdS S H b (.tup zs)) ∧ xs.length + zs.length ≤ sizeLine ∧ Q .non (upd H l (.lst (xs ++ zs)))
theorem mt_ext {X : Cx} {S : Sta} (st : S = SK X.K) : MtR X "list.extend" (rExt S) := fun pins s σ H x vs v us Q I rx rv h => by
  obtain ⟨l, b, xs, zs, e1, e2, hH, hB, hz, q⟩ := h
  rcases hB with hB | hB
  · exact mt_extend pins s σ H x vs v us Q I rx rv ⟨l, b, xs, zs, e1, e2, hH, hB, hz, q⟩
  · subst e1 e2
    cases rx
    obtain ⟨u, rfl, ru⟩ := rv.one
    cases ru
    obtain ⟨z, its, n, r, hl, e⟩ := I.lstM hH
    obtain ⟨its2, r2, ⟨o2, ho2, hc2, n2, hd2⟩, _⟩ := I.tuple (sqT st hB)
    obtain ⟨c2, d2, k2, sl2⟩ := o2
    cases hc2
    cases hd2
    have hl2 := r2.length
    have hsz : its.toArray.size + its2.toArray.size ≤ sizeLine := by rw [List.size_toArray, List.size_toArray]; omega
    have hlong : ¬ (!its.toArray.isEmpty && Builtin.List.listTooLong (its.toArray.size + its2.toArray.size)) = true := by
      rw [notLongL hsz, Bool.and_false]
      exact Bool.false_ne_true
    refine call_meets F.slot_list_extend ⟨_, e, rfl⟩ F.entry_list_extend (F.args_list_extend_2 _ _)
      (extend_tup l its.toArray n b d2 sl2 its2.toArray n2 hlong (by rw [List.size_toArray]; omega) (by omega)) ⟨e, ho2, ?_⟩
    refine ⟨.non, _, I.lset (its' := its ++ its2) hH e (by simp) (r.append r2) ?_, rfl, q⟩
    rw [List.length_append]
    omega
def eExt (S : Sta) (te : TE) (ta : TA) : TE := fun σ H Q => te σ H fun x H1 => ∃ l, x = .ref l ∧ (∃ xs, H1 l = some (.lst xs)) ∧ ta σ H1 fun vs H2 => rExt S x vs H2 Q
theorem pe_ext {X : Cx} {S : Sta} {o e : Expr} {es : List Expr} {te : TE} {ta : TA} {apos cpos : Pos} (st : S = SK X.K) (ho : PE X o te) (ha : PA X (e :: es) ta)
    (hbase : attributeBase o "extend" X.env (eval o X.env) = eval o X.env := by rfl)
    (hfew : ((backTo cpos (starEach (e :: es) X.env)).all (fun x => !x.1) && (backToKw cpos (keywordEach [] X.env)).all (fun x => x.1.isSome)
      && decide ((e :: es).length + ([] : List Keyword).length + (if ([] : List Keyword).isEmpty then 0 else 1) < 30)) = true := by rfl)
    (hline : (apos.endLine == cpos.line) = true := by rfl) (hs : starEach (e :: es) X.env = (false, eval e X.env) :: starEach es X.env := by rfl) (hplain : (backTo cpos (starEach es X.env)).any (·.1) = false := by rfl) :
    PE X (.Call (.Attribute o "extend" apos) (e :: es) [] cpos) (eExt S te ta) :=
  pe_imp (pe_bm PySem.F.plainAttrs_list PySem.F.slot_list_extend PySem.F.type_list_extend (mt_ext st) (pe_mo ho) ha hbase hfew hline hs hplain) fun σ H Q q =>
    ⟨_, q, fun x H1 ⟨l, e1, ⟨xs, hl⟩, q1⟩ => by subst e1; exact ⟨.inl ⟨rfl, _, .inl (.inl hl)⟩, q1⟩⟩
/-! ### xs[a:c] = ys -/
def gSlS (to : TE) (tl th : TO) : TG := fun v σ H Q => to σ H fun o H1 => tl σ H1 fun a H2 => th σ H2 fun c H3 => ∃ l b xs ys i j, o = .ref l ∧ v = .ref b ∧ a = some i ∧ c = some j ∧ H3 l = some (.lst xs) ∧ H3 b = some (.lst ys) ∧ l ≠ b ∧ 0 ≤ i ∧ i ≤ j ∧ j ≤ (xs.length : Int) ∧ xs.length + ys.length ≤ sizeLine ∧ Q σ (upd H3 l (.lst (xs.take i.toNat ++ ys ++ xs.drop j.toNat)))
theorem pg_slS {X : Cx} {o lo hi : Expr} {to : TE} {tl th : TO} {p2 pos : Pos} (ho : PE X o to) (hl : PO X (some lo) tl) (hu : PO X (some hi) th)
    (ha : ∀ v, assign (.Subscript o (.Slice (some lo) (some hi) none p2) pos) X.env v = (do
      let ov ← holding [v] (eval o X.env)
      let iv ← holding [v, ov] (eval (.Slice (some lo) (some hi) none p2) X.env)
      standAt pos
      holding [v, ov, iv] (setItem ov iv v)
      release [iv, v, ov] []) := by intro _; rfl) : PG X (.Subscript o (.Slice (some lo) (some hi) none p2) pos) (gSlS to tl th) := by
  refine ⟨fun pins s σ H v u Q I r h => ?_⟩
  rw [ha]
  refine wpAny_bind (wpAny_holding (thn (ho.run pins s σ H _ I h) fun ov s1 ⟨x, H1, I1, r1, q1⟩ => ?_))
  refine wpAny_bind (wpAny_holding (wpAny_Slice (thn (hl.run pins s1 σ H1 _ I1 q1) fun vl s2 ⟨a, H2, I2, pl, q2⟩ => thn (hu.run pins s2 σ H2 _ I2 q2) fun vu s3 ⟨c, H3, I3, pu, q3⟩ => ?_)))
  rw [evalPart_none]
  refine wpAny_pure ?_
  have I4 : Inv X pins σ H3 { s3 with heap := s3.heap.push { cls := .type "slice", data := .fields #[vl, vu, .none] } } := I3.kept (t' := s3.toks) fun b ob q => Heap.get?_push_of_some _ q
  obtain ⟨l, b, xs, ys, i, j, rfl, rfl, rfl, rfl, hH, hB, hne, h0, hij, hj, hz, q⟩ := q3
  cases r1
  cases r
  cases pl with
  | int i ti =>
    cases pu with
    | int j tj =>
      refine wpAny_bind (wpAny_standAt (wpAny_bind (wpAny_holding (set_slice I4 hH hB hne (Heap.IsSliceOf.new ..) ⟨ti, rfl⟩ ⟨tj, rfl⟩ h0 hij hj hz fun s' I5 => ?_))))
      exact wpAny_release ⟨σ, _, I5, q⟩
/-! ### [e for x in range(a, b, c)] -/
def eLcR3 (ta : TA) (g : TG) (tt : TT) (tel : TE) (vs : List Nat) : TE := fun σ H Q => ta σ H fun xs H1 => ∃ (i j c : Int) (n : Nat), xs = [.int i, .int j, .int c] ∧ RgC i j c n ∧ ∀ D, H1 D = none → ∃ Pv : Nat → Hp → Prop, Pv 0 (upd H1 D (.lst [])) ∧
  (∀ (k : Nat) H, k < n → Pv k H → g (.int (i + (k : Nat) * c)) (wipe σ vs) H fun σ2 H2 => wipe σ2 vs = wipe σ vs ∧ tt σ2 H2 fun b H3 => if b = true then tel σ2 H3 fun z H4 => ∃ acc, H4 D = some (.lst acc) ∧ acc.length < sizeLine ∧ Pv (k + 1) (upd H4 D (.lst (acc ++ [z]))) else Pv (k + 1) H3) ∧
  ∀ H, Pv n H → Q (.ref D) H
theorem pe_lcR3 {X : Cx} {tg a b c elt : Expr} {ifs : List Expr} {ta : TA} {tel : TE} {tt : TT} {g : TG} {scope : Scope} {own : List (Str × Nat)} {pos p pos2 : Pos} (hc : X.calm = true) (hN : X.N.Nodup) (hgl : Gl X "range") (hm : X.mg "range" = none) (ha : PA X [a, b, c] ta) (ok : BlkOk X.N X.env.scope scope own) (B : Blk X scope tg elt ifs g tt tel)
    (hs : starEach [a, b, c] X.env = (false, eval a X.env) :: starEach [b, c] X.env := by rfl) (hpl : (backTo pos2 (starEach [b, c] X.env)).any (·.1) = false := by rfl) (hs' : ∀ x, foldedSetIterable (.Call (.Name "range" p) [a, b, c] [] pos2) X.env x = pure x := by intro _; rfl) :
    PE X (.ListComp elt [⟨tg, .Call (.Name "range" p) [a, b, c] [] pos2, ifs, 0⟩] scope pos) (eLcR3 ta g tt tel (own.map (·.2))) :=
  pe_imp (pe_lc hc hN (pi_range3 hgl hm (pa_mo ha) hs hpl) ok B.hg B.ht B.he hs') fun σ H Q q => ⟨_, q, fun xs H1 ⟨i, j, c, n, e, rg, q⟩ => ⟨i, j, c, n, e, rg, fun D hD => by
    obtain ⟨Pv, h0, ht, hd⟩ := q D hD
    exact lc_it walk_rangeC Pv h0 (fun _ _ _ _ => trivial) (fun k v H H' hk p ⟨e, ev⟩ => by
      subst e ev
      exact ht k H' hk p) hd⟩⟩
/-! ### leaf defs called where an exception is handled -/
theorem units_h {k : Nat} {A : Around} (r : L2H.RoomH k A) : A.units + 64 < cLine := by have := r.un; omega
/-- as FnOk, an exception being handled (its object is p) -/
structure FnW (P : Program) (w : World) (K : PySem.W.Frag) (mg : Str → Option Value) (base : Heap) (CX : CXT) (k : Nat) (f : Addr) (fd : FuncData) (ps : List Str) (sp : Sp) : Prop where
  ln : ∀ vs H Q E, sp vs H Q E → vs.length = ps.length
  go : ∀ (A : Around) (fs : List Env) (s : Shared) (H : Hp) (ar : Args) (us : List Value) (vs : List V) (Q : VK) (E : XK) (p : Addr × Obj), L2H.RoomH k A → L2H.PinOk fs H s p → Env0 P w K mg base A fs s H → BindsTo s fd ar (ps.zip us) → Vals vs us → sp vs H Q E → codeAny (model P w) A (.call (.ref f) ar) (CR CX fs P w H s Q E) s
theorem ok_bodyW {P : Program} {w : World} {K : PySem.W.Frag} {mg : Str → Option Value} {base : Heap} {x qual : Str} {st : Stmt} {f : Addr} {fd : FuncData} {N ps : List Str} {n m k : Nat} {t : XK → TS} (F : Fun K x qual st f fd) (S : FnScope N ps (defScope st)) (hn : N.length = n) (hm : ps.length = m)
    (h : ∀ (cdv : Value) (A : Around) (outer : List Env) (s : Shared) (H : Hp) (E : XK) (p : Addr × Obj), L2H.RoomH k (A.deeper (envOfC qual (defScope st) s.heap.objs.size f cdv)) → PSs (L2H.cxH (L2.CX P w) P w K mg base N qual (defScope st) f cdv A outer s H E p) (defBody st) (t E)) : FnW P w K mg base (L2.CX P w) (k + 1) f fd ps (spB n m t) := by
  subst hn hm
  obtain ⟨oc, od, kV, doc, pm, an, cdv, ct, osl, e, lk, hcd⟩ := F.ex
  subst e
  refine ⟨fun vs H Q E q => q.1, fun A fs s H ar us vs Q E p hr hpin e0 hb rv hsp => ?_⟩
  have kX : K.In s.heap := e0.mod.kin.keeps fun b o z => (e0.bs b o z).1
  have nl : s.heap.NoLimit := e0.mod.nolimit.keeps fun b o z => (e0.bs b o z).1
  refine codeAny_call_function hr.depth (kX _ _ lk) rfl S.co S.gen rfl (PySem.W.codeRec_of kX hcd) (hb _ _ _ _ (wpAny_newFunctionEnv_cells S.kind ?_ ?_))
  · rintro ⟨n, v⟩ hy
    rcases S.par n (List.of_mem_zip hy).1 with z | z
    · exact Or.inl z
    · exact Or.inr ⟨z, PySem.W.cellsFrom_some _ _ _ (Or.inl z)⟩
  · intro env he s1 ic
    cases he
    refine ⟨nl.keeps ic.toInCall.keep, codeAny_func ?_⟩
    have J : Inv (L2H.cxH (L2.CX P w) P w K mg base N qual (defScope st) f cdv A fs s H E p) [] (L2.start N vs) H s1 := L2H.inv_startH S hpin e0 hsp.1 rv ic
    refine wpAny_mono ((h cdv A fs s H E p (hr.deeper _)).run [] s1 (L2.start N vs) H { nx := fun _ H' => Q .non H', rt := Q } J hsp.2) ?_ (fun _ _ z => z)
    intro fl s' hs
    match fl, hs with
    | .ret u, ⟨v, σ', H', J', r', q'⟩ => exact ⟨v, H', J'.os, J'.bare, J'.base, J'.hok, r', q'⟩
    | .next, ⟨σ', H', J', q'⟩ => exact ⟨V.non, H', J'.os, J'.bare, J'.base, J'.hok, rfl, q'⟩
    | .brk, ⟨_, _, _, q'⟩ => exact q'.elim
    | .cont, ⟨_, _, _, q'⟩ => exact q'.elim
theorem pe_callW {X : Cx} {CX : CXT} {k : Nat} {f : Addr} {fd : FuncData} {ps : List Str} {sp : Sp} {E : XK} {x : Str} {p pos : Pos} {e : Expr} {es : List Expr} {t : TA} {pn : Addr × Obj} (F : FnW X.prog X.w X.K X.mg X.base CX k f fd ps sp) (hr : L2H.RoomH k X.A) (hp : pn ∈ X.pn) (hg : Gl X x) (hm : X.mg x = some (.ref f)) (hk : PySem.W.keepIn X.K (.ref f) = true) (hb : Binds X.K fd ps []) (hx : Passes CX X E) (ha : PA X (e :: es) t)
    (hdb : (x == ("__debug__" : Str)) = false := by decide) (he : starEach (e :: es) X.env = (false, eval e X.env) :: starEach es X.env := by rfl) (hpl : (backTo pos (starEach es X.env)).any (·.1) = false := by rfl) : PE X (.Call (.Name x p) (e :: es) [] pos) (tCall sp [] E t) := by
  constructor
  intro pins s σ H Q J h
  refine wpAny_Call_Name_kw (ld_glob J hg hm (PySem.W.callWith_K (h₀ := X.base) J.ok.mod.kin hk (thn (ha.run pos pins s σ H _ J h) ?_) he hpl) hdb)
  rintro us s1 ⟨vs, H1, J1, rv, q⟩
  rw [List.append_nil] at q
  refine ⟨J1.kIn, ?_⟩
  have ll : (us ++ []).length = ps.length := by rw [List.append_nil, ← rv.length, F.ln _ _ _ _ q]
  have hb1 := hb s1 us J1.kIn ll
  rw [List.append_nil] at hb1
  have P1 := J1.pin pn (List.mem_append_left _ hp)
  refine wpAny_call (codeAny_mono (F.go X.A X.stack s1 H1 ⟨us, []⟩ us vs Q E pn hr ⟨P1.1, P1.2.1, fun hm => (List.mem_cons.mp (J1.stkSub pn.1 hm)).elim P1.2.2.1 P1.2.2.2.1, P1.2.2.2.2⟩ J1.env0 hb1 rv q) ?_)
  intro r s' z
  match r, z with
  | .error e', z => exact hx pins σ H1 s1 e' s' J1 z
  | .ok (.ret u), z => exact J1.after z
theorem roomW {k : Nat} {A : Around} {v : Option Value} (r : Room k A) : L2H.RoomH k (A.mark v) := ⟨r.dp, r.un⟩
/-! ### == of two instances of a class, by its __eq__ -/
def rEqOwn (C : Addr) (sp : Sp) (E : XK) : R2 := fun x y H Q => ∃ a b dx dy fs gs, x = .ref a ∧ y = .ref b ∧ H a = some (.ins C dx fs) ∧ H b = some (.ins C dy gs) ∧ sp [x, y] H (fun v H' => ∃ c, v = .bl c ∧ Q (.bl c) H') E
theorem o_eqOwn {X : Cx} {CX : CXT} {C f : Addr} {fd : FuncData} {ps : List Str} {sp : Sp} {E : XK} {k : Nat} (F : FnOk X.prog X.w X.K X.mg X.base CX k f fd ps sp) (hm : Meth X.K C "__eq__" f) (hr : Room k X.A) (hb : Binds X.K fd ps []) (hx : Passes CX X E) : OpR X (compareOp .Eq) (rEqOwn C sp E) := fun pins s σ H x y u v Q I rx ry h => by
  obtain ⟨a, b, dx, dy, fs, gs, rfl, rfl, ha, hb', h⟩ := h
  cases rx
  cases ry
  obtain ⟨mA, J, _⟩ := ins_get I.hok ha
  obtain ⟨mB, J', _⟩ := ins_get I.hok hb'
  obtain ⟨od, J, _⟩ := J.look
  obtain ⟨od', J', _⟩ := J'.look
  obtain ⟨m, hF⟩ := I.fr
  show wpAny (model X.prog X.w) X.A (richCompare .Eq (.ref a) (.ref b)) (EP X pins σ Q) X.xe s
  refine PySem.W.cmp_K (op := .Eq) (tb := .ref C) hr.units0 hF I.ok.mod.kin J J'.type (by simp [PySem.W.notFirst]) hm.at_ hm.fn ?_
  refine thn (run_fn (us := [.ref a, .ref b]) (vs := [.ref a, .ref b]) (dvs := []) (ds := []) F hr hb .nil hx I (.cons rfl (.cons rfl .nil)) h) fun w s' q => ?_
  obtain ⟨z, H', I', rz, c, ez, q⟩ := q
  subst ez
  cases rz
  exact ⟨.bl c, H', I', rfl, q⟩
/-! ### slices of what is a list or a tuple -/
def rSlB (S : Sta) : V → Option Int → Option Int → Hp → VK → Prop := fun x lo hi H Q => rSl S x lo hi H Q ∨ rTSl S x lo hi H Q
theorem o_slB {X : Cx} {S : Sta} (st : S = SK X.K) : SlR X (rSlB S) := fun pins s σ H x v vl vu lo hi sl Q I rx hs pl pu h => h.elim (o_sl st pins s σ H x v vl vu lo hi sl Q I rx hs pl pu) (o_tsl st pins s σ H x v vl vu lo hi sl Q I rx hs pl pu)
end Y

/-! repr of data that may hold an empty dict. -/
namespace Y
open PySem PySem.Spec PyProof.Rows L2
mutual
inductive DpE (H : Hp) : V → PyData → Prop
  | non : DpE H .non .none
  | bl (b : Bool) : DpE H (.bl b) (.bool b)
  | int (i : Int) : DpE H (.int i) (.int i)
  | str (x : Str) : DpE H (.str x) (.str x)
  | lst {a : Addr} {xs : List V} {ds : List PyData} : H a = some (.lst xs) → DpEs H xs ds → DpE H (.ref a) (.list ds)
  | tup {a : Addr} {xs : List V} {ds : List PyData} : H a = some (.tup xs) → DpEs H xs ds → DpE H (.ref a) (.tuple ds)
  | dct {a : Addr} : H a = some (.dK []) → DpE H (.ref a) (.dict [])
inductive DpEs (H : Hp) : List V → List PyData → Prop
  | nil : DpEs H [] []
  | cons {v : V} {vs : List V} {d : PyData} {ds : List PyData} : DpE H v d → DpEs H vs ds → DpEs H (v :: vs) (d :: ds)
end
section
variable {X : Cx} {pins : List (Addr × Obj)} {σ : L2.St} {H : Hp} {s : Shared}
theorem sys_base (I : Inv X pins σ H s) (sb : ∃ mm, X.base.Ns sysModules mm) : H sysModules = none := by
  obtain ⟨mm, o, es, ep, e, _⟩ := sb
  exact (I.bs sysModules o e).2
theorem ne_sys (I : Inv X pins σ H s) (sb : ∃ mm, X.base.Ns sysModules mm) {a : Addr} {o : HO} (h : H a = some o) : sysModules ≠ a := fun e => by
  subst e
  rw [sys_base I sb] at h
  cases h
mutual
theorem DpE.reads (I : Inv X pins σ H s) (sb : ∃ mm, X.base.Ns sysModules mm) : ∀ (d : PyData) (v : V) (u : Value), DpE H v d → RelV v u → ∃ as, Reads s.heap u d as ∧ sysModules ∉ as
  | .none, _, _, h, r => by
    cases h
    cases r
    exact ⟨_, Reads.none, by simp⟩
  | .bool b, _, _, h, r => by
    cases h
    cases r
    exact ⟨_, Reads.bool b, by simp⟩
  | .int i, _, _, h, r => by
    cases h
    obtain ⟨t, rfl⟩ := r
    exact ⟨_, Reads.int i t, by simp⟩
  | .str x, _, _, h, r => by
    cases h
    obtain ⟨t, rfl⟩ := r
    exact ⟨_, Reads.str x t, by simp⟩
  | .list ds, _, _, h, r => by
    cases h with
    | lst hs ha =>
      cases r
      obtain ⟨its, rv, ⟨o, n, ho, hc, _, hd⟩, _⟩ := I.list (.inl (.inl hs))
      obtain ⟨as, hr, hn⟩ := DpEs.reads I sb ds _ its ha rv
      refine ⟨_, Reads.list ho hc hd hr, fun m => ?_⟩
      rcases List.mem_cons.mp m with m | m
      · exact ne_sys I sb hs m
      · exact hn m
  | .tuple ds, _, _, h, r => by
    cases h with
    | tup hs ha =>
      cases r
      obtain ⟨its, rv, ⟨o, ho, hc, n, hd⟩, _⟩ := I.tuple (.inl (.inl hs))
      obtain ⟨as, hr, hn⟩ := DpEs.reads I sb ds _ its ha rv
      exact ⟨_, Reads.tuple ho hc hd hr, hn⟩
  | .dict _, _, _, h, r => by
    cases h with
    | dct hs =>
      cases r
      obtain ⟨_, hm, vs, kv, o, es, ep, ho, ex, hd, _, pr, _⟩ := I.hok _ _ hs
      cases kv
      have he : es.toList = [] := by
        generalize es.toList = l at pr
        cases pr
        rfl
      refine ⟨_, Reads.dict ho ex.1 hd (by rw [he]; exact .nil) (by rw [he]; exact .nil), fun m => ?_⟩
      have m : sysModules = _ := List.mem_singleton.mp m
      exact ne_sys I sb hs m
theorem DpEs.reads (I : Inv X pins σ H s) (sb : ∃ mm, X.base.Ns sysModules mm) : ∀ (ds : List PyData) (vs : List V) (us : List Value), DpEs H vs ds → Vals vs us → ∃ as, ReadsAll s.heap us ds as ∧ sysModules ∉ as
  | [], _, _, h, r => by
    cases h
    cases r
    exact ⟨_, ReadsAll.nil, by simp⟩
  | d :: ds, _, _, h, r => by
    cases h with
    | cons h1 h2 =>
      cases r with
      | cons r1 r2 =>
        obtain ⟨as, q1, n1⟩ := DpE.reads I sb d _ _ h1 r1
        obtain ⟨bs, q2, n2⟩ := DpEs.reads I sb ds _ _ h2 r2
        exact ⟨_, ReadsAll.cons q1 q2, fun m => (List.mem_append.mp m).elim n1 n2⟩
end
end
/-- repr: data, or a list that may hold empty dicts -/
def rReprE (S : Sta) : List V → Hp → VK → Prop := fun xs H Q => rRepr S xs H Q ∨ ∃ (a : Addr) (d : PyData), xs = [.ref a] ∧ DpE H (.ref a) d ∧ d.showable = true ∧ d.depth ≤ 20 ∧ d.shown.length ≤ sizeLine ∧ Q (.str d.shown) H
theorem c_reprE {X : Cx} {S : Sta} (sb : ∃ mm, X.base.Ns sysModules mm) (st : S = SK X.K) (gd : X.A.guards = some []) (hu : X.A.units + 64 < cLine) : CallR X (.builtin "repr") (rReprE S) := by
  intro pins s σ H xs us Q J rv h
  rcases h with h | ⟨a, d, e, dp, h1, h3, h4, q⟩
  · exact c_repr st gd hu pins s σ H xs us Q J rv h
  · subst e
    match us, rv with
    | [u], .cons ru .nil =>
      cases ru
      obtain ⟨as, rd, hn⟩ := DpE.reads J sb d _ _ dp rfl
      refine repr_of_reads' rd h1 (fun _ => hn) gd (by omega) (fun _ _ z => z) (fun h' u tk hk => ?_) h4
      exact ⟨.str d.shown, H, J.kept hk, ⟨u, rfl⟩, q⟩
end Y

/-! Star parameters and star calls, operators of own classes, comprehensions with two fors, sorted. -/
namespace Y
open PySem PySem.Spec PyProof.Rows L2
/-! ### a def with a star parameter -/
def BindsSt (fd : FuncData) (ps : List Str) (pv : Str) : Prop := ∀ us rest : List Value, us.length = ps.length → bindArgs fd ⟨us ++ rest, []⟩ = (newTuple rest >>= fun t => pure (ps.zip us ++ [(pv, t)]))
def spSt (j : Nat) (sp : Sp) : Sp := fun vs H Q E => ∃ ws rest, vs = ws ++ rest ∧ ws.length = j ∧ rest.length ≤ sizeLine ∧ ∀ p, H p = none → sp (ws ++ [V.ref p]) (upd H p (.tup rest)) Q E
theorem ok_bodyR {P : Program} {w : World} {K : PySem.W.Frag} {mg : Str → Option Value} {base : Heap} {x qual pv : Str} {st : Stmt} {f : Addr} {fd : FuncData} {N ps : List Str} {n m k : Nat} {t : XK → TS} (F : Fun K x qual st f fd) (S : FnScope N (ps ++ [pv]) (defScope st)) (b : BindsSt fd ps pv) (hn : N.length = n)
    (h : ∀ (cdv : Value) (A : Around) (outer : List Env) (s : Shared) (H : Hp) (E : XK), Room k (A.deeper (envOfC qual (defScope st) s.heap.objs.size f cdv)) → PSs (cxOf (L2.CX P w) P w K mg base N qual (defScope st) f cdv A outer s H E) (defBody st) (t E)) :
    FnR P w K mg base (L2.CX P w) (k + 1) f (spSt ps.length (spB n m t)) := by
  subst hn
  obtain ⟨oc, od, kV, doc, pm, an, cdv, ct, osl, rfl, lk, hcd⟩ := F.ex
  exact StX.fn_star (sp := spB N.length m t) lk hcd S StX.cxUp b fun A outer s H vs Q E hr q => ⟨t E, h cdv A outer s H E hr, q.2⟩
/-! ### an instance by a star __init__ -/
def Kst (C : Addr) (sp : Sp) (vs : List V) (H1 : Hp) (Q : VK) (E : XK) : Prop := vs.length ≤ sizeLine ∧ ∀ x dx p, H1 x = none → H1 dx = none → dx ≠ x → H1 p = none → p ≠ x → p ≠ dx →
  sp [.ref x, .ref p] (upd (upd (upd H1 dx (.own x)) x (.ins C dx [])) p (.tup vs)) (fun v H2 => v = .non ∧ Q (.ref x) H2) E
def tMakeSt (C : Addr) (sp : Sp) (E : L2.St → XK) (t : TA) : TE := fun σ H Q => t σ H fun vs H1 => Kst C sp vs H1 Q (E σ)
/-- *e in an argument list -/
def tStarS (S : Sta) (te : TE) (t : TA) : TA := fun σ H Q => te σ H fun x H1 => ∃ a xs, x = .ref a ∧ Seq S H1 a xs ∧ t σ H1 fun ys H2 => Q (xs ++ ys) H2
section
variable {X : Cx} {CX : CXT} {k : Nat} {f C : Addr} {sp : Sp} {x : Str} {e : Expr} {es : List Expr} {te : TE} {t : TA} {p pos sp_ : Pos}
theorem run_makeSt {E : XK} {pins : List (Addr × Obj)} {σ : L2.St} {H : Hp} {s : Shared} {Q : VK} {us : List Value} {vs : List V} (M : Mk X.K C f) (F : FnR X.prog X.w X.K X.mg X.base CX k f (spSt 1 sp)) (hr : Room (k + 1) X.A) (hx : PassesAt CX X σ E) (I : Inv X pins σ H s) (r : Vals vs us)
    (h : Kst C sp vs H Q E) : wpAny (model X.prog X.w) X.A (call (.ref C) us) (EP X pins σ Q) X.xe s := by
  obtain ⟨hz, h⟩ := h
  have nn := Nat.le_refl s.heap.objs.size
  have ne : s.heap.objs.size ≠ s.heap.objs.size + 1 := Nat.ne_of_lt (Nat.lt_succ_self _)
  have hq : spSt 1 sp (V.ref (s.heap.objs.size + 1) :: vs) (upd (upd H s.heap.objs.size (.own (s.heap.objs.size + 1))) (s.heap.objs.size + 1) (.ins C s.heap.objs.size [])) (fun v H2 => v = .non ∧ Q (.ref (s.heap.objs.size + 1)) H2) E := by
    refine ⟨[V.ref (s.heap.objs.size + 1)], vs, rfl, rfl, hz, fun q hq => ?_⟩
    have h1 : q ≠ s.heap.objs.size + 1 := fun e => by rw [e, upd_same] at hq; cases hq
    rw [upd_ne h1] at hq
    have h2 : q ≠ s.heap.objs.size := fun e => by rw [e, upd_same] at hq; cases hq
    rw [upd_ne h2] at hq
    exact h _ _ q (I.hok.fresh (Nat.le_succ _)) (I.hok.fresh nn) ne hq h1 h2
  have I2 := Inv.made (C := C) I
  have r2 : Vals (V.ref (s.heap.objs.size + 1) :: vs) (Value.ref (s.heap.objs.size + 1) :: us) := .cons rfl r
  have e0 := I2.env0.make C us []
  refine wpAny_call (make_map (f := f) I.kIn M.makes M.init (beq_iff_eq.mp M.fn) (codeAny_mono (F _ X.stack _ _ (Value.ref (s.heap.objs.size + 1) :: us) _ _ E (hr.make C us []) e0 r2 hq) fun r s' hq' => ?_))
  cases r with
  | error e => exact hx pins _ _ e s' I2 hq'
  | ok fl =>
    cases fl with
    | ret u =>
      obtain ⟨v, H', I3, rv, ev, q3⟩ := I2.after hq'
      subst ev
      exact ⟨rv, V.ref (s.heap.objs.size + 1), H', I3, rfl, q3⟩
    | next | brk | cont => exact False.elim hq'
variable {E : L2.St → XK}
theorem pe_makeSt (M : Mk X.K C f) (F : FnR X.prog X.w X.K X.mg X.base CX k f (spSt 1 sp)) (hr : Room (k + 1) X.A) (hg : Gl X x) (hm : X.mg x = some (.ref C)) (hx : ∀ σ, PassesAt CX X σ (E σ))
    (ha : PA X (e :: es) t) (hdb : (x == ("__debug__" : Str)) = false := by decide) (he : starEach (e :: es) X.env = (false, eval e X.env) :: starEach es X.env := by rfl) (hpl : (backTo pos (starEach es X.env)).any (·.1) = false := by rfl) :
    PE X (.Call (.Name x p) (e :: es) [] pos) (tMakeSt C sp E t) :=
  ⟨fun pins s σ H Q I h => wpAny_Call_Name_kw (ld_glob I hg hm (PySem.W.callWith_K (h₀ := X.base) I.ok.mod.kin M.kp (thn (ha.run pos pins s σ H _ I h) fun us s1 ⟨vs, H1, I1, r, q⟩ => ⟨I1.kIn, run_makeSt M F hr (hx σ) I1 r q⟩) he hpl) hdb)⟩
theorem pe_makeSt0 (M : Mk X.K C f) (F : FnR X.prog X.w X.K X.mg X.base CX k f (spSt 1 sp)) (hr : Room (k + 1) X.A) (hg : Gl X x) (hm : X.mg x = some (.ref C)) (hx : ∀ σ, PassesAt CX X σ (E σ))
    (hdb : (x == ("__debug__" : Str)) = false := by decide) : PE X (.Call (.Name x p) [] [] pos) (tMakeSt C sp E tNil) :=
  ⟨fun pins s σ H Q I h => wpAny_Call_Name_kw (ld_glob I hg hm (PySem.W.callWith_K0 I.kIn M.kp (run_makeSt (us := []) M F hr (hx σ) I .nil h)) hdb)⟩
theorem pa_starS {S : Sta} (st : S = SK X.K) (he : PE X e te) (hr : PA X es t) (hs : starEach (.Starred e p :: es) X.env = (true, eval e X.env) :: starEach es X.env := by rfl) : PA X (.Starred e p :: es) (tStarS S te t) := by
  have z := StX.pa_star he hr hs
  refine ⟨fun pos pins s σ H Q I h => ?_⟩
  refine PySem.W.items_star (thn (he.run pins s σ H _ I h) fun v s1 ⟨y, H1, I1, ry, a, xs, ey, hx, q⟩ => ?_) hs
  subst ey
  obtain rfl : v = Value.ref a := ry
  refine StX.star_any I1 (hx.elim (fun q => .inr (sqL st q)) fun q => .inl (sqT st q)) fun us s2 I2 rv => ?_
  exact thn (hr.run pos pins s2 σ H1 _ I2 q) fun ws s3 ⟨vs, H3, I3, r3, q3⟩ => ⟨xs ++ vs, H3, I3, rv.append r3, q3⟩
/-- C(*y) -/
theorem pe_makeStar1 {S : Sta} (st : S = SK X.K) (M : Mk X.K C f) (F : FnR X.prog X.w X.K X.mg X.base CX k f (spSt 1 sp)) (hr : Room (k + 1) X.A) (hg : Gl X x) (hm : X.mg x = some (.ref C)) (hx : ∀ σ, PassesAt CX X σ (E σ)) (he : PE X e te) (hdb : (x == ("__debug__" : Str)) = false := by decide)
    (hst : starEach [.Starred e sp_] X.env = [(true, eval e X.env)] := by rfl) : PE X (.Call (.Name x p) [.Starred e sp_] [] pos) (tMakeSt C sp E (tStarS S te tNil)) := by
  refine ⟨fun pins s σ H Q I h => wpAny_Call_Name_kw (ld_glob I hg hm ?_ hdb)⟩
  refine PySem.W.callWith_S (h₀ := X.base) I.ok.mod.kin M.kp (thn (he.run pins s σ H _ I h) fun v s1 ⟨y, H1, I1, ry, a, xs, ey, hxs, q⟩ => ?_) hst
  subst ey
  obtain rfl : v = Value.ref a := ry
  have q : Kst C sp (xs ++ []) H1 Q (E σ) := q
  rw [List.append_nil] at q
  exact StX.star_any I1 (hxs.elim (fun q => .inr (sqL st q)) fun q => .inl (sqT st q)) fun us s2 I2 rv => ⟨I2.kIn, run_makeSt M F hr (hx σ) I2 rv q⟩
theorem evalArgs_st2 {M : Model} {A : Around} {E : Value → Shared → Prop} {s : Shared} {f : Value} {x y : Sem Value} {b c : Bool} {rest : List (Bool × Sem Value)} {Q : Args → Shared → Prop}
    (h : wpAny M A (spliced ((b, x) :: (c, y) :: rest)) (fun vs s' => Q ⟨vs, []⟩ s') E s) : wpAny M A (evalArgs f true ((b, x) :: (c, y) :: rest) []) Q E s := by
  unfold evalArgs
  cases b with
  | false =>
    show wpAny M A (spliced ((false, x) :: (c, y) :: rest) >>= _) Q E s
    refine wpAny_bind (wpAny_mono h (fun vs s' h' => ?_) fun _ _ x => x)
    refine wpAny_holding ?_
    exact wpAny_bind (wpAny_pure (wpAny_bind (wpAny_pure (wpAny_pure h'))))
  | true =>
    show wpAny M A (spliced ((true, x) :: (c, y) :: rest) >>= _) Q E s
    refine wpAny_bind (wpAny_mono h (fun vs s' h' => ?_) fun _ _ x => x)
    refine wpAny_holding ?_
    exact wpAny_bind (wpAny_pure (wpAny_bind (wpAny_pure (wpAny_pure h'))))
/-- C(*y, z, ..) -/
theorem pe_makeStar2 {e2 : Expr} {a2 : Bool × Sem Value} {r2 : List (Bool × Sem Value)} (M : Mk X.K C f) (F : FnR X.prog X.w X.K X.mg X.base CX k f (spSt 1 sp)) (hr : Room (k + 1) X.A) (hg : Gl X x) (hm : X.mg x = some (.ref C)) (hx : ∀ σ, PassesAt CX X σ (E σ))
    (ha : PA X (.Starred e sp_ :: e2 :: es) t) (hdb : (x == ("__debug__" : Str)) = false := by decide) (he : backTo pos (starEach (.Starred e sp_ :: e2 :: es) X.env) = (true, (do let v ← eval e X.env; standAt pos; pure v)) :: a2 :: r2 := by rfl) :
    PE X (.Call (.Name x p) (.Starred e sp_ :: e2 :: es) [] pos) (tMakeSt C sp E t) := by
  refine ⟨fun pins s σ H Q I h => wpAny_Call_Name_kw (ld_glob I hg hm ?_ hdb)⟩
  have z := thn (ha.run pos pins s σ H _ I h) (Q' := fun us s1 => X.K.In s1.heap ∧ wpAny (model X.prog X.w) X.A (call (.ref C) us) (EP X pins σ Q) X.xe s1) fun us s1 ⟨vs, H1, I1, r, q⟩ => ⟨I1.kIn, run_makeSt M F hr (hx σ) I1 r q⟩
  show wpAny _ _ (callWith pos (.ref C) [] (backTo pos (starEach (.Starred e sp_ :: e2 :: es) X.env)) []) _ _ _
  rw [he] at z ⊢
  obtain ⟨c, y⟩ := a2
  exact PySem.W.ks_call rfl (PySem.W.keeps_K M.kp) (evalArgs_st2 z)
end
/-! ### a op b by the def of an own class -/
def rOpOwn (C : Addr) (sp : Sp) (E : XK) : R2 := fun x y H Q => ∃ a b dx dy fs gs, x = .ref a ∧ y = .ref b ∧ H a = some (.ins C dx fs) ∧ H b = some (.ins C dy gs) ∧ sp [x, y] H Q E
theorem o_opOwn {X : Cx} {CX : CXT} {C f : Addr} {fd : FuncData} {ps : List Str} {sp : Sp} {E : XK} {k : Nat} {op : Operator} {m : Str} (F : FnOk X.prog X.w X.K X.mg X.base CX k f fd ps sp) (hs : PySem.W.selfFirst X.K C = true) (hm : Meth X.K C m f) (hr : Room k X.A) (hb : Binds X.K fd ps []) (hx : Passes CX X E) (hd : PySem.dunder op.info.2 = m) :
    OpR X (binaryOp op) (rOpOwn C sp E) := fun pins s σ H x y u v Q I rx ry h => by
  obtain ⟨a, b, dx, dy, fs, gs, rfl, rfl, ha, hb', h⟩ := h
  cases rx
  cases ry
  subst hd
  obtain ⟨mA, J, _⟩ := ins_get I.hok ha
  obtain ⟨mB, J', _⟩ := ins_get I.hok hb'
  obtain ⟨od, J, _⟩ := J.look
  obtain ⟨od', J', _⟩ := J'.look
  obtain ⟨m, hF⟩ := I.fr
  refine PySem.W.binop_K hF I.ok.mod.kin J J'.type hs hm.at_ hm.fn ?_
  refine thn (run_fn (us := [.ref a, .ref b]) (vs := [.ref a, .ref b]) (dvs := []) (ds := []) F hr hb .nil hx I (.cons rfl (.cons rfl .nil)) h) fun w s' q => ?_
  obtain ⟨z, H', I', rz, q⟩ := q
  exact SlX.cmpback rz ⟨z, H', I', rz, q⟩
/-! ### len(x) by the def of an own class -/
def rLenOwn (C : Addr) (sp : Sp) (E : XK) : List V → Hp → VK → Prop := fun xs H Q => ∃ a dx fs, xs = [.ref a] ∧ H a = some (.ins C dx fs) ∧ sp [.ref a] H (fun v H' => ∃ i : Int, v = .int i ∧ 0 ≤ i ∧ i < 2 ^ 63 ∧ Q (.int i) H') E
theorem c_lenOwn {X : Cx} {CX : CXT} {C f : Addr} {fd : FuncData} {ps : List Str} {sp : Sp} {E : XK} {k : Nat} (F : FnOk X.prog X.w X.K X.mg X.base CX k f fd ps sp) (hm : Meth X.K C "__len__" f) (hr : Room (k + 1) X.A) (hb : Binds X.K fd ps []) (hx : Passes CX X E) :
    CallR X (.builtin "len") (rLenOwn C sp E) := fun pins s σ H xs us Q I r h => by
  obtain ⟨a, dx, fs, rfl, ha, q⟩ := h
  obtain ⟨u, rfl, ru⟩ := r.one
  cases (show u = Value.ref a from ru)
  obtain ⟨mA, J, _⟩ := ins_get I.hok ha
  obtain ⟨od, J, _⟩ := J.look
  obtain ⟨m, hF⟩ := I.fr
  refine PySem.W.len_K hF I.ok.mod.kin J hm.at_ hm.fn ?_
  refine wpAny_mono (wpAny_call (SlX.run_at (us := [.ref a]) (ws := [.ref a]) (FnOk.raw F hb .nil) hr.in1 I.env0.in1 hx I (.cons rfl .nil) q)) (fun w s' z => ?_) fun _ _ x => x
  obtain ⟨z', H', I', rz, i, ei, h0, h1, qz⟩ := z
  subst ei
  obtain ⟨t, e⟩ := (show ∃ t, w = Value.int i t from rz)
  cases e
  exact ⟨⟨h0, h1⟩, .int i, H', I'.tok _, ⟨_, rfl⟩, qz⟩
/-- what has no reading -/
def eNo : TE := fun _ _ _ => False
theorem pe_no {X : Cx} {e : Expr} : PE X e eNo := ⟨fun _ _ _ _ _ _ h => False.elim h⟩
theorem bindst1 {fd : FuncData} {p1 pv : Str} (h0 : ∀ a, bindArgs fd ⟨[a], []⟩ = (newTuple [] >>= fun t => pure [(p1, a), (pv, t)])) (h1 : ∀ a r rs, bindArgs fd ⟨a :: r :: rs, []⟩ = (newTuple (r :: rs) >>= fun t => pure [(p1, a), (pv, t)])) : BindsSt fd [p1] pv :=
  StX.bind_star1 (B := fun l => bindArgs fd ⟨l, []⟩) h0 h1
/-! ### sorted -/
/-- sorted(xs): ints -/
def rSrtI (S : Sta) : List V → Hp → VK → Prop := fun vs H Q => ∃ (a : Addr) (ns : List Int), vs = [.ref a] ∧ RdS S H a (.lst (ns.map V.int)) ∧ ∀ (ns' : List Int) (p : Addr), ns'.Perm ns → ns'.Pairwise (· ≤ ·) → H p = none → Q (.ref p) (upd H p (.lst (ns'.map V.int)))
/-- .. or pairs of ints -/
def rSrt (S : Sta) : List V → Hp → VK → Prop := fun vs H Q => rSrtI S vs H Q ∨ ∃ (a : Addr) (xs : List V) (k : V → Int × Int), vs = [.ref a] ∧ RdS S H a (.lst xs) ∧ (∀ x ∈ xs, ∃ t, x = .ref t ∧ H t = some (.tup [.int (k x).1, .int (k x).2])) ∧
  ∀ ys p, SrtO.Srtd (ltP k) ys → SrtO.Stb (ltP k) ys xs → H p = none → Q (.ref p) (upd H p (.lst ys))
theorem c_srt {X : Cx} {S : Sta} (st : S = SK X.K) : CallR X (.builtin "sorted") (rSrt S) := fun pins s σ H xs us Q I r h => by
  rcases h with ⟨a, ns, e, hs, q⟩ | ⟨a, ys, k, e, hs, hp, q⟩
  · exact cr_sortedI pins s σ H xs us Q I r ⟨a, ns, e, sqL st hs, q⟩
  · exact cr_sortedPO pins s σ H xs us Q I r ⟨a, ys, k, e, sqL st hs, hp, q⟩
/-! ### a comprehension with two fors -/
def moG (g : TG) : TG := fun y σ H D => ∃ D0 : L2.St → Hp → Prop, g y σ H D0 ∧ ∀ σ' H', D0 σ' H' → D σ' H'
def moT (t : TT) : TT := fun σ H Q => ∃ Q0 : Bool → Hp → Prop, t σ H Q0 ∧ ∀ b H', Q0 b H' → Q b H'
theorem pg_mo {X : Cx} {tg : Expr} {g : TG} (h : PG X tg g) : PG X tg (moG g) := ⟨fun pins s σ H v u Q I r ⟨D0, q, hq⟩ => thn (h.run pins s σ H v u D0 I r q) fun _ _ ⟨σ', H', I', z⟩ => ⟨σ', H', I', hq σ' H' z⟩⟩
theorem pts_mo {X : Cx} {ifs : List Expr} {t : TT} (h : PTs X ifs t) : PTs X ifs (moT t) := ⟨fun pins s σ H Q I ⟨Q0, q, hq⟩ => thn (h.run pins s σ H Q0 I q) fun _ _ ⟨H', I', z⟩ => ⟨H', I', hq _ H' z⟩⟩
def eLc2 (S : Sta) (te : TE) (g : TG) (tt : TT) (te1 : TE) (g1 : TG) (tt1 : TT) (tel : TE) (vs vs1 : List Nat) : TE := fun σ H Q => te σ H fun x H1 => ∃ a xs, x = .ref a ∧ ∃ k : Bool, RdS S H1 a (if k then .lst xs else .tup xs) ∧ ∀ D, H1 D = none → ∃ Pv : Nat → Hp → Prop, Pv 0 (upd H1 D (.lst [])) ∧
  (∀ i H, i ≤ xs.length → Pv i H → RdS S H a (if k then .lst xs else .tup xs)) ∧
  (∀ i y H, xs[i]? = some y → Pv i H → g y (wipe σ vs) H fun σ2 H2 => wipe σ2 vs = wipe σ vs ∧ tt σ2 H2 fun b H3 => if b = true then
      te1 σ2 H3 fun x1 H4 => ∃ a1 xs1, x1 = .ref a1 ∧ ∃ k1 : Bool, ∃ Pw : Nat → Hp → Prop, Pw 0 H4 ∧ (∀ j H, j ≤ xs1.length → Pw j H → RdS S H a1 (if k1 then .lst xs1 else .tup xs1)) ∧
        (∀ j z H, xs1[j]? = some z → Pw j H → g1 z (wipe σ2 vs1) H fun σ3 H5 => wipe σ3 vs1 = wipe σ2 vs1 ∧ tt1 σ3 H5 fun b H6 => if b = true then tel σ3 H6 fun u H7 => ∃ acc, H7 D = some (.lst acc) ∧ acc.length < sizeLine ∧ Pw (j + 1) (upd H7 D (.lst (acc ++ [u]))) else Pw (j + 1) H6) ∧
        ∀ H, Pw xs1.length H → Pv (i + 1) H
    else Pv (i + 1) H3) ∧
  ∀ H, Pv xs.length H → Q (.ref D) H
theorem lp_list {K : PySem.W.Frag} {a : Addr} {xs : List V} {H0 : Hp} {Qd : Hp → Prop} {B : V → Hp → (Hp → Prop) → Prop} (Pv : Nat → Hp → Prop) (h0 : Pv 0 H0) (hl : ∀ i H, i ≤ xs.length → Pv i H → SqL K H a xs)
    (hs : ∀ i x H, xs[i]? = some x → Pv i H → B x H (Pv (i + 1))) (hd : ∀ H, Pv xs.length H → Qd H) :
    ∃ W : Nat → Nat → Hp → Prop, (∃ m, W 0 m H0) ∧ ∀ i m H, W i m H → ((Itl K a).stop i H ∧ Qd H) ∨ ((Itl K a).go i H ∧ ∃ Nx : Hp → Prop, (∀ H', Nx H' → ∃ m', m' < m ∧ W (i + 1) m' H') ∧ ∀ x H', (Itl K a).yld i H x H' → B x H' Nx) := by
  refine ⟨fun i m H => m = xs.length - i ∧ i ≤ xs.length ∧ Pv i H, ⟨xs.length, by simp, Nat.zero_le _, h0⟩, ?_⟩
  rintro i m H ⟨rfl, hi, p⟩
  have q := hl i H hi p
  by_cases hlt : i < xs.length
  · refine .inr ⟨⟨xs, xs[i], q, by simp [hlt]⟩, Pv (i + 1), fun H' p' => ⟨xs.length - (i + 1), by omega, rfl, hlt, p'⟩, fun x H' y => ?_⟩
    obtain ⟨e, y⟩ := y
    subst e
    exact hs i x _ (y xs q) p
  · have e : i = xs.length := by omega
    subst e
    exact .inl ⟨⟨xs, q, Nat.le_refl _⟩, hd H p⟩
theorem lp_tup {K : PySem.W.Frag} {a : Addr} {xs : List V} {H0 : Hp} {Qd : Hp → Prop} {B : V → Hp → (Hp → Prop) → Prop} (Pv : Nat → Hp → Prop) (h0 : Pv 0 H0) (hl : ∀ i H, i ≤ xs.length → Pv i H → SqT K H a xs)
    (hs : ∀ i x H, xs[i]? = some x → Pv i H → B x H (Pv (i + 1))) (hd : ∀ H, Pv xs.length H → Qd H) :
    ∃ W : Nat → Nat → Hp → Prop, (∃ m, W 0 m H0) ∧ ∀ i m H, W i m H → ((Itt K a).stop i H ∧ Qd H) ∨ ((Itt K a).go i H ∧ ∃ Nx : Hp → Prop, (∀ H', Nx H' → ∃ m', m' < m ∧ W (i + 1) m' H') ∧ ∀ x H', (Itt K a).yld i H x H' → B x H' Nx) := by
  refine ⟨fun i m H => m = xs.length - i ∧ i ≤ xs.length ∧ Pv i H, ⟨xs.length, by simp, Nat.zero_le _, h0⟩, ?_⟩
  rintro i m H ⟨rfl, hi, p⟩
  have q := hl i H hi p
  by_cases hlt : i < xs.length
  · refine .inr ⟨⟨xs, xs[i], q, by simp [hlt]⟩, Pv (i + 1), fun H' p' => ⟨xs.length - (i + 1), by omega, rfl, hlt, p'⟩, fun x H' y => ?_⟩
    obtain ⟨e, y⟩ := y
    subst e
    exact hs i x _ (y xs q) p
  · have e : i = xs.length := by omega
    subst e
    exact .inl ⟨⟨xs, q, Nat.le_refl _⟩, hd H p⟩
theorem lc2_of {K : PySem.W.Frag} {S : Sta} (st : S = SK K) {te te1 tel : TE} {g g1 : TG} {tt tt1 : TT} {vs vs1 : List Nat} {σ : L2.St} {H : Hp} {Q : VK} (q : eLc2 S te g tt te1 g1 tt1 tel vs vs1 σ H Q) :
    tLc2 (iSeq K (mo te)) (moG g) (moT tt) (iSeq K (mo te1)) g1 tt1 tel vs vs1 σ H Q := ⟨_, q, fun x H1 ⟨a, xs, e, k, rd, q⟩ => by
    have inner : ∀ {D : Addr} {Nx : Hp → Prop} {σ2 : L2.St} {H3 : Hp}, (te1 σ2 H3 fun x1 H4 => ∃ a1 xs1, x1 = .ref a1 ∧ ∃ k1 : Bool, ∃ Pw : Nat → Hp → Prop, Pw 0 H4 ∧ (∀ j H, j ≤ xs1.length → Pw j H → RdS S H a1 (if k1 then .lst xs1 else .tup xs1)) ∧
        (∀ j z H, xs1[j]? = some z → Pw j H → g1 z (wipe σ2 vs1) H fun σ3 H5 => wipe σ3 vs1 = wipe σ2 vs1 ∧ tt1 σ3 H5 fun b H6 => if b = true then tel σ3 H6 fun u H7 => ∃ acc, H7 D = some (.lst acc) ∧ acc.length < sizeLine ∧ Pw (j + 1) (upd H7 D (.lst (acc ++ [u]))) else Pw (j + 1) H6) ∧
        ∀ H, Pw xs1.length H → Nx H) → iSeq K (mo te1) σ2 H3 fun J1 H4 => ∃ W1 : Nat → Nat → Hp → Prop, (∃ m, W1 0 m H4) ∧ ∀ j k H, W1 j k H →
      (J1.stop j H ∧ Nx H) ∨ (J1.go j H ∧ ∃ Nx1 : Hp → Prop, (∀ H', Nx1 H' → ∃ k', k' < k ∧ W1 (j + 1) k' H') ∧ ∀ x H', J1.yld j H x H' → g1 x (wipe σ2 vs1) H' fun σ3 H5 => wipe σ3 vs1 = wipe σ2 vs1 ∧ tt1 σ3 H5 fun b H6 =>
        if b = true then tel σ3 H6 fun y H7 => ∃ acc, H7 D = some (.lst acc) ∧ acc.length < sizeLine ∧ Nx1 (upd H7 D (.lst (acc ++ [y]))) else Nx1 H6) := fun {D Nx σ2 H3} q => ⟨_, q, fun x1 H4 ⟨a1, xs1, e1, k1, Pw, h0', hl', hs', hd'⟩ => by
      refine ⟨a1, e1, ?_⟩
      cases k1 with
      | true => exact .inl ⟨⟨xs1, sqL st (hl' 0 H4 (Nat.zero_le _) h0')⟩, lp_list Pw h0' (fun i H hi p => sqL st (hl' i H hi p)) hs' hd'⟩
      | false => exact .inr ⟨⟨xs1, sqT st (hl' 0 H4 (Nat.zero_le _) h0')⟩, lp_tup Pw h0' (fun i H hi p => sqT st (hl' i H hi p)) hs' hd'⟩⟩
    refine ⟨a, e, ?_⟩
    cases k with
    | true =>
      refine .inl ⟨⟨xs, sqL st rd⟩, fun D hD => ?_⟩
      obtain ⟨Pv, h0, hl, ht, hd⟩ := q D hD
      refine lp_list Pv h0 (fun i H hi p => sqL st (hl i H hi p)) (fun i y H ey p => ⟨_, ht i y H ey p, fun σ2 H2 ⟨ew, q2⟩ => ⟨ew, _, q2, fun b H3 q3 => ?_⟩⟩) hd
      cases b with
      | false => exact q3
      | true => exact inner q3
    | false =>
      refine .inr ⟨⟨xs, sqT st rd⟩, fun D hD => ?_⟩
      obtain ⟨Pv, h0, hl, ht, hd⟩ := q D hD
      refine lp_tup Pv h0 (fun i H hi p => sqT st (hl i H hi p)) (fun i y H ey p => ⟨_, ht i y H ey p, fun σ2 H2 ⟨ew, q2⟩ => ⟨ew, _, q2, fun b H3 q3 => ?_⟩⟩) hd
      cases b with
      | false => exact q3
      | true => exact inner q3⟩
/-- what the block of a comprehension with two fors asks -/
structure Blk2 (X : Cx) (scope : Scope) (tg tg1 iter1 elt : Expr) (ifs ifs1 : List Expr) (g g1 : TG) (tt tt1 : TT) (te1 tel : TE) : Prop where
  hg : ∀ (s : Shared) (H : Hp) (C : Addr) (cl : List (Str × Addr)) (fp : List Addr), PG (X.blk s H scope (compEnvC scope cl C X.env) fp) tg g
  ht : ∀ (s : Shared) (H : Hp) (C : Addr) (cl : List (Str × Addr)) (fp : List Addr), PTs (X.blk s H scope (compEnvC scope cl C X.env) fp) ifs tt
  hi1 : ∀ (s : Shared) (H : Hp) (C : Addr) (cl : List (Str × Addr)) (fp : List Addr), PE (X.blk s H scope (compEnvC scope cl C X.env) fp) iter1 te1
  hg1 : ∀ (s : Shared) (H : Hp) (C : Addr) (cl : List (Str × Addr)) (fp : List Addr), PG (X.blk s H scope (compEnvC scope cl C X.env) fp) tg1 g1
  ht1 : ∀ (s : Shared) (H : Hp) (C : Addr) (cl : List (Str × Addr)) (fp : List Addr), PTs (X.blk s H scope (compEnvC scope cl C X.env) fp) ifs1 tt1
  he : ∀ (s : Shared) (H : Hp) (C : Addr) (cl : List (Str × Addr)) (fp : List Addr), PE (X.blk s H scope (compEnvC scope cl C X.env) fp) elt tel
section
variable {X : Cx} {S : Sta} {elt tg l tg1 iter1 : Expr} {ifs ifs1 : List Expr} {scope : Scope} {own : List (Str × Nat)} {vs1 : List Nat} {pos py spos : Pos} {g g1 : TG} {tt tt1 : TT} {te te1 tel : TE} {i : Nat} {y : Str}
theorem pe_lc2Seq (st : S = SK X.K) (hc : X.calm = true) (hN : X.N.Nodup) (hl : PE X l te) (ok : BlkOk X.N X.env.scope scope own) (hv : ∀ i ∈ vs1, i ∈ own.map (·.2)) (B : Blk2 X scope tg tg1 iter1 elt ifs ifs1 g g1 tt tt1 te1 tel) (hs : ∀ x, foldedSetIterable l X.env x = pure x := by intro _; rfl) (hs1 : ∀ env x, foldedSetIterable iter1 env x = pure x := by intro _ _; rfl) :
    PE X (.ListComp elt [⟨tg, l, ifs, 0⟩, ⟨tg1, iter1, ifs1, 0⟩] scope pos) (eLc2 S te g tt te1 g1 tt1 tel (own.map (·.2)) vs1) :=
  pe_imp (pe_lc2 hc hN (pi_seq (pe_mo hl)) ok hv (fun s H C cl fp => pg_mo (B.hg s H C cl fp)) (fun s H C cl fp => pts_mo (B.ht s H C cl fp)) (fun s H C cl fp => pi_seq (pe_mo (B.hi1 s H C cl fp))) B.hg1 B.ht1 B.he hs hs1) fun _ _ _ q => lc2_of st q
theorem ps_lc2Seq (st : S = SK X.K) (hc : X.calm = true) (hN : X.N.Nodup) (hy : X.N[i]? = some y) (hyl : X.env.scope.names.lookup y = some .local)
    (hsw : swapsWith (.ListComp elt [⟨tg, l, ifs, 0⟩, ⟨tg1, iter1, ifs1, 0⟩] scope pos) (some (.Name y py)) spos.line X.env = pure true) (hl : PE X l te) (ok : BlkOk X.N X.env.scope scope own) (hv : ∀ i ∈ vs1, i ∈ own.map (·.2)) (B : Blk2 X scope tg tg1 iter1 elt ifs ifs1 g g1 tt tt1 te1 tel)
    (hs : ∀ x, foldedSetIterable l X.env x = pure x := by intro _; rfl) (hs1 : ∀ env x, foldedSetIterable iter1 env x = pure x := by intro _ _; rfl) :
    PS X (.Assign [.Name y py] (.ListComp elt [⟨tg, l, ifs, 0⟩, ⟨tg1, iter1, ifs1, 0⟩] scope pos) spos) (tAsg (eLc2 S te g tt te1 g1 tt1 tel (own.map (·.2)) vs1) (gName i)) :=
  ps_imp (ps_setLc2 hc hN hy hyl hsw (pi_seq (pe_mo hl)) ok hv (fun s H C cl fp => pg_mo (B.hg s H C cl fp)) (fun s H C cl fp => pts_mo (B.ht s H C cl fp)) (fun s H C cl fp => pi_seq (pe_mo (B.hi1 s H C cl fp))) B.hg1 B.ht1 B.he hs hs1) fun _ _ _ q => lc2_of st q
end
/-! ### the truth of a list or a tuple -/
def tTru (S : Sta) (te : TE) : TT := fun σ H Q => te σ H fun x H' => ∃ (a : Addr) (xs : List V), x = .ref a ∧ Seq S H' a xs ∧ Q (!xs.isEmpty) H'
theorem tru_seq {X : Cx} {S : Sta} (st : S = SK X.K) : TruR X (fun x H Q => ∃ (a : Addr) (xs : List V), x = .ref a ∧ Seq S H a xs ∧ Q (!xs.isEmpty) H) := fun pins s σ H x v Q I rx ⟨a, xs, ex, hs, q⟩ =>
  tru_ok pins s σ H x v Q I rx ⟨!xs.isEmpty, by subst ex; exact hs.elim (fun h => .inl ⟨xs, sqL st h, rfl⟩) fun h => .inr (.inl ⟨xs, sqT st h, rfl⟩), q⟩
theorem pt_tru {X : Cx} {S : Sta} {e : Expr} {te : TE} (st : S = SK X.K) (he : PE X e te) (hi : ∀ whole, isTrue e X.env whole = (do let v ← whole; standAt e.pos; holding [v] (truthy v)) := by intro _; rfl) : PT X e (tTru S te) := pt_truthR he (tru_seq st) hi
end Y

/-! == of an instance with an own __eq__ and a value of another kind, on either side. -/
namespace Y
open PySem PySem.Spec PyProof.Rows L2
open AutoSeq1 (wpAny_loadPart')
open MeetsSeq
section
variable {prog : Program} {w : World} {A : Around} {E : Value → Shared → Prop} {s : Shared} {K : PySem.W.Frag} {x C f : Addr} {ox : Obj} {od : Option Obj}
theorem rc_refl_own {a : Value} {Ta ida : String} {Q : Value → Shared → Prop} (hu : A.units < cLine) (X : K.In s.heap) (I : PySem.W.InstAt s.heap x ox C od) (ha : s.TypeIs a Ta) (hsub : PySem.W.subIn K (.ref C) (.type Ta) = some false) (h1 : Slot Ta (cmpInfo .Eq).2.1 ida)
    (hc1 : ∀ Q' : Value → Shared → Prop, Q' .notImplemented s → wpAny (model prog w) A (call (.builtin ida) [a, .ref x]) Q' E s)
    (hs : PySem.W.findIn K (.ref C) "__eq__" = some (some (.ref f))) (hf : PySem.W.isFn K (.ref f) = true)
    (h : wpAny (model prog w) A (call (.ref f) [.ref x, a]) (PySem.W.CmpBack Q) E s) : wpAny (model prog w) A (richCompare .Eq a (.ref x)) Q E s := by
  have two : wpAny (model prog w) A (tryCompare (.ref x) "__eq__" a) (fun r s' => ∃ v, r = some v ∧ Q v s') E s := by
    unfold tryCompare
    refine wpAny_bind (PySem.W.ifBound_K X I hs hf (wpAny_mono h (fun v s' hv => ?_) fun _ _ e => e))
    cases v <;> first | exact hv.elim | exact wpAny_pure ⟨_, rfl, hv⟩
  have h1 : Slot Ta "__eq__" ida := h1
  simp only [richCompare, cmpInfo_Eq, ha.oneThing_none]
  refine wpAny_holding (wpAny_bind (wpAny_cRoomFor_or (.inr hu) ?_))
  refine wpAny_bind (wpAny_typeOf ha (wpAny_bind (I.type.here ?_)))
  have ne : (Value.type Ta != Value.ref C) = true := by simp
  have ne2 : (Value.ref C != Value.type Ta) = true := by simp
  simp only [ne, ne2, if_true]
  refine wpAny_bind ((PySem.W.looks_subIn X hsub).here ?_)
  simp only [Bool.false_eq_true, if_false, Bool.not_false, if_true]
  refine wpAny_bind (m := tryCompare a _ (.ref x)) (wpAny_tryCompare_declines ha h1 (hc1 _ ⟨rfl, ?_⟩))
  refine wpAny_bind (m := tryCompare (.ref x) _ a) (wpAny_mono two (fun r s' z => ?_) fun _ _ e => e)
  obtain ⟨v, rfl, hq⟩ := z
  exact wpAny_pure hq
end
theorem int_eq_inst (b : Int) (u : Tok) (l C dx : Addr) :
    Meets (Builtin.«int.__eq__» ⟨[.int b u, .ref l], []⟩) (fun _ R s => s.heap.get? l = some (PySem.W.instObj C dx) ∧ R (.ok (.ret .notImplemented)) s) :=
  .of_wp fun prog w A R s h => by obtain ⟨hp, g, d, tk, os⟩ := s; obtain ⟨hl, h⟩ := h; unfold PySem.W.instObj at hl; wp_walk using wpAny_loadPart' hl, wpAny_load hl; exact ⟨_, rfl, h⟩
theorem bool_eq_inst (b : Bool) (l C dx : Addr) :
    Meets (Builtin.«int.__eq__» ⟨[.bool b, .ref l], []⟩) (fun _ R s => s.heap.get? l = some (PySem.W.instObj C dx) ∧ R (.ok (.ret .notImplemented)) s) :=
  .of_wp fun prog w A R s h => by obtain ⟨hp, g, d, tk, os⟩ := s; obtain ⟨hl, h⟩ := h; unfold PySem.W.instObj at hl; wp_walk using wpAny_loadPart' hl, wpAny_load hl; exact ⟨_, rfl, h⟩
theorem str_eq_inst (b : Str) (u : Tok) (l C dx : Addr) :
    Meets (Builtin.«str.__eq__» ⟨[.str b u, .ref l], []⟩) (fun _ R s => s.heap.get? l = some (PySem.W.instObj C dx) ∧ R (.ok (.ret .notImplemented)) s) :=
  .of_wp fun prog w A R s h => by obtain ⟨hp, g, d, tk, os⟩ := s; obtain ⟨hl, h⟩ := h; unfold PySem.W.instObj at hl; wp_walk using wpAny_loadPart' hl, wpAny_load hl; exact ⟨_, rfl, h⟩
section
variable {M : Model} {A : Around} {E : Value → Shared → Prop} {s : Shared}
theorem list_eq_inst {l x : Addr} {o : Obj} {Q : Fin → Shared → Prop} (hl : s.heap.get? l = some o) (hi : ∀ (Q' : Bool → Shared → Prop), Q' false s → wpAny M A (isInstance (.ref x) (.type "list")) Q' E s)
    (h : Q (.done (.ret .notImplemented)) s) : wpAny M A (Builtin.«list.__eq__» ⟨[.ref l, .ref x], []⟩) Q E s := by
  obtain ⟨hp, g, d, tk, os⟩ := s
  wp_walk using wpAny_loadPart' hl, wpAny_load hl, hi
  exact h
theorem tup_eq_inst {l x : Addr} {o : Obj} {Q : Fin → Shared → Prop} (hl : s.heap.get? l = some o) (hi : ∀ (Q' : Bool → Shared → Prop), Q' false s → wpAny M A (isInstance (.ref x) (.type "tuple")) Q' E s)
    (h : Q (.done (.ret .notImplemented)) s) : wpAny M A (Builtin.«tuple.__eq__» ⟨[.ref l, .ref x], []⟩) Q E s := by
  obtain ⟨hp, g, d, tk, os⟩ := s
  wp_walk using wpAny_loadPart' hl, wpAny_load hl, hi
  exact h
end
/-- none of the kinds of other values is above the class -/
def NoSub (K : PySem.W.Frag) (C : Addr) : Prop := PySem.W.subIn K (.ref C) (.type "NoneType") = some false ∧ PySem.W.subIn K (.ref C) (.type "bool") = some false ∧ PySem.W.subIn K (.ref C) (.type "int") = some false ∧ PySem.W.subIn K (.ref C) (.type "str") = some false ∧ PySem.W.subIn K (.ref C) (.type "tuple") = some false ∧ PySem.W.subIn K (.ref C) (.type "list") = some false
/-- a value of another kind -/
def Oth (S : Sta) (H : Hp) : V → Prop
  | .non => True
  | .bl _ => True
  | .int _ => True
  | .str _ => True
  | .ref a => ∃ xs, Seq S H a xs
  | _ => False
def kB (Q : VK) : VK := fun v H => ∃ c, v = .bl c ∧ Q (.bl c) H
def rEqMix (S : Sta) (C : Addr) (sp : Sp) (E : XK) : R2 := fun x y H Q =>
  (∃ a dx fs, x = .ref a ∧ H a = some (.ins C dx fs) ∧ Oth S H y ∧ sp [x, y] H (kB Q) E) ∨ (∃ a dx fs, y = .ref a ∧ H a = some (.ins C dx fs) ∧ Oth S H x ∧ sp [y, x] H (kB Q) E)
theorem sub_ty {K : PySem.W.Frag} {C : Addr} {T : String} {l : List String} (e : fastBuiltinMro T = some (l.map Value.type)) : PySem.W.notFirst K C (.type T) = true := by
  show (Value.type T == Value.ref C || ((fastBuiltinMro T).map (·.contains (.ref C)) == some false)) = true
  have h : (l.map Value.type).contains (.ref C) = false := by
    rw [List.contains_eq_mem]
    exact decide_eq_false fun m => by
      obtain ⟨x, _, e⟩ := List.mem_map.mp m
      cases e
  rw [e]
  show (_ || (some ((l.map Value.type).contains (.ref C)) == some false)) = true
  rw [h]
  simp
theorem o_eqMix {X : Cx} {CX : CXT} {S : Sta} (st : S = SK X.K) {C f : Addr} {fd : FuncData} {ps : List Str} {sp : Sp} {E : XK} {k : Nat} (Fk : FnOk X.prog X.w X.K X.mg X.base CX k f fd ps sp) (ns : NoSub X.K C) (hm : Meth X.K C "__eq__" f) (hr : Room k X.A) (hb : Binds X.K fd ps []) (hx : Passes CX X E) : OpR X (compareOp .Eq) (rEqMix S C sp E) := fun pins s σ H x y u v Q I rx ry h => by
  show wpAny (model X.prog X.w) X.A (richCompare .Eq u v) (EP X pins σ Q) X.xe s
  obtain ⟨m, hF⟩ := I.fr
  have run : ∀ (a : Addr) (z : V) (w : Value), RelV z w → sp [.ref a, z] H (kB Q) E → wpAny (model X.prog X.w) X.A (call (.ref f) [.ref a, w]) (PySem.W.CmpBack (EP X pins σ Q)) X.xe s := fun a z w rz h => by
    refine thn (run_fn (us := [.ref a, w]) (vs := [.ref a, z]) (dvs := []) (ds := []) Fk hr hb .nil hx I (.cons rfl (.cons rz .nil)) h) fun w' s' q => ?_
    obtain ⟨z', H', I', rz', c, ez, q⟩ := q
    subst ez
    cases rz'
    exact ⟨.bl c, H', I', rfl, q⟩
  rcases h with ⟨a, dx, fs, rfl, ha, ho, h⟩ | ⟨a, dx, fs, rfl, ha, ho, h⟩
  · cases rx
    obtain ⟨mA, J, _⟩ := ins_get I.hok ha
    obtain ⟨od, J, _⟩ := J.look
    have g := run a y v ry h
    have fin : ∀ {T : String} {l : List String}, s.TypeIs v T → fastBuiltinMro T = some (l.map Value.type) → wpAny (model X.prog X.w) X.A (richCompare .Eq (.ref a) v) (EP X pins σ Q) X.xe s := fun {T l} hT e =>
      PySem.W.cmp_K (op := .Eq) (tb := .type T) hr.units0 hF I.ok.mod.kin J (fun A Q E s' k q => wpAny_typeOf (by
        cases v with
        | ref b =>
          obtain ⟨o, h1, h2⟩ := hT
          exact ⟨o, k _ _ h1, h2⟩
        | _ => exact hT) q) (sub_ty e) hm.at_ hm.fn g
    cases y with
    | non => obtain rfl : v = .none := ry; exact fin (T := "NoneType") (l := ["NoneType", "object"]) rfl (by decide +kernel)
    | bl b => obtain rfl : v = .bool b := ry; exact fin (T := "bool") (l := ["bool", "int", "object"]) rfl (by decide +kernel)
    | int i => obtain ⟨t, rfl⟩ := (show ∃ t, v = Value.int i t from ry); exact fin (T := "int") (l := ["int", "object"]) (typeIs_int s i t) (by decide +kernel)
    | str z => obtain ⟨t, rfl⟩ := (show ∃ t, v = Value.str z t from ry); exact fin (T := "str") (l := ["str", "object"]) (typeIs_str s z t) (by decide +kernel)
    | ref b =>
      obtain rfl : v = .ref b := ry
      obtain ⟨xs, hq⟩ := ho
      rcases hq with hq | hq
      · obtain ⟨its, _, ⟨o, n, e, hc, _⟩, _⟩ := I.list (sqL st hq)
        exact fin (T := "list") (l := ["list", "object"]) ⟨o, e, hc⟩ (by decide +kernel)
      · obtain ⟨its, _, ⟨o, e, hc, _⟩, _⟩ := I.tuple (sqT st hq)
        exact fin (T := "tuple") (l := ["tuple", "object"]) ⟨o, e, hc⟩ (by decide +kernel)
    | _ => exact ho.elim
  · cases ry
    obtain ⟨mA, J, _⟩ := ins_get I.hok ha
    have hobj := J.obj
    obtain ⟨od, J, _⟩ := J.look
    have g := run a x u rx h
    have Xk := I.kIn
    obtain ⟨n1, n2, n3, n4, n5, n6⟩ := ns
    have isl : PySem.W.Looks (model X.prog X.w) s.heap (isInstance (.ref a) (.type "list")) false := J.type.andThen (PySem.W.looks_subIn Xk n6)
    have ist : PySem.W.Looks (model X.prog X.w) s.heap (isInstance (.ref a) (.type "tuple")) false := J.type.andThen (PySem.W.looks_subIn Xk n5)
    cases x with
    | non =>
      obtain rfl : u = .none := rx
      exact rc_refl_own hr.units0 Xk J (show s.TypeIs .none "NoneType" from rfl) n1 F.slot_NoneType_eq (fun _ hq => call_gives F.slot_NoneType_eq rfl F.entry_NoneType_eq (F.args_NoneType_eq_2 _ _) (SeqAt.NoneType___eq___none_ref_0 a) hq) hm.at_ hm.fn g
    | bl b =>
      obtain rfl : u = .bool b := rx
      exact rc_refl_own hr.units0 Xk J (show s.TypeIs (.bool b) "bool" from rfl) n2 F.slot_bool_eq (fun _ hq => call_meets F.slot_bool_eq rfl F.entry_int_eq (F.args_int_eq_2 _ _) (bool_eq_inst b a C dx) ⟨hobj, hq⟩) hm.at_ hm.fn g
    | int i =>
      obtain ⟨t, rfl⟩ := (show ∃ t, u = Value.int i t from rx)
      exact rc_refl_own hr.units0 Xk J (typeIs_int s i t) n3 F.slot_int_eq (fun _ hq => call_meets F.slot_int_eq (typeIs_int s i t) F.entry_int_eq (F.args_int_eq_2 _ _) (int_eq_inst i t a C dx) ⟨hobj, hq⟩) hm.at_ hm.fn g
    | str z =>
      obtain ⟨t, rfl⟩ := (show ∃ t, u = Value.str z t from rx)
      exact rc_refl_own hr.units0 Xk J (typeIs_str s z t) n4 F.slot_str_eq (fun _ hq => call_meets F.slot_str_eq (typeIs_str s z t) F.entry_str_eq (F.args_str_eq_2 _ _) (str_eq_inst z t a C dx) ⟨hobj, hq⟩) hm.at_ hm.fn g
    | ref b =>
      obtain rfl : u = .ref b := rx
      obtain ⟨xs, hq⟩ := ho
      rcases hq with hq | hq
      · obtain ⟨its, _, ⟨o, n, e, hc, _⟩, _⟩ := I.list (sqL st hq)
        exact rc_refl_own hr.units0 Xk J (show s.TypeIs (.ref b) "list" from ⟨o, e, hc⟩) n6 F.slot_list_eq (fun _ hq => wpAny_call_entry F.slot_list_eq ⟨o, e, hc⟩ F.entry_list_eq (list_eq_inst e (fun _ q => isl.here q) ⟨_, rfl, hq⟩) (F.args_list_eq_2 _ _)) hm.at_ hm.fn g
      · obtain ⟨its, _, ⟨o, e, hc, _⟩, _⟩ := I.tuple (sqT st hq)
        exact rc_refl_own hr.units0 Xk J (show s.TypeIs (.ref b) "tuple" from ⟨o, e, hc⟩) n5 F.slot_tuple_eq (fun _ hq => wpAny_call_entry F.slot_tuple_eq ⟨o, e, hc⟩ F.entry_tuple_eq (tup_eq_inst e (fun _ q => ist.here q) ⟨_, rfl, hq⟩) (F.args_tuple_eq_2 _ _)) hm.at_ hm.fn g
    | _ => exact ho.elim
/-! ### isinstance(x, C), C a class of the text, x an instance or a value of another kind -/
theorem kit_all {K : PySem.W.Frag} {C : Addr} {T : String} {l : List String} (kn : PySem.W.kitOne K (.type "NoneType") (.ref C) = some false) (e : fastBuiltinMro T = some (l.map Value.type)) : PySem.W.kitOne K (.type T) (.ref C) = some false := by
  unfold PySem.W.kitOne at kn ⊢
  rw [if_neg (by simp)] at kn ⊢
  unfold PySem.W.kitCls at kn ⊢
  dsimp only at kn ⊢
  split at kn
  · rename_i hc
    rw [if_pos hc]
    show (fastBuiltinMro T).map (·.contains (.ref C)) = some false
    have h : (l.map Value.type).contains (.ref C) = false := by
      rw [List.contains_eq_mem]
      exact decide_eq_false fun m => by
        obtain ⟨x, _, e⟩ := List.mem_map.mp m
        cases e
    rw [e, Option.map_some, h]
  · cases kn
theorem oth_ty {K : PySem.W.Frag} {S : Sta} (st : S = SK K) {H : Hp} {C : Addr} (kn : PySem.W.kitOne K (.type "NoneType") (.ref C) = some false) {v : V} (h : Oth S H v) : ∃ t, TyX K H v t ∧ PySem.W.kitOne K t (.ref C) = some false := by
  cases v with
  | non => exact ⟨_, .base .non, kn⟩
  | bl b => exact ⟨_, .base (.bl b), kit_all (l := ["bool", "int", "object"]) kn (by decide +kernel)⟩
  | int i => exact ⟨_, .base (.int i), kit_all (l := ["int", "object"]) kn (by decide +kernel)⟩
  | str z => exact ⟨_, .base (.str z), kit_all (l := ["str", "object"]) kn (by decide +kernel)⟩
  | ref a =>
    obtain ⟨xs, hq⟩ := h
    have kl : PySem.W.kitOne K (.type "list") (.ref C) = some false := kit_all (l := ["list", "object"]) kn (by decide +kernel)
    have kt : PySem.W.kitOne K (.type "tuple") (.ref C) = some false := kit_all (l := ["tuple", "object"]) kn (by decide +kernel)
    subst st
    rcases hq with ((h | ⟨o, h⟩) | ⟨o, its, n, hk, hc, _⟩) | ((h | ⟨o, h⟩) | ⟨o, its, n, hk, hc, _⟩)
    · exact ⟨_, .base (.lst h), kl⟩
    · exact ⟨_, .base (.frz h), kl⟩
    · exact ⟨_, .kList hk hc, kl⟩
    · exact ⟨_, .base (.tup h), kt⟩
    · exact ⟨_, .fTuple h, kt⟩
    · exact ⟨_, .kTuple hk hc, kt⟩
  | _ => exact h.elim
def rIsOM (S : Sta) (D : Addr) (tbl : List (Addr × Bool)) : List V → Hp → VK → Prop := fun xs H Q => rIsO D tbl xs H Q ∨ ∃ v, xs = [v, .ref D] ∧ Oth S H v ∧ Q (.bl false) H
theorem c_isOM {X : Cx} {S : Sta} (st : S = SK X.K) {D : Addr} {tbl : List (Addr × Bool)} (T : ∀ p ∈ tbl, IsOb X.K D p) (kn : PySem.W.kitOne X.K (.type "NoneType") (.ref D) = some false) : CallR X (.builtin "isinstance") (rIsOM S D tbl) := fun pins s σ H xs us Q I r h => by
  rcases h with h | ⟨v, e, ho, q⟩
  · exact c_isO T pins s σ H xs us Q I r h
  · obtain ⟨t, ty, k⟩ := oth_ty st kn ho
    exact call_isi pins s σ H xs us Q I r ⟨v, .ref D, t, .ref D, false, e, .own D, ty, k, q⟩
end Y

/-! A generator def of the form «for y in e: yield y»: list(o.m(..)) and [x for x in o.m(..)]. The consumer has a list (S) and more objects of its own (W). -/
namespace Y
open PySem PySem.Spec PyProof.Rows L2 GenW
/-- asleep: the consumer puts v behind the list at S and may write at W -/
structure SlW (S : Addr) (W : List Addr) (v : Value) (s s' : Shared) : Prop where
  os : s'.os = s.os
  bare : AllBare s'.gens
  keep : ∀ b o, b ≠ S → b ∉ W → s.heap.get? b = some o → s'.heap.get? b = some o
  own : ∀ acc c, s.heap.get? S = some (lstObj acc c) → ∃ c', s'.heap.get? S = some (lstObj (acc.push v) c')
  there : ∀ b ∈ W, ∃ o, s'.heap.get? b = some o ∧ ∀ v, o.data ≠ .cell v
/-- awake: ys is out; what stands at W is what stood there at s0, the last waking -/
def GW (X : Cx) (S : Addr) (W : List Addr) (s0 : Shared) (ip : List (Addr × Obj)) (ys : List V) (σ : L2.St) (H : Hp) (s : Shared) : Prop :=
  (∀ b ∈ W, ∃ o, s0.heap.get? b = some o) ∧ ∃ (acc : Array Value) (c : Nat), Vals ys acc.toList ∧ Inv X (((S, lstObj acc c) :: pinsAt W s0.heap) ++ ip) σ H s
structure AptW (X : Cx) (S : Addr) (W : List Addr) : Prop where
  s : Apart X S
  w : ∀ b ∈ W, Apart X b ∧ b ≠ S
  pn : ∀ p ∈ X.pn, p.1 ≠ S ∧ p.1 ∉ W
section
variable {X : Cx} {S : Addr} {W : List Addr} {ip : List (Addr × Obj)} {ys : List V} {σ : L2.St} {H : Hp} {s s' s0 : Shared}
theorem GW.woken {x : V} {v : Value} (hA : AptW X S W) (hip : ∀ p ∈ ip, p.1 ≠ S ∧ p.1 ∉ W) (h : GW X S W s0 ip ys σ H s) (rv : RelV x v) (z : SlW S W v s s') : GW X S W s' ip (ys ++ [x]) σ H s' := by
  obtain ⟨h0, acc, c, r, I⟩ := h
  obtain ⟨eS, hS0, hSL, hSf, _⟩ := I.pin (S, lstObj acc c) (List.mem_append_right _ (List.mem_append_left _ List.mem_cons_self))
  have hW : ∀ b ∈ W, H b = none ∧ b ≠ X.env.locals ∧ b ∉ X.fs := fun b hb => by
    obtain ⟨o, e⟩ := h0 b hb
    obtain ⟨_, q1, q2, q3, _⟩ := I.pin (b, o) (List.mem_append_right _ (List.mem_append_left _ (List.mem_cons_of_mem _ (mem_pinsAt hb e))))
    exact ⟨q1, q2, q3⟩
  have I0 : Inv X ip σ H s := I.pins_of fun p hp => I.pin p (List.mem_append_right _ (List.mem_append_right _ hp))
  obtain ⟨z1, z2, z3, z4, z5⟩ := z
  obtain ⟨c', eS'⟩ := z4 acc c eS
  have nS : ∀ b u, H b = some u → b ≠ S := fun b u q e => by rw [e, hS0] at q; cases q
  have nW : ∀ b u, H b = some u → b ∉ W := fun b u q e => by rw [(hW b e).1] at q; cases q
  obtain ⟨hh, g, d, t, o⟩ := s'
  have ho : o = s.os := z1
  subst ho
  have kp : ∀ b ob, b ∉ S :: W → s.heap.get? b = some ob → hh.get? b = some ob := fun b ob hb q => z3 b ob (fun e => hb (by rw [e]; exact List.mem_cons_self)) (fun e => hb (List.mem_cons_of_mem _ e)) q
  have J : Inv X ip σ H { s with heap := hh, gens := g, drawn := d, toks := t } := by
    refine I0.step (g' := g) (t' := t) (d' := d) (ch := S :: W) (fun b hb => ?_)
      (fun b ob _ _ hc q _ => kp b ob hc q) (fun b ob _ _ hc q _ => ⟨ob.slots, kp b ob hc q⟩) (fun _ _ _ _ n => n) (fun b ob hc q => ⟨ob, kp b ob hc q⟩)
      (fun _ _ q => q) (fun _ _ _ q => q) (fun b ps q => ⟨#[], by rw [q]; simp⟩) (fun m hm => ?_) (fun b u q => ?_) z2
    · rcases List.mem_cons.mp hb with e | hb
      · rw [e]
        refine ⟨.inr hA.s.1, hA.s.2.1, hA.s.2.2, fun p hp => ?_⟩
        rcases List.mem_append.mp hp with hp | hp
        · exact (hA.pn p hp).1
        · exact (hip p hp).1
      · obtain ⟨⟨w1, w2, w3⟩, w4⟩ := hA.w b hb
        refine ⟨.inr w1, w2, w3, fun p hp e => ?_⟩
        rcases List.mem_append.mp hp with hp | hp
        · exact (hA.pn p hp).2 (e ▸ hb)
        · exact (hip p hp).2 (e ▸ hb)
    · obtain ⟨ob, es, ep, ho, r⟩ := hm
      exact ⟨ob, es, ep, z3 _ ob (Ne.symm hSL) (fun e => (hW _ e).2.1 rfl) ho, r⟩
    · refine (I0.hok b u q).stay (fun c v hc y => z3 c v ?_ ?_ y) (fun _ y => y) fun _ _ y => y
      · rcases hc with y | y
        · rw [y]; exact nS b u q
        · exact nS c _ y
      · rcases hc with y | y
        · rw [y]; exact nW b u q
        · exact nW c _ y
  refine ⟨fun b hb => (z5 b hb).imp fun o q => q.1, acc.push v, c', ?_, J.pins_of fun p hp => ?_⟩
  · rw [Array.toList_push]
    exact r.append (.cons rv .nil)
  · rcases List.mem_append.mp hp with hp | hp
    · rcases List.mem_cons.mp hp with hp | hp
      · rw [hp]
        exact ⟨eS', hS0, hSL, hSf, fun v q => by cases q⟩
      · obtain ⟨hb, e⟩ := of_pinsAt hp
        obtain ⟨q1, q2, q3⟩ := hW p.1 hb
        obtain ⟨o', e', nc⟩ := z5 p.1 hb
        have : o' = p.2 := Option.some.inj (e'.symm.trans e)
        exact ⟨e, q1, q2, q3, this ▸ nc⟩
    · exact J.pin p (List.mem_append_right _ hp)
def GYW (X : Cx) (S : Addr) (W : List Addr) : Protocol := fun n s0 v s kap =>
  ∃ ys x ip σ H, n + 1 + ys.length = sizeLine ∧ RelV x v ∧ GW X S W s0 ip ys σ H s ∧ ∀ s', SlW S W v s s' → kap (.send .none) s'
def GRW (X : Cx) (S : Addr) (W : List Addr) (Q : List V → Hp → Prop) (F : Value → Shared → Prop) : GenEnd := fun n s0 r s => match r with
  | .ok (.ret u) => ∃ ys ip σ H, u = .none ∧ n + ys.length = sizeLine ∧ GW X S W s0 ip ys σ H s ∧ Q ys H
  | .ok _ => False
  | .error e => F e s
/-! ### for, of a generator -/
theorem ld_var {A : Around} {pins : List (Addr × Obj)} {i : Nat} {x : Str} {v : V} {pos : Pos} {E : Value → Shared → Prop} {Q : Value → Shared → Prop} (I : Inv X pins σ H s) (hN : X.N[i]? = some x) (hv : Vis X.env.scope x) (e : σ[i]? = some (some v)) (h : ∀ u, RelV v u → Q u s)
    (hd : (x == ("__debug__" : Str)) = false) (hcd : (x == ("__classdict__" : Str)) = false) : wpAny (model X.prog X.w) A (eval (.Name x pos) X.env) Q E s := by
  obtain ⟨m, hn, hl⟩ := I.loc
  obtain ⟨u, r, l⟩ := hl i x v hN e hv
  rcases l with ⟨hk, hm⟩ | ⟨hk, c, hc, hcell⟩
  · exact wpAny_Name (wpAny_loadName_local I.ok.kind hk hn hm (h u r)) hd
  · rcases hk with hk | hk
    · exact wpAny_Name (wpAny_loadName_cell I.ok.kind hk hc hcell (h u r)) hd
    · exact wpAny_Name (wpAny_loadName_free I.ok.kind hk hc hcell (h u r) hcd) hd
end
section
variable {prog : Program} {w : World} {A : Around} {R : GenEnd} {Y : Protocol} {n : Nat} {s0 : Shared} {fs : List Frame} {s : Shared} {env : Env}
theorem seg_forLoop {target : Expr} {it : Value} {body : List Stmt}
    (h : wpAny (model prog w) (A.over (.forLoop target it body [] env) fs) (pyNext it) (fun r s1 => match r with
      | none => Seg (model prog w) A R Y n s0 (.forLoop target it body [] env) (.pure (.again (.block [] env))) fs s1
      | some v => wpAny (model prog w) (A.over (.forLoop target it body [] env) fs) (letOwnedTupleGo target it v) (fun _ s2 =>
          wpAny (model prog w) (A.over (.forLoop target it body [] env) fs) (assign target env v) (fun _ s3 =>
            Seg (model prog w) A R Y n s0 (.forLoop target it body [] env) ((execs body env).wrap (fun f => match f with
              | .next | .cont => .pure (.again (.forLoop target it body [] env))
              | .brk => .pure (.done .next)
              | .ret v => .pure (.done (.ret v))) (fun e => (do noteFrame e env; theTreesLotGoes e : Sem Unit).wrap (fun _ => .raise e) .raise id id) id id) fs s3)
          (fun _ _ => False) s2) (fun _ _ => False) s1) (fun _ _ => False) s) :
    Seg (model prog w) A R Y n s0 (.forLoop target it body [] env) ((model prog w).den (.forLoop target it body [] env)) fs s := by
  show Seg _ A R Y n s0 _ ((forTurn target it body [] env).onRaise (fun x => do noteFrame x env; theTreesLotGoes x)) fs s
  unfold forTurn
  rw [Sem.onRaise_eq_wrap]
  refine seg_bind_wrap (wpAny_standAt ?_)
  refine seg_bind_wrap (wpAny_onRaise (wpAny_mono h (fun r s1 h1 => ?_) fun _ _ f => f.elim))
  cases r with
  | none => exact h1
  | some v =>
    refine seg_bind_wrap (wpAny_mono h1 (fun _ s2 h2 => ?_) fun _ _ f => f.elim)
    refine seg_bind_wrap (wpAny_mono h2 (fun _ s3 h3 => ?_) fun _ _ f => f.elim)
    rw [Sem.bind_eq_wrap', Sem.wrap_wrap]
    rw [Sem.wrap_congr (execs body env) _ _ (K' := fun f => match f with
          | .next | .cont => .pure (.again (.forLoop target it body [] env))
          | .brk => .pure (.done .next)
          | .ret v => .pure (.done (.ret v))) (H' := (fun e => (do noteFrame e env; theTreesLotGoes e : Sem Unit).wrap (fun _ => .raise e) .raise id id))
      (fun f => by cases f <;> rfl)
      (fun e => by first | exact Sem.bind_eq_wrap _ _ | (show (do noteFrame e env; theTreesLotGoes e : Sem Unit).bind (fun _ => .raise e) = _; rw [Sem.bind_eq_wrap]))]
    exact h3
theorem seg_blockNil {k : Result → Sem PySem.Fin} {hh : Option Value} {g : Bool} {l kp : List Value} {c1 : Code} {p1 : Pos} {c : Code} (h : Seg (model prog w) A R Y n s0 c1 (k (.ok .next)) fs s) :
    Seg (model prog w) A R Y n s0 c (.pure (.again (.block [] env))) (.ret k hh g l c1 p1 kp :: fs) s := by
  refine seg_again rfl ?_
  show Seg _ A R Y n s0 _ ((execs [] env).onRaise (fun x => do noteFrame x env; theTreesLotGoes x) >>= fun f => pure (Fin.done f)) _ s
  refine seg_bind (wpAny_onRaise (wpAny_execs_nil ?_))
  exact seg_leaf (.ok .next) h
end
/-! ### the body -/
abbrev forY (y : Str) (py pz yp yq pos : Pos) (iter : Expr) : List Stmt := [.For (.Name y py) iter [.Expr (.Yield (some (.Name y pz)) yp) yq] [] pos]
section
variable {X : Cx} {S : Addr} {W : List Addr}
theorem seg_body {y : Str} {iy : Nat} {py pz yp yq pos : Pos} {iter : Expr} {te : TE} {A : Around} {Q : List V → Hp → Prop} {F : Value → Shared → Prop} {c : Code} {J : Value → Sem PySem.Fin} {σ : L2.St} {H : Hp} {s0 s : Shared}
    (hA : AptW X S W) (hov : A.over c [] = X.A) (hc : X.calm = true) (hN : X.N.Nodup) (hy : X.N[iy]? = some y) (hyl : X.env.scope.names.lookup y = some .local)
    (hd : (y == ("__debug__" : Str)) = false) (hcd : (y == ("__classdict__" : Str)) = false) (hco : X.env.scope.isCoroutine = false) (hi : interactive X.env = false) (hs : ∀ x, foldedSetIterable iter X.env x = pure x)
    (he : PE X iter te) (I : GW X S W s0 [] [] σ H s) (ht : te σ H fun x H1 => ∃ l xs, x = .ref l ∧ SqL X.K H1 l xs ∧ Q xs H1)
    (hJ : ∀ e s', X.xe e s' → Seg (model X.prog X.w) A (GRW X S W Q F) (GYW X S W) sizeLine s0 c (J e) [] s') :
    Seg (model X.prog X.w) A (GRW X S W Q F) (GYW X S W) sizeLine s0 c ((execs (forY y py pz yp yq pos iter) X.env).wrap (fun f => .pure (.done (.ret (match f with | .ret v => v | _ => .none)))) J id id) [] s := by
  obtain ⟨h0, acc0, c0, r0, I⟩ := I
  rw [List.append_nil] at I
  refine seg_execs_cons ?_
  rw [exec_For]
  refine seg_bind_wrap (wpAny_standAt ?_)
  have hpi := (pi_list (tg := .Name y py) (pe_mo he)).run _ s σ H (fun Jt H1 => ∃ l xs, Jt = Itl X.K l ∧ SqL X.K H1 l xs ∧ Q xs H1) I ⟨_, ht, fun x H1 ⟨l, xs, e, hq, q⟩ => ⟨l, e, ⟨xs, hq⟩, l, xs, rfl, hq, q⟩⟩
  refine seg_bind_wrap ?_
  rw [hov]
  refine wpAny_mono hpi (fun v s1 h1 => ?_) fun x s' hx => hJ x s' hx
  refine seg_bind_wrap (wpAny_of_eq (hs v) ?_)
  refine seg_bind_wrap (wpAny_standAt ?_)
  refine seg_bind_wrap (wpAny_holding ?_)
  rw [hov]
  refine wpAny_mono h1 (fun itv s2 h2 => ?_) fun x s' hx => hJ x s' hx
  obtain ⟨it, fp, tn, Jt, H1, e, I2, T, st2, f2, l, xs, eJ, hq, hQ⟩ := h2
  subst e
  subst eJ
  have hlen : xs.length ≤ sizeLine := by
    obtain ⟨its, rv, p, hz⟩ := I2.list hq
    have := rv.length
    omega
  have fS : ∀ b ∈ fp, b ≠ S ∧ b ∉ W := fun b hb => by
    obtain ⟨_, _, _, _, _, q⟩ := f2 b hb
    refine ⟨fun e => q (S, lstObj acc0 c0) (List.mem_append_right _ List.mem_cons_self) e.symm, fun hw => ?_⟩
    obtain ⟨o, eo⟩ := h0 b hw
    exact q (b, o) (List.mem_append_right _ (List.mem_cons_of_mem _ (mem_pinsAt hw eo))) rfl
  have fok : ∀ (acc : Array Value) (cc : Nat) (s' : Shared), ∀ b ∈ fp, FpOk X ((S, lstObj acc cc) :: pinsAt W s'.heap) H1 b := fun acc cc s' b hb => by
    obtain ⟨q1, q2, q3, q4, q5, q6⟩ := f2 b hb
    obtain ⟨w1, w2⟩ := fS b hb
    refine ⟨q1, q2, q3, q4, q5, fun p hp e => ?_⟩
    rcases List.mem_append.mp hp with hp | hp
    · exact q6 p (List.mem_append_left _ hp) e
    · rcases List.mem_cons.mp hp with hp | hp
      · rw [hp] at e; exact w1 e.symm
      · exact w2 (e ▸ (of_pinsAt hp).1)
  have loop : ∀ (fs : List Frame) (k : Result → Sem PySem.Fin) (l0 kp : List Value) (p : Pos), A.over (.forLoop (.Name y py) (.ref it) [.Expr (.Yield (some (.Name y pz)) yp) yq] [] X.env) (.ret k none false l0 c p kp :: fs) = X.A →
      splitAtGen (.ret k none false l0 c p kp :: fs) = none → (Frame.ret k none false l0 c p kp :: fs).any Frame.guarded = false →
      (∀ n s0 s', n + xs.length = sizeLine → (∃ σ', GW X S W s0 [] xs σ' H1 s') → Seg (model X.prog X.w) A (GRW X S W Q F) (GYW X S W) n s0 c (k (.ok .next)) fs s') →
      ∀ (r i n : Nat) (s0 s : Shared) (σ : L2.St), i + r = xs.length → n + i = sizeLine → GW X S W s0 [] (xs.take i) σ H1 s → tn i s.heap →
      Seg (model X.prog X.w) A (GRW X S W Q F) (GYW X S W) n s0 (.forLoop (.Name y py) (.ref it) [.Expr (.Yield (some (.Name y pz)) yp) yq] [] X.env)
        ((model X.prog X.w).den (.forLoop (.Name y py) (.ref it) [.Expr (.Yield (some (.Name y pz)) yp) yq] [] X.env)) (.ret k none false l0 c p kp :: fs) s := by
    intro fs k l0 kp p ov hsp hgu hend r
    induction r with
    | zero =>
      intro i n s0 s σ hi' hn hG hst
      have ei : i = xs.length := by omega
      subst ei
      rw [List.take_length] at hG
      obtain ⟨g0, acc, cc, rv, IG⟩ := hG
      rw [List.append_nil] at IG
      refine seg_forLoop ?_
      rw [ov]
      refine wpAny_mono (T.done X rfl rfl rfl hc _ _ s σ H1 _ IG (fok acc cc s0) hst ⟨xs, hq, Nat.le_refl _⟩) (fun r s1 ⟨hr, I1⟩ => ?_) fun _ _ x => x
      subst hr
      exact seg_blockNil (hend n s0 s1 hn ⟨σ, g0, acc, cc, rv, by rw [List.append_nil]; exact I1⟩)
    | succ r ih =>
      intro i n s0 s σ hi' hn hG hst
      have hlt : i < xs.length := by omega
      obtain ⟨n, rfl⟩ : ∃ m, n = m + 1 := ⟨n - 1, by omega⟩
      obtain ⟨g0, acc, cc, rv, IG⟩ := hG
      rw [List.append_nil] at IG
      refine seg_forLoop ?_
      rw [ov]
      refine wpAny_mono (T.item X rfl rfl rfl hc i _ s σ H1 _ IG (fok acc cc s0) hst ⟨xs, xs[i], hq, List.getElem?_eq_getElem hlt⟩) (fun r s1 ⟨u, hr, h1⟩ => ?_) fun _ _ x => x
      subst hr
      refine wpAny_mono h1 (fun _ sa ⟨x, H', Ia, rx, ⟨eH, ex⟩, st', _⟩ => ?_) fun _ _ x => x
      subst eH
      have ex := ex xs hq
      have I3 := Ia.pinned (fok acc cc s0) (T.obj _ _ st')
      refine wpAny_assign_Name (store_ok2 I3 hN hy (.inl hyl) rx (fun s3 I4 _ => ?_) (.inr hyl))
      refine seg_execs_cons ?_
      refine seg_Expr_Yield hsp rfl hgu ?_ hco hi
      rw [ov]
      have hiy : iy < σ.length := by rw [IG.len]; exact (List.getElem?_eq_some_iff.mp hy).1
      refine ld_var I4 hy (.inl hyl) (by rw [List.getElem?_set_self hiy]) (fun u' ru' => ?_) hd hcd
      intro kap hk
      have G1 : GW X S W s0 (pinsAt fp sa.heap) (xs.take i) (σ.set iy (some x)) H' s3 := ⟨g0, acc, cc, rv, I4⟩
      have hip : ∀ p ∈ pinsAt fp sa.heap, p.1 ≠ S ∧ p.1 ∉ W := fun p hp => fS p.1 (of_pinsAt hp).1
      refine ⟨_, x, _, _, _, ?_, ru', G1, fun s' z => hk .none s' ?_⟩
      · rw [List.length_take, Nat.min_eq_left (Nat.le_of_lt hlt)]; exact hn
      have G2 := G1.woken hA hip ru' z
      obtain ⟨g1, acc', cc', rv', I5⟩ := G2
      have st5 : tn (i + 1) s'.heap := T.keep _ _ _ st' fun b hb o e => (I5.pin (b, o) (List.mem_append_right _ (List.mem_append_right _ (mem_pinsAt hb e)))).1
      have etk : xs.take i ++ [x] = xs.take (i + 1) := by
        rw [List.take_add_one, ex]; rfl
      rw [etk] at rv'
      refine seg_execs_nil ?_
      refine seg_again rfl (ih (i + 1) n s' s' _ (by omega) (by omega) ⟨g1, acc', cc', rv', by rw [List.append_nil]; exact I5.unpinned⟩ st5)
  refine seg_call fun p => ?_
  refine loop [] _ _ _ p ?_ rfl rfl (fun n s0' s' hn hG => ?_) xs.length 0 sizeLine s0 s2 σ (Nat.zero_add _) rfl ⟨h0, acc0, c0, by rw [List.take_zero]; exact r0, by rw [List.append_nil]; exact I2⟩ st2
  · exact (over_loop rfl rfl).trans hov
  · obtain ⟨σ', hG⟩ := hG
    refine seg_execs_nil (env := X.env) ?_
    exact seg_end (.ok (.ret .none)) ⟨xs, [], σ', H1, rfl, hn, hG, hQ⟩
end
/-! ### the call -/
def YW (s : Shared) (S : Addr) (W : List Addr) (a : Addr) (g : Nat) : Protocol := fun n s0 v s1 kap =>
  s1.os = s.os ∧ AllBare s1.gens ∧ s1.heap.NoLimit ∧ s1.heap.IsGen a g ∧ (∃ (acc : Array Value) (c : Nat), s1.heap.get? S = some (lstObj acc c) ∧ n + 1 + acc.size = sizeLine) ∧ (∀ b ∈ W, ∀ o, s0.heap.get? b = some o → s1.heap.get? b = some o) ∧ ∀ s', SlW S W v s1 s' → kap (.send .none) s'
def RW (P : Program) (w : World) (outer : List Env) (H : Hp) (s : Shared) (S : Addr) (W : List Addr) (a : Addr) (g : Nat) (Q : List V → Hp → Prop) (E : XK) : GenEnd := fun n s0 r s1 =>
  ((r = .ok (.ret .none) ∨ r = .ok .next) ∧ (∃ H' ys acc c, s1.os = s.os ∧ AllBare s1.gens ∧ Un (frs outer) [] H H' s.heap s1.heap ∧ HOk P w H' s1.heap ∧ H' S = none ∧ s1.heap.get? S = some (lstObj acc c) ∧ Vals ys acc.toList ∧ ys.length ≤ sizeLine ∧ Q ys H' ∧ ∀ b ∈ W, H' b = none) ∧ ∀ b ∈ W, ∀ o, s0.heap.get? b = some o → s1.heap.get? b = some o) ∨
  ∃ e, r = .error e ∧ CX P w outer H s E e s1 ∧ s1.heap.IsGen a g
/-- a generator that has not begun -/
def GMadeW (P : Program) (w : World) (k : Nat) (outer : List Env) (H : Hp) (s : Shared) (Q : List V → Hp → Prop) (E : XK) (u : Value) (s' : Shared) : Prop :=
  ∃ (a : Addr) (g : Nat) (c : Code), u = .ref a ∧ s.heap.objs.size ≤ a ∧ a < s'.heap.objs.size ∧ s'.heap.IsGen a g ∧ s'.gens[g]? = some (.fresh c) ∧ s'.os = s.os ∧ AllBare s'.gens ∧ s'.heap.NoLimit ∧ (∀ b o, s.heap.get? b = some o → s'.heap.get? b = some o) ∧
    ∀ (A : Around) (S : Addr) (W : List Addr) (s2 : Shared), Room k A → A.frames = some outer → s'.heap.objs.size ≤ S → (∀ b ∈ W, s'.heap.objs.size ≤ b ∧ b ≠ S ∧ ∃ o, s2.heap.get? b = some o ∧ ∀ v, o.data ≠ .cell v) → (∀ b o, s'.heap.get? b = some o → s2.heap.get? b = some o) → (∃ c, s2.heap.get? S = some (lstObj #[] c)) → s2.os = s.os → AllBare s2.gens →
      Seg (model P w) A (RW P w outer H s S W a g Q E) (YW s S W a g) sizeLine s2 c ((model P w).den c) [] s2
structure GFnW (P : Program) (w : World) (K : PySem.W.Frag) (mg : Str → Option Value) (base : Heap) (k : Nat) (f : Addr) (fd : FuncData) (ps : List Str) (sp : SpG) : Prop where
  len : ∀ vs H Q E, sp vs H Q E → vs.length = ps.length
  run : ∀ (A : Around) (outer : List Env) (s : Shared) (H : Hp) (args : Args) (us : List Value) (vs : List V) (Q : List V → Hp → Prop) (E : XK), Room k A → Env0 P w K mg base A outer s H → BindsTo s fd args (ps.zip us) → Vals vs us → sp vs H Q E →
    codeAny (model P w) A (.call (.ref f) args) (fun r s' => match r with | .ok (.ret u) => GMadeW P w k outer H s Q E u s' | _ => False) s
theorem gfnW_of {P : Program} {w : World} {K : PySem.W.Frag} {mg : Str → Option Value} {base : Heap} {k : Nat} {f : Addr} {name qual : Str} {params : Arguments} {scope : Scope} {dV kV doc pm cdv ct oc : Value} {an od : Option Addr}
    {osl : Array (Option Value)} {N ps : List Str} {sp : SpG} {y : Str} {iy : Nat} {py pz yp yq pos : Pos} {iter : Expr}
    (lk : K.lookup f = some ⟨oc, od, .func (PySem.W.fnOf name qual params (forY y py pz yp yq pos iter) scope dV kV doc pm an cdv ct), osl⟩) (hcd : PySem.W.codeIn K cdv qual = true) (S : GScope N ps scope)
    (hy : N[iy]? = some y) (hyl : scope.names.lookup y = some .local) (hd : (y == ("__debug__" : Str)) = false) (hcd' : (y == ("__classdict__" : Str)) = false) (hs : ∀ env x, foldedSetIterable iter env x = pure x)
    (len : ∀ vs H Q E, sp vs H Q E → vs.length = ps.length)
    (hbody : ∀ (A : Around) (outer : List Env) (s : Shared) (H : Hp) (vs : List V) (Q : List V → Hp → Prop) (E : XK) (pn : List (Addr × Obj)), Room k (A.deeper (envOfC qual scope s.heap.objs.size f cdv)) → sp vs H Q E →
      ∃ te, PE (gcxOf P w K mg base N qual scope f cdv A outer s H E pn) iter te ∧ te (L2.start N vs) H fun x H1 => ∃ l xs, x = .ref l ∧ SqL K H1 l xs ∧ Q xs H1) :
    GFnW P w K mg base (k + 1) f (PySem.W.fnOf name qual params (forY y py pz yp yq pos iter) scope dV kV doc pm an cdv ct) ps sp := by
  refine ⟨len, fun A outer s H args us vs Q E hr e0 hb r hsp => ?_⟩
  have hl := len _ _ _ _ hsp
  have KX : K.In s.heap := e0.mod.kin.keeps fun b o e => (e0.bs b o e).1
  have lim : s.heap.NoLimit := e0.mod.nolimit.keeps fun b o e => (e0.bs b o e).1
  have hkind : ∀ y ∈ ps.zip us, scope.names.lookup y.1 = some .local ∨ (scope.names.lookup y.1 = some .cell ∧ ((cellsFrom (s.heap.objs.size + 1) scope.names []).lookup y.1).isSome = true) := fun ⟨n, v⟩ hy => by
    rcases S.par n (List.of_mem_zip hy).1 with q | q
    · exact .inl q
    · exact .inr ⟨q, PySem.W.cellsFrom_some _ _ _ (.inl q)⟩
  refine codeAny_call_generator hr.depth (KX _ _ lk) rfl S.co S.gen rfl (PySem.W.codeRec_of KX hcd) (hb _ _ _ _ ?_)
  refine wpAny_newFunctionEnv_cells S.kind hkind fun env he s1 x => ?_
  subst he
  refine ⟨lim.keeps x.toInCall.keep, ?_⟩
  obtain ⟨h1, tk, es1, hk1⟩ := x.done
  have os1 : s1.os = s.os := by rw [es1]
  have gen1 : s1.gens = s.gens := by rw [es1]
  have lt1 : s.heap.objs.size < s1.heap.objs.size := x.toInCall.ns.lt
  have sz1 : s.heap.objs.size ≤ s1.heap.objs.size := Nat.le_of_lt lt1
  have kp1 : ∀ b o, s.heap.get? b = some o → s1.heap.get? b = some o := x.toInCall.keep
  have main : ∀ (go : Obj) (nm qn : Value) (tk2 : Nat), go.cls = .type "generator" → go.data = .fields #[.int s1.gens.size 0, nm, qn] → go.slots = #[] → (∀ h : Heap, (h.push go).get? h.objs.size = some go) →
      GMadeW P w (k + 1) outer H s Q E (.ref s1.heap.objs.size) { s1 with gens := s1.gens.push (.fresh (.func (forY y py pz yp yq pos iter) (envOfC qual scope s.heap.objs.size f cdv))), toks := tk2, heap := s1.heap.push go } := by
    intro go nm qn tk2 hgc hgd0 hgs hgp
    have hgen : ∀ h : Heap, h.get? s1.heap.objs.size = some go → h.IsGen s1.heap.objs.size s1.gens.size := fun h e => ⟨go, nm, qn, e, hgc, hgd0, hgs⟩
    have hpushed : (s1.heap.push go).get? s1.heap.objs.size = some go := hgp _
    refine ⟨s1.heap.objs.size, s1.gens.size, _, rfl, sz1, ?_, hgen _ hpushed, Array.getElem?_push_size .., os1, ?_, (lim.keeps x.toInCall.keep).keeps fun b o e => Heap.get?_push_of_some _ e, fun b o e => Heap.get?_push_of_some _ (kp1 b o e), ?_⟩
    · show _ < (s1.heap.push _).objs.size
      rw [Heap.size_push]; exact Nat.lt_succ_self _
    · exact AllBare.push (by rw [gen1]; exact e0.bare) rfl
    intro Aw Sx Wx s2 hrw hfr hSx hWx hk2 hSo hos hba
    have hSx : s1.heap.objs.size < Sx := by
      have h : (s1.heap.push go).objs.size ≤ Sx := hSx
      rwa [Heap.size_push] at h
    have hWx : ∀ b ∈ Wx, s1.heap.objs.size < b ∧ b ≠ Sx ∧ ∃ o, s2.heap.get? b = some o ∧ ∀ v, o.data ≠ .cell v := fun b hb => by
      obtain ⟨h, q⟩ := hWx b hb
      have h : (s1.heap.push go).objs.size ≤ b := h
      rw [Heap.size_push] at h
      exact ⟨h, q⟩
    have e0w : Env0 P w K mg base Aw outer s H := ⟨hfr, e0.mod, e0.bs, e0.bsz, e0.funs, e0.frf, e0.hok, e0.bare⟩
    obtain ⟨te, ht, hq⟩ := hbody Aw outer s H vs Q E [(s1.heap.objs.size, go)] (hrw.deeper _) hsp
    have I1 : L2.Inv (gcxOf P w K mg base N qual scope f cdv Aw outer s H E []) [] (L2.start N vs) H s1 := inv_startG S hrw.hd e0w hl r x
    have kp2 : ∀ b o, s1.heap.get? b = some o → s2.heap.get? b = some o := fun b o e => hk2 b o (Heap.get?_push_of_some _ e)
    have I2 : L2.Inv (gcxOf P w K mg base N qual scope f cdv Aw outer s H E []) [] (L2.start N vs) H s2 :=
      I1.call' (ch := []) (hos.trans os1.symm) (Un.kept kp2) (I1.hok.kept kp2) hba fun b z => by simp at z
    obtain ⟨cS, heS⟩ := hSo
    have hea : s2.heap.get? s1.heap.objs.size = some go := hk2 s1.heap.objs.size go hpushed
    have hgd : ∀ v, go.data ≠ .cell v := fun v q => by rw [hgd0] at q; cases q
    have young : ∀ b, s1.heap.objs.size ≤ b → H b = none ∧ b ≠ s.heap.objs.size ∧ b ∉ frs outer ∧ s.heap.objs.size ≤ b ∧ ∀ y c, (cellsFrom (s.heap.objs.size + 1) scope.names []).lookup y = some c → c ≠ b := fun b hb => by
      refine ⟨I1.hok.fresh hb, Nat.ne_of_gt (Nat.lt_of_lt_of_le lt1 hb), I1.nofs hb, Nat.le_trans sz1 hb, fun y c e z => ?_⟩
      obtain ⟨v, ob, ho, _⟩ := I1.cell y c e
      have := Heap.lt_size ho
      rw [z] at this
      exact absurd (Nat.lt_of_lt_of_le this hb) (Nat.lt_irrefl _)
    have hG : GW (gcxOf P w K mg base N qual scope f cdv Aw outer s H E [(s1.heap.objs.size, go)]) Sx Wx s2 [] [] (L2.start N vs) H s2 := by
      refine ⟨fun b hb => (hWx b hb).2.2.imp fun o q => q.1, #[], cS, .nil, Inv.pinnedG I2 fun p hp => ?_⟩
      rcases List.mem_append.mp hp with z | z
      · rw [List.mem_singleton.mp z]
        obtain ⟨y1, y2, y3, _, _⟩ := young s1.heap.objs.size (Nat.le_refl _)
        exact ⟨hea, y1, y2, y3, hgd⟩
      · rw [List.append_nil] at z
        rcases List.mem_cons.mp z with z | z
        · rw [z]
          obtain ⟨y1, y2, y3, _, _⟩ := young Sx (Nat.le_of_lt hSx)
          exact ⟨heS, y1, y2, y3, fun v q => by cases q⟩
        · obtain ⟨hb, e⟩ := of_pinsAt z
          obtain ⟨l1, _, o, e', nc⟩ := hWx p.1 hb
          obtain ⟨y1, y2, y3, _, _⟩ := young p.1 (Nat.le_of_lt l1)
          exact ⟨e, y1, y2, y3, (Option.some.inj (e'.symm.trans e)) ▸ nc⟩
    have ap : ∀ b, s1.heap.objs.size < b → Apart (gcxOf P w K mg base N qual scope f cdv Aw outer s H E [(s1.heap.objs.size, go)]) b := fun b hb => by
      obtain ⟨_, y2, _, y4, y5⟩ := young b (Nat.le_of_lt hb)
      exact ⟨y4, y2, y5⟩
    have hA : AptW (gcxOf P w K mg base N qual scope f cdv Aw outer s H E [(s1.heap.objs.size, go)]) Sx Wx := by
      refine ⟨ap Sx hSx, fun b hb => ⟨ap b (hWx b hb).1, (hWx b hb).2.1⟩, fun p hp => ?_⟩
      rw [List.mem_singleton.mp hp]
      exact ⟨Nat.ne_of_lt hSx, fun z => Nat.lt_irrefl _ (hWx _ z).1⟩
    have facts : ∀ {s0 : Shared} {ip : List (Addr × Obj)} {ys : List V} {s' : Shared} {σ' : L2.St} {H' : Hp}, GW (gcxOf P w K mg base N qual scope f cdv Aw outer s H E [(s1.heap.objs.size, go)]) Sx Wx s0 ip ys σ' H' s' →
        s'.heap.IsGen s1.heap.objs.size s1.gens.size ∧ (∀ b ∈ Wx, ∀ o, s0.heap.get? b = some o → s'.heap.get? b = some o) ∧ s'.os = s.os ∧ AllBare s'.gens ∧ s'.heap.NoLimit ∧ Un (frs outer) [] H H' s.heap s'.heap ∧ HOk P w H' s'.heap ∧ H' Sx = none ∧ (∀ b ∈ Wx, H' b = none) ∧ ∃ acc c, s'.heap.get? Sx = some (lstObj acc c) ∧ Vals ys acc.toList := fun {s0 ip ys s' σ' H'} hI => by
      obtain ⟨g0, acc, cc, rv, J⟩ := hI
      obtain ⟨p1, p2, _⟩ := J.pin (Sx, lstObj acc cc) (List.mem_append_right _ (List.mem_append_left _ List.mem_cons_self))
      exact ⟨hgen _ (J.pin (s1.heap.objs.size, go) (List.mem_append_left _ (List.mem_singleton.mpr rfl))).1, fun b hb o e => (J.pin (b, o) (List.mem_append_right _ (List.mem_append_left _ (List.mem_cons_of_mem _ (mem_pinsAt hb e))))).1,
        J.os, J.bare, J.nolimit, J.base, J.hok, p2, (fun b hb => (g0 b hb).elim fun o e => (J.pin (b, o) (List.mem_append_right _ (List.mem_append_left _ (List.mem_cons_of_mem _ (mem_pinsAt hb e))))).2.1), acc, cc, p1, rv⟩
    refine seg_func ?_
    refine seg_imp (R := GRW (gcxOf P w K mg base N qual scope f cdv Aw outer s H E [(s1.heap.objs.size, go)]) Sx Wx Q fun e s' => CX P w outer H s E e s' ∧ ∀ p ∈ [(s1.heap.objs.size, go)], s'.heap.get? p.1 = some p.2)
      (Y := GYW (gcxOf P w K mg base N qual scope f cdv Aw outer s H E [(s1.heap.objs.size, go)]) Sx Wx) (fun n s0 r s1' hR => ?_) (fun n s0 v s1' kap kap' hkk hY => ?_) sizeLine ?_
    · cases r with
      | error e =>
        obtain ⟨q1, q2⟩ := hR
        exact .inr ⟨e, rfl, q1, hgen _ (q2 (s1.heap.objs.size, go) (List.mem_singleton.mpr rfl))⟩
      | ok fl =>
        cases fl with
        | next => exact False.elim hR
        | brk => exact False.elim hR
        | cont => exact False.elim hR
        | ret u =>
          obtain ⟨ys, ip, σ', H', eu, hn, hI, hQ⟩ := hR
          subst eu
          obtain ⟨_, f2, f3, f4, _, f6, f7, f8, f8w, acc, cc, f9, f10⟩ := facts hI
          exact .inl ⟨.inl rfl, ⟨H', ys, acc, cc, f3, f4, f6, f7, f8, f9, f10, by omega, hQ, f8w⟩, f2⟩
    · obtain ⟨ys, xx, ip, σ', H', hn, h2, hI, h3⟩ := hY
      obtain ⟨f1, f2, f3, f4, f5, _, _, _, _, acc, cc, f9, f10⟩ := facts hI
      have hsz : acc.size = ys.length := by
        have e1 := f10.length
        have e2 : acc.toList.length = acc.size := by simp
        omega
      exact ⟨f3, f4, f5, f1, ⟨acc, cc, f9, by rw [hsz]; exact hn⟩, f2, fun s' z => hkk _ _ (h3 s' z)⟩
    · refine seg_body (X := gcxOf P w K mg base N qual scope f cdv Aw outer s H E [(s1.heap.objs.size, go)]) hA over_func rfl S.nd hy hyl hd hcd' S.co (by unfold interactive; rw [show (gcxOf P w K mg base N qual scope f cdv Aw outer s H E [(s1.heap.objs.size, go)]).env.scope.kind = .function from S.kind]; rfl) (hs _) ht hG hq fun e s' hx => ?_
      refine seg_wrap ?_
      rw [over_func]
      refine wpAny_mono (show wpAny (model P w) (Aw.deeper (envOfC qual scope s.heap.objs.size f cdv)) (leaving (envOfC qual scope s.heap.objs.size f cdv) e) (fun _ s'' => CX P w outer H s E e s'' ∧ ∀ p ∈ [(s1.heap.objs.size, go)], s''.heap.get? p.1 = some p.2) (fun _ _ => False) s' from hx) (fun _ s'' q => ?_) fun _ s'' q => q.elim
      exact seg_end (.error e) q
  exact main _ _ _ _ rfl rfl rfl fun h => Heap.get?_push_size _ rfl
/-- with nothing more of its own the consumer is the kit's -/
theorem GMadeW.made {P : Program} {w : World} {k : Nat} {outer : List Env} {H : Hp} {s s' : Shared} {Q : List V → Hp → Prop} {E : XK} {u : Value} (h : GMadeW P w k outer H s Q E u s') : GMade P w k outer H s [] Q E u s' := by
  obtain ⟨a, g, c, h1, h2, h3, h4, h5, h6, h7, h8, h9, h10⟩ := h
  refine ⟨a, g, c, h1, h2, h3, h4, h5, h6, h7, h8, h9, fun A S s2 q1 q2 q3 q4 q5 q6 q7 => ?_⟩
  refine seg_imp (fun n s0 r s1 hR => ?_) (fun n s0 v s1 kap kap' hkk hY => ?_) sizeLine (h10 A S [] s2 q1 q2 q3 (fun b hb => (List.not_mem_nil hb).elim) q4 q5 q6 q7)
  · rcases hR with ⟨r1, ⟨H', ys, acc, cc, q1, q2, q3, q4, q5, q6, q7, q8, q9, _⟩, _⟩ | r1
    · exact .inl ⟨r1, H', ys, acc, cc, q1, q2, q3, q4, q5, q6, q7, q8, q9⟩
    · exact .inr r1
  · obtain ⟨y1, y2, y3, y4, y5, _, y7⟩ := hY
    exact ⟨y1, y2, y3, y4, y5, fun s' z => hkk _ _ (y7 s' ⟨z.os, z.bare, fun b o h _ e => z.keep b o h e, z.own, fun b hb => (List.not_mem_nil hb).elim⟩)⟩
/-! ### o.m(e, ..) -/
structure PGenW (X : Cx) (k : Nat) (e : Expr) (tg : TGen) (E : XK) : Prop where
  run : ∀ (pins : List (Addr × Obj)) (s : Shared) (σ : L2.St) (H : Hp) (cont : List V → Hp → Prop), Inv X pins σ H s → tg σ H cont → wpAny (model X.prog X.w) X.A (eval e X.env)
    (fun u s' => ∃ H1 sc, Inv X pins σ H1 sc ∧ GMadeW X.prog X.w k X.stack H1 sc cont E u s') X.xe s
section
variable {X : Cx} {k : Nat} {E : XK} {tg : TGen}
theorem PGenW.pgen {e : Expr} (h : PGenW X k e tg E) : PGen X k e tg E := ⟨fun pins s σ H cont I q => thn (h.run pins s σ H cont I q) fun u s' ⟨H1, sc, I1, g⟩ => ⟨H1, sc, [], I1, .nil, g.made⟩⟩
theorem pgenW_meth {f C : Addr} {fd : FuncData} {ps : List Str} {sp : SpG} {m : Str} {apos pos' : Pos} {o e : Expr} {es : List Expr} {ta : TE} {t : TA} {pl : Sem Bool} (he : PE X o ta) (c : Cls X.K C) (hm : Meth X.K C m f) (F : GFnW X.prog X.w X.K X.mg X.base k f fd ps sp) (hr : Room k X.A) (hb : Binds X.K fd ps []) (ha : PA X (e :: es) t)
    (hst : starEach (e :: es) X.env = (false, eval e X.env) :: starEach es X.env := by rfl) (hpl : (backTo pos' (starEach es X.env)).any (·.1) = false := by rfl)
    (ht : eval (.Call (.Attribute o m apos) (e :: es) [] pos') X.env = (do
      let ov ← eval o X.env
      standAt apos.atName
      let (f, first) ← holding [ov] (getMethod ov m pl)
      callWith pos' f first (backTo pos' (starEach (e :: es) X.env)) (backToKw pos' (keywordEach [] X.env))) := by rfl) :
    PGenW X k (.Call (.Attribute o m apos) (e :: es) [] pos') (tMethG C m sp [] E ta t) E := by
  refine ⟨fun pins s σ H cont I h => ?_⟩
  refine PySem.W.methodCall_KW (pl := pl) (thn (he.run pins s σ H _ I h) fun u s1 ⟨x, H1, I1, rx, a, dx, fs, ex, ea, l, q⟩ => ?_) ht
  subst ex
  obtain rfl : u = Value.ref a := rx
  refine getmeth_ok I1 ea c hm l ?_
  refine PySem.W.callWith_K (first := [.ref a]) (h₀ := X.base) I.ok.mod.kin hm.kp (thn (ha.run pos' pins s1 σ H1 _ I1 q) fun us s2 ⟨vs, H2, I2, r, q2⟩ => ⟨I2.kIn, ?_⟩) hst hpl
  have q2 : sp (V.ref a :: (vs ++ [])) H2 cont E := q2
  rw [List.append_nil] at q2
  have r2 : Vals (V.ref a :: vs) (Value.ref a :: us) := .cons rfl r
  have hl2 : (Value.ref a :: us).length = ps.length := by rw [← r2.length]; exact F.len _ _ _ _ q2
  have hbn : BindsTo s2 fd ⟨Value.ref a :: us, []⟩ (ps.zip (Value.ref a :: us)) := by
    have := hb s2 (Value.ref a :: us) I2.kIn (by simpa using hl2)
    rwa [List.append_nil] at this
  refine wpAny_call (codeAny_mono (F.run X.A X.stack s2 H2 _ (Value.ref a :: us) _ cont E hr I2.env0 hbn r2 q2) fun r s' hq => ?_)
  cases r with
  | error e => exact False.elim hq
  | ok fl =>
    cases fl with
    | ret u => exact ⟨H2, s2, I2, hq⟩
    | next => exact False.elim hq
    | brk => exact False.elim hq
    | cont => exact False.elim hq
theorem noStop0 {K : PySem.W.Frag} : NoStop K E0 := fun _ _ _ h => h.elim
/-- list(o.m(..)) -/
theorem pe_listW {e : Expr} {p pos : Pos} (h : PGenW X k e tg E0) (hr : Room (k + 3) X.A) (hg : Gl X "list") (hmg : X.mg "list" = none) (he : starEach [e] X.env = (false, eval e X.env) :: starEach [] X.env := by rfl) : PE X (.Call (.Name "list" p) [e] [] pos) (tListG tg) :=
  pe_listG h.pgen passN noStop0 hr hg hmg rfl (he := he)
end
/-! ### [y for y in o.m(..)] -/
theorem pe_lcW {X : Cx} {k : Nat} {tg : TGen} {y : Str} {py pz pos : Pos} {e : Expr} {scope : Scope} {own : List (Str × Nat)} (h : PGenW X k e tg E0) (hr : Room (k + 1) X.A) (ok : BlkOk X.N X.env.scope scope own) (hyl : scope.names.lookup y = some .local)
    (hd : (y == ("__debug__" : Str)) = false := by decide) (hs : ∀ x, foldedSetIterable e X.env x = pure x := by intro _; rfl) : PE X (.ListComp (.Name y pz) [⟨.Name y py, e, [], 0⟩] scope pos) (tListG tg) := by
  refine ⟨fun pins s σ H Q I hq => ?_⟩
  have hfree : ∀ y ∈ scope.names, y.2 = .free → ∃ c, X.env.cells.lookup y.1 = some c := fun y hy e => by
    rcases ok.free y hy e with k | k
    · exact I.ok.has _ (.inl k)
    · exact I.ok.has _ (.inr k)
  rw [eval_ListComp]
  refine wpAny_comprehension_free (use := none) rfl hs (closure_ok hfree) ok.kind (fun y hy e => by rw [ok.uniq y hy, e])
    (thn (h.run pins s σ H _ I hq) fun u s1 ⟨H1, sc, I1, hG⟩ => ?_)
  obtain ⟨a, g, c, rfl, h2, h3, h4, h5, h6, h7, h8, h9, wake⟩ := hG
  refine wpAny_pyIter_gen h4 ?_
  refine wpAny_newObj_type (newEnv_comp ?_) (by show 0 ≤ sizeLine; decide)
  have hsc : sc.heap.objs.size ≤ s1.heap.objs.size := Nat.le_trans h2 (Nat.le_of_lt h3)
  generalize hD : s1.heap.objs.size = D
  generalize hs3 : ({ s1 with heap := s1.heap.push { cls := .type "list", data := .seq ([] : List Value).toArray } } : Shared) = s3
  have h3p : s3.heap = s1.heap.push { cls := .type "list", data := .seq ([] : List Value).toArray } := by rw [← hs3]
  have hC3 : s3.heap.objs.size = D + 1 := by rw [h3p, Heap.size_push, hD]
  have hD3 : s3.heap.get? D = some (lstObj #[] 0) := by
    rw [h3p, ← hD]
    exact Heap.get?_push_size _ rfl
  show codeAny _ _ (.compStart (.ListComp (.Name y pz) [⟨.Name y py, e, [], 0⟩] scope pos) 0 (.ref a) (.ref D) (compEnvC scope (cellsFrom (s3.heap.objs.size + 1) scope.names (cloFrom X.env.cells scope.names [])) s3.heap.objs.size X.env)) (compPost (model X.prog X.w) X.A X.xe none (EP X pins σ Q) (.ref D) s3.heap.objs.size) { s3 with heap := pushCells (s3.heap.push { cls := .type "dict", data := .dict #[] }) scope.names }
  generalize hce : compEnvC scope (cellsFrom (s3.heap.objs.size + 1) scope.names (cloFrom X.env.cells scope.names [])) s3.heap.objs.size X.env = ce
  have cL : ce.locals = s3.heap.objs.size := by subst hce; rfl
  have csc : ce.scope = relabel scope X.env := by subst hce; rfl
  generalize hs4 : ({ s3 with heap := pushCells (s3.heap.push { cls := .type "dict", data := .dict #[] }) scope.names } : Shared) = s4
  have k34 : ∀ b o, s3.heap.get? b = some o → s4.heap.get? b = some o := fun b o e => by rw [← hs4]; exact pushCells_keeps _ _ _ _ (Heap.get?_push_of_some _ e)
  have k14 : ∀ b o, s1.heap.get? b = some o → s4.heap.get? b = some o := fun b o e => k34 b o (by rw [h3p]; exact Heap.get?_push_of_some _ e)
  have n4 : s4.heap.Ns s3.heap.objs.size fun _ => none := by
    rw [← hs4]
    exact Heap.Ns.keeps (Heap.Ns.new ..) fun b o e => pushCells_keeps _ _ _ _ e
  have g4 : s4.gens = s1.gens := by rw [← hs4, ← hs3]
  have o4 : s4.os = s1.os := by rw [← hs4, ← hs3]
  generalize hCd : s3.heap.objs.size = C at hC3 n4 cL
  have hCD : C ≠ D := by rw [hC3]; exact Nat.succ_ne_self D
  have kl : ce.kindOf y = some .local := by
    unfold Env.kindOf
    rw [csc]
    exact lookup_relabel_local hyl
  have kf : ce.scope.kind = .function := by rw [csc]; exact ok.kind
  have goes : ∀ {gs : GenState} {B : Around} {n : Nat} {r : Resume} {s : Shared}, gs.Goes (model X.prog X.w) B (RW X.prog X.w X.stack H1 sc D [C] a g (fun out H2 => ∀ p, H2 p = none → Q (.ref p) (upd H2 p (.lst out))) E0) (YW sc D [C] a g) n r s →
      gs.Goes (model X.prog X.w) B (fun n s₀ r s1 => ((r = .ok (.ret .none) ∨ r = .ok .next) ∧ ((∃ H' ys acc c, s1.os = sc.os ∧ AllBare s1.gens ∧ Un (frs X.stack) [] H1 H' sc.heap s1.heap ∧ HOk X.prog X.w H' s1.heap ∧ H' D = none ∧ s1.heap.get? D = some (lstObj acc c) ∧ Vals ys acc.toList ∧ ys.length ≤ sizeLine ∧ (∀ p, H' p = none → Q (.ref p) (upd H' p (.lst ys))) ∧ ∀ b ∈ [C], H' b = none) ∧ ∀ b ∈ [C], ∀ o, s₀.heap.get? b = some o → s1.heap.get? b = some o)) ∨
        ∃ e, r = .error e ∧ (CX X.prog X.w X.stack H1 sc E0 e s1 ∧ s1.heap.IsGen a g)) (YW sc D [C] a g) n r s := fun h => h
  have loop : codeAny (model X.prog X.w) X.A (.compLoop (.ListComp (.Name y pz) [⟨.Name y py, e, [], 0⟩] scope pos) 0 (.ref a) (.ref D) ce) (compPost (model X.prog X.w) X.A X.xe none (EP X pins σ Q) (.ref D) C) s4 := by
    refine compLoop_any (fun n s' => ∃ gs acc cc mm, s'.gens[g]? = some gs ∧ gs.Goes (model X.prog X.w) X.A.in1 (RW X.prog X.w X.stack H1 sc D [C] a g (fun out H2 => ∀ p, H2 p = none → Q (.ref p) (upd H2 p (.lst out))) E0) (YW sc D [C] a g) n (.send .none) (s'.setGen g .running) ∧
      s'.heap.IsGen a g ∧ s'.heap.NoLimit ∧ s'.heap.get? D = some (lstObj acc cc) ∧ s'.heap.Ns C mm) (fun n s5 hI => ?_) sizeLine ?_
    · obtain ⟨gs, acc, cc, mm, hgs, hgo, hig, hnl, hDs, hns⟩ := hI
      have hgl : g < s5.gens.size := (Array.getElem?_eq_some_iff.mp hgs).1
      refine wpAny_gsz (n := g + 1) hgl (next_genG (A := X.A) hr.hd hnl (by have := hr.dp; omega) hig hgs (goes hgo) (fun v s₁ gs' hbare hv => ?_) (fun s₁ hp h' hk => ?_) fun e s₁ he => ?_)
      · intro hsz
        obtain ⟨os1, hb1, hl1, hg1, ⟨acc1, c1, hS1, hasz⟩, hW1, hk⟩ := hv
        have hsz1 : g < s₁.gens.size := by
          have q : (s₁.setGen g gs').gens.size = s₁.gens.size := setGen_size _ _ _
          have hsz' : g + 1 ≤ (s₁.setGen g gs').gens.size := hsz
          omega
        have hns1 : s₁.heap.Ns C mm := hns.at' fun o e => hW1 C List.mem_cons_self o e
        refine wpAny_of_eq (rfl : letOwnedTupleGo (.Name y py) (.ref a) v = pure ()) ?_
        refine wpAny_assign_Name (wpAny_storeName_local kl (by rw [cL]; exact hns1) (fun h₂ hn₂ hs₂ => ?_) (by rw [kf]; rfl))
        rw [cL] at hn₂ hs₂
        refine wpAny_tests_nil ?_
        rw [if_pos rfl]
        refine wpAny_Name (wpAny_loadName_local kf kl (by rw [cL]; exact hn₂) (if_pos rfl) ?_) hd
        have hD2 : h₂.get? D = some (lstObj acc1 c1) := hs₂.extBut D _ (Ne.symm hCD) hS1
        refine append_at (hsz := by have : n - 1 + 1 + acc1.size = sizeLine := hasz; omega) hD2 fun h₃ sb₃ hD₃ => ?_
        have keep3 : ∀ b o, b ≠ D → b ≠ C → s₁.heap.get? b = some o → h₃.get? b = some o := fun b o hbD hbC e => sb₃.extBut b o hbD (hs₂.extBut b o hbC e)
        have nC3 : h₃.Ns C _ := hn₂.sameBut sb₃ hCD
        have sl : ∀ (S' : Shared), S'.os = s₁.os → AllBare S'.gens → S'.heap = h₃ → SlW D [C] v s₁ S' := fun S' e1 e2 e3 => by
          refine ⟨e1, e2, fun b o hbD hbC e => ?_, fun acc' c' e => ?_, fun b hb => ?_⟩
          · rw [e3]
            exact keep3 b o hbD (fun z => hbC (by rw [z]; exact List.mem_cons_self)) e
          · rw [hS1] at e
            cases e
            rw [e3]
            exact ⟨_, hD₃⟩
          · rw [List.mem_singleton.mp hb, e3]
            obtain ⟨o, es, ep, e, ed, _⟩ := nC3
            exact ⟨o, e, fun v z => by rw [ed] at z; cases z⟩
        cases n with
        | zero => exact False.elim (hk { s₁.setGen g gs' with heap := h₃ } (sl _ rfl (allBare_setGen hb1 hbare) rfl))
        | succ n =>
          obtain ⟨go, nm, qn, hgo1, hgr⟩ := hg1
          have haD : a ≠ D := by rw [← hD]; exact Nat.ne_of_lt h3
          have haC : a ≠ C := by
            rw [hC3, ← hD]
            exact Nat.ne_of_lt (Nat.lt_succ_of_lt h3)
          have cs : ∀ b o, s1.heap.get? b = some o → b ≠ D ∧ b ≠ C := fun b o e => by
            have := Heap.lt_size e
            rw [hC3, ← hD]
            exact ⟨Nat.ne_of_lt this, Nat.ne_of_lt (Nat.lt_succ_of_lt this)⟩
          refine ⟨n, Nat.lt_succ_self n, gs', acc1.push v, _, _, setGen_at hsz1, ?_, ⟨go, nm, qn, keep3 a go haD haC hgo1, hgr⟩, ?_, hD₃, nC3⟩
          · exact hk _ (sl _ rfl (allBare_setGen (allBare_setGen hb1 hbare) rfl) rfl)
          · obtain ⟨mc, hns', hnn⟩ := hl1
            refine ⟨mc, hns'.at' fun o e => ?_, hnn⟩
            obtain ⟨_, hcl, _⟩ := h8
            obtain ⟨oc, eso, epo, eoc, _⟩ := hcl
            obtain ⟨q1, q2⟩ := cs _ oc eoc
            exact keep3 _ o q1 q2 e
      · intro hsz
        obtain ⟨⟨H', ys, acc2, c2, q1, q2, q3, q4, q5, q6, q7, q8, q9, q10⟩, qW⟩ := hp
        have nC : s₁.heap.Ns C mm := hns.at' fun o e => qW C List.mem_cons_self o e
        have I2 := I1.drained (s' := { s₁.setGen g .finished with heap := h' }) (out := ys) (by rw [← hD]; exact hsc) q8 (hk _ _ q6) q7 .nil q1 (allBare_setGen q2 rfl) (q3.trans (Un.kept hk)) (q4.kept hk) q5
        refine ⟨mm, nC.keeps hk, fun h'' sb => ?_⟩
        have fC : FpOk X pins (upd H' D (.lst ys)) C := I1.fpOk (Nat.le_trans hsc (by rw [hC3, ← hD]; exact Nat.le_succ _)) (by rw [upd_ne hCD]; exact q10 C List.mem_cons_self)
        obtain ⟨f0, f1, f2, f3, f4, f5⟩ := fC
        exact ⟨.ref D, upd H' D (.lst ys), I2.turned (t' := s₁.toks) (fun b o hb e => (sb.2 b hb).trans e) f0 f1 f3 f4 f5, rfl, q9 D q5⟩
      · obtain ⟨hx, _⟩ := he
        obtain ⟨_, _, _, _, _, _, _, _, _, _, _, _, z⟩ := hx
        exact z.elim
    · refine ⟨.fresh c, #[], 0, fun _ => none, by rw [g4]; exact h5, ⟨rfl, ?_⟩, h4.keeps k14, h8.keeps k14, k34 _ _ hD3, n4⟩
      refine wake X.A.in1 D [C] (s4.setGen g .running) hr.in1 I1.ok.frames (Nat.le_of_eq hD) (fun b hb => ?_) k14 ⟨0, k34 _ _ hD3⟩ (o4.trans h6) (allBare_setGen (by rw [g4]; exact h7) rfl)
      rw [List.mem_singleton.mp hb]
      obtain ⟨o, es, ep, e, ed, _⟩ := n4
      exact ⟨by rw [hC3, ← hD]; exact Nat.le_succ _, hCD, o, e, fun v z => by rw [ed] at z; cases z⟩
  exact codeAny_compStart_list loop (wpAny_pyIter_gen (h4.keeps k14) loop)
/-! ### the def, by its text -/
/-- n slots, m parameters; what is walked is a list -/
def GnK (S : Sta) (Q : List V → Hp → Prop) (x : V) (H1 : Hp) : Prop := ∃ l xs, x = .ref l ∧ RdS S H1 l (.lst xs) ∧ Q xs H1
def spGF (S : Sta) (n m : Nat) (t : XK → TE) : SpG := fun vs H Q E => vs.length = m ∧ t E (start n vs) H fun x H1 => GnK S Q x H1
theorem ok_bodyGen {P : Program} {w : World} {K : PySem.W.Frag} {mg : Str → Option Value} {base : Heap} {S : Sta} {x qual : Str} {st : Stmt} {f : Addr} {fd : FuncData} {N ps : List Str} {n m k : Nat} {t : XK → TE} {y : Str} {iy : Nat} {py pz yp yq pos : Pos} {iter : Expr}
    (s0 : S = SK K) (F : Fun K x qual st f fd) (Sc : GScope N ps (defScope st)) (hn : N.length = n) (hm : ps.length = m) (hbd : defBody st = forY y py pz yp yq pos iter)
    (hy : N[iy]? = some y) (hyl : (defScope st).names.lookup y = some .local) (hd : (y == ("__debug__" : Str)) = false) (hcd : (y == ("__classdict__" : Str)) = false) (hs : ∀ env x, foldedSetIterable iter env x = pure x)
    (h : ∀ (cdv : Value) (A : Around) (outer : List Env) (s : Shared) (H : Hp) (E : XK) (pn : List (Addr × Obj)), Room k (A.deeper (envOfC qual (defScope st) s.heap.objs.size f cdv)) → PE (gcxOf P w K mg base N qual (defScope st) f cdv A outer s H E pn) iter (t E)) :
    GFnW P w K mg base (k + 1) f fd ps (spGF S n m t) := by
  subst hn
  subst hm
  obtain ⟨oc, od, kV, doc, pm, an, cdv, ct, osl, rfl, lk, hcdv⟩ := F.ex
  rw [hbd] at lk ⊢
  refine gfnW_of lk hcdv Sc hy hyl hd hcd hs (fun vs H Q E q => q.1) fun A outer s H vs Q E pn hr q => ⟨mo (t E), pe_mo (h cdv A outer s H E pn hr), _, q.2, fun x H1 ⟨l, xs, e, hl, hq⟩ => ⟨l, xs, e, sqL s0 hl, hq⟩⟩
/-! ### for .. in reversed(xs) -/
def ForRv (S : Sta) (g : TG) (s1 : TS) (nx : L2.St → Hp → Prop) (rt : VK) (x : V) (σ : L2.St) (H : Hp) : Prop := ∃ a xs, x = .ref a ∧ ∃ Pv : Nat → L2.St → Hp → Prop, Pv 0 σ H ∧ (∀ i σ H, i ≤ xs.length → Pv i σ H → RdS S H a (.lst xs)) ∧
  (∀ i y σ H, xs.reverse[i]? = some y → Pv i σ H → g y σ H fun σ' H' => s1 ⟨Pv (i + 1), rt, nx, Pv (i + 1)⟩ σ' H') ∧ ∀ σ H, Pv xs.length σ H → nx σ H
def sForRv (S : Sta) (te : TE) (g : TG) (tb : TS) : TS := fun D σ H => te σ H fun x H1 => ForRv S g tb D.nx D.rt x σ H1
theorem ps_forRv {X : Cx} {S : Sta} {tg l : Expr} {te : TE} {g : TG} {tb : TS} {body : List Stmt} {pos p pos2 : Pos} (st : S = SK X.K) (hp : PassesOwn (model X.prog X.w) X.A X.env X.xe) (hc : X.calm = true) (hgl : Gl X "reversed") (hm : X.mg "reversed" = none) (hl : PE X l te) (hg : PG X tg g) (hb : PSs X body tb)
    (hs : starEach [l] X.env = (false, eval l X.env) :: starEach [] X.env := by rfl) (hs1 : starEach [l] X.env = [(false, eval l X.env)] := by rfl) (hs' : ∀ x, foldedSetIterable (.Call (.Name "reversed" p) [l] [] pos2) X.env x = pure x := by intro _; rfl) :
    PS X (.For tg (.Call (.Name "reversed" p) [l] [] pos2) body [] pos) (sForRv S te g tb) :=
  ps_imp (ps_for hp hc (pi_reversed hgl hm (pa_cons (pe_mo hl) pa_nil hs) hs1) hg hb hs') fun D σ H q => ⟨_, q, fun x H1 ⟨a, xs, e, Pv, h0, hst, ht, hd⟩ => by
    subst e
    refine ⟨a, xs, rfl, sqL st (hst 0 _ _ (Nat.zero_le _) h0), ?_⟩
    refine ⟨fun i m σ H => m = xs.length - i ∧ i ≤ xs.length ∧ Pv i σ H, ⟨xs.length, by simp, Nat.zero_le _, h0⟩, ?_⟩
    rintro i m σ H ⟨rfl, hi, p⟩
    have q := sqL st (hst i σ H hi p)
    by_cases hlt : i < xs.length
    · have ej : xs[xs.length - 1 - i]? = some (xs[xs.length - 1 - i]'(by omega)) := List.getElem?_eq_getElem _
      refine .inr ⟨⟨hlt, xs, _, q, ej⟩, Pv (i + 1), fun σ' H' p' => ⟨xs.length - (i + 1), by omega, rfl, hlt, p'⟩, fun x H' y => ?_⟩
      obtain ⟨e, y⟩ := y
      subst e
      have y := y xs q
      refine ht i x σ _ ?_ p
      rw [List.getElem?_reverse hlt]
      exact y
    · have e : i = xs.length := by omega
      subst e
      exact .inl ⟨Nat.le_refl _, hd σ H p⟩⟩
end Y

/-! A property that is set; records (dicts with written keys); defs that get the exception in hand; is of truth values. -/
namespace Y
open PySem PySem.Spec PyProof.Rows L2
/-! ### o.f = v, f a property with a setter -/
structure PropSet (K : PySem.W.Frag) (C : Addr) (f : Str) (p g : Addr) : Prop where
  tk : PySem.W.takerIn K C f = some (some (.ref p))
  ty : PySem.W.typeIn K (.ref p) = some (.type "property")
  rec_ : ∃ a rest, PySem.W.recIn K p "property" = some (a :: .ref g :: rest)
def sPropS (C : Addr) (sp : Sp) (E : XK) (te tv : TE) : TS := fun D σ H => tv σ H fun y H1 => te σ H1 fun x H2 => ∃ a dx fs, x = .ref a ∧ H2 a = some (.ins C dx fs) ∧ sp [.ref a, y] H2 (fun _ H3 => D.nx σ H3) E
theorem ps_propSet {X : Cx} {CX : CXT} {k : Nat} {C p g : Addr} {f : Str} {fd : FuncData} {ps : List Str} {sp : Sp} {E : XK} {o ev : Expr} {pos pos' : Pos} {te tv : TE} (he : PE X o te) (hv : PE X ev tv) (c : Cls X.K C) (hp : PropSet X.K C f p g) (F : FnOk X.prog X.w X.K X.mg X.base CX k g fd ps sp) (hr : Room (k + 2) X.A) (hb : Binds X.K fd ps []) (hx : Passes CX X E)
    (hs : swapsWith ev (some (.Attribute o f pos')) pos.line X.env = pure false := by rfl) : PS X (.Assign [.Attribute o f pos'] ev pos) (sPropS C sp E te tv) := by
  refine ⟨fun pins s σ H D I h => ?_⟩
  refine plainObj_wpAny_Assign_Attribute (thn (hv.run pins s σ H _ I h) fun u s1 ⟨y, H1, I1, ry, q⟩ => thn (he.run pins s1 σ H1 _ I1 q) fun ov s2 ⟨x, H2, I2, rx, a, dx, fs, ex, ea, q2⟩ => ?_) hs
  subst ex
  obtain rfl : ov = Value.ref a := rx
  obtain ⟨mA, O, _, _, _, _⟩ := ins_get I2.hok ea
  obtain ⟨od, J, _⟩ := O.look
  obtain ⟨a0, rest, hrec⟩ := hp.rec_
  have I3 := I2.tok (s2.toks + 1)
  have rv : Vals [V.ref a, y] [Value.ref a, u] := .cons rfl (.cons ry .nil)
  have hl : ([Value.ref a, u] ++ []).length = ps.length := by
    rw [← F.len _ _ _ _ q2]
    rfl
  have hbn := hb { s2 with toks := s2.toks + 1 } [.ref a, u] I3.kIn hl
  rw [List.append_nil] at hbn
  refine PySem.W.set_plain I2.kIn J c.sa (PySem.W.osa_descr (s := { s2 with toks := s2.toks + 1 }) PySem.W.KF.slot_pset I3.kIn J c.po hp.tk hp.ty (PySem.W.prop_set (s := { s2 with toks := s2.toks + 1 }) I3.kIn hrec ?_))
  refine codeAny_mono (F.run X.A.in1.in1 X.stack { s2 with toks := s2.toks + 1 } H2 ⟨[.ref a, u], []⟩ [.ref a, u] [.ref a, y] (fun _ H3 => D.nx σ H3) E (show Room (k + 1) X.A.in1 from Room.in1 hr).in1 I3.env0.in1.in1 hbn rv q2) fun r s' hq => ?_
  cases r with
  | error er => exact hx pins σ H2 _ er s' I3 hq
  | ok fl =>
    cases fl with
    | ret w =>
      obtain ⟨v, H', I4, _, q3⟩ := I3.after hq
      exact ⟨σ, H', I4, q3⟩
    | next => exact False.elim hq
    | brk => exact False.elim hq
    | cont => exact False.elim hq
/-! ### records -/
abbrev Kvs := List (Key × V)
def RecK (k : Str) (Q : VK) (x : V) (H1 : Hp) : Prop := ∃ a kvs v, x = .ref a ∧ H1 a = some (.dK kvs) ∧ valV kvs (.inr k) = some v ∧ Q v H1
def tRec (te : TE) (k : Str) : TE := fun σ H Q => te σ H fun x H1 => RecK k Q x H1
def RecP (k : Str) (v : V) (QH : Hp → Prop) (x : V) (H2 : Hp) : Prop := ∃ a kvs, x = .ref a ∧ H2 a = some (.dK kvs) ∧ kvs.length < 1000 ∧ QH (upd H2 a (.dK (putK kvs (.inr k) v)))
def sRecP (te : TE) (k : Str) (tv : TE) : TS := fun D σ H => tv σ H fun v H1 => te σ H1 fun x H2 => RecP k v (D.nx σ) x H2
def tRecs : List (Str × TE) → L2.St → Hp → (Kvs → Hp → Prop) → Prop
  | [], _, H, Q => Q [] H
  | (k, t) :: r, σ, H, Q => t σ H fun y H1 => tRecs r σ H1 fun kvs H2 => Q ((.inr k, y) :: kvs) H2
def RecF (p : Addr) (Q : VK) (kvs : Kvs) (H2 : Hp) : Prop := H2 p = some (.dK []) ∧ kvs.length ≤ 15 ∧ mergeK [] kvs = kvs ∧ Q (.ref p) (upd H2 p (.dK kvs))
def tRecN (l : List (Str × TE)) : TE := fun σ H Q => ∀ p, H p = none → tRecs l σ (upd H p (.dK [])) (RecF p Q)
section
variable {X : Cx} {o ev : Expr} {pos pos' p2 : Pos} {te tv : TE} {k : Str} {j : Nat}
theorem pe_rec (hu : X.A.units + 1 < cLine) (ho : PE X o te) : PE X (.Subscript o (.Constant (.str k) j p2) pos) (tRec te k) :=
  pe_imp (pe_dget hu (pe_mo ho) (pe_str (x := k)) fun _ _ => rfl) fun σ H Q q => ⟨_, q, fun x H1 ⟨a, kvs, v, e, ea, ev, q1⟩ => ⟨a, v, e, by
    rw [← ev]
    exact DGet.k (k := .inr k) ea, q1⟩⟩
theorem ps_rec (hu : X.A.units + 1 < cLine) (ho : PE X o te) (hv : PE X ev tv) (hs : swapsWith ev (some (.Subscript o (.Constant (.str k) j p2) pos')) pos.line X.env = pure false := by rfl) : PS X (.Assign [.Subscript o (.Constant (.str k) j p2) pos'] ev pos) (sRecP te k tv) :=
  ps_imp (ps_dput hu (pe_mo ho) (pe_str (x := k)) (pe_mo hv) hs) fun D σ H q => ⟨_, q, fun v H1 q1 => ⟨_, q1, fun x H2 ⟨a, kvs, e, ea, hl, q2⟩ => ⟨a, _, e, DPut.k (k := .inr k) ea (by rw [sizeLine_eq]; omega), q2⟩⟩⟩
theorem tRecs_eq {σ : L2.St} : ∀ (l : List (Str × TE)) (H : Hp) (Q : List (V × V) → Hp → Prop), tPairs (l.map fun p => (tC (.str p.1), p.2)) σ H Q = tRecs l σ H fun kvs H' => Q (kvs.map fun kv => (kV kv.1, kv.2)) H'
  | [], _, _ => rfl
  | (k, t) :: r, H, Q => by
    show (t σ H fun y H2 => tPairs (r.map fun p => (tC (.str p.1), p.2)) σ H2 fun ps H3 => Q ((.str k, y) :: ps) H3) = t σ H fun y H1 => tRecs r σ H1 fun kvs H2 => Q ((.str k, y) :: kvs.map fun kv => (kV kv.1, kv.2)) H2
    congr 1
    funext y H1
    exact tRecs_eq r H1 fun ps H3 => Q ((.str k, y) :: ps) H3
theorem tRecs_mo {σ : L2.St} : ∀ {l : List (Str × TE)} {H : Hp} {Q Q' : Kvs → Hp → Prop}, tRecs l σ H Q → (∀ kvs H', Q kvs H' → Q' kvs H') → tRecs (l.map fun p => (p.1, mo p.2)) σ H Q'
  | [], _, _, _, h, k => k _ _ h
  | (_, _) :: _, _, _, _, h, k => ⟨_, h, fun y H1 h1 => tRecs_mo h1 fun kvs H' q => k _ H' q⟩
theorem pe_recN {keys : List (Option Expr)} {values : List Expr} {l : List (Str × TE)} (h : PPs X pos keys values (l.map fun p => (tC (.str p.1), mo p.2))) (hall : keys.all (·.isSome) = true) (hl : keys.length = values.length) (h0 : keys ≠ []) (h15 : keys.length ≤ 15) : PE X (.Dict keys values pos) (tRecN l) := by
  refine ⟨fun pins s σ H Q I q => ?_⟩
  refine (pe_disp h hall hl h0 h15).run pins s σ H Q I fun p hp => ?_
  have e : (l.map fun p => (tC (.str p.1), mo p.2)) = (l.map fun p => (p.1, mo p.2)).map fun p => (tC (.str p.1), p.2) := by rw [List.map_map]; rfl
  rw [e, tRecs_eq]
  exact tRecs_mo (q p hp) fun kvs H' ⟨q1, q2, q3, q4⟩ => ⟨q1, kvs, rfl, q2, by rw [q3]; exact q4⟩
theorem merge_of {kvs : Kvs} (h : (kvs.map (·.1)).Nodup) : mergeK [] kvs = kvs := by
  have key : ∀ (more acc : Kvs), ((acc ++ more).map (·.1)).Nodup → mergeK acc more = acc ++ more := by
    intro more
    induction more with
    | nil => intro acc _; exact (List.append_nil _).symm
    | cons p r ih =>
      intro acc h
      show mergeK (putK acc p.1 p.2) r = _
      have hn : (acc.any fun kv => decide (kv.1 = p.1)) = false := by
        rw [List.any_eq_false]
        intro kv m
        rw [decide_eq_true_eq]
        intro e
        rw [List.map_append, List.nodup_append] at h
        exact h.2.2 kv.1 (List.mem_map.mpr ⟨kv, m, rfl⟩) p.1 (List.mem_map.mpr ⟨p, List.mem_cons_self, rfl⟩) e
      unfold putK
      rw [hn, if_neg Bool.false_ne_true, ih (acc ++ [p]) (by rw [List.append_assoc]; exact h), List.append_assoc]
      rfl
  exact key kvs [] h
end
/-! ### is, of truth values -/
def rIsB : R2 := fun x y H Q => rIs x y H Q ∨ ∃ a b, x = .bl a ∧ y = .bl b ∧ Q (.bl (decide (a = b))) H
theorem o_isB {X : Cx} : OpR X (compareOp .Is) rIsB := fun pins s σ H x y u v Q I rx ry h => h.elim (fun h => o_is pins s σ H x y u v Q I rx ry h) fun h => op_is_bl pins s σ H x y u v Q I rx ry h
/-! ### a def that gets the exception in hand, called in an except suite -/
structure FnX (P : Program) (w : World) (K : PySem.W.Frag) (mg : Str → Option Value) (base : Heap) (CX : CXT) (k : Nat) (f : Addr) (fd : FuncData) (ps : List Str) (sp : Addr → Value → Option Addr → Sp) : Prop where
  ln : ∀ b cls d vs H Q E, sp b cls d vs H Q E → vs.length = ps.length
  go : ∀ (A : Around) (fs : List Env) (s : Shared) (H : Hp) (ar : Args) (us : List Value) (vs : List V) (Q : VK) (E : XK) (p : Addr × Obj) (cls : Value) (d : Option Addr), L2H.RoomH k A → L2H.PinOk fs H s p → Zc cls d p.2 → (∃ ws, p.2.data = .fields ws) → Env0 P w K mg base A fs s H → BindsTo s fd ar (ps.zip us) → Vals vs us → sp p.1 cls d vs H Q E → codeAny (model P w) A (.call (.ref f) ar) (CR CX fs P w H s Q E) s
theorem ok_bodyX {P : Program} {w : World} {K : PySem.W.Frag} {mg : Str → Option Value} {base : Heap} {x qual : Str} {st : Stmt} {f : Addr} {fd : FuncData} {N ps : List Str} {n m k : Nat} {t : Addr → Value → Option Addr → XK → TS} (F : Fun K x qual st f fd) (S : FnScope N ps (defScope st)) (hn : N.length = n) (hm : ps.length = m)
    (h : ∀ (cdv : Value) (A : Around) (outer : List Env) (s : Shared) (H : Hp) (E : XK) (p : Addr × Obj) (cls : Value) (d : Option Addr), L2H.RoomH k (A.deeper (envOfC qual (defScope st) s.heap.objs.size f cdv)) → Zc cls d p.2 → (∃ ws, p.2.data = .fields ws) → PSs (L2H.cxH (L2.CX P w) P w K mg base N qual (defScope st) f cdv A outer s H E p) (defBody st) (t p.1 cls d E)) : FnX P w K mg base (L2.CX P w) (k + 1) f fd ps fun b cls d => spB n m (t b cls d) := by
  subst hn hm
  obtain ⟨oc, od, kV, doc, pm, an, cdv, ct, osl, e, lk, hcd⟩ := F.ex
  subst e
  refine ⟨fun b cls d vs H Q E q => q.1, fun A fs s H ar us vs Q E p cls d hr hpin hz hf e0 hb rv hsp => ?_⟩
  have kX : K.In s.heap := e0.mod.kin.keeps fun b o z => (e0.bs b o z).1
  have nl : s.heap.NoLimit := e0.mod.nolimit.keeps fun b o z => (e0.bs b o z).1
  refine codeAny_call_function hr.depth (kX _ _ lk) rfl S.co S.gen rfl (PySem.W.codeRec_of kX hcd) (hb _ _ _ _ (wpAny_newFunctionEnv_cells S.kind ?_ ?_))
  · rintro ⟨n, v⟩ hy
    rcases S.par n (List.of_mem_zip hy).1 with z | z
    · exact Or.inl z
    · exact Or.inr ⟨z, PySem.W.cellsFrom_some _ _ _ (Or.inl z)⟩
  · intro env he s1 ic
    cases he
    refine ⟨nl.keeps ic.toInCall.keep, codeAny_func ?_⟩
    have J : Inv (L2H.cxH (L2.CX P w) P w K mg base N qual (defScope st) f cdv A fs s H E p) [] (L2.start N vs) H s1 := L2H.inv_startH S hpin e0 hsp.1 rv ic
    refine wpAny_mono ((h cdv A fs s H E p cls d (hr.deeper _) hz hf).run [] s1 (L2.start N vs) H { nx := fun _ H' => Q .non H', rt := Q } J hsp.2) ?_ (fun _ _ z => z)
    intro fl s' hs
    match fl, hs with
    | .ret u, ⟨v, σ', H', J', r', q'⟩ => exact ⟨v, H', J'.os, J'.bare, J'.base, J'.hok, r', q'⟩
    | .next, ⟨σ', H', J', q'⟩ => exact ⟨V.non, H', J'.os, J'.bare, J'.base, J'.hok, rfl, q'⟩
    | .brk, ⟨_, _, _, q'⟩ => exact q'.elim
    | .cont, ⟨_, _, _, q'⟩ => exact q'.elim
theorem pe_callX {X : Cx} {CX : CXT} {k : Nat} {f b : Addr} {oe : Obj} {cls : Value} {d : Option Addr} {fd : FuncData} {ps : List Str} {sp : Addr → Value → Option Addr → Sp} {E : XK} {x : Str} {p pos : Pos} {e : Expr} {es : List Expr} {t : TA} (F : FnX X.prog X.w X.K X.mg X.base CX k f fd ps sp) (hr : L2H.RoomH k X.A) (hp : (b, oe) ∈ X.pn) (hz : Zc cls d oe) (hf : ∃ ws, oe.data = .fields ws) (hg : Gl X x) (hm : X.mg x = some (.ref f)) (hk : PySem.W.keepIn X.K (.ref f) = true) (hb : Binds X.K fd ps []) (hx : Passes CX X E) (ha : PA X (e :: es) t)
    (hdb : (x == ("__debug__" : Str)) = false := by decide) (he : starEach (e :: es) X.env = (false, eval e X.env) :: starEach es X.env := by rfl) (hpl : (backTo pos (starEach es X.env)).any (·.1) = false := by rfl) : PE X (.Call (.Name x p) (e :: es) [] pos) (tCall (sp b cls d) [] E t) := by
  constructor
  intro pins s σ H Q J h
  refine wpAny_Call_Name_kw (ld_glob J hg hm (PySem.W.callWith_K (h₀ := X.base) J.ok.mod.kin hk (thn (ha.run pos pins s σ H _ J h) ?_) he hpl) hdb)
  rintro us s1 ⟨vs, H1, J1, rv, q⟩
  rw [List.append_nil] at q
  refine ⟨J1.kIn, ?_⟩
  have ll : (us ++ []).length = ps.length := by rw [List.append_nil, ← rv.length, F.ln _ _ _ _ _ _ _ q]
  have hb1 := hb s1 us J1.kIn ll
  rw [List.append_nil] at hb1
  have P1 := J1.pin (b, oe) (List.mem_append_left _ hp)
  refine wpAny_call (codeAny_mono (F.go X.A X.stack s1 H1 ⟨us, []⟩ us vs Q E (b, oe) cls d hr ⟨P1.1, P1.2.1, fun hm => (List.mem_cons.mp (J1.stkSub b hm)).elim P1.2.2.1 P1.2.2.2.1, P1.2.2.2.2⟩ hz hf J1.env0 hb1 rv q) ?_)
  intro r s' z
  match r, z with
  | .error e', z => exact hx pins σ H1 s1 e' s' J1 z
  | .ok (.ret u), z => exact J1.after z
theorem units1 {A : Around} (h : A.units + 64 < cLine) : A.units + 1 < cLine := by omega
theorem c_isXH {X : Cx} {a : Addr} {oe : Obj} {cls : Value} {d : Option Addr} {tbl : List (Value × V × Bool)} (hp : (a, oe) ∈ X.pn) (T : ∀ p ∈ tbl, IsOk X.K p.1 p.2.1 p.2.2) (hz : Zc cls d oe) (hf : ∃ vs, oe.data = .fields vs) :
    CallR X (.builtin "isinstance") (rIsX tbl a cls d) := by
  intro pins s σ H xs us Q I r h
  rcases h with ⟨c, b, rfl, m, ⟨dd, fs, ed, ea⟩, q⟩ | h
  · obtain ⟨D, cv, ec, C, hcv, e⟩ := (T _ m).ex
    cases r with
    | cons rx rr =>
      cases rr with
      | cons rt rr =>
        cases rr
        obtain rfl := hcv _ rt
        cases rx
        obtain ⟨vs, hv⟩ := hf
        have hget := (I.pin (a, oe) (List.mem_append_left _ hp)).1
        have ho : ObjOk X.prog X.w H s.heap dd (.xd fs) := I.hok dd _ ea
        obtain ⟨mA, ⟨od, es, ep, ho, _⟩, _⟩ := ho
        have J : PySem.W.InstAt s.heap a oe D (some od) := ⟨hget, by rw [hz.1]; exact ec, by unfold PySem.W.notCls; rw [hv] <;> rfl, by rw [hz.2, ed]; exact ho⟩
        have hcl : (PySem.W.clsIn X.K D).isSome = true := by
          obtain ⟨cd, hc, _⟩ := PySem.W.any_some C.hd
          rw [hc]
          rfl
        exact PySem.W.kia_one (PySem.W.kitx_exc hcl C.hg C.hk C.hs C.ha C.hn C.ht C.hm) I.kIn J e (fun z => nomatch z) fun tk => ⟨.bl b, H, I.kept (t' := tk) fun _ _ z => z, rfl, q⟩
  · exact c_isi pins s σ H xs us Q I r h
end Y

/-! Dicts: len, list. -/
namespace Y
open PySem PySem.Spec PyProof.Rows L2
def rLenD (xs : List V) (H : Hp) (Q : VK) : Prop := ∃ a kvs, xs = [V.ref a] ∧ H a = some (.dK kvs) ∧ Q (.int (kvs.length : Nat)) H
theorem c_lenD {X : Cx} : CallR X (.builtin "len") rLenD := call_lenD
def rListD (xs : List V) (H : Hp) (Q : VK) : Prop := ∃ (a : Addr) (kvs : List (Key × V)), xs = [V.ref a] ∧ H a = some (.dK kvs) ∧ ∀ p, H p = none → Q (.ref p) (upd H p (.lst (kvs.map fun kv => kV kv.1)))
theorem c_listD {X : Cx} (hc : X.calm = true) : CallR X (.type "list") rListD := call_imp (call_listD hc) fun xs H Q ⟨a, kvs, e, h, q⟩ => ⟨a, kvs, e, .inl h, q⟩
/-! in, of data of any depth -/
def rInDt (S : Sta) (neg : Bool) : R2 := fun x y H Q => rInA S neg x y H Q ∨ ∃ d ds, DpS S H x d ∧ DpS S H y (.list ds) ∧ SeqAt.shaped d = true ∧ SeqAt.shaped (.list ds) = true ∧ Q (.bl (if neg then !ds.any fun z => PyData.eqv z d else ds.any fun z => PyData.eqv z d)) H
theorem u65 {k : Nat} {A : Around} (r : Room k A) : A.units + 65 < cLine := by have := r.un; omega
theorem o_inDt {X : Cx} {S : Sta} (st : S = SK X.K) (hu : X.A.units + 65 < cLine) : OpR X (compareOp .In) (rInDt S false) := op_imp (op_or (o_inA st) (op_inD hu)) fun x y H Q q => q.elim .inl fun ⟨d, ds, h1, h2, s1, s2, q⟩ => .inr ⟨d, ds, h1.dp st, h2.dp st, s1, s2, q⟩
theorem o_notInDt {X : Cx} {S : Sta} (st : S = SK X.K) (hu : X.A.units + 65 < cLine) : OpR X (compareOp .NotIn) (rInDt S true) := op_imp (op_or (o_notInA st) (op_notInD hu)) fun x y H Q q => q.elim .inl fun ⟨d, ds, h1, h2, s1, s2, q⟩ => .inr ⟨d, ds, h1.dp st, h2.dp st, s1, s2, q⟩
/-! is not, of truth values -/
def rIsNotB : R2 := fun x y H Q => rIsNot x y H Q ∨ ∃ a b, x = .bl a ∧ y = .bl b ∧ Q (.bl (!decide (a = b))) H
theorem o_isnotB {X : Cx} : OpR X (compareOp .IsNot) rIsNotB := fun pins s σ H x y u v Q I rx ry h => h.elim (fun h => o_isnot pins s σ H x y u v Q I rx ry h) fun h => op_isnot_bl pins s σ H x y u v Q I rx ry h
end Y

/-! sorted(xs, key=lambda x: ..): the lambda made, called for each item, the new list. -/
namespace Y
open PySem PySem.Spec PyProof.Rows L2
/-- P's table tells code objects of cs alone, which bear the name q -/
def TabC (H : Hp) (P : Addr) (q : Str) (cs : List Addr) : Prop :=
  (∃ ps : Array Value, H P = some (.tbl ps) ∧ TriplesOk ps.toList ∧ ∀ (pos : Pos) (cv : Value), codeAmong pos ps.toList = some cv → ∃ c ∈ cs, cv = .ref c) ∧ ∀ c ∈ cs, H c = some (LamX.CodeO c q)
/-- nothing happened, or P's table has one more code object, a new one -/
def Grew (P : Addr) (q : Str) (H H1 : Hp) : Prop :=
  H1 = H ∨ ∃ (ps ps' : Array Value) (c : Addr), H P = some (.tbl ps) ∧ H c = none ∧ H1 = upd (upd H P (.tbl ps')) c (LamX.CodeO c q) ∧ TriplesOk ps'.toList ∧
    ∀ (pos : Pos) (cv : Value), codeAmong pos ps'.toList = some cv → codeAmong pos ps.toList = some cv ∨ cv = .ref c
theorem Grew.non {P : Addr} {q : Str} {H H1 : Hp} (g : Grew P q H H1) {a : Addr} {o : HO} (h : H a = some o) (n : ∀ ps, o ≠ .tbl ps) : H1 a = some o := by
  rcases g with e | ⟨ps, ps', c, hP, hc, e, _, _⟩
  · rw [e]; exact h
  · rw [e, upd_ne (ne_of_none h hc), upd_ne (fun z => by subst z; rw [hP] at h; exact n _ (Option.some.inj h).symm)]
    exact h
/-- the lambda's names: one parameter, captured names, globals -/
structure LamP (sc scope : Scope) (x : Str) : Prop where
  kind : scope.kind = .function
  co : scope.isCoroutine = false
  gen : scope.isGenerator = false
  par : scope.names.lookup x = some .local
  noc : ∀ y ∈ scope.names, y.2 ≠ .cell
  free : ∀ y ∈ scope.names, y.2 = .free → sc.names.lookup y.1 = some .cell ∨ sc.names.lookup y.1 = some .free
def lamPB (sc scope : Scope) (x : Str) : Bool :=
  decide (scope.kind = .function) && (!scope.isCoroutine && (!scope.isGenerator && (decide (scope.names.lookup x = some .local) && scope.names.all fun y => !decide (y.2 = .cell) && (!decide (y.2 = .free) || (decide (sc.names.lookup y.1 = some .cell) || decide (sc.names.lookup y.1 = some .free))))))
theorem lamP_by {sc scope : Scope} {x : Str} (h : lamPB sc scope x = true) : LamP sc scope x := by
  unfold lamPB at h
  simp only [Bool.and_eq_true, Bool.or_eq_true, Bool.not_eq_true', decide_eq_true_eq, decide_eq_false_iff_not, List.all_eq_true] at h
  obtain ⟨h1, h2, h3, h4, h5⟩ := h
  exact ⟨h1, h2, h3, h4, fun y hy => (h5 y hy).1, fun y hy e => (h5 y hy).2.elim (fun n => absurd e n) id⟩
abbrev lamE (X : Cx) (scope : Scope) (L f c' : Addr) : Env := PySem.W.envX (X.env.qual ++ "<lambda>") scope L f (.ref c') (cloFrom X.env.cells scope.names [])
section
variable {X : Cx} {pins : List (Addr × Obj)} {σ : L2.St} {H : Hp} {s : Shared} {c P f c' : Addr} {params : Arguments} {body : Expr} {scope : Scope} {pos : Pos} {x : Str}
theorem LamP.has (L : LamP X.env.scope scope x) (ok : X.Ok) : ∀ y ∈ scope.names, y.2 = .free → ∃ c, X.env.cells.lookup y.1 = some c := fun y hy e => by
  rcases L.free y hy e with k | k
  · exact ok.has _ (.inl k)
  · exact ok.has _ (.inr k)
/-- the lambda is made -/
theorem lam_made {cs : List Addr} {E : Value → Shared → Prop} {Q : Value → Shared → Prop} (I : Inv X pins σ H s) (TB : LamX.TabB X.base X.mg c P) (hcode : X.env.code = .ref c) (hT : TabC H P (X.env.qual ++ "<lambda>") cs) (L : LamP X.env.scope scope x)
    (hdef : defaultsOf params X.env = ([], []))
    (h : ∀ (f c' : Addr) (pm ctv : Value) (H1 : Hp) (s' : Shared), Inv X pins σ H1 s' → Grew P (X.env.qual ++ "<lambda>") H H1 →
      s'.heap.get? f = some (PySem.W.kla_obj "<lambda>" (X.env.qual ++ "<lambda>") params body scope (cloFrom X.env.cells scope.names []) pm c' ctv) → H1 c' = some (LamX.CodeO c' (X.env.qual ++ "<lambda>")) → Q (.ref f) s') :
    wpAny (model X.prog X.w) X.A (eval (.Lambda params body scope pos) X.env) Q E s := by
  obtain ⟨⟨ps, tP, tk, told⟩, codes⟩ := hT
  have main := I.mod.glob.keeps I.bk
  have clo := closure_ok (L.has I.ok)
  have hd := TB.code.keeps I.bk
  have bt : s.heap.BuiltinsAt X.mg P := TB.bm.keeps I.bk
  have obP : s.heap.get? P = some { cls := .none, data := .fields ps } := I.hok P _ tP
  apply PySem.W.kla_eval hdef
  rcases hc : codeAmong pos ps.toList with _ | cv
  · refine PySem.W.kla_makeFunction (mg := X.mg) (c := c) (P := P) (ps := ps) clo I.ok.glob main hcode hd obP tk hc TB.gP bt fun c' ctv h' t ext ge lt rec tab => ?_
    obtain ⟨c2, oc, vs, tq, e2, ho, hdat, hv⟩ := rec
    cases e2
    have new : H c' = none := I.hok.fresh ge
    have app : (ps ++ #[rawInt pos.line, rawInt pos.col, .ref c']).toList = ps.toList ++ [rawInt pos.line, rawInt pos.col, .ref c'] := by simp
    have J := LamX.inv_table (t' := t) (more := #[rawInt pos.line, rawInt pos.col, .ref c']) (h' := h'.push (PySem.W.kla_obj "<lambda>" (X.env.qual ++ "<lambda>") params body scope (cloFrom X.env.cells scope.names []) ((X.mg "__name__").getD .none) c' ctv)) I tP
      (fun b o hb e => Heap.get?_push_of_some _ (ext b o hb e)) (Heap.get?_push_of_some _ tab) ge ⟨oc, vs, tq, Heap.get?_push_of_some _ ho, hdat, hv⟩
    refine h h'.objs.size c' _ ctv _ _ J (.inr ⟨ps, _, c', tP, new, rfl, ?_, fun p cv e => ?_⟩) (Heap.get?_push_size _ rfl) upd_same
    · rw [app]; exact PySem.TriplesOk_snoc _ _ _ _ tk
    · rw [app] at e; exact LamX.among_app _ tk e
  · obtain ⟨c', m, e⟩ := told pos cv hc
    subst e
    refine PySem.W.kla_makeFunctionHit (mg := X.mg) (c := c) (P := P) (ps := ps) clo I.ok.glob main hcode hd obP tk hc bt fun ctv h' t ext sz => ?_
    exact h h'.objs.size c' _ ctv H _ (I.kept fun b o e => Heap.get?_push_of_some _ (ext b o e)) (.inl rfl) (Heap.get?_push_size _ rfl) (codes c' m)
/-- the lambda is called with v: k, and all stays -/
theorem lam_turn {A : Around} {v : Value} {k : PyData} {pm ctv : Value} (I : Inv X pins σ H s) (hd : A.depth < recursionLimit)
    (hf : s.heap.get? f = some (PySem.W.kla_obj "<lambda>" (X.env.qual ++ "<lambda>") params body scope (cloFrom X.env.cells scope.names []) pm c' ctv)) (hc : H c' = some (LamX.CodeO c' (X.env.qual ++ "<lambda>")))
    (L : LamP X.env.scope scope x) (hbind : bindArgs (PySem.W.kla_fn "<lambda>" (X.env.qual ++ "<lambda>") params body scope (cloFrom X.env.cells scope.names []) pm (.ref c') ctv) ⟨[v], []⟩ = pure [(x, v)])
    (hbody : ∀ (h₁ : Heap) (tk : Nat) (Lo : Addr), h₁.Ns Lo (fun y => [(x, v)].reverse.lookup y) → (∀ b o, s.heap.get? b = some o → h₁.get? b = some o) →
      wpAny (model X.prog X.w) (A.deeper (lamE X scope Lo f c')) (eval body (lamE X scope Lo f c')) (PySem.W.KeyPure k { s with heap := h₁, toks := tk }) (fun _ _ => False) { s with heap := h₁, toks := tk }) :
    wpAny (model X.prog X.w) A (call (.ref f) [v]) (PySem.W.KeyPure k s) (fun _ _ => False) s := by
  obtain ⟨⟨oc, vs, t, ho, hdat, hv⟩, _, _⟩ := I.hok c' _ hc
  refine wpAny_call (PySem.W.kla_callFunE hd hf rfl L.co L.gen rfl ⟨c', oc, vs, t, rfl, ho, hdat, hv⟩ ?_)
  rw [hbind]
  refine wpAny_pure (wpAny_newFunctionEnv L.noc (fun y hy => ?_) (fun h₁ hns hsb => ⟨I.nolimit.fresh _ hsb, ?_⟩) L.kind)
  · have e : y = (x, v) := by simpa using hy
    rw [e]
    exact L.par
  · show codeAny _ _ (.expr body (lamE X scope s.heap.objs.size f c')) _ _
    have kp : ∀ b o, s.heap.get? b = some o → h₁.get? b = some o := fun b o e => hsb.extBut b o (Nat.ne_of_lt (Heap.lt_size e)) (Heap.get?_push_of_some _ e)
    refine PySem.W.kla_codeExpr (wpAny_mono (hbody h₁ _ s.heap.objs.size hns kp) (fun u s' hq => ?_) fun e s' hq => hq.elim)
    obtain ⟨h', tk, e, st, r⟩ := hq
    exact ⟨h', tk, e, fun b o q => st b o (kp b o q), r⟩

/-! ### the body: what it makes of an item -/
/-- body, entered with the item v (a value of x), ends with the whole number n and keeps all -/
def BodyK (X : Cx) (scope : Scope) (body : Expr) (x : Str) (kt : L2.St → Hp → V → Int → Prop) : Prop :=
  ∀ (pins : List (Addr × Obj)) (s : Shared) (σ : L2.St) (H : Hp) (A : Around) (f c' Lo : Addr) (v : Value) (y : V) (n : Int), Inv X pins σ H s → RelV y v → kt σ H y n → A.units + 100 < cLine →
    s.heap.Ns Lo (fun z => [(x, v)].reverse.lookup z) → wpAny (model X.prog X.w) A (eval body (lamE X scope Lo f c')) (PySem.W.KeyPure (.int n) s) (fun _ _ => False) s
theorem each_of_vals : ∀ {xs : List V} {us : List Value}, Vals xs us → PySem.W.EachIs (fun u x => RelV x u) us xs
  | _, _, .nil => .nil
  | _, _, .cons r t => .cons r (each_of_vals t)
theorem vals_of_each : ∀ {xs : List V} {us : List Value}, PySem.W.EachIs (fun u x => RelV x u) us xs → Vals xs us
  | _, _, .nil => .nil
  | _, _, .cons r t => .cons r (vals_of_each t)
theorem Grew.rd {P : Addr} {q : Str} {H H1 : Hp} (g : Grew P q H H1) {a : Addr} {o : HO} (h : Rd H a o) (n : ∀ ps, o ≠ .tbl ps) : Rd H1 a o := by
  rcases h with h | ⟨u, h⟩
  · exact .inl (g.non h n)
  · exact .inr ⟨u, g.non h fun _ z => by cases z⟩
theorem Grew.sqL {K : PySem.W.Frag} {P : Addr} {q : Str} {H H1 : Hp} (g : Grew P q H H1) {a : Addr} {xs : List V} (h : SqL K H a xs) : SqL K H1 a xs := h.imp (fun h => g.rd h fun _ z => by cases z) id
theorem Grew.sqT {K : PySem.W.Frag} {P : Addr} {q : Str} {H H1 : Hp} (g : Grew P q H H1) {a : Addr} {xs : List V} (h : SqT K H a xs) : SqT K H1 a xs := h.imp (fun h => g.rd h fun _ z => by cases z) id
/-- sorted(xs, key=lambda x: body) -/
def tSortL (K : PySem.W.Frag) (P : Addr) (q : Str) (kt : L2.St → Hp → V → Int → Prop) (t : TA) : TE := fun σ H Q => t σ H fun vs H1 =>
  ∃ (a : Addr) (xs : List V) (k : V → Int) (cs : List Addr), vs = [.ref a] ∧ SqL K H1 a xs ∧ TabC H1 P q cs ∧ (∀ x ∈ xs, kt σ H1 x (k x)) ∧
    ∀ H2, Grew P q H1 H2 → ∀ p, H2 p = none → Q (.ref p) (upd H2 p (.lst (xs.mergeSort fun x y => decide (k x ≤ k y))))
theorem pe_sortL {k : Nat} {e : Expr} {t : TA} {kt : L2.St → Hp → V → Int → Prop} {p lpos kpos pos : Pos} (hr : Room k X.A) (hg : Gl X "sorted") (hm : X.mg "sorted" = none) (ha : PA X [e] t)
    (TB : LamX.TabB X.base X.mg c P) (hcode : X.env.code = .ref c) (L : LamP X.env.scope scope x) (hdef : defaultsOf params X.env = ([], []))
    (hbind : ∀ (pm ctv cdv : Value) (cl : List (Str × Addr)) (v : Value), bindArgs (PySem.W.kla_fn "<lambda>" (X.env.qual ++ "<lambda>") params body scope cl pm cdv ctv) ⟨[v], []⟩ = pure [(x, v)])
    (hb : BodyK X scope body x kt) (hs : ∀ {P q H H1 σ x n}, Grew P q H H1 → kt σ H x n → kt σ H1 x n)
    (he : backTo pos (starEach [e] X.env) = (false, eval e X.env) :: backTo pos (starEach [] X.env) := by rfl) (hpl : (backTo pos (starEach [e] X.env)).any (·.1) = false := by rfl) :
    PE X (.Call (.Name "sorted" p) [e] [⟨some "key", .Lambda params body scope lpos, kpos⟩] pos) (tSortL X.K P (X.env.qual ++ "<lambda>") kt t) := by
  refine ⟨fun pins s σ H Q I h => ?_⟩
  refine wpAny_Call_Name_kw (ld_blt I hg hm (u := .builtin "sorted") rfl ?_)
  refine PyProof.Rows.callWith_kw (thn (ha.run pos pins s σ H _ I h) fun us s1 ⟨vs, H1, I1, r1, q1⟩ => ?_) he hpl rfl rfl
  obtain ⟨a, xs, k, cs, rfl, sq, tab, kts, q⟩ := q1
  obtain rfl := Vals.ref1 r1
  show wpAny _ _ (evalAll ((do let v ← eval (.Lambda params body scope lpos) X.env; standAt pos; pure v) :: [])) _ _ s1
  refine wpAny_evalAll_cons (wpAny_bind (lam_made I1 TB hcode tab L hdef fun f c' pm ctv H2 s2 I2 g of oc => wpAny_bind (wpAny_standAt (wpAny_pure (wpAny_evalAll_nil ?_)))))
  show wpAny _ _ (call (.builtin "sorted") [.ref a] [(Str.ofString "key", .ref f)]) _ _ s2
  obtain ⟨its, rv, pl, hz⟩ := I2.list (g.sqL sq)
  refine PySem.W.sorted_key_data (β := V) (b := false) (R := fun u x => RelV x u) (fun x => PyData.int (k x)) pl.isList (each_of_vals rv) (PySem.W.AllAlike.of fun _ _ => by simp [PySem.W.alike]) (PySem.W.Sortable.others fun _ => ⟨by simp, by simp⟩) hz (fun x _ => ?_) (ksk_s1 _ _) (fun _ => ksk_l1 _ _) (fun _ => ksk_t1 _ _)
    (fun v y ry my h tk kp => ?_) fun out cc h' tk kp _ hD hlen eo => ?_
  · have := hr.un
    simp only [PyData.depth]
    omega
  · have I3 := I2.kept (t' := tk) kp
    refine lam_turn I3 (by have := hr.dp; show X.A.depth < _; omega) (kp _ _ of) oc L (hbind _ _ _ _ _) fun h₁ tk1 Lo ns kp1 => ?_
    exact hb pins _ σ H2 _ f c' Lo v y (k y) (I3.kept (t' := tk1) kp1) ry (hs g (kts y my)) (by have := hr.un; show X.A.units + 1 + 1 + 3 + 100 < _; omega) ns
  · rw [PySem.W.dataLe_int k] at eo
    have vo := vals_of_each eo
    refine ⟨.ref _, upd H2 (s2.heap.objs.size + 1) (.lst (xs.mergeSort fun x y => decide (k x ≤ k y))), I2.laid (t' := tk) kp (Nat.le_succ _) ⟨by rw [List.length_mergeSort]; exact hz, out, cc, vo, hD⟩, rfl, q H2 g _ (I2.hok.fresh (Nat.le_succ _))⟩
/-- x[i], of a tuple -/
theorem body_row {i : Int} {j : Nat} {p1 p2 p3 : Pos} (hk : scope.kind = .function) (hx : scope.names.lookup x = some .local) (hd : (x == ("__debug__" : Str)) = false := by decide) (hs : PlainIx (.Constant (.int i) j p2) := by intro _ _; rfl) :
    BodyK X scope (.Subscript (.Name x p1) (.Constant (.int i) j p2) p3) x (fun _ H y n => ∃ t ys, y = .ref t ∧ SqT X.K H t ys ∧ atI ys i = some (.int n)) := by
  intro pins s σ H A f c' Lo v y n I ry ⟨t, ys, ey, sq, at_⟩ hu ns
  subst ey
  obtain rfl : v = Value.ref t := ry
  obtain ⟨its, r, pl, hz⟩ := I.tuple sq
  obtain ⟨jj, h1, h2, h3, h4, h5⟩ := atI_get at_
  obtain ⟨w, ew, rw'⟩ := r.get h2
  obtain ⟨tw, rfl⟩ := rw'
  have hl := r.length
  have hn := line63
  refine Subscript_ (wpAny_Name (wpAny_loadName_local (env := lamE X scope Lo f c') hk hx ns (v := .ref t) (by simp) (wpAny_Constant_int ?_)) hd)
  refine subscriptTail_builtinR (x := .int n tw) pl.typeIs slot_tuple_getitem.lookup
    (getItem_tuple (j := jj) (Q := fun r s' => r = .int n tw ∧ PySem.W.KeyPure (.int n) s r s') pl (by omega) (by omega) (by rw [List.size_toArray, ← hl]; exact h1) (by simpa using ew) ⟨rfl, _, _, rfl, fun _ _ e => e, .int _ _⟩) (hs _ _)
/-- o.f[x], o captured, o.f a dict -/
theorem body_fld {i : Nat} {z fl : Str} {p1 p2 p3 p4 : Pos} (hk : scope.kind = .function) (hx : scope.names.lookup x = some .local) (hz : scope.names.lookup z = some .free) (L : LamP X.env.scope scope x) (hi : X.N[i]? = some z)
    (hdx : (x == ("__debug__" : Str)) = false := by decide) (hdz : (z == ("__debug__" : Str)) = false := by decide) (hcz : (z == ("__classdict__" : Str)) = false := by decide) (hs : NoSl (.Name x p3) := by intro _ _; rfl)
    (hb : ∀ Lo f c', attributeBase (.Name z p1) fl (lamE X scope Lo f c') (eval (.Name z p1) (lamE X scope Lo f c')) = eval (.Name z p1) (lamE X scope Lo f c') := by intro _ _ _; rfl) :
    BodyK X scope (.Subscript (.Attribute (.Name z p1) fl p2) (.Name x p3) p4) x
      (fun σ H y n => ∃ a C dx fs d, σ[i]? = some (some (.ref a)) ∧ H a = some (.ins C dx fs) ∧ Cls X.K C ∧ NoAttr X.K C fl ∧ fs.lookup fl = some (.ref d) ∧ ∃ kvs k, H d = some (.dK kvs) ∧ y = kV k ∧ valV kvs k = some (.int n)) := by
  intro pins s σ H A f c' Lo v y n I ry ⟨a, C, dx, fs, d, eσ, eH, hc, hn, hl, kvs, k, eD, ey, ev⟩ hu ns
  have hfree := L.has I.ok
  -- the captured name
  obtain ⟨c1, hc1⟩ : ∃ c1, (cloFrom X.env.cells scope.names []).lookup z = some c1 := mem_lookup (cloFrom_has (cells := X.env.cells) (acc := []) (PySem.mem_of_lookup hz))
  have hc2 : X.env.cells.lookup z = some c1 := by
    rcases cloFrom_mem (PySem.mem_of_lookup hc1) with hm | ⟨h1, h2⟩
    · cases hm
    · obtain ⟨c0, h0⟩ := hfree _ h1 rfl
      have h0 : X.env.cells.lookup z = some c0 := h0
      have e2 : c1 = c0 := by rw [h2, h0] <;> rfl
      rw [e2]
      exact h0
  have hk2 : X.env.scope.names.lookup z = some .cell ∨ X.env.scope.names.lookup z = some .free := L.free _ (PySem.mem_of_lookup hz) rfl
  obtain ⟨m, hm, hl2⟩ := I.loc
  obtain ⟨u, ru, lk⟩ := hl2 i z _ hi eσ (hk2.elim (fun k => .inr (.inl k)) (fun k => .inr (.inr k)))
  obtain rfl : u = Value.ref a := ru
  have cell : s.heap.IsCell c1 (some (.ref a)) := by
    rcases lk with ⟨k', _⟩ | ⟨_, c3, e', q⟩
    · have k' : X.env.scope.names.lookup z = some .local := k'
      rcases hk2 with k2 | k2 <;> rw [k2] at k' <;> cases k'
    · rw [hc2] at e'
      cases e'
      exact q
  -- the field
  obtain ⟨mA, O, r, _, _, _⟩ := ins_get I.hok eH
  obtain ⟨u, hu1, ru⟩ := RelO.some_of (v := V.ref d) (o := mA fl) (by rw [← hl]; exact r fl)
  obtain rfl : u = Value.ref d := ru
  -- the dict
  obtain ⟨_, _, vs, rel, dd⟩ := dk_rd I.hok (.inl eD)
  obtain ⟨w', hw, rw'⟩ := RelO.some_of (v := V.int n) (o := valueAt vs k) (by rw [← ev]; exact rel.val k)
  obtain ⟨tw, rfl⟩ := rw'
  subst ey
  refine subD_of PySem.F.slot_dict_getitem.lookup hs ?_
  refine attr_of (hb Lo f c') (wpAny_Name (wpAny_loadName_free (env := lamE X scope Lo f c') hk hz hc1 cell ?_ hcz) hdz)
  refine get_map I.kIn O (hc.get fl) hc.hd hn hu1 (handed_of (v := V.ref d) rfl) ?_
  refine wpAny_Name (wpAny_loadName_local (env := lamE X scope Lo f c') hk hx ns (v := v) (by simp) ?_) hdx
  refine ⟨dd.typeIs, ?_⟩
  exact wpAny_getItem_of (kV_is ry) dd.mapOf hw ⟨_, _, rfl, fun _ _ e => e, .int _ _⟩
end

/-! ### the written part without a table -/
def lessK (K : PySem.W.Frag) (P : Addr) : PySem.W.Frag := K.filter fun p => !(p.1 == P)
section
variable {K : PySem.W.Frag} {P : Addr}
theorem look_less (a : Addr) : (lessK K P).lookup a = if a = P then none else K.lookup a := by
  unfold lessK
  induction K with
  | nil => by_cases h : a = P <;> simp [h]
  | cons x r ih =>
    obtain ⟨b, o⟩ := x
    by_cases hb : b = P
    · subst hb
      rw [List.filter_cons_of_neg (by simp), ih]
      by_cases h : a = b
      · simp [h]
      · have e : (a == b) = false := by simpa using h
        simp [h, List.lookup_cons, e]
    · rw [List.filter_cons_of_pos (by simpa using hb)]
      by_cases h : a = b
      · subst h
        simp [List.lookup_cons, hb]
      · have e : (a == b) = false := by simpa using h
        rw [List.lookup_cons, List.lookup_cons, e]
        exact ih
theorem look_d {a : Addr} {o : Obj} (h : K.lookup a = some o) (n : a ≠ P) : (lessK K P).lookup a = some o := by rw [look_less, if_neg n]; exact h
theorem look_lessP : (lessK K P).lookup P = none := by rw [look_less, if_pos rfl]
theorem less_in {h : Heap} (X : K.In h) : (lessK K P).In h := fun a o e => by
  rw [look_less] at e
  split at e
  · cases e
  · exact X a o e
/-- P's object is a table -/
class TabK (K : PySem.W.Frag) (P : Addr) : Prop where
  at_ : K.lookup P = some { cls := .none, data := .fields #[] }
variable [t : TabK K P]
open PySem.W
theorem d_nsIn (a : Addr) (n : Str) : nsIn (lessK K P) a n = nsIn K a n := by
  unfold nsIn
  rw [look_less]
  by_cases h : a = P
  · subst h; rw [if_pos rfl, t.at_]
  · rw [if_neg h]
theorem d_clsIn (a : Addr) : clsIn (lessK K P) a = clsIn K a := by
  unfold clsIn
  rw [look_less]
  by_cases h : a = P
  · subst h; rw [if_pos rfl, t.at_]
  · rw [if_neg h]
theorem d_ownIn (n : Str) (v : Value) : ownIn (lessK K P) n v = ownIn K n v := by
  cases v <;> try rfl
  rename_i a
  show (match (lessK K P).lookup a with | some ⟨_, _, .cls cd, _⟩ => nsIn (lessK K P) cd.ns n | _ => none) = (match K.lookup a with | some ⟨_, _, .cls cd, _⟩ => nsIn K cd.ns n | _ => none)
  rw [look_less]
  by_cases h : a = P
  · subst h; rw [if_pos rfl, t.at_]
  · rw [if_neg h]
    simp only [d_nsIn]
theorem d_alongIn (n : Str) : ∀ l : List Value, alongIn (lessK K P) n l = alongIn K n l
  | [] => rfl
  | c :: r => by
    unfold alongIn
    rw [d_ownIn, d_alongIn n r]
theorem d_findIn (v : Value) (n : Str) : findIn (lessK K P) v n = findIn K v n := by
  cases v <;> try rfl
  rename_i a
  show (match (lessK K P).lookup a with | some ⟨_, _, .cls cd, _⟩ => alongIn (lessK K P) n cd.mro | _ => none) = (match K.lookup a with | some ⟨_, _, .cls cd, _⟩ => alongIn K n cd.mro | _ => none)
  rw [look_less]
  by_cases h : a = P
  · subst h; rw [if_pos rfl, t.at_]
  · rw [if_neg h]
    simp only [d_alongIn]
theorem d_typeIn {v : Value} (h : v ≠ .ref P) : typeIn (lessK K P) v = typeIn K v := by
  cases v <;> try rfl
  rename_i a
  show ((lessK K P).lookup a).map _ = (K.lookup a).map _
  rw [look_less, if_neg (fun z => h (by rw [z]))]
theorem d_typeP : typeIn K (.ref P) = some .none := by
  show (K.lookup P).map _ = _
  rw [t.at_]
  rfl
theorem d_typeP' : typeIn (lessK K P) (.ref P) = none := by
  show ((lessK K P).lookup P).map _ = _
  rw [look_lessP]
  rfl
theorem d_specialIn (v : Value) (n : Str) : specialIn (lessK K P) v n = specialIn K v n := by
  unfold specialIn
  by_cases h : v = .ref P
  · subst h
    rw [d_typeP', d_typeP]
    rfl
  · rw [d_typeIn h]
    cases typeIn K v with
    | none => rfl
    | some q => exact d_findIn q n
theorem d_takesIn (v : Value) : takesIn (lessK K P) v = takesIn K v := by
  unfold takesIn
  simp only [d_specialIn]
theorem d_takerIn (a : Addr) (n : Str) : takerIn (lessK K P) a n = takerIn K a n := by
  unfold takerIn
  simp only [d_findIn, d_takesIn]
theorem d_mroIn (a : Addr) (v : Value) : mroIn (lessK K P) a v = mroIn K a v := by
  unfold mroIn
  rw [d_clsIn]
theorem d_subIn (v u : Value) : subIn (lessK K P) v u = subIn K v u := by
  cases v <;> try rfl
  exact d_mroIn _ _
theorem d_instIn (v u : Value) : instIn (lessK K P) v u = instIn K v u := by
  unfold instIn
  by_cases h : v = .ref P
  · subst h
    rw [d_typeP', d_typeP]
    rfl
  · rw [d_typeIn h]
    simp only [d_subIn]
theorem d_codeIn {v : Value} {q : Str} (h : codeIn K v q = true) : codeIn (lessK K P) v q = true := by
  cases v with
  | ref a =>
    by_cases z : a = P
    · subst z
      unfold codeIn at h
      dsimp only at h
      rw [t.at_] at h
      cases h
    · unfold codeIn at h ⊢
      dsimp only at h ⊢
      rw [look_less, if_neg z]
      exact h
  | _ => exact h
theorem d_keepIn (v : Value) : keepIn (lessK K P) v = keepIn K v := by
  unfold keepIn
  cases v with
  | ref a =>
    dsimp only
    rw [look_less]
    by_cases z : a = P
    · subst z
      rw [if_pos rfl, t.at_]
    · rw [if_neg z]
      simp only [d_specialIn]
  | _ => rfl
theorem d_fnIn (a : Addr) : fnIn (lessK K P) a = fnIn K a := by
  unfold fnIn
  rw [look_less]
  by_cases h : a = P
  · subst h; rw [if_pos rfl, t.at_]
  · rw [if_neg h]
theorem d_isFn (v : Value) : isFn (lessK K P) v = isFn K v := by
  unfold isFn
  by_cases h : v = .ref P
  · subst h
    rw [d_typeP', d_typeP]
    decide
  · rw [d_typeIn h]
theorem d_makesIn (a : Addr) : makesIn (lessK K P) a = makesIn K a := by
  unfold makesIn
  rw [look_less]
  by_cases h : a = P
  · subst h; rw [if_pos rfl, t.at_]
  · rw [if_neg h]
    simp only [d_specialIn, d_instIn]
theorem d_hasDictIn (a : Addr) : hasDictIn (lessK K P) a = hasDictIn K a := by unfold hasDictIn; rw [d_clsIn]
theorem d_plainOver (a : Addr) : plainOver (lessK K P) a = plainOver K a := by unfold plainOver; rw [d_clsIn]
theorem d_plainGet (a : Addr) (n : Str) : plainGet (lessK K P) a n = plainGet K a n := by unfold plainGet; simp only [d_findIn]
theorem d_recIn (a : Addr) (T : String) : recIn (lessK K P) a T = recIn K a T := by
  unfold recIn
  rw [look_less]
  by_cases h : a = P
  · subst h; rw [if_pos rfl, t.at_]
  · rw [if_neg h]
theorem d_ksup (a b : Addr) (n : Str) : ks_superIn (lessK K P) a b n = ks_superIn K a b n := by
  unfold ks_superIn
  rw [d_clsIn]
  simp only [d_alongIn]
theorem d_kitCls (v u : Value) : kitCls (lessK K P) v u = kitCls K v u := by
  unfold kitCls
  cases u with
  | ref C =>
    dsimp only
    rw [d_clsIn, d_subIn]
    by_cases h : Value.ref C = .ref P
    · cases h
      have e : clsIn K P = none := by unfold clsIn; rw [t.at_]
      rw [e]
      rfl
    · rw [d_typeIn h]
  | type T => dsimp only; rw [d_subIn]
  | _ => rfl
theorem d_kitOne (v u : Value) : kitOne (lessK K P) v u = kitOne K v u := by
  unfold kitOne
  rw [d_kitCls]
theorem d_isClsIn (a : Addr) : isClsIn (lessK K P) a = isClsIn K a := by unfold isClsIn; rw [d_clsIn]
end

theorem ne_lit {a t l : Addr} (e : t = l) (h : (a == l) = false) : a ≠ t := fun z => by
  rw [z, e] at h
  simp at h
theorem ne_litV {a t l : Addr} (e : t = l) (h : (a == l) = false) : Value.ref a ≠ .ref t := fun z => ne_lit e h (Value.ref.inj z)
/-! ### a def that makes a lambda: its code object is known -/
structure FunT (K : PySem.W.Frag) (x qual : Str) (st : Stmt) (f : Addr) (fd : FuncData) (c : Addr) : Prop where
  ex : ∃ (oc : Value) (od : Option Addr) (kV doc pm : Value) (an : Option Addr) (ct : Value) (osl : Array (Option Value)),
    fd = PySem.W.fnOf x qual (defArgs st) (defBody st) (defScope st) .none kV doc pm an (.ref c) ct ∧ K.lookup f = some ⟨oc, od, .func fd, osl⟩ ∧ PySem.W.codeIn K (.ref c) qual = true
  kp : PySem.W.keepIn K (.ref f) = true
theorem FunT.fn {K : PySem.W.Frag} {x qual : Str} {st : Stmt} {f : Addr} {fd : FuncData} {c : Addr} (F : FunT K x qual st f fd c) : Fun K x qual st f fd := by
  obtain ⟨⟨oc, od, kV, doc, pm, an, ct, osl, e, l, h⟩, k⟩ := F
  exact ⟨⟨oc, od, kV, doc, pm, an, .ref c, ct, osl, e, l, h⟩, k⟩
theorem funT_mk {K : PySem.W.Frag} {x qual : Str} {st : Stmt} {f : Addr} {oc : Value} {od an : Option Addr} {osl : Array (Option Value)} {kV doc pm ct : Value} {c : Addr} (l : K.lookup f = some ⟨oc, od, .func (PySem.W.fnOf x qual (defArgs st) (defBody st) (defScope st) .none kV doc pm an (.ref c) ct), osl⟩)
    (h : PySem.W.codeIn K (.ref c) qual = true) (k : PySem.W.keepIn K (.ref f) = true) : FunT K x qual st f (PySem.W.fnOf x qual (defArgs st) (defBody st) (defScope st) .none kV doc pm an (.ref c) ct) c := ⟨⟨oc, od, kV, doc, pm, an, ct, osl, rfl, l, h⟩, k⟩
theorem ok_bodyC {P : Program} {w : World} {K : PySem.W.Frag} {mg : Str → Option Value} {base : Heap} {x qual : Str} {st : Stmt} {f c : Addr} {fd : FuncData} {N ps : List Str} {n m k : Nat} {t : XK → TS} (F : FunT K x qual st f fd c) (S : FnScope N ps (defScope st)) (hn : N.length = n) (hm : ps.length = m)
    (h : ∀ (A : Around) (outer : List Env) (s : Shared) (H : Hp) (E : XK), Room k (A.deeper (envOfC qual (defScope st) s.heap.objs.size f (.ref c))) → PSs (cxOf (L2.CX P w) P w K mg base N qual (defScope st) f (.ref c) A outer s H E) (defBody st) (t E)) :
    FnOk P w K mg base (L2.CX P w) (k + 1) f fd ps (spB n m t) := by
  subst hn
  subst hm
  obtain ⟨oc, od, kV, doc, pm, an, ct, osl, rfl, lk, hcd⟩ := F.ex
  exact fn_of lk hcd S (fun vs H Q E q => q.1) fun A outer s H vs Q E hr q => ⟨t E, h A outer s H E hr, q.2⟩
/-- what a code object tells of its table -/
theorem codeHd_of {K : PySem.W.Frag} {h : Heap} (X : K.In h) {c P : Addr} {od : Option Addr} {vs : Array Value} {sl : Array (Option Value)} {file : Str} {tf tg tt : Tok} {flags text : Int} {inF : Bool} (l : K.lookup c = some ⟨.type "code", od, .fields vs, sl⟩)
    (e1 : vs[11]? = some (.ref P)) (e2 : vs.getD 11 .none = .ref P) (e3 : vs.getD 18 .none = .str file tf) (e4 : vs.getD 7 .none = .int flags tg) (e5 : vs.getD 9 .none = .bool inF) (e6 : vs.getD 10 .none = .int text tt) (n : c ≠ P) : PySem.W.CodeHd h c P :=
  ⟨_, vs, file, tf, flags, tg, inF, text, tt, X _ _ l, rfl, rfl, e1, e2, e3, e4, e5, e6, n⟩
/-! ### sorted(xs, key=lambda x: o.f[x]) -/
/-- o, of the class C, in the slot i; its field f a dict that tells n of y -/
def kFld (C : Addr) (i : Nat) (f : Str) (σ : L2.St) (H : Hp) (y : V) (n : Int) : Prop :=
  ∃ a dx fs d kvs k, σ[i]? = some (some (.ref a)) ∧ H a = some (.ins C dx fs) ∧ fs.lookup f = some (.ref d) ∧ H d = some (.dK kvs) ∧ y = kV k ∧ valV kvs k = some (.int n)
def tSortF (S : Sta) (P : Addr) (q : Str) (C : Addr) (i : Nat) (f : Str) (t : TA) : TE := fun σ H Q => t σ H fun vs H1 =>
  ∃ (a : Addr) (xs : List V) (k : V → Int) (cs : List Addr), vs = [.ref a] ∧ RdS S H1 a (.lst xs) ∧ TabC H1 P q cs ∧ (∀ x ∈ xs, kFld C i f σ H1 x (k x)) ∧
    ∀ H2, Grew P q H1 H2 → ∀ p, H2 p = none → Q (.ref p) (upd H2 p (.lst (xs.mergeSort fun x y => decide (k x ≤ k y))))
section
variable {X : Cx} {c P : Addr} {params : Arguments} {scope : Scope} {x : Str}
theorem pe_sortF {S : Sta} {C : Addr} {k i : Nat} {e : Expr} {t : TA} {z fl : Str} {p p1 p2 p3 p4 lpos kpos pos : Pos} (st : S = SK X.K) (cl : Cls X.K C) (na : NoAttr X.K C fl) (hr : Room k X.A) (hg : Gl X "sorted") (hm : X.mg "sorted" = none) (hi : X.N[i]? = some z) (ha : PA X [e] t)
    (TB : LamX.TabB X.base X.mg c P) (hcode : X.env.code = .ref c) (L : LamP X.env.scope scope x) (hz : scope.names.lookup z = some .free) (hdef : defaultsOf params X.env = ([], []))
    (hbind : ∀ (pm ctv cdv : Value) (cl : List (Str × Addr)) (v : Value), bindArgs (PySem.W.kla_fn "<lambda>" (X.env.qual ++ "<lambda>") params (.Subscript (.Attribute (.Name z p1) fl p2) (.Name x p3) p4) scope cl pm cdv ctv) ⟨[v], []⟩ = pure [(x, v)])
    (hdx : (x == ("__debug__" : Str)) = false := by decide) (hdz : (z == ("__debug__" : Str)) = false := by decide) (hcz : (z == ("__classdict__" : Str)) = false := by decide)
    (hb : ∀ Lo f c', attributeBase (.Name z p1) fl (lamE X scope Lo f c') (eval (.Name z p1) (lamE X scope Lo f c')) = eval (.Name z p1) (lamE X scope Lo f c') := by intro _ _ _; rfl)
    (he : backTo pos (starEach [e] X.env) = (false, eval e X.env) :: backTo pos (starEach [] X.env) := by rfl) (hpl : (backTo pos (starEach [e] X.env)).any (·.1) = false := by rfl) :
    PE X (.Call (.Name "sorted" p) [e] [⟨some "key", .Lambda params (.Subscript (.Attribute (.Name z p1) fl p2) (.Name x p3) p4) scope lpos, kpos⟩] pos) (tSortF S P (X.env.qual ++ "<lambda>") C i fl t) := by
  refine ⟨fun pins s σ H Q I h => ?_⟩
  refine (pe_sortL (kt := fun σ H y n => ∃ a C dx fs d, σ[i]? = some (some (.ref a)) ∧ H a = some (.ins C dx fs) ∧ Cls X.K C ∧ NoAttr X.K C fl ∧ fs.lookup fl = some (.ref d) ∧ ∃ kvs k, H d = some (.dK kvs) ∧ y = kV k ∧ valV kvs k = some (.int n))
    hr hg hm (pa_mo ha) TB hcode L hdef hbind (body_fld L.kind L.par hz L hi hdx hdz hcz (by intro _ _; rfl) hb) (fun {P q H H1 σ x n} g ⟨a, C, dx, fs, d, h1, h2, h3, h4, h5, kvs, k, h6, h7⟩ => ⟨a, C, dx, fs, d, h1, g.non h2 (fun _ z => by cases z), h3, h4, h5, kvs, k, g.non h6 (fun _ z => by cases z), h7⟩) he hpl).run pins s σ H Q I ⟨_, h, ?_⟩
  rintro vs H1 ⟨a, xs, k, cs, e, rd, tb, ks, q⟩
  refine ⟨a, xs, k, cs, e, ?_, tb, fun x m => ?_, q⟩
  · subst st; exact rd.elim .inl .inr
  · obtain ⟨a, dx, fs, d, kvs, k, h1, h2, h3, h4, h5, h6⟩ := ks x m
    exact ⟨a, C, dx, fs, d, h1, h2, cl, na, h3, kvs, k, h4, h5, h6⟩
end

/-! ### sorted(xs, key=lambda x: x[i]) -/
def kRow (S : Sta) (i : Int) (H : Hp) (y : V) (n : Int) : Prop := ∃ t ys, y = .ref t ∧ RdS S H t (.tup ys) ∧ atI ys i = some (.int n)
def tSortR (S : Sta) (P : Addr) (q : Str) (i : Int) (t : TA) : TE := fun σ H Q => t σ H fun vs H1 =>
  ∃ (a : Addr) (xs : List V) (k : V → Int) (cs : List Addr), vs = [.ref a] ∧ RdS S H1 a (.lst xs) ∧ TabC H1 P q cs ∧ (∀ x ∈ xs, kRow S i H1 x (k x)) ∧
    ∀ H2, Grew P q H1 H2 → ∀ p, H2 p = none → Q (.ref p) (upd H2 p (.lst (xs.mergeSort fun x y => decide (k x ≤ k y))))
section
variable {X : Cx} {c P : Addr} {params : Arguments} {scope : Scope} {x : Str}
theorem pe_sortR {S : Sta} {k j : Nat} {i : Int} {e : Expr} {t : TA} {p p1 p2 p4 lpos kpos pos : Pos} (st : S = SK X.K) (hr : Room k X.A) (hg : Gl X "sorted") (hm : X.mg "sorted" = none) (ha : PA X [e] t)
    (TB : LamX.TabB X.base X.mg c P) (hcode : X.env.code = .ref c) (L : LamP X.env.scope scope x) (hdef : defaultsOf params X.env = ([], []))
    (hbind : ∀ (pm ctv cdv : Value) (cl : List (Str × Addr)) (v : Value), bindArgs (PySem.W.kla_fn "<lambda>" (X.env.qual ++ "<lambda>") params (.Subscript (.Name x p1) (.Constant (.int i) j p2) p4) scope cl pm cdv ctv) ⟨[v], []⟩ = pure [(x, v)])
    (hdx : (x == ("__debug__" : Str)) = false := by decide)
    (he : backTo pos (starEach [e] X.env) = (false, eval e X.env) :: backTo pos (starEach [] X.env) := by rfl) (hpl : (backTo pos (starEach [e] X.env)).any (·.1) = false := by rfl) :
    PE X (.Call (.Name "sorted" p) [e] [⟨some "key", .Lambda params (.Subscript (.Name x p1) (.Constant (.int i) j p2) p4) scope lpos, kpos⟩] pos) (tSortR S P (X.env.qual ++ "<lambda>") i t) := by
  refine ⟨fun pins s σ H Q I h => ?_⟩
  refine (pe_sortL (kt := fun _ H y n => ∃ t ys, y = .ref t ∧ SqT X.K H t ys ∧ atI ys i = some (.int n))
    hr hg hm (pa_mo ha) TB hcode L hdef hbind (body_row L.kind L.par hdx) (fun {P q H H1 σ x n} g ⟨t, ys, h1, h2, h3⟩ => ⟨t, ys, h1, g.sqT h2, h3⟩) he hpl).run pins s σ H Q I ⟨_, h, ?_⟩
  rintro vs H1 ⟨a, xs, k, cs, e, rd, tb, ks, q⟩
  refine ⟨a, xs, k, cs, e, ?_, tb, fun x m => ?_, q⟩
  · subst st; exact rd.elim .inl .inr
  · obtain ⟨t, ys, h1, h2, h3⟩ := ks x m
    exact ⟨t, ys, h1, by subst st; exact h2.elim .inl .inr, h3⟩
end
/-! ### the end, with one table -/
theorem walk_ofT {l : PySem.W.OpenLaw} {n k : Nat} {q : Program} {loose : List Str} {XP : (Str → Option Value) → Heap → Prop} {YP : World → Heap → Prop} {d : DefRec} {K : Params → PySem.W.Frag} {CX : World → CXT} {x : Str}
    (hn : l.most = some n) (hn2 : n ≤ sizeLine) (hdf : d.params.defaults = []) (hr : Room k callerA) (hY : ∀ (w : World) (h : Heap), YP w h → (K w.params).In h)
    (F : ∀ (w : World) (mg : Str → Option Value) (fa : Addr) (h : Heap), (K w.params).In h → h.Ns mainGlobals mg → mg d.name = some (.ref fa) →
      ∃ (P c : Addr) (fd : FuncData) (sp : Sp), TabK (K w.params) P ∧ PySem.W.CodeHd h c P ∧ (∀ (s : Shared) (u : Value), BindsTo s fd ⟨[u], []⟩ [(x, u)]) ∧
        (∀ (H : Hp) (a : Addr) (ns : List Int), ns.length ≤ n → H P = some (.tbl #[]) → SqL (lessK (K w.params) P) H a (ns.map V.int) → sp [.ref a] H (fun v _ => v = .bl true) fun _ _ _ => False) ∧
        ∀ base : Heap, (lessK (K w.params) P).In base → base.Ns mainGlobals mg → LamX.TabB base mg c P → FnOk l.prog w (lessK (K w.params) P) mg base (CX w) k fa fd [x] sp)
    (hCX : ∀ (w : World) (H : Hp) (s : Shared) (e : Value) (s' : Shared), CX w [] H s (fun _ _ _ => False) e s' → False) :
    PySem.W.WalkO q loose XP YP l.row.toRowW d [] (fun f vs => PySem.call f vs) := by
  refine LamX.walk_ofTsE (x := x) hn hn2 hdf hr (fun w mg fa h Y G e => ?_) hCX
  have KX := hY w h Y
  obtain ⟨P, c, fd, sp, tk, hd, hb, hs, hF⟩ := F w mg fa h KX G e
  refine ⟨lessK (K w.params) P, less_in KX, fd, [(c, P)], sp, fun p m => ?_, fun p m => ?_, fun p m => ?_, hb, fun H a ns hl _ hT hS => hs H a ns hl (hT _ (List.mem_singleton.mpr rfl)) hS, fun base hi hg hT => hF base hi hg (hT _ (List.mem_singleton.mpr rfl))⟩
  · rw [List.mem_singleton.mp m]
    exact KX P _ tk.at_
  · rw [List.mem_singleton.mp m]
    exact look_lessP
  · rw [List.mem_singleton.mp m]
    exact hd
/-- the same, where the head tells the tables by themselves (the written part does not hold them) -/
theorem walk_ofM {l : PySem.W.OpenLaw} {n k : Nat} {q : Program} {loose : List Str} {XP : (Str → Option Value) → Heap → Prop} {YP : World → Heap → Prop} {d : DefRec} {K : Params → PySem.W.Frag} {CX : World → CXT} {x : Str} {ts : List Addr}
    (hn : l.most = some n) (hn2 : n ≤ sizeLine) (hdf : d.params.defaults = []) (hr : Room k callerA) (hY : ∀ (w : World) (h : Heap), YP w h → (K w.params).In h ∧ ∀ P ∈ ts, h.get? P = some (PySem.W.tabObj #[]))
    (F : ∀ (w : World) (mg : Str → Option Value) (fa : Addr) (h : Heap), (K w.params).In h → h.Ns mainGlobals mg → mg d.name = some (.ref fa) →
      ∃ (P c : Addr) (fd : FuncData) (sp : Sp), P ∈ ts ∧ (K w.params).lookup P = none ∧ PySem.W.CodeHd h c P ∧ (∀ (s : Shared) (u : Value), BindsTo s fd ⟨[u], []⟩ [(x, u)]) ∧
        (∀ (H : Hp) (a : Addr) (ns : List Int), ns.length ≤ n → H P = some (.tbl #[]) → SqL (K w.params) H a (ns.map V.int) → sp [.ref a] H (fun v _ => v = .bl true) fun _ _ _ => False) ∧
        ∀ base : Heap, (K w.params).In base → base.Ns mainGlobals mg → LamX.TabB base mg c P → FnOk l.prog w (K w.params) mg base (CX w) k fa fd [x] sp)
    (hCX : ∀ (w : World) (H : Hp) (s : Shared) (e : Value) (s' : Shared), CX w [] H s (fun _ _ _ => False) e s' → False) :
    PySem.W.WalkO q loose XP YP l.row.toRowW d [] (fun f vs => PySem.call f vs) := by
  refine LamX.walk_ofTsE (x := x) hn hn2 hdf hr (fun w mg fa h Y G e => ?_) hCX
  obtain ⟨KX, hT⟩ := hY w h Y
  obtain ⟨P, c, fd, sp, mP, nP, hd, hb, hs, hF⟩ := F w mg fa h KX G e
  refine ⟨K w.params, KX, fd, [(c, P)], sp, fun p m => ?_, fun p m => ?_, fun p m => ?_, hb, fun H a ns hl _ hT hS => hs H a ns hl (hT _ (List.mem_singleton.mpr rfl)) hS, fun base hi hg hT => hF base hi hg (hT _ (List.mem_singleton.mpr rfl))⟩
  · rw [List.mem_singleton.mp m]
    exact hT P mP
  · rw [List.mem_singleton.mp m]
    exact nP
  · rw [List.mem_singleton.mp m]
    exact hd
/-- an empty table is a table -/
theorem tabC_nil {H : Hp} {P : Addr} {q : Str} (h : H P = some (.tbl #[])) : TabC H P q [] :=
  ⟨⟨#[], h, True.intro, fun pos cv e => by
    have z : codeAmong pos [] = some cv := e
    simp [codeAmong] at z⟩, fun _ m => absurd m (by simp)⟩
end Y

/-! list(d.values()), min(xs, default=None). -/
namespace Y
open PySem PySem.Spec PyProof.Rows L2
theorem vals_kv {κ : Type} [DecidableEq κ] {kvs : List (κ × V)} {vs : List (κ × Value)} (r : KV kvs vs) : Vals (kvs.map (·.2)) (vs.map (·.2)) := by
  unfold KV at r
  induction r with
  | nil => exact .nil
  | cons h t ih => exact .cons h.2 ih
def tListV (te : TE) : TE := fun σ H Q => te σ H fun x H1 => ∃ (a : Addr) (kvs : List (Key × V)), x = .ref a ∧ H1 a = some (.dK kvs) ∧ ∀ p, H1 p = none → Q (.ref p) (upd H1 p (.lst (kvs.map (·.2))))
section
variable {X : Cx} {e : Expr} {te : TE} {p apos cpos pos : Pos}
theorem pe_listV (hc : X.calm = true) (hg : Gl X "list") (hm : X.mg "list" = none) (he : PE X e te) (hbase : attributeBase e "values" X.env (eval e X.env) = eval e X.env := by rfl) (hline : (apos.endLine == cpos.line) = true := by rfl)
    (na : starEach [.Call (.Attribute e "values" apos) [] [] cpos] X.env = (false, eval (.Call (.Attribute e "values" apos) [] [] cpos) X.env) :: starEach [] X.env := by rfl) :
    PE X (.Call (.Name "list" p) [.Call (.Attribute e "values" apos) [] [] cpos] [] pos) (tListV te) := by
  refine ⟨fun pins s σ H Q I h => ?_⟩
  refine Call_ (ld_blt I hg hm (u := .type "list") (by decide +kernel) (PyProof.Rows.callWith_type1 (args_cons ?_ na) na))
  refine wpAny_Call_method0_late hbase hline (thn (he.run pins s σ H _ I h) fun u s1 ⟨x, H1, I1, r1, a, kvs, ex, hd, q⟩ => ?_)
  subst ex
  obtain rfl : u = Value.ref a := r1
  obtain ⟨t1, t2, lo⟩ := isD_at I1 (.inl ⟨kvs, .inl hd⟩)
  obtain ⟨z, _, vs, rel, dd⟩ := dk_rd I1.hok (.inl hd)
  refine ⟨"dict", _, PySem.F.plainAttrs_dict, PySem.F.slot_dict_values, PySem.F.type_dict_values, t1, t2, Calls.callWith_builtin rfl (PySem.evalArgs_none ?_)⟩
  refine call_meetsIn PySem.F.slot_dict_values dd.typeIs PySem.F.entry_dict_values (PySem.F.args_dict_values_1 _) (meets_dict_values (mixKind X.prog X.w) a lo) ⟨⟨vs, dd⟩, args_nil ?_⟩
  obtain ⟨ep, hat⟩ := dd.dictAt
  refine PySem.W.kdl_call (PySem.W.kdl_values (knd := mixKind X.prog X.w) (kvs := vs) (ep := ep)) (I1.ok.hd hc) ⟨⟨_, Heap.get?_push_size _ rfl, rfl, rfl⟩, hat.push _⟩ (by rw [← rel.length]; exact z) fun h' tk acc c' hk hD hacc => ?_
  have ea : acc.toList = vs.map (·.2) := PySem.W.kdl_vals_eq acc.toList (by rw [Array.length_toList]; exact hacc.1) fun j v e => hacc.2 j v (by rw [← Array.getElem?_toList]; exact e)
  have kp : ∀ b o, s1.heap.get? b = some o → h'.get? b = some o := fun b o e => hk b o (Heap.get?_push_of_some _ e)
  have ge : s1.heap.objs.size ≤ (s1.heap.push { cls := .type "dict_values", data := .fields #[.ref a] }).objs.size := by rw [Heap.size_push]; exact Nat.le_succ _
  refine ⟨.ref _, upd H1 _ (.lst (kvs.map (·.2))), I1.laid (t' := tk) kp ge
    (show ObjOk X.prog X.w _ _ _ (.lst (kvs.map (·.2))) from ⟨by rw [List.length_map]; exact z, acc.toList, c', by rw [ea]; exact vals_kv rel, by rw [Array.toArray_toList]; exact hD⟩), rfl, q _ (I1.hok.fresh ge)⟩
/-- min(xs, default=None), whole numbers -/
def rMinD (S : Sta) : List V → List V → Hp → VK → Prop := fun vs zs H Q => ∃ (a : Addr) (ns : List Int), vs = [V.ref a] ∧ zs = [.non] ∧ RdS S H a (.lst (ns.map V.int)) ∧ (ns = [] → Q .non H) ∧ ∀ m, m ∈ ns → (∀ n ∈ ns, m ≤ n) → Q (.int m) H
theorem readsI {h : Heap} : ∀ {us : List Value} {ns : List Int}, IntsAre us ns → ∃ as, ReadsAll h us (ns.map PyData.int) as
  | _, _, .nil => ⟨_, .nil⟩
  | _, _, .cons _ _ t => by
    obtain ⟨as, r⟩ := readsI (h := h) t
    exact ⟨_, .cons (.int _ _) r⟩
theorem depth_ints : ∀ ns : List Int, PyData.depthAll (ns.map PyData.int) = 0
  | [] => by simp [PyData.depthAll]
  | _ :: r => by simp [PyData.depthAll, PyData.depth, depth_ints r]
theorem min_fold : ∀ (ns : List Int) (n : Int), ns.foldl min n ∈ n :: ns ∧ ∀ z ∈ n :: ns, ns.foldl min n ≤ z
  | [], n => ⟨by simp, fun z m => by simp at m; simp [m]⟩
  | k :: r, n => by
    obtain ⟨h1, h2⟩ := min_fold r (min n k)
    rw [List.foldl_cons]
    refine ⟨?_, fun z m => ?_⟩
    · rcases List.mem_cons.mp h1 with e | e
      · rw [e]
        rcases Int.le_total n k with q | q
        · rw [Int.min_eq_left q]; exact List.mem_cons_self
        · rw [Int.min_eq_right q]; exact List.mem_cons_of_mem _ List.mem_cons_self
      · exact List.mem_cons_of_mem _ (List.mem_cons_of_mem _ e)
    · have h0 := h2 (min n k) List.mem_cons_self
      rcases List.mem_cons.mp m with e | m
      · rw [e]; exact Int.le_trans h0 (Int.min_le_left _ _)
      · rcases List.mem_cons.mp m with e | m
        · rw [e]; exact Int.le_trans h0 (Int.min_le_right _ _)
        · exact h2 z (List.mem_cons_of_mem _ m)
theorem cr_minD {S : Sta} (st : S = SK X.K) (hc : X.calm = true) (hu : X.A.units + 65 < cLine) : CallRK X (.builtin "min") [Str.ofString "default"] (rMinD S) := by
  intro pins s σ H vs zs us ws Q I r rz h
  obtain ⟨a, ns, rfl, rfl, hs, q0, q⟩ := h
  obtain rfl := Vals.ref1 r
  obtain ⟨w1, rfl, e1⟩ := vals1 rz
  obtain rfl : w1 = Value.none := e1
  have sq : SqL X.K H a (ns.map V.int) := by subst st; exact hs.elim .inl .inr
  obtain ⟨its, rv, hl, _⟩ := I.list sq
  obtain ⟨as, ra⟩ := readsI (h := s.heap) rv.ints
  refine PySem.W.min_list_default (vs := its.toArray) (xs := ns.map PyData.int) (as := as) (I.ok.hd hc) hl.isList ra ⟨fun x hx y hy => ?_, fun x hx => ?_⟩ (by rw [depth_ints]; omega) (fun e h' tk kp => ?_) fun y ys i v h' tk bs e hv rd kp => ?_
  · obtain ⟨i, _, rfl⟩ := List.mem_map.mp hx
    obtain ⟨j, _, rfl⟩ := List.mem_map.mp hy
    simp [PySem.W.alike]
  · obtain ⟨i, _, rfl⟩ := List.mem_map.mp hx
    simp
  · exact ⟨.non, H, I.kept kp, rfl, q0 (List.map_eq_nil_iff.mp e)⟩
  · cases ns with
    | nil => cases e
    | cons n r =>
      rw [List.map_cons] at e
      cases e
      rw [PySem.W.minD_ints] at rd
      cases rd
      obtain ⟨h1, h2⟩ := min_fold r n
      exact ⟨.int _, H, I.kept kp, ⟨_, rfl⟩, q _ h1 h2⟩
/-- s.upper() -/
def rUp : V → List V → Hp → VK → Prop := fun x xs H Q => ∃ a, x = .str a ∧ xs = [] ∧ a.length ≤ 5592405 ∧ Q (.str (Txt.upper a)) H
theorem pe_up (he : PE X e te) (hbase : attributeBase e "upper" X.env (eval e X.env) = eval e X.env := by rfl) (hline : (apos.endLine == pos.line) = true := by rfl) : PE X (.Call (.Attribute e "upper" apos) [] [] pos) (tM0 rUp te) := pe_upper he hbase hline
end
/-- (i, j) < (k, l) -/
def rLtP (S : Sta) : R2 := fun x y H Q => rLt x y H Q ∨ ∃ a b i j k l, x = .ref a ∧ y = .ref b ∧ RdS S H a (.tup [.int i, .int j]) ∧ RdS S H b (.tup [.int k, .int l]) ∧ Q (.bl (if i = k then decide (j < l) else decide (i < k))) H
theorem o_ltP {X : Cx} {S : Sta} (st : S = SK X.K) (hu : X.A.units + 65 < cLine) : OpR X (compareOp .Lt) (rLtP S) := by
  intro pins s σ H x y v u Q I rx ry h
  rcases h with h | ⟨a, b, i, j, k, l, ex, ey, ha, hb, q⟩
  · exact o_lt pins s σ H x y v u Q I rx ry h
  subst ex
  subst ey
  obtain rfl : v = Value.ref a := rx
  obtain rfl : u = Value.ref b := ry
  subst st
  obtain ⟨its, r1, p1, _⟩ := I.tuple (show SqT X.K H a [.int i, .int j] from ha.elim .inl .inr)
  obtain ⟨its2, r2, p2, _⟩ := I.tuple (show SqT X.K H b [.int k, .int l] from hb.elim .inl .inr)
  obtain ⟨u1, u2, rfl, e1, e2⟩ := vals2 r1
  obtain ⟨w1, w2, rfl, e3, e4⟩ := vals2 r2
  obtain ⟨t1, rfl⟩ := e1
  obtain ⟨t2, rfl⟩ := e2
  obtain ⟨t3, rfl⟩ := e3
  obtain ⟨t4, rfl⟩ := e4
  have eqi : ∀ (m n : Int), (m == n) = decide (m = n) := fun m n => by by_cases z : m = n <;> simp [z]
  have R := Ob.RcOp.tuples_lt (A := X.A) (s := s) (e := fun z => if z = 0 then decide (i = k) else decide (j = l)) (r := fun z => if z = 0 then decide (i < k) else decide (j < l)) p1 p2 (by omega) (fun z h1 h2 => by
    have h1 : z < 2 := h1
    rcases (show z = 0 ∨ z = 1 by omega) with rfl | rfl
    · show SeqAt.EqAt _ _ (Value.int i t1) (Value.int k t3) (decide (i = k))
      rw [← eqi]
      exact SeqAt.EqAt.int_int _ _ _ _
    · show SeqAt.EqAt _ _ (Value.int j t2) (Value.int l t4) (decide (j = l))
      rw [← eqi]
      exact SeqAt.EqAt.int_int _ _ _ _) (fun z h1 h2 _ => by
    have h1 : z < 2 := h1
    rcases (show z = 0 ∨ z = 1 by omega) with rfl | rfl
    · exact Ob.RcOp.lt_int i k t1 t3
    · exact Ob.RcOp.lt_int j l t2 t4)
  refine R X.prog X.w X.xe (EP X pins σ Q) ⟨.bl _, H, I, rfl, ?_⟩
  have e : Ob.lexAt (fun z => if z = 0 then decide (i = k) else decide (j = l)) (fun z => if z = 0 then decide (i < k) else decide (j < l)) (decide ([Value.int i t1, Value.int j t2].toArray.size < [Value.int k t3, Value.int l t4].toArray.size)) 0 (min [Value.int i t1, Value.int j t2].toArray.size [Value.int k t3, Value.int l t4].toArray.size) = if i = k then decide (j < l) else decide (i < k) := by
    show Ob.lexAt _ _ (decide (2 < 2)) 0 2 = _
    rw [Ob.lexAt_succ, Ob.lexAt_succ, Ob.lexAt_zero]
    by_cases z : i = k
    · by_cases z2 : j = l
      · simp [z, z2]
      · simp [z, z2]
    · simp [z]
  rw [e]
  exact q
/-! a written tuple whose very object is known (so that its methods can be called), and its index -/
def tupO (its : List Value) : Obj := { cls := .type "tuple", data := .seq its.toArray }
def tTupZ (t : TA) : TE := fun σ H Q => t σ H fun vs H1 => vs.length ≤ sizeLine ∧ ∀ p its, H1 p = none → Q (.ref p) (upd H1 p (.frz (tupO its) (.tup vs)))
theorem pe_tupZ {X : Cx} {es : List Expr} {t : TA} {x1 : Nat} {pos : Pos} (h : PA X es t) : PE X (.Tuple es x1 pos) (tTupZ t) := by
  refine ⟨fun pins s σ H Q I hq => ?_⟩
  refine wpAny_Tuple_spliced (thn (h.run pos pins s σ H _ I hq) fun us s1 ⟨xs, H1, I1, r, z, q⟩ => ⟨by rw [← r.length]; exact z, ?_⟩)
  have hf : H1 s1.heap.objs.size = none := I1.hok.fresh (Nat.le_refl _)
  exact ⟨.ref s1.heap.objs.size, upd H1 s1.heap.objs.size (.frz (tupO us) (.tup xs)), I1.laid (t' := s1.toks) (fun b u e => Heap.get?_push_of_some _ e) (Nat.le_refl _)
    (show ObjOk X.prog X.w _ _ _ (.frz (tupO us) (.tup xs)) from ⟨Heap.get?_push_size _ rfl, z, us, r, ⟨_, Heap.get?_push_size _ rfl, rfl, _, rfl⟩⟩), rfl, q _ us hf⟩
/-- t.index(y), t such a tuple of texts -/
def eIdxZ (te ty : TE) : TE := fun σ H Q => te σ H fun x H1 => ∃ (l : Addr) (its : List Value) (xs : List V), x = .ref l ∧ H1 l = some (.frz (tupO its) (.tup xs)) ∧ ty σ H1 fun y H2 =>
  ∃ (ys : List Str) (z : Str) (j : Nat), y = .str z ∧ Rd H2 l (.tup (ys.map V.str)) ∧ ys[j]? = some z ∧ (∀ m, m < j → ys[m]? ≠ some z) ∧ Q (.int (j : Nat)) H2
theorem pe_idxZ {X : Cx} {o e : Expr} {te ty : TE} {apos cpos : Pos} (ho : PE X o te) (he : PE X e ty) (m : M1 X o "index" apos e cpos) : PE X (.Call (.Attribute o "index" apos) [e] [] cpos) (eIdxZ te ty) := by
  refine ⟨fun pins s σ H Q I h => ?_⟩
  refine wpAny_Call_method m.base m.few m.line PySem.F.plainAttrs_tuple PySem.F.slot_tuple_index PySem.F.type_tuple_index (thn (ho.run pins s σ H _ I h) fun u s1 ⟨x, H1, I1, rx, l, its, xs, ex, hl, q1⟩ => ?_)
  subst ex
  obtain rfl : u = Value.ref l := rx
  have ob : s1.heap.get? l = some (tupO its) := (I1.hok l _ hl).1
  refine ⟨⟨_, ob, rfl⟩, fun b e => by cases e; exact ⟨_, ob, rfl⟩, ?_⟩
  rw [m.trees]
  refine Calls.callWith_builtin rfl (Calls.evalArgs_plain (Calls.spliced_cons (thn (he.run pins s1 σ H1 _ I1 q1) fun iv s2 ⟨y, H2, I2, ry, ys, z, j, ey, rd, a, b, q2⟩ => Calls.spliced_nil ?_)))
  subst ey
  exact mt_tup_index pins s2 σ H2 (.ref l) [.str z] (.ref l) [iv] Q I2 rfl (.cons ry .nil) ⟨l, ys, z, j, rfl, rfl, .inl rd, a, b, q2⟩
/-- ==, or two pairs that hold the same text and the same value or object -/
def rEqT (S : Sta) : R2 := fun x y H Q => rEqP S x y H Q ∨ ∃ a b z v, x = .ref a ∧ y = .ref b ∧ RdS S H a (.tup [.str z, v]) ∧ RdS S H b (.tup [.str z, v]) ∧ (flatB v = true ∨ ∃ d, v = .ref d) ∧ Q (.bl true) H
theorem eqAt_one {A : Around} {s : Shared} {v : V} {u u' : Value} (r : RelV v u) (r' : RelV v u') (f : flatB v = true ∨ ∃ d, v = .ref d) : SeqAt.EqAt A s u u' true := by
  rcases f with f | ⟨d, rfl⟩
  · exact eqAt_same r r' f
  · obtain rfl : u = Value.ref d := r
    obtain rfl : u' = Value.ref d := r'
    exact SeqAt.EqAt.same _
theorem o_eqT {X : Cx} {S : Sta} (st : S = SK X.K) (hu : X.A.units + 64 < cLine) : OpR X (compareOp .Eq) (rEqT S) := by
  intro pins s σ H x y v u Q I rx ry h
  rcases h with h | ⟨a, b, z, d, ex, ey, ha, hb, f, q⟩
  · exact o_eqP st hu pins s σ H x y v u Q I rx ry h
  subst ex
  subst ey
  obtain rfl : v = Value.ref a := rx
  obtain rfl : u = Value.ref b := ry
  subst st
  obtain ⟨its, r1, p1, _⟩ := I.tuple (show SqT X.K H a [.str z, d] from ha.elim .inl .inr)
  obtain ⟨its2, r2, p2, _⟩ := I.tuple (show SqT X.K H b [.str z, d] from hb.elim .inl .inr)
  obtain ⟨u1, u2, rfl, e1, e2⟩ := vals2 r1
  obtain ⟨w1, w2, rfl, e3, e4⟩ := vals2 r2
  refine SeqAt.eq_tupleAt (e := fun _ => true) p1 p2 (by omega) (fun j h1 h2 => ?_) ⟨.bl _, H, I, rfl, q⟩
  have h1 : j < 2 := h1
  rcases (show j = 0 ∨ j = 1 by omega) with rfl | rfl
  · exact eqAt_one e1 e3 (.inl rfl)
  · exact eqAt_one e2 e4 f
end Y

/-! Symbolic execution of readings: what is known of a heap (FH), one rule a construct. -/
namespace Y
open PySem PySem.Spec PyProof.Rows L2

/-! ### what is known of a heap -/
/-- tuples stay -/
def Per (H H' : Hp) : Prop := ∀ t xs, H t = some (.tup xs) → H' t = some (.tup xs)
theorem Per.refl (H : Hp) : Per H H := fun _ _ h => h
theorem per_new {H : Hp} {p : Addr} {o : HO} (h : H p = none) : Per H (upd H p o) := fun t xs e => (upd_ne (ne_of_none e h)).trans e
def NoTup : HO → Prop
  | .tup _ => False
  | _ => True
theorem per_put {H : Hp} {p : Addr} {o o' : HO} (h : H p = some o) (n : NoTup o) : Per H (upd H p o') := fun t xs e => by
  refine (upd_ne ?_).trans e
  intro z
  subst z
  rw [h] at e
  cases e
  exact n
/-- a statement of the object at an address and of the objects that it owns -/
structure Pr where
  s : Addr → Hp → List Addr → Prop
  loc : ∀ {p H H' ks}, s p H ks → (∀ a ∈ ks, H' a = H a) → Per H H' → s p H' ks
  liv : ∀ {p H ks}, s p H ks → ∀ a ∈ ks, H a ≠ none
  key : ∀ {p H ks}, s p H ks → p ∈ ks
abbrev Ent := Addr × Pr
inductive FHs (H : Hp) : List Ent → List Addr → Prop
  | nil : FHs H [] []
  | cons {p φ k L ks} (h : φ.s p H k) (r : FHs H L ks) (nd : k.Nodup) (dj : ∀ a ∈ k, a ∉ ks) : FHs H ((p, φ) :: L) (k ++ ks)
class FH (H : Hp) (L : outParam (List Ent)) : Prop where
  ex : ∃ ks, FHs H L ks
/-- of the object alone -/
def lift (φ : HO → Prop) : Pr where
  s := fun p H ks => ks = [p] ∧ ∃ o, H p = some o ∧ φ o
  loc := fun {p H H' ks} ⟨e, o, h, hφ⟩ k _ => ⟨e, o, (k p (by rw [e]; exact List.mem_cons_self)).trans h, hφ⟩
  liv := fun {p H ks} ⟨e, o, h, _⟩ a m => by
    rw [e] at m
    have e2 : a = p := by simpa using m
    rw [e2, h]
    simp
  key := fun {p H ks} ⟨e, _⟩ => by rw [e]; exact List.mem_cons_self
def Is (o : HO) : Pr := lift fun x => x = o
/-- a list that is read: tracked or locked -/
def IsR (xs : List V) : Pr := lift fun x => x = .lst xs ∨ ∃ o, x = .frz o (.lst xs)
inductive Put (p : Addr) (φ φ' : Pr) : List Ent → List Ent → Prop where
  | here {L} : Put p φ φ' ((p, φ) :: L) ((p, φ') :: L)
  | there {q L L'} (h : Put p φ φ' L L') : Put p φ φ' (q :: L) (q :: L')
section
variable {H H' : Hp} {L L' R : List Ent} {p q : Addr} {o o' : HO} {φ φ' : Pr} {xs : List V} {ks : List Addr} {x y : Ent}
theorem FHs.liv (F : FHs H L ks) : ∀ a ∈ ks, H a ≠ none := by
  induction F with
  | nil => intro a m; cases m
  | cons h r nd dj ih => exact fun a m => (List.mem_append.mp m).elim (Pr.liv _ h a) (ih a)
theorem FHs.keep (F : FHs H L ks) (k : ∀ a ∈ ks, H' a = H a) (e : Per H H') : FHs H' L ks := by
  induction F with
  | nil => exact .nil
  | cons h r nd dj ih => exact .cons (Pr.loc _ h (fun a m => k a (List.mem_append_left _ m)) e) (ih fun a m => k a (List.mem_append_right _ m)) nd dj
theorem FHs.nodup (F : FHs H L ks) : ks.Nodup := by
  induction F with
  | nil => exact List.nodup_nil
  | cons h r nd dj ih => exact List.nodup_append.mpr ⟨nd, ih, fun a m b m' e => dj a m (e ▸ m')⟩
theorem FHs.mem (F : FHs H L ks) (m : (p, φ) ∈ L) : ∃ k, φ.s p H k ∧ ∀ a ∈ k, a ∈ ks := by
  induction F with
  | nil => cases m
  | cons h r nd dj ih =>
    rcases List.mem_cons.mp m with e | m
    · cases e
      exact ⟨_, h, fun a m => List.mem_append_left _ m⟩
    · obtain ⟨k, h1, h2⟩ := ih m
      exact ⟨k, h1, fun a m => List.mem_append_right _ (h2 a m)⟩
theorem FHs.perm (F : FHs H L ks) (e : L.Perm L') : ∃ ks', FHs H L' ks' ∧ ks.Perm ks' := by
  induction e generalizing ks with
  | nil => exact ⟨_, F, List.Perm.refl _⟩
  | cons x _ ih =>
    cases F with
    | cons h r nd dj =>
      obtain ⟨ks', r', e'⟩ := ih r
      exact ⟨_, .cons h r' nd (fun a m m' => dj a m (e'.mem_iff.mpr m')), e'.append_left _⟩
  | swap x y l =>
    cases F with
    | cons h r nd dj =>
      cases r with
      | @cons p2 φ2 k2 L2 ks2 h2 r2 nd2 dj2 =>
        rename_i k1
        refine ⟨_, .cons h2 (.cons h r2 nd fun a m m' => dj a m (List.mem_append_right _ m')) nd2 fun a m m' => ?_, ?_⟩
        · rcases List.mem_append.mp m' with m' | m'
          · exact dj a m' (List.mem_append_left _ m)
          · exact dj2 a m m'
        · rw [← List.append_assoc, ← List.append_assoc]
          exact List.perm_append_comm.append_right _
  | trans _ _ ih1 ih2 =>
    obtain ⟨k1, F1, e1⟩ := ih1 F
    obtain ⟨k2, F2, e2⟩ := ih2 F1
    exact ⟨k2, F2, e1.trans e2⟩
theorem FHs.app {A B : List Ent} : ∀ {ks : List Addr}, FHs H (A ++ B) ks → ∃ k1 k2, FHs H A k1 ∧ FHs H B k2 ∧ ks = k1 ++ k2 := by
  induction A with
  | nil => exact fun {ks} F => ⟨[], ks, .nil, F, rfl⟩
  | cons x A ih =>
    intro ks F
    cases F with
    | cons h r nd dj =>
      obtain ⟨k1, k2, F1, F2, e⟩ := ih r
      subst e
      exact ⟨_, k2, .cons h F1 nd (fun a m m' => dj a m (List.mem_append_left _ m')), F2, (List.append_assoc _ _ _).symm⟩
theorem FHs.join {A B : List Ent} {k1 k2 : List Addr} (F1 : FHs H A k1) (F2 : FHs H B k2) (dj : ∀ a ∈ k1, a ∉ k2) : FHs H (A ++ B) (k1 ++ k2) := by
  induction F1 with
  | nil => exact F2
  | cons h r nd dj' ih =>
    rw [List.append_assoc]
    refine .cons h (ih fun a m => dj a (List.mem_append_right _ m)) nd fun a m m' => ?_
    rcases List.mem_append.mp m' with m' | m'
    · exact dj' a m m'
    · exact dj a (List.mem_append_left _ m) m'
theorem FHs.sub (F : FHs H L ks) (s : L'.Sublist L) : ∃ ks', FHs H L' ks' ∧ ks'.Sublist ks := by
  induction s generalizing ks with
  | slnil => exact ⟨_, F, List.Sublist.refl _⟩
  | cons x _ ih =>
    cases F with
    | cons h r nd dj =>
      obtain ⟨ks', r', e'⟩ := ih r
      exact ⟨ks', r', e'.trans (List.sublist_append_right _ _)⟩
  | cons_cons x _ ih =>
    cases F with
    | cons h r nd dj =>
      obtain ⟨ks', r', e'⟩ := ih r
      exact ⟨_, .cons h r' nd (fun a m m' => dj a m (e'.subset m')), (List.Sublist.refl _).append e'⟩
theorem FH.is (F : FH H L) {φ : HO → Prop} (m : (p, lift φ) ∈ L) : ∃ o, H p = some o ∧ φ o := by
  obtain ⟨ks, F⟩ := F.ex
  obtain ⟨k, ⟨_, h⟩, _⟩ := F.mem m
  exact h
theorem FH.get (F : FH H L) (m : (p, Is o) ∈ L) : H p = some o := by
  obtain ⟨o', h, e⟩ := F.is m
  exact h.trans (congrArg some e)
theorem FH.getR (F : FH H L) (m : (p, IsR xs) ∈ L) : Rd H p (.lst xs) := by
  obtain ⟨o', h, e | ⟨o, e⟩⟩ := F.is m
  · subst e; exact .inl h
  · subst e; exact .inr ⟨o, h⟩
theorem RdS.of {S : Sta} {u : HO} (h : Rd H p u) : RdS S H p u := .inl h
theorem FHs.other (F : FHs H L ks) (h : H p = none) : FHs (upd H p o) L ks := F.keep (fun a m => upd_ne fun e => F.liv a m (by rw [e]; exact h)) (per_new h)
theorem FH.other (F : FH H L) (h : H p = none) : FH (upd H p o) L := by
  obtain ⟨ks, F⟩ := F.ex
  exact ⟨ks, F.other h⟩
theorem FH.new (F : FH H L) (h : H p = none) : FH (upd H p o) ((p, Is o) :: L) := by
  obtain ⟨ks, F⟩ := F.ex
  refine ⟨[p] ++ ks, .cons ⟨rfl, o, upd_same, rfl⟩ (F.other h) (by simp) fun a m m' => ?_⟩
  have e : a = p := by simpa using m
  exact F.liv a m' (by rw [e]; exact h)
theorem Put.mem (m : Put p φ φ' L L') : (p, φ) ∈ L := by
  induction m with
  | here => exact List.mem_cons_self
  | there _ ih => exact List.mem_cons_of_mem _ ih
theorem Put.perm (m : Put p φ φ' L L') : ∃ R, L.Perm ((p, φ) :: R) ∧ L'.Perm ((p, φ') :: R) := by
  induction m with
  | @here L => exact ⟨L, List.Perm.refl _, List.Perm.refl _⟩
  | @there q _ _ _ ih =>
    obtain ⟨R, h1, h2⟩ := ih
    exact ⟨q :: R, (h1.cons _).trans (List.Perm.swap _ _ _), (h2.cons _).trans (List.Perm.swap _ _ _)⟩
theorem FHs.put (F : FHs H L ks) (m : Put p (Is o) (Is o') L L') (n : NoTup o) (h : H p = some o) : FHs (upd H p o') L' ks := by
  induction m generalizing ks with
  | here =>
    cases F with
    | cons h' r nd dj =>
      obtain ⟨e, _⟩ := h'
      subst e
      exact .cons ⟨rfl, o', upd_same, rfl⟩ (r.keep (fun a m => upd_ne fun e => dj a (by rw [e]; exact List.mem_cons_self) m) (per_put h n)) nd dj
  | there m ih =>
    cases F with
    | @cons p1 φ1 k1 L1 ks1 h' r nd dj =>
      have hp : p ∈ ks1 := by
        obtain ⟨k, hk, hs⟩ := r.mem m.mem
        exact hs p (Pr.key _ hk)
      exact .cons (Pr.loc _ h' (fun a m => upd_ne fun e => dj a m (by rw [e]; exact hp)) (per_put h n)) (ih r) nd dj
/-- a table of code objects, which it owns -/
def TabE (q : Str) : Pr where
  s := fun p H ks => ∃ cs, ks = p :: cs ∧ TabC H p q cs
  loc := fun {p H H' ks} ⟨cs, e, ⟨ps, h1, h2, h3⟩, h4⟩ k _ => ⟨cs, e, ⟨ps, (k p (by rw [e]; exact List.mem_cons_self)).trans h1, h2, h3⟩, fun c m => (k c (by rw [e]; exact List.mem_cons_of_mem _ m)).trans (h4 c m)⟩
  liv := fun {p H ks} ⟨cs, e, ⟨ps, h1, h2, h3⟩, h4⟩ a m => by
    rw [e] at m
    rcases List.mem_cons.mp m with z | z
    · rw [z, h1]; simp
    · rw [h4 a z]; simp
  key := fun {p H ks} ⟨cs, e, _⟩ => by rw [e]; exact List.mem_cons_self
theorem Grew.per {P : Addr} {q : Str} (g : Grew P q H H') : Per H H' := fun t xs e => g.non e fun _ z => by cases z
theorem Grew.stay {P : Addr} {q : Str} (g : Grew P q H H') {a : Addr} (n : a ≠ P) (l : H a ≠ none) : H' a = H a := by
  rcases g with e | ⟨ps, ps', c, hP, hc, e, _, _⟩
  · rw [e]
  · rw [e, upd_ne (fun z => l (by rw [z]; exact hc)), upd_ne n]
theorem FHs.grew {P : Addr} {q : Str} (F : FHs H L ks) (m : (P, TabE q) ∈ L) (g : Grew P q H H') : ∃ ks', FHs H' L ks' ∧ ∀ a ∈ ks', a ∈ ks ∨ H a = none := by
  induction F with
  | nil => cases m
  | @cons p1 φ1 k1 L1 ks1 h r nd dj ih =>
    by_cases e : (p1, φ1) = (P, TabE q)
    · cases e
      obtain ⟨cs, ek, ⟨ps, h1, h2, h3⟩, h4⟩ := h
      subst ek
      have far : ∀ a ∈ ks1, H' a = H a := fun a m => g.stay (fun z => dj P List.mem_cons_self (z ▸ m)) (r.liv a m)
      rcases g with e | ⟨ps0, ps', c, hP, hc, e, tk, ht⟩
      · subst e
        exact ⟨_, .cons ⟨cs, rfl, ⟨ps, h1, h2, h3⟩, h4⟩ r nd dj, fun a m => .inl m⟩
      · have e0 : ps0 = ps := by rw [h1] at hP; cases hP; rfl
        subst e0
        have nPc : P ≠ c := ne_of_none h1 hc
        have old : ∀ d ∈ cs, H' d = some (LamX.CodeO d q) := fun d m => by
          have nd2 : d ≠ P := fun z => by
            rw [z] at m
            exact (List.nodup_cons.mp nd).1 m
          rw [e, upd_ne (ne_of_none (h4 d m) hc), upd_ne nd2]
          exact h4 d m
        have cn : c ∉ cs := fun m => by rw [h4 c m] at hc; cases hc
        refine ⟨(P :: c :: cs) ++ ks1, .cons ⟨c :: cs, rfl, ⟨ps', by rw [e, upd_ne nPc, upd_same], tk, fun pos cv hv => ?_⟩, fun d m => ?_⟩ (r.keep far (Grew.per (P := P) (q := q) (Or.inr ⟨ps0, ps', c, hP, hc, e, tk, ht⟩))) ?_ fun a m m' => ?_, fun a m => ?_⟩
        · rcases ht pos cv hv with z | z
          · obtain ⟨d, m, ed⟩ := h3 pos cv z
            exact ⟨d, List.mem_cons_of_mem _ m, ed⟩
          · exact ⟨c, List.mem_cons_self, z⟩
        · rcases List.mem_cons.mp m with z | z
          · rw [z, e, upd_same]
          · exact old d z
        · obtain ⟨n1, n2⟩ := List.nodup_cons.mp nd
          exact List.nodup_cons.mpr ⟨fun m => (List.mem_cons.mp m).elim nPc n1, List.nodup_cons.mpr ⟨cn, n2⟩⟩
        · rcases List.mem_cons.mp m with z | z
          · exact dj a (by rw [z]; exact List.mem_cons_self) m'
          · rcases List.mem_cons.mp z with z | z
            · exact r.liv a m' (by rw [z]; exact hc)
            · exact dj a (List.mem_cons_of_mem _ z) m'
        · rcases List.mem_append.mp m with m | m
          · rcases List.mem_cons.mp m with z | z
            · exact .inl (List.mem_append_left _ (by rw [z]; exact List.mem_cons_self))
            · rcases List.mem_cons.mp z with z | z
              · exact .inr (by rw [z]; exact hc)
              · exact .inl (List.mem_append_left _ (List.mem_cons_of_mem _ z))
          · exact .inl (List.mem_append_right _ m)
    · have m2 : (P, TabE q) ∈ L1 := (List.mem_cons.mp m).elim (fun z => absurd z.symm e) id
      obtain ⟨ks', r', sub⟩ := ih m2
      have hp : P ∈ ks1 := by
        obtain ⟨k, hk, hs⟩ := r.mem m2
        exact hs P (Pr.key _ hk)
      refine ⟨k1 ++ ks', .cons (Pr.loc _ h (fun a m => g.stay (fun z => dj a m (z ▸ hp)) (Pr.liv _ h a m)) g.per) r' nd fun a m m' => ?_, fun a m => ?_⟩
      · exact (sub a m').elim (dj a m) (Pr.liv _ h a m)
      · exact (List.mem_append.mp m).elim (fun m => .inl (List.mem_append_left _ m)) fun m => (sub a m).imp (fun z => List.mem_append_right _ z) id
theorem FH.grew {P : Addr} {q : Str} (F : FH H L) (m : (P, TabE q) ∈ L) (g : Grew P q H H') : FH H' L := by
  obtain ⟨ks, F⟩ := F.ex
  obtain ⟨ks', F', _⟩ := F.grew m g
  exact ⟨_, F'⟩
theorem FH.tab {P : Addr} {q : Str} (F : FH H L) (m : (P, TabE q) ∈ L) : ∃ cs, TabC H P q cs := by
  obtain ⟨ks, F⟩ := F.ex
  obtain ⟨k, ⟨cs, _, h⟩, _⟩ := F.mem m
  exact ⟨cs, h⟩
theorem FH.put (F : FH H L) (m : Put p (Is o) (Is o') L L') (n : NoTup o) : FH (upd H p o') L' := by
  have h := F.get m.mem
  obtain ⟨ks, F⟩ := F.ex
  exact ⟨ks, F.put m n h⟩
theorem FHs.weak (F : FHs H L ks) (m : Put p φ φ' L L') (i : ∀ k, φ.s p H k → φ'.s p H k) : FHs H L' ks := by
  induction m generalizing ks with
  | here =>
    cases F with
    | cons h' r nd dj => exact .cons (i _ h') r nd dj
  | there m ih =>
    cases F with
    | cons h' r nd dj => exact .cons h' (ih r) nd dj
/-- an entry says something else -/
theorem FH.weak (F : FH H L) (m : Put p φ φ' L L') (i : ∀ k, φ.s p H k → φ'.s p H k) : FH H L' := by
  obtain ⟨ks, F⟩ := F.ex
  exact ⟨ks, F.weak m i⟩
theorem FH.open_ {φ : HO → Prop} (F : FH H L) (m : (p, lift φ) ∈ L) : ∃ o, φ o ∧ ∀ L', Put p (lift φ) (Is o) L L' → FH H L' := by
  obtain ⟨o, h, hφ⟩ := F.is m
  exact ⟨o, hφ, fun L' pu => F.weak pu fun k ⟨e, _⟩ => ⟨e, o, h, rfl⟩⟩
theorem FH.close {φ : HO → Prop} (F : FH H L) (hφ : φ o) (pu : Put p (Is o) (lift φ) L L') : FH H L' := F.weak pu fun k ⟨e, o', h, e'⟩ => ⟨e, o', h, by rw [e']; exact hφ⟩
theorem FH.sub (F : FH H L) (s : L'.Sublist L) : FH H L' := by
  obtain ⟨ks, F⟩ := F.ex
  obtain ⟨ks', F', _⟩ := F.sub s
  exact ⟨ks', F'⟩
theorem FH.tail (F : FH H (x :: L)) : FH H L := F.sub (List.sublist_cons_self _ _)
theorem FH.one {x : Ent} (F : FH H L) (m : x ∈ L) : FH H [x] := F.sub (List.singleton_sublist.mpr m)
theorem FH.perm (F : FH H L) (e : L.Perm L') : FH H L' := by
  obtain ⟨ks, F⟩ := F.ex
  obtain ⟨ks', F', _⟩ := F.perm e
  exact ⟨ks', F'⟩
theorem FH.nil : FH H [] := ⟨[], .nil⟩
/-- an entry to the front -/
theorem pull (m : x ∈ L) : ∃ R, L.Perm (x :: R) := by
  obtain ⟨s, t, e⟩ := List.append_of_mem m
  subst e
  exact ⟨s ++ t, List.perm_middle⟩
theorem pull2 (m : x ∈ L) (m' : y ∈ L) (ne : x.1 ≠ y.1) : ∃ R, L.Perm (x :: y :: R) := by
  obtain ⟨R, h⟩ := pull m
  have m2 := h.mem_iff.mp m'
  rcases List.mem_cons.mp m2 with e | m2
  · exact absurd (congrArg Prod.fst e).symm ne
  · obtain ⟨R', h'⟩ := pull m2
    exact ⟨R', h.trans (h'.cons _)⟩
theorem FH.diff {φ ψ : HO → Prop} (F : FH H L) (m : (p, lift φ) ∈ L) (m' : (q, lift ψ) ∈ L) (h : ∀ o, φ o → ψ o → False) : p ≠ q := by
  intro e
  subst e
  obtain ⟨o, h1, ho⟩ := F.is m
  obtain ⟨o', h2, ho'⟩ := F.is m'
  rw [h1] at h2
  cases h2
  exact h o ho ho'
/-! a thing of several objects -/
def comp {α : Type} (E : Addr → α → List Ent) (P : α → Prop) : Pr where
  s := fun p H ks => p ∈ ks ∧ ∃ a, P a ∧ FHs H (E p a) ks
  loc := fun {p H H' ks} ⟨m, a, h, F⟩ k e => ⟨m, a, h, F.keep k e⟩
  liv := fun {p H ks} ⟨m, a, h, F⟩ => F.liv
  key := fun {p H ks} ⟨m, _⟩ => m
theorem FH.unfold {α : Type} {E : Addr → α → List Ent} {P : α → Prop} (F : FH H ((p, comp E P) :: L)) : ∃ a, P a ∧ FH H (E p a ++ L) := by
  obtain ⟨ks, F⟩ := F.ex
  cases F with
  | cons h r nd dj =>
    obtain ⟨m, a, hp, F'⟩ := h
    exact ⟨a, hp, _, F'.join r dj⟩
theorem FH.fold {α : Type} {E : Addr → α → List Ent} {P : α → Prop} (a : α) (hp : P a) (F : FH H (E p a ++ L)) (m : p ∈ (E p a).map (·.1)) : FH H ((p, comp E P) :: L) := by
  obtain ⟨ks, F⟩ := F.ex
  obtain ⟨k1, k2, F1, F2, e⟩ := F.app
  subst e
  have nd := List.nodup_append.mp (F1.join F2 (fun a m m' => (List.nodup_append.mp F.nodup).2.2 a m a m' rfl)).nodup
  obtain ⟨x, hx, ex⟩ := List.mem_map.mp m
  obtain ⟨k, hk, hs⟩ := F1.mem (p := x.1) (φ := x.2) hx
  exact ⟨k1 ++ k2, .cons ⟨by rw [← ex]; exact hs _ (Pr.key _ hk), a, hp, F1⟩ F2 nd.1 fun a m m' => nd.2.2 a m a m' rfl⟩
end
/-- x is taken out of L -/
inductive Take (x : Ent) : List Ent → List Ent → Prop where
  | here {L} : Take x (x :: L) L
  | there {y L L'} (h : Take x L L') : Take x (y :: L) (y :: L')
/-- some of L, in any order -/
inductive Sel : List Ent → List Ent → Prop where
  | nil {L} : Sel [] L
  | all {L} : Sel L L
  | cons {x R L L'} (h : Take x L L') (s : Sel R L') : Sel (x :: R) L
  | drop {x R L} (s : Sel R L) : Sel R (x :: L)
theorem Take.perm {x : Ent} {L L' : List Ent} (h : Take x L L') : L.Perm (x :: L') := by
  induction h with
  | here => exact List.Perm.refl _
  | there _ ih => exact (ih.cons _).trans (List.Perm.swap _ _ _)
theorem Sel.ok {R L : List Ent} (s : Sel R L) : ∃ M, L.Perm (R ++ M) := by
  induction s with
  | nil => exact ⟨_, List.Perm.refl _⟩
  | all => exact ⟨[], by rw [List.append_nil]⟩
  | cons h _ ih =>
    obtain ⟨M, e⟩ := ih
    exact ⟨M, h.perm.trans (e.cons _)⟩
  | @drop x _ _ _ ih =>
    obtain ⟨M, e⟩ := ih
    exact ⟨x :: M, (e.cons x).trans List.perm_middle.symm⟩
theorem FH.sel {H : Hp} {L R : List Ent} (F : FH H L) (s : Sel R L) : FH H R := by
  obtain ⟨M, e⟩ := s.ok
  exact (F.perm e).sub (List.sublist_append_left _ _)

/-! ### one rule a construct -/
abbrev K0 := L2.St → Hp → Prop
section
variable {σ : L2.St} {H H' : Hp} {Q : VK} {QB : Bool → Hp → Prop} {QL : List V → Hp → Prop} {QO : Option Int → Hp → Prop} {QS : L2.St → Hp → Prop} {te ta tb tc : TE} {t u : TT} {tl : TA} {r r' : R2} {rc : List V → Hp → VK → Prop} {s1 s2 : TS} {nx bk ct : K0} {rt : VK} {v x y : V} {g : TG} {i j : Int} {b : Bool} {E : XK} {sp : Sp} {C : Addr} {P : Prop} [Decidable P] {A B : Prop} {S : Sta}
theorem is_var {n : Nat} (h : tVar n σ H Q) : tVar n σ H Q := h
theorem is_g {n : Nat} (h : gName n v σ H QS) : gName n v σ H QS := h
theorem is_au {n : Nat} {te : TE} {ti : TIp} {D : Ends} (h : tAug n te ti D σ H) : tAug n te ti D σ H := h
theorem is_ml {n : Nat} {D : List V} (h : eMakeL n C sp D E tl σ H Q) : eMakeL n C sp D E tl σ H Q := h
theorem is_isi {l : List V} (h : rIsI l H Q) : rIsI l H Q := h
theorem is_pow (h : rPow x y H Q) : rPow x y H Q := h
theorem is_ix (h : rIx S x y H Q) : rIx S x y H Q := h
theorem is_len {l : List V} (h : rLen S l H Q) : rLen S l H Q := h
theorem is_sl {x : V} {lo hi : Option Int} (h : rSl S x lo hi H Q) : rSl S x lo hi H Q := h
theorem is_eq (h : rEq x y H Q) : rEq x y H Q := h
theorem is_ne (h : rNe x y H Q) : rNe x y H Q := h
theorem is_is (h : rIs x y H Q) : rIs x y H Q := h
theorem is_isn (h : rIsNot x y H Q) : rIsNot x y H Q := h
theorem x_c (h : Q v H) : tC v σ H Q := h
theorem x_con (h : Q v H) : eCon v σ H Q := h
theorem x_op (h : ta σ H fun x H1 => tb σ H1 fun y H2 => r x y H2 Q) : tOp r ta tb σ H Q := h
theorem x_un {ru : V → Hp → VK → Prop} (h : ta σ H fun x H1 => ru x H1 Q) : tUn ru ta σ H Q := h
theorem x_add (h : Q (.int (i + j)) H) : rAdd (.int i) (.int j) H Q := .inl ⟨i, j, rfl, rfl, h⟩
theorem x_sub (h : Q (.int (i - j)) H) : rSub (.int i) (.int j) H Q := ⟨i, j, rfl, rfl, h⟩
theorem x_mul (c : CMul i j) (h : Q (.int (i * j)) H) : rMul (.int i) (.int j) H Q := ⟨i, j, rfl, rfl, c, h⟩
theorem x_fdiv (c : CDivW i j) (h : Q (.int (i / j)) H) : rFdiv (.int i) (.int j) H Q := ⟨i, j, rfl, rfl, c, h⟩
theorem x_mod (c : 0 < j) (h : Q (.int (i % j)) H) : rMod (.int i) (.int j) H Q := ⟨i, j, rfl, rfl, c, h⟩
theorem x_pow (c : CPow i j) (h : Q (.int (i ^ j.toNat)) H) : rPow (.int i) (.int j) H Q := ⟨i, j, rfl, rfl, c, h⟩
theorem x_shl (c : CPow i j) (h : Q (.int (i * 2 ^ j.toNat)) H) : rShl (.int i) (.int j) H Q := ⟨i, j, rfl, rfl, c, h⟩
theorem x_band (h : Q (.int (Builtin.bitAnd i j)) H) : rAnd (.int i) (.int j) H Q := ⟨i, j, rfl, rfl, h⟩
theorem x_neg (h : Q (.int (-i)) H) : rNeg (.int i) H Q := ⟨i, rfl, h⟩
theorem x_lt (h : Q (.bl (decide (i < j))) H) : rLt (.int i) (.int j) H Q := ⟨i, j, rfl, rfl, h⟩
theorem x_le (h : Q (.bl (decide (i ≤ j))) H) : rLe (.int i) (.int j) H Q := ⟨i, j, rfl, rfl, h⟩
theorem x_gt (h : Q (.bl (decide (j < i))) H) : rGt (.int i) (.int j) H Q := ⟨i, j, rfl, rfl, h⟩
theorem x_ge (h : Q (.bl (decide (j ≤ i))) H) : rGe (.int i) (.int j) H Q := ⟨i, j, rfl, rfl, h⟩
theorem x_eqI (h : Q (.bl (decide (i = j))) H) : rEq (.int i) (.int j) H Q := ⟨rfl, by rw [show decide (V.int i = V.int j) = decide (i = j) by rw [Bool.eq_iff_iff]; simp]; exact h⟩
theorem x_neI (h : Q (.bl (decide (i ≠ j))) H) : rNe (.int i) (.int j) H Q := ⟨rfl, by rw [show (!decide (V.int i = V.int j)) = decide (i ≠ j) by rw [Bool.eq_iff_iff]; simp]; exact h⟩
theorem x_eqB {a b : Bool} (h : Q (.bl (decide (a = b))) H) : rEq (.bl a) (.bl b) H Q := ⟨rfl, by rw [show decide (V.bl a = V.bl b) = decide (a = b) by rw [Bool.eq_iff_iff]; simp]; exact h⟩
theorem x_neB {a b : Bool} (h : Q (.bl (decide (a ≠ b))) H) : rNe (.bl a) (.bl b) H Q := ⟨rfl, by rw [show (!decide (V.bl a = V.bl b)) = decide (a ≠ b) by rw [Bool.eq_iff_iff]; simp]; exact h⟩
theorem x_eqS {a b : Str} (h : Q (.bl (decide (a = b))) H) : rEq (.str a) (.str b) H Q := ⟨rfl, by rw [show decide (V.str a = V.str b) = decide (a = b) by rw [Bool.eq_iff_iff]; simp]; exact h⟩
theorem x_neS {a b : Str} (h : Q (.bl (decide (a ≠ b))) H) : rNe (.str a) (.str b) H Q := ⟨rfl, by rw [show (!decide (V.str a = V.str b)) = decide (a ≠ b) by rw [Bool.eq_iff_iff]; simp]; exact h⟩
theorem x_isN (h : Q (.bl true) H) : rIs .non .non H Q := ⟨rfl, h⟩
theorem x_isnN (h : Q (.bl false) H) : rIsNot .non .non H Q := ⟨rfl, h⟩
theorem x_isI (h : Q (.bl false) H) : rIs (.int i) .non H Q := ⟨rfl, h⟩
theorem x_isnI (h : Q (.bl true) H) : rIsNot (.int i) .non H Q := ⟨rfl, h⟩
theorem x_isR (h : Q (.bl false) H) : rIs (.ref C) .non H Q := ⟨rfl, h⟩
theorem x_isnR (h : Q (.bl true) H) : rIsNot (.ref C) .non H Q := ⟨rfl, h⟩
theorem x_isB (h : Q (.bl false) H) : rIs (.bl b) .non H Q := ⟨rfl, h⟩
theorem x_isnB (h : Q (.bl true) H) : rIsNot (.bl b) .non H Q := ⟨rfl, h⟩
/-! tests -/
theorem x_test (h : te σ H fun x H' => ∃ k, x = .bl k ∧ QB k H') : tTest te σ H QB := h
theorem x_tB (h : te σ H fun x H' => ∃ k, x = .bl k ∧ QB k H') : tB te σ H QB := h
theorem x_bl {QK : Bool → Prop} (h : QK b) : ∃ k, V.bl b = .bl k ∧ QK k := ⟨b, rfl, h⟩
theorem x_not (h : t σ H fun c H1 => QB (!c) H1) : tNot t σ H QB := h
theorem x_and (h : t σ H fun c H1 => if c = true then u σ H1 QB else QB false H1) : tAnd t u σ H QB := h
theorem x_or (h : t σ H fun c H1 => if c = true then QB true H1 else u σ H1 QB) : tOr t u σ H QB := h
theorem x_andV (h : ta σ H fun x H1 => ∃ c, x = .bl c ∧ if c = true then tb σ H1 Q else Q (.bl false) H1) : tAndV ta tb σ H Q := h
theorem x_orV (h : ta σ H fun x H1 => ∃ c, x = .bl c ∧ if c = true then Q (.bl true) H1 else tb σ H1 Q) : tOrV ta tb σ H Q := h
theorem x_notV (h : ta σ H fun x H1 => ∃ c, x = .bl c ∧ Q (.bl (!c)) H1) : tNotV ta σ H Q := h
theorem x_tIf (h : t σ H fun c H1 => if c = true then ta σ H1 Q else tb σ H1 Q) : tIf t ta tb σ H Q := h
theorem x_chain (h : ta σ H fun x H1 => tb σ H1 fun y H2 => r x y H2 fun z H3 => ∃ k, z = .bl k ∧ (if k = true then tc σ H3 fun w' H4 => r' y w' H4 Q else Q (.bl false) H3)) : tChain r r' ta tb tc σ H Q := h
/-! decisions -/
theorem x_ite (h1 : P → A) (h2 : ¬ P → B) : if decide P = true then A else B := by
  by_cases h : P
  · rw [if_pos (decide_eq_true h)]; exact h1 h
  · rw [if_neg (by rw [decide_eq_false h]; exact Bool.false_ne_true)]; exact h2 h
theorem x_niteP (h1 : ¬ P → A) (h2 : P → B) : if (!decide P) = true then A else B := by
  by_cases h : P
  · rw [decide_eq_true h, if_neg (by simp)]; exact h2 h
  · rw [decide_eq_false h, if_pos (by simp)]; exact h1 h
theorem x_iteT (h : A) : if true = true then A else B := by rw [if_pos rfl]; exact h
theorem x_iteF (h : B) : if false = true then A else B := by rw [if_neg Bool.false_ne_true]; exact h
theorem x_niteT (h : B) : if (!true) = true then A else B := x_iteF h
theorem x_niteF (h : A) : if (!false) = true then A else B := x_iteT h
theorem x_itec (h1 : b = true → A) (h2 : b = false → B) : if b = true then A else B := by
  cases b with
  | true => exact x_iteT (h1 rfl)
  | false => exact x_iteF (h2 rfl)
theorem x_nitec (h1 : b = false → A) (h2 : b = true → B) : if (!b) = true then A else B := by
  cases b with
  | true => exact x_iteF (h2 rfl)
  | false => exact x_iteT (h1 rfl)
/-! statements -/
theorem x_seq (h : s1 ⟨s2 ⟨nx, rt, bk, ct⟩, rt, bk, ct⟩ σ H) : tSeq s1 s2 ⟨nx, rt, bk, ct⟩ σ H := h
theorem x_next (h : nx σ H) : tNext ⟨nx, rt, bk, ct⟩ σ H := h
theorem x_brk (h : bk σ H) : tBreak ⟨nx, rt, bk, ct⟩ σ H := h
theorem x_cont (h : ct σ H) : tCont ⟨nx, rt, bk, ct⟩ σ H := h
theorem x_drop (h : te σ H fun _ H1 => nx σ H1) : tDrop te ⟨nx, rt, bk, ct⟩ σ H := h
theorem x_ret (h : te σ H rt) : tRet te ⟨nx, rt, bk, ct⟩ σ H := h
theorem x_retN (h : rt .non H) : tRetN ⟨nx, rt, bk, ct⟩ σ H := h
theorem x_ifS (h : t σ H fun b H1 => if b = true then s1 ⟨nx, rt, bk, ct⟩ σ H1 else s2 ⟨nx, rt, bk, ct⟩ σ H1) : tIfS t s1 s2 ⟨nx, rt, bk, ct⟩ σ H := h
theorem x_asg (h : te σ H fun x H1 => g x σ H1 nx) : tAsg te g ⟨nx, rt, bk, ct⟩ σ H := h
theorem x_augA (h : Q (.int (i + j)) H) : rAug (.int i) (.int j) H Q := ⟨i, j, rfl, rfl, h⟩
theorem x_augS (h : Q (.int (i - j)) H) : rAugS (.int i) (.int j) H Q := ⟨i, j, rfl, rfl, h⟩
/-! calls, displays -/
theorem x_nil (h : QL [] H) : tNil σ H QL := h
theorem x_cons (h : ta σ H fun x H1 => tl σ H1 fun xs H2 => QL (x :: xs) H2) : tCons ta tl σ H QL := h
theorem x_cb (h : tl σ H fun vs H1 => rc vs H1 Q) : tCB rc tl σ H Q := h
theorem x_call (h : tl σ H fun vs H1 => sp (vs ++ []) H1 Q E) : tCall sp [] E tl σ H Q := h
theorem x_chn {tl : TC} (h : ta σ H fun x H1 => tl σ x H1 Q) : tChn ta tl σ H Q := h
theorem x_clast (h : tb σ H fun y H1 => r x y H1 Q) : cLast r tb σ x H Q := h
theorem x_clink {tl : TC} (h : tb σ H fun y H1 => r x y H1 fun z H2 => ∃ k, z = .bl k ∧ (if k = true then tl σ y H2 Q else Q (.bl false) H2)) : cLink r tb tl σ x H Q := h
theorem x_bits (h : Q (.int (Builtin.Int.intBits i : Nat)) H) : rBits (.int i) H Q := ⟨i, rfl, h⟩
theorem x_app {vs : List V} (h : sp vs H Q E) : sp (vs ++ []) H Q E := by rw [List.append_nil]; exact h
theorem x_app' {vs : List V} (h : sp (x :: vs) H Q E) : sp (x :: (vs ++ [])) H Q E := by rw [List.append_nil]; exact h
theorem x_raw {vs : List V} (h : sp vs H Q E) : spRaw sp vs H Q E := by unfold spRaw; rw [List.append_nil]; exact h
theorem x_cmeth (h : tl σ H fun vs H2 => sp (.ref C :: vs) H2 Q E) : ClX.tCMeth C sp E (eCon (.ref C)) tl σ H Q := ⟨rfl, h⟩
def Kmake (C : Addr) (sp : Sp) (vs : List V) (H1 : Hp) (Q : VK) (E : XK) : Prop := ∀ x dx, H1 x = none → H1 dx = none → dx ≠ x → sp (.ref x :: (vs ++ [])) (upd (upd H1 dx (.own x)) x (.ins C dx [])) (fun v H2 => v = .non ∧ Q (.ref x) H2) E
theorem x_make (h : tl σ H fun vs H1 => Kmake C sp vs H1 Q E) : tMake C sp [] E tl σ H Q := h
theorem x_meth {m : Str} (h : ta σ H fun x H1 => ∃ a dx fs, x = .ref a ∧ H1 a = some (.ins C dx fs) ∧ fs.lookup m = none ∧ tl σ H1 fun vs H2 => sp (x :: (vs ++ [])) H2 Q E) : tMeth C m sp [] E ta tl σ H Q := h
def Klst (xs : List V) (H1 : Hp) (Q : VK) : Prop := xs.length ≤ sizeLine ∧ ∀ p, H1 p = none → Q (.ref p) (upd H1 p (.lst xs))
theorem x_lst (h : tl σ H fun xs H1 => Klst xs H1 Q) : tLst tl σ H Q := h
def Ktup (xs : List V) (H1 : Hp) (Q : VK) : Prop := xs.length ≤ sizeLine ∧ ∀ p, H1 p = none → Q (.ref p) (upd H1 p (.tup xs))
theorem x_tup (h : tl σ H fun xs H1 => Ktup xs H1 Q) : tTup tl σ H Q := h
theorem x_intI (h : Q (.int i) H) : rInt [.int i] H Q := .inl ⟨i, rfl, h⟩
theorem x_intB (h : Q (.int (if b then 1 else 0)) H) : rInt [.bl b] H Q := .inr ⟨b, rfl, h⟩
theorem isi_of {n t : String} {bb : Bool} (ty : TyN H x t) (k : kitB t n = some bb) (e : isA t n = bb) (h : Q (.bl bb) H) : rIsI [x, .ty n] H Q := ⟨x, n, t, rfl, ty, by rw [e]; exact k, by rw [e]; exact h⟩

theorem kit_int_int : kitB "int" "int" = some true := by decide +kernel
theorem x_isi_int_int (h : Q (.bl true) H) : rIsI [.int i, .ty "int"] H Q := isi_of (.int i) kit_int_int rfl h
theorem kit_int_bool : kitB "int" "bool" = some false := by decide +kernel
theorem x_isi_int_bool (h : Q (.bl false) H) : rIsI [.int i, .ty "bool"] H Q := isi_of (.int i) kit_int_bool rfl h
theorem kit_int_str : kitB "int" "str" = some false := by decide +kernel
theorem x_isi_int_str (h : Q (.bl false) H) : rIsI [.int i, .ty "str"] H Q := isi_of (.int i) kit_int_str rfl h
theorem kit_int_list : kitB "int" "list" = some false := by decide +kernel
theorem x_isi_int_list (h : Q (.bl false) H) : rIsI [.int i, .ty "list"] H Q := isi_of (.int i) kit_int_list rfl h
theorem kit_int_tuple : kitB "int" "tuple" = some false := by decide +kernel
theorem x_isi_int_tuple (h : Q (.bl false) H) : rIsI [.int i, .ty "tuple"] H Q := isi_of (.int i) kit_int_tuple rfl h
theorem kit_int_dict : kitB "int" "dict" = some false := by decide +kernel
theorem x_isi_int_dict (h : Q (.bl false) H) : rIsI [.int i, .ty "dict"] H Q := isi_of (.int i) kit_int_dict rfl h
theorem kit_bool_int : kitB "bool" "int" = some true := by decide +kernel
theorem x_isi_bool_int (h : Q (.bl true) H) : rIsI [.bl b, .ty "int"] H Q := isi_of (.bl b) kit_bool_int rfl h
theorem kit_bool_bool : kitB "bool" "bool" = some true := by decide +kernel
theorem x_isi_bool_bool (h : Q (.bl true) H) : rIsI [.bl b, .ty "bool"] H Q := isi_of (.bl b) kit_bool_bool rfl h
theorem kit_bool_str : kitB "bool" "str" = some false := by decide +kernel
theorem x_isi_bool_str (h : Q (.bl false) H) : rIsI [.bl b, .ty "str"] H Q := isi_of (.bl b) kit_bool_str rfl h
theorem kit_bool_list : kitB "bool" "list" = some false := by decide +kernel
theorem x_isi_bool_list (h : Q (.bl false) H) : rIsI [.bl b, .ty "list"] H Q := isi_of (.bl b) kit_bool_list rfl h
theorem kit_bool_tuple : kitB "bool" "tuple" = some false := by decide +kernel
theorem x_isi_bool_tuple (h : Q (.bl false) H) : rIsI [.bl b, .ty "tuple"] H Q := isi_of (.bl b) kit_bool_tuple rfl h
theorem kit_bool_dict : kitB "bool" "dict" = some false := by decide +kernel
theorem x_isi_bool_dict (h : Q (.bl false) H) : rIsI [.bl b, .ty "dict"] H Q := isi_of (.bl b) kit_bool_dict rfl h
theorem kit_str_int : kitB "str" "int" = some false := by decide +kernel
theorem x_isi_str_int {zs : Str} (h : Q (.bl false) H) : rIsI [.str zs, .ty "int"] H Q := isi_of (.str zs) kit_str_int rfl h
theorem kit_str_bool : kitB "str" "bool" = some false := by decide +kernel
theorem x_isi_str_bool {zs : Str} (h : Q (.bl false) H) : rIsI [.str zs, .ty "bool"] H Q := isi_of (.str zs) kit_str_bool rfl h
theorem kit_str_str : kitB "str" "str" = some true := by decide +kernel
theorem x_isi_str_str {zs : Str} (h : Q (.bl true) H) : rIsI [.str zs, .ty "str"] H Q := isi_of (.str zs) kit_str_str rfl h
theorem kit_str_list : kitB "str" "list" = some false := by decide +kernel
theorem x_isi_str_list {zs : Str} (h : Q (.bl false) H) : rIsI [.str zs, .ty "list"] H Q := isi_of (.str zs) kit_str_list rfl h
theorem kit_str_tuple : kitB "str" "tuple" = some false := by decide +kernel
theorem x_isi_str_tuple {zs : Str} (h : Q (.bl false) H) : rIsI [.str zs, .ty "tuple"] H Q := isi_of (.str zs) kit_str_tuple rfl h
theorem kit_str_dict : kitB "str" "dict" = some false := by decide +kernel
theorem x_isi_str_dict {zs : Str} (h : Q (.bl false) H) : rIsI [.str zs, .ty "dict"] H Q := isi_of (.str zs) kit_str_dict rfl h
theorem kit_NoneType_int : kitB "NoneType" "int" = some false := by decide +kernel
theorem x_isi_NoneType_int (h : Q (.bl false) H) : rIsI [.non, .ty "int"] H Q := isi_of (.non) kit_NoneType_int rfl h
theorem kit_NoneType_bool : kitB "NoneType" "bool" = some false := by decide +kernel
theorem x_isi_NoneType_bool (h : Q (.bl false) H) : rIsI [.non, .ty "bool"] H Q := isi_of (.non) kit_NoneType_bool rfl h
theorem kit_NoneType_str : kitB "NoneType" "str" = some false := by decide +kernel
theorem x_isi_NoneType_str (h : Q (.bl false) H) : rIsI [.non, .ty "str"] H Q := isi_of (.non) kit_NoneType_str rfl h
theorem kit_NoneType_list : kitB "NoneType" "list" = some false := by decide +kernel
theorem x_isi_NoneType_list (h : Q (.bl false) H) : rIsI [.non, .ty "list"] H Q := isi_of (.non) kit_NoneType_list rfl h
theorem kit_NoneType_tuple : kitB "NoneType" "tuple" = some false := by decide +kernel
theorem x_isi_NoneType_tuple (h : Q (.bl false) H) : rIsI [.non, .ty "tuple"] H Q := isi_of (.non) kit_NoneType_tuple rfl h
theorem kit_NoneType_dict : kitB "NoneType" "dict" = some false := by decide +kernel
theorem x_isi_NoneType_dict (h : Q (.bl false) H) : rIsI [.non, .ty "dict"] H Q := isi_of (.non) kit_NoneType_dict rfl h
theorem kit_list_int : kitB "list" "int" = some false := by decide +kernel
theorem kit_list_bool : kitB "list" "bool" = some false := by decide +kernel
theorem kit_list_str : kitB "list" "str" = some false := by decide +kernel
theorem kit_list_list : kitB "list" "list" = some true := by decide +kernel
theorem kit_list_tuple : kitB "list" "tuple" = some false := by decide +kernel
theorem kit_list_dict : kitB "list" "dict" = some false := by decide +kernel
theorem kit_tuple_int : kitB "tuple" "int" = some false := by decide +kernel
theorem kit_tuple_bool : kitB "tuple" "bool" = some false := by decide +kernel
theorem kit_tuple_str : kitB "tuple" "str" = some false := by decide +kernel
theorem kit_tuple_list : kitB "tuple" "list" = some false := by decide +kernel
theorem kit_tuple_tuple : kitB "tuple" "tuple" = some true := by decide +kernel
theorem kit_tuple_dict : kitB "tuple" "dict" = some false := by decide +kernel
theorem kit_dict_int : kitB "dict" "int" = some false := by decide +kernel
theorem kit_dict_bool : kitB "dict" "bool" = some false := by decide +kernel
theorem kit_dict_str : kitB "dict" "str" = some false := by decide +kernel
theorem kit_dict_list : kitB "dict" "list" = some false := by decide +kernel
theorem kit_dict_tuple : kitB "dict" "tuple" = some false := by decide +kernel
theorem kit_dict_dict : kitB "dict" "dict" = some true := by decide +kernel

/-! the heap -/
variable {L L' : List Ent} {p q : Addr} {xs : List V} {f : Str} {dx : Addr} {fs : List (Str × V)} {lo hi : Option Int}
theorem x_ixL (F : FH H L) (m : (p, Is (.lst xs)) ∈ L) (a : atI xs i = some v) (h : Q v H) : rIx S (.ref p) (.int i) H Q := .inl ⟨p, xs, i, v, rfl, rfl, .inl (.inl (.inl (F.get m))), a, h⟩
theorem x_ixT (F : FH H L) (m : (p, Is (.tup xs)) ∈ L) (a : atI xs i = some v) (h : Q v H) : rIx S (.ref p) (.int i) H Q := .inl ⟨p, xs, i, v, rfl, rfl, .inr (.inl (.inl (F.get m))), a, h⟩
theorem x_ixR (F : FH H L) (m : (p, IsR xs) ∈ L) (a : atI xs i = some v) (h : Q v H) : rIx S (.ref p) (.int i) H Q := .inl ⟨p, xs, i, v, rfl, rfl, .inl (.inl (F.getR m)), a, h⟩
theorem x_lenL (F : FH H L) (m : (p, Is (.lst xs)) ∈ L) (h : Q (.int (xs.length : Int)) H) : rLen S [.ref p] H Q := .inl ⟨p, xs, rfl, .inl (.inl (.inl (F.get m))), h⟩
theorem x_lenT (F : FH H L) (m : (p, Is (.tup xs)) ∈ L) (h : Q (.int (xs.length : Int)) H) : rLen S [.ref p] H Q := .inl ⟨p, xs, rfl, .inr (.inl (.inl (F.get m))), h⟩
theorem x_lenR (F : FH H L) (m : (p, IsR xs) ∈ L) (h : Q (.int (xs.length : Int)) H) : rLen S [.ref p] H Q := .inl ⟨p, xs, rfl, .inl (.inl (F.getR m)), h⟩
theorem x_fld (h : te σ H fun x H1 => ∃ a dx fs v, x = .ref a ∧ H1 a = some (.ins C dx fs) ∧ fs.lookup f = some v ∧ Q v H1) : eFld C f te σ H Q := h
theorem x_fldG {QV : V → Prop} (F : FH H L) (m : (p, Is (.ins C dx fs)) ∈ L) (l : fs.lookup f = some v) (h : QV v) : ∃ a dx fs v, V.ref p = .ref a ∧ H a = some (.ins C dx fs) ∧ fs.lookup f = some v ∧ QV v := ⟨p, dx, fs, v, rfl, F.get m, l, h⟩
theorem x_methG {m : Str} {B : Prop} (F : FH H L) (hm : (p, Is (.ins C dx fs)) ∈ L) (l : fs.lookup m = none) (h : B) : ∃ a dx fs, V.ref p = .ref a ∧ H a = some (.ins C dx fs) ∧ fs.lookup m = none ∧ B := ⟨p, dx, fs, rfl, F.get hm, l, h⟩
theorem x_inOwnF (F : FH H L) (m : (p, Is (.ins C dx fs)) ∈ L) (h : sp [.ref p, y] H (fun v H' => ∃ b, v = .bl b ∧ Q (.bl b) H') E) : rInOwn C false sp E y (.ref p) H Q := ⟨p, dx, fs, rfl, F.get m, h⟩
theorem x_inOwnT (F : FH H L) (m : (p, Is (.ins C dx fs)) ∈ L) (h : sp [.ref p, y] H (fun v H' => ∃ b, v = .bl b ∧ Q (.bl (!b)) H') E) : rInOwn C true sp E y (.ref p) H Q := ⟨p, dx, fs, rfl, F.get m, h⟩
theorem x_setF (h : tb σ H fun y H1 => te σ H1 fun x H2 => ∃ a dx fs, x = .ref a ∧ H2 a = some (.ins C dx fs) ∧ fs.length < 1000 ∧ nx σ (upd H2 a (.ins C dx (putF f y fs)))) : sSetF C f te tb ⟨nx, rt, bk, ct⟩ σ H := h
theorem x_setFG {QH : Hp → Prop} {fs' : List (Str × V)} (F : FH H L) (m : (p, Is (.ins C dx fs)) ∈ L) (hl : fs.length < 1000) (e : putF f y fs = fs') (pu : Put p (Is (.ins C dx fs)) (Is (.ins C dx fs')) L L') (h : ∀ H', FH H' L' → QH H') : ∃ a dx fs, V.ref p = .ref a ∧ H a = some (.ins C dx fs) ∧ fs.length < 1000 ∧ QH (upd H a (.ins C dx (putF f y fs))) :=
  ⟨p, dx, fs, rfl, F.get m, hl, by rw [e]; exact h _ (F.put pu trivial)⟩
theorem x_gsub {to ti : TE} {ts : TSet} (h : to σ H fun o H1 => ti σ H1 fun i H2 => ts o i v H2 fun H3 => QS σ H3) : gSub to ti ts v σ H QS := h
theorem x_setL {k : Nat} {QH : Hp → Prop} (F : FH H L) (m : (p, Is (.lst xs)) ∈ L) (a : ixN xs.length i = some k) (pu : Put p (Is (.lst xs)) (Is (.lst (xs.set k v))) L L') (h : ∀ H', FH H' L' → QH H') : rSetL (.ref p) (.int i) v H QH :=
  ⟨p, xs, i, k, rfl, rfl, F.get m, a, h _ (F.put pu trivial)⟩
theorem x_apd (h : te σ H fun x H1 => ∃ l, x = .ref l ∧ (∃ xs, H1 l = some (.lst xs)) ∧ tl σ H1 fun vs H2 => rAppend x vs H2 Q) : eApp te tl σ H Q := h
theorem x_apdG {B : Prop} (F : FH H L) (m : (p, Is (.lst xs)) ∈ L) (h : B) : ∃ l, V.ref p = .ref l ∧ (∃ xs, H l = some (.lst xs)) ∧ B := ⟨p, rfl, ⟨xs, F.get m⟩, h⟩
theorem x_append (F : FH H L) (m : (p, Is (.lst xs)) ∈ L) (z : xs.length < sizeLine) (pu : Put p (Is (.lst xs)) (Is (.lst (xs ++ [v]))) L L') (h : ∀ H', FH H' L' → Q .non H') : rAppend (.ref p) [v] H Q :=
  ⟨p, xs, v, rfl, rfl, F.get m, z, h _ (F.put pu trivial)⟩
theorem x_lstG {xs : List V} (F : FH H L) (z : xs.length ≤ sizeLine) (h : ∀ p H', H p = none → FH H' ((p, Is (.lst xs)) :: L) → Q (.ref p) H') : Klst xs H Q := ⟨z, fun p hp => h p _ hp (F.new hp)⟩
theorem x_tupG {xs : List V} (F : FH H L) (z : xs.length ≤ sizeLine) (h : ∀ p H', H p = none → FH H' ((p, Is (.tup xs)) :: L) → Q (.ref p) H') : Ktup xs H Q := ⟨z, fun p hp => h p _ hp (F.new hp)⟩
theorem x_makeG {C : Addr} {vs : List V} (F : FH H L) (h : ∀ x dx H', FH H' ((x, Is (.ins C dx [])) :: L) → sp (.ref x :: vs) H' (fun v H2 => v = .non ∧ Q (.ref x) H2) E) :
    Kmake C sp vs H Q E := fun x dx hx hd ne => by
  rw [List.append_nil]
  exact h x dx _ ((F.other hd).new (by rw [upd_ne (Ne.symm ne)]; exact hx))
theorem x_sl {tlo thi : TO} {rs : V → Option Int → Option Int → Hp → VK → Prop} (h : te σ H fun x H1 => tlo σ H1 fun l H2 => thi σ H2 fun u H3 => rs x l u H3 Q) : L2.tSl rs te tlo thi σ H Q := h
theorem x_nopart (h : QO none H) : tNoPart σ H QO := h
theorem x_part (h : te σ H fun x H1 => ∃ i, x = .int i ∧ QO (some i) H1) : tPart te σ H QO := h
theorem cutV_tail {x : V} : cutV (x :: xs) (some 1) none = xs := by
  unfold cutV
  rw [HT.sIx_none, show (1 : Int) = ((1 : Nat) : Int) from rfl, HT.sIx_nat]
  rw [show min 1 (x :: xs).length = 1 by rw [List.length_cons]; omega]
  show xs.take _ = xs
  rw [List.length_cons, show xs.length + 1 - 1 = xs.length by omega, List.take_length]
theorem x_slL (F : FH H L) (m : (p, Is (.lst xs)) ∈ L) (h : ∀ q H', H q = none → FH H' ((q, Is (.lst (cutV xs lo hi))) :: L) → Q (.ref q) H') : rSl S (.ref p) lo hi H Q := ⟨p, xs, rfl, .inl (.inl (F.get m)), fun q hq => h q _ hq (F.new hq)⟩
theorem x_sl1 {v : V} (F : FH H L) (m : (p, Is (.lst (v :: xs))) ∈ L) (h : ∀ q H', H q = none → FH H' ((q, Is (.lst xs)) :: L) → Q (.ref q) H') : rSl S (.ref p) (some 1) none H Q := ⟨p, _, rfl, .inl (.inl (F.get m)), fun q hq => h q _ hq (by rw [show cutV (v :: xs) (some 1) none = xs from cutV_tail]; exact F.new hq)⟩
theorem cutV_pre {n : Nat} {ys zs : List V} (e : ys.length = n) : cutV (ys ++ zs) none (some (n : Int)) = ys := by
  unfold cutV
  rw [HT.sIx_none, HT.sIx_nat, List.drop_zero, Nat.sub_zero, Nat.min_eq_left (by rw [List.length_append]; omega), ← e, List.take_left]
theorem x_slp1 {v0 : V} (F : FH H L) (m : (p, Is (.lst (v0 :: xs))) ∈ L) (h : ∀ q H', H q = none → FH H' ((q, Is (.lst [v0])) :: L) → Q (.ref q) H') : rSl S (.ref p) none (some 1) H Q := ⟨p, _, rfl, .inl (.inl (F.get m)), fun q hq => h q _ hq (by rw [show cutV (v0 :: xs) none (some 1) = [v0] from cutV_pre (ys := [v0]) (n := 1) rfl]; exact F.new hq)⟩
theorem x_slp2 {v0 v1 : V} (F : FH H L) (m : (p, Is (.lst (v0 :: v1 :: xs))) ∈ L) (h : ∀ q H', H q = none → FH H' ((q, Is (.lst [v0, v1])) :: L) → Q (.ref q) H') : rSl S (.ref p) none (some 2) H Q := ⟨p, _, rfl, .inl (.inl (F.get m)), fun q hq => h q _ hq (by rw [show cutV (v0 :: v1 :: xs) none (some 2) = [v0, v1] from cutV_pre (ys := [v0, v1]) (n := 2) rfl]; exact F.new hq)⟩
theorem x_slp3 {v0 v1 v2 : V} (F : FH H L) (m : (p, Is (.lst (v0 :: v1 :: v2 :: xs))) ∈ L) (h : ∀ q H', H q = none → FH H' ((q, Is (.lst [v0, v1, v2])) :: L) → Q (.ref q) H') : rSl S (.ref p) none (some 3) H Q := ⟨p, _, rfl, .inl (.inl (F.get m)), fun q hq => h q _ hq (by rw [show cutV (v0 :: v1 :: v2 :: xs) none (some 3) = [v0, v1, v2] from cutV_pre (ys := [v0, v1, v2]) (n := 3) rfl]; exact F.new hq)⟩
theorem x_slp4 {v0 v1 v2 v3 : V} (F : FH H L) (m : (p, Is (.lst (v0 :: v1 :: v2 :: v3 :: xs))) ∈ L) (h : ∀ q H', H q = none → FH H' ((q, Is (.lst [v0, v1, v2, v3])) :: L) → Q (.ref q) H') : rSl S (.ref p) none (some 4) H Q := ⟨p, _, rfl, .inl (.inl (F.get m)), fun q hq => h q _ hq (by rw [show cutV (v0 :: v1 :: v2 :: v3 :: xs) none (some 4) = [v0, v1, v2, v3] from cutV_pre (ys := [v0, v1, v2, v3]) (n := 4) rfl]; exact F.new hq)⟩
theorem x_slp5 {v0 v1 v2 v3 v4 : V} (F : FH H L) (m : (p, Is (.lst (v0 :: v1 :: v2 :: v3 :: v4 :: xs))) ∈ L) (h : ∀ q H', H q = none → FH H' ((q, Is (.lst [v0, v1, v2, v3, v4])) :: L) → Q (.ref q) H') : rSl S (.ref p) none (some 5) H Q := ⟨p, _, rfl, .inl (.inl (F.get m)), fun q hq => h q _ hq (by rw [show cutV (v0 :: v1 :: v2 :: v3 :: v4 :: xs) none (some 5) = [v0, v1, v2, v3, v4] from cutV_pre (ys := [v0, v1, v2, v3, v4]) (n := 5) rfl]; exact F.new hq)⟩
theorem x_slp6 {v0 v1 v2 v3 v4 v5 : V} (F : FH H L) (m : (p, Is (.lst (v0 :: v1 :: v2 :: v3 :: v4 :: v5 :: xs))) ∈ L) (h : ∀ q H', H q = none → FH H' ((q, Is (.lst [v0, v1, v2, v3, v4, v5])) :: L) → Q (.ref q) H') : rSl S (.ref p) none (some 6) H Q := ⟨p, _, rfl, .inl (.inl (F.get m)), fun q hq => h q _ hq (by rw [show cutV (v0 :: v1 :: v2 :: v3 :: v4 :: v5 :: xs) none (some 6) = [v0, v1, v2, v3, v4, v5] from cutV_pre (ys := [v0, v1, v2, v3, v4, v5]) (n := 6) rfl]; exact F.new hq)⟩
theorem x_slp7 {v0 v1 v2 v3 v4 v5 v6 : V} (F : FH H L) (m : (p, Is (.lst (v0 :: v1 :: v2 :: v3 :: v4 :: v5 :: v6 :: xs))) ∈ L) (h : ∀ q H', H q = none → FH H' ((q, Is (.lst [v0, v1, v2, v3, v4, v5, v6])) :: L) → Q (.ref q) H') : rSl S (.ref p) none (some 7) H Q := ⟨p, _, rfl, .inl (.inl (F.get m)), fun q hq => h q _ hq (by rw [show cutV (v0 :: v1 :: v2 :: v3 :: v4 :: v5 :: v6 :: xs) none (some 7) = [v0, v1, v2, v3, v4, v5, v6] from cutV_pre (ys := [v0, v1, v2, v3, v4, v5, v6]) (n := 7) rfl]; exact F.new hq)⟩
theorem x_slp8 {v0 v1 v2 v3 v4 v5 v6 v7 : V} (F : FH H L) (m : (p, Is (.lst (v0 :: v1 :: v2 :: v3 :: v4 :: v5 :: v6 :: v7 :: xs))) ∈ L) (h : ∀ q H', H q = none → FH H' ((q, Is (.lst [v0, v1, v2, v3, v4, v5, v6, v7])) :: L) → Q (.ref q) H') : rSl S (.ref p) none (some 8) H Q := ⟨p, _, rfl, .inl (.inl (F.get m)), fun q hq => h q _ hq (by rw [show cutV (v0 :: v1 :: v2 :: v3 :: v4 :: v5 :: v6 :: v7 :: xs) none (some 8) = [v0, v1, v2, v3, v4, v5, v6, v7] from cutV_pre (ys := [v0, v1, v2, v3, v4, v5, v6, v7]) (n := 8) rfl]; exact F.new hq)⟩
theorem x_slR (F : FH H L) (m : (p, IsR xs) ∈ L) (h : ∀ q H', H q = none → FH H' ((q, Is (.lst (cutV xs lo hi))) :: L) → Q (.ref q) H') : rSl S (.ref p) lo hi H Q := ⟨p, xs, rfl, .inl (F.getR m), fun q hq => h q _ hq (F.new hq)⟩
theorem x_slS (F : FH H L) (m : S p (.lst xs)) (h : ∀ q H', H q = none → FH H' ((q, Is (.lst (cutV xs lo hi))) :: L) → Q (.ref q) H') : rSl S (.ref p) lo hi H Q := ⟨p, xs, rfl, .inr m, fun q hq => h q _ hq (F.new hq)⟩
theorem x_ixS (m : S p (.lst xs)) (a : atI xs i = some v) (h : Q v H) : rIx S (.ref p) (.int i) H Q := .inl ⟨p, xs, i, v, rfl, rfl, .inl (.inr m), a, h⟩
theorem x_lenS (m : S p (.lst xs)) (h : Q (.int (xs.length : Int)) H) : rLen S [.ref p] H Q := .inl ⟨p, xs, rfl, .inl (.inr m), h⟩
theorem x_none (h : v = .non → Q v H) : v = .non → Q v H := h
theorem x_initEnd {B : Prop} (h : B) : V.non = .non ∧ B := ⟨rfl, h⟩
/-! loops -/
def ForR (g : TG) (s1 : TS) (nx : K0) (rt : VK) (lo hi : Int) (σ : L2.St) (H : Hp) : Prop := (-(2 ^ 62) ≤ lo ∧ lo < 2 ^ 62 ∧ -(2 ^ 62) ≤ hi ∧ hi < 2 ^ 62) ∧ ∃ Pv : Nat → L2.St → Hp → Prop, Pv 0 σ H ∧
    (∀ (i : Nat) σ H, lo + i < hi → Pv i σ H → g (.int (lo + i)) σ H fun σ' H' => s1 ⟨Pv (i + 1), rt, nx, Pv (i + 1)⟩ σ' H') ∧ ∀ σ H, Pv (hi - lo).toNat σ H → nx σ H
theorem x_forR1 (h : te σ H fun y H1 => ∃ j, y = .int j ∧ ForR g s1 nx rt 0 j σ H1) : sForR none te g s1 ⟨nx, rt, bk, ct⟩ σ H := h
theorem x_forR2 (h : ta σ H fun x H1 => tb σ H1 fun y H2 => ∃ i j, x = .int i ∧ y = .int j ∧ ForR g s1 nx rt i j σ H2) : sForR (some ta) tb g s1 ⟨nx, rt, bk, ct⟩ σ H := h
theorem x_int1 {QK : Int → Prop} (h : QK i) : ∃ k, V.int i = .int k ∧ QK k := ⟨i, rfl, h⟩
theorem x_int2 {QK : Int → Int → Prop} (h : QK i j) : ∃ k l, V.int i = .int k ∧ V.int j = .int l ∧ QK k l := ⟨i, j, rfl, rfl, h⟩
/-- a range from 0 by an invariant -/
theorem forG (Pv : Nat → L2.St → Hp → Prop) (h2 : j < 4611686018427387904) (h1 : -4611686018427387904 ≤ j) (h0 : Pv 0 σ H)
    (hs : ∀ (i : Nat) σ H, (i : Int) < j → Pv i σ H → g (.int (i : Int)) σ H fun σ' H' => s1 ⟨Pv (i + 1), rt, nx, Pv (i + 1)⟩ σ' H') (hd : ∀ σ H, Pv j.toNat σ H → nx σ H) : ForR g s1 nx rt 0 j σ H :=
  ⟨⟨by decide, by decide, h1, h2⟩, Pv, h0, fun i σ H h p => by rw [Int.zero_add] at h ⊢; exact hs i σ H h p, fun σ H p => hd σ H (by rw [Int.sub_zero] at p; exact p)⟩
theorem forG2 (Pv : Nat → L2.St → Hp → Prop) (h : -4611686018427387904 ≤ i ∧ i < 4611686018427387904 ∧ -4611686018427387904 ≤ j ∧ j < 4611686018427387904) (h0 : Pv 0 σ H)
    (hs : ∀ (n : Nat) σ H, i + n < j → Pv n σ H → g (.int (i + n)) σ H fun σ' H' => s1 ⟨Pv (n + 1), rt, nx, Pv (n + 1)⟩ σ' H') (hd : ∀ σ H, Pv (j - i).toNat σ H → nx σ H) : ForR g s1 nx rt i j σ H := ⟨h, Pv, h0, hs, hd⟩
/-- a while by a measure -/
def WhB (W : Nat → L2.St → Hp → Prop) (m : Nat) (s1 : TS) (nx : K0) (rt : VK) (σ : L2.St) (H1 : Hp) : Prop := ∃ N : L2.St → Hp → Prop, (∀ σ' H', N σ' H' → ∃ m', m' < m ∧ W m' σ' H') ∧ s1 ⟨N, rt, nx, N⟩ σ H1
def WhN (W : Nat → L2.St → Hp → Prop) (m : Nat) : K0 := fun σ' H' => ∃ m', m' < m ∧ W m' σ' H'
theorem x_whB {W : Nat → L2.St → Hp → Prop} {m : Nat} (h : s1 ⟨WhN W m, rt, nx, WhN W m⟩ σ H) : WhB W m s1 nx rt σ H := ⟨_, fun _ _ h => h, h⟩
theorem whileG (W : Nat → L2.St → Hp → Prop) (m0 : Nat) (h0 : W m0 σ H) (hs : ∀ m σ H, W m σ H → t σ H fun b H1 => if b = true then WhB W m s1 nx rt σ H1 else nx σ H1) : tWhile t s1 ⟨nx, rt, bk, ct⟩ σ H := ⟨W, ⟨m0, h0⟩, hs⟩
/-- the turns one by one: n turns from lo on; P behind them, bk behind a break -/
def forK (g : TG) (s1 : TS) (P bk : K0) (rt : VK) : Nat → Int → L2.St → Hp → Prop
  | 0, _, σ, H => P σ H
  | n + 1, lo, σ, H => g (.int lo) σ H fun σ' H' => s1 ⟨forK g s1 P bk rt n (lo + 1), rt, bk, forK g s1 P bk rt n (lo + 1)⟩ σ' H'
theorem forUC (n : Nat) (Post : L2.St → Hp → Prop) (e : j = (n : Int)) (h2 : j < 4611686018427387904) (h : forK g s1 Post nx rt n 0 σ H) (hd : ∀ σ H, Post σ H → nx σ H) : ForR g s1 nx rt 0 j σ H := by
  refine forG (fun i σ H => i ≤ n ∧ forK g s1 Post nx rt (n - i) (i : Int) σ H) h2 (by omega) ⟨Nat.zero_le _, h⟩ (fun i σ H hi p => ?_) fun σ H p => ?_
  · obtain ⟨q1, q2⟩ := p
    have e1 : n - i = (n - (i + 1)) + 1 := by omega
    rw [e1] at q2
    have e2 : ((i + 1 : Nat) : Int) = (i : Int) + 1 := by omega
    have e3 : (fun σ H => i + 1 ≤ n ∧ forK g s1 Post nx rt (n - (i + 1)) ((i + 1 : Nat) : Int) σ H) = forK g s1 Post nx rt (n - (i + 1)) ((i : Int) + 1) := by
      funext σ H
      rw [e2]
      exact propext ⟨fun h => h.2, fun h => ⟨by omega, h⟩⟩
    show g (.int (i : Int)) σ H fun σ' H' => s1 ⟨fun σ H => i + 1 ≤ n ∧ forK g s1 Post nx rt (n - (i + 1)) ((i + 1 : Nat) : Int) σ H, rt, nx, fun σ H => i + 1 ≤ n ∧ forK g s1 Post nx rt (n - (i + 1)) ((i + 1 : Nat) : Int) σ H⟩ σ' H'
    rw [e3]
    exact q2
  · obtain ⟨_, q⟩ := p
    have e4 : n - j.toNat = 0 := by omega
    rw [e4] at q
    exact hd _ _ q
theorem forU (n : Nat) (e : j = (n : Int)) (h2 : j < 4611686018427387904) (h : forK g s1 nx nx rt n 0 σ H) : ForR g s1 nx rt 0 j σ H := forUC n nx e h2 h fun _ _ h => h
theorem x_forK {n : Nat} (h : g (.int i) σ H fun σ' H' => s1 ⟨forK g s1 nx bk rt n (i + 1), rt, bk, forK g s1 nx bk rt n (i + 1)⟩ σ' H') : forK g s1 nx bk rt (n + 1) i σ H := h
theorem x_forK0 (h : nx σ H) : forK g s1 nx bk rt 0 i σ H := h
/-- where a list is read -/
inductive Src (S : Sta) (L : List Ent) (p : Addr) (xs : List V) : Prop where
  | is (m : (p, Is (.lst xs)) ∈ L)
  | rd (m : (p, IsR xs) ∈ L)
  | st (m : S p (.lst xs))
theorem Src.rdS {L : List Ent} (m : Src S L p xs) (F : FH H L) : RdS S H p (.lst xs) := by
  cases m with
  | is m => exact .inl (.inl (F.get m))
  | rd m => exact .inl (F.getR m)
  | st m => exact .inr m
theorem src_of {K : PySem.W.Frag} (st : S = SK K) (h : SqL K H p xs) : ∃ L, FH H L ∧ Src S L p xs := by
  subst st
  rcases h with h | h
  · refine ⟨[(p, IsR xs)], ⟨[p] ++ [], .cons (p := p) (φ := IsR xs) (k := [p]) ⟨rfl, ?_⟩ .nil (by simp) (fun a _ m => by cases m)⟩, .rd (List.Mem.head _)⟩
    rcases h with h | ⟨o, h⟩
    · exact ⟨_, h, .inl rfl⟩
    · exact ⟨_, h, .inr ⟨o, rfl⟩⟩
  · exact ⟨[], .nil, .st h⟩
def ForS (S : Sta) (g : TG) (s1 : TS) (nx : K0) (rt : VK) (x : V) (σ : L2.St) (H : Hp) : Prop := ∃ a xs, x = .ref a ∧ ∃ Pv : Nat → L2.St → Hp → Prop, Pv 0 σ H ∧ Stays S a xs (fun i H => ∃ σ, Pv i σ H) ∧
  (∀ i y σ H, xs[i]? = some y → Pv i σ H → g y σ H fun σ' H' => s1 ⟨Pv (i + 1), rt, nx, Pv (i + 1)⟩ σ' H') ∧ ∀ σ H, Pv xs.length σ H → nx σ H
theorem x_forE (h : te σ H fun x H1 => ForS S g s1 nx rt x σ H1) : sFor S te g s1 ⟨nx, rt, bk, ct⟩ σ H := h
/-- a list by an invariant -/
theorem forS (Pv : Nat → L2.St → Hp → Prop) (h0 : Pv 0 σ H) (hst : ∀ i σ H, i ≤ xs.length → Pv i σ H → RdS S H p (.lst xs))
    (hs : ∀ i y σ H, xs[i]? = some y → Pv i σ H → g y σ H fun σ' H' => s1 ⟨Pv (i + 1), rt, nx, Pv (i + 1)⟩ σ' H') (hd : ∀ σ H, Pv xs.length σ H → nx σ H) : ForS S g s1 nx rt (.ref p) σ H :=
  ⟨p, xs, rfl, Pv, h0, .inl fun i H hi ⟨σ, q⟩ => hst i σ H hi q, hs, hd⟩
/-- a list that stands: what is known of the heap is the same at each turn -/
theorem forL (Pv : Nat → L2.St → Prop) (F : FH H L) (m : Src S L p xs) (h0 : Pv 0 σ)
    (hs : ∀ i y σ H, xs[i]? = some y → Pv i σ → FH H L → g y σ H fun σ' H' => s1 ⟨fun σ H => Pv (i + 1) σ ∧ FH H L, rt, nx, fun σ H => Pv (i + 1) σ ∧ FH H L⟩ σ' H') (hd : ∀ σ H, Pv xs.length σ → FH H L → nx σ H) : ForS S g s1 nx rt (.ref p) σ H :=
  forS (fun i σ H => Pv i σ ∧ FH H L) ⟨h0, F⟩ (fun i σ H _ q => m.rdS q.2) (fun i y σ H e q => hs i y σ H e q.1 q.2) fun σ H q => hd σ H q.1 q.2
/-- the turns one by one over a known tuple -/
def forKS (S : Sta) (a : Addr) (u : HO) (g : TG) (s1 : TS) (P bk : K0) (rt : VK) : List V → L2.St → Hp → Prop
  | [], σ, H => P σ H
  | x :: xs, σ, H => g x σ H fun σ' H' => s1 ⟨fun σ H => RdS S H a u ∧ forKS S a u g s1 P bk rt xs σ H, rt, bk, fun σ H => RdS S H a u ∧ forKS S a u g s1 P bk rt xs σ H⟩ σ' H'
theorem forSU {k : Bool} (rd : RdS S H p (if k then .lst xs else .tup xs)) (Post : K0) (h : forKS S p (if k then .lst xs else .tup xs) g s1 Post nx rt xs σ H) (hp : ∀ σ H, Post σ H → nx σ H) : ForS S g s1 nx rt (.ref p) σ H := by
  refine ⟨p, xs, rfl, fun i σ H => RdS S H p (if k then .lst xs else .tup xs) ∧ forKS S p (if k then .lst xs else .tup xs) g s1 Post nx rt (xs.drop i) σ H, ⟨rd, by rw [List.drop_zero]; exact h⟩, ?_, fun i y σ H e q => ?_, fun σ H q => ?_⟩
  · cases k with
    | true => exact .inl fun i H _ ⟨σ, q, _⟩ => q
    | false => exact .inr fun i H _ ⟨σ, q, _⟩ => q
  · obtain ⟨_, q⟩ := q
    have hi := (List.getElem?_eq_some_iff.mp e)
    rw [List.drop_eq_getElem_cons hi.1, hi.2] at q
    exact q
  · obtain ⟨_, q⟩ := q
    rw [List.drop_length] at q
    exact hp σ H q
theorem forTU (F : FH H L) (m : (p, Is (.tup xs)) ∈ L) (h : forKS S p (.tup xs) g s1 nx nx rt xs σ H) : ForS S g s1 nx rt (.ref p) σ H := forSU (k := false) (.inl (.inl (F.get m))) nx h fun _ _ h => h
theorem forLU (F : FH H L) (m : (p, Is (.lst xs)) ∈ L) (h : forKS S p (.lst xs) g s1 nx nx rt xs σ H) : ForS S g s1 nx rt (.ref p) σ H := forSU (k := true) (.inl (.inl (F.get m))) nx h fun _ _ h => h
theorem x_forKS {a : Addr} {u : HO} (h : g x σ H fun σ' H' => s1 ⟨fun σ H => RdS S H a u ∧ forKS S a u g s1 nx bk rt xs σ H, rt, bk, fun σ H => RdS S H a u ∧ forKS S a u g s1 nx bk rt xs σ H⟩ σ' H') : forKS S a u g s1 nx bk rt (x :: xs) σ H := h
theorem x_forKS0 {a : Addr} {u : HO} (h : nx σ H) : forKS S a u g s1 nx bk rt [] σ H := h
theorem x_rdT (F : FH H L) (m : (p, Is (.tup xs)) ∈ L) (h : A) : RdS S H p (.tup xs) ∧ A := ⟨.inl (.inl (F.get m)), h⟩
theorem x_rdL (F : FH H L) (m : (p, Is (.lst xs)) ∈ L) (h : A) : RdS S H p (.lst xs) ∧ A := ⟨.inl (.inl (F.get m)), h⟩
/-! comprehensions -/
def LcS (S : Sta) (g : TG) (tt : TT) (tel : TE) (vs : List Nat) (Q : VK) (x : V) (σ : L2.St) (H1 : Hp) : Prop := ∃ a xs, x = .ref a ∧ ∃ k : Bool, RdS S H1 a (if k then .lst xs else .tup xs) ∧ ∀ D, H1 D = none → ∃ Pv : Nat → Hp → Prop, Pv 0 (upd H1 D (.lst [])) ∧ (∀ i H, i ≤ xs.length → Pv i H → RdS S H a (if k then .lst xs else .tup xs)) ∧
  (∀ i y H, xs[i]? = some y → Pv i H → g y (wipe σ vs) H fun σ2 H2 => wipe σ2 vs = wipe σ vs ∧ tt σ2 H2 fun b H3 => if b = true then tel σ2 H3 fun z H4 => ∃ acc, H4 D = some (.lst acc) ∧ acc.length < sizeLine ∧ Pv (i + 1) (upd H4 D (.lst (acc ++ [z]))) else Pv (i + 1) H3) ∧
  ∀ H, Pv xs.length H → Q (.ref D) H
theorem x_lcE {tt : TT} {tel : TE} {vs : List Nat} (h : te σ H fun x H1 => LcS S g tt tel vs Q x σ H1) : eLc S te g tt tel vs σ H Q := h
theorem x_wipe {σ2 σw : L2.St} {vs : List Nat} (e : wipe σ2 vs = σw) (h : A) : wipe σ2 vs = σw ∧ A := ⟨e, h⟩
theorem x_yes (h : QB true H) : tYes σ H QB := h
/-- a comprehension over a list that stands, whose element leaves the heap as it is -/
theorem lcFM {tt : TT} {tel : TE} {vs : List Nat} {σw : L2.St} (f : V → V) (keep : V → Bool) (F : FH H L) (m : Src S L p xs) (z : xs.length < 16777216) (ew : wipe σ vs = σw)
    (hs : ∀ y H (QX : V → Hp → Prop) (A : Hp → Prop), y ∈ xs → FH H L → (keep y = true → QX (f y) H) → (keep y = false → A H) → g y σw H fun σ2 H2 => wipe σ2 vs = σw ∧ tt σ2 H2 fun b H3 => if b = true then tel σ2 H3 QX else A H3)
    (hd : ∀ D H', FH H' ((D, Is (.lst ((xs.filter keep).map f))) :: L) → Q (.ref D) H') : LcS S g tt tel vs Q (.ref p) σ H := by
  have rd : ∀ H, FH H L → RdS S H p (.lst xs) := fun H F => m.rdS F
  subst ew
  refine ⟨p, xs, rfl, true, rd H F, fun D hD => ⟨fun i H => FH H ((D, Is (.lst (((xs.take i).filter keep).map f))) :: L), F.new hD, fun i H _ q => rd H q.tail, fun i y H e q => ?_, fun H q => hd D H ?_⟩⟩
  · have hi : i < xs.length := (List.getElem?_eq_some_iff.mp e).1
    have et : xs.take (i + 1) = xs.take i ++ [y] := by rw [List.take_add_one, e]; rfl
    refine hs y H _ _ (List.mem_of_getElem? e) q.tail (fun k => ⟨_, q.get (List.Mem.head _), ?_, ?_⟩) fun k => ?_
    · have h1 : (((xs.take i).filter keep).map f).length ≤ i := by
        rw [List.length_map]
        exact Nat.le_trans (List.length_filter_le _ _) (by rw [List.length_take]; exact Nat.min_le_left _ _)
      rw [sizeLine_eq]; omega
    · show FH _ ((D, Is (.lst (((xs.take (i + 1)).filter keep).map f))) :: L)
      rw [et, List.filter_append, List.map_append]
      have e1 : ([y].filter keep).map f = [f y] := by simp [k]
      rw [e1]
      exact q.put .here trivial
    · show FH _ ((D, Is (.lst (((xs.take (i + 1)).filter keep).map f))) :: L)
      rw [et, List.filter_append, List.map_append]
      have e1 : ([y].filter keep).map f = [] := by simp [k]
      rw [e1, List.append_nil]
      exact q
  · have q : FH H ((D, Is (.lst (((xs.take xs.length).filter keep).map f))) :: L) := q
    rw [List.take_length] at q
    exact q
/-- .. of ints by a map of ints -/
theorem lcII {ns : List Int} {tel : TE} {vs : List Nat} {σw : L2.St} (f : Int → Int) (F : FH H L) (m : Src S L p (ns.map V.int)) (z : ns.length < 16777216) (ew : wipe σ vs = σw)
    (hs : ∀ y H (QX : V → Hp → Prop), y ∈ ns → FH H L → QX (.int (f y)) H → g (.int y) σw H fun σ2 H2 => wipe σ2 vs = σw ∧ tel σ2 H2 QX)
    (hd : ∀ D H', FH H' ((D, Is (.lst ((ns.map f).map V.int))) :: L) → Q (.ref D) H') : LcS S g tYes tel vs Q (.ref p) σ H := by
  refine lcFM (xs := ns.map V.int) (fun v => match v with | .int i => .int (f i) | v => v) (fun _ => true) F m (by rw [List.length_map]; exact z) ew (fun y H QX A hy F' hk hA => ?_) fun D H' F' => hd D H' ?_
  · obtain ⟨n, hn, e⟩ := List.mem_map.mp hy
    subst e
    exact hs n H QX hn F' (hk rfl)
  · have e : ((ns.map V.int).filter fun _ => true).map (fun v => match v with | .int i => V.int (f i) | v => v) = (ns.map f).map V.int := by
      rw [List.filter_eq_self.mpr (fun _ _ => rfl), List.map_map, List.map_map]
      rfl
    rw [e] at F'
    exact F'
/-- .. of ints, with a test -/
theorem lcIK {ns : List Int} {tt : TT} {tel : TE} {vs : List Nat} {σw : L2.St} (f : Int → Int) (keep : Int → Bool) (F : FH H L) (m : Src S L p (ns.map V.int)) (z : ns.length < 16777216) (ew : wipe σ vs = σw)
    (hs : ∀ y H (QX : V → Hp → Prop) (A : Hp → Prop), y ∈ ns → FH H L → (keep y = true → QX (.int (f y)) H) → (keep y = false → A H) → g (.int y) σw H fun σ2 H2 => wipe σ2 vs = σw ∧ tt σ2 H2 fun b H3 => if b = true then tel σ2 H3 QX else A H3)
    (hd : ∀ D H', FH H' ((D, Is (.lst (((ns.filter keep).map f).map V.int))) :: L) → Q (.ref D) H') : LcS S g tt tel vs Q (.ref p) σ H := by
  refine lcFM (xs := ns.map V.int) (fun v => match v with | .int i => .int (f i) | v => v) (fun v => match v with | .int i => keep i | _ => false) F m (by rw [List.length_map]; exact z) ew (fun y H QX A hy F' hk hA => ?_) fun D H' F' => hd D H' ?_
  · obtain ⟨n, hn, e⟩ := List.mem_map.mp hy
    subst e
    exact hs n H QX A hn F' hk hA
  · have e : ((ns.map V.int).filter fun v => match v with | .int i => keep i | _ => false).map (fun v => match v with | .int i => V.int (f i) | v => v) = ((ns.filter keep).map f).map V.int := by
      rw [List.filter_map, List.map_map, List.map_map]
      rfl
    rw [e] at F'
    exact F'
/-- a known list, the turns one by one -/
def lcPut (D : Addr) (z : V) (k : Hp → Prop) (H : Hp) : Prop := ∃ acc, H D = some (.lst acc) ∧ acc.length < sizeLine ∧ k (upd H D (.lst (acc ++ [z])))
theorem x_lcPut {D : Addr} {z : V} {acc : List V} {k : Hp → Prop} {L' : List Ent} (F : FH H L) (pu : Put D (Is (.lst acc)) (Is (.lst (acc ++ [z]))) L L') (sz : acc.length < 16777216) (h : ∀ H', FH H' L' → k H') : lcPut D z k H :=
  ⟨acc, F.get pu.mem, by rw [sizeLine_eq]; exact sz, h _ (F.put pu trivial)⟩
def lcKS (S : Sta) (a : Addr) (u : HO) (g : TG) (tt : TT) (tel : TE) (vs : List Nat) (σw : L2.St) (D : Addr) (Q : VK) : List V → Hp → Prop
  | [], H => Q (.ref D) H
  | x :: xs, H => g x σw H fun σ2 H2 => wipe σ2 vs = σw ∧ tt σ2 H2 fun b H3 => if b = true then tel σ2 H3 fun z H4 => lcPut D z (fun H => RdS S H a u ∧ lcKS S a u g tt tel vs σw D Q xs H) H4 else RdS S H3 a u ∧ lcKS S a u g tt tel vs σw D Q xs H3
theorem lcLU {tt : TT} {tel : TE} {vs : List Nat} {σw : L2.St} (F : FH H L) (m : (p, Is (.lst xs)) ∈ L) (ew : wipe σ vs = σw) (h : ∀ D H', FH H' ((D, Is (.lst [])) :: L) → lcKS S p (.lst xs) g tt tel vs σw D Q xs H') : LcS S g tt tel vs Q (.ref p) σ H := by
  subst ew
  refine ⟨p, xs, rfl, true, .inl (.inl (F.get m)), fun D hD => ⟨fun i H => RdS S H p (.lst xs) ∧ lcKS S p (.lst xs) g tt tel vs (wipe σ vs) D Q (xs.drop i) H, ⟨.inl (.inl ((F.new hD).get (List.mem_cons_of_mem _ m))), by rw [List.drop_zero]; exact h D _ (F.new hD)⟩, fun i H _ q => q.1, fun i y H e q => ?_, fun H q => ?_⟩⟩
  · obtain ⟨_, q⟩ := q
    have hi := (List.getElem?_eq_some_iff.mp e)
    rw [List.drop_eq_getElem_cons hi.1, hi.2] at q
    exact q
  · obtain ⟨_, q⟩ := q
    rw [List.drop_length] at q
    exact q
theorem x_lcKS {a D : Addr} {u : HO} {tt : TT} {tel : TE} {vs : List Nat} {σw : L2.St} (h : g x σw H fun σ2 H2 => wipe σ2 vs = σw ∧ tt σ2 H2 fun b H3 => if b = true then tel σ2 H3 fun z H4 => lcPut D z (fun H => RdS S H a u ∧ lcKS S a u g tt tel vs σw D Q xs H) H4 else RdS S H3 a u ∧ lcKS S a u g tt tel vs σw D Q xs H3) : lcKS S a u g tt tel vs σw D Q (x :: xs) H := h
theorem x_lcKS0 {a D : Addr} {u : HO} {tt : TT} {tel : TE} {vs : List Nat} {σw : L2.St} (h : Q (.ref D) H) : lcKS S a u g tt tel vs σw D Q [] H := h
/-- over a range, the turns one by one -/
def LcR (g : TG) (tt : TT) (tel : TE) (vs : List Nat) (Q : VK) (y : V) (σ : L2.St) (H1 : Hp) : Prop := ∃ j, y = .int j ∧ ((-(2 ^ 62) ≤ (0 : Int) ∧ (0 : Int) < 2 ^ 62 ∧ -(2 ^ 62) ≤ j ∧ j < 2 ^ 62) ∧ ∀ D, H1 D = none → ∃ Pv : Nat → Hp → Prop, Pv 0 (upd H1 D (.lst [])) ∧
    (∀ (i : Nat) H, 0 + (i : Int) < j → Pv i H → g (.int (0 + (i : Int))) (wipe σ vs) H fun σ2 H2 => wipe σ2 vs = wipe σ vs ∧ tt σ2 H2 fun b H3 => if b = true then tel σ2 H3 fun z H4 => ∃ acc, H4 D = some (.lst acc) ∧ acc.length < sizeLine ∧ Pv (i + 1) (upd H4 D (.lst (acc ++ [z]))) else Pv (i + 1) H3) ∧
    ∀ H, Pv (j - 0).toNat H → Q (.ref D) H)
theorem x_lcR {tt : TT} {tel : TE} {vs : List Nat} (h : te σ H fun y H1 => LcR g tt tel vs Q y σ H1) : eLcR none te g tt tel vs σ H Q := h
def lcKR (g : TG) (tt : TT) (tel : TE) (vs : List Nat) (σw : L2.St) (D : Addr) (Q : VK) : List V → Hp → Prop
  | [], H => Q (.ref D) H
  | x :: xs, H => g x σw H fun σ2 H2 => wipe σ2 vs = σw ∧ tt σ2 H2 fun b H3 => if b = true then tel σ2 H3 fun z H4 => lcPut D z (fun H => lcKR g tt tel vs σw D Q xs H) H4 else lcKR g tt tel vs σw D Q xs H3
theorem lcRU {tt : TT} {tel : TE} {vs : List Nat} {σw : L2.St} (n : Nat) (ej : j = (n : Int)) (hn : (n : Int) < 4611686018427387904) (exs : (List.range n).map (fun (i : Nat) => V.int (0 + (i : Int))) = xs) (F : FH H L) (ew : wipe σ vs = σw) (h : ∀ D H', FH H' ((D, Is (.lst [])) :: L) → lcKR g tt tel vs σw D Q xs H') : LcR g tt tel vs Q (.int j) σ H := by
  subst ew ej exs
  have e62 : (2 : Int) ^ 62 = 4611686018427387904 := by decide
  refine ⟨_, rfl, ⟨by rw [e62]; decide, by rw [e62]; decide, by rw [e62]; omega, by rw [e62]; exact hn⟩, fun D hD => ⟨fun i H => lcKR g tt tel vs (wipe σ vs) D Q (((List.range n).map (fun (i : Nat) => V.int (0 + (i : Int)))).drop i) H, by (dsimp only; rw [List.drop_zero]; exact h D _ (F.new hD)), fun i H hi q => ?_, fun H q => ?_⟩⟩
  · dsimp only at q
    have hl : i < ((List.range n).map (fun (i : Nat) => V.int (0 + (i : Int)))).length := by rw [List.length_map, List.length_range]; omega
    rw [List.drop_eq_getElem_cons hl] at q
    rw [List.getElem_map, List.getElem_range] at q
    exact q
  · have e1 : ((n : Int) - 0).toNat = n := by omega
    dsimp only at q
    rw [e1, List.drop_of_length_le (by rw [List.length_map, List.length_range]; exact Nat.le_refl _)] at q
    exact q
theorem x_lcKR {D : Addr} {tt : TT} {tel : TE} {vs : List Nat} {σw : L2.St} (h : g x σw H fun σ2 H2 => wipe σ2 vs = σw ∧ tt σ2 H2 fun b H3 => if b = true then tel σ2 H3 fun z H4 => lcPut D z (fun H => lcKR g tt tel vs σw D Q xs H) H4 else lcKR g tt tel vs σw D Q xs H3) : lcKR g tt tel vs σw D Q (x :: xs) H := h
theorem x_lcKR0 {D : Addr} {tt : TT} {tel : TE} {vs : List Nat} {σw : L2.St} (h : Q (.ref D) H) : lcKR g tt tel vs σw D Q [] H := h
theorem x_listL (F : FH H L) (m : (p, Is (.lst xs)) ∈ L) (h : ∀ r H', H r = none → FH H' ((r, Is (.lst xs)) :: L) → Q (.ref r) H') : rListOf S [.ref p] H Q := ⟨p, xs, rfl, .inl (RdS.of (.inl (F.get m))), fun r hr => h r _ hr (F.new hr)⟩
theorem x_listT (F : FH H L) (m : (p, Is (.tup xs)) ∈ L) (h : ∀ r H', H r = none → FH H' ((r, Is (.lst xs)) :: L) → Q (.ref r) H') : rListOf S [.ref p] H Q := ⟨p, xs, rfl, .inr (RdS.of (.inl (F.get m))), fun r hr => h r _ hr (F.new hr)⟩
theorem x_tupleL (F : FH H L) (m : (p, Is (.lst xs)) ∈ L) (h : ∀ r H', H r = none → FH H' ((r, Is (.tup xs)) :: L) → Q (.ref r) H') : rTupleOf S [.ref p] H Q := ⟨p, xs, rfl, .inl ⟨RdS.of (.inl (F.get m)), fun r hr => h r _ hr (F.new hr)⟩⟩
theorem x_tupleT (F : FH H L) (m : (p, Is (.tup xs)) ∈ L) (h : Q (.ref p) H) : rTupleOf S [.ref p] H Q := ⟨p, xs, rfl, .inr ⟨RdS.of (.inl (F.get m)), h⟩⟩
/-- all are True -/
def AllT : Pr := lift fun o => ∃ bs : List Bool, o = .lst (bs.map V.bl) ∧ bs.all id = true
theorem lcT {tel : TE} {vs : List Nat} {σw : L2.St} (F : FH H L) (m : Src S L p xs) (z : xs.length < 16777216) (ew : wipe σ vs = σw)
    (hs : ∀ y H (QX : V → Hp → Prop), y ∈ xs → FH H L → QX (.bl true) H → g y σw H fun σ2 H2 => wipe σ2 vs = σw ∧ tel σ2 H2 QX)
    (hd : ∀ D H', FH H' ((D, AllT) :: L) → Q (.ref D) H') : LcS S g tYes tel vs Q (.ref p) σ H := by
  refine lcFM (fun _ => .bl true) (fun _ => true) F m z ew (fun y H QX A hy F' hk hA => hs y H QX hy F' (hk rfl)) fun D H' F' => hd D H' (F'.close (φ := fun o => ∃ bs : List Bool, o = .lst (bs.map V.bl) ∧ bs.all id = true) ⟨List.replicate xs.length true, ?_, ?_⟩ .here)
  · rw [List.filter_eq_self.mpr (fun _ _ => rfl)]
    congr 1
    clear m z hs F'
    induction xs with
    | nil => rfl
    | cons x xs ih => rw [List.map_cons, List.length_cons, List.replicate_succ, List.map_cons, ih]
  · generalize xs.length = n
    induction n with
    | zero => rfl
    | succ n ih => rw [List.replicate_succ, List.all_cons, ih]; rfl
theorem x_allT (F : FH H L) (m : (p, AllT) ∈ L) (h : Q (.bl true) H) : rAll S [.ref p] H Q := by
  obtain ⟨o, ho, bs, e, hb⟩ := F.is m
  subst e
  exact ⟨p, bs, rfl, .inl (.inl ho), by rw [hb]; exact h⟩
theorem Src.cons {L : List Ent} {x : Ent} (m : Src S L p xs) : Src S (x :: L) p xs := by
  cases m with
  | is m => exact .is (List.mem_cons_of_mem _ m)
  | rd m => exact .rd (List.mem_cons_of_mem _ m)
  | st m => exact .st m
theorem cutV_take {n : Nat} (h : xs.length ≤ n) : cutV xs none (some (n : Int)) = xs := by
  unfold cutV
  rw [HT.sIx_none, HT.sIx_nat, List.drop_zero, Nat.sub_zero, Nat.min_eq_right h, List.take_length]
/-! fields -/
theorem look_hit {f : Str} {v : V} {t : List (Str × V)} : List.lookup f ((f, v) :: t) = some v := by simp [List.lookup]
theorem look_nil {f : Str} : List.lookup f ([] : List (Str × V)) = none := rfl
theorem look_miss {f g : Str} {v : V} {r : Option V} {t : List (Str × V)} (h : ¬ f = g) (e : List.lookup f t = r) : List.lookup f ((g, v) :: t) = r := by
  have h' : (f == g) = false := by simpa using h
  simp only [List.lookup, h']
  exact e
theorem put_nil {f : Str} {v : V} : putF f v [] = [(f, v)] := rfl
theorem put_hit {f : Str} {v w : V} {t : List (Str × V)} : putF f v ((f, w) :: t) = (f, v) :: t := by
  show (if f = f then _ else _) = _
  rw [if_pos rfl]
theorem put_miss {f g : Str} {v w : V} {t t' : List (Str × V)} (h : ¬ g = f) (e : putF f v t = t') : putF f v ((g, w) :: t) = (g, w) :: t' := by
  show (if g = f then _ else _) = _
  rw [if_neg h, e]
/-! == of flat lists and tuples -/
def flatOk : V → Bool
  | .non => true
  | .bl _ => true
  | .int _ => true
  | .str s => PyData.canLay0 (.str s)
  | _ => false
def flatD : V → PyData
  | .bl b => .bool b
  | .int i => .int i
  | .str s => .str s
  | _ => .none
def eqvF (xs ys : List V) : Bool := PyData.eqvAll (xs.map flatD) (ys.map flatD)
theorem dp_flat {v : V} (h : flatOk v = true) : DpS S H v (flatD v) := by
  cases v with
  | non => exact .non
  | bl b => exact .bl b
  | int i => exact .int i
  | str s => exact .str s
  | _ => cases h
theorem dps_flat : ∀ {xs : List V}, xs.all flatOk = true → DpSs S H xs (xs.map flatD)
  | [], _ => .nil
  | x :: xs, h => by
    rw [List.all_cons, Bool.and_eq_true] at h
    exact .cons (dp_flat h.1) (dps_flat h.2)
theorem lay_flat : ∀ {xs : List V}, xs.all flatOk = true → PyData.canLayAll0 (xs.map flatD) = true ∧ PyData.depthAll (xs.map flatD) = 0
  | [], _ => ⟨rfl, rfl⟩
  | x :: xs, h => by
    rw [List.all_cons, Bool.and_eq_true] at h
    obtain ⟨h1, h2⟩ := lay_flat h.2
    rw [List.map_cons]
    have e : PyData.canLay0 (flatD x) = true ∧ PyData.depth (flatD x) = 0 := by
      cases x with
      | non => exact ⟨rfl, rfl⟩
      | bl b => exact ⟨rfl, rfl⟩
      | int i => exact ⟨rfl, rfl⟩
      | str s => exact ⟨h.1, rfl⟩
      | _ => cases h.1
    constructor
    · rw [PyData.canLayAll0, e.1, h1]; rfl
    · rw [PyData.depthAll, e.2, h2]; rfl
theorem shaped_flatL {xs : List V} (h : xs.all flatOk = true) : SeqAt.shaped (.list (xs.map flatD)) = true := by
  obtain ⟨h1, h2⟩ := lay_flat h
  unfold SeqAt.shaped
  rw [PyData.canLay0, h1, PyData.depth, h2]
  rfl
theorem shaped_flatT {xs : List V} (h : xs.all flatOk = true) : SeqAt.shaped (.tuple (xs.map flatD)) = true := by
  obtain ⟨h1, h2⟩ := lay_flat h
  unfold SeqAt.shaped
  rw [PyData.canLay0, h1, PyData.depth, h2]
  rfl
theorem eqv_nil : eqvF [] [] = true := rfl
theorem eqv_nc {x : V} {xs : List V} : eqvF [] (x :: xs) = false := rfl
theorem eqv_cn {x : V} {xs : List V} : eqvF (x :: xs) [] = false := rfl
theorem eqv_int {i j : Int} {xs ys : List V} : eqvF (.int i :: xs) (.int j :: ys) = (decide (i = j) && eqvF xs ys) := by
  show (i == j && _) = _
  rfl
theorem eqv_bl {i j : Bool} {xs ys : List V} : eqvF (.bl i :: xs) (.bl j :: ys) = (decide (i = j) && eqvF xs ys) := by
  show (i == j && _) = _
  cases i <;> cases j <;> rfl
theorem eqv_str {i j : Str} {xs ys : List V} : eqvF (.str i :: xs) (.str j :: ys) = (decide (i = j) && eqvF xs ys) := by
  show (i == j && _) = _
  congr 1
theorem eqv_ints : ∀ {ns ms : List Int}, eqvF (ns.map V.int) (ms.map V.int) = decide (ns = ms)
  | [], [] => rfl
  | [], _ :: _ => rfl
  | _ :: _, [] => rfl
  | n :: ns, m :: ms => by
    rw [List.map_cons, List.map_cons, eqv_int, eqv_ints, Bool.eq_iff_iff]
    simp only [Bool.and_eq_true, decide_eq_true_eq, List.cons.injEq]
theorem flat_ints : ∀ {ns : List Int}, (ns.map V.int).all flatOk = true
  | [] => rfl
  | _ :: ns => by rw [List.map_cons, List.all_cons, flat_ints]; rfl
theorem x_eqPL (F : FH H L) {q : Addr} {ys : List V} {b : Bool} (m : (p, Is (.lst xs)) ∈ L) (n : (q, Is (.lst ys)) ∈ L) (f1 : xs.all flatOk = true) (f2 : ys.all flatOk = true) (e : eqvF xs ys = b) (h : Q (.bl b) H) : rEqP S (.ref p) (.ref q) H Q :=
  .inr ⟨_, _, .lst (.inl (.inl (F.get m))) (dps_flat f1), .lst (.inl (.inl (F.get n))) (dps_flat f2), shaped_flatL f1, shaped_flatL f2, by
    show Q (.bl (eqvF xs ys)) H
    rw [e]; exact h⟩
theorem x_nePL (F : FH H L) {q : Addr} {ys : List V} {b : Bool} (m : (p, Is (.lst xs)) ∈ L) (n : (q, Is (.lst ys)) ∈ L) (f1 : xs.all flatOk = true) (f2 : ys.all flatOk = true) (e : eqvF xs ys = b) (h : Q (.bl (!b)) H) : rNeP S (.ref p) (.ref q) H Q :=
  .inr ⟨_, _, .lst (.inl (.inl (F.get m))) (dps_flat f1), .lst (.inl (.inl (F.get n))) (dps_flat f2), shaped_flatL f1, shaped_flatL f2, by
    show Q (.bl (!eqvF xs ys)) H
    rw [e]; exact h⟩
theorem x_eqPT (F : FH H L) {q : Addr} {ys : List V} {b : Bool} (m : (p, Is (.tup xs)) ∈ L) (n : (q, Is (.tup ys)) ∈ L) (f1 : xs.all flatOk = true) (f2 : ys.all flatOk = true) (e : eqvF xs ys = b) (h : Q (.bl b) H) : rEqP S (.ref p) (.ref q) H Q :=
  .inr ⟨_, _, .tup (.inl (.inl (F.get m))) (dps_flat f1), .tup (.inl (.inl (F.get n))) (dps_flat f2), shaped_flatT f1, shaped_flatT f2, by
    show Q (.bl (eqvF xs ys)) H
    rw [e]; exact h⟩
theorem x_nePT (F : FH H L) {q : Addr} {ys : List V} {b : Bool} (m : (p, Is (.tup xs)) ∈ L) (n : (q, Is (.tup ys)) ∈ L) (f1 : xs.all flatOk = true) (f2 : ys.all flatOk = true) (e : eqvF xs ys = b) (h : Q (.bl (!b)) H) : rNeP S (.ref p) (.ref q) H Q :=
  .inr ⟨_, _, .tup (.inl (.inl (F.get m))) (dps_flat f1), .tup (.inl (.inl (F.get n))) (dps_flat f2), shaped_flatT f1, shaped_flatT f2, by
    show Q (.bl (!eqvF xs ys)) H
    rw [e]; exact h⟩
theorem eqv_strS {s : Str} {xs ys : List V} : eqvF (.str s :: xs) (.str s :: ys) = eqvF xs ys := by rw [eqv_str, decide_eq_true rfl, Bool.true_and]
theorem eqv_strD {s t : Str} {xs ys : List V} (h : s ≠ t) : eqvF (.str s :: xs) (.str t :: ys) = false := by rw [eqv_str, decide_eq_false h, Bool.false_and]
theorem flat_cons {x : V} {xs : List V} (h : flatOk x = true) (t : xs.all flatOk = true) : (x :: xs).all flatOk = true := by rw [List.all_cons, h, t]; rfl
theorem x_eqPSs {a : Str} (h : Q (.bl true) H) : rEqP S (.str a) (.str a) H Q := .inl (x_eqS (by rw [decide_eq_true rfl]; exact h))
theorem x_nePSs {a : Str} (h : Q (.bl false) H) : rNeP S (.str a) (.str a) H Q := .inl (x_neS (by rw [decide_eq_false (fun z => z rfl)]; exact h))
theorem x_eqPSd {a b : Str} (ne : a ≠ b) (h : Q (.bl false) H) : rEqP S (.str a) (.str b) H Q := .inl (x_eqS (by rw [decide_eq_false ne]; exact h))
theorem x_nePSd {a b : Str} (ne : a ≠ b) (h : Q (.bl true) H) : rNeP S (.str a) (.str b) H Q := .inl (x_neS (by rw [decide_eq_true ne]; exact h))
theorem eqv_nn {xs ys : List V} : eqvF (.non :: xs) (.non :: ys) = eqvF xs ys := by show (true && _) = _; rw [Bool.true_and]; rfl
theorem eqv_ni {i : Int} {xs ys : List V} : eqvF (.non :: xs) (.int i :: ys) = false := rfl
theorem eqv_in {i : Int} {xs ys : List V} : eqvF (.int i :: xs) (.non :: ys) = false := rfl
theorem eqv_ns {s : Str} {xs ys : List V} : eqvF (.non :: xs) (.str s :: ys) = false := rfl
theorem eqv_sn {s : Str} {xs ys : List V} : eqvF (.str s :: xs) (.non :: ys) = false := rfl
theorem eqv_si {s : Str} {i : Int} {xs ys : List V} : eqvF (.str s :: xs) (.int i :: ys) = false := rfl
theorem eqv_is {s : Str} {i : Int} {xs ys : List V} : eqvF (.int i :: xs) (.str s :: ys) = false := rfl
theorem sc_of {x y : V} {b : Bool} (s : scal x y = true) (e : decide (x = y) = b) (h : Q (.bl b) H) : rEqP S x y H Q := .inl ⟨s, by rw [e]; exact h⟩
theorem sn_of {x y : V} {b : Bool} (s : scal x y = true) (e : decide (x = y) = b) (h : Q (.bl (!b)) H) : rNeP S x y H Q := .inl ⟨s, by rw [e]; exact h⟩
theorem x_eqP_nn (h : Q (.bl true) H) : rEqP S (.non) (.non) H Q := sc_of rfl (decide_eq_true rfl) h
theorem x_neP_nn (h : Q (.bl (!true)) H) : rNeP S (.non) (.non) H Q := sn_of rfl (decide_eq_true rfl) h
theorem x_eqP_ni (h : Q (.bl false) H) : rEqP S (.non) (.int i) H Q := sc_of rfl (decide_eq_false (by simp)) h
theorem x_neP_ni (h : Q (.bl (!false)) H) : rNeP S (.non) (.int i) H Q := sn_of rfl (decide_eq_false (by simp)) h
theorem x_eqP_in (h : Q (.bl false) H) : rEqP S (.int i) (.non) H Q := sc_of rfl (decide_eq_false (by simp)) h
theorem x_neP_in (h : Q (.bl (!false)) H) : rNeP S (.int i) (.non) H Q := sn_of rfl (decide_eq_false (by simp)) h
theorem x_eqP_nb (h : Q (.bl false) H) : rEqP S (.non) (.bl b) H Q := sc_of rfl (decide_eq_false (by simp)) h
theorem x_neP_nb (h : Q (.bl (!false)) H) : rNeP S (.non) (.bl b) H Q := sn_of rfl (decide_eq_false (by simp)) h
theorem x_eqP_bn (h : Q (.bl false) H) : rEqP S (.bl b) (.non) H Q := sc_of rfl (decide_eq_false (by simp)) h
theorem x_neP_bn (h : Q (.bl (!false)) H) : rNeP S (.bl b) (.non) H Q := sn_of rfl (decide_eq_false (by simp)) h
theorem x_eqP_ns {z : Str} (h : Q (.bl false) H) : rEqP S (.non) (.str z) H Q := sc_of rfl (decide_eq_false (by simp)) h
theorem x_neP_ns {z : Str} (h : Q (.bl (!false)) H) : rNeP S (.non) (.str z) H Q := sn_of rfl (decide_eq_false (by simp)) h
theorem x_eqP_sn {z : Str} (h : Q (.bl false) H) : rEqP S (.str z) (.non) H Q := sc_of rfl (decide_eq_false (by simp)) h
theorem x_neP_sn {z : Str} (h : Q (.bl (!false)) H) : rNeP S (.str z) (.non) H Q := sn_of rfl (decide_eq_false (by simp)) h
theorem x_eqP_is {z : Str} (h : Q (.bl false) H) : rEqP S (.int i) (.str z) H Q := sc_of rfl (decide_eq_false (by simp)) h
theorem x_neP_is {z : Str} (h : Q (.bl (!false)) H) : rNeP S (.int i) (.str z) H Q := sn_of rfl (decide_eq_false (by simp)) h
theorem x_eqP_si {z : Str} (h : Q (.bl false) H) : rEqP S (.str z) (.int i) H Q := sc_of rfl (decide_eq_false (by simp)) h
theorem x_neP_si {z : Str} (h : Q (.bl (!false)) H) : rNeP S (.str z) (.int i) H Q := sn_of rfl (decide_eq_false (by simp)) h
theorem x_eqP_bs {z : Str} (h : Q (.bl false) H) : rEqP S (.bl b) (.str z) H Q := sc_of rfl (decide_eq_false (by simp)) h
theorem x_neP_bs {z : Str} (h : Q (.bl (!false)) H) : rNeP S (.bl b) (.str z) H Q := sn_of rfl (decide_eq_false (by simp)) h
theorem x_eqP_sb {z : Str} (h : Q (.bl false) H) : rEqP S (.str z) (.bl b) H Q := sc_of rfl (decide_eq_false (by simp)) h
theorem x_neP_sb {z : Str} (h : Q (.bl (!false)) H) : rNeP S (.str z) (.bl b) H Q := sn_of rfl (decide_eq_false (by simp)) h
theorem x_isr_list_int (F : FH H L) (m : (p, Is (.lst xs)) ∈ L) (h : Q (.bl false) H) : rIsI [.ref p, .ty "int"] H Q := isi_of (.lst (.inl (F.get m))) kit_list_int rfl h
theorem x_isr_list_bool (F : FH H L) (m : (p, Is (.lst xs)) ∈ L) (h : Q (.bl false) H) : rIsI [.ref p, .ty "bool"] H Q := isi_of (.lst (.inl (F.get m))) kit_list_bool rfl h
theorem x_isr_list_str (F : FH H L) (m : (p, Is (.lst xs)) ∈ L) (h : Q (.bl false) H) : rIsI [.ref p, .ty "str"] H Q := isi_of (.lst (.inl (F.get m))) kit_list_str rfl h
theorem x_isr_list_list (F : FH H L) (m : (p, Is (.lst xs)) ∈ L) (h : Q (.bl true) H) : rIsI [.ref p, .ty "list"] H Q := isi_of (.lst (.inl (F.get m))) kit_list_list rfl h
theorem x_isr_list_tuple (F : FH H L) (m : (p, Is (.lst xs)) ∈ L) (h : Q (.bl false) H) : rIsI [.ref p, .ty "tuple"] H Q := isi_of (.lst (.inl (F.get m))) kit_list_tuple rfl h
theorem x_isr_list_dict (F : FH H L) (m : (p, Is (.lst xs)) ∈ L) (h : Q (.bl false) H) : rIsI [.ref p, .ty "dict"] H Q := isi_of (.lst (.inl (F.get m))) kit_list_dict rfl h
theorem x_isr_tuple_int (F : FH H L) (m : (p, Is (.tup xs)) ∈ L) (h : Q (.bl false) H) : rIsI [.ref p, .ty "int"] H Q := isi_of (.tup (.inl (F.get m))) kit_tuple_int rfl h
theorem x_isr_tuple_bool (F : FH H L) (m : (p, Is (.tup xs)) ∈ L) (h : Q (.bl false) H) : rIsI [.ref p, .ty "bool"] H Q := isi_of (.tup (.inl (F.get m))) kit_tuple_bool rfl h
theorem x_isr_tuple_str (F : FH H L) (m : (p, Is (.tup xs)) ∈ L) (h : Q (.bl false) H) : rIsI [.ref p, .ty "str"] H Q := isi_of (.tup (.inl (F.get m))) kit_tuple_str rfl h
theorem x_isr_tuple_list (F : FH H L) (m : (p, Is (.tup xs)) ∈ L) (h : Q (.bl false) H) : rIsI [.ref p, .ty "list"] H Q := isi_of (.tup (.inl (F.get m))) kit_tuple_list rfl h
theorem x_isr_tuple_tuple (F : FH H L) (m : (p, Is (.tup xs)) ∈ L) (h : Q (.bl true) H) : rIsI [.ref p, .ty "tuple"] H Q := isi_of (.tup (.inl (F.get m))) kit_tuple_tuple rfl h
theorem x_isr_tuple_dict (F : FH H L) (m : (p, Is (.tup xs)) ∈ L) (h : Q (.bl false) H) : rIsI [.ref p, .ty "dict"] H Q := isi_of (.tup (.inl (F.get m))) kit_tuple_dict rfl h
theorem is_eqP (h : rEqP S x y H Q) : rEqP S x y H Q := h
theorem is_neP (h : rNeP S x y H Q) : rNeP S x y H Q := h
theorem x_eqPI (h : Q (.bl (decide (i = j))) H) : rEqP S (.int i) (.int j) H Q := .inl (x_eqI h)
theorem x_nePI (h : Q (.bl (decide (i ≠ j))) H) : rNeP S (.int i) (.int j) H Q := .inl (x_neI h)
theorem x_eqPB {a b : Bool} (h : Q (.bl (decide (a = b))) H) : rEqP S (.bl a) (.bl b) H Q := .inl (x_eqB h)
theorem x_nePB {a b : Bool} (h : Q (.bl (decide (a ≠ b))) H) : rNeP S (.bl a) (.bl b) H Q := .inl (x_neB h)
theorem x_eqPS {a b : Str} (h : Q (.bl (decide (a = b))) H) : rEqP S (.str a) (.str b) H Q := .inl (x_eqS h)
theorem x_nePS {a b : Str} (h : Q (.bl (decide (a ≠ b))) H) : rNeP S (.str a) (.str b) H Q := .inl (x_neS h)
/-! small built-ins -/
theorem x_abs (h : Q (.int (if i < 0 then -i else i)) H) : rAbs [.int i] H Q := ⟨i, rfl, h⟩
theorem x_inL {bb : Bool} (F : FH H L) (m : (p, Is (.lst xs)) ∈ L) (f : flatV x = true) (fs : xs.all flatV = true) (e : inV x xs = bb) (h : Q (.bl bb) H) : rInA S false x (.ref p) H Q := .inl ⟨p, xs, rfl, .inl (.inl (.inl (F.get m))), f, fs, by rw [e]; exact h⟩
theorem x_inT {bb : Bool} (F : FH H L) (m : (p, Is (.tup xs)) ∈ L) (f : flatV x = true) (fs : xs.all flatV = true) (e : inV x xs = bb) (h : Q (.bl bb) H) : rInA S false x (.ref p) H Q := .inl ⟨p, xs, rfl, .inr (.inl (.inl (F.get m))), f, fs, by rw [e]; exact h⟩
theorem x_ninL {bb : Bool} (F : FH H L) (m : (p, Is (.lst xs)) ∈ L) (f : flatV x = true) (fs : xs.all flatV = true) (e : inV x xs = bb) (h : Q (.bl (!bb)) H) : rInA S true x (.ref p) H Q := .inl ⟨p, xs, rfl, .inl (.inl (.inl (F.get m))), f, fs, by rw [e]; exact h⟩
theorem x_ninT {bb : Bool} (F : FH H L) (m : (p, Is (.tup xs)) ∈ L) (f : flatV x = true) (fs : xs.all flatV = true) (e : inV x xs = bb) (h : Q (.bl (!bb)) H) : rInA S true x (.ref p) H Q := .inl ⟨p, xs, rfl, .inr (.inl (.inl (F.get m))), f, fs, by rw [e]; exact h⟩
theorem x_min3 {k : Int} (h : Q (.int (min (min i j) k)) H) : rMin3 [.int i, .int j, .int k] H Q := ⟨i, j, k, rfl, h⟩
theorem x_min2 (h : Q (.int (min i j)) H) : rMin2 [.int i, .int j] H Q := ⟨i, j, rfl, by rw [show (if j < i then j else i) = min i j by omega]; exact h⟩
theorem x_max2 (h : Q (.int (max i j)) H) : rMax2 [.int i, .int j] H Q := ⟨i, j, rfl, by rw [show (if j > i then j else i) = max i j by omega]; exact h⟩
theorem x_sumL {ns : List Int} (F : FH H L) (m : (p, Is (.lst (ns.map V.int))) ∈ L) (h : Q (.int ns.sum) H) : rSum S [.ref p] H Q := ⟨p, ns, rfl, .inl (.inl (F.get m)), h⟩
theorem x_allL {bs : List Bool} (F : FH H L) (m : (p, Is (.lst xs)) ∈ L) (e : xs = bs.map V.bl) (h : Q (.bl (bs.all id)) H) : rAll S [.ref p] H Q := ⟨p, bs, rfl, .inl (.inl (by rw [← e]; exact F.get m)), h⟩
theorem x_cat (F : FH H L) {q : Addr} {ys : List V} (m : (p, Is (.lst xs)) ∈ L) (n : (q, Is (.lst ys)) ∈ L) (z : (xs ++ ys).length ≤ sizeLine) (h : ∀ r H', H r = none → FH H' ((r, Is (.lst (xs ++ ys))) :: L) → Q (.ref r) H') : rAdd (.ref p) (.ref q) H Q :=
  .inr (.inr ⟨p, q, xs, ys, rfl, rfl, F.get m, F.get n, by rw [← List.length_append]; exact z, fun r hr => h r _ hr (F.new hr)⟩)
theorem x_prop {C : Addr} (h : te σ H fun x H1 => ∃ a dx fs, x = .ref a ∧ H1 a = some (.ins C dx fs) ∧ sp [.ref a] H1 Q E0) : eProp C sp te σ H Q := h
theorem x_propG {C : Addr} {B : Addr → Prop} (F : FH H L) (m : (p, Is (.ins C dx fs)) ∈ L) (h : B p) : ∃ a dx fs, V.ref p = .ref a ∧ H a = some (.ins C dx fs) ∧ B a := ⟨p, dx, fs, rfl, F.get m, h⟩
theorem x_augF {C : Addr} {rd : V → V → Hp → VK → Prop} (h : te σ H fun x H1 => ∃ a dx fs v, x = .ref a ∧ H1 a = some (.ins C dx fs) ∧ fs.lookup f = some v ∧
  tb σ H1 fun y H2 => rd v y H2 fun z H3 => ∃ dx' fs', H3 a = some (.ins C dx' fs') ∧ fs'.length < 1000 ∧ nx σ (upd H3 a (.ins C dx' (putF f z fs')))) : sAugF C f te tb rd ⟨nx, rt, bk, ct⟩ σ H := h
theorem x_augFG {C : Addr} {QAV : Addr → V → Prop} (F : FH H L) (m : (p, Is (.ins C dx fs)) ∈ L) (l : fs.lookup f = some v) (h : QAV p v) : ∃ a dx fs v, V.ref p = .ref a ∧ H a = some (.ins C dx fs) ∧ fs.lookup f = some v ∧ QAV a v := ⟨p, dx, fs, v, rfl, F.get m, l, h⟩
theorem x_augFS {C : Addr} {z : V} {QH : Hp → Prop} {fs' : List (Str × V)} (F : FH H L) (m : (p, Is (.ins C dx fs)) ∈ L) (hl : fs.length < 1000) (e : putF f z fs = fs') (pu : Put p (Is (.ins C dx fs)) (Is (.ins C dx fs')) L L') (h : ∀ H', FH H' L' → QH H') : ∃ dx' fs', H p = some (.ins C dx' fs') ∧ fs'.length < 1000 ∧ QH (upd H p (.ins C dx' (putF f z fs'))) :=
  ⟨dx, fs, F.get m, hl, by rw [e]; exact h _ (F.put pu trivial)⟩
theorem x_inAdd (h : Q (.int (i + j)) H) : rInAdd (.int i) (.int j) H Q := ⟨i, j, rfl, rfl, h⟩
theorem x_inSub (h : Q (.int (i - j)) H) : rInSub (.int i) (.int j) H Q := ⟨i, j, rfl, rfl, h⟩
/-! objects of several classes -/
variable {Cs : List Addr} {ls : List (Addr × Sp)}
theorem x_mD {ES : L2.St → XK} {m : Str} (h : ta σ H fun x H1 => ∃ a C dx fs sp, x = .ref a ∧ H1 a = some (.ins C dx fs) ∧ (C, sp) ∈ ls ∧ fs.lookup m = none ∧ tl σ H1 fun vs H2 => sp (x :: vs) H2 Q (ES σ)) : tMD ls m ES ta tl σ H Q := h
theorem x_mDG {C : Addr} {m : Str} {B : Sp → Prop} {sp1 : Sp} (F : FH H L) (hm : (p, Is (.ins C dx fs)) ∈ L) (mt : (C, sp1) ∈ ls) (l : fs.lookup m = none) (h : B sp1) : ∃ a C dx fs sp, V.ref p = .ref a ∧ H a = some (.ins C dx fs) ∧ (C, sp) ∈ ls ∧ fs.lookup m = none ∧ B sp := ⟨p, C, dx, fs, sp1, rfl, F.get hm, mt, l, h⟩
theorem x_fldD (h : te σ H fun x H1 => ∃ a C dx fs v, x = .ref a ∧ H1 a = some (.ins C dx fs) ∧ C ∈ Cs ∧ fs.lookup f = some v ∧ Q v H1) : eFldD Cs f te σ H Q := h
theorem x_fldDG {C : Addr} {QV : V → Prop} (F : FH H L) (m : (p, Is (.ins C dx fs)) ∈ L) (mt : C ∈ Cs) (l : fs.lookup f = some v) (h : QV v) : ∃ a C dx fs v, V.ref p = .ref a ∧ H a = some (.ins C dx fs) ∧ C ∈ Cs ∧ fs.lookup f = some v ∧ QV v := ⟨p, C, dx, fs, v, rfl, F.get m, mt, l, h⟩
theorem x_setFD (h : tb σ H fun y H1 => te σ H1 fun x H2 => ∃ a C dx fs, x = .ref a ∧ H2 a = some (.ins C dx fs) ∧ C ∈ Cs ∧ fs.length < 1000 ∧ nx σ (upd H2 a (.ins C dx (putF f y fs)))) : sSetFD Cs f te tb ⟨nx, rt, bk, ct⟩ σ H := h
theorem x_setFDG {C : Addr} {QH : Hp → Prop} {fs' : List (Str × V)} (F : FH H L) (m : (p, Is (.ins C dx fs)) ∈ L) (mt : C ∈ Cs) (z : fs.length < 1000) (e : putF f y fs = fs') (pu : Put p (Is (.ins C dx fs)) (Is (.ins C dx fs')) L L') (h : ∀ H', FH H' L' → QH H') :
    ∃ a C dx fs, V.ref p = .ref a ∧ H a = some (.ins C dx fs) ∧ C ∈ Cs ∧ fs.length < 1000 ∧ QH (upd H a (.ins C dx (putF f y fs))) := ⟨p, C, dx, fs, rfl, F.get m, mt, z, by rw [e]; exact h _ (F.put pu trivial)⟩
theorem x_augFD {rd : V → V → Hp → VK → Prop} (h : te σ H fun x H1 => ∃ a C dx fs v, x = .ref a ∧ H1 a = some (.ins C dx fs) ∧ C ∈ Cs ∧ fs.lookup f = some v ∧
  tb σ H1 fun y H2 => rd v y H2 fun z H3 => ∃ dx' fs', H3 a = some (.ins C dx' fs') ∧ fs'.length < 1000 ∧ nx σ (upd H3 a (.ins C dx' (putF f z fs')))) : sAugFD Cs f te tb rd ⟨nx, rt, bk, ct⟩ σ H := h
theorem x_augFDG {C : Addr} {QAV : Addr → Addr → V → Prop} (F : FH H L) (m : (p, Is (.ins C dx fs)) ∈ L) (mt : C ∈ Cs) (l : fs.lookup f = some v) (h : QAV p C v) : ∃ a C dx fs v, V.ref p = .ref a ∧ H a = some (.ins C dx fs) ∧ C ∈ Cs ∧ fs.lookup f = some v ∧ QAV a C v := ⟨p, C, dx, fs, v, rfl, F.get m, mt, l, h⟩
theorem x_propD (h : te σ H fun x H1 => ∃ a C dx fs sp, x = .ref a ∧ H1 a = some (.ins C dx fs) ∧ (C, sp) ∈ ls ∧ sp [.ref a] H1 Q E0) : ePropD ls te σ H Q := h
theorem x_propDG {C : Addr} {sp1 : Sp} {B : Addr → Sp → Prop} (F : FH H L) (m : (p, Is (.ins C dx fs)) ∈ L) (mt : (C, sp1) ∈ ls) (h : B p sp1) : ∃ a C dx fs sp, V.ref p = .ref a ∧ H a = some (.ins C dx fs) ∧ (C, sp) ∈ ls ∧ B a sp := ⟨p, C, dx, fs, sp1, rfl, F.get m, mt, h⟩
theorem x_supM {C : Addr} {σ : L2.St} (F : FH H L) (m : (p, Is (.ins C dx fs)) ∈ L) (mt : C ∈ Cs) (h : tl (some (.ref p) :: σ) H fun vs H1 => sp (.ref p :: vs) H1 Q E) : tSupM Cs sp E tl (some (.ref p) :: σ) H Q := ⟨p, C, dx, fs, rfl, F.get m, mt, h⟩
theorem x_augSub {to ti : TE} {tg : V → V → Hp → VK → Prop} {tp : TIp} {ts : TSet} (h : to σ H fun o H1 => ti σ H1 fun i H2 => tg o i H2 fun x H3 => te σ H3 fun y H4 => tp x y H4 fun z H5 => ts o i z H5 fun H6 => nx σ H6) : tAugS to ti te tg tp ts ⟨nx, rt, bk, ct⟩ σ H := h
theorem x_getL (F : FH H L) (m : (p, Is (.lst xs)) ∈ L) (a : atI xs i = some v) (h : Q v H) : rGetL (.ref p) (.int i) H Q := ⟨p, xs, i, v, rfl, rfl, F.get m, a, h⟩
def KmakeD (C : Addr) (sp : Sp) (vs : List V) (H1 : Hp) (Q : VK) (E : XK) : Prop := ∀ x dx, H1 x = none → H1 dx = none → dx ≠ x → sp (.ref x :: vs) (upd (upd H1 dx (.own x)) x (.ins C dx [])) (fun v H2 => v = .non ∧ Q (.ref x) H2) E
theorem x_makeD {C : Addr} {d : V} {ds : List V} (h : tl σ H fun vs H1 => KmakeD C sp (vs ++ d :: ds) H1 Q E) : tMake C sp (d :: ds) E tl σ H Q := h
theorem app0 {α : Type} {ws : List α} : [] ++ ws = ws := rfl
theorem app1 {α : Type} {x : α} {ws : List α} : [x] ++ ws = x :: ws := rfl
theorem app2 {α : Type} {x y : α} {ws : List α} : [x, y] ++ ws = x :: y :: ws := rfl
theorem app3 {α : Type} {x y z : α} {ws : List α} : [x, y, z] ++ ws = x :: y :: z :: ws := rfl
theorem x_makeDG {C : Addr} {vs ws : List V} (F : FH H L) (ap : vs = ws) (h : ∀ x dx H', FH H' ((x, Is (.ins C dx [])) :: L) → sp (.ref x :: ws) H' (fun v H2 => v = .non ∧ Q (.ref x) H2) E) :
    KmakeD C sp vs H Q E := fun x dx hx hd ne => by
  rw [ap]
  exact h x dx _ ((F.other hd).new (by rw [upd_ne (Ne.symm ne)]; exact hx))
/-! errors -/
def KmkC (C : Addr) (fs : List Str) (E : XK) (vs : List V) (H1 : Hp) : Prop := vs.length = fs.length ∧ ∀ d, H1 d = none → E (.ref C) (some d) (upd H1 d (.xd (exFs fs vs)))
theorem x_raise {C : Addr} {fs : List Str} {D : Ends} (h : tl σ H fun vs H1 => KmkC C fs E vs H1) : sRaise E (tMkC C fs tl) D σ H := h
theorem x_raiseS {C : Addr} {fs : List Str} {D : Ends} {W : WX} (h : tl σ H fun vs H1 => KmkC C fs (WE W σ) vs H1) : sRaiseS W (tMkC C fs tl) D σ H := h
theorem x_mkC1 {C : Addr} {f : Str} (F : FH H L) (h : ∀ d H', FH H' ((d, Is (.xd [(f, v)])) :: L) → E (.ref C) (some d) H') : KmkC C [f] E [v] H := ⟨rfl, fun d hd => h d _ (F.new hd)⟩
theorem x_mkC2 {C : Addr} {f g : Str} {w : V} (F : FH H L) (h : ∀ d H', FH H' ((d, Is (.xd [(g, w), (f, v)])) :: L) → E (.ref C) (some d) H') : KmkC C [f, g] E [v, w] H := ⟨rfl, fun d hd => h d _ (F.new hd)⟩
theorem x_try {tab : List (Value × Nat)} {cl : List Sui} {tw : WX → TS} (h : tw (wT tab cl ⟨nx, rt, bk, ct⟩) ⟨nx, rt, bk, ct⟩ σ H) : sTry tab cl tw ⟨nx, rt, bk, ct⟩ σ H := h
theorem x_cS {ES : L2.St → XK} (h : tl σ H fun vs H1 => sp vs H1 Q (ES σ)) : tCS sp ES tl σ H Q := h
theorem x_mS {ES : L2.St → XK} {m : Str} (h : ta σ H fun x H1 => ∃ a dx fs, x = .ref a ∧ H1 a = some (.ins C dx fs) ∧ fs.lookup m = none ∧ tl σ H1 fun vs H2 => sp (x :: vs) H2 Q (ES σ)) : tMS C m sp ES ta tl σ H Q := h
def KnewS (C : Addr) (sp : Sp) (vs : List V) (H1 : Hp) (Q : VK) (E : XK) : Prop := ∀ x dx, H1 x = none → H1 dx = none → dx ≠ x → sp (.ref x :: vs) (upd (upd H1 dx (.own x)) x (.ins C dx [])) (fun v H2 => v = .non ∧ Q (.ref x) H2) E
theorem x_newS {ES : L2.St → XK} (h : tl σ H fun vs H1 => KnewS C sp vs H1 Q (ES σ)) : tNewS C sp ES tl σ H Q := h
theorem x_newSG {C : Addr} {vs : List V} (F : FH H L) (h : ∀ x dx H', FH H' ((x, Is (.ins C dx [])) :: L) → sp (.ref x :: vs) H' (fun v H2 => v = .non ∧ Q (.ref x) H2) E) : KnewS C sp vs H Q E := fun x dx hx hd ne =>
  h x dx _ ((F.other hd).new (by rw [upd_ne (Ne.symm ne)]; exact hx))
def gDel (i : Nat) (σ : L2.St) (H : Hp) (k : K0) : Prop := k (σ.set i none) H
theorem is_d {n : Nat} {k : K0} (h : gDel n σ H k) : gDel n σ H k := h
theorem x_wTs {tab : List (Value × Nat)} {cl : List Sui} {k i : Nat} {ts : Addr → Value → Option Addr → TS} {cls : Value} {d : Option Addr} (mt : (cls, k) ∈ tab) (rf : cl[k]? = some (some i, ts)) (h : ∀ a, gName i (.ref a) σ H fun σ' H' => ts a cls d ⟨fun σ' H' => gDel i σ' H' nx, rt, fun σ' H' => gDel i σ' H' bk, fun σ' H' => gDel i σ' H' ct⟩ σ' H') :
    wT tab cl ⟨nx, rt, bk, ct⟩ cls d σ H := ⟨k, some i, ts, mt, rf, fun a _ => h a⟩
theorem x_wTn {tab : List (Value × Nat)} {cl : List Sui} {k : Nat} {ts : Addr → Value → Option Addr → TS} {cls : Value} {d : Option Addr} (mt : (cls, k) ∈ tab) (rf : cl[k]? = some (none, ts)) (h : ∀ a, ts a cls d ⟨nx, rt, bk, ct⟩ σ H) :
    wT tab cl ⟨nx, rt, bk, ct⟩ cls d σ H := ⟨k, none, ts, mt, rf, fun a _ => h a⟩
theorem x_xf {b : Addr} {cls : Value} {d : Option Addr} {Cs : List Addr} {f : Str} (h : te σ H fun x H1 => x = .ref b ∧ ∃ C, C ∈ Cs ∧ cls = .ref C ∧ ∃ (dd : Addr) (fs : List (Str × V)) (v : V), d = some dd ∧ H1 dd = some (.xd fs) ∧ fs.lookup f = some v ∧ Q v H1) : eXf b cls d Cs f te σ H Q := h
theorem x_xfG {b C : Addr} {Cs : List Addr} {f : Str} {QV : V → Prop} {fs : List (Str × V)} (F : FH H L) (m : (p, Is (.xd fs)) ∈ L) (mt : C ∈ Cs) (l : fs.lookup f = some v) (h : QV v) :
    V.ref b = .ref b ∧ ∃ C', C' ∈ Cs ∧ Value.ref C = .ref C' ∧ ∃ (dd : Addr) (fs : List (Str × V)) (v : V), some p = some dd ∧ H dd = some (.xd fs) ∧ fs.lookup f = some v ∧ QV v := ⟨rfl, C, mt, rfl, p, fs, v, rfl, F.get m, l, h⟩
theorem x_isX {b C : Addr} {tbl : List (Value × V × Bool)} {c : V} {k : Bool} {fs : List (Str × V)} (F : FH H L) (m : (p, Is (.xd fs)) ∈ L) (mt : (Value.ref C, c, k) ∈ tbl) (h : Q (.bl k) H) : rIsX tbl b (.ref C) (some p) [.ref b, c] H Q := .inl ⟨c, k, rfl, mt, ⟨p, fs, rfl, F.get m⟩, h⟩
theorem x_isXi {b : Addr} {tbl : List (Value × V × Bool)} {cls : Value} {d : Option Addr} {xs : List V} (h : rIsI xs H Q) : rIsX tbl b cls d xs H Q := .inr h
theorem x_strI (h1 : -18446744073709551616 < i ∧ i < 18446744073709551616) (h : Q (.str (toString i)) H) : rStrI [.int i] H Q := ⟨i, rfl, by
  by_cases e : i.natAbs = 0
  · rw [e]; decide
  · have h2 := Nat.log2_self_le e
    have h3 : 2 ^ i.natAbs.log2 < 2 ^ 64 := by
      have : (2 : Nat) ^ 64 = 18446744073709551616 := by decide
      omega
    have := (Nat.pow_lt_pow_iff_right (by decide : 1 < 2)).mp h3
    omega, h⟩
/-! places -/
theorem atI_at {α : Type} {xs : List α} {j : Nat} {v : α} (e : i = (j : Int)) (h : xs[j]? = some v) : atI xs i = some v := by subst e; exact atI_nat h
theorem ixN_at {n j : Nat} (e : i = (j : Int)) (h : j < n) : ixN n i = some j := by
  subst e
  unfold ixN
  rw [if_pos (by omega), if_pos (by omega)]
  simp
theorem atI_ints {ns : List Int} (h0 : 0 ≤ i) (h1 : i < ((ns.map V.int).length : Int)) : atI (ns.map V.int) i = some (.int (ns.getD i.toNat 0)) := by
  have hl : i.toNat < ns.length := by rw [List.length_map] at h1; omega
  refine atI_at (j := i.toNat) (by omega) ?_
  rw [List.getElem?_map, List.getElem?_eq_getElem hl, List.getD_eq_getElem?_getD, List.getElem?_eq_getElem hl]
  rfl
theorem getD_nn {ns : List Int} (h : ∀ n ∈ ns, 0 ≤ n) (k : Nat) : 0 ≤ ns.getD k 0 := by
  rw [List.getD_eq_getElem?_getD]
  cases e : ns[k]? with
  | none => exact Int.le_refl 0
  | some z => exact h z (List.mem_of_getElem? e)
theorem ixN_b {n j : Nat} (e : i = (j : Int)) (h : Nat.blt j n = true) : ixN n i = some j := ixN_at e (by simpa [Nat.blt_eq] using h)
theorem ixN_i {n : Nat} (h0 : 0 ≤ i) (h1 : i < (n : Int)) : ixN n i = some i.toNat := by
  unfold ixN
  rw [if_pos h0, if_pos h1]
theorem len_leB {xs : List V} (h : Nat.ble xs.length 16777216 = true) : xs.length ≤ sizeLine := by rw [sizeLine_eq]; exact Nat.le_of_ble_eq_true h
theorem len_ltB {xs : List V} (h : Nat.blt xs.length 16777216 = true) : xs.length < sizeLine := by rw [sizeLine_eq]; simpa [Nat.blt_eq] using h
theorem f_lt {fs : List (Str × V)} (h : Nat.blt fs.length 1000 = true) : fs.length < 1000 := by simpa [Nat.blt_eq] using h
theorem len_leN {xs : List V} (h : xs.length ≤ 16777216) : xs.length ≤ sizeLine := by rw [sizeLine_eq]; exact h
theorem len_ltN {xs : List V} (h : xs.length < 16777216) : xs.length < sizeLine := by rw [sizeLine_eq]; exact h
theorem len_le {xs : List V} {n : Nat} (e : xs.length = n) (h : n ≤ 16777216) : xs.length ≤ sizeLine := by rw [e, sizeLine_eq]; exact h
theorem len_lt {xs : List V} {n : Nat} (e : xs.length = n) (h : n < 16777216) : xs.length < sizeLine := by rw [e, sizeLine_eq]; exact h
theorem div_small (h1 : 0 < j) (h2 : j < 18446744073709551616) : CDivW i j := wide_div (b := 64) h1 (by omega) (by decide) (by decide)
theorem mulL (h1 : -18446744073709551616 < i) (h2 : i < 18446744073709551616) : CMul i j := .inl ⟨h1, h2⟩
theorem mulR (h1 : -18446744073709551616 < j) (h2 : j < 18446744073709551616) : CMul i j := .inr ⟨h1, h2⟩

theorem x_pw10_1 (h : Q (.int 10) H) : rPow (.int 10) (.int 1) H Q := x_pow ⟨by decide, by decide, by decide⟩ (by rw [show (10 : Int) ^ (Int.toNat 1) = 10 by decide]; exact h)
theorem x_pw10_2 (h : Q (.int 100) H) : rPow (.int 10) (.int 2) H Q := x_pow ⟨by decide, by decide, by decide⟩ (by rw [show (10 : Int) ^ (Int.toNat 2) = 100 by decide]; exact h)
theorem x_pw10_3 (h : Q (.int 1000) H) : rPow (.int 10) (.int 3) H Q := x_pow ⟨by decide, by decide, by decide⟩ (by rw [show (10 : Int) ^ (Int.toNat 3) = 1000 by decide]; exact h)
theorem x_pw10_4 (h : Q (.int 10000) H) : rPow (.int 10) (.int 4) H Q := x_pow ⟨by decide, by decide, by decide⟩ (by rw [show (10 : Int) ^ (Int.toNat 4) = 10000 by decide]; exact h)
theorem x_pw10_5 (h : Q (.int 100000) H) : rPow (.int 10) (.int 5) H Q := x_pow ⟨by decide, by decide, by decide⟩ (by rw [show (10 : Int) ^ (Int.toNat 5) = 100000 by decide]; exact h)
theorem x_pw10_6 (h : Q (.int 1000000) H) : rPow (.int 10) (.int 6) H Q := x_pow ⟨by decide, by decide, by decide⟩ (by rw [show (10 : Int) ^ (Int.toNat 6) = 1000000 by decide]; exact h)
theorem x_pw10_7 (h : Q (.int 10000000) H) : rPow (.int 10) (.int 7) H Q := x_pow ⟨by decide, by decide, by decide⟩ (by rw [show (10 : Int) ^ (Int.toNat 7) = 10000000 by decide]; exact h)
theorem x_pw10_8 (h : Q (.int 100000000) H) : rPow (.int 10) (.int 8) H Q := x_pow ⟨by decide, by decide, by decide⟩ (by rw [show (10 : Int) ^ (Int.toNat 8) = 100000000 by decide]; exact h)
theorem x_pw10_9 (h : Q (.int 1000000000) H) : rPow (.int 10) (.int 9) H Q := x_pow ⟨by decide, by decide, by decide⟩ (by rw [show (10 : Int) ^ (Int.toNat 9) = 1000000000 by decide]; exact h)
theorem x_pw10_10 (h : Q (.int 10000000000) H) : rPow (.int 10) (.int 10) H Q := x_pow ⟨by decide, by decide, by decide⟩ (by rw [show (10 : Int) ^ (Int.toNat 10) = 10000000000 by decide]; exact h)
theorem x_pw10_11 (h : Q (.int 100000000000) H) : rPow (.int 10) (.int 11) H Q := x_pow ⟨by decide, by decide, by decide⟩ (by rw [show (10 : Int) ^ (Int.toNat 11) = 100000000000 by decide]; exact h)
theorem x_pw10_12 (h : Q (.int 1000000000000) H) : rPow (.int 10) (.int 12) H Q := x_pow ⟨by decide, by decide, by decide⟩ (by rw [show (10 : Int) ^ (Int.toNat 12) = 1000000000000 by decide]; exact h)
theorem x_pw10_13 (h : Q (.int 10000000000000) H) : rPow (.int 10) (.int 13) H Q := x_pow ⟨by decide, by decide, by decide⟩ (by rw [show (10 : Int) ^ (Int.toNat 13) = 10000000000000 by decide]; exact h)
theorem x_pw10_14 (h : Q (.int 100000000000000) H) : rPow (.int 10) (.int 14) H Q := x_pow ⟨by decide, by decide, by decide⟩ (by rw [show (10 : Int) ^ (Int.toNat 14) = 100000000000000 by decide]; exact h)
theorem x_pw10_15 (h : Q (.int 1000000000000000) H) : rPow (.int 10) (.int 15) H Q := x_pow ⟨by decide, by decide, by decide⟩ (by rw [show (10 : Int) ^ (Int.toNat 15) = 1000000000000000 by decide]; exact h)
theorem x_pw10_16 (h : Q (.int 10000000000000000) H) : rPow (.int 10) (.int 16) H Q := x_pow ⟨by decide, by decide, by decide⟩ (by rw [show (10 : Int) ^ (Int.toNat 16) = 10000000000000000 by decide]; exact h)
theorem x_pw10_17 (h : Q (.int 100000000000000000) H) : rPow (.int 10) (.int 17) H Q := x_pow ⟨by decide, by decide, by decide⟩ (by rw [show (10 : Int) ^ (Int.toNat 17) = 100000000000000000 by decide]; exact h)
theorem x_pw10_18 (h : Q (.int 1000000000000000000) H) : rPow (.int 10) (.int 18) H Q := x_pow ⟨by decide, by decide, by decide⟩ (by rw [show (10 : Int) ^ (Int.toNat 18) = 1000000000000000000 by decide]; exact h)
theorem x_pw10_19 (h : Q (.int 10000000000000000000) H) : rPow (.int 10) (.int 19) H Q := x_pow ⟨by decide, by decide, by decide⟩ (by rw [show (10 : Int) ^ (Int.toNat 19) = 10000000000000000000 by decide]; exact h)
theorem x_pw10_20 (h : Q (.int 100000000000000000000) H) : rPow (.int 10) (.int 20) H Q := x_pow ⟨by decide, by decide, by decide⟩ (by rw [show (10 : Int) ^ (Int.toNat 20) = 100000000000000000000 by decide]; exact h)
theorem x_pw10_21 (h : Q (.int 1000000000000000000000) H) : rPow (.int 10) (.int 21) H Q := x_pow ⟨by decide, by decide, by decide⟩ (by rw [show (10 : Int) ^ (Int.toNat 21) = 1000000000000000000000 by decide]; exact h)
theorem x_pw10_22 (h : Q (.int 10000000000000000000000) H) : rPow (.int 10) (.int 22) H Q := x_pow ⟨by decide, by decide, by decide⟩ (by rw [show (10 : Int) ^ (Int.toNat 22) = 10000000000000000000000 by decide]; exact h)
theorem x_pw10_23 (h : Q (.int 100000000000000000000000) H) : rPow (.int 10) (.int 23) H Q := x_pow ⟨by decide, by decide, by decide⟩ (by rw [show (10 : Int) ^ (Int.toNat 23) = 100000000000000000000000 by decide]; exact h)
theorem x_pw10_24 (h : Q (.int 1000000000000000000000000) H) : rPow (.int 10) (.int 24) H Q := x_pow ⟨by decide, by decide, by decide⟩ (by rw [show (10 : Int) ^ (Int.toNat 24) = 1000000000000000000000000 by decide]; exact h)
theorem x_pw2_6 (h : Q (.int 64) H) : rPow (.int 2) (.int 6) H Q := x_pow ⟨by decide, by decide, by decide⟩ (by rw [show (2 : Int) ^ (Int.toNat 6) = 64 by decide]; exact h)
theorem x_pw2_10 (h : Q (.int 1024) H) : rPow (.int 2) (.int 10) H Q := x_pow ⟨by decide, by decide, by decide⟩ (by rw [show (2 : Int) ^ (Int.toNat 10) = 1024 by decide]; exact h)
theorem x_pw2_16 (h : Q (.int 65536) H) : rPow (.int 2) (.int 16) H Q := x_pow ⟨by decide, by decide, by decide⟩ (by rw [show (2 : Int) ^ (Int.toNat 16) = 65536 by decide]; exact h)
theorem x_pw2_20 (h : Q (.int 1048576) H) : rPow (.int 2) (.int 20) H Q := x_pow ⟨by decide, by decide, by decide⟩ (by rw [show (2 : Int) ^ (Int.toNat 20) = 1048576 by decide]; exact h)
theorem x_pw2_30 (h : Q (.int 1073741824) H) : rPow (.int 2) (.int 30) H Q := x_pow ⟨by decide, by decide, by decide⟩ (by rw [show (2 : Int) ^ (Int.toNat 30) = 1073741824 by decide]; exact h)
theorem x_pw2_31 (h : Q (.int 2147483648) H) : rPow (.int 2) (.int 31) H Q := x_pow ⟨by decide, by decide, by decide⟩ (by rw [show (2 : Int) ^ (Int.toNat 31) = 2147483648 by decide]; exact h)
theorem x_pw2_32 (h : Q (.int 4294967296) H) : rPow (.int 2) (.int 32) H Q := x_pow ⟨by decide, by decide, by decide⟩ (by rw [show (2 : Int) ^ (Int.toNat 32) = 4294967296 by decide]; exact h)
theorem x_pw2_40 (h : Q (.int 1099511627776) H) : rPow (.int 2) (.int 40) H Q := x_pow ⟨by decide, by decide, by decide⟩ (by rw [show (2 : Int) ^ (Int.toNat 40) = 1099511627776 by decide]; exact h)
theorem x_pw2_48 (h : Q (.int 281474976710656) H) : rPow (.int 2) (.int 48) H Q := x_pow ⟨by decide, by decide, by decide⟩ (by rw [show (2 : Int) ^ (Int.toNat 48) = 281474976710656 by decide]; exact h)
theorem x_pw2_60 (h : Q (.int 1152921504606846976) H) : rPow (.int 2) (.int 60) H Q := x_pow ⟨by decide, by decide, by decide⟩ (by rw [show (2 : Int) ^ (Int.toNat 60) = 1152921504606846976 by decide]; exact h)
theorem x_pw2_62 (h : Q (.int 4611686018427387904) H) : rPow (.int 2) (.int 62) H Q := x_pow ⟨by decide, by decide, by decide⟩ (by rw [show (2 : Int) ^ (Int.toNat 62) = 4611686018427387904 by decide]; exact h)
theorem x_pw2_63 (h : Q (.int 9223372036854775808) H) : rPow (.int 2) (.int 63) H Q := x_pow ⟨by decide, by decide, by decide⟩ (by rw [show (2 : Int) ^ (Int.toNat 63) = 9223372036854775808 by decide]; exact h)
theorem x_pw2_64 (h : Q (.int 18446744073709551616) H) : rPow (.int 2) (.int 64) H Q := x_pow ⟨by decide, by decide, by decide⟩ (by rw [show (2 : Int) ^ (Int.toNat 64) = 18446744073709551616 by decide]; exact h)
theorem x_v0 {σ : L2.St} (h : Q v H) : tVar 0 (some v :: σ) H Q := ⟨v, rfl, h⟩
theorem x_g0 {x : Option V} {σ : L2.St} (h : QS (some v :: σ) H) : gName 0 v (x :: σ) H QS := h
theorem x_d0 {x : Option V} {σ : L2.St} {k : K0} (h : k (none :: σ) H) : gDel 0 (x :: σ) H k := h
theorem x_ml0 {σ : L2.St} (h : tMake C sp [] E tl (some (.ref C) :: σ) H Q) : eMakeL 0 C sp [] E tl (some (.ref C) :: σ) H Q := ⟨rfl, h⟩
theorem x_au0 {te : TE} {ti : TIp} {σ : L2.St} (h : te (some x :: σ) H fun y H1 => ti x y H1 fun z H2 => nx (some z :: σ) H2) : tAug 0 te ti ⟨nx, rt, bk, ct⟩ (some x :: σ) H := ⟨x, rfl, h⟩
theorem x_v1 {a0 : Option V} {σ : L2.St} (h : Q v H) : tVar 1 (a0 :: some v :: σ) H Q := ⟨v, rfl, h⟩
theorem x_g1 {a0 : Option V} {x : Option V} {σ : L2.St} (h : QS (a0 :: some v :: σ) H) : gName 1 v (a0 :: x :: σ) H QS := h
theorem x_d1 {a0 : Option V} {x : Option V} {σ : L2.St} {k : K0} (h : k (a0 :: none :: σ) H) : gDel 1 (a0 :: x :: σ) H k := h
theorem x_ml1 {a0 : Option V} {σ : L2.St} (h : tMake C sp [] E tl (a0 :: some (.ref C) :: σ) H Q) : eMakeL 1 C sp [] E tl (a0 :: some (.ref C) :: σ) H Q := ⟨rfl, h⟩
theorem x_au1 {te : TE} {ti : TIp} {a0 : Option V} {σ : L2.St} (h : te (a0 :: some x :: σ) H fun y H1 => ti x y H1 fun z H2 => nx (a0 :: some z :: σ) H2) : tAug 1 te ti ⟨nx, rt, bk, ct⟩ (a0 :: some x :: σ) H := ⟨x, rfl, h⟩
theorem x_v2 {a0 a1 : Option V} {σ : L2.St} (h : Q v H) : tVar 2 (a0 :: a1 :: some v :: σ) H Q := ⟨v, rfl, h⟩
theorem x_g2 {a0 a1 : Option V} {x : Option V} {σ : L2.St} (h : QS (a0 :: a1 :: some v :: σ) H) : gName 2 v (a0 :: a1 :: x :: σ) H QS := h
theorem x_d2 {a0 a1 : Option V} {x : Option V} {σ : L2.St} {k : K0} (h : k (a0 :: a1 :: none :: σ) H) : gDel 2 (a0 :: a1 :: x :: σ) H k := h
theorem x_ml2 {a0 a1 : Option V} {σ : L2.St} (h : tMake C sp [] E tl (a0 :: a1 :: some (.ref C) :: σ) H Q) : eMakeL 2 C sp [] E tl (a0 :: a1 :: some (.ref C) :: σ) H Q := ⟨rfl, h⟩
theorem x_au2 {te : TE} {ti : TIp} {a0 a1 : Option V} {σ : L2.St} (h : te (a0 :: a1 :: some x :: σ) H fun y H1 => ti x y H1 fun z H2 => nx (a0 :: a1 :: some z :: σ) H2) : tAug 2 te ti ⟨nx, rt, bk, ct⟩ (a0 :: a1 :: some x :: σ) H := ⟨x, rfl, h⟩
theorem x_v3 {a0 a1 a2 : Option V} {σ : L2.St} (h : Q v H) : tVar 3 (a0 :: a1 :: a2 :: some v :: σ) H Q := ⟨v, rfl, h⟩
theorem x_g3 {a0 a1 a2 : Option V} {x : Option V} {σ : L2.St} (h : QS (a0 :: a1 :: a2 :: some v :: σ) H) : gName 3 v (a0 :: a1 :: a2 :: x :: σ) H QS := h
theorem x_d3 {a0 a1 a2 : Option V} {x : Option V} {σ : L2.St} {k : K0} (h : k (a0 :: a1 :: a2 :: none :: σ) H) : gDel 3 (a0 :: a1 :: a2 :: x :: σ) H k := h
theorem x_ml3 {a0 a1 a2 : Option V} {σ : L2.St} (h : tMake C sp [] E tl (a0 :: a1 :: a2 :: some (.ref C) :: σ) H Q) : eMakeL 3 C sp [] E tl (a0 :: a1 :: a2 :: some (.ref C) :: σ) H Q := ⟨rfl, h⟩
theorem x_au3 {te : TE} {ti : TIp} {a0 a1 a2 : Option V} {σ : L2.St} (h : te (a0 :: a1 :: a2 :: some x :: σ) H fun y H1 => ti x y H1 fun z H2 => nx (a0 :: a1 :: a2 :: some z :: σ) H2) : tAug 3 te ti ⟨nx, rt, bk, ct⟩ (a0 :: a1 :: a2 :: some x :: σ) H := ⟨x, rfl, h⟩
theorem x_v4 {a0 a1 a2 a3 : Option V} {σ : L2.St} (h : Q v H) : tVar 4 (a0 :: a1 :: a2 :: a3 :: some v :: σ) H Q := ⟨v, rfl, h⟩
theorem x_g4 {a0 a1 a2 a3 : Option V} {x : Option V} {σ : L2.St} (h : QS (a0 :: a1 :: a2 :: a3 :: some v :: σ) H) : gName 4 v (a0 :: a1 :: a2 :: a3 :: x :: σ) H QS := h
theorem x_d4 {a0 a1 a2 a3 : Option V} {x : Option V} {σ : L2.St} {k : K0} (h : k (a0 :: a1 :: a2 :: a3 :: none :: σ) H) : gDel 4 (a0 :: a1 :: a2 :: a3 :: x :: σ) H k := h
theorem x_ml4 {a0 a1 a2 a3 : Option V} {σ : L2.St} (h : tMake C sp [] E tl (a0 :: a1 :: a2 :: a3 :: some (.ref C) :: σ) H Q) : eMakeL 4 C sp [] E tl (a0 :: a1 :: a2 :: a3 :: some (.ref C) :: σ) H Q := ⟨rfl, h⟩
theorem x_au4 {te : TE} {ti : TIp} {a0 a1 a2 a3 : Option V} {σ : L2.St} (h : te (a0 :: a1 :: a2 :: a3 :: some x :: σ) H fun y H1 => ti x y H1 fun z H2 => nx (a0 :: a1 :: a2 :: a3 :: some z :: σ) H2) : tAug 4 te ti ⟨nx, rt, bk, ct⟩ (a0 :: a1 :: a2 :: a3 :: some x :: σ) H := ⟨x, rfl, h⟩
theorem x_v5 {a0 a1 a2 a3 a4 : Option V} {σ : L2.St} (h : Q v H) : tVar 5 (a0 :: a1 :: a2 :: a3 :: a4 :: some v :: σ) H Q := ⟨v, rfl, h⟩
theorem x_g5 {a0 a1 a2 a3 a4 : Option V} {x : Option V} {σ : L2.St} (h : QS (a0 :: a1 :: a2 :: a3 :: a4 :: some v :: σ) H) : gName 5 v (a0 :: a1 :: a2 :: a3 :: a4 :: x :: σ) H QS := h
theorem x_d5 {a0 a1 a2 a3 a4 : Option V} {x : Option V} {σ : L2.St} {k : K0} (h : k (a0 :: a1 :: a2 :: a3 :: a4 :: none :: σ) H) : gDel 5 (a0 :: a1 :: a2 :: a3 :: a4 :: x :: σ) H k := h
theorem x_ml5 {a0 a1 a2 a3 a4 : Option V} {σ : L2.St} (h : tMake C sp [] E tl (a0 :: a1 :: a2 :: a3 :: a4 :: some (.ref C) :: σ) H Q) : eMakeL 5 C sp [] E tl (a0 :: a1 :: a2 :: a3 :: a4 :: some (.ref C) :: σ) H Q := ⟨rfl, h⟩
theorem x_au5 {te : TE} {ti : TIp} {a0 a1 a2 a3 a4 : Option V} {σ : L2.St} (h : te (a0 :: a1 :: a2 :: a3 :: a4 :: some x :: σ) H fun y H1 => ti x y H1 fun z H2 => nx (a0 :: a1 :: a2 :: a3 :: a4 :: some z :: σ) H2) : tAug 5 te ti ⟨nx, rt, bk, ct⟩ (a0 :: a1 :: a2 :: a3 :: a4 :: some x :: σ) H := ⟨x, rfl, h⟩
theorem x_v6 {a0 a1 a2 a3 a4 a5 : Option V} {σ : L2.St} (h : Q v H) : tVar 6 (a0 :: a1 :: a2 :: a3 :: a4 :: a5 :: some v :: σ) H Q := ⟨v, rfl, h⟩
theorem x_g6 {a0 a1 a2 a3 a4 a5 : Option V} {x : Option V} {σ : L2.St} (h : QS (a0 :: a1 :: a2 :: a3 :: a4 :: a5 :: some v :: σ) H) : gName 6 v (a0 :: a1 :: a2 :: a3 :: a4 :: a5 :: x :: σ) H QS := h
theorem x_d6 {a0 a1 a2 a3 a4 a5 : Option V} {x : Option V} {σ : L2.St} {k : K0} (h : k (a0 :: a1 :: a2 :: a3 :: a4 :: a5 :: none :: σ) H) : gDel 6 (a0 :: a1 :: a2 :: a3 :: a4 :: a5 :: x :: σ) H k := h
theorem x_ml6 {a0 a1 a2 a3 a4 a5 : Option V} {σ : L2.St} (h : tMake C sp [] E tl (a0 :: a1 :: a2 :: a3 :: a4 :: a5 :: some (.ref C) :: σ) H Q) : eMakeL 6 C sp [] E tl (a0 :: a1 :: a2 :: a3 :: a4 :: a5 :: some (.ref C) :: σ) H Q := ⟨rfl, h⟩
theorem x_au6 {te : TE} {ti : TIp} {a0 a1 a2 a3 a4 a5 : Option V} {σ : L2.St} (h : te (a0 :: a1 :: a2 :: a3 :: a4 :: a5 :: some x :: σ) H fun y H1 => ti x y H1 fun z H2 => nx (a0 :: a1 :: a2 :: a3 :: a4 :: a5 :: some z :: σ) H2) : tAug 6 te ti ⟨nx, rt, bk, ct⟩ (a0 :: a1 :: a2 :: a3 :: a4 :: a5 :: some x :: σ) H := ⟨x, rfl, h⟩
theorem x_v7 {a0 a1 a2 a3 a4 a5 a6 : Option V} {σ : L2.St} (h : Q v H) : tVar 7 (a0 :: a1 :: a2 :: a3 :: a4 :: a5 :: a6 :: some v :: σ) H Q := ⟨v, rfl, h⟩
theorem x_g7 {a0 a1 a2 a3 a4 a5 a6 : Option V} {x : Option V} {σ : L2.St} (h : QS (a0 :: a1 :: a2 :: a3 :: a4 :: a5 :: a6 :: some v :: σ) H) : gName 7 v (a0 :: a1 :: a2 :: a3 :: a4 :: a5 :: a6 :: x :: σ) H QS := h
theorem x_d7 {a0 a1 a2 a3 a4 a5 a6 : Option V} {x : Option V} {σ : L2.St} {k : K0} (h : k (a0 :: a1 :: a2 :: a3 :: a4 :: a5 :: a6 :: none :: σ) H) : gDel 7 (a0 :: a1 :: a2 :: a3 :: a4 :: a5 :: a6 :: x :: σ) H k := h
theorem x_ml7 {a0 a1 a2 a3 a4 a5 a6 : Option V} {σ : L2.St} (h : tMake C sp [] E tl (a0 :: a1 :: a2 :: a3 :: a4 :: a5 :: a6 :: some (.ref C) :: σ) H Q) : eMakeL 7 C sp [] E tl (a0 :: a1 :: a2 :: a3 :: a4 :: a5 :: a6 :: some (.ref C) :: σ) H Q := ⟨rfl, h⟩
theorem x_au7 {te : TE} {ti : TIp} {a0 a1 a2 a3 a4 a5 a6 : Option V} {σ : L2.St} (h : te (a0 :: a1 :: a2 :: a3 :: a4 :: a5 :: a6 :: some x :: σ) H fun y H1 => ti x y H1 fun z H2 => nx (a0 :: a1 :: a2 :: a3 :: a4 :: a5 :: a6 :: some z :: σ) H2) : tAug 7 te ti ⟨nx, rt, bk, ct⟩ (a0 :: a1 :: a2 :: a3 :: a4 :: a5 :: a6 :: some x :: σ) H := ⟨x, rfl, h⟩
theorem x_v8 {a0 a1 a2 a3 a4 a5 a6 a7 : Option V} {σ : L2.St} (h : Q v H) : tVar 8 (a0 :: a1 :: a2 :: a3 :: a4 :: a5 :: a6 :: a7 :: some v :: σ) H Q := ⟨v, rfl, h⟩
theorem x_g8 {a0 a1 a2 a3 a4 a5 a6 a7 : Option V} {x : Option V} {σ : L2.St} (h : QS (a0 :: a1 :: a2 :: a3 :: a4 :: a5 :: a6 :: a7 :: some v :: σ) H) : gName 8 v (a0 :: a1 :: a2 :: a3 :: a4 :: a5 :: a6 :: a7 :: x :: σ) H QS := h
theorem x_d8 {a0 a1 a2 a3 a4 a5 a6 a7 : Option V} {x : Option V} {σ : L2.St} {k : K0} (h : k (a0 :: a1 :: a2 :: a3 :: a4 :: a5 :: a6 :: a7 :: none :: σ) H) : gDel 8 (a0 :: a1 :: a2 :: a3 :: a4 :: a5 :: a6 :: a7 :: x :: σ) H k := h
theorem x_ml8 {a0 a1 a2 a3 a4 a5 a6 a7 : Option V} {σ : L2.St} (h : tMake C sp [] E tl (a0 :: a1 :: a2 :: a3 :: a4 :: a5 :: a6 :: a7 :: some (.ref C) :: σ) H Q) : eMakeL 8 C sp [] E tl (a0 :: a1 :: a2 :: a3 :: a4 :: a5 :: a6 :: a7 :: some (.ref C) :: σ) H Q := ⟨rfl, h⟩
theorem x_au8 {te : TE} {ti : TIp} {a0 a1 a2 a3 a4 a5 a6 a7 : Option V} {σ : L2.St} (h : te (a0 :: a1 :: a2 :: a3 :: a4 :: a5 :: a6 :: a7 :: some x :: σ) H fun y H1 => ti x y H1 fun z H2 => nx (a0 :: a1 :: a2 :: a3 :: a4 :: a5 :: a6 :: a7 :: some z :: σ) H2) : tAug 8 te ti ⟨nx, rt, bk, ct⟩ (a0 :: a1 :: a2 :: a3 :: a4 :: a5 :: a6 :: a7 :: some x :: σ) H := ⟨x, rfl, h⟩
theorem x_v9 {a0 a1 a2 a3 a4 a5 a6 a7 a8 : Option V} {σ : L2.St} (h : Q v H) : tVar 9 (a0 :: a1 :: a2 :: a3 :: a4 :: a5 :: a6 :: a7 :: a8 :: some v :: σ) H Q := ⟨v, rfl, h⟩
theorem x_g9 {a0 a1 a2 a3 a4 a5 a6 a7 a8 : Option V} {x : Option V} {σ : L2.St} (h : QS (a0 :: a1 :: a2 :: a3 :: a4 :: a5 :: a6 :: a7 :: a8 :: some v :: σ) H) : gName 9 v (a0 :: a1 :: a2 :: a3 :: a4 :: a5 :: a6 :: a7 :: a8 :: x :: σ) H QS := h
theorem x_d9 {a0 a1 a2 a3 a4 a5 a6 a7 a8 : Option V} {x : Option V} {σ : L2.St} {k : K0} (h : k (a0 :: a1 :: a2 :: a3 :: a4 :: a5 :: a6 :: a7 :: a8 :: none :: σ) H) : gDel 9 (a0 :: a1 :: a2 :: a3 :: a4 :: a5 :: a6 :: a7 :: a8 :: x :: σ) H k := h
theorem x_ml9 {a0 a1 a2 a3 a4 a5 a6 a7 a8 : Option V} {σ : L2.St} (h : tMake C sp [] E tl (a0 :: a1 :: a2 :: a3 :: a4 :: a5 :: a6 :: a7 :: a8 :: some (.ref C) :: σ) H Q) : eMakeL 9 C sp [] E tl (a0 :: a1 :: a2 :: a3 :: a4 :: a5 :: a6 :: a7 :: a8 :: some (.ref C) :: σ) H Q := ⟨rfl, h⟩
theorem x_au9 {te : TE} {ti : TIp} {a0 a1 a2 a3 a4 a5 a6 a7 a8 : Option V} {σ : L2.St} (h : te (a0 :: a1 :: a2 :: a3 :: a4 :: a5 :: a6 :: a7 :: a8 :: some x :: σ) H fun y H1 => ti x y H1 fun z H2 => nx (a0 :: a1 :: a2 :: a3 :: a4 :: a5 :: a6 :: a7 :: a8 :: some z :: σ) H2) : tAug 9 te ti ⟨nx, rt, bk, ct⟩ (a0 :: a1 :: a2 :: a3 :: a4 :: a5 :: a6 :: a7 :: a8 :: some x :: σ) H := ⟨x, rfl, h⟩
theorem x_v10 {a0 a1 a2 a3 a4 a5 a6 a7 a8 a9 : Option V} {σ : L2.St} (h : Q v H) : tVar 10 (a0 :: a1 :: a2 :: a3 :: a4 :: a5 :: a6 :: a7 :: a8 :: a9 :: some v :: σ) H Q := ⟨v, rfl, h⟩
theorem x_g10 {a0 a1 a2 a3 a4 a5 a6 a7 a8 a9 : Option V} {x : Option V} {σ : L2.St} (h : QS (a0 :: a1 :: a2 :: a3 :: a4 :: a5 :: a6 :: a7 :: a8 :: a9 :: some v :: σ) H) : gName 10 v (a0 :: a1 :: a2 :: a3 :: a4 :: a5 :: a6 :: a7 :: a8 :: a9 :: x :: σ) H QS := h
theorem x_d10 {a0 a1 a2 a3 a4 a5 a6 a7 a8 a9 : Option V} {x : Option V} {σ : L2.St} {k : K0} (h : k (a0 :: a1 :: a2 :: a3 :: a4 :: a5 :: a6 :: a7 :: a8 :: a9 :: none :: σ) H) : gDel 10 (a0 :: a1 :: a2 :: a3 :: a4 :: a5 :: a6 :: a7 :: a8 :: a9 :: x :: σ) H k := h
theorem x_ml10 {a0 a1 a2 a3 a4 a5 a6 a7 a8 a9 : Option V} {σ : L2.St} (h : tMake C sp [] E tl (a0 :: a1 :: a2 :: a3 :: a4 :: a5 :: a6 :: a7 :: a8 :: a9 :: some (.ref C) :: σ) H Q) : eMakeL 10 C sp [] E tl (a0 :: a1 :: a2 :: a3 :: a4 :: a5 :: a6 :: a7 :: a8 :: a9 :: some (.ref C) :: σ) H Q := ⟨rfl, h⟩
theorem x_au10 {te : TE} {ti : TIp} {a0 a1 a2 a3 a4 a5 a6 a7 a8 a9 : Option V} {σ : L2.St} (h : te (a0 :: a1 :: a2 :: a3 :: a4 :: a5 :: a6 :: a7 :: a8 :: a9 :: some x :: σ) H fun y H1 => ti x y H1 fun z H2 => nx (a0 :: a1 :: a2 :: a3 :: a4 :: a5 :: a6 :: a7 :: a8 :: a9 :: some z :: σ) H2) : tAug 10 te ti ⟨nx, rt, bk, ct⟩ (a0 :: a1 :: a2 :: a3 :: a4 :: a5 :: a6 :: a7 :: a8 :: a9 :: some x :: σ) H := ⟨x, rfl, h⟩
theorem x_v11 {a0 a1 a2 a3 a4 a5 a6 a7 a8 a9 a10 : Option V} {σ : L2.St} (h : Q v H) : tVar 11 (a0 :: a1 :: a2 :: a3 :: a4 :: a5 :: a6 :: a7 :: a8 :: a9 :: a10 :: some v :: σ) H Q := ⟨v, rfl, h⟩
theorem x_g11 {a0 a1 a2 a3 a4 a5 a6 a7 a8 a9 a10 : Option V} {x : Option V} {σ : L2.St} (h : QS (a0 :: a1 :: a2 :: a3 :: a4 :: a5 :: a6 :: a7 :: a8 :: a9 :: a10 :: some v :: σ) H) : gName 11 v (a0 :: a1 :: a2 :: a3 :: a4 :: a5 :: a6 :: a7 :: a8 :: a9 :: a10 :: x :: σ) H QS := h
theorem x_d11 {a0 a1 a2 a3 a4 a5 a6 a7 a8 a9 a10 : Option V} {x : Option V} {σ : L2.St} {k : K0} (h : k (a0 :: a1 :: a2 :: a3 :: a4 :: a5 :: a6 :: a7 :: a8 :: a9 :: a10 :: none :: σ) H) : gDel 11 (a0 :: a1 :: a2 :: a3 :: a4 :: a5 :: a6 :: a7 :: a8 :: a9 :: a10 :: x :: σ) H k := h
theorem x_ml11 {a0 a1 a2 a3 a4 a5 a6 a7 a8 a9 a10 : Option V} {σ : L2.St} (h : tMake C sp [] E tl (a0 :: a1 :: a2 :: a3 :: a4 :: a5 :: a6 :: a7 :: a8 :: a9 :: a10 :: some (.ref C) :: σ) H Q) : eMakeL 11 C sp [] E tl (a0 :: a1 :: a2 :: a3 :: a4 :: a5 :: a6 :: a7 :: a8 :: a9 :: a10 :: some (.ref C) :: σ) H Q := ⟨rfl, h⟩
theorem x_au11 {te : TE} {ti : TIp} {a0 a1 a2 a3 a4 a5 a6 a7 a8 a9 a10 : Option V} {σ : L2.St} (h : te (a0 :: a1 :: a2 :: a3 :: a4 :: a5 :: a6 :: a7 :: a8 :: a9 :: a10 :: some x :: σ) H fun y H1 => ti x y H1 fun z H2 => nx (a0 :: a1 :: a2 :: a3 :: a4 :: a5 :: a6 :: a7 :: a8 :: a9 :: a10 :: some z :: σ) H2) : tAug 11 te ti ⟨nx, rt, bk, ct⟩ (a0 :: a1 :: a2 :: a3 :: a4 :: a5 :: a6 :: a7 :: a8 :: a9 :: a10 :: some x :: σ) H := ⟨x, rfl, h⟩
theorem x_v12 {a0 a1 a2 a3 a4 a5 a6 a7 a8 a9 a10 a11 : Option V} {σ : L2.St} (h : Q v H) : tVar 12 (a0 :: a1 :: a2 :: a3 :: a4 :: a5 :: a6 :: a7 :: a8 :: a9 :: a10 :: a11 :: some v :: σ) H Q := ⟨v, rfl, h⟩
theorem x_g12 {a0 a1 a2 a3 a4 a5 a6 a7 a8 a9 a10 a11 : Option V} {x : Option V} {σ : L2.St} (h : QS (a0 :: a1 :: a2 :: a3 :: a4 :: a5 :: a6 :: a7 :: a8 :: a9 :: a10 :: a11 :: some v :: σ) H) : gName 12 v (a0 :: a1 :: a2 :: a3 :: a4 :: a5 :: a6 :: a7 :: a8 :: a9 :: a10 :: a11 :: x :: σ) H QS := h
theorem x_d12 {a0 a1 a2 a3 a4 a5 a6 a7 a8 a9 a10 a11 : Option V} {x : Option V} {σ : L2.St} {k : K0} (h : k (a0 :: a1 :: a2 :: a3 :: a4 :: a5 :: a6 :: a7 :: a8 :: a9 :: a10 :: a11 :: none :: σ) H) : gDel 12 (a0 :: a1 :: a2 :: a3 :: a4 :: a5 :: a6 :: a7 :: a8 :: a9 :: a10 :: a11 :: x :: σ) H k := h
theorem x_ml12 {a0 a1 a2 a3 a4 a5 a6 a7 a8 a9 a10 a11 : Option V} {σ : L2.St} (h : tMake C sp [] E tl (a0 :: a1 :: a2 :: a3 :: a4 :: a5 :: a6 :: a7 :: a8 :: a9 :: a10 :: a11 :: some (.ref C) :: σ) H Q) : eMakeL 12 C sp [] E tl (a0 :: a1 :: a2 :: a3 :: a4 :: a5 :: a6 :: a7 :: a8 :: a9 :: a10 :: a11 :: some (.ref C) :: σ) H Q := ⟨rfl, h⟩
theorem x_au12 {te : TE} {ti : TIp} {a0 a1 a2 a3 a4 a5 a6 a7 a8 a9 a10 a11 : Option V} {σ : L2.St} (h : te (a0 :: a1 :: a2 :: a3 :: a4 :: a5 :: a6 :: a7 :: a8 :: a9 :: a10 :: a11 :: some x :: σ) H fun y H1 => ti x y H1 fun z H2 => nx (a0 :: a1 :: a2 :: a3 :: a4 :: a5 :: a6 :: a7 :: a8 :: a9 :: a10 :: a11 :: some z :: σ) H2) : tAug 12 te ti ⟨nx, rt, bk, ct⟩ (a0 :: a1 :: a2 :: a3 :: a4 :: a5 :: a6 :: a7 :: a8 :: a9 :: a10 :: a11 :: some x :: σ) H := ⟨x, rfl, h⟩
theorem x_v13 {a0 a1 a2 a3 a4 a5 a6 a7 a8 a9 a10 a11 a12 : Option V} {σ : L2.St} (h : Q v H) : tVar 13 (a0 :: a1 :: a2 :: a3 :: a4 :: a5 :: a6 :: a7 :: a8 :: a9 :: a10 :: a11 :: a12 :: some v :: σ) H Q := ⟨v, rfl, h⟩
theorem x_g13 {a0 a1 a2 a3 a4 a5 a6 a7 a8 a9 a10 a11 a12 : Option V} {x : Option V} {σ : L2.St} (h : QS (a0 :: a1 :: a2 :: a3 :: a4 :: a5 :: a6 :: a7 :: a8 :: a9 :: a10 :: a11 :: a12 :: some v :: σ) H) : gName 13 v (a0 :: a1 :: a2 :: a3 :: a4 :: a5 :: a6 :: a7 :: a8 :: a9 :: a10 :: a11 :: a12 :: x :: σ) H QS := h
theorem x_d13 {a0 a1 a2 a3 a4 a5 a6 a7 a8 a9 a10 a11 a12 : Option V} {x : Option V} {σ : L2.St} {k : K0} (h : k (a0 :: a1 :: a2 :: a3 :: a4 :: a5 :: a6 :: a7 :: a8 :: a9 :: a10 :: a11 :: a12 :: none :: σ) H) : gDel 13 (a0 :: a1 :: a2 :: a3 :: a4 :: a5 :: a6 :: a7 :: a8 :: a9 :: a10 :: a11 :: a12 :: x :: σ) H k := h
theorem x_ml13 {a0 a1 a2 a3 a4 a5 a6 a7 a8 a9 a10 a11 a12 : Option V} {σ : L2.St} (h : tMake C sp [] E tl (a0 :: a1 :: a2 :: a3 :: a4 :: a5 :: a6 :: a7 :: a8 :: a9 :: a10 :: a11 :: a12 :: some (.ref C) :: σ) H Q) : eMakeL 13 C sp [] E tl (a0 :: a1 :: a2 :: a3 :: a4 :: a5 :: a6 :: a7 :: a8 :: a9 :: a10 :: a11 :: a12 :: some (.ref C) :: σ) H Q := ⟨rfl, h⟩
theorem x_au13 {te : TE} {ti : TIp} {a0 a1 a2 a3 a4 a5 a6 a7 a8 a9 a10 a11 a12 : Option V} {σ : L2.St} (h : te (a0 :: a1 :: a2 :: a3 :: a4 :: a5 :: a6 :: a7 :: a8 :: a9 :: a10 :: a11 :: a12 :: some x :: σ) H fun y H1 => ti x y H1 fun z H2 => nx (a0 :: a1 :: a2 :: a3 :: a4 :: a5 :: a6 :: a7 :: a8 :: a9 :: a10 :: a11 :: a12 :: some z :: σ) H2) : tAug 13 te ti ⟨nx, rt, bk, ct⟩ (a0 :: a1 :: a2 :: a3 :: a4 :: a5 :: a6 :: a7 :: a8 :: a9 :: a10 :: a11 :: a12 :: some x :: σ) H := ⟨x, rfl, h⟩
theorem x_v14 {a0 a1 a2 a3 a4 a5 a6 a7 a8 a9 a10 a11 a12 a13 : Option V} {σ : L2.St} (h : Q v H) : tVar 14 (a0 :: a1 :: a2 :: a3 :: a4 :: a5 :: a6 :: a7 :: a8 :: a9 :: a10 :: a11 :: a12 :: a13 :: some v :: σ) H Q := ⟨v, rfl, h⟩
theorem x_g14 {a0 a1 a2 a3 a4 a5 a6 a7 a8 a9 a10 a11 a12 a13 : Option V} {x : Option V} {σ : L2.St} (h : QS (a0 :: a1 :: a2 :: a3 :: a4 :: a5 :: a6 :: a7 :: a8 :: a9 :: a10 :: a11 :: a12 :: a13 :: some v :: σ) H) : gName 14 v (a0 :: a1 :: a2 :: a3 :: a4 :: a5 :: a6 :: a7 :: a8 :: a9 :: a10 :: a11 :: a12 :: a13 :: x :: σ) H QS := h
theorem x_d14 {a0 a1 a2 a3 a4 a5 a6 a7 a8 a9 a10 a11 a12 a13 : Option V} {x : Option V} {σ : L2.St} {k : K0} (h : k (a0 :: a1 :: a2 :: a3 :: a4 :: a5 :: a6 :: a7 :: a8 :: a9 :: a10 :: a11 :: a12 :: a13 :: none :: σ) H) : gDel 14 (a0 :: a1 :: a2 :: a3 :: a4 :: a5 :: a6 :: a7 :: a8 :: a9 :: a10 :: a11 :: a12 :: a13 :: x :: σ) H k := h
theorem x_ml14 {a0 a1 a2 a3 a4 a5 a6 a7 a8 a9 a10 a11 a12 a13 : Option V} {σ : L2.St} (h : tMake C sp [] E tl (a0 :: a1 :: a2 :: a3 :: a4 :: a5 :: a6 :: a7 :: a8 :: a9 :: a10 :: a11 :: a12 :: a13 :: some (.ref C) :: σ) H Q) : eMakeL 14 C sp [] E tl (a0 :: a1 :: a2 :: a3 :: a4 :: a5 :: a6 :: a7 :: a8 :: a9 :: a10 :: a11 :: a12 :: a13 :: some (.ref C) :: σ) H Q := ⟨rfl, h⟩
theorem x_au14 {te : TE} {ti : TIp} {a0 a1 a2 a3 a4 a5 a6 a7 a8 a9 a10 a11 a12 a13 : Option V} {σ : L2.St} (h : te (a0 :: a1 :: a2 :: a3 :: a4 :: a5 :: a6 :: a7 :: a8 :: a9 :: a10 :: a11 :: a12 :: a13 :: some x :: σ) H fun y H1 => ti x y H1 fun z H2 => nx (a0 :: a1 :: a2 :: a3 :: a4 :: a5 :: a6 :: a7 :: a8 :: a9 :: a10 :: a11 :: a12 :: a13 :: some z :: σ) H2) : tAug 14 te ti ⟨nx, rt, bk, ct⟩ (a0 :: a1 :: a2 :: a3 :: a4 :: a5 :: a6 :: a7 :: a8 :: a9 :: a10 :: a11 :: a12 :: a13 :: some x :: σ) H := ⟨x, rfl, h⟩
theorem x_v15 {a0 a1 a2 a3 a4 a5 a6 a7 a8 a9 a10 a11 a12 a13 a14 : Option V} {σ : L2.St} (h : Q v H) : tVar 15 (a0 :: a1 :: a2 :: a3 :: a4 :: a5 :: a6 :: a7 :: a8 :: a9 :: a10 :: a11 :: a12 :: a13 :: a14 :: some v :: σ) H Q := ⟨v, rfl, h⟩
theorem x_g15 {a0 a1 a2 a3 a4 a5 a6 a7 a8 a9 a10 a11 a12 a13 a14 : Option V} {x : Option V} {σ : L2.St} (h : QS (a0 :: a1 :: a2 :: a3 :: a4 :: a5 :: a6 :: a7 :: a8 :: a9 :: a10 :: a11 :: a12 :: a13 :: a14 :: some v :: σ) H) : gName 15 v (a0 :: a1 :: a2 :: a3 :: a4 :: a5 :: a6 :: a7 :: a8 :: a9 :: a10 :: a11 :: a12 :: a13 :: a14 :: x :: σ) H QS := h
theorem x_d15 {a0 a1 a2 a3 a4 a5 a6 a7 a8 a9 a10 a11 a12 a13 a14 : Option V} {x : Option V} {σ : L2.St} {k : K0} (h : k (a0 :: a1 :: a2 :: a3 :: a4 :: a5 :: a6 :: a7 :: a8 :: a9 :: a10 :: a11 :: a12 :: a13 :: a14 :: none :: σ) H) : gDel 15 (a0 :: a1 :: a2 :: a3 :: a4 :: a5 :: a6 :: a7 :: a8 :: a9 :: a10 :: a11 :: a12 :: a13 :: a14 :: x :: σ) H k := h
theorem x_ml15 {a0 a1 a2 a3 a4 a5 a6 a7 a8 a9 a10 a11 a12 a13 a14 : Option V} {σ : L2.St} (h : tMake C sp [] E tl (a0 :: a1 :: a2 :: a3 :: a4 :: a5 :: a6 :: a7 :: a8 :: a9 :: a10 :: a11 :: a12 :: a13 :: a14 :: some (.ref C) :: σ) H Q) : eMakeL 15 C sp [] E tl (a0 :: a1 :: a2 :: a3 :: a4 :: a5 :: a6 :: a7 :: a8 :: a9 :: a10 :: a11 :: a12 :: a13 :: a14 :: some (.ref C) :: σ) H Q := ⟨rfl, h⟩
theorem x_au15 {te : TE} {ti : TIp} {a0 a1 a2 a3 a4 a5 a6 a7 a8 a9 a10 a11 a12 a13 a14 : Option V} {σ : L2.St} (h : te (a0 :: a1 :: a2 :: a3 :: a4 :: a5 :: a6 :: a7 :: a8 :: a9 :: a10 :: a11 :: a12 :: a13 :: a14 :: some x :: σ) H fun y H1 => ti x y H1 fun z H2 => nx (a0 :: a1 :: a2 :: a3 :: a4 :: a5 :: a6 :: a7 :: a8 :: a9 :: a10 :: a11 :: a12 :: a13 :: a14 :: some z :: σ) H2) : tAug 15 te ti ⟨nx, rt, bk, ct⟩ (a0 :: a1 :: a2 :: a3 :: a4 :: a5 :: a6 :: a7 :: a8 :: a9 :: a10 :: a11 :: a12 :: a13 :: a14 :: some x :: σ) H := ⟨x, rfl, h⟩
theorem x_v16 {a0 a1 a2 a3 a4 a5 a6 a7 a8 a9 a10 a11 a12 a13 a14 a15 : Option V} {σ : L2.St} (h : Q v H) : tVar 16 (a0 :: a1 :: a2 :: a3 :: a4 :: a5 :: a6 :: a7 :: a8 :: a9 :: a10 :: a11 :: a12 :: a13 :: a14 :: a15 :: some v :: σ) H Q := ⟨v, rfl, h⟩
theorem x_g16 {a0 a1 a2 a3 a4 a5 a6 a7 a8 a9 a10 a11 a12 a13 a14 a15 : Option V} {x : Option V} {σ : L2.St} (h : QS (a0 :: a1 :: a2 :: a3 :: a4 :: a5 :: a6 :: a7 :: a8 :: a9 :: a10 :: a11 :: a12 :: a13 :: a14 :: a15 :: some v :: σ) H) : gName 16 v (a0 :: a1 :: a2 :: a3 :: a4 :: a5 :: a6 :: a7 :: a8 :: a9 :: a10 :: a11 :: a12 :: a13 :: a14 :: a15 :: x :: σ) H QS := h
theorem x_d16 {a0 a1 a2 a3 a4 a5 a6 a7 a8 a9 a10 a11 a12 a13 a14 a15 : Option V} {x : Option V} {σ : L2.St} {k : K0} (h : k (a0 :: a1 :: a2 :: a3 :: a4 :: a5 :: a6 :: a7 :: a8 :: a9 :: a10 :: a11 :: a12 :: a13 :: a14 :: a15 :: none :: σ) H) : gDel 16 (a0 :: a1 :: a2 :: a3 :: a4 :: a5 :: a6 :: a7 :: a8 :: a9 :: a10 :: a11 :: a12 :: a13 :: a14 :: a15 :: x :: σ) H k := h
theorem x_ml16 {a0 a1 a2 a3 a4 a5 a6 a7 a8 a9 a10 a11 a12 a13 a14 a15 : Option V} {σ : L2.St} (h : tMake C sp [] E tl (a0 :: a1 :: a2 :: a3 :: a4 :: a5 :: a6 :: a7 :: a8 :: a9 :: a10 :: a11 :: a12 :: a13 :: a14 :: a15 :: some (.ref C) :: σ) H Q) : eMakeL 16 C sp [] E tl (a0 :: a1 :: a2 :: a3 :: a4 :: a5 :: a6 :: a7 :: a8 :: a9 :: a10 :: a11 :: a12 :: a13 :: a14 :: a15 :: some (.ref C) :: σ) H Q := ⟨rfl, h⟩
theorem x_au16 {te : TE} {ti : TIp} {a0 a1 a2 a3 a4 a5 a6 a7 a8 a9 a10 a11 a12 a13 a14 a15 : Option V} {σ : L2.St} (h : te (a0 :: a1 :: a2 :: a3 :: a4 :: a5 :: a6 :: a7 :: a8 :: a9 :: a10 :: a11 :: a12 :: a13 :: a14 :: a15 :: some x :: σ) H fun y H1 => ti x y H1 fun z H2 => nx (a0 :: a1 :: a2 :: a3 :: a4 :: a5 :: a6 :: a7 :: a8 :: a9 :: a10 :: a11 :: a12 :: a13 :: a14 :: a15 :: some z :: σ) H2) : tAug 16 te ti ⟨nx, rt, bk, ct⟩ (a0 :: a1 :: a2 :: a3 :: a4 :: a5 :: a6 :: a7 :: a8 :: a9 :: a10 :: a11 :: a12 :: a13 :: a14 :: a15 :: some x :: σ) H := ⟨x, rfl, h⟩
theorem x_v17 {a0 a1 a2 a3 a4 a5 a6 a7 a8 a9 a10 a11 a12 a13 a14 a15 a16 : Option V} {σ : L2.St} (h : Q v H) : tVar 17 (a0 :: a1 :: a2 :: a3 :: a4 :: a5 :: a6 :: a7 :: a8 :: a9 :: a10 :: a11 :: a12 :: a13 :: a14 :: a15 :: a16 :: some v :: σ) H Q := ⟨v, rfl, h⟩
theorem x_g17 {a0 a1 a2 a3 a4 a5 a6 a7 a8 a9 a10 a11 a12 a13 a14 a15 a16 : Option V} {x : Option V} {σ : L2.St} (h : QS (a0 :: a1 :: a2 :: a3 :: a4 :: a5 :: a6 :: a7 :: a8 :: a9 :: a10 :: a11 :: a12 :: a13 :: a14 :: a15 :: a16 :: some v :: σ) H) : gName 17 v (a0 :: a1 :: a2 :: a3 :: a4 :: a5 :: a6 :: a7 :: a8 :: a9 :: a10 :: a11 :: a12 :: a13 :: a14 :: a15 :: a16 :: x :: σ) H QS := h
theorem x_d17 {a0 a1 a2 a3 a4 a5 a6 a7 a8 a9 a10 a11 a12 a13 a14 a15 a16 : Option V} {x : Option V} {σ : L2.St} {k : K0} (h : k (a0 :: a1 :: a2 :: a3 :: a4 :: a5 :: a6 :: a7 :: a8 :: a9 :: a10 :: a11 :: a12 :: a13 :: a14 :: a15 :: a16 :: none :: σ) H) : gDel 17 (a0 :: a1 :: a2 :: a3 :: a4 :: a5 :: a6 :: a7 :: a8 :: a9 :: a10 :: a11 :: a12 :: a13 :: a14 :: a15 :: a16 :: x :: σ) H k := h
theorem x_ml17 {a0 a1 a2 a3 a4 a5 a6 a7 a8 a9 a10 a11 a12 a13 a14 a15 a16 : Option V} {σ : L2.St} (h : tMake C sp [] E tl (a0 :: a1 :: a2 :: a3 :: a4 :: a5 :: a6 :: a7 :: a8 :: a9 :: a10 :: a11 :: a12 :: a13 :: a14 :: a15 :: a16 :: some (.ref C) :: σ) H Q) : eMakeL 17 C sp [] E tl (a0 :: a1 :: a2 :: a3 :: a4 :: a5 :: a6 :: a7 :: a8 :: a9 :: a10 :: a11 :: a12 :: a13 :: a14 :: a15 :: a16 :: some (.ref C) :: σ) H Q := ⟨rfl, h⟩
theorem x_au17 {te : TE} {ti : TIp} {a0 a1 a2 a3 a4 a5 a6 a7 a8 a9 a10 a11 a12 a13 a14 a15 a16 : Option V} {σ : L2.St} (h : te (a0 :: a1 :: a2 :: a3 :: a4 :: a5 :: a6 :: a7 :: a8 :: a9 :: a10 :: a11 :: a12 :: a13 :: a14 :: a15 :: a16 :: some x :: σ) H fun y H1 => ti x y H1 fun z H2 => nx (a0 :: a1 :: a2 :: a3 :: a4 :: a5 :: a6 :: a7 :: a8 :: a9 :: a10 :: a11 :: a12 :: a13 :: a14 :: a15 :: a16 :: some z :: σ) H2) : tAug 17 te ti ⟨nx, rt, bk, ct⟩ (a0 :: a1 :: a2 :: a3 :: a4 :: a5 :: a6 :: a7 :: a8 :: a9 :: a10 :: a11 :: a12 :: a13 :: a14 :: a15 :: a16 :: some x :: σ) H := ⟨x, rfl, h⟩
theorem x_v18 {a0 a1 a2 a3 a4 a5 a6 a7 a8 a9 a10 a11 a12 a13 a14 a15 a16 a17 : Option V} {σ : L2.St} (h : Q v H) : tVar 18 (a0 :: a1 :: a2 :: a3 :: a4 :: a5 :: a6 :: a7 :: a8 :: a9 :: a10 :: a11 :: a12 :: a13 :: a14 :: a15 :: a16 :: a17 :: some v :: σ) H Q := ⟨v, rfl, h⟩
theorem x_g18 {a0 a1 a2 a3 a4 a5 a6 a7 a8 a9 a10 a11 a12 a13 a14 a15 a16 a17 : Option V} {x : Option V} {σ : L2.St} (h : QS (a0 :: a1 :: a2 :: a3 :: a4 :: a5 :: a6 :: a7 :: a8 :: a9 :: a10 :: a11 :: a12 :: a13 :: a14 :: a15 :: a16 :: a17 :: some v :: σ) H) : gName 18 v (a0 :: a1 :: a2 :: a3 :: a4 :: a5 :: a6 :: a7 :: a8 :: a9 :: a10 :: a11 :: a12 :: a13 :: a14 :: a15 :: a16 :: a17 :: x :: σ) H QS := h
theorem x_d18 {a0 a1 a2 a3 a4 a5 a6 a7 a8 a9 a10 a11 a12 a13 a14 a15 a16 a17 : Option V} {x : Option V} {σ : L2.St} {k : K0} (h : k (a0 :: a1 :: a2 :: a3 :: a4 :: a5 :: a6 :: a7 :: a8 :: a9 :: a10 :: a11 :: a12 :: a13 :: a14 :: a15 :: a16 :: a17 :: none :: σ) H) : gDel 18 (a0 :: a1 :: a2 :: a3 :: a4 :: a5 :: a6 :: a7 :: a8 :: a9 :: a10 :: a11 :: a12 :: a13 :: a14 :: a15 :: a16 :: a17 :: x :: σ) H k := h
theorem x_ml18 {a0 a1 a2 a3 a4 a5 a6 a7 a8 a9 a10 a11 a12 a13 a14 a15 a16 a17 : Option V} {σ : L2.St} (h : tMake C sp [] E tl (a0 :: a1 :: a2 :: a3 :: a4 :: a5 :: a6 :: a7 :: a8 :: a9 :: a10 :: a11 :: a12 :: a13 :: a14 :: a15 :: a16 :: a17 :: some (.ref C) :: σ) H Q) : eMakeL 18 C sp [] E tl (a0 :: a1 :: a2 :: a3 :: a4 :: a5 :: a6 :: a7 :: a8 :: a9 :: a10 :: a11 :: a12 :: a13 :: a14 :: a15 :: a16 :: a17 :: some (.ref C) :: σ) H Q := ⟨rfl, h⟩
theorem x_au18 {te : TE} {ti : TIp} {a0 a1 a2 a3 a4 a5 a6 a7 a8 a9 a10 a11 a12 a13 a14 a15 a16 a17 : Option V} {σ : L2.St} (h : te (a0 :: a1 :: a2 :: a3 :: a4 :: a5 :: a6 :: a7 :: a8 :: a9 :: a10 :: a11 :: a12 :: a13 :: a14 :: a15 :: a16 :: a17 :: some x :: σ) H fun y H1 => ti x y H1 fun z H2 => nx (a0 :: a1 :: a2 :: a3 :: a4 :: a5 :: a6 :: a7 :: a8 :: a9 :: a10 :: a11 :: a12 :: a13 :: a14 :: a15 :: a16 :: a17 :: some z :: σ) H2) : tAug 18 te ti ⟨nx, rt, bk, ct⟩ (a0 :: a1 :: a2 :: a3 :: a4 :: a5 :: a6 :: a7 :: a8 :: a9 :: a10 :: a11 :: a12 :: a13 :: a14 :: a15 :: a16 :: a17 :: some x :: σ) H := ⟨x, rfl, h⟩
theorem x_v19 {a0 a1 a2 a3 a4 a5 a6 a7 a8 a9 a10 a11 a12 a13 a14 a15 a16 a17 a18 : Option V} {σ : L2.St} (h : Q v H) : tVar 19 (a0 :: a1 :: a2 :: a3 :: a4 :: a5 :: a6 :: a7 :: a8 :: a9 :: a10 :: a11 :: a12 :: a13 :: a14 :: a15 :: a16 :: a17 :: a18 :: some v :: σ) H Q := ⟨v, rfl, h⟩
theorem x_g19 {a0 a1 a2 a3 a4 a5 a6 a7 a8 a9 a10 a11 a12 a13 a14 a15 a16 a17 a18 : Option V} {x : Option V} {σ : L2.St} (h : QS (a0 :: a1 :: a2 :: a3 :: a4 :: a5 :: a6 :: a7 :: a8 :: a9 :: a10 :: a11 :: a12 :: a13 :: a14 :: a15 :: a16 :: a17 :: a18 :: some v :: σ) H) : gName 19 v (a0 :: a1 :: a2 :: a3 :: a4 :: a5 :: a6 :: a7 :: a8 :: a9 :: a10 :: a11 :: a12 :: a13 :: a14 :: a15 :: a16 :: a17 :: a18 :: x :: σ) H QS := h
theorem x_d19 {a0 a1 a2 a3 a4 a5 a6 a7 a8 a9 a10 a11 a12 a13 a14 a15 a16 a17 a18 : Option V} {x : Option V} {σ : L2.St} {k : K0} (h : k (a0 :: a1 :: a2 :: a3 :: a4 :: a5 :: a6 :: a7 :: a8 :: a9 :: a10 :: a11 :: a12 :: a13 :: a14 :: a15 :: a16 :: a17 :: a18 :: none :: σ) H) : gDel 19 (a0 :: a1 :: a2 :: a3 :: a4 :: a5 :: a6 :: a7 :: a8 :: a9 :: a10 :: a11 :: a12 :: a13 :: a14 :: a15 :: a16 :: a17 :: a18 :: x :: σ) H k := h
theorem x_ml19 {a0 a1 a2 a3 a4 a5 a6 a7 a8 a9 a10 a11 a12 a13 a14 a15 a16 a17 a18 : Option V} {σ : L2.St} (h : tMake C sp [] E tl (a0 :: a1 :: a2 :: a3 :: a4 :: a5 :: a6 :: a7 :: a8 :: a9 :: a10 :: a11 :: a12 :: a13 :: a14 :: a15 :: a16 :: a17 :: a18 :: some (.ref C) :: σ) H Q) : eMakeL 19 C sp [] E tl (a0 :: a1 :: a2 :: a3 :: a4 :: a5 :: a6 :: a7 :: a8 :: a9 :: a10 :: a11 :: a12 :: a13 :: a14 :: a15 :: a16 :: a17 :: a18 :: some (.ref C) :: σ) H Q := ⟨rfl, h⟩
theorem x_au19 {te : TE} {ti : TIp} {a0 a1 a2 a3 a4 a5 a6 a7 a8 a9 a10 a11 a12 a13 a14 a15 a16 a17 a18 : Option V} {σ : L2.St} (h : te (a0 :: a1 :: a2 :: a3 :: a4 :: a5 :: a6 :: a7 :: a8 :: a9 :: a10 :: a11 :: a12 :: a13 :: a14 :: a15 :: a16 :: a17 :: a18 :: some x :: σ) H fun y H1 => ti x y H1 fun z H2 => nx (a0 :: a1 :: a2 :: a3 :: a4 :: a5 :: a6 :: a7 :: a8 :: a9 :: a10 :: a11 :: a12 :: a13 :: a14 :: a15 :: a16 :: a17 :: a18 :: some z :: σ) H2) : tAug 19 te ti ⟨nx, rt, bk, ct⟩ (a0 :: a1 :: a2 :: a3 :: a4 :: a5 :: a6 :: a7 :: a8 :: a9 :: a10 :: a11 :: a12 :: a13 :: a14 :: a15 :: a16 :: a17 :: a18 :: some x :: σ) H := ⟨x, rfl, h⟩
theorem x_v20 {a0 a1 a2 a3 a4 a5 a6 a7 a8 a9 a10 a11 a12 a13 a14 a15 a16 a17 a18 a19 : Option V} {σ : L2.St} (h : Q v H) : tVar 20 (a0 :: a1 :: a2 :: a3 :: a4 :: a5 :: a6 :: a7 :: a8 :: a9 :: a10 :: a11 :: a12 :: a13 :: a14 :: a15 :: a16 :: a17 :: a18 :: a19 :: some v :: σ) H Q := ⟨v, rfl, h⟩
theorem x_g20 {a0 a1 a2 a3 a4 a5 a6 a7 a8 a9 a10 a11 a12 a13 a14 a15 a16 a17 a18 a19 : Option V} {x : Option V} {σ : L2.St} (h : QS (a0 :: a1 :: a2 :: a3 :: a4 :: a5 :: a6 :: a7 :: a8 :: a9 :: a10 :: a11 :: a12 :: a13 :: a14 :: a15 :: a16 :: a17 :: a18 :: a19 :: some v :: σ) H) : gName 20 v (a0 :: a1 :: a2 :: a3 :: a4 :: a5 :: a6 :: a7 :: a8 :: a9 :: a10 :: a11 :: a12 :: a13 :: a14 :: a15 :: a16 :: a17 :: a18 :: a19 :: x :: σ) H QS := h
theorem x_d20 {a0 a1 a2 a3 a4 a5 a6 a7 a8 a9 a10 a11 a12 a13 a14 a15 a16 a17 a18 a19 : Option V} {x : Option V} {σ : L2.St} {k : K0} (h : k (a0 :: a1 :: a2 :: a3 :: a4 :: a5 :: a6 :: a7 :: a8 :: a9 :: a10 :: a11 :: a12 :: a13 :: a14 :: a15 :: a16 :: a17 :: a18 :: a19 :: none :: σ) H) : gDel 20 (a0 :: a1 :: a2 :: a3 :: a4 :: a5 :: a6 :: a7 :: a8 :: a9 :: a10 :: a11 :: a12 :: a13 :: a14 :: a15 :: a16 :: a17 :: a18 :: a19 :: x :: σ) H k := h
theorem x_ml20 {a0 a1 a2 a3 a4 a5 a6 a7 a8 a9 a10 a11 a12 a13 a14 a15 a16 a17 a18 a19 : Option V} {σ : L2.St} (h : tMake C sp [] E tl (a0 :: a1 :: a2 :: a3 :: a4 :: a5 :: a6 :: a7 :: a8 :: a9 :: a10 :: a11 :: a12 :: a13 :: a14 :: a15 :: a16 :: a17 :: a18 :: a19 :: some (.ref C) :: σ) H Q) : eMakeL 20 C sp [] E tl (a0 :: a1 :: a2 :: a3 :: a4 :: a5 :: a6 :: a7 :: a8 :: a9 :: a10 :: a11 :: a12 :: a13 :: a14 :: a15 :: a16 :: a17 :: a18 :: a19 :: some (.ref C) :: σ) H Q := ⟨rfl, h⟩
theorem x_au20 {te : TE} {ti : TIp} {a0 a1 a2 a3 a4 a5 a6 a7 a8 a9 a10 a11 a12 a13 a14 a15 a16 a17 a18 a19 : Option V} {σ : L2.St} (h : te (a0 :: a1 :: a2 :: a3 :: a4 :: a5 :: a6 :: a7 :: a8 :: a9 :: a10 :: a11 :: a12 :: a13 :: a14 :: a15 :: a16 :: a17 :: a18 :: a19 :: some x :: σ) H fun y H1 => ti x y H1 fun z H2 => nx (a0 :: a1 :: a2 :: a3 :: a4 :: a5 :: a6 :: a7 :: a8 :: a9 :: a10 :: a11 :: a12 :: a13 :: a14 :: a15 :: a16 :: a17 :: a18 :: a19 :: some z :: σ) H2) : tAug 20 te ti ⟨nx, rt, bk, ct⟩ (a0 :: a1 :: a2 :: a3 :: a4 :: a5 :: a6 :: a7 :: a8 :: a9 :: a10 :: a11 :: a12 :: a13 :: a14 :: a15 :: a16 :: a17 :: a18 :: a19 :: some x :: σ) H := ⟨x, rfl, h⟩
theorem x_v21 {a0 a1 a2 a3 a4 a5 a6 a7 a8 a9 a10 a11 a12 a13 a14 a15 a16 a17 a18 a19 a20 : Option V} {σ : L2.St} (h : Q v H) : tVar 21 (a0 :: a1 :: a2 :: a3 :: a4 :: a5 :: a6 :: a7 :: a8 :: a9 :: a10 :: a11 :: a12 :: a13 :: a14 :: a15 :: a16 :: a17 :: a18 :: a19 :: a20 :: some v :: σ) H Q := ⟨v, rfl, h⟩
theorem x_g21 {a0 a1 a2 a3 a4 a5 a6 a7 a8 a9 a10 a11 a12 a13 a14 a15 a16 a17 a18 a19 a20 : Option V} {x : Option V} {σ : L2.St} (h : QS (a0 :: a1 :: a2 :: a3 :: a4 :: a5 :: a6 :: a7 :: a8 :: a9 :: a10 :: a11 :: a12 :: a13 :: a14 :: a15 :: a16 :: a17 :: a18 :: a19 :: a20 :: some v :: σ) H) : gName 21 v (a0 :: a1 :: a2 :: a3 :: a4 :: a5 :: a6 :: a7 :: a8 :: a9 :: a10 :: a11 :: a12 :: a13 :: a14 :: a15 :: a16 :: a17 :: a18 :: a19 :: a20 :: x :: σ) H QS := h
theorem x_d21 {a0 a1 a2 a3 a4 a5 a6 a7 a8 a9 a10 a11 a12 a13 a14 a15 a16 a17 a18 a19 a20 : Option V} {x : Option V} {σ : L2.St} {k : K0} (h : k (a0 :: a1 :: a2 :: a3 :: a4 :: a5 :: a6 :: a7 :: a8 :: a9 :: a10 :: a11 :: a12 :: a13 :: a14 :: a15 :: a16 :: a17 :: a18 :: a19 :: a20 :: none :: σ) H) : gDel 21 (a0 :: a1 :: a2 :: a3 :: a4 :: a5 :: a6 :: a7 :: a8 :: a9 :: a10 :: a11 :: a12 :: a13 :: a14 :: a15 :: a16 :: a17 :: a18 :: a19 :: a20 :: x :: σ) H k := h
theorem x_ml21 {a0 a1 a2 a3 a4 a5 a6 a7 a8 a9 a10 a11 a12 a13 a14 a15 a16 a17 a18 a19 a20 : Option V} {σ : L2.St} (h : tMake C sp [] E tl (a0 :: a1 :: a2 :: a3 :: a4 :: a5 :: a6 :: a7 :: a8 :: a9 :: a10 :: a11 :: a12 :: a13 :: a14 :: a15 :: a16 :: a17 :: a18 :: a19 :: a20 :: some (.ref C) :: σ) H Q) : eMakeL 21 C sp [] E tl (a0 :: a1 :: a2 :: a3 :: a4 :: a5 :: a6 :: a7 :: a8 :: a9 :: a10 :: a11 :: a12 :: a13 :: a14 :: a15 :: a16 :: a17 :: a18 :: a19 :: a20 :: some (.ref C) :: σ) H Q := ⟨rfl, h⟩
theorem x_au21 {te : TE} {ti : TIp} {a0 a1 a2 a3 a4 a5 a6 a7 a8 a9 a10 a11 a12 a13 a14 a15 a16 a17 a18 a19 a20 : Option V} {σ : L2.St} (h : te (a0 :: a1 :: a2 :: a3 :: a4 :: a5 :: a6 :: a7 :: a8 :: a9 :: a10 :: a11 :: a12 :: a13 :: a14 :: a15 :: a16 :: a17 :: a18 :: a19 :: a20 :: some x :: σ) H fun y H1 => ti x y H1 fun z H2 => nx (a0 :: a1 :: a2 :: a3 :: a4 :: a5 :: a6 :: a7 :: a8 :: a9 :: a10 :: a11 :: a12 :: a13 :: a14 :: a15 :: a16 :: a17 :: a18 :: a19 :: a20 :: some z :: σ) H2) : tAug 21 te ti ⟨nx, rt, bk, ct⟩ (a0 :: a1 :: a2 :: a3 :: a4 :: a5 :: a6 :: a7 :: a8 :: a9 :: a10 :: a11 :: a12 :: a13 :: a14 :: a15 :: a16 :: a17 :: a18 :: a19 :: a20 :: some x :: σ) H := ⟨x, rfl, h⟩
theorem x_v22 {a0 a1 a2 a3 a4 a5 a6 a7 a8 a9 a10 a11 a12 a13 a14 a15 a16 a17 a18 a19 a20 a21 : Option V} {σ : L2.St} (h : Q v H) : tVar 22 (a0 :: a1 :: a2 :: a3 :: a4 :: a5 :: a6 :: a7 :: a8 :: a9 :: a10 :: a11 :: a12 :: a13 :: a14 :: a15 :: a16 :: a17 :: a18 :: a19 :: a20 :: a21 :: some v :: σ) H Q := ⟨v, rfl, h⟩
theorem x_g22 {a0 a1 a2 a3 a4 a5 a6 a7 a8 a9 a10 a11 a12 a13 a14 a15 a16 a17 a18 a19 a20 a21 : Option V} {x : Option V} {σ : L2.St} (h : QS (a0 :: a1 :: a2 :: a3 :: a4 :: a5 :: a6 :: a7 :: a8 :: a9 :: a10 :: a11 :: a12 :: a13 :: a14 :: a15 :: a16 :: a17 :: a18 :: a19 :: a20 :: a21 :: some v :: σ) H) : gName 22 v (a0 :: a1 :: a2 :: a3 :: a4 :: a5 :: a6 :: a7 :: a8 :: a9 :: a10 :: a11 :: a12 :: a13 :: a14 :: a15 :: a16 :: a17 :: a18 :: a19 :: a20 :: a21 :: x :: σ) H QS := h
theorem x_d22 {a0 a1 a2 a3 a4 a5 a6 a7 a8 a9 a10 a11 a12 a13 a14 a15 a16 a17 a18 a19 a20 a21 : Option V} {x : Option V} {σ : L2.St} {k : K0} (h : k (a0 :: a1 :: a2 :: a3 :: a4 :: a5 :: a6 :: a7 :: a8 :: a9 :: a10 :: a11 :: a12 :: a13 :: a14 :: a15 :: a16 :: a17 :: a18 :: a19 :: a20 :: a21 :: none :: σ) H) : gDel 22 (a0 :: a1 :: a2 :: a3 :: a4 :: a5 :: a6 :: a7 :: a8 :: a9 :: a10 :: a11 :: a12 :: a13 :: a14 :: a15 :: a16 :: a17 :: a18 :: a19 :: a20 :: a21 :: x :: σ) H k := h
theorem x_ml22 {a0 a1 a2 a3 a4 a5 a6 a7 a8 a9 a10 a11 a12 a13 a14 a15 a16 a17 a18 a19 a20 a21 : Option V} {σ : L2.St} (h : tMake C sp [] E tl (a0 :: a1 :: a2 :: a3 :: a4 :: a5 :: a6 :: a7 :: a8 :: a9 :: a10 :: a11 :: a12 :: a13 :: a14 :: a15 :: a16 :: a17 :: a18 :: a19 :: a20 :: a21 :: some (.ref C) :: σ) H Q) : eMakeL 22 C sp [] E tl (a0 :: a1 :: a2 :: a3 :: a4 :: a5 :: a6 :: a7 :: a8 :: a9 :: a10 :: a11 :: a12 :: a13 :: a14 :: a15 :: a16 :: a17 :: a18 :: a19 :: a20 :: a21 :: some (.ref C) :: σ) H Q := ⟨rfl, h⟩
theorem x_au22 {te : TE} {ti : TIp} {a0 a1 a2 a3 a4 a5 a6 a7 a8 a9 a10 a11 a12 a13 a14 a15 a16 a17 a18 a19 a20 a21 : Option V} {σ : L2.St} (h : te (a0 :: a1 :: a2 :: a3 :: a4 :: a5 :: a6 :: a7 :: a8 :: a9 :: a10 :: a11 :: a12 :: a13 :: a14 :: a15 :: a16 :: a17 :: a18 :: a19 :: a20 :: a21 :: some x :: σ) H fun y H1 => ti x y H1 fun z H2 => nx (a0 :: a1 :: a2 :: a3 :: a4 :: a5 :: a6 :: a7 :: a8 :: a9 :: a10 :: a11 :: a12 :: a13 :: a14 :: a15 :: a16 :: a17 :: a18 :: a19 :: a20 :: a21 :: some z :: σ) H2) : tAug 22 te ti ⟨nx, rt, bk, ct⟩ (a0 :: a1 :: a2 :: a3 :: a4 :: a5 :: a6 :: a7 :: a8 :: a9 :: a10 :: a11 :: a12 :: a13 :: a14 :: a15 :: a16 :: a17 :: a18 :: a19 :: a20 :: a21 :: some x :: σ) H := ⟨x, rfl, h⟩
theorem x_v23 {a0 a1 a2 a3 a4 a5 a6 a7 a8 a9 a10 a11 a12 a13 a14 a15 a16 a17 a18 a19 a20 a21 a22 : Option V} {σ : L2.St} (h : Q v H) : tVar 23 (a0 :: a1 :: a2 :: a3 :: a4 :: a5 :: a6 :: a7 :: a8 :: a9 :: a10 :: a11 :: a12 :: a13 :: a14 :: a15 :: a16 :: a17 :: a18 :: a19 :: a20 :: a21 :: a22 :: some v :: σ) H Q := ⟨v, rfl, h⟩
theorem x_g23 {a0 a1 a2 a3 a4 a5 a6 a7 a8 a9 a10 a11 a12 a13 a14 a15 a16 a17 a18 a19 a20 a21 a22 : Option V} {x : Option V} {σ : L2.St} (h : QS (a0 :: a1 :: a2 :: a3 :: a4 :: a5 :: a6 :: a7 :: a8 :: a9 :: a10 :: a11 :: a12 :: a13 :: a14 :: a15 :: a16 :: a17 :: a18 :: a19 :: a20 :: a21 :: a22 :: some v :: σ) H) : gName 23 v (a0 :: a1 :: a2 :: a3 :: a4 :: a5 :: a6 :: a7 :: a8 :: a9 :: a10 :: a11 :: a12 :: a13 :: a14 :: a15 :: a16 :: a17 :: a18 :: a19 :: a20 :: a21 :: a22 :: x :: σ) H QS := h
theorem x_d23 {a0 a1 a2 a3 a4 a5 a6 a7 a8 a9 a10 a11 a12 a13 a14 a15 a16 a17 a18 a19 a20 a21 a22 : Option V} {x : Option V} {σ : L2.St} {k : K0} (h : k (a0 :: a1 :: a2 :: a3 :: a4 :: a5 :: a6 :: a7 :: a8 :: a9 :: a10 :: a11 :: a12 :: a13 :: a14 :: a15 :: a16 :: a17 :: a18 :: a19 :: a20 :: a21 :: a22 :: none :: σ) H) : gDel 23 (a0 :: a1 :: a2 :: a3 :: a4 :: a5 :: a6 :: a7 :: a8 :: a9 :: a10 :: a11 :: a12 :: a13 :: a14 :: a15 :: a16 :: a17 :: a18 :: a19 :: a20 :: a21 :: a22 :: x :: σ) H k := h
theorem x_ml23 {a0 a1 a2 a3 a4 a5 a6 a7 a8 a9 a10 a11 a12 a13 a14 a15 a16 a17 a18 a19 a20 a21 a22 : Option V} {σ : L2.St} (h : tMake C sp [] E tl (a0 :: a1 :: a2 :: a3 :: a4 :: a5 :: a6 :: a7 :: a8 :: a9 :: a10 :: a11 :: a12 :: a13 :: a14 :: a15 :: a16 :: a17 :: a18 :: a19 :: a20 :: a21 :: a22 :: some (.ref C) :: σ) H Q) : eMakeL 23 C sp [] E tl (a0 :: a1 :: a2 :: a3 :: a4 :: a5 :: a6 :: a7 :: a8 :: a9 :: a10 :: a11 :: a12 :: a13 :: a14 :: a15 :: a16 :: a17 :: a18 :: a19 :: a20 :: a21 :: a22 :: some (.ref C) :: σ) H Q := ⟨rfl, h⟩
theorem x_au23 {te : TE} {ti : TIp} {a0 a1 a2 a3 a4 a5 a6 a7 a8 a9 a10 a11 a12 a13 a14 a15 a16 a17 a18 a19 a20 a21 a22 : Option V} {σ : L2.St} (h : te (a0 :: a1 :: a2 :: a3 :: a4 :: a5 :: a6 :: a7 :: a8 :: a9 :: a10 :: a11 :: a12 :: a13 :: a14 :: a15 :: a16 :: a17 :: a18 :: a19 :: a20 :: a21 :: a22 :: some x :: σ) H fun y H1 => ti x y H1 fun z H2 => nx (a0 :: a1 :: a2 :: a3 :: a4 :: a5 :: a6 :: a7 :: a8 :: a9 :: a10 :: a11 :: a12 :: a13 :: a14 :: a15 :: a16 :: a17 :: a18 :: a19 :: a20 :: a21 :: a22 :: some z :: σ) H2) : tAug 23 te ti ⟨nx, rt, bk, ct⟩ (a0 :: a1 :: a2 :: a3 :: a4 :: a5 :: a6 :: a7 :: a8 :: a9 :: a10 :: a11 :: a12 :: a13 :: a14 :: a15 :: a16 :: a17 :: a18 :: a19 :: a20 :: a21 :: a22 :: some x :: σ) H := ⟨x, rfl, h⟩
theorem x_setA0 {w : V} {QH : Hp → Prop} (F : FH H L) (m : (p, Is (.lst (w :: xs))) ∈ L) (pu : Put p (Is (.lst (w :: xs))) (Is (.lst (v :: xs))) L L') (h : ∀ H', FH H' L' → QH H') : rSetL (.ref p) (.int 0) v H QH :=
  ⟨p, _, 0, 0, rfl, rfl, F.get m, ixN_b (j := 0) rfl (by simp [Nat.blt_eq, List.length_cons]), h _ (F.put pu trivial)⟩
theorem x_setA1 {b0 : V} {w : V} {QH : Hp → Prop} (F : FH H L) (m : (p, Is (.lst (b0 :: w :: xs))) ∈ L) (pu : Put p (Is (.lst (b0 :: w :: xs))) (Is (.lst (b0 :: v :: xs))) L L') (h : ∀ H', FH H' L' → QH H') : rSetL (.ref p) (.int 1) v H QH :=
  ⟨p, _, 1, 1, rfl, rfl, F.get m, ixN_b (j := 1) rfl (by simp [Nat.blt_eq, List.length_cons]), h _ (F.put pu trivial)⟩
theorem x_setA2 {b0 b1 : V} {w : V} {QH : Hp → Prop} (F : FH H L) (m : (p, Is (.lst (b0 :: b1 :: w :: xs))) ∈ L) (pu : Put p (Is (.lst (b0 :: b1 :: w :: xs))) (Is (.lst (b0 :: b1 :: v :: xs))) L L') (h : ∀ H', FH H' L' → QH H') : rSetL (.ref p) (.int 2) v H QH :=
  ⟨p, _, 2, 2, rfl, rfl, F.get m, ixN_b (j := 2) rfl (by simp [Nat.blt_eq, List.length_cons]), h _ (F.put pu trivial)⟩
theorem x_setA3 {b0 b1 b2 : V} {w : V} {QH : Hp → Prop} (F : FH H L) (m : (p, Is (.lst (b0 :: b1 :: b2 :: w :: xs))) ∈ L) (pu : Put p (Is (.lst (b0 :: b1 :: b2 :: w :: xs))) (Is (.lst (b0 :: b1 :: b2 :: v :: xs))) L L') (h : ∀ H', FH H' L' → QH H') : rSetL (.ref p) (.int 3) v H QH :=
  ⟨p, _, 3, 3, rfl, rfl, F.get m, ixN_b (j := 3) rfl (by simp [Nat.blt_eq, List.length_cons]), h _ (F.put pu trivial)⟩
theorem x_setA4 {b0 b1 b2 b3 : V} {w : V} {QH : Hp → Prop} (F : FH H L) (m : (p, Is (.lst (b0 :: b1 :: b2 :: b3 :: w :: xs))) ∈ L) (pu : Put p (Is (.lst (b0 :: b1 :: b2 :: b3 :: w :: xs))) (Is (.lst (b0 :: b1 :: b2 :: b3 :: v :: xs))) L L') (h : ∀ H', FH H' L' → QH H') : rSetL (.ref p) (.int 4) v H QH :=
  ⟨p, _, 4, 4, rfl, rfl, F.get m, ixN_b (j := 4) rfl (by simp [Nat.blt_eq, List.length_cons]), h _ (F.put pu trivial)⟩
theorem x_setA5 {b0 b1 b2 b3 b4 : V} {w : V} {QH : Hp → Prop} (F : FH H L) (m : (p, Is (.lst (b0 :: b1 :: b2 :: b3 :: b4 :: w :: xs))) ∈ L) (pu : Put p (Is (.lst (b0 :: b1 :: b2 :: b3 :: b4 :: w :: xs))) (Is (.lst (b0 :: b1 :: b2 :: b3 :: b4 :: v :: xs))) L L') (h : ∀ H', FH H' L' → QH H') : rSetL (.ref p) (.int 5) v H QH :=
  ⟨p, _, 5, 5, rfl, rfl, F.get m, ixN_b (j := 5) rfl (by simp [Nat.blt_eq, List.length_cons]), h _ (F.put pu trivial)⟩
theorem x_setA6 {b0 b1 b2 b3 b4 b5 : V} {w : V} {QH : Hp → Prop} (F : FH H L) (m : (p, Is (.lst (b0 :: b1 :: b2 :: b3 :: b4 :: b5 :: w :: xs))) ∈ L) (pu : Put p (Is (.lst (b0 :: b1 :: b2 :: b3 :: b4 :: b5 :: w :: xs))) (Is (.lst (b0 :: b1 :: b2 :: b3 :: b4 :: b5 :: v :: xs))) L L') (h : ∀ H', FH H' L' → QH H') : rSetL (.ref p) (.int 6) v H QH :=
  ⟨p, _, 6, 6, rfl, rfl, F.get m, ixN_b (j := 6) rfl (by simp [Nat.blt_eq, List.length_cons]), h _ (F.put pu trivial)⟩
theorem x_setA7 {b0 b1 b2 b3 b4 b5 b6 : V} {w : V} {QH : Hp → Prop} (F : FH H L) (m : (p, Is (.lst (b0 :: b1 :: b2 :: b3 :: b4 :: b5 :: b6 :: w :: xs))) ∈ L) (pu : Put p (Is (.lst (b0 :: b1 :: b2 :: b3 :: b4 :: b5 :: b6 :: w :: xs))) (Is (.lst (b0 :: b1 :: b2 :: b3 :: b4 :: b5 :: b6 :: v :: xs))) L L') (h : ∀ H', FH H' L' → QH H') : rSetL (.ref p) (.int 7) v H QH :=
  ⟨p, _, 7, 7, rfl, rfl, F.get m, ixN_b (j := 7) rfl (by simp [Nat.blt_eq, List.length_cons]), h _ (F.put pu trivial)⟩
theorem x_setA8 {b0 b1 b2 b3 b4 b5 b6 b7 : V} {w : V} {QH : Hp → Prop} (F : FH H L) (m : (p, Is (.lst (b0 :: b1 :: b2 :: b3 :: b4 :: b5 :: b6 :: b7 :: w :: xs))) ∈ L) (pu : Put p (Is (.lst (b0 :: b1 :: b2 :: b3 :: b4 :: b5 :: b6 :: b7 :: w :: xs))) (Is (.lst (b0 :: b1 :: b2 :: b3 :: b4 :: b5 :: b6 :: b7 :: v :: xs))) L L') (h : ∀ H', FH H' L' → QH H') : rSetL (.ref p) (.int 8) v H QH :=
  ⟨p, _, 8, 8, rfl, rfl, F.get m, ixN_b (j := 8) rfl (by simp [Nat.blt_eq, List.length_cons]), h _ (F.put pu trivial)⟩
theorem x_setA9 {b0 b1 b2 b3 b4 b5 b6 b7 b8 : V} {w : V} {QH : Hp → Prop} (F : FH H L) (m : (p, Is (.lst (b0 :: b1 :: b2 :: b3 :: b4 :: b5 :: b6 :: b7 :: b8 :: w :: xs))) ∈ L) (pu : Put p (Is (.lst (b0 :: b1 :: b2 :: b3 :: b4 :: b5 :: b6 :: b7 :: b8 :: w :: xs))) (Is (.lst (b0 :: b1 :: b2 :: b3 :: b4 :: b5 :: b6 :: b7 :: b8 :: v :: xs))) L L') (h : ∀ H', FH H' L' → QH H') : rSetL (.ref p) (.int 9) v H QH :=
  ⟨p, _, 9, 9, rfl, rfl, F.get m, ixN_b (j := 9) rfl (by simp [Nat.blt_eq, List.length_cons]), h _ (F.put pu trivial)⟩
end
end Y

/-! the walk by class search: one step St1, as many as there are Go1 -/
namespace Y
open PySem PySem.Spec PyProof.Rows L2
class St1 (G : Prop) (G' : outParam Prop) : Prop where
  imp : G' → G
class Go0 (G : Prop) (G' : outParam Prop) : Prop where
  imp : G' → G
instance (priority := 10) go_stop {G : Prop} : Go0 G G := ⟨id⟩
instance (priority := 1000) go_step {G G' G'' : Prop} [a : St1 G G'] [b : Go0 G' G''] : Go0 G G'' := ⟨fun h => a.imp (b.imp h)⟩
theorem go {G G' G'' : Prop} [a : St1 G G'] [b : Go0 G' G''] (h : G'') : G := a.imp (b.imp h)
/-- what stands in a list -/
class Mm {α : Type} (x : α) (L : List α) : Prop where
  m : x ∈ L
instance mm_tail {α : Type} {x y : α} {L : List α} [a : Mm x L] : Mm x (y :: L) := ⟨List.mem_cons_of_mem _ a.m⟩
instance (priority := 2000) mm_head {α : Type} {x : α} {L : List α} : Mm x (x :: L) := ⟨List.mem_cons_self⟩
class PutE (p : Addr) (φ φ' : Pr) (L : List Ent) (L' : outParam (List Ent)) : Prop where
  pu : Put p φ φ' L L'
instance put_tail {p : Addr} {φ φ' : Pr} {y : Ent} {L L' : List Ent} [a : PutE p φ φ' L L'] : PutE p φ φ' (y :: L) (y :: L') := ⟨.there a.pu⟩
instance (priority := 2000) put_head {p : Addr} {φ φ' : Pr} {L : List Ent} : PutE p φ φ' ((p, φ) :: L) ((p, φ') :: L) := ⟨.here⟩
class NeS (f g : Str) : Prop where
  ne : f ≠ g
class LookF (fs : List (Str × V)) (f : Str) (v : outParam V) : Prop where
  l : fs.lookup f = some v
instance look_tail {f g : Str} {v w : V} {t : List (Str × V)} [n : NeS f g] [a : LookF t f v] : LookF ((g, w) :: t) f v := ⟨look_miss n.ne a.l⟩
instance (priority := 2000) look_head {f : Str} {v : V} {t : List (Str × V)} : LookF ((f, v) :: t) f v := ⟨look_hit⟩
class NoF (fs : List (Str × V)) (f : Str) : Prop where
  l : fs.lookup f = none
instance nof_nil {f : Str} : NoF [] f := ⟨look_nil⟩
instance nof_cons {f g : Str} {w : V} {t : List (Str × V)} [n : NeS f g] [a : NoF t f] : NoF ((g, w) :: t) f := ⟨look_miss n.ne a.l⟩
class PutFd (f : Str) (v : V) (fs : List (Str × V)) (fs' : outParam (List (Str × V))) : Prop where
  e : putF f v fs = fs'
instance putfd_nil {f : Str} {v : V} : PutFd f v [] [(f, v)] := ⟨put_nil⟩
instance putfd_tail {f g : Str} {v w : V} {t t' : List (Str × V)} [n : NeS f g] [a : PutFd f v t t'] : PutFd f v ((g, w) :: t) ((g, w) :: t') := ⟨put_miss (Ne.symm n.ne) a.e⟩
instance (priority := 2000) putfd_head {f : Str} {v w : V} {t : List (Str × V)} : PutFd f v ((f, w) :: t) ((f, v) :: t) := ⟨put_hit⟩
class Shr {α : Type} (n : Nat) (xs : List α) : Prop where
  l : xs.length ≤ n
instance shr_nil {α : Type} {n : Nat} : Shr n ([] : List α) := ⟨Nat.zero_le _⟩
instance shr_cons {α : Type} {n : Nat} {x : α} {xs : List α} [a : Shr n xs] : Shr (n + 1) (x :: xs) := ⟨Nat.succ_le_succ a.l⟩
class AtE (xs : List V) (i : Int) (v : outParam V) : Prop where
  e : atI xs i = some v
class SetE (xs : List V) (i : Int) (v : V) (ys : outParam (List V)) : Prop where
  e : ∃ k, ixN xs.length i = some k ∧ xs.set k v = ys
class AppE {α : Type} (xs ys : List α) (zs : outParam (List α)) : Prop where
  e : xs ++ ys = zs
instance (priority := 10) app_any {α : Type} {xs ys : List α} : AppE xs ys (xs ++ ys) := ⟨rfl⟩
instance app_nil {α : Type} {ys : List α} : AppE [] ys ys := ⟨rfl⟩
instance app_cons {α : Type} {x : α} {xs ys zs : List α} [a : AppE xs ys zs] : AppE (x :: xs) ys (x :: zs) := ⟨congrArg (x :: ·) a.e⟩
class WipeE (σ : L2.St) (vs : List Nat) (σ' : outParam L2.St) : Prop where
  e : wipe σ vs = σ'
class SetO (σ : L2.St) (v : Nat) (σ' : outParam L2.St) : Prop where
  e : σ.set v none = σ'
class LenE {α : Type} (xs : List α) (n : outParam Nat) : Prop where
  e : xs.length = n
/-! heads that the written rules may still take -/
class Hd (G : Prop) : Prop where
  t : True
theorem hd_is {G : Prop} [Hd G] (h : G) : G := h
instance at0 {v : V} {xs : List V} : AtE (v :: xs) 0 v := ⟨atI_at (j := 0) rfl rfl⟩
instance set0 {w v : V} {xs : List V} : SetE (w :: xs) 0 v (v :: xs) := ⟨0, ixN_at (j := 0) rfl (by simp only [List.length_cons]; omega), rfl⟩
instance seto0 {w : Option V} {σ : L2.St} : SetO (w :: σ) 0 (none :: σ) := ⟨rfl⟩
instance len0 {α : Type} : LenE (α := α) [] 0 := ⟨rfl⟩
instance at1 {b0 : V} {v : V} {xs : List V} : AtE (b0 :: v :: xs) 1 v := ⟨atI_at (j := 1) rfl rfl⟩
instance set1 {b0 : V} {w v : V} {xs : List V} : SetE (b0 :: w :: xs) 1 v (b0 :: v :: xs) := ⟨1, ixN_at (j := 1) rfl (by simp only [List.length_cons]; omega), rfl⟩
instance seto1 {b0 : Option V} {w : Option V} {σ : L2.St} : SetO (b0 :: w :: σ) 1 (b0 :: none :: σ) := ⟨rfl⟩
instance len1 {α : Type} {b0 : α} : LenE (α := α) [b0] 1 := ⟨rfl⟩
instance at2 {b0 b1 : V} {v : V} {xs : List V} : AtE (b0 :: b1 :: v :: xs) 2 v := ⟨atI_at (j := 2) rfl rfl⟩
instance set2 {b0 b1 : V} {w v : V} {xs : List V} : SetE (b0 :: b1 :: w :: xs) 2 v (b0 :: b1 :: v :: xs) := ⟨2, ixN_at (j := 2) rfl (by simp only [List.length_cons]; omega), rfl⟩
instance seto2 {b0 b1 : Option V} {w : Option V} {σ : L2.St} : SetO (b0 :: b1 :: w :: σ) 2 (b0 :: b1 :: none :: σ) := ⟨rfl⟩
instance len2 {α : Type} {b0 b1 : α} : LenE (α := α) [b0, b1] 2 := ⟨rfl⟩
instance at3 {b0 b1 b2 : V} {v : V} {xs : List V} : AtE (b0 :: b1 :: b2 :: v :: xs) 3 v := ⟨atI_at (j := 3) rfl rfl⟩
instance set3 {b0 b1 b2 : V} {w v : V} {xs : List V} : SetE (b0 :: b1 :: b2 :: w :: xs) 3 v (b0 :: b1 :: b2 :: v :: xs) := ⟨3, ixN_at (j := 3) rfl (by simp only [List.length_cons]; omega), rfl⟩
instance seto3 {b0 b1 b2 : Option V} {w : Option V} {σ : L2.St} : SetO (b0 :: b1 :: b2 :: w :: σ) 3 (b0 :: b1 :: b2 :: none :: σ) := ⟨rfl⟩
instance len3 {α : Type} {b0 b1 b2 : α} : LenE (α := α) [b0, b1, b2] 3 := ⟨rfl⟩
instance at4 {b0 b1 b2 b3 : V} {v : V} {xs : List V} : AtE (b0 :: b1 :: b2 :: b3 :: v :: xs) 4 v := ⟨atI_at (j := 4) rfl rfl⟩
instance set4 {b0 b1 b2 b3 : V} {w v : V} {xs : List V} : SetE (b0 :: b1 :: b2 :: b3 :: w :: xs) 4 v (b0 :: b1 :: b2 :: b3 :: v :: xs) := ⟨4, ixN_at (j := 4) rfl (by simp only [List.length_cons]; omega), rfl⟩
instance seto4 {b0 b1 b2 b3 : Option V} {w : Option V} {σ : L2.St} : SetO (b0 :: b1 :: b2 :: b3 :: w :: σ) 4 (b0 :: b1 :: b2 :: b3 :: none :: σ) := ⟨rfl⟩
instance len4 {α : Type} {b0 b1 b2 b3 : α} : LenE (α := α) [b0, b1, b2, b3] 4 := ⟨rfl⟩
instance at5 {b0 b1 b2 b3 b4 : V} {v : V} {xs : List V} : AtE (b0 :: b1 :: b2 :: b3 :: b4 :: v :: xs) 5 v := ⟨atI_at (j := 5) rfl rfl⟩
instance set5 {b0 b1 b2 b3 b4 : V} {w v : V} {xs : List V} : SetE (b0 :: b1 :: b2 :: b3 :: b4 :: w :: xs) 5 v (b0 :: b1 :: b2 :: b3 :: b4 :: v :: xs) := ⟨5, ixN_at (j := 5) rfl (by simp only [List.length_cons]; omega), rfl⟩
instance seto5 {b0 b1 b2 b3 b4 : Option V} {w : Option V} {σ : L2.St} : SetO (b0 :: b1 :: b2 :: b3 :: b4 :: w :: σ) 5 (b0 :: b1 :: b2 :: b3 :: b4 :: none :: σ) := ⟨rfl⟩
instance len5 {α : Type} {b0 b1 b2 b3 b4 : α} : LenE (α := α) [b0, b1, b2, b3, b4] 5 := ⟨rfl⟩
instance at6 {b0 b1 b2 b3 b4 b5 : V} {v : V} {xs : List V} : AtE (b0 :: b1 :: b2 :: b3 :: b4 :: b5 :: v :: xs) 6 v := ⟨atI_at (j := 6) rfl rfl⟩
instance set6 {b0 b1 b2 b3 b4 b5 : V} {w v : V} {xs : List V} : SetE (b0 :: b1 :: b2 :: b3 :: b4 :: b5 :: w :: xs) 6 v (b0 :: b1 :: b2 :: b3 :: b4 :: b5 :: v :: xs) := ⟨6, ixN_at (j := 6) rfl (by simp only [List.length_cons]; omega), rfl⟩
instance seto6 {b0 b1 b2 b3 b4 b5 : Option V} {w : Option V} {σ : L2.St} : SetO (b0 :: b1 :: b2 :: b3 :: b4 :: b5 :: w :: σ) 6 (b0 :: b1 :: b2 :: b3 :: b4 :: b5 :: none :: σ) := ⟨rfl⟩
instance len6 {α : Type} {b0 b1 b2 b3 b4 b5 : α} : LenE (α := α) [b0, b1, b2, b3, b4, b5] 6 := ⟨rfl⟩
instance at7 {b0 b1 b2 b3 b4 b5 b6 : V} {v : V} {xs : List V} : AtE (b0 :: b1 :: b2 :: b3 :: b4 :: b5 :: b6 :: v :: xs) 7 v := ⟨atI_at (j := 7) rfl rfl⟩
instance set7 {b0 b1 b2 b3 b4 b5 b6 : V} {w v : V} {xs : List V} : SetE (b0 :: b1 :: b2 :: b3 :: b4 :: b5 :: b6 :: w :: xs) 7 v (b0 :: b1 :: b2 :: b3 :: b4 :: b5 :: b6 :: v :: xs) := ⟨7, ixN_at (j := 7) rfl (by simp only [List.length_cons]; omega), rfl⟩
instance seto7 {b0 b1 b2 b3 b4 b5 b6 : Option V} {w : Option V} {σ : L2.St} : SetO (b0 :: b1 :: b2 :: b3 :: b4 :: b5 :: b6 :: w :: σ) 7 (b0 :: b1 :: b2 :: b3 :: b4 :: b5 :: b6 :: none :: σ) := ⟨rfl⟩
instance len7 {α : Type} {b0 b1 b2 b3 b4 b5 b6 : α} : LenE (α := α) [b0, b1, b2, b3, b4, b5, b6] 7 := ⟨rfl⟩
instance at8 {b0 b1 b2 b3 b4 b5 b6 b7 : V} {v : V} {xs : List V} : AtE (b0 :: b1 :: b2 :: b3 :: b4 :: b5 :: b6 :: b7 :: v :: xs) 8 v := ⟨atI_at (j := 8) rfl rfl⟩
instance set8 {b0 b1 b2 b3 b4 b5 b6 b7 : V} {w v : V} {xs : List V} : SetE (b0 :: b1 :: b2 :: b3 :: b4 :: b5 :: b6 :: b7 :: w :: xs) 8 v (b0 :: b1 :: b2 :: b3 :: b4 :: b5 :: b6 :: b7 :: v :: xs) := ⟨8, ixN_at (j := 8) rfl (by simp only [List.length_cons]; omega), rfl⟩
instance seto8 {b0 b1 b2 b3 b4 b5 b6 b7 : Option V} {w : Option V} {σ : L2.St} : SetO (b0 :: b1 :: b2 :: b3 :: b4 :: b5 :: b6 :: b7 :: w :: σ) 8 (b0 :: b1 :: b2 :: b3 :: b4 :: b5 :: b6 :: b7 :: none :: σ) := ⟨rfl⟩
instance len8 {α : Type} {b0 b1 b2 b3 b4 b5 b6 b7 : α} : LenE (α := α) [b0, b1, b2, b3, b4, b5, b6, b7] 8 := ⟨rfl⟩
instance at9 {b0 b1 b2 b3 b4 b5 b6 b7 b8 : V} {v : V} {xs : List V} : AtE (b0 :: b1 :: b2 :: b3 :: b4 :: b5 :: b6 :: b7 :: b8 :: v :: xs) 9 v := ⟨atI_at (j := 9) rfl rfl⟩
instance set9 {b0 b1 b2 b3 b4 b5 b6 b7 b8 : V} {w v : V} {xs : List V} : SetE (b0 :: b1 :: b2 :: b3 :: b4 :: b5 :: b6 :: b7 :: b8 :: w :: xs) 9 v (b0 :: b1 :: b2 :: b3 :: b4 :: b5 :: b6 :: b7 :: b8 :: v :: xs) := ⟨9, ixN_at (j := 9) rfl (by simp only [List.length_cons]; omega), rfl⟩
instance seto9 {b0 b1 b2 b3 b4 b5 b6 b7 b8 : Option V} {w : Option V} {σ : L2.St} : SetO (b0 :: b1 :: b2 :: b3 :: b4 :: b5 :: b6 :: b7 :: b8 :: w :: σ) 9 (b0 :: b1 :: b2 :: b3 :: b4 :: b5 :: b6 :: b7 :: b8 :: none :: σ) := ⟨rfl⟩
instance len9 {α : Type} {b0 b1 b2 b3 b4 b5 b6 b7 b8 : α} : LenE (α := α) [b0, b1, b2, b3, b4, b5, b6, b7, b8] 9 := ⟨rfl⟩
instance at10 {b0 b1 b2 b3 b4 b5 b6 b7 b8 b9 : V} {v : V} {xs : List V} : AtE (b0 :: b1 :: b2 :: b3 :: b4 :: b5 :: b6 :: b7 :: b8 :: b9 :: v :: xs) 10 v := ⟨atI_at (j := 10) rfl rfl⟩
instance set10 {b0 b1 b2 b3 b4 b5 b6 b7 b8 b9 : V} {w v : V} {xs : List V} : SetE (b0 :: b1 :: b2 :: b3 :: b4 :: b5 :: b6 :: b7 :: b8 :: b9 :: w :: xs) 10 v (b0 :: b1 :: b2 :: b3 :: b4 :: b5 :: b6 :: b7 :: b8 :: b9 :: v :: xs) := ⟨10, ixN_at (j := 10) rfl (by simp only [List.length_cons]; omega), rfl⟩
instance seto10 {b0 b1 b2 b3 b4 b5 b6 b7 b8 b9 : Option V} {w : Option V} {σ : L2.St} : SetO (b0 :: b1 :: b2 :: b3 :: b4 :: b5 :: b6 :: b7 :: b8 :: b9 :: w :: σ) 10 (b0 :: b1 :: b2 :: b3 :: b4 :: b5 :: b6 :: b7 :: b8 :: b9 :: none :: σ) := ⟨rfl⟩
instance len10 {α : Type} {b0 b1 b2 b3 b4 b5 b6 b7 b8 b9 : α} : LenE (α := α) [b0, b1, b2, b3, b4, b5, b6, b7, b8, b9] 10 := ⟨rfl⟩
instance at11 {b0 b1 b2 b3 b4 b5 b6 b7 b8 b9 b10 : V} {v : V} {xs : List V} : AtE (b0 :: b1 :: b2 :: b3 :: b4 :: b5 :: b6 :: b7 :: b8 :: b9 :: b10 :: v :: xs) 11 v := ⟨atI_at (j := 11) rfl rfl⟩
instance set11 {b0 b1 b2 b3 b4 b5 b6 b7 b8 b9 b10 : V} {w v : V} {xs : List V} : SetE (b0 :: b1 :: b2 :: b3 :: b4 :: b5 :: b6 :: b7 :: b8 :: b9 :: b10 :: w :: xs) 11 v (b0 :: b1 :: b2 :: b3 :: b4 :: b5 :: b6 :: b7 :: b8 :: b9 :: b10 :: v :: xs) := ⟨11, ixN_at (j := 11) rfl (by simp only [List.length_cons]; omega), rfl⟩
instance seto11 {b0 b1 b2 b3 b4 b5 b6 b7 b8 b9 b10 : Option V} {w : Option V} {σ : L2.St} : SetO (b0 :: b1 :: b2 :: b3 :: b4 :: b5 :: b6 :: b7 :: b8 :: b9 :: b10 :: w :: σ) 11 (b0 :: b1 :: b2 :: b3 :: b4 :: b5 :: b6 :: b7 :: b8 :: b9 :: b10 :: none :: σ) := ⟨rfl⟩
instance len11 {α : Type} {b0 b1 b2 b3 b4 b5 b6 b7 b8 b9 b10 : α} : LenE (α := α) [b0, b1, b2, b3, b4, b5, b6, b7, b8, b9, b10] 11 := ⟨rfl⟩
instance at12 {b0 b1 b2 b3 b4 b5 b6 b7 b8 b9 b10 b11 : V} {v : V} {xs : List V} : AtE (b0 :: b1 :: b2 :: b3 :: b4 :: b5 :: b6 :: b7 :: b8 :: b9 :: b10 :: b11 :: v :: xs) 12 v := ⟨atI_at (j := 12) rfl rfl⟩
instance set12 {b0 b1 b2 b3 b4 b5 b6 b7 b8 b9 b10 b11 : V} {w v : V} {xs : List V} : SetE (b0 :: b1 :: b2 :: b3 :: b4 :: b5 :: b6 :: b7 :: b8 :: b9 :: b10 :: b11 :: w :: xs) 12 v (b0 :: b1 :: b2 :: b3 :: b4 :: b5 :: b6 :: b7 :: b8 :: b9 :: b10 :: b11 :: v :: xs) := ⟨12, ixN_at (j := 12) rfl (by simp only [List.length_cons]; omega), rfl⟩
instance seto12 {b0 b1 b2 b3 b4 b5 b6 b7 b8 b9 b10 b11 : Option V} {w : Option V} {σ : L2.St} : SetO (b0 :: b1 :: b2 :: b3 :: b4 :: b5 :: b6 :: b7 :: b8 :: b9 :: b10 :: b11 :: w :: σ) 12 (b0 :: b1 :: b2 :: b3 :: b4 :: b5 :: b6 :: b7 :: b8 :: b9 :: b10 :: b11 :: none :: σ) := ⟨rfl⟩
instance len12 {α : Type} {b0 b1 b2 b3 b4 b5 b6 b7 b8 b9 b10 b11 : α} : LenE (α := α) [b0, b1, b2, b3, b4, b5, b6, b7, b8, b9, b10, b11] 12 := ⟨rfl⟩
instance at13 {b0 b1 b2 b3 b4 b5 b6 b7 b8 b9 b10 b11 b12 : V} {v : V} {xs : List V} : AtE (b0 :: b1 :: b2 :: b3 :: b4 :: b5 :: b6 :: b7 :: b8 :: b9 :: b10 :: b11 :: b12 :: v :: xs) 13 v := ⟨atI_at (j := 13) rfl rfl⟩
instance set13 {b0 b1 b2 b3 b4 b5 b6 b7 b8 b9 b10 b11 b12 : V} {w v : V} {xs : List V} : SetE (b0 :: b1 :: b2 :: b3 :: b4 :: b5 :: b6 :: b7 :: b8 :: b9 :: b10 :: b11 :: b12 :: w :: xs) 13 v (b0 :: b1 :: b2 :: b3 :: b4 :: b5 :: b6 :: b7 :: b8 :: b9 :: b10 :: b11 :: b12 :: v :: xs) := ⟨13, ixN_at (j := 13) rfl (by simp only [List.length_cons]; omega), rfl⟩
instance seto13 {b0 b1 b2 b3 b4 b5 b6 b7 b8 b9 b10 b11 b12 : Option V} {w : Option V} {σ : L2.St} : SetO (b0 :: b1 :: b2 :: b3 :: b4 :: b5 :: b6 :: b7 :: b8 :: b9 :: b10 :: b11 :: b12 :: w :: σ) 13 (b0 :: b1 :: b2 :: b3 :: b4 :: b5 :: b6 :: b7 :: b8 :: b9 :: b10 :: b11 :: b12 :: none :: σ) := ⟨rfl⟩
instance len13 {α : Type} {b0 b1 b2 b3 b4 b5 b6 b7 b8 b9 b10 b11 b12 : α} : LenE (α := α) [b0, b1, b2, b3, b4, b5, b6, b7, b8, b9, b10, b11, b12] 13 := ⟨rfl⟩
instance at14 {b0 b1 b2 b3 b4 b5 b6 b7 b8 b9 b10 b11 b12 b13 : V} {v : V} {xs : List V} : AtE (b0 :: b1 :: b2 :: b3 :: b4 :: b5 :: b6 :: b7 :: b8 :: b9 :: b10 :: b11 :: b12 :: b13 :: v :: xs) 14 v := ⟨atI_at (j := 14) rfl rfl⟩
instance set14 {b0 b1 b2 b3 b4 b5 b6 b7 b8 b9 b10 b11 b12 b13 : V} {w v : V} {xs : List V} : SetE (b0 :: b1 :: b2 :: b3 :: b4 :: b5 :: b6 :: b7 :: b8 :: b9 :: b10 :: b11 :: b12 :: b13 :: w :: xs) 14 v (b0 :: b1 :: b2 :: b3 :: b4 :: b5 :: b6 :: b7 :: b8 :: b9 :: b10 :: b11 :: b12 :: b13 :: v :: xs) := ⟨14, ixN_at (j := 14) rfl (by simp only [List.length_cons]; omega), rfl⟩
instance seto14 {b0 b1 b2 b3 b4 b5 b6 b7 b8 b9 b10 b11 b12 b13 : Option V} {w : Option V} {σ : L2.St} : SetO (b0 :: b1 :: b2 :: b3 :: b4 :: b5 :: b6 :: b7 :: b8 :: b9 :: b10 :: b11 :: b12 :: b13 :: w :: σ) 14 (b0 :: b1 :: b2 :: b3 :: b4 :: b5 :: b6 :: b7 :: b8 :: b9 :: b10 :: b11 :: b12 :: b13 :: none :: σ) := ⟨rfl⟩
instance len14 {α : Type} {b0 b1 b2 b3 b4 b5 b6 b7 b8 b9 b10 b11 b12 b13 : α} : LenE (α := α) [b0, b1, b2, b3, b4, b5, b6, b7, b8, b9, b10, b11, b12, b13] 14 := ⟨rfl⟩
instance at15 {b0 b1 b2 b3 b4 b5 b6 b7 b8 b9 b10 b11 b12 b13 b14 : V} {v : V} {xs : List V} : AtE (b0 :: b1 :: b2 :: b3 :: b4 :: b5 :: b6 :: b7 :: b8 :: b9 :: b10 :: b11 :: b12 :: b13 :: b14 :: v :: xs) 15 v := ⟨atI_at (j := 15) rfl rfl⟩
instance set15 {b0 b1 b2 b3 b4 b5 b6 b7 b8 b9 b10 b11 b12 b13 b14 : V} {w v : V} {xs : List V} : SetE (b0 :: b1 :: b2 :: b3 :: b4 :: b5 :: b6 :: b7 :: b8 :: b9 :: b10 :: b11 :: b12 :: b13 :: b14 :: w :: xs) 15 v (b0 :: b1 :: b2 :: b3 :: b4 :: b5 :: b6 :: b7 :: b8 :: b9 :: b10 :: b11 :: b12 :: b13 :: b14 :: v :: xs) := ⟨15, ixN_at (j := 15) rfl (by simp only [List.length_cons]; omega), rfl⟩
instance seto15 {b0 b1 b2 b3 b4 b5 b6 b7 b8 b9 b10 b11 b12 b13 b14 : Option V} {w : Option V} {σ : L2.St} : SetO (b0 :: b1 :: b2 :: b3 :: b4 :: b5 :: b6 :: b7 :: b8 :: b9 :: b10 :: b11 :: b12 :: b13 :: b14 :: w :: σ) 15 (b0 :: b1 :: b2 :: b3 :: b4 :: b5 :: b6 :: b7 :: b8 :: b9 :: b10 :: b11 :: b12 :: b13 :: b14 :: none :: σ) := ⟨rfl⟩
instance len15 {α : Type} {b0 b1 b2 b3 b4 b5 b6 b7 b8 b9 b10 b11 b12 b13 b14 : α} : LenE (α := α) [b0, b1, b2, b3, b4, b5, b6, b7, b8, b9, b10, b11, b12, b13, b14] 15 := ⟨rfl⟩
instance at16 {b0 b1 b2 b3 b4 b5 b6 b7 b8 b9 b10 b11 b12 b13 b14 b15 : V} {v : V} {xs : List V} : AtE (b0 :: b1 :: b2 :: b3 :: b4 :: b5 :: b6 :: b7 :: b8 :: b9 :: b10 :: b11 :: b12 :: b13 :: b14 :: b15 :: v :: xs) 16 v := ⟨atI_at (j := 16) rfl rfl⟩
instance set16 {b0 b1 b2 b3 b4 b5 b6 b7 b8 b9 b10 b11 b12 b13 b14 b15 : V} {w v : V} {xs : List V} : SetE (b0 :: b1 :: b2 :: b3 :: b4 :: b5 :: b6 :: b7 :: b8 :: b9 :: b10 :: b11 :: b12 :: b13 :: b14 :: b15 :: w :: xs) 16 v (b0 :: b1 :: b2 :: b3 :: b4 :: b5 :: b6 :: b7 :: b8 :: b9 :: b10 :: b11 :: b12 :: b13 :: b14 :: b15 :: v :: xs) := ⟨16, ixN_at (j := 16) rfl (by simp only [List.length_cons]; omega), rfl⟩
instance seto16 {b0 b1 b2 b3 b4 b5 b6 b7 b8 b9 b10 b11 b12 b13 b14 b15 : Option V} {w : Option V} {σ : L2.St} : SetO (b0 :: b1 :: b2 :: b3 :: b4 :: b5 :: b6 :: b7 :: b8 :: b9 :: b10 :: b11 :: b12 :: b13 :: b14 :: b15 :: w :: σ) 16 (b0 :: b1 :: b2 :: b3 :: b4 :: b5 :: b6 :: b7 :: b8 :: b9 :: b10 :: b11 :: b12 :: b13 :: b14 :: b15 :: none :: σ) := ⟨rfl⟩
instance len16 {α : Type} {b0 b1 b2 b3 b4 b5 b6 b7 b8 b9 b10 b11 b12 b13 b14 b15 : α} : LenE (α := α) [b0, b1, b2, b3, b4, b5, b6, b7, b8, b9, b10, b11, b12, b13, b14, b15] 16 := ⟨rfl⟩
instance at17 {b0 b1 b2 b3 b4 b5 b6 b7 b8 b9 b10 b11 b12 b13 b14 b15 b16 : V} {v : V} {xs : List V} : AtE (b0 :: b1 :: b2 :: b3 :: b4 :: b5 :: b6 :: b7 :: b8 :: b9 :: b10 :: b11 :: b12 :: b13 :: b14 :: b15 :: b16 :: v :: xs) 17 v := ⟨atI_at (j := 17) rfl rfl⟩
instance set17 {b0 b1 b2 b3 b4 b5 b6 b7 b8 b9 b10 b11 b12 b13 b14 b15 b16 : V} {w v : V} {xs : List V} : SetE (b0 :: b1 :: b2 :: b3 :: b4 :: b5 :: b6 :: b7 :: b8 :: b9 :: b10 :: b11 :: b12 :: b13 :: b14 :: b15 :: b16 :: w :: xs) 17 v (b0 :: b1 :: b2 :: b3 :: b4 :: b5 :: b6 :: b7 :: b8 :: b9 :: b10 :: b11 :: b12 :: b13 :: b14 :: b15 :: b16 :: v :: xs) := ⟨17, ixN_at (j := 17) rfl (by simp only [List.length_cons]; omega), rfl⟩
instance seto17 {b0 b1 b2 b3 b4 b5 b6 b7 b8 b9 b10 b11 b12 b13 b14 b15 b16 : Option V} {w : Option V} {σ : L2.St} : SetO (b0 :: b1 :: b2 :: b3 :: b4 :: b5 :: b6 :: b7 :: b8 :: b9 :: b10 :: b11 :: b12 :: b13 :: b14 :: b15 :: b16 :: w :: σ) 17 (b0 :: b1 :: b2 :: b3 :: b4 :: b5 :: b6 :: b7 :: b8 :: b9 :: b10 :: b11 :: b12 :: b13 :: b14 :: b15 :: b16 :: none :: σ) := ⟨rfl⟩
instance len17 {α : Type} {b0 b1 b2 b3 b4 b5 b6 b7 b8 b9 b10 b11 b12 b13 b14 b15 b16 : α} : LenE (α := α) [b0, b1, b2, b3, b4, b5, b6, b7, b8, b9, b10, b11, b12, b13, b14, b15, b16] 17 := ⟨rfl⟩
instance at18 {b0 b1 b2 b3 b4 b5 b6 b7 b8 b9 b10 b11 b12 b13 b14 b15 b16 b17 : V} {v : V} {xs : List V} : AtE (b0 :: b1 :: b2 :: b3 :: b4 :: b5 :: b6 :: b7 :: b8 :: b9 :: b10 :: b11 :: b12 :: b13 :: b14 :: b15 :: b16 :: b17 :: v :: xs) 18 v := ⟨atI_at (j := 18) rfl rfl⟩
instance set18 {b0 b1 b2 b3 b4 b5 b6 b7 b8 b9 b10 b11 b12 b13 b14 b15 b16 b17 : V} {w v : V} {xs : List V} : SetE (b0 :: b1 :: b2 :: b3 :: b4 :: b5 :: b6 :: b7 :: b8 :: b9 :: b10 :: b11 :: b12 :: b13 :: b14 :: b15 :: b16 :: b17 :: w :: xs) 18 v (b0 :: b1 :: b2 :: b3 :: b4 :: b5 :: b6 :: b7 :: b8 :: b9 :: b10 :: b11 :: b12 :: b13 :: b14 :: b15 :: b16 :: b17 :: v :: xs) := ⟨18, ixN_at (j := 18) rfl (by simp only [List.length_cons]; omega), rfl⟩
instance seto18 {b0 b1 b2 b3 b4 b5 b6 b7 b8 b9 b10 b11 b12 b13 b14 b15 b16 b17 : Option V} {w : Option V} {σ : L2.St} : SetO (b0 :: b1 :: b2 :: b3 :: b4 :: b5 :: b6 :: b7 :: b8 :: b9 :: b10 :: b11 :: b12 :: b13 :: b14 :: b15 :: b16 :: b17 :: w :: σ) 18 (b0 :: b1 :: b2 :: b3 :: b4 :: b5 :: b6 :: b7 :: b8 :: b9 :: b10 :: b11 :: b12 :: b13 :: b14 :: b15 :: b16 :: b17 :: none :: σ) := ⟨rfl⟩
instance len18 {α : Type} {b0 b1 b2 b3 b4 b5 b6 b7 b8 b9 b10 b11 b12 b13 b14 b15 b16 b17 : α} : LenE (α := α) [b0, b1, b2, b3, b4, b5, b6, b7, b8, b9, b10, b11, b12, b13, b14, b15, b16, b17] 18 := ⟨rfl⟩
instance at19 {b0 b1 b2 b3 b4 b5 b6 b7 b8 b9 b10 b11 b12 b13 b14 b15 b16 b17 b18 : V} {v : V} {xs : List V} : AtE (b0 :: b1 :: b2 :: b3 :: b4 :: b5 :: b6 :: b7 :: b8 :: b9 :: b10 :: b11 :: b12 :: b13 :: b14 :: b15 :: b16 :: b17 :: b18 :: v :: xs) 19 v := ⟨atI_at (j := 19) rfl rfl⟩
instance set19 {b0 b1 b2 b3 b4 b5 b6 b7 b8 b9 b10 b11 b12 b13 b14 b15 b16 b17 b18 : V} {w v : V} {xs : List V} : SetE (b0 :: b1 :: b2 :: b3 :: b4 :: b5 :: b6 :: b7 :: b8 :: b9 :: b10 :: b11 :: b12 :: b13 :: b14 :: b15 :: b16 :: b17 :: b18 :: w :: xs) 19 v (b0 :: b1 :: b2 :: b3 :: b4 :: b5 :: b6 :: b7 :: b8 :: b9 :: b10 :: b11 :: b12 :: b13 :: b14 :: b15 :: b16 :: b17 :: b18 :: v :: xs) := ⟨19, ixN_at (j := 19) rfl (by simp only [List.length_cons]; omega), rfl⟩
instance seto19 {b0 b1 b2 b3 b4 b5 b6 b7 b8 b9 b10 b11 b12 b13 b14 b15 b16 b17 b18 : Option V} {w : Option V} {σ : L2.St} : SetO (b0 :: b1 :: b2 :: b3 :: b4 :: b5 :: b6 :: b7 :: b8 :: b9 :: b10 :: b11 :: b12 :: b13 :: b14 :: b15 :: b16 :: b17 :: b18 :: w :: σ) 19 (b0 :: b1 :: b2 :: b3 :: b4 :: b5 :: b6 :: b7 :: b8 :: b9 :: b10 :: b11 :: b12 :: b13 :: b14 :: b15 :: b16 :: b17 :: b18 :: none :: σ) := ⟨rfl⟩
instance len19 {α : Type} {b0 b1 b2 b3 b4 b5 b6 b7 b8 b9 b10 b11 b12 b13 b14 b15 b16 b17 b18 : α} : LenE (α := α) [b0, b1, b2, b3, b4, b5, b6, b7, b8, b9, b10, b11, b12, b13, b14, b15, b16, b17, b18] 19 := ⟨rfl⟩
instance at20 {b0 b1 b2 b3 b4 b5 b6 b7 b8 b9 b10 b11 b12 b13 b14 b15 b16 b17 b18 b19 : V} {v : V} {xs : List V} : AtE (b0 :: b1 :: b2 :: b3 :: b4 :: b5 :: b6 :: b7 :: b8 :: b9 :: b10 :: b11 :: b12 :: b13 :: b14 :: b15 :: b16 :: b17 :: b18 :: b19 :: v :: xs) 20 v := ⟨atI_at (j := 20) rfl rfl⟩
instance set20 {b0 b1 b2 b3 b4 b5 b6 b7 b8 b9 b10 b11 b12 b13 b14 b15 b16 b17 b18 b19 : V} {w v : V} {xs : List V} : SetE (b0 :: b1 :: b2 :: b3 :: b4 :: b5 :: b6 :: b7 :: b8 :: b9 :: b10 :: b11 :: b12 :: b13 :: b14 :: b15 :: b16 :: b17 :: b18 :: b19 :: w :: xs) 20 v (b0 :: b1 :: b2 :: b3 :: b4 :: b5 :: b6 :: b7 :: b8 :: b9 :: b10 :: b11 :: b12 :: b13 :: b14 :: b15 :: b16 :: b17 :: b18 :: b19 :: v :: xs) := ⟨20, ixN_at (j := 20) rfl (by simp only [List.length_cons]; omega), rfl⟩
instance seto20 {b0 b1 b2 b3 b4 b5 b6 b7 b8 b9 b10 b11 b12 b13 b14 b15 b16 b17 b18 b19 : Option V} {w : Option V} {σ : L2.St} : SetO (b0 :: b1 :: b2 :: b3 :: b4 :: b5 :: b6 :: b7 :: b8 :: b9 :: b10 :: b11 :: b12 :: b13 :: b14 :: b15 :: b16 :: b17 :: b18 :: b19 :: w :: σ) 20 (b0 :: b1 :: b2 :: b3 :: b4 :: b5 :: b6 :: b7 :: b8 :: b9 :: b10 :: b11 :: b12 :: b13 :: b14 :: b15 :: b16 :: b17 :: b18 :: b19 :: none :: σ) := ⟨rfl⟩
instance len20 {α : Type} {b0 b1 b2 b3 b4 b5 b6 b7 b8 b9 b10 b11 b12 b13 b14 b15 b16 b17 b18 b19 : α} : LenE (α := α) [b0, b1, b2, b3, b4, b5, b6, b7, b8, b9, b10, b11, b12, b13, b14, b15, b16, b17, b18, b19] 20 := ⟨rfl⟩
instance at21 {b0 b1 b2 b3 b4 b5 b6 b7 b8 b9 b10 b11 b12 b13 b14 b15 b16 b17 b18 b19 b20 : V} {v : V} {xs : List V} : AtE (b0 :: b1 :: b2 :: b3 :: b4 :: b5 :: b6 :: b7 :: b8 :: b9 :: b10 :: b11 :: b12 :: b13 :: b14 :: b15 :: b16 :: b17 :: b18 :: b19 :: b20 :: v :: xs) 21 v := ⟨atI_at (j := 21) rfl rfl⟩
instance set21 {b0 b1 b2 b3 b4 b5 b6 b7 b8 b9 b10 b11 b12 b13 b14 b15 b16 b17 b18 b19 b20 : V} {w v : V} {xs : List V} : SetE (b0 :: b1 :: b2 :: b3 :: b4 :: b5 :: b6 :: b7 :: b8 :: b9 :: b10 :: b11 :: b12 :: b13 :: b14 :: b15 :: b16 :: b17 :: b18 :: b19 :: b20 :: w :: xs) 21 v (b0 :: b1 :: b2 :: b3 :: b4 :: b5 :: b6 :: b7 :: b8 :: b9 :: b10 :: b11 :: b12 :: b13 :: b14 :: b15 :: b16 :: b17 :: b18 :: b19 :: b20 :: v :: xs) := ⟨21, ixN_at (j := 21) rfl (by simp only [List.length_cons]; omega), rfl⟩
instance seto21 {b0 b1 b2 b3 b4 b5 b6 b7 b8 b9 b10 b11 b12 b13 b14 b15 b16 b17 b18 b19 b20 : Option V} {w : Option V} {σ : L2.St} : SetO (b0 :: b1 :: b2 :: b3 :: b4 :: b5 :: b6 :: b7 :: b8 :: b9 :: b10 :: b11 :: b12 :: b13 :: b14 :: b15 :: b16 :: b17 :: b18 :: b19 :: b20 :: w :: σ) 21 (b0 :: b1 :: b2 :: b3 :: b4 :: b5 :: b6 :: b7 :: b8 :: b9 :: b10 :: b11 :: b12 :: b13 :: b14 :: b15 :: b16 :: b17 :: b18 :: b19 :: b20 :: none :: σ) := ⟨rfl⟩
instance len21 {α : Type} {b0 b1 b2 b3 b4 b5 b6 b7 b8 b9 b10 b11 b12 b13 b14 b15 b16 b17 b18 b19 b20 : α} : LenE (α := α) [b0, b1, b2, b3, b4, b5, b6, b7, b8, b9, b10, b11, b12, b13, b14, b15, b16, b17, b18, b19, b20] 21 := ⟨rfl⟩
instance at22 {b0 b1 b2 b3 b4 b5 b6 b7 b8 b9 b10 b11 b12 b13 b14 b15 b16 b17 b18 b19 b20 b21 : V} {v : V} {xs : List V} : AtE (b0 :: b1 :: b2 :: b3 :: b4 :: b5 :: b6 :: b7 :: b8 :: b9 :: b10 :: b11 :: b12 :: b13 :: b14 :: b15 :: b16 :: b17 :: b18 :: b19 :: b20 :: b21 :: v :: xs) 22 v := ⟨atI_at (j := 22) rfl rfl⟩
instance set22 {b0 b1 b2 b3 b4 b5 b6 b7 b8 b9 b10 b11 b12 b13 b14 b15 b16 b17 b18 b19 b20 b21 : V} {w v : V} {xs : List V} : SetE (b0 :: b1 :: b2 :: b3 :: b4 :: b5 :: b6 :: b7 :: b8 :: b9 :: b10 :: b11 :: b12 :: b13 :: b14 :: b15 :: b16 :: b17 :: b18 :: b19 :: b20 :: b21 :: w :: xs) 22 v (b0 :: b1 :: b2 :: b3 :: b4 :: b5 :: b6 :: b7 :: b8 :: b9 :: b10 :: b11 :: b12 :: b13 :: b14 :: b15 :: b16 :: b17 :: b18 :: b19 :: b20 :: b21 :: v :: xs) := ⟨22, ixN_at (j := 22) rfl (by simp only [List.length_cons]; omega), rfl⟩
instance seto22 {b0 b1 b2 b3 b4 b5 b6 b7 b8 b9 b10 b11 b12 b13 b14 b15 b16 b17 b18 b19 b20 b21 : Option V} {w : Option V} {σ : L2.St} : SetO (b0 :: b1 :: b2 :: b3 :: b4 :: b5 :: b6 :: b7 :: b8 :: b9 :: b10 :: b11 :: b12 :: b13 :: b14 :: b15 :: b16 :: b17 :: b18 :: b19 :: b20 :: b21 :: w :: σ) 22 (b0 :: b1 :: b2 :: b3 :: b4 :: b5 :: b6 :: b7 :: b8 :: b9 :: b10 :: b11 :: b12 :: b13 :: b14 :: b15 :: b16 :: b17 :: b18 :: b19 :: b20 :: b21 :: none :: σ) := ⟨rfl⟩
instance len22 {α : Type} {b0 b1 b2 b3 b4 b5 b6 b7 b8 b9 b10 b11 b12 b13 b14 b15 b16 b17 b18 b19 b20 b21 : α} : LenE (α := α) [b0, b1, b2, b3, b4, b5, b6, b7, b8, b9, b10, b11, b12, b13, b14, b15, b16, b17, b18, b19, b20, b21] 22 := ⟨rfl⟩
instance at23 {b0 b1 b2 b3 b4 b5 b6 b7 b8 b9 b10 b11 b12 b13 b14 b15 b16 b17 b18 b19 b20 b21 b22 : V} {v : V} {xs : List V} : AtE (b0 :: b1 :: b2 :: b3 :: b4 :: b5 :: b6 :: b7 :: b8 :: b9 :: b10 :: b11 :: b12 :: b13 :: b14 :: b15 :: b16 :: b17 :: b18 :: b19 :: b20 :: b21 :: b22 :: v :: xs) 23 v := ⟨atI_at (j := 23) rfl rfl⟩
instance set23 {b0 b1 b2 b3 b4 b5 b6 b7 b8 b9 b10 b11 b12 b13 b14 b15 b16 b17 b18 b19 b20 b21 b22 : V} {w v : V} {xs : List V} : SetE (b0 :: b1 :: b2 :: b3 :: b4 :: b5 :: b6 :: b7 :: b8 :: b9 :: b10 :: b11 :: b12 :: b13 :: b14 :: b15 :: b16 :: b17 :: b18 :: b19 :: b20 :: b21 :: b22 :: w :: xs) 23 v (b0 :: b1 :: b2 :: b3 :: b4 :: b5 :: b6 :: b7 :: b8 :: b9 :: b10 :: b11 :: b12 :: b13 :: b14 :: b15 :: b16 :: b17 :: b18 :: b19 :: b20 :: b21 :: b22 :: v :: xs) := ⟨23, ixN_at (j := 23) rfl (by simp only [List.length_cons]; omega), rfl⟩
instance seto23 {b0 b1 b2 b3 b4 b5 b6 b7 b8 b9 b10 b11 b12 b13 b14 b15 b16 b17 b18 b19 b20 b21 b22 : Option V} {w : Option V} {σ : L2.St} : SetO (b0 :: b1 :: b2 :: b3 :: b4 :: b5 :: b6 :: b7 :: b8 :: b9 :: b10 :: b11 :: b12 :: b13 :: b14 :: b15 :: b16 :: b17 :: b18 :: b19 :: b20 :: b21 :: b22 :: w :: σ) 23 (b0 :: b1 :: b2 :: b3 :: b4 :: b5 :: b6 :: b7 :: b8 :: b9 :: b10 :: b11 :: b12 :: b13 :: b14 :: b15 :: b16 :: b17 :: b18 :: b19 :: b20 :: b21 :: b22 :: none :: σ) := ⟨rfl⟩
instance len23 {α : Type} {b0 b1 b2 b3 b4 b5 b6 b7 b8 b9 b10 b11 b12 b13 b14 b15 b16 b17 b18 b19 b20 b21 b22 : α} : LenE (α := α) [b0, b1, b2, b3, b4, b5, b6, b7, b8, b9, b10, b11, b12, b13, b14, b15, b16, b17, b18, b19, b20, b21, b22] 23 := ⟨rfl⟩
instance wipe0 {σ : L2.St} : WipeE σ [] σ := ⟨rfl⟩
instance wipe1 {σ σ1 : L2.St} {v : Nat} [a : SetO σ v σ1] : WipeE σ [v] σ1 := ⟨a.e⟩
instance wipe2 {σ σ1 σ2 : L2.St} {v u : Nat} [a : SetO σ u σ1] [b : SetO σ1 v σ2] : WipeE σ [v, u] σ2 := ⟨by show (σ.set u none).set v none = σ2; rw [a.e, b.e]⟩
section
variable {σ : L2.St} {H H' : Hp} {Q : VK} {QB : Bool → Hp → Prop} {QL : List V → Hp → Prop} {QO : Option Int → Hp → Prop} {QS : L2.St → Hp → Prop} {te ta tb tc : TE} {t u : TT} {tl : TA} {r r' : R2} {rc : List V → Hp → VK → Prop} {s1 s2 : TS} {nx bk ct : K0} {rt : VK} {v x y : V} {g : TG} {i j : Int} {b : Bool} {E : XK} {sp : Sp} {C : Addr} {P : Prop} [Decidable P] {A B : Prop} {S : Sta}
variable {L L' : List Ent} {p q : Addr} {xs : List V} {f : Str} {dx : Addr} {fs : List (Str × V)} {lo hi : Option Int}
variable {Cs : List Addr} {ls : List (Addr × Sp)}
variable {QV : V → Prop} {m : Str} {fs' : List (Str × V)} {ys zs : List V} {k : Nat} {vs : List V}
instance i_op  : St1 (tOp r ta tb σ H Q) (ta σ H fun x H1 => tb σ H1 fun y H2 => r x y H2 Q) := ⟨fun h => x_op h⟩
instance i_c  : St1 (tC v σ H Q) (Q v H) := ⟨fun h => x_c h⟩
instance i_seq  : St1 (tSeq s1 s2 ⟨nx, rt, bk, ct⟩ σ H) (s1 ⟨s2 ⟨nx, rt, bk, ct⟩, rt, bk, ct⟩ σ H) := ⟨fun h => x_seq h⟩
instance i_asg  : St1 (tAsg te g ⟨nx, rt, bk, ct⟩ σ H) (te σ H fun x H1 => g x σ H1 nx) := ⟨fun h => x_asg h⟩
instance i_cons  : St1 (tCons ta tl σ H QL) (ta σ H fun x H1 => tl σ H1 fun xs H2 => QL (x :: xs) H2) := ⟨fun h => x_cons h⟩
instance i_nil  : St1 (tNil σ H QL) (QL [] H) := ⟨fun h => x_nil h⟩
instance i_cb  : St1 (tCB rc tl σ H Q) (tl σ H fun vs H1 => rc vs H1 Q) := ⟨fun h => x_cb h⟩
instance i_ifS  : St1 (tIfS t s1 s2 ⟨nx, rt, bk, ct⟩ σ H) (t σ H fun b H1 => if b = true then s1 ⟨nx, rt, bk, ct⟩ σ H1 else s2 ⟨nx, rt, bk, ct⟩ σ H1) := ⟨fun h => x_ifS h⟩
instance i_iteT  : St1 (if true = true then A else B) (A) := ⟨fun h => x_iteT h⟩
instance i_iteF  : St1 (if false = true then A else B) (B) := ⟨fun h => x_iteF h⟩
instance i_next  : St1 (tNext ⟨nx, rt, bk, ct⟩ σ H) (nx σ H) := ⟨fun h => x_next h⟩
instance i_ret  : St1 (tRet te ⟨nx, rt, bk, ct⟩ σ H) (te σ H rt) := ⟨fun h => x_ret h⟩
instance i_add  : St1 (rAdd (.int i) (.int j) H Q) (Q (.int (i + j)) H) := ⟨fun h => x_add h⟩
instance i_sub  : St1 (rSub (.int i) (.int j) H Q) (Q (.int (i - j)) H) := ⟨fun h => x_sub h⟩
instance i_eqI  : St1 (rEq (.int i) (.int j) H Q) (Q (.bl (decide (i = j))) H) := ⟨fun h => x_eqI h⟩
instance i_eqB {a b : Bool} : St1 (rEq (.bl a) (.bl b) H Q) (Q (.bl (decide (a = b))) H) := ⟨fun h => x_eqB h⟩
instance i_eqS {a b : Str} : St1 (rEq (.str a) (.str b) H Q) (Q (.bl (decide (a = b))) H) := ⟨fun h => x_eqS h⟩
instance i_neI  : St1 (rNe (.int i) (.int j) H Q) (Q (.bl (decide (i ≠ j))) H) := ⟨fun h => x_neI h⟩
instance i_neB {a b : Bool} : St1 (rNe (.bl a) (.bl b) H Q) (Q (.bl (decide (a ≠ b))) H) := ⟨fun h => x_neB h⟩
instance i_neS {a b : Str} : St1 (rNe (.str a) (.str b) H Q) (Q (.bl (decide (a ≠ b))) H) := ⟨fun h => x_neS h⟩
instance i_eqPI  : St1 (rEqP S (.int i) (.int j) H Q) (Q (.bl (decide (i = j))) H) := ⟨fun h => x_eqPI h⟩
instance i_eqPB {a b : Bool} : St1 (rEqP S (.bl a) (.bl b) H Q) (Q (.bl (decide (a = b))) H) := ⟨fun h => x_eqPB h⟩
instance i_nePI  : St1 (rNeP S (.int i) (.int j) H Q) (Q (.bl (decide (i ≠ j))) H) := ⟨fun h => x_nePI h⟩
instance i_nePB {a b : Bool} : St1 (rNeP S (.bl a) (.bl b) H Q) (Q (.bl (decide (a ≠ b))) H) := ⟨fun h => x_nePB h⟩
instance i_eqPSs {a : Str} : St1 (rEqP S (.str a) (.str a) H Q) (Q (.bl true) H) := ⟨fun h => x_eqPSs h⟩
instance i_nePSs {a : Str} : St1 (rNeP S (.str a) (.str a) H Q) (Q (.bl false) H) := ⟨fun h => x_nePSs h⟩
instance i_isN  : St1 (rIs .non .non H Q) (Q (.bl true) H) := ⟨fun h => x_isN h⟩
instance i_isI  : St1 (rIs (.int i) .non H Q) (Q (.bl false) H) := ⟨fun h => x_isI h⟩
instance i_isR  : St1 (rIs (.ref C) .non H Q) (Q (.bl false) H) := ⟨fun h => x_isR h⟩
instance i_isB  : St1 (rIs (.bl b) .non H Q) (Q (.bl false) H) := ⟨fun h => x_isB h⟩
instance i_isnN  : St1 (rIsNot .non .non H Q) (Q (.bl false) H) := ⟨fun h => x_isnN h⟩
instance i_isnI  : St1 (rIsNot (.int i) .non H Q) (Q (.bl true) H) := ⟨fun h => x_isnI h⟩
instance i_isnR  : St1 (rIsNot (.ref C) .non H Q) (Q (.bl true) H) := ⟨fun h => x_isnR h⟩
instance i_isnB  : St1 (rIsNot (.bl b) .non H Q) (Q (.bl true) H) := ⟨fun h => x_isnB h⟩
instance i_lt  : St1 (rLt (.int i) (.int j) H Q) (Q (.bl (decide (i < j))) H) := ⟨fun h => x_lt h⟩
instance i_le  : St1 (rLe (.int i) (.int j) H Q) (Q (.bl (decide (i ≤ j))) H) := ⟨fun h => x_le h⟩
instance i_gt  : St1 (rGt (.int i) (.int j) H Q) (Q (.bl (decide (j < i))) H) := ⟨fun h => x_gt h⟩
instance i_ge  : St1 (rGe (.int i) (.int j) H Q) (Q (.bl (decide (j ≤ i))) H) := ⟨fun h => x_ge h⟩
instance i_intI  : St1 (rInt [.int i] H Q) (Q (.int i) H) := ⟨fun h => x_intI h⟩
instance i_and  : St1 (tAnd t u σ H QB) (t σ H fun c H1 => if c = true then u σ H1 QB else QB false H1) := ⟨fun h => x_and h⟩
instance i_or  : St1 (tOr t u σ H QB) (t σ H fun c H1 => if c = true then QB true H1 else u σ H1 QB) := ⟨fun h => x_or h⟩
instance i_con  : St1 (eCon v σ H Q) (Q v H) := ⟨fun h => x_con h⟩
instance i_gsub {to ti : TE} {ts : TSet} : St1 (gSub to ti ts v σ H QS) (to σ H fun o H1 => ti σ H1 fun i H2 => ts o i v H2 fun H3 => QS σ H3) := ⟨fun h => x_gsub h⟩
instance i_lst  : St1 (tLst tl σ H Q) (tl σ H fun xs H1 => Klst xs H1 Q) := ⟨fun h => x_lst h⟩
instance i_tup  : St1 (tTup tl σ H Q) (tl σ H fun xs H1 => Ktup xs H1 Q) := ⟨fun h => x_tup h⟩
instance i_drop  : St1 (tDrop te ⟨nx, rt, bk, ct⟩ σ H) (te σ H fun _ H1 => nx σ H1) := ⟨fun h => x_drop h⟩
instance i_tIf  : St1 (tIf t ta tb σ H Q) (t σ H fun c H1 => if c = true then ta σ H1 Q else tb σ H1 Q) := ⟨fun h => x_tIf h⟩
instance i_un {ru : V → Hp → VK → Prop} : St1 (tUn ru ta σ H Q) (ta σ H fun x H1 => ru x H1 Q) := ⟨fun h => x_un h⟩
instance i_retN  : St1 (tRetN ⟨nx, rt, bk, ct⟩ σ H) (rt .non H) := ⟨fun h => x_retN h⟩
instance i_brk  : St1 (tBreak ⟨nx, rt, bk, ct⟩ σ H) (bk σ H) := ⟨fun h => x_brk h⟩
instance i_cont  : St1 (tCont ⟨nx, rt, bk, ct⟩ σ H) (ct σ H) := ⟨fun h => x_cont h⟩
instance i_cmeth  : St1 (ClX.tCMeth C sp E (eCon (.ref C)) tl σ H Q) (tl σ H fun vs H2 => sp (.ref C :: vs) H2 Q E) := ⟨fun h => x_cmeth h⟩
instance i_sl {tlo thi : TO} {rs : V → Option Int → Option Int → Hp → VK → Prop} : St1 (L2.tSl rs te tlo thi σ H Q) (te σ H fun x H1 => tlo σ H1 fun l H2 => thi σ H2 fun u H3 => rs x l u H3 Q) := ⟨fun h => x_sl h⟩
instance i_nopart  : St1 (tNoPart σ H QO) (QO none H) := ⟨fun h => x_nopart h⟩
instance i_niteT  : St1 (if (!true) = true then A else B) (B) := ⟨fun h => x_niteT h⟩
instance i_niteF  : St1 (if (!false) = true then A else B) (A) := ⟨fun h => x_niteF h⟩
instance i_initEnd {B : Prop} : St1 (V.non = .non ∧ B) (B) := ⟨fun h => x_initEnd h⟩
instance i_neg  : St1 (rNeg (.int i) H Q) (Q (.int (-i)) H) := ⟨fun h => x_neg h⟩
instance i_band  : St1 (rAnd (.int i) (.int j) H Q) (Q (.int (Builtin.bitAnd i j)) H) := ⟨fun h => x_band h⟩
instance i_intB  : St1 (rInt [.bl b] H Q) (Q (.int (if b then 1 else 0)) H) := ⟨fun h => x_intB h⟩
instance i_augA  : St1 (rAug (.int i) (.int j) H Q) (Q (.int (i + j)) H) := ⟨fun h => x_augA h⟩
instance i_augS  : St1 (rAugS (.int i) (.int j) H Q) (Q (.int (i - j)) H) := ⟨fun h => x_augS h⟩
instance i_forE  : St1 (sFor S te g s1 ⟨nx, rt, bk, ct⟩ σ H) (te σ H fun x H1 => ForS S g s1 nx rt x σ H1) := ⟨fun h => x_forE h⟩
instance i_lcE {tt : TT} {tel : TE} {vs : List Nat} : St1 (eLc S te g tt tel vs σ H Q) (te σ H fun x H1 => LcS S g tt tel vs Q x σ H1) := ⟨fun h => x_lcE h⟩
instance i_yes  : St1 (tYes σ H QB) (QB true H) := ⟨fun h => x_yes h⟩
instance i_forK0  : St1 (forK g s1 nx bk rt 0 i σ H) (nx σ H) := ⟨fun h => x_forK0 h⟩
instance i_forK {n : Nat} : St1 (forK g s1 nx bk rt (n + 1) i σ H) (g (.int i) σ H fun σ' H' => s1 ⟨forK g s1 nx bk rt n (i + 1), rt, bk, forK g s1 nx bk rt n (i + 1)⟩ σ' H') := ⟨fun h => x_forK h⟩
instance i_chn {tl : TC} : St1 (tChn ta tl σ H Q) (ta σ H fun x H1 => tl σ x H1 Q) := ⟨fun h => x_chn h⟩
instance i_clast  : St1 (cLast r tb σ x H Q) (tb σ H fun y H1 => r x y H1 Q) := ⟨fun h => x_clast h⟩
instance i_bits  : St1 (rBits (.int i) H Q) (Q (.int (Builtin.Int.intBits i : Nat)) H) := ⟨fun h => x_bits h⟩
instance i_forKS {a : Addr} {u : HO} : St1 (forKS S a u g s1 nx bk rt (x :: xs) σ H) (g x σ H fun σ' H' => s1 ⟨fun σ H => RdS S H a u ∧ forKS S a u g s1 nx bk rt xs σ H, rt, bk, fun σ H => RdS S H a u ∧ forKS S a u g s1 nx bk rt xs σ H⟩ σ' H') := ⟨fun h => x_forKS h⟩
instance i_forKS0 {a : Addr} {u : HO} : St1 (forKS S a u g s1 nx bk rt [] σ H) (nx σ H) := ⟨fun h => x_forKS0 h⟩
instance i_lcKS {a D : Addr} {u : HO} {tt : TT} {tel : TE} {vs : List Nat} {σw : L2.St} : St1 (lcKS S a u g tt tel vs σw D Q (x :: xs) H) (g x σw H fun σ2 H2 => wipe σ2 vs = σw ∧ tt σ2 H2 fun b H3 => if b = true then tel σ2 H3 fun z H4 => lcPut D z (fun H => RdS S H a u ∧ lcKS S a u g tt tel vs σw D Q xs H) H4 else RdS S H3 a u ∧ lcKS S a u g tt tel vs σw D Q xs H3) := ⟨fun h => x_lcKS h⟩
instance i_lcKS0 {a D : Addr} {u : HO} {tt : TT} {tel : TE} {vs : List Nat} {σw : L2.St} : St1 (lcKS S a u g tt tel vs σw D Q [] H) (Q (.ref D) H) := ⟨fun h => x_lcKS0 h⟩
instance i_lcR {tt : TT} {tel : TE} {vs : List Nat} : St1 (eLcR none te g tt tel vs σ H Q) (te σ H fun y H1 => LcR g tt tel vs Q y σ H1) := ⟨fun h => x_lcR h⟩
instance i_lcKR {D : Addr} {tt : TT} {tel : TE} {vs : List Nat} {σw : L2.St} : St1 (lcKR g tt tel vs σw D Q (x :: xs) H) (g x σw H fun σ2 H2 => wipe σ2 vs = σw ∧ tt σ2 H2 fun b H3 => if b = true then tel σ2 H3 fun z H4 => lcPut D z (fun H => lcKR g tt tel vs σw D Q xs H) H4 else lcKR g tt tel vs σw D Q xs H3) := ⟨fun h => x_lcKR h⟩
instance i_lcKR0 {D : Addr} {tt : TT} {tel : TE} {vs : List Nat} {σw : L2.St} : St1 (lcKR g tt tel vs σw D Q [] H) (Q (.ref D) H) := ⟨fun h => x_lcKR0 h⟩
instance i_abs  : St1 (rAbs [.int i] H Q) (Q (.int (if i < 0 then -i else i)) H) := ⟨fun h => x_abs h⟩
instance i_min2  : St1 (rMin2 [.int i, .int j] H Q) (Q (.int (min i j)) H) := ⟨fun h => x_min2 h⟩
instance i_min3 {k : Int} : St1 (rMin3 [.int i, .int j, .int k] H Q) (Q (.int (min (min i j) k)) H) := ⟨fun h => x_min3 h⟩
instance i_max2  : St1 (rMax2 [.int i, .int j] H Q) (Q (.int (max i j)) H) := ⟨fun h => x_max2 h⟩
instance i_inAdd  : St1 (rInAdd (.int i) (.int j) H Q) (Q (.int (i + j)) H) := ⟨fun h => x_inAdd h⟩
instance i_inSub  : St1 (rInSub (.int i) (.int j) H Q) (Q (.int (i - j)) H) := ⟨fun h => x_inSub h⟩
instance i_augSub {to ti : TE} {tg : V → V → Hp → VK → Prop} {tp : TIp} {ts : TSet} : St1 (tAugS to ti te tg tp ts ⟨nx, rt, bk, ct⟩ σ H) (to σ H fun o H1 => ti σ H1 fun i H2 => tg o i H2 fun x H3 => te σ H3 fun y H4 => tp x y H4 fun z H5 => ts o i z H5 fun H6 => nx σ H6) := ⟨fun h => x_augSub h⟩
instance i_raise {C : Addr} {fs : List Str} {D : Ends} : St1 (sRaise E (tMkC C fs tl) D σ H) (tl σ H fun vs H1 => KmkC C fs E vs H1) := ⟨fun h => x_raise h⟩
instance i_raiseS {C : Addr} {fs : List Str} {D : Ends} {W : WX} : St1 (sRaiseS W (tMkC C fs tl) D σ H) (tl σ H fun vs H1 => KmkC C fs (WE W σ) vs H1) := ⟨fun h => x_raiseS h⟩
instance i_try {tab : List (Value × Nat)} {cl : List Sui} {tw : WX → TS} : St1 (sTry tab cl tw ⟨nx, rt, bk, ct⟩ σ H) (tw (wT tab cl ⟨nx, rt, bk, ct⟩) ⟨nx, rt, bk, ct⟩ σ H) := ⟨fun h => x_try h⟩
instance i_cS {ES : L2.St → XK} : St1 (tCS sp ES tl σ H Q) (tl σ H fun vs H1 => sp vs H1 Q (ES σ)) := ⟨fun h => x_cS h⟩
instance i_newS {ES : L2.St → XK} : St1 (tNewS C sp ES tl σ H Q) (tl σ H fun vs H1 => KnewS C sp vs H1 Q (ES σ)) := ⟨fun h => x_newS h⟩
instance i_whB {W : Nat → L2.St → Hp → Prop} {m : Nat} : St1 (WhB W m s1 nx rt σ H) (s1 ⟨WhN W m, rt, nx, WhN W m⟩ σ H) := ⟨fun h => x_whB h⟩
instance i_raw {vs : List V} : St1 (spRaw sp vs H Q E) (sp vs H Q E) := ⟨fun h => x_raw h⟩
instance i_v0 {σ : L2.St} : St1 (tVar 0 (some v :: σ) H Q) (Q v H) := ⟨fun h => x_v0 h⟩
instance i_v1 {a0 : Option V} {σ : L2.St} : St1 (tVar 1 (a0 :: some v :: σ) H Q) (Q v H) := ⟨fun h => x_v1 h⟩
instance i_v2 {a0 a1 : Option V} {σ : L2.St} : St1 (tVar 2 (a0 :: a1 :: some v :: σ) H Q) (Q v H) := ⟨fun h => x_v2 h⟩
instance i_v3 {a0 a1 a2 : Option V} {σ : L2.St} : St1 (tVar 3 (a0 :: a1 :: a2 :: some v :: σ) H Q) (Q v H) := ⟨fun h => x_v3 h⟩
instance i_v4 {a0 a1 a2 a3 : Option V} {σ : L2.St} : St1 (tVar 4 (a0 :: a1 :: a2 :: a3 :: some v :: σ) H Q) (Q v H) := ⟨fun h => x_v4 h⟩
instance i_v5 {a0 a1 a2 a3 a4 : Option V} {σ : L2.St} : St1 (tVar 5 (a0 :: a1 :: a2 :: a3 :: a4 :: some v :: σ) H Q) (Q v H) := ⟨fun h => x_v5 h⟩
instance i_v6 {a0 a1 a2 a3 a4 a5 : Option V} {σ : L2.St} : St1 (tVar 6 (a0 :: a1 :: a2 :: a3 :: a4 :: a5 :: some v :: σ) H Q) (Q v H) := ⟨fun h => x_v6 h⟩
instance i_v7 {a0 a1 a2 a3 a4 a5 a6 : Option V} {σ : L2.St} : St1 (tVar 7 (a0 :: a1 :: a2 :: a3 :: a4 :: a5 :: a6 :: some v :: σ) H Q) (Q v H) := ⟨fun h => x_v7 h⟩
instance i_v8 {a0 a1 a2 a3 a4 a5 a6 a7 : Option V} {σ : L2.St} : St1 (tVar 8 (a0 :: a1 :: a2 :: a3 :: a4 :: a5 :: a6 :: a7 :: some v :: σ) H Q) (Q v H) := ⟨fun h => x_v8 h⟩
instance i_v9 {a0 a1 a2 a3 a4 a5 a6 a7 a8 : Option V} {σ : L2.St} : St1 (tVar 9 (a0 :: a1 :: a2 :: a3 :: a4 :: a5 :: a6 :: a7 :: a8 :: some v :: σ) H Q) (Q v H) := ⟨fun h => x_v9 h⟩
instance i_v10 {a0 a1 a2 a3 a4 a5 a6 a7 a8 a9 : Option V} {σ : L2.St} : St1 (tVar 10 (a0 :: a1 :: a2 :: a3 :: a4 :: a5 :: a6 :: a7 :: a8 :: a9 :: some v :: σ) H Q) (Q v H) := ⟨fun h => x_v10 h⟩
instance i_v11 {a0 a1 a2 a3 a4 a5 a6 a7 a8 a9 a10 : Option V} {σ : L2.St} : St1 (tVar 11 (a0 :: a1 :: a2 :: a3 :: a4 :: a5 :: a6 :: a7 :: a8 :: a9 :: a10 :: some v :: σ) H Q) (Q v H) := ⟨fun h => x_v11 h⟩
instance i_v12 {a0 a1 a2 a3 a4 a5 a6 a7 a8 a9 a10 a11 : Option V} {σ : L2.St} : St1 (tVar 12 (a0 :: a1 :: a2 :: a3 :: a4 :: a5 :: a6 :: a7 :: a8 :: a9 :: a10 :: a11 :: some v :: σ) H Q) (Q v H) := ⟨fun h => x_v12 h⟩
instance i_v13 {a0 a1 a2 a3 a4 a5 a6 a7 a8 a9 a10 a11 a12 : Option V} {σ : L2.St} : St1 (tVar 13 (a0 :: a1 :: a2 :: a3 :: a4 :: a5 :: a6 :: a7 :: a8 :: a9 :: a10 :: a11 :: a12 :: some v :: σ) H Q) (Q v H) := ⟨fun h => x_v13 h⟩
instance i_v14 {a0 a1 a2 a3 a4 a5 a6 a7 a8 a9 a10 a11 a12 a13 : Option V} {σ : L2.St} : St1 (tVar 14 (a0 :: a1 :: a2 :: a3 :: a4 :: a5 :: a6 :: a7 :: a8 :: a9 :: a10 :: a11 :: a12 :: a13 :: some v :: σ) H Q) (Q v H) := ⟨fun h => x_v14 h⟩
instance i_v15 {a0 a1 a2 a3 a4 a5 a6 a7 a8 a9 a10 a11 a12 a13 a14 : Option V} {σ : L2.St} : St1 (tVar 15 (a0 :: a1 :: a2 :: a3 :: a4 :: a5 :: a6 :: a7 :: a8 :: a9 :: a10 :: a11 :: a12 :: a13 :: a14 :: some v :: σ) H Q) (Q v H) := ⟨fun h => x_v15 h⟩
instance i_v16 {a0 a1 a2 a3 a4 a5 a6 a7 a8 a9 a10 a11 a12 a13 a14 a15 : Option V} {σ : L2.St} : St1 (tVar 16 (a0 :: a1 :: a2 :: a3 :: a4 :: a5 :: a6 :: a7 :: a8 :: a9 :: a10 :: a11 :: a12 :: a13 :: a14 :: a15 :: some v :: σ) H Q) (Q v H) := ⟨fun h => x_v16 h⟩
instance i_v17 {a0 a1 a2 a3 a4 a5 a6 a7 a8 a9 a10 a11 a12 a13 a14 a15 a16 : Option V} {σ : L2.St} : St1 (tVar 17 (a0 :: a1 :: a2 :: a3 :: a4 :: a5 :: a6 :: a7 :: a8 :: a9 :: a10 :: a11 :: a12 :: a13 :: a14 :: a15 :: a16 :: some v :: σ) H Q) (Q v H) := ⟨fun h => x_v17 h⟩
instance i_v18 {a0 a1 a2 a3 a4 a5 a6 a7 a8 a9 a10 a11 a12 a13 a14 a15 a16 a17 : Option V} {σ : L2.St} : St1 (tVar 18 (a0 :: a1 :: a2 :: a3 :: a4 :: a5 :: a6 :: a7 :: a8 :: a9 :: a10 :: a11 :: a12 :: a13 :: a14 :: a15 :: a16 :: a17 :: some v :: σ) H Q) (Q v H) := ⟨fun h => x_v18 h⟩
instance i_v19 {a0 a1 a2 a3 a4 a5 a6 a7 a8 a9 a10 a11 a12 a13 a14 a15 a16 a17 a18 : Option V} {σ : L2.St} : St1 (tVar 19 (a0 :: a1 :: a2 :: a3 :: a4 :: a5 :: a6 :: a7 :: a8 :: a9 :: a10 :: a11 :: a12 :: a13 :: a14 :: a15 :: a16 :: a17 :: a18 :: some v :: σ) H Q) (Q v H) := ⟨fun h => x_v19 h⟩
instance i_v20 {a0 a1 a2 a3 a4 a5 a6 a7 a8 a9 a10 a11 a12 a13 a14 a15 a16 a17 a18 a19 : Option V} {σ : L2.St} : St1 (tVar 20 (a0 :: a1 :: a2 :: a3 :: a4 :: a5 :: a6 :: a7 :: a8 :: a9 :: a10 :: a11 :: a12 :: a13 :: a14 :: a15 :: a16 :: a17 :: a18 :: a19 :: some v :: σ) H Q) (Q v H) := ⟨fun h => x_v20 h⟩
instance i_v21 {a0 a1 a2 a3 a4 a5 a6 a7 a8 a9 a10 a11 a12 a13 a14 a15 a16 a17 a18 a19 a20 : Option V} {σ : L2.St} : St1 (tVar 21 (a0 :: a1 :: a2 :: a3 :: a4 :: a5 :: a6 :: a7 :: a8 :: a9 :: a10 :: a11 :: a12 :: a13 :: a14 :: a15 :: a16 :: a17 :: a18 :: a19 :: a20 :: some v :: σ) H Q) (Q v H) := ⟨fun h => x_v21 h⟩
instance i_v22 {a0 a1 a2 a3 a4 a5 a6 a7 a8 a9 a10 a11 a12 a13 a14 a15 a16 a17 a18 a19 a20 a21 : Option V} {σ : L2.St} : St1 (tVar 22 (a0 :: a1 :: a2 :: a3 :: a4 :: a5 :: a6 :: a7 :: a8 :: a9 :: a10 :: a11 :: a12 :: a13 :: a14 :: a15 :: a16 :: a17 :: a18 :: a19 :: a20 :: a21 :: some v :: σ) H Q) (Q v H) := ⟨fun h => x_v22 h⟩
instance i_v23 {a0 a1 a2 a3 a4 a5 a6 a7 a8 a9 a10 a11 a12 a13 a14 a15 a16 a17 a18 a19 a20 a21 a22 : Option V} {σ : L2.St} : St1 (tVar 23 (a0 :: a1 :: a2 :: a3 :: a4 :: a5 :: a6 :: a7 :: a8 :: a9 :: a10 :: a11 :: a12 :: a13 :: a14 :: a15 :: a16 :: a17 :: a18 :: a19 :: a20 :: a21 :: a22 :: some v :: σ) H Q) (Q v H) := ⟨fun h => x_v23 h⟩
instance i_g0 {x : Option V} {σ : L2.St} : St1 (gName 0 v (x :: σ) H QS) (QS (some v :: σ) H) := ⟨fun h => x_g0 h⟩
instance i_g1 {a0 : Option V} {x : Option V} {σ : L2.St} : St1 (gName 1 v (a0 :: x :: σ) H QS) (QS (a0 :: some v :: σ) H) := ⟨fun h => x_g1 h⟩
instance i_g2 {a0 a1 : Option V} {x : Option V} {σ : L2.St} : St1 (gName 2 v (a0 :: a1 :: x :: σ) H QS) (QS (a0 :: a1 :: some v :: σ) H) := ⟨fun h => x_g2 h⟩
instance i_g3 {a0 a1 a2 : Option V} {x : Option V} {σ : L2.St} : St1 (gName 3 v (a0 :: a1 :: a2 :: x :: σ) H QS) (QS (a0 :: a1 :: a2 :: some v :: σ) H) := ⟨fun h => x_g3 h⟩
instance i_g4 {a0 a1 a2 a3 : Option V} {x : Option V} {σ : L2.St} : St1 (gName 4 v (a0 :: a1 :: a2 :: a3 :: x :: σ) H QS) (QS (a0 :: a1 :: a2 :: a3 :: some v :: σ) H) := ⟨fun h => x_g4 h⟩
instance i_g5 {a0 a1 a2 a3 a4 : Option V} {x : Option V} {σ : L2.St} : St1 (gName 5 v (a0 :: a1 :: a2 :: a3 :: a4 :: x :: σ) H QS) (QS (a0 :: a1 :: a2 :: a3 :: a4 :: some v :: σ) H) := ⟨fun h => x_g5 h⟩
instance i_g6 {a0 a1 a2 a3 a4 a5 : Option V} {x : Option V} {σ : L2.St} : St1 (gName 6 v (a0 :: a1 :: a2 :: a3 :: a4 :: a5 :: x :: σ) H QS) (QS (a0 :: a1 :: a2 :: a3 :: a4 :: a5 :: some v :: σ) H) := ⟨fun h => x_g6 h⟩
instance i_g7 {a0 a1 a2 a3 a4 a5 a6 : Option V} {x : Option V} {σ : L2.St} : St1 (gName 7 v (a0 :: a1 :: a2 :: a3 :: a4 :: a5 :: a6 :: x :: σ) H QS) (QS (a0 :: a1 :: a2 :: a3 :: a4 :: a5 :: a6 :: some v :: σ) H) := ⟨fun h => x_g7 h⟩
instance i_g8 {a0 a1 a2 a3 a4 a5 a6 a7 : Option V} {x : Option V} {σ : L2.St} : St1 (gName 8 v (a0 :: a1 :: a2 :: a3 :: a4 :: a5 :: a6 :: a7 :: x :: σ) H QS) (QS (a0 :: a1 :: a2 :: a3 :: a4 :: a5 :: a6 :: a7 :: some v :: σ) H) := ⟨fun h => x_g8 h⟩
instance i_g9 {a0 a1 a2 a3 a4 a5 a6 a7 a8 : Option V} {x : Option V} {σ : L2.St} : St1 (gName 9 v (a0 :: a1 :: a2 :: a3 :: a4 :: a5 :: a6 :: a7 :: a8 :: x :: σ) H QS) (QS (a0 :: a1 :: a2 :: a3 :: a4 :: a5 :: a6 :: a7 :: a8 :: some v :: σ) H) := ⟨fun h => x_g9 h⟩
instance i_g10 {a0 a1 a2 a3 a4 a5 a6 a7 a8 a9 : Option V} {x : Option V} {σ : L2.St} : St1 (gName 10 v (a0 :: a1 :: a2 :: a3 :: a4 :: a5 :: a6 :: a7 :: a8 :: a9 :: x :: σ) H QS) (QS (a0 :: a1 :: a2 :: a3 :: a4 :: a5 :: a6 :: a7 :: a8 :: a9 :: some v :: σ) H) := ⟨fun h => x_g10 h⟩
instance i_g11 {a0 a1 a2 a3 a4 a5 a6 a7 a8 a9 a10 : Option V} {x : Option V} {σ : L2.St} : St1 (gName 11 v (a0 :: a1 :: a2 :: a3 :: a4 :: a5 :: a6 :: a7 :: a8 :: a9 :: a10 :: x :: σ) H QS) (QS (a0 :: a1 :: a2 :: a3 :: a4 :: a5 :: a6 :: a7 :: a8 :: a9 :: a10 :: some v :: σ) H) := ⟨fun h => x_g11 h⟩
instance i_g12 {a0 a1 a2 a3 a4 a5 a6 a7 a8 a9 a10 a11 : Option V} {x : Option V} {σ : L2.St} : St1 (gName 12 v (a0 :: a1 :: a2 :: a3 :: a4 :: a5 :: a6 :: a7 :: a8 :: a9 :: a10 :: a11 :: x :: σ) H QS) (QS (a0 :: a1 :: a2 :: a3 :: a4 :: a5 :: a6 :: a7 :: a8 :: a9 :: a10 :: a11 :: some v :: σ) H) := ⟨fun h => x_g12 h⟩
instance i_g13 {a0 a1 a2 a3 a4 a5 a6 a7 a8 a9 a10 a11 a12 : Option V} {x : Option V} {σ : L2.St} : St1 (gName 13 v (a0 :: a1 :: a2 :: a3 :: a4 :: a5 :: a6 :: a7 :: a8 :: a9 :: a10 :: a11 :: a12 :: x :: σ) H QS) (QS (a0 :: a1 :: a2 :: a3 :: a4 :: a5 :: a6 :: a7 :: a8 :: a9 :: a10 :: a11 :: a12 :: some v :: σ) H) := ⟨fun h => x_g13 h⟩
instance i_g14 {a0 a1 a2 a3 a4 a5 a6 a7 a8 a9 a10 a11 a12 a13 : Option V} {x : Option V} {σ : L2.St} : St1 (gName 14 v (a0 :: a1 :: a2 :: a3 :: a4 :: a5 :: a6 :: a7 :: a8 :: a9 :: a10 :: a11 :: a12 :: a13 :: x :: σ) H QS) (QS (a0 :: a1 :: a2 :: a3 :: a4 :: a5 :: a6 :: a7 :: a8 :: a9 :: a10 :: a11 :: a12 :: a13 :: some v :: σ) H) := ⟨fun h => x_g14 h⟩
instance i_g15 {a0 a1 a2 a3 a4 a5 a6 a7 a8 a9 a10 a11 a12 a13 a14 : Option V} {x : Option V} {σ : L2.St} : St1 (gName 15 v (a0 :: a1 :: a2 :: a3 :: a4 :: a5 :: a6 :: a7 :: a8 :: a9 :: a10 :: a11 :: a12 :: a13 :: a14 :: x :: σ) H QS) (QS (a0 :: a1 :: a2 :: a3 :: a4 :: a5 :: a6 :: a7 :: a8 :: a9 :: a10 :: a11 :: a12 :: a13 :: a14 :: some v :: σ) H) := ⟨fun h => x_g15 h⟩
instance i_g16 {a0 a1 a2 a3 a4 a5 a6 a7 a8 a9 a10 a11 a12 a13 a14 a15 : Option V} {x : Option V} {σ : L2.St} : St1 (gName 16 v (a0 :: a1 :: a2 :: a3 :: a4 :: a5 :: a6 :: a7 :: a8 :: a9 :: a10 :: a11 :: a12 :: a13 :: a14 :: a15 :: x :: σ) H QS) (QS (a0 :: a1 :: a2 :: a3 :: a4 :: a5 :: a6 :: a7 :: a8 :: a9 :: a10 :: a11 :: a12 :: a13 :: a14 :: a15 :: some v :: σ) H) := ⟨fun h => x_g16 h⟩
instance i_g17 {a0 a1 a2 a3 a4 a5 a6 a7 a8 a9 a10 a11 a12 a13 a14 a15 a16 : Option V} {x : Option V} {σ : L2.St} : St1 (gName 17 v (a0 :: a1 :: a2 :: a3 :: a4 :: a5 :: a6 :: a7 :: a8 :: a9 :: a10 :: a11 :: a12 :: a13 :: a14 :: a15 :: a16 :: x :: σ) H QS) (QS (a0 :: a1 :: a2 :: a3 :: a4 :: a5 :: a6 :: a7 :: a8 :: a9 :: a10 :: a11 :: a12 :: a13 :: a14 :: a15 :: a16 :: some v :: σ) H) := ⟨fun h => x_g17 h⟩
instance i_g18 {a0 a1 a2 a3 a4 a5 a6 a7 a8 a9 a10 a11 a12 a13 a14 a15 a16 a17 : Option V} {x : Option V} {σ : L2.St} : St1 (gName 18 v (a0 :: a1 :: a2 :: a3 :: a4 :: a5 :: a6 :: a7 :: a8 :: a9 :: a10 :: a11 :: a12 :: a13 :: a14 :: a15 :: a16 :: a17 :: x :: σ) H QS) (QS (a0 :: a1 :: a2 :: a3 :: a4 :: a5 :: a6 :: a7 :: a8 :: a9 :: a10 :: a11 :: a12 :: a13 :: a14 :: a15 :: a16 :: a17 :: some v :: σ) H) := ⟨fun h => x_g18 h⟩
instance i_g19 {a0 a1 a2 a3 a4 a5 a6 a7 a8 a9 a10 a11 a12 a13 a14 a15 a16 a17 a18 : Option V} {x : Option V} {σ : L2.St} : St1 (gName 19 v (a0 :: a1 :: a2 :: a3 :: a4 :: a5 :: a6 :: a7 :: a8 :: a9 :: a10 :: a11 :: a12 :: a13 :: a14 :: a15 :: a16 :: a17 :: a18 :: x :: σ) H QS) (QS (a0 :: a1 :: a2 :: a3 :: a4 :: a5 :: a6 :: a7 :: a8 :: a9 :: a10 :: a11 :: a12 :: a13 :: a14 :: a15 :: a16 :: a17 :: a18 :: some v :: σ) H) := ⟨fun h => x_g19 h⟩
instance i_g20 {a0 a1 a2 a3 a4 a5 a6 a7 a8 a9 a10 a11 a12 a13 a14 a15 a16 a17 a18 a19 : Option V} {x : Option V} {σ : L2.St} : St1 (gName 20 v (a0 :: a1 :: a2 :: a3 :: a4 :: a5 :: a6 :: a7 :: a8 :: a9 :: a10 :: a11 :: a12 :: a13 :: a14 :: a15 :: a16 :: a17 :: a18 :: a19 :: x :: σ) H QS) (QS (a0 :: a1 :: a2 :: a3 :: a4 :: a5 :: a6 :: a7 :: a8 :: a9 :: a10 :: a11 :: a12 :: a13 :: a14 :: a15 :: a16 :: a17 :: a18 :: a19 :: some v :: σ) H) := ⟨fun h => x_g20 h⟩
instance i_g21 {a0 a1 a2 a3 a4 a5 a6 a7 a8 a9 a10 a11 a12 a13 a14 a15 a16 a17 a18 a19 a20 : Option V} {x : Option V} {σ : L2.St} : St1 (gName 21 v (a0 :: a1 :: a2 :: a3 :: a4 :: a5 :: a6 :: a7 :: a8 :: a9 :: a10 :: a11 :: a12 :: a13 :: a14 :: a15 :: a16 :: a17 :: a18 :: a19 :: a20 :: x :: σ) H QS) (QS (a0 :: a1 :: a2 :: a3 :: a4 :: a5 :: a6 :: a7 :: a8 :: a9 :: a10 :: a11 :: a12 :: a13 :: a14 :: a15 :: a16 :: a17 :: a18 :: a19 :: a20 :: some v :: σ) H) := ⟨fun h => x_g21 h⟩
instance i_g22 {a0 a1 a2 a3 a4 a5 a6 a7 a8 a9 a10 a11 a12 a13 a14 a15 a16 a17 a18 a19 a20 a21 : Option V} {x : Option V} {σ : L2.St} : St1 (gName 22 v (a0 :: a1 :: a2 :: a3 :: a4 :: a5 :: a6 :: a7 :: a8 :: a9 :: a10 :: a11 :: a12 :: a13 :: a14 :: a15 :: a16 :: a17 :: a18 :: a19 :: a20 :: a21 :: x :: σ) H QS) (QS (a0 :: a1 :: a2 :: a3 :: a4 :: a5 :: a6 :: a7 :: a8 :: a9 :: a10 :: a11 :: a12 :: a13 :: a14 :: a15 :: a16 :: a17 :: a18 :: a19 :: a20 :: a21 :: some v :: σ) H) := ⟨fun h => x_g22 h⟩
instance i_g23 {a0 a1 a2 a3 a4 a5 a6 a7 a8 a9 a10 a11 a12 a13 a14 a15 a16 a17 a18 a19 a20 a21 a22 : Option V} {x : Option V} {σ : L2.St} : St1 (gName 23 v (a0 :: a1 :: a2 :: a3 :: a4 :: a5 :: a6 :: a7 :: a8 :: a9 :: a10 :: a11 :: a12 :: a13 :: a14 :: a15 :: a16 :: a17 :: a18 :: a19 :: a20 :: a21 :: a22 :: x :: σ) H QS) (QS (a0 :: a1 :: a2 :: a3 :: a4 :: a5 :: a6 :: a7 :: a8 :: a9 :: a10 :: a11 :: a12 :: a13 :: a14 :: a15 :: a16 :: a17 :: a18 :: a19 :: a20 :: a21 :: a22 :: some v :: σ) H) := ⟨fun h => x_g23 h⟩
instance i_d0 {x : Option V} {σ : L2.St} {k : K0} : St1 (gDel 0 (x :: σ) H k) (k (none :: σ) H) := ⟨fun h => x_d0 h⟩
instance i_d1 {a0 : Option V} {x : Option V} {σ : L2.St} {k : K0} : St1 (gDel 1 (a0 :: x :: σ) H k) (k (a0 :: none :: σ) H) := ⟨fun h => x_d1 h⟩
instance i_d2 {a0 a1 : Option V} {x : Option V} {σ : L2.St} {k : K0} : St1 (gDel 2 (a0 :: a1 :: x :: σ) H k) (k (a0 :: a1 :: none :: σ) H) := ⟨fun h => x_d2 h⟩
instance i_d3 {a0 a1 a2 : Option V} {x : Option V} {σ : L2.St} {k : K0} : St1 (gDel 3 (a0 :: a1 :: a2 :: x :: σ) H k) (k (a0 :: a1 :: a2 :: none :: σ) H) := ⟨fun h => x_d3 h⟩
instance i_d4 {a0 a1 a2 a3 : Option V} {x : Option V} {σ : L2.St} {k : K0} : St1 (gDel 4 (a0 :: a1 :: a2 :: a3 :: x :: σ) H k) (k (a0 :: a1 :: a2 :: a3 :: none :: σ) H) := ⟨fun h => x_d4 h⟩
instance i_d5 {a0 a1 a2 a3 a4 : Option V} {x : Option V} {σ : L2.St} {k : K0} : St1 (gDel 5 (a0 :: a1 :: a2 :: a3 :: a4 :: x :: σ) H k) (k (a0 :: a1 :: a2 :: a3 :: a4 :: none :: σ) H) := ⟨fun h => x_d5 h⟩
instance i_d6 {a0 a1 a2 a3 a4 a5 : Option V} {x : Option V} {σ : L2.St} {k : K0} : St1 (gDel 6 (a0 :: a1 :: a2 :: a3 :: a4 :: a5 :: x :: σ) H k) (k (a0 :: a1 :: a2 :: a3 :: a4 :: a5 :: none :: σ) H) := ⟨fun h => x_d6 h⟩
instance i_d7 {a0 a1 a2 a3 a4 a5 a6 : Option V} {x : Option V} {σ : L2.St} {k : K0} : St1 (gDel 7 (a0 :: a1 :: a2 :: a3 :: a4 :: a5 :: a6 :: x :: σ) H k) (k (a0 :: a1 :: a2 :: a3 :: a4 :: a5 :: a6 :: none :: σ) H) := ⟨fun h => x_d7 h⟩
instance i_d8 {a0 a1 a2 a3 a4 a5 a6 a7 : Option V} {x : Option V} {σ : L2.St} {k : K0} : St1 (gDel 8 (a0 :: a1 :: a2 :: a3 :: a4 :: a5 :: a6 :: a7 :: x :: σ) H k) (k (a0 :: a1 :: a2 :: a3 :: a4 :: a5 :: a6 :: a7 :: none :: σ) H) := ⟨fun h => x_d8 h⟩
instance i_d9 {a0 a1 a2 a3 a4 a5 a6 a7 a8 : Option V} {x : Option V} {σ : L2.St} {k : K0} : St1 (gDel 9 (a0 :: a1 :: a2 :: a3 :: a4 :: a5 :: a6 :: a7 :: a8 :: x :: σ) H k) (k (a0 :: a1 :: a2 :: a3 :: a4 :: a5 :: a6 :: a7 :: a8 :: none :: σ) H) := ⟨fun h => x_d9 h⟩
instance i_d10 {a0 a1 a2 a3 a4 a5 a6 a7 a8 a9 : Option V} {x : Option V} {σ : L2.St} {k : K0} : St1 (gDel 10 (a0 :: a1 :: a2 :: a3 :: a4 :: a5 :: a6 :: a7 :: a8 :: a9 :: x :: σ) H k) (k (a0 :: a1 :: a2 :: a3 :: a4 :: a5 :: a6 :: a7 :: a8 :: a9 :: none :: σ) H) := ⟨fun h => x_d10 h⟩
instance i_d11 {a0 a1 a2 a3 a4 a5 a6 a7 a8 a9 a10 : Option V} {x : Option V} {σ : L2.St} {k : K0} : St1 (gDel 11 (a0 :: a1 :: a2 :: a3 :: a4 :: a5 :: a6 :: a7 :: a8 :: a9 :: a10 :: x :: σ) H k) (k (a0 :: a1 :: a2 :: a3 :: a4 :: a5 :: a6 :: a7 :: a8 :: a9 :: a10 :: none :: σ) H) := ⟨fun h => x_d11 h⟩
instance i_d12 {a0 a1 a2 a3 a4 a5 a6 a7 a8 a9 a10 a11 : Option V} {x : Option V} {σ : L2.St} {k : K0} : St1 (gDel 12 (a0 :: a1 :: a2 :: a3 :: a4 :: a5 :: a6 :: a7 :: a8 :: a9 :: a10 :: a11 :: x :: σ) H k) (k (a0 :: a1 :: a2 :: a3 :: a4 :: a5 :: a6 :: a7 :: a8 :: a9 :: a10 :: a11 :: none :: σ) H) := ⟨fun h => x_d12 h⟩
instance i_d13 {a0 a1 a2 a3 a4 a5 a6 a7 a8 a9 a10 a11 a12 : Option V} {x : Option V} {σ : L2.St} {k : K0} : St1 (gDel 13 (a0 :: a1 :: a2 :: a3 :: a4 :: a5 :: a6 :: a7 :: a8 :: a9 :: a10 :: a11 :: a12 :: x :: σ) H k) (k (a0 :: a1 :: a2 :: a3 :: a4 :: a5 :: a6 :: a7 :: a8 :: a9 :: a10 :: a11 :: a12 :: none :: σ) H) := ⟨fun h => x_d13 h⟩
instance i_d14 {a0 a1 a2 a3 a4 a5 a6 a7 a8 a9 a10 a11 a12 a13 : Option V} {x : Option V} {σ : L2.St} {k : K0} : St1 (gDel 14 (a0 :: a1 :: a2 :: a3 :: a4 :: a5 :: a6 :: a7 :: a8 :: a9 :: a10 :: a11 :: a12 :: a13 :: x :: σ) H k) (k (a0 :: a1 :: a2 :: a3 :: a4 :: a5 :: a6 :: a7 :: a8 :: a9 :: a10 :: a11 :: a12 :: a13 :: none :: σ) H) := ⟨fun h => x_d14 h⟩
instance i_d15 {a0 a1 a2 a3 a4 a5 a6 a7 a8 a9 a10 a11 a12 a13 a14 : Option V} {x : Option V} {σ : L2.St} {k : K0} : St1 (gDel 15 (a0 :: a1 :: a2 :: a3 :: a4 :: a5 :: a6 :: a7 :: a8 :: a9 :: a10 :: a11 :: a12 :: a13 :: a14 :: x :: σ) H k) (k (a0 :: a1 :: a2 :: a3 :: a4 :: a5 :: a6 :: a7 :: a8 :: a9 :: a10 :: a11 :: a12 :: a13 :: a14 :: none :: σ) H) := ⟨fun h => x_d15 h⟩
instance i_d16 {a0 a1 a2 a3 a4 a5 a6 a7 a8 a9 a10 a11 a12 a13 a14 a15 : Option V} {x : Option V} {σ : L2.St} {k : K0} : St1 (gDel 16 (a0 :: a1 :: a2 :: a3 :: a4 :: a5 :: a6 :: a7 :: a8 :: a9 :: a10 :: a11 :: a12 :: a13 :: a14 :: a15 :: x :: σ) H k) (k (a0 :: a1 :: a2 :: a3 :: a4 :: a5 :: a6 :: a7 :: a8 :: a9 :: a10 :: a11 :: a12 :: a13 :: a14 :: a15 :: none :: σ) H) := ⟨fun h => x_d16 h⟩
instance i_d17 {a0 a1 a2 a3 a4 a5 a6 a7 a8 a9 a10 a11 a12 a13 a14 a15 a16 : Option V} {x : Option V} {σ : L2.St} {k : K0} : St1 (gDel 17 (a0 :: a1 :: a2 :: a3 :: a4 :: a5 :: a6 :: a7 :: a8 :: a9 :: a10 :: a11 :: a12 :: a13 :: a14 :: a15 :: a16 :: x :: σ) H k) (k (a0 :: a1 :: a2 :: a3 :: a4 :: a5 :: a6 :: a7 :: a8 :: a9 :: a10 :: a11 :: a12 :: a13 :: a14 :: a15 :: a16 :: none :: σ) H) := ⟨fun h => x_d17 h⟩
instance i_d18 {a0 a1 a2 a3 a4 a5 a6 a7 a8 a9 a10 a11 a12 a13 a14 a15 a16 a17 : Option V} {x : Option V} {σ : L2.St} {k : K0} : St1 (gDel 18 (a0 :: a1 :: a2 :: a3 :: a4 :: a5 :: a6 :: a7 :: a8 :: a9 :: a10 :: a11 :: a12 :: a13 :: a14 :: a15 :: a16 :: a17 :: x :: σ) H k) (k (a0 :: a1 :: a2 :: a3 :: a4 :: a5 :: a6 :: a7 :: a8 :: a9 :: a10 :: a11 :: a12 :: a13 :: a14 :: a15 :: a16 :: a17 :: none :: σ) H) := ⟨fun h => x_d18 h⟩
instance i_d19 {a0 a1 a2 a3 a4 a5 a6 a7 a8 a9 a10 a11 a12 a13 a14 a15 a16 a17 a18 : Option V} {x : Option V} {σ : L2.St} {k : K0} : St1 (gDel 19 (a0 :: a1 :: a2 :: a3 :: a4 :: a5 :: a6 :: a7 :: a8 :: a9 :: a10 :: a11 :: a12 :: a13 :: a14 :: a15 :: a16 :: a17 :: a18 :: x :: σ) H k) (k (a0 :: a1 :: a2 :: a3 :: a4 :: a5 :: a6 :: a7 :: a8 :: a9 :: a10 :: a11 :: a12 :: a13 :: a14 :: a15 :: a16 :: a17 :: a18 :: none :: σ) H) := ⟨fun h => x_d19 h⟩
instance i_d20 {a0 a1 a2 a3 a4 a5 a6 a7 a8 a9 a10 a11 a12 a13 a14 a15 a16 a17 a18 a19 : Option V} {x : Option V} {σ : L2.St} {k : K0} : St1 (gDel 20 (a0 :: a1 :: a2 :: a3 :: a4 :: a5 :: a6 :: a7 :: a8 :: a9 :: a10 :: a11 :: a12 :: a13 :: a14 :: a15 :: a16 :: a17 :: a18 :: a19 :: x :: σ) H k) (k (a0 :: a1 :: a2 :: a3 :: a4 :: a5 :: a6 :: a7 :: a8 :: a9 :: a10 :: a11 :: a12 :: a13 :: a14 :: a15 :: a16 :: a17 :: a18 :: a19 :: none :: σ) H) := ⟨fun h => x_d20 h⟩
instance i_d21 {a0 a1 a2 a3 a4 a5 a6 a7 a8 a9 a10 a11 a12 a13 a14 a15 a16 a17 a18 a19 a20 : Option V} {x : Option V} {σ : L2.St} {k : K0} : St1 (gDel 21 (a0 :: a1 :: a2 :: a3 :: a4 :: a5 :: a6 :: a7 :: a8 :: a9 :: a10 :: a11 :: a12 :: a13 :: a14 :: a15 :: a16 :: a17 :: a18 :: a19 :: a20 :: x :: σ) H k) (k (a0 :: a1 :: a2 :: a3 :: a4 :: a5 :: a6 :: a7 :: a8 :: a9 :: a10 :: a11 :: a12 :: a13 :: a14 :: a15 :: a16 :: a17 :: a18 :: a19 :: a20 :: none :: σ) H) := ⟨fun h => x_d21 h⟩
instance i_d22 {a0 a1 a2 a3 a4 a5 a6 a7 a8 a9 a10 a11 a12 a13 a14 a15 a16 a17 a18 a19 a20 a21 : Option V} {x : Option V} {σ : L2.St} {k : K0} : St1 (gDel 22 (a0 :: a1 :: a2 :: a3 :: a4 :: a5 :: a6 :: a7 :: a8 :: a9 :: a10 :: a11 :: a12 :: a13 :: a14 :: a15 :: a16 :: a17 :: a18 :: a19 :: a20 :: a21 :: x :: σ) H k) (k (a0 :: a1 :: a2 :: a3 :: a4 :: a5 :: a6 :: a7 :: a8 :: a9 :: a10 :: a11 :: a12 :: a13 :: a14 :: a15 :: a16 :: a17 :: a18 :: a19 :: a20 :: a21 :: none :: σ) H) := ⟨fun h => x_d22 h⟩
instance i_d23 {a0 a1 a2 a3 a4 a5 a6 a7 a8 a9 a10 a11 a12 a13 a14 a15 a16 a17 a18 a19 a20 a21 a22 : Option V} {x : Option V} {σ : L2.St} {k : K0} : St1 (gDel 23 (a0 :: a1 :: a2 :: a3 :: a4 :: a5 :: a6 :: a7 :: a8 :: a9 :: a10 :: a11 :: a12 :: a13 :: a14 :: a15 :: a16 :: a17 :: a18 :: a19 :: a20 :: a21 :: a22 :: x :: σ) H k) (k (a0 :: a1 :: a2 :: a3 :: a4 :: a5 :: a6 :: a7 :: a8 :: a9 :: a10 :: a11 :: a12 :: a13 :: a14 :: a15 :: a16 :: a17 :: a18 :: a19 :: a20 :: a21 :: a22 :: none :: σ) H) := ⟨fun h => x_d23 h⟩
instance i_au0 {te : TE} {ti : TIp} {σ : L2.St} : St1 (tAug 0 te ti ⟨nx, rt, bk, ct⟩ (some x :: σ) H) (te (some x :: σ) H fun y H1 => ti x y H1 fun z H2 => nx (some z :: σ) H2) := ⟨fun h => x_au0 h⟩
instance i_au1 {te : TE} {ti : TIp} {a0 : Option V} {σ : L2.St} : St1 (tAug 1 te ti ⟨nx, rt, bk, ct⟩ (a0 :: some x :: σ) H) (te (a0 :: some x :: σ) H fun y H1 => ti x y H1 fun z H2 => nx (a0 :: some z :: σ) H2) := ⟨fun h => x_au1 h⟩
instance i_au2 {te : TE} {ti : TIp} {a0 a1 : Option V} {σ : L2.St} : St1 (tAug 2 te ti ⟨nx, rt, bk, ct⟩ (a0 :: a1 :: some x :: σ) H) (te (a0 :: a1 :: some x :: σ) H fun y H1 => ti x y H1 fun z H2 => nx (a0 :: a1 :: some z :: σ) H2) := ⟨fun h => x_au2 h⟩
instance i_au3 {te : TE} {ti : TIp} {a0 a1 a2 : Option V} {σ : L2.St} : St1 (tAug 3 te ti ⟨nx, rt, bk, ct⟩ (a0 :: a1 :: a2 :: some x :: σ) H) (te (a0 :: a1 :: a2 :: some x :: σ) H fun y H1 => ti x y H1 fun z H2 => nx (a0 :: a1 :: a2 :: some z :: σ) H2) := ⟨fun h => x_au3 h⟩
instance i_au4 {te : TE} {ti : TIp} {a0 a1 a2 a3 : Option V} {σ : L2.St} : St1 (tAug 4 te ti ⟨nx, rt, bk, ct⟩ (a0 :: a1 :: a2 :: a3 :: some x :: σ) H) (te (a0 :: a1 :: a2 :: a3 :: some x :: σ) H fun y H1 => ti x y H1 fun z H2 => nx (a0 :: a1 :: a2 :: a3 :: some z :: σ) H2) := ⟨fun h => x_au4 h⟩
instance i_au5 {te : TE} {ti : TIp} {a0 a1 a2 a3 a4 : Option V} {σ : L2.St} : St1 (tAug 5 te ti ⟨nx, rt, bk, ct⟩ (a0 :: a1 :: a2 :: a3 :: a4 :: some x :: σ) H) (te (a0 :: a1 :: a2 :: a3 :: a4 :: some x :: σ) H fun y H1 => ti x y H1 fun z H2 => nx (a0 :: a1 :: a2 :: a3 :: a4 :: some z :: σ) H2) := ⟨fun h => x_au5 h⟩
instance i_au6 {te : TE} {ti : TIp} {a0 a1 a2 a3 a4 a5 : Option V} {σ : L2.St} : St1 (tAug 6 te ti ⟨nx, rt, bk, ct⟩ (a0 :: a1 :: a2 :: a3 :: a4 :: a5 :: some x :: σ) H) (te (a0 :: a1 :: a2 :: a3 :: a4 :: a5 :: some x :: σ) H fun y H1 => ti x y H1 fun z H2 => nx (a0 :: a1 :: a2 :: a3 :: a4 :: a5 :: some z :: σ) H2) := ⟨fun h => x_au6 h⟩
instance i_au7 {te : TE} {ti : TIp} {a0 a1 a2 a3 a4 a5 a6 : Option V} {σ : L2.St} : St1 (tAug 7 te ti ⟨nx, rt, bk, ct⟩ (a0 :: a1 :: a2 :: a3 :: a4 :: a5 :: a6 :: some x :: σ) H) (te (a0 :: a1 :: a2 :: a3 :: a4 :: a5 :: a6 :: some x :: σ) H fun y H1 => ti x y H1 fun z H2 => nx (a0 :: a1 :: a2 :: a3 :: a4 :: a5 :: a6 :: some z :: σ) H2) := ⟨fun h => x_au7 h⟩
instance i_au8 {te : TE} {ti : TIp} {a0 a1 a2 a3 a4 a5 a6 a7 : Option V} {σ : L2.St} : St1 (tAug 8 te ti ⟨nx, rt, bk, ct⟩ (a0 :: a1 :: a2 :: a3 :: a4 :: a5 :: a6 :: a7 :: some x :: σ) H) (te (a0 :: a1 :: a2 :: a3 :: a4 :: a5 :: a6 :: a7 :: some x :: σ) H fun y H1 => ti x y H1 fun z H2 => nx (a0 :: a1 :: a2 :: a3 :: a4 :: a5 :: a6 :: a7 :: some z :: σ) H2) := ⟨fun h => x_au8 h⟩
instance i_au9 {te : TE} {ti : TIp} {a0 a1 a2 a3 a4 a5 a6 a7 a8 : Option V} {σ : L2.St} : St1 (tAug 9 te ti ⟨nx, rt, bk, ct⟩ (a0 :: a1 :: a2 :: a3 :: a4 :: a5 :: a6 :: a7 :: a8 :: some x :: σ) H) (te (a0 :: a1 :: a2 :: a3 :: a4 :: a5 :: a6 :: a7 :: a8 :: some x :: σ) H fun y H1 => ti x y H1 fun z H2 => nx (a0 :: a1 :: a2 :: a3 :: a4 :: a5 :: a6 :: a7 :: a8 :: some z :: σ) H2) := ⟨fun h => x_au9 h⟩
instance i_au10 {te : TE} {ti : TIp} {a0 a1 a2 a3 a4 a5 a6 a7 a8 a9 : Option V} {σ : L2.St} : St1 (tAug 10 te ti ⟨nx, rt, bk, ct⟩ (a0 :: a1 :: a2 :: a3 :: a4 :: a5 :: a6 :: a7 :: a8 :: a9 :: some x :: σ) H) (te (a0 :: a1 :: a2 :: a3 :: a4 :: a5 :: a6 :: a7 :: a8 :: a9 :: some x :: σ) H fun y H1 => ti x y H1 fun z H2 => nx (a0 :: a1 :: a2 :: a3 :: a4 :: a5 :: a6 :: a7 :: a8 :: a9 :: some z :: σ) H2) := ⟨fun h => x_au10 h⟩
instance i_au11 {te : TE} {ti : TIp} {a0 a1 a2 a3 a4 a5 a6 a7 a8 a9 a10 : Option V} {σ : L2.St} : St1 (tAug 11 te ti ⟨nx, rt, bk, ct⟩ (a0 :: a1 :: a2 :: a3 :: a4 :: a5 :: a6 :: a7 :: a8 :: a9 :: a10 :: some x :: σ) H) (te (a0 :: a1 :: a2 :: a3 :: a4 :: a5 :: a6 :: a7 :: a8 :: a9 :: a10 :: some x :: σ) H fun y H1 => ti x y H1 fun z H2 => nx (a0 :: a1 :: a2 :: a3 :: a4 :: a5 :: a6 :: a7 :: a8 :: a9 :: a10 :: some z :: σ) H2) := ⟨fun h => x_au11 h⟩
instance i_au12 {te : TE} {ti : TIp} {a0 a1 a2 a3 a4 a5 a6 a7 a8 a9 a10 a11 : Option V} {σ : L2.St} : St1 (tAug 12 te ti ⟨nx, rt, bk, ct⟩ (a0 :: a1 :: a2 :: a3 :: a4 :: a5 :: a6 :: a7 :: a8 :: a9 :: a10 :: a11 :: some x :: σ) H) (te (a0 :: a1 :: a2 :: a3 :: a4 :: a5 :: a6 :: a7 :: a8 :: a9 :: a10 :: a11 :: some x :: σ) H fun y H1 => ti x y H1 fun z H2 => nx (a0 :: a1 :: a2 :: a3 :: a4 :: a5 :: a6 :: a7 :: a8 :: a9 :: a10 :: a11 :: some z :: σ) H2) := ⟨fun h => x_au12 h⟩
instance i_au13 {te : TE} {ti : TIp} {a0 a1 a2 a3 a4 a5 a6 a7 a8 a9 a10 a11 a12 : Option V} {σ : L2.St} : St1 (tAug 13 te ti ⟨nx, rt, bk, ct⟩ (a0 :: a1 :: a2 :: a3 :: a4 :: a5 :: a6 :: a7 :: a8 :: a9 :: a10 :: a11 :: a12 :: some x :: σ) H) (te (a0 :: a1 :: a2 :: a3 :: a4 :: a5 :: a6 :: a7 :: a8 :: a9 :: a10 :: a11 :: a12 :: some x :: σ) H fun y H1 => ti x y H1 fun z H2 => nx (a0 :: a1 :: a2 :: a3 :: a4 :: a5 :: a6 :: a7 :: a8 :: a9 :: a10 :: a11 :: a12 :: some z :: σ) H2) := ⟨fun h => x_au13 h⟩
instance i_au14 {te : TE} {ti : TIp} {a0 a1 a2 a3 a4 a5 a6 a7 a8 a9 a10 a11 a12 a13 : Option V} {σ : L2.St} : St1 (tAug 14 te ti ⟨nx, rt, bk, ct⟩ (a0 :: a1 :: a2 :: a3 :: a4 :: a5 :: a6 :: a7 :: a8 :: a9 :: a10 :: a11 :: a12 :: a13 :: some x :: σ) H) (te (a0 :: a1 :: a2 :: a3 :: a4 :: a5 :: a6 :: a7 :: a8 :: a9 :: a10 :: a11 :: a12 :: a13 :: some x :: σ) H fun y H1 => ti x y H1 fun z H2 => nx (a0 :: a1 :: a2 :: a3 :: a4 :: a5 :: a6 :: a7 :: a8 :: a9 :: a10 :: a11 :: a12 :: a13 :: some z :: σ) H2) := ⟨fun h => x_au14 h⟩
instance i_au15 {te : TE} {ti : TIp} {a0 a1 a2 a3 a4 a5 a6 a7 a8 a9 a10 a11 a12 a13 a14 : Option V} {σ : L2.St} : St1 (tAug 15 te ti ⟨nx, rt, bk, ct⟩ (a0 :: a1 :: a2 :: a3 :: a4 :: a5 :: a6 :: a7 :: a8 :: a9 :: a10 :: a11 :: a12 :: a13 :: a14 :: some x :: σ) H) (te (a0 :: a1 :: a2 :: a3 :: a4 :: a5 :: a6 :: a7 :: a8 :: a9 :: a10 :: a11 :: a12 :: a13 :: a14 :: some x :: σ) H fun y H1 => ti x y H1 fun z H2 => nx (a0 :: a1 :: a2 :: a3 :: a4 :: a5 :: a6 :: a7 :: a8 :: a9 :: a10 :: a11 :: a12 :: a13 :: a14 :: some z :: σ) H2) := ⟨fun h => x_au15 h⟩
instance i_au16 {te : TE} {ti : TIp} {a0 a1 a2 a3 a4 a5 a6 a7 a8 a9 a10 a11 a12 a13 a14 a15 : Option V} {σ : L2.St} : St1 (tAug 16 te ti ⟨nx, rt, bk, ct⟩ (a0 :: a1 :: a2 :: a3 :: a4 :: a5 :: a6 :: a7 :: a8 :: a9 :: a10 :: a11 :: a12 :: a13 :: a14 :: a15 :: some x :: σ) H) (te (a0 :: a1 :: a2 :: a3 :: a4 :: a5 :: a6 :: a7 :: a8 :: a9 :: a10 :: a11 :: a12 :: a13 :: a14 :: a15 :: some x :: σ) H fun y H1 => ti x y H1 fun z H2 => nx (a0 :: a1 :: a2 :: a3 :: a4 :: a5 :: a6 :: a7 :: a8 :: a9 :: a10 :: a11 :: a12 :: a13 :: a14 :: a15 :: some z :: σ) H2) := ⟨fun h => x_au16 h⟩
instance i_au17 {te : TE} {ti : TIp} {a0 a1 a2 a3 a4 a5 a6 a7 a8 a9 a10 a11 a12 a13 a14 a15 a16 : Option V} {σ : L2.St} : St1 (tAug 17 te ti ⟨nx, rt, bk, ct⟩ (a0 :: a1 :: a2 :: a3 :: a4 :: a5 :: a6 :: a7 :: a8 :: a9 :: a10 :: a11 :: a12 :: a13 :: a14 :: a15 :: a16 :: some x :: σ) H) (te (a0 :: a1 :: a2 :: a3 :: a4 :: a5 :: a6 :: a7 :: a8 :: a9 :: a10 :: a11 :: a12 :: a13 :: a14 :: a15 :: a16 :: some x :: σ) H fun y H1 => ti x y H1 fun z H2 => nx (a0 :: a1 :: a2 :: a3 :: a4 :: a5 :: a6 :: a7 :: a8 :: a9 :: a10 :: a11 :: a12 :: a13 :: a14 :: a15 :: a16 :: some z :: σ) H2) := ⟨fun h => x_au17 h⟩
instance i_au18 {te : TE} {ti : TIp} {a0 a1 a2 a3 a4 a5 a6 a7 a8 a9 a10 a11 a12 a13 a14 a15 a16 a17 : Option V} {σ : L2.St} : St1 (tAug 18 te ti ⟨nx, rt, bk, ct⟩ (a0 :: a1 :: a2 :: a3 :: a4 :: a5 :: a6 :: a7 :: a8 :: a9 :: a10 :: a11 :: a12 :: a13 :: a14 :: a15 :: a16 :: a17 :: some x :: σ) H) (te (a0 :: a1 :: a2 :: a3 :: a4 :: a5 :: a6 :: a7 :: a8 :: a9 :: a10 :: a11 :: a12 :: a13 :: a14 :: a15 :: a16 :: a17 :: some x :: σ) H fun y H1 => ti x y H1 fun z H2 => nx (a0 :: a1 :: a2 :: a3 :: a4 :: a5 :: a6 :: a7 :: a8 :: a9 :: a10 :: a11 :: a12 :: a13 :: a14 :: a15 :: a16 :: a17 :: some z :: σ) H2) := ⟨fun h => x_au18 h⟩
instance i_au19 {te : TE} {ti : TIp} {a0 a1 a2 a3 a4 a5 a6 a7 a8 a9 a10 a11 a12 a13 a14 a15 a16 a17 a18 : Option V} {σ : L2.St} : St1 (tAug 19 te ti ⟨nx, rt, bk, ct⟩ (a0 :: a1 :: a2 :: a3 :: a4 :: a5 :: a6 :: a7 :: a8 :: a9 :: a10 :: a11 :: a12 :: a13 :: a14 :: a15 :: a16 :: a17 :: a18 :: some x :: σ) H) (te (a0 :: a1 :: a2 :: a3 :: a4 :: a5 :: a6 :: a7 :: a8 :: a9 :: a10 :: a11 :: a12 :: a13 :: a14 :: a15 :: a16 :: a17 :: a18 :: some x :: σ) H fun y H1 => ti x y H1 fun z H2 => nx (a0 :: a1 :: a2 :: a3 :: a4 :: a5 :: a6 :: a7 :: a8 :: a9 :: a10 :: a11 :: a12 :: a13 :: a14 :: a15 :: a16 :: a17 :: a18 :: some z :: σ) H2) := ⟨fun h => x_au19 h⟩
instance i_au20 {te : TE} {ti : TIp} {a0 a1 a2 a3 a4 a5 a6 a7 a8 a9 a10 a11 a12 a13 a14 a15 a16 a17 a18 a19 : Option V} {σ : L2.St} : St1 (tAug 20 te ti ⟨nx, rt, bk, ct⟩ (a0 :: a1 :: a2 :: a3 :: a4 :: a5 :: a6 :: a7 :: a8 :: a9 :: a10 :: a11 :: a12 :: a13 :: a14 :: a15 :: a16 :: a17 :: a18 :: a19 :: some x :: σ) H) (te (a0 :: a1 :: a2 :: a3 :: a4 :: a5 :: a6 :: a7 :: a8 :: a9 :: a10 :: a11 :: a12 :: a13 :: a14 :: a15 :: a16 :: a17 :: a18 :: a19 :: some x :: σ) H fun y H1 => ti x y H1 fun z H2 => nx (a0 :: a1 :: a2 :: a3 :: a4 :: a5 :: a6 :: a7 :: a8 :: a9 :: a10 :: a11 :: a12 :: a13 :: a14 :: a15 :: a16 :: a17 :: a18 :: a19 :: some z :: σ) H2) := ⟨fun h => x_au20 h⟩
instance i_au21 {te : TE} {ti : TIp} {a0 a1 a2 a3 a4 a5 a6 a7 a8 a9 a10 a11 a12 a13 a14 a15 a16 a17 a18 a19 a20 : Option V} {σ : L2.St} : St1 (tAug 21 te ti ⟨nx, rt, bk, ct⟩ (a0 :: a1 :: a2 :: a3 :: a4 :: a5 :: a6 :: a7 :: a8 :: a9 :: a10 :: a11 :: a12 :: a13 :: a14 :: a15 :: a16 :: a17 :: a18 :: a19 :: a20 :: some x :: σ) H) (te (a0 :: a1 :: a2 :: a3 :: a4 :: a5 :: a6 :: a7 :: a8 :: a9 :: a10 :: a11 :: a12 :: a13 :: a14 :: a15 :: a16 :: a17 :: a18 :: a19 :: a20 :: some x :: σ) H fun y H1 => ti x y H1 fun z H2 => nx (a0 :: a1 :: a2 :: a3 :: a4 :: a5 :: a6 :: a7 :: a8 :: a9 :: a10 :: a11 :: a12 :: a13 :: a14 :: a15 :: a16 :: a17 :: a18 :: a19 :: a20 :: some z :: σ) H2) := ⟨fun h => x_au21 h⟩
instance i_au22 {te : TE} {ti : TIp} {a0 a1 a2 a3 a4 a5 a6 a7 a8 a9 a10 a11 a12 a13 a14 a15 a16 a17 a18 a19 a20 a21 : Option V} {σ : L2.St} : St1 (tAug 22 te ti ⟨nx, rt, bk, ct⟩ (a0 :: a1 :: a2 :: a3 :: a4 :: a5 :: a6 :: a7 :: a8 :: a9 :: a10 :: a11 :: a12 :: a13 :: a14 :: a15 :: a16 :: a17 :: a18 :: a19 :: a20 :: a21 :: some x :: σ) H) (te (a0 :: a1 :: a2 :: a3 :: a4 :: a5 :: a6 :: a7 :: a8 :: a9 :: a10 :: a11 :: a12 :: a13 :: a14 :: a15 :: a16 :: a17 :: a18 :: a19 :: a20 :: a21 :: some x :: σ) H fun y H1 => ti x y H1 fun z H2 => nx (a0 :: a1 :: a2 :: a3 :: a4 :: a5 :: a6 :: a7 :: a8 :: a9 :: a10 :: a11 :: a12 :: a13 :: a14 :: a15 :: a16 :: a17 :: a18 :: a19 :: a20 :: a21 :: some z :: σ) H2) := ⟨fun h => x_au22 h⟩
instance i_au23 {te : TE} {ti : TIp} {a0 a1 a2 a3 a4 a5 a6 a7 a8 a9 a10 a11 a12 a13 a14 a15 a16 a17 a18 a19 a20 a21 a22 : Option V} {σ : L2.St} : St1 (tAug 23 te ti ⟨nx, rt, bk, ct⟩ (a0 :: a1 :: a2 :: a3 :: a4 :: a5 :: a6 :: a7 :: a8 :: a9 :: a10 :: a11 :: a12 :: a13 :: a14 :: a15 :: a16 :: a17 :: a18 :: a19 :: a20 :: a21 :: a22 :: some x :: σ) H) (te (a0 :: a1 :: a2 :: a3 :: a4 :: a5 :: a6 :: a7 :: a8 :: a9 :: a10 :: a11 :: a12 :: a13 :: a14 :: a15 :: a16 :: a17 :: a18 :: a19 :: a20 :: a21 :: a22 :: some x :: σ) H fun y H1 => ti x y H1 fun z H2 => nx (a0 :: a1 :: a2 :: a3 :: a4 :: a5 :: a6 :: a7 :: a8 :: a9 :: a10 :: a11 :: a12 :: a13 :: a14 :: a15 :: a16 :: a17 :: a18 :: a19 :: a20 :: a21 :: a22 :: some z :: σ) H2) := ⟨fun h => x_au23 h⟩
instance i_ml0 {σ : L2.St} : St1 (eMakeL 0 C sp [] E tl (some (.ref C) :: σ) H Q) (tMake C sp [] E tl (some (.ref C) :: σ) H Q) := ⟨fun h => x_ml0 h⟩
instance i_ml1 {a0 : Option V} {σ : L2.St} : St1 (eMakeL 1 C sp [] E tl (a0 :: some (.ref C) :: σ) H Q) (tMake C sp [] E tl (a0 :: some (.ref C) :: σ) H Q) := ⟨fun h => x_ml1 h⟩
instance i_eqP_nn  : St1 (rEqP S (.non) (.non) H Q) (Q (.bl true) H) := ⟨fun h => x_eqP_nn h⟩
instance i_eqP_ni  : St1 (rEqP S (.non) (.int i) H Q) (Q (.bl false) H) := ⟨fun h => x_eqP_ni h⟩
instance i_eqP_in  : St1 (rEqP S (.int i) (.non) H Q) (Q (.bl false) H) := ⟨fun h => x_eqP_in h⟩
instance i_eqP_nb  : St1 (rEqP S (.non) (.bl b) H Q) (Q (.bl false) H) := ⟨fun h => x_eqP_nb h⟩
instance i_eqP_bn  : St1 (rEqP S (.bl b) (.non) H Q) (Q (.bl false) H) := ⟨fun h => x_eqP_bn h⟩
instance i_eqP_ns {z : Str} : St1 (rEqP S (.non) (.str z) H Q) (Q (.bl false) H) := ⟨fun h => x_eqP_ns h⟩
instance i_eqP_sn {z : Str} : St1 (rEqP S (.str z) (.non) H Q) (Q (.bl false) H) := ⟨fun h => x_eqP_sn h⟩
instance i_eqP_is {z : Str} : St1 (rEqP S (.int i) (.str z) H Q) (Q (.bl false) H) := ⟨fun h => x_eqP_is h⟩
instance i_eqP_si {z : Str} : St1 (rEqP S (.str z) (.int i) H Q) (Q (.bl false) H) := ⟨fun h => x_eqP_si h⟩
instance i_eqP_bs {z : Str} : St1 (rEqP S (.bl b) (.str z) H Q) (Q (.bl false) H) := ⟨fun h => x_eqP_bs h⟩
instance i_eqP_sb {z : Str} : St1 (rEqP S (.str z) (.bl b) H Q) (Q (.bl false) H) := ⟨fun h => x_eqP_sb h⟩
instance i_neP_nn  : St1 (rNeP S (.non) (.non) H Q) (Q (.bl (!true)) H) := ⟨fun h => x_neP_nn h⟩
instance i_neP_ni  : St1 (rNeP S (.non) (.int i) H Q) (Q (.bl (!false)) H) := ⟨fun h => x_neP_ni h⟩
instance i_neP_in  : St1 (rNeP S (.int i) (.non) H Q) (Q (.bl (!false)) H) := ⟨fun h => x_neP_in h⟩
instance i_neP_nb  : St1 (rNeP S (.non) (.bl b) H Q) (Q (.bl (!false)) H) := ⟨fun h => x_neP_nb h⟩
instance i_neP_bn  : St1 (rNeP S (.bl b) (.non) H Q) (Q (.bl (!false)) H) := ⟨fun h => x_neP_bn h⟩
instance i_neP_ns {z : Str} : St1 (rNeP S (.non) (.str z) H Q) (Q (.bl (!false)) H) := ⟨fun h => x_neP_ns h⟩
instance i_neP_sn {z : Str} : St1 (rNeP S (.str z) (.non) H Q) (Q (.bl (!false)) H) := ⟨fun h => x_neP_sn h⟩
instance i_neP_is {z : Str} : St1 (rNeP S (.int i) (.str z) H Q) (Q (.bl (!false)) H) := ⟨fun h => x_neP_is h⟩
instance i_neP_si {z : Str} : St1 (rNeP S (.str z) (.int i) H Q) (Q (.bl (!false)) H) := ⟨fun h => x_neP_si h⟩
instance i_neP_bs {z : Str} : St1 (rNeP S (.bl b) (.str z) H Q) (Q (.bl (!false)) H) := ⟨fun h => x_neP_bs h⟩
instance i_neP_sb {z : Str} : St1 (rNeP S (.str z) (.bl b) H Q) (Q (.bl (!false)) H) := ⟨fun h => x_neP_sb h⟩
instance i_isi_int_int  : St1 (rIsI [.int i, .ty "int"] H Q) (Q (.bl true) H) := ⟨fun h => x_isi_int_int h⟩
instance i_isi_int_bool  : St1 (rIsI [.int i, .ty "bool"] H Q) (Q (.bl false) H) := ⟨fun h => x_isi_int_bool h⟩
instance i_isi_int_str  : St1 (rIsI [.int i, .ty "str"] H Q) (Q (.bl false) H) := ⟨fun h => x_isi_int_str h⟩
instance i_isi_int_list  : St1 (rIsI [.int i, .ty "list"] H Q) (Q (.bl false) H) := ⟨fun h => x_isi_int_list h⟩
instance i_isi_int_tuple  : St1 (rIsI [.int i, .ty "tuple"] H Q) (Q (.bl false) H) := ⟨fun h => x_isi_int_tuple h⟩
instance i_isi_int_dict  : St1 (rIsI [.int i, .ty "dict"] H Q) (Q (.bl false) H) := ⟨fun h => x_isi_int_dict h⟩
instance i_isi_bool_int  : St1 (rIsI [.bl b, .ty "int"] H Q) (Q (.bl true) H) := ⟨fun h => x_isi_bool_int h⟩
instance i_isi_bool_bool  : St1 (rIsI [.bl b, .ty "bool"] H Q) (Q (.bl true) H) := ⟨fun h => x_isi_bool_bool h⟩
instance i_isi_bool_str  : St1 (rIsI [.bl b, .ty "str"] H Q) (Q (.bl false) H) := ⟨fun h => x_isi_bool_str h⟩
instance i_isi_bool_list  : St1 (rIsI [.bl b, .ty "list"] H Q) (Q (.bl false) H) := ⟨fun h => x_isi_bool_list h⟩
instance i_isi_bool_tuple  : St1 (rIsI [.bl b, .ty "tuple"] H Q) (Q (.bl false) H) := ⟨fun h => x_isi_bool_tuple h⟩
instance i_isi_bool_dict  : St1 (rIsI [.bl b, .ty "dict"] H Q) (Q (.bl false) H) := ⟨fun h => x_isi_bool_dict h⟩
instance i_isi_str_int {zs : Str} : St1 (rIsI [.str zs, .ty "int"] H Q) (Q (.bl false) H) := ⟨fun h => x_isi_str_int h⟩
instance i_isi_str_bool {zs : Str} : St1 (rIsI [.str zs, .ty "bool"] H Q) (Q (.bl false) H) := ⟨fun h => x_isi_str_bool h⟩
instance i_isi_str_str {zs : Str} : St1 (rIsI [.str zs, .ty "str"] H Q) (Q (.bl true) H) := ⟨fun h => x_isi_str_str h⟩
instance i_isi_str_list {zs : Str} : St1 (rIsI [.str zs, .ty "list"] H Q) (Q (.bl false) H) := ⟨fun h => x_isi_str_list h⟩
instance i_isi_str_tuple {zs : Str} : St1 (rIsI [.str zs, .ty "tuple"] H Q) (Q (.bl false) H) := ⟨fun h => x_isi_str_tuple h⟩
instance i_isi_str_dict {zs : Str} : St1 (rIsI [.str zs, .ty "dict"] H Q) (Q (.bl false) H) := ⟨fun h => x_isi_str_dict h⟩
instance i_isi_NoneType_int  : St1 (rIsI [.non, .ty "int"] H Q) (Q (.bl false) H) := ⟨fun h => x_isi_NoneType_int h⟩
instance i_isi_NoneType_bool  : St1 (rIsI [.non, .ty "bool"] H Q) (Q (.bl false) H) := ⟨fun h => x_isi_NoneType_bool h⟩
instance i_isi_NoneType_str  : St1 (rIsI [.non, .ty "str"] H Q) (Q (.bl false) H) := ⟨fun h => x_isi_NoneType_str h⟩
instance i_isi_NoneType_list  : St1 (rIsI [.non, .ty "list"] H Q) (Q (.bl false) H) := ⟨fun h => x_isi_NoneType_list h⟩
instance i_isi_NoneType_tuple  : St1 (rIsI [.non, .ty "tuple"] H Q) (Q (.bl false) H) := ⟨fun h => x_isi_NoneType_tuple h⟩
instance i_isi_NoneType_dict  : St1 (rIsI [.non, .ty "dict"] H Q) (Q (.bl false) H) := ⟨fun h => x_isi_NoneType_dict h⟩
/-! with a bool in hand -/
def KBl (x : V) (QK : Bool → Prop) : Prop := ∃ k, x = .bl k ∧ QK k
instance i_bl {QK : Bool → Prop} : St1 (KBl (.bl b) QK) (QK b) := ⟨x_bl⟩
instance i_test : St1 (tTest te σ H QB) (te σ H fun x H' => KBl x fun k => QB k H') := ⟨id⟩
instance i_tB : St1 (tB te σ H QB) (te σ H fun x H' => KBl x fun k => QB k H') := ⟨id⟩
instance i_andV : St1 (tAndV ta tb σ H Q) (ta σ H fun x H1 => KBl x fun c => if c = true then tb σ H1 Q else Q (.bl false) H1) := ⟨id⟩
instance i_orV : St1 (tOrV ta tb σ H Q) (ta σ H fun x H1 => KBl x fun c => if c = true then Q (.bl true) H1 else tb σ H1 Q) := ⟨id⟩
def KNv (c : Bool) (Q : VK) (H : Hp) : Prop := Q (.bl (!c)) H
instance i_notV : St1 (tNotV ta σ H Q) (ta σ H fun x H1 => KBl x fun c => KNv c Q H1) := ⟨id⟩
instance (priority := 10) i_nv : St1 (KNv b Q H) (Q (.bl (!b)) H) := ⟨id⟩
instance i_nvT : St1 (KNv true Q H) (Q (.bl false) H) := ⟨id⟩
instance i_nvF : St1 (KNv false Q H) (Q (.bl true) H) := ⟨id⟩
def KNb (c : Bool) (QB : Bool → Hp → Prop) (H : Hp) : Prop := QB (!c) H
instance i_not : St1 (tNot t σ H QB) (t σ H fun c H1 => KNb c QB H1) := ⟨id⟩
instance (priority := 10) i_nb : St1 (KNb b QB H) (QB (!b) H) := ⟨id⟩
instance i_nbT : St1 (KNb true QB H) (QB false H) := ⟨id⟩
instance i_nbF : St1 (KNb false QB H) (QB true H) := ⟨id⟩
instance i_chain : St1 (tChain r r' ta tb tc σ H Q) (ta σ H fun x H1 => tb σ H1 fun y H2 => r x y H2 fun z H3 => KBl z fun k => if k = true then tc σ H3 fun w' H4 => r' y w' H4 Q else Q (.bl false) H3) := ⟨id⟩
instance i_clink {tl : TC} : St1 (cLink r tb tl σ x H Q) (tb σ H fun y H1 => r x y H1 fun z H2 => KBl z fun k => if k = true then tl σ y H2 Q else Q (.bl false) H2) := ⟨id⟩
/-! with an int in hand -/
def KIn (x : V) (QK : Int → Prop) : Prop := ∃ k, x = .int k ∧ QK k
instance i_in {QK : Int → Prop} : St1 (KIn (.int i) QK) (QK i) := ⟨x_int1⟩
instance i_forR1 : St1 (sForR none te g s1 ⟨nx, rt, bk, ct⟩ σ H) (te σ H fun y H1 => KIn y fun j => ForR g s1 nx rt 0 j σ H1) := ⟨id⟩
instance i_forR2 : St1 (sForR (some ta) tb g s1 ⟨nx, rt, bk, ct⟩ σ H) (ta σ H fun x H1 => tb σ H1 fun y H2 => KIn x fun i => KIn y fun j => ForR g s1 nx rt i j σ H2) := ⟨fun h => by
  refine x_forR2 ?_
  have e : (fun x H1 => tb σ H1 fun y H2 => KIn x fun i => KIn y fun j => ForR g s1 nx rt i j σ H2) = (fun x H1 => tb σ H1 fun y H2 => ∃ i j, x = .int i ∧ y = .int j ∧ ForR g s1 nx rt i j σ H2) := by
    funext x H1
    congr 1
    funext y H2
    exact propext ⟨fun ⟨i, e1, j, e2, h⟩ => ⟨i, j, e1, e2, h⟩, fun ⟨i, j, e1, e2, h⟩ => ⟨i, e1, j, e2, h⟩⟩
  rw [← e]
  exact h⟩
instance i_part : St1 (tPart te σ H QO) (te σ H fun x H1 => KIn x fun i => QO (some i) H1) := ⟨id⟩
/-! calls -/
theorem sp_app : (fun (vs : List V) (H1 : Hp) => sp (vs ++ []) H1 Q E) = fun vs H1 => sp vs H1 Q E := by
  funext vs H1
  rw [List.append_nil]
instance i_call : St1 (tCall sp [] E tl σ H Q) (tl σ H fun vs H1 => sp vs H1 Q E) := ⟨fun h => by
  refine x_call ?_
  rw [sp_app]
  exact h⟩
def KMk (C : Addr) (sp : Sp) (vs : List V) (H1 : Hp) (Q : VK) (E : XK) : Prop := ∀ x dx, H1 x = none → H1 dx = none → dx ≠ x → sp (.ref x :: vs) (upd (upd H1 dx (.own x)) x (.ins C dx [])) (fun v H2 => v = .non ∧ Q (.ref x) H2) E
instance i_make : St1 (tMake C sp [] E tl σ H Q) (tl σ H fun vs H1 => KMk C sp vs H1 Q E) := ⟨fun h => by
  refine x_make ?_
  have e : (fun (vs : List V) (H1 : Hp) => Kmake C sp vs H1 Q E) = fun vs H1 => KMk C sp vs H1 Q E := by
    funext vs H1
    unfold Kmake KMk
    simp only [List.append_nil]
  rw [e]
  exact h⟩
instance i_makeD {d : V} {ds : List V} : St1 (tMake C sp (d :: ds) E tl σ H Q) (tl σ H fun vs H1 => KmakeD C sp (vs ++ d :: ds) H1 Q E) := ⟨x_makeD⟩
instance i_mkG [F : FH H L] : St1 (KMk C sp vs H Q E) (∀ x dx H', FH H' ((x, Is (.ins C dx [])) :: L) → sp (.ref x :: vs) H' (fun v H2 => v = .non ∧ Q (.ref x) H2) E) := ⟨fun h x dx hx hd ne => h x dx _ ((F.other hd).new (by rw [upd_ne (Ne.symm ne)]; exact hx))⟩
instance i_mkDG {ws : List V} [F : FH H L] [ap : AppE xs ys ws] : St1 (KmakeD C sp (xs ++ ys) H Q E) (∀ x dx H', FH H' ((x, Is (.ins C dx [])) :: L) → sp (.ref x :: ws) H' (fun v H2 => v = .non ∧ Q (.ref x) H2) E) := ⟨fun h => x_makeDG F ap.e h⟩
instance i_newSG [F : FH H L] : St1 (KnewS C sp vs H Q E) (∀ x dx H', FH H' ((x, Is (.ins C dx [])) :: L) → sp (.ref x :: vs) H' (fun v H2 => v = .non ∧ Q (.ref x) H2) E) := ⟨fun h => x_newSG F h⟩
/-! objects -/
def KFl (C : Addr) (f : Str) (x : V) (H1 : Hp) (Q : VK) : Prop := ∃ a dx fs v, x = .ref a ∧ H1 a = some (.ins C dx fs) ∧ fs.lookup f = some v ∧ Q v H1
instance i_fld : St1 (eFld C f te σ H Q) (te σ H fun x H1 => KFl C f x H1 Q) := ⟨id⟩
instance i_fldG [F : FH H L] [a : Mm (p, Is (.ins C dx fs)) L] [l : LookF fs f v] : St1 (KFl C f (.ref p) H Q) (Q v H) := ⟨fun h => ⟨p, dx, fs, v, rfl, F.get a.m, l.l, h⟩⟩
def KFlD (Cs : List Addr) (f : Str) (x : V) (H1 : Hp) (Q : VK) : Prop := ∃ a C dx fs v, x = .ref a ∧ H1 a = some (.ins C dx fs) ∧ C ∈ Cs ∧ fs.lookup f = some v ∧ Q v H1
instance i_fldD : St1 (eFldD Cs f te σ H Q) (te σ H fun x H1 => KFlD Cs f x H1 Q) := ⟨id⟩
instance i_fldDG [F : FH H L] [a : Mm (p, Is (.ins C dx fs)) L] [c : Mm C Cs] [l : LookF fs f v] : St1 (KFlD Cs f (.ref p) H Q) (Q v H) := ⟨fun h => ⟨p, C, dx, fs, v, rfl, F.get a.m, c.m, l.l, h⟩⟩
def KSf (C : Addr) (f : Str) (y x : V) (H2 : Hp) (QH : Hp → Prop) : Prop := ∃ a dx fs, x = .ref a ∧ H2 a = some (.ins C dx fs) ∧ fs.length < 1000 ∧ QH (upd H2 a (.ins C dx (putF f y fs)))
instance i_setF : St1 (sSetF C f te tb ⟨nx, rt, bk, ct⟩ σ H) (tb σ H fun y H1 => te σ H1 fun x H2 => KSf C f y x H2 (nx σ)) := ⟨id⟩
instance i_setFG {QH : Hp → Prop} [F : FH H L] [a : Mm (p, Is (.ins C dx fs)) L] [z : Shr 60 fs] [e : PutFd f y fs fs'] [u : PutE p (Is (.ins C dx fs)) (Is (.ins C dx fs')) L L'] : St1 (KSf C f y (.ref p) H QH) (∀ H', FH H' L' → QH H') :=
  ⟨fun h => ⟨p, dx, fs, rfl, F.get a.m, Nat.lt_of_le_of_lt z.l (by decide), by rw [e.e]; exact h _ (F.put u.pu trivial)⟩⟩
def KSfD (Cs : List Addr) (f : Str) (y x : V) (H2 : Hp) (QH : Hp → Prop) : Prop := ∃ a C dx fs, x = .ref a ∧ H2 a = some (.ins C dx fs) ∧ C ∈ Cs ∧ fs.length < 1000 ∧ QH (upd H2 a (.ins C dx (putF f y fs)))
instance i_setFD : St1 (sSetFD Cs f te tb ⟨nx, rt, bk, ct⟩ σ H) (tb σ H fun y H1 => te σ H1 fun x H2 => KSfD Cs f y x H2 (nx σ)) := ⟨id⟩
instance i_setFDG {QH : Hp → Prop} [F : FH H L] [a : Mm (p, Is (.ins C dx fs)) L] [c : Mm C Cs] [z : Shr 60 fs] [e : PutFd f y fs fs'] [u : PutE p (Is (.ins C dx fs)) (Is (.ins C dx fs')) L L'] : St1 (KSfD Cs f y (.ref p) H QH) (∀ H', FH H' L' → QH H') :=
  ⟨fun h => ⟨p, C, dx, fs, rfl, F.get a.m, c.m, Nat.lt_of_le_of_lt z.l (by decide), by rw [e.e]; exact h _ (F.put u.pu trivial)⟩⟩
def KAf (C : Addr) (f : Str) (x : V) (H1 : Hp) (QAV : Addr → V → Prop) : Prop := ∃ a dx fs v, x = .ref a ∧ H1 a = some (.ins C dx fs) ∧ fs.lookup f = some v ∧ QAV a v
def KAs (C : Addr) (f : Str) (a : Addr) (z : V) (H3 : Hp) (QH : Hp → Prop) : Prop := ∃ dx' fs', H3 a = some (.ins C dx' fs') ∧ fs'.length < 1000 ∧ QH (upd H3 a (.ins C dx' (putF f z fs')))
instance i_augF {rd : V → V → Hp → VK → Prop} : St1 (sAugF C f te tb rd ⟨nx, rt, bk, ct⟩ σ H) (te σ H fun x H1 => KAf C f x H1 fun a v => tb σ H1 fun y H2 => rd v y H2 fun z H3 => KAs C f a z H3 (nx σ)) := ⟨id⟩
instance i_augFG {QAV : Addr → V → Prop} [F : FH H L] [a : Mm (p, Is (.ins C dx fs)) L] [l : LookF fs f v] : St1 (KAf C f (.ref p) H QAV) (QAV p v) := ⟨fun h => ⟨p, dx, fs, v, rfl, F.get a.m, l.l, h⟩⟩
instance i_augS2 {QH : Hp → Prop} [F : FH H L] [a : Mm (p, Is (.ins C dx fs)) L] [z : Shr 60 fs] [e : PutFd f y fs fs'] [u : PutE p (Is (.ins C dx fs)) (Is (.ins C dx fs')) L L'] : St1 (KAs C f p y H QH) (∀ H', FH H' L' → QH H') :=
  ⟨fun h => ⟨dx, fs, F.get a.m, Nat.lt_of_le_of_lt z.l (by decide), by rw [e.e]; exact h _ (F.put u.pu trivial)⟩⟩
def KAfD (Cs : List Addr) (f : Str) (x : V) (H1 : Hp) (QAV : Addr → Addr → V → Prop) : Prop := ∃ a C dx fs v, x = .ref a ∧ H1 a = some (.ins C dx fs) ∧ C ∈ Cs ∧ fs.lookup f = some v ∧ QAV a C v
instance i_augFD {rd : V → V → Hp → VK → Prop} : St1 (sAugFD Cs f te tb rd ⟨nx, rt, bk, ct⟩ σ H) (te σ H fun x H1 => KAfD Cs f x H1 fun a C v => tb σ H1 fun y H2 => rd v y H2 fun z H3 => KAs C f a z H3 (nx σ)) := ⟨id⟩
instance i_augFDG {QAV : Addr → Addr → V → Prop} [F : FH H L] [a : Mm (p, Is (.ins C dx fs)) L] [c : Mm C Cs] [l : LookF fs f v] : St1 (KAfD Cs f (.ref p) H QAV) (QAV p C v) := ⟨fun h => ⟨p, C, dx, fs, v, rfl, F.get a.m, c.m, l.l, h⟩⟩
def KMe (C : Addr) (m : Str) (x : V) (H1 : Hp) (B : Prop) : Prop := ∃ a dx fs, x = .ref a ∧ H1 a = some (.ins C dx fs) ∧ fs.lookup m = none ∧ B
theorem sp_app2 {x : V} : (fun (vs : List V) (H2 : Hp) => sp (x :: (vs ++ [])) H2 Q E) = fun vs H2 => sp (x :: vs) H2 Q E := by
  funext vs H1
  rw [List.append_nil]
instance i_meth : St1 (tMeth C m sp [] E ta tl σ H Q) (ta σ H fun x H1 => KMe C m x H1 (tl σ H1 fun vs H2 => sp (x :: vs) H2 Q E)) := ⟨fun h => by
  refine x_meth ?_
  have e : (fun x H1 => KMe C m x H1 (tl σ H1 fun vs H2 => sp (x :: vs) H2 Q E)) = fun x H1 => ∃ a dx fs, x = .ref a ∧ H1 a = some (.ins C dx fs) ∧ fs.lookup m = none ∧ tl σ H1 fun vs H2 => sp (x :: (vs ++ [])) H2 Q E := by
    funext x H1
    rw [sp_app2]
    rfl
  rw [← e]
  exact h⟩
instance i_methG [F : FH H L] [a : Mm (p, Is (.ins C dx fs)) L] [l : NoF fs m] : St1 (KMe C m (.ref p) H B) B := ⟨fun h => ⟨p, dx, fs, rfl, F.get a.m, l.l, h⟩⟩
instance i_mS {ES : L2.St → XK} : St1 (tMS C m sp ES ta tl σ H Q) (ta σ H fun x H1 => KMe C m x H1 (tl σ H1 fun vs H2 => sp (x :: vs) H2 Q (ES σ))) := ⟨id⟩
def KMD (ls : List (Addr × Sp)) (m : Str) (x : V) (H1 : Hp) (B : Sp → Prop) : Prop := ∃ a C dx fs sp, x = .ref a ∧ H1 a = some (.ins C dx fs) ∧ (C, sp) ∈ ls ∧ fs.lookup m = none ∧ B sp
instance i_mD {ES : L2.St → XK} : St1 (tMD ls m ES ta tl σ H Q) (ta σ H fun x H1 => KMD ls m x H1 fun sp => tl σ H1 fun vs H2 => sp (x :: vs) H2 Q (ES σ)) := ⟨id⟩
instance i_mDG {B : Sp → Prop} [F : FH H L] [a : Mm (p, Is (.ins C dx fs)) L] [c : Mm (C, sp) ls] [l : NoF fs m] : St1 (KMD ls m (.ref p) H B) (B sp) := ⟨fun h => ⟨p, C, dx, fs, sp, rfl, F.get a.m, c.m, l.l, h⟩⟩
def KPr (C : Addr) (x : V) (H1 : Hp) (B : Addr → Prop) : Prop := ∃ a dx fs, x = .ref a ∧ H1 a = some (.ins C dx fs) ∧ B a
instance i_prop : St1 (eProp C sp te σ H Q) (te σ H fun x H1 => KPr C x H1 fun a => sp [.ref a] H1 Q E0) := ⟨id⟩
instance i_propG {B : Addr → Prop} [F : FH H L] [a : Mm (p, Is (.ins C dx fs)) L] : St1 (KPr C (.ref p) H B) (B p) := ⟨fun h => ⟨p, dx, fs, rfl, F.get a.m, h⟩⟩
def KPrD (ls : List (Addr × Sp)) (x : V) (H1 : Hp) (B : Addr → Sp → Prop) : Prop := ∃ a C dx fs sp, x = .ref a ∧ H1 a = some (.ins C dx fs) ∧ (C, sp) ∈ ls ∧ B a sp
instance i_propD : St1 (ePropD ls te σ H Q) (te σ H fun x H1 => KPrD ls x H1 fun a sp => sp [.ref a] H1 Q E0) := ⟨id⟩
instance i_propDG {B : Addr → Sp → Prop} [F : FH H L] [a : Mm (p, Is (.ins C dx fs)) L] [c : Mm (C, sp) ls] : St1 (KPrD ls (.ref p) H B) (B p sp) := ⟨fun h => ⟨p, C, dx, fs, sp, rfl, F.get a.m, c.m, h⟩⟩
instance i_supM [F : FH H L] [a : Mm (p, Is (.ins C dx fs)) L] [c : Mm C Cs] : St1 (tSupM Cs sp E tl (some (.ref p) :: σ) H Q) (tl (some (.ref p) :: σ) H fun vs H1 => sp (.ref p :: vs) H1 Q E) := ⟨fun h => x_supM F a.m c.m h⟩
instance i_inOwnF [F : FH H L] [a : Mm (p, Is (.ins C dx fs)) L] : St1 (rInOwn C false sp E y (.ref p) H Q) (sp [.ref p, y] H (fun v H' => KBl v fun b => Q (.bl b) H') E) := ⟨fun h => x_inOwnF F a.m h⟩
instance i_inOwnT [F : FH H L] [a : Mm (p, Is (.ins C dx fs)) L] : St1 (rInOwn C true sp E y (.ref p) H Q) (sp [.ref p, y] H (fun v H' => KBl v fun b => Q (.bl (!b)) H') E) := ⟨fun h => x_inOwnT F a.m h⟩
/-! lists and tuples -/
instance i_ixL [F : FH H L] [a : Mm (p, Is (.lst xs)) L] [e : AtE xs i v] : St1 (rIx S (.ref p) (.int i) H Q) (Q v H) := ⟨fun h => x_ixL F a.m e.e h⟩
instance i_ixT [F : FH H L] [a : Mm (p, Is (.tup xs)) L] [e : AtE xs i v] : St1 (rIx S (.ref p) (.int i) H Q) (Q v H) := ⟨fun h => x_ixT F a.m e.e h⟩
instance i_getL [F : FH H L] [a : Mm (p, Is (.lst xs)) L] [e : AtE xs i v] : St1 (rGetL (.ref p) (.int i) H Q) (Q v H) := ⟨fun h => x_getL F a.m e.e h⟩
instance i_setL {QH : Hp → Prop} [F : FH H L] [a : Mm (p, Is (.lst xs)) L] [e : SetE xs i v ys] [u : PutE p (Is (.lst xs)) (Is (.lst ys)) L L'] : St1 (rSetL (.ref p) (.int i) v H QH) (∀ H', FH H' L' → QH H') := ⟨fun h => by
  obtain ⟨k, e1, e2⟩ := e.e
  subst e2
  exact x_setL F a.m e1 u.pu h⟩
instance i_lstG [F : FH H L] [z : Shr 100 xs] : St1 (Klst xs H Q) (∀ p H', H p = none → FH H' ((p, Is (.lst xs)) :: L) → Q (.ref p) H') := ⟨fun h => x_lstG F (len_leN (Nat.le_trans z.l (by decide))) h⟩
instance i_tupG [F : FH H L] [z : Shr 100 xs] : St1 (Ktup xs H Q) (∀ p H', H p = none → FH H' ((p, Is (.tup xs)) :: L) → Q (.ref p) H') := ⟨fun h => x_tupG F (len_leN (Nat.le_trans z.l (by decide))) h⟩
def KAp (x : V) (H1 : Hp) (B : Prop) : Prop := ∃ l, x = .ref l ∧ (∃ xs, H1 l = some (.lst xs)) ∧ B
instance i_apd : St1 (eApp te tl σ H Q) (te σ H fun x H1 => KAp x H1 (tl σ H1 fun vs H2 => rAppend x vs H2 Q)) := ⟨id⟩
instance i_apdG [F : FH H L] [a : Mm (p, Is (.lst xs)) L] : St1 (KAp (.ref p) H B) B := ⟨fun h => ⟨p, rfl, ⟨xs, F.get a.m⟩, h⟩⟩
instance i_append [F : FH H L] [a : Mm (p, Is (.lst xs)) L] [z : Shr 100 xs] [e : AppE xs [v] ys] [u : PutE p (Is (.lst xs)) (Is (.lst ys)) L L'] : St1 (rAppend (.ref p) [v] H Q) (∀ H', FH H' L' → Q .non H') := ⟨fun h => by
  have e1 := e.e
  subst e1
  exact x_append F a.m (len_ltN (Nat.lt_of_le_of_lt z.l (by decide))) u.pu h⟩
instance i_lcPut {D : Addr} {z : V} {k : Hp → Prop} [F : FH H L] [a : Mm (D, Is (.lst xs)) L] [s : Shr 100 xs] [e : AppE xs [z] ys] [u : PutE D (Is (.lst xs)) (Is (.lst ys)) L L'] : St1 (lcPut D z k H) (∀ H', FH H' L' → k H') := ⟨fun h => by
  have e1 := e.e
  subst e1
  exact x_lcPut F u.pu (Nat.lt_of_le_of_lt s.l (by decide)) h⟩
instance i_wipe {σ2 σw : L2.St} {vs : List Nat} [e : WipeE σ2 vs σw] : St1 (wipe σ2 vs = σw ∧ A) A := ⟨fun h => ⟨e.e, h⟩⟩
instance i_rdT [F : FH H L] [a : Mm (p, Is (.tup xs)) L] : St1 (RdS S H p (.tup xs) ∧ A) A := ⟨fun h => x_rdT F a.m h⟩
instance i_rdL [F : FH H L] [a : Mm (p, Is (.lst xs)) L] : St1 (RdS S H p (.lst xs) ∧ A) A := ⟨fun h => x_rdL F a.m h⟩
instance i_forTU [F : FH H L] [a : Mm (p, Is (.tup xs)) L] : St1 (ForS S g s1 nx rt (.ref p) σ H) (forKS S p (.tup xs) g s1 nx nx rt xs σ H) := ⟨fun h => forTU F a.m h⟩
instance i_lenL [F : FH H L] [a : Mm (p, Is (.lst xs)) L] [n : LenE xs k] : St1 (rLen S [.ref p] H Q) (Q (.int (k : Int)) H) := ⟨fun h => x_lenL F a.m (by rw [n.e]; exact h)⟩
instance i_lenT [F : FH H L] [a : Mm (p, Is (.tup xs)) L] [n : LenE xs k] : St1 (rLen S [.ref p] H Q) (Q (.int (k : Int)) H) := ⟨fun h => x_lenT F a.m (by rw [n.e]; exact h)⟩
instance i_listL [F : FH H L] [a : Mm (p, Is (.lst xs)) L] : St1 (rListOf S [.ref p] H Q) (∀ r H', H r = none → FH H' ((r, Is (.lst xs)) :: L) → Q (.ref r) H') := ⟨fun h => x_listL F a.m h⟩
instance i_listT [F : FH H L] [a : Mm (p, Is (.tup xs)) L] : St1 (rListOf S [.ref p] H Q) (∀ r H', H r = none → FH H' ((r, Is (.lst xs)) :: L) → Q (.ref r) H') := ⟨fun h => x_listT F a.m h⟩
instance i_tupleL [F : FH H L] [a : Mm (p, Is (.lst xs)) L] : St1 (rTupleOf S [.ref p] H Q) (∀ r H', H r = none → FH H' ((r, Is (.tup xs)) :: L) → Q (.ref r) H') := ⟨fun h => x_tupleL F a.m h⟩
instance i_tupleT [F : FH H L] [a : Mm (p, Is (.tup xs)) L] : St1 (rTupleOf S [.ref p] H Q) (Q (.ref p) H) := ⟨fun h => x_tupleT F a.m h⟩
instance i_cat {q : Addr} [F : FH H L] [a : Mm (p, Is (.lst xs)) L] [c : Mm (q, Is (.lst ys)) L] [s1 : Shr 100 xs] [s2 : Shr 100 ys] [e : AppE xs ys zs] : St1 (rAdd (.ref p) (.ref q) H Q) (∀ r H', H r = none → FH H' ((r, Is (.lst zs)) :: L) → Q (.ref r) H') := ⟨fun h => by
  have e1 := e.e
  subst e1
  exact x_cat F a.m c.m (len_leN (by rw [List.length_append]; exact Nat.le_trans (Nat.add_le_add s1.l s2.l) (by decide))) h⟩
instance i_allT [F : FH H L] [a : Mm (p, AllT) L] : St1 (rAll S [.ref p] H Q) (Q (.bl true) H) := ⟨fun h => x_allT F a.m h⟩
instance i_eqLs {q : Addr} {ns : List Int} [F : FH H L] [a : Mm (p, Is (.lst (ns.map V.int))) L] [b : Mm (q, Is (.lst (ns.map V.int))) L] : St1 (rEqP S (.ref p) (.ref q) H Q) (Q (.bl true) H) := ⟨fun h => x_eqPL F a.m b.m flat_ints flat_ints (by rw [eqv_ints, decide_eq_true rfl]) h⟩
instance i_neLs {q : Addr} {ns : List Int} [F : FH H L] [a : Mm (p, Is (.lst (ns.map V.int))) L] [b : Mm (q, Is (.lst (ns.map V.int))) L] : St1 (rNeP S (.ref p) (.ref q) H Q) (Q (.bl false) H) := ⟨fun h => x_nePL (b := true) F a.m b.m flat_ints flat_ints (by rw [eqv_ints, decide_eq_true rfl]) h⟩
instance (priority := 2000) i_eqPIs : St1 (rEqP S (.int i) (.int i) H Q) (Q (.bl true) H) := ⟨fun h => x_eqPI (by rw [decide_eq_true rfl]; exact h)⟩
instance (priority := 2000) i_nePIs : St1 (rNeP S (.int i) (.int i) H Q) (Q (.bl false) H) := ⟨fun h => x_nePI (by rw [decide_eq_false (fun z => z rfl)]; exact h)⟩
instance (priority := 2000) i_eqPBs : St1 (rEqP S (.bl b) (.bl b) H Q) (Q (.bl true) H) := ⟨fun h => x_eqPB (by rw [decide_eq_true rfl]; exact h)⟩
instance (priority := 2000) i_nePBs : St1 (rNeP S (.bl b) (.bl b) H Q) (Q (.bl false) H) := ⟨fun h => x_nePB (by rw [decide_eq_false (fun z => z rfl)]; exact h)⟩
instance i_eqPSd {a b : Str} [n : NeS a b] : St1 (rEqP S (.str a) (.str b) H Q) (Q (.bl false) H) := ⟨fun h => x_eqPSd n.ne h⟩
instance i_nePSd {a b : Str} [n : NeS a b] : St1 (rNeP S (.str a) (.str b) H Q) (Q (.bl true) H) := ⟨fun h => x_nePSd n.ne h⟩
/-! errors -/
instance i_mkC1 {C : Addr} {f : Str} [F : FH H L] : St1 (KmkC C [f] E [v] H) (∀ d H', FH H' ((d, Is (.xd [(f, v)])) :: L) → E (.ref C) (some d) H') := ⟨fun h => x_mkC1 F h⟩
instance i_mkC2 {C : Addr} {f g : Str} {w : V} [F : FH H L] : St1 (KmkC C [f, g] E [v, w] H) (∀ d H', FH H' ((d, Is (.xd [(g, w), (f, v)])) :: L) → E (.ref C) (some d) H') := ⟨fun h => x_mkC2 F h⟩
def KXf (b : Addr) (cls : Value) (d : Option Addr) (Cs : List Addr) (f : Str) (x : V) (H1 : Hp) (Q : VK) : Prop := x = .ref b ∧ ∃ C, C ∈ Cs ∧ cls = .ref C ∧ ∃ (dd : Addr) (fs : List (Str × V)) (v : V), d = some dd ∧ H1 dd = some (.xd fs) ∧ fs.lookup f = some v ∧ Q v H1
instance i_xf {b : Addr} {cls : Value} {d : Option Addr} : St1 (eXf b cls d Cs f te σ H Q) (te σ H fun x H1 => KXf b cls d Cs f x H1 Q) := ⟨id⟩
instance i_xfG {b C : Addr} [F : FH H L] [a : Mm (p, Is (.xd fs)) L] [c : Mm C Cs] [l : LookF fs f v] : St1 (KXf b (.ref C) (some p) Cs f (.ref b) H Q) (Q v H) := ⟨fun h => ⟨rfl, C, c.m, rfl, p, fs, v, rfl, F.get a.m, l.l, h⟩⟩
instance i_isX {b C : Addr} {tbl : List (Value × V × Bool)} {c : V} {k : Bool} [F : FH H L] [a : Mm (p, Is (.xd fs)) L] [n : Mm (Value.ref C, c, k) tbl] : St1 (rIsX tbl b (.ref C) (some p) [.ref b, c] H Q) (Q (.bl k) H) := ⟨fun h => x_isX F a.m n.m h⟩
instance i_isr_list_int [F : FH H L] [a : Mm (p, Is (.lst xs)) L] : St1 (rIsI [.ref p, .ty "int"] H Q) (Q (.bl false) H) := ⟨fun h => x_isr_list_int F a.m h⟩
instance i_isr_list_bool [F : FH H L] [a : Mm (p, Is (.lst xs)) L] : St1 (rIsI [.ref p, .ty "bool"] H Q) (Q (.bl false) H) := ⟨fun h => x_isr_list_bool F a.m h⟩
instance i_isr_list_str [F : FH H L] [a : Mm (p, Is (.lst xs)) L] : St1 (rIsI [.ref p, .ty "str"] H Q) (Q (.bl false) H) := ⟨fun h => x_isr_list_str F a.m h⟩
instance i_isr_list_list [F : FH H L] [a : Mm (p, Is (.lst xs)) L] : St1 (rIsI [.ref p, .ty "list"] H Q) (Q (.bl true) H) := ⟨fun h => x_isr_list_list F a.m h⟩
instance i_isr_list_tuple [F : FH H L] [a : Mm (p, Is (.lst xs)) L] : St1 (rIsI [.ref p, .ty "tuple"] H Q) (Q (.bl false) H) := ⟨fun h => x_isr_list_tuple F a.m h⟩
instance i_isr_list_dict [F : FH H L] [a : Mm (p, Is (.lst xs)) L] : St1 (rIsI [.ref p, .ty "dict"] H Q) (Q (.bl false) H) := ⟨fun h => x_isr_list_dict F a.m h⟩
instance i_isr_tuple_int [F : FH H L] [a : Mm (p, Is (.tup xs)) L] : St1 (rIsI [.ref p, .ty "int"] H Q) (Q (.bl false) H) := ⟨fun h => x_isr_tuple_int F a.m h⟩
instance i_isr_tuple_bool [F : FH H L] [a : Mm (p, Is (.tup xs)) L] : St1 (rIsI [.ref p, .ty "bool"] H Q) (Q (.bl false) H) := ⟨fun h => x_isr_tuple_bool F a.m h⟩
instance i_isr_tuple_str [F : FH H L] [a : Mm (p, Is (.tup xs)) L] : St1 (rIsI [.ref p, .ty "str"] H Q) (Q (.bl false) H) := ⟨fun h => x_isr_tuple_str F a.m h⟩
instance i_isr_tuple_list [F : FH H L] [a : Mm (p, Is (.tup xs)) L] : St1 (rIsI [.ref p, .ty "list"] H Q) (Q (.bl false) H) := ⟨fun h => x_isr_tuple_list F a.m h⟩
instance i_isr_tuple_tuple [F : FH H L] [a : Mm (p, Is (.tup xs)) L] : St1 (rIsI [.ref p, .ty "tuple"] H Q) (Q (.bl true) H) := ⟨fun h => x_isr_tuple_tuple F a.m h⟩
instance i_isr_tuple_dict [F : FH H L] [a : Mm (p, Is (.tup xs)) L] : St1 (rIsI [.ref p, .ty "dict"] H Q) (Q (.bl false) H) := ⟨fun h => x_isr_tuple_dict F a.m h⟩
instance i_slp1 {b0 : V} [F : FH H L] [a : Mm (p, Is (.lst (b0 :: xs))) L] : St1 (rSl S (.ref p) none (some 1) H Q) (∀ q H', H q = none → FH H' ((q, Is (.lst [b0])) :: L) → Q (.ref q) H') := ⟨fun h => x_slL F a.m (by rw [show cutV (b0 :: xs) none (some 1) = [b0] from cutV_pre (ys := [b0]) (n := 1) rfl]; exact h)⟩
instance i_slp2 {b0 b1 : V} [F : FH H L] [a : Mm (p, Is (.lst (b0 :: b1 :: xs))) L] : St1 (rSl S (.ref p) none (some 2) H Q) (∀ q H', H q = none → FH H' ((q, Is (.lst [b0, b1])) :: L) → Q (.ref q) H') := ⟨fun h => x_slL F a.m (by rw [show cutV (b0 :: b1 :: xs) none (some 2) = [b0, b1] from cutV_pre (ys := [b0, b1]) (n := 2) rfl]; exact h)⟩
instance i_slp3 {b0 b1 b2 : V} [F : FH H L] [a : Mm (p, Is (.lst (b0 :: b1 :: b2 :: xs))) L] : St1 (rSl S (.ref p) none (some 3) H Q) (∀ q H', H q = none → FH H' ((q, Is (.lst [b0, b1, b2])) :: L) → Q (.ref q) H') := ⟨fun h => x_slL F a.m (by rw [show cutV (b0 :: b1 :: b2 :: xs) none (some 3) = [b0, b1, b2] from cutV_pre (ys := [b0, b1, b2]) (n := 3) rfl]; exact h)⟩
instance i_slp4 {b0 b1 b2 b3 : V} [F : FH H L] [a : Mm (p, Is (.lst (b0 :: b1 :: b2 :: b3 :: xs))) L] : St1 (rSl S (.ref p) none (some 4) H Q) (∀ q H', H q = none → FH H' ((q, Is (.lst [b0, b1, b2, b3])) :: L) → Q (.ref q) H') := ⟨fun h => x_slL F a.m (by rw [show cutV (b0 :: b1 :: b2 :: b3 :: xs) none (some 4) = [b0, b1, b2, b3] from cutV_pre (ys := [b0, b1, b2, b3]) (n := 4) rfl]; exact h)⟩
instance i_slp5 {b0 b1 b2 b3 b4 : V} [F : FH H L] [a : Mm (p, Is (.lst (b0 :: b1 :: b2 :: b3 :: b4 :: xs))) L] : St1 (rSl S (.ref p) none (some 5) H Q) (∀ q H', H q = none → FH H' ((q, Is (.lst [b0, b1, b2, b3, b4])) :: L) → Q (.ref q) H') := ⟨fun h => x_slL F a.m (by rw [show cutV (b0 :: b1 :: b2 :: b3 :: b4 :: xs) none (some 5) = [b0, b1, b2, b3, b4] from cutV_pre (ys := [b0, b1, b2, b3, b4]) (n := 5) rfl]; exact h)⟩
instance i_slp6 {b0 b1 b2 b3 b4 b5 : V} [F : FH H L] [a : Mm (p, Is (.lst (b0 :: b1 :: b2 :: b3 :: b4 :: b5 :: xs))) L] : St1 (rSl S (.ref p) none (some 6) H Q) (∀ q H', H q = none → FH H' ((q, Is (.lst [b0, b1, b2, b3, b4, b5])) :: L) → Q (.ref q) H') := ⟨fun h => x_slL F a.m (by rw [show cutV (b0 :: b1 :: b2 :: b3 :: b4 :: b5 :: xs) none (some 6) = [b0, b1, b2, b3, b4, b5] from cutV_pre (ys := [b0, b1, b2, b3, b4, b5]) (n := 6) rfl]; exact h)⟩
instance i_slp7 {b0 b1 b2 b3 b4 b5 b6 : V} [F : FH H L] [a : Mm (p, Is (.lst (b0 :: b1 :: b2 :: b3 :: b4 :: b5 :: b6 :: xs))) L] : St1 (rSl S (.ref p) none (some 7) H Q) (∀ q H', H q = none → FH H' ((q, Is (.lst [b0, b1, b2, b3, b4, b5, b6])) :: L) → Q (.ref q) H') := ⟨fun h => x_slL F a.m (by rw [show cutV (b0 :: b1 :: b2 :: b3 :: b4 :: b5 :: b6 :: xs) none (some 7) = [b0, b1, b2, b3, b4, b5, b6] from cutV_pre (ys := [b0, b1, b2, b3, b4, b5, b6]) (n := 7) rfl]; exact h)⟩
instance i_slp8 {b0 b1 b2 b3 b4 b5 b6 b7 : V} [F : FH H L] [a : Mm (p, Is (.lst (b0 :: b1 :: b2 :: b3 :: b4 :: b5 :: b6 :: b7 :: xs))) L] : St1 (rSl S (.ref p) none (some 8) H Q) (∀ q H', H q = none → FH H' ((q, Is (.lst [b0, b1, b2, b3, b4, b5, b6, b7])) :: L) → Q (.ref q) H') := ⟨fun h => x_slL F a.m (by rw [show cutV (b0 :: b1 :: b2 :: b3 :: b4 :: b5 :: b6 :: b7 :: xs) none (some 8) = [b0, b1, b2, b3, b4, b5, b6, b7] from cutV_pre (ys := [b0, b1, b2, b3, b4, b5, b6, b7]) (n := 8) rfl]; exact h)⟩
instance i_slp9 {b0 b1 b2 b3 b4 b5 b6 b7 b8 : V} [F : FH H L] [a : Mm (p, Is (.lst (b0 :: b1 :: b2 :: b3 :: b4 :: b5 :: b6 :: b7 :: b8 :: xs))) L] : St1 (rSl S (.ref p) none (some 9) H Q) (∀ q H', H q = none → FH H' ((q, Is (.lst [b0, b1, b2, b3, b4, b5, b6, b7, b8])) :: L) → Q (.ref q) H') := ⟨fun h => x_slL F a.m (by rw [show cutV (b0 :: b1 :: b2 :: b3 :: b4 :: b5 :: b6 :: b7 :: b8 :: xs) none (some 9) = [b0, b1, b2, b3, b4, b5, b6, b7, b8] from cutV_pre (ys := [b0, b1, b2, b3, b4, b5, b6, b7, b8]) (n := 9) rfl]; exact h)⟩
instance i_slp10 {b0 b1 b2 b3 b4 b5 b6 b7 b8 b9 : V} [F : FH H L] [a : Mm (p, Is (.lst (b0 :: b1 :: b2 :: b3 :: b4 :: b5 :: b6 :: b7 :: b8 :: b9 :: xs))) L] : St1 (rSl S (.ref p) none (some 10) H Q) (∀ q H', H q = none → FH H' ((q, Is (.lst [b0, b1, b2, b3, b4, b5, b6, b7, b8, b9])) :: L) → Q (.ref q) H') := ⟨fun h => x_slL F a.m (by rw [show cutV (b0 :: b1 :: b2 :: b3 :: b4 :: b5 :: b6 :: b7 :: b8 :: b9 :: xs) none (some 10) = [b0, b1, b2, b3, b4, b5, b6, b7, b8, b9] from cutV_pre (ys := [b0, b1, b2, b3, b4, b5, b6, b7, b8, b9]) (n := 10) rfl]; exact h)⟩
instance i_slp11 {b0 b1 b2 b3 b4 b5 b6 b7 b8 b9 b10 : V} [F : FH H L] [a : Mm (p, Is (.lst (b0 :: b1 :: b2 :: b3 :: b4 :: b5 :: b6 :: b7 :: b8 :: b9 :: b10 :: xs))) L] : St1 (rSl S (.ref p) none (some 11) H Q) (∀ q H', H q = none → FH H' ((q, Is (.lst [b0, b1, b2, b3, b4, b5, b6, b7, b8, b9, b10])) :: L) → Q (.ref q) H') := ⟨fun h => x_slL F a.m (by rw [show cutV (b0 :: b1 :: b2 :: b3 :: b4 :: b5 :: b6 :: b7 :: b8 :: b9 :: b10 :: xs) none (some 11) = [b0, b1, b2, b3, b4, b5, b6, b7, b8, b9, b10] from cutV_pre (ys := [b0, b1, b2, b3, b4, b5, b6, b7, b8, b9, b10]) (n := 11) rfl]; exact h)⟩
instance i_slp12 {b0 b1 b2 b3 b4 b5 b6 b7 b8 b9 b10 b11 : V} [F : FH H L] [a : Mm (p, Is (.lst (b0 :: b1 :: b2 :: b3 :: b4 :: b5 :: b6 :: b7 :: b8 :: b9 :: b10 :: b11 :: xs))) L] : St1 (rSl S (.ref p) none (some 12) H Q) (∀ q H', H q = none → FH H' ((q, Is (.lst [b0, b1, b2, b3, b4, b5, b6, b7, b8, b9, b10, b11])) :: L) → Q (.ref q) H') := ⟨fun h => x_slL F a.m (by rw [show cutV (b0 :: b1 :: b2 :: b3 :: b4 :: b5 :: b6 :: b7 :: b8 :: b9 :: b10 :: b11 :: xs) none (some 12) = [b0, b1, b2, b3, b4, b5, b6, b7, b8, b9, b10, b11] from cutV_pre (ys := [b0, b1, b2, b3, b4, b5, b6, b7, b8, b9, b10, b11]) (n := 12) rfl]; exact h)⟩
instance i_sl1 {b0 : V} [F : FH H L] [a : Mm (p, Is (.lst (b0 :: xs))) L] : St1 (rSl S (.ref p) (some 1) none H Q) (∀ q H', H q = none → FH H' ((q, Is (.lst xs)) :: L) → Q (.ref q) H') := ⟨fun h => x_sl1 F a.m h⟩
/-! enumerate; isinstance of several types; insert; messages; dicts without a key -/
instance i_forEn {gi gj : TG} : St1 (sForEn S te gi gj s1 ⟨nx, rt, bk, ct⟩ σ H) (te σ H fun x H1 => EnS S gi gj s1 nx rt x σ H1) := ⟨id⟩
theorem enL {gi gj : TG} (Pv : Nat → L2.St → Prop) (F : FH H L) (m : (p, Is (.lst xs)) ∈ L ∨ (p, Is (.tup xs)) ∈ L) (h0 : Pv 0 σ)
    (hs : ∀ (i : Nat) y σ H, xs[i]? = some y → Pv i σ → FH H L → gi (.int (i : Int)) σ H fun σ' H' => gj y σ' H' fun σ2 H2 => s1 ⟨fun σ H => Pv (i + 1) σ ∧ FH H L, rt, nx, fun σ H => Pv (i + 1) σ ∧ FH H L⟩ σ2 H2) (hd : ∀ σ H, Pv xs.length σ → FH H L → nx σ H) : EnS S gi gj s1 nx rt (.ref p) σ H := by
  refine ⟨p, xs, rfl, fun i σ H => Pv i σ ∧ FH H L, ⟨h0, F⟩, ?_, fun i y σ H T e q hT => hs i y σ _ e q.1 (q.2.other hT), fun σ H q => hd σ H q.1 q.2⟩
  rcases m with m | m
  · exact .inl fun i H _ ⟨σ, q⟩ => .inl (.inl (q.2.get m))
  · exact .inr fun i H _ ⟨σ, q⟩ => .inl (.inl (q.2.get m))
instance i_dnew [F : FH H L] : St1 (tDNewK σ H Q) (∀ p H', FH H' ((p, Is (.dK [])) :: L) → Q (.ref p) H') := ⟨fun h p hp => h p _ (F.new hp)⟩
def KFm (vs : List V) (A : Prop) : Prop := (∀ y ∈ vs, fmtOk y) ∧ A
instance i_raiseF {C : Addr} {gs : List Str} {D : Ends} : St1 (sRaise E (tMkF C gs tl) D σ H) (tl σ H fun vs H1 => KFm vs (KmkC C gs E vs H1)) := ⟨id⟩
instance i_raiseSF {C : Addr} {gs : List Str} {D : Ends} {W : WX} : St1 (sRaiseS W (tMkF C gs tl) D σ H) (tl σ H fun vs H1 => KFm vs (KmkC C gs (WE W σ) vs H1)) := ⟨id⟩
class ShZ (z : Str) : Prop where
  l : z.length ≤ 100000
instance i_fmS {z : Str} {A : Prop} [c : ShZ z] : St1 (KFm [.str z] A) A := ⟨fun h => ⟨fun y hy => by
  have e : y = .str z := by simpa using hy
  subst e
  exact c.l, h⟩⟩
theorem x_fmI (h1 : -18446744073709551616 < i ∧ i < 18446744073709551616) (h : A) : KFm [.int i] A := ⟨fun y hy => by
  have e : y = .int i := by simpa using hy
  subst e
  show i.natAbs.log2 < 1920
  by_cases e : i.natAbs = 0
  · rw [e]; decide
  · have h2 := Nat.log2_self_le e
    have h3 : 2 ^ i.natAbs.log2 < 2 ^ 64 := by
      have : (2 : Nat) ^ 64 = 18446744073709551616 := by decide
      omega
    have := (Nat.pow_lt_pow_iff_right (by decide : 1 < 2)).mp h3
    omega, h⟩
class TyE (H : Hp) (v : V) (t : outParam String) : Prop where
  t : TyN H v t
instance ty_non : TyE H .non "NoneType" := ⟨.non⟩
instance ty_bl : TyE H (.bl b) "bool" := ⟨.bl b⟩
instance ty_int : TyE H (.int i) "int" := ⟨.int i⟩
instance ty_str {z : Str} : TyE H (.str z) "str" := ⟨.str z⟩
instance ty_lst [F : FH H L] [a : Mm (p, Is (.lst xs)) L] : TyE H (.ref p) "list" := ⟨.lst (.inl (F.get a.m))⟩
instance ty_tup [F : FH H L] [a : Mm (p, Is (.tup xs)) L] : TyE H (.ref p) "tuple" := ⟨.tup (.inl (F.get a.m))⟩
instance ty_dk {kvs : List (Key × V)} [F : FH H L] [a : Mm (p, Is (.dK kvs)) L] : TyE H (.ref p) "dict" := ⟨.dK (F.get a.m)⟩
class Kit1 (t n : String) (c : outParam Bool) : Prop where
  k : kitB t n = some c
  e : isA t n = c
class OrE (a b : Bool) (c : outParam Bool) : Prop where
  e : (a || b) = c
instance or_t {b : Bool} : OrE true b true := ⟨rfl⟩
instance or_f {b : Bool} : OrE false b b := ⟨rfl⟩
class KitA (t : String) (vs : List V) (c : outParam Bool) : Prop where
  e : ∃ ns, Tys vs ns ∧ (∀ n ∈ ns, kitB t n = some (isA t n)) ∧ ns.any (isA t) = c
instance kita_nil {t : String} : KitA t [] false := ⟨[], .nil, (fun _ h => nomatch h), rfl⟩
instance kita_cons {t n : String} {vs : List V} {c d e : Bool} [a : Kit1 t n c] [b : KitA t vs d] [o : OrE c d e] : KitA t (.ty n :: vs) e := ⟨by
  obtain ⟨ns, h1, h2, h3⟩ := b.e
  refine ⟨n :: ns, .cons h1, fun m hm => ?_, ?_⟩
  · rcases List.mem_cons.mp hm with z | z
    · subst z; rw [a.e]; exact a.k
    · exact h2 m z
  · rw [List.any_cons, a.e, h3, o.e]⟩
instance i_isT {vs : List V} {t : String} {c : Bool} [F : FH H L] [ty : TyE H x t] [a : Mm (p, Is (.tup vs)) L] [k : KitA t vs c] : St1 (rIsT [x, .ref p] H Q) (Q (.bl c) H) := ⟨fun h => by
  obtain ⟨ns, h1, h2, h3⟩ := k.e
  exact ⟨x, p, vs, ns, t, rfl, F.get a.m, h1, ty.t, h2, by rw [h3]; exact h⟩⟩
def KIns (x : V) (H1 : Hp) (B : Prop) : Prop := ∃ l, x = .ref l ∧ (∃ xs, H1 l = some (.lst xs)) ∧ B
instance i_ins : St1 (eIns te tl σ H Q) (te σ H fun x H1 => KIns x H1 (tl σ H1 fun vs H2 => rIns x vs H2 Q)) := ⟨id⟩
instance i_insG [F : FH H L] [a : Mm (p, Is (.lst xs)) L] : St1 (KIns (.ref p) H B) B := ⟨fun h => ⟨p, rfl, ⟨xs, F.get a.m⟩, h⟩⟩
theorem x_insL (F : FH H L) (pu : Put p (Is (.lst xs)) (Is (.lst (xs.take i.toNat ++ [y] ++ xs.drop i.toNat))) L L') (sz : xs.length < 16777216) (h0 : 0 ≤ i) (h1 : i < 9223372036854775808) (h : ∀ H', FH H' L' → Q .non H') : rIns (.ref p) [.int i, y] H Q := by
  have e : (2 : Int) ^ 63 = 9223372036854775808 := by decide
  exact ⟨p, xs, i, y, rfl, rfl, F.get pu.mem, by rw [sizeLine_eq]; exact sz, h0, by rw [e]; exact h1, h _ (F.put pu trivial)⟩
/-! instances: their class, its constants; static tuples; texts; index; keywords -/
instance i_isO {D C dx : Addr} {fs : List (Str × V)} {tbl : List (Addr × Bool)} {b : Bool} [F : FH H L] [a : Mm (p, Is (.ins C dx fs)) L] [c : Mm (C, b) tbl] : St1 (rIsO D tbl [.ref p, .ref D] H Q) (Q (.bl b) H) := ⟨fun h => ⟨p, C, dx, fs, b, rfl, F.get a.m, c.m, h⟩⟩
def KCo (l : List (Addr × V)) (f : Str) (x : V) (H1 : Hp) (Q : VK) : Prop := ∃ a C dx fs v, x = .ref a ∧ H1 a = some (.ins C dx fs) ∧ (C, v) ∈ l ∧ fs.lookup f = none ∧ Q v H1
instance i_conD {l : List (Addr × V)} : St1 (eConD l f te σ H Q) (te σ H fun x H1 => KCo l f x H1 Q) := ⟨id⟩
instance i_conDG {l : List (Addr × V)} [F : FH H L] [a : Mm (p, Is (.ins C dx fs)) L] [c : Mm (C, v) l] [n : NoF fs f] : St1 (KCo l f (.ref p) H Q) (Q v H) := ⟨fun h => ⟨p, C, dx, fs, v, rfl, F.get a.m, c.m, n.l, h⟩⟩
class StT (S : Sta) (p : Addr) (xs : outParam (List V)) : Prop where
  s : S p (.tup xs)
instance i_isS {n : String} [s : StT S p xs] [k : Kit1 "tuple" n b] : St1 (rIsS S [.ref p, .ty n] H Q) (Q (.bl b) H) := ⟨fun h => ⟨p, xs, n, rfl, s.s, by rw [k.e]; exact k.k, by rw [k.e]; exact h⟩⟩
instance i_lenS {k : Nat} [s : StT S p xs] [n : LenE xs k] : St1 (rLen S [.ref p] H Q) (Q (.int (k : Int)) H) := ⟨fun h => .inl ⟨p, xs, rfl, .inr (.inr s.s), by rw [n.e]; exact h⟩⟩
instance i_listS [s : StT S p xs] [F : FH H L] : St1 (rListOf S [.ref p] H Q) (∀ r H', H r = none → FH H' ((r, Is (.lst xs)) :: L) → Q (.ref r) H') := ⟨fun h => ⟨p, xs, rfl, .inr (.inr s.s), fun r hr => h r _ hr (F.new hr)⟩⟩
instance i_rdS [s : StT S p xs] : St1 (RdS S H p (.tup xs) ∧ A) A := ⟨fun h => ⟨.inr s.s, h⟩⟩
def KIdx (x : V) (H1 : Hp) (B : Prop) : Prop := ∃ l, x = .ref l ∧ (∃ xs, H1 l = some (.lst xs)) ∧ B
instance i_idx : St1 (eIdx te tl σ H Q) (te σ H fun x H1 => KIdx x H1 (tl σ H1 fun vs H2 => rIdx x vs H2 Q)) := ⟨id⟩
instance i_idxG [F : FH H L] [a : Mm (p, Is (.lst xs)) L] : St1 (KIdx (.ref p) H B) B := ⟨fun h => ⟨p, rfl, ⟨xs, F.get a.m⟩, h⟩⟩
def KmKw (C : Addr) (n m : Nat) (sp : Sp) (vs zs : List V) (H2 : Hp) (Q : VK) (E : XK) : Prop := vs.length = n ∧ zs.length = m ∧ ∀ x dx, H2 x = none → H2 dx = none → dx ≠ x → sp (.ref x :: (vs ++ zs)) (upd (upd H2 dx (.own x)) x (.ins C dx [])) (fun v H3 => v = .non ∧ Q (.ref x) H3) E
instance i_makeKw {n m : Nat} {tk : TA} : St1 (tMakeKw C n m sp E tl tk σ H Q) (tl σ H fun vs H1 => tk σ H1 fun zs H2 => KmKw C n m sp vs zs H2 Q E) := ⟨id⟩
instance i_makeKwG {n m : Nat} {ws : List V} [F : FH H L] [l1 : LenE xs n] [l2 : LenE ys m] [ap : AppE xs ys ws] : St1 (KmKw C n m sp xs ys H Q E) (∀ x dx H', FH H' ((x, Is (.ins C dx [])) :: L) → sp (.ref x :: ws) H' (fun v H2 => v = .non ∧ Q (.ref x) H2) E) := ⟨fun h => ⟨l1.e, l2.e, fun x dx hx hd ne => by
  rw [ap.e]
  exact h x dx _ ((F.other hd).new (by rw [upd_ne (Ne.symm ne)]; exact hx))⟩⟩
/-! tuples as targets; == of unlike kinds -/
instance i_gTup {k : Nat} {u : TGs} [F : FH H L] [a : Mm (p, Is (.tup xs)) L] [n : LenE xs k] : St1 (gTupS S k u (.ref p) σ H QS) (u xs σ H QS) := ⟨fun h => ⟨p, xs, rfl, .inl (.inl (F.get a.m)), n.e, h⟩⟩
instance i_gCons {u : TGs} : St1 (gCons g u (v :: vs) σ H QS) (g v σ H fun σ' H' => u vs σ' H' QS) := ⟨fun h => ⟨v, vs, rfl, h⟩⟩
instance i_gNil : St1 (gNil [] σ H QS) (QS σ H) := ⟨fun h => ⟨rfl, h⟩⟩
instance i_gTupA {k : Nat} {u : TGs} [F : FH H L] [a : Mm (p, Is (.tup xs)) L] [n : LenE xs k] : St1 (gTupA S k u (.ref p) σ H QS) (u xs σ H QS) := ⟨fun h => ⟨p, xs, rfl, .inr (.inl (.inl (F.get a.m))), n.e, h⟩⟩
instance i_gTupAl {k : Nat} {u : TGs} [F : FH H L] [a : Mm (p, Is (.lst xs)) L] [n : LenE xs k] : St1 (gTupA S k u (.ref p) σ H QS) (u xs σ H QS) := ⟨fun h => ⟨p, xs, rfl, .inl (.inl (.inl (F.get a.m))), n.e, h⟩⟩
instance i_gTupAs {k : Nat} {u : TGs} [a : StT S p xs] [n : LenE xs k] : St1 (gTupA S k u (.ref p) σ H QS) (u xs σ H QS) := ⟨fun h => ⟨p, xs, rfl, .inr (.inr a.s), n.e, h⟩⟩
/-! keyword-only parameters; texts; isinstance with the module's tuples -/
class TakE (ms : List V) (i : Nat) (t d : outParam (List V)) : Prop where
  e : ms.take i = t ∧ ms.drop i = d
instance tk_zero {ms : List V} : TakE ms 0 [] ms := ⟨rfl, rfl⟩
instance tk_succ {m : V} {ms t d : List V} {i : Nat} [a : TakE ms i t d] : TakE (m :: ms) (i + 1) (m :: t) d := ⟨by rw [List.take_succ_cons, a.e.1], by rw [List.drop_succ_cons, a.e.2]⟩
def KmW (C : Addr) (n m i : Nat) (ms : List V) (sp : Sp) (vs zs : List V) (H2 : Hp) (Q : VK) (E : XK) : Prop := vs.length = n ∧ zs.length = m ∧ ∀ x dx, H2 x = none → H2 dx = none → dx ≠ x → sp (.ref x :: (vs ++ (ms.take i ++ (zs ++ ms.drop i)))) (upd (upd H2 dx (.own x)) x (.ins C dx [])) (fun v H3 => v = .non ∧ Q (.ref x) H3) E
instance i_makeW {n m i : Nat} {ms : List V} {tk : TA} : St1 (tMakeW C n m i ms sp E tl tk σ H Q) (tl σ H fun vs H1 => tk σ H1 fun zs H2 => KmW C n m i ms sp vs zs H2 Q E) := ⟨id⟩
instance i_makeWG {n m i : Nat} {ms t d u w ws : List V} [F : FH H L] [l1 : LenE xs n] [l2 : LenE ys m] [tk : TakE ms i t d] [a1 : AppE ys d u] [a2 : AppE t u w] [a3 : AppE xs w ws] : St1 (KmW C n m i ms sp xs ys H Q E) (∀ x dx H', FH H' ((x, Is (.ins C dx [])) :: L) → sp (.ref x :: ws) H' (fun v H2 => v = .non ∧ Q (.ref x) H2) E) := ⟨fun h => ⟨l1.e, l2.e, fun x dx hx hd ne => by
  rw [tk.e.1, tk.e.2, a1.e, a2.e, a3.e]
  exact h x dx _ ((F.other hd).new (by rw [upd_ne (Ne.symm ne)]; exact hx))⟩⟩
def KSt (x : V) (B : Prop) : Prop := (∃ a, x = .str a) ∧ B
instance i_kst {z : Str} : St1 (KSt (.str z) B) B := ⟨fun h => ⟨⟨z, rfl⟩, h⟩⟩
instance i_tM1 {r : V → List V → Hp → VK → Prop} {to te : TE} : St1 (tM1 r to te σ H Q) (to σ H fun x H1 => KSt x (te σ H1 fun y H2 => r x [y] H2 Q)) := ⟨id⟩
instance i_cnt {y z : Str} : St1 (rCnt (.str y) [.str z] H Q) (Q (.int (Txt.count y z)) H) := ⟨fun h => ⟨y, z, rfl, rfl, h⟩⟩
instance i_isJ {xs : List V} {G : Prop} [a : St1 (rIsI xs H Q) G] : St1 (rIsJ S xs H Q) G := ⟨fun h => .inl (a.imp h)⟩
instance i_isJs {xs : List V} {G : Prop} [a : St1 (rIsS S xs H Q) G] : St1 (rIsJ S xs H Q) G := ⟨fun h => .inr (a.imp h)⟩
instance i_isU {xs : List V} {G : Prop} [a : St1 (rIsT xs H Q) G] : St1 (rIsU S xs H Q) G := ⟨fun h => .inl (a.imp h)⟩
instance i_isUs {q : Addr} {ys vs : List V} {c : Bool} [F : FH H L] [s : StT S p ys] [a : Mm (q, Is (.tup vs)) L] [k : KitA "tuple" vs c] : St1 (rIsU S [.ref p, .ref q] H Q) (Q (.bl c) H) := ⟨fun h => by
  obtain ⟨ns, h1, h2, h3⟩ := k.e
  exact .inr ⟨p, ys, q, vs, ns, rfl, s.s, F.get a.m, h1, h2, by rw [h3]; exact h⟩⟩
/-! zip, extend -/
instance i_forZp {S : Sta} {gi gj : TG} : St1 (sForZp S tl gi gj s1 ⟨nx, rt, bk, ct⟩ σ H) (tl σ H fun vs H1 => ZpS S gi gj s1 nx rt vs σ H1) := ⟨id⟩
def KExt (x : V) (H1 : Hp) (B : Prop) : Prop := ∃ l, x = .ref l ∧ (∃ xs, H1 l = some (.lst xs)) ∧ B
instance i_ext : St1 (eExt S te tl σ H Q) (te σ H fun x H1 => KExt x H1 (tl σ H1 fun vs H2 => rExt S x vs H2 Q)) := ⟨id⟩
instance i_extK [F : FH H L] [a : Mm (p, Is (.lst xs)) L] : St1 (KExt (.ref p) H B) B := ⟨fun h => ⟨p, rfl, ⟨xs, F.get a.m⟩, h⟩⟩
instance i_extL {q : Addr} {ys zs : List V} [F : FH H L] [a : Mm (p, Is (.lst xs)) L] [b : Mm (q, Is (.lst ys)) L] [x1 : Shr 100 xs] [x2 : Shr 100 ys] [ap : AppE xs ys zs] [u : PutE p (Is (.lst xs)) (Is (.lst zs)) L L'] : St1 (rExt S (.ref p) [.ref q] H Q) (∀ H', FH H' L' → Q .non H') :=
  ⟨fun h => ⟨p, q, xs, ys, rfl, rfl, F.get a.m, .inl (F.get b.m), by have := x1.l; have := x2.l; rw [sizeLine_eq]; omega, by rw [ap.e]; exact h _ (F.put u.pu trivial)⟩⟩
class StrK (z : Str) : Prop where
  k : PyData.canLay0 (.str z) = true
class FltA (xs : List V) : Prop where
  f : xs.all flatOk = true
instance flta_nil : FltA [] := ⟨rfl⟩
instance flta_non [a : FltA xs] : FltA (.non :: xs) := ⟨by rw [List.all_cons, a.f]; rfl⟩
instance flta_bl [a : FltA xs] : FltA (.bl b :: xs) := ⟨by rw [List.all_cons, a.f]; rfl⟩
instance flta_int [a : FltA xs] : FltA (.int i :: xs) := ⟨by rw [List.all_cons, a.f]; rfl⟩
instance flta_str {z : Str} [k : StrK z] [a : FltA xs] : FltA (.str z :: xs) := ⟨by rw [List.all_cons, a.f, Bool.and_true]; exact k.k⟩
instance flta_ints {ns : List Int} : FltA (ns.map V.int) := ⟨flat_ints⟩
class DpC (S : Sta) (H : Hp) (v : V) (d : outParam PyData) : Prop where
  p : DpS S H v d
  s : SeqAt.shaped d = true
instance dpc_non : DpC S H .non .none := ⟨.non, rfl⟩
instance dpc_bl : DpC S H (.bl b) (.bool b) := ⟨.bl b, rfl⟩
instance dpc_int : DpC S H (.int i) (.int i) := ⟨.int i, rfl⟩
instance dpc_str {z : Str} [k : StrK z] : DpC S H (.str z) (.str z) := ⟨.str z, by unfold SeqAt.shaped; rw [k.k]; rfl⟩
instance dpc_lst [F : FH H L] [a : Mm (p, Is (.lst xs)) L] [f : FltA xs] : DpC S H (.ref p) (.list (xs.map flatD)) := ⟨.lst (.inl (.inl (F.get a.m))) (dps_flat f.f), shaped_flatL f.f⟩
instance dpc_tup [F : FH H L] [a : Mm (p, Is (.tup xs)) L] [f : FltA xs] : DpC S H (.ref p) (.tuple (xs.map flatD)) := ⟨.tup (.inl (.inl (F.get a.m))) (dps_flat f.f), shaped_flatT f.f⟩
class EqvC (d e : PyData) (b : outParam Bool) : Prop where
  e : PyData.eqv d e = b
theorem eqG {d e : PyData} (h1 : DpS S H x d) (h2 : DpS S H y e) (s1 : SeqAt.shaped d = true) (s2 : SeqAt.shaped e = true) (ev : PyData.eqv d e = b) (h : Q (.bl b) H) : rEqP S x y H Q := .inr ⟨d, e, h1, h2, s1, s2, by rw [ev]; exact h⟩
theorem neG {d e : PyData} (h1 : DpS S H x d) (h2 : DpS S H y e) (s1 : SeqAt.shaped d = true) (s2 : SeqAt.shaped e = true) (ev : PyData.eqv d e = b) (h : Q (.bl (!b)) H) : rNeP S x y H Q := .inr ⟨d, e, h1, h2, s1, s2, by rw [ev]; exact h⟩
instance (priority := 50) i_eqG {d e : PyData} [h1 : DpC S H x d] [h2 : DpC S H y e] [v : EqvC d e b] : St1 (rEqP S x y H Q) (Q (.bl b) H) := ⟨fun h => eqG h1.p h2.p h1.s h2.s v.e h⟩
instance (priority := 50) i_neGt {d e : PyData} [h1 : DpC S H x d] [h2 : DpC S H y e] [v : EqvC d e true] : St1 (rNeP S x y H Q) (Q (.bl false) H) := ⟨fun h => neG h1.p h2.p h1.s h2.s v.e h⟩
instance (priority := 50) i_neGf {d e : PyData} [h1 : DpC S H x d] [h2 : DpC S H y e] [v : EqvC d e false] : St1 (rNeP S x y H Q) (Q (.bl true) H) := ⟨fun h => neG h1.p h2.p h1.s h2.s v.e h⟩
instance eqv_none_list {ds : List PyData} : EqvC (.none) (.list ds) false := ⟨rfl⟩
instance eqv_none_tuple {es : List PyData} : EqvC (.none) (.tuple es) false := ⟨rfl⟩
instance eqv_bool_list {b : Bool} {ds : List PyData} : EqvC (.bool b) (.list ds) false := ⟨rfl⟩
instance eqv_bool_tuple {b : Bool} {es : List PyData} : EqvC (.bool b) (.tuple es) false := ⟨rfl⟩
instance eqv_int_list {i : Int} {ds : List PyData} : EqvC (.int i) (.list ds) false := ⟨rfl⟩
instance eqv_int_tuple {i : Int} {es : List PyData} : EqvC (.int i) (.tuple es) false := ⟨rfl⟩
instance eqv_str_list {z : Str} {ds : List PyData} : EqvC (.str z) (.list ds) false := ⟨rfl⟩
instance eqv_str_tuple {z : Str} {es : List PyData} : EqvC (.str z) (.tuple es) false := ⟨rfl⟩
instance eqv_list_none {ds : List PyData} : EqvC (.list ds) (.none) false := ⟨rfl⟩
instance eqv_list_bool {ds : List PyData} {b : Bool} : EqvC (.list ds) (.bool b) false := ⟨rfl⟩
instance eqv_list_int {ds : List PyData} {i : Int} : EqvC (.list ds) (.int i) false := ⟨rfl⟩
instance eqv_list_str {ds : List PyData} {z : Str} : EqvC (.list ds) (.str z) false := ⟨rfl⟩
instance eqv_list_tuple {ds : List PyData} {es : List PyData} : EqvC (.list ds) (.tuple es) false := ⟨rfl⟩
instance eqv_tuple_none {es : List PyData} : EqvC (.tuple es) (.none) false := ⟨rfl⟩
instance eqv_tuple_bool {es : List PyData} {b : Bool} : EqvC (.tuple es) (.bool b) false := ⟨rfl⟩
instance eqv_tuple_int {es : List PyData} {i : Int} : EqvC (.tuple es) (.int i) false := ⟨rfl⟩
instance eqv_tuple_str {es : List PyData} {z : Str} : EqvC (.tuple es) (.str z) false := ⟨rfl⟩
instance eqv_tuple_list {es : List PyData} {ds : List PyData} : EqvC (.tuple es) (.list ds) false := ⟨rfl⟩
instance kit1_int_int : Kit1 "int" "int" true := ⟨kit_int_int, by decide⟩
instance kit1_int_bool : Kit1 "int" "bool" false := ⟨kit_int_bool, by decide⟩
instance kit1_int_str : Kit1 "int" "str" false := ⟨kit_int_str, by decide⟩
instance kit1_int_list : Kit1 "int" "list" false := ⟨kit_int_list, by decide⟩
instance kit1_int_tuple : Kit1 "int" "tuple" false := ⟨kit_int_tuple, by decide⟩
instance kit1_int_dict : Kit1 "int" "dict" false := ⟨kit_int_dict, by decide⟩
instance kit1_bool_int : Kit1 "bool" "int" true := ⟨kit_bool_int, by decide⟩
instance kit1_bool_bool : Kit1 "bool" "bool" true := ⟨kit_bool_bool, by decide⟩
instance kit1_bool_str : Kit1 "bool" "str" false := ⟨kit_bool_str, by decide⟩
instance kit1_bool_list : Kit1 "bool" "list" false := ⟨kit_bool_list, by decide⟩
instance kit1_bool_tuple : Kit1 "bool" "tuple" false := ⟨kit_bool_tuple, by decide⟩
instance kit1_bool_dict : Kit1 "bool" "dict" false := ⟨kit_bool_dict, by decide⟩
instance kit1_str_int : Kit1 "str" "int" false := ⟨kit_str_int, by decide⟩
instance kit1_str_bool : Kit1 "str" "bool" false := ⟨kit_str_bool, by decide⟩
instance kit1_str_str : Kit1 "str" "str" true := ⟨kit_str_str, by decide⟩
instance kit1_str_list : Kit1 "str" "list" false := ⟨kit_str_list, by decide⟩
instance kit1_str_tuple : Kit1 "str" "tuple" false := ⟨kit_str_tuple, by decide⟩
instance kit1_str_dict : Kit1 "str" "dict" false := ⟨kit_str_dict, by decide⟩
instance kit1_NoneType_int : Kit1 "NoneType" "int" false := ⟨kit_NoneType_int, by decide⟩
instance kit1_NoneType_bool : Kit1 "NoneType" "bool" false := ⟨kit_NoneType_bool, by decide⟩
instance kit1_NoneType_str : Kit1 "NoneType" "str" false := ⟨kit_NoneType_str, by decide⟩
instance kit1_NoneType_list : Kit1 "NoneType" "list" false := ⟨kit_NoneType_list, by decide⟩
instance kit1_NoneType_tuple : Kit1 "NoneType" "tuple" false := ⟨kit_NoneType_tuple, by decide⟩
instance kit1_NoneType_dict : Kit1 "NoneType" "dict" false := ⟨kit_NoneType_dict, by decide⟩
instance kit1_list_int : Kit1 "list" "int" false := ⟨kit_list_int, by decide⟩
instance kit1_list_bool : Kit1 "list" "bool" false := ⟨kit_list_bool, by decide⟩
instance kit1_list_str : Kit1 "list" "str" false := ⟨kit_list_str, by decide⟩
instance kit1_list_list : Kit1 "list" "list" true := ⟨kit_list_list, by decide⟩
instance kit1_list_tuple : Kit1 "list" "tuple" false := ⟨kit_list_tuple, by decide⟩
instance kit1_list_dict : Kit1 "list" "dict" false := ⟨kit_list_dict, by decide⟩
instance kit1_tuple_int : Kit1 "tuple" "int" false := ⟨kit_tuple_int, by decide⟩
instance kit1_tuple_bool : Kit1 "tuple" "bool" false := ⟨kit_tuple_bool, by decide⟩
instance kit1_tuple_str : Kit1 "tuple" "str" false := ⟨kit_tuple_str, by decide⟩
instance kit1_tuple_list : Kit1 "tuple" "list" false := ⟨kit_tuple_list, by decide⟩
instance kit1_tuple_tuple : Kit1 "tuple" "tuple" true := ⟨kit_tuple_tuple, by decide⟩
instance kit1_tuple_dict : Kit1 "tuple" "dict" false := ⟨kit_tuple_dict, by decide⟩
instance kit1_dict_int : Kit1 "dict" "int" false := ⟨kit_dict_int, by decide⟩
instance i_isr_dict_int {kvs : List (Key × V)} [F : FH H L] [a : Mm (p, Is (.dK kvs)) L] : St1 (rIsI [.ref p, .ty "int"] H Q) (Q (.bl false) H) := ⟨fun h => isi_of (.dK (F.get a.m)) kit_dict_int rfl h⟩
instance kit1_dict_bool : Kit1 "dict" "bool" false := ⟨kit_dict_bool, by decide⟩
instance i_isr_dict_bool {kvs : List (Key × V)} [F : FH H L] [a : Mm (p, Is (.dK kvs)) L] : St1 (rIsI [.ref p, .ty "bool"] H Q) (Q (.bl false) H) := ⟨fun h => isi_of (.dK (F.get a.m)) kit_dict_bool rfl h⟩
instance kit1_dict_str : Kit1 "dict" "str" false := ⟨kit_dict_str, by decide⟩
instance i_isr_dict_str {kvs : List (Key × V)} [F : FH H L] [a : Mm (p, Is (.dK kvs)) L] : St1 (rIsI [.ref p, .ty "str"] H Q) (Q (.bl false) H) := ⟨fun h => isi_of (.dK (F.get a.m)) kit_dict_str rfl h⟩
instance kit1_dict_list : Kit1 "dict" "list" false := ⟨kit_dict_list, by decide⟩
instance i_isr_dict_list {kvs : List (Key × V)} [F : FH H L] [a : Mm (p, Is (.dK kvs)) L] : St1 (rIsI [.ref p, .ty "list"] H Q) (Q (.bl false) H) := ⟨fun h => isi_of (.dK (F.get a.m)) kit_dict_list rfl h⟩
instance kit1_dict_tuple : Kit1 "dict" "tuple" false := ⟨kit_dict_tuple, by decide⟩
instance i_isr_dict_tuple {kvs : List (Key × V)} [F : FH H L] [a : Mm (p, Is (.dK kvs)) L] : St1 (rIsI [.ref p, .ty "tuple"] H Q) (Q (.bl false) H) := ⟨fun h => isi_of (.dK (F.get a.m)) kit_dict_tuple rfl h⟩
instance kit1_dict_dict : Kit1 "dict" "dict" true := ⟨kit_dict_dict, by decide⟩
instance i_isr_dict_dict {kvs : List (Key × V)} [F : FH H L] [a : Mm (p, Is (.dK kvs)) L] : St1 (rIsI [.ref p, .ty "dict"] H Q) (Q (.bl true) H) := ⟨fun h => isi_of (.dK (F.get a.m)) kit_dict_dict rfl h⟩
/-- a comprehension over a range: a map -/
theorem lcRM {tel : TE} {us : List Nat} {σw : L2.St} (n : Nat) (f : Nat → V) (ej : j = (n : Int)) (hn : n < 16777216) (F : FH H L) (ew : wipe σ us = σw)
    (hs : ∀ (i : Nat) H (QX : V → Hp → Prop), i < n → FH H L → QX (f i) H → g (.int (i : Int)) σw H fun σ2 H2 => wipe σ2 us = σw ∧ tel σ2 H2 QX)
    (hd : ∀ D H', FH H' ((D, Is (.lst ((List.range n).map f))) :: L) → Q (.ref D) H') : LcR g tYes tel us Q (.int j) σ H := by
  subst ew ej
  have e62 : (2 : Int) ^ 62 = 4611686018427387904 := by decide
  refine ⟨_, rfl, ⟨by rw [e62]; decide, by rw [e62]; decide, by rw [e62]; omega, by rw [e62]; omega⟩, fun D hD => ⟨fun i H => FH H ((D, Is (.lst ((List.range i).map f))) :: L), F.new hD, fun i H hi q => ?_, fun H q => hd D H ?_⟩⟩
  · have h := hs i H (fun z H4 => ∃ acc, H4 D = some (.lst acc) ∧ acc.length < sizeLine ∧ FH (upd H4 D (.lst (acc ++ [z]))) ((D, Is (.lst ((List.range (i + 1)).map f))) :: L)) (by omega) q.tail ⟨_, q.get (List.Mem.head _), by rw [sizeLine_eq, List.length_map, List.length_range]; omega, by rw [List.range_succ, List.map_append]; exact q.put .here trivial⟩
    rw [Int.zero_add]
    exact h
  · have e1 : ((n : Int) - 0).toNat = n := by omega
    dsimp only at q
    rw [e1] at q
    exact q
/-! unrolled where Unr is an instance -/
class Unr : Prop where
  t : True
class Lit (xs : List V) : Prop where
  t : True
instance lit_nil : Lit [] := ⟨trivial⟩
instance lit_cons [a : Lit xs] : Lit (x :: xs) := ⟨trivial⟩
class RgE (j : Int) (n : outParam Nat) (xs : outParam (List V)) : Prop where
  j : j = (n : Int)
  l : n < 1000
  e : (List.range n).map (fun (i : Nat) => V.int (0 + (i : Int))) = xs
def forKL (g : TG) (s1 : TS) (P bk : K0) (rt : VK) : List V → L2.St → Hp → Prop
  | [], σ, H => P σ H
  | x :: xs, σ, H => g x σ H fun σ' H' => s1 ⟨forKL g s1 P bk rt xs, rt, bk, forKL g s1 P bk rt xs⟩ σ' H'
instance i_forKL {P : K0} : St1 (forKL g s1 P bk rt (x :: xs) σ H) (g x σ H fun σ' H' => s1 ⟨forKL g s1 P bk rt xs, rt, bk, forKL g s1 P bk rt xs⟩ σ' H') := ⟨id⟩
instance i_forKL0 {P : K0} : St1 (forKL g s1 P bk rt [] σ H) (P σ H) := ⟨id⟩
theorem forRU (n : Nat) (ej : j = (n : Int)) (hn : n < 1000) (exs : (List.range n).map (fun (i : Nat) => V.int (0 + (i : Int))) = xs) (h : forKL g s1 nx nx rt xs σ H) : ForR g s1 nx rt 0 j σ H := by
  subst ej exs
  have e62 : (2 : Int) ^ 62 = 4611686018427387904 := by decide
  refine ⟨⟨by rw [e62]; decide, by rw [e62]; decide, by rw [e62]; omega, by rw [e62]; omega⟩, fun i σ H => forKL g s1 nx nx rt (((List.range n).map (fun (i : Nat) => V.int (0 + (i : Int)))).drop i) σ H, by (dsimp only; rw [List.drop_zero]; exact h), fun i σ H hi q => ?_, fun σ H q => ?_⟩
  · dsimp only at q
    have hl : i < ((List.range n).map (fun (i : Nat) => V.int (0 + (i : Int)))).length := by rw [List.length_map, List.length_range]; omega
    rw [List.drop_eq_getElem_cons hl] at q
    rw [List.getElem_map, List.getElem_range] at q
    exact q
  · have e1 : ((n : Int) - 0).toNat = n := by omega
    dsimp only at q
    rw [e1, List.drop_of_length_le (by rw [List.length_map, List.length_range]; exact Nat.le_refl _)] at q
    exact q
instance i_forRU [Unr] {n : Nat} [r : RgE j n xs] : St1 (ForR g s1 nx rt 0 j σ H) (forKL g s1 nx nx rt xs σ H) := ⟨fun h => forRU n r.j r.l r.e h⟩
instance i_lcRU [Unr] {tt : TT} {tel : TE} {us : List Nat} {σw : L2.St} {n : Nat} [F : FH H L] [r : RgE j n xs] [e : WipeE σ us σw] : St1 (LcR g tt tel us Q (.int j) σ H) (∀ D H', FH H' ((D, Is (.lst [])) :: L) → lcKR g tt tel us σw D Q xs H') := ⟨fun h => lcRU n r.j (by have := r.l; omega) r.e F e.e h⟩
instance i_lcLU [Unr] {tt : TT} {tel : TE} {us : List Nat} {σw : L2.St} [F : FH H L] [a : Mm (p, Is (.lst xs)) L] [l : Lit xs] [e : WipeE σ us σw] : St1 (LcS S g tt tel us Q (.ref p) σ H) (∀ D H', FH H' ((D, Is (.lst [])) :: L) → lcKS S p (.lst xs) g tt tel us σw D Q xs H') := ⟨fun h => lcLU F a.m e.e h⟩
theorem lcSU {tt : TT} {tel : TE} {vs : List Nat} {σw : L2.St} (F : FH H L) (st : S p (.tup xs)) (ew : wipe σ vs = σw) (h : ∀ D H', FH H' ((D, Is (.lst [])) :: L) → lcKS S p (.tup xs) g tt tel vs σw D Q xs H') : LcS S g tt tel vs Q (.ref p) σ H := by
  subst ew
  refine ⟨p, xs, rfl, false, .inr st, fun D hD => ⟨fun i H => RdS S H p (.tup xs) ∧ lcKS S p (.tup xs) g tt tel vs (wipe σ vs) D Q (xs.drop i) H, ⟨.inr st, by rw [List.drop_zero]; exact h D _ (F.new hD)⟩, fun i H _ q => q.1, fun i y H e q => ?_, fun H q => ?_⟩⟩
  · obtain ⟨_, q⟩ := q
    have hi := (List.getElem?_eq_some_iff.mp e)
    rw [List.drop_eq_getElem_cons hi.1, hi.2] at q
    exact q
  · obtain ⟨_, q⟩ := q
    rw [List.drop_length] at q
    exact q
instance i_lcSU [Unr] {tt : TT} {tel : TE} {us : List Nat} {σw : L2.St} [F : FH H L] [a : StT S p xs] [e : WipeE σ us σw] : St1 (LcS S g tt tel us Q (.ref p) σ H) (∀ D H', FH H' ((D, Is (.lst [])) :: L) → lcKS S p (.tup xs) g tt tel us σw D Q xs H') := ⟨fun h => lcSU F a.s e.e h⟩
instance i_forLU [Unr] [F : FH H L] [a : Mm (p, Is (.lst xs)) L] [l : Lit xs] : St1 (ForS S g s1 nx rt (.ref p) σ H) (forKS S p (.lst xs) g s1 nx nx rt xs σ H) := ⟨fun h => forLU F a.m h⟩
instance rg0 : RgE 0 0 [] := ⟨rfl, by decide, rfl⟩
instance rg1 : RgE 1 1 [.int 0] := ⟨rfl, by decide, rfl⟩
instance rg2 : RgE 2 2 [.int 0, .int 1] := ⟨rfl, by decide, rfl⟩
instance rg3 : RgE 3 3 [.int 0, .int 1, .int 2] := ⟨rfl, by decide, rfl⟩
instance rg4 : RgE 4 4 [.int 0, .int 1, .int 2, .int 3] := ⟨rfl, by decide, rfl⟩
instance rg5 : RgE 5 5 [.int 0, .int 1, .int 2, .int 3, .int 4] := ⟨rfl, by decide, rfl⟩
instance rg6 : RgE 6 6 [.int 0, .int 1, .int 2, .int 3, .int 4, .int 5] := ⟨rfl, by decide, rfl⟩
instance rg7 : RgE 7 7 [.int 0, .int 1, .int 2, .int 3, .int 4, .int 5, .int 6] := ⟨rfl, by decide, rfl⟩
instance rg8 : RgE 8 8 [.int 0, .int 1, .int 2, .int 3, .int 4, .int 5, .int 6, .int 7] := ⟨rfl, by decide, rfl⟩
instance rg9 : RgE 9 9 [.int 0, .int 1, .int 2, .int 3, .int 4, .int 5, .int 6, .int 7, .int 8] := ⟨rfl, by decide, rfl⟩
instance rg10 : RgE 10 10 [.int 0, .int 1, .int 2, .int 3, .int 4, .int 5, .int 6, .int 7, .int 8, .int 9] := ⟨rfl, by decide, rfl⟩
instance rg11 : RgE 11 11 [.int 0, .int 1, .int 2, .int 3, .int 4, .int 5, .int 6, .int 7, .int 8, .int 9, .int 10] := ⟨rfl, by decide, rfl⟩
instance rg12 : RgE 12 12 [.int 0, .int 1, .int 2, .int 3, .int 4, .int 5, .int 6, .int 7, .int 8, .int 9, .int 10, .int 11] := ⟨rfl, by decide, rfl⟩
instance rg13 : RgE 13 13 [.int 0, .int 1, .int 2, .int 3, .int 4, .int 5, .int 6, .int 7, .int 8, .int 9, .int 10, .int 11, .int 12] := ⟨rfl, by decide, rfl⟩
instance rg14 : RgE 14 14 [.int 0, .int 1, .int 2, .int 3, .int 4, .int 5, .int 6, .int 7, .int 8, .int 9, .int 10, .int 11, .int 12, .int 13] := ⟨rfl, by decide, rfl⟩
instance rg15 : RgE 15 15 [.int 0, .int 1, .int 2, .int 3, .int 4, .int 5, .int 6, .int 7, .int 8, .int 9, .int 10, .int 11, .int 12, .int 13, .int 14] := ⟨rfl, by decide, rfl⟩
instance rg16 : RgE 16 16 [.int 0, .int 1, .int 2, .int 3, .int 4, .int 5, .int 6, .int 7, .int 8, .int 9, .int 10, .int 11, .int 12, .int 13, .int 14, .int 15] := ⟨rfl, by decide, rfl⟩
/-! heads -/
class HdAr (G : Prop) : Prop where
  t : True
theorem hdAr_is {G : Prop} [HdAr G] (h : G) : G := h
class HdIx (G : Prop) : Prop where
  t : True
theorem hdIx_is {G : Prop} [HdIx G] (h : G) : G := h
class HdEq (G : Prop) : Prop where
  t : True
theorem hdEq_is {G : Prop} [HdEq G] (h : G) : G := h
class HdIn (G : Prop) : Prop where
  t : True
theorem hdIn_is {G : Prop} [HdIn G] (h : G) : G := h
class HdTy (G : Prop) : Prop where
  t : True
theorem hdTy_is {G : Prop} [HdTy G] (h : G) : G := h
class HdFm (G : Prop) : Prop where
  t : True
theorem hdFm_is {G : Prop} [HdFm G] (h : G) : G := h
class HdK (G : Prop) : Prop where
  t : True
theorem hdK_is {G : Prop} [HdK G] (h : G) : G := h
instance hd0 : HdIx (rIx S x y H Q) := ⟨trivial⟩
instance hd1 : HdIx (rLen S xs H Q) := ⟨trivial⟩
instance hd2 : HdIx (rSl S x lo hi H Q) := ⟨trivial⟩
instance hd3 : HdEq (rEqP S x y H Q) := ⟨trivial⟩
instance hd4 : HdEq (rNeP S x y H Q) := ⟨trivial⟩
instance hd5 : HdEq (rEq x y H Q) := ⟨trivial⟩
instance hd6 : HdEq (rNe x y H Q) := ⟨trivial⟩
instance hd7 : HdAr (rMul x y H Q) := ⟨trivial⟩
instance hd8 : HdAr (rFdiv x y H Q) := ⟨trivial⟩
instance hd9 : HdAr (rMod x y H Q) := ⟨trivial⟩
instance hd10 : HdAr (rPow x y H Q) := ⟨trivial⟩
instance hd11 : HdAr (rShl x y H Q) := ⟨trivial⟩
instance hd12 : HdAr (rStrI xs H Q) := ⟨trivial⟩
instance hd13 : HdIn (rInA S b x y H Q) := ⟨trivial⟩
instance hd14 : Hd (rSum S xs H Q) := ⟨trivial⟩
instance hd15 : Hd (rAll S xs H Q) := ⟨trivial⟩
instance hd16 : Hd (rAdd x y H Q) := ⟨trivial⟩
instance hd17 : HdTy (rIsI xs H Q) := ⟨trivial⟩
instance hd18 {tbl : List (Value × V × Bool)} {a : Value} {z : Option Addr} : Hd (rIsX tbl C a z xs H Q) := ⟨trivial⟩
instance hd19 : Hd (rGetL x y H Q) := ⟨trivial⟩
instance hd20 {QH : Hp → Prop} : Hd (rSetL x y v H QH) := ⟨trivial⟩
instance hd21 : Hd (Klst xs H Q) := ⟨trivial⟩
instance hd22 : Hd (Ktup xs H Q) := ⟨trivial⟩
instance hd23 {QH : Hp → Prop} : Hd (lcPut p v QH H) := ⟨trivial⟩
instance hd24 : Hd (rAppend x xs H Q) := ⟨trivial⟩
instance hd25 : Hd (tSupM Cs sp E tl σ H Q) := ⟨trivial⟩
instance hd26 {QK : Bool → Prop} : HdK (KBl x QK) := ⟨trivial⟩
instance hd27 {QK : Int → Prop} : HdK (KIn x QK) := ⟨trivial⟩
instance hd28 : HdK (KFl C f x H Q) := ⟨trivial⟩
instance hd29 : HdK (KFlD Cs f x H Q) := ⟨trivial⟩
instance hd30 {QH : Hp → Prop} : HdK (KSf C f x y H QH) := ⟨trivial⟩
instance hd31 {QH : Hp → Prop} : HdK (KSfD Cs f x y H QH) := ⟨trivial⟩
instance hd32 {QAV : Addr → V → Prop} : HdK (KAf C f x H QAV) := ⟨trivial⟩
instance hd33 {QH : Hp → Prop} : HdK (KAs C f p x H QH) := ⟨trivial⟩
instance hd34 {QAV : Addr → Addr → V → Prop} : HdK (KAfD Cs f x H QAV) := ⟨trivial⟩
instance hd35 : HdK (KMe C m x H B) := ⟨trivial⟩
instance hd36 {QB2 : Sp → Prop} : HdK (KMD ls m x H QB2) := ⟨trivial⟩
instance hd37 {QA : Addr → Prop} : HdK (KPr C x H QA) := ⟨trivial⟩
instance hd38 {QA : Addr → Sp → Prop} : HdK (KPrD ls x H QA) := ⟨trivial⟩
instance hd39 : HdK (KAp x H B) := ⟨trivial⟩
instance hd40 {tab : List (Value × Nat)} {cl : List Sui} {D : Ends} {cls : Value} {d : Option Addr} : Hd (wT tab cl D cls d σ H) := ⟨trivial⟩
instance hd41 : Hd (A ∧ B) := ⟨trivial⟩
instance hd42 : HdFm (KFm xs A) := ⟨trivial⟩
instance hd43 : Hd (rIsT xs H Q) := ⟨trivial⟩
instance hd44 : Hd (rIns x xs H Q) := ⟨trivial⟩
instance hd45 : Hd (rListOf S xs H Q) := ⟨trivial⟩
instance hd46 : Hd (rTupleOf S xs H Q) := ⟨trivial⟩
instance hd47 {D : Addr} {tbl : List (Addr × Bool)} : Hd (rIsO D tbl xs H Q) := ⟨trivial⟩
instance hd48 {l : List (Addr × V)} : HdK (KCo l f x H Q) := ⟨trivial⟩
instance hd49 : Hd (rIsS S xs H Q) := ⟨trivial⟩
instance hd50 : HdK (KIdx x H B) := ⟨trivial⟩
instance hd51 : Hd (rIdx x xs H Q) := ⟨trivial⟩
end
end Y

namespace Y.k17
open PySem PySem.Spec PyProof.Rows L2
/-! ### the readings -/
structure Cl where
  S : Sta
  c_Alarms : Addr
  c_InvalidSetting : Addr
  c_InvalidNumber : Addr
  c_LossError : Addr
  g_ALARMS : Addr
  hg_ALARMS : S g_ALARMS (.tup [.str "resend", .str "probe", .str "delay", .str "pace", .str "alive", .str "rest"])
  tb_Alarms_due : Addr
def t_bag (a : Cl) (E : XK) : TS :=
  (tSeq (tAsg (eLc a.S (tVar 0) (gName 2) (tTest (tOp rGe (tCB rAbs (tCons (tVar 2) tNil)) (tOp rPow (tC (.int 10)) (tC (.int 18))))) (tCB rAbs (tCons (tVar 2) tNil)) [2]) (gName 1))
    (tSeq (tAsg (eLc a.S (tVar 0) (gName 2) tYes (tOp rMod (tCB rInt (tCons (tVar 2) tNil)) (tC (.int 2147483647))) [2]) (gName 3))
    (tRet (tLst (tCons (tVar 1) (tCons (tVar 3) (tCons (tC (.int 0)) (tCons (tOp rMod (tCB rInt (tCons (tCB (rSum a.S) (tCons (tVar 3) tNil)) tNil)) (tC (.int 2147483629))) tNil))))))))
def sp_bag (a : Cl) : Sp := spB 4 1 (t_bag a)
theorem in_bag {a : Cl} {v0 : V} {H : Hp} {Q : VK} {E : XK} (h : (tSeq (tAsg (eLc a.S (tVar 0) (gName 2) (tTest (tOp rGe (tCB rAbs (tCons (tVar 2) tNil)) (tOp rPow (tC (.int 10)) (tC (.int 18))))) (tCB rAbs (tCons (tVar 2) tNil)) [2]) (gName 1))
    (tSeq (tAsg (eLc a.S (tVar 0) (gName 2) tYes (tOp rMod (tCB rInt (tCons (tVar 2) tNil)) (tC (.int 2147483647))) [2]) (gName 3))
    (tRet (tLst (tCons (tVar 1) (tCons (tVar 3) (tCons (tC (.int 0)) (tCons (tOp rMod (tCB rInt (tCons (tCB (rSum a.S) (tCons (tVar 3) tNil)) tNil)) (tC (.int 2147483629))) tNil)))))))) ⟨fun _ H' => Q .non H', Q, fun _ _ => False, fun _ _ => False⟩ [some v0, none, none, none] H) : sp_bag a [v0] H Q E := ⟨rfl, h⟩
def t_take (a : Cl) (E : XK) : TS :=
  (tSeq (tAsg (tOp rAdd (tOp (rIx a.S) (tVar 0) (tC (.int 2))) (tC (.int 1))) (gSub (tVar 0) (tC (.int 2)) rSetL))
    (tSeq (tIfS (tTest (tOp (rNeP a.S) (tOp (rIx a.S) (tVar 0) (tC (.int 0))) (tLst tNil))) (tSeq (tAsg (tOp (rIx a.S) (tOp (rIx a.S) (tVar 0) (tC (.int 0))) (tC (.int 0))) (gName 2))
    (tSeq (tIfS (tTest (tOp rGe (tVar 2) (tVar 1))) (tAsg (tOp rAdd (tLst (tCons (tOp rFdiv (tVar 2) (tVar 1)) tNil)) (L2.tSl (rSl a.S) (tOp (rIx a.S) (tVar 0) (tC (.int 0))) (tPart (tC (.int 1))) tNoPart)) (gSub (tVar 0) (tC (.int 0)) rSetL)) (tAsg (L2.tSl (rSl a.S) (tOp (rIx a.S) (tVar 0) (tC (.int 0))) (tPart (tC (.int 1))) tNoPart) (gSub (tVar 0) (tC (.int 0)) rSetL)))
    (tRet (tOp rMod (tCB rInt (tCons (tVar 2) tNil)) (tVar 1))))) tNext)
    (tSeq (tIfS (tTest (tOp (rEqP a.S) (tOp (rIx a.S) (tVar 0) (tC (.int 1))) (tLst tNil))) (tRet (tOp rMod (tCB rInt (tCons (tOp (rIx a.S) (tVar 0) (tC (.int 2))) tNil)) (tVar 1))) tNext)
    (tSeq (tAsg (tOp (rIx a.S) (tOp (rIx a.S) (tVar 0) (tC (.int 1))) (tOp rMod (tCB rInt (tCons (tOp (rIx a.S) (tVar 0) (tC (.int 2))) tNil)) (tCB (rLen a.S) (tCons (tOp (rIx a.S) (tVar 0) (tC (.int 1))) tNil)))) (gName 3))
    (tSeq (tAsg (tOp rMod (tCB rInt (tCons (tOp rAdd (tOp rAdd (tOp rAdd (tOp rMul (tVar 3) (tC (.int 48271))) (tOp rMul (tOp (rIx a.S) (tVar 0) (tC (.int 3))) (tC (.int 16807)))) (tOp rMul (tOp (rIx a.S) (tVar 0) (tC (.int 2))) (tC (.int 69621)))) (tC (.int 11))) tNil)) (tC (.int 2147483647))) (gName 4))
    (tSeq (tAsg (tOp rMod (tCB rInt (tCons (tOp rAdd (tOp rAdd (tOp rFdiv (tOp rMul (tVar 4) (tVar 4)) (tC (.int 4096))) (tOp rMul (tVar 4) (tC (.int 40014)))) (tOp rMul (tOp (rIx a.S) (tVar 0) (tC (.int 2))) (tC (.int 271)))) tNil)) (tC (.int 2147483629))) (gName 5))
    (tRet (tOp rMod (tCB rInt (tCons (tOp rFdiv (tOp rAdd (tOp rMul (tVar 4) (tC (.int 2147483629))) (tVar 5)) (tC (.int 32))) tNil)) (tVar 1)))))))))
def sp_take (a : Cl) : Sp := spB 6 2 (t_take a)
theorem in_take {a : Cl} {v0 v1 : V} {H : Hp} {Q : VK} {E : XK} (h : (tSeq (tAsg (tOp rAdd (tOp (rIx a.S) (tVar 0) (tC (.int 2))) (tC (.int 1))) (gSub (tVar 0) (tC (.int 2)) rSetL))
    (tSeq (tIfS (tTest (tOp (rNeP a.S) (tOp (rIx a.S) (tVar 0) (tC (.int 0))) (tLst tNil))) (tSeq (tAsg (tOp (rIx a.S) (tOp (rIx a.S) (tVar 0) (tC (.int 0))) (tC (.int 0))) (gName 2))
    (tSeq (tIfS (tTest (tOp rGe (tVar 2) (tVar 1))) (tAsg (tOp rAdd (tLst (tCons (tOp rFdiv (tVar 2) (tVar 1)) tNil)) (L2.tSl (rSl a.S) (tOp (rIx a.S) (tVar 0) (tC (.int 0))) (tPart (tC (.int 1))) tNoPart)) (gSub (tVar 0) (tC (.int 0)) rSetL)) (tAsg (L2.tSl (rSl a.S) (tOp (rIx a.S) (tVar 0) (tC (.int 0))) (tPart (tC (.int 1))) tNoPart) (gSub (tVar 0) (tC (.int 0)) rSetL)))
    (tRet (tOp rMod (tCB rInt (tCons (tVar 2) tNil)) (tVar 1))))) tNext)
    (tSeq (tIfS (tTest (tOp (rEqP a.S) (tOp (rIx a.S) (tVar 0) (tC (.int 1))) (tLst tNil))) (tRet (tOp rMod (tCB rInt (tCons (tOp (rIx a.S) (tVar 0) (tC (.int 2))) tNil)) (tVar 1))) tNext)
    (tSeq (tAsg (tOp (rIx a.S) (tOp (rIx a.S) (tVar 0) (tC (.int 1))) (tOp rMod (tCB rInt (tCons (tOp (rIx a.S) (tVar 0) (tC (.int 2))) tNil)) (tCB (rLen a.S) (tCons (tOp (rIx a.S) (tVar 0) (tC (.int 1))) tNil)))) (gName 3))
    (tSeq (tAsg (tOp rMod (tCB rInt (tCons (tOp rAdd (tOp rAdd (tOp rAdd (tOp rMul (tVar 3) (tC (.int 48271))) (tOp rMul (tOp (rIx a.S) (tVar 0) (tC (.int 3))) (tC (.int 16807)))) (tOp rMul (tOp (rIx a.S) (tVar 0) (tC (.int 2))) (tC (.int 69621)))) (tC (.int 11))) tNil)) (tC (.int 2147483647))) (gName 4))
    (tSeq (tAsg (tOp rMod (tCB rInt (tCons (tOp rAdd (tOp rAdd (tOp rFdiv (tOp rMul (tVar 4) (tVar 4)) (tC (.int 4096))) (tOp rMul (tVar 4) (tC (.int 40014)))) (tOp rMul (tOp (rIx a.S) (tVar 0) (tC (.int 2))) (tC (.int 271)))) tNil)) (tC (.int 2147483629))) (gName 5))
    (tRet (tOp rMod (tCB rInt (tCons (tOp rFdiv (tOp rAdd (tOp rMul (tVar 4) (tC (.int 2147483629))) (tVar 5)) (tC (.int 32))) tNil)) (tVar 1))))))))) ⟨fun _ H' => Q .non H', Q, fun _ _ => False, fun _ _ => False⟩ [some v0, some v1, none, none, none, none] H) : sp_take a [v0, v1] H Q E := ⟨rfl, h⟩
def t_names (a : Cl) (E : XK) : TS :=
  (tRet (tTupZ (tCons (tC (.str "resend")) (tCons (tC (.str "probe")) (tCons (tC (.str "delay")) (tCons (tC (.str "pace")) (tCons (tC (.str "alive")) (tCons (tC (.str "rest")) tNil))))))))
def sp_names (a : Cl) : Sp := spB 0 0 (t_names a)
theorem in_names {a : Cl} {H : Hp} {Q : VK} {E : XK} (h : (tRet (tTupZ (tCons (tC (.str "resend")) (tCons (tC (.str "probe")) (tCons (tC (.str "delay")) (tCons (tC (.str "pace")) (tCons (tC (.str "alive")) (tCons (tC (.str "rest")) tNil)))))))) ⟨fun _ H' => Q .non H', Q, fun _ _ => False, fun _ _ => False⟩ [] H) : sp_names a [] H Q E := ⟨rfl, h⟩
def t_Alarms___init__ (a : Cl) (E : XK) : TS :=
  (sSetF a.c_Alarms "times" (tVar 0) tDNewK)
def sp_Alarms___init__ (a : Cl) : Sp := spB 1 1 (t_Alarms___init__ a)
theorem in_Alarms___init__ {a : Cl} {v0 : V} {H : Hp} {Q : VK} {E : XK} (h : (sSetF a.c_Alarms "times" (tVar 0) tDNewK) ⟨fun _ H' => Q .non H', Q, fun _ _ => False, fun _ _ => False⟩ [some v0] H) : sp_Alarms___init__ a [v0] H Q E := ⟨rfl, h⟩
def t_is_alarm (a : Cl) (E : XK) : TS :=
  (tRet (tAndV (tCB rIsI (tCons (tVar 0) (tCons (tC (.ty "str")) tNil))) (tOp (rInA a.S false) (tVar 0) (eCon (.ref a.g_ALARMS)))))
def sp_is_alarm (a : Cl) : Sp := spB 1 1 (t_is_alarm a)
theorem in_is_alarm {a : Cl} {v0 : V} {H : Hp} {Q : VK} {E : XK} (h : (tRet (tAndV (tCB rIsI (tCons (tVar 0) (tCons (tC (.ty "str")) tNil))) (tOp (rInA a.S false) (tVar 0) (eCon (.ref a.g_ALARMS))))) ⟨fun _ H' => Q .non H', Q, fun _ _ => False, fun _ _ => False⟩ [some v0] H) : sp_is_alarm a [v0] H Q E := ⟨rfl, h⟩
def t_Alarms_when (a : Cl) (E : XK) : TS :=
  (tSeq (tIfS (tNot (tB (tCall (sp_is_alarm a) [] E (tCons (tVar 1) tNil)))) (sRaise E (tMkC a.c_InvalidSetting ["setting"] (tCons (tVar 1) tNil))) tNext)
    (tRet (tDGet1 (eFld a.c_Alarms "times" (tVar 0)) (tVar 1))))
def sp_Alarms_when (a : Cl) : Sp := spB 2 2 (t_Alarms_when a)
theorem in_Alarms_when {a : Cl} {v0 v1 : V} {H : Hp} {Q : VK} {E : XK} (h : (tSeq (tIfS (tNot (tB (tCall (sp_is_alarm a) [] E (tCons (tVar 1) tNil)))) (sRaise E (tMkC a.c_InvalidSetting ["setting"] (tCons (tVar 1) tNil))) tNext)
    (tRet (tDGet1 (eFld a.c_Alarms "times" (tVar 0)) (tVar 1)))) ⟨fun _ H' => Q .non H', Q, fun _ _ => False, fun _ _ => False⟩ [some v0, some v1] H) : sp_Alarms_when a [v0, v1] H Q E := ⟨rfl, h⟩
def t_Alarms___contains__ (a : Cl) (E : XK) : TS :=
  (tRet (tAndV (tCall (sp_is_alarm a) [] E (tCons (tVar 1) tNil)) (tDIn (tVar 1) (eFld a.c_Alarms "times" (tVar 0)))))
def sp_Alarms___contains__ (a : Cl) : Sp := spB 2 2 (t_Alarms___contains__ a)
theorem in_Alarms___contains__ {a : Cl} {v0 v1 : V} {H : Hp} {Q : VK} {E : XK} (h : (tRet (tAndV (tCall (sp_is_alarm a) [] E (tCons (tVar 1) tNil)) (tDIn (tVar 1) (eFld a.c_Alarms "times" (tVar 0))))) ⟨fun _ H' => Q .non H', Q, fun _ _ => False, fun _ _ => False⟩ [some v0, some v1] H) : sp_Alarms___contains__ a [v0, v1] H Q E := ⟨rfl, h⟩
def t_whole (a : Cl) (E : XK) : TS :=
  (tRet (tAndV (tCB rIsI (tCons (tVar 0) (tCons (tC (.ty "int")) tNil))) (tNotV (tCB rIsI (tCons (tVar 0) (tCons (tC (.ty "bool")) tNil))))))
def sp_whole (a : Cl) : Sp := spB 1 1 (t_whole a)
theorem in_whole {a : Cl} {v0 : V} {H : Hp} {Q : VK} {E : XK} (h : (tRet (tAndV (tCB rIsI (tCons (tVar 0) (tCons (tC (.ty "int")) tNil))) (tNotV (tCB rIsI (tCons (tVar 0) (tCons (tC (.ty "bool")) tNil)))))) ⟨fun _ H' => Q .non H', Q, fun _ _ => False, fun _ _ => False⟩ [some v0] H) : sp_whole a [v0] H Q E := ⟨rfl, h⟩
def t_Alarms_soonest (a : Cl) (E : XK) : TS :=
  (tRet (tCKw (rMinD a.S) (tCons (tListV (eFld a.c_Alarms "times" (tVar 0))) tNil) (tCons (tC .non) tNil)))
def sp_Alarms_soonest (a : Cl) : Sp := spB 1 1 (t_Alarms_soonest a)
theorem in_Alarms_soonest {a : Cl} {v0 : V} {H : Hp} {Q : VK} {E : XK} (h : (tRet (tCKw (rMinD a.S) (tCons (tListV (eFld a.c_Alarms "times" (tVar 0))) tNil) (tCons (tC .non) tNil))) ⟨fun _ H' => Q .non H', Q, fun _ _ => False, fun _ _ => False⟩ [some v0] H) : sp_Alarms_soonest a [v0] H Q E := ⟨rfl, h⟩
def t_Alarms___len__ (a : Cl) (E : XK) : TS :=
  (tRet (tCB rLenD (tCons (eFld a.c_Alarms "times" (tVar 0)) tNil)))
def sp_Alarms___len__ (a : Cl) : Sp := spB 1 1 (t_Alarms___len__ a)
theorem in_Alarms___len__ {a : Cl} {v0 : V} {H : Hp} {Q : VK} {E : XK} (h : (tRet (tCB rLenD (tCons (eFld a.c_Alarms "times" (tVar 0)) tNil))) ⟨fun _ H' => Q .non H', Q, fun _ _ => False, fun _ _ => False⟩ [some v0] H) : sp_Alarms___len__ a [v0] H Q E := ⟨rfl, h⟩
def t_set (a : Cl) (E : XK) : TS :=
  (tSeq (tAsg (tCall (sp_names a) [] E tNil) (gName 2))
    (tSeq (sForR none (tC (.int 6)) (gName 3) (tSeq (tAsg (tMeth a.c_Alarms "when" (sp_Alarms_when a) [] E (tVar 0) (tCons (tOp (rIx a.S) (tVar 2) (tVar 3)) tNil)) (gName 4))
    (tIfS (tTest (tOp rIs (tOp (rIx a.S) (tVar 1) (tVar 3)) (tC .non))) (tIfS (tOr (tTest (tOp rIsNot (tVar 4) (tC .non))) (tTest (tOp (rInOwn a.c_Alarms false (sp_Alarms___contains__ a) E) (tOp (rIx a.S) (tVar 2) (tVar 3)) (tVar 0)))) (tRet (tC (.bl false))) tNext) (tIfS (tOr (tNot (tB (tCall (sp_whole a) [] E (tCons (tVar 4) tNil)))) (tOr (tTest (tOp (rNeP a.S) (tVar 4) (tOp (rIx a.S) (tVar 1) (tVar 3)))) (tTest (tOp (rInOwn a.c_Alarms true (sp_Alarms___contains__ a) E) (tOp (rIx a.S) (tVar 2) (tVar 3)) (tVar 0))))) (tRet (tC (.bl false))) tNext))))
    (tSeq (sFor a.S (tLst (tCons (tC (.str "")) (tCons (tC (.str "REST")) (tCons (tC .non) (tCons (tC (.int 5)) (tCons (tTup (tCons (tC (.str "rest")) tNil)) (tCons (tLst (tCons (tC (.str "rest")) tNil)) (tCons tDNewK tNil)))))))) (gName 5) (tIfS (tTest (tOp (rInOwn a.c_Alarms false (sp_Alarms___contains__ a) E) (tVar 5) (tVar 0))) (tRet (tC (.bl false))) tNext))
    (tSeq (tAsg (eLc a.S (tVar 1) (gName 7) (tTest (tOp rIsNot (tVar 7) (tC .non))) (tVar 7) [7]) (gName 6))
    (tSeq (tAsg (tMeth a.c_Alarms "soonest" (sp_Alarms_soonest a) [] E (tVar 0) tNil) (gName 4))
    (tSeq (tIfS (tTest (tOp (rNeP a.S) (tCB (rLenOwn a.c_Alarms (sp_Alarms___len__ a) E) (tCons (tVar 0) tNil)) (tCB (rLen a.S) (tCons (tVar 6) tNil)))) (tRet (tC (.bl false))) tNext)
    (tSeq (tIfS (tTest (tOp (rEqP a.S) (tVar 6) (tLst tNil))) (tRet (tOp rIs (tVar 4) (tC .non))) tNext)
    (tRet (tAndV (tCall (sp_whole a) [] E (tCons (tVar 4) tNil)) (tAndV (tOp (rInA a.S false) (tVar 4) (tVar 6)) (tCB (rAll a.S) (tCons (eLc a.S (tVar 6) (gName 7) tYes (tOp rLe (tVar 4) (tVar 7)) [7]) tNil))))))))))))
def sp_set (a : Cl) : Sp := spB 8 2 (t_set a)
theorem in_set {a : Cl} {v0 v1 : V} {H : Hp} {Q : VK} {E : XK} (h : (tSeq (tAsg (tCall (sp_names a) [] E tNil) (gName 2))
    (tSeq (sForR none (tC (.int 6)) (gName 3) (tSeq (tAsg (tMeth a.c_Alarms "when" (sp_Alarms_when a) [] E (tVar 0) (tCons (tOp (rIx a.S) (tVar 2) (tVar 3)) tNil)) (gName 4))
    (tIfS (tTest (tOp rIs (tOp (rIx a.S) (tVar 1) (tVar 3)) (tC .non))) (tIfS (tOr (tTest (tOp rIsNot (tVar 4) (tC .non))) (tTest (tOp (rInOwn a.c_Alarms false (sp_Alarms___contains__ a) E) (tOp (rIx a.S) (tVar 2) (tVar 3)) (tVar 0)))) (tRet (tC (.bl false))) tNext) (tIfS (tOr (tNot (tB (tCall (sp_whole a) [] E (tCons (tVar 4) tNil)))) (tOr (tTest (tOp (rNeP a.S) (tVar 4) (tOp (rIx a.S) (tVar 1) (tVar 3)))) (tTest (tOp (rInOwn a.c_Alarms true (sp_Alarms___contains__ a) E) (tOp (rIx a.S) (tVar 2) (tVar 3)) (tVar 0))))) (tRet (tC (.bl false))) tNext))))
    (tSeq (sFor a.S (tLst (tCons (tC (.str "")) (tCons (tC (.str "REST")) (tCons (tC .non) (tCons (tC (.int 5)) (tCons (tTup (tCons (tC (.str "rest")) tNil)) (tCons (tLst (tCons (tC (.str "rest")) tNil)) (tCons tDNewK tNil)))))))) (gName 5) (tIfS (tTest (tOp (rInOwn a.c_Alarms false (sp_Alarms___contains__ a) E) (tVar 5) (tVar 0))) (tRet (tC (.bl false))) tNext))
    (tSeq (tAsg (eLc a.S (tVar 1) (gName 7) (tTest (tOp rIsNot (tVar 7) (tC .non))) (tVar 7) [7]) (gName 6))
    (tSeq (tAsg (tMeth a.c_Alarms "soonest" (sp_Alarms_soonest a) [] E (tVar 0) tNil) (gName 4))
    (tSeq (tIfS (tTest (tOp (rNeP a.S) (tCB (rLenOwn a.c_Alarms (sp_Alarms___len__ a) E) (tCons (tVar 0) tNil)) (tCB (rLen a.S) (tCons (tVar 6) tNil)))) (tRet (tC (.bl false))) tNext)
    (tSeq (tIfS (tTest (tOp (rEqP a.S) (tVar 6) (tLst tNil))) (tRet (tOp rIs (tVar 4) (tC .non))) tNext)
    (tRet (tAndV (tCall (sp_whole a) [] E (tCons (tVar 4) tNil)) (tAndV (tOp (rInA a.S false) (tVar 4) (tVar 6)) (tCB (rAll a.S) (tCons (eLc a.S (tVar 6) (gName 7) tYes (tOp rLe (tVar 4) (tVar 7)) [7]) tNil)))))))))))) ⟨fun _ H' => Q .non H', Q, fun _ _ => False, fun _ _ => False⟩ [some v0, some v1, none, none, none, none, none, none] H) : sp_set a [v0, v1] H Q E := ⟨rfl, h⟩
def t_greater (a : Cl) (E : XK) : TS :=
  (tSeq (tIfS (tTest (tOp rGt (tVar 0) (tVar 1))) (tRet (tVar 0)) tNext)
    (tRet (tVar 1)))
def sp_greater (a : Cl) : Sp := spB 2 2 (t_greater a)
theorem in_greater {a : Cl} {v0 v1 : V} {H : Hp} {Q : VK} {E : XK} (h : (tSeq (tIfS (tTest (tOp rGt (tVar 0) (tVar 1))) (tRet (tVar 0)) tNext)
    (tRet (tVar 1))) ⟨fun _ H' => Q .non H', Q, fun _ _ => False, fun _ _ => False⟩ [some v0, some v1] H) : sp_greater a [v0, v1] H Q E := ⟨rfl, h⟩
def t_Alarms_due (a : Cl) (E : XK) : TS :=
  (tSeq (tAsg (eLc a.S (eCon (.ref a.g_ALARMS)) (gName 3) (tAnd (tB (tDIn (tVar 3) (eFld a.c_Alarms "times" (tVar 0)))) (tTest (tOp rLe (tDGet (eFld a.c_Alarms "times" (tVar 0)) (tVar 3)) (tVar 1)))) (tVar 3) [3]) (gName 2))
    (tRet (tSortF a.S a.tb_Alarms_due (("Alarms.due" : Str) ++ ".<locals>." ++ "<lambda>") a.c_Alarms 0 "times" (tCons (tVar 2) tNil))))
def sp_Alarms_due (a : Cl) : Sp := spB 4 2 (t_Alarms_due a)
theorem in_Alarms_due {a : Cl} {v0 v1 : V} {H : Hp} {Q : VK} {E : XK} (h : (tSeq (tAsg (eLc a.S (eCon (.ref a.g_ALARMS)) (gName 3) (tAnd (tB (tDIn (tVar 3) (eFld a.c_Alarms "times" (tVar 0)))) (tTest (tOp rLe (tDGet (eFld a.c_Alarms "times" (tVar 0)) (tVar 3)) (tVar 1)))) (tVar 3) [3]) (gName 2))
    (tRet (tSortF a.S a.tb_Alarms_due (("Alarms.due" : Str) ++ ".<locals>." ++ "<lambda>") a.c_Alarms 0 "times" (tCons (tVar 2) tNil)))) ⟨fun _ H' => Q .non H', Q, fun _ _ => False, fun _ _ => False⟩ [some v0, some v1, none, none] H) : sp_Alarms_due a [v0, v1] H Q E := ⟨rfl, h⟩
def t_in_order (a : Cl) (E : XK) : TS :=
  (tSeq (tAsg (tCall (sp_names a) [] E tNil) (gName 3))
    (tSeq (tIfS (tNot (tB (tCB rIsI (tCons (tVar 0) (tCons (tC (.ty "list")) tNil))))) (tRet (tC (.bl false))) tNext)
    (tSeq (tIfS (tTest (tOp (rNeP a.S) (tCB (rLen a.S) (tCons (tVar 0) tNil)) (tCB (rLen a.S) (tCons (eLc a.S (tVar 1) (gName 4) (tAnd (tTest (tOp rIsNot (tVar 4) (tC .non))) (tTest (tOp rLe (tVar 4) (tVar 2)))) (tVar 4) [4]) tNil)))) (tRet (tC (.bl false))) tNext)
    (tSeq (tAsg (tTup (tCons (tUn rNeg (tC (.int 1))) (tCons (tUn rNeg (tC (.int 1))) tNil))) (gName 5))
    (tSeq (sFor a.S (tVar 0) (gName 6) (tSeq (tIfS (tOr (tNot (tB (tCB rIsI (tCons (tVar 6) (tCons (tC (.ty "str")) tNil))))) (tTest (tOp (rInA a.S true) (tVar 6) (tVar 3)))) (tRet (tC (.bl false))) tNext)
    (tSeq (tAsg (eIdxZ (tVar 3) (tVar 6)) (gName 7))
    (tSeq (tIfS (tOr (tTest (tOp rIs (tOp (rIx a.S) (tVar 1) (tVar 7)) (tC .non))) (tTest (tOp rGt (tOp (rIx a.S) (tVar 1) (tVar 7)) (tVar 2)))) (tRet (tC (.bl false))) tNext)
    (tSeq (tIfS (tNot (tTest (tOp (rLtP a.S) (tVar 5) (tTup (tCons (tOp (rIx a.S) (tVar 1) (tVar 7)) (tCons (tVar 7) tNil)))))) (tRet (tC (.bl false))) tNext)
    (tAsg (tTup (tCons (tOp (rIx a.S) (tVar 1) (tVar 7)) (tCons (tVar 7) tNil))) (gName 5)))))))
    (tRet (tC (.bl true))))))))
def sp_in_order (a : Cl) : Sp := spB 8 3 (t_in_order a)
theorem in_in_order {a : Cl} {v0 v1 v2 : V} {H : Hp} {Q : VK} {E : XK} (h : (tSeq (tAsg (tCall (sp_names a) [] E tNil) (gName 3))
    (tSeq (tIfS (tNot (tB (tCB rIsI (tCons (tVar 0) (tCons (tC (.ty "list")) tNil))))) (tRet (tC (.bl false))) tNext)
    (tSeq (tIfS (tTest (tOp (rNeP a.S) (tCB (rLen a.S) (tCons (tVar 0) tNil)) (tCB (rLen a.S) (tCons (eLc a.S (tVar 1) (gName 4) (tAnd (tTest (tOp rIsNot (tVar 4) (tC .non))) (tTest (tOp rLe (tVar 4) (tVar 2)))) (tVar 4) [4]) tNil)))) (tRet (tC (.bl false))) tNext)
    (tSeq (tAsg (tTup (tCons (tUn rNeg (tC (.int 1))) (tCons (tUn rNeg (tC (.int 1))) tNil))) (gName 5))
    (tSeq (sFor a.S (tVar 0) (gName 6) (tSeq (tIfS (tOr (tNot (tB (tCB rIsI (tCons (tVar 6) (tCons (tC (.ty "str")) tNil))))) (tTest (tOp (rInA a.S true) (tVar 6) (tVar 3)))) (tRet (tC (.bl false))) tNext)
    (tSeq (tAsg (eIdxZ (tVar 3) (tVar 6)) (gName 7))
    (tSeq (tIfS (tOr (tTest (tOp rIs (tOp (rIx a.S) (tVar 1) (tVar 7)) (tC .non))) (tTest (tOp rGt (tOp (rIx a.S) (tVar 1) (tVar 7)) (tVar 2)))) (tRet (tC (.bl false))) tNext)
    (tSeq (tIfS (tNot (tTest (tOp (rLtP a.S) (tVar 5) (tTup (tCons (tOp (rIx a.S) (tVar 1) (tVar 7)) (tCons (tVar 7) tNil)))))) (tRet (tC (.bl false))) tNext)
    (tAsg (tTup (tCons (tOp (rIx a.S) (tVar 1) (tVar 7)) (tCons (tVar 7) tNil))) (gName 5)))))))
    (tRet (tC (.bl true)))))))) ⟨fun _ H' => Q .non H', Q, fun _ _ => False, fun _ _ => False⟩ [some v0, some v1, some v2, none, none, none, none, none] H) : sp_in_order a [v0, v1, v2] H Q E := ⟨rfl, h⟩
def t_due (a : Cl) (E : XK) : TS :=
  (tSeq (tAsg (tMeth a.c_Alarms "due" (sp_Alarms_due a) [] E (tVar 0) (tCons (tVar 2) tNil)) (gName 3))
    (tSeq (tIfS (tNot (tB (tCall (sp_in_order a) [] E (tCons (tVar 3) (tCons (tVar 1) (tCons (tVar 2) tNil)))))) (tRet (tC (.bl false))) tNext)
    (tSeq (tAsg (eLc a.S (tVar 3) (gName 5) tYes (tVar 5) [5]) (gName 4))
    (tSeq (tDrop (eApp (tVar 3) (tCons (tC (.str "")) tNil)))
    (tSeq (tAsg (tMeth a.c_Alarms "due" (sp_Alarms_due a) [] E (tVar 0) (tCons (tVar 2) tNil)) (gName 6))
    (tRet (tAndV (tCB rIsI (tCons (tVar 6) (tCons (tC (.ty "list")) tNil))) (tOp (rEqP a.S) (tVar 6) (tVar 4)))))))))
def sp_due (a : Cl) : Sp := spB 7 3 (t_due a)
theorem in_due {a : Cl} {v0 v1 v2 : V} {H : Hp} {Q : VK} {E : XK} (h : (tSeq (tAsg (tMeth a.c_Alarms "due" (sp_Alarms_due a) [] E (tVar 0) (tCons (tVar 2) tNil)) (gName 3))
    (tSeq (tIfS (tNot (tB (tCall (sp_in_order a) [] E (tCons (tVar 3) (tCons (tVar 1) (tCons (tVar 2) tNil)))))) (tRet (tC (.bl false))) tNext)
    (tSeq (tAsg (eLc a.S (tVar 3) (gName 5) tYes (tVar 5) [5]) (gName 4))
    (tSeq (tDrop (eApp (tVar 3) (tCons (tC (.str "")) tNil)))
    (tSeq (tAsg (tMeth a.c_Alarms "due" (sp_Alarms_due a) [] E (tVar 0) (tCons (tVar 2) tNil)) (gName 6))
    (tRet (tAndV (tCB rIsI (tCons (tVar 6) (tCons (tC (.ty "list")) tNil))) (tOp (rEqP a.S) (tVar 6) (tVar 4))))))))) ⟨fun _ H' => Q .non H', Q, fun _ _ => False, fun _ _ => False⟩ [some v0, some v1, some v2, none, none, none, none] H) : sp_due a [v0, v1, v2] H Q E := ⟨rfl, h⟩
def t_agrees (a : Cl) (E : XK) : TS :=
  (tSeq (tIfS (tNot (tB (tCall (sp_set a) [] E (tCons (tVar 0) (tCons (tVar 1) tNil))))) (tRet (tC (.bl false))) tNext)
    (tSeq (tAsg (tLst (tCons (tC (.int 0)) (tCons (tOp rSub (tOp rPow (tC (.int 10)) (tC (.int 12))) (tC (.int 1))) tNil))) (gName 2))
    (tSeq (sFor a.S (tVar 1) (gName 3) (tIfS (tTest (tOp rIsNot (tVar 3) (tC .non))) (tAsg (tOp rAdd (tVar 2) (tLst (tCons (tVar 3) (tCons (tCall (sp_greater a) [] E (tCons (tC (.int 0)) (tCons (tOp rSub (tVar 3) (tC (.int 1))) tNil))) tNil)))) (gName 2)) tNext))
    (tSeq (sFor a.S (tVar 2) (gName 4) (tIfS (tNot (tB (tCall (sp_due a) [] E (tCons (tVar 0) (tCons (tVar 1) (tCons (tVar 4) tNil)))))) (tRet (tC (.bl false))) tNext))
    (tRet (tC (.bl true)))))))
def sp_agrees (a : Cl) : Sp := spB 5 2 (t_agrees a)
theorem in_agrees {a : Cl} {v0 v1 : V} {H : Hp} {Q : VK} {E : XK} (h : (tSeq (tIfS (tNot (tB (tCall (sp_set a) [] E (tCons (tVar 0) (tCons (tVar 1) tNil))))) (tRet (tC (.bl false))) tNext)
    (tSeq (tAsg (tLst (tCons (tC (.int 0)) (tCons (tOp rSub (tOp rPow (tC (.int 10)) (tC (.int 12))) (tC (.int 1))) tNil))) (gName 2))
    (tSeq (sFor a.S (tVar 1) (gName 3) (tIfS (tTest (tOp rIsNot (tVar 3) (tC .non))) (tAsg (tOp rAdd (tVar 2) (tLst (tCons (tVar 3) (tCons (tCall (sp_greater a) [] E (tCons (tC (.int 0)) (tCons (tOp rSub (tVar 3) (tC (.int 1))) tNil))) tNil)))) (gName 2)) tNext))
    (tSeq (sFor a.S (tVar 2) (gName 4) (tIfS (tNot (tB (tCall (sp_due a) [] E (tCons (tVar 0) (tCons (tVar 1) (tCons (tVar 4) tNil)))))) (tRet (tC (.bl false))) tNext))
    (tRet (tC (.bl true))))))) ⟨fun _ H' => Q .non H', Q, fun _ _ => False, fun _ _ => False⟩ [some v0, some v1, none, none, none] H) : sp_agrees a [v0, v1] H Q E := ⟨rfl, h⟩
def t_moment (a : Cl) (E : XK) : TS :=
  (tSeq (tAsg (tCall (sp_take a) [] E (tCons (tVar 0) (tCons (tC (.int 5)) tNil))) (gName 2))
    (tSeq (tIfS (tTest (tOp (rEqP a.S) (tVar 2) (tC (.int 0)))) (tRet (tCall (sp_take a) [] E (tCons (tVar 0) (tCons (tC (.int 7)) tNil)))) tNext)
    (tSeq (tIfS (tTest (tOp (rEqP a.S) (tVar 2) (tC (.int 1)))) (tRet (tC (.int 0))) tNext)
    (tSeq (tIfS (tTest (tOp (rEqP a.S) (tVar 2) (tC (.int 2)))) (tSeq (tAsg (tOp (rIx a.S) (tVar 1) (tCall (sp_take a) [] E (tCons (tVar 0) (tCons (tC (.int 6)) tNil)))) (gName 3))
    (tSeq (tIfS (tTest (tOp rIs (tVar 3) (tC .non))) (tAsg (tC (.int 1)) (gName 3)) tNext)
    (tRet (tCall (sp_greater a) [] E (tCons (tC (.int 0)) (tCons (tOp rSub (tOp rAdd (tVar 3) (tCall (sp_take a) [] E (tCons (tVar 0) (tCons (tC (.int 3)) tNil)))) (tC (.int 1))) tNil)))))) tNext)
    (tSeq (tIfS (tTest (tOp (rEqP a.S) (tVar 2) (tC (.int 3)))) (tRet (tCall (sp_take a) [] E (tCons (tVar 0) (tCons (tC (.int 1001)) tNil)))) tNext)
    (tRet (tCall (sp_take a) [] E (tCons (tVar 0) (tCons (tOp rSub (tOp rPow (tC (.int 10)) (tC (.int 12))) (tC (.int 1000))) tNil)))))))))
def sp_moment (a : Cl) : Sp := spB 4 2 (t_moment a)
theorem in_moment {a : Cl} {v0 v1 : V} {H : Hp} {Q : VK} {E : XK} (h : (tSeq (tAsg (tCall (sp_take a) [] E (tCons (tVar 0) (tCons (tC (.int 5)) tNil))) (gName 2))
    (tSeq (tIfS (tTest (tOp (rEqP a.S) (tVar 2) (tC (.int 0)))) (tRet (tCall (sp_take a) [] E (tCons (tVar 0) (tCons (tC (.int 7)) tNil)))) tNext)
    (tSeq (tIfS (tTest (tOp (rEqP a.S) (tVar 2) (tC (.int 1)))) (tRet (tC (.int 0))) tNext)
    (tSeq (tIfS (tTest (tOp (rEqP a.S) (tVar 2) (tC (.int 2)))) (tSeq (tAsg (tOp (rIx a.S) (tVar 1) (tCall (sp_take a) [] E (tCons (tVar 0) (tCons (tC (.int 6)) tNil)))) (gName 3))
    (tSeq (tIfS (tTest (tOp rIs (tVar 3) (tC .non))) (tAsg (tC (.int 1)) (gName 3)) tNext)
    (tRet (tCall (sp_greater a) [] E (tCons (tC (.int 0)) (tCons (tOp rSub (tOp rAdd (tVar 3) (tCall (sp_take a) [] E (tCons (tVar 0) (tCons (tC (.int 3)) tNil)))) (tC (.int 1))) tNil)))))) tNext)
    (tSeq (tIfS (tTest (tOp (rEqP a.S) (tVar 2) (tC (.int 3)))) (tRet (tCall (sp_take a) [] E (tCons (tVar 0) (tCons (tC (.int 1001)) tNil)))) tNext)
    (tRet (tCall (sp_take a) [] E (tCons (tVar 0) (tCons (tOp rSub (tOp rPow (tC (.int 10)) (tC (.int 12))) (tC (.int 1000))) tNil))))))))) ⟨fun _ H' => Q .non H', Q, fun _ _ => False, fun _ _ => False⟩ [some v0, some v1, none, none] H) : sp_moment a [v0, v1] H Q E := ⟨rfl, h⟩
def t_is_whole (a : Cl) (E : XK) : TS :=
  (tRet (tAndV (tCB rIsI (tCons (tVar 0) (tCons (tC (.ty "int")) tNil))) (tNotV (tCB rIsI (tCons (tVar 0) (tCons (tC (.ty "bool")) tNil))))))
def sp_is_whole (a : Cl) : Sp := spB 1 1 (t_is_whole a)
theorem in_is_whole {a : Cl} {v0 : V} {H : Hp} {Q : VK} {E : XK} (h : (tRet (tAndV (tCB rIsI (tCons (tVar 0) (tCons (tC (.ty "int")) tNil))) (tNotV (tCB rIsI (tCons (tVar 0) (tCons (tC (.ty "bool")) tNil)))))) ⟨fun _ H' => Q .non H', Q, fun _ _ => False, fun _ _ => False⟩ [some v0] H) : sp_is_whole a [v0] H Q E := ⟨rfl, h⟩
def t_Alarms_arm (a : Cl) (E : XK) : TS :=
  (tSeq (tIfS (tNot (tB (tCall (sp_is_alarm a) [] E (tCons (tVar 1) tNil)))) (sRaise E (tMkC a.c_InvalidSetting ["setting"] (tCons (tVar 1) tNil))) tNext)
    (tSeq (tIfS (tOr (tNot (tB (tCall (sp_is_whole a) [] E (tCons (tVar 2) tNil)))) (tTest (tOp rLt (tVar 2) (tC (.int 0))))) (sRaise E (tMkC a.c_InvalidNumber ["number"] (tCons (tVar 2) tNil))) tNext)
    (sDPut (eFld a.c_Alarms "times" (tVar 0)) (tVar 1) (tVar 2))))
def sp_Alarms_arm (a : Cl) : Sp := spB 3 3 (t_Alarms_arm a)
theorem in_Alarms_arm {a : Cl} {v0 v1 v2 : V} {H : Hp} {Q : VK} {E : XK} (h : (tSeq (tIfS (tNot (tB (tCall (sp_is_alarm a) [] E (tCons (tVar 1) tNil)))) (sRaise E (tMkC a.c_InvalidSetting ["setting"] (tCons (tVar 1) tNil))) tNext)
    (tSeq (tIfS (tOr (tNot (tB (tCall (sp_is_whole a) [] E (tCons (tVar 2) tNil)))) (tTest (tOp rLt (tVar 2) (tC (.int 0))))) (sRaise E (tMkC a.c_InvalidNumber ["number"] (tCons (tVar 2) tNil))) tNext)
    (sDPut (eFld a.c_Alarms "times" (tVar 0)) (tVar 1) (tVar 2)))) ⟨fun _ H' => Q .non H', Q, fun _ _ => False, fun _ _ => False⟩ [some v0, some v1, some v2] H) : sp_Alarms_arm a [v0, v1, v2] H Q E := ⟨rfl, h⟩
def t_Alarms_disarm (a : Cl) (E : XK) : TS :=
  (tSeq (tIfS (tNot (tB (tCall (sp_is_alarm a) [] E (tCons (tVar 1) tNil)))) (sRaise E (tMkC a.c_InvalidSetting ["setting"] (tCons (tVar 1) tNil))) tNext)
    (tIfS (tB (tDIn (tVar 1) (eFld a.c_Alarms "times" (tVar 0)))) (sDDel (eFld a.c_Alarms "times" (tVar 0)) (tVar 1)) tNext))
def sp_Alarms_disarm (a : Cl) : Sp := spB 2 2 (t_Alarms_disarm a)
theorem in_Alarms_disarm {a : Cl} {v0 v1 : V} {H : Hp} {Q : VK} {E : XK} (h : (tSeq (tIfS (tNot (tB (tCall (sp_is_alarm a) [] E (tCons (tVar 1) tNil)))) (sRaise E (tMkC a.c_InvalidSetting ["setting"] (tCons (tVar 1) tNil))) tNext)
    (tIfS (tB (tDIn (tVar 1) (eFld a.c_Alarms "times" (tVar 0)))) (sDDel (eFld a.c_Alarms "times" (tVar 0)) (tVar 1)) tNext)) ⟨fun _ H' => Q .non H', Q, fun _ _ => False, fun _ _ => False⟩ [some v0, some v1] H) : sp_Alarms_disarm a [v0, v1] H Q E := ⟨rfl, h⟩
def t_call (a : Cl) (E : XK) : TS :=
  (tSeq (sTry [(.ref a.c_InvalidNumber, 0), (.ref a.c_InvalidSetting, 0)] [(some 4, fun b cls d => (tSeq (tIfS (tAnd (tB (tCB (rIsX [(.ref a.c_InvalidSetting, .ref a.c_InvalidSetting, true), (.ref a.c_InvalidNumber, .ref a.c_InvalidSetting, false)] b cls d) (tCons (tVar 4) (tCons (eCon (.ref a.c_InvalidSetting)) tNil)))) (tAnd (tB (tCB (rIsX [(.ref a.c_InvalidSetting, .ty "ValueError", true), (.ref a.c_InvalidNumber, .ty "ValueError", true)] b cls d) (tCons (tVar 4) (tCons (tC (.ty "ValueError")) tNil)))) (tNot (tB (tCB (rIsX [(.ref a.c_InvalidSetting, .ref a.c_InvalidNumber, false), (.ref a.c_InvalidNumber, .ref a.c_InvalidNumber, true)] b cls d) (tCons (tVar 4) (tCons (eCon (.ref a.c_InvalidNumber)) tNil))))))) (tRet (tTup (tCons (tC (.str "setting")) (tCons (eXf b cls d [a.c_InvalidSetting] "setting" (tVar 4)) tNil)))) tNext)
    (tIfS (tAnd (tB (tCB (rIsX [(.ref a.c_InvalidSetting, .ref a.c_InvalidNumber, false), (.ref a.c_InvalidNumber, .ref a.c_InvalidNumber, true)] b cls d) (tCons (tVar 4) (tCons (eCon (.ref a.c_InvalidNumber)) tNil)))) (tAnd (tB (tCB (rIsX [(.ref a.c_InvalidSetting, .ty "ValueError", true), (.ref a.c_InvalidNumber, .ty "ValueError", true)] b cls d) (tCons (tVar 4) (tCons (tC (.ty "ValueError")) tNil)))) (tNot (tB (tCB (rIsX [(.ref a.c_InvalidSetting, .ref a.c_InvalidSetting, true), (.ref a.c_InvalidNumber, .ref a.c_InvalidSetting, false)] b cls d) (tCons (tVar 4) (tCons (eCon (.ref a.c_InvalidSetting)) tNil))))))) (tRet (tTup (tCons (tC (.str "number")) (tCons (eXf b cls d [a.c_InvalidNumber] "number" (tVar 4)) tNil)))) tNext)))] (fun W => (tSeq (tIfS (tTest (tOp (rEqP a.S) (tVar 1) (tC (.int 0)))) (tRet (tTup (tCons (tC (.str "told")) (tCons (tMS a.c_Alarms "arm" (sp_Alarms_arm a) (WE W) (tVar 0) (tCons (tVar 2) (tCons (tVar 3) tNil))) tNil)))) tNext)
    (tSeq (tIfS (tTest (tOp (rEqP a.S) (tVar 1) (tC (.int 1)))) (tRet (tTup (tCons (tC (.str "told")) (tCons (tMS a.c_Alarms "disarm" (sp_Alarms_disarm a) (WE W) (tVar 0) (tCons (tVar 2) tNil)) tNil)))) tNext)
    (tRet (tTup (tCons (tC (.str "told")) (tCons (tMS a.c_Alarms "when" (sp_Alarms_when a) (WE W) (tVar 0) (tCons (tVar 2) tNil)) tNil))))))))
    (tRet (tTup (tCons (tC (.str "other")) (tCons (tC .non) tNil)))))
def sp_call (a : Cl) : Sp := spB 5 4 (t_call a)
theorem in_call {a : Cl} {v0 v1 v2 v3 : V} {H : Hp} {Q : VK} {E : XK} (h : (tSeq (sTry [(.ref a.c_InvalidNumber, 0), (.ref a.c_InvalidSetting, 0)] [(some 4, fun b cls d => (tSeq (tIfS (tAnd (tB (tCB (rIsX [(.ref a.c_InvalidSetting, .ref a.c_InvalidSetting, true), (.ref a.c_InvalidNumber, .ref a.c_InvalidSetting, false)] b cls d) (tCons (tVar 4) (tCons (eCon (.ref a.c_InvalidSetting)) tNil)))) (tAnd (tB (tCB (rIsX [(.ref a.c_InvalidSetting, .ty "ValueError", true), (.ref a.c_InvalidNumber, .ty "ValueError", true)] b cls d) (tCons (tVar 4) (tCons (tC (.ty "ValueError")) tNil)))) (tNot (tB (tCB (rIsX [(.ref a.c_InvalidSetting, .ref a.c_InvalidNumber, false), (.ref a.c_InvalidNumber, .ref a.c_InvalidNumber, true)] b cls d) (tCons (tVar 4) (tCons (eCon (.ref a.c_InvalidNumber)) tNil))))))) (tRet (tTup (tCons (tC (.str "setting")) (tCons (eXf b cls d [a.c_InvalidSetting] "setting" (tVar 4)) tNil)))) tNext)
    (tIfS (tAnd (tB (tCB (rIsX [(.ref a.c_InvalidSetting, .ref a.c_InvalidNumber, false), (.ref a.c_InvalidNumber, .ref a.c_InvalidNumber, true)] b cls d) (tCons (tVar 4) (tCons (eCon (.ref a.c_InvalidNumber)) tNil)))) (tAnd (tB (tCB (rIsX [(.ref a.c_InvalidSetting, .ty "ValueError", true), (.ref a.c_InvalidNumber, .ty "ValueError", true)] b cls d) (tCons (tVar 4) (tCons (tC (.ty "ValueError")) tNil)))) (tNot (tB (tCB (rIsX [(.ref a.c_InvalidSetting, .ref a.c_InvalidSetting, true), (.ref a.c_InvalidNumber, .ref a.c_InvalidSetting, false)] b cls d) (tCons (tVar 4) (tCons (eCon (.ref a.c_InvalidSetting)) tNil))))))) (tRet (tTup (tCons (tC (.str "number")) (tCons (eXf b cls d [a.c_InvalidNumber] "number" (tVar 4)) tNil)))) tNext)))] (fun W => (tSeq (tIfS (tTest (tOp (rEqP a.S) (tVar 1) (tC (.int 0)))) (tRet (tTup (tCons (tC (.str "told")) (tCons (tMS a.c_Alarms "arm" (sp_Alarms_arm a) (WE W) (tVar 0) (tCons (tVar 2) (tCons (tVar 3) tNil))) tNil)))) tNext)
    (tSeq (tIfS (tTest (tOp (rEqP a.S) (tVar 1) (tC (.int 1)))) (tRet (tTup (tCons (tC (.str "told")) (tCons (tMS a.c_Alarms "disarm" (sp_Alarms_disarm a) (WE W) (tVar 0) (tCons (tVar 2) tNil)) tNil)))) tNext)
    (tRet (tTup (tCons (tC (.str "told")) (tCons (tMS a.c_Alarms "when" (sp_Alarms_when a) (WE W) (tVar 0) (tCons (tVar 2) tNil)) tNil))))))))
    (tRet (tTup (tCons (tC (.str "other")) (tCons (tC .non) tNil))))) ⟨fun _ H' => Q .non H', Q, fun _ _ => False, fun _ _ => False⟩ [some v0, some v1, some v2, some v3, none] H) : sp_call a [v0, v1, v2, v3] H Q E := ⟨rfl, h⟩
def t_far (a : Cl) (E : XK) : TS :=
  (tSeq (tAsg (tCall (sp_take a) [] E (tCons (tVar 0) (tCons (tC (.int 3)) tNil))) (gName 1))
    (tRet (tOp rMul (tVar 1) (tCall (sp_take a) [] E (tCons (tVar 0) (tCons (tOp rPow (tC (.int 10)) (tC (.int 9))) tNil))))))
def sp_far (a : Cl) : Sp := spB 2 1 (t_far a)
theorem in_far {a : Cl} {v0 : V} {H : Hp} {Q : VK} {E : XK} (h : (tSeq (tAsg (tCall (sp_take a) [] E (tCons (tVar 0) (tCons (tC (.int 3)) tNil))) (gName 1))
    (tRet (tOp rMul (tVar 1) (tCall (sp_take a) [] E (tCons (tVar 0) (tCons (tOp rPow (tC (.int 10)) (tC (.int 9))) tNil)))))) ⟨fun _ H' => Q .non H', Q, fun _ _ => False, fun _ _ => False⟩ [some v0, none] H) : sp_far a [v0] H Q E := ⟨rfl, h⟩
def t_wrong (a : Cl) (E : XK) : TS :=
  (tSeq (tAsg (tCall (sp_take a) [] E (tCons (tVar 0) (tCons (tC (.int 6)) tNil))) (gName 1))
    (tSeq (tIfS (tTest (tOp rLt (tVar 1) (tC (.int 2)))) (tRet (tOp rSub (tOp rSub (tC (.int 0)) (tC (.int 1))) (tCall (sp_far a) [] E (tCons (tVar 0) tNil)))) tNext)
    (tSeq (tIfS (tTest (tOp (rEqP a.S) (tVar 1) (tC (.int 2)))) (tRet (tC .non)) tNext)
    (tSeq (tIfS (tTest (tOp (rEqP a.S) (tVar 1) (tC (.int 3)))) (tRet (tC (.bl true))) tNext)
    (tSeq (tIfS (tTest (tOp (rEqP a.S) (tVar 1) (tC (.int 4)))) (tRet (tCB rStrI (tCons (tCall (sp_take a) [] E (tCons (tVar 0) (tCons (tC (.int 61)) tNil))) tNil))) tNext)
    (tRet (tTup (tCons (tCall (sp_take a) [] E (tCons (tVar 0) (tCons (tC (.int 61)) tNil))) tNil))))))))
def sp_wrong (a : Cl) : Sp := spB 2 1 (t_wrong a)
theorem in_wrong {a : Cl} {v0 : V} {H : Hp} {Q : VK} {E : XK} (h : (tSeq (tAsg (tCall (sp_take a) [] E (tCons (tVar 0) (tCons (tC (.int 6)) tNil))) (gName 1))
    (tSeq (tIfS (tTest (tOp rLt (tVar 1) (tC (.int 2)))) (tRet (tOp rSub (tOp rSub (tC (.int 0)) (tC (.int 1))) (tCall (sp_far a) [] E (tCons (tVar 0) tNil)))) tNext)
    (tSeq (tIfS (tTest (tOp (rEqP a.S) (tVar 1) (tC (.int 2)))) (tRet (tC .non)) tNext)
    (tSeq (tIfS (tTest (tOp (rEqP a.S) (tVar 1) (tC (.int 3)))) (tRet (tC (.bl true))) tNext)
    (tSeq (tIfS (tTest (tOp (rEqP a.S) (tVar 1) (tC (.int 4)))) (tRet (tCB rStrI (tCons (tCall (sp_take a) [] E (tCons (tVar 0) (tCons (tC (.int 61)) tNil))) tNil))) tNext)
    (tRet (tTup (tCons (tCall (sp_take a) [] E (tCons (tVar 0) (tCons (tC (.int 61)) tNil))) tNil)))))))) ⟨fun _ H' => Q .non H', Q, fun _ _ => False, fun _ _ => False⟩ [some v0, none] H) : sp_wrong a [v0] H Q E := ⟨rfl, h⟩
def t_same (a : Cl) (E : XK) : TS :=
  (tSeq (tIfS (tOr (tB (tCB rIsI (tCons (tVar 0) (tCons (tC (.ty "bool")) tNil)))) (tB (tCB rIsI (tCons (tVar 1) (tCons (tC (.ty "bool")) tNil))))) (tRet (tAndV (tCB rIsI (tCons (tVar 0) (tCons (tC (.ty "bool")) tNil))) (tAndV (tCB rIsI (tCons (tVar 1) (tCons (tC (.ty "bool")) tNil))) (tOp (rEqP a.S) (tVar 0) (tVar 1))))) tNext)
    (tRet (tOp (rEqP a.S) (tVar 0) (tVar 1))))
def sp_same (a : Cl) : Sp := spB 2 2 (t_same a)
theorem in_same {a : Cl} {v0 v1 : V} {H : Hp} {Q : VK} {E : XK} (h : (tSeq (tIfS (tOr (tB (tCB rIsI (tCons (tVar 0) (tCons (tC (.ty "bool")) tNil)))) (tB (tCB rIsI (tCons (tVar 1) (tCons (tC (.ty "bool")) tNil))))) (tRet (tAndV (tCB rIsI (tCons (tVar 0) (tCons (tC (.ty "bool")) tNil))) (tAndV (tCB rIsI (tCons (tVar 1) (tCons (tC (.ty "bool")) tNil))) (tOp (rEqP a.S) (tVar 0) (tVar 1))))) tNext)
    (tRet (tOp (rEqP a.S) (tVar 0) (tVar 1)))) ⟨fun _ H' => Q .non H', Q, fun _ _ => False, fun _ _ => False⟩ [some v0, some v1] H) : sp_same a [v0, v1] H Q E := ⟨rfl, h⟩
def t_stranger (a : Cl) (E : XK) : TS :=
  (tSeq (tAsg (tOp (rIx a.S) (tCall (sp_names a) [] E tNil) (tCall (sp_take a) [] E (tCons (tVar 0) (tCons (tC (.int 6)) tNil)))) (gName 1))
    (tSeq (tAsg (tCall (sp_take a) [] E (tCons (tVar 0) (tCons (tC (.int 7)) tNil))) (gName 2))
    (tSeq (tIfS (tTest (tOp (rEqP a.S) (tVar 2) (tC (.int 6)))) (tRet (tOp (rIx a.S) (tLst (tCons (tC .non) (tCons (tC (.bl true)) (tCons (tC (.int 5)) (tCons (tTup (tCons (tC (.str "rest")) tNil)) (tCons (tLst (tCons (tC (.str "rest")) tNil)) (tCons tDNewK tNil))))))) (tCall (sp_take a) [] E (tCons (tVar 0) (tCons (tC (.int 6)) tNil))))) tNext)
    (tSeq (tIfS (tTest (tOp (rEqP a.S) (tVar 2) (tC (.int 0)))) (tRet (tC (.str ""))) tNext)
    (tSeq (tIfS (tTest (tOp (rEqP a.S) (tVar 2) (tC (.int 1)))) (tRet (tM0 rUp (tVar 1))) tNext)
    (tSeq (tIfS (tTest (tOp (rEqP a.S) (tVar 2) (tC (.int 2)))) (tSeq (tAsg (tCall (sp_take a) [] E (tCons (tVar 0) (tCons (tCB (rLen a.S) (tCons (tVar 1) tNil)) tNil))) (gName 3))
    (tRet (tOp rAdd (L2.tSl rSlS (tVar 1) tNoPart (tPart (tVar 3))) (L2.tSl rSlS (tVar 1) (tPart (tOp rAdd (tVar 3) (tC (.int 1)))) tNoPart)))) tNext)
    (tSeq (tIfS (tTest (tOp (rEqP a.S) (tVar 2) (tC (.int 3)))) (tSeq (tAsg (tCall (sp_take a) [] E (tCons (tVar 0) (tCons (tOp rAdd (tCB (rLen a.S) (tCons (tVar 1) tNil)) (tC (.int 1))) tNil))) (gName 3))
    (tRet (tOp rAdd (tOp rAdd (L2.tSl rSlS (tVar 1) tNoPart (tPart (tVar 3))) (tOp (rIx a.S) (tC (.str " _0Zx")) (tCall (sp_take a) [] E (tCons (tVar 0) (tCons (tC (.int 5)) tNil))))) (L2.tSl rSlS (tVar 1) (tPart (tVar 3)) tNoPart)))) tNext)
    (tSeq (tIfS (tTest (tOp (rEqP a.S) (tVar 2) (tC (.int 4)))) (tRet (tOp rAdd (tVar 1) (tVar 1))) tNext)
    (tRet (tC (.str "timeout")))))))))))
def sp_stranger (a : Cl) : Sp := spB 4 1 (t_stranger a)
theorem in_stranger {a : Cl} {v0 : V} {H : Hp} {Q : VK} {E : XK} (h : (tSeq (tAsg (tOp (rIx a.S) (tCall (sp_names a) [] E tNil) (tCall (sp_take a) [] E (tCons (tVar 0) (tCons (tC (.int 6)) tNil)))) (gName 1))
    (tSeq (tAsg (tCall (sp_take a) [] E (tCons (tVar 0) (tCons (tC (.int 7)) tNil))) (gName 2))
    (tSeq (tIfS (tTest (tOp (rEqP a.S) (tVar 2) (tC (.int 6)))) (tRet (tOp (rIx a.S) (tLst (tCons (tC .non) (tCons (tC (.bl true)) (tCons (tC (.int 5)) (tCons (tTup (tCons (tC (.str "rest")) tNil)) (tCons (tLst (tCons (tC (.str "rest")) tNil)) (tCons tDNewK tNil))))))) (tCall (sp_take a) [] E (tCons (tVar 0) (tCons (tC (.int 6)) tNil))))) tNext)
    (tSeq (tIfS (tTest (tOp (rEqP a.S) (tVar 2) (tC (.int 0)))) (tRet (tC (.str ""))) tNext)
    (tSeq (tIfS (tTest (tOp (rEqP a.S) (tVar 2) (tC (.int 1)))) (tRet (tM0 rUp (tVar 1))) tNext)
    (tSeq (tIfS (tTest (tOp (rEqP a.S) (tVar 2) (tC (.int 2)))) (tSeq (tAsg (tCall (sp_take a) [] E (tCons (tVar 0) (tCons (tCB (rLen a.S) (tCons (tVar 1) tNil)) tNil))) (gName 3))
    (tRet (tOp rAdd (L2.tSl rSlS (tVar 1) tNoPart (tPart (tVar 3))) (L2.tSl rSlS (tVar 1) (tPart (tOp rAdd (tVar 3) (tC (.int 1)))) tNoPart)))) tNext)
    (tSeq (tIfS (tTest (tOp (rEqP a.S) (tVar 2) (tC (.int 3)))) (tSeq (tAsg (tCall (sp_take a) [] E (tCons (tVar 0) (tCons (tOp rAdd (tCB (rLen a.S) (tCons (tVar 1) tNil)) (tC (.int 1))) tNil))) (gName 3))
    (tRet (tOp rAdd (tOp rAdd (L2.tSl rSlS (tVar 1) tNoPart (tPart (tVar 3))) (tOp (rIx a.S) (tC (.str " _0Zx")) (tCall (sp_take a) [] E (tCons (tVar 0) (tCons (tC (.int 5)) tNil))))) (L2.tSl rSlS (tVar 1) (tPart (tVar 3)) tNoPart)))) tNext)
    (tSeq (tIfS (tTest (tOp (rEqP a.S) (tVar 2) (tC (.int 4)))) (tRet (tOp rAdd (tVar 1) (tVar 1))) tNext)
    (tRet (tC (.str "timeout"))))))))))) ⟨fun _ H' => Q .non H', Q, fun _ _ => False, fun _ _ => False⟩ [some v0, none, none, none] H) : sp_stranger a [v0] H Q E := ⟨rfl, h⟩
def t_deed (a : Cl) (E : XK) : TS :=
  (tSeq (tAsg (tCall (sp_take a) [] E (tCons (tVar 0) (tCons (tC (.int 8)) tNil))) (gName 3))
    (tSeq (tAsg (tCall (sp_take a) [] E (tCons (tVar 0) (tCons (tC (.int 6)) tNil))) (gName 4))
    (tSeq (tAsg (tOp (rIx a.S) (tCall (sp_names a) [] E tNil) (tVar 4)) (gName 5))
    (tSeq (tIfS (tTest (tOp rLt (tVar 3) (tC (.int 4)))) (tSeq (tAsg (tCall (sp_moment a) [] E (tCons (tVar 0) (tCons (tVar 2) tNil))) (gName 6))
    (tSeq (tAsg (tVar 6) (gSub (tVar 2) (tVar 4) rSetL))
    (tRet (tOp (rEqP a.S) (tCall (sp_call a) [] E (tCons (tVar 1) (tCons (tC (.int 0)) (tCons (tVar 5) (tCons (tVar 6) tNil))))) (tTup (tCons (tC (.str "told")) (tCons (tC .non) tNil))))))) tNext)
    (tSeq (tIfS (tTest (tOp (rEqP a.S) (tVar 3) (tC (.int 4)))) (tSeq (tAsg (tC .non) (gSub (tVar 2) (tVar 4) rSetL))
    (tRet (tOp (rEqP a.S) (tCall (sp_call a) [] E (tCons (tVar 1) (tCons (tC (.int 1)) (tCons (tVar 5) (tCons (tC (.int 0)) tNil))))) (tTup (tCons (tC (.str "told")) (tCons (tC .non) tNil)))))) tNext)
    (tSeq (tIfS (tTest (tOp (rEqP a.S) (tVar 3) (tC (.int 5)))) (tSeq (tAsg (tCall (sp_wrong a) [] E (tCons (tVar 0) tNil)) (gName 7))
    (tSeq (tAsg (tCall (sp_call a) [] E (tCons (tVar 1) (tCons (tC (.int 0)) (tCons (tVar 5) (tCons (tVar 7) tNil))))) (gName 8))
    (tRet (tAndV (tOp (rEqP a.S) (tOp (rIx a.S) (tVar 8) (tC (.int 0))) (tC (.str "number"))) (tCall (sp_same a) [] E (tCons (tOp (rIx a.S) (tVar 8) (tC (.int 1))) (tCons (tVar 7) tNil))))))) tNext)
    (tSeq (tAsg (tCall (sp_stranger a) [] E (tCons (tVar 0) tNil)) (gName 9))
    (tSeq (tIfS (tTest (tOp (rEqP a.S) (tVar 3) (tC (.int 6)))) (tRet (tOp (rEqT a.S) (tCall (sp_call a) [] E (tCons (tVar 1) (tCons (tOp rAdd (tC (.int 1)) (tCall (sp_take a) [] E (tCons (tVar 0) (tCons (tC (.int 2)) tNil)))) (tCons (tVar 9) (tCons (tC (.int 0)) tNil))))) (tTup (tCons (tC (.str "setting")) (tCons (tVar 9) tNil))))) tNext)
    (tSeq (tAsg (tCall (sp_moment a) [] E (tCons (tVar 0) (tCons (tVar 2) tNil))) (gName 6))
    (tSeq (tIfS (tTest (tOp (rEqP a.S) (tCall (sp_take a) [] E (tCons (tVar 0) (tCons (tC (.int 2)) tNil))) (tC (.int 1)))) (tAsg (tCall (sp_wrong a) [] E (tCons (tVar 0) tNil)) (gName 6)) tNext)
    (tRet (tOp (rEqT a.S) (tCall (sp_call a) [] E (tCons (tVar 1) (tCons (tC (.int 0)) (tCons (tVar 9) (tCons (tVar 6) tNil))))) (tTup (tCons (tC (.str "setting")) (tCons (tVar 9) tNil)))))))))))))))
def sp_deed (a : Cl) : Sp := spB 10 3 (t_deed a)
theorem in_deed {a : Cl} {v0 v1 v2 : V} {H : Hp} {Q : VK} {E : XK} (h : (tSeq (tAsg (tCall (sp_take a) [] E (tCons (tVar 0) (tCons (tC (.int 8)) tNil))) (gName 3))
    (tSeq (tAsg (tCall (sp_take a) [] E (tCons (tVar 0) (tCons (tC (.int 6)) tNil))) (gName 4))
    (tSeq (tAsg (tOp (rIx a.S) (tCall (sp_names a) [] E tNil) (tVar 4)) (gName 5))
    (tSeq (tIfS (tTest (tOp rLt (tVar 3) (tC (.int 4)))) (tSeq (tAsg (tCall (sp_moment a) [] E (tCons (tVar 0) (tCons (tVar 2) tNil))) (gName 6))
    (tSeq (tAsg (tVar 6) (gSub (tVar 2) (tVar 4) rSetL))
    (tRet (tOp (rEqP a.S) (tCall (sp_call a) [] E (tCons (tVar 1) (tCons (tC (.int 0)) (tCons (tVar 5) (tCons (tVar 6) tNil))))) (tTup (tCons (tC (.str "told")) (tCons (tC .non) tNil))))))) tNext)
    (tSeq (tIfS (tTest (tOp (rEqP a.S) (tVar 3) (tC (.int 4)))) (tSeq (tAsg (tC .non) (gSub (tVar 2) (tVar 4) rSetL))
    (tRet (tOp (rEqP a.S) (tCall (sp_call a) [] E (tCons (tVar 1) (tCons (tC (.int 1)) (tCons (tVar 5) (tCons (tC (.int 0)) tNil))))) (tTup (tCons (tC (.str "told")) (tCons (tC .non) tNil)))))) tNext)
    (tSeq (tIfS (tTest (tOp (rEqP a.S) (tVar 3) (tC (.int 5)))) (tSeq (tAsg (tCall (sp_wrong a) [] E (tCons (tVar 0) tNil)) (gName 7))
    (tSeq (tAsg (tCall (sp_call a) [] E (tCons (tVar 1) (tCons (tC (.int 0)) (tCons (tVar 5) (tCons (tVar 7) tNil))))) (gName 8))
    (tRet (tAndV (tOp (rEqP a.S) (tOp (rIx a.S) (tVar 8) (tC (.int 0))) (tC (.str "number"))) (tCall (sp_same a) [] E (tCons (tOp (rIx a.S) (tVar 8) (tC (.int 1))) (tCons (tVar 7) tNil))))))) tNext)
    (tSeq (tAsg (tCall (sp_stranger a) [] E (tCons (tVar 0) tNil)) (gName 9))
    (tSeq (tIfS (tTest (tOp (rEqP a.S) (tVar 3) (tC (.int 6)))) (tRet (tOp (rEqT a.S) (tCall (sp_call a) [] E (tCons (tVar 1) (tCons (tOp rAdd (tC (.int 1)) (tCall (sp_take a) [] E (tCons (tVar 0) (tCons (tC (.int 2)) tNil)))) (tCons (tVar 9) (tCons (tC (.int 0)) tNil))))) (tTup (tCons (tC (.str "setting")) (tCons (tVar 9) tNil))))) tNext)
    (tSeq (tAsg (tCall (sp_moment a) [] E (tCons (tVar 0) (tCons (tVar 2) tNil))) (gName 6))
    (tSeq (tIfS (tTest (tOp (rEqP a.S) (tCall (sp_take a) [] E (tCons (tVar 0) (tCons (tC (.int 2)) tNil))) (tC (.int 1)))) (tAsg (tCall (sp_wrong a) [] E (tCons (tVar 0) tNil)) (gName 6)) tNext)
    (tRet (tOp (rEqT a.S) (tCall (sp_call a) [] E (tCons (tVar 1) (tCons (tC (.int 0)) (tCons (tVar 9) (tCons (tVar 6) tNil))))) (tTup (tCons (tC (.str "setting")) (tCons (tVar 9) tNil))))))))))))))) ⟨fun _ H' => Q .non H', Q, fun _ _ => False, fun _ _ => False⟩ [some v0, some v1, some v2, none, none, none, none, none, none, none] H) : sp_deed a [v0, v1, v2] H Q E := ⟨rfl, h⟩
def t_law (a : Cl) (E : XK) : TS :=
  (tSeq (tAsg (tCall (sp_bag a) [] E (tCons (tVar 0) tNil)) (gName 1))
    (tSeq (tAsg (tOp rAdd (tC (.int 1)) (tCall (sp_take a) [] E (tCons (tVar 1) (tCons (tC (.int 30)) tNil)))) (gName 2))
    (tSeq (tIfS (tOr (tNot (tB (tCB (rIsS a.S) (tCons (eCon (.ref a.g_ALARMS)) (tCons (tC (.ty "tuple")) tNil))))) (tTest (tOp (rNeP a.S) (eCon (.ref a.g_ALARMS)) (tCall (sp_names a) [] E tNil)))) (tRet (tC (.bl false))) tNext)
    (tSeq (tAsg (tLst (tCons (tMake a.c_Alarms (sp_Alarms___init__ a) [] E tNil) (tCons (tMake a.c_Alarms (sp_Alarms___init__ a) [] E tNil) tNil))) (gName 3))
    (tSeq (tAsg (tLst (tCons (tOp rRep (tLst (tCons (tC .non) tNil)) (tC (.int 6))) (tCons (tOp rRep (tLst (tCons (tC .non) tNil)) (tC (.int 6))) tNil))) (gName 4))
    (tSeq (sForR none (tVar 2) (gName 5) (tSeq (tIfS (tOr (tTest (tOp (rEqP a.S) (tVar 5) (tC (.int 0)))) (tTest (tOp rGt (tCall (sp_take a) [] E (tCons (tVar 1) (tCons (tC (.int 3)) tNil))) (tC (.int 0))))) (tIfS (tOr (tNot (tB (tCall (sp_agrees a) [] E (tCons (tOp (rIx a.S) (tVar 3) (tC (.int 0))) (tCons (tOp (rIx a.S) (tVar 4) (tC (.int 0))) tNil))))) (tNot (tB (tCall (sp_agrees a) [] E (tCons (tOp (rIx a.S) (tVar 3) (tC (.int 1))) (tCons (tOp (rIx a.S) (tVar 4) (tC (.int 1))) tNil)))))) (tRet (tC (.bl false))) tNext) tNext)
    (tSeq (tAsg (tCall (sp_take a) [] E (tCons (tVar 1) (tCons (tC (.int 2)) tNil))) (gName 6))
    (tIfS (tNot (tB (tCall (sp_deed a) [] E (tCons (tVar 1) (tCons (tOp (rIx a.S) (tVar 3) (tVar 6)) (tCons (tOp (rIx a.S) (tVar 4) (tVar 6)) tNil)))))) (tRet (tC (.bl false))) tNext))))
    (tRet (tAndV (tCall (sp_agrees a) [] E (tCons (tOp (rIx a.S) (tVar 3) (tC (.int 0))) (tCons (tOp (rIx a.S) (tVar 4) (tC (.int 0))) tNil))) (tCall (sp_agrees a) [] E (tCons (tOp (rIx a.S) (tVar 3) (tC (.int 1))) (tCons (tOp (rIx a.S) (tVar 4) (tC (.int 1))) tNil)))))))))))
def sp_law (a : Cl) : Sp := spB 7 1 (t_law a)
theorem in_law {a : Cl} {v0 : V} {H : Hp} {Q : VK} {E : XK} (h : (tSeq (tAsg (tCall (sp_bag a) [] E (tCons (tVar 0) tNil)) (gName 1))
    (tSeq (tAsg (tOp rAdd (tC (.int 1)) (tCall (sp_take a) [] E (tCons (tVar 1) (tCons (tC (.int 30)) tNil)))) (gName 2))
    (tSeq (tIfS (tOr (tNot (tB (tCB (rIsS a.S) (tCons (eCon (.ref a.g_ALARMS)) (tCons (tC (.ty "tuple")) tNil))))) (tTest (tOp (rNeP a.S) (eCon (.ref a.g_ALARMS)) (tCall (sp_names a) [] E tNil)))) (tRet (tC (.bl false))) tNext)
    (tSeq (tAsg (tLst (tCons (tMake a.c_Alarms (sp_Alarms___init__ a) [] E tNil) (tCons (tMake a.c_Alarms (sp_Alarms___init__ a) [] E tNil) tNil))) (gName 3))
    (tSeq (tAsg (tLst (tCons (tOp rRep (tLst (tCons (tC .non) tNil)) (tC (.int 6))) (tCons (tOp rRep (tLst (tCons (tC .non) tNil)) (tC (.int 6))) tNil))) (gName 4))
    (tSeq (sForR none (tVar 2) (gName 5) (tSeq (tIfS (tOr (tTest (tOp (rEqP a.S) (tVar 5) (tC (.int 0)))) (tTest (tOp rGt (tCall (sp_take a) [] E (tCons (tVar 1) (tCons (tC (.int 3)) tNil))) (tC (.int 0))))) (tIfS (tOr (tNot (tB (tCall (sp_agrees a) [] E (tCons (tOp (rIx a.S) (tVar 3) (tC (.int 0))) (tCons (tOp (rIx a.S) (tVar 4) (tC (.int 0))) tNil))))) (tNot (tB (tCall (sp_agrees a) [] E (tCons (tOp (rIx a.S) (tVar 3) (tC (.int 1))) (tCons (tOp (rIx a.S) (tVar 4) (tC (.int 1))) tNil)))))) (tRet (tC (.bl false))) tNext) tNext)
    (tSeq (tAsg (tCall (sp_take a) [] E (tCons (tVar 1) (tCons (tC (.int 2)) tNil))) (gName 6))
    (tIfS (tNot (tB (tCall (sp_deed a) [] E (tCons (tVar 1) (tCons (tOp (rIx a.S) (tVar 3) (tVar 6)) (tCons (tOp (rIx a.S) (tVar 4) (tVar 6)) tNil)))))) (tRet (tC (.bl false))) tNext))))
    (tRet (tAndV (tCall (sp_agrees a) [] E (tCons (tOp (rIx a.S) (tVar 3) (tC (.int 0))) (tCons (tOp (rIx a.S) (tVar 4) (tC (.int 0))) tNil))) (tCall (sp_agrees a) [] E (tCons (tOp (rIx a.S) (tVar 3) (tC (.int 1))) (tCons (tOp (rIx a.S) (tVar 4) (tC (.int 1))) tNil))))))))))) ⟨fun _ H' => Q .non H', Q, fun _ _ => False, fun _ _ => False⟩ [some v0, none, none, none, none, none, none] H) : sp_law a [v0] H Q E := ⟨rfl, h⟩
instance ne_0 : NeS "number" "setting" := ⟨by decide +kernel⟩
instance ne_1 : NeS "number" "times" := ⟨by decide +kernel⟩
instance ne_2 : NeS "setting" "number" := ⟨by decide +kernel⟩
instance ne_3 : NeS "setting" "times" := ⟨by decide +kernel⟩
instance ne_4 : NeS "times" "number" := ⟨by decide +kernel⟩
instance ne_5 : NeS "times" "setting" := ⟨by decide +kernel⟩
instance ne_6 : NeS "arm" "number" := ⟨by decide +kernel⟩
instance ne_7 : NeS "arm" "setting" := ⟨by decide +kernel⟩
instance ne_8 : NeS "arm" "times" := ⟨by decide +kernel⟩
instance ne_9 : NeS "disarm" "number" := ⟨by decide +kernel⟩
instance ne_10 : NeS "disarm" "setting" := ⟨by decide +kernel⟩
instance ne_11 : NeS "disarm" "times" := ⟨by decide +kernel⟩
instance ne_12 : NeS "when" "number" := ⟨by decide +kernel⟩
instance ne_13 : NeS "when" "setting" := ⟨by decide +kernel⟩
instance ne_14 : NeS "when" "times" := ⟨by decide +kernel⟩
instance ne_15 : NeS "due" "number" := ⟨by decide +kernel⟩
instance ne_16 : NeS "due" "setting" := ⟨by decide +kernel⟩
instance ne_17 : NeS "due" "times" := ⟨by decide +kernel⟩
instance ne_18 : NeS "soonest" "number" := ⟨by decide +kernel⟩
instance ne_19 : NeS "soonest" "setting" := ⟨by decide +kernel⟩
instance ne_20 : NeS "soonest" "times" := ⟨by decide +kernel⟩

/-! the walker: «walk_at "y 1"» one step, «walk_at "y"» as far as it goes -/
local macro_rules | `(tactic| walk_at "y mem") => `(tactic| repeat (first | assumption | exact List.Mem.head _ | apply List.Mem.tail))
local macro_rules | `(tactic| walk_at "y sub") => `(tactic| first | exact List.Sublist.refl _ | exact List.nil_sublist _ | (refine List.Sublist.cons₂ _ ?_; walk_at "y sub") | (refine List.Sublist.cons _ ?_; walk_at "y sub"))
local macro_rules | `(tactic| walk_at "y take") => `(tactic| first | exact Y.Take.here | (apply Y.Take.there; walk_at "y take"))
local macro_rules | `(tactic| walk_at "y sel") => `(tactic| first | exact Y.Sel.all | exact Y.Sel.nil | (refine' Y.Sel.cons ?h ?s; (case h => walk_at "y take"); (case s => walk_at "y sel")) | ((fail_if_success (show Y.Sel (_ :: _) _)); apply Y.Sel.drop; walk_at "y sel"))
local macro_rules | `(tactic| walk_at "y src") => `(tactic| first | assumption | (refine Y.Src.is ?_; walk_at "y mem"; done) | (refine Y.Src.rd ?_; walk_at "y mem"; done) | (refine Y.Src.st ?_; assumption) | (apply Y.Src.cons; walk_at "y src"))
local macro_rules | `(tactic| walk_at "y put") => `(tactic| repeat (first | assumption | exact Y.Put.here | apply Y.Put.there))
local macro_rules | `(tactic| walk_at "y at") => `(tactic| first | exact Y.atI_at (j := 0) rfl rfl | exact Y.atI_at (j := 1) rfl rfl | exact Y.atI_at (j := 2) rfl rfl | exact Y.atI_at (j := 3) rfl rfl | exact Y.atI_at (j := 4) rfl rfl | exact Y.atI_at (j := 5) rfl rfl | exact Y.atI_at (j := 6) rfl rfl | exact Y.atI_at (j := 7) rfl rfl | exact Y.atI_at (j := 8) rfl rfl | exact Y.atI_at (j := 9) rfl rfl | exact Y.atI_at (j := 10) rfl rfl | exact Y.atI_at (j := 11) rfl rfl | exact Y.atI_at (j := 12) rfl rfl | exact Y.atI_at (j := 13) rfl rfl | exact Y.atI_at (j := 14) rfl rfl | exact Y.atI_at (j := 15) rfl rfl | assumption | exact Y.atI_ints (by omega) (by omega))
local macro_rules | `(tactic| walk_at "y ix") => `(tactic| first | exact Y.ixN_b (j := 0) rfl rfl | exact Y.ixN_b (j := 1) rfl rfl | exact Y.ixN_b (j := 2) rfl rfl | exact Y.ixN_b (j := 3) rfl rfl | exact Y.ixN_b (j := 4) rfl rfl | exact Y.ixN_b (j := 5) rfl rfl | exact Y.ixN_b (j := 6) rfl rfl | exact Y.ixN_b (j := 7) rfl rfl | exact Y.ixN_b (j := 8) rfl rfl | exact Y.ixN_b (j := 9) rfl rfl | exact Y.ixN_b (j := 10) rfl rfl | exact Y.ixN_b (j := 11) rfl rfl | exact Y.ixN_b (j := 12) rfl rfl | exact Y.ixN_b (j := 13) rfl rfl | exact Y.ixN_b (j := 14) rfl rfl | exact Y.ixN_b (j := 15) rfl rfl | assumption | exact Y.ixN_i (by omega) (by omega))
local macro_rules | `(tactic| walk_at "y field") => `(tactic| first | assumption | exact Y.look_hit | exact Y.look_nil | (refine' Y.look_miss ?hd ?tl; (case hd => decide +kernel); (case tl => walk_at "y field")))
local macro_rules | `(tactic| walk_at "y putf") => `(tactic| first | exact Y.put_nil | exact Y.put_hit | (refine' Y.put_miss ?hd ?tl; (case hd => decide +kernel); (case tl => walk_at "y putf")))
local macro_rules | `(tactic| walk_at "y size") => `(tactic| first | exact Y.len_leB rfl | exact Y.len_ltB rfl | exact Y.f_lt rfl | (refine Y.len_leN ?_; simp only [List.length_append, List.length_cons, List.length_nil, List.length_map]; omega) | (refine Y.len_ltN ?_; simp only [List.length_append, List.length_cons, List.length_nil, List.length_map]; omega))
local macro_rules | `(tactic| walk_at "y flat") => `(tactic| first | exact Y.flat_ints | rfl | assumption | (refine Y.flat_cons ?_ ?_; (first | rfl | decide +kernel | assumption); walk_at "y flat"))
local macro_rules | `(tactic| walk_at "y eqv") => `(tactic| first | exact Y.eqv_nil | exact Y.eqv_nc | exact Y.eqv_cn | exact Y.eqv_ints | assumption | ((try simp (disch := decide +kernel) only [Y.eqv_strS, Y.eqv_strD, Y.eqv_int, Y.eqv_bl, Y.eqv_nil, Y.eqv_nc, Y.eqv_cn, Y.eqv_nn, Y.eqv_ni, Y.eqv_in, Y.eqv_ns, Y.eqv_sn, Y.eqv_si, Y.eqv_is, decide_true, Bool.true_and, Bool.false_and, Bool.and_true, Bool.and_false, eq_self, List.cons_append, List.nil_append]); (try simp only [Y.eqv_str, Y.eqv_int, Y.eqv_bl, Y.eqv_nil, Y.eqv_nc, Y.eqv_cn, Y.eqv_nn, Y.eqv_ni, Y.eqv_in, Y.eqv_ns, Y.eqv_sn, Y.eqv_si, Y.eqv_is, decide_true, Bool.true_and, Bool.false_and, Bool.and_true, Bool.and_false, eq_self, List.cons_append, List.nil_append, ← Bool.decide_and]); rfl))
local macro_rules | `(tactic| walk_at "y side") => `(tactic| fail "side")
local macro_rules | `(tactic| walk_at "y spec") => `(tactic| fail "spec")
local macro_rules | `(tactic| walk_at "y old Ar") => `(tactic| first
  | ((with_reducible refine' Y.x_strI ?c ?_); (case c => omega))
  | ((with_reducible refine' Y.x_mod ?c ?_); (case c => first | omega | decide | walk_at "y side"))
  | ((with_reducible refine' Y.x_fdiv ?c ?_); (case c => first | exact Y.div_small (by omega) (by omega) | walk_at "y side"))
  | ((with_reducible refine' Y.x_mul ?c ?_); (case c => first | exact Y.mulR (by omega) (by omega) | exact Y.mulL (by omega) (by omega) | walk_at "y side"))
  | ((with_reducible refine Y.is_pow ?_); first
    | (with_reducible refine Y.x_pw10_1 ?_)
    | (with_reducible refine Y.x_pw10_2 ?_)
    | (with_reducible refine Y.x_pw10_3 ?_)
    | (with_reducible refine Y.x_pw10_4 ?_)
    | (with_reducible refine Y.x_pw10_5 ?_)
    | (with_reducible refine Y.x_pw10_6 ?_)
    | (with_reducible refine Y.x_pw10_7 ?_)
    | (with_reducible refine Y.x_pw10_8 ?_)
    | (with_reducible refine Y.x_pw10_9 ?_)
    | (with_reducible refine Y.x_pw10_10 ?_)
    | (with_reducible refine Y.x_pw10_11 ?_)
    | (with_reducible refine Y.x_pw10_12 ?_)
    | (with_reducible refine Y.x_pw10_13 ?_)
    | (with_reducible refine Y.x_pw10_14 ?_)
    | (with_reducible refine Y.x_pw10_15 ?_)
    | (with_reducible refine Y.x_pw10_16 ?_)
    | (with_reducible refine Y.x_pw10_17 ?_)
    | (with_reducible refine Y.x_pw10_18 ?_)
    | (with_reducible refine Y.x_pw10_19 ?_)
    | (with_reducible refine Y.x_pw10_20 ?_)
    | (with_reducible refine Y.x_pw10_21 ?_)
    | (with_reducible refine Y.x_pw10_22 ?_)
    | (with_reducible refine Y.x_pw10_23 ?_)
    | (with_reducible refine Y.x_pw10_24 ?_)
    | (with_reducible refine Y.x_pw2_6 ?_)
    | (with_reducible refine Y.x_pw2_10 ?_)
    | (with_reducible refine Y.x_pw2_16 ?_)
    | (with_reducible refine Y.x_pw2_20 ?_)
    | (with_reducible refine Y.x_pw2_30 ?_)
    | (with_reducible refine Y.x_pw2_31 ?_)
    | (with_reducible refine Y.x_pw2_32 ?_)
    | (with_reducible refine Y.x_pw2_40 ?_)
    | (with_reducible refine Y.x_pw2_48 ?_)
    | (with_reducible refine Y.x_pw2_60 ?_)
    | (with_reducible refine Y.x_pw2_62 ?_)
    | (with_reducible refine Y.x_pw2_63 ?_)
    | (with_reducible refine Y.x_pw2_64 ?_))
  | ((with_reducible refine' Y.x_pow ?c ?_); (case c => first | exact ⟨by decide, by decide, by decide⟩ | walk_at "y side"))
  | ((with_reducible refine' Y.x_shl ?c ?_); (case c => first | exact ⟨by omega, by omega, by decide⟩ | walk_at "y side")))
local macro_rules | `(tactic| walk_at "y old Ix") => `(tactic| first
  | ((with_reducible refine Y.is_ix ?_); first
    | ((with_reducible refine' Y.x_ixL ?F ?m ?a ?_); (case F => assumption); (case m => walk_at "y mem"); (case a => walk_at "y at"))
    | ((with_reducible refine' Y.x_ixT ?F ?m ?a ?_); (case F => assumption); (case m => walk_at "y mem"); (case a => walk_at "y at"))
    | ((with_reducible refine' Y.x_ixR ?F ?m ?a ?_); (case F => assumption); (case m => walk_at "y mem"); (case a => walk_at "y at"))
    | ((with_reducible refine' Y.x_ixS ?ms ?a ?_); (case ms => assumption); (case a => walk_at "y at")))
  | ((with_reducible refine Y.is_len ?_); first
    | ((with_reducible refine' Y.x_lenL ?F ?m ?_); (case F => assumption); (case m => walk_at "y mem"))
    | ((with_reducible refine' Y.x_lenT ?F ?m ?_); (case F => assumption); (case m => walk_at "y mem"))
    | ((with_reducible refine' Y.x_lenR ?F ?m ?_); (case F => assumption); (case m => walk_at "y mem"))
    | ((with_reducible refine' Y.x_lenS ?ms ?_); (case ms => assumption)))
  | ((with_reducible refine Y.is_sl ?_); first
    | ((with_reducible refine' Y.x_sl1 ?F ?m ?_); (case F => assumption); (case m => walk_at "y mem"); intro _ _ _ _)
    | ((with_reducible refine' Y.x_slp1 ?F ?m ?_); (case F => assumption); (case m => walk_at "y mem"); intro _ _ _ _)
    | ((with_reducible refine' Y.x_slp2 ?F ?m ?_); (case F => assumption); (case m => walk_at "y mem"); intro _ _ _ _)
    | ((with_reducible refine' Y.x_slp3 ?F ?m ?_); (case F => assumption); (case m => walk_at "y mem"); intro _ _ _ _)
    | ((with_reducible refine' Y.x_slp4 ?F ?m ?_); (case F => assumption); (case m => walk_at "y mem"); intro _ _ _ _)
    | ((with_reducible refine' Y.x_slp5 ?F ?m ?_); (case F => assumption); (case m => walk_at "y mem"); intro _ _ _ _)
    | ((with_reducible refine' Y.x_slp6 ?F ?m ?_); (case F => assumption); (case m => walk_at "y mem"); intro _ _ _ _)
    | ((with_reducible refine' Y.x_slp7 ?F ?m ?_); (case F => assumption); (case m => walk_at "y mem"); intro _ _ _ _)
    | ((with_reducible refine' Y.x_slp8 ?F ?m ?_); (case F => assumption); (case m => walk_at "y mem"); intro _ _ _ _)
    | ((with_reducible refine' Y.x_slL ?F ?m ?_); (case F => assumption); (case m => walk_at "y mem"); intro _ _ _ _)
    | ((with_reducible refine' Y.x_slR ?F ?m ?_); (case F => assumption); (case m => walk_at "y mem"); intro _ _ _ _)
    | ((with_reducible refine' Y.x_slS ?F ?ms ?_); (case F => assumption); (case ms => assumption); intro _ _ _ _)))
local macro_rules | `(tactic| walk_at "y old Eq") => `(tactic| first
  | ((with_reducible refine Y.is_eqP ?_); first
    | (with_reducible refine Y.x_eqPI ?_)
    | (with_reducible refine Y.x_eqPB ?_)
    | (with_reducible refine Y.x_eqPSs ?_)
    | ((with_reducible refine' Y.x_eqPSd ?ne ?_); (case ne => decide +kernel))
    | (with_reducible refine Y.x_eqPS ?_)
    | (with_reducible refine Y.x_eqP_nn ?_)
    | (with_reducible refine Y.x_eqP_ni ?_)
    | (with_reducible refine Y.x_eqP_in ?_)
    | (with_reducible refine Y.x_eqP_nb ?_)
    | (with_reducible refine Y.x_eqP_bn ?_)
    | (with_reducible refine Y.x_eqP_ns ?_)
    | (with_reducible refine Y.x_eqP_sn ?_)
    | (with_reducible refine Y.x_eqP_is ?_)
    | (with_reducible refine Y.x_eqP_si ?_)
    | (with_reducible refine Y.x_eqP_bs ?_)
    | (with_reducible refine Y.x_eqP_sb ?_)
    | ((with_reducible refine' Y.x_eqPL ?F ?m ?n ?f1 ?f2 ?ev ?_); (case F => assumption); (case m => walk_at "y mem"); (case n => walk_at "y mem"); (case f1 => walk_at "y flat"); (case f2 => walk_at "y flat"); (case ev => walk_at "y eqv"))
    | ((with_reducible refine' Y.x_eqPT ?F ?m ?n ?f1 ?f2 ?ev ?_); (case F => assumption); (case m => walk_at "y mem"); (case n => walk_at "y mem"); (case f1 => walk_at "y flat"); (case f2 => walk_at "y flat"); (case ev => walk_at "y eqv")))
  | ((with_reducible refine Y.is_neP ?_); first
    | (with_reducible refine Y.x_nePI ?_)
    | (with_reducible refine Y.x_nePB ?_)
    | (with_reducible refine Y.x_nePSs ?_)
    | ((with_reducible refine' Y.x_nePSd ?ne ?_); (case ne => decide +kernel))
    | (with_reducible refine Y.x_nePS ?_)
    | (with_reducible refine Y.x_neP_nn ?_)
    | (with_reducible refine Y.x_neP_ni ?_)
    | (with_reducible refine Y.x_neP_in ?_)
    | (with_reducible refine Y.x_neP_nb ?_)
    | (with_reducible refine Y.x_neP_bn ?_)
    | (with_reducible refine Y.x_neP_ns ?_)
    | (with_reducible refine Y.x_neP_sn ?_)
    | (with_reducible refine Y.x_neP_is ?_)
    | (with_reducible refine Y.x_neP_si ?_)
    | (with_reducible refine Y.x_neP_bs ?_)
    | (with_reducible refine Y.x_neP_sb ?_)
    | ((with_reducible refine' Y.x_nePL ?F ?m ?n ?f1 ?f2 ?ev ?_); (case F => assumption); (case m => walk_at "y mem"); (case n => walk_at "y mem"); (case f1 => walk_at "y flat"); (case f2 => walk_at "y flat"); (case ev => walk_at "y eqv"))
    | ((with_reducible refine' Y.x_nePT ?F ?m ?n ?f1 ?f2 ?ev ?_); (case F => assumption); (case m => walk_at "y mem"); (case n => walk_at "y mem"); (case f1 => walk_at "y flat"); (case f2 => walk_at "y flat"); (case ev => walk_at "y eqv"))))
local macro_rules | `(tactic| walk_at "y old In") => `(tactic| first
  | ((with_reducible refine' Y.x_inL (bb := false) ?F ?m ?f ?fs ?e ?_); (case F => assumption); (case m => walk_at "y mem"); (case f => rfl); (case fs => rfl); (case e => rfl))
  | ((with_reducible refine' Y.x_inL (bb := true) ?F ?m ?f ?fs ?e ?_); (case F => assumption); (case m => walk_at "y mem"); (case f => rfl); (case fs => rfl); (case e => rfl))
  | ((with_reducible refine' Y.x_inL ?F ?m ?f ?fs ?e ?_); (case F => assumption); (case m => walk_at "y mem"); (case f => rfl); (case fs => rfl); (case e => rfl))
  | ((with_reducible refine' Y.x_inT (bb := false) ?F ?m ?f ?fs ?e ?_); (case F => assumption); (case m => walk_at "y mem"); (case f => rfl); (case fs => rfl); (case e => rfl))
  | ((with_reducible refine' Y.x_inT (bb := true) ?F ?m ?f ?fs ?e ?_); (case F => assumption); (case m => walk_at "y mem"); (case f => rfl); (case fs => rfl); (case e => rfl))
  | ((with_reducible refine' Y.x_inT ?F ?m ?f ?fs ?e ?_); (case F => assumption); (case m => walk_at "y mem"); (case f => rfl); (case fs => rfl); (case e => rfl))
  | ((with_reducible refine' Y.x_ninL (bb := false) ?F ?m ?f ?fs ?e ?_); (case F => assumption); (case m => walk_at "y mem"); (case f => rfl); (case fs => rfl); (case e => rfl))
  | ((with_reducible refine' Y.x_ninL (bb := true) ?F ?m ?f ?fs ?e ?_); (case F => assumption); (case m => walk_at "y mem"); (case f => rfl); (case fs => rfl); (case e => rfl))
  | ((with_reducible refine' Y.x_ninL ?F ?m ?f ?fs ?e ?_); (case F => assumption); (case m => walk_at "y mem"); (case f => rfl); (case fs => rfl); (case e => rfl))
  | ((with_reducible refine' Y.x_ninT (bb := false) ?F ?m ?f ?fs ?e ?_); (case F => assumption); (case m => walk_at "y mem"); (case f => rfl); (case fs => rfl); (case e => rfl))
  | ((with_reducible refine' Y.x_ninT (bb := true) ?F ?m ?f ?fs ?e ?_); (case F => assumption); (case m => walk_at "y mem"); (case f => rfl); (case fs => rfl); (case e => rfl))
  | ((with_reducible refine' Y.x_ninT ?F ?m ?f ?fs ?e ?_); (case F => assumption); (case m => walk_at "y mem"); (case f => rfl); (case fs => rfl); (case e => rfl)))
local macro_rules | `(tactic| walk_at "y old Ty") => `(tactic| first
  | ((with_reducible refine Y.is_isi ?_); first
    | ((with_reducible refine' Y.x_isr_list_int ?F ?m ?_); (case F => assumption); (case m => walk_at "y mem"))
    | ((with_reducible refine' Y.x_isr_list_bool ?F ?m ?_); (case F => assumption); (case m => walk_at "y mem"))
    | ((with_reducible refine' Y.x_isr_list_str ?F ?m ?_); (case F => assumption); (case m => walk_at "y mem"))
    | ((with_reducible refine' Y.x_isr_list_list ?F ?m ?_); (case F => assumption); (case m => walk_at "y mem"))
    | ((with_reducible refine' Y.x_isr_list_tuple ?F ?m ?_); (case F => assumption); (case m => walk_at "y mem"))
    | ((with_reducible refine' Y.x_isr_list_dict ?F ?m ?_); (case F => assumption); (case m => walk_at "y mem"))
    | ((with_reducible refine' Y.x_isr_tuple_int ?F ?m ?_); (case F => assumption); (case m => walk_at "y mem"))
    | ((with_reducible refine' Y.x_isr_tuple_bool ?F ?m ?_); (case F => assumption); (case m => walk_at "y mem"))
    | ((with_reducible refine' Y.x_isr_tuple_str ?F ?m ?_); (case F => assumption); (case m => walk_at "y mem"))
    | ((with_reducible refine' Y.x_isr_tuple_list ?F ?m ?_); (case F => assumption); (case m => walk_at "y mem"))
    | ((with_reducible refine' Y.x_isr_tuple_tuple ?F ?m ?_); (case F => assumption); (case m => walk_at "y mem"))
    | ((with_reducible refine' Y.x_isr_tuple_dict ?F ?m ?_); (case F => assumption); (case m => walk_at "y mem"))))
local macro_rules | `(tactic| walk_at "y old Oth") => `(tactic| first
  | ((with_reducible refine' Y.x_wipe ?e ?_); (case e => rfl))
  | ((with_reducible refine' Y.x_lcPut ?F ?pu ?sz ?_); (case F => assumption); (case pu => walk_at "y put"); (case sz => walk_at "y size"); intro _ _)
  | ((with_reducible refine' Y.x_mDG ?F ?hm ?mt ?l ?_); (case F => assumption); (case hm => walk_at "y mem"); (case mt => walk_at "y mem"); (case l => walk_at "y field"))
  | ((with_reducible refine' Y.x_fldDG ?F ?m ?mt ?l ?_); (case F => assumption); (case m => walk_at "y mem"); (case mt => walk_at "y mem"); (case l => walk_at "y field"))
  | ((with_reducible refine' Y.x_setFDG ?F ?m ?mt ?z ?e ?pu ?_); (case F => assumption); (case m => walk_at "y mem"); (case mt => walk_at "y mem"); (case z => walk_at "y size"); (case e => walk_at "y putf"); (case pu => walk_at "y put"); intro _ _)
  | ((with_reducible refine' Y.x_augFDG ?F ?m ?mt ?l ?_); (case F => assumption); (case m => walk_at "y mem"); (case mt => walk_at "y mem"); (case l => walk_at "y field"))
  | ((with_reducible refine' Y.x_propDG ?F ?m ?mt ?_); (case F => assumption); (case m => walk_at "y mem"); (case mt => walk_at "y mem"))
  | ((with_reducible refine' Y.x_supM ?F ?m ?mt ?_); (case F => assumption); (case m => walk_at "y mem"); (case mt => walk_at "y mem"))
  | ((with_reducible refine' Y.x_getL ?F ?m ?a ?_); (case F => assumption); (case m => walk_at "y mem"); (case a => walk_at "y at"))
  | ((with_reducible refine' Y.x_wTs ?mt ?rf ?_); (case mt => walk_at "y mem"); (case rf => rfl); intro _)
  | ((with_reducible refine' Y.x_wTn ?mt ?rf ?_); (case mt => walk_at "y mem"); (case rf => rfl); intro _)
  | ((with_reducible refine' Y.x_xfG ?F ?m ?mt ?l ?_); (case F => assumption); (case m => walk_at "y mem"); (case mt => walk_at "y mem"); (case l => walk_at "y field"))
  | ((with_reducible refine' Y.x_isX ?F ?m ?mt ?_); (case F => assumption); (case m => walk_at "y mem"); (case mt => walk_at "y mem"))
  | ((with_reducible refine' Y.x_isXi  ?_); )
  | ((with_reducible refine' Y.x_fldG ?F ?m ?l ?_); (case F => assumption); (case m => walk_at "y mem"); (case l => walk_at "y field"))
  | ((with_reducible refine' Y.x_methG ?F ?m ?l ?_); (case F => assumption); (case m => walk_at "y mem"); (case l => walk_at "y field"))
  | ((with_reducible refine' Y.x_inOwnF ?F ?m ?_); (case F => assumption); (case m => walk_at "y mem"))
  | ((with_reducible refine' Y.x_inOwnT ?F ?m ?_); (case F => assumption); (case m => walk_at "y mem"))
  | ((with_reducible refine' Y.x_setFG ?F ?m ?z ?e ?pu ?_); (case F => assumption); (case m => walk_at "y mem"); (case z => walk_at "y size"); (case e => walk_at "y putf"); (case pu => walk_at "y put"); intro _ _)
  | ((with_reducible refine' Y.x_setL ?F ?m ?ax ?pu ?_); (case F => assumption); (case m => walk_at "y mem"); (case ax => walk_at "y ix"); (case pu => walk_at "y put"); intro _ _)
  | ((with_reducible refine' Y.x_apdG ?F ?m ?_); (case F => assumption); (case m => walk_at "y mem"))
  | ((with_reducible refine' Y.x_append ?F ?m ?z ?pu ?_); (case F => assumption); (case m => walk_at "y mem"); (case z => walk_at "y size"); (case pu => walk_at "y put"); intro _ _)
  | ((with_reducible refine' Y.x_lstG ?F ?z ?_); (case F => assumption); (case z => walk_at "y size"); intro _ _ _ _)
  | ((with_reducible refine' Y.x_tupG ?F ?z ?_); (case F => assumption); (case z => walk_at "y size"); intro _ _ _ _)
  | ((with_reducible refine' Y.forTU ?F ?m ?_); (case F => assumption); (case m => walk_at "y mem"))
  | ((with_reducible refine' Y.x_sumL ?F ?m ?_); (case F => assumption); (case m => walk_at "y mem"))
  | ((with_reducible refine' Y.x_cat ?F ?m ?n ?z ?_); (case F => assumption); (case m => walk_at "y mem"); (case n => walk_at "y mem"); (case z => walk_at "y size"); intro _ _ _ _)
  | ((with_reducible refine' Y.x_propG ?F ?m ?_); (case F => assumption); (case m => walk_at "y mem"))
  | ((with_reducible refine' Y.x_augFG ?F ?m ?l ?_); (case F => assumption); (case m => walk_at "y mem"); (case l => walk_at "y field"))
  | ((with_reducible refine' Y.x_augFS ?F ?m ?z ?e ?pu ?_); (case F => assumption); (case m => walk_at "y mem"); (case z => walk_at "y size"); (case e => walk_at "y putf"); (case pu => walk_at "y put"); intro _ _))
local macro_rules | `(tactic| walk_at "y open") => `(tactic| with_reducible first | unfold Y.KFl | unfold Y.KFlD | unfold Y.KSf | unfold Y.KSfD | unfold Y.KAf | unfold Y.KAs | unfold Y.KAfD | unfold Y.KMe | unfold Y.KMD | unfold Y.KPr | unfold Y.KPrD | unfold Y.KAp | unfold Y.KBl | unfold Y.KIn)
local macro_rules | `(tactic| walk_at "y 1") => `(tactic| first
  | ((with_reducible refine Y.go ?_); intros)
  | ((with_reducible refine Y.hdAr_is ?_); walk_at "y old Ar")
  | ((with_reducible refine Y.hdIx_is ?_); walk_at "y old Ix")
  | ((with_reducible refine Y.hdEq_is ?_); walk_at "y old Eq")
  | ((with_reducible refine Y.hdIn_is ?_); walk_at "y old In")
  | ((with_reducible refine Y.hdTy_is ?_); walk_at "y old Ty")
  | ((with_reducible refine Y.hdFm_is ?_); ((with_reducible refine' Y.x_fmI ?b ?_); (case b => omega)))
  | ((with_reducible refine Y.hdK_is ?_); walk_at "y open"; walk_at "y old Oth")
  | ((with_reducible refine Y.hd_is ?_); walk_at "y old Oth"))
local macro_rules | `(tactic| walk_at "y if") => `(tactic| first
  | ((with_reducible refine Y.x_ite ?_ ?_); all_goals (intro _; try (exfalso; omega)))
  | ((with_reducible refine Y.x_niteP ?_ ?_); all_goals (intro _; try (exfalso; omega)))
  | ((with_reducible refine Y.x_itec ?_ ?_); all_goals intro _)
  | ((with_reducible refine Y.x_nitec ?_ ?_); all_goals intro _))
local macro_rules | `(tactic| walk_at "y") => `(tactic| repeat' (first | walk_at "y 1" | walk_at "y if" | walk_at "y spec"))

section
/-! the bag of the draws -/
abbrev BagA := Addr × Addr × List Int × List Int × Int × Int
def bagE (p : Addr) (b : BagA) : List Ent := [(p, Is (.lst [.ref b.1, .ref b.2.1, .int b.2.2.2.2.1, .int b.2.2.2.2.2])), (b.1, Is (.lst (b.2.2.1.map V.int))), (b.2.1, Is (.lst (b.2.2.2.1.map V.int)))]
def bagP (b : BagA) : Prop := (∀ n ∈ b.2.2.1, 0 ≤ n) ∧ b.2.2.1.length ≤ 63 ∧ (∀ n ∈ b.2.2.2.1, 0 ≤ n ∧ n < 2147483647) ∧ b.2.2.2.1.length ≤ 63
def Bag : Pr := comp bagE bagP
theorem take_ok {a : Cl} {H : Hp} {L : List Ent} {p : Addr} {n : Int} {Q : VK} {E : XK} (F : FH H L) (m : (p, Bag) ∈ L) (hn : 0 < n) (hn2 : n ≤ 1000000000000) (k : ∀ r H', 0 ≤ r → r < n → FH H' L → Q (.int r) H') : sp_take a [.ref p, .int n] H Q E := by
  obtain ⟨R, hR⟩ := pull m
  obtain ⟨⟨g, c, gs, cs, i, s⟩, ⟨h1, h2, h3, h4⟩, F1⟩ := (F.perm hR).unfold
  have fin : ∀ (r : Int) (g' : Addr) (gs' : List Int) (i' : Int) (H' : Hp), 0 ≤ r → r < n → (∀ n ∈ gs', 0 ≤ n) → gs'.length ≤ 63 → FH H' ((p, Is (.lst [.ref g', .ref c, .int i', .int s])) :: (g', Is (.lst (gs'.map V.int))) :: (c, Is (.lst (cs.map V.int))) :: R) → Q (.int r) H' := fun r g' gs' i' H' b1 b2 b3 b4 F' =>
    k r H' b1 b2 ((FH.fold (E := bagE) (P := bagP) (g', c, gs', cs, i', s) ⟨b3, b4, h3, h4⟩ F' (List.mem_cons_self)).perm hR.symm)
  clear k F m hR
  have F2 : FH H ((p, Is (.lst [.ref g, .ref c, .int i, .int s])) :: (g, Is (.lst (gs.map V.int))) :: (c, Is (.lst (cs.map V.int))) :: R) := F1
  clear F1
  refine in_take ?_
  cases gs with
  | nil =>
    cases cs with
    | nil =>
      walk_at "y"
      exact fin _ _ [] _ _ (Int.emod_nonneg _ (by omega)) (Int.emod_lt_of_pos _ hn) h1 h2 (FH.sel (by assumption) (by walk_at "y sel"))
    | cons z zs =>
      have e0 : ((List.map V.int (z :: zs)).length : Int) = zs.length + 1 := by simp
      have e1 := Int.emod_nonneg (i + 1) (show ((List.map V.int (z :: zs)).length : Int) ≠ 0 by omega)
      have e2 := Int.emod_lt_of_pos (i + 1) (show 0 < ((List.map V.int (z :: zs)).length : Int) by omega)
      walk_at "y"
      exact fin _ _ [] _ _ (Int.emod_nonneg _ (by omega)) (Int.emod_lt_of_pos _ hn) h1 h2 (FH.sel (by assumption) (by walk_at "y sel"))
  | cons y ys =>
    simp only [List.length_cons] at h2
    have hy := h1 y List.mem_cons_self
    have hys : ∀ n ∈ ys, 0 ≤ n := fun n m => h1 n (List.mem_cons_of_mem _ m)
    walk_at "y"
    · exact fin _ _ (y / n :: ys) _ _ (Int.emod_nonneg _ (by omega)) (Int.emod_lt_of_pos _ hn) (fun z m => (List.mem_cons.mp m).elim (fun e => by rw [e]; exact Int.ediv_nonneg hy (by omega)) (hys z)) (by simp only [List.length_cons]; exact h2) (FH.sel (by assumption) (by walk_at "y sel"))
    · exact fin _ _ ys _ _ (Int.emod_nonneg _ (by omega)) (Int.emod_lt_of_pos _ hn) hys (by omega) (FH.sel (by assumption) (by walk_at "y sel"))

local macro_rules | `(tactic| walk_at "y spec") => `(tactic| first
  | ((with_reducible refine' take_ok ?F ?m ?hn ?hn2 ?_); (case F => assumption); (case m => walk_at "y mem"); (case hn => first | omega | exact Int.emod_nonneg _ (by omega) | exact Int.emod_lt_of_pos _ (by omega)); (case hn2 => first | omega | exact Int.emod_nonneg _ (by omega) | exact Int.emod_lt_of_pos _ (by omega)); intro _ _ _ _ _))

theorem bag_ok {a : Cl} {H : Hp} {L : List Ent} {q : Addr} {ns : List Int} {Q : VK} {E : XK} (F : FH H L) (m : Src a.S L q (ns.map V.int)) (hl : ns.length ≤ 63) (k : ∀ p H', FH H' ((p, Bag) :: L) → Q (.ref p) H') : sp_bag a [.ref q] H Q E := by
  refine in_bag ?_
  walk_at "y"
  refine lcIK (σw := [some (.ref q), none, none, none]) (fun i => if i < 0 then -i else i) (fun i => decide (1000000000000000000 ≤ if i < 0 then -i else i)) F m (by omega) rfl (fun y H QX A hy F' hk hA => ?_) fun D H' F' => ?_
  · walk_at "y"
    · exact hk (decide_eq_true (by assumption))
    · exact hA (decide_eq_false (by assumption))
  · have g1 : ∀ n ∈ (ns.filter fun i => decide (1000000000000000000 ≤ if i < 0 then -i else i)).map (fun i => if i < 0 then -i else i), 0 ≤ n := fun n hn => by
      obtain ⟨i, _, e⟩ := List.mem_map.mp hn
      subst e
      show 0 ≤ if i < 0 then -i else i
      split <;> omega
    have g2 : ((ns.filter fun i => decide (1000000000000000000 ≤ if i < 0 then -i else i)).map (fun i => if i < 0 then -i else i)).length ≤ 63 := by
      rw [List.length_map]
      exact Nat.le_trans (List.length_filter_le _ _) hl
    generalize (ns.filter fun i => decide (1000000000000000000 ≤ if i < 0 then -i else i)).map (fun i => if i < 0 then -i else i) = gs at F' g1 g2
    walk_at "y"
    refine lcII (σw := [some (.ref q), some (.ref D), none, none]) (fun i => i % 2147483647) F' (by walk_at "y src") (by omega) rfl (fun y H QX hy F' hk => ?_) fun D2 H2 F2 => ?_
    · walk_at "y"
      exact hk
    · have g3 : ∀ n ∈ ns.map (fun i => i % 2147483647), 0 ≤ n ∧ n < 2147483647 := fun n hn => by
        obtain ⟨i, _, e⟩ := List.mem_map.mp hn
        subst e
        exact ⟨Int.emod_nonneg _ (by decide), Int.emod_lt_of_pos _ (by decide)⟩
      have g4 : (ns.map (fun i => i % 2147483647)).length ≤ 63 := by rw [List.length_map]; exact hl
      generalize ns.map (fun i => i % 2147483647) = cs at F2 g3 g4
      walk_at "y"
      rename_i p H3 _ F3
      refine k p H3 (FH.fold (E := bagE) (P := bagP) (D, D2, gs, cs, 0, cs.sum % 2147483629) ⟨g1, g2, g3, g4⟩ (FH.sel F3 ?_) List.mem_cons_self)
      show Sel ((p, Is (.lst [.ref D, .ref D2, .int 0, .int (cs.sum % 2147483629)])) :: (D, Is (.lst (gs.map V.int))) :: (D2, Is (.lst (cs.map V.int))) :: L) _
      walk_at "y sel"

end
section
/-! the plain law of the times: a list of names and whole numbers -/
abbrev Dn := List (Str × Int)
def dvS (D : Dn) : List (Key × V) := D.map fun p => (.inr p.1, .int p.2)
def lkS : Dn → Str → Option Int
  | [], _ => none
  | p :: r, x => if p.1 = x then some p.2 else lkS r x
def puS : Dn → Str → Int → Dn
  | [], x, y => [(x, y)]
  | p :: r, x, y => if p.1 = x then (x, y) :: r else p :: puS r x y
def drS (D : Dn) (x : Str) : Dn := D.filter fun p => decide (p.1 ≠ x)
theorem lkS_val {x : Str} : ∀ {D : Dn}, valV (dvS D) (.inr x) = (lkS D x).map V.int
  | [] => rfl
  | p :: D => by
    by_cases h : p.1 = x
    · rw [show dvS (p :: D) = (.inr p.1, .int p.2) :: dvS D from rfl, valV_pos (by rw [h])]
      simp [lkS, h]
    · rw [show dvS (p :: D) = (.inr p.1, .int p.2) :: dvS D from rfl, valV_neg (fun e => h (Sum.inr.inj e)), lkS_val]
      simp [lkS, h]
theorem lkS_put (x z : Str) (y : Int) : ∀ D : Dn, lkS (puS D x y) z = if z = x then some y else lkS D z
  | [] => by
    by_cases h : x = z
    · simp [puS, lkS, h]
    · simp [puS, lkS, h, Ne.symm h]
  | p :: D => by
    by_cases h : p.1 = x
    · by_cases hz : z = x
      · subst hz; simp [puS, lkS, h]
      · have : ¬ x = z := Ne.symm hz
        simp [puS, lkS, h, hz, this]
    · by_cases hz : p.1 = z
      · subst hz; simp [puS, lkS, h]
      · simp [puS, lkS, h, hz, lkS_put x z y D]
theorem lkS_drop (x z : Str) : ∀ D : Dn, lkS (drS D x) z = if z = x then none else lkS D z
  | [] => by simp [drS, lkS]
  | p :: D => by
    have ih := lkS_drop x z D
    unfold drS at ih ⊢
    by_cases h : p.1 = x
    · rw [List.filter_cons_of_neg (by simp [h]), ih]
      by_cases hz : z = x
      · simp [hz]
      · simp [lkS, h, hz, Ne.symm hz]
    · rw [List.filter_cons_of_pos (by simp [h])]
      by_cases hz : p.1 = z
      · simp [lkS, hz, show z ≠ x from fun e => h (hz.trans e)]
      · simp only [lkS, hz, if_false, ih]
/-- the names stand once -/
def Onc (D : Dn) : Prop := (D.map (·.1)).Nodup
theorem lkS_none {x : Str} : ∀ {D : Dn}, lkS D x = none ↔ x ∉ D.map (·.1)
  | [] => by simp [lkS]
  | p :: D => by
    by_cases h : p.1 = x
    · simp [lkS, h]
    · simp [lkS, h, Ne.symm h, lkS_none (D := D)]
theorem putS_dv {x : Str} {y : Int} : ∀ {D : Dn}, Onc D → putK (dvS D) (.inr x) (.int y) = dvS (puS D x y) := by
  intro D o
  unfold putK
  rw [valV_any, lkS_val]
  cases e : lkS D x with
  | none =>
    simp only [Option.map_none, Option.isSome_none, Bool.false_eq_true, if_false]
    induction D with
    | nil => rfl
    | cons p D ih =>
      by_cases h : p.1 = x
      · simp [lkS, h] at e
      · simp only [lkS, h, if_false] at e
        have o2 : Onc D := (List.nodup_cons.mp o).2
        show _ = dvS (puS (p :: D) x y)
        rw [show puS (p :: D) x y = p :: puS D x y by simp [puS, h]]
        show (Sum.inr p.1, V.int p.2) :: (dvS D ++ [(Sum.inr x, V.int y)]) = (Sum.inr p.1, V.int p.2) :: dvS (puS D x y)
        rw [ih o2 e]
  | some z =>
    simp only [Option.map_some, Option.isSome_some, if_true]
    induction D with
    | nil => cases e
    | cons p D ih =>
      have o1 : p.1 ∉ D.map (·.1) := (List.nodup_cons.mp o).1
      have o2 : Onc D := (List.nodup_cons.mp o).2
      by_cases h : p.1 = x
      · have no : x ∉ D.map (·.1) := by rw [← h]; exact o1
        have same : (dvS D).map (fun kv => if kv.1 = (Sum.inr x : Key) then (kv.1, V.int y) else kv) = dvS D := by
          refine (List.map_congr_left (g := id) fun kv m => ?_).trans (List.map_id _)
          obtain ⟨q, mq, rfl⟩ := List.mem_map.mp m
          have ne : ¬ (Sum.inr q.1 : Key) = Sum.inr x := fun e => no (by rw [← Sum.inr.inj e]; exact List.mem_map.mpr ⟨q, mq, rfl⟩)
          simp [ne]
        show (if (Sum.inr p.1 : Key) = Sum.inr x then ((Sum.inr p.1 : Key), V.int y) else (Sum.inr p.1, V.int p.2)) :: (dvS D).map (fun kv => if kv.1 = (Sum.inr x : Key) then (kv.1, V.int y) else kv) = _
        rw [same, show puS (p :: D) x y = (x, y) :: D by simp [puS, h]]
        simp [dvS, h]
      · simp only [lkS, h, if_false] at e
        have ne : ¬ (Sum.inr p.1 : Key) = Sum.inr x := fun z => h (Sum.inr.inj z)
        show (if (Sum.inr p.1 : Key) = Sum.inr x then ((Sum.inr p.1 : Key), V.int y) else (Sum.inr p.1, V.int p.2)) :: (dvS D).map (fun kv => if kv.1 = (Sum.inr x : Key) then (kv.1, V.int y) else kv) = _
        rw [ih o2 e, show puS (p :: D) x y = p :: puS D x y by simp [puS, h], if_neg ne]
        rfl
theorem dropS_dv (x : Str) : ∀ D : Dn, L2.dropK (dvS D) (.inr x) = dvS (drS D x)
  | [] => rfl
  | p :: D => by
    have ih := dropS_dv x D
    unfold L2.dropK drS at ih ⊢
    by_cases h : p.1 = x
    · rw [show dvS (p :: D) = (.inr p.1, .int p.2) :: dvS D from rfl, List.filter_cons_of_neg (by simp [h]), ih, List.filter_cons_of_neg (by simp [h])]
    · have ne : ¬ (Sum.inr p.1 : Key) = Sum.inr x := fun z => h (Sum.inr.inj z)
      rw [show dvS (p :: D) = (.inr p.1, .int p.2) :: dvS D from rfl, List.filter_cons_of_pos (by simp [ne]), ih, List.filter_cons_of_pos (by simp [h])]
      rfl
theorem puS_keys (x : Str) (y : Int) : ∀ D : Dn, (puS D x y).map (·.1) = if x ∈ D.map (·.1) then D.map (·.1) else D.map (·.1) ++ [x]
  | [] => by simp [puS]
  | p :: D => by
    by_cases h : p.1 = x
    · simp [puS, h]
    · rw [show puS (p :: D) x y = p :: puS D x y by simp [puS, h], List.map_cons, puS_keys x y D, List.map_cons]
      by_cases m : x ∈ D.map (·.1)
      · simp [m]
      · have : x ∉ p.1 :: D.map (·.1) := fun z => (List.mem_cons.mp z).elim (fun e => h e.symm) m
        rw [if_neg m, if_neg this, List.cons_append]
theorem Onc.put {D : Dn} (o : Onc D) (x : Str) (y : Int) : Onc (puS D x y) := by
  unfold Onc
  rw [puS_keys]
  split
  · exact o
  · rename_i h
    exact List.nodup_append.mpr ⟨o, by simp, fun a m b m' e => h (by rw [← List.mem_singleton.mp m', ← e]; exact m)⟩
theorem Onc.drop {D : Dn} (o : Onc D) (x : Str) : Onc (drS D x) := o.sublist (List.Sublist.map _ List.filter_sublist)

end
section
set_option synthInstance.checkSynthOrder false
/-! sequences and pairs by class search (k04, k06) -/
instance (priority := 10) lenE_any {α : Type} {xs : List α} : LenE xs xs.length := ⟨rfl⟩
instance mm_appR {x : Ent} {A B : List Ent} [m : Mm x B] : Mm x (A ++ B) := ⟨List.mem_append_right _ m.m⟩
instance (priority := 50) mm_appL {x : Ent} {A B : List Ent} [m : Mm x A] : Mm x (A ++ B) := ⟨List.mem_append_left _ m.m⟩
theorem put_app {p : Addr} {φ φ' : Pr} {N L L' : List Ent} (h : Put p φ φ' L L') : Put p φ φ' (N ++ L) (N ++ L') := by
  induction N with
  | nil => exact h
  | cons x N ih => exact .there ih
instance put_appE {p : Addr} {φ φ' : Pr} {N L L' : List Ent} [a : PutE p φ φ' L L'] : PutE p φ φ' (N ++ L) (N ++ L') := ⟨put_app a.pu⟩
/-- a list, a tuple, a tuple of the module -/
def Sq (S : Sta) (L : List Ent) (p : Addr) (xs : List V) : Prop := (p, Is (.lst xs)) ∈ L ∨ (p, Is (.tup xs)) ∈ L ∨ S p (.tup xs)
def Tq (S : Sta) (L : List Ent) (p : Addr) (xs : List V) : Prop := (p, Is (.tup xs)) ∈ L ∨ S p (.tup xs)
theorem Sq.mono {S : Sta} {L M : List Ent} (s : ∀ e ∈ L, e ∈ M) {p : Addr} {xs : List V} (h : Sq S L p xs) : Sq S M p xs := h.elim (fun h => .inl (s _ h)) fun h => h.elim (fun h => .inr (.inl (s _ h))) fun h => .inr (.inr h)
theorem Tq.mono {S : Sta} {L M : List Ent} (s : ∀ e ∈ L, e ∈ M) {p : Addr} {xs : List V} (h : Tq S L p xs) : Tq S M p xs := h.elim (fun h => .inl (s _ h)) fun h => .inr h
theorem Tq.sq {S : Sta} {L : List Ent} {p : Addr} {xs : List V} (h : Tq S L p xs) : Sq S L p xs := .inr h
theorem Sq.rd {S : Sta} {L : List Ent} {p : Addr} {xs : List V} (m : Sq S L p xs) : ∃ k : Bool, ∀ H, FH H L → RdS S H p (if k then .lst xs else .tup xs) := by
  rcases m with m | m | m
  · exact ⟨true, fun H F => .inl (.inl (F.get m))⟩
  · exact ⟨false, fun H F => .inl (.inl (F.get m))⟩
  · exact ⟨false, fun H F => .inr m⟩
theorem Sq.seq {S : Sta} {L : List Ent} {p : Addr} {xs : List V} {H : Hp} (m : Sq S L p xs) (F : FH H L) : Seq S H p xs := by
  rcases m with m | m | m
  · exact .inl (.inl (.inl (F.get m)))
  · exact .inr (.inl (.inl (F.get m)))
  · exact .inr (.inr m)
inductive Prs (T : Addr → List V → Prop) : List V → List (Int × Int) → Prop
  | nil : Prs T [] []
  | cons {q : Addr} {x y : Int} {vs : List V} {ps : List (Int × Int)} (h : T q [.int x, .int y]) (t : Prs T vs ps) : Prs T (.ref q :: vs) ((x, y) :: ps)
theorem Prs.mono {T T' : Addr → List V → Prop} (s : ∀ p xs, T p xs → T' p xs) {vs : List V} {ps : List (Int × Int)} (h : Prs T vs ps) : Prs T' vs ps := by
  induction h with
  | nil => exact .nil
  | cons h t ih => exact .cons (s _ _ h) ih
theorem Prs.len {T : Addr → List V → Prop} {vs : List V} {ps : List (Int × Int)} (h : Prs T vs ps) : vs.length = ps.length := by
  induction h with
  | nil => rfl
  | cons h t ih => rw [List.length_cons, List.length_cons, ih]
theorem Prs.get {T : Addr → List V → Prop} {vs : List V} {ps : List (Int × Int)} (h : Prs T vs ps) {i : Nat} {v : V} (e : vs[i]? = some v) : ∃ q x y, v = .ref q ∧ ps[i]? = some (x, y) ∧ T q [.int x, .int y] := by
  induction h generalizing i with
  | nil => cases i <;> cases e
  | @cons q x y vs ps h t ih =>
    cases i with
    | zero => cases e; exact ⟨q, x, y, rfl, rfl, h⟩
    | succ i => exact ih e
theorem Prs.snoc {T : Addr → List V → Prop} {vs : List V} {ps : List (Int × Int)} {q : Addr} {x y : Int} (h : Prs T vs ps) (t : T q [.int x, .int y]) : Prs T (vs ++ [.ref q]) (ps ++ [(x, y)]) := by
  induction h with
  | nil => exact .cons t .nil
  | cons h _ ih => exact .cons h ih
theorem take_snoc {α : Type} {xs : List α} {i : Nat} {x : α} (e : xs[i]? = some x) : xs.take (i + 1) = xs.take i ++ [x] := by
  rw [List.take_add_one, e]
  rfl
/-- a comprehension over what is listed, by an invariant of what was kept -/
theorem lcQ {S : Sta} {p : Addr} {xs : List V} {L : List Ent} {g : TG} {tt : TT} {tel : TE} {vs : List Nat} {σ σw : L2.St} {H : Hp} {Q : VK} (Pv : Nat → List V → Prop) (F : FH H L) (m : Sq S L p xs) (z : xs.length < 16777216) (ew : wipe σ vs = σw) (h0 : Pv 0 []) (hl : ∀ i ys, Pv i ys → ys.length ≤ i)
    (hs : ∀ i y ys D H (QX : V → Hp → Prop) (A : Hp → Prop), xs[i]? = some y → Pv i ys → FH H ((D, Is (.lst ys)) :: L) → (∀ v H', Pv (i + 1) (ys ++ [v]) → FH H' ((D, Is (.lst ys)) :: L) → QX v H') → (∀ H', Pv (i + 1) ys → FH H' ((D, Is (.lst ys)) :: L) → A H') →
      g y σw H fun σ2 H2 => wipe σ2 vs = σw ∧ tt σ2 H2 fun b H3 => if b = true then tel σ2 H3 QX else A H3)
    (hd : ∀ D ys H', Pv xs.length ys → FH H' ((D, Is (.lst ys)) :: L) → Q (.ref D) H') : LcS S g tt tel vs Q (.ref p) σ H := by
  subst ew
  obtain ⟨k, rd⟩ := m.rd
  refine ⟨p, xs, rfl, k, rd _ F, fun D hD => ⟨fun i H => ∃ ys, Pv i ys ∧ FH H ((D, Is (.lst ys)) :: L), ⟨[], h0, F.new hD⟩, fun i H _ ⟨ys, _, q⟩ => rd _ q.tail, fun i y H e ⟨ys, hp, q⟩ => ?_, fun H ⟨ys, hp, q⟩ => hd D ys H hp q⟩⟩
  have hi : i < xs.length := (List.getElem?_eq_some_iff.mp e).1
  refine hs i y ys D H _ _ e hp q (fun v H' hp' q' => ⟨ys, q'.get (List.Mem.head _), ?_, ys ++ [v], hp', q'.put .here trivial⟩) fun H' hp' q' => ⟨ys, hp', q'⟩
  have := hl i ys hp
  rw [sizeLine_eq]
  omega
/-- [sp(y) for y in p]: the verdicts -/
theorem tup_g {S : Sta} {H : Hp} {X L : List Ent} {p : Addr} {xs : List V} {Q : VK} (F : FH H L) (m : Sq S X p xs) (s : ∀ e ∈ X, e ∈ L) (k : ∀ q N H', Tq S (N ++ X) q xs → FH H' (N ++ L) → Q (.ref q) H') : rTupleOf S [.ref p] H Q := by
  refine ⟨p, xs, rfl, ?_⟩
  rcases m with m | m | m
  · exact .inl ⟨.inl (.inl (F.get (s _ m))), fun l hl => k l [(l, Is (.tup xs))] _ (.inl List.mem_cons_self) (F.new hl)⟩
  · exact .inr ⟨.inl (.inl (F.get (s _ m))), k p [] H (.inl m) F⟩
  · exact .inr ⟨.inr m, k p [] H (.inr m) F⟩
/-- a comprehension that makes objects -/
theorem lcN {S : Sta} {p : Addr} {xs : List V} {L : List Ent} {g : TG} {tel : TE} {vs : List Nat} {σ σw : L2.St} {H : Hp} {Q : VK} (Pv : Nat → List V → List Ent → Prop) (F : FH H L) (m : Sq S L p xs) (z : xs.length < 16777216) (ew : wipe σ vs = σw) (h0 : Pv 0 [] []) (hl : ∀ i ys N, Pv i ys N → ys.length ≤ i)
    (hs : ∀ i y ys N D H (QX : V → Hp → Prop), xs[i]? = some y → Pv i ys N → FH H ((D, Is (.lst ys)) :: (N ++ L)) → (∀ v M H', Pv (i + 1) (ys ++ [v]) (M ++ N) → FH H' (M ++ (D, Is (.lst ys)) :: (N ++ L)) → QX v H') →
      g y σw H fun σ2 H2 => wipe σ2 vs = σw ∧ tel σ2 H2 QX)
    (hd : ∀ D ys N H', Pv xs.length ys N → FH H' ((D, Is (.lst ys)) :: (N ++ L)) → Q (.ref D) H') : LcS S g tYes tel vs Q (.ref p) σ H := by
  subst ew
  obtain ⟨k, rd⟩ := m.rd
  refine ⟨p, xs, rfl, k, rd _ F, fun D hD => ⟨fun i H => ∃ ys N, Pv i ys N ∧ FH H ((D, Is (.lst ys)) :: (N ++ L)), ⟨[], [], h0, F.new hD⟩, fun i H _ ⟨ys, N, _, q⟩ => rd _ (q.tail.sub (List.sublist_append_right _ _)), fun i y H e ⟨ys, N, hp, q⟩ => ?_, fun H ⟨ys, N, hp, q⟩ => hd D ys N H hp q⟩⟩
  have hi : i < xs.length := (List.getElem?_eq_some_iff.mp e).1
  refine hs i y ys N D H _ e hp q fun v M H' hp' q' => ?_
  have q2 := q'.perm (L' := (D, Is (.lst ys)) :: (M ++ N ++ L)) (by rw [List.append_assoc]; exact List.perm_middle)
  refine ⟨ys, q2.get (List.Mem.head _), ?_, ys ++ [v], M ++ N, hp', q2.put .here trivial⟩
  have := hl i ys N hp
  rw [sizeLine_eq]
  omega
/-! what is listed, by class search -/
class SqC (S : Sta) (L : List Ent) (p : Addr) (xs : outParam (List V)) : Prop where
  m : Sq S L p xs
instance sqc_tail {S : Sta} {L : List Ent} {p : Addr} {xs : List V} {y : Ent} [a : SqC S L p xs] : SqC S (y :: L) p xs := ⟨a.m.mono fun e m => List.mem_cons_of_mem _ m⟩
instance sqc_app {S : Sta} {N L : List Ent} {p : Addr} {xs : List V} [a : SqC S L p xs] : SqC S (N ++ L) p xs := ⟨a.m.mono fun e m => List.mem_append_right _ m⟩
instance (priority := 100) sqc_l {S : Sta} {L : List Ent} {p : Addr} {xs : List V} [a : Mm (p, Is (.lst xs)) L] : SqC S L p xs := ⟨.inl a.m⟩
instance (priority := 100) sqc_t {S : Sta} {L : List Ent} {p : Addr} {xs : List V} [a : Mm (p, Is (.tup xs)) L] : SqC S L p xs := ⟨.inr (.inl a.m)⟩
instance (priority := 100) sqc_s {S : Sta} {L : List Ent} {p : Addr} {xs : List V} [a : StT S p xs] : SqC S L p xs := ⟨.inr (.inr a.s)⟩
instance (priority := 2000) lenE_map {α β : Type} {f : α → β} {xs : List α} : LenE (xs.map f) xs.length := ⟨List.length_map f⟩
instance (priority := 500) i_ixQ {S : Sta} {H : Hp} {L : List Ent} {p : Addr} {xs : List V} {i : Int} {v : V} {Q : VK} [F : FH H L] [m : SqC S L p xs] [a : AtE xs i v] : St1 (rIx S (.ref p) (.int i) H Q) (Q v H) := ⟨fun h => .inl ⟨p, xs, i, v, rfl, rfl, m.m.seq F, a.e, h⟩⟩
instance (priority := 500) i_lenQ {S : Sta} {H : Hp} {L : List Ent} {p : Addr} {xs : List V} {n : Nat} {Q : VK} [F : FH H L] [m : SqC S L p xs] [a : LenE xs n] : St1 (rLen S [.ref p] H Q) (Q (.int (n : Int)) H) := ⟨fun h => .inl ⟨p, xs, rfl, m.m.seq F, by rw [a.e]; exact h⟩⟩
instance (priority := 500) i_listQ {S : Sta} {H : Hp} {L : List Ent} {p : Addr} {xs : List V} {Q : VK} [F : FH H L] [m : SqC S L p xs] : St1 (rListOf S [.ref p] H Q) (∀ l H', FH H' ((l, Is (.lst xs)) :: L) → Q (.ref l) H') := ⟨fun h => ⟨p, xs, rfl, m.m.seq F, fun l hl => h l _ (F.new hl)⟩⟩
class SufE (M L : List Ent) (N : outParam (List Ent)) : Prop where
  e : M = N ++ L
instance (priority := 2000) suf_refl {L : List Ent} : SufE L L [] := ⟨rfl⟩
instance suf_cons {M L N : List Ent} {y : Ent} [a : SufE M L N] : SufE (y :: M) L (y :: N) := ⟨by rw [a.e]; rfl⟩
instance suf_app {M L N A : List Ent} [a : SufE M L N] : SufE (A ++ M) L (A ++ N) := ⟨by rw [a.e, List.append_assoc]⟩
theorem fin_suf {M L N : List Ent} [s : SufE M L N] (P : List Ent → Prop) (h : P M) : P (N ++ L) := s.e ▸ h
theorem forQ {S : Sta} {X : List Ent} {p : Addr} {xs : List V} {g : TG} {s1 : TS} {nx : L2.St → Hp → Prop} {rt : VK} {σ : L2.St} {H : Hp} (Pv : Nat → L2.St → Hp → Prop) (m : Sq S X p xs) (h0 : Pv 0 σ H) (hX : ∀ i σ H, Pv i σ H → ∃ L, FH H L ∧ ∀ e ∈ X, e ∈ L)
    (hs : ∀ i y σ H, xs[i]? = some y → Pv i σ H → g y σ H fun σ' H' => s1 ⟨Pv (i + 1), rt, nx, Pv (i + 1)⟩ σ' H') (hd : ∀ σ H, Pv xs.length σ H → nx σ H) : ForS S g s1 nx rt (.ref p) σ H := by
  refine ⟨p, xs, rfl, Pv, h0, ?_, hs, hd⟩
  rcases m with m | m | m
  · exact .inl fun i H _ ⟨σ, q⟩ => by
      obtain ⟨L, F, s⟩ := hX i σ H q
      exact .inl (.inl (F.get (s _ m)))
  · exact .inr fun i H _ ⟨σ, q⟩ => by
      obtain ⟨L, F, s⟩ := hX i σ H q
      exact .inl (.inl (F.get (s _ m)))
  · exact .inr fun i H _ ⟨σ, q⟩ => .inr m
theorem ix_mem {S : Sta} {H : Hp} {L : List Ent} {p : Addr} {xs : List V} {i : Int} {Q : VK} (F : FH H L) (m : (p, Is (.lst xs)) ∈ L) (h0 : 0 ≤ i) (h1 : i < (xs.length : Int)) (k : ∀ v, xs[i.toNat]? = some v → Q v H) : rIx S (.ref p) (.int i) H Q := by
  have hl : i.toNat < xs.length := by omega
  exact .inl ⟨p, xs, i, xs[i.toNat], rfl, rfl, .inl (.inl (.inl (F.get m))), atI_at (j := i.toNat) (by omega) (List.getElem?_eq_getElem hl), k _ (List.getElem?_eq_getElem hl)⟩
theorem len_q {S : Sta} {H : Hp} {L : List Ent} {p : Addr} {xs : List V} {Q : VK} (F : FH H L) (m : Sq S L p xs) (k : Q (.int xs.length) H) : rLen S [.ref p] H Q := .inl ⟨p, xs, rfl, m.seq F, k⟩
theorem ix_q {S : Sta} {H : Hp} {L : List Ent} {p : Addr} {xs : List V} {i : Nat} {v : V} {Q : VK} (F : FH H L) (m : Sq S L p xs) (e : xs[i]? = some v) (k : Q v H) : rIx S (.ref p) (.int i) H Q := .inl ⟨p, xs, i, v, rfl, rfl, m.seq F, atI_nat e, k⟩

set_option synthInstance.checkSynthOrder false
/-! steps of the readings of dicts -/
def DgK (Q : VK) (x y : V) (H : Hp) : Prop := ∃ a v, x = .ref a ∧ DGet H a y (some v) ∧ Q v H
instance i_tDGet {td ty : TE} {σ : L2.St} {H : Hp} {Q : VK} : St1 (tDGet td ty σ H Q) (td σ H fun x H1 => ty σ H1 fun y H2 => DgK Q x y H2) := ⟨id⟩
theorem dg_ok {a : Addr} {kvs : List (Key × V)} {k : Key} {v : V} {L : List Ent} {H : Hp} {Q : VK} (F : FH H L) (m : (a, Is (.dK kvs)) ∈ L) (e : valV kvs k = some v) (h : Q v H) : DgK Q (.ref a) (kV k) H := ⟨a, v, rfl, by rw [← e]; exact DGet.k (F.get m), h⟩
def DiK (b : Bool) (Q : VK) (y x : V) (H : Hp) : Prop := ∃ a o, x = .ref a ∧ DGet H a y o ∧ Q (.bl (if b then !o.isSome else o.isSome)) H
instance i_tDIn {td ty : TE} {σ : L2.St} {H : Hp} {Q : VK} : St1 (tDIn ty td σ H Q) (ty σ H fun y H1 => td σ H1 fun x H2 => DiK false Q y x H2) := ⟨id⟩
instance i_tDNotIn {td ty : TE} {σ : L2.St} {H : Hp} {Q : VK} : St1 (tDNotIn ty td σ H Q) (ty σ H fun y H1 => td σ H1 fun x H2 => DiK true Q y x H2) := ⟨id⟩
theorem di_ok {a : Addr} {b : Bool} {kvs : List (Key × V)} {k : Key} {L : List Ent} {H : Hp} {Q : VK} (F : FH H L) (m : (a, Is (.dK kvs)) ∈ L) (h : Q (.bl (if b then !(valV kvs k).isSome else (valV kvs k).isSome)) H) : DiK b Q (kV k) (.ref a) H := ⟨a, _, rfl, DGet.k (F.get m), h⟩
def DpK (v y : V) (nx : Hp → Prop) (x : V) (H : Hp) : Prop := ∃ a H4, x = .ref a ∧ DPut H a y v H4 ∧ nx H4
instance i_sDPut {td ty tv : TE} {nx bk ct : L2.St → Hp → Prop} {rt : VK} {σ : L2.St} {H : Hp} : St1 (sDPut td ty tv ⟨nx, rt, bk, ct⟩ σ H) (tv σ H fun v H1 => td σ H1 fun x H2 => ty σ H2 fun y H3 => DpK v y (nx σ) x H3) := ⟨id⟩
theorem dp_ok {a : Addr} {kvs : List (Key × V)} {k : Key} {v : V} {L L' : List Ent} {H : Hp} {nx : Hp → Prop} (F : FH H L) (m : (a, Is (.dK kvs)) ∈ L) (hl : kvs.length < 1000000) (u : Put a (Is (.dK kvs)) (Is (.dK (putK kvs k v))) L L') (h : ∀ H', FH H' L' → nx H') : DpK v (kV k) nx (.ref a) H := ⟨a, _, rfl, DPut.k (F.get m) (by rw [sizeLine_eq]; omega), h _ (F.put u trivial)⟩
def PopK (Q : VK) (a : Addr) (y : V) (H : Hp) : Prop := ∃ kvs k v, H a = some (.dK kvs) ∧ y = kV k ∧ valV kvs k = some v ∧ Q v (upd H a (.dK (dropK kvs k)))
def PopA (ty : TE) (σ : L2.St) (Q : VK) (x : V) (H : Hp) : Prop := ∃ a, x = .ref a ∧ IsD H a ∧ ty σ H fun y H2 => PopK Q a y H2
instance i_tDPop1 {td ty : TE} {σ : L2.St} {H : Hp} {Q : VK} : St1 (tDPop1 td ty σ H Q) (td σ H fun x H1 => PopA ty σ Q x H1) := ⟨id⟩
instance i_popA {ty : TE} {σ : L2.St} {Q : VK} {a : Addr} {kvs : List (Key × V)} {L : List Ent} {H : Hp} [F : FH H L] [m : Mm (a, Is (.dK kvs)) L] : St1 (PopA ty σ Q (.ref a) H) (ty σ H fun y H2 => PopK Q a y H2) := ⟨fun h => ⟨a, rfl, .inl ⟨kvs, .inl (F.get m.m)⟩, h⟩⟩
theorem pop_ok {a : Addr} {kvs : List (Key × V)} {k : Key} {v : V} {L L' : List Ent} {H : Hp} {Q : VK} (F : FH H L) (m : (a, Is (.dK kvs)) ∈ L) (e : valV kvs k = some v) (u : Put a (Is (.dK kvs)) (Is (.dK (dropK kvs k))) L L') (h : ∀ H', FH H' L' → Q v H') : PopK Q a (kV k) H := ⟨kvs, k, v, F.get m, rfl, e, h _ (F.put u trivial)⟩
instance i_lenD {a : Addr} {kvs : List (Key × V)} {L : List Ent} {H : Hp} {Q : VK} [F : FH H L] [m : Mm (a, Is (.dK kvs)) L] : St1 (rLenD [.ref a] H Q) (Q (.int (kvs.length : Nat)) H) := ⟨fun h => ⟨a, kvs, rfl, F.get m.m, h⟩⟩
instance i_listD {a : Addr} {kvs : List (Key × V)} {L : List Ent} {H : Hp} {Q : VK} [F : FH H L] [m : Mm (a, Is (.dK kvs)) L] : St1 (rListD [.ref a] H Q) (∀ p H', FH H' ((p, Is (.lst (kvs.map fun kv => kV kv.1))) :: L) → Q (.ref p) H') := ⟨fun h => ⟨a, kvs, rfl, F.get m.m, fun p hp => h p _ (F.new hp)⟩⟩
instance i_isNotBB {x y : Bool} {H : Hp} {Q : VK} : St1 (rIsNotB (.bl x) (.bl y) H Q) (Q (.bl (!decide (x = y))) H) := ⟨fun h => .inr ⟨x, y, rfl, rfl, h⟩⟩

/-! the alarms: questions -/
def nms : List Str := ["resend", "probe", "delay", "pace", "alive", "rest"]
def qnD : Str := ("Alarms.due" : Str) ++ ".<locals>." ++ "<lambda>"
/-- the names that are due, in their order, then by time -/
def dueF (D : Dn) (now : Int) : List Str := nms.filter fun x => match lkS D x with
  | some t => decide (t ≤ now)
  | none => false
def keyS (D : Dn) (x : Str) : Int := (lkS D x).getD 0
def dueN (D : Dn) (now : Int) : List Str := (dueF D now).mergeSort fun x y => decide (keyS D x ≤ keyS D y)
def keyV (D : Dn) : V → Int
  | .str x => keyS D x
  | _ => 0
theorem sort_str {D : Dn} (l : List Str) : (l.map V.str).mergeSort (fun x y => decide (keyV D x ≤ keyV D y)) = (l.mergeSort fun x y => decide (keyS D x ≤ keyS D y)).map V.str :=
  (List.map_mergeSort (f := V.str) (r := fun x y => decide (keyS D x ≤ keyS D y)) (s := fun x y => decide (keyV D x ≤ keyV D y)) fun a _ b _ => rfl).symm
def SoK (S : Sta) (P : Addr) (q : Str) (C : Addr) (i : Nat) (f : Str) (σ : L2.St) (Q : VK) : List V → Hp → Prop := fun vs H1 =>
  ∃ (a : Addr) (xs : List V) (k : V → Int) (cs : List Addr), vs = [.ref a] ∧ RdS S H1 a (.lst xs) ∧ TabC H1 P q cs ∧ (∀ x ∈ xs, kFld C i f σ H1 x (k x)) ∧
    ∀ H2, Grew P q H1 H2 → ∀ p, H2 p = none → Q (.ref p) (upd H2 p (.lst (xs.mergeSort fun x y => decide (k x ≤ k y))))
instance i_tSortF {S : Sta} {P : Addr} {q : Str} {C : Addr} {i : Nat} {f : Str} {t : TA} {σ : L2.St} {H : Hp} {Q : VK} : St1 (tSortF S P q C i f t σ H Q) (t σ H (SoK S P q C i f σ Q)) := ⟨id⟩
section
variable {a : Cl} {H : Hp} {L : List Ent} {Q : VK} {E : XK} {p dx d : Addr} {D : Dn} {now : Int}
/-- the sort by a captured dict's values -/
theorem sortF_ok {l : Addr} {xs : List Str} {σ : L2.St} {i : Nat} (F : FH H L) (mt : (a.tb_Alarms_due, TabE qnD) ∈ L) (m0 : (p, Is (.ins a.c_Alarms dx [("times", .ref d)])) ∈ L) (m1 : (d, Is (.dK (dvS D))) ∈ L) (ml : (l, Is (.lst (xs.map V.str))) ∈ L)
    (hx : ∀ x ∈ xs, ∃ t, lkS D x = some t) (hσ : σ[i]? = some (some (.ref p)))
    (k : ∀ r H', FH H' ((r, Is (.lst ((xs.mergeSort fun x y => decide (keyS D x ≤ keyS D y)).map V.str))) :: L) → Q (.ref r) H') :
    SoK a.S a.tb_Alarms_due qnD a.c_Alarms i "times" σ Q [.ref l] H := by
  obtain ⟨cs, tb⟩ := F.tab mt
  refine ⟨l, xs.map V.str, keyV D, cs, rfl, .inl (.inl (F.get ml)), tb, fun x m => ?_, fun H2 g r hr => ?_⟩
  · obtain ⟨y, my, rfl⟩ := List.mem_map.mp m
    obtain ⟨t, ht⟩ := hx y my
    refine ⟨p, dx, _, d, dvS D, .inr y, hσ, F.get m0, rfl, F.get m1, rfl, ?_⟩
    rw [lkS_val, ht]
    show some (V.int t) = some (V.int (keyS D y))
    unfold keyS
    rw [ht]
    rfl
  · rw [sort_str]
    exact k r _ ((F.grew mt g).new hr)
theorem due_ok (F : FH H L) (mt : (a.tb_Alarms_due, TabE qnD) ∈ L) (m0 : (p, Is (.ins a.c_Alarms dx [("times", .ref d)])) ∈ L) (m1 : (d, Is (.dK (dvS D))) ∈ L)
    (k : ∀ r l H', FH H' ((r, Is (.lst ((dueN D now).map V.str))) :: (l, Is (.lst ((dueF D now).map V.str))) :: L) → Q (.ref r) H') : sp_Alarms_due a [.ref p, .int now] H Q E := by
  refine in_Alarms_due ?_
  have i0 : Mm (p, Is (.ins a.c_Alarms dx [("times", .ref d)])) L := ⟨m0⟩
  have i1 : Mm (d, Is (.dK (dvS D))) L := ⟨m1⟩
  repeat' walk_at "y 1"
  refine lcQ (σw := [some (.ref p), some (.int now), none, none]) (fun i ys => ys = (((nms.take i).filter fun x => match lkS D x with
    | some t => decide (t ≤ now)
    | none => false).map V.str) ∧ ys.length ≤ i) F (.inr (.inr a.hg_ALARMS)) (by decide) rfl ⟨rfl, Nat.le_refl _⟩ (fun i ys h => h.2) (fun i y ys D2 H2 QX A e hp F2 hk hA => ?_) fun D2 ys H2 hp F2 => ?_
  · obtain ⟨e1, e2⟩ := hp
    have hy : ∃ x, nms[i]? = some x ∧ y = .str x := by
      have e3 : (nms.map V.str)[i]? = some y := e
      rw [List.getElem?_map] at e3
      obtain ⟨x, h1, h2⟩ := Option.map_eq_some_iff.mp e3
      exact ⟨x, h1, h2.symm⟩
    obtain ⟨x, hx, rfl⟩ := hy
    have et : nms.take (i + 1) = nms.take i ++ [x] := take_snoc hx
    repeat' walk_at "y 1"
    refine di_ok (k := .inr x) F2 (List.mem_cons_of_mem _ m1) ?_
    rw [lkS_val]
    cases hl : lkS D x with
    | none =>
      repeat' walk_at "y 1"
      exact hA _ ⟨by rw [et, List.filter_append, List.map_append, e1]; simp [hl], by omega⟩ F2
    | some t =>
      repeat' walk_at "y 1"
      rw [if_pos (show (if false = true then !(Option.map V.int (some t)).isSome else (Option.map V.int (some t)).isSome) = true from rfl)]
      repeat' walk_at "y 1"
      refine dg_ok (k := .inr x) F2 (List.mem_cons_of_mem _ m1) (by rw [lkS_val, hl]; rfl) ?_
      by_cases ht : t ≤ now
      · have hh := hk (.str x) H2 ⟨by rw [et, List.filter_append, List.map_append, e1]; simp [hl, ht], by rw [List.length_append]; simp; omega⟩ F2
        repeat' walk_at "y 1"
        first | exact hh | (rw [if_pos (decide_eq_true ht)]; (repeat' (walk_at "y 1")); exact hh) | (rw [if_pos ht]; (repeat' (walk_at "y 1")); exact hh)
      · have hh := hA H2 ⟨by rw [et, List.filter_append, List.map_append, e1]; simp [hl, ht], by omega⟩ F2
        repeat' walk_at "y 1"
        first | exact hh | (rw [if_neg (by simpa using ht)]; (repeat' (walk_at "y 1")); exact hh)
  · obtain ⟨e1, _⟩ := hp
    have e2 : ys = (dueF D now).map V.str := e1
    subst e2
    repeat' walk_at "y 1"
    refine sortF_ok (σ := [some (.ref p), some (.int now), some (.ref D2), none]) (i := 0) F2 (List.mem_cons_of_mem _ mt) (List.mem_cons_of_mem _ m0) (List.mem_cons_of_mem _ m1) List.mem_cons_self (fun x m => ?_) rfl fun r H3 F3 => ?_
    · have := (List.mem_filter.mp m).2
      revert this
      cases lkS D x with
      | none => intro z; cases z
      | some t => intro _; exact ⟨t, rfl⟩
    · exact k r D2 H3 F3
end

end
section
section
variable {a : Cl} {H : Hp} {L : List Ent} {Q : VK} {E : XK} {p dx d : Addr} {D : Dn} {now : Int} {x : Str}
theorem inV_str (x : Str) : ∀ l : List Str, inV (.str x) (l.map V.str) = decide (x ∈ l) := by
  intro l
  unfold inV
  rw [Bool.eq_iff_iff]
  simp [List.any_eq_true, eqV]
theorem alarm_ok (k : Q (.bl (decide (x ∈ nms))) H) : sp_is_alarm a [.str x] H Q E := by
  refine in_is_alarm ?_
  repeat' walk_at "y 1"
  refine .inl ⟨a.g_ALARMS, nms.map V.str, rfl, .inr (.inr a.hg_ALARMS), rfl, by decide, ?_⟩
  have e := inV_str x nms
  simp only [Bool.false_eq_true, if_false]
  rw [e]
  exact k
theorem len_ok (F : FH H L) (m0 : (p, Is (.ins a.c_Alarms dx [("times", .ref d)])) ∈ L) (m1 : (d, Is (.dK (dvS D))) ∈ L) (k : Q (.int (D.length : Nat)) H) : sp_Alarms___len__ a [.ref p] H Q E := by
  refine in_Alarms___len__ ?_
  have i0 : Mm (p, Is (.ins a.c_Alarms dx [("times", .ref d)])) L := ⟨m0⟩
  have i1 : Mm (d, Is (.dK (dvS D))) L := ⟨m1⟩
  repeat' walk_at "y 1"
  have e : (dvS D).length = D.length := List.length_map _
  rw [e]
  exact k
instance i_tCKw {r : List V → List V → Hp → VK → Prop} {t tk : TA} {σ : L2.St} {H : Hp} {Q : VK} : St1 (tCKw r t tk σ H Q) (t σ H fun vs H1 => tk σ H1 fun zs H2 => r vs zs H2 Q) := ⟨id⟩
instance i_tListV {te : TE} {σ : L2.St} {H : Hp} {Q : VK} : St1 (tListV te σ H Q) (te σ H fun x H1 => ∃ (a : Addr) (kvs : List (Key × V)), x = .ref a ∧ H1 a = some (.dK kvs) ∧ ∀ p, H1 p = none → Q (.ref p) (upd H1 p (.lst (kvs.map (·.2))))) := ⟨id⟩
theorem dvS_vals : ∀ D : Dn, (dvS D).map (·.2) = (D.map (·.2)).map V.int
  | [] => rfl
  | p :: D => by
    show V.int p.2 :: (dvS D).map (·.2) = V.int p.2 :: (D.map (·.2)).map V.int
    rw [dvS_vals D]
theorem soon_ok (F : FH H L) (m0 : (p, Is (.ins a.c_Alarms dx [("times", .ref d)])) ∈ L) (m1 : (d, Is (.dK (dvS D))) ∈ L)
    (k0 : D = [] → ∀ l H', FH H' ((l, Is (.lst [])) :: L) → Q .non H')
    (k : ∀ l m H', m ∈ D.map (·.2) → (∀ n ∈ D.map (·.2), m ≤ n) → FH H' ((l, Is (.lst ((D.map (·.2)).map V.int))) :: L) → Q (.int m) H') : sp_Alarms_soonest a [.ref p] H Q E := by
  refine in_Alarms_soonest ?_
  have i0 : Mm (p, Is (.ins a.c_Alarms dx [("times", .ref d)])) L := ⟨m0⟩
  repeat' walk_at "y 1"
  refine ⟨d, dvS D, rfl, F.get m1, fun l hl => ?_⟩
  have F1 : FH (upd H l (.lst ((dvS D).map (·.2)))) ((l, Is (.lst ((D.map (·.2)).map V.int))) :: L) := by
    rw [dvS_vals]
    exact F.new hl
  repeat' walk_at "y 1"
  refine ⟨l, D.map (·.2), rfl, rfl, .inl (.inl (F1.get List.mem_cons_self)), fun e => ?_, fun m hm hle => ?_⟩
  · have e2 : D = [] := List.map_eq_nil_iff.mp e
    refine k0 e2 l _ ?_
    rw [e2] at F1 ⊢
    exact F1
  · exact k l m _ hm hle F1
end

end
section
section
variable {a : Cl} {H : Hp} {L : List Ent} {Q : VK} {E : XK} {p dx d : Addr} {D : Dn} {now : Int} {x : Str}
/-- the value of an option -/
def oW : Option Int → V
  | none => .non
  | some i => .int i
instance i_tDGet1 {td ty : TE} {σ : L2.St} {H : Hp} {Q : VK} : St1 (tDGet1 td ty σ H Q) (td σ H fun x H1 => ∃ a, x = .ref a ∧ IsD H1 a ∧ ty σ H1 fun y H2 => ∃ o, DGet H2 a y o ∧ Q (o.getD .non) H2) := ⟨id⟩
instance i_sDDel {td ty : TE} {nx bk ct : L2.St → Hp → Prop} {rt : VK} {σ : L2.St} {H : Hp} : St1 (sDDel td ty ⟨nx, rt, bk, ct⟩ σ H) (td σ H fun x H1 => ty σ H1 fun y H2 => ∃ a kvs k, x = .ref a ∧ H2 a = some (.dK kvs) ∧ y = kV k ∧ (valV kvs k).isSome = true ∧ nx σ (upd H2 a (.dK (L2.dropK kvs k)))) := ⟨id⟩
theorem when_ok (hx : x ∈ nms) (F : FH H L) (m0 : (p, Is (.ins a.c_Alarms dx [("times", .ref d)])) ∈ L) (m1 : (d, Is (.dK (dvS D))) ∈ L) (k : Q (oW (lkS D x)) H) : sp_Alarms_when a [.ref p, .str x] H Q E := by
  refine in_Alarms_when ?_
  have i0 : Mm (p, Is (.ins a.c_Alarms dx [("times", .ref d)])) L := ⟨m0⟩
  repeat' walk_at "y 1"
  refine alarm_ok ?_
  rw [decide_eq_true hx]
  repeat' walk_at "y 1"
  refine ⟨d, rfl, .inl ⟨_, .inl (F.get m1)⟩, ?_⟩
  repeat' walk_at "y 1"
  refine ⟨_, DGet.k (k := .inr x) (F.get m1), ?_⟩
  rw [lkS_val]
  cases h : lkS D x with
  | none => rw [h] at k; exact k
  | some t => rw [h] at k; exact k
theorem has_ok (F : FH H L) (m0 : (p, Is (.ins a.c_Alarms dx [("times", .ref d)])) ∈ L) (m1 : (d, Is (.dK (dvS D))) ∈ L) (k : Q (.bl (decide (x ∈ nms) && (lkS D x).isSome)) H) : sp_Alarms___contains__ a [.ref p, .str x] H Q E := by
  refine in_Alarms___contains__ ?_
  have i0 : Mm (p, Is (.ins a.c_Alarms dx [("times", .ref d)])) L := ⟨m0⟩
  repeat' walk_at "y 1"
  refine alarm_ok ?_
  by_cases hx : x ∈ nms
  · rw [decide_eq_true hx] at k ⊢
    repeat' walk_at "y 1"
    refine di_ok (k := .inr x) F m1 ?_
    rw [lkS_val]
    cases h : lkS D x with
    | none => rw [h] at k; exact k
    | some t => rw [h] at k; exact k
  · rw [decide_eq_false hx] at k ⊢
    repeat' walk_at "y 1"
    exact k
theorem arm_ok {t : Int} (hx : x ∈ nms) (ht : 0 ≤ t) (o : Onc D) (hl : D.length < 1000) {L' : List Ent} (F : FH H L) (m0 : (p, Is (.ins a.c_Alarms dx [("times", .ref d)])) ∈ L) (m1 : (d, Is (.dK (dvS D))) ∈ L)
    (u : Put d (Is (.dK (dvS D))) (Is (.dK (dvS (puS D x t)))) L L') (k : ∀ H', FH H' L' → Q .non H') : sp_Alarms_arm a [.ref p, .str x, .int t] H Q E := by
  refine in_Alarms_arm ?_
  have i0 : Mm (p, Is (.ins a.c_Alarms dx [("times", .ref d)])) L := ⟨m0⟩
  repeat' walk_at "y 1"
  refine alarm_ok ?_
  rw [decide_eq_true hx]
  repeat' walk_at "y 1"
  refine in_is_whole ?_
  repeat' walk_at "y 1"
  rw [if_neg (by rw [decide_eq_false (show ¬ t < 0 by omega)]; decide)]
  repeat' walk_at "y 1"
  refine dp_ok (k := .inr x) F m1 (by show (dvS D).length < _; rw [show (dvS D).length = D.length from List.length_map _]; omega) (by rw [putS_dv o]; exact u) fun H' F' => ?_
  exact k H' F'
theorem disarm_ok (hx : x ∈ nms) {L' : List Ent} (F : FH H L) (m0 : (p, Is (.ins a.c_Alarms dx [("times", .ref d)])) ∈ L) (m1 : (d, Is (.dK (dvS D))) ∈ L)
    (u : Put d (Is (.dK (dvS D))) (Is (.dK (dvS (drS D x)))) L L') (k0 : lkS D x = none → Q .non H) (k : ∀ H', FH H' L' → Q .non H') : sp_Alarms_disarm a [.ref p, .str x] H Q E := by
  refine in_Alarms_disarm ?_
  have i0 : Mm (p, Is (.ins a.c_Alarms dx [("times", .ref d)])) L := ⟨m0⟩
  repeat' walk_at "y 1"
  refine alarm_ok ?_
  rw [decide_eq_true hx]
  repeat' walk_at "y 1"
  refine di_ok (k := .inr x) F m1 ?_
  rw [lkS_val]
  cases h : lkS D x with
  | none =>
    repeat' walk_at "y 1"
    exact k0 h
  | some t =>
    repeat' walk_at "y 1"
    rw [if_pos (show (if false = true then !(Option.map V.int (some t)).isSome else (Option.map V.int (some t)).isSome) = true from rfl)]
    repeat' walk_at "y 1"
    refine ⟨d, dvS D, .inr x, rfl, F.get m1, rfl, by rw [lkS_val, h]; rfl, ?_⟩
    rw [dropS_dv]
    exact k _ (F.put u trivial)
end

end
section
/-! objects: made; the table and its plain law -/
def AlT (D : Dn) (T : List (Option Int)) : Prop := T.length = 6 ∧ Onc D ∧ (∀ q ∈ D, q.1 ∈ nms ∧ 0 ≤ q.2) ∧ ∀ (i : Nat) (x : Str), nms[i]? = some x → T[i]? = some (lkS D x)
abbrev AlA := Addr × Addr × Dn
def alE (c : Addr) (p : Addr) (b : AlA) : List Ent := [(p, Is (.ins c b.1 [("times", .ref b.2.1)])), (b.1, Is (.own p)), (b.2.1, Is (.dK (dvS b.2.2)))]
/-- an alarms object and the table that it agrees with -/
def Alm (c : Addr) (T : List (Option Int)) : Pr := comp (alE c) (fun b => AlT b.2.2 T)
theorem onc_len {D : Dn} {T : List (Option Int)} (h : AlT D T) : D.length ≤ 6 := by
  have h1 : (D.map (·.1)).length ≤ nms.length := h.2.1.length_le_of_subset fun x m => by
    obtain ⟨q, mq, rfl⟩ := List.mem_map.mp m
    exact (h.2.2.1 q mq).1
  rw [List.length_map] at h1
  exact h1
theorem puS_mem {D : Dn} {x : Str} {t : Int} {q : Str × Int} (m : q ∈ puS D x t) : q = (x, t) ∨ q ∈ D := by
  induction D with
  | nil => exact .inl (by simpa [puS] using m)
  | cons p D ih =>
    by_cases h : p.1 = x
    · rw [show puS (p :: D) x t = (x, t) :: D by simp [puS, h]] at m
      exact (List.mem_cons.mp m).imp id fun z => List.mem_cons_of_mem _ z
    · rw [show puS (p :: D) x t = p :: puS D x t by simp [puS, h]] at m
      rcases List.mem_cons.mp m with e | m
      · exact .inr (by rw [e]; exact List.mem_cons_self)
      · exact (ih m).imp id fun z => List.mem_cons_of_mem _ z
theorem nms_inj {i j : Nat} {x : Str} (h : nms[i]? = some x) (k : nms[j]? = some x) : i = j := by
  have h1 := (List.getElem?_eq_some_iff.mp h).1
  have nd : nms.Nodup := by decide
  exact (List.getElem?_inj h1 nd).mp (h.trans k.symm)
theorem AlT.put {D : Dn} {T : List (Option Int)} (h : AlT D T) {j : Nat} {x : Str} {t : Int} (hj : nms[j]? = some x) (ht : 0 ≤ t) : AlT (puS D x t) (T.set j (some t)) := by
  obtain ⟨h1, h2, h3, h4⟩ := h
  refine ⟨by rw [List.length_set]; exact h1, h2.put x t, fun q m => ?_, fun i y hy => ?_⟩
  · rcases puS_mem m with e | m
    · rw [e]; exact ⟨List.mem_of_getElem? hj, ht⟩
    · exact h3 q m
  · rw [lkS_put]
    by_cases e : y = x
    · subst e
      rw [if_pos rfl, nms_inj hy hj, List.getElem?_set_self (by have := (List.getElem?_eq_some_iff.mp hj).1; rw [h1]; exact this)]
    · rw [if_neg e, List.getElem?_set_ne (fun z => e (by subst z; rw [hy] at hj; exact Option.some.inj hj))]
      exact h4 i y hy
theorem AlT.drop {D : Dn} {T : List (Option Int)} (h : AlT D T) {j : Nat} {x : Str} (hj : nms[j]? = some x) : AlT (drS D x) (T.set j none) := by
  obtain ⟨h1, h2, h3, h4⟩ := h
  refine ⟨by rw [List.length_set]; exact h1, h2.drop x, fun q m => h3 q (List.mem_filter.mp m).1, fun i y hy => ?_⟩
  rw [lkS_drop]
  by_cases e : y = x
  · subst e
    rw [if_pos rfl, nms_inj hy hj, List.getElem?_set_self (by have := (List.getElem?_eq_some_iff.mp hj).1; rw [h1]; exact this)]
  · rw [if_neg e, List.getElem?_set_ne (fun z => e (by subst z; rw [hy] at hj; exact Option.some.inj hj))]
    exact h4 i y hy
theorem AlT.new : AlT [] [none, none, none, none, none, none] := by
  refine ⟨rfl, List.nodup_nil, fun q m => (by cases m), fun i x h => ?_⟩
  have hi := (List.getElem?_eq_some_iff.mp h).1
  have hi : i < 6 := hi
  rcases (show i = 0 ∨ i = 1 ∨ i = 2 ∨ i = 3 ∨ i = 4 ∨ i = 5 by omega) with rfl | rfl | rfl | rfl | rfl | rfl <;> rfl
section
variable {a : Cl} {H : Hp} {L : List Ent} {Q : VK} {E : XK} {p dx : Addr}
theorem init_ok (F : FH H ((p, Is (.ins a.c_Alarms dx [])) :: L)) (k : ∀ d H', FH H' ((d, Is (.dK (dvS []))) :: (p, Is (.ins a.c_Alarms dx [("times", .ref d)])) :: L) → Q .non H') : sp_Alarms___init__ a [.ref p] H Q E := by
  refine in_Alarms___init__ ?_
  repeat' walk_at "y 1"
  rename_i d H1 F1 H2 F2
  exact k d H2 (FH.sub F2 (by walk_at "y sub"))
end

end
section
/-! the order of what is due -/
def plN (x : Str) : Nat := nms.idxOf x
theorem sub_pair {α : Type} {l : List α} (nd : l.Nodup) {a b : α} (h1 : [a, b].Sublist l) (h2 : [b, a].Sublist l) : False := by
  induction l with
  | nil => cases h1
  | cons c l ih =>
    obtain ⟨n1, n2⟩ := List.nodup_cons.mp nd
    cases h1 with
    | cons _ h1 =>
      cases h2 with
      | cons _ h2 => exact ih n2 h1 h2
      | cons_cons _ h2 => exact n1 (h1.subset (List.mem_cons_of_mem _ List.mem_cons_self))
    | cons_cons _ h1 =>
      cases h2 with
      | cons _ h2 => exact n1 (h2.subset (List.mem_cons_of_mem _ List.mem_cons_self))
      | cons_cons _ h2 => exact n1 (h1.subset List.mem_cons_self)
theorem pair_in {α : Type} [DecidableEq α] {l : List α} {a b : α} (ha : a ∈ l) (hb : b ∈ l) (n : a ≠ b) : [a, b].Sublist l ∨ [b, a].Sublist l := by
  induction l with
  | nil => cases ha
  | cons c l ih =>
    rcases List.mem_cons.mp ha with e | ha2
    · subst e
      rcases List.mem_cons.mp hb with e | hb2
      · exact absurd e.symm n
      · exact .inl (List.Sublist.cons_cons _ (List.singleton_sublist.mpr hb2))
    · rcases List.mem_cons.mp hb with e | hb2
      · subst e
        exact .inr (List.Sublist.cons_cons _ (List.singleton_sublist.mpr ha2))
      · exact (ih ha2 hb2).imp (fun h => .cons _ h) fun h => .cons _ h
theorem nms_pl : nms.Pairwise fun x y => plN x < plN y := by decide
theorem dueF_nd (D : Dn) (now : Int) : (dueF D now).Nodup := (show nms.Nodup by decide).sublist List.filter_sublist
theorem dueN_perm (D : Dn) (now : Int) : (dueN D now).Perm (dueF D now) := List.mergeSort_perm _ _
theorem dueN_pair (D : Dn) (now : Int) : (dueN D now).Pairwise fun x y => keyS D x < keyS D y ∨ (keyS D x = keyS D y ∧ plN x < plN y) := by
  have nd : (dueN D now).Nodup := (dueN_perm D now).nodup_iff.mpr (dueF_nd D now)
  have so : (dueN D now).Pairwise fun x y => decide (keyS D x ≤ keyS D y) = true :=
    List.pairwise_mergeSort (le := fun x y => decide (keyS D x ≤ keyS D y)) (fun a b c h1 h2 => decide_eq_true (Int.le_trans (of_decide_eq_true h1) (of_decide_eq_true h2))) (fun a b => by
      rcases Int.le_total (keyS D a) (keyS D b) with h | h <;> simp [h]) _
  have pl : (dueF D now).Pairwise fun x y => plN x < plN y := nms_pl.sublist List.filter_sublist
  rw [List.pairwise_iff_forall_sublist] at so pl ⊢
  intro a b h
  have le := of_decide_eq_true (so h)
  rcases Int.lt_or_eq_of_le le with l | e
  · exact .inl l
  · refine .inr ⟨e, ?_⟩
    have ne : a ≠ b := fun z => by
      subst z
      have := nd.sublist h
      simp at this
    have ma : a ∈ dueF D now := (dueN_perm D now).mem_iff.mp (h.subset List.mem_cons_self)
    have mb : b ∈ dueF D now := (dueN_perm D now).mem_iff.mp (h.subset (List.mem_cons_of_mem _ List.mem_cons_self))
    rcases pair_in ma mb ne with s | s
    · exact pl s
    · exact (sub_pair nd h (List.pair_sublist_mergeSort (le := fun x y => decide (keyS D x ≤ keyS D y)) (fun a b c h1 h2 => decide_eq_true (Int.le_trans (of_decide_eq_true h1) (of_decide_eq_true h2))) (fun a b => by
        rcases Int.le_total (keyS D a) (keyS D b) with h | h <;> simp [h]) (decide_eq_true (Int.le_of_eq e.symm)) s)).elim
theorem dueN_mem {D : Dn} {now : Int} {x : Str} : x ∈ dueN D now ↔ x ∈ nms ∧ ∃ t, lkS D x = some t ∧ t ≤ now := by
  rw [(dueN_perm D now).mem_iff]
  unfold dueF
  rw [List.mem_filter]
  refine and_congr_right fun _ => ?_
  cases lkS D x with
  | none => simp
  | some t => simp

end
section
/-! what the table counts -/
theorem AlT.eq {D : Dn} {T : List (Option Int)} (h : AlT D T) : T = nms.map (lkS D) := by
  obtain ⟨h1, h2, h3, h4⟩ := h
  refine List.ext_getElem? fun i => ?_
  rw [List.getElem?_map]
  by_cases hi : i < 6
  · have e : nms[i]? = some nms[i] := List.getElem?_eq_getElem (by exact hi)
    rw [h4 i _ e, e]
    rfl
  · rw [List.getElem?_eq_none (by omega), List.getElem?_eq_none (by show nms.length ≤ i; exact Nat.le_of_not_lt hi)]
    rfl
def atM (now : Int) : Option Int → Bool
  | some t => decide (t ≤ now)
  | none => false
theorem due_count {D : Dn} {T : List (Option Int)} (h : AlT D T) (now : Int) : (T.filter (atM now)).length = (dueN D now).length := by
  rw [(dueN_perm D now).length_eq, h.eq, List.filter_map, List.length_map]
  unfold dueF
  refine congrArg List.length (List.filter_congr fun x _ => ?_)
  show atM now (lkS D x) = _
  cases lkS D x <;> rfl
def isS : Option Int → Bool
  | some _ => true
  | none => false
/-- how many are set -/
theorem set_count {D : Dn} {T : List (Option Int)} (h : AlT D T) : (T.filter isS).length = D.length := by
  have e : ∀ (ns : List Str) (D : Dn), ns.Nodup → Onc D → (∀ q ∈ D, q.1 ∈ ns) → ((ns.map (lkS D)).filter isS).length = D.length := by
    intro ns D nd od sub
    rw [List.filter_map, List.length_map]
    have p : (ns.filter (isS ∘ lkS D)).Perm (D.map (·.1)) := by
      refine (List.perm_ext_iff_of_nodup (nd.sublist List.filter_sublist) od).mpr fun x => ?_
      rw [List.mem_filter]
      constructor
      · rintro ⟨_, z⟩
        refine Classical.byContradiction fun n => ?_
        have z : isS (lkS D x) = true := z
        rw [lkS_none.mpr n] at z
        cases z
      · intro m
        obtain ⟨q, mq, rfl⟩ := List.mem_map.mp m
        refine ⟨sub q mq, ?_⟩
        show isS (lkS D q.1) = true
        cases hl : lkS D q.1 with
        | none => exact absurd m (lkS_none.mp hl)
        | some t => rfl
    rw [p.length_eq, List.length_map]
  rw [h.eq]
  exact e nms D (by decide) h.2.1 fun q m => (h.2.2.1 q m).1
section
variable {a : Cl} {H : Hp} {L : List Ent} {Q : VK} {E : XK}
instance i_tTupZ {t : TA} {σ : L2.St} {H : Hp} {Q : VK} : St1 (tTupZ t σ H Q) (t σ H fun vs H1 => vs.length ≤ sizeLine ∧ ∀ p its, H1 p = none → Q (.ref p) (upd H1 p (.frz (tupO its) (.tup vs)))) := ⟨id⟩
theorem names_ok (F : FH H L) (k : ∀ q its H', FH H' ((q, Is (.frz (tupO its) (.tup (nms.map V.str)))) :: L) → Q (.ref q) H') : sp_names a [] H Q E := by
  refine in_names ?_
  repeat' walk_at "y 1"
  exact ⟨by decide, fun q its hq => k q its _ (F.new hq)⟩
end

end
section
instance i_eIdxZ {te ty : TE} {σ : L2.St} {H : Hp} {Q : VK} : St1 (eIdxZ te ty σ H Q) (te σ H fun x H1 => ∃ (l : Addr) (its : List Value) (xs : List V), x = .ref l ∧ H1 l = some (.frz (tupO its) (.tup xs)) ∧ ty σ H1 fun y H2 =>
  ∃ (ys : List Str) (z : Str) (j : Nat), y = .str z ∧ Rd H2 l (.tup (ys.map V.str)) ∧ ys[j]? = some z ∧ (∀ m, m < j → ys[m]? ≠ some z) ∧ Q (.int (j : Nat)) H2) := ⟨id⟩
theorem AlT.low {D : Dn} {T : List (Option Int)} (h : AlT D T) {x : Str} {z : Int} (e : lkS D x = some z) : 0 ≤ z := by
  have : (x, z) ∈ D := by
    have go : ∀ D : Dn, lkS D x = some z → (x, z) ∈ D := by
      intro D
      induction D with
      | nil => intro e; cases e
      | cons p D ih =>
        intro e
        by_cases hp : p.1 = x
        · simp only [lkS, hp, if_true] at e
          cases e
          rw [← hp]
          exact List.mem_cons_self
        · simp only [lkS, hp, if_false] at e
          exact List.mem_cons_of_mem _ (ih e)
    exact go D e
  exact (h.2.2.1 _ this).2
theorem pl_at {x : Str} (m : x ∈ nms) : nms[plN x]? = some x := by
  unfold plN
  rw [List.getElem?_eq_getElem (List.idxOf_lt_length_of_mem m), List.getElem_idxOf]
section
variable {a : Cl} {H : Hp} {L : List Ent} {Q : VK} {E : XK} {l t : Addr} {now : Int} {D : Dn} {T : List (Option Int)}
def atV (now : Int) : V → Bool
  | .int t => decide (t ≤ now)
  | _ => false
theorem atV_filter (now : Int) : ∀ T : List (Option Int), ((T.map oW).filter (atV now)).length = (T.filter (atM now)).length := by
  intro T
  rw [List.filter_map, List.length_map]
  refine congrArg List.length (List.filter_congr fun x _ => ?_)
  cases x <;> rfl
theorem inord_ok (h : AlT D T) (F : FH H L) (ml : (l, Is (.lst ((dueN D now).map V.str))) ∈ L) (mt : (t, Is (.lst (T.map oW))) ∈ L) (k : ∀ N H', FH H' (N ++ L) → Q (.bl true) H') : sp_in_order a [.ref l, .ref t, .int now] H Q E := by
  refine in_in_order ?_
  have i0 : Mm (l, Is (.lst ((dueN D now).map V.str))) L := ⟨ml⟩
  have i1 : Mm (t, Is (.lst (T.map oW))) L := ⟨mt⟩
  repeat' walk_at "y 1"
  refine names_ok F fun n its H1 F1 => ?_
  clear F
  repeat' walk_at "y 1"
  refine lcFM (σw := [some (.ref l), some (.ref t), some (.int now), some (.ref n), none, none, none, none]) id (atV now) F1 (.is (List.mem_cons_of_mem _ mt)) (by rw [List.length_map, h.1]; decide) rfl (fun y H2 QX A hy F2 hk hA => ?_) fun C H2 F2 => ?_
  · obtain ⟨o, _, rfl⟩ := List.mem_map.mp hy
    cases o with
    | none =>
      have hh : A H2 := hA rfl
      show gName 4 .non _ H2 _
      repeat' walk_at "y 1"
      exact hh
    | some z =>
      by_cases hz : z ≤ now
      · have hh : QX (.int z) H2 := hk (decide_eq_true hz)
        show gName 4 (.int z) _ H2 _
        repeat' walk_at "y 1"
        first | exact hh | (rw [if_pos (decide_eq_true hz)]; (repeat' (walk_at "y 1")); exact hh)
      · have hh : A H2 := hA (decide_eq_false hz)
        show gName 4 (.int z) _ H2 _
        repeat' walk_at "y 1"
        first | exact hh | (rw [if_neg (by simpa using hz)]; (repeat' (walk_at "y 1")); exact hh)
  · clear F1
    repeat' walk_at "y 1"
    have ec : ((dueN D now).length : Int) = (((T.map oW).filter (atV now)).length : Nat) := by rw [atV_filter, due_count h]
    rw [if_neg (by simpa using ec)]
    repeat' walk_at "y 1"
    rename_i pb H3 _ F3
    refine forQ (X := L) (fun i σ H => ∃ (b : Addr) (x1 p1 : Int) (s6 s7 : Option V) (N : List Ent), σ = [some (.ref l), some (.ref t), some (.int now), some (.ref n), none, some (.ref b), s6, s7] ∧ FH H ((b, Is (.tup [.int x1, .int p1])) :: (n, Is (.frz (tupO its) (.tup (nms.map V.str)))) :: (N ++ L)) ∧ ∀ y ∈ (dueN D now).drop i, x1 < keyS D y ∨ (x1 = keyS D y ∧ p1 < (plN y : Int))) (.inl ml) ⟨pb, -1, -1, none, none, [(C, Is (.lst (((T.map oW).filter (atV now)).map id)))], rfl, F3.perm (by exact (List.Perm.swap _ _ _).cons _), fun y my => .inl ?_⟩ (fun i σ H ⟨b, x1, p1, s6, s7, N, _, F, _⟩ => ⟨_, F, fun e m => by simp [m]⟩) (fun i y σ H e ⟨b, x1, p1, s6, s7, N, es, F, hb⟩ => ?_) fun σ H ⟨b, x1, p1, s6, s7, N, es, F, _⟩ => ?_
    · have m1 := (dueN_mem.mp (List.mem_of_mem_drop my)).2
      obtain ⟨z, hz, _⟩ := m1
      have := h.low hz
      unfold keyS
      rw [hz]
      show -1 < z
      omega
    · clear F2 F3
      subst es
      rw [List.getElem?_map] at e
      obtain ⟨x, hx, rfl⟩ := Option.map_eq_some_iff.mp e
      obtain ⟨mx, tx, lx, le⟩ := dueN_mem.mp (List.mem_of_getElem? hx)
      have px : nms[plN x]? = some x := pl_at mx
      have tE : (T.map oW)[plN x]? = some (.int tx) := by rw [List.getElem?_map, h.2.2.2 _ _ px, lx]; rfl
      have mt2 : (t, Is (.lst (T.map oW))) ∈ ((b, Is (.tup [.int x1, .int p1])) :: (n, Is (.frz (tupO its) (.tup (nms.map V.str)))) :: (N ++ L) : List Ent) := by simp [mt]
      have hi := (List.getElem?_eq_some_iff.mp hx).1
      have ed : (dueN D now).drop i = x :: (dueN D now).drop (i + 1) := by
        rw [List.drop_eq_getElem_cons hi]
        rw [List.getElem?_eq_getElem hi] at hx
        rw [Option.some.inj hx]
      have hb0 := hb x (by rw [ed]; exact List.mem_cons_self)
      have kx : keyS D x = tx := by unfold keyS; rw [lx]; rfl
      rw [kx] at hb0
      haveI : AtE (T.map oW) ((plN x : Nat) : Int) (.int tx) := ⟨atI_nat tE⟩
      haveI : Mm (t, Is (.lst (T.map oW))) ((b, Is (.tup [.int x1, .int p1])) :: (n, Is (.frz (tupO its) (.tup (nms.map V.str)))) :: (N ++ L) : List Ent) := ⟨mt2⟩
      have mn : (n, Is (.frz (tupO its) (.tup (nms.map V.str)))) ∈ ((b, Is (.tup [.int x1, .int p1])) :: (n, Is (.frz (tupO its) (.tup (nms.map V.str)))) :: (N ++ L) : List Ent) := by simp
      have sq : Seq a.S H n (nms.map V.str) := .inr (.inl (.inr ⟨_, F.get mn⟩))
      repeat' walk_at "y 1"
      refine .inl ⟨n, nms.map V.str, rfl, sq, rfl, by decide, ?_⟩
      rw [inV_str, decide_eq_true mx]
      repeat' walk_at "y 1"
      rw [if_neg (show ¬ (if true = true then !true else true) = true by decide)]
      repeat' walk_at "y 1"
      refine ⟨n, its, nms.map V.str, rfl, F.get mn, ?_⟩
      repeat' walk_at "y 1"
      refine ⟨nms, x, plN x, rfl, .inr ⟨_, F.get mn⟩, px, fun m hm hz => by have := nms_inj hz px; omega, ?_⟩
      repeat' walk_at "y 1"
      rw [if_neg (by simpa using le)]
      repeat' walk_at "y 1"
      rename_i b2 H3 _ F3
      refine .inr ⟨b, b2, x1, p1, tx, plN x, rfl, rfl, .inl (.inl (F3.get (by simp))), .inl (.inl (F3.get (by simp))), ?_⟩
      have hc : (if x1 = tx then decide (p1 < (plN x : Int)) else decide (x1 < tx)) = true := by
        by_cases z : x1 = tx
        · rw [if_pos z]; exact decide_eq_true (by omega)
        · rw [if_neg z]; exact decide_eq_true (by omega)
      rw [hc]
      clear F
      repeat' walk_at "y 1"
      rename_i b3 H4 _ F4
      refine ⟨b3, tx, plN x, _, _, (b2, Is (.tup [.int tx, .int (plN x)])) :: (b, Is (.tup [.int x1, .int p1])) :: N, rfl, FH.sel F4 (by walk_at "y sel"), fun y my => ?_⟩
      have := dueN_pair D now
      rw [← List.take_append_drop i (dueN D now), ed] at this
      have := (List.pairwise_cons.mp (List.pairwise_append.mp this).2.1).1 y my
      rw [kx] at this
      omega
    · subst es
      repeat' walk_at "y 1"
      exact k ((b, Is (.tup [.int x1, .int p1])) :: (n, Is (.frz (tupO its) (.tup (nms.map V.str)))) :: N) _ F
end

end
section
theorem nms_flat : ∀ x ∈ nms, flatOk (.str x) = true := by decide +kernel
theorem eqv_strs : ∀ l : List Str, eqvF (l.map V.str) (l.map V.str) = true
  | [] => rfl
  | x :: l => by rw [List.map_cons, eqv_strS]; exact eqv_strs l
theorem due_flat (D : Dn) (now : Int) : ((dueN D now).map V.str).all flatOk = true := by
  rw [List.all_map, List.all_eq_true]
  intro x m
  exact nms_flat x (dueN_mem.mp m).1
theorem due_len (D : Dn) (now : Int) : (dueN D now).length ≤ 6 := by
  rw [(dueN_perm D now).length_eq]
  exact List.length_filter_le _ _
theorem filter_all {α : Type} (l : List α) : (l.filter fun _ => true).map id = l := by
  rw [List.map_id]
  induction l with
  | nil => rfl
  | cons x l ih => rw [List.filter_cons_of_pos rfl, ih]
section
variable {a : Cl} {H : Hp} {L : List Ent} {Q : VK} {E : XK} {p dx d t : Addr} {D : Dn} {T : List (Option Int)} {now : Int}
theorem duelaw_ok (h : AlT D T) (F : FH H L) (mt : (a.tb_Alarms_due, TabE qnD) ∈ L) (m0 : (p, Is (.ins a.c_Alarms dx [("times", .ref d)])) ∈ L) (m1 : (d, Is (.dK (dvS D))) ∈ L) (m2 : (t, Is (.lst (T.map oW))) ∈ L)
    (k : ∀ N H', FH H' (N ++ L) → Q (.bl true) H') : sp_due a [.ref p, .ref t, .int now] H Q E := by
  refine in_due ?_
  have i0 : Mm (p, Is (.ins a.c_Alarms dx [("times", .ref d)])) L := ⟨m0⟩
  repeat' walk_at "y 1"
  refine due_ok F mt m0 m1 fun r l H1 F1 => ?_
  clear F
  repeat' walk_at "y 1"
  refine inord_ok (D := D) (T := T) h F1 List.mem_cons_self (by simp [m2]) fun N H2 F2 => ?_
  clear F1
  repeat' walk_at "y 1"
  refine lcFM (σw := [some (.ref p), some (.ref t), some (.int now), some (.ref r), none, none, none]) id (fun _ => true) F2 (.is (List.mem_append_right _ List.mem_cons_self)) (by rw [List.length_map]; have := due_len D now; omega) rfl (fun y H2 QX A hy F2 hk hA => ?_) fun C H3 F3 => ?_
  · have hh : QX y H2 := hk rfl
    show gName 5 y _ H2 _
    repeat' walk_at "y 1"
    exact hh
  · rw [filter_all] at F3
    clear F2
    have F4 : FH H3 ((r, Is (.lst ((dueN D now).map V.str))) :: (C, Is (.lst ((dueN D now).map V.str))) :: (N ++ (l, Is (.lst ((dueF D now).map V.str))) :: L)) := F3.perm (((List.perm_middle (l₁ := N)).cons _).trans (List.Perm.swap _ _ _))
    clear F3
    repeat' walk_at "y 1"
    refine x_append F4 List.mem_cons_self (by rw [List.length_map, sizeLine_eq]; have := due_len D now; omega) .here fun H4 F5 => ?_
    clear F4
    repeat' walk_at "y 1"
    refine due_ok (p := p) (dx := dx) (d := d) (D := D) F5 (by simp [mt]) (by simp [m0]) (by simp [m1]) fun r2 l2 H5 F6 => ?_
    clear F5
    repeat' walk_at "y 1"
    refine x_eqPL F6 (xs := (dueN D now).map V.str) (ys := (dueN D now).map V.str) (by simp) (by simp) (due_flat _ _) (due_flat _ _) (eqv_strs _) ?_
    exact k ((r2, Is (.lst ((dueN D now).map V.str))) :: (l2, Is (.lst ((dueF D now).map V.str))) :: (r, Is (.lst ((dueN D now).map V.str ++ [.str ""]))) :: (C, Is (.lst ((dueN D now).map V.str))) :: (N ++ [(l, Is (.lst ((dueF D now).map V.str)))])) _ (by
      have e : (((r2, Is (.lst ((dueN D now).map V.str))) :: (l2, Is (.lst ((dueF D now).map V.str))) :: (r, Is (.lst ((dueN D now).map V.str ++ [.str ""]))) :: (C, Is (.lst ((dueN D now).map V.str))) :: (N ++ [(l, Is (.lst ((dueF D now).map V.str)))])) ++ L : List Ent) = (r2, Is (.lst ((dueN D now).map V.str))) :: (l2, Is (.lst ((dueF D now).map V.str))) :: (r, Is (.lst ((dueN D now).map V.str ++ [.str ""]))) :: (C, Is (.lst ((dueN D now).map V.str))) :: (N ++ (l, Is (.lst ((dueF D now).map V.str))) :: L) := by simp
      rw [e]
      exact F6)
end

end
section
set_option synthInstance.checkSynthOrder false
/-! everything that is set -/
section
variable {a : Cl} {H : Hp} {L : List Ent} {Q : VK} {E : XK} {p dx d t q : Addr} {D : Dn} {T : List (Option Int)} {its : List Value}
theorem whole_ok {v : V} {i : Int} (e : v = .int i) (k : Q (.bl true) H) : sp_whole a [v] H Q E := by
  subst e
  refine in_whole ?_
  repeat' walk_at "y 1"
  exact k
/-- a value that is no name -/
theorem has_odd {v : V} (F : FH H L) (h : (∃ s, v = .str s ∧ s ∉ nms) ∨ v = .non ∨ (∃ i, v = .int i) ∨ (∃ q xs, v = .ref q ∧ (q, Is (.tup xs)) ∈ L) ∨ (∃ q xs, v = .ref q ∧ (q, Is (.lst xs)) ∈ L) ∨ (∃ q xs, v = .ref q ∧ (q, Is (.dK xs)) ∈ L)) (k : Q (.bl false) H) : sp_Alarms___contains__ a [.ref p, v] H Q E := by
  refine in_Alarms___contains__ ?_
  rcases h with ⟨s, rfl, n⟩ | rfl | ⟨i, rfl⟩ | ⟨q, xs, rfl, m⟩ | ⟨q, xs, rfl, m⟩ | ⟨q, xs, rfl, m⟩
  · repeat' walk_at "y 1"
    refine alarm_ok ?_
    rw [decide_eq_false n]
    repeat' walk_at "y 1"
    exact k
  all_goals
    first | (have i0 : Mm _ L := ⟨m⟩) | skip
    repeat' walk_at "y 1"
    refine in_is_alarm ?_
    repeat' walk_at "y 1"
    exact k
/-- one name -/
theorem name_turn (h : AlT D T) {i : Nat} {x : Str} (hx : nms[i]? = some x) (F : FH H L) (m0 : (p, Is (.ins a.c_Alarms dx [("times", .ref d)])) ∈ L) (m1 : (d, Is (.dK (dvS D))) ∈ L) : sp_Alarms_when a [.ref p, .str x] H (fun v H' => v = oW (lkS D x) ∧ H' = H) E ∧ sp_Alarms___contains__ a [.ref p, .str x] H (fun v H' => v = .bl (lkS D x).isSome ∧ H' = H) E := by
  have mx := List.mem_of_getElem? hx
  exact ⟨when_ok mx F m0 m1 ⟨rfl, rfl⟩, has_ok F m0 m1 ⟨by rw [decide_eq_true mx, Bool.true_and], rfl⟩⟩
instance (priority := 500) i_ixZ {S : Sta} {H : Hp} {L : List Ent} {p : Addr} {o : Obj} {xs : List V} {i : Int} {v : V} {Q : VK} [F : FH H L] [m : Mm (p, Is (.frz o (.tup xs))) L] [a : AtE xs i v] : St1 (rIx S (.ref p) (.int i) H Q) (Q v H) := ⟨fun h => .inl ⟨p, xs, i, v, rfl, rfl, .inr (.inl (.inr ⟨o, F.get m.m⟩)), a.e, h⟩⟩
def isIv : V → Bool
  | .int _ => true
  | _ => false
theorem oW_filter : ∀ T : List (Option Int), ((T.map oW).filter isIv).map id = (T.filterMap id).map V.int := by
  intro T
  rw [List.map_id]
  induction T with
  | nil => rfl
  | cons o T ih =>
    cases o with
    | none => rw [List.map_cons, List.filter_cons_of_neg (by simp [oW, isIv]), ih]; rfl
    | some i => rw [List.map_cons, List.filter_cons_of_pos rfl, ih]; rfl
theorem fm_len (T : List (Option Int)) : (T.filterMap id).length = (T.filter isS).length := by
  induction T with
  | nil => rfl
  | cons o T ih => cases o with
    | none => simp only [List.filterMap_cons, id]; rw [ih]; rfl
    | some i => simp only [List.filterMap_cons, id, List.length_cons]; rw [ih]; rfl
theorem AlT.vals {D : Dn} {T : List (Option Int)} (h : AlT D T) (m : Int) : m ∈ T.filterMap id ↔ m ∈ D.map (·.2) := by
  have key : ∀ (D : Dn), Onc D → ∀ x z, lkS D x = some z ↔ (x, z) ∈ D := by
    intro D
    induction D with
    | nil => intro _ x z; simp [lkS]
    | cons p D ih =>
      intro o x z
      obtain ⟨n1, o2⟩ := List.nodup_cons.mp o
      have ih := ih o2 x z
      by_cases hp : p.1 = x
      · simp only [lkS, hp, if_true, List.mem_cons]
        constructor
        · intro e; cases e; exact .inl (by rw [← hp])
        · rintro (e | e)
          · rw [← e]
          · exact absurd (show p.1 ∈ D.map (·.1) from hp ▸ List.mem_map.mpr ⟨_, e, rfl⟩) n1
      · simp only [lkS, hp, if_false, ih, List.mem_cons]
        constructor
        · exact .inr
        · rintro (e | e)
          · exact absurd (by rw [← e]) hp
          · exact e
  have K := key D h.2.1
  rw [List.mem_filterMap, h.eq]
  constructor
  · rintro ⟨o, mo, e⟩
    have e : o = some m := e
    subst e
    obtain ⟨x, mx, ex⟩ := List.mem_map.mp mo
    exact List.mem_map.mpr ⟨(x, m), (K x m).mp ex, rfl⟩
  · intro z
    obtain ⟨⟨x, y⟩, mq, e⟩ := List.mem_map.mp z
    have e : y = m := e
    subst e
    exact ⟨some y, List.mem_map.mpr ⟨x, (h.2.2.1 _ mq).1, (K x y).mpr mq⟩, rfl⟩
end

end
section
section
variable {a : Cl} {H : Hp} {L : List Ent} {Q : VK} {E : XK} {p dx d t q : Addr} {D : Dn} {T : List (Option Int)} {its : List Value}
theorem set_ok (h : AlT D T) (F : FH H L) (m0 : (p, Is (.ins a.c_Alarms dx [("times", .ref d)])) ∈ L) (m1 : (d, Is (.dK (dvS D))) ∈ L) (m2 : (t, Is (.lst (T.map oW))) ∈ L) (k : ∀ N H', FH H' (N ++ L) → Q (.bl true) H') : sp_set a [.ref p, .ref t] H Q E := by
  refine in_set ?_
  have i0 : Mm (p, Is (.ins a.c_Alarms dx [("times", .ref d)])) L := ⟨m0⟩
  have i2 : Mm (t, Is (.lst (T.map oW))) L := ⟨m2⟩
  repeat' walk_at "y 1"
  refine names_ok F fun q its H1 F1 => ?_
  clear F
  repeat' walk_at "y 1"
  refine forG (j := 6) (fun i σ H => (∃ y3 y4, σ = [some (.ref p), some (.ref t), some (.ref q), y3, y4, none, none, none]) ∧ FH H ((q, Is (.frz (tupO its) (.tup (nms.map V.str)))) :: L)) (by omega) (by omega) ⟨⟨_, _, rfl⟩, F1⟩ ?_ ?_
  · clear F1
    intro i σ H hi ⟨⟨y3, y4, e⟩, F⟩
    subst e
    have hi : i < 6 := by omega
    obtain ⟨x, hx⟩ : ∃ x, nms[i]? = some x := ⟨_, List.getElem?_eq_getElem (show i < nms.length from hi)⟩
    have mx := List.mem_of_getElem? hx
    haveI : AtE (nms.map V.str) ((i : Nat) : Int) (.str x) := ⟨atI_nat (by rw [List.getElem?_map, hx]; rfl)⟩
    have ht := h.2.2.2 i x hx
    cases hl : lkS D x with
    | none =>
      haveI : AtE (T.map oW) ((i : Nat) : Int) .non := ⟨atI_nat (by rw [List.getElem?_map, ht, hl]; rfl)⟩
      repeat' walk_at "y 1"
      refine when_ok (p := p) (dx := dx) (d := d) (D := D) mx F (by simp [m0]) (by simp [m1]) ?_
      rw [hl]
      show gName 4 .non _ H _
      repeat' walk_at "y 1"
      refine has_ok (p := p) (dx := dx) (d := d) (D := D) F (by simp [m0]) (by simp [m1]) ⟨_, rfl, ?_⟩
      rw [hl, decide_eq_true mx]
      repeat' walk_at "y 1"
      exact ⟨⟨_, _, rfl⟩, F⟩
    | some z =>
      haveI : AtE (T.map oW) ((i : Nat) : Int) (.int z) := ⟨atI_nat (by rw [List.getElem?_map, ht, hl]; rfl)⟩
      repeat' walk_at "y 1"
      refine when_ok (p := p) (dx := dx) (d := d) (D := D) mx F (by simp [m0]) (by simp [m1]) ?_
      rw [hl]
      show gName 4 (.int z) _ H _
      repeat' walk_at "y 1"
      refine whole_ok rfl ?_
      repeat' walk_at "y 1"
      refine has_ok (p := p) (dx := dx) (d := d) (D := D) F (by simp [m0]) (by simp [m1]) ⟨_, rfl, ?_⟩
      rw [hl, decide_eq_true mx]
      repeat' walk_at "y 1"
      exact ⟨⟨_, _, rfl⟩, F⟩
  · clear F1
    intro σ H ⟨⟨y3, y4, e⟩, F⟩
    subst e
    repeat' walk_at "y 1"
    rename_i q1 H2 _ F2 q2 H3 _ F3 q3 H4 F4 ql H5 _ F5
    clear F F2 F3 F4
    refine forLU F5 List.mem_cons_self ?_
    repeat' walk_at "y 1"
    refine has_odd F5 (.inl ⟨_, rfl, by decide⟩) ⟨_, rfl, ?_⟩
    repeat' walk_at "y 1"
    refine has_odd F5 (.inl ⟨_, rfl, by decide⟩) ⟨_, rfl, ?_⟩
    repeat' walk_at "y 1"
    refine has_odd F5 (.inr (.inl rfl)) ⟨_, rfl, ?_⟩
    repeat' walk_at "y 1"
    refine has_odd F5 (.inr (.inr (.inl ⟨_, rfl⟩))) ⟨_, rfl, ?_⟩
    repeat' walk_at "y 1"
    refine has_odd F5 (.inr (.inr (.inr (.inl ⟨q1, [.str "rest"], rfl, by simp⟩)))) ⟨_, rfl, ?_⟩
    repeat' walk_at "y 1"
    refine has_odd F5 (.inr (.inr (.inr (.inr (.inl ⟨q2, [.str "rest"], rfl, by simp⟩))))) ⟨_, rfl, ?_⟩
    repeat' walk_at "y 1"
    refine has_odd F5 (.inr (.inr (.inr (.inr (.inr ⟨q3, [], rfl, by simp⟩))))) ⟨_, rfl, ?_⟩
    repeat' walk_at "y 1"
    refine lcFM (xs := T.map oW) (σw := [some (.ref p), some (.ref t), some (.ref q), y3, y4, some (.ref q3), none, none]) id isIv F5 (.is Mm.m) (by rw [List.length_map, h.1]; decide) rfl (fun y H2 QX A hy F2 hk hA => ?_) fun C H6 F6 => ?_
    · obtain ⟨o, _, rfl⟩ := List.mem_map.mp hy
      cases o with
      | none =>
        have hh : A H2 := hA rfl
        show gName 7 .non _ H2 _
        repeat' walk_at "y 1"
        exact hh
      | some z =>
        have hh : QX (.int z) H2 := hk rfl
        show gName 7 (.int z) _ H2 _
        repeat' walk_at "y 1"
        exact hh
    · rw [oW_filter] at F6
      clear F5
      have hl : (T.filterMap id).length = D.length := (fm_len T).trans (set_count h)
      have hv := h.vals
      have h6 := onc_len h
      generalize T.filterMap id = ms at F6 hl hv
      repeat' walk_at "y 1"
      refine soon_ok (p := p) (dx := dx) (d := d) (D := D) F6 (by simp [m0]) (by simp [m1]) (fun e l H7 F7 => ?_) fun l m H7 hm hle F7 => ?_
      · clear F6
        subst e
        have e : ms = [] := List.length_eq_zero_iff.mp hl
        subst e
        repeat' walk_at "y 1"
        refine ⟨p, dx, _, rfl, F7.get (o := .ins a.c_Alarms dx [("times", .ref d)]) Mm.m, len_ok (p := p) (dx := dx) (d := d) (D := []) F7 (by simp [m0]) (by simp [m1]) ⟨_, rfl, by decide, by decide, ?_⟩⟩
        simp only [List.map_nil, List.length_nil] at F7 ⊢
        repeat' walk_at "y 1"
        rename_i e1 H8 _ F8
        exact k ((e1, Is (.lst [])) :: (l, Is (.lst [])) :: (C, Is (.lst [])) :: _ :: (q3, Is (.dK [])) :: (q2, Is (.lst [.str "rest"])) :: (q1, Is (.tup [.str "rest"])) :: [(q, Is (.frz (tupO its) (.tup (nms.map V.str))))]) _ F8
      · clear F6
        obtain ⟨m0', ms', rfl⟩ : ∃ x r, ms = x :: r := by
          cases ms with
          | nil => rw [← hv] at hm; cases hm
          | cons x r => exact ⟨x, r, rfl⟩
        repeat' walk_at "y 1"
        refine ⟨p, dx, _, rfl, F7.get (o := .ins a.c_Alarms dx [("times", .ref d)]) Mm.m, len_ok (p := p) (dx := dx) (d := d) (D := D) F7 (by simp [m0]) (by simp [m1]) ⟨_, rfl, by omega, by omega, ?_⟩⟩
        repeat' walk_at "y 1"
        rw [if_neg (by rw [decide_eq_true_eq]; omega)]
        rw [List.map_cons] at F7
        repeat' walk_at "y 1"
        rename_i e1 H8 _ F8
        refine whole_ok rfl ?_
        repeat' walk_at "y 1"
        have F8 : FH H8 ((e1, Is (.lst [])) :: (l, Is (.lst ((D.map (·.2)).map V.int))) :: (C, Is (.lst ((m0' :: ms').map V.int))) :: (ql, Is (.lst [.str "", .str "REST", .non, .int 5, .ref q1, .ref q2, .ref q3])) :: (q3, Is (.dK [])) :: (q2, Is (.lst [.str "rest"])) :: (q1, Is (.tup [.str "rest"])) :: (q, Is (.frz (tupO its) (.tup (nms.map V.str)))) :: L) := F8
        have mI : m ∈ m0' :: ms' := (hv m).mpr hm
        refine x_inL (bb := true) F8 (p := C) (xs := (m0' :: ms').map V.int) Mm.m rfl (by rw [List.all_map, List.all_eq_true]; intro x _; rfl) ?_ ?_
        · unfold inV
          rw [List.any_map, List.any_eq_true]
          exact ⟨m, mI, by simp [eqV]⟩
        repeat' walk_at "y 1"
        refine lcFM (xs := (m0' :: ms').map V.int) (σw := [some (.ref p), some (.ref t), some (.ref q), y3, some (.int m), some (.ref q3), some (.ref C), none]) (fun _ => .bl true) (fun _ => true) F8 (.is Mm.m) (by rw [List.length_map]; omega) rfl (fun y H2 QX A hy F2 hk hA => ?_) fun C2 H9 F9 => ?_
        · obtain ⟨z, mz, rfl⟩ := List.mem_map.mp hy
          have hle2 := hle z ((hv z).mp mz)
          have hh := hk rfl
          repeat' walk_at "y 1"
          rw [decide_eq_true hle2]
          exact hh
        · repeat' walk_at "y 1"
          refine ⟨C2, (((m0' :: ms').map V.int).filter fun _ => true).map (fun _ => true), rfl, .inl (.inl ((F9.get (o := .lst ((((m0' :: ms').map V.int).filter fun _ => true).map fun _ => .bl true)) Mm.m).trans ?_)), ?_⟩
          · rw [List.map_map]
            rfl
          · rw [show ((((m0' :: ms').map V.int).filter fun _ => true).map fun _ => true).all id = true by rw [List.all_map, List.all_eq_true]; intro x _; rfl]
            exact k ((C2, _) :: (e1, Is (.lst [])) :: (l, _) :: (C, _) :: (ql, _) :: (q3, Is (.dK [])) :: (q2, Is (.lst [.str "rest"])) :: (q1, Is (.tup [.str "rest"])) :: [(q, Is (.frz (tupO its) (.tup (nms.map V.str))))]) _ F9
end

end
section
section
variable {a : Cl} {H : Hp} {L : List Ent} {Q : VK} {E : XK} {p dx d t : Addr} {D : Dn} {T : List (Option Int)}
theorem greater_ok {x y : Int} (k : Q (.int (if y < x then x else y)) H) : sp_greater a [.int x, .int y] H Q E := by
  refine in_greater ?_
  repeat' walk_at "y 1"
  by_cases h : y < x
  · rw [if_pos (decide_eq_true h)]
    rw [if_pos h] at k
    repeat' walk_at "y 1"
    exact k
  · rw [if_neg (by simpa using h)]
    rw [if_neg h] at k
    repeat' walk_at "y 1"
    exact k
theorem agrees_ok (h : AlT D T) (F : FH H L) (mt : (a.tb_Alarms_due, TabE qnD) ∈ L) (m0 : (p, Is (.ins a.c_Alarms dx [("times", .ref d)])) ∈ L) (m1 : (d, Is (.dK (dvS D))) ∈ L) (m2 : (t, Is (.lst (T.map oW))) ∈ L) (k : ∀ N H', FH H' (N ++ L) → Q (.bl true) H') : sp_agrees a [.ref p, .ref t] H Q E := by
  refine in_agrees ?_
  have i0 : Mm (p, Is (.ins a.c_Alarms dx [("times", .ref d)])) L := ⟨m0⟩
  have i2 : Mm (t, Is (.lst (T.map oW))) L := ⟨m2⟩
  repeat' walk_at "y 1"
  refine set_ok h F m0 m1 m2 fun N H1 F1 => ?_
  clear F
  repeat' walk_at "y 1"
  rename_i m H2 _ F2
  refine forQ (X := L) (fun i σ H => ∃ (m : Addr) (ms : List Int) (y3 : Option V) (N : List Ent), σ = [some (.ref p), some (.ref t), some (.ref m), y3, none] ∧ FH H ((m, Is (.lst (ms.map V.int))) :: (N ++ L)) ∧ ms.length ≤ 2 + 2 * i) (.inl m2) ⟨m, [0, 1000000000000 - 1], none, N, rfl, F2, by decide⟩ (fun i σ H ⟨m, ms, y3, N, _, F, _⟩ => ⟨_, F, fun e m => by simp [m]⟩) (fun i y σ H e ⟨m, ms, y3, N, es, F, hl⟩ => ?_) fun σ H ⟨m, ms, y3, N, es, F, hl⟩ => ?_
  · clear F1 F2
    subst es
    have hi := (List.getElem?_eq_some_iff.mp e).1
    rw [List.length_map, h.1] at hi
    rw [List.getElem?_map] at e
    obtain ⟨o, _, rfl⟩ := Option.map_eq_some_iff.mp e
    cases o with
    | none =>
      show gName 3 .non _ H _
      repeat' walk_at "y 1"
      exact ⟨m, ms, _, N, rfl, F, by omega⟩
    | some z =>
      show gName 3 (.int z) _ H _
      repeat' walk_at "y 1"
      refine greater_ok ?_
      generalize (if z - 1 < 0 then (0 : Int) else z - 1) = g
      repeat' walk_at "y 1"
      rename_i ma Ha _ Fa mb Hb _ Fb
      exact ⟨mb, ms ++ [z, g], _, (ma, Is (.lst [.int z, .int g])) :: (m, Is (.lst (ms.map V.int))) :: N, rfl, by rw [List.map_append]; exact Fb, by rw [List.length_append, List.length_cons, List.length_cons, List.length_nil]; omega⟩
  · clear F1 F2
    subst es
    repeat' walk_at "y 1"
    refine forQ (X := (m, Is (.lst (ms.map V.int))) :: (N ++ L)) (fun i σ H => ∃ (y4 : Option V) (N' : List Ent), σ = [some (.ref p), some (.ref t), some (.ref m), y3, y4] ∧ FH H (N' ++ (m, Is (.lst (ms.map V.int))) :: (N ++ L))) (.inl List.mem_cons_self) ⟨_, [], rfl, F⟩ (fun i σ H ⟨y4, N', _, F⟩ => ⟨_, F, fun e m => List.mem_append_right _ m⟩) (fun i y σ H e ⟨y4, N', es, F⟩ => ?_) fun σ H ⟨y4, N', es, F⟩ => ?_
    · subst es
      rw [List.getElem?_map] at e
      obtain ⟨now, _, rfl⟩ := Option.map_eq_some_iff.mp e
      repeat' walk_at "y 1"
      refine duelaw_ok (p := p) (dx := dx) (d := d) (D := D) (T := T) h F (by simp [mt]) (by simp [m0]) (by simp [m1]) (by simp [m2]) fun N2 H3 F3 => ?_
      repeat' walk_at "y 1"
      exact ⟨_, N2 ++ N', rfl, by rw [List.append_assoc]; exact F3⟩
    · subst es
      repeat' walk_at "y 1"
      exact k (N' ++ (m, Is (.lst (ms.map V.int))) :: N) _ (by rw [List.append_assoc]; exact F)
end

end
section
/-! calls that are refused; one call -/
section
variable {a : Cl} {H : Hp} {L : List Ent} {Q : VK} {E : XK} {p dx d t b : Addr} {D : Dn} {T : List (Option Int)}
/-- no name of an alarm -/
inductive Stg (L : List Ent) : V → Prop
  | str (s : Str) (n : s ∉ nms) : Stg L (.str s)
  | non : Stg L .non
  | bl (b : Bool) : Stg L (.bl b)
  | int (i : Int) : Stg L (.int i)
  | tup (q : Addr) (xs : List V) (m : (q, Is (.tup xs)) ∈ L) : Stg L (.ref q)
  | lst (q : Addr) (xs : List V) (m : (q, Is (.lst xs)) ∈ L) : Stg L (.ref q)
  | dct (q : Addr) (xs : List (Key × V)) (m : (q, Is (.dK xs)) ∈ L) : Stg L (.ref q)
theorem Stg.mono {L M : List Ent} {v : V} (h : Stg L v) (s : ∀ e ∈ L, e ∈ M) : Stg M v := by
  cases h with
  | str s n => exact .str s n
  | non => exact .non
  | bl b => exact .bl b
  | int i => exact .int i
  | tup q xs m => exact .tup q xs (s _ m)
  | lst q xs m => exact .lst q xs (s _ m)
  | dct q xs m => exact .dct q xs (s _ m)
theorem Stg.same {L : List Ent} {v : V} (h : Stg L v) : flatB v = true ∨ ∃ d, v = .ref d := by
  cases h with
  | str s n => exact .inl rfl
  | non => exact .inl rfl
  | bl b => exact .inl rfl
  | int i => exact .inl rfl
  | tup q xs m => exact .inr ⟨_, rfl⟩
  | lst q xs m => exact .inr ⟨_, rfl⟩
  | dct q xs m => exact .inr ⟨_, rfl⟩
theorem alarm_odd {v : V} (F : FH H L) (h : Stg L v) (k : Q (.bl false) H) : sp_is_alarm a [v] H Q E := by
  cases h with
  | str s n => exact alarm_ok (by rw [decide_eq_false n]; exact k)
  | non =>
    refine in_is_alarm ?_
    repeat' walk_at "y 1"
    exact k
  | bl b =>
    refine in_is_alarm ?_
    repeat' walk_at "y 1"
    exact k
  | int i =>
    refine in_is_alarm ?_
    repeat' walk_at "y 1"
    exact k
  | tup q xs m =>
    have i0 : Mm (q, Is (.tup xs)) L := ⟨m⟩
    refine in_is_alarm ?_
    repeat' walk_at "y 1"
    exact k
  | lst q xs m =>
    have i0 : Mm (q, Is (.lst xs)) L := ⟨m⟩
    refine in_is_alarm ?_
    repeat' walk_at "y 1"
    exact k
  | dct q xs m =>
    have i0 : Mm (q, Is (.dK xs)) L := ⟨m⟩
    refine in_is_alarm ?_
    repeat' walk_at "y 1"
    exact k
theorem call_arm {x : Str} {z : Int} (hx : x ∈ nms) (hz : 0 ≤ z) (o : Onc D) (hl : D.length < 1000) {L' : List Ent} (F : FH H L) (m0 : (p, Is (.ins a.c_Alarms dx [("times", .ref d)])) ∈ L) (m1 : (d, Is (.dK (dvS D))) ∈ L)
    (u : Put d (Is (.dK (dvS D))) (Is (.dK (dvS (puS D x z)))) L L') (k : ∀ b H', FH H' ((b, Is (.tup [.str "told", .non])) :: L') → Q (.ref b) H') : sp_call a [.ref p, .int 0, .str x, .int z] H Q E := by
  refine in_call ?_
  have i0 : Mm (p, Is (.ins a.c_Alarms dx [("times", .ref d)])) L := ⟨m0⟩
  repeat' walk_at "y 1"
  refine arm_ok hx hz o hl F m0 m1 u fun H1 F1 => ?_
  clear F
  repeat' walk_at "y 1"
  rename_i b H2 _ F2
  exact k b H2 F2
theorem call_disarm {x : Str} (hx : x ∈ nms) {L' : List Ent} (F : FH H L) (m0 : (p, Is (.ins a.c_Alarms dx [("times", .ref d)])) ∈ L) (m1 : (d, Is (.dK (dvS D))) ∈ L)
    (u : Put d (Is (.dK (dvS D))) (Is (.dK (dvS (drS D x)))) L L') (e0 : lkS D x = none → L' = L) (k : ∀ b H', FH H' ((b, Is (.tup [.str "told", .non])) :: L') → Q (.ref b) H') : sp_call a [.ref p, .int 1, .str x, .int 0] H Q E := by
  refine in_call ?_
  have i0 : Mm (p, Is (.ins a.c_Alarms dx [("times", .ref d)])) L := ⟨m0⟩
  repeat' walk_at "y 1"
  repeat' walk_at "y if"
  repeat' walk_at "y 1"
  refine disarm_ok hx F m0 m1 u (fun e => ?_) fun H1 F1 => ?_
  · have F1 : FH H L' := by rw [e0 e]; exact F
    clear F
    repeat' walk_at "y 1"
    rename_i b H2 _ F2
    exact k b H2 F2
  · clear F
    repeat' walk_at "y 1"
    rename_i b H2 _ F2
    exact k b H2 F2
theorem call_odd {v y : V} {n : Int} (hn : 0 ≤ n ∧ n ≤ 2) (h : Stg L v) (F : FH H L) (m0 : (p, Is (.ins a.c_Alarms dx [("times", .ref d)])) ∈ L)
    (k : ∀ b e H', FH H' ((b, Is (.tup [.str "setting", v])) :: (e, Is (.xd [("setting", v)])) :: L) → Q (.ref b) H') : sp_call a [.ref p, .int n, v, y] H Q E := by
  refine in_call ?_
  have i0 : Mm (p, Is (.ins a.c_Alarms dx [("times", .ref d)])) L := ⟨m0⟩
  rcases (show n = 0 ∨ n = 1 ∨ n = 2 by omega) with rfl | rfl | rfl
  · repeat' walk_at "y 1"
    refine in_Alarms_arm ?_
    repeat' walk_at "y 1"
    refine alarm_odd F h ?_
    repeat' walk_at "y 1"
    rename_i e H1 F1 b H2 _ F2
    exact k _ _ _ F2
  · repeat' (first | walk_at "y 1" | walk_at "y if")
    refine in_Alarms_disarm ?_
    repeat' walk_at "y 1"
    refine alarm_odd F h ?_
    repeat' walk_at "y 1"
    rename_i e H1 F1 b H2 _ F2
    exact k _ _ _ F2
  · repeat' (first | walk_at "y 1" | walk_at "y if")
    refine in_Alarms_when ?_
    repeat' walk_at "y 1"
    refine alarm_odd F h ?_
    repeat' walk_at "y 1"
    rename_i e H1 F1 b H2 _ F2
    exact k _ _ _ F2
/-- no time -/
inductive Wrg (L : List Ent) : V → Prop
  | int (i : Int) (h : i < 0) : Wrg L (.int i)
  | non : Wrg L .non
  | bl (b : Bool) : Wrg L (.bl b)
  | str (s : Str) : Wrg L (.str s)
  | tup (q : Addr) (i : Int) (m : (q, Is (.tup [.int i])) ∈ L) : Wrg L (.ref q)
theorem Wrg.mono {L M : List Ent} {v : V} (h : Wrg L v) (s : ∀ e ∈ L, e ∈ M) : Wrg M v := by
  cases h with
  | int i h => exact .int i h
  | non => exact .non
  | bl b => exact .bl b
  | str s => exact .str s
  | tup q i m => exact .tup q i (s _ m)
theorem call_wrong {x : Str} {v : V} (hx : x ∈ nms) (h : Wrg L v) (F : FH H L) (m0 : (p, Is (.ins a.c_Alarms dx [("times", .ref d)])) ∈ L)
    (k : ∀ b e H', FH H' ((b, Is (.tup [.str "number", v])) :: (e, Is (.xd [("number", v)])) :: L) → Q (.ref b) H') : sp_call a [.ref p, .int 0, .str x, v] H Q E := by
  refine in_call ?_
  have i0 : Mm (p, Is (.ins a.c_Alarms dx [("times", .ref d)])) L := ⟨m0⟩
  repeat' walk_at "y 1"
  refine in_Alarms_arm ?_
  repeat' walk_at "y 1"
  refine alarm_ok ?_
  rw [decide_eq_true hx]
  repeat' walk_at "y 1"
  cases h with
  | int i h =>
    refine in_is_whole ?_
    repeat' walk_at "y 1"
    rw [if_pos (by rw [decide_eq_true h])]
    repeat' walk_at "y 1"
    rename_i e H1 F1 b H2 _ F2
    exact k _ _ _ F2
  | non =>
    refine in_is_whole ?_
    repeat' walk_at "y 1"
    rename_i e H1 F1 b H2 _ F2
    exact k _ _ _ F2
  | bl b =>
    refine in_is_whole ?_
    repeat' walk_at "y 1"
    rename_i e H1 F1 b H2 _ F2
    exact k _ _ _ F2
  | str s =>
    refine in_is_whole ?_
    repeat' walk_at "y 1"
    rename_i e H1 F1 b H2 _ F2
    exact k _ _ _ F2
  | tup q i m =>
    have i1 : Mm (q, Is (.tup [.int i])) L := ⟨m⟩
    refine in_is_whole ?_
    repeat' walk_at "y 1"
    rename_i e H1 F1 b H2 _ F2
    exact k _ _ _ F2
theorem same_wrong {v : V} (F : FH H L) (h : Wrg L v) (k : Q (.bl true) H) : sp_same a [v, v] H Q E := by
  refine in_same ?_
  cases h with
  | int i h =>
    repeat' walk_at "y 1"
    exact k
  | non =>
    repeat' walk_at "y 1"
    exact k
  | bl b =>
    repeat' walk_at "y 1"
    exact k
  | str s =>
    repeat' walk_at "y 1"
    exact k
  | tup q i m =>
    have i1 : Mm (q, Is (.tup [.int i])) L := ⟨m⟩
    repeat' walk_at "y 1"
    exact k
end

end
section
section
variable {a : Cl} {H : Hp} {L : List Ent} {Q : VK} {E : XK} {p dx d t b : Addr} {D : Dn} {T : List (Option Int)}
theorem moment_ok (F : FH H L) (mb : (b, Bag) ∈ L) (mt : (t, Is (.lst (T.map oW))) ∈ L) (h : AlT D T) (k : ∀ z H', 0 ≤ z → FH H' L → Q (.int z) H') : sp_moment a [.ref b, .ref t] H Q E := by
  refine in_moment ?_
  repeat' walk_at "y 1"
  refine take_ok F mb (by decide) (by decide) fun w H1 w0 w1 F1 => ?_
  clear F
  have go : ∀ n : Int, 0 < n → n ≤ 1000000000000 → sp_take a [.ref b, .int n] H1 Q E := fun n h0 h1 => take_ok F1 mb h0 h1 fun r H' r0 _ F' => k r H' r0 F'
  repeat' (first | walk_at "y 1" | walk_at "y if")
  · exact go _ (by decide) (by decide)
  · exact k 0 H1 (by decide) F1
  · refine take_ok F1 mb (by decide) (by decide) fun r H2 r0 r1 F2 => ?_
    clear F1
    have hr : r.toNat < T.length := by rw [h.1]; omega
    have er : T[r.toNat]? = some T[r.toNat] := List.getElem?_eq_getElem hr
    generalize T[r.toNat] = o at er
    refine ix_mem F2 mt r0 (by rw [List.length_map, h.1]; omega) fun v hv => ?_
    rw [List.getElem?_map, er] at hv
    cases hv
    cases o with
    | none =>
      show gName 3 .non _ H2 _
      repeat' walk_at "y 1"
      refine take_ok F2 mb (by decide) (by decide) fun s H3 s0 s1 F3 => ?_
      repeat' walk_at "y 1"
      exact greater_ok (k _ H3 (by split <;> omega) F3)
    | some z =>
      show gName 3 (.int z) _ H2 _
      repeat' walk_at "y 1"
      refine take_ok F2 mb (by decide) (by decide) fun s H3 s0 s1 F3 => ?_
      repeat' walk_at "y 1"
      exact greater_ok (k _ H3 (by split <;> omega) F3)
  · exact go _ (by decide) (by decide)
  · exact go _ (by decide) (by decide)
theorem far_ok (F : FH H L) (mb : (b, Bag) ∈ L) (k : ∀ z H', 0 ≤ z → FH H' L → Q (.int z) H') : sp_far a [.ref b] H Q E := by
  refine in_far ?_
  repeat' walk_at "y 1"
  refine take_ok F mb (by decide) (by decide) fun w H1 w0 w1 F1 => ?_
  clear F
  repeat' walk_at "y 1"
  refine take_ok F1 mb (by decide) (by decide) fun r H2 r0 r1 F2 => ?_
  refine x_mul (mulR (by omega) (by omega)) ?_
  exact k _ H2 (Int.mul_nonneg w0 r0) F2
theorem wrong_ok (F : FH H L) (mb : (b, Bag) ∈ L) (k : ∀ v N H', Wrg (N ++ L) v → FH H' (N ++ L) → Q v H') : sp_wrong a [.ref b] H Q E := by
  refine in_wrong ?_
  repeat' walk_at "y 1"
  refine take_ok F mb (by decide) (by decide) fun w H1 w0 w1 F1 => ?_
  clear F
  repeat' (first | walk_at "y 1" | walk_at "y if")
  · refine far_ok F1 mb fun z H2 z0 F2 => ?_
    repeat' walk_at "y 1"
    exact k (.int _) [] H2 (.int _ (by omega)) F2
  · exact k .non [] H1 .non F1
  · exact k (.bl true) [] H1 (.bl _) F1
  · refine take_ok F1 mb (by decide) (by decide) fun r H2 r0 r1 F2 => ?_
    repeat' walk_at "y 1"
    exact k (.str _) [] H2 (.str _) F2
  · refine take_ok F1 mb (by decide) (by decide) fun r H2 r0 r1 F2 => ?_
    clear F1
    repeat' walk_at "y 1"
    rename_i q H3 _ F3
    exact k (.ref q) [(q, Is (.tup [.int r]))] H3 (.tup q r List.mem_cons_self) F3
end

end
section
/-! texts that are no names -/
def KSt0 (r : V → List V → Hp → VK → Prop) (Q : VK) (x : V) (H1 : Hp) : Prop := (∃ a, x = .str a) ∧ r x [] H1 Q
instance i_tM0 {r : V → List V → Hp → VK → Prop} {te : TE} {σ : L2.St} {H : Hp} {Q : VK} : St1 (tM0 r te σ H Q) (te σ H fun x H1 => KSt0 r Q x H1) := ⟨id⟩
theorem up_odd : ∀ x ∈ nms, Txt.upper x ∉ nms ∧ 0 < x.length ∧ x.length ≤ 6 := by decide +kernel
theorem two_odd : ∀ x ∈ nms, x ++ x ∉ nms := by decide +kernel
theorem less_odd : ∀ x ∈ nms, ∀ j ∈ List.range x.length, cutS x none (some (j : Int)) ++ cutS x (some ((j : Int) + 1)) none ∉ nms := by decide +kernel
theorem more_odd : ∀ x ∈ nms, ∀ j ∈ List.range (x.length + 1), ∀ c ∈ ([32, 95, 48, 90, 120] : List Nat), (cutS x none (some (j : Int)) ++ (⟨#[c]⟩ : Str)) ++ cutS x (some (j : Int)) none ∉ nms := by decide +kernel
section
variable {a : Cl} {H : Hp} {L : List Ent} {Q : VK} {E : XK} {p dx d t b : Addr} {D : Dn} {T : List (Option Int)}
instance i_slS {z : Str} {lo hi : Option Int} {H : Hp} {Q : VK} [l : ShZ z] : St1 (rSlS (.str z) lo hi H Q) (Q (.str (cutS z lo hi)) H) := ⟨fun h => ⟨z, rfl, by rw [sizeLine_eq]; have := l.l; omega, h⟩⟩
instance i_lenS' {S : Sta} {z : Str} {H : Hp} {Q : VK} [l : ShZ z] : St1 (rLen S [.str z] H Q) (Q (.int (z.length : Int)) H) := ⟨fun h => .inr ⟨z, rfl, by rw [sizeLine_eq]; have := l.l; omega, h⟩⟩
theorem addS {x y : Str} {H : Hp} {Q : VK} (h : x.length + y.length ≤ 1000) (k : Q (.str (x ++ y)) H) : rAdd (.str x) (.str y) H Q := .inr (.inl ⟨x, y, rfl, rfl, by rw [sizeLine_eq]; omega, k⟩)
theorem stranger_ok (F : FH H L) (mb : (b, Bag) ∈ L) (k : ∀ v N H', Stg (N ++ L) v → FH H' (N ++ L) → Q v H') : sp_stranger a [.ref b] H Q E := by
  refine in_stranger ?_
  repeat' walk_at "y 1"
  refine names_ok F fun q its H1 F1 => ?_
  clear F
  repeat' walk_at "y 1"
  refine take_ok F1 (by simp [mb]) (by decide) (by decide) fun i H2 i0 i1 F2 => ?_
  clear F1
  obtain ⟨x, hx⟩ : ∃ x, nms[i.toNat]? = some x := ⟨_, List.getElem?_eq_getElem (show i.toNat < nms.length by show i.toNat < 6; omega)⟩
  haveI : AtE (nms.map V.str) i (.str x) := ⟨atI_at (j := i.toNat) (by omega) (by rw [List.getElem?_map, hx]; rfl)⟩
  have mx := List.mem_of_getElem? hx
  obtain ⟨xu, x0, xl⟩ := up_odd x mx
  haveI : ShZ x := ⟨by omega⟩
  repeat' walk_at "y 1"
  refine take_ok F2 (by simp [mb]) (by decide) (by decide) fun w H3 w0 w1 F3 => ?_
  clear F2
  have fs : ∀ s : Str, s ∉ nms → Q (.str s) H3 := fun s n => k (.str s) [(q, Is (.frz (tupO its) (.tup (nms.map V.str))))] H3 (.str s n) F3
  repeat' walk_at "y 1"
  repeat' (first | walk_at "y 1" | walk_at "y if")
  · rename_i p1 Ha _ Fa p2 Hb _ Fb p3 Hc Fc p4 Hd _ Fd
    clear F3 Fa Fb Fc
    refine take_ok Fd (by simp [mb]) (by decide) (by decide) fun c H4 c0 c1 F4 => ?_
    clear Fd
    have kk : ∀ v, Stg ((p4, Is (.lst [.non, .bl true, .int 5, .ref p1, .ref p2, .ref p3])) :: (p3, Is (.dK [])) :: (p2, Is (.lst [.str "rest"])) :: (p1, Is (.tup [.str "rest"])) :: (q, Is (.frz (tupO its) (.tup (nms.map V.str)))) :: L) v → Q v H4 := fun v h => k v [(p4, Is (.lst [.non, .bl true, .int 5, .ref p1, .ref p2, .ref p3])), (p3, Is (.dK [])), (p2, Is (.lst [.str "rest"])), (p1, Is (.tup [.str "rest"])), (q, Is (.frz (tupO its) (.tup (nms.map V.str))))] H4 h F4
    rcases (show c = 0 ∨ c = 1 ∨ c = 2 ∨ c = 3 ∨ c = 4 ∨ c = 5 by omega) with rfl | rfl | rfl | rfl | rfl | rfl
    all_goals repeat' walk_at "y 1"
    · exact kk _ .non
    · exact kk _ (.bl _)
    · exact kk _ (.int _)
    · exact kk _ (.tup p1 [.str "rest"] (by simp))
    · exact kk _ (.lst p2 [.str "rest"] (by simp))
    · exact kk _ (.dct p3 [] (by simp))
  · exact fs _ (by decide +kernel)
  · exact ⟨⟨x, rfl⟩, x, rfl, rfl, by omega, fs _ xu⟩
  · refine take_ok F3 (by simp [mb]) (by omega) (by omega) fun j H4 j0 j1 F4 => ?_
    repeat' walk_at "y 1"
    refine addS (by have := cutS_length x none (some j); have := cutS_length x (some (j + 1)) none; omega) ?_
    obtain ⟨m, rfl⟩ : ∃ m : Nat, j = m := ⟨j.toNat, by omega⟩
    exact k (.str _) [(q, Is (.frz (tupO its) (.tup (nms.map V.str))))] H4 (.str _ (less_odd x mx m (List.mem_range.mpr (by omega)))) F4
  · refine take_ok F3 (by simp [mb]) (by omega) (by omega) fun j H4 j0 j1 F4 => ?_
    clear F3
    repeat' walk_at "y 1"
    refine take_ok F4 (by simp [mb]) (by omega) (by omega) fun c H5 c0 c1 F5 => ?_
    obtain ⟨m, rfl⟩ : ∃ m : Nat, j = m := ⟨j.toNat, by omega⟩
    have fin : ∀ c ∈ ([32, 95, 48, 90, 120] : List Nat), Q (.str ((cutS x none (some (m : Int)) ++ (⟨#[c]⟩ : Str)) ++ cutS x (some (m : Int)) none)) H5 := fun c mc => k (.str _) [(q, Is (.frz (tupO its) (.tup (nms.map V.str))))] H5 (.str _ (more_odd x mx m (List.mem_range.mpr (by omega)) c mc)) F5
    have l1 := cutS_length x none (some (m : Int))
    have l2 := cutS_length x (some (m : Int)) none
    have ix : ∀ (c : Int) (code : Nat), atI (" _0Zx" : Str).cps.toList c = some code → code ∈ ([32, 95, 48, 90, 120] : List Nat) → (rIx a.S (.str " _0Zx") (.int c) H5 fun y H2 => rAdd (.str (cutS x none (some (m : Int)))) y H2 fun x_1 H1 => tSl rSlS (tVar 1) (tPart (tVar 3)) tNoPart [some (.ref b), some (.str x), some (.int w), some (.int (m : Int))] H1 fun y H2 => rAdd x_1 y H2 Q) := fun c code h mc => by
      refine .inr ⟨_, c, code, rfl, rfl, by decide, h, addS (by show _ + 1 ≤ 1000; omega) ?_⟩
      repeat' walk_at "y 1"
      refine addS ?_ (fin code mc)
      have : ((cutS x none (some (m : Int))) ++ (⟨#[code]⟩ : Str)).length = (cutS x none (some (m : Int))).length + 1 := Array.size_append
      omega
    rcases (show c = 0 ∨ c = 1 ∨ c = 2 ∨ c = 3 ∨ c = 4 by omega) with rfl | rfl | rfl | rfl | rfl
    · exact ix 0 32 (by decide +kernel) (by simp)
    · exact ix 1 95 (by decide +kernel) (by simp)
    · exact ix 2 48 (by decide +kernel) (by simp)
    · exact ix 3 90 (by decide +kernel) (by simp)
    · exact ix 4 120 (by decide +kernel) (by simp)
  · exact addS (by omega) (fs _ (two_odd x mx))
  · exact fs _ (by decide +kernel)
end

end
section
theorem map_setW {T : List (Option Int)} {j : Nat} {o : Option Int} : (T.map oW).set j (oW o) = (T.set j o).map oW := by rw [List.map_set]
theorem AlT.length {D : Dn} {T : List (Option Int)} (h : AlT D T) : D.length < 1000 := by have := onc_len h; omega
theorem drS_same {x : Str} : ∀ {D : Dn}, lkS D x = none → drS D x = D
  | [], _ => rfl
  | p :: D, e => by
    by_cases h : p.1 = x
    · simp [lkS, h] at e
    · simp only [lkS, h, if_false] at e
      have ih := drS_same e
      unfold drS at ih ⊢
      rw [List.filter_cons_of_pos (by simp [h]), ih]
section
variable {a : Cl} {H : Hp} {L R : List Ent} {Q : VK} {E : XK} {p dx d t b : Addr} {D : Dn} {T : List (Option Int)}
theorem deed_ok (h : AlT D T) (F : FH H ((d, Is (.dK (dvS D))) :: (t, Is (.lst (T.map oW))) :: R)) (mb : (b, Bag) ∈ R) (m0 : (p, Is (.ins a.c_Alarms dx [("times", .ref d)])) ∈ R)
    (k : ∀ D' T' N H', AlT D' T' → FH H' (N ++ (d, Is (.dK (dvS D'))) :: (t, Is (.lst (T'.map oW))) :: R) → Q (.bl true) H') : sp_deed a [.ref b, .ref p, .ref t] H Q E := by
  refine in_deed ?_
  repeat' walk_at "y 1"
  refine take_ok F (by simp [mb]) (by decide) (by decide) fun w H1 w0 w1 F1 => ?_
  clear F
  repeat' walk_at "y 1"
  refine take_ok F1 (by simp [mb]) (by decide) (by decide) fun i H2 i0 i1 F2 => ?_
  clear F1
  obtain ⟨j, rfl⟩ : ∃ j : Nat, i = j := ⟨i.toNat, by omega⟩
  obtain ⟨x, hx⟩ : ∃ x, nms[j]? = some x := ⟨_, List.getElem?_eq_getElem (show j < nms.length by show j < 6; omega)⟩
  have mx := List.mem_of_getElem? hx
  have hT : j < (T.map oW).length := by rw [List.length_map, h.1]; omega
  haveI : AtE (nms.map V.str) (j : Int) (.str x) := ⟨atI_nat (by rw [List.getElem?_map, hx]; rfl)⟩
  repeat' walk_at "y 1"
  refine names_ok F2 fun q its H3 F3 => ?_
  clear F2
  repeat' walk_at "y 1"
  repeat' (first | walk_at "y 1" | walk_at "y if")
  · refine moment_ok F3 (by simp [mb]) (T := T) (D := D) (by simp) h fun z H4 z0 F4 => ?_
    clear F3
    repeat' walk_at "y 1"
    rename_i H5 F5
    clear F4
    rw [Int.toNat_natCast, show (T.map oW).set j (.int z) = (T.set j (some z)).map oW from map_setW (o := some z)] at F5
    refine call_arm (p := p) (dx := dx) (d := d) (D := D) mx z0 h.2.1 h.length F5 (by simp [m0]) (by simp) (.there .here) fun c H6 F6 => ?_
    clear F5
    repeat' walk_at "y 1"
    rename_i e H7 _ F7
    refine k (puS D x z) (T.set j (some z)) [(e, _), (c, _), (q, _)] H7 (h.put hx z0) F7
  · rename_i H5 F5
    clear F3
    rw [Int.toNat_natCast, show (T.map oW).set j .non = (T.set j none).map oW from map_setW (o := none)] at F5
    refine call_disarm (p := p) (dx := dx) (d := d) (D := D) mx F5 (by simp [m0]) (by simp) (.there .here) (fun e => by rw [drS_same e]) fun c H6 F6 => ?_
    clear F5
    repeat' walk_at "y 1"
    rename_i e H7 _ F7
    refine k (drS D x) (T.set j none) [(e, _), (c, _), (q, _)] H7 (h.drop hx) F7
  · refine wrong_ok F3 (by simp [mb]) fun v N H4 hv F4 => ?_
    clear F3
    repeat' walk_at "y 1"
    refine call_wrong (p := p) (dx := dx) (d := d) mx hv F4 (by simp [m0]) fun c e H5 F5 => ?_
    clear F4
    repeat' walk_at "y 1"
    refine same_wrong F5 (hv.mono fun y m => List.mem_cons_of_mem _ (List.mem_cons_of_mem _ m)) ?_
    exact k D T ((c, _) :: (e, _) :: (N ++ [(q, _)])) _ h (by rw [List.cons_append, List.cons_append, List.append_assoc]; exact F5)
  · refine stranger_ok F3 (by simp [mb]) fun v N H4 hv F4 => ?_
    clear F3
    repeat' walk_at "y 1"
    have fin : ∀ (u : Int) (y : V) (N2 : List Ent) (H7 : Hp) (y6 : Option V), 0 ≤ u ∧ u ≤ 2 → FH H7 (N2 ++ (N ++ (q, Is (.frz (tupO its) (.tup (nms.map V.str)))) :: (d, Is (.dK (dvS D))) :: (t, Is (.lst (T.map oW))) :: R)) → sp_call a [.ref p, .int u, v, y] H7 (fun x' H8 => tTup (tCons (tC (.str "setting")) (tCons (tVar 9) tNil)) [some (.ref b), some (.ref p), some (.ref t), some (.int w), some (.int (j : Int)), some (.str x), y6, none, none, some v] H8 fun y' H9 => rEqT a.S x' y' H9 Q) E := fun u y N2 H7 y6 hu F7 => by
      refine call_odd (p := p) (dx := dx) (d := d) hu (hv.mono fun e m => List.mem_append_right N2 m) F7 (by simp [m0]) fun c e H6 F6 => ?_
      repeat' walk_at "y 1"
      rename_i c2 H7 _ F7
      refine .inr ⟨c, c2, _, v, rfl, rfl, .inl (.inl (F7.get (by simp))), .inl (.inl (F7.get List.mem_cons_self)), hv.same, ?_⟩
      exact k D T ((c2, _) :: (c, _) :: (e, _) :: (N2 ++ N ++ [(q, _)])) _ h (by
        have e0 : N2 ++ (N ++ (q, Is (.frz (tupO its) (.tup (nms.map V.str)))) :: (d, Is (.dK (dvS D))) :: (t, Is (.lst (T.map oW))) :: R) = (N2 ++ N ++ [(q, Is (.frz (tupO its) (.tup (nms.map V.str))))]) ++ (d, Is (.dK (dvS D))) :: (t, Is (.lst (T.map oW))) :: R := by simp
        rw [e0] at F7
        exact F7)
    repeat' (first | walk_at "y 1" | walk_at "y if")
    · refine take_ok F4 (by simp [mb]) (by decide) (by decide) fun u H5 u0 u1 F5 => ?_
      repeat' walk_at "y 1"
      exact fin _ _ [] _ _ (by omega) F5
    · refine moment_ok F4 (by simp [mb]) (T := T) (D := D) (by simp) h fun z H5 z0 F5 => ?_
      clear F4
      repeat' walk_at "y 1"
      refine take_ok F5 (by simp [mb]) (by decide) (by decide) fun u H6 u0 u1 F6 => ?_
      clear F5
      repeat' (first | walk_at "y 1" | walk_at "y if")
      · refine wrong_ok F6 (by simp [mb]) fun y N2 H7 hy F7 => ?_
        repeat' walk_at "y 1"
        exact fin _ _ N2 _ _ (by omega) F7
      · exact fin _ _ [] _ _ (by omega) F6
end

end
section
section
variable {a : Cl} {H : Hp} {L R : List Ent} {Q : VK} {E : XK}
theorem flat1 {v : V} : ∀ n : Nat, (List.replicate n [v]).flatten = List.replicate n v
  | 0 => rfl
  | n + 1 => by rw [List.replicate_succ, List.flatten_cons, flat1 n, List.replicate_succ]; rfl
theorem rep_g {H : Hp} {L : List Ent} {l : Addr} {v : V} {n : Int} {Q : VK} (F : FH H L) (m : (l, Is (.lst [v])) ∈ L) (h0 : 0 ≤ n) (h1 : n < 100000) (k : ∀ q H', FH H' ((q, Is (.lst (List.replicate n.toNat v))) :: L) → Q (.ref q) H') : rRep (.ref l) (.int n) H Q := by
  have e63 : (2 : Int) ^ 63 = 9223372036854775808 := by decide
  refine ⟨l, n, [v], rfl, rfl, F.get m, by rw [e63]; omega, by rw [e63]; omega, by rw [sizeLine_eq]; show 1 * n.toNat ≤ _; omega, fun q hq => ?_⟩
  rw [flat1]
  exact k q _ (F.new hq)
theorem dps_strs {S : Sta} {H : Hp} : ∀ l : List Str, DpSs S H (l.map V.str) (l.map PyData.str)
  | [] => .nil
  | x :: l => .cons (.str x) (dps_strs l)
theorem src_tab {S : Sta} {K : PySem.W.Frag} {H : Hp} {p P : Addr} {q : Str} {xs : List V} (st : S = SK K) (h : SqL K H p xs) (ht : H P = some (.tbl #[])) : ∃ L, FH H L ∧ Src S L p xs ∧ (P, TabE q) ∈ L := by
  subst st
  have tabs : (TabE q).s P H [P] := ⟨[], rfl, tabC_nil ht⟩
  rcases h with h | h
  · have ne : P ≠ p := fun e => by
      subst e
      rcases h with h | ⟨o, h⟩ <;> rw [ht] at h <;> cases h
    refine ⟨[(P, TabE q), (p, IsR xs)], ⟨[P] ++ ([p] ++ []), .cons tabs (.cons (p := p) (φ := IsR xs) (k := [p]) ⟨rfl, ?_⟩ .nil (by simp) (fun a _ m => by cases m)) (by simp) fun a m m' => ?_⟩, .rd (by simp), by simp⟩
    · rcases h with h | ⟨o, h⟩
      · exact ⟨_, h, .inl rfl⟩
      · exact ⟨_, h, .inr ⟨o, rfl⟩⟩
    · simp at m m'
      exact ne (m.symm.trans m')
  · exact ⟨[(P, TabE q)], ⟨[P] ++ [], .cons tabs .nil (by simp) (fun a _ m => by cases m)⟩, .st h, by simp⟩
/-- the objects and tables of the law -/
def lawX (a : Cl) (b p0 p1 d0 d1 dx0 dx1 t0 t1 tt pr : Addr) (L : List Ent) (D0 D1 : Dn) (T0 T1 : List (Option Int)) : List Ent := (d0, Is (.dK (dvS D0))) :: (t0, Is (.lst (T0.map oW))) :: (d1, Is (.dK (dvS D1))) :: (t1, Is (.lst (T1.map oW))) :: (tt, Is (.lst [.ref t0, .ref t1])) :: (pr, Is (.lst [.ref p0, .ref p1])) :: (p0, Is (.ins a.c_Alarms dx0 [("times", .ref d0)])) :: (p1, Is (.ins a.c_Alarms dx1 [("times", .ref d1)])) :: (b, Bag) :: L
def lawP (a : Cl) (q b p0 p1 d0 d1 dx0 dx1 t0 t1 tt pr : Addr) (n : Int) (L : List Ent) : L2.St → Hp → Prop := fun σ H => (∃ y5 y6, σ = [some (.ref q), some (.ref b), some (.int (1 + n)), some (.ref pr), some (.ref tt), y5, y6]) ∧ ∃ D0 D1 T0 T1, AlT D0 T0 ∧ AlT D1 T1 ∧ FH H (lawX a b p0 p1 d0 d1 dx0 dx1 t0 t1 tt pr L D0 D1 T0 T1)
section
variable {b p0 p1 d0 d1 dx0 dx1 t0 t1 tt pr q : Addr} {n : Int} {D0 D1 : Dn} {T0 T1 : List (Option Int)}
theorem turn_deed {H : Hp} {N : List Ent} {y5 y6 : Option V} {bk ct : L2.St → Hp → Prop} (h0 : AlT D0 T0) (h1 : AlT D1 T1) (F : FH H (N ++ lawX a b p0 p1 d0 d1 dx0 dx1 t0 t1 tt pr L D0 D1 T0 T1)) : tSeq (tAsg (tCall (sp_take a) [] E (tCons (tVar 1) (tCons (tC (.int 2)) tNil))) (gName 6))
        (tIfS (tNot (tB (tCall (sp_deed a) [] E (tCons (tVar 1) (tCons (tOp (rIx a.S) (tVar 3) (tVar 6)) (tCons (tOp (rIx a.S) (tVar 4) (tVar 6)) tNil)))))) (tRet (tC (.bl false))) tNext) ⟨lawP a q b p0 p1 d0 d1 dx0 dx1 t0 t1 tt pr n L, Q, bk, ct⟩ [some (.ref q), some (.ref b), some (.int (1 + n)), some (.ref pr), some (.ref tt), y5, y6] H := by
  have F0 := F.sub (List.sublist_append_right _ _)
  clear F
  unfold lawX at F0
  repeat' walk_at "y 1"
  refine take_ok F0 (by simp) (by decide) (by decide) fun s H2 s0 s1 F2 => ?_
  clear F0
  rcases (show s = 0 ∨ s = 1 by omega) with rfl | rfl
  · repeat' walk_at "y 1"
    refine deed_ok (D := D0) (T := T0) (d := d0) (t := t0) (dx := dx0) h0 F2 (by simp) (by simp) fun D' T' N' H3 h' F3 => ?_
    clear F2
    repeat' walk_at "y 1"
    exact ⟨⟨_, _, rfl⟩, D', D1, T', T1, h', h1, F3.sub (List.sublist_append_right _ _)⟩
  · repeat' walk_at "y 1"
    have F4 : FH H2 ((d1, Is (.dK (dvS D1))) :: (t1, Is (.lst (T1.map oW))) :: (d0, Is (.dK (dvS D0))) :: (t0, Is (.lst (T0.map oW))) :: (tt, Is (.lst [.ref t0, .ref t1])) :: (pr, Is (.lst [.ref p0, .ref p1])) :: (p0, Is (.ins a.c_Alarms dx0 [("times", .ref d0)])) :: (p1, Is (.ins a.c_Alarms dx1 [("times", .ref d1)])) :: (b, Bag) :: L) := FH.sel F2 (by walk_at "y sel")
    clear F2
    refine deed_ok (D := D1) (T := T1) (d := d1) (t := t1) (dx := dx1) h1 F4 (by simp) (by simp) fun D' T' N' H3 h' F3 => ?_
    clear F4
    have F5 : FH H3 (lawX a b p0 p1 d0 d1 dx0 dx1 t0 t1 tt pr L D0 D' T0 T') := FH.sel (F3.sub (List.sublist_append_right _ _)) (by unfold lawX; walk_at "y sel")
    repeat' walk_at "y 1"
    exact ⟨⟨_, _, rfl⟩, D0, D', T0, T', h0, h', F5⟩
theorem turn_asks {H : Hp} {N : List Ent} (h0 : AlT D0 T0) (h1 : AlT D1 T1) (mt : (a.tb_Alarms_due, TabE qnD) ∈ L) (F : FH H (N ++ lawX a b p0 p1 d0 d1 dx0 dx1 t0 t1 tt pr L D0 D1 T0 T1)) : (∀ Q E, (∀ N H', FH H' (N ++ lawX a b p0 p1 d0 d1 dx0 dx1 t0 t1 tt pr L D0 D1 T0 T1) → Q (.bl true) H') → sp_agrees a [.ref p0, .ref t0] H Q E) ∧ (∀ Q E, (∀ N H', FH H' (N ++ lawX a b p0 p1 d0 d1 dx0 dx1 t0 t1 tt pr L D0 D1 T0 T1) → Q (.bl true) H') → sp_agrees a [.ref p1, .ref t1] H Q E) := by
  refine ⟨fun Q E k => ?_, fun Q E k => ?_⟩
  · exact agrees_ok (D := D0) (T := T0) (d := d0) (dx := dx0) h0 F (by simp [lawX, mt]) (by simp [lawX]) (by simp [lawX]) (by simp [lawX]) fun N2 H' F' => k (N2 ++ N) H' (by rw [List.append_assoc]; exact F')
  · exact agrees_ok (D := D1) (T := T1) (d := d1) (dx := dx1) h1 F (by simp [lawX, mt]) (by simp [lawX]) (by simp [lawX]) (by simp [lawX]) fun N2 H' F' => k (N2 ++ N) H' (by rw [List.append_assoc]; exact F')
theorem turn_both {H : Hp} {N : List Ent} {y5 y6 : Option V} {nx bk ct : L2.St → Hp → Prop} (h0 : AlT D0 T0) (h1 : AlT D1 T1) (mt : (a.tb_Alarms_due, TabE qnD) ∈ L) (F : FH H (N ++ lawX a b p0 p1 d0 d1 dx0 dx1 t0 t1 tt pr L D0 D1 T0 T1))
    (k : ∀ N H', FH H' (N ++ lawX a b p0 p1 d0 d1 dx0 dx1 t0 t1 tt pr L D0 D1 T0 T1) → nx [some (.ref q), some (.ref b), some (.int (1 + n)), some (.ref pr), some (.ref tt), y5, y6] H') :
    tIfS (tOr (tNot (tB (tCall (sp_agrees a) [] E (tCons (tOp (rIx a.S) (tVar 3) (tC (.int 0))) (tCons (tOp (rIx a.S) (tVar 4) (tC (.int 0))) tNil))))) (tNot (tB (tCall (sp_agrees a) [] E (tCons (tOp (rIx a.S) (tVar 3) (tC (.int 1))) (tCons (tOp (rIx a.S) (tVar 4) (tC (.int 1))) tNil)))))) (tRet (tC (.bl false))) tNext ⟨nx, Q, bk, ct⟩ [some (.ref q), some (.ref b), some (.int (1 + n)), some (.ref pr), some (.ref tt), y5, y6] H := by
  have mm : ∀ N, (tt, Is (.lst [.ref t0, .ref t1])) ∈ N ++ lawX a b p0 p1 d0 d1 dx0 dx1 t0 t1 tt pr L D0 D1 T0 T1 ∧ (pr, Is (.lst [.ref p0, .ref p1])) ∈ N ++ lawX a b p0 p1 d0 d1 dx0 dx1 t0 t1 tt pr L D0 D1 T0 T1 := fun N => by simp [lawX]
  haveI i1 : ∀ N, Mm (tt, Is (.lst [.ref t0, .ref t1])) (N ++ lawX a b p0 p1 d0 d1 dx0 dx1 t0 t1 tt pr L D0 D1 T0 T1) := fun N => ⟨(mm N).1⟩
  haveI i2 : ∀ N, Mm (pr, Is (.lst [.ref p0, .ref p1])) (N ++ lawX a b p0 p1 d0 d1 dx0 dx1 t0 t1 tt pr L D0 D1 T0 T1) := fun N => ⟨(mm N).2⟩
  repeat' walk_at "y 1"
  refine (turn_asks h0 h1 mt F).1 _ _ fun N1 H1 F1 => ?_
  clear F
  repeat' walk_at "y 1"
  refine (turn_asks h0 h1 mt F1).2 _ _ fun N2 H2 F2 => ?_
  clear F1
  repeat' walk_at "y 1"
  exact k N2 H2 F2
theorem turn_ends {H : Hp} {y5 y6 : Option V} {D : Ends} (h0 : AlT D0 T0) (h1 : AlT D1 T1) (mt : (a.tb_Alarms_due, TabE qnD) ∈ L) (F : FH H (lawX a b p0 p1 d0 d1 dx0 dx1 t0 t1 tt pr L D0 D1 T0 T1)) (k : ∀ H', D.rt (.bl true) H') :
    tRet (tAndV (tCall (sp_agrees a) [] E (tCons (tOp (rIx a.S) (tVar 3) (tC (.int 0))) (tCons (tOp (rIx a.S) (tVar 4) (tC (.int 0))) tNil))) (tCall (sp_agrees a) [] E (tCons (tOp (rIx a.S) (tVar 3) (tC (.int 1))) (tCons (tOp (rIx a.S) (tVar 4) (tC (.int 1))) tNil)))) D [some (.ref q), some (.ref b), some (.int (1 + n)), some (.ref pr), some (.ref tt), y5, y6] H := by
  have mm : ∀ N, (tt, Is (.lst [.ref t0, .ref t1])) ∈ N ++ lawX a b p0 p1 d0 d1 dx0 dx1 t0 t1 tt pr L D0 D1 T0 T1 ∧ (pr, Is (.lst [.ref p0, .ref p1])) ∈ N ++ lawX a b p0 p1 d0 d1 dx0 dx1 t0 t1 tt pr L D0 D1 T0 T1 := fun N => by simp [lawX]
  haveI i1 : ∀ N, Mm (tt, Is (.lst [.ref t0, .ref t1])) (N ++ lawX a b p0 p1 d0 d1 dx0 dx1 t0 t1 tt pr L D0 D1 T0 T1) := fun N => ⟨(mm N).1⟩
  haveI i2 : ∀ N, Mm (pr, Is (.lst [.ref p0, .ref p1])) (N ++ lawX a b p0 p1 d0 d1 dx0 dx1 t0 t1 tt pr L D0 D1 T0 T1) := fun N => ⟨(mm N).2⟩
  have F := show FH H ([] ++ lawX a b p0 p1 d0 d1 dx0 dx1 t0 t1 tt pr L D0 D1 T0 T1) from F
  cases D with
  | mk nx rt bk ct =>
    repeat' walk_at "y 1"
    refine (turn_asks h0 h1 mt F).1 _ _ fun N1 H1 F1 => ?_
    clear F
    repeat' walk_at "y 1"
    refine (turn_asks h0 h1 mt F1).2 _ _ fun N2 H2 F2 => ?_
    clear F1
    exact k H2
end
theorem law_ok {q : Addr} {ns : List Int} (F : FH H L) (m : Src a.S L q (ns.map V.int)) (hl : ns.length ≤ 63) (mt : (a.tb_Alarms_due, TabE qnD) ∈ L) (k : ∀ H', Q (.bl true) H') : sp_law a [.ref q] H Q E := by
  refine in_law ?_
  repeat' walk_at "y 1"
  refine bag_ok F m hl fun b H1 F1 => ?_
  clear F
  repeat' walk_at "y 1"
  refine take_ok F1 List.mem_cons_self (by decide) (by decide) fun n H2 n0 n1 F2 => ?_
  clear F1
  haveI : StT a.S a.g_ALARMS (nms.map V.str) := ⟨a.hg_ALARMS⟩
  repeat' walk_at "y 1"
  refine names_ok F2 fun z its H3 F3 => ?_
  clear F2
  repeat' walk_at "y 1"
  have sh : SeqAt.shaped (.tuple (nms.map PyData.str)) = true := by decide +kernel
  have eq : PyData.eqv (.tuple (nms.map PyData.str)) (.tuple (nms.map PyData.str)) = true := by decide +kernel
  refine .inr ⟨_, _, .tup (.inr a.hg_ALARMS) (dps_strs nms), .tup (.inl (.inr ⟨_, F3.get List.mem_cons_self⟩)) (dps_strs nms), sh, sh, ?_⟩
  rw [eq]
  repeat' walk_at "y 1"
  rename_i p0 dx0 H4 F4
  clear F3
  refine init_ok F4 fun d0 H5 F5 => ⟨rfl, ?_⟩
  clear F4
  repeat' walk_at "y 1"
  rename_i p1 dx1 H6 F6
  clear F5
  refine init_ok F6 fun d1 H7 F7 => ⟨rfl, ?_⟩
  clear F6
  repeat' walk_at "y 1"
  rename_i pr H8 _ F8 e0 H9 _ F9
  clear F7 F8
  refine rep_g F9 (v := .non) Mm.m (by decide) (by decide) fun t0 Ha Fa => ?_
  clear F9
  repeat' walk_at "y 1"
  rename_i e1 Hb _ Fb
  clear Fa
  refine rep_g Fb (v := .non) Mm.m (by decide) (by decide) fun t1 Hc Fc => ?_
  clear Fb
  repeat' walk_at "y 1"
  rename_i tt Hd _ Fd
  clear Fc
  have Fe : FH Hd (lawX a b p0 p1 d0 d1 dx0 dx1 t0 t1 tt pr L [] [] [none, none, none, none, none, none] [none, none, none, none, none, none]) := FH.sel Fd (by
    show Sel ((d0, Is (.dK (dvS []))) :: (t0, Is (.lst (List.replicate 6 .non))) :: (d1, Is (.dK (dvS []))) :: (t1, Is (.lst (List.replicate 6 .non))) :: (tt, Is (.lst [.ref t0, .ref t1])) :: (pr, Is (.lst [.ref p0, .ref p1])) :: (p0, Is (.ins a.c_Alarms dx0 [("times", .ref d0)])) :: (p1, Is (.ins a.c_Alarms dx1 [("times", .ref d1)])) :: (b, Bag) :: L) _
    walk_at "y sel")
  clear Fd
  refine forG (j := 1 + n) (fun i => lawP a q b p0 p1 d0 d1 dx0 dx1 t0 t1 tt pr n L) (by omega) (by omega) ⟨⟨_, _, rfl⟩, _, _, _, _, AlT.new, AlT.new, Fe⟩ ?_ ?_
  · clear Fe
    intro i σ H hi ⟨⟨y5, y6, e⟩, D0, D1, T0, T1, h0, h1, F⟩
    subst e
    repeat' walk_at "y 1"
    by_cases hi0 : (i : Int) = 0
    · rw [decide_eq_true hi0, if_pos rfl, if_pos rfl]
      refine turn_both (N := []) h0 h1 mt F fun N1 H1 F1 => ?_
      exact turn_deed h0 h1 F1
    · rw [decide_eq_false hi0, if_neg (by decide)]
      repeat' walk_at "y 1"
      refine take_ok F (by simp [lawX]) (by decide) (by decide) fun s H2 s0 s1 F2 => ?_
      clear F
      repeat' walk_at "y 1"
      by_cases hs : 0 < s
      · rw [decide_eq_true hs, if_pos rfl]
        refine turn_both (N := []) h0 h1 mt F2 fun N1 H1 F1 => ?_
        exact turn_deed h0 h1 F1
      · rw [decide_eq_false hs, if_neg (by decide)]
        exact turn_deed (N := []) h0 h1 F2
  · intro σ H ⟨⟨y5, y6, e⟩, D0, D1, T0, T1, h0, h1, F⟩
    subst e
    exact turn_ends h0 h1 mt F k
theorem law_holds (a : Cl) {K : PySem.W.Frag} (st : a.S = SK K) (vs : List V) (H : Hp) (Q : VK) (E : XK) (h : ∃ (p : Addr) (ns : List Int), vs = [.ref p] ∧ SqL K H p (ns.map V.int) ∧ ns.length ≤ 63 ∧ H a.tb_Alarms_due = some (.tbl #[]) ∧ ∀ H', Q (.bl true) H') : sp_law a vs H Q E := by
  obtain ⟨p, ns, rfl, hS, hl, hO, k⟩ := h
  obtain ⟨L, F, m, mt⟩ := src_tab (q := qnD) st hS hO
  exact law_ok F m hl mt k
end

end
/-! ### the text, by places -/
abbrev top (i : Nat) : Stmt := PySem.Challenge.pw_lossway_k17_alarms_history.main.body.getD i (.Pass ⟨0, 0, 0, 0⟩)
structure Ad extends Cl where
  f_bag : Addr
  d_bag : FuncData
  f_take : Addr
  d_take : FuncData
  f_names : Addr
  d_names : FuncData
  f_Alarms___init__ : Addr
  d_Alarms___init__ : FuncData
  f_is_alarm : Addr
  d_is_alarm : FuncData
  f_Alarms_when : Addr
  d_Alarms_when : FuncData
  f_Alarms___contains__ : Addr
  d_Alarms___contains__ : FuncData
  f_whole : Addr
  d_whole : FuncData
  f_Alarms_soonest : Addr
  d_Alarms_soonest : FuncData
  f_Alarms___len__ : Addr
  d_Alarms___len__ : FuncData
  f_set : Addr
  d_set : FuncData
  f_greater : Addr
  d_greater : FuncData
  f_Alarms_due : Addr
  d_Alarms_due : FuncData
  f_in_order : Addr
  d_in_order : FuncData
  f_due : Addr
  d_due : FuncData
  f_agrees : Addr
  d_agrees : FuncData
  f_moment : Addr
  d_moment : FuncData
  f_is_whole : Addr
  d_is_whole : FuncData
  f_Alarms_arm : Addr
  d_Alarms_arm : FuncData
  f_Alarms_disarm : Addr
  d_Alarms_disarm : FuncData
  f_call : Addr
  d_call : FuncData
  f_far : Addr
  d_far : FuncData
  f_wrong : Addr
  d_wrong : FuncData
  f_same : Addr
  d_same : FuncData
  f_stranger : Addr
  d_stranger : FuncData
  f_deed : Addr
  d_deed : FuncData
  f_law : Addr
  d_law : FuncData
  f_InvalidSetting___init__ : Addr
  d_InvalidSetting___init__ : FuncData
  f_InvalidNumber___init__ : Addr
  d_InvalidNumber___init__ : FuncData
  kc_Alarms_due : Addr
structure Txt (P : Program) (K : PySem.W.Frag) (mg : Str → Option Value) (a : Ad) : Prop where
  st : a.S = SK K
  no_abs : mg "abs" = none
  no_int : mg "int" = none
  no_sum : mg "sum" = none
  mg_bag : mg "_law_bag" = some (.ref a.f_bag)
  bd_bag : Binds K a.d_bag ["_law_script"] []
  fn_bag : Fun K "_law_bag" "_law_bag" (top 12) a.f_bag a.d_bag
  no_len : mg "len" = none
  mg_take : mg "_law_take" = some (.ref a.f_take)
  bd_take : Binds K a.d_take ["_law_bag_here", "_law_many"] []
  fn_take : Fun K "_law_take" "_law_take" (top 13) a.f_take a.d_take
  no_isinstance : mg "isinstance" = none
  no_tuple : mg "tuple" = none
  mg_ALARMS : mg "ALARMS" = some (.ref a.g_ALARMS)
  mg_names : mg "_law_names" = some (.ref a.f_names)
  bd_names : Binds K a.d_names [] []
  fn_names : Fun K "_law_names" "_law_names" (top 15) a.f_names a.d_names
  cl_Alarms : Cls K a.c_Alarms
  na_Alarms_times : NoAttr K a.c_Alarms "times"
  mk_Alarms : Mk K a.c_Alarms a.f_Alarms___init__
  mg_Alarms : mg "Alarms" = some (.ref a.c_Alarms)
  bd_Alarms___init__ : Binds K a.d_Alarms___init__ ["self"] []
  no_range : mg "range" = none
  no_str : mg "str" = none
  mg_is_alarm : mg "is_alarm" = some (.ref a.f_is_alarm)
  bd_is_alarm : Binds K a.d_is_alarm ["name"] []
  fn_is_alarm : Fun K "is_alarm" "is_alarm" (top 8) a.f_is_alarm a.d_is_alarm
  oe_InvalidSetting : OexC K a.c_InvalidSetting
  ii_InvalidSetting_InvalidSetting : PySem.W.findIn K (.ref a.c_InvalidSetting) "__init__" = some (some (.ref a.f_InvalidSetting___init__))
  it_InvalidSetting : PySem.W.typeIn K (.ref a.f_InvalidSetting___init__) = some (.type "function")
  mg_InvalidSetting : mg "InvalidSetting" = some (.ref a.c_InvalidSetting)
  be_InvalidSetting : Binds K a.d_InvalidSetting___init__ ["self", "setting"] []
  mt_Alarms_when : Meth K a.c_Alarms "when" a.f_Alarms_when
  bd_Alarms_when : Binds K a.d_Alarms_when ["self", "name"] []
  mt_Alarms___contains__ : Meth K a.c_Alarms "__contains__" a.f_Alarms___contains__
  bd_Alarms___contains__ : Binds K a.d_Alarms___contains__ ["self", "name"] []
  no_bool : mg "bool" = none
  mg_whole : mg "_law_whole" = some (.ref a.f_whole)
  bd_whole : Binds K a.d_whole ["_law_value"] []
  fn_whole : Fun K "_law_whole" "_law_whole" (top 11) a.f_whole a.d_whole
  no_list : mg "list" = none
  no_min : mg "min" = none
  mt_Alarms_soonest : Meth K a.c_Alarms "soonest" a.f_Alarms_soonest
  bd_Alarms_soonest : Binds K a.d_Alarms_soonest ["self"] []
  mt_Alarms___len__ : Meth K a.c_Alarms "__len__" a.f_Alarms___len__
  bd_Alarms___len__ : Binds K a.d_Alarms___len__ ["self"] []
  no_all : mg "all" = none
  mg_set : mg "_law_set" = some (.ref a.f_set)
  bd_set : Binds K a.d_set ["_law_alarms", "_law_table"] []
  fn_set : Fun K "_law_set" "_law_set" (top 25) a.f_set a.d_set
  mg_greater : mg "_law_greater" = some (.ref a.f_greater)
  bd_greater : Binds K a.d_greater ["_law_one", "_law_two"] []
  fn_greater : Fun K "_law_greater" "_law_greater" (top 14) a.f_greater a.d_greater
  no_sorted : mg "sorted" = none
  mt_Alarms_due : Meth K a.c_Alarms "due" a.f_Alarms_due
  bd_Alarms_due : Binds K a.d_Alarms_due ["self", "now"] []
  mg_in_order : mg "_law_in_order" = some (.ref a.f_in_order)
  bd_in_order : Binds K a.d_in_order ["_law_told", "_law_table", "_law_now"] []
  fn_in_order : Fun K "_law_in_order" "_law_in_order" (top 23) a.f_in_order a.d_in_order
  mg_due : mg "_law_due" = some (.ref a.f_due)
  bd_due : Binds K a.d_due ["_law_alarms", "_law_table", "_law_now"] []
  fn_due : Fun K "_law_due" "_law_due" (top 24) a.f_due a.d_due
  mg_agrees : mg "_law_agrees" = some (.ref a.f_agrees)
  bd_agrees : Binds K a.d_agrees ["_law_alarms", "_law_table"] []
  fn_agrees : Fun K "_law_agrees" "_law_agrees" (top 26) a.f_agrees a.d_agrees
  mg_moment : mg "_law_moment" = some (.ref a.f_moment)
  bd_moment : Binds K a.d_moment ["_law_bag_here", "_law_table"] []
  fn_moment : Fun K "_law_moment" "_law_moment" (top 20) a.f_moment a.d_moment
  ex_InvalidNumber_LossError : PySem.W.exmOne K (.ref a.c_InvalidNumber) (.ref a.c_LossError) = some true
  ex_InvalidSetting_LossError : PySem.W.exmOne K (.ref a.c_InvalidSetting) (.ref a.c_LossError) = some true
  mg_is_whole : mg "is_whole" = some (.ref a.f_is_whole)
  bd_is_whole : Binds K a.d_is_whole ["value"] []
  fn_is_whole : Fun K "is_whole" "is_whole" (top 5) a.f_is_whole a.d_is_whole
  oe_InvalidNumber : OexC K a.c_InvalidNumber
  ii_InvalidNumber_InvalidNumber : PySem.W.findIn K (.ref a.c_InvalidNumber) "__init__" = some (some (.ref a.f_InvalidNumber___init__))
  it_InvalidNumber : PySem.W.typeIn K (.ref a.f_InvalidNumber___init__) = some (.type "function")
  mg_InvalidNumber : mg "InvalidNumber" = some (.ref a.c_InvalidNumber)
  be_InvalidNumber : Binds K a.d_InvalidNumber___init__ ["self", "number"] []
  mt_Alarms_arm : Meth K a.c_Alarms "arm" a.f_Alarms_arm
  bd_Alarms_arm : Binds K a.d_Alarms_arm ["self", "name", "when"] []
  mt_Alarms_disarm : Meth K a.c_Alarms "disarm" a.f_Alarms_disarm
  bd_Alarms_disarm : Binds K a.d_Alarms_disarm ["self", "name"] []
  is_InvalidNumber_InvalidSetting : IsOk K (.ref a.c_InvalidNumber) (.ref a.c_InvalidSetting) false
  is_InvalidSetting_InvalidSetting : IsOk K (.ref a.c_InvalidSetting) (.ref a.c_InvalidSetting) true
  is_InvalidNumber_ValueError : IsOk K (.ref a.c_InvalidNumber) (.ty "ValueError") true
  is_InvalidSetting_ValueError : IsOk K (.ref a.c_InvalidSetting) (.ty "ValueError") true
  no_ValueError : mg "ValueError" = none
  is_InvalidNumber_InvalidNumber : IsOk K (.ref a.c_InvalidNumber) (.ref a.c_InvalidNumber) true
  is_InvalidSetting_InvalidNumber : IsOk K (.ref a.c_InvalidSetting) (.ref a.c_InvalidNumber) false
  xf_InvalidSetting_setting : XfOk K a.c_InvalidSetting "setting"
  xf_InvalidNumber_number : XfOk K a.c_InvalidNumber "number"
  mg_LossError : mg "LossError" = some (.ref a.c_LossError)
  mg_call : mg "_law_call" = some (.ref a.f_call)
  bd_call : Binds K a.d_call ["_law_alarms", "_law_deed_here", "_law_name", "_law_moment_here"] []
  fn_call : Fun K "_law_call" "_law_call" (top 21) a.f_call a.d_call
  mg_far : mg "_law_far" = some (.ref a.f_far)
  bd_far : Binds K a.d_far ["_law_bag_here"] []
  fn_far : Fun K "_law_far" "_law_far" (top 16) a.f_far a.d_far
  mg_wrong : mg "_law_wrong" = some (.ref a.f_wrong)
  bd_wrong : Binds K a.d_wrong ["_law_bag_here"] []
  fn_wrong : Fun K "_law_wrong" "_law_wrong" (top 19) a.f_wrong a.d_wrong
  mg_same : mg "_law_same" = some (.ref a.f_same)
  bd_same : Binds K a.d_same ["_law_told", "_law_due_here"] []
  fn_same : Fun K "_law_same" "_law_same" (top 17) a.f_same a.d_same
  mg_stranger : mg "_law_stranger" = some (.ref a.f_stranger)
  bd_stranger : Binds K a.d_stranger ["_law_bag_here"] []
  fn_stranger : Fun K "_law_stranger" "_law_stranger" (top 18) a.f_stranger a.d_stranger
  mg_deed : mg "_law_deed" = some (.ref a.f_deed)
  bd_deed : Binds K a.d_deed ["_law_bag_here", "_law_alarms", "_law_table"] []
  fn_deed : Fun K "_law_deed" "_law_deed" (top 22) a.f_deed a.d_deed
  fn_Alarms___init__ : Fun K "__init__" "Alarms.__init__" (inClass (top 9) 0) a.f_Alarms___init__ a.d_Alarms___init__
  fn_Alarms_when : Fun K "when" "Alarms.when" (inClass (top 9) 3) a.f_Alarms_when a.d_Alarms_when
  fn_Alarms___contains__ : Fun K "__contains__" "Alarms.__contains__" (inClass (top 9) 6) a.f_Alarms___contains__ a.d_Alarms___contains__
  fn_Alarms_soonest : Fun K "soonest" "Alarms.soonest" (inClass (top 9) 5) a.f_Alarms_soonest a.d_Alarms_soonest
  fn_Alarms___len__ : Fun K "__len__" "Alarms.__len__" (inClass (top 9) 7) a.f_Alarms___len__ a.d_Alarms___len__
  fn_Alarms_due : FunT K "due" "Alarms.due" (inClass (top 9) 4) a.f_Alarms_due a.d_Alarms_due a.kc_Alarms_due
  fn_Alarms_arm : Fun K "arm" "Alarms.arm" (inClass (top 9) 1) a.f_Alarms_arm a.d_Alarms_arm
  fn_Alarms_disarm : Fun K "disarm" "Alarms.disarm" (inClass (top 9) 2) a.f_Alarms_disarm a.d_Alarms_disarm
  fn_law : Fun K "law" "law" (top 27) a.f_law a.d_law
  bd_law : Binds K a.d_law ["_law_script"] []
  mg_law : mg "law" = some (.ref a.f_law)
  fs_InvalidSetting : FunS P K "__init__" "InvalidSetting.__init__" (inClass (top 3) 0) a.f_InvalidSetting___init__ a.d_InvalidSetting___init__ a.c_InvalidSetting
  sv_InvalidSetting_InvalidSetting : SupV K a.c_InvalidSetting a.c_InvalidSetting
  nf_InvalidSetting_setting : PySem.W.findIn K (.ref a.c_InvalidSetting) "setting" = some none
  fs_InvalidNumber : FunS P K "__init__" "InvalidNumber.__init__" (inClass (top 2) 0) a.f_InvalidNumber___init__ a.d_InvalidNumber___init__ a.c_InvalidNumber
  sv_InvalidNumber_InvalidNumber : SupV K a.c_InvalidNumber a.c_InvalidNumber
  nf_InvalidNumber_number : PySem.W.findIn K (.ref a.c_InvalidNumber) "number" = some none
  no_super : mg "super" = none
  sup_top : (P.main.scope.names.lookup ("super" : Str)).isSome = false
class TabBC (base : Heap) (mg : Str → Option Value) (a : Ad) : Prop where
  tab : LamX.TabB base mg a.kc_Alarms_due a.tb_Alarms_due
section
variable {P : Program} {w : World} {K : PySem.W.Frag} {mg : Str → Option Value} {base : Heap} {a : Ad} [tb : TabBC base mg a]
theorem se_InvalidSetting : FnScS ["self", "setting"] ["self", "setting"] (defScope (inClass (top 3) 0)) := ⟨rfl, rfl, rfl, by decide +kernel, rfl, by decide +kernel, by decide +kernel, by decide +kernel⟩
theorem ok_InvalidSetting___init__ (T : Txt P K mg a) : FnOk P w K mg base (L2.CX P w) 1 a.f_InvalidSetting___init__ a.d_InvalidSetting___init__ ["self", "setting"] (spEx [a.c_InvalidSetting] ["setting"]) :=
  T.fs_InvalidSetting.ok se_InvalidSetting rfl rfl rfl rfl rfl T.sup_top T.no_super (fun vs H Q E q => show vs.length = 2 from spEx_len (fs := ["setting"]) vs H Q E q) fun cdv cc A outer s H vs Q E hr T1 q =>
    ⟨_, pssa_cons (psa_supV T1 (pa_cons pe_str pa_nil)) (pssa_one (psa_of (ps_ost (pv 0) (pv 1)))), ex1 (m := "the setting is invalid or unknown") (all_cons (p := fun C => SupV K C a.c_InvalidSetting ∧ PySem.W.findIn K (.ref C) "setting" = some none) ⟨T.sv_InvalidSetting_InvalidSetting, T.nf_InvalidSetting_setting⟩ (all_nil)) q⟩
theorem se_InvalidNumber : FnScS ["self", "number"] ["self", "number"] (defScope (inClass (top 2) 0)) := ⟨rfl, rfl, rfl, by decide +kernel, rfl, by decide +kernel, by decide +kernel, by decide +kernel⟩
theorem ok_InvalidNumber___init__ (T : Txt P K mg a) : FnOk P w K mg base (L2.CX P w) 1 a.f_InvalidNumber___init__ a.d_InvalidNumber___init__ ["self", "number"] (spEx [a.c_InvalidNumber] ["number"]) :=
  T.fs_InvalidNumber.ok se_InvalidNumber rfl rfl rfl rfl rfl T.sup_top T.no_super (fun vs H Q E q => show vs.length = 2 from spEx_len (fs := ["number"]) vs H Q E q) fun cdv cc A outer s H vs Q E hr T1 q =>
    ⟨_, pssa_cons (psa_supV T1 (pa_cons pe_str pa_nil)) (pssa_one (psa_of (ps_ost (pv 0) (pv 1)))), ex1 (m := "the number, or another argument, is invalid") (all_cons (p := fun C => SupV K C a.c_InvalidNumber ∧ PySem.W.findIn K (.ref C) "number" = some none) ⟨T.sv_InvalidNumber_InvalidNumber, T.nf_InvalidNumber_number⟩ (all_nil)) q⟩
abbrev nm_bag : List Str := ["_law_script", "_law_great", "_law_cell", "_law_cells"]
theorem sc_bag : FnScope nm_bag ["_law_script"] (defScope (top 12)) := ⟨rfl, rfl, rfl, by decide +kernel, rfl, by decide +kernel, by decide +kernel⟩
theorem ok_bag (T : Txt P K mg a) : FnOk P w K mg base (L2.CX P w) 1 a.f_bag a.d_bag ["_law_script"] (sp_bag a.toCl) := by
  refine ok_body T.fn_bag sc_bag rfl rfl fun cdv A outer s H E hr => ?_
  exact (pss_cons (ps_lcSeq (i := 1) (own := [("_law_cell", 2)]) T.st rfl sc_bag.nd rfl rfl (sw_true rfl rfl rfl (by decide +kernel)) (pv 0) (blkOk_by (own := [("_law_cell", 2)]) (N := nm_bag) (sc := defScope (top 12)) (by decide +kernel)) ⟨fun _ _ _ _ _ => (pg_name (i := 2) sc_bag.nd rfl (by first | exact Or.inl rfl | exact Or.inr rfl)), fun _ _ _ _ _ => (pts_one (pt_cmpR o_ge (pe_callB c_abs (by rfl) T.no_abs (by decide +kernel) (pa_cons (pv 2) pa_nil)) (pe_op o_pow pe_int pe_int) (nomark _))), fun _ _ _ _ _ => (pe_callB c_abs (by rfl) T.no_abs (by decide +kernel) (pa_cons (pv 2) pa_nil))⟩)
    (pss_cons (ps_lcSeq (i := 3) (own := [("_law_cell", 2)]) T.st rfl sc_bag.nd rfl rfl (sw_true rfl rfl rfl (by decide +kernel)) (pv 0) (blkOk_by (own := [("_law_cell", 2)]) (N := nm_bag) (sc := defScope (top 12)) (by decide +kernel)) ⟨fun _ _ _ _ _ => (pg_name (i := 2) sc_bag.nd rfl (by first | exact Or.inl rfl | exact Or.inr rfl)), fun _ _ _ _ _ => pts_nil, fun _ _ _ _ _ => (pe_op o_mod (pe_callTy c_int (by rfl) T.no_int (by decide +kernel) (pa_cons (pv 2) pa_nil)) pe_int)⟩)
    (pss_one (ps_ret (pe_lst (pa_cons (pv 1) (pa_cons (pv 3) (pa_cons pe_int (pa_cons (pe_op o_mod (pe_callTy c_int (by rfl) T.no_int (by decide +kernel) (pa_cons (pe_callB (c_sum T.st rfl) (by rfl) T.no_sum (by decide +kernel) (pa_cons (pv 3) pa_nil)) pa_nil)) pe_int) pa_nil)))))))))
abbrev nm_take : List Str := ["_law_bag_here", "_law_many", "_law_left", "_law_cell", "_law_one", "_law_two"]
theorem sc_take : FnScope nm_take ["_law_bag_here", "_law_many"] (defScope (top 13)) := ⟨rfl, rfl, rfl, by decide +kernel, rfl, by decide +kernel, by decide +kernel⟩
theorem ok_take (T : Txt P K mg a) : FnOk P w K mg base (L2.CX P w) 1 a.f_take a.d_take ["_law_bag_here", "_law_many"] (sp_take a.toCl) := by
  refine ok_body T.fn_take sc_take rfl rfl fun cdv A outer s H E hr => ?_
  exact (pss_cons (ps_asg (pe_op o_add (pe_ix (o_ix T.st) (pv 0) pe_int (fun _ _ => rfl)) pe_int) (pg_sub (pv 0) pe_int set_list))
    (pss_cons (ps_if (pt_cmpR (o_neP T.st hr.units) (pe_ix (o_ix T.st) (pv 0) pe_int (fun _ _ => rfl)) (pe_lst pa_nil) (nomark _)) (pss_cons (ps_set (i := 2) sc_take.nd rfl (by first | exact Or.inl rfl | exact Or.inr rfl) (pe_ix (o_ix T.st) (pe_ix (o_ix T.st) (pv 0) pe_int (fun _ _ => rfl)) pe_int (fun _ _ => rfl)))
    (pss_cons (ps_if (pt_cmpR o_ge (pv 2) (pv 1) (nomark _)) (pss_one (ps_asg (pe_op o_add (pe_lst (pa_cons (pe_op o_fdiv (pv 2) (pv 1)) pa_nil)) (pe_slice (o_sl T.st) (pe_ix (o_ix T.st) (pv 0) pe_int (fun _ _ => rfl)) (po_some pe_int) po_none)) (pg_sub (pv 0) pe_int set_list))) (pss_one (ps_asg (pe_slice (o_sl T.st) (pe_ix (o_ix T.st) (pv 0) pe_int (fun _ _ => rfl)) (po_some pe_int) po_none) (pg_sub (pv 0) pe_int set_list))))
    (pss_one (ps_ret (pe_op o_mod (pe_callTy c_int (by rfl) T.no_int (by decide +kernel) (pa_cons (pv 2) pa_nil)) (pv 1)))))) pss_nil)
    (pss_cons (ps_if (pt_cmpR (o_eqP T.st hr.units) (pe_ix (o_ix T.st) (pv 0) pe_int (fun _ _ => rfl)) (pe_lst pa_nil) (nomark _)) (pss_one (ps_ret (pe_op o_mod (pe_callTy c_int (by rfl) T.no_int (by decide +kernel) (pa_cons (pe_ix (o_ix T.st) (pv 0) pe_int (fun _ _ => rfl)) pa_nil)) (pv 1)))) pss_nil)
    (pss_cons (ps_set (i := 3) sc_take.nd rfl (by first | exact Or.inl rfl | exact Or.inr rfl) (pe_ix (o_ix T.st) (pe_ix (o_ix T.st) (pv 0) pe_int (fun _ _ => rfl)) (pe_op o_mod (pe_callTy c_int (by rfl) T.no_int (by decide +kernel) (pa_cons (pe_ix (o_ix T.st) (pv 0) pe_int (fun _ _ => rfl)) pa_nil)) (pe_callB (c_len T.st) (by rfl) T.no_len (by decide +kernel) (pa_cons (pe_ix (o_ix T.st) (pv 0) pe_int (fun _ _ => rfl)) pa_nil))) (fun _ _ => rfl)))
    (pss_cons (ps_set (i := 4) sc_take.nd rfl (by first | exact Or.inl rfl | exact Or.inr rfl) (pe_op o_mod (pe_callTy c_int (by rfl) T.no_int (by decide +kernel) (pa_cons (pe_op o_add (pe_op o_add (pe_op o_add (pe_op o_mul (pv 3) pe_int) (pe_op o_mul (pe_ix (o_ix T.st) (pv 0) pe_int (fun _ _ => rfl)) pe_int)) (pe_op o_mul (pe_ix (o_ix T.st) (pv 0) pe_int (fun _ _ => rfl)) pe_int)) pe_int) pa_nil)) pe_int))
    (pss_cons (ps_set (i := 5) sc_take.nd rfl (by first | exact Or.inl rfl | exact Or.inr rfl) (pe_op o_mod (pe_callTy c_int (by rfl) T.no_int (by decide +kernel) (pa_cons (pe_op o_add (pe_op o_add (pe_op o_fdiv (pe_op o_mul (pv 4) (pv 4)) pe_int) (pe_op o_mul (pv 4) pe_int)) (pe_op o_mul (pe_ix (o_ix T.st) (pv 0) pe_int (fun _ _ => rfl)) pe_int)) pa_nil)) pe_int))
    (pss_one (ps_ret (pe_op o_mod (pe_callTy c_int (by rfl) T.no_int (by decide +kernel) (pa_cons (pe_op o_fdiv (pe_op o_add (pe_op o_mul (pv 4) pe_int) (pv 5)) pe_int) pa_nil)) (pv 1))))))))))
abbrev nm_names : List Str := []
theorem sc_names : FnScope nm_names [] (defScope (top 15)) := ⟨rfl, rfl, rfl, by decide +kernel, rfl, by decide +kernel, by decide +kernel⟩
theorem ok_names (T : Txt P K mg a) : FnOk P w K mg base (L2.CX P w) 1 a.f_names a.d_names [] (sp_names a.toCl) := by
  refine ok_body T.fn_names sc_names rfl rfl fun cdv A outer s H E hr => ?_
  exact (pss_one (ps_ret (pe_tupZ (pa_cons pe_str (pa_cons pe_str (pa_cons pe_str (pa_cons pe_str (pa_cons pe_str (pa_cons pe_str pa_nil)))))))))
abbrev nm_Alarms___init__ : List Str := ["self"]
theorem sc_Alarms___init__ : FnScope nm_Alarms___init__ ["self"] (defScope (inClass (top 9) 0)) := ⟨rfl, rfl, rfl, by decide +kernel, rfl, by decide +kernel, by decide +kernel⟩
theorem ok_Alarms___init__ (T : Txt P K mg a) : FnOk P w K mg base (L2.CX P w) 1 a.f_Alarms___init__ a.d_Alarms___init__ ["self"] (sp_Alarms___init__ a.toCl) := by
  refine ok_body T.fn_Alarms___init__ sc_Alarms___init__ rfl rfl fun cdv A outer s H E hr => ?_
  exact (pss_one (ps_setF T.cl_Alarms T.na_Alarms_times (pv 0) pe_dnewK))
abbrev nm_is_alarm : List Str := ["name"]
theorem sc_is_alarm : FnScope nm_is_alarm ["name"] (defScope (top 8)) := ⟨rfl, rfl, rfl, by decide +kernel, rfl, by decide +kernel, by decide +kernel⟩
theorem ok_is_alarm (T : Txt P K mg a) : FnOk P w K mg base (L2.CX P w) 1 a.f_is_alarm a.d_is_alarm ["name"] (sp_is_alarm a.toCl) := by
  refine ok_body T.fn_is_alarm sc_is_alarm rfl rfl fun cdv A outer s H E hr => ?_
  exact (pss_one (ps_ret (pe_and (pe_callB c_isi (by rfl) T.no_isinstance (by decide +kernel) (pa_cons (pv 0) (pa_cons (pe_bltn (v := .ty "str") (by rfl) T.no_str (by decide +kernel) rfl) pa_nil))) (pe_one (pe_cmpR (o_inA T.st) (pv 0) (pe_stat T.mg_ALARMS rfl) rfl)))))
abbrev nm_Alarms_when : List Str := ["self", "name"]
theorem sc_Alarms_when : FnScope nm_Alarms_when ["self", "name"] (defScope (inClass (top 9) 3)) := ⟨rfl, rfl, rfl, by decide +kernel, rfl, by decide +kernel, by decide +kernel⟩
theorem ok_Alarms_when (T : Txt P K mg a) : FnOk P w K mg base (L2.CX P w) 3 a.f_Alarms_when a.d_Alarms_when ["self", "name"] (sp_Alarms_when a.toCl) := by
  refine ok_body T.fn_Alarms_when sc_Alarms_when rfl rfl fun cdv A outer s H E hr => ?_
  exact (pss_cons (ps_if (pt_not (pt_val (pe_call (ok_is_alarm (tb := tb) T) (hr.mono (by decide)) rfl T.mg_is_alarm (T.fn_is_alarm).kp T.bd_is_alarm .nil passE (pa_cons (pv 1) pa_nil)))) (pss_one (ps_raiseE rfl (takes_of rfl rfl rfl rfl) (pmk_ex T.oe_InvalidSetting T.ii_InvalidSetting_InvalidSetting T.it_InvalidSetting (ok_InvalidSetting___init__ (tb := tb) T) (by repeat first | exact List.Mem.head _ | apply List.Mem.tail) (by decide) (hr.mono (by decide)) T.be_InvalidSetting passL rfl T.mg_InvalidSetting (pa_cons (pv 1) pa_nil)))) pss_nil)
    (pss_one (ps_ret (pe_dget1 (units1 hr.units) (pe_fldC T.cl_Alarms T.na_Alarms_times (pv 0)) (pv 1) ⟨rfl, rfl, rfl, rfl⟩))))
abbrev nm_Alarms___contains__ : List Str := ["self", "name"]
theorem sc_Alarms___contains__ : FnScope nm_Alarms___contains__ ["self", "name"] (defScope (inClass (top 9) 6)) := ⟨rfl, rfl, rfl, by decide +kernel, rfl, by decide +kernel, by decide +kernel⟩
theorem ok_Alarms___contains__ (T : Txt P K mg a) : FnOk P w K mg base (L2.CX P w) 2 a.f_Alarms___contains__ a.d_Alarms___contains__ ["self", "name"] (sp_Alarms___contains__ a.toCl) := by
  refine ok_body T.fn_Alarms___contains__ sc_Alarms___contains__ rfl rfl fun cdv A outer s H E hr => ?_
  exact (pss_one (ps_ret (pe_and (pe_call (ok_is_alarm (tb := tb) T) (hr.mono (by decide)) rfl T.mg_is_alarm (T.fn_is_alarm).kp T.bd_is_alarm .nil passE (pa_cons (pv 1) pa_nil)) (pe_one (pe_cmp (pc_din (units1 hr.units) (pv 1) (pe_fldC T.cl_Alarms T.na_Alarms_times (pv 0))) rfl)))))
abbrev nm_whole : List Str := ["_law_value"]
theorem sc_whole : FnScope nm_whole ["_law_value"] (defScope (top 11)) := ⟨rfl, rfl, rfl, by decide +kernel, rfl, by decide +kernel, by decide +kernel⟩
theorem ok_whole (T : Txt P K mg a) : FnOk P w K mg base (L2.CX P w) 1 a.f_whole a.d_whole ["_law_value"] (sp_whole a.toCl) := by
  refine ok_body T.fn_whole sc_whole rfl rfl fun cdv A outer s H E hr => ?_
  exact (pss_one (ps_ret (pe_and (pe_callB c_isi (by rfl) T.no_isinstance (by decide +kernel) (pa_cons (pv 0) (pa_cons (pe_bltn (v := .ty "int") (by rfl) T.no_int (by decide +kernel) rfl) pa_nil))) (pe_one (pe_not (pe_callB c_isi (by rfl) T.no_isinstance (by decide +kernel) (pa_cons (pv 0) (pa_cons (pe_bltn (v := .ty "bool") (by rfl) T.no_bool (by decide +kernel) rfl) pa_nil))))))))
abbrev nm_Alarms_soonest : List Str := ["self"]
theorem sc_Alarms_soonest : FnScope nm_Alarms_soonest ["self"] (defScope (inClass (top 9) 5)) := ⟨rfl, rfl, rfl, by decide +kernel, rfl, by decide +kernel, by decide +kernel⟩
theorem ok_Alarms_soonest (T : Txt P K mg a) : FnOk P w K mg base (L2.CX P w) 1 a.f_Alarms_soonest a.d_Alarms_soonest ["self"] (sp_Alarms_soonest a.toCl) := by
  refine ok_body T.fn_Alarms_soonest sc_Alarms_soonest rfl rfl fun cdv A outer s H E hr => ?_
  exact (pss_one (ps_ret (pe_callBK (cr_minD T.st rfl (u65 hr)) (by rfl) T.no_min (by decide +kernel) (pa_cons (pe_listV rfl (by rfl) T.no_list (pe_fldC T.cl_Alarms T.na_Alarms_times (pv 0))) pa_nil) (pk_cons pe_non pk_nil))))
abbrev nm_Alarms___len__ : List Str := ["self"]
theorem sc_Alarms___len__ : FnScope nm_Alarms___len__ ["self"] (defScope (inClass (top 9) 7)) := ⟨rfl, rfl, rfl, by decide +kernel, rfl, by decide +kernel, by decide +kernel⟩
theorem ok_Alarms___len__ (T : Txt P K mg a) : FnOk P w K mg base (L2.CX P w) 1 a.f_Alarms___len__ a.d_Alarms___len__ ["self"] (sp_Alarms___len__ a.toCl) := by
  refine ok_body T.fn_Alarms___len__ sc_Alarms___len__ rfl rfl fun cdv A outer s H E hr => ?_
  exact (pss_one (ps_ret (pe_callB c_lenD (by rfl) T.no_len (by decide +kernel) (pa_cons (pe_fldC T.cl_Alarms T.na_Alarms_times (pv 0)) pa_nil))))
abbrev nm_set : List Str := ["_law_alarms", "_law_table", "_law_names_here", "_law_place", "_law_told", "_law_name", "_law_there", "_law_one"]
theorem sc_set : FnScope nm_set ["_law_alarms", "_law_table"] (defScope (top 25)) := ⟨rfl, rfl, rfl, by decide +kernel, rfl, by decide +kernel, by decide +kernel⟩
theorem ok_set (T : Txt P K mg a) : FnOk P w K mg base (L2.CX P w) 4 a.f_set a.d_set ["_law_alarms", "_law_table"] (sp_set a.toCl) := by
  refine ok_body T.fn_set sc_set rfl rfl fun cdv A outer s H E hr => ?_
  exact (pss_cons (ps_set (i := 2) sc_set.nd rfl (by first | exact Or.inl rfl | exact Or.inr rfl) (pe_call0 (ok_names (tb := tb) T) (hr.mono (by decide)) rfl T.mg_names (T.fn_names).kp T.bd_names .nil passE))
    (pss_cons (ps_forR1 (passes_of rfl) rfl rfl T.no_range pe_int (pg_name (i := 3) sc_set.nd rfl (by first | exact Or.inl rfl | exact Or.inr rfl)) (pss_cons (ps_set (i := 4) sc_set.nd rfl (by first | exact Or.inl rfl | exact Or.inr rfl) (pe_meth (pv 0) T.cl_Alarms T.mt_Alarms_when (ok_Alarms_when (tb := tb) T) (hr.mono (by decide)) T.bd_Alarms_when .nil passE (pa_cons (pe_ix (o_ix T.st) (pv 2) (pv 3) (fun _ _ => rfl)) pa_nil)))
    (pss_one (ps_if (pt_cmpR o_is (pe_ix (o_ix T.st) (pv 1) (pv 3) (fun _ _ => rfl)) pe_non (nomark _)) (pss_one (ps_if (PW.pt (pw_or (pt_cmpR o_isnot (pv 4) pe_non (nomark _)) (pw_or1 (pt_cmpR (o_inOwn (ok_Alarms___contains__ (tb := tb) T) T.mt_Alarms___contains__ (hr.mono (by decide)) T.bd_Alarms___contains__ passE) (pe_ix (o_ix T.st) (pv 2) (pv 3) (fun _ _ => rfl)) (pv 0) rfl)))) (pss_one (ps_ret pe_bl)) pss_nil)) (pss_one (ps_if (PW.pt (pw_or (pt_not (pt_val (pe_call (ok_whole (tb := tb) T) (hr.mono (by decide)) rfl T.mg_whole (T.fn_whole).kp T.bd_whole .nil passE (pa_cons (pv 4) pa_nil)))) (pw_or (pt_cmpR (o_neP T.st hr.units) (pv 4) (pe_ix (o_ix T.st) (pv 1) (pv 3) (fun _ _ => rfl)) (nomark _)) (pw_or1 (pt_cmpR (o_notInOwn (ok_Alarms___contains__ (tb := tb) T) T.mt_Alarms___contains__ (hr.mono (by decide)) T.bd_Alarms___contains__ passE) (pe_ix (o_ix T.st) (pv 2) (pv 3) (fun _ _ => rfl)) (pv 0) rfl))))) (pss_one (ps_ret pe_bl)) pss_nil))))))
    (pss_cons (ps_forSeq T.st (passes_of rfl) rfl (pe_lst (pa_cons pe_str (pa_cons pe_str (pa_cons pe_non (pa_cons pe_int (pa_cons (pe_tup (pa_cons pe_str pa_nil)) (pa_cons (pe_lst (pa_cons pe_str pa_nil)) (pa_cons pe_dnewK pa_nil)))))))) (pg_name (i := 5) sc_set.nd rfl (by first | exact Or.inl rfl | exact Or.inr rfl)) (pss_one (ps_if (pt_cmpR (o_inOwn (ok_Alarms___contains__ (tb := tb) T) T.mt_Alarms___contains__ (hr.mono (by decide)) T.bd_Alarms___contains__ passE) (pv 5) (pv 0) rfl) (pss_one (ps_ret pe_bl)) pss_nil)))
    (pss_cons (ps_lcSeq (i := 6) (own := [("_law_one", 7)]) T.st rfl sc_set.nd rfl rfl (sw_true rfl rfl rfl (by decide +kernel)) (pv 1) (blkOk_by (own := [("_law_one", 7)]) (N := nm_set) (sc := defScope (top 25)) (by decide +kernel)) ⟨fun _ _ _ _ _ => (pg_name (i := 7) sc_set.nd rfl (by first | exact Or.inl rfl | exact Or.inr rfl)), fun _ _ _ _ _ => (pts_one (pt_cmpR o_isnot (pv 7) pe_non (nomark _))), fun _ _ _ _ _ => (pv 7)⟩)
    (pss_cons (ps_set (i := 4) sc_set.nd rfl (by first | exact Or.inl rfl | exact Or.inr rfl) (pe_meth0 (pv 0) T.cl_Alarms T.mt_Alarms_soonest (ok_Alarms_soonest (tb := tb) T) (hr.mono (by decide)) T.bd_Alarms_soonest .nil passE ))
    (pss_cons (ps_if (pt_cmpR (o_neP T.st hr.units) (pe_callB (c_lenOwn (ok_Alarms___len__ (tb := tb) T) T.mt_Alarms___len__ (hr.mono (by decide)) T.bd_Alarms___len__ passE) (by rfl) T.no_len (by decide +kernel) (pa_cons (pv 0) pa_nil)) (pe_callB (c_len T.st) (by rfl) T.no_len (by decide +kernel) (pa_cons (pv 6) pa_nil)) (nomark _)) (pss_one (ps_ret pe_bl)) pss_nil)
    (pss_cons (ps_if (pt_cmpR (o_eqP T.st hr.units) (pv 6) (pe_lst pa_nil) (nomark _)) (pss_one (ps_ret (pe_cmpR o_is (pv 4) pe_non (nomark _)))) pss_nil)
    (pss_one (ps_ret (pe_and (pe_call (ok_whole (tb := tb) T) (hr.mono (by decide)) rfl T.mg_whole (T.fn_whole).kp T.bd_whole .nil passE (pa_cons (pv 4) pa_nil)) (pe_and (pe_cmpR (o_inA T.st) (pv 4) (pv 6) rfl) (pe_one (pe_callB (c_all T.st rfl) (by rfl) T.no_all (by decide +kernel) (pa_cons (pe_lcSeq (own := [("_law_one", 7)]) T.st rfl sc_set.nd (pv 6) (blkOk_by (own := [("_law_one", 7)]) (N := nm_set) (sc := defScope (top 25)) (by decide +kernel)) ⟨fun _ _ _ _ _ => (pg_name (i := 7) sc_set.nd rfl (by first | exact Or.inl rfl | exact Or.inr rfl)), fun _ _ _ _ _ => pts_nil, fun _ _ _ _ _ => (pe_cmpR o_le (pv 4) (pv 7) (nomark _))⟩) pa_nil))))))))))))))
abbrev nm_greater : List Str := ["_law_one", "_law_two"]
theorem sc_greater : FnScope nm_greater ["_law_one", "_law_two"] (defScope (top 14)) := ⟨rfl, rfl, rfl, by decide +kernel, rfl, by decide +kernel, by decide +kernel⟩
theorem ok_greater (T : Txt P K mg a) : FnOk P w K mg base (L2.CX P w) 1 a.f_greater a.d_greater ["_law_one", "_law_two"] (sp_greater a.toCl) := by
  refine ok_body T.fn_greater sc_greater rfl rfl fun cdv A outer s H E hr => ?_
  exact (pss_cons (ps_if (pt_cmpR o_gt (pv 0) (pv 1) (nomark _)) (pss_one (ps_ret (pv 0))) pss_nil)
    (pss_one (ps_ret (pv 1))))
abbrev nm_Alarms_due : List Str := ["self", "now", "names", "name"]
theorem sc_Alarms_due : FnScope nm_Alarms_due ["self", "now"] (defScope (inClass (top 9) 4)) := ⟨rfl, rfl, rfl, by decide +kernel, rfl, by decide +kernel, by decide +kernel⟩
theorem ok_Alarms_due (T : Txt P K mg a) : FnOk P w K mg base (L2.CX P w) 1 a.f_Alarms_due a.d_Alarms_due ["self", "now"] (sp_Alarms_due a.toCl) := by
  refine ok_bodyC T.fn_Alarms_due sc_Alarms_due rfl rfl fun A outer s H E hr => ?_
  exact (pss_cons (ps_lcSeq (i := 2) (own := [("name", 3)]) T.st rfl sc_Alarms_due.nd rfl rfl (sw_true rfl rfl rfl (by decide +kernel)) (pe_stat T.mg_ALARMS rfl) (blkOk_by (own := [("name", 3)]) (N := nm_Alarms_due) (sc := defScope (inClass (top 9) 4)) (by decide +kernel)) ⟨fun _ _ _ _ _ => (pg_name (i := 3) sc_Alarms_due.nd rfl (by first | exact Or.inl rfl | exact Or.inr rfl)), fun _ _ _ _ _ => (pts_one (PW.pt (pw_and (pt_cmp (pc_din (units1 hr.units) (pv 3) (pe_fldC T.cl_Alarms T.na_Alarms_times (pv 0))) rfl) (pw_and1 (pt_cmpR o_le (pe_dget (units1 hr.units) (pe_fldC T.cl_Alarms T.na_Alarms_times (pv 0)) (pv 3) fun _ _ => rfl) (pv 1) (nomark _)))))), fun _ _ _ _ _ => (pv 3)⟩)
    (pss_one (ps_ret (pe_sortF T.st T.cl_Alarms T.na_Alarms_times hr (by rfl) T.no_sorted rfl (pa_cons (pv 2) pa_nil) tb.tab rfl (lamP_by (sc := defScope (inClass (top 9) 4)) (by decide +kernel)) rfl rfl (fun _ _ _ _ _ => rfl)))))
abbrev nm_in_order : List Str := ["_law_told", "_law_table", "_law_now", "_law_names_here", "_law_one", "_law_before", "_law_name", "_law_place"]
theorem sc_in_order : FnScope nm_in_order ["_law_told", "_law_table", "_law_now"] (defScope (top 23)) := ⟨rfl, rfl, rfl, by decide +kernel, rfl, by decide +kernel, by decide +kernel⟩
theorem ok_in_order (T : Txt P K mg a) : FnOk P w K mg base (L2.CX P w) 2 a.f_in_order a.d_in_order ["_law_told", "_law_table", "_law_now"] (sp_in_order a.toCl) := by
  refine ok_body T.fn_in_order sc_in_order rfl rfl fun cdv A outer s H E hr => ?_
  exact (pss_cons (ps_set (i := 3) sc_in_order.nd rfl (by first | exact Or.inl rfl | exact Or.inr rfl) (pe_call0 (ok_names (tb := tb) T) (hr.mono (by decide)) rfl T.mg_names (T.fn_names).kp T.bd_names .nil passE))
    (pss_cons (ps_if (pt_not (pt_val (pe_callB c_isi (by rfl) T.no_isinstance (by decide +kernel) (pa_cons (pv 0) (pa_cons (pe_bltn (v := .ty "list") (by rfl) T.no_list (by decide +kernel) rfl) pa_nil))))) (pss_one (ps_ret pe_bl)) pss_nil)
    (pss_cons (ps_if (pt_cmpR (o_neP T.st hr.units) (pe_callB (c_len T.st) (by rfl) T.no_len (by decide +kernel) (pa_cons (pv 0) pa_nil)) (pe_callB (c_len T.st) (by rfl) T.no_len (by decide +kernel) (pa_cons (pe_lcSeq (own := [("_law_one", 4)]) T.st rfl sc_in_order.nd (pv 1) (blkOk_by (own := [("_law_one", 4)]) (N := nm_in_order) (sc := defScope (top 23)) (by decide +kernel)) ⟨fun _ _ _ _ _ => (pg_name (i := 4) sc_in_order.nd rfl (by first | exact Or.inl rfl | exact Or.inr rfl)), fun _ _ _ _ _ => (pts_one (PW.pt (pw_and (pt_cmpR o_isnot (pv 4) pe_non (nomark _)) (pw_and1 (pt_cmpR o_le (pv 4) (pv 2) (nomark _)))))), fun _ _ _ _ _ => (pv 4)⟩) pa_nil)) (nomark _)) (pss_one (ps_ret pe_bl)) pss_nil)
    (pss_cons (ps_set (i := 5) sc_in_order.nd rfl (by first | exact Or.inl rfl | exact Or.inr rfl) (pe_tup (pa_cons (pe_un o_neg pe_int) (pa_cons (pe_un o_neg pe_int) pa_nil))))
    (pss_cons (ps_forSeq T.st (passes_of rfl) rfl (pv 0) (pg_name (i := 6) sc_in_order.nd rfl (by first | exact Or.inl rfl | exact Or.inr rfl)) (pss_cons (ps_if (PW.pt (pw_or (pt_not (pt_val (pe_callB c_isi (by rfl) T.no_isinstance (by decide +kernel) (pa_cons (pv 6) (pa_cons (pe_bltn (v := .ty "str") (by rfl) T.no_str (by decide +kernel) rfl) pa_nil))))) (pw_or1 (pt_cmpR (o_notInA T.st) (pv 6) (pv 3) rfl)))) (pss_one (ps_ret pe_bl)) pss_nil)
    (pss_cons (ps_set (i := 7) sc_in_order.nd rfl (by first | exact Or.inl rfl | exact Or.inr rfl) (pe_idxZ (pv 3) (pv 6) ⟨rfl, rfl, rfl, rfl⟩))
    (pss_cons (ps_if (PW.pt (pw_or (pt_cmpR o_is (pe_ix (o_ix T.st) (pv 1) (pv 7) (fun _ _ => rfl)) pe_non (nomark _)) (pw_or1 (pt_cmpR o_gt (pe_ix (o_ix T.st) (pv 1) (pv 7) (fun _ _ => rfl)) (pv 2) (nomark _))))) (pss_one (ps_ret pe_bl)) pss_nil)
    (pss_cons (ps_if (pt_not (pt_cmpR (o_ltP T.st (u65 hr)) (pv 5) (pe_tup (pa_cons (pe_ix (o_ix T.st) (pv 1) (pv 7) (fun _ _ => rfl)) (pa_cons (pv 7) pa_nil))) (nomark _))) (pss_one (ps_ret pe_bl)) pss_nil)
    (pss_one (ps_set (i := 5) sc_in_order.nd rfl (by first | exact Or.inl rfl | exact Or.inr rfl) (pe_tup (pa_cons (pe_ix (o_ix T.st) (pv 1) (pv 7) (fun _ _ => rfl)) (pa_cons (pv 7) pa_nil))))))))))
    (pss_one (ps_ret pe_bl)))))))
abbrev nm_due : List Str := ["_law_alarms", "_law_table", "_law_now", "_law_told", "_law_names_here", "_law_name", "_law_again"]
theorem sc_due : FnScope nm_due ["_law_alarms", "_law_table", "_law_now"] (defScope (top 24)) := ⟨rfl, rfl, rfl, by decide +kernel, rfl, by decide +kernel, by decide +kernel⟩
theorem ok_due (T : Txt P K mg a) : FnOk P w K mg base (L2.CX P w) 3 a.f_due a.d_due ["_law_alarms", "_law_table", "_law_now"] (sp_due a.toCl) := by
  refine ok_body T.fn_due sc_due rfl rfl fun cdv A outer s H E hr => ?_
  exact (pss_cons (ps_set (i := 3) sc_due.nd rfl (by first | exact Or.inl rfl | exact Or.inr rfl) (pe_meth (pv 0) T.cl_Alarms T.mt_Alarms_due (ok_Alarms_due (tb := tb) T) (hr.mono (by decide)) T.bd_Alarms_due .nil passE (pa_cons (pv 2) pa_nil)))
    (pss_cons (ps_if (pt_not (pt_val (pe_call (ok_in_order (tb := tb) T) (hr.mono (by decide)) rfl T.mg_in_order (T.fn_in_order).kp T.bd_in_order .nil passE (pa_cons (pv 3) (pa_cons (pv 1) (pa_cons (pv 2) pa_nil)))))) (pss_one (ps_ret pe_bl)) pss_nil)
    (pss_cons (ps_lcSeq (i := 4) (own := [("_law_name", 5)]) T.st rfl sc_due.nd rfl rfl (sw_true rfl rfl rfl (by decide +kernel)) (pv 3) (blkOk_by (own := [("_law_name", 5)]) (N := nm_due) (sc := defScope (top 24)) (by decide +kernel)) ⟨fun _ _ _ _ _ => (pg_name (i := 5) sc_due.nd rfl (by first | exact Or.inl rfl | exact Or.inr rfl)), fun _ _ _ _ _ => pts_nil, fun _ _ _ _ _ => (pv 5)⟩)
    (pss_cons (ps_expr (pe_app (pv 3) (pa_cons pe_str pa_nil)))
    (pss_cons (ps_set (i := 6) sc_due.nd rfl (by first | exact Or.inl rfl | exact Or.inr rfl) (pe_meth (pv 0) T.cl_Alarms T.mt_Alarms_due (ok_Alarms_due (tb := tb) T) (hr.mono (by decide)) T.bd_Alarms_due .nil passE (pa_cons (pv 2) pa_nil)))
    (pss_one (ps_ret (pe_and (pe_callB c_isi (by rfl) T.no_isinstance (by decide +kernel) (pa_cons (pv 6) (pa_cons (pe_bltn (v := .ty "list") (by rfl) T.no_list (by decide +kernel) rfl) pa_nil))) (pe_one (pe_cmpR (o_eqP T.st hr.units) (pv 6) (pv 4) (nomark _)))))))))))
abbrev nm_agrees : List Str := ["_law_alarms", "_law_table", "_law_moments", "_law_one", "_law_now"]
theorem sc_agrees : FnScope nm_agrees ["_law_alarms", "_law_table"] (defScope (top 26)) := ⟨rfl, rfl, rfl, by decide +kernel, rfl, by decide +kernel, by decide +kernel⟩
theorem ok_agrees (T : Txt P K mg a) : FnOk P w K mg base (L2.CX P w) 5 a.f_agrees a.d_agrees ["_law_alarms", "_law_table"] (sp_agrees a.toCl) := by
  refine ok_body T.fn_agrees sc_agrees rfl rfl fun cdv A outer s H E hr => ?_
  exact (pss_cons (ps_if (pt_not (pt_val (pe_call (ok_set (tb := tb) T) (hr.mono (by decide)) rfl T.mg_set (T.fn_set).kp T.bd_set .nil passE (pa_cons (pv 0) (pa_cons (pv 1) pa_nil))))) (pss_one (ps_ret pe_bl)) pss_nil)
    (pss_cons (ps_set (i := 2) sc_agrees.nd rfl (by first | exact Or.inl rfl | exact Or.inr rfl) (pe_lst (pa_cons pe_int (pa_cons (pe_op o_sub (pe_op o_pow pe_int pe_int) pe_int) pa_nil))))
    (pss_cons (ps_forSeq T.st (passes_of rfl) rfl (pv 1) (pg_name (i := 3) sc_agrees.nd rfl (by first | exact Or.inl rfl | exact Or.inr rfl)) (pss_one (ps_if (pt_cmpR o_isnot (pv 3) pe_non (nomark _)) (pss_one (ps_set (i := 2) sc_agrees.nd rfl (by first | exact Or.inl rfl | exact Or.inr rfl) (pe_op o_add (pv 2) (pe_lst (pa_cons (pv 3) (pa_cons (pe_call (ok_greater (tb := tb) T) (hr.mono (by decide)) rfl T.mg_greater (T.fn_greater).kp T.bd_greater .nil passE (pa_cons pe_int (pa_cons (pe_op o_sub (pv 3) pe_int) pa_nil))) pa_nil)))))) pss_nil)))
    (pss_cons (ps_forSeq T.st (passes_of rfl) rfl (pv 2) (pg_name (i := 4) sc_agrees.nd rfl (by first | exact Or.inl rfl | exact Or.inr rfl)) (pss_one (ps_if (pt_not (pt_val (pe_call (ok_due (tb := tb) T) (hr.mono (by decide)) rfl T.mg_due (T.fn_due).kp T.bd_due .nil passE (pa_cons (pv 0) (pa_cons (pv 1) (pa_cons (pv 4) pa_nil)))))) (pss_one (ps_ret pe_bl)) pss_nil)))
    (pss_one (ps_ret pe_bl))))))
abbrev nm_moment : List Str := ["_law_bag_here", "_law_table", "_law_way", "_law_near"]
theorem sc_moment : FnScope nm_moment ["_law_bag_here", "_law_table"] (defScope (top 20)) := ⟨rfl, rfl, rfl, by decide +kernel, rfl, by decide +kernel, by decide +kernel⟩
theorem ok_moment (T : Txt P K mg a) : FnOk P w K mg base (L2.CX P w) 2 a.f_moment a.d_moment ["_law_bag_here", "_law_table"] (sp_moment a.toCl) := by
  refine ok_body T.fn_moment sc_moment rfl rfl fun cdv A outer s H E hr => ?_
  exact (pss_cons (ps_set (i := 2) sc_moment.nd rfl (by first | exact Or.inl rfl | exact Or.inr rfl) (pe_call (ok_take (tb := tb) T) (hr.mono (by decide)) rfl T.mg_take (T.fn_take).kp T.bd_take .nil passE (pa_cons (pv 0) (pa_cons pe_int pa_nil))))
    (pss_cons (ps_if (pt_cmpR (o_eqP T.st hr.units) (pv 2) pe_int (nomark _)) (pss_one (ps_ret (pe_call (ok_take (tb := tb) T) (hr.mono (by decide)) rfl T.mg_take (T.fn_take).kp T.bd_take .nil passE (pa_cons (pv 0) (pa_cons pe_int pa_nil))))) pss_nil)
    (pss_cons (ps_if (pt_cmpR (o_eqP T.st hr.units) (pv 2) pe_int (nomark _)) (pss_one (ps_ret pe_int)) pss_nil)
    (pss_cons (ps_if (pt_cmpR (o_eqP T.st hr.units) (pv 2) pe_int (nomark _)) (pss_cons (ps_set (i := 3) sc_moment.nd rfl (by first | exact Or.inl rfl | exact Or.inr rfl) (pe_ix (o_ix T.st) (pv 1) (pe_call (ok_take (tb := tb) T) (hr.mono (by decide)) rfl T.mg_take (T.fn_take).kp T.bd_take .nil passE (pa_cons (pv 0) (pa_cons pe_int pa_nil))) (fun _ _ => rfl)))
    (pss_cons (ps_if (pt_cmpR o_is (pv 3) pe_non (nomark _)) (pss_one (ps_set (i := 3) sc_moment.nd rfl (by first | exact Or.inl rfl | exact Or.inr rfl) pe_int)) pss_nil)
    (pss_one (ps_ret (pe_call (ok_greater (tb := tb) T) (hr.mono (by decide)) rfl T.mg_greater (T.fn_greater).kp T.bd_greater .nil passE (pa_cons pe_int (pa_cons (pe_op o_sub (pe_op o_add (pv 3) (pe_call (ok_take (tb := tb) T) (hr.mono (by decide)) rfl T.mg_take (T.fn_take).kp T.bd_take .nil passE (pa_cons (pv 0) (pa_cons pe_int pa_nil)))) pe_int) pa_nil))))))) pss_nil)
    (pss_cons (ps_if (pt_cmpR (o_eqP T.st hr.units) (pv 2) pe_int (nomark _)) (pss_one (ps_ret (pe_call (ok_take (tb := tb) T) (hr.mono (by decide)) rfl T.mg_take (T.fn_take).kp T.bd_take .nil passE (pa_cons (pv 0) (pa_cons pe_int pa_nil))))) pss_nil)
    (pss_one (ps_ret (pe_call (ok_take (tb := tb) T) (hr.mono (by decide)) rfl T.mg_take (T.fn_take).kp T.bd_take .nil passE (pa_cons (pv 0) (pa_cons (pe_op o_sub (pe_op o_pow pe_int pe_int) pe_int) pa_nil))))))))))
abbrev nm_is_whole : List Str := ["value"]
theorem sc_is_whole : FnScope nm_is_whole ["value"] (defScope (top 5)) := ⟨rfl, rfl, rfl, by decide +kernel, rfl, by decide +kernel, by decide +kernel⟩
theorem ok_is_whole (T : Txt P K mg a) : FnOk P w K mg base (L2.CX P w) 1 a.f_is_whole a.d_is_whole ["value"] (sp_is_whole a.toCl) := by
  refine ok_body T.fn_is_whole sc_is_whole rfl rfl fun cdv A outer s H E hr => ?_
  exact (pss_one (ps_ret (pe_and (pe_callB c_isi (by rfl) T.no_isinstance (by decide +kernel) (pa_cons (pv 0) (pa_cons (pe_bltn (v := .ty "int") (by rfl) T.no_int (by decide +kernel) rfl) pa_nil))) (pe_one (pe_not (pe_callB c_isi (by rfl) T.no_isinstance (by decide +kernel) (pa_cons (pv 0) (pa_cons (pe_bltn (v := .ty "bool") (by rfl) T.no_bool (by decide +kernel) rfl) pa_nil))))))))
abbrev nm_Alarms_arm : List Str := ["self", "name", "when"]
theorem sc_Alarms_arm : FnScope nm_Alarms_arm ["self", "name", "when"] (defScope (inClass (top 9) 1)) := ⟨rfl, rfl, rfl, by decide +kernel, rfl, by decide +kernel, by decide +kernel⟩
theorem ok_Alarms_arm (T : Txt P K mg a) : FnOk P w K mg base (L2.CX P w) 3 a.f_Alarms_arm a.d_Alarms_arm ["self", "name", "when"] (sp_Alarms_arm a.toCl) := by
  refine ok_body T.fn_Alarms_arm sc_Alarms_arm rfl rfl fun cdv A outer s H E hr => ?_
  exact (pss_cons (ps_if (pt_not (pt_val (pe_call (ok_is_alarm (tb := tb) T) (hr.mono (by decide)) rfl T.mg_is_alarm (T.fn_is_alarm).kp T.bd_is_alarm .nil passE (pa_cons (pv 1) pa_nil)))) (pss_one (ps_raiseE rfl (takes_of rfl rfl rfl rfl) (pmk_ex T.oe_InvalidSetting T.ii_InvalidSetting_InvalidSetting T.it_InvalidSetting (ok_InvalidSetting___init__ (tb := tb) T) (by repeat first | exact List.Mem.head _ | apply List.Mem.tail) (by decide) (hr.mono (by decide)) T.be_InvalidSetting passL rfl T.mg_InvalidSetting (pa_cons (pv 1) pa_nil)))) pss_nil)
    (pss_cons (ps_if (PW.pt (pw_or (pt_not (pt_val (pe_call (ok_is_whole (tb := tb) T) (hr.mono (by decide)) rfl T.mg_is_whole (T.fn_is_whole).kp T.bd_is_whole .nil passE (pa_cons (pv 2) pa_nil)))) (pw_or1 (pt_cmpR o_lt (pv 2) pe_int (nomark _))))) (pss_one (ps_raiseE rfl (takes_of rfl rfl rfl rfl) (pmk_ex T.oe_InvalidNumber T.ii_InvalidNumber_InvalidNumber T.it_InvalidNumber (ok_InvalidNumber___init__ (tb := tb) T) (by repeat first | exact List.Mem.head _ | apply List.Mem.tail) (by decide) (hr.mono (by decide)) T.be_InvalidNumber passL rfl T.mg_InvalidNumber (pa_cons (pv 2) pa_nil)))) pss_nil)
    (pss_one (ps_dput (units1 hr.units) (pe_fldC T.cl_Alarms T.na_Alarms_times (pv 0)) (pv 1) (pv 2) rfl))))
abbrev nm_Alarms_disarm : List Str := ["self", "name"]
theorem sc_Alarms_disarm : FnScope nm_Alarms_disarm ["self", "name"] (defScope (inClass (top 9) 2)) := ⟨rfl, rfl, rfl, by decide +kernel, rfl, by decide +kernel, by decide +kernel⟩
theorem ok_Alarms_disarm (T : Txt P K mg a) : FnOk P w K mg base (L2.CX P w) 3 a.f_Alarms_disarm a.d_Alarms_disarm ["self", "name"] (sp_Alarms_disarm a.toCl) := by
  refine ok_body T.fn_Alarms_disarm sc_Alarms_disarm rfl rfl fun cdv A outer s H E hr => ?_
  exact (pss_cons (ps_if (pt_not (pt_val (pe_call (ok_is_alarm (tb := tb) T) (hr.mono (by decide)) rfl T.mg_is_alarm (T.fn_is_alarm).kp T.bd_is_alarm .nil passE (pa_cons (pv 1) pa_nil)))) (pss_one (ps_raiseE rfl (takes_of rfl rfl rfl rfl) (pmk_ex T.oe_InvalidSetting T.ii_InvalidSetting_InvalidSetting T.it_InvalidSetting (ok_InvalidSetting___init__ (tb := tb) T) (by repeat first | exact List.Mem.head _ | apply List.Mem.tail) (by decide) (hr.mono (by decide)) T.be_InvalidSetting passL rfl T.mg_InvalidSetting (pa_cons (pv 1) pa_nil)))) pss_nil)
    (pss_one (ps_if (pt_cmp (pc_din (units1 hr.units) (pv 1) (pe_fldC T.cl_Alarms T.na_Alarms_times (pv 0))) rfl) (pss_one (ps_ddel (pe_fldC T.cl_Alarms T.na_Alarms_times (pv 0)) (pv 1))) pss_nil)))
abbrev nm_call : List Str := ["_law_alarms", "_law_deed_here", "_law_name", "_law_moment_here", "e"]
theorem sc_call : FnScope nm_call ["_law_alarms", "_law_deed_here", "_law_name", "_law_moment_here"] (defScope (top 21)) := ⟨rfl, rfl, rfl, by decide +kernel, rfl, by decide +kernel, by decide +kernel⟩
theorem ok_call (T : Txt P K mg a) : FnOk P w K mg base (L2.CX P w) 4 a.f_call a.d_call ["_law_alarms", "_law_deed_here", "_law_name", "_law_moment_here"] (sp_call a.toCl) := by
  refine ok_body T.fn_call sc_call rfl rfl fun cdv A outer s H E hr => ?_
  exact (pss_cons (ps_tryT (tab := [(.ref a.c_InvalidNumber, 0), (.ref a.c_InvalidSetting, 0)]) (tb := fun W => (tSeq (tIfS (tTest (tOp (rEqP a.S) (tVar 1) (tC (.int 0)))) (tRet (tTup (tCons (tC (.str "told")) (tCons (tMS a.c_Alarms "arm" (sp_Alarms_arm a.toCl) (WE W) (tVar 0) (tCons (tVar 2) (tCons (tVar 3) tNil))) tNil)))) tNext)
    (tSeq (tIfS (tTest (tOp (rEqP a.S) (tVar 1) (tC (.int 1)))) (tRet (tTup (tCons (tC (.str "told")) (tCons (tMS a.c_Alarms "disarm" (sp_Alarms_disarm a.toCl) (WE W) (tVar 0) (tCons (tVar 2) tNil)) tNil)))) tNext)
    (tRet (tTup (tCons (tC (.str "told")) (tCons (tMS a.c_Alarms "when" (sp_Alarms_when a.toCl) (WE W) (tVar 0) (tCons (tVar 2) tNil)) tNil))))))) (l := [⟨.ref a.c_LossError, some 4, fun b cls d => (tSeq (tIfS (tAnd (tB (tCB (rIsX [(.ref a.c_InvalidSetting, .ref a.c_InvalidSetting, true), (.ref a.c_InvalidNumber, .ref a.c_InvalidSetting, false)] b cls d) (tCons (tVar 4) (tCons (eCon (.ref a.c_InvalidSetting)) tNil)))) (tAnd (tB (tCB (rIsX [(.ref a.c_InvalidSetting, .ty "ValueError", true), (.ref a.c_InvalidNumber, .ty "ValueError", true)] b cls d) (tCons (tVar 4) (tCons (tC (.ty "ValueError")) tNil)))) (tNot (tB (tCB (rIsX [(.ref a.c_InvalidSetting, .ref a.c_InvalidNumber, false), (.ref a.c_InvalidNumber, .ref a.c_InvalidNumber, true)] b cls d) (tCons (tVar 4) (tCons (eCon (.ref a.c_InvalidNumber)) tNil))))))) (tRet (tTup (tCons (tC (.str "setting")) (tCons (eXf b cls d [a.c_InvalidSetting] "setting" (tVar 4)) tNil)))) tNext)
    (tIfS (tAnd (tB (tCB (rIsX [(.ref a.c_InvalidSetting, .ref a.c_InvalidNumber, false), (.ref a.c_InvalidNumber, .ref a.c_InvalidNumber, true)] b cls d) (tCons (tVar 4) (tCons (eCon (.ref a.c_InvalidNumber)) tNil)))) (tAnd (tB (tCB (rIsX [(.ref a.c_InvalidSetting, .ty "ValueError", true), (.ref a.c_InvalidNumber, .ty "ValueError", true)] b cls d) (tCons (tVar 4) (tCons (tC (.ty "ValueError")) tNil)))) (tNot (tB (tCB (rIsX [(.ref a.c_InvalidSetting, .ref a.c_InvalidSetting, true), (.ref a.c_InvalidNumber, .ref a.c_InvalidSetting, false)] b cls d) (tCons (tVar 4) (tCons (eCon (.ref a.c_InvalidSetting)) tNil))))))) (tRet (tTup (tCons (tC (.str "number")) (tCons (eXf b cls d [a.c_InvalidNumber] "number" (tVar 4)) tNil)))) tNext))⟩]) (all_cons (Hits.here T.ex_InvalidNumber_LossError) (all_cons (Hits.here T.ex_InvalidSetting_LossError) all_nil)) rfl rfl sc_call.nd (fun W pn xe tk pa => (pss_cons (ps_if (pt_cmpR (o_eqP T.st hr.units) (pv 1) pe_int (nomark _)) (pss_one (ps_ret (pe_tup (pa_cons pe_str (pa_cons (pe_mS (pv 0) T.cl_Alarms T.mt_Alarms_arm (ok_Alarms_arm (tb := tb) T) (hr.mono (by decide)) T.bd_Alarms_arm (fun σ => passAt tk σ) (pa_cons (pv 2) (pa_cons (pv 3) pa_nil))) pa_nil))))) pss_nil)
    (pss_cons (ps_if (pt_cmpR (o_eqP T.st hr.units) (pv 1) pe_int (nomark _)) (pss_one (ps_ret (pe_tup (pa_cons pe_str (pa_cons (pe_mS (pv 0) T.cl_Alarms T.mt_Alarms_disarm (ok_Alarms_disarm (tb := tb) T) (hr.mono (by decide)) T.bd_Alarms_disarm (fun σ => passAt tk σ) (pa_cons (pv 2) pa_nil)) pa_nil))))) pss_nil)
    (pss_one (ps_ret (pe_tup (pa_cons pe_str (pa_cons (pe_mS (pv 0) T.cl_Alarms T.mt_Alarms_when (ok_Alarms_when (tb := tb) T) (hr.mono (by decide)) T.bd_Alarms_when (fun σ => passAt tk σ) (pa_cons (pv 2) pa_nil)) pa_nil)))))))) (HnOk.named ⟨rfl, by decide, .inl T.mg_LossError⟩ (i := 4) rfl rfl (fun b oe cls d pn hz hf => (pss_cons (ps_if (PW.pt (pw_and (pt_val (pe_callB (c_isX (tbl := [(.ref a.c_InvalidSetting, .ref a.c_InvalidSetting, true), (.ref a.c_InvalidNumber, .ref a.c_InvalidSetting, false)]) (all_cons T.is_InvalidSetting_InvalidSetting (all_cons T.is_InvalidNumber_InvalidSetting (all_nil))) hz hf) (by rfl) T.no_isinstance (by decide +kernel) (pa_cons (pv 4) (pa_cons (pe_clsName rfl T.mg_InvalidSetting) pa_nil)))) (pw_and (pt_val (pe_callB (c_isX (tbl := [(.ref a.c_InvalidSetting, .ty "ValueError", true), (.ref a.c_InvalidNumber, .ty "ValueError", true)]) (all_cons T.is_InvalidSetting_ValueError (all_cons T.is_InvalidNumber_ValueError (all_nil))) hz hf) (by rfl) T.no_isinstance (by decide +kernel) (pa_cons (pv 4) (pa_cons (pe_bltn (v := .ty "ValueError") (by rfl) T.no_ValueError (by decide +kernel) rfl) pa_nil)))) (pw_and1 (pt_not (pt_val (pe_callB (c_isX (tbl := [(.ref a.c_InvalidSetting, .ref a.c_InvalidNumber, false), (.ref a.c_InvalidNumber, .ref a.c_InvalidNumber, true)]) (all_cons T.is_InvalidSetting_InvalidNumber (all_cons T.is_InvalidNumber_InvalidNumber (all_nil))) hz hf) (by rfl) T.no_isinstance (by decide +kernel) (pa_cons (pv 4) (pa_cons (pe_clsName rfl T.mg_InvalidNumber) pa_nil))))))))) (pss_one (ps_ret (pe_tup (pa_cons pe_str (pa_cons (pe_eXf (Cs := [a.c_InvalidSetting]) (all_cons T.xf_InvalidSetting_setting (all_nil)) hz hf (pv 4)) pa_nil))))) pss_nil)
    (pss_one (ps_if (PW.pt (pw_and (pt_val (pe_callB (c_isX (tbl := [(.ref a.c_InvalidSetting, .ref a.c_InvalidNumber, false), (.ref a.c_InvalidNumber, .ref a.c_InvalidNumber, true)]) (all_cons T.is_InvalidSetting_InvalidNumber (all_cons T.is_InvalidNumber_InvalidNumber (all_nil))) hz hf) (by rfl) T.no_isinstance (by decide +kernel) (pa_cons (pv 4) (pa_cons (pe_clsName rfl T.mg_InvalidNumber) pa_nil)))) (pw_and (pt_val (pe_callB (c_isX (tbl := [(.ref a.c_InvalidSetting, .ty "ValueError", true), (.ref a.c_InvalidNumber, .ty "ValueError", true)]) (all_cons T.is_InvalidSetting_ValueError (all_cons T.is_InvalidNumber_ValueError (all_nil))) hz hf) (by rfl) T.no_isinstance (by decide +kernel) (pa_cons (pv 4) (pa_cons (pe_bltn (v := .ty "ValueError") (by rfl) T.no_ValueError (by decide +kernel) rfl) pa_nil)))) (pw_and1 (pt_not (pt_val (pe_callB (c_isX (tbl := [(.ref a.c_InvalidSetting, .ref a.c_InvalidSetting, true), (.ref a.c_InvalidNumber, .ref a.c_InvalidSetting, false)]) (all_cons T.is_InvalidSetting_InvalidSetting (all_cons T.is_InvalidNumber_InvalidSetting (all_nil))) hz hf) (by rfl) T.no_isinstance (by decide +kernel) (pa_cons (pv 4) (pa_cons (pe_clsName rfl T.mg_InvalidSetting) pa_nil))))))))) (pss_one (ps_ret (pe_tup (pa_cons pe_str (pa_cons (pe_eXf (Cs := [a.c_InvalidNumber]) (all_cons T.xf_InvalidNumber_number (all_nil)) hz hf (pv 4)) pa_nil))))) pss_nil)))) HnOk.nil))
    (pss_one (ps_ret (pe_tup (pa_cons pe_str (pa_cons pe_non pa_nil))))))
abbrev nm_far : List Str := ["_law_bag_here", "_law_factor"]
theorem sc_far : FnScope nm_far ["_law_bag_here"] (defScope (top 16)) := ⟨rfl, rfl, rfl, by decide +kernel, rfl, by decide +kernel, by decide +kernel⟩
theorem ok_far (T : Txt P K mg a) : FnOk P w K mg base (L2.CX P w) 2 a.f_far a.d_far ["_law_bag_here"] (sp_far a.toCl) := by
  refine ok_body T.fn_far sc_far rfl rfl fun cdv A outer s H E hr => ?_
  exact (pss_cons (ps_set (i := 1) sc_far.nd rfl (by first | exact Or.inl rfl | exact Or.inr rfl) (pe_call (ok_take (tb := tb) T) (hr.mono (by decide)) rfl T.mg_take (T.fn_take).kp T.bd_take .nil passE (pa_cons (pv 0) (pa_cons pe_int pa_nil))))
    (pss_one (ps_ret (pe_op o_mul (pv 1) (pe_call (ok_take (tb := tb) T) (hr.mono (by decide)) rfl T.mg_take (T.fn_take).kp T.bd_take .nil passE (pa_cons (pv 0) (pa_cons (pe_op o_pow pe_int pe_int) pa_nil)))))))
abbrev nm_wrong : List Str := ["_law_bag_here", "_law_way"]
theorem sc_wrong : FnScope nm_wrong ["_law_bag_here"] (defScope (top 19)) := ⟨rfl, rfl, rfl, by decide +kernel, rfl, by decide +kernel, by decide +kernel⟩
theorem ok_wrong (T : Txt P K mg a) : FnOk P w K mg base (L2.CX P w) 3 a.f_wrong a.d_wrong ["_law_bag_here"] (sp_wrong a.toCl) := by
  refine ok_body T.fn_wrong sc_wrong rfl rfl fun cdv A outer s H E hr => ?_
  exact (pss_cons (ps_set (i := 1) sc_wrong.nd rfl (by first | exact Or.inl rfl | exact Or.inr rfl) (pe_call (ok_take (tb := tb) T) (hr.mono (by decide)) rfl T.mg_take (T.fn_take).kp T.bd_take .nil passE (pa_cons (pv 0) (pa_cons pe_int pa_nil))))
    (pss_cons (ps_if (pt_cmpR o_lt (pv 1) pe_int (nomark _)) (pss_one (ps_ret (pe_op o_sub (pe_op o_sub pe_int pe_int) (pe_call (ok_far (tb := tb) T) (hr.mono (by decide)) rfl T.mg_far (T.fn_far).kp T.bd_far .nil passE (pa_cons (pv 0) pa_nil))))) pss_nil)
    (pss_cons (ps_if (pt_cmpR (o_eqP T.st hr.units) (pv 1) pe_int (nomark _)) (pss_one (ps_ret pe_non)) pss_nil)
    (pss_cons (ps_if (pt_cmpR (o_eqP T.st hr.units) (pv 1) pe_int (nomark _)) (pss_one (ps_ret pe_bl)) pss_nil)
    (pss_cons (ps_if (pt_cmpR (o_eqP T.st hr.units) (pv 1) pe_int (nomark _)) (pss_one (ps_ret (pe_callTy c_strI (by rfl) T.no_str (by decide +kernel) (pa_cons (pe_call (ok_take (tb := tb) T) (hr.mono (by decide)) rfl T.mg_take (T.fn_take).kp T.bd_take .nil passE (pa_cons (pv 0) (pa_cons pe_int pa_nil))) pa_nil)))) pss_nil)
    (pss_one (ps_ret (pe_tup (pa_cons (pe_call (ok_take (tb := tb) T) (hr.mono (by decide)) rfl T.mg_take (T.fn_take).kp T.bd_take .nil passE (pa_cons (pv 0) (pa_cons pe_int pa_nil))) pa_nil)))))))))
abbrev nm_same : List Str := ["_law_told", "_law_due_here"]
theorem sc_same : FnScope nm_same ["_law_told", "_law_due_here"] (defScope (top 17)) := ⟨rfl, rfl, rfl, by decide +kernel, rfl, by decide +kernel, by decide +kernel⟩
theorem ok_same (T : Txt P K mg a) : FnOk P w K mg base (L2.CX P w) 1 a.f_same a.d_same ["_law_told", "_law_due_here"] (sp_same a.toCl) := by
  refine ok_body T.fn_same sc_same rfl rfl fun cdv A outer s H E hr => ?_
  exact (pss_cons (ps_if (PW.pt (pw_or (pt_val (pe_callB c_isi (by rfl) T.no_isinstance (by decide +kernel) (pa_cons (pv 0) (pa_cons (pe_bltn (v := .ty "bool") (by rfl) T.no_bool (by decide +kernel) rfl) pa_nil)))) (pw_or1 (pt_val (pe_callB c_isi (by rfl) T.no_isinstance (by decide +kernel) (pa_cons (pv 1) (pa_cons (pe_bltn (v := .ty "bool") (by rfl) T.no_bool (by decide +kernel) rfl) pa_nil))))))) (pss_one (ps_ret (pe_and (pe_callB c_isi (by rfl) T.no_isinstance (by decide +kernel) (pa_cons (pv 0) (pa_cons (pe_bltn (v := .ty "bool") (by rfl) T.no_bool (by decide +kernel) rfl) pa_nil))) (pe_and (pe_callB c_isi (by rfl) T.no_isinstance (by decide +kernel) (pa_cons (pv 1) (pa_cons (pe_bltn (v := .ty "bool") (by rfl) T.no_bool (by decide +kernel) rfl) pa_nil))) (pe_one (pe_cmpR (o_eqP T.st hr.units) (pv 0) (pv 1) (nomark _))))))) pss_nil)
    (pss_one (ps_ret (pe_cmpR (o_eqP T.st hr.units) (pv 0) (pv 1) (nomark _)))))
abbrev nm_stranger : List Str := ["_law_bag_here", "_law_name", "_law_way", "_law_place"]
theorem sc_stranger : FnScope nm_stranger ["_law_bag_here"] (defScope (top 18)) := ⟨rfl, rfl, rfl, by decide +kernel, rfl, by decide +kernel, by decide +kernel⟩
theorem ok_stranger (T : Txt P K mg a) : FnOk P w K mg base (L2.CX P w) 2 a.f_stranger a.d_stranger ["_law_bag_here"] (sp_stranger a.toCl) := by
  refine ok_body T.fn_stranger sc_stranger rfl rfl fun cdv A outer s H E hr => ?_
  exact (pss_cons (ps_set (i := 1) sc_stranger.nd rfl (by first | exact Or.inl rfl | exact Or.inr rfl) (pe_ix (o_ix T.st) (pe_call0 (ok_names (tb := tb) T) (hr.mono (by decide)) rfl T.mg_names (T.fn_names).kp T.bd_names .nil passE) (pe_call (ok_take (tb := tb) T) (hr.mono (by decide)) rfl T.mg_take (T.fn_take).kp T.bd_take .nil passE (pa_cons (pv 0) (pa_cons pe_int pa_nil))) (fun _ _ => rfl)))
    (pss_cons (ps_set (i := 2) sc_stranger.nd rfl (by first | exact Or.inl rfl | exact Or.inr rfl) (pe_call (ok_take (tb := tb) T) (hr.mono (by decide)) rfl T.mg_take (T.fn_take).kp T.bd_take .nil passE (pa_cons (pv 0) (pa_cons pe_int pa_nil))))
    (pss_cons (ps_if (pt_cmpR (o_eqP T.st hr.units) (pv 2) pe_int (nomark _)) (pss_one (ps_ret (pe_ix (o_ix T.st) (pe_lst (pa_cons pe_non (pa_cons pe_bl (pa_cons pe_int (pa_cons (pe_tup (pa_cons pe_str pa_nil)) (pa_cons (pe_lst (pa_cons pe_str pa_nil)) (pa_cons pe_dnewK pa_nil))))))) (pe_call (ok_take (tb := tb) T) (hr.mono (by decide)) rfl T.mg_take (T.fn_take).kp T.bd_take .nil passE (pa_cons (pv 0) (pa_cons pe_int pa_nil))) (fun _ _ => rfl)))) pss_nil)
    (pss_cons (ps_if (pt_cmpR (o_eqP T.st hr.units) (pv 2) pe_int (nomark _)) (pss_one (ps_ret pe_str)) pss_nil)
    (pss_cons (ps_if (pt_cmpR (o_eqP T.st hr.units) (pv 2) pe_int (nomark _)) (pss_one (ps_ret (pe_up (pv 1)))) pss_nil)
    (pss_cons (ps_if (pt_cmpR (o_eqP T.st hr.units) (pv 2) pe_int (nomark _)) (pss_cons (ps_set (i := 3) sc_stranger.nd rfl (by first | exact Or.inl rfl | exact Or.inr rfl) (pe_call (ok_take (tb := tb) T) (hr.mono (by decide)) rfl T.mg_take (T.fn_take).kp T.bd_take .nil passE (pa_cons (pv 0) (pa_cons (pe_callB (c_len T.st) (by rfl) T.no_len (by decide +kernel) (pa_cons (pv 1) pa_nil)) pa_nil))))
    (pss_one (ps_ret (pe_op o_add (pe_slice sl_str (pv 1) po_none (po_some (pv 3))) (pe_slice sl_str (pv 1) (po_some (pe_op o_add (pv 3) pe_int)) po_none))))) pss_nil)
    (pss_cons (ps_if (pt_cmpR (o_eqP T.st hr.units) (pv 2) pe_int (nomark _)) (pss_cons (ps_set (i := 3) sc_stranger.nd rfl (by first | exact Or.inl rfl | exact Or.inr rfl) (pe_call (ok_take (tb := tb) T) (hr.mono (by decide)) rfl T.mg_take (T.fn_take).kp T.bd_take .nil passE (pa_cons (pv 0) (pa_cons (pe_op o_add (pe_callB (c_len T.st) (by rfl) T.no_len (by decide +kernel) (pa_cons (pv 1) pa_nil)) pe_int) pa_nil))))
    (pss_one (ps_ret (pe_op o_add (pe_op o_add (pe_slice sl_str (pv 1) po_none (po_some (pv 3))) (pe_ix (o_ix T.st) pe_str (pe_call (ok_take (tb := tb) T) (hr.mono (by decide)) rfl T.mg_take (T.fn_take).kp T.bd_take .nil passE (pa_cons (pv 0) (pa_cons pe_int pa_nil))) (fun _ _ => rfl))) (pe_slice sl_str (pv 1) (po_some (pv 3)) po_none))))) pss_nil)
    (pss_cons (ps_if (pt_cmpR (o_eqP T.st hr.units) (pv 2) pe_int (nomark _)) (pss_one (ps_ret (pe_op o_add (pv 1) (pv 1)))) pss_nil)
    (pss_one (ps_ret pe_str))))))))))
abbrev nm_deed : List Str := ["_law_bag_here", "_law_alarms", "_law_table", "_law_way", "_law_place", "_law_name", "_law_moment_here", "_law_wrong_here", "_law_told", "_law_stranger_here"]
theorem sc_deed : FnScope nm_deed ["_law_bag_here", "_law_alarms", "_law_table"] (defScope (top 22)) := ⟨rfl, rfl, rfl, by decide +kernel, rfl, by decide +kernel, by decide +kernel⟩
theorem ok_deed (T : Txt P K mg a) : FnOk P w K mg base (L2.CX P w) 5 a.f_deed a.d_deed ["_law_bag_here", "_law_alarms", "_law_table"] (sp_deed a.toCl) := by
  refine ok_body T.fn_deed sc_deed rfl rfl fun cdv A outer s H E hr => ?_
  exact (pss_cons (ps_set (i := 3) sc_deed.nd rfl (by first | exact Or.inl rfl | exact Or.inr rfl) (pe_call (ok_take (tb := tb) T) (hr.mono (by decide)) rfl T.mg_take (T.fn_take).kp T.bd_take .nil passE (pa_cons (pv 0) (pa_cons pe_int pa_nil))))
    (pss_cons (ps_set (i := 4) sc_deed.nd rfl (by first | exact Or.inl rfl | exact Or.inr rfl) (pe_call (ok_take (tb := tb) T) (hr.mono (by decide)) rfl T.mg_take (T.fn_take).kp T.bd_take .nil passE (pa_cons (pv 0) (pa_cons pe_int pa_nil))))
    (pss_cons (ps_set (i := 5) sc_deed.nd rfl (by first | exact Or.inl rfl | exact Or.inr rfl) (pe_ix (o_ix T.st) (pe_call0 (ok_names (tb := tb) T) (hr.mono (by decide)) rfl T.mg_names (T.fn_names).kp T.bd_names .nil passE) (pv 4) (fun _ _ => rfl)))
    (pss_cons (ps_if (pt_cmpR o_lt (pv 3) pe_int (nomark _)) (pss_cons (ps_set (i := 6) sc_deed.nd rfl (by first | exact Or.inl rfl | exact Or.inr rfl) (pe_call (ok_moment (tb := tb) T) (hr.mono (by decide)) rfl T.mg_moment (T.fn_moment).kp T.bd_moment .nil passE (pa_cons (pv 0) (pa_cons (pv 2) pa_nil))))
    (pss_cons (ps_asg (pv 6) (pg_sub (pv 2) (pv 4) set_list))
    (pss_one (ps_ret (pe_cmpR (o_eqP T.st hr.units) (pe_call (ok_call (tb := tb) T) (hr.mono (by decide)) rfl T.mg_call (T.fn_call).kp T.bd_call .nil passE (pa_cons (pv 1) (pa_cons pe_int (pa_cons (pv 5) (pa_cons (pv 6) pa_nil))))) (pe_tup (pa_cons pe_str (pa_cons pe_non pa_nil))) (nomark _)))))) pss_nil)
    (pss_cons (ps_if (pt_cmpR (o_eqP T.st hr.units) (pv 3) pe_int (nomark _)) (pss_cons (ps_asg pe_non (pg_sub (pv 2) (pv 4) set_list))
    (pss_one (ps_ret (pe_cmpR (o_eqP T.st hr.units) (pe_call (ok_call (tb := tb) T) (hr.mono (by decide)) rfl T.mg_call (T.fn_call).kp T.bd_call .nil passE (pa_cons (pv 1) (pa_cons pe_int (pa_cons (pv 5) (pa_cons pe_int pa_nil))))) (pe_tup (pa_cons pe_str (pa_cons pe_non pa_nil))) (nomark _))))) pss_nil)
    (pss_cons (ps_if (pt_cmpR (o_eqP T.st hr.units) (pv 3) pe_int (nomark _)) (pss_cons (ps_set (i := 7) sc_deed.nd rfl (by first | exact Or.inl rfl | exact Or.inr rfl) (pe_call (ok_wrong (tb := tb) T) (hr.mono (by decide)) rfl T.mg_wrong (T.fn_wrong).kp T.bd_wrong .nil passE (pa_cons (pv 0) pa_nil)))
    (pss_cons (ps_set (i := 8) sc_deed.nd rfl (by first | exact Or.inl rfl | exact Or.inr rfl) (pe_call (ok_call (tb := tb) T) (hr.mono (by decide)) rfl T.mg_call (T.fn_call).kp T.bd_call .nil passE (pa_cons (pv 1) (pa_cons pe_int (pa_cons (pv 5) (pa_cons (pv 7) pa_nil))))))
    (pss_one (ps_ret (pe_and (pe_cmpR (o_eqP T.st hr.units) (pe_ix (o_ix T.st) (pv 8) pe_int (fun _ _ => rfl)) pe_str (nomark _)) (pe_one (pe_call (ok_same (tb := tb) T) (hr.mono (by decide)) rfl T.mg_same (T.fn_same).kp T.bd_same .nil passE (pa_cons (pe_ix (o_ix T.st) (pv 8) pe_int (fun _ _ => rfl)) (pa_cons (pv 7) pa_nil))))))))) pss_nil)
    (pss_cons (ps_set (i := 9) sc_deed.nd rfl (by first | exact Or.inl rfl | exact Or.inr rfl) (pe_call (ok_stranger (tb := tb) T) (hr.mono (by decide)) rfl T.mg_stranger (T.fn_stranger).kp T.bd_stranger .nil passE (pa_cons (pv 0) pa_nil)))
    (pss_cons (ps_if (pt_cmpR (o_eqP T.st hr.units) (pv 3) pe_int (nomark _)) (pss_one (ps_ret (pe_cmpR (o_eqT T.st hr.units) (pe_call (ok_call (tb := tb) T) (hr.mono (by decide)) rfl T.mg_call (T.fn_call).kp T.bd_call .nil passE (pa_cons (pv 1) (pa_cons (pe_op o_add pe_int (pe_call (ok_take (tb := tb) T) (hr.mono (by decide)) rfl T.mg_take (T.fn_take).kp T.bd_take .nil passE (pa_cons (pv 0) (pa_cons pe_int pa_nil)))) (pa_cons (pv 9) (pa_cons pe_int pa_nil))))) (pe_tup (pa_cons pe_str (pa_cons (pv 9) pa_nil))) (nomark _)))) pss_nil)
    (pss_cons (ps_set (i := 6) sc_deed.nd rfl (by first | exact Or.inl rfl | exact Or.inr rfl) (pe_call (ok_moment (tb := tb) T) (hr.mono (by decide)) rfl T.mg_moment (T.fn_moment).kp T.bd_moment .nil passE (pa_cons (pv 0) (pa_cons (pv 2) pa_nil))))
    (pss_cons (ps_if (pt_cmpR (o_eqP T.st hr.units) (pe_call (ok_take (tb := tb) T) (hr.mono (by decide)) rfl T.mg_take (T.fn_take).kp T.bd_take .nil passE (pa_cons (pv 0) (pa_cons pe_int pa_nil))) pe_int (nomark _)) (pss_one (ps_set (i := 6) sc_deed.nd rfl (by first | exact Or.inl rfl | exact Or.inr rfl) (pe_call (ok_wrong (tb := tb) T) (hr.mono (by decide)) rfl T.mg_wrong (T.fn_wrong).kp T.bd_wrong .nil passE (pa_cons (pv 0) pa_nil)))) pss_nil)
    (pss_one (ps_ret (pe_cmpR (o_eqT T.st hr.units) (pe_call (ok_call (tb := tb) T) (hr.mono (by decide)) rfl T.mg_call (T.fn_call).kp T.bd_call .nil passE (pa_cons (pv 1) (pa_cons pe_int (pa_cons (pv 9) (pa_cons (pv 6) pa_nil))))) (pe_tup (pa_cons pe_str (pa_cons (pv 9) pa_nil))) (nomark _))))))))))))))
abbrev nm_law : List Str := ["_law_script", "_law_bag_here", "_law_turns", "_law_pair", "_law_tables", "_law_turn", "_law_side"]
theorem sc_law : FnScope nm_law ["_law_script"] (defScope (top 27)) := ⟨rfl, rfl, rfl, by decide +kernel, rfl, by decide +kernel, by decide +kernel⟩
theorem ok_law (T : Txt P K mg a) : FnOk P w K mg base (L2.CX P w) 6 a.f_law a.d_law ["_law_script"] (sp_law a.toCl) := by
  refine ok_body T.fn_law sc_law rfl rfl fun cdv A outer s H E hr => ?_
  exact (pss_cons (ps_set (i := 1) sc_law.nd rfl (by first | exact Or.inl rfl | exact Or.inr rfl) (pe_call (ok_bag (tb := tb) T) (hr.mono (by decide)) rfl T.mg_bag (T.fn_bag).kp T.bd_bag .nil passE (pa_cons (pv 0) pa_nil)))
    (pss_cons (ps_set (i := 2) sc_law.nd rfl (by first | exact Or.inl rfl | exact Or.inr rfl) (pe_op o_add pe_int (pe_call (ok_take (tb := tb) T) (hr.mono (by decide)) rfl T.mg_take (T.fn_take).kp T.bd_take .nil passE (pa_cons (pv 1) (pa_cons pe_int pa_nil)))))
    (pss_cons (ps_if (PW.pt (pw_or (pt_not (pt_val (pe_callB (c_isS T.st) (by rfl) T.no_isinstance (by decide +kernel) (pa_cons (pe_stat T.mg_ALARMS rfl) (pa_cons (pe_bltn (v := .ty "tuple") (by rfl) T.no_tuple (by decide +kernel) rfl) pa_nil))))) (pw_or1 (pt_cmpR (o_neP T.st hr.units) (pe_stat T.mg_ALARMS rfl) (pe_call0 (ok_names (tb := tb) T) (hr.mono (by decide)) rfl T.mg_names (T.fn_names).kp T.bd_names .nil passE) (nomark _))))) (pss_one (ps_ret pe_bl)) pss_nil)
    (pss_cons (ps_set (i := 3) sc_law.nd rfl (by first | exact Or.inl rfl | exact Or.inr rfl) (pe_lst (pa_cons (pe_make0 T.mk_Alarms (ok_Alarms___init__ (tb := tb) T) (hr.mono (by decide)) rfl T.mg_Alarms T.bd_Alarms___init__ .nil passE ) (pa_cons (pe_make0 T.mk_Alarms (ok_Alarms___init__ (tb := tb) T) (hr.mono (by decide)) rfl T.mg_Alarms T.bd_Alarms___init__ .nil passE ) pa_nil))))
    (pss_cons (ps_set (i := 4) sc_law.nd rfl (by first | exact Or.inl rfl | exact Or.inr rfl) (pe_lst (pa_cons (pe_op op_rep (pe_lst (pa_cons pe_non pa_nil)) pe_int) (pa_cons (pe_op op_rep (pe_lst (pa_cons pe_non pa_nil)) pe_int) pa_nil))))
    (pss_cons (ps_forR1 (passes_of rfl) rfl rfl T.no_range (pv 2) (pg_name (i := 5) sc_law.nd rfl (by first | exact Or.inl rfl | exact Or.inr rfl)) (pss_cons (ps_if (PW.pt (pw_or (pt_cmpR (o_eqP T.st hr.units) (pv 5) pe_int (nomark _)) (pw_or1 (pt_cmpR o_gt (pe_call (ok_take (tb := tb) T) (hr.mono (by decide)) rfl T.mg_take (T.fn_take).kp T.bd_take .nil passE (pa_cons (pv 1) (pa_cons pe_int pa_nil))) pe_int (nomark _))))) (pss_one (ps_if (PW.pt (pw_or (pt_not (pt_val (pe_call (ok_agrees (tb := tb) T) (hr.mono (by decide)) rfl T.mg_agrees (T.fn_agrees).kp T.bd_agrees .nil passE (pa_cons (pe_ix (o_ix T.st) (pv 3) pe_int (fun _ _ => rfl)) (pa_cons (pe_ix (o_ix T.st) (pv 4) pe_int (fun _ _ => rfl)) pa_nil))))) (pw_or1 (pt_not (pt_val (pe_call (ok_agrees (tb := tb) T) (hr.mono (by decide)) rfl T.mg_agrees (T.fn_agrees).kp T.bd_agrees .nil passE (pa_cons (pe_ix (o_ix T.st) (pv 3) pe_int (fun _ _ => rfl)) (pa_cons (pe_ix (o_ix T.st) (pv 4) pe_int (fun _ _ => rfl)) pa_nil)))))))) (pss_one (ps_ret pe_bl)) pss_nil)) pss_nil)
    (pss_cons (ps_set (i := 6) sc_law.nd rfl (by first | exact Or.inl rfl | exact Or.inr rfl) (pe_call (ok_take (tb := tb) T) (hr.mono (by decide)) rfl T.mg_take (T.fn_take).kp T.bd_take .nil passE (pa_cons (pv 1) (pa_cons pe_int pa_nil))))
    (pss_one (ps_if (pt_not (pt_val (pe_call (ok_deed (tb := tb) T) (hr.mono (by decide)) rfl T.mg_deed (T.fn_deed).kp T.bd_deed .nil passE (pa_cons (pv 1) (pa_cons (pe_ix (o_ix T.st) (pv 3) (pv 6) (fun _ _ => rfl)) (pa_cons (pe_ix (o_ix T.st) (pv 4) (pv 6) (fun _ _ => rfl)) pa_nil)))))) (pss_one (ps_ret pe_bl)) pss_nil)))))
    (pss_one (ps_ret (pe_and (pe_call (ok_agrees (tb := tb) T) (hr.mono (by decide)) rfl T.mg_agrees (T.fn_agrees).kp T.bd_agrees .nil passE (pa_cons (pe_ix (o_ix T.st) (pv 3) pe_int (fun _ _ => rfl)) (pa_cons (pe_ix (o_ix T.st) (pv 4) pe_int (fun _ _ => rfl)) pa_nil))) (pe_one (pe_call (ok_agrees (tb := tb) T) (hr.mono (by decide)) rfl T.mg_agrees (T.fn_agrees).kp T.bd_agrees .nil passE (pa_cons (pe_ix (o_ix T.st) (pv 3) pe_int (fun _ _ => rfl)) (pa_cons (pe_ix (o_ix T.st) (pv 4) pe_int (fun _ _ => rfl)) pa_nil)))))))))))))
end
/-! ### what the top has written -/
theorem useFn {R : Prop} {K : PySem.W.Frag} {h : Heap} {mg : Str → Option Value} (X : K.In h) (G : h.Ns mainGlobals mg) {x : Str} {st : Stmt} {f : Addr} {ps : List Str} {oc kV doc pm cd ct : Value} {od an : Option Addr} {sl : Array (Option Value)}
    (n : PySem.W.nsIn K mainGlobals x = some (some (.ref f))) (l : K.lookup f = some ⟨oc, od, .func (PySem.W.fnOf x x (defArgs st) (defBody st) (defScope st) .none kV doc pm an cd ct), sl⟩) (c : PySem.W.codeIn K cd x = true) (k : PySem.W.keepIn K (.ref f) = true)
    (hb : ∀ (kV doc pm : Value) (an : Option Addr) (cdv ct : Value) (us : List Value), us.length = ps.length → bindArgs (PySem.W.fnOf x x (defArgs st) (defBody st) (defScope st) .none kV doc pm an cdv ct) ⟨us, []⟩ = pure (ps.zip us))
    (r : ∀ (f : Addr) (fd : FuncData), mg x = some (.ref f) → Fun K x x st f fd → (∀ us : List Value, us.length = ps.length → bindArgs fd ⟨us, []⟩ = pure (ps.zip us)) → R) : R :=
  r f _ (PySem.W.mg_of X G n) (fun_mk l c k) fun us hl => hb kV doc pm an cd ct us hl
theorem useConst {R : Prop} {K : PySem.W.Frag} {h : Heap} {mg : Str → Option Value} (X : K.In h) (G : h.Ns mainGlobals mg) {x : Str} {i : Int} {t : Tok} (n : PySem.W.nsIn K mainGlobals x = some (some (.int i t))) (r : (∃ t, mg x = some (.int i t)) → R) : R := r ⟨t, PySem.W.mg_of X G n⟩
theorem useConstS {R : Prop} {K : PySem.W.Frag} {h : Heap} {mg : Str → Option Value} (X : K.In h) (G : h.Ns mainGlobals mg) {x : Str} {i : Str} {t : Tok} (n : PySem.W.nsIn K mainGlobals x = some (some (.str i t))) (r : (∃ t, mg x = some (.str i t)) → R) : R := r ⟨t, PySem.W.mg_of X G n⟩
theorem useC_Alarms {R : Prop} {K : PySem.W.Frag} {h : Heap} {mg : Str → Option Value} {P : Program} (X : K.In h) (G : h.Ns mainGlobals mg) {c_Alarms : Addr} {f_Alarms___init__ : Addr} {oc_Alarms___init__ doc_Alarms___init__ pm_Alarms___init__ ct_Alarms___init__ : Value} {od_Alarms___init__ an_Alarms___init__ : Option Addr} {sl_Alarms___init__ : Array (Option Value)} {kV_Alarms___init__ : Value} {cd_Alarms___init__ : Value} {f_Alarms_when : Addr} {oc_Alarms_when doc_Alarms_when pm_Alarms_when ct_Alarms_when : Value} {od_Alarms_when an_Alarms_when : Option Addr} {sl_Alarms_when : Array (Option Value)} {kV_Alarms_when : Value} {cd_Alarms_when : Value} {f_Alarms___contains__ : Addr} {oc_Alarms___contains__ doc_Alarms___contains__ pm_Alarms___contains__ ct_Alarms___contains__ : Value} {od_Alarms___contains__ an_Alarms___contains__ : Option Addr} {sl_Alarms___contains__ : Array (Option Value)} {kV_Alarms___contains__ : Value} {cd_Alarms___contains__ : Value} {f_Alarms_soonest : Addr} {oc_Alarms_soonest doc_Alarms_soonest pm_Alarms_soonest ct_Alarms_soonest : Value} {od_Alarms_soonest an_Alarms_soonest : Option Addr} {sl_Alarms_soonest : Array (Option Value)} {kV_Alarms_soonest : Value} {cd_Alarms_soonest : Value} {f_Alarms___len__ : Addr} {oc_Alarms___len__ doc_Alarms___len__ pm_Alarms___len__ ct_Alarms___len__ : Value} {od_Alarms___len__ an_Alarms___len__ : Option Addr} {sl_Alarms___len__ : Array (Option Value)} {kV_Alarms___len__ : Value} {cd_Alarms___len__ : Value} {f_Alarms_due : Addr} {oc_Alarms_due doc_Alarms_due pm_Alarms_due ct_Alarms_due : Value} {od_Alarms_due an_Alarms_due : Option Addr} {sl_Alarms_due : Array (Option Value)} {kV_Alarms_due : Value} {kc_Alarms_due tb_Alarms_due : Addr} {odk_Alarms_due : Option Addr} {vk_Alarms_due : Array Value} {slk_Alarms_due : Array (Option Value)} {fik_Alarms_due : Str} {tk0_Alarms_due tk1_Alarms_due tk2_Alarms_due : Tok} {in0_Alarms_due in1_Alarms_due : Int} {bk_Alarms_due : Bool} {f_Alarms_arm : Addr} {oc_Alarms_arm doc_Alarms_arm pm_Alarms_arm ct_Alarms_arm : Value} {od_Alarms_arm an_Alarms_arm : Option Addr} {sl_Alarms_arm : Array (Option Value)} {kV_Alarms_arm : Value} {cd_Alarms_arm : Value} {f_Alarms_disarm : Addr} {oc_Alarms_disarm doc_Alarms_disarm pm_Alarms_disarm ct_Alarms_disarm : Value} {od_Alarms_disarm an_Alarms_disarm : Option Addr} {sl_Alarms_disarm : Array (Option Value)} {kV_Alarms_disarm : Value} {cd_Alarms_disarm : Value}
    (n_Alarms : PySem.W.nsIn K mainGlobals "Alarms" = some (some (.ref c_Alarms)))
    (hd_Alarms : PySem.W.hasDictIn K c_Alarms = true)
    (pg_Alarms : PySem.W.plainGet K c_Alarms Str.empty = true)
    (po_Alarms : PySem.W.plainOver K c_Alarms = true)
    (sa_Alarms : PySem.W.findIn K (.ref c_Alarms) "__setattr__" = some (some (.builtin "object.__setattr__")))
    (mk_Alarms : PySem.W.makesIn K c_Alarms = true)
    (kc_Alarms : PySem.W.keepIn K (.ref c_Alarms) = true)
    (na_Alarms_times : PySem.W.findIn K (.ref c_Alarms) "times" = some none)
    (n_Alarms___init__ : PySem.W.findIn K (.ref c_Alarms) "__init__" = some (some (.ref f_Alarms___init__)))
    (i_Alarms___init__ : PySem.W.isFn K (.ref f_Alarms___init__) = true)
    (l_Alarms___init__ : K.lookup f_Alarms___init__ = some ⟨oc_Alarms___init__, od_Alarms___init__, .func (PySem.W.fnOf "__init__" "Alarms.__init__" (defArgs (inClass (top 9) 0)) (defBody (inClass (top 9) 0)) (defScope (inClass (top 9) 0)) .none kV_Alarms___init__ doc_Alarms___init__ pm_Alarms___init__ an_Alarms___init__ cd_Alarms___init__ ct_Alarms___init__), sl_Alarms___init__⟩)
    (c_Alarms___init__ : PySem.W.codeIn K cd_Alarms___init__ "Alarms.__init__" = true)
    (k_Alarms___init__ : PySem.W.keepIn K (.ref f_Alarms___init__) = true)
    (n_Alarms_when : PySem.W.findIn K (.ref c_Alarms) "when" = some (some (.ref f_Alarms_when)))
    (i_Alarms_when : PySem.W.isFn K (.ref f_Alarms_when) = true)
    (l_Alarms_when : K.lookup f_Alarms_when = some ⟨oc_Alarms_when, od_Alarms_when, .func (PySem.W.fnOf "when" "Alarms.when" (defArgs (inClass (top 9) 3)) (defBody (inClass (top 9) 3)) (defScope (inClass (top 9) 3)) .none kV_Alarms_when doc_Alarms_when pm_Alarms_when an_Alarms_when cd_Alarms_when ct_Alarms_when), sl_Alarms_when⟩)
    (c_Alarms_when : PySem.W.codeIn K cd_Alarms_when "Alarms.when" = true)
    (k_Alarms_when : PySem.W.keepIn K (.ref f_Alarms_when) = true)
    (n_Alarms___contains__ : PySem.W.findIn K (.ref c_Alarms) "__contains__" = some (some (.ref f_Alarms___contains__)))
    (i_Alarms___contains__ : PySem.W.isFn K (.ref f_Alarms___contains__) = true)
    (l_Alarms___contains__ : K.lookup f_Alarms___contains__ = some ⟨oc_Alarms___contains__, od_Alarms___contains__, .func (PySem.W.fnOf "__contains__" "Alarms.__contains__" (defArgs (inClass (top 9) 6)) (defBody (inClass (top 9) 6)) (defScope (inClass (top 9) 6)) .none kV_Alarms___contains__ doc_Alarms___contains__ pm_Alarms___contains__ an_Alarms___contains__ cd_Alarms___contains__ ct_Alarms___contains__), sl_Alarms___contains__⟩)
    (c_Alarms___contains__ : PySem.W.codeIn K cd_Alarms___contains__ "Alarms.__contains__" = true)
    (k_Alarms___contains__ : PySem.W.keepIn K (.ref f_Alarms___contains__) = true)
    (n_Alarms_soonest : PySem.W.findIn K (.ref c_Alarms) "soonest" = some (some (.ref f_Alarms_soonest)))
    (i_Alarms_soonest : PySem.W.isFn K (.ref f_Alarms_soonest) = true)
    (l_Alarms_soonest : K.lookup f_Alarms_soonest = some ⟨oc_Alarms_soonest, od_Alarms_soonest, .func (PySem.W.fnOf "soonest" "Alarms.soonest" (defArgs (inClass (top 9) 5)) (defBody (inClass (top 9) 5)) (defScope (inClass (top 9) 5)) .none kV_Alarms_soonest doc_Alarms_soonest pm_Alarms_soonest an_Alarms_soonest cd_Alarms_soonest ct_Alarms_soonest), sl_Alarms_soonest⟩)
    (c_Alarms_soonest : PySem.W.codeIn K cd_Alarms_soonest "Alarms.soonest" = true)
    (k_Alarms_soonest : PySem.W.keepIn K (.ref f_Alarms_soonest) = true)
    (n_Alarms___len__ : PySem.W.findIn K (.ref c_Alarms) "__len__" = some (some (.ref f_Alarms___len__)))
    (i_Alarms___len__ : PySem.W.isFn K (.ref f_Alarms___len__) = true)
    (l_Alarms___len__ : K.lookup f_Alarms___len__ = some ⟨oc_Alarms___len__, od_Alarms___len__, .func (PySem.W.fnOf "__len__" "Alarms.__len__" (defArgs (inClass (top 9) 7)) (defBody (inClass (top 9) 7)) (defScope (inClass (top 9) 7)) .none kV_Alarms___len__ doc_Alarms___len__ pm_Alarms___len__ an_Alarms___len__ cd_Alarms___len__ ct_Alarms___len__), sl_Alarms___len__⟩)
    (c_Alarms___len__ : PySem.W.codeIn K cd_Alarms___len__ "Alarms.__len__" = true)
    (k_Alarms___len__ : PySem.W.keepIn K (.ref f_Alarms___len__) = true)
    (n_Alarms_due : PySem.W.findIn K (.ref c_Alarms) "due" = some (some (.ref f_Alarms_due)))
    (i_Alarms_due : PySem.W.isFn K (.ref f_Alarms_due) = true)
    (l_Alarms_due : K.lookup f_Alarms_due = some ⟨oc_Alarms_due, od_Alarms_due, .func (PySem.W.fnOf "due" "Alarms.due" (defArgs (inClass (top 9) 4)) (defBody (inClass (top 9) 4)) (defScope (inClass (top 9) 4)) .none kV_Alarms_due doc_Alarms_due pm_Alarms_due an_Alarms_due (.ref kc_Alarms_due) ct_Alarms_due), sl_Alarms_due⟩)
    (c_Alarms_due : PySem.W.codeIn K (.ref kc_Alarms_due) "Alarms.due" = true)
    (k_Alarms_due : PySem.W.keepIn K (.ref f_Alarms_due) = true)
    (lk_Alarms_due : K.lookup kc_Alarms_due = some ⟨.type "code", odk_Alarms_due, .fields vk_Alarms_due, slk_Alarms_due⟩)
    (la_Alarms_due : vk_Alarms_due[11]? = some (.ref tb_Alarms_due))
    (lb_Alarms_due : vk_Alarms_due.getD 11 .none = .ref tb_Alarms_due)
    (lc_Alarms_due : vk_Alarms_due.getD 18 .none = .str fik_Alarms_due tk0_Alarms_due)
    (ld_Alarms_due : vk_Alarms_due.getD 7 .none = .int in0_Alarms_due tk1_Alarms_due)
    (le_Alarms_due : vk_Alarms_due.getD 9 .none = .bool bk_Alarms_due)
    (lf_Alarms_due : vk_Alarms_due.getD 10 .none = .int in1_Alarms_due tk2_Alarms_due)
    (ln_Alarms_due : kc_Alarms_due ≠ tb_Alarms_due)
    (n_Alarms_arm : PySem.W.findIn K (.ref c_Alarms) "arm" = some (some (.ref f_Alarms_arm)))
    (i_Alarms_arm : PySem.W.isFn K (.ref f_Alarms_arm) = true)
    (l_Alarms_arm : K.lookup f_Alarms_arm = some ⟨oc_Alarms_arm, od_Alarms_arm, .func (PySem.W.fnOf "arm" "Alarms.arm" (defArgs (inClass (top 9) 1)) (defBody (inClass (top 9) 1)) (defScope (inClass (top 9) 1)) .none kV_Alarms_arm doc_Alarms_arm pm_Alarms_arm an_Alarms_arm cd_Alarms_arm ct_Alarms_arm), sl_Alarms_arm⟩)
    (c_Alarms_arm : PySem.W.codeIn K cd_Alarms_arm "Alarms.arm" = true)
    (k_Alarms_arm : PySem.W.keepIn K (.ref f_Alarms_arm) = true)
    (n_Alarms_disarm : PySem.W.findIn K (.ref c_Alarms) "disarm" = some (some (.ref f_Alarms_disarm)))
    (i_Alarms_disarm : PySem.W.isFn K (.ref f_Alarms_disarm) = true)
    (l_Alarms_disarm : K.lookup f_Alarms_disarm = some ⟨oc_Alarms_disarm, od_Alarms_disarm, .func (PySem.W.fnOf "disarm" "Alarms.disarm" (defArgs (inClass (top 9) 2)) (defBody (inClass (top 9) 2)) (defScope (inClass (top 9) 2)) .none kV_Alarms_disarm doc_Alarms_disarm pm_Alarms_disarm an_Alarms_disarm cd_Alarms_disarm ct_Alarms_disarm), sl_Alarms_disarm⟩)
    (c_Alarms_disarm : PySem.W.codeIn K cd_Alarms_disarm "Alarms.disarm" = true)
    (k_Alarms_disarm : PySem.W.keepIn K (.ref f_Alarms_disarm) = true)
    (r : ∀ (c_Alarms : Addr) (f_Alarms___init__ : Addr) (d_Alarms___init__ : FuncData) (f_Alarms_when : Addr) (d_Alarms_when : FuncData) (f_Alarms___contains__ : Addr) (d_Alarms___contains__ : FuncData) (f_Alarms_soonest : Addr) (d_Alarms_soonest : FuncData) (f_Alarms___len__ : Addr) (d_Alarms___len__ : FuncData) (f_Alarms_due : Addr) (d_Alarms_due : FuncData) (kc_Alarms_due : Addr) (f_Alarms_arm : Addr) (d_Alarms_arm : FuncData) (f_Alarms_disarm : Addr) (d_Alarms_disarm : FuncData), (Fun K "__init__" "Alarms.__init__" (inClass (top 9) 0) f_Alarms___init__ d_Alarms___init__) → (Binds K d_Alarms___init__ ["self"] []) → (Fun K "when" "Alarms.when" (inClass (top 9) 3) f_Alarms_when d_Alarms_when) → (Binds K d_Alarms_when ["self", "name"] []) → (Fun K "__contains__" "Alarms.__contains__" (inClass (top 9) 6) f_Alarms___contains__ d_Alarms___contains__) → (Binds K d_Alarms___contains__ ["self", "name"] []) → (Fun K "soonest" "Alarms.soonest" (inClass (top 9) 5) f_Alarms_soonest d_Alarms_soonest) → (Binds K d_Alarms_soonest ["self"] []) → (Fun K "__len__" "Alarms.__len__" (inClass (top 9) 7) f_Alarms___len__ d_Alarms___len__) → (Binds K d_Alarms___len__ ["self"] []) → (PySem.W.CodeHd h kc_Alarms_due tb_Alarms_due) → (FunT K "due" "Alarms.due" (inClass (top 9) 4) f_Alarms_due d_Alarms_due kc_Alarms_due) → (Binds K d_Alarms_due ["self", "now"] []) → (Fun K "arm" "Alarms.arm" (inClass (top 9) 1) f_Alarms_arm d_Alarms_arm) → (Binds K d_Alarms_arm ["self", "name", "when"] []) → (Fun K "disarm" "Alarms.disarm" (inClass (top 9) 2) f_Alarms_disarm d_Alarms_disarm) → (Binds K d_Alarms_disarm ["self", "name"] []) → (Cls K c_Alarms) → (NoAttr K c_Alarms "times") → (Mk K c_Alarms f_Alarms___init__) → (mg "Alarms" = some (.ref c_Alarms)) → (Meth K c_Alarms "when" f_Alarms_when) → (Meth K c_Alarms "__contains__" f_Alarms___contains__) → (Meth K c_Alarms "soonest" f_Alarms_soonest) → (Meth K c_Alarms "__len__" f_Alarms___len__) → (Meth K c_Alarms "due" f_Alarms_due) → (Meth K c_Alarms "arm" f_Alarms_arm) → (Meth K c_Alarms "disarm" f_Alarms_disarm) → R) : R :=
  r c_Alarms f_Alarms___init__ _ f_Alarms_when _ f_Alarms___contains__ _ f_Alarms_soonest _ f_Alarms___len__ _ f_Alarms_due _ kc_Alarms_due f_Alarms_arm _ f_Alarms_disarm _ (fun_mk l_Alarms___init__ c_Alarms___init__ k_Alarms___init__) ((fun_mk (st := inClass (top 9) 0) l_Alarms___init__ c_Alarms___init__ k_Alarms___init__).binds (ps := ["self"]) (fun _ _ _ _ _ _ us hl => match us, hl with | [_], _ => rfl)) (fun_mk l_Alarms_when c_Alarms_when k_Alarms_when) ((fun_mk (st := inClass (top 9) 3) l_Alarms_when c_Alarms_when k_Alarms_when).binds (ps := ["self", "name"]) (fun _ _ _ _ _ _ us hl => match us, hl with | [_, _], _ => rfl)) (fun_mk l_Alarms___contains__ c_Alarms___contains__ k_Alarms___contains__) ((fun_mk (st := inClass (top 9) 6) l_Alarms___contains__ c_Alarms___contains__ k_Alarms___contains__).binds (ps := ["self", "name"]) (fun _ _ _ _ _ _ us hl => match us, hl with | [_, _], _ => rfl)) (fun_mk l_Alarms_soonest c_Alarms_soonest k_Alarms_soonest) ((fun_mk (st := inClass (top 9) 5) l_Alarms_soonest c_Alarms_soonest k_Alarms_soonest).binds (ps := ["self"]) (fun _ _ _ _ _ _ us hl => match us, hl with | [_], _ => rfl)) (fun_mk l_Alarms___len__ c_Alarms___len__ k_Alarms___len__) ((fun_mk (st := inClass (top 9) 7) l_Alarms___len__ c_Alarms___len__ k_Alarms___len__).binds (ps := ["self"]) (fun _ _ _ _ _ _ us hl => match us, hl with | [_], _ => rfl)) (codeHd_of X lk_Alarms_due la_Alarms_due lb_Alarms_due lc_Alarms_due ld_Alarms_due le_Alarms_due lf_Alarms_due ln_Alarms_due) (funT_mk l_Alarms_due c_Alarms_due k_Alarms_due) ((fun_mk (st := inClass (top 9) 4) l_Alarms_due c_Alarms_due k_Alarms_due).binds (ps := ["self", "now"]) (fun _ _ _ _ _ _ us hl => match us, hl with | [_, _], _ => rfl)) (fun_mk l_Alarms_arm c_Alarms_arm k_Alarms_arm) ((fun_mk (st := inClass (top 9) 1) l_Alarms_arm c_Alarms_arm k_Alarms_arm).binds (ps := ["self", "name", "when"]) (fun _ _ _ _ _ _ us hl => match us, hl with | [_, _, _], _ => rfl)) (fun_mk l_Alarms_disarm c_Alarms_disarm k_Alarms_disarm) ((fun_mk (st := inClass (top 9) 2) l_Alarms_disarm c_Alarms_disarm k_Alarms_disarm).binds (ps := ["self", "name"]) (fun _ _ _ _ _ _ us hl => match us, hl with | [_, _], _ => rfl)) (⟨pg_Alarms, hd_Alarms, po_Alarms, sa_Alarms⟩) (na_Alarms_times) (⟨mk_Alarms, n_Alarms___init__, i_Alarms___init__, kc_Alarms⟩) (PySem.W.mg_of X G n_Alarms) (⟨n_Alarms_when, i_Alarms_when, k_Alarms_when⟩) (⟨n_Alarms___contains__, i_Alarms___contains__, k_Alarms___contains__⟩) (⟨n_Alarms_soonest, i_Alarms_soonest, k_Alarms_soonest⟩) (⟨n_Alarms___len__, i_Alarms___len__, k_Alarms___len__⟩) (⟨n_Alarms_due, i_Alarms_due, k_Alarms_due⟩) (⟨n_Alarms_arm, i_Alarms_arm, k_Alarms_arm⟩) (⟨n_Alarms_disarm, i_Alarms_disarm, k_Alarms_disarm⟩)
theorem useExc {K : PySem.W.Frag} {h : Heap} {mg : Str → Option Value} {P : Program} {R : Prop} {c_InvalidSetting : Addr} {nm_InvalidSetting q_InvalidSetting : Str} {N_InvalidSetting : Addr} {bs_InvalidSetting bm_InvalidSetting : List Value} {sn_InvalidSetting : List Str} {sub_InvalidSetting : List Value} {ab_InvalidSetting : Bool} {col_InvalidSetting : Option Bool} {dd_InvalidSetting : Option Addr} {m0_InvalidSetting m1_InvalidSetting m2_InvalidSetting m3_InvalidSetting m5_InvalidSetting : Option Value} {c_InvalidNumber : Addr} {nm_InvalidNumber q_InvalidNumber : Str} {N_InvalidNumber : Addr} {bs_InvalidNumber bm_InvalidNumber : List Value} {sn_InvalidNumber : List Str} {sub_InvalidNumber : List Value} {ab_InvalidNumber : Bool} {col_InvalidNumber : Option Bool} {dd_InvalidNumber : Option Addr} {m0_InvalidNumber m1_InvalidNumber m2_InvalidNumber m3_InvalidNumber m5_InvalidNumber : Option Value} {c_LossError : Addr} {f_InvalidSetting_i : Addr} {oc_InvalidSetting_i kV_InvalidSetting_i doc_InvalidSetting_i pm_InvalidSetting_i ct_InvalidSetting_i cl_InvalidSetting_i ccl_InvalidSetting_i : Value} {od_InvalidSetting_i an_InvalidSetting_i cld_InvalidSetting_i cdd_InvalidSetting_i : Option Addr} {sl_InvalidSetting_i csl_InvalidSetting_i ccs_InvalidSetting_i : Array (Option Value)} {cda_InvalidSetting_i cc_InvalidSetting_i : Addr} {vs_InvalidSetting_i : Array Value} {file_InvalidSetting_i : Str} {tf_InvalidSetting_i : Tok} {f_InvalidNumber_i : Addr} {oc_InvalidNumber_i kV_InvalidNumber_i doc_InvalidNumber_i pm_InvalidNumber_i ct_InvalidNumber_i cl_InvalidNumber_i ccl_InvalidNumber_i : Value} {od_InvalidNumber_i an_InvalidNumber_i cld_InvalidNumber_i cdd_InvalidNumber_i : Option Addr} {sl_InvalidNumber_i csl_InvalidNumber_i ccs_InvalidNumber_i : Array (Option Value)} {cda_InvalidNumber_i cc_InvalidNumber_i : Addr} {vs_InvalidNumber_i : Array Value} {file_InvalidNumber_i : Str} {tf_InvalidNumber_i : Tok} (X : K.In h) (G : h.Ns mainGlobals mg)
    (opq : PySem.W.nsIn K PySem.cStatics "thirdparty.any" = some none)
    (hn : PySem.W.specialIn K (.builtin "object.__class__") "__get__" = some (some (.builtin "getset_descriptor.__get__")))
    (ht : PySem.W.takesIn K (.builtin "object.__class__") = some true)
    (n_InvalidSetting : PySem.W.nsIn K mainGlobals "InvalidSetting" = some (some (.ref c_InvalidSetting)))
    (eC_InvalidSetting : PySem.W.subIn K (.ref c_InvalidSetting) (.type "BaseException") = some true)
    (tC_InvalidSetting : PySem.W.typeIn K (.ref c_InvalidSetting) = some (.type "type"))
    (hC_InvalidSetting : PySem.W.hasDictIn K c_InvalidSetting = true)
    (l_InvalidSetting : K.lookup c_InvalidSetting = some (excClassObj nm_InvalidSetting q_InvalidSetting c_InvalidSetting N_InvalidSetting bs_InvalidSetting bm_InvalidSetting true sn_InvalidSetting sub_InvalidSetting ab_InvalidSetting col_InvalidSetting dd_InvalidSetting m0_InvalidSetting m1_InvalidSetting m2_InvalidSetting m3_InvalidSetting m5_InvalidSetting "ValueError.__new__"))
    (hb_InvalidSetting : PySem.HandSPX.refsVE bm_InvalidSetting = true)
    (sa_InvalidSetting : PySem.W.findIn K (.ref c_InvalidSetting) "__setattr__" = some (some (.builtin "object.__setattr__")))
    (kC_InvalidSetting : PySem.W.keepIn K (.ref c_InvalidSetting) = true)
    (ga_InvalidSetting : PySem.W.findIn K (.ref c_InvalidSetting) "__getattribute__" = some (some (.builtin "BaseException.__getattribute__")))
    (gg_InvalidSetting : PySem.W.findIn K (.ref c_InvalidSetting) "__getattr__" = some none)
    (ha_InvalidSetting : PySem.W.findIn K (.ref c_InvalidSetting) "__class__" = some (some (.builtin "object.__class__")))
    (hm_InvalidSetting : PySem.W.mroIn K c_InvalidSetting (.type "object") = some true)
    (vs_InvalidSetting : PySem.W.subIn K (.ref c_InvalidSetting) (.type "ValueError") = some true)
    (i_InvalidSetting : PySem.W.findIn K (.ref c_InvalidSetting) "__init__" = some (some (.ref f_InvalidSetting_i)))
    (n_InvalidNumber : PySem.W.nsIn K mainGlobals "InvalidNumber" = some (some (.ref c_InvalidNumber)))
    (eC_InvalidNumber : PySem.W.subIn K (.ref c_InvalidNumber) (.type "BaseException") = some true)
    (tC_InvalidNumber : PySem.W.typeIn K (.ref c_InvalidNumber) = some (.type "type"))
    (hC_InvalidNumber : PySem.W.hasDictIn K c_InvalidNumber = true)
    (l_InvalidNumber : K.lookup c_InvalidNumber = some (excClassObj nm_InvalidNumber q_InvalidNumber c_InvalidNumber N_InvalidNumber bs_InvalidNumber bm_InvalidNumber true sn_InvalidNumber sub_InvalidNumber ab_InvalidNumber col_InvalidNumber dd_InvalidNumber m0_InvalidNumber m1_InvalidNumber m2_InvalidNumber m3_InvalidNumber m5_InvalidNumber "ValueError.__new__"))
    (hb_InvalidNumber : PySem.HandSPX.refsVE bm_InvalidNumber = true)
    (sa_InvalidNumber : PySem.W.findIn K (.ref c_InvalidNumber) "__setattr__" = some (some (.builtin "object.__setattr__")))
    (kC_InvalidNumber : PySem.W.keepIn K (.ref c_InvalidNumber) = true)
    (ga_InvalidNumber : PySem.W.findIn K (.ref c_InvalidNumber) "__getattribute__" = some (some (.builtin "BaseException.__getattribute__")))
    (gg_InvalidNumber : PySem.W.findIn K (.ref c_InvalidNumber) "__getattr__" = some none)
    (ha_InvalidNumber : PySem.W.findIn K (.ref c_InvalidNumber) "__class__" = some (some (.builtin "object.__class__")))
    (hm_InvalidNumber : PySem.W.mroIn K c_InvalidNumber (.type "object") = some true)
    (vs_InvalidNumber : PySem.W.subIn K (.ref c_InvalidNumber) (.type "ValueError") = some true)
    (i_InvalidNumber : PySem.W.findIn K (.ref c_InvalidNumber) "__init__" = some (some (.ref f_InvalidNumber_i)))
    (n_LossError : PySem.W.nsIn K mainGlobals "LossError" = some (some (.ref c_LossError)))
    (eC_LossError : PySem.W.subIn K (.ref c_LossError) (.type "BaseException") = some true)
    (tC_LossError : PySem.W.typeIn K (.ref c_LossError) = some (.type "type"))
    (hC_LossError : PySem.W.hasDictIn K c_LossError = true)
    (l_InvalidSetting_i : K.lookup f_InvalidSetting_i = some ⟨oc_InvalidSetting_i, od_InvalidSetting_i, .func (PySem.W.ksFn "__init__" "InvalidSetting.__init__" (defArgs (inClass (top 3) 0)) (defBody (inClass (top 3) 0)) (defScope (inClass (top 3) 0)) .none kV_InvalidSetting_i doc_InvalidSetting_i pm_InvalidSetting_i an_InvalidSetting_i (.ref cda_InvalidSetting_i) ct_InvalidSetting_i cc_InvalidSetting_i), sl_InvalidSetting_i⟩)
    (c_InvalidSetting_i : PySem.W.codeIn K (.ref cda_InvalidSetting_i) "InvalidSetting.__init__" = true)
    (k_InvalidSetting_i : PySem.W.keepIn K (.ref f_InvalidSetting_i) = true)
    (t_InvalidSetting_i : PySem.W.typeIn K (.ref f_InvalidSetting_i) = some (.type "function"))
    (cc_InvalidSetting_i : K.lookup cc_InvalidSetting_i = some ⟨cl_InvalidSetting_i, cld_InvalidSetting_i, .cell (some (.ref c_InvalidSetting)), csl_InvalidSetting_i⟩)
    (cd_InvalidSetting_i : K.lookup cda_InvalidSetting_i = some ⟨ccl_InvalidSetting_i, cdd_InvalidSetting_i, .fields vs_InvalidSetting_i, ccs_InvalidSetting_i⟩)
    (v_InvalidSetting_i : vs_InvalidSetting_i[2]? = some (.str file_InvalidSetting_i tf_InvalidSetting_i))
    (fl_InvalidSetting_i : ((P.main.file : Str) == file_InvalidSetting_i) = true)
    (l_InvalidNumber_i : K.lookup f_InvalidNumber_i = some ⟨oc_InvalidNumber_i, od_InvalidNumber_i, .func (PySem.W.ksFn "__init__" "InvalidNumber.__init__" (defArgs (inClass (top 2) 0)) (defBody (inClass (top 2) 0)) (defScope (inClass (top 2) 0)) .none kV_InvalidNumber_i doc_InvalidNumber_i pm_InvalidNumber_i an_InvalidNumber_i (.ref cda_InvalidNumber_i) ct_InvalidNumber_i cc_InvalidNumber_i), sl_InvalidNumber_i⟩)
    (c_InvalidNumber_i : PySem.W.codeIn K (.ref cda_InvalidNumber_i) "InvalidNumber.__init__" = true)
    (k_InvalidNumber_i : PySem.W.keepIn K (.ref f_InvalidNumber_i) = true)
    (t_InvalidNumber_i : PySem.W.typeIn K (.ref f_InvalidNumber_i) = some (.type "function"))
    (cc_InvalidNumber_i : K.lookup cc_InvalidNumber_i = some ⟨cl_InvalidNumber_i, cld_InvalidNumber_i, .cell (some (.ref c_InvalidNumber)), csl_InvalidNumber_i⟩)
    (cd_InvalidNumber_i : K.lookup cda_InvalidNumber_i = some ⟨ccl_InvalidNumber_i, cdd_InvalidNumber_i, .fields vs_InvalidNumber_i, ccs_InvalidNumber_i⟩)
    (v_InvalidNumber_i : vs_InvalidNumber_i[2]? = some (.str file_InvalidNumber_i tf_InvalidNumber_i))
    (fl_InvalidNumber_i : ((P.main.file : Str) == file_InvalidNumber_i) = true)
    (su_InvalidNumber_LossError : PySem.W.subIn K (.ref c_InvalidNumber) (.ref c_LossError) = some true)
    (su_InvalidSetting_LossError : PySem.W.subIn K (.ref c_InvalidSetting) (.ref c_LossError) = some true)
    (ki_InvalidNumber_InvalidSetting : PySem.W.kitOne K (.ref c_InvalidNumber) (.ref c_InvalidSetting) = some false)
    (ki_InvalidSetting_InvalidSetting : PySem.W.kitOne K (.ref c_InvalidSetting) (.ref c_InvalidSetting) = some true)
    (ki_InvalidNumber_ValueError : PySem.W.kitOne K (.ref c_InvalidNumber) (.type "ValueError") = some true)
    (ki_InvalidSetting_ValueError : PySem.W.kitOne K (.ref c_InvalidSetting) (.type "ValueError") = some true)
    (ki_InvalidNumber_InvalidNumber : PySem.W.kitOne K (.ref c_InvalidNumber) (.ref c_InvalidNumber) = some true)
    (ki_InvalidSetting_InvalidNumber : PySem.W.kitOne K (.ref c_InvalidSetting) (.ref c_InvalidNumber) = some false)
    (nf_InvalidSetting_setting : PySem.W.findIn K (.ref c_InvalidSetting) "setting" = some none)
    (nf_InvalidNumber_number : PySem.W.findIn K (.ref c_InvalidNumber) "number" = some none)
    (sf_InvalidSetting_InvalidSetting : PySem.W.ks_superIn K c_InvalidSetting c_InvalidSetting "__init__" = some (some (.builtin "ValueError.__init__")))
    (sm_InvalidSetting_InvalidSetting : PySem.W.mroIn K c_InvalidSetting (.ref c_InvalidSetting) = some true)
    (nf_InvalidSetting_setting : PySem.W.findIn K (.ref c_InvalidSetting) "setting" = some none)
    (sf_InvalidNumber_InvalidNumber : PySem.W.ks_superIn K c_InvalidNumber c_InvalidNumber "__init__" = some (some (.builtin "ValueError.__init__")))
    (sm_InvalidNumber_InvalidNumber : PySem.W.mroIn K c_InvalidNumber (.ref c_InvalidNumber) = some true)
    (nf_InvalidNumber_number : PySem.W.findIn K (.ref c_InvalidNumber) "number" = some none)
    (r : ∀ (c_InvalidSetting : Addr) (c_InvalidNumber : Addr) (c_LossError : Addr) (f_InvalidSetting_i : Addr) (d_InvalidSetting_i : FuncData) (f_InvalidNumber_i : Addr) (d_InvalidNumber_i : FuncData), (OexC K c_InvalidSetting) → (PySem.W.findIn K (.ref c_InvalidSetting) "__init__" = some (some (.ref f_InvalidSetting_i))) → (PySem.W.typeIn K (.ref f_InvalidSetting_i) = some (.type "function")) → (mg "InvalidSetting" = some (.ref c_InvalidSetting)) → (Binds K d_InvalidSetting_i ["self", "setting"] []) → (PySem.W.exmOne K (.ref c_InvalidNumber) (.ref c_LossError) = some true) → (PySem.W.exmOne K (.ref c_InvalidSetting) (.ref c_LossError) = some true) → (OexC K c_InvalidNumber) → (PySem.W.findIn K (.ref c_InvalidNumber) "__init__" = some (some (.ref f_InvalidNumber_i))) → (PySem.W.typeIn K (.ref f_InvalidNumber_i) = some (.type "function")) → (mg "InvalidNumber" = some (.ref c_InvalidNumber)) → (Binds K d_InvalidNumber_i ["self", "number"] []) → (IsOk K (.ref c_InvalidNumber) (.ref c_InvalidSetting) false) → (IsOk K (.ref c_InvalidSetting) (.ref c_InvalidSetting) true) → (IsOk K (.ref c_InvalidNumber) (.ty "ValueError") true) → (IsOk K (.ref c_InvalidSetting) (.ty "ValueError") true) → (IsOk K (.ref c_InvalidNumber) (.ref c_InvalidNumber) true) → (IsOk K (.ref c_InvalidSetting) (.ref c_InvalidNumber) false) → (XfOk K c_InvalidSetting "setting") → (XfOk K c_InvalidNumber "number") → (mg "LossError" = some (.ref c_LossError)) → (FunS P K "__init__" "InvalidSetting.__init__" (inClass (top 3) 0) f_InvalidSetting_i d_InvalidSetting_i c_InvalidSetting) → (SupV K c_InvalidSetting c_InvalidSetting) → (PySem.W.findIn K (.ref c_InvalidSetting) "setting" = some none) → (FunS P K "__init__" "InvalidNumber.__init__" (inClass (top 2) 0) f_InvalidNumber_i d_InvalidNumber_i c_InvalidNumber) → (SupV K c_InvalidNumber c_InvalidNumber) → (PySem.W.findIn K (.ref c_InvalidNumber) "number" = some none) → R) : R :=
  r c_InvalidSetting c_InvalidNumber c_LossError f_InvalidSetting_i _ f_InvalidNumber_i _ (⟨⟨_, _, _, _, _, _, _, _, _, _, _, _, _, _, _, l_InvalidSetting, hb_InvalidSetting⟩, sa_InvalidSetting, eC_InvalidSetting, tC_InvalidSetting, kC_InvalidSetting⟩) (i_InvalidSetting) (t_InvalidSetting_i) (PySem.W.mg_of X G n_InvalidSetting) (.all (fun us hl => match us, hl with | [_, _], _ => rfl)) (PySem.W.exm_ref eC_LossError hC_LossError tC_LossError su_InvalidNumber_LossError) (PySem.W.exm_ref eC_LossError hC_LossError tC_LossError su_InvalidSetting_LossError) (⟨⟨_, _, _, _, _, _, _, _, _, _, _, _, _, _, _, l_InvalidNumber, hb_InvalidNumber⟩, sa_InvalidNumber, eC_InvalidNumber, tC_InvalidNumber, kC_InvalidNumber⟩) (i_InvalidNumber) (t_InvalidNumber_i) (PySem.W.mg_of X G n_InvalidNumber) (.all (fun us hl => match us, hl with | [_, _], _ => rfl)) (⟨⟨_, _, rfl, ⟨ga_InvalidNumber, gg_InvalidNumber, eC_InvalidNumber, hC_InvalidNumber, ha_InvalidNumber, hn, ht, hm_InvalidNumber⟩, fun _ r => r, ki_InvalidNumber_InvalidSetting⟩⟩) (⟨⟨_, _, rfl, ⟨ga_InvalidSetting, gg_InvalidSetting, eC_InvalidSetting, hC_InvalidSetting, ha_InvalidSetting, hn, ht, hm_InvalidSetting⟩, fun _ r => r, ki_InvalidSetting_InvalidSetting⟩⟩) (⟨⟨_, _, rfl, ⟨ga_InvalidNumber, gg_InvalidNumber, eC_InvalidNumber, hC_InvalidNumber, ha_InvalidNumber, hn, ht, hm_InvalidNumber⟩, fun _ r => r, ki_InvalidNumber_ValueError⟩⟩) (⟨⟨_, _, rfl, ⟨ga_InvalidSetting, gg_InvalidSetting, eC_InvalidSetting, hC_InvalidSetting, ha_InvalidSetting, hn, ht, hm_InvalidSetting⟩, fun _ r => r, ki_InvalidSetting_ValueError⟩⟩) (⟨⟨_, _, rfl, ⟨ga_InvalidNumber, gg_InvalidNumber, eC_InvalidNumber, hC_InvalidNumber, ha_InvalidNumber, hn, ht, hm_InvalidNumber⟩, fun _ r => r, ki_InvalidNumber_InvalidNumber⟩⟩) (⟨⟨_, _, rfl, ⟨ga_InvalidSetting, gg_InvalidSetting, eC_InvalidSetting, hC_InvalidSetting, ha_InvalidSetting, hn, ht, hm_InvalidSetting⟩, fun _ r => r, ki_InvalidSetting_InvalidNumber⟩⟩) (⟨⟨ga_InvalidSetting, gg_InvalidSetting, eC_InvalidSetting, hC_InvalidSetting⟩, nf_InvalidSetting_setting⟩) (⟨⟨ga_InvalidNumber, gg_InvalidNumber, eC_InvalidNumber, hC_InvalidNumber⟩, nf_InvalidNumber_number⟩) (PySem.W.mg_of X G n_LossError) (⟨⟨_, _, _, _, _, _, _, _, _, _, _, _, _, _, _, _, _, _, _, _, _, rfl, l_InvalidSetting_i, c_InvalidSetting_i, cc_InvalidSetting_i, cd_InvalidSetting_i, v_InvalidSetting_i, fl_InvalidSetting_i, (by unfold PySem.W.clsIn; rw [l_InvalidSetting] <;> rfl)⟩, k_InvalidSetting_i⟩) (⟨⟨⟨_, _, _, _, _, _, _, _, _, _, _, _, _, _, _, l_InvalidSetting, hb_InvalidSetting⟩, sa_InvalidSetting, eC_InvalidSetting, tC_InvalidSetting, kC_InvalidSetting⟩, opq, sf_InvalidSetting_InvalidSetting, vs_InvalidSetting, sm_InvalidSetting_InvalidSetting⟩) (nf_InvalidSetting_setting) (⟨⟨_, _, _, _, _, _, _, _, _, _, _, _, _, _, _, _, _, _, _, _, _, rfl, l_InvalidNumber_i, c_InvalidNumber_i, cc_InvalidNumber_i, cd_InvalidNumber_i, v_InvalidNumber_i, fl_InvalidNumber_i, (by unfold PySem.W.clsIn; rw [l_InvalidNumber] <;> rfl)⟩, k_InvalidNumber_i⟩) (⟨⟨⟨_, _, _, _, _, _, _, _, _, _, _, _, _, _, _, l_InvalidNumber, hb_InvalidNumber⟩, sa_InvalidNumber, eC_InvalidNumber, tC_InvalidNumber, kC_InvalidNumber⟩, opq, sf_InvalidNumber_InvalidNumber, vs_InvalidNumber, sm_InvalidNumber_InvalidNumber⟩) (nf_InvalidNumber_number)
theorem useStat_ALARMS {R : Prop} {K : PySem.W.Frag} {h : Heap} {mg : Str → Option Value} (X : K.In h) (G : h.Ns mainGlobals mg) {g : Addr} {dd : Option Addr} {n : Nat} {sl : Array (Option Value)} {t0 t1 t2 t3 t4 t5 : Tok} 
    (hn0 : PySem.W.nsIn K mainGlobals "ALARMS" = some (some (.ref g))) (hl0 : K.lookup g = some ⟨.type "tuple", dd, .seq #[.str "resend" t0, .str "probe" t1, .str "delay" t2, .str "pace" t3, .str "alive" t4, .str "rest" t5] n, sl⟩)
    (r : ∀ (g : Addr), mg "ALARMS" = some (.ref g) → SK K g (.tup [.str "resend", .str "probe", .str "delay", .str "pace", .str "alive", .str "rest"]) → R) : R := r  g (PySem.W.mg_of X G hn0)  ⟨_, _, _, hl0, rfl, rfl, by show (6 : Nat) ≤ sizeLine; decide, .cons ⟨_, rfl⟩ (.cons ⟨_, rfl⟩ (.cons ⟨_, rfl⟩ (.cons ⟨_, rfl⟩ (.cons ⟨_, rfl⟩ (.cons ⟨_, rfl⟩ (.nil))))))⟩
def spLaw (K : PySem.W.Frag) (tb : Addr) : Sp := fun vs H Q _ => ∃ (a : Addr) (ns : List Int), vs = [.ref a] ∧ SqL K H a (ns.map V.int) ∧ ns.length ≤ 63 ∧ H tb = some (.tbl #[]) ∧ ∀ H', Q (.bl true) H'
theorem walk {l : PySem.W.OpenLaw} {q : Program} {loose : List Str} {XP : (Str → Option Value) → Heap → Prop} {YP : World → Heap → Prop} {d : DefRec} {K : Params → PySem.W.Frag} {ts : List Addr} (hn : l.most = some 63) (hdf : d.params.defaults = [])
    (hY : ∀ (w : World) (h : Heap), YP w h → (K w.params).In h ∧ ∀ P ∈ ts, h.get? P = some (PySem.W.tabObj #[]))
    (F : ∀ (w : World) (mg : Str → Option Value) (fa : Addr) (h : Heap), (K w.params).In h → h.Ns mainGlobals mg → mg d.name = some (.ref fa) →
      ∃ (P c : Addr) (fd : FuncData), P ∈ ts ∧ (K w.params).lookup P = none ∧ PySem.W.CodeHd h c P ∧ (∀ (s : Shared) (u : Value), BindsTo s fd ⟨[u], []⟩ [("_law_script", u)]) ∧ ∀ base : Heap, (K w.params).In base → base.Ns mainGlobals mg → LamX.TabB base mg c P → FnOk l.prog w (K w.params) mg base (L2.CX l.prog w) 6 fa fd ["_law_script"] (spLaw (K w.params) P)) :
    PySem.W.WalkO q loose XP YP l.row.toRowW d [] (fun f vs => PySem.call f vs) :=
  walk_ofM (n := 63) (k := 6) (x := "_law_script") (CX := fun w => L2.CX l.prog w) hn (by decide) hdf ⟨rfl, by decide, by decide⟩ hY (fun w mg fa h KX G e => by
    obtain ⟨P, c, fd, mP, nP, hd, hb, hF⟩ := F w mg fa h KX G e
    exact ⟨P, c, fd, _, mP, nP, hd, hb, fun H a ns hl hT hS => ⟨a, ns, rfl, hS, hl, hT, fun _ => rfl⟩, hF⟩) fun w H s e s' z => by
    obtain ⟨_, _, _, _, _, _, _, _, _, _, _, _, z⟩ := z
    exact z.elim
theorem useT {R : Prop} {K : PySem.W.Frag} {h : Heap} (X : K.In h) {C f c P : Addr} {oc kV doc pm ct : Value} {od an odk : Option Addr} {sl slk : Array (Option Value)} {vs : Array Value} (n : PySem.W.nsIn K mainGlobals "Alarms" = some (some (.ref C))) (m : PySem.W.findIn K (.ref C) "due" = some (some (.ref f)))
    (l : K.lookup f = some ⟨oc, od, .func (PySem.W.fnOf "due" "Alarms.due" (defArgs (inClass (top 9) 4)) (defBody (inClass (top 9) 4)) (defScope (inClass (top 9) 4)) .none kV doc pm an (.ref c) ct), sl⟩) (lc : K.lookup c = some ⟨.type "code", odk, .fields vs, slk⟩) (e : vs[11]? = some (.ref P)) (lp : K.lookup P = none) {ts : List Addr} (mP : P ∈ ts)
    (r : ∀ t : Addr, t = P → t ∈ ts → K.lookup t = none → R) : R := r P rfl mP lp
end Y.k17
open PySem PySem.W PyProof.Rows
set_option maxRecDepth 100000 in
set_option maxHeartbeats 0 in
theorem PySem.Challenge.cw_lossway_k17_alarms_history_holds : PySem.Challenge.rw_lossway_k17_alarms_history.Holds := by
  w_on; o_law; k_head; (case hw => w_witness2)
  k_fill
  refine Y.k17.walk (l := PySem.Challenge.rw_lossway_k17_alarms_history) rfl rfl (fun w h Y => ⟨PySem.W.km_in_of Y, PySem.W.km_tabs_of Y⟩) ?F
  case F =>
    intro w mg fa h KX G hmg
    refine' Y.k17.useT KX ?t1 ?t2 ?t3 ?t4 ?t5 ?t6 ?t7 ?rT
    (case t1 => k_is); (case t2 => k_is); (case t3 => k_is); (case t4 => k_is); (case t5 => rfl); (case t6 => first | rfl | kernel_rfl); (case t7 => exact List.mem_singleton.mpr rfl)
    intro tb_Alarms_due et mP nP
    refine' Y.k17.useFn KX G (x := "_law_bag") (st := Y.k17.top 12) (ps := ["_law_script"]) ?nbag ?lbag ?cbag ?kbag (fun _ _ _ _ _ _ us hl => match us, hl with | [_], _ => rfl) ?rbag
    (case nbag => k_is); (case lbag => k_is); (case cbag => k_is); (case kbag => k_is)
    intro f_bag d_bag m_bag F_bag b_bag
    refine' Y.k17.useFn KX G (x := "_law_take") (st := Y.k17.top 13) (ps := ["_law_bag_here", "_law_many"]) ?ntake ?ltake ?ctake ?ktake (fun _ _ _ _ _ _ us hl => match us, hl with | [_, _], _ => rfl) ?rtake
    (case ntake => k_is); (case ltake => k_is); (case ctake => k_is); (case ktake => k_is)
    intro f_take d_take m_take F_take b_take
    refine' Y.k17.useFn KX G (x := "_law_names") (st := Y.k17.top 15) (ps := []) ?nnames ?lnames ?cnames ?knames (fun _ _ _ _ _ _ us hl => match us, hl with | [], _ => rfl) ?rnames
    (case nnames => k_is); (case lnames => k_is); (case cnames => k_is); (case knames => k_is)
    intro f_names d_names m_names F_names b_names
    refine' Y.k17.useFn KX G (x := "is_alarm") (st := Y.k17.top 8) (ps := ["name"]) ?nis_alarm ?lis_alarm ?cis_alarm ?kis_alarm (fun _ _ _ _ _ _ us hl => match us, hl with | [_], _ => rfl) ?ris_alarm
    (case nis_alarm => k_is); (case lis_alarm => k_is); (case cis_alarm => k_is); (case kis_alarm => k_is)
    intro f_is_alarm d_is_alarm m_is_alarm F_is_alarm b_is_alarm
    refine' Y.k17.useFn KX G (x := "_law_whole") (st := Y.k17.top 11) (ps := ["_law_value"]) ?nwhole ?lwhole ?cwhole ?kwhole (fun _ _ _ _ _ _ us hl => match us, hl with | [_], _ => rfl) ?rwhole
    (case nwhole => k_is); (case lwhole => k_is); (case cwhole => k_is); (case kwhole => k_is)
    intro f_whole d_whole m_whole F_whole b_whole
    refine' Y.k17.useFn KX G (x := "_law_set") (st := Y.k17.top 25) (ps := ["_law_alarms", "_law_table"]) ?nset ?lset ?cset ?kset (fun _ _ _ _ _ _ us hl => match us, hl with | [_, _], _ => rfl) ?rset
    (case nset => k_is); (case lset => k_is); (case cset => k_is); (case kset => k_is)
    intro f_set d_set m_set F_set b_set
    refine' Y.k17.useFn KX G (x := "_law_greater") (st := Y.k17.top 14) (ps := ["_law_one", "_law_two"]) ?ngreater ?lgreater ?cgreater ?kgreater (fun _ _ _ _ _ _ us hl => match us, hl with | [_, _], _ => rfl) ?rgreater
    (case ngreater => k_is); (case lgreater => k_is); (case cgreater => k_is); (case kgreater => k_is)
    intro f_greater d_greater m_greater F_greater b_greater
    refine' Y.k17.useFn KX G (x := "_law_in_order") (st := Y.k17.top 23) (ps := ["_law_told", "_law_table", "_law_now"]) ?nin_order ?lin_order ?cin_order ?kin_order (fun _ _ _ _ _ _ us hl => match us, hl with | [_, _, _], _ => rfl) ?rin_order
    (case nin_order => k_is); (case lin_order => k_is); (case cin_order => k_is); (case kin_order => k_is)
    intro f_in_order d_in_order m_in_order F_in_order b_in_order
    refine' Y.k17.useFn KX G (x := "_law_due") (st := Y.k17.top 24) (ps := ["_law_alarms", "_law_table", "_law_now"]) ?ndue ?ldue ?cdue ?kdue (fun _ _ _ _ _ _ us hl => match us, hl with | [_, _, _], _ => rfl) ?rdue
    (case ndue => k_is); (case ldue => k_is); (case cdue => k_is); (case kdue => k_is)
    intro f_due d_due m_due F_due b_due
    refine' Y.k17.useFn KX G (x := "_law_agrees") (st := Y.k17.top 26) (ps := ["_law_alarms", "_law_table"]) ?nagrees ?lagrees ?cagrees ?kagrees (fun _ _ _ _ _ _ us hl => match us, hl with | [_, _], _ => rfl) ?ragrees
    (case nagrees => k_is); (case lagrees => k_is); (case cagrees => k_is); (case kagrees => k_is)
    intro f_agrees d_agrees m_agrees F_agrees b_agrees
    refine' Y.k17.useFn KX G (x := "_law_moment") (st := Y.k17.top 20) (ps := ["_law_bag_here", "_law_table"]) ?nmoment ?lmoment ?cmoment ?kmoment (fun _ _ _ _ _ _ us hl => match us, hl with | [_, _], _ => rfl) ?rmoment
    (case nmoment => k_is); (case lmoment => k_is); (case cmoment => k_is); (case kmoment => k_is)
    intro f_moment d_moment m_moment F_moment b_moment
    refine' Y.k17.useFn KX G (x := "is_whole") (st := Y.k17.top 5) (ps := ["value"]) ?nis_whole ?lis_whole ?cis_whole ?kis_whole (fun _ _ _ _ _ _ us hl => match us, hl with | [_], _ => rfl) ?ris_whole
    (case nis_whole => k_is); (case lis_whole => k_is); (case cis_whole => k_is); (case kis_whole => k_is)
    intro f_is_whole d_is_whole m_is_whole F_is_whole b_is_whole
    refine' Y.k17.useFn KX G (x := "_law_call") (st := Y.k17.top 21) (ps := ["_law_alarms", "_law_deed_here", "_law_name", "_law_moment_here"]) ?ncall ?lcall ?ccall ?kcall (fun _ _ _ _ _ _ us hl => match us, hl with | [_, _, _, _], _ => rfl) ?rcall
    (case ncall => k_is); (case lcall => k_is); (case ccall => k_is); (case kcall => k_is)
    intro f_call d_call m_call F_call b_call
    refine' Y.k17.useFn KX G (x := "_law_far") (st := Y.k17.top 16) (ps := ["_law_bag_here"]) ?nfar ?lfar ?cfar ?kfar (fun _ _ _ _ _ _ us hl => match us, hl with | [_], _ => rfl) ?rfar
    (case nfar => k_is); (case lfar => k_is); (case cfar => k_is); (case kfar => k_is)
    intro f_far d_far m_far F_far b_far
    refine' Y.k17.useFn KX G (x := "_law_wrong") (st := Y.k17.top 19) (ps := ["_law_bag_here"]) ?nwrong ?lwrong ?cwrong ?kwrong (fun _ _ _ _ _ _ us hl => match us, hl with | [_], _ => rfl) ?rwrong
    (case nwrong => k_is); (case lwrong => k_is); (case cwrong => k_is); (case kwrong => k_is)
    intro f_wrong d_wrong m_wrong F_wrong b_wrong
    refine' Y.k17.useFn KX G (x := "_law_same") (st := Y.k17.top 17) (ps := ["_law_told", "_law_due_here"]) ?nsame ?lsame ?csame ?ksame (fun _ _ _ _ _ _ us hl => match us, hl with | [_, _], _ => rfl) ?rsame
    (case nsame => k_is); (case lsame => k_is); (case csame => k_is); (case ksame => k_is)
    intro f_same d_same m_same F_same b_same
    refine' Y.k17.useFn KX G (x := "_law_stranger") (st := Y.k17.top 18) (ps := ["_law_bag_here"]) ?nstranger ?lstranger ?cstranger ?kstranger (fun _ _ _ _ _ _ us hl => match us, hl with | [_], _ => rfl) ?rstranger
    (case nstranger => k_is); (case lstranger => k_is); (case cstranger => k_is); (case kstranger => k_is)
    intro f_stranger d_stranger m_stranger F_stranger b_stranger
    refine' Y.k17.useFn KX G (x := "_law_deed") (st := Y.k17.top 22) (ps := ["_law_bag_here", "_law_alarms", "_law_table"]) ?ndeed ?ldeed ?cdeed ?kdeed (fun _ _ _ _ _ _ us hl => match us, hl with | [_, _, _], _ => rfl) ?rdeed
    (case ndeed => k_is); (case ldeed => k_is); (case cdeed => k_is); (case kdeed => k_is)
    intro f_deed d_deed m_deed F_deed b_deed
    refine' Y.k17.useFn KX G (x := "law") (st := Y.k17.top 27) (ps := ["_law_script"]) ?nlaw ?llaw ?claw ?klaw (fun _ _ _ _ _ _ us hl => match us, hl with | [_], _ => rfl) ?rlaw
    (case nlaw => k_is); (case llaw => k_is); (case claw => k_is); (case klaw => k_is)
    intro f_law d_law m_law F_law b_law
    refine' Y.k17.useC_Alarms (P := (PySem.Challenge.rw_lossway_k17_alarms_history).prog) (tb_Alarms_due := tb_Alarms_due) KX G ?qAlarms0 ?qAlarms1 ?qAlarms2 ?qAlarms3 ?qAlarms4 ?qAlarms5 ?qAlarms6 ?qAlarms7 ?qAlarms8 ?qAlarms9 ?qAlarms10 ?qAlarms11 ?qAlarms12 ?qAlarms13 ?qAlarms14 ?qAlarms15 ?qAlarms16 ?qAlarms17 ?qAlarms18 ?qAlarms19 ?qAlarms20 ?qAlarms21 ?qAlarms22 ?qAlarms23 ?qAlarms24 ?qAlarms25 ?qAlarms26 ?qAlarms27 ?qAlarms28 ?qAlarms29 ?qAlarms30 ?qAlarms31 ?qAlarms32 ?qAlarms33 ?qAlarms34 ?qAlarms35 ?qAlarms36 ?qAlarms37 ?qAlarms38 ?qAlarms39 ?qAlarms40 ?qAlarms41 ?qAlarms42 ?qAlarms43 ?qAlarms44 ?qAlarms45 ?qAlarms46 ?qAlarms47 ?qAlarms48 ?qAlarms49 ?qAlarms50 ?qAlarms51 ?qAlarms52 ?qAlarms53 ?qAlarms54 ?qAlarms55 ?rAlarms
    (case qAlarms0 => k_is); (case qAlarms1 => k_is); (case qAlarms2 => k_is); (case qAlarms3 => k_is); (case qAlarms4 => k_is); (case qAlarms5 => k_is); (case qAlarms6 => k_is); (case qAlarms7 => k_is); (case qAlarms8 => k_is); (case qAlarms9 => k_is); (case qAlarms10 => k_is); (case qAlarms11 => k_is); (case qAlarms12 => k_is); (case qAlarms13 => k_is); (case qAlarms14 => k_is); (case qAlarms15 => k_is); (case qAlarms16 => k_is); (case qAlarms17 => k_is); (case qAlarms18 => k_is); (case qAlarms19 => k_is); (case qAlarms20 => k_is); (case qAlarms21 => k_is); (case qAlarms22 => k_is); (case qAlarms23 => k_is); (case qAlarms24 => k_is); (case qAlarms25 => k_is); (case qAlarms26 => k_is); (case qAlarms27 => k_is); (case qAlarms28 => k_is); (case qAlarms29 => k_is); (case qAlarms30 => k_is); (case qAlarms31 => k_is); (case qAlarms32 => k_is); (case qAlarms33 => k_is); (case qAlarms34 => k_is); (case qAlarms35 => k_is); (case qAlarms36 => k_is); (case qAlarms37 => k_is); (case qAlarms38 => k_is); (case qAlarms39 => (rw [et] <;> rfl)); (case qAlarms40 => (rw [et] <;> rfl)); (case qAlarms41 => rfl); (case qAlarms42 => rfl); (case qAlarms43 => rfl); (case qAlarms44 => rfl); (case qAlarms45 => (exact fun z => absurd (z.trans et) (by decide))); (case qAlarms46 => k_is); (case qAlarms47 => k_is); (case qAlarms48 => k_is); (case qAlarms49 => k_is); (case qAlarms50 => k_is); (case qAlarms51 => k_is); (case qAlarms52 => k_is); (case qAlarms53 => k_is); (case qAlarms54 => k_is); (case qAlarms55 => k_is)
    intro c_Alarms f_Alarms___init__ d_Alarms___init__ f_Alarms_when d_Alarms_when f_Alarms___contains__ d_Alarms___contains__ f_Alarms_soonest d_Alarms_soonest f_Alarms___len__ d_Alarms___len__ f_Alarms_due d_Alarms_due kc_Alarms_due f_Alarms_arm d_Alarms_arm f_Alarms_disarm d_Alarms_disarm F_Alarms___init__ b_Alarms___init__ F_Alarms_when b_Alarms_when F_Alarms___contains__ b_Alarms___contains__ F_Alarms_soonest b_Alarms_soonest F_Alarms___len__ b_Alarms___len__ x_hd_Alarms_due F_Alarms_due b_Alarms_due F_Alarms_arm b_Alarms_arm F_Alarms_disarm b_Alarms_disarm x_cl_Alarms x_na_Alarms_times x_mk_Alarms x_mg_Alarms x_mt_Alarms_when x_mt_Alarms___contains__ x_mt_Alarms_soonest x_mt_Alarms___len__ x_mt_Alarms_due x_mt_Alarms_arm x_mt_Alarms_disarm
    refine' Y.k17.useExc (P := (PySem.Challenge.rw_lossway_k17_alarms_history).prog) KX G ?qx0 ?qx1 ?qx2 ?qx3 ?qx4 ?qx5 ?qx6 ?qx7 ?qx8 ?qx9 ?qx10 ?qx11 ?qx12 ?qx13 ?qx14 ?qx15 ?qx16 ?qx17 ?qx18 ?qx19 ?qx20 ?qx21 ?qx22 ?qx23 ?qx24 ?qx25 ?qx26 ?qx27 ?qx28 ?qx29 ?qx30 ?qx31 ?qx32 ?qx33 ?qx34 ?qx35 ?qx36 ?qx37 ?qx38 ?qx39 ?qx40 ?qx41 ?qx42 ?qx43 ?qx44 ?qx45 ?qx46 ?qx47 ?qx48 ?qx49 ?qx50 ?qx51 ?qx52 ?qx53 ?qx54 ?qx55 ?qx56 ?qx57 ?qx58 ?qx59 ?qx60 ?qx61 ?qx62 ?qx63 ?qx64 ?qx65 ?qx66 ?rExc
    (case qx0 => k_is); (case qx1 => k_is); (case qx2 => k_is); (case qx3 => k_is); (case qx4 => k_is); (case qx5 => k_is); (case qx6 => k_is); (case qx7 => k_is); (case qx8 => first | rfl | decide +kernel); (case qx9 => k_is); (case qx10 => k_is); (case qx11 => k_is); (case qx12 => k_is); (case qx13 => k_is); (case qx14 => k_is); (case qx15 => k_is); (case qx16 => k_is); (case qx17 => k_is); (case qx18 => k_is); (case qx19 => k_is); (case qx20 => k_is); (case qx21 => k_is); (case qx22 => first | rfl | decide +kernel); (case qx23 => k_is); (case qx24 => k_is); (case qx25 => k_is); (case qx26 => k_is); (case qx27 => k_is); (case qx28 => k_is); (case qx29 => k_is); (case qx30 => k_is); (case qx31 => k_is); (case qx32 => k_is); (case qx33 => k_is); (case qx34 => k_is); (case qx35 => k_is); (case qx36 => k_is); (case qx37 => k_is); (case qx38 => k_is); (case qx39 => k_is); (case qx40 => k_is); (case qx41 => first | rfl | k_is); (case qx42 => first | rfl | decide +kernel); (case qx43 => k_is); (case qx44 => k_is); (case qx45 => k_is); (case qx46 => k_is); (case qx47 => k_is); (case qx48 => k_is); (case qx49 => first | rfl | k_is); (case qx50 => first | rfl | decide +kernel); (case qx51 => first | k_is | rfl); (case qx52 => first | k_is | rfl); (case qx53 => first | kit_is | k_is | rfl); (case qx54 => first | kit_is | k_is | rfl); (case qx55 => first | kit_is | k_is | rfl); (case qx56 => first | kit_is | k_is | rfl); (case qx57 => first | kit_is | k_is | rfl); (case qx58 => first | kit_is | k_is | rfl); (case qx59 => k_is); (case qx60 => k_is); (case qx61 => ks_is); (case qx62 => k_is); (case qx63 => k_is); (case qx64 => ks_is); (case qx65 => k_is); (case qx66 => k_is)
    intro c_InvalidSetting c_InvalidNumber c_LossError f_InvalidSetting___init__ d_InvalidSetting___init__ f_InvalidNumber___init__ d_InvalidNumber___init__ x_oe_InvalidSetting x_ii_InvalidSetting_InvalidSetting x_it_InvalidSetting x_mg_InvalidSetting x_be_InvalidSetting x_ex_InvalidNumber_LossError x_ex_InvalidSetting_LossError x_oe_InvalidNumber x_ii_InvalidNumber_InvalidNumber x_it_InvalidNumber x_mg_InvalidNumber x_be_InvalidNumber x_is_InvalidNumber_InvalidSetting x_is_InvalidSetting_InvalidSetting x_is_InvalidNumber_ValueError x_is_InvalidSetting_ValueError x_is_InvalidNumber_InvalidNumber x_is_InvalidSetting_InvalidNumber x_xf_InvalidSetting_setting x_xf_InvalidNumber_number x_mg_LossError x_fs_InvalidSetting x_sv_InvalidSetting_InvalidSetting x_nf_InvalidSetting_setting x_fs_InvalidNumber x_sv_InvalidNumber_InvalidNumber x_nf_InvalidNumber_number
    refine' Y.k17.useStat_ALARMS KX G ?stALARMS ?slALARMS ?rStALARMS
    (case stALARMS => k_is); (case slALARMS => k_is)
    intro g_ALARMS x_mg_ALARMS hg_ALARMS
    have x_no_abs : mg "abs" = none := by
      refine' PySem.W.mg_none_of KX G ?nno_abs
      (case nno_abs => k_is)
    have x_no_int : mg "int" = none := by
      refine' PySem.W.mg_none_of KX G ?nno_int
      (case nno_int => k_is)
    have x_no_sum : mg "sum" = none := by
      refine' PySem.W.mg_none_of KX G ?nno_sum
      (case nno_sum => k_is)
    have x_no_len : mg "len" = none := by
      refine' PySem.W.mg_none_of KX G ?nno_len
      (case nno_len => k_is)
    have x_no_isinstance : mg "isinstance" = none := by
      refine' PySem.W.mg_none_of KX G ?nno_isinstance
      (case nno_isinstance => k_is)
    have x_no_tuple : mg "tuple" = none := by
      refine' PySem.W.mg_none_of KX G ?nno_tuple
      (case nno_tuple => k_is)
    have x_no_range : mg "range" = none := by
      refine' PySem.W.mg_none_of KX G ?nno_range
      (case nno_range => k_is)
    have x_no_str : mg "str" = none := by
      refine' PySem.W.mg_none_of KX G ?nno_str
      (case nno_str => k_is)
    have x_no_bool : mg "bool" = none := by
      refine' PySem.W.mg_none_of KX G ?nno_bool
      (case nno_bool => k_is)
    have x_no_list : mg "list" = none := by
      refine' PySem.W.mg_none_of KX G ?nno_list
      (case nno_list => k_is)
    have x_no_min : mg "min" = none := by
      refine' PySem.W.mg_none_of KX G ?nno_min
      (case nno_min => k_is)
    have x_no_all : mg "all" = none := by
      refine' PySem.W.mg_none_of KX G ?nno_all
      (case nno_all => k_is)
    have x_no_sorted : mg "sorted" = none := by
      refine' PySem.W.mg_none_of KX G ?nno_sorted
      (case nno_sorted => k_is)
    have x_no_ValueError : mg "ValueError" = none := by
      refine' PySem.W.mg_none_of KX G ?nno_ValueError
      (case nno_ValueError => k_is)
    have x_no_super : mg "super" = none := by
      refine' PySem.W.mg_none_of KX G ?nno_super
      (case nno_super => k_is)
    have x_sup_top : ((PySem.Challenge.rw_lossway_k17_alarms_history).prog.main.scope.names.lookup ("super" : Str)).isSome = false := by first | rfl | decide +kernel
    have e := hmg.symm.trans m_law
    cases e
    refine ⟨tb_Alarms_due, kc_Alarms_due, d_law, mP, nP, x_hd_Alarms_due, fun s u => .of_eq (b_law [u] rfl), fun base hb hg tbh => ?_⟩
    exact (Y.k17.ok_law (a := { S := Y.SK _, f_bag := f_bag, d_bag := d_bag, f_take := f_take, d_take := d_take, f_names := f_names, d_names := d_names, f_Alarms___init__ := f_Alarms___init__, d_Alarms___init__ := d_Alarms___init__, f_is_alarm := f_is_alarm, d_is_alarm := d_is_alarm, f_Alarms_when := f_Alarms_when, d_Alarms_when := d_Alarms_when, f_Alarms___contains__ := f_Alarms___contains__, d_Alarms___contains__ := d_Alarms___contains__, f_whole := f_whole, d_whole := d_whole, f_Alarms_soonest := f_Alarms_soonest, d_Alarms_soonest := d_Alarms_soonest, f_Alarms___len__ := f_Alarms___len__, d_Alarms___len__ := d_Alarms___len__, f_set := f_set, d_set := d_set, f_greater := f_greater, d_greater := d_greater, f_Alarms_due := f_Alarms_due, d_Alarms_due := d_Alarms_due, f_in_order := f_in_order, d_in_order := d_in_order, f_due := f_due, d_due := d_due, f_agrees := f_agrees, d_agrees := d_agrees, f_moment := f_moment, d_moment := d_moment, f_is_whole := f_is_whole, d_is_whole := d_is_whole, f_Alarms_arm := f_Alarms_arm, d_Alarms_arm := d_Alarms_arm, f_Alarms_disarm := f_Alarms_disarm, d_Alarms_disarm := d_Alarms_disarm, f_call := f_call, d_call := d_call, f_far := f_far, d_far := d_far, f_wrong := f_wrong, d_wrong := d_wrong, f_same := f_same, d_same := d_same, f_stranger := f_stranger, d_stranger := d_stranger, f_deed := f_deed, d_deed := d_deed, f_law := _, d_law := d_law, f_InvalidSetting___init__ := f_InvalidSetting___init__, d_InvalidSetting___init__ := d_InvalidSetting___init__, f_InvalidNumber___init__ := f_InvalidNumber___init__, d_InvalidNumber___init__ := d_InvalidNumber___init__, c_Alarms := c_Alarms, c_InvalidSetting := c_InvalidSetting, c_InvalidNumber := c_InvalidNumber, c_LossError := c_LossError, kc_Alarms_due := kc_Alarms_due, tb_Alarms_due := tb_Alarms_due, g_ALARMS := g_ALARMS, hg_ALARMS := hg_ALARMS }) (tb := ⟨tbh⟩) { st := rfl, no_abs := x_no_abs, no_int := x_no_int, no_sum := x_no_sum, mg_bag := m_bag, bd_bag := .all b_bag, fn_bag := F_bag, no_len := x_no_len, mg_take := m_take, bd_take := .all b_take, fn_take := F_take, no_isinstance := x_no_isinstance, no_tuple := x_no_tuple, mg_ALARMS := x_mg_ALARMS, mg_names := m_names, bd_names := .all b_names, fn_names := F_names, cl_Alarms := x_cl_Alarms, na_Alarms_times := x_na_Alarms_times, mk_Alarms := x_mk_Alarms, mg_Alarms := x_mg_Alarms, bd_Alarms___init__ := b_Alarms___init__, no_range := x_no_range, no_str := x_no_str, mg_is_alarm := m_is_alarm, bd_is_alarm := .all b_is_alarm, fn_is_alarm := F_is_alarm, oe_InvalidSetting := x_oe_InvalidSetting, ii_InvalidSetting_InvalidSetting := x_ii_InvalidSetting_InvalidSetting, it_InvalidSetting := x_it_InvalidSetting, mg_InvalidSetting := x_mg_InvalidSetting, be_InvalidSetting := x_be_InvalidSetting, mt_Alarms_when := x_mt_Alarms_when, bd_Alarms_when := b_Alarms_when, mt_Alarms___contains__ := x_mt_Alarms___contains__, bd_Alarms___contains__ := b_Alarms___contains__, no_bool := x_no_bool, mg_whole := m_whole, bd_whole := .all b_whole, fn_whole := F_whole, no_list := x_no_list, no_min := x_no_min, mt_Alarms_soonest := x_mt_Alarms_soonest, bd_Alarms_soonest := b_Alarms_soonest, mt_Alarms___len__ := x_mt_Alarms___len__, bd_Alarms___len__ := b_Alarms___len__, no_all := x_no_all, mg_set := m_set, bd_set := .all b_set, fn_set := F_set, mg_greater := m_greater, bd_greater := .all b_greater, fn_greater := F_greater, no_sorted := x_no_sorted, mt_Alarms_due := x_mt_Alarms_due, bd_Alarms_due := b_Alarms_due, mg_in_order := m_in_order, bd_in_order := .all b_in_order, fn_in_order := F_in_order, mg_due := m_due, bd_due := .all b_due, fn_due := F_due, mg_agrees := m_agrees, bd_agrees := .all b_agrees, fn_agrees := F_agrees, mg_moment := m_moment, bd_moment := .all b_moment, fn_moment := F_moment, ex_InvalidNumber_LossError := x_ex_InvalidNumber_LossError, ex_InvalidSetting_LossError := x_ex_InvalidSetting_LossError, mg_is_whole := m_is_whole, bd_is_whole := .all b_is_whole, fn_is_whole := F_is_whole, oe_InvalidNumber := x_oe_InvalidNumber, ii_InvalidNumber_InvalidNumber := x_ii_InvalidNumber_InvalidNumber, it_InvalidNumber := x_it_InvalidNumber, mg_InvalidNumber := x_mg_InvalidNumber, be_InvalidNumber := x_be_InvalidNumber, mt_Alarms_arm := x_mt_Alarms_arm, bd_Alarms_arm := b_Alarms_arm, mt_Alarms_disarm := x_mt_Alarms_disarm, bd_Alarms_disarm := b_Alarms_disarm, is_InvalidNumber_InvalidSetting := x_is_InvalidNumber_InvalidSetting, is_InvalidSetting_InvalidSetting := x_is_InvalidSetting_InvalidSetting, is_InvalidNumber_ValueError := x_is_InvalidNumber_ValueError, is_InvalidSetting_ValueError := x_is_InvalidSetting_ValueError, no_ValueError := x_no_ValueError, is_InvalidNumber_InvalidNumber := x_is_InvalidNumber_InvalidNumber, is_InvalidSetting_InvalidNumber := x_is_InvalidSetting_InvalidNumber, xf_InvalidSetting_setting := x_xf_InvalidSetting_setting, xf_InvalidNumber_number := x_xf_InvalidNumber_number, mg_LossError := x_mg_LossError, mg_call := m_call, bd_call := .all b_call, fn_call := F_call, mg_far := m_far, bd_far := .all b_far, fn_far := F_far, mg_wrong := m_wrong, bd_wrong := .all b_wrong, fn_wrong := F_wrong, mg_same := m_same, bd_same := .all b_same, fn_same := F_same, mg_stranger := m_stranger, bd_stranger := .all b_stranger, fn_stranger := F_stranger, mg_deed := m_deed, bd_deed := .all b_deed, fn_deed := F_deed, fn_Alarms___init__ := F_Alarms___init__, fn_Alarms_when := F_Alarms_when, fn_Alarms___contains__ := F_Alarms___contains__, fn_Alarms_soonest := F_Alarms_soonest, fn_Alarms___len__ := F_Alarms___len__, fn_Alarms_due := F_Alarms_due, fn_Alarms_arm := F_Alarms_arm, fn_Alarms_disarm := F_Alarms_disarm, fn_law := F_law, bd_law := .all b_law, mg_law := m_law, fs_InvalidSetting := x_fs_InvalidSetting, sv_InvalidSetting_InvalidSetting := x_sv_InvalidSetting_InvalidSetting, nf_InvalidSetting_setting := x_nf_InvalidSetting_setting, fs_InvalidNumber := x_fs_InvalidNumber, sv_InvalidNumber_InvalidNumber := x_sv_InvalidNumber_InvalidNumber, nf_InvalidNumber_number := x_nf_InvalidNumber_number, no_super := x_no_super, sup_top := x_sup_top }).imp fun vs H Q E h => Y.k17.law_holds _ rfl vs H Q E h

