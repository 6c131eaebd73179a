import PyProof.Rows.All
import Wide.All
import OpenK.AllK
import Wide.FinOn
import HandS.ForMost
import HandS.Wide
import HandS.IsInst
import HandS.More
import HandS.Conv
import HandS.SortInts
import HandS.SetKeys
import HandS.Walk
import HandS.Style
import HandS.Lambda
import HandS.SortKw
import KE.DataMinKey
import HandS.MakeKwOnly
import HandS.MakeKw
import HandS.Defaults
import HandS.Exc
import HandS.ExcOwn
import HandS.ExcInit
import HandS.WordsExc
import HandS.TryOnly
import HandS.TryMany
import HandS.CallSlots
import HandS.ExcField
import PyProof.ExcClass
import PyProof.ExcBaseAll.LookupError
import KE.KExcInit
import HandS.ListItems
import KE.GoesMore
import KE.GoesEnum
import PySem.Challenge.RW_guestfleet_k87_needs_and_least_promises
import HandS.EndTab
import KE.KNestM
set_option Elab.async false
set_option maxRecDepth 100000
set_option maxHeartbeats 4000000
set_option linter.all false
/-! Y: steps over the hand layer: rules that choose by the values, and for each reading what to show (backward). -/
namespace Y
open PySem PySem.Spec PyProof.Rows L2

/-! ### rules that choose by the values -/
section
variable {X : Cx}
def rDGet : R2 := fun x y H Q => ∃ a v, x = .ref a ∧ DGet H a y (some v) ∧ Q v H
theorem ix_dget (hu : X.A.units + 1 < cLine) : IxR X rDGet := by
  intro value slice pins s σ H x y v u Q I rx ry h hs
  obtain ⟨a, z, rfl, g, q⟩ := h
  obtain rfl : v = Value.ref a := rx
  exact tail_any (dict_typeIs I g) PySem.F.slot_dict_getitem.lookup (d_getItem hu I g ry fun w' s3 I3 rw' => ⟨z, H, I3, rw', q⟩) hs
/-- xs[i], t[i], s[i], d[k] -/
def rSub (K : PySem.W.Frag) : R2 := fun x y H Q => rIx K x y H Q ∨ rDGet x y H Q
theorem ix_any (hu : X.A.units + 1 < cLine) : IxR X (rSub X.K) := ix_seq.or (ix_dget hu)
def rAdd2 : R2 := rI0 fun i j => .int (i + j)
def rSub2 : R2 := rI0 fun i j => .int (i - j)
def rMulI : R2 := rI CMulW fun i j => .int (i * j)
def rAddS : R2 := fun x y H Q => ∃ i j, x = .str i ∧ y = .str j ∧ i.length + j.length ≤ sizeLine ∧ Q (.str (i ++ j)) H
/-- + of ints, texts, lists -/
def rPlus : R2 := fun x y H Q => rAdd2 x y H Q ∨ rAddS x y H Q ∨ rCat x y H Q
theorem op_plus : OpR X (binaryOp .Add) rPlus := op_add.or (OpR.or op_add_str op_cat)
theorem op_minus : OpR X (binaryOp .Sub) rSub2 := op_sub
/-- * of ints, of a list and an int -/
def rTimes : R2 := fun x y H Q => rMulI x y H Q ∨ rRep x y H Q
theorem op_times : OpR X (binaryOp .Mult) rTimes := op_mulW.or op_rep
def rFdiv : R2 := rI CDivW fun i j => .int (i / j)
theorem op_fdivY : OpR X (binaryOp .FloorDiv) rFdiv := op_fdivW
def rMod : R2 := rI (fun _ j => 0 < j) fun i j => .int (i % j)
theorem op_modY : OpR X (binaryOp .Mod) rMod := op_mod
def rPow : R2 := rI CPow fun i j => .int (i ^ j.toNat)
theorem op_powY : OpR X (binaryOp .Pow) rPow := op_pow
/-- == of scalars, of data -/
def rEqA (K : PySem.W.Frag) : R2 := fun x y H Q => rEq x y H Q ∨ rEqD K x y H Q
theorem op_eqA (hu : X.A.units + 64 < cLine) : OpR X (compareOp .Eq) (rEqA X.K) := op_eq.or (op_eqD hu)
def rNeA (K : PySem.W.Frag) : R2 := fun x y H Q => rNe x y H Q ∨ rNeD K x y H Q
theorem op_neA (hu : X.A.units + 64 < cLine) : OpR X (compareOp .NotEq) (rNeA X.K) := op_ne.or (op_neD hu)
def rLtI : R2 := rI0 fun i j => .bl (decide (i < j))
def rLeI : R2 := rI0 fun i j => .bl (decide (i ≤ j))
def rGtI : R2 := rI0 fun i j => .bl (decide (j < i))
def rGeI : R2 := rI0 fun i j => .bl (decide (j ≤ i))
theorem op_ltI : OpR X (compareOp .Lt) rLtI := op_lt
theorem op_leI : OpR X (compareOp .LtE) rLeI := op_le
theorem op_gtI : OpR X (compareOp .Gt) rGtI := op_gt
theorem op_geI : OpR X (compareOp .GtE) rGeI := op_ge
def rIsNo : R2 := fun x y H Q => y = .non ∧ Q (.bl (decide (x = .non))) H
def rNotNo : R2 := fun x y H Q => y = .non ∧ Q (.bl (!decide (x = .non))) H
theorem op_isNo : OpR X (compareOp .Is) rIsNo := op_isN
theorem op_notNo : OpR X (compareOp .IsNot) rNotNo := op_notN
/-- in: a dict, a list or tuple of flat things, a sign in a text -/
def rDIn : R2 := fun x y H Q => ∃ a o, y = .ref a ∧ DGet H a x o ∧ Q (.bl o.isSome) H
def rDNotIn : R2 := fun x y H Q => ∃ a o, y = .ref a ∧ DGet H a x o ∧ Q (.bl (!o.isSome)) H
theorem op_din (hu : X.A.units + 1 < cLine) : OpR X (compareOp .In) rDIn := by
  intro pins s σ H x y v u Q I rx ry h
  obtain ⟨a, o, rfl, g, q⟩ := h
  obtain rfl : u = Value.ref a := ry
  exact d_in hu I g rx fun s3 I3 => ⟨.bl o.isSome, H, I3, rfl, q⟩
theorem op_dnotIn (hu : X.A.units + 1 < cLine) : OpR X (compareOp .NotIn) rDNotIn := by
  intro pins s σ H x y v u Q I rx ry h
  obtain ⟨a, o, rfl, g, q⟩ := h
  obtain rfl : u = Value.ref a := ry
  exact d_notIn hu I g rx fun s3 I3 => ⟨.bl (!o.isSome), H, I3, rfl, q⟩
def rSign : R2 := fun x y H Q => ∃ (c : Nat) (z : Str), x = .str ⟨#[c]⟩ ∧ y = .str z ∧ Q (.bl (decide (c ∈ z.cps.toList))) H
def rInA (K : PySem.W.Frag) : R2 := fun x y H Q => rDIn x y H Q ∨ rIn K false x y H Q ∨ rSign x y H Q
theorem op_inA (hu : X.A.units + 1 < cLine) : OpR X (compareOp .In) (rInA X.K) := (op_din hu).or (OpR.or op_in_seq op_in_sign)
def rNotInA (K : PySem.W.Frag) : R2 := fun x y H Q => rDNotIn x y H Q ∨ rIn K true x y H Q
theorem op_notInA (hu : X.A.units + 1 < cLine) : OpR X (compareOp .NotIn) (rNotInA X.K) := (op_dnotIn hu).or op_notIn_seq
def rNeg : V → Hp → VK → Prop := rU fun i => .int (-i)
theorem un_negY : UnR X (unaryOp .USub) rNeg := un_neg
/-! built-ins -/
def rLenD : List V → Hp → VK → Prop := fun xs H Q => ∃ a kvs, xs = [V.ref a] ∧ Rd H a (.dK kvs) ∧ Q (.int kvs.length) H
theorem call_lenR : CallR X (.builtin "len") rLenD := by
  intro pins s σ H xs us Q I r h
  obtain ⟨a, kvs, rfl, ha, q⟩ := h
  obtain ⟨u, rfl, ru⟩ := vals1 r
  cases ru
  exact d_len I ha fun t s' I' => ⟨.int kvs.length, H, I', ⟨t, rfl⟩, q⟩
def rLen1 (K : PySem.W.Frag) : List V → Hp → VK → Prop := fun xs H Q => ∃ x n, xs = [x] ∧ LenV K x H n ∧ Q (.int n) H
def rLen (K : PySem.W.Frag) : List V → Hp → VK → Prop := fun xs H Q => rLen1 K xs H Q ∨ rLenD xs H Q
theorem call_lenA : CallR X (.builtin "len") (rLen X.K) := CallR.or call_len call_lenR
def rAbs : List V → Hp → VK → Prop := fun xs H Q => ∃ i, xs = [.int i] ∧ Q (.int (if i < 0 then -i else i)) H
theorem call_absY : CallR X (.builtin "abs") rAbs := call_abs
def rMax2 : List V → Hp → VK → Prop := fun xs H Q => ∃ i j, xs = [.int i, .int j] ∧ Q (.int (if j > i then j else i)) H
theorem call_max2Y (hc : X.calm = true) : CallR X (.builtin "max") rMax2 := call_max2 hc
def rMin2 : List V → Hp → VK → Prop := fun xs H Q => ∃ i j, xs = [.int i, .int j] ∧ Q (.int (if j < i then j else i)) H
theorem call_min2Y (hc : X.calm = true) : CallR X (.builtin "min") rMin2 := call_min2 hc
def rInt : List V → Hp → VK → Prop := fun xs H Q => (∃ i, xs = [.int i] ∧ Q (.int i) H) ∨ ∃ k, xs = [.bl k] ∧ Q (.int (if k then 1 else 0)) H
def rListA (K : PySem.W.Frag) : List V → Hp → VK → Prop := fun xs H Q =>
  (∃ p ys, xs = [.ref p] ∧ (SqL K H p ys ∨ SqT K H p ys) ∧ ∀ l, H l = none → Q (.ref l) (upd H l (.lst ys))) ∨
  ∃ (a : Addr) (kvs : List (Key × V)), xs = [.ref a] ∧ Rd H a (.dK kvs) ∧ ∀ p, H p = none → Q (.ref p) (upd H p (.lst (kvs.map fun kv => kV kv.1)))
theorem call_listA (hc : X.calm = true) : CallR X (.type "list") (rListA X.K) := CallR.or call_list_of (call_listD hc)
def rDictA (K : PySem.W.Frag) : List V → Hp → VK → Prop := fun xs H Q =>
  (∃ (a : Addr) (ps : List Addr) (kvs : List (Key × V)), xs = [.ref a] ∧ SqL K H a (ps.map V.ref) ∧ Paired (fun p kv => SqT K H p [kV kv.1, kv.2]) ps kvs ∧ ∀ p, H p = none → Q (.ref p) (upd H p (.dK (mergeK [] kvs)))) ∨
  ∃ (a : Addr) (kvs : List (Key × V)), xs = [.ref a] ∧ Rd H a (.dK kvs) ∧ ∀ p, H p = none → Q (.ref p) (upd H p (.dK kvs))
theorem call_dictA (hc : X.calm = true) : CallR X (.type "dict") (rDictA X.K) := CallR.or (call_dictP hc) call_dictD
def rDivmod : List V → Hp → VK → Prop := fun xs H Q => ∃ i j, xs = [.int i, .int j] ∧ CDiv i j ∧ ∀ p, H p = none → Q (.ref p) (upd H p (.tup [.int (i / j), .int (i % j)]))
/-! walks -/
theorem pi_or {tg iter : Expr} {w1 w2 : TI} (h1 : PI X tg iter w1) (h2 : PI X tg iter w2) : PI X tg iter (fun σ H R => w1 σ H R ∨ w2 σ H R) :=
  ⟨fun pins s σ H R I h => h.elim (h1.run pins s σ H R I) (h2.run pins s σ H R I)⟩
/-- from here on the thing at d is only read -/
def tFrz (t : TS) : TS := fun D σ H => ∃ d u, H d = some u ∧ Mut (some u) ∧ ∀ od, t D σ (upd H d (.frz od u))
theorem pss_frz {sts : List Stmt} {t : TS} (h : PSs X sts t) : PSs X sts (tFrz t) := by
  refine ⟨fun pins s σ H D I hw => ?_⟩
  obtain ⟨d, u, hd, mu, hw⟩ := hw
  obtain ⟨od, I1⟩ := I.lock hd mu
  exact h.run pins s σ _ D I1 (hw od)
def tFrzE (t : TE) : TE := fun σ H Q => t σ H fun v H' => ∃ d u, v = .ref d ∧ H' d = some u ∧ Mut (some u) ∧ ∀ od, Q v (upd H' d (.frz od u))
theorem pe_frz {e : Expr} {t : TE} (h : PE X e t) : PE X e (tFrzE t) := by
  refine ⟨fun pins s σ H Q I hw => ?_⟩
  refine thn (h.run pins s σ H _ I hw) fun v s1 ⟨x, H1, I1, r, d, u, ex, hd, mu, q⟩ => ?_
  obtain ⟨od, I2⟩ := I1.lock hd mu
  exact ⟨x, _, I2, r, q od⟩
end
theorem call_intY {X : Cx} : CallR X (.type "int") rInt := call_int1
theorem call_divmodY {X : Cx} : CallR X (.builtin "divmod") rDivmod := call_divmod
def rSumA (K : PySem.W.Frag) : List V → Hp → VK → Prop := rSum K
theorem call_sumA {X : Cx} (hc : X.calm = true) : CallR X (.builtin "sum") (rSumA X.K) := cr_sum hc

/-! ### heaps -/
theorem up_new {H : Hp} {a p : Addr} {o u : HO} (n : H p = none) (h : H a = some o) : upd H p u a = some o := by
  rw [upd_ne (ne_of_none h n)]
  exact h
theorem up_ne {H : Hp} {a p : Addr} {u : HO} {r : Option HO} (n : a ≠ p) (h : H a = r) : upd H p u a = r := by
  rw [upd_ne n]
  exact h
theorem same_at {H H' : Hp} {a : Addr} {o : HO} (e : Same H H') (h : H a = some o) : H' a = some o := e a o h
theorem same_new {H H' : Hp} {p : Addr} {o : HO} (e : Same H H') (n : H' p = none) : Same H (upd H' p o) := fun a u h => up_new n (e a u h)
theorem same_new0 {H : Hp} {p : Addr} {o : HO} (n : H p = none) : Same H (upd H p o) := fun a u h => up_new n h
theorem same_mut {H H' : Hp} {p : Addr} {o : HO} (e : Same H H') (n : H p = none) : Same H (upd H' p o) := fun a u h => by
  rw [upd_ne (ne_of_none h n)]
  exact e a u h
theorem free_of {H H' : Hp} {p : Addr} (e : Same H H') (n : H' p = none) : H p = none := e.free n
theorem free_upd {H : Hp} {a p : Addr} {u : HO} (n : upd H a u p = none) : H p = none := by
  by_cases e : p = a
  · rw [e, upd_same] at n
    cases n
  · rw [upd_ne e] at n
    exact n
theorem upd_free {H : Hp} {a p : Addr} {u : HO} (n : p ≠ a) (h : H p = none) : upd H a u p = none := by
  rw [upd_ne n]
  exact h

/-! ### what to show -/
section
variable {K : PySem.W.Frag} {σ : L2.St} {H : Hp} {Q : VK} {QT : Bool → Hp → Prop} {ta tb tc te : TE} {t u : TT} {x y v : V}
theorem y_var {i : Nat} (h : σ[i]? = some (some v)) (q : Q v H) : tVar i σ H Q := ⟨v, h, q⟩
theorem y_c (q : Q v H) : tC v σ H Q := q
theorem y_op {r : R2} (q : ta σ H fun x H1 => tb σ H1 fun y H2 => r x y H2 Q) : tOp r ta tb σ H Q := q
theorem y_un {r : V → Hp → VK → Prop} (q : ta σ H fun x H1 => r x H1 Q) : tUn r ta σ H Q := q
theorem y_tt (q : te σ H fun x H' => ∃ k, x = .bl k ∧ QT k H') : tTest te σ H QT := q
theorem y_tB (q : te σ H fun x H' => ∃ k, x = .bl k ∧ QT k H') : tB te σ H QT := q
theorem y_bl {b : Bool} {R : Bool → Prop} (q : R b) : ∃ k, V.bl b = .bl k ∧ R k := ⟨b, rfl, q⟩
theorem y_and (q : t σ H fun c H1 => if c = true then u σ H1 QT else QT false H1) : tAnd t u σ H QT := q
theorem y_or (q : t σ H fun c H1 => if c = true then QT true H1 else u σ H1 QT) : tOr t u σ H QT := q
theorem y_not (q : t σ H fun c H1 => QT (!c) H1) : tNot t σ H QT := q
theorem y_andV (q : ta σ H fun x H1 => ∃ c, x = .bl c ∧ if c = true then tb σ H1 Q else Q (.bl false) H1) : tAndV ta tb σ H Q := q
theorem y_orV (q : ta σ H fun x H1 => ∃ c, x = .bl c ∧ if c = true then Q (.bl true) H1 else tb σ H1 Q) : tOrV ta tb σ H Q := q
theorem y_notV (q : ta σ H fun x H1 => ∃ c, x = .bl c ∧ Q (.bl (!c)) H1) : tNotV ta σ H Q := q
theorem y_if (q : t σ H fun c H1 => if c = true then ta σ H1 Q else tb σ H1 Q) : tIf t ta tb σ H Q := q
theorem y_chain {r r' : R2} (q : ta σ H fun x H1 => tb σ H1 fun y H2 => r x y H2 fun z H3 => ∃ k, z = .bl k ∧ if k = true then (tc σ H3 fun w H4 => r' y w H4 Q) else Q (.bl false) H3) : tChain r r' ta tb tc σ H Q := by
  first
    | exact q
    | (unfold tChain; exact q)
/-! statements -/
variable {nx : L2.St → Hp → Prop} {rt : VK} {bk ct : L2.St → Hp → Prop} {s s' : TS} {g : TG}
theorem y_seq (q : s ⟨s' ⟨nx, rt, bk, ct⟩, rt, bk, ct⟩ σ H) : tSeq s s' ⟨nx, rt, bk, ct⟩ σ H := q
theorem y_next (q : nx σ H) : tNext ⟨nx, rt, bk, ct⟩ σ H := q
theorem y_break (q : bk σ H) : tBreak ⟨nx, rt, bk, ct⟩ σ H := q
theorem y_cont (q : ct σ H) : tCont ⟨nx, rt, bk, ct⟩ σ H := q
theorem y_drop (q : te σ H fun _ H1 => nx σ H1) : tDrop te ⟨nx, rt, bk, ct⟩ σ H := q
theorem y_ret (q : te σ H rt) : tRet te ⟨nx, rt, bk, ct⟩ σ H := q
theorem y_retN (q : rt .non H) : tRetN ⟨nx, rt, bk, ct⟩ σ H := q
theorem y_ifS (q : t σ H fun b H1 => if b = true then s ⟨nx, rt, bk, ct⟩ σ H1 else s' ⟨nx, rt, bk, ct⟩ σ H1) : tIfS t s s' ⟨nx, rt, bk, ct⟩ σ H := q
theorem y_asg (q : te σ H fun x H1 => g x σ H1 nx) : tAsg te g ⟨nx, rt, bk, ct⟩ σ H := q
theorem y_name {i : Nat} {R : L2.St → Hp → Prop} (q : R (σ.set i (some v)) H) : gName i v σ H R := q
theorem y_par {i j : Nat} {ta : TA} (q : ta σ H fun vs H1 => ∃ v w, vs = [v, w] ∧ nx ((σ.set i (some v)).set j (some w)) H1) : tPar i j ta ⟨nx, rt, bk, ct⟩ σ H := q
theorem y_par2 {R : V → V → Prop} {a b : V} (q : R a b) : ∃ v w, [a, b] = [v, w] ∧ R v w := ⟨a, b, rfl, q⟩
theorem y_aug {i : Nat} {ti : TIp} (h : σ[i]? = some (some v)) (q : te σ H fun y H1 => ti v y H1 fun z H2 => nx (σ.set i (some z)) H2) : tAug i te ti ⟨nx, rt, bk, ct⟩ σ H := ⟨v, h, q⟩
theorem y_gtup {n : Nat} {ts : TGs} {R : L2.St → Hp → Prop} {a : Addr} {xs : List V} (h : H a = some (.tup xs)) (hl : xs.length = n) (q : ts xs σ H R) : gTup K n ts (.ref a) σ H R := ⟨a, xs, rfl, SqT.of h, hl, q⟩
theorem y_gcons {t : TG} {ts : TGs} {R : L2.St → Hp → Prop} {r : List V} (q : t v σ H fun σ' H' => ts r σ' H' R) : gCons t ts (v :: r) σ H R := ⟨v, r, rfl, q⟩
theorem y_gnil {R : L2.St → Hp → Prop} (q : R σ H) : gNil [] σ H R := ⟨rfl, q⟩
theorem y_gsub {to ti : TE} {ts : TSet} {R : L2.St → Hp → Prop} (q : to σ H fun o H1 => ti σ H1 fun i H2 => ts o i v H2 fun H3 => R σ H3) : gSub to ti ts v σ H R := q
/-! arguments, calls -/
variable {QA : List V → Hp → Prop} {tA : TA}
theorem y_anil (q : QA [] H) : tNil σ H QA := q
theorem y_acons (q : te σ H fun x H1 => tA σ H1 fun xs H2 => QA (x :: xs) H2) : tCons te tA σ H QA := q
theorem y_call {sp : Sp} {E : XK} (q : tA σ H fun vs H1 => sp (vs ++ []) H1 Q E) : tCall sp [] E tA σ H Q := q
theorem y_cb {r : List V → Hp → VK → Prop} (q : tA σ H fun vs H1 => r vs H1 Q) : tCB r tA σ H Q := q
theorem y_tup (q : tA σ H fun xs H1 => xs.length ≤ sizeLine ∧ ∀ p, H1 p = none → Q (.ref p) (upd H1 p (.tup xs))) : tTup tA σ H Q := q
theorem y_lst (q : tA σ H fun xs H1 => xs.length ≤ sizeLine ∧ ∀ p, H1 p = none → Q (.ref p) (upd H1 p (.lst xs))) : tLst tA σ H Q := q
theorem y_dnew (q : ∀ p, H p = none → Q (.ref p) (upd H p (.dK []))) : tDNewK σ H Q := q
theorem y_bm {T : String} {r : V → List V → Hp → VK → Prop} {to : TE} (q : to σ H fun x H1 => tyV K T x H1 ∧ tA σ H1 fun xs H2 => r x xs H2 Q) : tBM K T r to tA σ H Q := q
theorem y_bm0 {T : String} {r : V → List V → Hp → VK → Prop} {to : TE} (q : to σ H fun x H1 => tyV K T x H1 ∧ r x [] H1 Q) : tBM0 K T r to σ H Q := q
theorem y_tylst {a : Addr} {xs : List V} {R : Prop} (h : H a = some (.lst xs)) (q : R) : tyV K "list" (.ref a) H ∧ R := ⟨.inl ⟨rfl, _, SqL.of h⟩, q⟩
/-! slices -/
variable {QO : Option Int → Hp → Prop} {tl th : TO}
theorem y_sl {r : V → Option Int → Option Int → Hp → VK → Prop} (q : te σ H fun x H1 => tl σ H1 fun l H2 => th σ H2 fun u H3 => r x l u H3 Q) : tSl r te tl th σ H Q := q
theorem y_nopart (q : QO none H) : tNoPart σ H QO := q
theorem y_part (q : te σ H fun x H1 => ∃ i, x = .int i ∧ QO (some i) H1) : tPart te σ H QO := q
theorem y_int1 {i : Int} {R : Int → Prop} (q : R i) : ∃ j, V.int i = .int j ∧ R j := ⟨i, rfl, q⟩
/-! operators by values -/
variable {i j : Int} {a p : Addr} {xs ys : List V} {kvs : List (Key × V)} {o : Obj}
theorem y_addI (q : Q (.int (i + j)) H) : rPlus (.int i) (.int j) H Q := .inl ⟨i, j, rfl, rfl, q⟩
theorem y_addS {x y : Str} (h : x.length + y.length ≤ sizeLine) (q : Q (.str (x ++ y)) H) : rPlus (.str x) (.str y) H Q := .inr (.inl ⟨x, y, rfl, rfl, h, q⟩)
theorem y_addL {b : Addr} (h : H a = some (.lst xs)) (h' : H b = some (.lst ys)) (hl : xs.length + ys.length ≤ sizeLine) (q : ∀ p, H p = none → Q (.ref p) (upd H p (.lst (xs ++ ys)))) : rPlus (.ref a) (.ref b) H Q := .inr (.inr ⟨a, b, xs, ys, rfl, rfl, h, h', hl, q⟩)
theorem y_subI (q : Q (.int (i - j)) H) : rSub2 (.int i) (.int j) H Q := ⟨i, j, rfl, rfl, q⟩
theorem y_mulI (h : CMulW i j) (q : Q (.int (i * j)) H) : rTimes (.int i) (.int j) H Q := .inl ⟨i, j, rfl, rfl, h, q⟩
theorem y_fdiv (h : CDivW i j) (q : Q (.int (i / j)) H) : rFdiv (.int i) (.int j) H Q := ⟨i, j, rfl, rfl, h, q⟩
theorem y_mod (h : 0 < j) (q : Q (.int (i % j)) H) : rMod (.int i) (.int j) H Q := ⟨i, j, rfl, rfl, h, q⟩
theorem y_pow (h : CPow i j) (q : Q (.int (i ^ j.toNat)) H) : rPow (.int i) (.int j) H Q := ⟨i, j, rfl, rfl, h, q⟩
theorem y_neg (q : Q (.int (-i)) H) : rNeg (.int i) H Q := ⟨i, rfl, q⟩
theorem y_ltI (q : Q (.bl (decide (i < j))) H) : rLtI (.int i) (.int j) H Q := ⟨i, j, rfl, rfl, q⟩
theorem y_leI (q : Q (.bl (decide (i ≤ j))) H) : rLeI (.int i) (.int j) H Q := ⟨i, j, rfl, rfl, q⟩
theorem y_gtI (q : Q (.bl (decide (j < i))) H) : rGtI (.int i) (.int j) H Q := ⟨i, j, rfl, rfl, q⟩
theorem y_geI (q : Q (.bl (decide (j ≤ i))) H) : rGeI (.int i) (.int j) H Q := ⟨i, j, rfl, rfl, q⟩
theorem y_isNo (q : Q (.bl (decide (x = .non))) H) : rIsNo x .non H Q := ⟨rfl, q⟩
theorem y_notNo (q : Q (.bl (!decide (x = .non))) H) : rNotNo x .non H Q := ⟨rfl, q⟩
theorem y_eqS (h : scal x y = true) (q : Q (.bl (decide (x = y))) H) : rEqA K x y H Q := .inl ⟨h, q⟩
theorem y_neS (h : scal x y = true) (q : Q (.bl (!decide (x = y))) H) : rNeA K x y H Q := .inl ⟨h, q⟩
theorem y_eqD {d e : PyData} (h1 : Dp K H x d) (h2 : Dp K H y e) (h3 : SeqAt.shaped d = true) (h4 : SeqAt.shaped e = true) (q : Q (.bl (PyData.eqv d e)) H) : rEqA K x y H Q := .inr ⟨d, e, h1, h2, h3, h4, q⟩
theorem y_neD {d e : PyData} (h1 : Dp K H x d) (h2 : Dp K H y e) (h3 : SeqAt.shaped d = true) (h4 : SeqAt.shaped e = true) (q : Q (.bl (!PyData.eqv d e)) H) : rNeA K x y H Q := .inr ⟨d, e, h1, h2, h3, h4, q⟩
theorem dget_f {k : Key} {y : V} (e : H a = some (.frz o (.dK kvs))) (hy : y = kV k := by rfl) : DGet H a y (valV kvs k) := .inl ⟨kvs, k, .inr ⟨o, e⟩, hy, rfl⟩
theorem dget_k {k : Key} {y : V} (e : H a = some (.dK kvs)) (hy : y = kV k := by rfl) : DGet H a y (valV kvs k) := .inl ⟨kvs, k, .inl e, hy, rfl⟩
theorem y_ixL (h : H a = some (.lst xs)) (ha : atI xs i = some v) (q : Q v H) : rSub K (.ref a) (.int i) H Q := .inl (.inl ⟨a, xs, i, v, rfl, rfl, SqL.of h, ha, q⟩)
theorem y_ixLs (h : SqL K H a xs) (ha : atI xs i = some v) (q : Q v H) : rSub K (.ref a) (.int i) H Q := .inl (.inl ⟨a, xs, i, v, rfl, rfl, h, ha, q⟩)
theorem y_ixT (h : H a = some (.tup xs)) (ha : atI xs i = some v) (q : Q v H) : rSub K (.ref a) (.int i) H Q := .inl (.inr (.inl ⟨a, xs, i, v, rfl, rfl, SqT.of h, ha, q⟩))
theorem y_ixF {z : Str} (h : H a = some (.frz o (.dK kvs))) (ha : valV kvs (Sum.inr z) = some v) (q : Q v H) : rSub K (.ref a) (.str z) H Q := .inr ⟨a, v, rfl, by rw [← ha]; exact dget_f (k := Sum.inr z) h, q⟩
theorem y_ixK {z : Str} (h : H a = some (.dK kvs)) (ha : valV kvs (Sum.inr z) = some v) (q : Q v H) : rSub K (.ref a) (.str z) H Q := .inr ⟨a, v, rfl, by rw [← ha]; exact dget_k (k := Sum.inr z) h, q⟩
theorem y_inF {z : Str} (h : H a = some (.frz o (.dK kvs))) (q : Q (.bl (valV kvs (Sum.inr z)).isSome) H) : rInA K (.str z) (.ref a) H Q := .inl ⟨a, _, rfl, dget_f (k := Sum.inr z) h, q⟩
theorem y_inK {z : Str} (h : H a = some (.dK kvs)) (q : Q (.bl (valV kvs (Sum.inr z)).isSome) H) : rInA K (.str z) (.ref a) H Q := .inl ⟨a, _, rfl, dget_k (k := Sum.inr z) h, q⟩
theorem y_niF {z : Str} (h : H a = some (.frz o (.dK kvs))) (q : Q (.bl (!(valV kvs (Sum.inr z)).isSome)) H) : rNotInA K (.str z) (.ref a) H Q := .inl ⟨a, _, rfl, dget_f (k := Sum.inr z) h, q⟩
theorem y_niK {z : Str} (h : H a = some (.dK kvs)) (q : Q (.bl (!(valV kvs (Sum.inr z)).isSome)) H) : rNotInA K (.str z) (.ref a) H Q := .inl ⟨a, _, rfl, dget_k (k := Sum.inr z) h, q⟩
theorem y_inL (h : H a = some (.lst xs)) (hx : flatV x = true) (hf : xs.all flatV = true) (q : Q (.bl (inV x xs)) H) : rInA K x (.ref a) H Q := .inr (.inl ⟨a, xs, rfl, .inl (SqL.of h), hx, hf, q⟩)
theorem y_niL (h : H a = some (.lst xs)) (hx : flatV x = true) (hf : xs.all flatV = true) (q : Q (.bl (!inV x xs)) H) : rNotInA K x (.ref a) H Q := .inr ⟨a, xs, rfl, .inl (SqL.of h), hx, hf, q⟩
theorem y_sign {c : Nat} {z : Str} (q : Q (.bl (decide (c ∈ z.cps.toList))) H) : rInA K (.str ⟨#[c]⟩) (.str z) H Q := .inr (.inr ⟨c, z, rfl, rfl, q⟩)
/-! built-ins by values -/
theorem y_lenL (h : H a = some (.lst xs)) (q : Q (.int xs.length) H) : rLen K [.ref a] H Q := .inl ⟨_, _, rfl, .inl ⟨xs, SqL.of h, rfl⟩, q⟩
theorem y_lenLs (h : SqL K H a xs) (q : Q (.int xs.length) H) : rLen K [.ref a] H Q := .inl ⟨_, _, rfl, .inl ⟨xs, h, rfl⟩, q⟩
theorem y_lenT (h : H a = some (.tup xs)) (q : Q (.int xs.length) H) : rLen K [.ref a] H Q := .inl ⟨_, _, rfl, .inr ⟨xs, SqT.of h, rfl⟩, q⟩
theorem y_lenS {z : Str} (h : z.length ≤ sizeLine) (q : Q (.int z.length) H) : rLen K [.str z] H Q := .inl ⟨_, _, rfl, ⟨h, rfl⟩, q⟩
theorem y_lenF (h : H a = some (.frz o (.dK kvs))) (q : Q (.int kvs.length) H) : rLen K [.ref a] H Q := .inr ⟨a, kvs, rfl, .inr ⟨o, h⟩, q⟩
theorem y_lenK (h : H a = some (.dK kvs)) (q : Q (.int kvs.length) H) : rLen K [.ref a] H Q := .inr ⟨a, kvs, rfl, .inl h, q⟩
theorem y_abs (q : Q (.int (if i < 0 then -i else i)) H) : rAbs [.int i] H Q := ⟨i, rfl, q⟩
theorem y_max2 (q : Q (.int (if j > i then j else i)) H) : rMax2 [.int i, .int j] H Q := ⟨i, j, rfl, q⟩
theorem y_min2 (q : Q (.int (if j < i then j else i)) H) : rMin2 [.int i, .int j] H Q := ⟨i, j, rfl, q⟩
theorem y_intI (q : Q (.int i) H) : rInt [.int i] H Q := .inl ⟨i, rfl, q⟩
theorem y_intB {b : Bool} (q : Q (.int (if b then 1 else 0)) H) : rInt [.bl b] H Q := .inr ⟨b, rfl, q⟩
theorem y_listL (h : H a = some (.lst xs)) (q : ∀ l, H l = none → Q (.ref l) (upd H l (.lst xs))) : rListA K [.ref a] H Q := .inl ⟨a, xs, rfl, .inl (SqL.of h), q⟩
theorem y_listF (h : H a = some (.frz o (.dK kvs))) (q : ∀ l, H l = none → Q (.ref l) (upd H l (.lst (kvs.map fun kv => kV kv.1)))) : rListA K [.ref a] H Q := .inr ⟨a, kvs, rfl, .inr ⟨o, h⟩, q⟩
theorem y_listK (h : H a = some (.dK kvs)) (q : ∀ l, H l = none → Q (.ref l) (upd H l (.lst (kvs.map fun kv => kV kv.1)))) : rListA K [.ref a] H Q := .inr ⟨a, kvs, rfl, .inl h, q⟩
theorem y_dictP {ps : List Addr} {kvs : List (Key × V)} (h : H a = some (.lst (ps.map V.ref))) (hp : Paired (fun p kv => SqT K H p [kV kv.1, kv.2]) ps kvs) (q : ∀ p, H p = none → Q (.ref p) (upd H p (.dK (mergeK [] kvs)))) : rDictA K [.ref a] H Q := .inl ⟨a, ps, kvs, rfl, SqL.of h, hp, q⟩
theorem y_dictF (h : H a = some (.frz o (.dK kvs))) (q : ∀ p, H p = none → Q (.ref p) (upd H p (.dK kvs))) : rDictA K [.ref a] H Q := .inr ⟨a, kvs, rfl, .inr ⟨o, h⟩, q⟩
theorem y_dictK (h : H a = some (.dK kvs)) (q : ∀ p, H p = none → Q (.ref p) (upd H p (.dK kvs))) : rDictA K [.ref a] H Q := .inr ⟨a, kvs, rfl, .inl h, q⟩
theorem y_divmod (h : CDiv i j) (q : ∀ p, H p = none → Q (.ref p) (upd H p (.tup [.int (i / j), .int (i % j)]))) : rDivmod [.int i, .int j] H Q := ⟨i, j, rfl, h, q⟩
theorem y_sum {ns : List Int} (h : H a = some (.lst (ns.map V.int))) (q : Q (.int ns.sum) H) : rSumA K [.ref a] H Q := ⟨a, ns, rfl, SqL.of h, q⟩
theorem y_slL {lo hi : Option Int} (h : H a = some (.lst xs)) (q : ∀ p, H p = none → Q (.ref p) (upd H p (.lst (cutV xs lo hi)))) : rSlL K (.ref a) lo hi H Q := ⟨a, xs, rfl, SqL.of h, q⟩
theorem y_append (h : H a = some (.lst xs)) (hl : xs.length < sizeLine) (q : Q .non (upd H a (.lst (xs ++ [y])))) : rAppend (.ref a) [y] H Q := ⟨a, xs, y, rfl, rfl, h, hl, q⟩
theorem y_extend {b : Addr} (h : H a = some (.lst xs)) (h' : H b = some (.lst ys)) (hl : xs.length + ys.length ≤ sizeLine) (q : Q .non (upd H a (.lst (xs ++ ys)))) : rExtend (.ref a) [.ref b] H Q := ⟨a, b, xs, ys, rfl, rfl, h, h', hl, q⟩
theorem y_setL {k : Int} {j : Nat} {R : Hp → Prop} (h : H a = some (.lst xs)) (hj : ixN xs.length k = some j) (q : R (upd H a (.lst (xs.set j v)))) : rSetL (.ref a) (.int k) v H R := ⟨a, xs, k, j, rfl, rfl, h, hj, q⟩
/-! branches -/
theorem y_T {A B : Prop} (q : A) : if true = true then A else B := iteT q
theorem y_F {A B : Prop} (q : B) : if false = true then A else B := iteF q
theorem y_nT {A B : Prop} (q : B) : if (!true) = true then A else B := iteF q
theorem y_nF {A B : Prop} (q : A) : if (!false) = true then A else B := iteT q
theorem y_dT {P A B : Prop} [Decidable P] (h : P) (q : A) : if decide P = true then A else B := by
  rw [decide_eq_true h]
  exact iteT q
theorem y_dF {P A B : Prop} [Decidable P] (h : ¬ P) (q : B) : if decide P = true then A else B := by
  rw [decide_eq_false h]
  exact iteF q
theorem y_ndT {P A B : Prop} [Decidable P] (h : P) (q : B) : if (!decide P) = true then A else B := by
  rw [decide_eq_true h]
  exact iteF q
theorem y_ndF {P A B : Prop} [Decidable P] (h : ¬ P) (q : A) : if (!decide P) = true then A else B := by
  rw [decide_eq_false h]
  exact iteT q
theorem y_bT {b : Bool} {A B : Prop} (h : b = true) (q : A) : if b = true then A else B := by
  rw [h]
  exact iteT q
theorem y_bF {b : Bool} {A B : Prop} (h : b = false) (q : B) : if b = true then A else B := by
  rw [h]
  exact iteF q
theorem y_d2 {P A B : Prop} [Decidable P] (h1 : P → A) (h2 : ¬ P → B) : if decide P = true then A else B := by
  by_cases h : P
  · exact y_dT h (h1 h)
  · exact y_dF h (h2 h)
theorem y_b2 {b : Bool} {A B : Prop} (h1 : b = true → A) (h2 : b = false → B) : if b = true then A else B := by
  cases b with
  | true => exact iteT (h1 rfl)
  | false => exact iteF (h2 rfl)
end

/-! ### rules with K told from outside (within a comprehension's block too) -/
section
variable {X : Cx} {K : PySem.W.Frag}
theorem ix_anyK (hu : X.A.units + 1 < cLine) (hK : X.K = K := by rfl) : IxR X (rSub K) := by subst hK; exact ix_any hu
theorem op_eqK (hu : X.A.units + 64 < cLine) (hK : X.K = K := by rfl) : OpR X (compareOp .Eq) (rEqA K) := by subst hK; exact op_eqA hu
theorem op_neK (hu : X.A.units + 64 < cLine) (hK : X.K = K := by rfl) : OpR X (compareOp .NotEq) (rNeA K) := by subst hK; exact op_neA hu
theorem op_inK (hu : X.A.units + 1 < cLine) (hK : X.K = K := by rfl) : OpR X (compareOp .In) (rInA K) := by subst hK; exact op_inA hu
theorem op_notInK (hu : X.A.units + 1 < cLine) (hK : X.K = K := by rfl) : OpR X (compareOp .NotIn) (rNotInA K) := by subst hK; exact op_notInA hu
theorem call_lenK (hK : X.K = K := by rfl) : CallR X (.builtin "len") (rLen K) := by subst hK; exact call_lenA
theorem call_listK (hc : X.calm = true) (hK : X.K = K := by rfl) : CallR X (.type "list") (rListA K) := by subst hK; exact call_listA hc
theorem call_dictKK (hc : X.calm = true) (hK : X.K = K := by rfl) : CallR X (.type "dict") (rDictA K) := by subst hK; exact call_dictA hc
theorem call_sumK (hc : X.calm = true) (hK : X.K = K := by rfl) : CallR X (.builtin "sum") (rSumA K) := by subst hK; exact call_sumA hc
def rIsiY (K : PySem.W.Frag) : List V → Hp → VK → Prop := rIsi K
def rIsiTY (K : PySem.W.Frag) : List V → Hp → VK → Prop := rIsiT K
theorem call_isiY (hK : X.K = K := by rfl) : CallR X (.builtin "isinstance") (rIsiY K) := by subst hK; exact call_isi
theorem call_isiTY (hK : X.K = K := by rfl) : CallR X (.builtin "isinstance") (rIsiTY K) := by subst hK; exact call_isiT
def rAnyY (K : PySem.W.Frag) : List V → Hp → VK → Prop := rAny K
def rAllY (K : PySem.W.Frag) : List V → Hp → VK → Prop := rAll K
theorem call_anyY (hc : X.calm = true) (hK : X.K = K := by rfl) : CallR X (.builtin "any") (rAnyY K) := by subst hK; exact cr_any hc
theorem call_allY (hc : X.calm = true) (hK : X.K = K := by rfl) : CallR X (.builtin "all") (rAllY K) := by subst hK; exact cr_all hc
def rSortI (K : PySem.W.Frag) : List V → Hp → VK → Prop := fun vs H Q => ∃ (a : Addr) (ns : List Int), vs = [V.ref a] ∧ SqL K H a (ns.map V.int) ∧ ∀ (ns' : List Int) (p : Addr), List.Perm ns' ns → ns'.Pairwise (· ≤ ·) → H p = none → Q (.ref p) (upd H p (.lst (ns'.map V.int)))
theorem sl_listK (hK : X.K = K := by rfl) : SlR X (rSlL K) := by subst hK; exact sl_list
theorem pi_listK {tg l : Expr} {tl : TE} (hl : PE X l tl) (hK : X.K = K := by rfl) : PI X tg l (iList K tl) := by subst hK; exact pi_list hl
theorem pi_tupK {tg l : Expr} {tl : TE} (hl : PE X l tl) (hK : X.K = K := by rfl) : PI X tg l (iTup K tl) := by subst hK; exact pi_tup hl
theorem pi_enumK {e : Expr} {ta : TA} {p pos tpos : Pos} {elts : List Expr} {kk : Nat} (hg : Gl X "enumerate") (hm : X.mg "enumerate" = none) (ha : PA X [e] ta) (hs : starEach [e] X.env = [(false, eval e X.env)] := by rfl) (hK : X.K = K := by rfl) :
    PI X (.Tuple elts kk tpos) (.Call (.Name "enumerate" p) [e] [] pos) (iEnum K ta) := by subst hK; exact pi_enum hg hm ha hs
theorem pg_tupK {es : List Expr} {k : Nat} {pos : Pos} {t : TGs} {n : Nat} (hc : X.calm = true) (h : PGs X es t)
    (hn : (assignEach es X.env).length = n := by rfl) (hst : (assignEach es X.env).findIdx? (·.1) = none := by rfl) (hK : X.K = K := by rfl) : PG X (.Tuple es k pos) (gTup K n t) := by
  subst hK
  exact pg_tup hc h hn hst
theorem call_sortedY (hK : X.K = K := by rfl) : CallR X (.builtin "sorted") (rSortedI K) := by subst hK; exact cr_sortedI
theorem pe_bmK {T name id : _} {r : V → List V → Hp → VK → Prop} {o e : Expr} {es : List Expr} {to : TE} {t : TA} {apos cpos : Pos} (pa : PlainAttrs T) (slot : Slot T name id) (hty : typeOf (.builtin id) = pure (.type "method_descriptor")) (hm : MtR X id r) (ho : PE X o to) (ha : PA X (e :: es) t)
    (hbase : attributeBase o name X.env (eval o X.env) = eval o X.env := by rfl)
    (hfew : ((backTo cpos (starEach (e :: es) X.env)).all (fun x => !x.1) && (backToKw cpos (keywordEach [] X.env)).all (fun x => x.1.isSome)
      && decide ((e :: es).length + ([] : List Keyword).length + (if ([] : List Keyword).isEmpty then 0 else 1) < 30)) = true := by rfl) (hline : (apos.endLine == cpos.line) = true := by rfl) (hs : starEach (e :: es) X.env = (false, eval e X.env) :: starEach es X.env := by rfl) (hplain : (backTo cpos (starEach es X.env)).any (·.1) = false := by rfl) (hK : X.K = K := by rfl) : PE X (.Call (.Attribute o name apos) (e :: es) [] cpos) (tBM K T r to t) := by
  subst hK
  exact pe_bm pa slot hty hm ho ha hbase hfew hline hs hplain
theorem pe_gint {x : Str} {n : Int} {p : Pos} (h : ∃ t, X.mg x = some (Value.int n t)) (hg : Gl X x := by rfl) (hdb : (x == ("__debug__" : Str)) = false := by decide) : PE X (.Name x p) (tC (.int n)) := by
  obtain ⟨t, h⟩ := h
  exact pe_glob hg h ⟨t, rfl⟩ hdb
theorem pe_gstr {x : Str} {n : Str} {p : Pos} (h : ∃ t, X.mg x = some (Value.str n t)) (hg : Gl X x := by rfl) (hdb : (x == ("__debug__" : Str)) = false := by decide) : PE X (.Name x p) (tC (.str n)) := by
  obtain ⟨t, h⟩ := h
  exact pe_glob hg h ⟨t, rfl⟩ hdb
theorem pe_bty {x : Str} {T : String} {p : Pos} (hm : X.mg x = none) (hv : bootBuiltins x = some (.type T)) (hg : Gl X x := by rfl) (hn : x ≠ "__name__" := by decide) (hd : (x == ("__debug__" : Str)) = false := by decide) : PE X (.Name x p) (tC (.ty T)) := pe_bltn hg hm hv rfl hn hd
end
section
variable {K : PySem.W.Frag} {H : Hp} {Q : VK} {x : V}
theorem y_isi {T A : String} {b : Bool} (ht : TyX K H x (.type A)) (hk : kitB A T = some b) (q : Q (.bl b) H) : rIsiY K [x, .ty T] H Q := ⟨x, .ty T, .type A, .type T, b, rfl, .ty T, ht, kit_ty hk, q⟩
theorem y_isiT {S T A : String} {tp : Addr} {b c : Bool} (hT : H tp = some (.tup [.ty S, .ty T])) (ht : TyX K H x (.type A)) (hk : kitB A S = some b) (hk' : kitB A T = some c) (q : Q (.bl (b || c)) H) : rIsiTY K [x, .ref tp] H Q := by
  refine ⟨x, tp, [.ty S, .ty T], .type A, [.type S, .type T], b || c, rfl, hT, .cons (.ty S) (.cons (.ty T) .nil), ht, ?_, q⟩
  refine kitAny_cons (kit_ty hk) (fun e => ?_) (fun e => by rw [e]; rfl)
  rw [e, Bool.false_or]
  refine kitAny_cons (kit_ty hk') (fun e => ?_) (fun e => e)
  rw [e]
  rfl
theorem kt_NoneType_int : kitB "NoneType" "int" = some false := by decide +kernel
theorem kt_NoneType_bool : kitB "NoneType" "bool" = some false := by decide +kernel
theorem kt_NoneType_str : kitB "NoneType" "str" = some false := by decide +kernel
theorem kt_NoneType_list : kitB "NoneType" "list" = some false := by decide +kernel
theorem kt_NoneType_tuple : kitB "NoneType" "tuple" = some false := by decide +kernel
theorem kt_NoneType_dict : kitB "NoneType" "dict" = some false := by decide +kernel
theorem kt_bool_int : kitB "bool" "int" = some true := by decide +kernel
theorem kt_bool_bool : kitB "bool" "bool" = some true := by decide +kernel
theorem kt_bool_str : kitB "bool" "str" = some false := by decide +kernel
theorem kt_bool_list : kitB "bool" "list" = some false := by decide +kernel
theorem kt_bool_tuple : kitB "bool" "tuple" = some false := by decide +kernel
theorem kt_bool_dict : kitB "bool" "dict" = some false := by decide +kernel
theorem kt_int_int : kitB "int" "int" = some true := by decide +kernel
theorem kt_int_bool : kitB "int" "bool" = some false := by decide +kernel
theorem kt_int_str : kitB "int" "str" = some false := by decide +kernel
theorem kt_int_list : kitB "int" "list" = some false := by decide +kernel
theorem kt_int_tuple : kitB "int" "tuple" = some false := by decide +kernel
theorem kt_int_dict : kitB "int" "dict" = some false := by decide +kernel
theorem kt_str_int : kitB "str" "int" = some false := by decide +kernel
theorem kt_str_bool : kitB "str" "bool" = some false := by decide +kernel
theorem kt_str_str : kitB "str" "str" = some true := by decide +kernel
theorem kt_str_list : kitB "str" "list" = some false := by decide +kernel
theorem kt_str_tuple : kitB "str" "tuple" = some false := by decide +kernel
theorem kt_str_dict : kitB "str" "dict" = some false := by decide +kernel
theorem kt_list_int : kitB "list" "int" = some false := by decide +kernel
theorem kt_list_bool : kitB "list" "bool" = some false := by decide +kernel
theorem kt_list_str : kitB "list" "str" = some false := by decide +kernel
theorem kt_list_list : kitB "list" "list" = some true := by decide +kernel
theorem kt_list_tuple : kitB "list" "tuple" = some false := by decide +kernel
theorem kt_list_dict : kitB "list" "dict" = some false := by decide +kernel
theorem kt_tuple_int : kitB "tuple" "int" = some false := by decide +kernel
theorem kt_tuple_bool : kitB "tuple" "bool" = some false := by decide +kernel
theorem kt_tuple_str : kitB "tuple" "str" = some false := by decide +kernel
theorem kt_tuple_list : kitB "tuple" "list" = some false := by decide +kernel
theorem kt_tuple_tuple : kitB "tuple" "tuple" = some true := by decide +kernel
theorem kt_tuple_dict : kitB "tuple" "dict" = some false := by decide +kernel
theorem kt_dict_int : kitB "dict" "int" = some false := by decide +kernel
theorem kt_dict_bool : kitB "dict" "bool" = some false := by decide +kernel
theorem kt_dict_str : kitB "dict" "str" = some false := by decide +kernel
theorem kt_dict_list : kitB "dict" "list" = some false := by decide +kernel
theorem kt_dict_tuple : kitB "dict" "tuple" = some false := by decide +kernel
theorem kt_dict_dict : kitB "dict" "dict" = some true := by decide +kernel
theorem y_for {wi : TI} {g : TG} {tb : TS} {D : Ends} {σ : L2.St} (q : wi σ H fun J H1 => ∃ W : Nat → Nat → L2.St → Hp → Prop, (∃ m, W 0 m σ H1) ∧ ∀ i m σ H, W i m σ H →
    (J.stop i H ∧ D.nx σ H) ∨ (J.go i H ∧ ∃ N : L2.St → Hp → Prop, (∀ σ' H', N σ' H' → ∃ m', m' < m ∧ W (i + 1) m' σ' H') ∧ ∀ x H', J.yld i H x H' → g x σ H' fun σ2 H2 => tb { D with nx := N, ct := N, bk := D.nx } σ2 H2)) : tFor wi g tb D σ H := q
theorem y_lc {wi : TI} {g : TG} {tt : TT} {te : TE} {vs : List Nat} {σ : L2.St} (q : wi σ H fun J H1 => ∀ D, H1 D = none → ∃ W : Nat → Nat → Hp → Prop, (∃ m, W 0 m (upd H1 D (.lst []))) ∧ ∀ i m H, W i m H →
    (J.stop i H ∧ Q (.ref D) H) ∨ (J.go i H ∧ ∃ Nx : Hp → Prop, (∀ H', Nx H' → ∃ m', m' < m ∧ W (i + 1) m' H') ∧ ∀ x H', J.yld i H x H' → g x (wipe σ vs) H' fun σ2 H2 => wipe σ2 vs = wipe σ vs ∧ tt σ2 H2 fun b H3 =>
      if b = true then te σ2 H3 fun y H4 => ∃ acc, H4 D = some (.lst acc) ∧ acc.length < sizeLine ∧ Nx (upd H4 D (.lst (acc ++ [y]))) else Nx H3)) : tLc wi g tt te vs σ H Q := q
variable {σ : L2.St} {R : It → Hp → Prop} {tl : TE} {tA : TA} {a : Addr} {xs : List V} {o : Obj} {kvs : List (Key × V)}
theorem y_iL (q : tl σ H fun x H1 => ∃ a, x = .ref a ∧ (∃ xs, SqL K H1 a xs) ∧ R (Itl K a) H1) : iList K tl σ H R := q
theorem y_gotL {R : Addr → Prop} (h : H a = some (.lst xs)) (q : R a) : ∃ b, V.ref a = .ref b ∧ (∃ xs, SqL K H b xs) ∧ R b := ⟨a, rfl, ⟨xs, SqL.of h⟩, q⟩
theorem y_gotLs {R : Addr → Prop} (h : SqL K H a xs) (q : R a) : ∃ b, V.ref a = .ref b ∧ (∃ xs, SqL K H b xs) ∧ R b := ⟨a, rfl, ⟨xs, h⟩, q⟩
theorem y_iT (q : tl σ H fun x H1 => ∃ a, x = .ref a ∧ (∃ xs, SqT K H1 a xs) ∧ R (Itt K a) H1) : iTup K tl σ H R := q
theorem y_gotT {R : Addr → Prop} (h : H a = some (.tup xs)) (q : R a) : ∃ b, V.ref a = .ref b ∧ (∃ xs, SqT K H b xs) ∧ R b := ⟨a, rfl, ⟨xs, SqT.of h⟩, q⟩
theorem y_r1 (q : tA σ H fun vs H1 => ∃ j : Int, vs = [.int j] ∧ -(2 ^ 62) ≤ j ∧ j < 2 ^ 62 ∧ R (Itr 0 j.toNat) H1) : iRng1 tA σ H R := q
theorem y_gotr1 {R : Int → Prop} {j : Int} (h1 : -(2 ^ 62) ≤ j) (h2 : j < 2 ^ 62) (q : R j) : ∃ i : Int, [V.int j] = [.int i] ∧ -(2 ^ 62) ≤ i ∧ i < 2 ^ 62 ∧ R i := ⟨j, rfl, h1, h2, q⟩
theorem y_r2 (q : tA σ H fun vs H1 => ∃ i j : Int, vs = [.int i, .int j] ∧ (-(2 ^ 62) ≤ i ∧ i < 2 ^ 62 ∧ -(2 ^ 62) ≤ j ∧ j < 2 ^ 62) ∧ R (Itr i (j - i).toNat) H1) : iRng2 tA σ H R := q
theorem y_gotr2 {R : Int → Int → Prop} {i j : Int} (h : -(2 ^ 62) ≤ i ∧ i < 2 ^ 62 ∧ -(2 ^ 62) ≤ j ∧ j < 2 ^ 62) (q : R i j) : ∃ i' j' : Int, [V.int i, V.int j] = [.int i', .int j'] ∧ (-(2 ^ 62) ≤ i' ∧ i' < 2 ^ 62 ∧ -(2 ^ 62) ≤ j' ∧ j' < 2 ^ 62) ∧ R i' j' := ⟨i, j, rfl, h, q⟩
theorem y_iI (q : tl σ H fun x H1 => ∃ d o kvs, x = .ref d ∧ H1 d = some (.frz o (.dK kvs)) ∧ R (Iti d o kvs) H1) : iItems tl σ H R := q
theorem y_gotI {R : Addr → Obj → List (Key × V) → Prop} (h : H a = some (.frz o (.dK kvs))) (q : R a o kvs) : ∃ d o kvs, V.ref a = .ref d ∧ H d = some (.frz o (.dK kvs)) ∧ R d o kvs := ⟨a, o, kvs, rfl, h, q⟩
theorem y_iV (q : tl σ H fun x H1 => ∃ d o kvs, x = .ref d ∧ H1 d = some (.frz o (.dK kvs)) ∧ R (Itd d o kvs) H1) : iVals tl σ H R := q
theorem y_iK (q : tl σ H fun x H1 => ∃ d o, x = .ref d ∧ ((∃ kvs, H1 d = some (.frz o (.dK kvs)) ∧ R (Itk d o kvs) H1) ∨ ∃ kvs, H1 d = some (.frz o (.dT kvs)) ∧ R (Itkt d o kvs) H1)) : iKeys tl σ H R := q
theorem y_gotK {R : Addr → Obj → List (Key × V) → Prop} {R2 : Addr → Obj → List (List Key × V) → Prop} (h : H a = some (.frz o (.dK kvs))) (q : R a o kvs) : ∃ d o, V.ref a = .ref d ∧ ((∃ kvs, H d = some (.frz o (.dK kvs)) ∧ R d o kvs) ∨ ∃ kvs, H d = some (.frz o (.dT kvs)) ∧ R2 d o kvs) := ⟨a, o, rfl, .inl ⟨kvs, h, q⟩⟩
theorem y_iS (q : tl σ H fun v H1 => ∃ x, v = .str x ∧ R (Its x) H1) : iStr tl σ H R := q
theorem y_gotS {z : Str} {R : Str → Prop} (q : R z) : ∃ x, V.str z = .str x ∧ R x := ⟨z, rfl, q⟩
theorem y_iE (q : tA σ H fun vs H1 => ∃ a xs, vs = [.ref a] ∧ SqL K H1 a xs ∧ R (Ite K a) H1) : iEnum K tA σ H R := q
theorem y_gotE {R : Addr → Prop} (h : H a = some (.lst xs)) (q : R a) : ∃ b ys, [V.ref a] = [.ref b] ∧ SqL K H b ys ∧ R b := ⟨a, xs, rfl, SqL.of h, q⟩
theorem y_all {bs : List Bool} (h : H a = some (.lst (bs.map V.bl))) (q : Q (.bl (bs.all id)) H) : rAllY K [.ref a] H Q := ⟨a, bs, rfl, SqL.of h, q⟩
theorem y_any {bs : List Bool} (h : H a = some (.lst (bs.map V.bl))) (q : Q (.bl (bs.any id)) H) : rAnyY K [.ref a] H Q := ⟨a, bs, rfl, SqL.of h, q⟩
theorem y_sorted {ns : List Int} (h : H a = some (.lst (ns.map V.int))) (q : ∀ (ns' : List Int) (p : Addr), List.Perm ns' ns → ns'.Pairwise (· ≤ ·) → H p = none → Q (.ref p) (upd H p (.lst (ns'.map V.int)))) : rSortI K [.ref a] H Q := ⟨a, ns, rfl, SqL.of h, q⟩
theorem y_yes {QT : Bool → Hp → Prop} (q : QT true H) : tYes σ H QT := q
end


/-! ### comprehensions that change nothing that stood -/
theorem y_wipe {σ2 σ : L2.St} {vs : List Nat} {R : Prop} (h : wipe σ2 vs = wipe σ vs) (q : R) : wipe σ2 vs = wipe σ vs ∧ R := ⟨h, q⟩
theorem y_acc {H : Hp} {D : Addr} {acc : List V} {y : V} {Nx : Hp → Prop} (h : H D = some (.lst acc)) (hl : acc.length < sizeLine) (q : Nx (upd H D (.lst (acc ++ [y])))) : ∃ acc, H D = some (.lst acc) ∧ acc.length < sizeLine ∧ Nx (upd H D (.lst (acc ++ [y]))) := ⟨acc, h, hl, q⟩
theorem fm_succ {f : Nat → Option V} (i : Nat) : (List.range (i + 1)).filterMap f = match f i with | some y => (List.range i).filterMap f ++ [y] | none => (List.range i).filterMap f := by
  rw [List.range_succ, List.filterMap_append]
  cases h : f i with
  | some y => simp [h]
  | none => simp [h]
theorem same_upd {H0 H : Hp} {D : Addr} {o : HO} (e : Same H0 H) (n : H0 D = none) : Same H0 (upd H D o) := fun a u h => by
  rw [upd_ne (ne_of_none h n)]
  exact e a u h
theorem lc_gen {J : It} {n : Nat} {G : Hp → Prop} {Y : Nat → Hp → V → Hp → Prop} {g : TG} {tt : TT} {te : TE} {vs : List Nat} {σ : L2.St} {H0 : Hp} {D : Addr} {Qd : Hp → Prop} (f : Nat → Option V) (w : Walk J n G Y) (nD : H0 D = none) (hn : n < sizeLine)
    (hG : ∀ H', Same H0 H' → G H')
    (hs : ∀ (i : Nat) (x : V) (H1 H2 : Hp) (Nx : Hp → Prop), i < n → Same H0 H1 → Y i H1 x H2 →
      (∀ y H5, f i = some y → Same H1 H5 → ∃ acc, H5 D = some (.lst acc) ∧ acc.length < sizeLine ∧ Nx (upd H5 D (.lst (acc ++ [y])))) → (∀ H5, f i = none → Same H1 H5 → Nx H5) →
      g x (wipe σ vs) H2 fun σ2 H3 => wipe σ2 vs = wipe σ vs ∧ tt σ2 H3 fun b H4 => if b = true then te σ2 H4 fun y H5 => ∃ acc, H5 D = some (.lst acc) ∧ acc.length < sizeLine ∧ Nx (upd H5 D (.lst (acc ++ [y]))) else Nx H4)
    (hd : ∀ H', Same H0 H' → H' D = some (.lst ((List.range n).filterMap f)) → Qd H') :
    ∃ W : Nat → Nat → Hp → Prop, (∃ m, W 0 m (upd H0 D (.lst []))) ∧ ∀ i m H, W i m H →
      (J.stop i H ∧ Qd H) ∨ (J.go i H ∧ ∃ Nx : Hp → Prop, (∀ H', Nx H' → ∃ m', m' < m ∧ W (i + 1) m' H') ∧ ∀ x H', J.yld i H x H' → g x (wipe σ vs) H' fun σ2 H2 => wipe σ2 vs = wipe σ vs ∧ tt σ2 H2 fun b H3 =>
        if b = true then te σ2 H3 fun y H4 => ∃ acc, H4 D = some (.lst acc) ∧ acc.length < sizeLine ∧ Nx (upd H4 D (.lst (acc ++ [y]))) else Nx H3) := by
  refine lc_it w (fun i H => Same H0 H ∧ H D = some (.lst ((List.range i).filterMap f))) ⟨same_new0 nD, upd_same⟩ (fun i H _ h => hG H h.1) (fun i x H H' hi hP hY => ?_) (fun H h => hd H h.1 h.2)
  obtain ⟨e, hD⟩ := hP
  refine hs i x H H' (fun H4 => Same H0 H4 ∧ H4 D = some (.lst ((List.range (i + 1)).filterMap f))) hi e hY (fun y H5 hy e5 => ?_) (fun H5 hy e5 => ?_)
  · refine ⟨_, e5 _ _ hD, ?_, same_upd (e.trans e5) nD, ?_⟩
    · refine Nat.lt_of_le_of_lt (List.length_filterMap_le _ _) ?_
      rw [List.length_range]
      exact Nat.lt_trans hi hn
    · rw [upd_same, fm_succ, hy]
  · refine ⟨e.trans e5, ?_⟩
    rw [e5 _ _ hD, fm_succ, hy]
theorem lc_map {J : It} {n : Nat} {G : Hp → Prop} {Y : Nat → Hp → V → Hp → Prop} {g : TG} {tt : TT} {te : TE} {vs : List Nat} {σ : L2.St} {H0 : Hp} {D : Addr} {Qd : Hp → Prop} (f : Nat → V) (w : Walk J n G Y) (nD : H0 D = none) (hn : n < sizeLine)
    (hG : ∀ H', Same H0 H' → G H')
    (hs : ∀ (i : Nat) (x : V) (H1 H2 : Hp) (Nx : Hp → Prop), i < n → Same H0 H1 → Y i H1 x H2 →
      (∀ y H5, y = f i → Same H1 H5 → ∃ acc, H5 D = some (.lst acc) ∧ acc.length < sizeLine ∧ Nx (upd H5 D (.lst (acc ++ [y])))) →
      g x (wipe σ vs) H2 fun σ2 H3 => wipe σ2 vs = wipe σ vs ∧ tt σ2 H3 fun b H4 => if b = true then te σ2 H4 fun y H5 => ∃ acc, H5 D = some (.lst acc) ∧ acc.length < sizeLine ∧ Nx (upd H5 D (.lst (acc ++ [y]))) else Nx H4)
    (hd : ∀ H', Same H0 H' → H' D = some (.lst ((List.range n).map f)) → Qd H') :
    ∃ W : Nat → Nat → Hp → Prop, (∃ m, W 0 m (upd H0 D (.lst []))) ∧ ∀ i m H, W i m H →
      (J.stop i H ∧ Qd H) ∨ (J.go i H ∧ ∃ Nx : Hp → Prop, (∀ H', Nx H' → ∃ m', m' < m ∧ W (i + 1) m' H') ∧ ∀ x H', J.yld i H x H' → g x (wipe σ vs) H' fun σ2 H2 => wipe σ2 vs = wipe σ vs ∧ tt σ2 H2 fun b H3 =>
        if b = true then te σ2 H3 fun y H4 => ∃ acc, H4 D = some (.lst acc) ∧ acc.length < sizeLine ∧ Nx (upd H4 D (.lst (acc ++ [y]))) else Nx H3) :=
  lc_gen (fun i => some (f i)) w nD hn hG (fun i x H1 H2 Nx hi e hY k _ => hs i x H1 H2 Nx hi e hY fun y H5 hy e5 => k y H5 (by rw [hy]) e5) fun H' e h => hd H' e (by rw [h, ← List.filterMap_eq_map]; rfl)
theorem sz_line {n : Nat} (h : n ≤ 100000) : n ≤ sizeLine := Nat.le_trans h (by decide)
theorem sz_lt {n : Nat} (h : n ≤ 100000) : n < sizeLine := Nat.lt_of_le_of_lt h (by decide)

theorem y_ipI {f : Int → Int → Int} {i j : Int} {H : Hp} {Q : VK} (q : Q (.int (f i j)) H) : ipI f (.int i) (.int j) H Q := ⟨i, j, rfl, rfl, q⟩
def rIndexY (K : PySem.W.Frag) : V → List V → Hp → VK → Prop := rIndex K
theorem mt_indexK {X : Cx} {K : PySem.W.Frag} (hK : X.K = K := by rfl) : MtR X "list.index" (rIndexY K) := by
  subst hK
  exact mt_index
theorem eqV_str {a b : Str} : eqV (.str a) (.str b) = decide (a = b) := by
  unfold eqV
  first
    | rfl
    | simp
theorem y_indexS {K : PySem.W.Frag} {H : Hp} {Q : VK} {a : Addr} {nm : List Str} {z : Str} {j : Nat} (h : H a = some (.lst (nm.map V.str))) (hj : nm[j]? = some z) (nd : nm.Nodup) (q : Q (.int j) H) : rIndexY K (.ref a) [.str z] H Q := by
  refine ⟨a, nm.map V.str, .str z, j, .str z, rfl, rfl, SqL.of h, rfl, ?_, ?_, ?_, ?_, q⟩
  · rw [List.all_eq_true]
    intro x hx
    obtain ⟨y, _, rfl⟩ := List.mem_map.mp hx
    rfl
  · rw [List.getElem?_map, hj]
    rfl
  · rw [eqV_str]
    exact decide_eq_true rfl
  · intro m z' hm hz'
    rw [List.getElem?_map] at hz'
    cases e : nm[m]? with
    | none =>
      rw [e] at hz'
      cases hz'
    | some y =>
      rw [e] at hz'
      have := Option.some.inj hz'
      subst this
      rw [eqV_str]
      refine decide_eq_false fun e2 => ?_
      subst e2
      have := nd_ix nd e hj
      omega
theorem cmul_small {i j : Int} (hi : i.natAbs < 2 ^ 64) (hj : j.natAbs < 2 ^ 64) : CMulW i j := wide_mul (a := 64) (b := 64) hi hj (by decide) (by decide) (by decide)
theorem cdiv_small {i j : Int} (h : 0 < j) (hj : j < 2 ^ 62) : CDivW i j := wide_div (b := 62) h (by omega) (by decide) (by decide)

theorem lc_new {J : It} {n : Nat} {G : Hp → Prop} {Y : Nat → Hp → V → Hp → Prop} {g : TG} {tt : TT} {te : TE} {vs : List Nat} {σ : L2.St} {H0 : Hp} {D : Addr} {Qd : Hp → Prop} (f : Nat → HO) (hf : ∀ i xs, f i ≠ .lst xs) (w : Walk J n G Y) (nD : H0 D = none) (hn : n < sizeLine)
    (hG : ∀ H', Same H0 H' → G H')
    (hs : ∀ (i : Nat) (x : V) (H1 H2 : Hp) (Nx : Hp → Prop), i < n → Same H0 H1 → Y i H1 x H2 →
      (∀ a H5, Same H1 H5 → H5 a = some (f i) → ∃ acc, H5 D = some (.lst acc) ∧ acc.length < sizeLine ∧ Nx (upd H5 D (.lst (acc ++ [.ref a])))) →
      g x (wipe σ vs) H2 fun σ2 H3 => wipe σ2 vs = wipe σ vs ∧ tt σ2 H3 fun b H4 => if b = true then te σ2 H4 fun y H5 => ∃ acc, H5 D = some (.lst acc) ∧ acc.length < sizeLine ∧ Nx (upd H5 D (.lst (acc ++ [y]))) else Nx H4)
    (hd : ∀ (H' : Hp) (as : List Addr), Same H0 H' → as.length = n → (∀ i a, as[i]? = some a → H' a = some (f i)) → H' D = some (.lst (as.map V.ref)) → Qd H') :
    ∃ W : Nat → Nat → Hp → Prop, (∃ m, W 0 m (upd H0 D (.lst []))) ∧ ∀ i m H, W i m H →
      (J.stop i H ∧ Qd H) ∨ (J.go i H ∧ ∃ Nx : Hp → Prop, (∀ H', Nx H' → ∃ m', m' < m ∧ W (i + 1) m' H') ∧ ∀ x H', J.yld i H x H' → g x (wipe σ vs) H' fun σ2 H2 => wipe σ2 vs = wipe σ vs ∧ tt σ2 H2 fun b H3 =>
        if b = true then te σ2 H3 fun y H4 => ∃ acc, H4 D = some (.lst acc) ∧ acc.length < sizeLine ∧ Nx (upd H4 D (.lst (acc ++ [y]))) else Nx H3) := by
  refine lc_it w (fun i H => Same H0 H ∧ ∃ as : List Addr, as.length = i ∧ (∀ j a, as[j]? = some a → H a = some (f j)) ∧ H D = some (.lst (as.map V.ref))) ⟨same_new0 nD, [], rfl, fun j a h => by simp at h, upd_same⟩ (fun i H _ h => hG H h.1) (fun i x H H' hi hP hY => ?_) (fun H h => ?_)
  · obtain ⟨e, as, hl, ha, hD⟩ := hP
    refine hs i x H H' (fun H4 => Same H0 H4 ∧ ∃ as : List Addr, as.length = i + 1 ∧ (∀ j a, as[j]? = some a → H4 a = some (f j)) ∧ H4 D = some (.lst (as.map V.ref))) hi e hY (fun a H5 e5 h5 => ?_)
    have hD5 := e5 _ _ hD
    refine ⟨_, hD5, ?_, same_upd (e.trans e5) nD, as ++ [a], by rw [List.length_append, hl]; rfl, fun j b hb => ?_, ?_⟩
    · rw [List.length_map, hl]
      exact Nat.lt_trans hi hn
    · have hbf : H5 b = some (f j) := by
        by_cases h : j < as.length
        · rw [List.getElem?_append_left h] at hb
          exact e5 _ _ (ha j b hb)
        · rw [List.getElem?_append_right (by omega)] at hb
          have hj : j - as.length = 0 := by
            by_cases z : j - as.length = 0
            · exact z
            · rw [List.getElem?_eq_none (by simp; omega)] at hb
              cases hb
          rw [hj] at hb
          have : a = b := Option.some.inj hb
          subst this
          have : j = i := by omega
          rw [this]
          exact h5
      rw [upd_ne (ne_of hbf hD5 (hf j _))]
      exact hbf
    · rw [upd_same, List.map_append]
      rfl
  · obtain ⟨e, as, hl, ha, hD⟩ := h
    exact hd H as e hl ha hD
theorem y_daug {td ty tv : TE} {rd : V → V → Hp → VK → Prop} {nx : L2.St → Hp → Prop} {rt : VK} {bk ct : L2.St → Hp → Prop} {σ : L2.St} {H : Hp} (q : td σ H fun x H1 => ty σ H1 fun y H2 => ∃ a v, x = .ref a ∧ DGet H2 a y (some v) ∧ tv σ H2 fun y2 H3 => rd v y2 H3 fun z H4 => ∃ H5, DPut H4 a y z H5 ∧ nx σ H5) : sDAug td ty tv rd ⟨nx, rt, bk, ct⟩ σ H := q
theorem y_dput {td ty tv : TE} {nx : L2.St → Hp → Prop} {rt : VK} {bk ct : L2.St → Hp → Prop} {σ : L2.St} {H : Hp} (q : tv σ H fun v H1 => td σ H1 fun x H2 => ty σ H2 fun y H3 => ∃ a H4, x = .ref a ∧ DPut H3 a y v H4 ∧ nx σ H4) : sDPut td ty tv ⟨nx, rt, bk, ct⟩ σ H := q
theorem y_put {z : Str} {v : V} {H : Hp} {a : Addr} {kvs : List (Key × V)} {R : Addr → Hp → Prop} (h : H a = some (.dK kvs)) (hl : kvs.length < sizeLine) (q : R a (upd H a (.dK (putK kvs (Sum.inr z) v)))) : ∃ b H', V.ref a = .ref b ∧ DPut H b (.str z) v H' ∧ R b H' := ⟨a, _, rfl, DPut.k (k := Sum.inr z) h hl, q⟩
theorem y_aug1 {z : Str} {v : V} {H : Hp} {a : Addr} {kvs : List (Key × V)} {R : Addr → V → Prop} (h : H a = some (.dK kvs)) (hv : valV kvs (Sum.inr z) = some v) (q : R a v) : ∃ b w, V.ref a = .ref b ∧ DGet H b (.str z) (some w) ∧ R b w := ⟨a, v, rfl, by rw [← hv]; exact dget_k (k := Sum.inr z) h, q⟩
theorem y_rAdd {i j : Int} {H : Hp} {Q : VK} (q : Q (.int (i + j)) H) : L2.rAdd (.int i) (.int j) H Q := ⟨i, j, rfl, rfl, q⟩
theorem y_put2 {z : Str} {v : V} {H : Hp} {a : Addr} {kvs : List (Key × V)} {R : Hp → Prop} (h : H a = some (.dK kvs)) (hl : kvs.length < sizeLine) (q : R (upd H a (.dK (putK kvs (Sum.inr z) v)))) : ∃ H', DPut H a (.str z) v H' ∧ R H' := ⟨_, DPut.k (k := Sum.inr z) h hl, q⟩
/-! ### comprehensions of two clauses -/
theorem y_lc2 {wi wi1 : TI} {g g1 : TG} {tt tt1 : TT} {te : TE} {vs vs1 : List Nat} {σ : L2.St} {H : Hp} {Q : VK} (q : wi σ H fun J H1 => ∀ D, H1 D = none → ∃ W : Nat → Nat → Hp → Prop, (∃ m, W 0 m (upd H1 D (.lst []))) ∧ ∀ i m H, W i m H →
  (J.stop i H ∧ Q (.ref D) H) ∨ (J.go i H ∧ ∃ Nx : Hp → Prop, (∀ H', Nx H' → ∃ m', m' < m ∧ W (i + 1) m' H') ∧ ∀ x H', J.yld i H x H' → g x (wipe σ vs) H' fun σ2 H2 => wipe σ2 vs = wipe σ vs ∧ tt σ2 H2 fun b H3 =>
    if b = true then wi1 σ2 H3 fun J1 H4 => ∃ W1 : Nat → Nat → Hp → Prop, (∃ m, W1 0 m H4) ∧ ∀ j k H, W1 j k H →
      (J1.stop j H ∧ Nx H) ∨ (J1.go j H ∧ ∃ Nx1 : Hp → Prop, (∀ H', Nx1 H' → ∃ k', k' < k ∧ W1 (j + 1) k' H') ∧ ∀ x H', J1.yld j H x H' → g1 x (wipe σ2 vs1) H' fun σ3 H5 => wipe σ3 vs1 = wipe σ2 vs1 ∧ tt1 σ3 H5 fun b H6 =>
        if b = true then te σ3 H6 fun y H7 => ∃ acc, H7 D = some (.lst acc) ∧ acc.length < sizeLine ∧ Nx1 (upd H7 D (.lst (acc ++ [y]))) else Nx1 H6)
    else Nx H3)) : tLc2 wi g tt wi1 g1 tt1 te vs vs1 σ H Q := q
theorem lc2_out {J : It} {n : Nat} {G : Hp → Prop} {Y : Nat → Hp → V → Hp → Prop} (w : Walk J n G Y) {R : Nat → V → Hp → (Hp → Prop) → Prop} {H1 : Hp} {D : Addr} {Qd : Hp → Prop} (Pv : Nat → Hp → Prop) (h0 : Pv 0 (upd H1 D (.lst []))) (hG : ∀ i H, i ≤ n → Pv i H → G H)
    (hs : ∀ i x H H', i < n → Pv i H → Y i H x H' → R i x H' (Pv (i + 1))) (hd : ∀ H, Pv n H → Qd H) :
    ∃ W : Nat → Nat → Hp → Prop, (∃ m, W 0 m (upd H1 D (.lst []))) ∧ ∀ i m H, W i m H →
      (J.stop i H ∧ Qd H) ∨ (J.go i H ∧ ∃ Nx : Hp → Prop, (∀ H', Nx H' → ∃ m', m' < m ∧ W (i + 1) m' H') ∧ ∀ x H', J.yld i H x H' → R i x H' Nx) := by
  refine ⟨fun i m H => m = n - i ∧ i ≤ n ∧ Pv i H, ⟨n, by simp, Nat.zero_le _, h0⟩, ?_⟩
  rintro i m H ⟨rfl, hi, p⟩
  have q := hG i H hi p
  by_cases hlt : i < n
  · refine .inr ⟨w.goes i H hlt q, Pv (i + 1), fun H' p' => ⟨n - (i + 1), by omega, rfl, hlt, p'⟩, fun x H' y => hs i x H H' hlt p (w.yields i H x H' hlt q y)⟩
  · have e : i = n := by omega
    subst e
    exact .inl ⟨w.stops H q, hd H p⟩
theorem lc2_in {J : It} {n : Nat} {G : Hp → Prop} {Y : Nat → Hp → V → Hp → Prop} (w : Walk J n G Y) {R : Nat → V → Hp → (Hp → Prop) → Prop} {H4 : Hp} {Qd : Hp → Prop} (Pv : Nat → Hp → Prop) (h0 : Pv 0 H4) (hG : ∀ i H, i ≤ n → Pv i H → G H)
    (hs : ∀ i x H H', i < n → Pv i H → Y i H x H' → R i x H' (Pv (i + 1))) (hd : ∀ H, Pv n H → Qd H) :
    ∃ W : Nat → Nat → Hp → Prop, (∃ m, W 0 m H4) ∧ ∀ i m H, W i m H →
      (J.stop i H ∧ Qd H) ∨ (J.go i H ∧ ∃ Nx : Hp → Prop, (∀ H', Nx H' → ∃ m', m' < m ∧ W (i + 1) m' H') ∧ ∀ x H', J.yld i H x H' → R i x H' Nx) := by
  refine ⟨fun i m H => m = n - i ∧ i ≤ n ∧ Pv i H, ⟨n, by simp, Nat.zero_le _, h0⟩, ?_⟩
  rintro i m H ⟨rfl, hi, p⟩
  have q := hG i H hi p
  by_cases hlt : i < n
  · refine .inr ⟨w.goes i H hlt q, Pv (i + 1), fun H' p' => ⟨n - (i + 1), by omega, rfl, hlt, p'⟩, fun x H' y => hs i x H H' hlt p (w.yields i H x H' hlt q y)⟩
  · have e : i = n := by omega
    subst e
    exact .inl ⟨w.stops H q, hd H p⟩
/-! ### ranges with a step -/
theorem y_r3 {tA : TA} {σ : L2.St} {H : Hp} {R : It → Hp → Prop} (q : tA σ H fun vs H1 => ∃ (i j c : Int) (n : Nat), vs = [.int i, .int j, .int c] ∧ RgC i j c n ∧ R (Itc i c n) H1) : iRng3 tA σ H R := q
theorem rgc1 : ∀ L : Fin 61, 4 ≤ L.val → (L.val : Int) ≠ 0 ∧ (L.val : Int).natAbs < 1073741824 ∧ Builtin.Range.small 0 (L.val : Int) (L.val : Int) = true ∧ Builtin.Range.rangeSize 0 (L.val : Int) (L.val : Int) = (1 : Nat) := by decide +kernel
theorem rgc_one {L : Nat} (h4 : 4 ≤ L) (h60 : L ≤ 60) : RgC 0 (L : Int) (L : Int) 1 := rgc1 ⟨L, by omega⟩ h4
theorem flat_strs (nm : List Str) : (nm.map V.str).all flatV = true := by
  rw [List.all_eq_true]
  intro x hx
  obtain ⟨y, _, rfl⟩ := List.mem_map.mp hx
  rfl
theorem inV_strs {z : Str} {nm : List Str} (h : z ∈ nm) : inV (.str z) (nm.map V.str) = true := by
  unfold inV
  rw [List.any_eq_true]
  exact ⟨.str z, List.mem_map.mpr ⟨z, h, rfl⟩, by rw [eqV_str]; exact decide_eq_true rfl⟩
theorem y_inStr {K : PySem.W.Frag} {H : Hp} {Q : VK} {a : Addr} {z : Str} {nm : List Str} (h : H a = some (.lst (nm.map V.str))) (hz : z ∈ nm) (q : Q (.bl true) H) : rInA K (.str z) (.ref a) H Q := y_inL h rfl (flat_strs nm) (by rw [inV_strs hz]; exact q)
theorem y_niStr {K : PySem.W.Frag} {H : Hp} {Q : VK} {a : Addr} {z : Str} {nm : List Str} (h : H a = some (.lst (nm.map V.str))) (hz : z ∈ nm) (q : Q (.bl false) H) : rNotInA K (.str z) (.ref a) H Q := y_niL h rfl (flat_strs nm) (by rw [inV_strs hz]; exact q)
theorem atI_nat {α : Type} {xs : List α} {j : Nat} (h : j < xs.length) : atI xs (j : Int) = xs[j]? := by
  unfold atI ixN
  rw [if_pos (Int.natCast_nonneg j)]
  first
    | (rw [if_pos (by simpa using h)]; simp; done)
    | simp [h]
theorem cutV_whole {xs : List V} {L : Nat} (h : xs.length = L) : cutV xs (some 0) (some (L : Int)) = xs := by
  unfold cutV HT.sIx
  have : ¬ ((xs.length : Int) < 0) := by omega
  simp [← h, this]
/-! ### lists of ints and None: == and != -/
def oV : Option Int → V
  | none => .non
  | some i => .int i
def oD : Option Int → PyData
  | none => .none
  | some i => .int i
theorem dp_all {K : PySem.W.Frag} {H : Hp} : ∀ xs : List (Option Int), DpAll K H (xs.map oV) (xs.map oD)
  | [] => .nil
  | none :: xs => .cons .non (dp_all xs)
  | some i :: xs => .cons (.int i) (dp_all xs)
theorem lay_all : ∀ xs : List (Option Int), PyData.canLayAll0 (xs.map oD) = true ∧ PyData.depthAll (xs.map oD) = 0
  | [] => ⟨by simp only [List.map_nil, PyData.canLayAll0], by simp only [List.map_nil, PyData.depthAll]⟩
  | none :: xs => by
    obtain ⟨h1, h2⟩ := lay_all xs
    constructor
    · simp only [List.map_cons, oD, PyData.canLayAll0, PyData.canLay0, h1, Bool.and_self]
    · simp only [List.map_cons, oD, PyData.depthAll, PyData.depth, h2, Nat.max_self]
  | some i :: xs => by
    obtain ⟨h1, h2⟩ := lay_all xs
    constructor
    · simp only [List.map_cons, oD, PyData.canLayAll0, PyData.canLay0, h1, Bool.and_self]
    · simp only [List.map_cons, oD, PyData.depthAll, PyData.depth, h2, Nat.max_self]
theorem shaped_all (xs : List (Option Int)) : SeqAt.shaped (.list (xs.map oD)) = true := by
  obtain ⟨h1, h2⟩ := lay_all xs
  unfold SeqAt.shaped
  rw [Bool.and_eq_true]
  constructor
  · simp only [PyData.canLay0, h1]
  · simp only [PyData.depth, h2]
    decide
theorem eqv_opt : ∀ xs ys : List (Option Int), PyData.eqvAll (xs.map oD) (ys.map oD) = decide (xs = ys)
  | [], [] => by simp [PyData.eqvAll]
  | [], y :: ys => by simp [PyData.eqvAll]
  | x :: xs, [] => by simp [PyData.eqvAll]
  | x :: xs, y :: ys => by
    have ih := eqv_opt xs ys
    simp only [List.map_cons, PyData.eqvAll, ih]
    cases x <;> cases y <;> simp [oD, PyData.eqv]
    rfl
section
variable {K : PySem.W.Frag} {H : Hp} {Q : VK} {a b : Addr}
theorem y_eqL {xs ys : List (Option Int)} (h : H a = some (.lst (xs.map oV))) (h' : H b = some (.lst (ys.map oV))) (q : Q (.bl (decide (xs = ys))) H) : rEqA K (.ref a) (.ref b) H Q :=
  y_eqD (.lst (SqL.of h) (dp_all xs)) (.lst (SqL.of h') (dp_all ys)) (shaped_all xs) (shaped_all ys) (by rw [PyData.eqv, eqv_opt]; exact q)
theorem y_neL {xs ys : List (Option Int)} (h : H a = some (.lst (xs.map oV))) (h' : H b = some (.lst (ys.map oV))) (q : Q (.bl (!decide (xs = ys))) H) : rNeA K (.ref a) (.ref b) H Q :=
  y_neD (.lst (SqL.of h) (dp_all xs)) (.lst (SqL.of h') (dp_all ys)) (shaped_all xs) (shaped_all ys) (by rw [PyData.eqv, eqv_opt]; exact q)
theorem oV_ints (ns : List Int) : ns.map V.int = (ns.map some).map oV := by rw [List.map_map]; rfl
theorem y_slLs {xs : List V} {lo hi : Option Int} (h : SqL K H a xs) (q : ∀ p, H p = none → Q (.ref p) (upd H p (.lst (cutV xs lo hi)))) : rSlL K (.ref a) lo hi H Q := ⟨a, xs, rfl, h, q⟩
theorem y_rep {xs : List V} {k : Int} (h : H a = some (.lst xs)) (h1 : -(2 ^ 63) ≤ k) (h2 : k < 2 ^ 63) (hl : xs.length * k.toNat ≤ sizeLine) (q : ∀ p, H p = none → Q (.ref p) (upd H p (.lst (List.replicate k.toNat xs).flatten))) : rTimes (.ref a) (.int k) H Q := .inr ⟨a, k, xs, rfl, rfl, h, h1, h2, hl, q⟩
theorem y_popAt {xs : List V} {j : Nat} {y : V} (h : H a = some (.lst xs)) (hj : xs[j]? = some y) (hl : j < 2 ^ 62) (q : Q y (upd H a (.lst (xs.eraseIdx j)))) : rPopAt (.ref a) [.int (j : Nat)] H Q := by
  have hlt : j < xs.length := by
    refine Nat.lt_of_not_le fun z => ?_
    rw [List.getElem?_eq_none z] at hj
    cases hj
  refine ⟨a, xs, (j : Nat), j, y, rfl, rfl, h, by omega, by omega, ?_, hj, q⟩
  unfold seqIndex?
  have n0 : ¬ ((j : Int) < 0) := by omega
  simp [n0, hlt]
theorem rep_one (v : V) : ∀ n, (List.replicate n [v]).flatten = List.replicate n v
  | 0 => rfl
  | n + 1 => by
    rw [List.replicate_succ, List.flatten_cons, rep_one v n]
    rfl
end
theorem y_par3 {i j l : Nat} {ta : TA} {nx : L2.St → Hp → Prop} {rt : VK} {bk ct : L2.St → Hp → Prop} {σ : L2.St} {H : Hp} (q : ta σ H fun vs H1 => ∃ u v w, vs = [u, v, w] ∧ nx (((σ.set i (some u)).set j (some v)).set l (some w)) H1) : tPar3 i j l ta ⟨nx, rt, bk, ct⟩ σ H := q
theorem y_par33 {R : V → V → V → Prop} {a b c : V} (q : R a b c) : ∃ u v w, [a, b, c] = [u, v, w] ∧ R u v w := ⟨a, b, c, rfl, q⟩
theorem y_lstRg {σ : L2.St} {H : Hp} {Q : VK} {te : L2.St → Hp → (Int → Int → Hp → Prop) → Prop} (q : te σ H fun a b H1 => RgOk a b ∧ ∀ q, H1 q = none → Q (.ref q) (upd H1 q (.lst (rgV a b)))) : tLstRg te σ H Q := q
theorem y_rg2 {σ : L2.St} {H : Hp} {ta tb : TE} {R : Int → Int → Hp → Prop} (q : ta σ H fun x H1 => tb σ H1 fun y H2 => ∃ i j, x = .int i ∧ y = .int j ∧ R i j H2) : tRg2 ta tb σ H R := q
theorem y_rg1 {σ : L2.St} {H : Hp} {ta : TE} {R : Int → Int → Hp → Prop} (q : ta σ H fun x H1 => ∃ n, x = .int n ∧ R 0 n H1) : tRg1 ta σ H R := q
theorem y_ints2 {i j : Int} {R : Int → Int → Prop} (q : R i j) : ∃ i' j', V.int i = .int i' ∧ V.int j = .int j' ∧ R i' j' := ⟨i, j, rfl, rfl, q⟩
theorem perm_sorted : ∀ {xs ys : List Int}, List.Perm xs ys → xs.Pairwise (· ≤ ·) → ys.Pairwise (· ≤ ·) → xs = ys
  | [], ys, h, _, _ => (List.Perm.nil_eq h)
  | x :: xs, [], h, _, _ => by
    have := h.length_eq
    simp at this
  | x :: xs, y :: ys, h, hx, hy => by
    have hx' := List.pairwise_cons.mp hx
    have hy' := List.pairwise_cons.mp hy
    have e : x = y := by
      have h1 : x ∈ y :: ys := h.mem_iff.mp List.mem_cons_self
      have h2 : y ∈ x :: xs := h.mem_iff.mpr List.mem_cons_self
      rcases List.mem_cons.mp h1 with a | a
      · exact a
      · rcases List.mem_cons.mp h2 with b | b
        · exact b.symm
        · have := hx'.1 y b
          have := hy'.1 x a
          omega
    subst e
    rw [perm_sorted ((List.perm_cons x).mp h) hx'.2 hy'.2]
theorem y_frz {t : TS} {D : Ends} {σ : L2.St} {H : Hp} {d : Addr} {u : HO} (h : H d = some u) (m : Mut (some u)) (q : ∀ od, t D σ (upd H d (.frz od u))) : tFrz t D σ H := ⟨d, u, h, m, q⟩
theorem y_frzE {t : TE} {σ : L2.St} {H : Hp} {Q : VK} (q : t σ H fun v H' => ∃ d u, v = .ref d ∧ H' d = some u ∧ Mut (some u) ∧ ∀ od, Q v (upd H' d (.frz od u))) : tFrzE t σ H Q := q
theorem y_gotF {H : Hp} {d : Addr} {u : HO} {R : Addr → Obj → HO → Prop} (h : H d = some u) (m : Mut (some u)) (q : ∀ od, R d od u) : ∃ d' u, V.ref d = .ref d' ∧ H d' = some u ∧ Mut (some u) ∧ ∀ od, R d' od u := ⟨d, u, rfl, h, m, q⟩
end Y
/-! YMin: min(xs, key=lambda n: .., default=None). -/
namespace Y
open PySem PySem.Spec PyProof.Rows L2 LamX
/-- one parameter a, else captured names and globals -/
structure LamS1 (sc scope : Scope) (a : Str) : Prop where
  kind : scope.kind = .function
  co : scope.isCoroutine = false
  gen : scope.isGenerator = false
  own : ∀ y ∈ scope.names, y.2 = .local → y.1 = a
  nocell : ∀ y ∈ scope.names, y.2 ≠ .cell
  par : scope.names.lookup a = some .local
  free : ∀ y ∈ scope.names, y.2 = .free → sc.names.lookup y.1 = some .cell ∨ sc.names.lookup y.1 = some .free
def lamS1B (sc scope : Scope) (a : Str) : Bool :=
  decide (scope.kind = .function) && !scope.isCoroutine && !scope.isGenerator && decide (scope.names.lookup a = some .local) && scope.names.all fun y => (!decide (y.2 = .local) || decide (y.1 = a)) && !decide (y.2 = .cell) && (!decide (y.2 = .free) || decide (sc.names.lookup y.1 = some .cell) || decide (sc.names.lookup y.1 = some .free))
theorem lamS1_by {sc scope : Scope} {a : Str} (h : lamS1B sc scope a = true) : LamS1 sc scope a := by
  unfold lamS1B at h
  simp only [Bool.and_eq_true, Bool.or_eq_true, Bool.not_eq_true', decide_eq_true_eq, decide_eq_false_iff_not, List.all_eq_true] at h
  obtain ⟨⟨⟨⟨h1, h2⟩, h3⟩, h5⟩, h4⟩ := h
  refine ⟨h1, h2, h3, fun y hy e => ?_, fun y hy e => (h4 y hy).1.2 e, h5, fun y hy e => ?_⟩
  · rcases (h4 y hy).1.1 with z | z
    · exact absurd e z
    · exact z
  · rcases (h4 y hy).2 with (z | z) | z
    · exact absurd e z
    · exact .inl z
    · exact .inr z
theorem LamS1.has {X : Cx} {scope : Scope} {a : Str} (L : LamS1 X.env.scope scope a) (ok : X.Ok) : ∀ y ∈ scope.names, y.2 = .free → ∃ c, X.env.cells.lookup y.1 = some c := fun y hy e => by
  rcases L.free y hy e with k | k
  · exact ok.has _ (.inl k)
  · exact ok.has _ (.inr k)
/-- the names as the lambda sees them: its parameter in slot i -/
def slot1 (σ : L2.St) (i : Nat) (v : V) : L2.St := σ.set i (some v)
section
variable {X : Cx} {pins : List (Addr × Obj)} {σ : L2.St} {H HZ : Hp} {s s1 : Shared}
theorem lam_start1 {A : Around} {outer : List Env} {E : XK} {scope : Scope} {f c' : Addr} {h₁ : Heap} {tk : Nat} {a : Str} {i : Nat} {v : V} {u : Value} (I : Inv X pins σ H s) (L : LamS1 X.env.scope scope a) (hN : X.N.Nodup) (hi : X.N[i]? = some a) (rv : RelV v u) (e0 : Env0 X.prog X.w X.K X.mg X.base A outer s1 HZ) (hd : A.handled = none)
    (un : Un (frs X.stack) [] H HZ s.heap s1.heap) (hns : h₁.Ns s1.heap.objs.size fun y => ([(a, u)] : List (Str × Value)).reverse.lookup y) (kp : ∀ b o, s1.heap.get? b = some o → h₁.get? b = some o) :
    Inv (lamCx X A outer s1 HZ E scope f c') [] (slot1 σ i v) HZ { s1 with heap := h₁, toks := tk } := by
  have hfree := L.has I.ok
  have cm : ∀ {y c}, (cloFrom X.env.cells scope.names []).lookup y = some c → X.env.cells.lookup y = some c := fun {y c} e => by
    rcases cloFrom_mem (PySem.mem_of_lookup e) with hm | ⟨h1, h2⟩
    · cases hm
    · obtain ⟨c1, hc⟩ := hfree _ h1 rfl
      have hc : X.env.cells.lookup y = some c1 := hc
      have e2 : c = c1 := by
        rw [h2, hc] <;> rfl
      rw [e2]
      exact hc
  have look : ∀ {y}, scope.names.lookup y = some .free → ∃ c, (cloFrom X.env.cells scope.names []).lookup y = some c := fun {y} hl => by
    have hy : (y, NameKind.free) ∈ scope.names := PySem.mem_of_lookup hl
    exact mem_lookup (cloFrom_has (cells := X.env.cells) (acc := []) hy)
  have cellK : ∀ {c : Addr} {v : Option Value}, H c = none → s.heap.IsCell c v → h₁.IsCell c v := fun {c v} n ⟨o, ho, hd⟩ => by
    obtain ⟨sl, q⟩ := un.any ho n (by simp)
    exact ⟨_, kp _ _ q, hd⟩
  have noA : ∀ b : Addr, b ∉ (lamCx X A outer s1 HZ E scope f c').ex := fun b z => absurd (show b ∈ ([] : List Addr) from z) (by simp)
  have hiσ : i < σ.length := by
    rw [I.len]
    exact (List.getElem?_eq_some_iff.mp hi).1
  refine ⟨⟨e0.mod, L.kind, rfl, rfl, Nat.le_refl _, fun y z c e1 e2 => I.ok.inj y z c (cm e1) (cm e2), fun y hy => ?_, fun y c z _ => ?_, fun _ => hd, Around.frames_deeper e0.frames, .inr ⟨rfl, rfl⟩, fun b z => absurd z (noA b), e0.bs, e0.bsz, fun b _ _ => noA b,
      fun b z => absurd z (noA b), e0.funs, e0.frf⟩,
    rfl, e0.bare, Un.kept kp, ⟨_, hns, fun j y v' e1 e2 e3 => ?_⟩, fun y c e => ?_, e0.hok.fresh (Nat.le_refl _), fun y c e => ?_, fun q hq => absurd (show q ∈ ([] : List (Addr × Obj)) ++ [] from hq) (by simp), e0.hok.kept kp, (by unfold slot1; rw [List.length_set]; exact I.len)⟩
  · have hy : scope.names.lookup y = some .cell ∨ scope.names.lookup y = some .free := hy
    rcases hy with hy | hy
    · exact absurd rfl (L.nocell _ (PySem.mem_of_lookup hy))
    · exact look hy
  · have z : false = true := z
    cases z
  · have e3 : Vis scope y := e3
    rcases e3 with k | k | k
    · have ya : y = a := L.own _ (PySem.mem_of_lookup k) rfl
      subst ya
      have hji : j = i := nodup_ix hN e1 hi
      subst hji
      have e2 : (σ.set j (some v))[j]? = some (some v') := e2
      rw [List.getElem?_set_self hiσ] at e2
      cases e2
      exact ⟨u, rv, .inl ⟨k, by simp⟩⟩
    · exact absurd rfl (L.nocell _ (PySem.mem_of_lookup k))
    · have hji : i ≠ j := fun z => by
        subst z
        have e1 : X.N[i]? = some y := e1
        rw [hi] at e1
        cases e1
        have := L.par
        rw [k] at this
        cases this
      have e2 : (σ.set i (some v))[j]? = some (some v') := e2
      rw [List.getElem?_set_ne hji] at e2
      obtain ⟨m, hn, hl⟩ := I.loc
      have hvis : Vis X.env.scope y := (L.free _ (PySem.mem_of_lookup k) rfl).elim (fun k => .inr (.inl k)) (fun k => .inr (.inr k))
      obtain ⟨w', r, q⟩ := hl j y v' e1 e2 hvis
      obtain ⟨c2, h2⟩ := look k
      refine ⟨w', r, .inr ⟨.inr k, c2, h2, ?_⟩⟩
      have c1 := cm h2
      rcases q with ⟨k', _⟩ | ⟨_, c3, e', z⟩
      · have k' : X.env.scope.names.lookup y = some .local := k'
        rcases L.free _ (PySem.mem_of_lookup k) rfl with k2 | k2 <;> rw [show X.env.scope.names.lookup y = _ from k2] at k' <;> cases k'
      · rw [c1] at e'
        cases e'
        exact cellK (I.freeC y _ c1) z
  · obtain ⟨w', z⟩ := I.cell y c (cm e)
    exact ⟨w', cellK (I.freeC y c (cm e)) z⟩
  · obtain ⟨v, o, ho, hd⟩ := I.cell y c (cm e)
    exact un.free c o ho (I.freeC y c (cm e)) (by simp)
/-- the lambda is called with one value -/
theorem lam_call1 {A : Around} {f c' : Addr} {pm ctv : Value} {params : Arguments} {body : Expr} {scope : Scope} {k i : Nat} {a : Str} {v : V} {u : Value} {tb : TE} {Q : VK} (I : Inv X pins σ H s) (L : LamS1 X.env.scope scope a) (hN : X.N.Nodup) (hi : X.N[i]? = some a)
    (hf : s.heap.get? f = some (PySem.W.kla_obj "<lambda>" (X.env.qual ++ "<lambda>") params body scope (cloFrom X.env.cells scope.names []) pm c' ctv)) (hc : H c' = some (CodeO c' (X.env.qual ++ "<lambda>")))
    (hbind : bindArgs (PySem.W.kla_fn "<lambda>" (X.env.qual ++ "<lambda>") params body scope (cloFrom X.env.cells scope.names []) pm (.ref c') ctv) ⟨[u], []⟩ = pure [(a, u)])
    (e0 : Env0 X.prog X.w X.K X.mg X.base A X.stack s H) (hr : Room (k + 1) A) (rv : RelV v u)
    (hbody : ∀ (A' : Around) (outer : List Env) (s : Shared) (H : Hp) (E : XK), Room k (A'.deeper (lamEnv X scope s.heap.objs.size f c')) → PE (lamCx X A' outer s H E scope f c') body tb)
    (ht : tb (slot1 σ i v) H Q) : wpAny (model X.prog X.w) A (call (.ref f) [u]) (fun w s' => CE X.stack X.prog X.w H s Q w s') (fun _ _ => False) s := by
  obtain ⟨⟨oc, vs, t, hoc, hdc, hvc⟩, _, _⟩ := I.hok c' _ hc
  have rc : codeAny (model X.prog X.w) A (.call (.ref f) ⟨[u], []⟩) (CR (L2.CX X.prog X.w) X.stack X.prog X.w H s Q (fun _ _ _ => False)) s := by
    refine PySem.W.kla_callFunE hr.depth hf rfl L.co L.gen rfl ⟨c', oc, vs, t, rfl, hoc, hdc, hvc⟩ ?_
    rw [hbind]
    refine wpAny_pure (wpAny_newFunctionEnv (fun y hy => L.nocell y hy) (fun y hy => by rw [List.mem_singleton.mp hy]; exact L.par) (fun h₁ hns hsb => ⟨I.nolimit.fresh _ hsb, ?_⟩) L.kind)
    show codeAny _ _ (.expr body (lamEnv X scope s.heap.objs.size f c')) _ _
    have kp : ∀ b o, s.heap.get? b = some o → h₁.get? b = some o := fun b o e => hsb.extBut b o (Nat.ne_of_lt (Heap.lt_size e)) (Heap.get?_push_of_some _ e)
    have J : Inv (lamCx X A X.stack s H (fun _ _ _ => False) scope f c') [] (slot1 σ i v) H { s with heap := h₁, toks := s.toks + ([(a, u)] : List (Str × Value)).length } :=
      lam_start1 I L hN hi rv e0 hr.hd Un.refl hns kp
    refine PySem.W.kla_codeExpr (wpAny_mono ((hbody _ _ s H (fun _ _ _ => False) (hr.deeper _)).run [] _ _ H Q J ht) (fun v s' hq => ?_) fun e s' hq => hq)
    obtain ⟨w', H', J', rv, q⟩ := hq
    exact ⟨w', H', J'.os, J'.bare, J'.base, J'.hok, rv, q⟩
  refine wpAny_call (codeAny_mono rc fun r s' hq => ?_)
  cases r with
  | error e =>
    obtain ⟨_, _, _, _, _, _, _, _, _, _, _, _, z⟩ := hq
    exact z.elim
  | ok fl =>
    cases fl with
    | ret u => exact hq
    | next => exact False.elim hq
    | brk => exact False.elim hq
    | cont => exact False.elim hq
end

/-! ### the least of a list by a key -/
theorem argBest_ok (kf : Nat → Int) : ∀ (m j : Nat), j ≤ m → argBest (fun i j => decide (kf i < kf j)) m ≤ m ∧ kf (argBest (fun i j => decide (kf i < kf j)) m) ≤ kf j ∧ (j < argBest (fun i j => decide (kf i < kf j)) m → kf (argBest (fun i j => decide (kf i < kf j)) m) < kf j)
  | 0, j, h => by
    have : j = 0 := by omega
    subst this
    exact ⟨Nat.le_refl _, Int.le_refl _, fun z => absurd z (Nat.not_lt_zero _)⟩
  | m + 1, j, h => by
    unfold argBest
    by_cases hb : kf (m + 1) < kf (argBest (fun i j => decide (kf i < kf j)) m)
    · rw [if_pos (decide_eq_true hb)]
      refine ⟨Nat.le_refl _, ?_, fun z => ?_⟩
      · by_cases e : j = m + 1
        · rw [e]
          exact Int.le_refl _
        · have := argBest_ok kf m j (by omega)
          omega
      · have := argBest_ok kf m j (by omega)
        omega
    · rw [if_neg (by rw [decide_eq_false hb]; exact Bool.false_ne_true)]
      by_cases e : j = m + 1
      · have := argBest_ok kf m m (Nat.le_refl _)
        subst e
        exact ⟨by omega, by omega, fun z => by omega⟩
      · have := argBest_ok kf m j (by omega)
        exact ⟨by omega, this.2⟩
/-- all but the tables stays -/
def SameN (H H' : Hp) : Prop := ExtN H H'
/-- min(xs, key=lambda n: .., default=None): the list is only read from then on; the answer is the first one whose key is the least -/
def tMinLam (T : List (Addr × Str)) (te tb : TE) (i : Nat) : TE := fun σ H Q => te σ H fun x H1 => ∃ (l : Addr) (xs : List V), x = .ref l ∧ H1 l = some (.lst xs) ∧ Tabs T H1 ∧ ∀ (o : Obj) (H2 : Hp), ExtN (upd H1 l (.frz o (.lst xs))) H2 → Tabs T H2 →
  ∃ kf : Nat → Int, (∀ (j : Nat) (v : V), xs[j]? = some v → tb (slot1 σ i v) H2 fun y H3 => y = .int (kf j) ∧ H3 = H2) ∧
    (xs = [] → Q .non H2) ∧ ∀ (j : Nat) (v : V), xs[j]? = some v → (∀ m, m < xs.length → kf j ≤ kf m ∧ (m < j → kf j < kf m)) → Q v H2
theorem y_minlam {T : List (Addr × Str)} {te tb : TE} {i : Nat} {σ : L2.St} {H : Hp} {Q : VK} (q : te σ H fun x H1 => ∃ (l : Addr) (xs : List V), x = .ref l ∧ H1 l = some (.lst xs) ∧ Tabs T H1 ∧ ∀ (o : Obj) (H2 : Hp), ExtN (upd H1 l (.frz o (.lst xs))) H2 → Tabs T H2 →
    ∃ kf : Nat → Int, (∀ (j : Nat) (v : V), xs[j]? = some v → tb (slot1 σ i v) H2 fun y H3 => y = .int (kf j) ∧ H3 = H2) ∧
      (xs = [] → Q .non H2) ∧ ∀ (j : Nat) (v : V), xs[j]? = some v → (∀ m, m < xs.length → kf j ≤ kf m ∧ (m < j → kf j < kf m)) → Q v H2) : tMinLam T te tb i σ H Q := q
theorem tabs_upd {T : List (Addr × Str)} {H : Hp} {l : Addr} {u : HO} (t : Tabs T H) {v : HO} (h : H l = some v) (hv : ∀ ps, v ≠ .tbl ps) (hv2 : ∀ (c : Addr) (q : Str), v ≠ CodeO c q) : Tabs T (upd H l u) := fun p hp => by
  obtain ⟨ps, h1, h2, h3⟩ := t p hp
  refine ⟨ps, ?_, h2, fun pos cv hc => ?_⟩
  · rw [upd_ne (fun z => by rw [z, h] at h1; exact hv ps (Option.some.inj h1))]
    exact h1
  · obtain ⟨c, e1, e2⟩ := h3 pos cv hc
    refine ⟨c, e1, ?_⟩
    rw [upd_ne (fun z => by rw [z, h] at e2; exact hv2 _ _ (Option.some.inj e2))]
    exact e2
/-- untracked records of ours are changed, all else is kept -/
theorem inv_moved {X : Cx} {pins : List (Addr × Obj)} {σ : L2.St} {H : Hp} {s s' : Shared} {ws : List Addr} (I : Inv X pins σ H s) (hws : ∀ b ∈ ws, FpOk X pins H b) (m : Moved ws (fun a b => b = a) s s') : Inv X pins σ H s' := by
  obtain ⟨h', g', d', t', o'⟩ := s'
  obtain ⟨hm, hg, hd, ho, ht⟩ := m
  have hg : g' = s.gens := hg
  have ho : o' = s.os := ho
  subst hg
  subst ho
  have ne : ∀ b u, H b = some u → b ∉ ws := fun b u e z => by
    have := (hws b z).1
    rw [e] at this
    cases this
  refine I.step (g' := s.gens) (d' := d') (t' := t') (ch := ws) (fun b hb => ?_) (fun b o _ _ hc e _ => hm b o hc e) (fun b o _ _ hc e _ => ⟨o.slots, hm b o hc e⟩) (fun _ _ _ _ n => n) (fun b o hc e => ⟨o, hm b o hc e⟩) (fun _ _ e => e) (fun _ _ _ e => e) (fun b ps e => ⟨#[], by rw [e]; simp⟩) (fun m hn => ?_) (fun b u e => ?_) I.bare
  · obtain ⟨f0, f1, f2, f3, f4, f5⟩ := hws b hb
    exact ⟨f3, f1, f4, f5⟩
  · obtain ⟨o, es, ep, ho, r⟩ := hn
    exact ⟨o, es, ep, hm _ o (fun z => (hws _ z).2.1 rfl) ho, r⟩
  · refine (I.hok b u e).stay (fun c v hc q => hm c v ?_ q) (fun _ q => q) fun _ _ q => q
    rcases hc with z | z
    · rw [z]
      exact ne b u e
    · exact ne c _ z
section
variable {X : Cx}
theorem pe_minlam {T : List (Addr × Str)} {c P : Addr} {k i : Nat} {a : Str} {params : Arguments} {body : Expr} {scope : Scope} {e : Expr} {te tb : TE} {p p1 p2 lpos dpos pos : Pos} {jd : Nat}
    (hcalm : X.calm = true) (hg : Gl X "min") (hm : X.mg "min" = none) (he : PE X e te) (TB : TabB X.base X.mg c P) (hcode : X.env.code = .ref c) (hmT : (P, X.env.qual ++ "<lambda>") ∈ T) (hu : ∀ p ∈ T, p.1 = P → p.2 = X.env.qual ++ "<lambda>")
    (hr : Room (k + 2) X.A) (L : LamS1 X.env.scope scope a) (hN : X.N.Nodup) (hi : X.N[i]? = some a) (hdef : defaultsOf params X.env = ([], []))
    (hbind : ∀ (q : Str) (cl : List (Str × Addr)) (pm cv ctv u : Value), bindArgs (PySem.W.kla_fn "<lambda>" q params body scope cl pm cv ctv) ⟨[u], []⟩ = pure [(a, u)])
    (hbody : ∀ (A : Around) (outer : List Env) (s : Shared) (H : Hp) (E : XK) (f c' : Addr), Room k (A.deeper (lamEnv X scope s.heap.objs.size f c')) → PE (lamCx X A outer s H E scope f c') body tb)
    (hs : starEach [e] X.env = (false, eval e X.env) :: starEach [] X.env := by rfl) (hst : backTo pos (starEach [e] X.env) = (false, eval e X.env) :: backTo pos (starEach [] X.env) := by rfl) (hpl : (backTo pos (starEach [e] X.env)).any (·.1) = false := by rfl) :
    PE X (.Call (.Name "min" p) [e] [⟨some "key", .Lambda params body scope lpos, p1⟩, ⟨some "default", .Constant .none jd dpos, p2⟩] pos) (tMinLam T te tb i) := by
  refine ⟨fun pins s σ H Q I h => ?_⟩
  have hv : bootBuiltins "min" = some (.builtin "min") := by decide +kernel
  refine wpAny_Call_Name_kw (ld_blt I hg hm hv ?_ (by decide) (by decide))
  have ha : PA X [e] (tCons te tNil) := pa_cons he pa_nil hs
  refine PyProof.Rows.callWith_kw (thn (ha.run pos pins s σ H (fun vs H1 => match vs with
    | [x] => ∃ (l : Addr) (xs : List V), x = .ref l ∧ H1 l = some (.lst xs) ∧ Tabs T H1 ∧ ∀ (o : Obj) (H2 : Hp), ExtN (upd H1 l (.frz o (.lst xs))) H2 → Tabs T H2 →
        ∃ kf : Nat → Int, (∀ (j : Nat) (v : V), xs[j]? = some v → tb (slot1 σ i v) H2 fun y H3 => y = .int (kf j) ∧ H3 = H2) ∧
          (xs = [] → Q .non H2) ∧ ∀ (j : Nat) (v : V), xs[j]? = some v → (∀ m, m < xs.length → kf j ≤ kf m ∧ (m < j → kf j < kf m)) → Q v H2
    | _ => False) I h) fun us s1 ⟨vs, H1, I1, r1, q1⟩ => ?_) hst hpl rfl rfl
  match vs, r1, q1 with
  | [x], r1, ⟨l, xs, ex, hl, hT, q⟩ =>
  subst ex
  obtain ⟨ul, rfl, rl⟩ := vals1 r1
  obtain rfl : ul = Value.ref l := rl
  obtain ⟨od, I2⟩ := I1.lock hl (True.intro : Mut (some (.lst xs)))
  have T2 : Tabs T (upd H1 l (.frz od (.lst xs))) := tabs_upd hT hl (fun ps z => by cases z) (fun c q z => by unfold CodeO at z; cases z)
  refine wpAny_evalAll_cons (wpAny_bind ?_)
  refine lam_make2 (T := T) I2 TB hcode hmT hu T2 hdef (L.has I2.ok) fun f c' pm ctv H2 s2 I3 eN T3 hf hfn hfr hco => ?_
  refine wpAny_bind (wpAny_standAt (wpAny_pure ?_))
  refine wpAny_evalAll_cons (wpAny_bind (PyProof.Rows.Constant_none (wpAny_bind (wpAny_standAt (wpAny_pure (wpAny_evalAll_nil ?_))))))
  obtain ⟨kf, hk, h0, hb⟩ := q od H2 eN T3
  have I4 := I3
  show wpAny _ _ (call (.builtin "min") [.ref l] [(Str.ofString "key", .ref f), (Str.ofString "default", .none)]) _ _ _
  have hl2 : H2 l = some (.frz od (.lst xs)) := eN _ _ upd_same (fun ps z => by cases z)
  obtain ⟨gl, gz, its, nl, rvs, gd⟩ := (show ObjOk X.prog X.w H2 s2.heap l (.frz od (.lst xs)) from I4.hok l _ hl2)
  have ed : od = { cls := .type "list", data := .seq its.toArray nl } := by
    rw [gl] at gd
    exact Option.some.inj gd
  have hlist : ∀ s' : Shared, Inv X pins σ H2 s' → s'.heap.IsList l its.toArray := fun s' J => by
    have := (show ObjOk X.prog X.w H2 s'.heap l (.frz od (.lst xs)) from J.hok l _ hl2).1
    rw [ed] at this
    exact ⟨_, this, rfl, nl, rfl⟩
  have hll : l < s2.heap.objs.size := Heap.lt_size gl
  have hff : f < s2.heap.objs.size := Heap.lt_size hf
  have nI : H2 s2.heap.objs.size = none := I3.hok.fresh (Nat.le_refl _)
  have nS : H2 (s2.heap.objs.size + 1) = none := I3.hok.fresh (Nat.le_succ _)
  have fI := I3.fpOk (H' := H2) (Nat.le_refl _) nI
  have fS := I3.fpOk (H' := H2) (Nat.le_succ _) nS
  have hws : ∀ b ∈ [s2.heap.objs.size + 1, s2.heap.objs.size], FpOk X pins H2 b := fun b hb => by
    rcases List.mem_cons.mp hb with e | e
    · rw [e]
      exact fS
    · rw [List.mem_singleton.mp e]
      exact fI
  have frI : ∀ {b : Addr}, FpOk X pins H2 b → ∀ {s' : Shared}, Inv X pins σ H2 s' → b ∉ frs X.stack := fun fp s' J z => by
    rcases List.mem_cons.mp (J.stkSub _ z) with e | e
    · exact fp.2.1 e
    · exact fp.2.2.1 e
  have hlen : xs.length = its.length := rvs.length
  refine call_min_walkKD ?_
  refine wpAny_pyIter_list (hlist s2 I3) ?_
  have hsz : (s2.heap.push { cls := .type "list_iterator", data := .fields #[.ref l, .int 0 0] }).objs.size = s2.heap.objs.size + 1 := Heap.size_push ..
  have kp : ∀ b o, s2.heap.get? b = some o → (s2.heap.push { cls := .type "list_iterator", data := .fields #[.ref l, .int 0 0] }).get? b = some o := fun b o e => Heap.get?_push_of_some _ e
  have W := (Walks.list (prog := X.prog) (w := X.w) (A := X.A.in1) (I3.ok.hd hcalm) s2.heap.objs.size l (Nat.ne_of_lt hll) its.toArray).toS
  refine ⟨s2.heap.objs.size, [s2.heap.objs.size, l], [s2.heap.objs.size], _, _, _, _, fun s' => Inv X pins σ H2 s' ∧ s'.heap.get? f = some (PySem.W.kla_obj "<lambda>" (X.env.qual ++ "<lambda>") params body scope (cloFrom X.env.cells scope.names []) pm c' ctv), fun i k _ => ∃ t, k = .int (kf i) t, fun i j => decide (kf i < kf j), rfl, W, ?_, ?_, ?_, ?_, ?_, ?_⟩
  · exact ⟨⟨_, Heap.get?_push_size _ rfl, rfl, rfl⟩, by
      obtain ⟨o, a1, a2, a3⟩ := hlist s2 I3
      exact ⟨o, kp _ _ a1, a2, a3⟩⟩
  · intro b hb
    rw [hsz]
    rcases List.mem_cons.mp hb with e | e
    · rw [e]
      exact Nat.lt_succ_self _
    · rw [List.mem_singleton.mp e]
      exact Nat.lt_succ_of_lt hll
  · rw [hsz]
    refine ⟨fun s3 s4 J m => ⟨inv_moved J.1 hws m, m.heap f _ (fun z => ?_) J.2⟩, fun _ _ _ _ h _ => h, fun j v s3 o Q' E' hj hP J st hS k2 => ?_, fun j j2 ki kj s3 Q' E' _ h1 h2 h3 => ?_⟩
    · rcases List.mem_cons.mp z with e | e
      · rw [e] at hff
        exact absurd hff (Nat.not_lt.mpr (Nat.le_succ _))
      · rw [List.mem_singleton.mp e] at hff
        exact Nat.lt_irrefl _ hff
    · have hj' : j < its.length := by simpa using hj
      have hx := List.getElem?_eq_getElem (show j < xs.length by omega)
      obtain ⟨u, hu, ru⟩ := rvs.get hx
      have hP' : its[j]? = some v := by simpa using hP
      rw [hu] at hP'
      obtain rfl : u = v := Option.some.inj hP'
      have hc4 : H2 c' = some (CodeO c' (X.env.qual ++ "<lambda>")) := hco
      refine wpAny_mono (lam_call1 (k := k) J.1 L hN hi J.2 hc4 (hbind _ _ _ _ _ _) J.1.env0.in1 (hr.in1) ru (fun A' outer s5 H5 E5 hr5 => hbody A' outer s5 H5 E5 f c' hr5) (hk j _ hx)) (fun w s4 hq => ?_) fun _ _ z => z.elim
      obtain ⟨y, H', os, bare, un, hok, ry, ey, eH⟩ := hq
      subst ey
      subst eH
      have J4 := J.1.call' (ch := []) os un hok bare (fun b z => absurd z (by simp))
      obtain ⟨t, rfl⟩ := ry
      refine k2 _ _ ⟨J4, un.keep _ _ J.2 hfn hfr (by simp)⟩ ⟨?_, hlist _ J4⟩ (un.keep _ _ hS nS (frI fS J.1) (by simp)) ⟨t, rfl⟩ fun _ _ h => h
      obtain ⟨oi, g1, g2, g3⟩ := st.1
      exact ⟨oi, un.keep _ _ g1 nI (frI fI J.1) (by simp), g2, g3⟩
    · exact CmpOf.ints_lt (P := fun i v => ∃ t, v = .int (kf i) t) kf (fun i v h => h) j j2 _ _ _ _ _ h1 h2 h3
  · exact ⟨I3.kept kp, kp _ _ hf⟩
  · intro hn s3 J
    have : xs = [] := by
      have : its.length = 0 := by simpa using hn
      rw [this] at hlen
      exact List.length_eq_zero_iff.mp hlen
    exact ⟨.non, H2, J.1, rfl, h0 this⟩
  · intro hn v s3 hP J
    have hn' : 0 < its.length := by simpa using hn
    have hb2 := argBest_ok kf (its.toArray.size - 1)
    generalize argBest (fun i j => decide (kf i < kf j)) (its.toArray.size - 1) = m at hb2 hP
    have hsz2 : its.toArray.size = its.length := List.size_toArray ..
    have hm : m < xs.length := by
      have := (hb2 0 (Nat.zero_le _)).1
      omega
    have hx := List.getElem?_eq_getElem hm
    obtain ⟨u, hu, ru⟩ := rvs.get hx
    have hP' : its[m]? = some v := by simpa using hP
    rw [hu] at hP'
    obtain rfl : u = v := Option.some.inj hP'
    exact ⟨_, H2, J.1, ru, hb m _ hx fun m2 hm2 => (hb2 m2 (by omega)).2⟩
end
end Y
/-! Mathematics of the dealing of turns: tickets, their order, the latest turns. Plain Lean. -/
namespace Deal

/-- how many turns another guest (tp, tc) has ahead of the turn number k of one with (sp, sc); e: the other one stands earlier -/
def aheadP (sp tp : Nat) (e : Bool) (k : Nat) : Nat := min tp (if e then k * tp / sp + 1 else (k * tp + sp - 1) / sp)
def ahead (sp tp tc : Nat) (e : Bool) (k : Nat) : Nat :=
  if k < sp then aheadP sp tp e k else min tc (max tp (k + if e then 1 else 0))

/-- ticket x of a guest (tp, tc) goes ahead of ticket k of (sp, sc); e: the first stands earlier -/
def goes (sp tp : Nat) (e : Bool) (k x : Nat) : Prop :=
  (x < tp ∧ (sp ≤ k ∨ x * sp < k * tp ∨ (x * sp = k * tp ∧ e = true))) ∨ (tp ≤ x ∧ sp ≤ k ∧ (x < k ∨ (x = k ∧ e = true)))

theorem div_lt_ceil {a b x : Nat} (hb : 0 < b) : x < (a + b - 1) / b ↔ x * b < a := by
  rw [Nat.lt_iff_add_one_le, Nat.le_div_iff_mul_le hb, Nat.add_mul]
  omega
theorem lt_div_succ {a b x : Nat} (hb : 0 < b) : x < a / b + 1 ↔ x * b ≤ a := by
  rw [Nat.lt_succ_iff, Nat.le_div_iff_mul_le hb]

theorem ahead_iff {sp tp tc : Nat} {e : Bool} {k x : Nat} (hx : x < tc) : x < ahead sp tp tc e k ↔ goes sp tp e k x := by
  unfold ahead goes
  by_cases hk : k < sp
  · rw [if_pos hk]
    unfold aheadP
    have hsp : 0 < sp := by omega
    rw [Nat.lt_min]
    cases e with
    | true =>
      rw [if_pos rfl, lt_div_succ hsp]
      constructor
      · rintro ⟨h1, h2⟩
        refine Or.inl ⟨h1, Or.inr ?_⟩
        rcases Nat.lt_or_eq_of_le h2 with h | h
        · exact Or.inl h
        · exact Or.inr ⟨h, rfl⟩
      · rintro (⟨h1, h2 | h2 | h2⟩ | ⟨h1, h2, h3⟩)
        · omega
        · exact ⟨h1, Nat.le_of_lt h2⟩
        · exact ⟨h1, Nat.le_of_eq h2.1⟩
        · omega
    | false =>
      rw [if_neg (by simp), div_lt_ceil hsp]
      constructor
      · rintro ⟨h1, h2⟩
        exact Or.inl ⟨h1, Or.inr (Or.inl h2)⟩
      · rintro (⟨h1, h2 | h2 | h2⟩ | ⟨h1, h2, h3⟩)
        · omega
        · exact ⟨h1, h2⟩
        · exact absurd h2.2 (by simp)
        · omega
  · rw [if_neg hk]
    rw [Nat.lt_min]
    cases e with
    | true =>
      rw [if_pos rfl]
      show x < tc ∧ x < max tp (k + 1) ↔ _
      simp only [and_true]
      omega
    | false =>
      rw [if_neg (by simp)]
      simp only [Bool.false_eq_true, and_false, or_false]
      omega

theorem ahead_le {sp tp tc : Nat} {e : Bool} {k : Nat} (h : tp ≤ tc) : ahead sp tp tc e k ≤ tc := by
  unfold ahead aheadP
  split
  · exact Nat.le_trans (Nat.min_le_left _ _) h
  · exact Nat.min_le_left _ _

/-- a/p < b/q ≤ c/r -/
theorem frac_lt {a b c p q r : Nat} (hq : 0 < q) (hr : 0 < r) (h1 : a * q < b * p) (h2 : b * r ≤ c * q) : a * r < c * p := by
  have e1 : a * q * r < b * p * r := Nat.mul_lt_mul_of_pos_right h1 hr
  have e2 : b * r * p ≤ c * q * p := Nat.mul_le_mul_right _ h2
  have e3 : a * r * q < c * p * q := by
    have x1 : a * r * q = a * q * r := Nat.mul_right_comm _ _ _
    have x2 : b * p * r = b * r * p := Nat.mul_right_comm _ _ _
    have x3 : c * p * q = c * q * p := Nat.mul_right_comm _ _ _
    omega
  exact Nat.lt_of_mul_lt_mul_right e3

theorem goes_total {sp tp : Nat} {e : Bool} {k x : Nat} (h : ¬ goes sp tp e k x) : goes tp sp (!e) x k := by
  unfold goes at *
  have h1 : ¬ (x < tp ∧ (sp ≤ k ∨ x * sp < k * tp ∨ (x * sp = k * tp ∧ e = true))) := fun z => h (Or.inl z)
  have h2 : ¬ (tp ≤ x ∧ sp ≤ k ∧ (x < k ∨ (x = k ∧ e = true))) := fun z => h (Or.inr z)
  by_cases hx : x < tp
  · have h3 : ¬ (sp ≤ k) := fun z => h1 ⟨hx, Or.inl z⟩
    have h4 : ¬ (x * sp < k * tp) := fun z => h1 ⟨hx, Or.inr (Or.inl z)⟩
    have h5 : ¬ (x * sp = k * tp ∧ e = true) := fun z => h1 ⟨hx, Or.inr (Or.inr z)⟩
    refine Or.inl ⟨by omega, Or.inr ?_⟩
    by_cases h6 : x * sp = k * tp
    · refine Or.inr ⟨h6.symm, ?_⟩
      cases e with
      | true => exact absurd ⟨h6, rfl⟩ h5
      | false => rfl
    · exact Or.inl (by omega)
  · by_cases hk : k < sp
    · exact Or.inl ⟨hk, Or.inl (by omega)⟩
    · refine Or.inr ⟨by omega, by omega, ?_⟩
      by_cases h6 : x = k
      · refine Or.inr ⟨h6.symm, ?_⟩
        cases e with
        | true => exact absurd ⟨by omega, by omega, Or.inr ⟨h6, rfl⟩⟩ h2
        | false => rfl
      · refine Or.inl ?_
        by_cases h7 : x < k
        · exact absurd ⟨by omega, by omega, Or.inl h7⟩ h2
        · omega
theorem goes_asymm {sp tp : Nat} {e : Bool} {k x : Nat} (h : goes sp tp e k x) : ¬ goes tp sp (!e) x k := by
  unfold goes at *
  rintro (⟨h1, h2⟩ | ⟨h1, h2, h3⟩)
  · rcases h with ⟨g1, g2⟩ | ⟨g1, g2, g3⟩
    · rcases g2 with g | g | g
      · omega
      · rcases h2 with z | z | z <;> omega
      · rcases h2 with z | z | z
        · omega
        · omega
        · have h1 := g.2
          have h2 := z.2
          rw [h1] at h2
          exact Bool.noConfusion h2
    · omega
  · rcases h with ⟨g1, g2⟩ | ⟨g1, g2, g3⟩
    · omega
    · rcases h3 with h3 | h3
      · rcases g3 with z | z <;> omega
      · rcases g3 with z | z
        · omega
        · have h1 := z.2
          have h2 := h3.2
          rw [h1] at h2
          exact Bool.noConfusion h2

theorem ahead_mono {sp tp tc : Nat} {e : Bool} {k k' : Nat} (ht : tp ≤ tc) (h : k ≤ k') : ahead sp tp tc e k ≤ ahead sp tp tc e k' := by
  unfold ahead
  by_cases h1 : k < sp
  · rw [if_pos h1]
    by_cases h2 : k' < sp
    · rw [if_pos h2]
      unfold aheadP
      have m : k * tp ≤ k' * tp := Nat.mul_le_mul_right _ h
      have m1 : k * tp / sp ≤ k' * tp / sp := Nat.div_le_div_right m
      have m2 : (k * tp + sp - 1) / sp ≤ (k' * tp + sp - 1) / sp := Nat.div_le_div_right (by omega)
      cases e
      · simp only [Bool.false_eq_true, if_false]
        omega
      · simp only [if_true]
        omega
    · rw [if_neg h2]
      unfold aheadP
      refine Nat.le_trans (Nat.min_le_left _ _) ?_
      rw [Nat.le_min]
      exact ⟨ht, Nat.le_max_left _ _⟩
  · rw [if_neg h1, if_neg (show ¬ k' < sp by omega)]
    cases e
    · simp only [Bool.false_eq_true, if_false]
      omega
    · simp only [if_true]
      omega

/-! ### sums -/
def sumTo (f : Nat → Nat) : Nat → Nat
  | 0 => 0
  | n + 1 => sumTo f n + f n
theorem sumTo_le {f g : Nat → Nat} : ∀ {n : Nat}, (∀ j, j < n → f j ≤ g j) → sumTo f n ≤ sumTo g n
  | 0, _ => Nat.le_refl _
  | n + 1, h => Nat.add_le_add (sumTo_le fun j hj => h j (by omega)) (h n (by omega))
theorem sumTo_congr {f g : Nat → Nat} : ∀ {n : Nat}, (∀ j, j < n → f j = g j) → sumTo f n = sumTo g n
  | 0, _ => rfl
  | n + 1, h => by
    unfold sumTo
    rw [sumTo_congr (n := n) fun j hj => h j (by omega), h n (by omega)]
/-- one place taken out -/
theorem sumTo_at {f : Nat → Nat} {i : Nat} : ∀ {n : Nat}, i < n → sumTo f n = f i + sumTo (fun j => if j = i then 0 else f j) n
  | 0, h => absurd h (Nat.not_lt_zero _)
  | n + 1, h => by
    unfold sumTo
    by_cases e : i = n
    · subst e
      have : sumTo (fun j => if j = i then 0 else f j) i = sumTo f i := sumTo_congr fun j hj => by
        show (if j = i then 0 else f j) = f j
        rw [if_neg (by omega)]
      rw [this, if_pos rfl]
      omega
    · have h2 : i < n := by omega
      rw [sumTo_at (f := f) (n := n) h2]
      show _ = f i + (sumTo (fun j => if j = i then 0 else f j) n + (if n = i then 0 else f n))
      rw [if_neg (show ¬ n = i from fun z => e z.symm)]
      omega

/-! ### the case -/
structure Ok (n L : Nat) (p c : Nat → Nat) : Prop where
  pc : ∀ i, i < n → p i ≤ c i
  one : ∀ i, i < n → 1 ≤ c i
  cL : ∀ i, i < n → c i ≤ L
  sum : sumTo p n ≤ L

def A (p c : Nat → Nat) (i k j : Nat) : Nat := ahead (p i) (p j) (c j) (decide (j < i)) k
/-- the latest turn (from 1 on) of the ticket k of guest i -/
def T (n : Nat) (p c : Nat → Nat) (i k : Nat) : Nat := k + 1 + sumTo (fun j => if j = i then 0 else A p c i k j) n

theorem T_lt {n L : Nat} {p c : Nat → Nat} (O : Ok n L p c) {i k k' : Nat} (h : k < k') : T n p c i k < T n p c i k' := by
  unfold T
  have : sumTo (fun j => if j = i then 0 else A p c i k j) n ≤ sumTo (fun j => if j = i then 0 else A p c i k' j) n := sumTo_le fun j hj => by
    show (if j = i then 0 else A p c i k j) ≤ (if j = i then 0 else A p c i k' j)
    split
    · exact Nat.le_refl _
    · exact ahead_mono (O.pc j hj) (by omega)
  omega
theorem T_le {n L : Nat} {p c : Nat → Nat} (O : Ok n L p c) {i k k' : Nat} (h : k ≤ k') : T n p c i k ≤ T n p c i k' := by
  rcases Nat.lt_or_eq_of_le h with z | z
  · exact Nat.le_of_lt (T_lt O z)
  · rw [z]
    exact Nat.le_refl _
theorem T_ge (n : Nat) (p c : Nat → Nat) (i k : Nat) : k + 1 ≤ T n p c i k := by
  unfold T
  omega
theorem T_promise {n L : Nat} {p c : Nat → Nat} (O : Ok n L p c) {i k : Nat} (hi : i < n) (hk : k < p i) : T n p c i k ≤ L := by
  unfold T
  have h1 := sumTo_at (f := p) hi
  have h2 : sumTo (fun j => if j = i then 0 else A p c i k j) n ≤ sumTo (fun j => if j = i then 0 else p j) n := sumTo_le fun j hj => by
    show (if j = i then 0 else A p c i k j) ≤ (if j = i then 0 else p j)
    split
    · exact Nat.le_refl _
    · unfold A ahead
      rw [if_pos hk]
      unfold aheadP
      exact Nat.min_le_left _ _
  have h3 := O.sum
  omega

/-! ### the dealing when all are ready -/
/-- who gets a turn, by the turns u that were used -/
def Best (n : Nat) (p c u : Nat → Nat) : Option Nat → Prop
  | none => ∀ j, j < n → c j ≤ u j
  | some b => b < n ∧ u b < c b ∧ ∀ j, j < n → j ≠ b → u j < c j → goes (p j) (p b) (decide (b < j)) (u j) (u b)

/-- the turns, from 1 on, at which i got one -/
def got : List (Option Nat) → Nat → Nat → List Nat
  | [], _, _ => []
  | x :: r, t, i => if x = some i then (t + 1) :: got r (t + 1) i else got r (t + 1) i
theorem got_app : ∀ (d e : List (Option Nat)) (t i : Nat), got (d ++ e) t i = got d t i ++ got e (t + d.length) i
  | [], e, t, i => by simp [got]
  | x :: r, e, t, i => by
    show (if x = some i then (t + 1) :: got (r ++ e) (t + 1) i else got (r ++ e) (t + 1) i) = _
    rw [got_app r e (t + 1) i, List.length_cons, show t + 1 + r.length = t + (r.length + 1) by omega]
    show _ = (if x = some i then (t + 1) :: got r (t + 1) i else got r (t + 1) i) ++ _
    split <;> simp
theorem got_snoc (d : List (Option Nat)) (x : Option Nat) (i : Nat) : got (d ++ [x]) 0 i = if x = some i then got d 0 i ++ [d.length + 1] else got d 0 i := by
  rw [got_app]
  simp only [got, Nat.zero_add]
  split <;> simp
def cnt (d : List (Option Nat)) (i : Nat) : Nat := (got d 0 i).length
theorem cnt_snoc (d : List (Option Nat)) (x : Option Nat) (i : Nat) : cnt (d ++ [x]) i = if x = some i then cnt d i + 1 else cnt d i := by
  unfold cnt
  rw [got_snoc]
  split <;> simp

structure Good (n : Nat) (p c : Nat → Nat) (d : List (Option Nat)) : Prop where
  le : ∀ i, i < n → cnt d i ≤ c i
  closed : ∀ i, i < n → ∀ k, k < cnt d i → ∀ j, j < n → j ≠ i → ∀ x, x < c j → goes (p i) (p j) (decide (j < i)) k x → x < cnt d j
  turns : ∀ i, i < n → got d 0 i = (List.range (cnt d i)).map (T n p c i)
  total : sumTo (cnt d) n = d.length ∨ (∀ i, i < n → c i ≤ cnt d i)
  perm : List.Perm ((List.range n).flatMap (got d 0)) ((List.range (sumTo (cnt d) n)).map (· + 1))
  names : ∀ i, some i ∈ d → i < n

theorem flip {a b : Nat} (h : a ≠ b) : (!decide (a < b)) = decide (b < a) := by
  by_cases h1 : a < b
  · rw [decide_eq_true h1, decide_eq_false (by omega)]
    rfl
  · rw [decide_eq_false h1, decide_eq_true (by omega)]
    rfl

theorem sumTo_zero : ∀ n : Nat, sumTo (fun _ => 0) n = 0
  | 0 => rfl
  | n + 1 => by
    unfold sumTo
    rw [sumTo_zero n]

theorem good_nil (n : Nat) (p c : Nat → Nat) : Good n p c [] where
  le := fun i _ => Nat.zero_le _
  closed := fun i _ k hk => absurd hk (Nat.not_lt_zero _)
  turns := fun i _ => rfl
  total := Or.inl (sumTo_zero n)
  perm := by
    have e : sumTo (cnt []) n = 0 := sumTo_zero n
    rw [e]
    have : (List.range n).flatMap (got [] 0) = [] := by
      rw [List.flatMap_eq_nil_iff]
      intro x _
      rfl
    rw [this]
    exact List.Perm.refl _
  names := fun i h => by cases h

/-- what the tickets ahead of the next one of b are: all that were dealt -/
theorem at_best {n : Nat} {p c : Nat → Nat} {d : List (Option Nat)} (pc : ∀ i, i < n → p i ≤ c i) (G : Good n p c d) {b : Nat} (hb : Best n p c (cnt d) (some b)) : ∀ j, j < n → j ≠ b → A p c b (cnt d b) j = cnt d j := by
  obtain ⟨hn, hc, hm⟩ := hb
  intro j hj hne
  refine Nat.le_antisymm ?_ ?_
  · -- none of j's next tickets goes ahead
    by_cases hl : A p c b (cnt d b) j ≤ cnt d j
    · exact hl
    · have h1 : cnt d j < A p c b (cnt d b) j := by omega
      have h2 : A p c b (cnt d b) j ≤ c j := ahead_le (pc j hj)
      have h3 : cnt d j < c j := by omega
      have h4 := (ahead_iff h3).mp h1
      have h5 := hm j hj hne h3
      have h6 := goes_asymm h5
      rw [flip (fun z => hne z.symm)] at h6
      exact absurd h4 h6
  · -- all of j's dealt tickets went ahead
    by_cases h0 : cnt d j = 0
    · omega
    · have hx : cnt d j - 1 < c j := by
        have := G.le j hj
        omega
      have h1 : ¬ goes (p j) (p b) (decide (b < j)) (cnt d j - 1) (cnt d b) := fun z => by
        have := G.closed j hj (cnt d j - 1) (by omega) b hn (fun e => hne e.symm) (cnt d b) hc z
        omega
      have h2 := goes_total h1
      rw [flip (fun z => hne z.symm)] at h2
      have h3 := (ahead_iff hx).mpr h2
      unfold A
      omega

theorem T_best {n : Nat} {p c : Nat → Nat} {d : List (Option Nat)} (pc : ∀ i, i < n → p i ≤ c i) (G : Good n p c d) {b : Nat} (hb : Best n p c (cnt d) (some b)) : T n p c b (cnt d b) = sumTo (cnt d) n + 1 := by
  have h := at_best pc G hb
  unfold T
  have e : sumTo (fun j => if j = b then 0 else A p c b (cnt d b) j) n = sumTo (fun j => if j = b then 0 else cnt d j) n := sumTo_congr fun j hj => by
    show (if j = b then 0 else _) = (if j = b then 0 else _)
    split
    · rfl
    · rename_i hne
      exact h j hj hne
  rw [e, sumTo_at (f := cnt d) hb.1]
  omega

theorem perm_step {f g : Nat → List Nat} {b y : Nat} : ∀ {n : Nat}, b < n → (∀ i, i ≠ b → g i = f i) → g b = f b ++ [y] → List.Perm ((List.range n).flatMap g) ((List.range n).flatMap f ++ [y])
  | 0, h, _, _ => absurd h (Nat.not_lt_zero _)
  | n + 1, h, h1, h2 => by
    rw [List.range_succ, List.flatMap_append, List.flatMap_append]
    by_cases e : b = n
    · subst e
      have : (List.range b).flatMap g = (List.range b).flatMap f := by
        rw [List.flatMap_def, List.flatMap_def]
        congr 1
        refine List.map_congr_left fun i hi => h1 i ?_
        have := List.mem_range.mp hi
        omega
      rw [this]
      simp only [List.flatMap_cons, List.flatMap_nil, List.append_nil]
      rw [h2, List.append_assoc]
    · have ih := perm_step (n := n) (by omega) h1 h2
      simp only [List.flatMap_cons, List.flatMap_nil, List.append_nil]
      rw [h1 n (fun z => e z.symm)]
      refine (List.Perm.append_right _ ih).trans ?_
      rw [List.append_assoc, List.append_assoc]
      exact List.Perm.append_left _ List.perm_append_comm

theorem sumTo_cnt_snoc {n : Nat} {d : List (Option Nat)} {b : Nat} (hb : b < n) : sumTo (cnt (d ++ [some b])) n = sumTo (cnt d) n + 1 := by
  rw [sumTo_at (f := cnt (d ++ [some b])) hb, sumTo_at (f := cnt d) hb, cnt_snoc, if_pos rfl]
  have : sumTo (fun j => if j = b then 0 else cnt (d ++ [some b]) j) n = sumTo (fun j => if j = b then 0 else cnt d j) n := sumTo_congr fun j _ => by
    show (if j = b then 0 else _) = (if j = b then 0 else _)
    split
    · rfl
    · rename_i hne
      rw [cnt_snoc, if_neg (fun z => hne (Option.some.inj z).symm)]
  omega

theorem good_snoc {n : Nat} {p c : Nat → Nat} {d : List (Option Nat)} (pc : ∀ i, i < n → p i ≤ c i) (G : Good n p c d) {x : Option Nat} (hb : Best n p c (cnt d) x) : Good n p c (d ++ [x]) := by
  cases x with
  | none =>
    have e : ∀ i, cnt (d ++ [none]) i = cnt d i := fun i => by
      rw [cnt_snoc, if_neg (fun z => nomatch z)]
    have e2 : ∀ i, got (d ++ [none]) 0 i = got d 0 i := fun i => by
      rw [got_snoc, if_neg (fun z => nomatch z)]
    have e3 : cnt (d ++ [none]) = cnt d := funext e
    have e4 : got (d ++ [none]) 0 = got d 0 := funext e2
    refine ⟨fun i hi => by rw [e]; exact G.le i hi, fun i hi k hk j hj hne x hx hg => ?_, fun i hi => by rw [e, e2]; exact G.turns i hi, Or.inr fun i hi => by rw [e]; exact hb i hi, by rw [e3, e4]; exact G.perm, fun i hi => ?_⟩
    · rw [e] at hk ⊢
      exact G.closed i hi k hk j hj hne x hx hg
    · rcases List.mem_append.mp hi with h | h
      · exact G.names i h
      · simp at h
  | some b =>
    obtain ⟨hn, hc, hm⟩ := id hb
    have hA := at_best pc G hb
    have hT := T_best pc G hb
    have eb : cnt (d ++ [some b]) b = cnt d b + 1 := by rw [cnt_snoc, if_pos rfl]
    have eo : ∀ i, i ≠ b → cnt (d ++ [some b]) i = cnt d i := fun i hi => by
      rw [cnt_snoc, if_neg (fun z => hi (Option.some.inj z).symm)]
    have hs : sumTo (cnt d) n = d.length := by
      rcases G.total with h | h
      · exact h
      · have := h b hn
        omega
    refine ⟨fun i hi => ?_, fun i hi k hk j hj hne x hx hg => ?_, fun i hi => ?_, Or.inl ?_, ?_, fun i hi => ?_⟩
    · by_cases e : i = b
      · subst e
        rw [eb]
        omega
      · rw [eo i e]
        exact G.le i hi
    · by_cases e : i = b
      · subst e
        rw [eo j hne]
        rw [eb] at hk
        by_cases hk2 : k < cnt d i
        · exact G.closed i hi k hk2 j hj hne x hx hg
        · have : k = cnt d i := by omega
          subst this
          have h1 := (ahead_iff hx).mpr hg
          have h2 := hA j hj hne
          unfold A at h2
          omega
      · rw [eo i e] at hk
        have h1 := G.closed i hi k hk j hj hne x hx hg
        by_cases e2 : j = b
        · subst e2
          rw [eb]
          omega
        · rw [eo j e2]
          exact h1
    · by_cases e : i = b
      · subst e
        rw [got_snoc, if_pos rfl, eb, List.range_succ, List.map_append, ← G.turns i hi, List.map_cons, List.map_nil, hT, hs]
      · rw [got_snoc, if_neg (fun z => e (Option.some.inj z).symm), eo i e]
        exact G.turns i hi
    · rw [sumTo_cnt_snoc hn, hs, List.length_append]
      rfl
    · rw [sumTo_cnt_snoc hn, List.range_succ, List.map_append]
      refine (perm_step (f := got d 0) (y := d.length + 1) hn (fun i hi => ?_) ?_).trans ?_
      · rw [got_snoc, if_neg (fun z => hi (Option.some.inj z).symm)]
      · rw [got_snoc, if_pos rfl]
      · rw [List.map_cons, List.map_nil, hs]
        rw [← hs]
        exact List.Perm.append_right _ G.perm
    · rcases List.mem_append.mp hi with h | h
      · exact G.names i h
      · have : i = b := by simpa using h
        rw [this]
        exact hn

/-- behind a whole stretch: whose turns came -/
theorem came {n L : Nat} {p c : Nat → Nat} {d : List (Option Nat)} (O : Ok n L p c) (G : Good n p c d) (hL : d.length = L) {i k : Nat} (hi : i < n) : k < cnt d i ↔ k < c i ∧ T n p c i k ≤ L := by
  constructor
  · intro h
    refine ⟨Nat.lt_of_lt_of_le h (G.le i hi), ?_⟩
    have hm : T n p c i k ∈ got d 0 i := by
      rw [G.turns i hi]
      exact List.mem_map.mpr ⟨k, List.mem_range.mpr h, rfl⟩
    have : ∀ (d : List (Option Nat)) (t i y : Nat), y ∈ got d t i → y ≤ t + d.length := by
      intro d
      induction d with
      | nil =>
        intro t i y h
        cases h
      | cons x r ih =>
        intro t i y h
        unfold got at h
        rw [List.length_cons]
        split at h
        · rcases List.mem_cons.mp h with e | h
          · omega
          · have := ih _ _ _ h
            omega
        · have := ih _ _ _ h
          omega
    have := this d 0 i _ hm
    omega
  · rintro ⟨h1, h2⟩
    apply Nat.lt_of_not_le
    intro h3
    have hs : sumTo (cnt d) n = L := by
      rcases G.total with h | h
      · rw [h, hL]
      · have := h i hi
        omega
    have h4 : T n p c i (cnt d i) ≤ L := Nat.le_trans (T_le O h3) h2
    have h5 : sumTo (cnt d) n + 1 ≤ T n p c i (cnt d i) := by
      unfold T
      rw [sumTo_at (f := cnt d) hi]
      have : sumTo (fun j => if j = i then 0 else cnt d j) n ≤ sumTo (fun j => if j = i then 0 else A p c i (cnt d i) j) n := sumTo_le fun j hj => by
        show (if j = i then 0 else _) ≤ (if j = i then 0 else _)
        split
        · exact Nat.le_refl _
        · rename_i hne
          by_cases h0 : cnt d j = 0
          · omega
          · have hx : cnt d j - 1 < c j := by
              have := G.le j hj
              omega
            have g1 : ¬ goes (p j) (p i) (decide (i < j)) (cnt d j - 1) (cnt d i) := fun z => by
              have := G.closed j hj (cnt d j - 1) (by omega) i hi (fun e => hne e.symm) (cnt d i) (by omega) z
              omega
            have g2 := goes_total g1
            rw [flip (fun z => hne z.symm)] at g2
            have g3 := (ahead_iff hx).mpr g2
            unfold A
            omega
      omega
    omega

/-- how many turns of i come -/
def many (n L : Nat) (p c : Nat → Nat) (i : Nat) : Nat := ((List.range L).filter fun k => decide (k < c i) && decide (T n p c i k ≤ L)).length
theorem range_filter_pre {q : Nat → Bool} (h : ∀ k, q (k + 1) = true → q k = true) : ∀ L : Nat, (List.range L).filter q = List.range ((List.range L).filter q).length
  | 0 => rfl
  | L + 1 => by
    have ih := range_filter_pre h L
    rw [List.range_succ, List.filter_append]
    by_cases e : q L = true
    · have all : ∀ m, m ≤ L → q (L - m) = true := by
        intro m
        induction m with
        | zero => intro _; exact e
        | succ m im =>
          intro hm
          refine h _ ?_
          rw [show L - (m + 1) + 1 = L - m by omega]
          exact im (by omega)
      have e2 : (List.range L).filter q = List.range L := List.filter_eq_self.mpr fun k hk => by
        have h1 := List.mem_range.mp hk
        have := all (L - k) (by omega)
        rw [show L - (L - k) = k by omega] at this
        exact this
      rw [e2]
      simp [e, List.range_succ]
    · have e3 : [L].filter q = [] := by simp [e]
      rw [e3, List.append_nil]
      exact ih
theorem many_filter {n L : Nat} {p c : Nat → Nat} (O : Ok n L p c) (i : Nat) : (List.range L).filter (fun k => decide (k < c i) && decide (T n p c i k ≤ L)) = List.range (many n L p c i) :=
  range_filter_pre (q := fun k => decide (k < c i) && decide (T n p c i k ≤ L)) (fun k h => by
    simp only [Bool.and_eq_true, decide_eq_true_eq] at h ⊢
    have := T_lt O (i := i) (show k < k + 1 by omega)
    omega) L
theorem many_iff {n L : Nat} {p c : Nat → Nat} (O : Ok n L p c) {i k : Nat} : k < many n L p c i ↔ k < c i ∧ T n p c i k ≤ L := by
  rw [← List.mem_range, ← many_filter O, List.mem_filter]
  simp only [Bool.and_eq_true, decide_eq_true_eq, List.mem_range]
  constructor
  · exact fun h => h.2
  · intro h
    have := T_ge n p c i k
    exact ⟨by omega, h⟩
theorem cnt_many {n L : Nat} {p c : Nat → Nat} {d : List (Option Nat)} (O : Ok n L p c) (G : Good n p c d) (hL : d.length = L) {i : Nat} (hi : i < n) : cnt d i = many n L p c i := by
  refine Nat.le_antisymm (Nat.le_of_not_lt fun h => ?_) (Nat.le_of_not_lt fun h => ?_)
  · have := (many_iff O).mpr ((came O G hL hi).mp h)
    omega
  · have := (came O G hL hi).mpr ((many_iff O).mp h)
    omega
theorem many_promise {n L : Nat} {p c : Nat → Nat} (O : Ok n L p c) {i : Nat} (hi : i < n) : p i ≤ many n L p c i := by
  refine Nat.le_of_not_lt fun h => ?_
  have h1 := (many_iff O (i := i) (k := many n L p c i)).mpr ⟨Nat.lt_of_lt_of_le h (O.pc i hi), T_promise O hi h⟩
  omega
theorem many_le {n L : Nat} {p c : Nat → Nat} (O : Ok n L p c) (i : Nat) : many n L p c i ≤ L := by
  refine Nat.le_of_not_lt fun h => ?_
  have h1 := (many_iff O).mp h
  have := T_ge n p c i L
  omega

/-- one guest more behind all others -/
theorem more_T {n : Nat} {p c p' c' : Nat → Nat} (hp : ∀ j, j < n → p' j = p j) (hc : ∀ j, j < n → c' j = c j) {i k : Nat} (hi : i < n) : T n p c i k ≤ T (n + 1) p' c' i k := by
  unfold T
  have e : sumTo (fun j => if j = i then 0 else A p' c' i k j) n = sumTo (fun j => if j = i then 0 else A p c i k j) n := sumTo_congr fun j hj => by
    show (if j = i then 0 else _) = (if j = i then 0 else _)
    split
    · rfl
    · unfold A
      rw [hp i hi, hp j hj, hc j hj]
  show _ ≤ k + 1 + (sumTo (fun j => if j = i then 0 else A p' c' i k j) n + _)
  rw [e]
  omega
theorem more_many {n L : Nat} {p c p' c' : Nat → Nat} (O : Ok n L p c) (O' : Ok (n + 1) L p' c') (hp : ∀ j, j < n → p' j = p j) (hc : ∀ j, j < n → c' j = c j) {i : Nat} (hi : i < n) : many (n + 1) L p' c' i ≤ many n L p c i := by
  refine Nat.le_of_not_lt fun h => ?_
  have h1 := (many_iff O').mp h
  have h2 := more_T (k := many n L p c i) hp hc hi
  have h3 := (many_iff O (i := i) (k := many n L p c i)).mpr ⟨by rw [← hc i hi]; exact h1.1, by omega⟩
  omega

/-- a greater promise -/
theorem div_anti {a b d : Nat} (hb : 0 < b) (h : b ≤ d) : a / d ≤ a / b := Nat.div_le_div_left h hb
theorem ceil_anti {a b d : Nat} (hb : 0 < b) (h : b ≤ d) : (a + d - 1) / d ≤ (a + b - 1) / b := by
  have hd : 0 < d := by omega
  refine Nat.le_of_not_lt fun h1 => ?_
  have h2 := (div_lt_ceil hd).mp h1
  have h3 : ¬ ((a + b - 1) / b * b < a) := fun z => by
    have := (div_lt_ceil hb).mpr z
    omega
  have h4 : (a + b - 1) / b * b ≤ (a + b - 1) / b * d := Nat.mul_le_mul_left _ h
  omega
theorem greater_A {p c p' c' : Nat → Nat} {i : Nat} (hp : ∀ j, j ≠ i → p' j = p j) (hc : ∀ j, j ≠ i → c' j = c j) (hpi : p i ≤ p' i) {j k : Nat} (hj : j ≠ i) (hpc : p j ≤ c j) (hk : k < p' i) : A p' c' i k j ≤ A p c i k j := by
  unfold A ahead
  rw [if_pos hk, hp j hj]
  by_cases h : k < p i
  · rw [if_pos h]
    unfold aheadP
    have h0 : 0 < p i := by omega
    have m1 := div_anti (a := k * p j) h0 hpi
    have m2 := ceil_anti (a := k * p j) h0 hpi
    split
    · omega
    · omega
  · rw [if_neg h]
    unfold aheadP
    refine Nat.le_trans (Nat.min_le_left _ _) ?_
    rw [Nat.le_min]
    exact ⟨hpc, Nat.le_max_left _ _⟩
theorem greater_T {n L : Nat} {p c p' c' : Nat → Nat} {i : Nat} (O : Ok n L p c) (hp : ∀ j, j ≠ i → p' j = p j) (hc : ∀ j, j ≠ i → c' j = c j) (hpi : p i ≤ p' i) {k : Nat} (hk : k < p' i) : T n p' c' i k ≤ T n p c i k := by
  unfold T
  have : sumTo (fun j => if j = i then 0 else A p' c' i k j) n ≤ sumTo (fun j => if j = i then 0 else A p c i k j) n := sumTo_le fun j hj => by
    show (if j = i then 0 else _) ≤ (if j = i then 0 else _)
    split
    · exact Nat.le_refl _
    · rename_i h
      exact greater_A hp hc hpi h (O.pc j hj) hk
  omega
theorem greater_many {n L : Nat} {p c p' c' : Nat → Nat} {i : Nat} (O : Ok n L p c) (O' : Ok n L p' c') (hp : ∀ j, j ≠ i → p' j = p j) (hc : ∀ j, j ≠ i → c' j = c j) (hpi : p i ≤ p' i) (hci : c i ≤ c' i) : min (many n L p c i) (p' i) ≤ many n L p' c' i := by
  refine Nat.le_of_not_lt fun h => ?_
  have h0 : many n L p' c' i < many n L p c i := by omega
  have h1 := (many_iff O).mp h0
  have h2 := greater_T O hp hc hpi (k := many n L p' c' i) (by omega)
  have h3 := (many_iff O' (i := i) (k := many n L p' c' i)).mpr ⟨by omega, by omega⟩
  omega

/-- of two guests alike the first has its turns ahead: z is the last one, n its place, f the first -/
theorem ahead_e {sp tp tc k : Nat} : ahead sp tp tc false k ≤ ahead sp tp tc true k := by
  unfold ahead
  split
  · rename_i h
    unfold aheadP
    have h0 : 0 < sp := by omega
    have : (k * tp + sp - 1) / sp ≤ k * tp / sp + 1 := by
      refine Nat.le_of_not_lt fun h1 => ?_
      have h2 := (div_lt_ceil h0).mp h1
      have h3 : ¬ (k * tp / sp + 1 < k * tp / sp + 1) := Nat.lt_irrefl _
      have h4 : k * tp / sp + 1 < k * tp / sp + 1 := by
        rw [lt_div_succ h0]
        omega
      exact h3 h4
    simp only [Bool.false_eq_true, if_false, if_true]
    omega
  · simp only [Bool.false_eq_true, if_false, if_true]
    omega
theorem ahead_self {sp sc k : Nat} (h : k < sc) : ahead sp sp sc false k < ahead sp sp sc true k := by
  have h1 : ¬ (k < ahead sp sp sc false k) := fun z => by
    have := (ahead_iff h).mp z
    unfold goes at this
    simp only [Bool.false_eq_true, and_false, or_false, Nat.lt_irrefl] at this
    omega
  have h2 : k < ahead sp sp sc true k := (ahead_iff h).mpr (by
    unfold goes
    by_cases hk : k < sp
    · exact Or.inl ⟨hk, Or.inr (Or.inr ⟨rfl, rfl⟩)⟩
    · exact Or.inr ⟨by omega, by omega, Or.inr ⟨rfl, rfl⟩⟩)
  omega
theorem order_T {n : Nat} {p c : Nat → Nat} {f k : Nat} (hf : f < n) (hp : p n = p f) (hc : c n = c f) (hk : k < c f) : T (n + 1) p c f k < T (n + 1) p c n k := by
  unfold T
  show k + 1 + (sumTo (fun j => if j = f then 0 else A p c f k j) n + (if n = f then 0 else A p c f k n)) < k + 1 + (sumTo (fun j => if j = n then 0 else A p c n k j) n + (if n = n then 0 else A p c n k n))
  rw [if_neg (show ¬ n = f by omega), if_pos rfl]
  have e1 : sumTo (fun j => if j = n then 0 else A p c n k j) n = sumTo (fun j => A p c n k j) n := sumTo_congr fun j hj => by
    show (if j = n then 0 else _) = _
    rw [if_neg (by omega)]
  rw [e1, sumTo_at (f := fun j => A p c n k j) hf]
  have h1 : sumTo (fun j => if j = f then 0 else A p c f k j) n ≤ sumTo (fun j => if j = f then 0 else A p c n k j) n := sumTo_le fun j hj => by
    show (if j = f then 0 else _) ≤ (if j = f then 0 else _)
    split
    · exact Nat.le_refl _
    · unfold A
      rw [hp, decide_eq_true hj]
      cases decide (j < f)
      · exact ahead_e
      · exact Nat.le_refl _
  have h2 : A p c f k n < A p c n k f := by
    unfold A
    rw [hp, hc, decide_eq_true hf, decide_eq_false (by omega)]
    exact ahead_self hk
  show _ < k + 1 + (A p c n k f + _ + 0)
  omega
theorem order_many {n L : Nat} {p c : Nat → Nat} {f : Nat} (O : Ok (n + 1) L p c) (hf : f < n) (hp : p n = p f) (hc : c n = c f) : many (n + 1) L p c n ≤ many (n + 1) L p c f := by
  refine Nat.le_of_not_lt fun h => ?_
  have h1 := (many_iff O).mp h
  have h2 := order_T (k := many (n + 1) L p c f) hf hp hc (by omega)
  have h3 := (many_iff O (i := f) (k := many (n + 1) L p c f)).mpr ⟨by omega, by omega⟩
  omega
end Deal
/-! The dealing when only some are ready: who is always ready has its turns no later than T. Plain Lean. -/
namespace Deal
def BestR (n : Nat) (p c u : Nat → Nat) (R : Nat → Prop) : Option Nat → Prop
  | none => ∀ j, j < n → R j → c j ≤ u j
  | some b => b < n ∧ R b ∧ u b < c b ∧ ∀ j, j < n → R j → j ≠ b → u j < c j → goes (p j) (p b) (decide (b < j)) (u j) (u b)
theorem best_all {n : Nat} {p c u : Nat → Nat} {R : Nat → Prop} {r : Option Nat} (h : BestR n p c u R r) (a : ∀ j, j < n → R j) : Best n p c u r := by
  cases r with
  | none => exact fun j hj => h j hj (a j hj)
  | some b => exact ⟨h.1, h.2.2.1, fun j hj => h.2.2.2 j hj (a j hj)⟩
theorem best_one {n : Nat} {p c u : Nat → Nat} {R : Nat → Prop} {r r' : Option Nat} (h : BestR n p c u R r) (h' : BestR n p c u R r') : r = r' := by
  cases r with
  | none =>
    cases r' with
    | none => rfl
    | some b =>
      have := h b h'.1 h'.2.1
      have := h'.2.2.1
      omega
  | some a =>
    cases r' with
    | none =>
      have := h' a h.1 h.2.1
      have := h.2.2.1
      omega
    | some b =>
      by_cases e : a = b
      · rw [e]
      · have h1 := h.2.2.2 b h'.1 h'.2.1 (fun z => e z.symm) h'.2.2.1
        have h2 := h'.2.2.2 a h.1 h.2.1 e h.2.2.1
        have h3 := goes_asymm h1
        rw [flip e] at h3
        exact absurd h2 h3
/-- d is dealt, at each turn among those that R names -/
def Run (n : Nat) (p c : Nat → Nat) (R : Nat → Nat → Prop) (d : List (Option Nat)) : Prop := ∀ t x, d[t]? = some x → BestR n p c (cnt (d.take t)) (R t) x
theorem run_nil (n : Nat) (p c : Nat → Nat) (R : Nat → Nat → Prop) : Run n p c R [] := fun t x h => by simp at h
theorem run_snoc {n : Nat} {p c : Nat → Nat} {R : Nat → Nat → Prop} {d : List (Option Nat)} (h : Run n p c R d) {x : Option Nat} (hx : BestR n p c (cnt d) (R d.length) x) : Run n p c R (d ++ [x]) := fun t y hy => by
  by_cases ht : t < d.length
  · rw [List.getElem?_append_left ht] at hy
    rw [List.take_append_of_le_length (Nat.le_of_lt ht)]
    exact h t y hy
  · rw [List.getElem?_append_right (by omega)] at hy
    have ht2 : t = d.length := by
      by_cases z : t - d.length = 0
      · omega
      · rw [List.getElem?_eq_none (by simp; omega)] at hy
        cases hy
    subst ht2
    simp at hy
    subst hy
    rw [List.take_append_of_le_length (Nat.le_refl _), List.take_length]
    exact hx
theorem run_take {n : Nat} {p c : Nat → Nat} {R : Nat → Nat → Prop} {d : List (Option Nat)} (h : Run n p c R d) (s : Nat) : Run n p c R (d.take s) := fun t x hx => by
  have ht : t < s := by
    have h1 := (List.getElem?_eq_some_iff.mp hx).1
    rw [List.length_take] at h1
    omega
  rw [List.getElem?_take_of_lt ht] at hx
  rw [List.take_take, Nat.min_eq_left (Nat.le_of_lt ht)]
  exact h t x hx
theorem run_one {n : Nat} {p c : Nat → Nat} {R : Nat → Nat → Prop} : ∀ {d d' : List (Option Nat)}, Run n p c R d → Run n p c R d' → d.length = d'.length → d = d' := by
  intro d d' h h' hl
  have key : ∀ s, s ≤ d.length → d.take s = d'.take s := by
    intro s
    induction s with
    | zero => intro _; simp
    | succ s ih =>
      intro hs
      have e := ih (by omega)
      have h1 : d[s]? = some d[s] := List.getElem?_eq_getElem (by omega)
      have h2 : d'[s]? = some d'[s] := List.getElem?_eq_getElem (by omega)
      have b1 := h s _ h1
      have b2 := h' s _ h2
      rw [← e] at b2
      have := best_one b1 b2
      rw [List.take_add_one, List.take_add_one, h1, h2, e, this]
  have := key d.length (Nat.le_refl _)
  rw [List.take_length, hl, List.take_length] at this
  exact this
theorem run_good {n : Nat} {p c : Nat → Nat} {R : Nat → Nat → Prop} {d : List (Option Nat)} (pc : ∀ i, i < n → p i ≤ c i) (h : Run n p c R d) (a : ∀ t j, j < n → R t j) : Good n p c d := by
  have key : ∀ s, s ≤ d.length → Good n p c (d.take s) := by
    intro s
    induction s with
    | zero => intro _; simpa using good_nil n p c
    | succ s ih =>
      intro hs
      have h1 : d[s]? = some d[s] := List.getElem?_eq_getElem (by omega)
      have b1 := best_all (h s _ h1) (a s)
      have := good_snoc pc (ih (by omega)) b1
      rw [List.take_add_one, h1]
      exact this
  have := key d.length (Nat.le_refl _)
  rwa [List.take_length] at this
theorem sumTo_one {f g : Nat → Nat} {b : Nat} : ∀ {n : Nat}, b < n → g b = f b + 1 → (∀ j, j ≠ b → g j = f j) → sumTo g n = sumTo f n + 1 := by
  intro n hb h1 h2
  have e1 := sumTo_at (f := g) hb
  have e2 := sumTo_at (f := f) hb
  have e3 : sumTo (fun j => if j = b then 0 else g j) n = sumTo (fun j => if j = b then 0 else f j) n := sumTo_congr fun j _ => by
    by_cases e : j = b
    · simp [e]
    · simp [e, h2 j e]
  omega
theorem run_le {n : Nat} {p c : Nat → Nat} {R : Nat → Nat → Prop} {d : List (Option Nat)} (h : Run n p c R d) : ∀ s, s ≤ d.length → ∀ j, j < n → cnt (d.take s) j ≤ c j := by
  intro s
  induction s with
  | zero => intro _ j _; simp [cnt, got]
  | succ s ih =>
    intro hs j hj
    have h1 : d[s]? = some d[s] := List.getElem?_eq_getElem (by omega)
    have hb := h s _ h1
    have := ih (by omega) j hj
    rw [List.take_add_one, h1]
    show cnt (d.take s ++ [d[s]]) j ≤ c j
    rw [cnt_snoc]
    split
    · rename_i e
      rw [e] at hb
      have := hb.2.2.1
      omega
    · exact this
theorem run_names {n : Nat} {p c : Nat → Nat} {R : Nat → Nat → Prop} {d : List (Option Nat)} (h : Run n p c R d) {i : Nat} (hi : some i ∈ d) : i < n := by
  obtain ⟨t, ht, e⟩ := List.mem_iff_getElem.mp hi
  have h1 : d[t]? = some (some i) := by rw [List.getElem?_eq_getElem ht, e]
  exact (h t _ h1).1
/-- while i, always ready, has at most k turns, every other one stays within what goes ahead -/
theorem run_bound {n : Nat} {p c : Nat → Nat} {R : Nat → Nat → Prop} {d : List (Option Nat)} (pc : ∀ i, i < n → p i ≤ c i) (h : Run n p c R d) {i k : Nat} (hi : i < n) (a : ∀ t, R t i) (hk : k < c i) :
    ∀ s, s ≤ d.length → cnt (d.take s) i ≤ k → (∀ j, j < n → j ≠ i → cnt (d.take s) j ≤ A p c i k j) ∧ sumTo (cnt (d.take s)) n = s := by
  intro s
  induction s with
  | zero =>
    intro _ _
    refine ⟨fun j _ _ => by simp [cnt, got], ?_⟩
    have : sumTo (cnt (d.take 0)) n = sumTo (fun _ => 0) n := sumTo_congr fun j _ => by simp [cnt, got]
    rw [this, sumTo_zero]
  | succ s ih =>
    intro hs hc
    have h1 : d[s]? = some d[s] := List.getElem?_eq_getElem (by omega)
    have e : d.take (s + 1) = d.take s ++ [d[s]] := by rw [List.take_add_one, h1]; rfl
    have hb := h s _ h1
    rw [e, cnt_snoc] at hc
    have hc0 : cnt (d.take s) i ≤ k := by
      split at hc <;> omega
    obtain ⟨i1, i2⟩ := ih (by omega) hc0
    rw [e]
    cases hx : d[s] with
    | none =>
      rw [hx] at hb
      have := hb i hi (a s)
      omega
    | some b =>
      rw [hx] at hb
      obtain ⟨hbn, hbR, hbc, hbm⟩ := hb
      refine ⟨fun j hj hne => ?_, ?_⟩
      · rw [cnt_snoc]
        by_cases ej : b = j
        · subst ej
          rw [if_pos rfl]
          have g := hbm i hi (a s) (fun z => hne z.symm) (by omega)
          have g2 := (ahead_iff (sp := p i) (tp := p b) (tc := c b) hbc).mpr g
          have g3 := ahead_mono (sp := p i) (tp := p b) (tc := c b) (e := decide (b < i)) (pc b hbn) hc0
          show _ ≤ ahead (p i) (p b) (c b) (decide (b < i)) k
          omega
        · rw [if_neg (fun z => ej (Option.some.inj z))]
          exact i1 j hj hne
      · rw [sumTo_one (f := cnt (d.take s)) (b := b) hbn, i2]
        · rw [cnt_snoc, if_pos rfl]
        · intro j hj
          rw [cnt_snoc, if_neg (fun z => hj (Option.some.inj z).symm)]
theorem run_latest {n : Nat} {p c : Nat → Nat} {R : Nat → Nat → Prop} {d : List (Option Nat)} (pc : ∀ i, i < n → p i ≤ c i) (h : Run n p c R d) {i k : Nat} (hi : i < n) (a : ∀ t, R t i) (hk : k < c i) (hT : T n p c i k ≤ d.length) : k < cnt (d.take (T n p c i k)) i := by
  refine Nat.lt_of_not_le fun hle => ?_
  obtain ⟨b1, b2⟩ := run_bound pc h hi a hk _ hT hle
  have e1 := sumTo_at (f := cnt (d.take (T n p c i k))) hi
  have e2 : sumTo (fun j => if j = i then 0 else cnt (d.take (T n p c i k)) j) n ≤ sumTo (fun j => if j = i then 0 else A p c i k j) n := sumTo_le fun j hj => by
    by_cases e : j = i
    · simp [e]
    · simp only [if_neg e]
      exact b1 j hj e
  have e3 : T n p c i k = k + 1 + sumTo (fun j => if j = i then 0 else A p c i k j) n := rfl
  omega
theorem got_le : ∀ (d : List (Option Nat)) (t i x : Nat), x ∈ got d t i → x ≤ t + d.length
  | [], _, _, _, h => by simp [got] at h
  | y :: d, t, i, x, h => by
    have h : x ∈ (if y = some i then (t + 1) :: got d (t + 1) i else got d (t + 1) i) := h
    rw [List.length_cons]
    split at h
    · rcases List.mem_cons.mp h with e | e
      · omega
      · have := got_le d (t + 1) i x e
        omega
    · have := got_le d (t + 1) i x h
      omega
theorem got_ge : ∀ (d : List (Option Nat)) (t i x : Nat), x ∈ got d t i → t < x
  | [], _, _, _, h => by simp [got] at h
  | y :: d, t, i, x, h => by
    have h : x ∈ (if y = some i then (t + 1) :: got d (t + 1) i else got d (t + 1) i) := h
    split at h
    · rcases List.mem_cons.mp h with e | e
      · omega
      · have := got_ge d (t + 1) i x e
        omega
    · have := got_ge d (t + 1) i x h
      omega
theorem got_take {d : List (Option Nat)} {t i k x : Nat} (h : k < cnt (d.take t) i) (hx : (got d 0 i)[k]? = some x) : x ≤ t := by
  have e : d = d.take t ++ d.drop t := (List.take_append_drop t d).symm
  have e2 : got d 0 i = got (d.take t) 0 i ++ got (d.drop t) (0 + (d.take t).length) i := by
    rw [← got_app, ← e]
  rw [e2, List.getElem?_append_left h] at hx
  have := got_le _ _ _ _ (List.mem_of_getElem? hx)
  rw [List.length_take] at this
  omega
theorem cnt_take {d : List (Option Nat)} {t i : Nat} : cnt (d.take t) i ≤ cnt d i := by
  have e : d = d.take t ++ d.drop t := (List.take_append_drop t d).symm
  have e2 : got d 0 i = got (d.take t) 0 i ++ got (d.drop t) (0 + (d.take t).length) i := by
    rw [← got_app, ← e]
  unfold cnt
  rw [e2, List.length_append]
  omega
/-- THE LAW: whoever is always ready has every turn that `many` counts, and none later than T -/
theorem run_law {n L : Nat} {p c : Nat → Nat} {R : Nat → Nat → Prop} {d : List (Option Nat)} (O : Ok n L p c) (h : Run n p c R d) (hL : d.length = L) {i : Nat} (hi : i < n) (a : ∀ t, R t i) :
    many n L p c i ≤ cnt d i ∧ ∀ k, k < many n L p c i → ∃ x, (got d 0 i)[k]? = some x ∧ x ≤ T n p c i k := by
  have key : ∀ k, k < many n L p c i → k < cnt (d.take (T n p c i k)) i := fun k hk => by
    obtain ⟨h1, h2⟩ := (many_iff O).mp hk
    exact run_latest O.pc h hi a h1 (by omega)
  refine ⟨?_, fun k hk => ?_⟩
  · cases hm : many n L p c i with
    | zero => omega
    | succ m =>
      have h1 := key m (by omega)
      have h2 := cnt_take (d := d) (t := T n p c i m) (i := i)
      omega
  · have h1 := key k hk
    have h2 := cnt_take (d := d) (t := T n p c i k) (i := i)
    have h3 : k < (got d 0 i).length := by
      unfold cnt at h1 h2
      omega
    exact ⟨_, List.getElem?_eq_getElem h3, got_take h1 (List.getElem?_eq_getElem h3)⟩
end Deal
/-! Y: fields, methods, new instances, locked statements: the readings' steps. -/
namespace Y
open PySem PySem.Spec PyProof.Rows L2
section
variable {X : Cx} {K : PySem.W.Frag} {o e value : Expr} {f m : Str} {pos pos' tpos : Pos} {ta tv : TE}
theorem pe_fldK (he : PE X e ta) (hb : attributeBase e f X.env (eval e X.env) = eval e X.env := by rfl) (hK : X.K = K := by rfl) : PE X (.Attribute e f pos) (tFld K ta f) := by subst hK; exact pe_fld he hb
theorem ps_fldK (ha : PE X o ta) (hv : PE X value tv) (hs : swapsWith value (some (.Attribute o f pos')) pos.line X.env = pure false := by rfl) (hK : X.K = K := by rfl) : PS X (.Assign [.Attribute o f pos'] value pos) (sFld K ta tv f) := by subst hK; exact ps_fld ha hv hs
theorem ps_fldaugK {op : Operator} {rd : V → V → Hp → VK → Prop} (ha : PE X o ta) (hv : PE X value tv) (hop : InOp X op rd) (hK : X.K = K := by rfl) : PS X (.AugAssign (.Attribute o f tpos) op value pos) (sFldAug K ta tv rd f) := by subst hK; exact ps_fldaug ha hv hop
def rFld (K : PySem.W.Frag) (f : Str) : V → Hp → VK → Prop := fun x H Q => ∃ a C dx fs v, x = .ref a ∧ H a = some (.ins C dx fs) ∧ Cls K C ∧ NoAttr K C f ∧ fs.lookup f = some v ∧ Q v H
def rSetF (K : PySem.W.Frag) (f : Str) : V → V → Hp → (Hp → Prop) → Prop := fun x y H R => ∃ a C dx fs, x = .ref a ∧ H a = some (.ins C dx fs) ∧ Cls K C ∧ NoAttr K C f ∧ fs.length < 1000 ∧ R (upd H a (.ins C dx (putF f y fs)))
def rAugF (K : PySem.W.Frag) (f : Str) (tv : TE) (rd : V → V → Hp → VK → Prop) (σ : L2.St) (R : Hp → Prop) : V → Hp → Prop := fun x H1 => ∃ a C dx fs v, x = .ref a ∧ H1 a = some (.ins C dx fs) ∧ Cls K C ∧ NoAttr K C f ∧ fs.lookup f = some v ∧
  tv σ H1 fun y H2 => rd v y H2 fun z H3 => ∃ dx' fs', H3 a = some (.ins C dx' fs') ∧ fs'.length < 1000 ∧ R (upd H3 a (.ins C dx' (putF f z fs')))
def rMeth (C : Addr) (m : Str) : V → Hp → Prop → Prop := fun x H R => ∃ a dx fs, x = .ref a ∧ H a = some (.ins C dx fs) ∧ fs.lookup m = none ∧ R
/-- o.f as one of several targets -/
def gFld (K : PySem.W.Frag) (ta : TE) (f : Str) : TG := fun y σ H R => ta σ H fun x H2 => rSetF K f x y H2 fun H3 => R σ H3
theorem pg_fld (ha : PE X o ta) : PG X (.Attribute o f pos) (gFld X.K ta f) := by
  refine ⟨fun pins s σ H v u Q I r h => ?_⟩
  rw [assign_Attribute]
  refine wpAny_bind (wpAny_holding (thn (ha.run pins s σ H _ I h) fun ov s2 ⟨x, H2, I2, rx, a, C, dx, fs, ex, ea, c, n, l, q2⟩ => ?_))
  subst ex
  obtain rfl : ov = Value.ref a := rx
  refine wpAny_bind (wpAny_standAt (wpAny_bind (wpAny_holding ?_)))
  exact setattr_ok I2 ea c n l r fun s3 I3 => wpAny_release ⟨σ, _, I3, q2⟩
theorem pg_fldK (ha : PE X o ta) (hK : X.K = K := by rfl) : PG X (.Attribute o f pos) (gFld K ta f) := by subst hK; exact pg_fld ha
end
section
variable {K : PySem.W.Frag} {f m : Str} {ta tv : TE} {σ : L2.St} {H : Hp} {Q : VK} {a C dx : Addr} {fs : List (Str × V)} {v y : V} {nx : L2.St → Hp → Prop} {rt : VK} {bk ct : L2.St → Hp → Prop} {R : Hp → Prop}
theorem y_fld (q : ta σ H fun x H1 => rFld K f x H1 Q) : tFld K ta f σ H Q := q
theorem y_getF (h : H a = some (.ins C dx fs)) (c : Cls K C) (n : NoAttr K C f) (l : fs.lookup f = some v) (q : Q v H) : rFld K f (.ref a) H Q := ⟨a, C, dx, fs, v, rfl, h, c, n, l, q⟩
theorem y_sfld (q : tv σ H fun y H1 => ta σ H1 fun x H2 => rSetF K f x y H2 fun H3 => nx σ H3) : sFld K ta tv f ⟨nx, rt, bk, ct⟩ σ H := q
theorem y_gfld {R : L2.St → Hp → Prop} (q : ta σ H fun x H2 => rSetF K f x y H2 fun H3 => R σ H3) : gFld K ta f y σ H R := q
theorem y_setF (h : H a = some (.ins C dx fs)) (c : Cls K C) (n : NoAttr K C f) (hl : fs.length < 1000) (q : R (upd H a (.ins C dx (putF f y fs)))) : rSetF K f (.ref a) y H R := ⟨a, C, dx, fs, rfl, h, c, n, hl, q⟩
theorem y_sfldaug {rd : V → V → Hp → VK → Prop} (q : ta σ H fun x H1 => rAugF K f tv rd σ (fun H3 => nx σ H3) x H1) : sFldAug K ta tv rd f ⟨nx, rt, bk, ct⟩ σ H := q
theorem y_augF {rd : V → V → Hp → VK → Prop} (h : H a = some (.ins C dx fs)) (c : Cls K C) (n : NoAttr K C f) (l : fs.lookup f = some v)
    (q : tv σ H fun y H2 => rd v y H2 fun z H3 => ∃ dx' fs', H3 a = some (.ins C dx' fs') ∧ fs'.length < 1000 ∧ R (upd H3 a (.ins C dx' (putF f z fs')))) : rAugF K f tv rd σ R (.ref a) H := ⟨a, C, dx, fs, v, rfl, h, c, n, l, q⟩
theorem y_putF {z : V} (h : H a = some (.ins C dx fs)) (hl : fs.length < 1000) (q : R (upd H a (.ins C dx (putF f z fs)))) : ∃ dx' fs', H a = some (.ins C dx' fs') ∧ fs'.length < 1000 ∧ R (upd H a (.ins C dx' (putF f z fs'))) := ⟨dx, fs, h, hl, q⟩
theorem y_meth {sp : Sp} {dvs : List V} {E : XK} {t : TA} (q : ta σ H fun x H1 => rMeth C m x H1 (t σ H1 fun vs H2 => sp (x :: (vs ++ dvs)) H2 Q E)) : tMeth C m sp dvs E ta t σ H Q := q
theorem y_onM {R : Prop} (h : H a = some (.ins C dx fs)) (l : fs.lookup m = none) (q : R) : rMeth C m (.ref a) H R := ⟨a, dx, fs, rfl, h, l, q⟩
theorem y_make {sp : Sp} {dvs : List V} {E : XK} {t : TA} (q : t σ H fun vs H1 => ∀ x dx, H1 x = none → H1 dx = none → dx ≠ x → sp (.ref x :: (vs ++ dvs)) (upd (upd H1 dx (.own x)) x (.ins C dx [])) (fun v H2 => v = .non ∧ Q (.ref x) H2) E) : tMake C sp dvs E t σ H Q := q
theorem y_makeK {n m : Nat} {sp : Sp} {gV : List V → List V → List V} {E : XK} {t tk : TA} (q : t σ H fun vs H1 => tk σ H1 fun zs H2 => vs.length = n ∧ zs.length = m ∧ ∀ x dx, H2 x = none → H2 dx = none → dx ≠ x → sp (gV (.ref x :: vs) zs) (upd (upd H2 dx (.own x)) x (.ins C dx [])) (fun v H3 => v = .non ∧ Q (.ref x) H3) E) : tMakeK C n m sp gV E t tk σ H Q := q
theorem y_lock {t : TS} {d : Addr} {u : HO} (h : H d = some u) (mu : Mut (some u)) (q : ∀ od, t ⟨fun σ' H' => H' d = some (.frz od u) ∧ nx σ' (upd H' d u), fun v H' => H' d = some (.frz od u) ∧ rt v (upd H' d u), fun σ' H' => H' d = some (.frz od u) ∧ bk σ' (upd H' d u), fun σ' H' => H' d = some (.frz od u) ∧ ct σ' (upd H' d u)⟩ σ (upd H d (.frz od u))) : tLock t ⟨nx, rt, bk, ct⟩ σ H := ⟨d, u, h, mu, q⟩
theorem y_lockE {t : TE} {d : Addr} {u : HO} (h : H d = some u) (mu : Mut (some u)) (q : ∀ od, t σ (upd H d (.frz od u)) fun v H' => H' d = some (.frz od u) ∧ Q v (upd H' d u)) : tLockE t σ H Q := ⟨d, u, h, mu, q⟩
theorem lock_same {H H' : Hp} {d : Addr} {u : HO} {od : Obj} (h : H d = some u) (e : Same (upd H d (.frz od u)) H') : Same H (upd H' d u) := fun b w hb => by
  by_cases z : b = d
  · rw [z, upd_same, ← h, ← z]
    exact hb
  · rw [upd_ne z]
    exact e b w (by rw [upd_ne z]; exact hb)
end
theorem lk_1 {f : Str} {v : V} {r : List (Str × V)} : ((f, v) :: r).lookup f = some v := by simp [List.lookup]
theorem lk_2 {f g : Str} {v : V} {r : List (Str × V)} (h : (f == g) = false) : ((g, v) :: r).lookup f = r.lookup f := by simp [List.lookup, h]
theorem pf_1 {f : Str} {v w : V} {r : List (Str × V)} : putF f v ((f, w) :: r) = (f, v) :: r := by simp [putF]
theorem pf_2 {f g : Str} {v w : V} {r : List (Str × V)} (h : (g == f) = false) : putF f v ((g, w) :: r) = (g, w) :: putF f v r := by
  have : ¬ g = f := by simpa using h
  simp [putF, this]
end Y
/-! Y: own exceptions whose base is an own class without __init__. -/
namespace Y
open PySem PySem.Spec PyProof.Rows L2
/-- an own exception class that has no __init__ of its own: the built-in's is found -/
structure OBase (K : PySem.W.Frag) (B : Addr) (id : String) : Prop where
  rd : PySem.W.readsIn K B (.type "type") = true
  ga : PySem.W.specialIn K (.ref B) "__getattribute__" = some (some (.builtin "type.__getattribute__"))
  ini : PySem.W.findCls K (.ref B) (.type "type") "__init__" = some (.val (.builtin id))
section
variable {X : Cx} {e : Expr} {es : List Expr} {ta : TA} {x : Str} {B : Addr} {p1 p2 pos : Pos}
theorem pe_obinit {pl : Sem Bool} (O : OBase X.K B "ValueError.__init__") (hm : X.mg x = some (.ref B)) (ha : PA X (e :: es) ta) (hg : Gl X x := by rfl) (hdb : (x == ("__debug__" : Str)) = false := by decide)
    (hc : eval (.Call (.Attribute (.Name x p1) "__init__" p2) (e :: es) [] pos) X.env = (do
      let ov ← eval (.Name x p1) X.env
      standAt p2.atName
      let (f, first) ← holding [ov] (getMethod ov "__init__" pl)
      callWith pos f first (backTo pos (starEach (e :: es) X.env)) (backToKw pos (keywordEach [] X.env))) := by rfl)
    (he : starEach (e :: es) X.env = (false, eval e X.env) :: starEach es X.env := by rfl) (hpl : (backTo pos (starEach es X.env)).any (·.1) = false := by rfl) :
    PE X (.Call (.Attribute (.Name x p1) "__init__" p2) (e :: es) [] pos) (tVeI X.K ta) := by
  refine ⟨fun pins s σ H Q I h => ?_⟩
  refine PySem.W.methodCall_KW (ld_glob I hg hm ?_ hdb) hc
  refine PySem.W.method_cls I.kIn O.ga (PySem.W.cls_value I.kIn O.rd O.ini (by decide +kernel) ?_)
  show wpAny _ _ (callWith pos (Value.builtin "ValueError.__init__") [] (backTo pos (starEach (e :: es) X.env)) []) _ _ _
  have I' := I.tok (s.toks + 1)
  refine PyProof.Rows.callWith_method1 (thn (ha.run pos pins _ σ H _ I' h) fun us s1 hus => ?_) he hpl
  obtain ⟨vs, H1, I1, r1, a, C, ws, rfl, hl, T, ea, q⟩ := hus
  cases r1 with
  | cons ra rw' =>
    obtain rfl := (show _ = Value.ref a from ra)
    exact oinit_ok T I1 ea (Nat.le_trans (Nat.le_of_eq (Paired.length rw').symm) (Nat.le_trans hl (by decide))) fun s' J => ⟨.non, H1, J, rfl, q⟩
end
section
variable {X : Cx} {CX : CXT} {k : Nat} {C f : Addr} {m : Str} {fd : FuncData} {ps : List Str} {sp : Sp} {dvs : List V} {ds : List Value} {E : L2.St → XK} {o e : Expr} {es : List Expr} {ta : TE} {t : TA} {apos pos : Pos}
/-- o.m(e, ..), what is raised is wished for at the caller's slots -/
def tMethS (C : Addr) (m : Str) (sp : Sp) (dvs : List V) (E : L2.St → XK) (ta : TE) (t : TA) : TE := fun σ H Q => ta σ H fun x H1 => rMeth C m x H1 (t σ H1 fun vs H2 => sp (x :: (vs ++ dvs)) H2 Q (E σ))
theorem pe_methSD {pl : Sem Bool} (he : PE X o ta) (c : Cls X.K C) (hm : Meth X.K C m f) (F : FnOk X.prog X.w X.K X.mg X.base CX k f fd ps sp) (hr : Room k X.A) (hb : Binds X.K fd ps ds) (hd : Vals dvs ds) (hx : ∀ σ, PassesAt CX X σ (E σ)) (ha : PA X (e :: es) t)
    (hst : starEach (e :: es) X.env = (false, eval e X.env) :: starEach es X.env := by rfl) (hpl : (backTo pos (starEach es X.env)).any (·.1) = false := by rfl)
    (ht : eval (.Call (.Attribute o m apos) (e :: es) [] pos) X.env = (do
      let ov ← eval o X.env
      standAt apos.atName
      let (f, first) ← holding [ov] (getMethod ov m pl)
      callWith pos f first (backTo pos (starEach (e :: es) X.env)) (backToKw pos (keywordEach [] X.env))) := by rfl) : PE X (.Call (.Attribute o m apos) (e :: es) [] pos) (tMethS C m sp dvs E ta t) := by
  refine ⟨fun pins s σ H Q I h => ?_⟩
  refine PySem.W.methodCall_KW (pl := pl) (thn (he.run pins s σ H _ I h) fun u s1 hu1 => ?_) ht
  obtain ⟨x, H1, I1, rx, a, dx, fs, rfl, ea, l, q⟩ := hu1
  obtain rfl : u = Value.ref a := rx
  refine getmeth_ok I1 ea c hm l (PySem.W.callWith_K (first := [.ref a]) (h₀ := X.base) I.ok.mod.kin hm.kp (thn (ha.run pos pins s1 σ H1 _ I1 q) fun us s2 hu2 => ?_) hst hpl)
  obtain ⟨vs, H2, I2, r, q2⟩ := hu2
  exact ⟨I2.kIn, run_fnSD (us := .ref a :: us) (vs := .ref a :: vs) F hr hb hd (hx σ) I2 (.cons rfl r) q2⟩
end
section
variable {X : Cx} {CX : CXT} {k n : Nat} {C f : Addr} {m : Str} {fd : FuncData} {ps ks : List Str} {sp : Sp} {E : XK} {o e : Expr} {es : List Expr} {kws : List Keyword} {ta : TE} {t tk : TA} {apos pos : Pos} {g : List Value → List Value → List Value} {gV : List V → List V → List V}
/-- o.m(e, .., k = v, ..) -/
def tMethK (C : Addr) (m : Str) (n j : Nat) (sp : Sp) (gV : List V → List V → List V) (E : XK) (ta : TE) (t tk : TA) : TE := fun σ H Q => ta σ H fun x H1 => rMeth C m x H1 (t σ H1 fun vs H2 => tk σ H2 fun zs H3 => vs.length = n ∧ zs.length = j ∧ sp (gV (x :: vs) zs) H3 Q E)
theorem pe_methK {pl : Sem Bool} (he : PE X o ta) (c : Cls X.K C) (hm : Meth X.K C m f) (F : FnOk X.prog X.w X.K X.mg X.base CX k f fd ps sp) (hr : Room k X.A) (hb : KBn X.K fd ps (n + 1) ks g gV) (hx : Passes CX X E) (ha : PA X (e :: es) t) (hkw : PK X kws tk)
    (hall : (backToKw pos (keywordEach kws X.env)).all (·.1.isSome) = true := by rfl) (hks : (backToKw pos (keywordEach kws X.env)).filterMap (·.1) = ks := by rfl)
    (hst : starEach (e :: es) X.env = (false, eval e X.env) :: starEach es X.env := by rfl) (hpl : ((backTo pos (starEach (e :: es) X.env)).any (·.1) || (backToKw pos (keywordEach kws X.env)).any (·.1.isNone)) = false := by rfl)
    (ht : eval (.Call (.Attribute o m apos) (e :: es) kws pos) X.env = (do
      let ov ← eval o X.env
      standAt apos.atName
      let (f, first) ← holding [ov] (getMethod ov m pl)
      callWith pos f first (backTo pos (starEach (e :: es) X.env)) (backToKw pos (keywordEach kws X.env))) := by rfl) : PE X (.Call (.Attribute o m apos) (e :: es) kws pos) (tMethK C m n ks.length sp gV E ta t tk) := by
  refine ⟨fun pins s σ H Q I h => ?_⟩
  refine PySem.W.methodCall_KW (pl := pl) (thn (he.run pins s σ H _ I h) fun u s1 hu1 => ?_) ht
  obtain ⟨x, H1, I1, rx, a, dx, fs, rfl, ea, l, q⟩ := hu1
  obtain rfl : u = Value.ref a := rx
  refine getmeth_ok I1 ea c hm l (PySem.W.callWith_KW (first := [.ref a]) (h₀ := X.base) I.ok.mod.kin hm.kp hall (thn (ha.run pos pins s1 σ H1 _ I1 q) fun us s2 hu2 => ?_) hpl hst)
  obtain ⟨vs, H2, I2, r, q2⟩ := hu2
  refine thn (hkw.run pos pins s2 σ H2 _ I2 q2) fun ws s3 hu3 => ?_
  obtain ⟨zs, H3, I3, rz, l1, l2, q3⟩ := hu3
  refine ⟨I3.kIn, ?_⟩
  rw [hks]
  have r1 : Vals (V.ref a :: vs) (Value.ref a :: us) := .cons rfl r
  have r2 := hb.rel r1 rz
  have n1 : (Value.ref a :: us).length = n + 1 := by
    rw [List.length_cons, ← r.length, l1]
  refine wpAny_call (codeAny_mono (F.run X.A X.stack s3 H3 ⟨Value.ref a :: us, ks.zip ws⟩ _ _ Q E hr I3.env0 (hb.to s3 _ ws I3.kIn n1 (rz.length.symm.trans l2)) r2 q3) fun r s' hq => ?_)
  cases r with
  | error e => exact hx pins σ H3 s3 e s' I3 hq
  | ok fl =>
    cases fl with
    | ret u => exact I3.after hq
    | next => exact False.elim hq
    | brk => exact False.elim hq
    | cont => exact False.elim hq
end
section
variable {K : PySem.W.Frag} {C : Addr} {f m : Str} {ta te to : TE} {tA : TA} {σ : L2.St} {H : Hp} {Q : VK} {nx : L2.St → Hp → Prop} {rt : VK} {bk ct : L2.St → Hp → Prop}
theorem y_methS {sp : Sp} {dvs : List V} {E : L2.St → XK} (q : ta σ H fun x H1 => rMeth C m x H1 (tA σ H1 fun vs H2 => sp (x :: (vs ++ dvs)) H2 Q (E σ))) : tMethS C m sp dvs E ta tA σ H Q := q
theorem y_methK {n j : Nat} {sp : Sp} {gV : List V → List V → List V} {E : XK} {tk : TA} (q : ta σ H fun x H1 => rMeth C m x H1 (tA σ H1 fun vs H2 => tk σ H2 fun zs H3 => vs.length = n ∧ zs.length = j ∧ sp (gV (x :: vs) zs) H3 Q E)) : tMethK C m n j sp gV E ta tA tk σ H Q := q
def rVei (K : PySem.W.Frag) (vs : List V) (H : Hp) (Q : VK) : Prop := ∃ (a C : Addr) (ws : List V), vs = .ref a :: ws ∧ ws.length ≤ 1000 ∧ OexC K C ∧ H a = some (exo a C none) ∧ Q .non H
theorem y_vei (q : tA σ H fun vs H1 => rVei K vs H1 Q) : tVeI K tA σ H Q := q
theorem y_veiA {a C : Addr} {ws : List V} (h : ws.length ≤ 1000) (T : OexC K C) (e : H a = some (exo a C none)) (q : Q .non H) : rVei K (.ref a :: ws) H Q := ⟨a, C, ws, rfl, h, T, e, q⟩
def rOst (K : PySem.W.Frag) (f : Str) (x y : V) (H2 : Hp) (nx : Hp → Prop) : Prop := ∃ a C : Addr, x = .ref a ∧ OexC K C ∧ PySem.W.findIn K (.ref C) f = some none ∧
  ((H2 a = some (exo a C none) ∧ ∀ dx, H2 dx = none → dx ≠ a → nx (upd (upd H2 dx (exd dx [(f, y)])) a (exo a C (some dx)))) ∨
    ∃ (dx : Addr) (fs : List (Str × V)), H2 a = some (exo a C (some dx)) ∧ H2 dx = some (exd dx fs) ∧ fs.length ≤ 900 ∧ nx (upd H2 dx (exd dx ((f, y) :: fs))))
theorem y_ost (q : te σ H fun y H1 => to σ H1 fun x H2 => rOst K f x y H2 fun H3 => nx σ H3) : tOst K f to te ⟨nx, rt, bk, ct⟩ σ H := q
/-- the first field stored in a new exception -/
theorem y_ostN {a C : Addr} {y : V} {R : Hp → Prop} (T : OexC K C) (n : PySem.W.findIn K (.ref C) f = some none) (e : H a = some (exo a C none)) (q : ∀ dx, H dx = none → dx ≠ a → R (upd (upd H dx (exd dx [(f, y)])) a (exo a C (some dx)))) : rOst K f (.ref a) y H R := ⟨a, C, rfl, T, n, .inl ⟨e, q⟩⟩
/-- the making of an exception, to be raised -/
theorem y_mkO {sp : Sp} {dvs : List V} {QX : XK} (q : tA σ H fun vs H1 => vs.length ≤ 1000 ∧ ∀ a, H1 a = none → sp (.ref a :: (vs ++ dvs)) (upd H1 a (exo a C none))
  (fun v H2 => v = .non ∧ ∃ (d : Addr) (fs : List (Str × V)), H2 a = some (exo a C (some d)) ∧ H2 d = some (exd d fs) ∧ H1 d = none ∧ QX (.ref C) (some d) (upd (del H2 a) d (.xd fs))) (fun _ _ _ => False)) : tMkO C sp dvs tA σ H QX := q
end
/-- an exception that has been made leaves nothing behind but its dict -/
theorem exc_gone {H : Hp} {a d : Addr} {o1 : HO} {o2 o3 : HO} {fs : List (Str × V)} (na : H a = none) (nd : H d = none) : Same H (upd (del (upd (upd (upd H a o1) d o2) a o3) a) d (.xd fs)) := fun b u h => by
  rw [upd_ne (ne_of_none h nd), del_ne (ne_of_none h na), upd_ne (ne_of_none h na), upd_ne (ne_of_none h nd), upd_ne (ne_of_none h na)]
  exact h
/-- an exception of one field has been made -/
theorem y_made1 {H : Hp} {a C : Addr} {f : Str} {y : V} {QX : XK} (na : H a = none) (q : ∀ d H', Same H H' → H d = none → H' d = some (.xd [(f, y)]) → QX (.ref C) (some d) H') (dx : Addr) (nd : upd H a (exo a C none) dx = none) (ne : dx ≠ a) :
    (fun v H2 => v = .non ∧ ∃ (d : Addr) (fs : List (Str × V)), H2 a = some (exo a C (some d)) ∧ H2 d = some (exd d fs) ∧ H d = none ∧ QX (.ref C) (some d) (upd (del H2 a) d (.xd fs))) V.non (upd (upd (upd H a (exo a C none)) dx (exd dx [(f, y)])) a (exo a C (some dx))) := by
  have nd' : H dx = none := by
    rw [upd_ne ne] at nd
    exact nd
  exact ⟨rfl, dx, [(f, y)], upd_same, by rw [upd_ne ne, upd_same], nd', q dx _ (exc_gone na nd') nd' upd_same⟩
end Y
/-! Y: own exceptions over any built-in exception (KeyError, LookupError ..), made by an own __init__ that calls the base's and stores fields. -/
namespace Y
open PySem PySem.Spec PyProof.Rows L2 PySem.HandSPX Builtin Builtin.ObjectAttr
/-- a built-in exception's __init__ -/
structure InitX (BI ini : String) : Prop where
  initKind : builtinKind ini = some .slot
  initSplit : splitId ini = some (BI, "__init__")
  initRow : Manifest.signature? ini = some ⟨.positional, "*", BI, .self, [⟨"args", .varPos, false⟩]⟩
  noStar : (BI != "*") = true
  init : Slot BI "__init__" ini
  initEntry : entryFor table ini = some Builtin.«BaseException.__init__»
theorem InitX.of {BI nI ini : String} (F : ExcCallFacts BI nI ini) : InitX BI ini := ⟨F.initKind, F.initSplit, F.initRow, F.noStar, F.init, F.initEntry⟩
/-- what is known of a built-in exception class -/
structure BaseX (BN nw ini : String) (tl : List Value) : Prop where
  FN : ∃ iN tlN, ExcBaseFacts BN nw iN tlN
  FI : ∃ BI, InitX BI ini ∧ tl.contains (.type BI) = true
  hN : tl.contains (.type BN) = true
  nA : tl.contains (.type "AttributeError") = false
  nN : tl.contains (.type "NameError") = false
  pass : ∀ self, refuseLoop self "__setattr__" tl = pure ()
  ob : tl.contains (.type "object") = true
/-- own classes, then a tail -/
inductive Refs (tl : List Value) : List Value → Prop
  | here : Refs tl tl
  | more {c : Addr} {r : List Value} (h : Refs tl r) : Refs tl (.ref c :: r)
theorem Refs.pass {tl l : List Value} (h : Refs tl l) (self : Value) (hp : refuseLoop self "__setattr__" tl = pure ()) : refuseLoop self "__setattr__" l = pure () := by
  induction h with
  | here => exact hp
  | more _ ih =>
    rw [refuseLoop_ref]
    exact ih
theorem Refs.has {tl l : List Value} (h : Refs tl l) (Y : String) : l.contains (.type Y) = tl.contains (.type Y) := by
  induction h with
  | here => rfl
  | more _ ih =>
    rw [List.contains_cons, ih]
    rfl
theorem Refs.ne {tl l : List Value} (h : Refs tl l) (ob : tl.contains (.type "object") = true) : l.isEmpty = false := by
  have := h.has "object"
  cases l with
  | nil =>
    rw [ob] at this
    cases this
  | cons _ _ => rfl
/-- an own exception class over such a one -/
structure OexG (K : PySem.W.Frag) (C : Addr) (nw : String) (tl : List Value) : Prop where
  cls : ∃ nm q N bs bm sn sub ab col dd k0 k1 k2 k3 k5, K.lookup C = some (excClassObj nm q C N bs bm true sn sub ab col dd k0 k1 k2 k3 k5 nw) ∧ Refs tl bm
  sa : PySem.W.findIn K (.ref C) "__setattr__" = some (some (.builtin "object.__setattr__"))
  exC : PySem.W.subIn K (.ref C) (.type "BaseException") = some true
  tyC : PySem.W.typeIn K (.ref C) = some (.type "type")
  kC : PySem.W.keepIn K (.ref C) = true
section
variable {M : Model} {A : Around} {E : Value → Shared → Prop} {h : Heap} {g : Array GenState} {d : Drawn} {t : Nat} {os : OsState} {nm q : Str} {C N : Addr} {bs bm tlN : List Value} {hdct : Bool} {sn : List Str} {sub : List Value} {ab : Bool} {col : Option Bool} {dd : Option Addr} {k0 k1 k2 k3 k5 : Option Value} {BN nw iN BI ini : String}
theorem gcheck_new (F : ExcBaseFacts BN nw iN tlN) (hN : bm.contains (.type BN) = true) {rest : List Value} {Q : Unit → Shared → Prop} (hC : h.get? C = some (excClassObj nm q C N bs bm hdct sn sub ab col dd k0 k1 k2 k3 k5 nw)) (hq : Q () ⟨h, g, d, t, os⟩) :
    wpAny M A (checkBuiltinCall nw ⟨.ref C :: rest, []⟩) Q E ⟨h, g, d, t, os⟩ := by
  have has : (Value.ref C :: bm).contains (.type BN) = true := by
    rw [List.contains_cons, hN, Bool.or_true]
  have star := F.noStar
  simp only [checkBuiltinCall, F.newKind, F.newSplit, F.newRow]
  repeat (first
    | refine wpAny_loadPart_at hC ?_
    | (refine wpAny_isSubtype_exc hC ?_; rw [has])
    | refine wpAny_staticBase_exc hC ?_
    | refine wpAny_madeBy_exc hC ?_
    | simp only [bne_self_eq_false, Bool.false_eq_true, if_false]
    | wp_step)
  exact hq
theorem gcheck_init (F : InitX BI ini) (hI : bm.contains (.type BI) = true) {e : Addr} {oe : Obj} {rest : List Value} {Q : Unit → Shared → Prop} (hC : h.get? C = some (excClassObj nm q C N bs bm hdct sn sub ab col dd k0 k1 k2 k3 k5 nw)) (he : h.get? e = some oe) (hcls : oe.cls = .ref C) (hq : Q () ⟨h, g, d, t, os⟩) :
    wpAny M A (checkBuiltinCall ini ⟨.ref e :: rest, []⟩) Q E ⟨h, g, d, t, os⟩ := by
  have has : (Value.ref C :: bm).contains (.type BI) = true := by
    rw [List.contains_cons, hI, Bool.or_true]
  have star := F.noStar
  simp only [checkBuiltinCall, F.initKind, F.initSplit, F.initRow]
  repeat (first
    | (with_reducible refine wpAny_loadPart_at he ?_; rw [hcls])
    | with_reducible refine wpAny_loadPart_at hC ?_
    | (with_reducible refine wpAny_isSubtype_exc hC ?_; rw [has])
    | wp_step)
  refine wpAny_onRaise ?_
  have chk : ∀ (a b : String) (n : Nat), Bind.check ⟨.positional, "*", BI, .self, [⟨"args", .varPos, false⟩]⟩ a b n (List.map (fun x => x.fst) ({ pos := Value.ref e :: rest } : Args).kw) = pure () := fun a b n => check_star_args _ _ _ _ _ _
  rw [chk]
  exact wpAny_pure hq
end
section
variable {prog : Program} {w : World} {A : Around} {E : Value → Shared → Prop} {R : Result → Shared → Prop} {h : Heap} {g : Array GenState} {d : Drawn} {t : Nat} {os : OsState} {nm q : Str} {C N : Addr} {bs bm tlN : List Value} {hdct : Bool} {sn : List Str} {sub : List Value} {ab : Bool} {col : Option Bool} {dd : Option Addr} {k0 k1 k2 k3 k5 : Option Value} {BN nw iN BI ini : String}
theorem gnew (F : ExcBaseFacts BN nw iN tlN) (hN : bm.contains (.type BN) = true) (nA : bm.contains (.type "AttributeError") = false) (nN : bm.contains (.type "NameError") = false) {rest : List Value} (hC : h.get? C = some (excClassObj nm q C N bs bm hdct sn sub ab col dd k0 k1 k2 k3 k5 nw))
    (hq : R (.ok (.ret (.ref (h.objs.size + 1)))) ⟨(h.push { cls := .type "tuple", data := .seq rest.toArray }).push { cls := .ref C, data := .fields #[.ref h.objs.size, .none, .none, .none, .bool false, .none] }, g, d, t, os⟩) (hrest : rest.length ≤ sizeLine) :
    codeAny (model prog w) A (.builtin nw ⟨.ref C :: rest, []⟩) R ⟨h, g, d, t, os⟩ := by
  have ends := F.ends
  have has : (Value.ref C :: bm).contains (.type BN) = true := by
    rw [List.contains_cons, hN, Bool.or_true]
  have hcA : (Value.ref C :: bm).contains (.type "AttributeError") = false := by
    rw [List.contains_cons, nA]
    rfl
  have hcN : (Value.ref C :: bm).contains (.type "NameError") = false := by
    rw [List.contains_cons, nN]
    rfl
  refine codeAny_builtinAt F.entry ?_
  unfold Builtin.«BaseException.__new__»
  refine PySem.wpAt_bind ?_
  show PySem.wpAt _ _ _ (stack >>= _) _ _ _
  refine PySem.wpAt_bind (PySem.wpAt_stack fun p below => PySem.wpAt_of_wpAny ?_)
  wp_walk
  refine PySem.wpAt_of_wpAny ?_
  rw [F.owner]
  repeat (first
    | with_reducible refine wpAny_madeHere_exc F.canon hC ?_
    | with_reducible refine wpAny_loadPart_at hC ?_
    | (with_reducible refine wpAny_isSubtype_exc hC ?_; first | rw [has] | rw [hcA] | rw [hcN])
    | wp_step)
  show R _ _
  rw [Heap.size_push]
  exact hq
theorem gtype_call (F : ExcBaseFacts BN nw iN tlN) (hN : bm.contains (.type BN) = true) (nA : bm.contains (.type "AttributeError") = false) (nN : bm.contains (.type "NameError") = false) {rest : List Value} {fI : Addr} {Q : Fin → Shared → Prop} (hC : h.get? C = some (excClassObj nm q C N bs bm hdct sn sub ab col dd k0 k1 k2 k3 k5 nw))
    (hi : PySem.W.Looks (model prog w) h (typeLookup (.ref C) "__init__") (some (.ref fI))) (hb : ∀ self, PySem.W.Looks (model prog w) h (bindSpecial (.ref fI) self) (.ref fI, [self])) (hrest : rest.length ≤ sizeLine)
    (hq : codeAny (model prog w) A (.call (.ref fI) ⟨.ref (h.objs.size + 1) :: rest, []⟩) (fun r s' => match r with | .ok (.ret v) => v = .none ∧ Q (.done (.ret (.ref (h.objs.size + 1)))) s' | .ok _ => False | .error e => E e s') ⟨(h.push (PySem.W.kdv_tup rest)).push (excO C h.objs.size), g, d, t, os⟩) :
    wpAny (model prog w) A (Builtin.«type.__call__» ⟨.ref C :: rest, []⟩) Q E ⟨h, g, d, t, os⟩ := by
  repeat (first
    | with_reducible refine wpAny_loadPart_at hC ?_
    | with_reducible refine wpAny_madeBy_exc hC ?_
    | wp_step)
  refine codeAny_call_builtin_code (Code.quiet_builtin _ F.quiet) (gcheck_new F hN hC ?_)
  refine gnew F hN nA nN hC ?_ hrest
  show wpAny _ _ _ _ _ _
  have kk : ∀ b o, h.get? b = some o → ((h.push (PySem.W.kdv_tup rest)).push (excO C h.objs.size)).get? b = some o :=
    fun b o e => Heap.get?_push_of_some _ (Heap.get?_push_of_some _ e)
  have hC1 := kk _ _ hC
  have got : ((h.push (PySem.W.kdv_tup rest)).push (excO C h.objs.size)).get? (h.objs.size + 1) = some (excO C h.objs.size) := by
    heap_get
  have hcC : (Value.ref C :: bm).contains (.ref C) = true := by simp
  have i1 := hi.keeps kk
  have b1 := (hb (.ref (h.objs.size + 1))).keeps kk
  unfold isInstance
  repeat (first
    | with_reducible refine wpAny_loadPart_at got ?_
    | (with_reducible refine wpAny_isSubtype_exc hC1 ?_; rw [hcC])
    | wp_step)
  show wpAny _ _ (typeLookup (.ref C) _) _ _ _
  refine i1.at (wpAny_holding (wpAny_bind (b1.at ?_)))
  refine wpAny_bind (wpAny_call (codeAny_mono hq fun r s' z => ?_))
  rcases r with e | (v | _ | _ | _) <;> first | exact z | exact z.elim | skip
  obtain ⟨rfl, z⟩ := z
  first
    | exact wpAny_pure (wpAny_pure z)
    | (wp_walk; exact z)
theorem gcall (F : ExcBaseFacts BN nw iN tlN) (hN : bm.contains (.type BN) = true) (nA : bm.contains (.type "AttributeError") = false) (nN : bm.contains (.type "NameError") = false) {rest : List Value} {fI : Addr} (hC : h.get? C = some (excClassObj nm q C N bs bm hdct sn sub ab col dd k0 k1 k2 k3 k5 nw))
    (hi : PySem.W.Looks (model prog w) h (typeLookup (.ref C) "__init__") (some (.ref fI))) (hb : ∀ self, PySem.W.Looks (model prog w) h (bindSpecial (.ref fI) self) (.ref fI, [self])) (hrest : rest.length ≤ sizeLine)
    (hq : codeAny (model prog w) (A.under (.builtin "type.__call__" ⟨.ref C :: rest, []⟩)) (.call (.ref fI) ⟨.ref (h.objs.size + 1) :: rest, []⟩) (PySem.W.InitBack (h.objs.size + 1) R) ⟨(h.push (PySem.W.kdv_tup rest)).push (excO C h.objs.size), g, d, t, os⟩) :
    codeAny (model prog w) A (.call (.ref C) ⟨rest, []⟩) R ⟨h, g, d, t, os⟩ := by
  have z1 := tc_lookup
  have z2 := tc_bind (.ref C)
  have hTy : (⟨h, g, d, t, os⟩ : Shared).TypeIs (.ref C) "type" := ⟨_, hC, rfl⟩
  refine codeAny_of_tree ?_
  show wpAny _ _ (callAny (.ref C) _) _ _ _
  repeat (any_goals (first
    | assumption
    | with_reducible refine wpAny_loadPart_at hC ?_
    | wp_step))
  refine ⟨rfl, codeAny_call_builtin_at (Code.quiet_builtin _ (by decide +kernel)) entry_typeCall ?_⟩
  refine wpAny_check_type_call_sub hC (gtype_call F hN nA nN hC hi hb hrest ?_)
  refine codeAny_mono hq fun r s' z => ?_
  rcases r with e | (v | _ | _ | _) <;> exact z
theorem ginit (F : InitX BI ini) (hI : bm.contains (.type BI) = true) {e t0 : Addr} {rest : List Value} (hC : h.get? C = some (excClassObj nm q C N bs bm hdct sn sub ab col dd k0 k1 k2 k3 k5 nw)) (he : h.get? e = some (excO C t0)) (hrest : rest.length ≤ sizeLine)
    (hq : ∀ h' t1, (∀ b o, b ≠ e → h.get? b = some o → h'.get? b = some o) → h'.get? e = some (excO C t1) → R (.ok (.ret .none)) ⟨h', g, d, t, os⟩) :
    codeAny (model prog w) A (.call (.builtin ini) ⟨.ref e :: rest, []⟩) R ⟨h, g, d, t, os⟩ := by
  refine codeAny_call_builtin F.init.plain F.initEntry (gcheck_init F hI hC he rfl ?_)
  wp_walk
  refine hq _ h.objs.size (fun b o hb ho => ?_) ?_
  · rw [Heap.get?_update_other _ _ (Ne.symm hb)]
    exact Heap.get?_push_of_some _ ho
  · rw [Heap.get?_update_self _ (Heap.get?_push_of_some _ he) rfl]
    rfl
end
section
variable {prog : Program} {w : World} {A : Around} {R : Result → Shared → Prop} {hp : Heap} {g : Array GenState} {d : Drawn} {t : Nat} {os : OsState} {nw : String} {tl : List Value}
/-- self.name = v on such an exception, the first field -/
theorem gosa {K : PySem.W.Frag} {name : Str} {tk : Tok} {v : Value} {x C : Addr} {fv : Array Value} {cd : ClassData} {B ini : String} (BX : BaseX B nw ini tl)
    (X : K.In hp) (hx : hp.get? x = some ({ cls := .ref C, data := .fields fv } : Obj)) (hcd : PySem.W.clsIn K C = some cd) (hm : Refs tl cd.mro) (hh : cd.hasDict = true) (ha : PySem.W.findIn K (.ref C) name = some none)
    (hq : ∀ h' tk' dx, (∀ b o, b ≠ x → hp.get? b = some o → h'.get? b = some o) → hp.objs.size ≤ dx → dx ≠ x → h'.get? x = some ({ cls := .ref C, dict := some dx, data := .fields fv } : Obj) → h'.Ns1 dx (fun y => if y = name then some v else none) → R (.ok (.ret .none)) ⟨h', g, d, tk', os⟩) :
    codeAny (model prog w) A (.call (.builtin "object.__setattr__") ⟨[.ref x, .str name tk, v], []⟩) R ⟨hp, g, d, t, os⟩ := by
  have I : PySem.W.InstAt hp x { cls := .ref C, data := .fields fv } C none := ⟨hx, rfl, rfl, trivial⟩
  have SF := F.store_object
  have ne := hm.ne BX.ob
  have hob := (hm.has "object").trans BX.ob
  have hxs : x ≠ hp.objs.size := Nat.ne_of_lt (Heap.lt_size hx)
  have sub : PySem.W.Looks (model prog w) hp (isInstance (.ref x) (.type "object")) true :=
    I.type.andThen (PySem.W.looks_mroIn X (by
      unfold PySem.W.mroIn
      rw [hcd, Option.bind_some, if_neg (by rw [ne]; decide), hob]))
  refine codeAny_call_builtin SF.slot.plain SF.entry ?_
  refine @PySem.W.check_slot (model prog w) _ _ ⟨hp, g, d, t, os⟩ "object.__setattr__" "object" "__setattr__" (.ref x) [.str name tk, v] [] _ SF.kind SF.split sub (SF.args (.ref x) (.str name tk) v) ?_
  have hmr : PySem.W.Looks (model prog w) hp (mroOf (.ref C)) cd.mro := (PySem.W.looks_clsIn X hcd).andThen .now
  have L3 : PySem.W.Looks (model prog w) hp (storeTaker? none) none := .now
  have hcls := PySem.W.looks_clsIn (M := model prog w) X hcd
  rw [PySem.W.osa_eq, refuse_eq]
  refine wpAny_bind (wpAny_bind (I.type.at ?_))
  refine wpAny_bind (hmr.at ?_)
  rw [hm.pass _ (BX.pass _)]
  refine wpAny_pure (wpAny_bind (I.type.at ?_))
  refine wpAny_bind ((PySem.W.looks_findIn X ha).at (wpAny_bind (L3.at ?_)))
  show wpAny _ _ (storeInOwnDict (.ref x) (.ref C) (.str name tk) name v false) _ _ _
  obtain ⟨nm, bs, mro, ns, qn, hd, sn, sb, ab, col, del⟩ := cd
  dsimp only at hh
  subst hh
  unfold storeInOwnDict ownDictForStores
  repeat (first
    | with_reducible refine store_in_new ?_ ?_
    | with_reducible refine wpAny_loadPart_at hx ?_
    | with_reducible refine hcls.at ?_
    | wp_step)
  · exact ⟨_, #[], _, (Heap.get?_update_ne _ _ _ _ hxs.symm).trans (Heap.get?_push_at rfl rfl), rfl, fun e he => absurd he (by simp), fun _ => rfl⟩
  · intro h2 tk2 hn2 hs
    have hx1 : (hp.push { cls := .type "dict", data := .dict #[] }).get? x = some ({ cls := .ref C, data := .fields fv } : Obj) := Heap.get?_push_of_some _ hx
    refine hq h2 tk2 hp.objs.size (fun b o hb ho => ?_) (Nat.le_refl _) hxs.symm ((hs.2 x hxs).trans (Heap.get?_update_self _ hx1 rfl)) hn2
    exact (hs.2 b (Nat.ne_of_lt (Heap.lt_size ho))).trans ((Heap.get?_update_ne _ _ _ _ hb).trans (Heap.get?_push_of_some _ ho))
end
section
variable {X : Cx} {pins : List (Addr × Obj)} {σ : L2.St} {H : Hp} {s : Shared} {a C dx : Addr} {f : Str} {y : V} {u : Value} {E : Value → Shared → Prop} {A : Around} {B nw ini : String} {tl : List Value}
theorem OexG.cd {K : PySem.W.Frag} (T : OexG K C nw tl) : ∃ cd, PySem.W.clsIn K C = some cd ∧ Refs tl cd.mro ∧ cd.hasDict = true := by
  obtain ⟨nm, q, N, bs, bm, sn, sub, ab, col, dd, k0, k1, k2, k3, k5, hC, hb⟩ := T.cls
  refine ⟨{ name := nm, bases := bs, mro := .ref C :: bm, ns := N, qualname := q, hasDict := true, slotNames := sn, subclasses := sub, abstract := ab, collection := col, hasDel := false }, ?_, .more hb, rfl⟩
  unfold PySem.W.clsIn
  rw [hC] <;> rfl
theorem gst_new {Q : Unit → Shared → Prop} (BX : BaseX B nw ini tl) (T : OexG X.K C nw tl) (I : Inv X pins σ H s) (e : H a = some (exo a C none)) (hno : PySem.W.findIn X.K (.ref C) f = some none) (ry : RelV y u)
    (h : ∀ dx s', H dx = none → dx ≠ a → Inv X pins σ (upd (upd H dx (exd dx [(f, y)])) a (exo a C (some dx))) s' → Q () s') : wpAny (model X.prog X.w) A (setAttr (.ref a) f u) Q E s := by
  obtain ⟨cd, hcl, hm, hh⟩ := T.cd
  obtain ⟨t1, ho⟩ := exo_at I.hok e
  obtain ⟨hp, g, d, t, os⟩ := s
  refine PySem.W.set_plain I.kIn (ox := { cls := .ref C, dict := none, data := .fields #[.ref t1, .none, .none, .none, .bool false, .none] }) (od := none) ⟨ho, rfl, rfl, trivial⟩ T.sa ?_
  refine gosa BX I.kIn ho hcl hm hh hno fun h2 tk2 dx k dn dne hx hn => ?_
  have hnd : H dx = none := I.hok.fresh dn
  have nd : ∀ {b : Addr} {o : Obj}, hp.get? b = some o → b ≠ dx := fun {b o} q => Nat.ne_of_lt (Nat.lt_of_lt_of_le (Heap.lt_size q) dn)
  have na : ∀ {b : Addr}, H b = none → b ≠ a := fun {b} n z => by
    rw [z, e] at n
    cases n
  have U : Un X.fs [] H (upd (upd H dx (exd dx [(f, y)])) a (exo a C (some dx))) hp h2 := by
    refine { keep := fun b o q n _ _ => k b o (na n) q, slot := fun b o q n _ _ => ⟨o.slots, k b o (na n) q⟩, free := ?_, there := ?_, tups := ?_, frzs := ?_, tbls := ?_ }
    · intro b o q n _
      rw [upd_ne (na n), upd_ne (nd q)]
      exact n
    · intro b o q _
      by_cases hb : b = a
      · rw [hb]
        exact ⟨_, hx⟩
      · exact ⟨o, k b o hb q⟩
    · intro b xs q
      rw [upd_ne (at_ne e q exo_tup), upd_ne (ne_of_none q hnd)]
      exact q
    · intro b o v q
      rw [upd_ne (at_ne e q exo_frz), upd_ne (ne_of_none q hnd)]
      exact q
    · intro b ps q
      refine ⟨#[], ?_⟩
      rw [upd_ne (at_ne e q exo_tbl), upd_ne (ne_of_none q hnd), q]
      simp
  refine h dx _ hnd dne (I.un (t' := tk2) U fun b o q => ?_)
  by_cases hb : b = a
  · subst hb
    rw [upd_same] at q
    cases q
    exact exo_ok hx
  · rw [upd_ne hb] at q
    by_cases hd : b = dx
    · subst hd
      rw [upd_same] at q
      cases q
      exact exd_ok hn (relO_put (fs := []) ry fun g => True.intro)
    · rw [upd_ne hd] at q
      refine (I.hok b o q).stay (fun c v hc z => k c v ?_ z) (fun c hc => ?_) fun c xs hc => ?_
      · rcases hc with hc | hc
        · rw [hc]
          exact hb
        · exact at_ne e hc exo_own
      · rw [upd_ne (at_ne e hc exo_own), upd_ne (ne_of_none hc hnd)]
        exact hc
      · rw [upd_ne (at_ne e hc exo_tup), upd_ne (ne_of_none hc hnd)]
        exact hc
/-- the base's __init__: nothing of it is told -/
theorem ginit_ok {us : List Value} {Q : Value → Shared → Prop} (BX : BaseX B nw ini tl) (T : OexG X.K C nw tl) (I : Inv X pins σ H s) (e : H a = some (exo a C none)) (hl : us.length ≤ sizeLine) (h : ∀ s', Inv X pins σ H s' → Q .none s') :
    wpAny (model X.prog X.w) A (call (.builtin ini) (.ref a :: us)) Q E s := by
  obtain ⟨nm, q, N, bs, bm, sn, sub, ab, col, dd, k0, k1, k2, k3, k5, hC, hb⟩ := T.cls
  obtain ⟨t1, ho⟩ := exo_at I.hok e
  obtain ⟨hp, g, d, t, os⟩ := s
  obtain ⟨BI, FI, hI⟩ := BX.FI
  refine wpAny_call (ginit FI ((hb.has BI).trans hI) (I.kIn _ _ hC) ho hl fun h2 t2 k hx => ?_)
  have J := I.write (t' := t) (x := a) (e := a) (o := exo a C none) (by rw [e]; exact True.intro) (.inl rfl) k ⟨_, hx⟩ (exo_ok hx)
  have eu : upd H a (exo a C none) = H := funext fun b => by
    by_cases hb : b = a
    · rw [hb, upd_same, e]
    · rw [upd_ne hb]
  rw [eu] at J
  exact h _ J
end
/-- B.__init__(self, ..) -/
def tGi (K : PySem.W.Frag) (nw : String) (tl : List Value) (ta : TA) : TE := fun σ H Q => ta σ H fun vs H1 => ∃ (a C : Addr) (ws : List V), vs = .ref a :: ws ∧ ws.length ≤ 1000 ∧ OexG K C nw tl ∧ H1 a = some (exo a C none) ∧ Q .non H1
/-- self.f = e, the first field -/
def tGst (K : PySem.W.Frag) (nw : String) (tl : List Value) (f : Str) (to te : TE) : TS := fun D σ H => te σ H fun y H1 => to σ H1 fun x H2 => ∃ a C : Addr, x = .ref a ∧ OexG K C nw tl ∧ PySem.W.findIn K (.ref C) f = some none ∧ H2 a = some (exo a C none) ∧ ∀ dx, H2 dx = none → dx ≠ a → D.nx σ (upd (upd H2 dx (exd dx [(f, y)])) a (exo a C (some dx)))
section
variable {X : Cx} {o e : Expr} {es : List Expr} {to te : TE} {ta : TA} {x f : Str} {Bc : Addr} {p p1 p2 p' pos : Pos} {B nw ini : String} {tl : List Value}
theorem pe_ginit {pl : Sem Bool} (BX : BaseX B nw ini tl) (hi : PySem.W.handedIn (.builtin ini) = true) (O : OBase X.K Bc ini) (hm : X.mg x = some (.ref Bc)) (ha : PA X (e :: es) ta) (hg : Gl X x := by rfl) (hdb : (x == ("__debug__" : Str)) = false := by decide)
    (hc : eval (.Call (.Attribute (.Name x p1) "__init__" p2) (e :: es) [] pos) X.env = (do
      let ov ← eval (.Name x p1) X.env
      standAt p2.atName
      let (f, first) ← holding [ov] (getMethod ov "__init__" pl)
      callWith pos f first (backTo pos (starEach (e :: es) X.env)) (backToKw pos (keywordEach [] X.env))) := by rfl)
    (he : starEach (e :: es) X.env = (false, eval e X.env) :: starEach es X.env := by rfl) (hpl : (backTo pos (starEach es X.env)).any (·.1) = false := by rfl) :
    PE X (.Call (.Attribute (.Name x p1) "__init__" p2) (e :: es) [] pos) (tGi X.K nw tl ta) := by
  refine ⟨fun pins s σ H Q I h => ?_⟩
  refine PySem.W.methodCall_KW (ld_glob I hg hm ?_ hdb) hc
  refine PySem.W.method_cls I.kIn O.ga (PySem.W.cls_value I.kIn O.rd O.ini hi ?_)
  show wpAny _ _ (callWith pos (Value.builtin ini) [] (backTo pos (starEach (e :: es) X.env)) []) _ _ _
  have I' := I.tok (s.toks + 1)
  refine PyProof.Rows.callWith_method1 (thn (ha.run pos pins _ σ H _ I' h) fun us s1 hus => ?_) he hpl
  obtain ⟨vs, H1, I1, r1, a, C, ws, rfl, hl, T, ea, q⟩ := hus
  cases r1 with
  | cons ra rw' =>
    obtain rfl := (show _ = Value.ref a from ra)
    exact ginit_ok BX T I1 ea (Nat.le_trans (Nat.le_of_eq (Paired.length rw').symm) (Nat.le_trans hl (by decide))) fun s' J => ⟨.non, H1, J, rfl, q⟩
theorem ps_gst (BX : BaseX B nw ini tl) (ho : PE X o to) (he : PE X e te) (hs : swapsWith e (some (.Attribute o f p')) pos.line X.env = pure false := by rfl) : PS X (.Assign [.Attribute o f p'] e pos) (tGst X.K nw tl f to te) := by
  refine ⟨fun pins s σ H D I h => ?_⟩
  refine plainObj_wpAny_Assign_Attribute (thn (he.run pins s σ H _ I h) fun v s1 hv => ?_) hs
  obtain ⟨y, H1, I1, r1, q1⟩ := hv
  refine thn (ho.run pins s1 σ H1 _ I1 q1) fun u s2 hu2 => ?_
  obtain ⟨z, H2, I2, r2, a, C, rfl, T, hno, ea, q⟩ := hu2
  obtain rfl : u = Value.ref a := r2
  exact gst_new BX T I2 ea hno r1 fun dx s' n ne J => ⟨σ, _, J, q dx n ne⟩
theorem pmk_gex {CX : CXT} {C fI : Addr} {k : Nat} {fd : FuncData} {ps : List Str} {sp : Sp} {ds : List Value} {dvs : List V} (BX : BaseX B nw ini tl) (T : OexG X.K C nw tl) (iC : PySem.W.findIn X.K (.ref C) "__init__" = some (some (.ref fI))) (tI : PySem.W.typeIn X.K (.ref fI) = some (.type "function"))
    (F1 : FnOk X.prog X.w X.K X.mg X.base CX k fI fd ps sp) (hr : Room (k + 1) X.A) (hb : Binds X.K fd ps ds) (hd : Vals dvs ds) (hx : Passes CX X (fun _ _ _ => False)) (hg : Gl X x) (hm : X.mg x = some (.ref C)) (ha : PA X (e :: es) ta)
    (hdb : (x == ("__debug__" : Str)) = false := by decide) (he : starEach (e :: es) X.env = (false, eval e X.env) :: starEach es X.env := by rfl) (hpl : (backTo pos (starEach es X.env)).any (·.1) = false := by rfl) :
    PMk X (.Call (.Name x p) (e :: es) [] pos) (tMkO C sp dvs ta) := by
  intro pins s σ H Q I h
  obtain ⟨nm, q, N, bs, bm, sn, sub, ab, col, dd, k0, k1, k2, k3, k5, hC, hbm⟩ := T.cls
  refine wpAny_Call_Name_kw (ld_glob I hg hm ?_ hdb)
  refine PySem.W.callWith_K (h₀ := X.base) I.ok.mod.kin T.kC (thn (ha.run pos pins s σ H _ I h) fun us s1 hus => ?_) he hpl
  obtain ⟨vs, H1, I1, r1, hz, q1⟩ := hus
  refine ⟨I1.kIn, ?_⟩
  show wpAny _ _ (call (.ref C) us) _ _ _
  obtain ⟨hp, g, dr, tk, os⟩ := s1
  have hsz := Nat.le_succ hp.objs.size
  have hn : H1 (hp.objs.size + 1) = none := I1.hok.fresh hsz
  have hq := q1 (hp.objs.size + 1) hn
  have kk : ∀ b o, hp.get? b = some o → ((hp.push (PySem.W.kdv_tup us)).push (excO C hp.objs.size)).get? b = some o :=
    fun b o e => Heap.get?_push_of_some _ (Heap.get?_push_of_some _ e)
  have hget : ((hp.push (PySem.W.kdv_tup us)).push (excO C hp.objs.size)).get? (hp.objs.size + 1) = some (excO C hp.objs.size) := by
    heap_get
  have I2 := I1.laid (t' := tk) (a := hp.objs.size + 1) (o := exo (hp.objs.size + 1) C none) (h' := (hp.push (PySem.W.kdv_tup us)).push (excO C hp.objs.size)) kk hsz (exo_ok hget)
  have r2 : Vals (V.ref (hp.objs.size + 1) :: (vs ++ dvs)) (Value.ref (hp.objs.size + 1) :: (us ++ ds)) :=
    .cons rfl (r1.append hd)
  have hl : (Value.ref (hp.objs.size + 1) :: us ++ ds).length = ps.length := by
    have e := r2.length
    rw [F1.len _ _ _ _ hq] at e
    exact e.symm
  have hus : us.length ≤ sizeLine := Nat.le_trans (Nat.le_of_eq (Paired.length r1).symm) (Nat.le_trans hz (by decide))
  obtain ⟨iN, tlN, FN⟩ := BX.FN
  refine wpAny_call (gcall FN ((hbm.has _).trans BX.hN) ((hbm.has _).trans BX.nA) ((hbm.has _).trans BX.nN) (I1.kIn _ _ hC) (PySem.W.looks_findIn I1.kIn iC) (fun self => PySem.W.bind_fn I1.kIn self tI) hus ?_)
  refine codeAny_mono (F1.run _ X.stack _ _ ⟨Value.ref (hp.objs.size + 1) :: us, []⟩ (Value.ref (hp.objs.size + 1) :: (us ++ ds)) _ _ (fun _ _ _ => False) (hr.make C us []) (I2.env0.make C us []) (hb _ (Value.ref (hp.objs.size + 1) :: us) I2.kIn hl) r2 hq) fun r s' hq' => ?_
  cases r with
  | error er => exact hx pins σ _ _ er s' I2 hq'
  | ok fl =>
    cases fl with
    | next => exact False.elim hq'
    | brk => exact False.elim hq'
    | cont => exact False.elim hq'
    | ret u =>
      obtain ⟨v, H2, os2, bare2, un2, hok2, rv, ev, d, fs, ea, ed, hd1, q2⟩ := hq'
      subst ev
      obtain ⟨h2, g2, d2, t2, os'⟩ := s'
      exact ⟨rv, mk_end (raises_own T.exC T.tyC) I1 hsz kk un2 hok2 os2 bare2 ea ed hd1 q2⟩
end
section
variable {K : PySem.W.Frag} {C : Addr} {f : Str} {te to : TE} {tA : TA} {σ : L2.St} {H : Hp} {Q : VK} {nx : L2.St → Hp → Prop} {rt : VK} {bk ct : L2.St → Hp → Prop} {nw : String} {tl : List Value}
def rGi (K : PySem.W.Frag) (nw : String) (tl : List Value) (vs : List V) (H : Hp) (Q : VK) : Prop := ∃ (a C : Addr) (ws : List V), vs = .ref a :: ws ∧ ws.length ≤ 1000 ∧ OexG K C nw tl ∧ H a = some (exo a C none) ∧ Q .non H
theorem y_gi (q : tA σ H fun vs H1 => rGi K nw tl vs H1 Q) : tGi K nw tl tA σ H Q := q
theorem y_giA {a C : Addr} {ws : List V} (h : ws.length ≤ 1000) (T : OexG K C nw tl) (e : H a = some (exo a C none)) (q : Q .non H) : rGi K nw tl (.ref a :: ws) H Q := ⟨a, C, ws, rfl, h, T, e, q⟩
def rGst (K : PySem.W.Frag) (nw : String) (tl : List Value) (f : Str) (x y : V) (H2 : Hp) (nx : Hp → Prop) : Prop := ∃ a C : Addr, x = .ref a ∧ OexG K C nw tl ∧ PySem.W.findIn K (.ref C) f = some none ∧ H2 a = some (exo a C none) ∧ ∀ dx, H2 dx = none → dx ≠ a → nx (upd (upd H2 dx (exd dx [(f, y)])) a (exo a C (some dx)))
theorem y_gst (q : te σ H fun y H1 => to σ H1 fun x H2 => rGst K nw tl f x y H2 fun H3 => nx σ H3) : tGst K nw tl f to te ⟨nx, rt, bk, ct⟩ σ H := q
theorem y_gstN {a C : Addr} {y : V} {R : Hp → Prop} (T : OexG K C nw tl) (n : PySem.W.findIn K (.ref C) f = some none) (e : H a = some (exo a C none)) (q : ∀ dx, H dx = none → dx ≠ a → R (upd (upd H dx (exd dx [(f, y)])) a (exo a C (some dx)))) : rGst K nw tl f (.ref a) y H R := ⟨a, C, rfl, T, n, e, q⟩
end
/-! ### the bases: LookupError, KeyError, ValueError -/
abbrev tlLookup : List Value := [.type "LookupError", .type "Exception", .type "BaseException", .type "object"]
abbrev tlKey : List Value := [.type "KeyError", .type "LookupError", .type "Exception", .type "BaseException", .type "object"]
abbrev tlValue : List Value := [.type "ValueError", .type "Exception", .type "BaseException", .type "object"]
theorem bx_lookup : BaseX "LookupError" "LookupError.__new__" "LookupError.__init__" tlLookup :=
  ⟨⟨_, _, F.excBase_LookupError⟩, ⟨_, .of F.excBase_LookupError.toExcCallFacts, by decide +kernel⟩, by decide +kernel, by decide +kernel, by decide +kernel, F.store_LookupError.passes, by decide +kernel⟩
theorem bx_value : BaseX "ValueError" "ValueError.__new__" "ValueError.__init__" tlValue :=
  ⟨⟨_, _, F.excBase_ValueError⟩, ⟨_, .of F.excBase_ValueError.toExcCallFacts, by decide +kernel⟩, by decide +kernel, by decide +kernel, by decide +kernel, F.store_ValueError.passes, by decide +kernel⟩
theorem initKey : InitX "KeyError" "KeyError.__init__" := by
  refine ⟨?_, ?_, ?_, ?_, ?_, ?_⟩
  · decide +kernel
  · decide +kernel
  · kernel_rfl
  · decide +kernel
  · exact .of (owner := "KeyError") (n := "__init__") (by rw [typeLookup_type, builtinLookup_eq_fast]; kernel_rfl) (by decide +kernel) (by decide +kernel) (by decide +kernel)
      (by first | exact .inl (by decide +kernel) | exact .inr (by decide +kernel)) (by rw [isSubtype_type]; kernel_rfl)
  · exact entryFor_alias (id' := "BaseException.__init__") (by rw [fastTable_eq_tree]; kernel_rfl)
      (by first | rfl | decide +kernel) (by decide +kernel) (by rw [fastTable_eq_tree]; kernel_rfl)
theorem bx_key : BaseX "LookupError" "LookupError.__new__" "KeyError.__init__" tlKey :=
  ⟨⟨_, _, F.excBase_LookupError⟩, ⟨_, initKey, by decide +kernel⟩, by decide +kernel, by decide +kernel, by decide +kernel, fun self => by kernel_rfl, by decide +kernel⟩
end Y
/-! Y: try with several except clauses, each with or without a name. -/
namespace Y
open PySem PySem.Spec PyProof.Rows L2
abbrev Hd := Value × Option Nat × (Addr → Value → Option Addr → TS)
def hdRun (i : Option Nat) (ts : TS) (a : Addr) (D : Ends) (σ : L2.St) (H : Hp) : Prop := match i with
  | none => ts D σ H
  | some i => ts { nx := fun σ' H' => D.nx (σ'.set i none) H', rt := D.rt, bk := fun σ' H' => D.bk (σ'.set i none) H', ct := fun σ' H' => D.ct (σ'.set i none) H' } (σ.set i (some (.ref a))) H
def wManyN (K : PySem.W.Frag) (Wout : WX) (D : Ends) : List Hd → WX
  | [] => Wout
  | (c, i, ts) :: r => fun cls d σ H => ∃ b, PySem.W.exmOne K cls c = some b ∧ (b = true → ∀ a, H a = none → hdRun i (ts a cls d) a D σ H) ∧ (b = false → wManyN K Wout D r cls d σ H)
inductive HdsN (X : Cx) : List ExceptHandler → List Hd → Prop
  | nil : HdsN X [] []
  | cons {x : Str} {c : Value} {ts : Addr → Value → Option Addr → TS} {b₀ : Stmt} {suite : List Stmt} {np pos' : Pos} {hds : List ExceptHandler} {l : List Hd} (hc : Names X x c)
      (hsu : ∀ (a : Addr) (oe : Obj) (cls : Value) (d : Option Addr) (pn : List (Addr × Obj)), Zc cls d oe → (∃ vs, oe.data = .fields vs) → PSs (X.suite a ((a, oe) :: pn)) (b₀ :: suite) (ts a cls d)) (r : HdsN X hds l) :
      HdsN X (.ExceptHandler (some (.Name x np)) none (b₀ :: suite) pos' :: hds) ((c, none, ts) :: l)
  | named {x n : Str} {i : Nat} {c : Value} {ts : Addr → Value → Option Addr → TS} {b₀ : Stmt} {suite : List Stmt} {np pos' : Pos} {hds : List ExceptHandler} {l : List Hd} (hi : X.N[i]? = some n) (hln : X.env.kindOf n = some .local) (hc : Names X x c)
      (hsu : ∀ (a : Addr) (oe : Obj) (cls : Value) (d : Option Addr) (pn : List (Addr × Obj)), Zc cls d oe → (∃ vs, oe.data = .fields vs) → PSs (X.suite a ((a, oe) :: pn)) (b₀ :: suite) (ts a cls d)) (r : HdsN X hds l) :
      HdsN X (.ExceptHandler (some (.Name x np)) (some n) (b₀ :: suite) pos' :: hds) ((c, some i, ts) :: l)
section
variable {X : Cx} {body : List Stmt} {h₀ : ExceptHandler} {hds : List ExceptHandler} {l : List Hd} {pos : Pos} {tb : WX → TS} {Wout : WX}
theorem ps_try_manyN (hs : X.stack = X.env :: X.outer) (hf : X.env.frame = some X.env.locals) (hN : X.N.Nodup) (tk : Takes X Wout)
    (hb : ∀ (W : WX) (pn : List (Addr × Obj)) (xe : Value → Shared → Prop), Takes (X.tr pn xe) W → PassesOwn (model X.prog X.w) X.A X.env xe → PSs (X.tr pn xe) body (tb W))
    (hh : HdsN X (h₀ :: hds) l) : PS X (.Try body (h₀ :: hds) [] [] pos) (fun D σ H => tb (wManyN X.K Wout D l) D σ H) := by
  refine ⟨fun pins s σ H D I h => ?_⟩
  have ok := I.ok
  have hfr : X.A.frames = some (X.env :: X.outer) := by
    rw [ok.frames, hs]
  refine wpAny_Try_except ?_
  refine wpAny_mono ((hb (wManyN X.K Wout D l) (X.pn ++ pins) (fun e s₁ => wpAny (model X.prog X.w) X.A (noteFrame e X.env)
    (fun _ s₂ => wpAny (model X.prog X.w) X.A (setFlight e none) (fun _ s₃ => wpAny (model X.prog X.w) X.A (handleBy e X.env (h₀ :: hds)) (SP X pins D) X.xe s₃) X.xe s₂) X.xe s₁)
    (fun u s' xx => ?_) PassesOwn.looking).run [] s σ H D (I.toTry _) h) (fun f s1 hsp => ?_) (fun e s1 he => he)
  · obtain ⟨a, B, sI, pins', σ', H', cls, d, rfl, J', nb, up, sky, na, os, ag, wish⟩ := xx
    have J : Inv X pins σ' H' sI := J'.ofTry ok
    have sky2 := sky
    rw [show (X.tr (X.pn ++ pins) _).stack = X.env :: X.outer from hs] at sky2
    show wpAny (model X.prog X.w) X.A (noteFrame (.ref a) X.env) _ _ _
    refine Sky.land Zc.steady hfr hf sky2 fun h3 fl3 up3 => ?_
    have J3 : Inv X pins σ' H' { s' with heap := h3 } := J.landed nb fl3.1 (up.trans up3) os ag
    obtain ⟨oe3, vs3, he3, hz3, hd3⟩ := fl3.there
    have nfr : a ∉ frs (X.env :: X.outer) := fun hm => by
      obtain ⟨_, o', e', hnf⟩ := fl3.2.2.1.mem hm
      rw [he3] at e'
      cases e'
      exact hnf _ hd3
    have nL : a ≠ X.env.locals := fun z => nfr (List.mem_filterMap.mpr ⟨X.env, List.mem_cons_self, by rw [hf, z]⟩)
    have nF : a ∉ X.fs := fun hm => by
      obtain ⟨e, he, q⟩ := List.mem_filterMap.mp hm
      exact nfr (List.mem_filterMap.mpr ⟨e, List.mem_cons_of_mem _ he, q⟩)
    have S3 := J3.suite he3 hd3 na nL nF
    have LT : PySem.W.Looks (model X.prog X.w) h3 (typeOf (.ref a)) cls := fun A Q E s k q => by
      refine wpAny_typeOf_ref (k _ _ he3) ?_
      rw [hz3.1]
      exact q
    have test : ∀ {x : Str} {c : Value} {np : Pos} {Q : Value → Shared → Prop} {E : Value → Shared → Prop}, Names X x c → Q c { s' with heap := h3 } →
        wpAny (model X.prog X.w) (X.A.mark (some (.ref a))) (eval (.Name x np) X.env) Q E { s' with heap := h3 } := fun {x c np Q E} hc q => by
      obtain ⟨hg, hdbg, hm | ⟨hm, hv, hnn⟩⟩ := hc
      · exact ld_glob (X := X.suite a ((a, oe3) :: (X.pn ++ pins))) S3 hg hm q hdbg
      · exact ld_blt (X := X.suite a ((a, oe3) :: (X.pn ++ pins))) S3 hg hm hv q hnn hdbg
    have go : ∀ {hds' : List ExceptHandler} {l' : List Hd}, HdsN X hds' l' → wManyN X.K Wout D l' cls d σ' H' →
        wpAny (model X.prog X.w) X.A (handleBy (.ref a) X.env hds') (SP X pins D) X.xe { s' with heap := h3 } := by
      intro hds' l' hk
      induction hk with
      | nil =>
        intro w
        refine wpAny_handleBy_nil ?_
        obtain ⟨k1, k2, k3, oe, vs, T, oT, ts', he, hz, hd, h1, hr⟩ := id fl3
        unfold PySem.passOn
        refine wpAny_bind (wpAny_field he hd h1 ?_)
        rw [if_neg (show ¬ ((Value.ref T == Value.none) = true) from by simp)]
        have fin : wpAny (model X.prog X.w) X.A (setFlight (.ref a) X.env.frame) (fun _ s4 => wpAny (model X.prog X.w) X.A (throw (.ref a) : Sem Flow) (SP X pins D) X.xe s4) X.xe { s' with heap := h3 } := by
          rw [hf]
          refine HandSPX.setFlight_upZ fl3 fun h4 hh4 up4 => wpAny_throw (tk _ _ ?_)
          refine ⟨a, B, sI, pins, σ', H', cls, d, rfl, J, nb, (up.trans up3).trans up4, .inr (.inr ?_), na, os, ag, w⟩
          rw [hs]
          exact hh4
        first
          | exact wpAny_bind (wpAny_pure (wpAny_bind fin))
          | exact wpAny_bind fin
      | @cons x c ts b₀ suite np pos' hds2 l2 hc hsu r ih =>
        intro w
        obtain ⟨b, hb1, hyes, hno⟩ := w
        refine wpAny_handleBy_cons (codeAny_handlers_test ?_) (by intro q; cases q)
        have LM := PySem.W.exm_one (M := model X.prog X.w) (J3.kIn) LT hb1
        refine test hc (LM.here ?_)
        cases b with
        | false =>
          show wpAny _ X.A (handleBy (.ref a) X.env hds2) _ _ _
          exact ih (hno rfl)
        | true =>
          refine codeAny_handlers_suite (HandSPX.lands_againZ fl3 fun h4 fl4 up4 => ?_)
          have J4 : Inv X pins σ' H' { s' with heap := h4 } := J.landed nb fl4.1 ((up.trans up3).trans up4) os ag
          obtain ⟨oe4, vs4, he4, hz4, hd4⟩ := fl4.there
          have S4 := J4.suite he4 hd4 na nL nF
          refine wpAny_mono ((hsu a oe4 cls d (X.pn ++ pins) hz4 ⟨_, hd4⟩).run [] _ _ H' _ S4 (hyes rfl a na)) (fun f s6 hsp => ?_) fun _ _ z => False.elim z
          cases f with
          | ret u =>
            obtain ⟨v6, σ6, H6, S6, r6, q6⟩ := hsp
            exact ⟨_, _, _, S6.unsuite ok, r6, q6⟩
          | next =>
            obtain ⟨σ6, H6, S6, q6⟩ := hsp
            exact ⟨_, _, S6.unsuite ok, q6⟩
          | brk =>
            obtain ⟨σ6, H6, S6, q6⟩ := hsp
            exact ⟨_, _, S6.unsuite ok, q6⟩
          | cont =>
            obtain ⟨σ6, H6, S6, q6⟩ := hsp
            exact ⟨_, _, S6.unsuite ok, q6⟩
      | @named x n i c ts b₀ suite np pos' hds2 l2 hi hln hc hsu r ih =>
        intro w
        obtain ⟨b, hb1, hyes, hno⟩ := w
        refine wpAny_handleBy_cons (codeAny_handlers_test ?_) (by intro q; cases q)
        have LM := PySem.W.exm_one (M := model X.prog X.w) (J3.kIn) LT hb1
        refine test hc (LM.here ?_)
        cases b with
        | false =>
          show wpAny _ X.A (handleBy (.ref a) X.env hds2) _ _ _
          exact ih (hno rfl)
        | true =>
          refine codeAny_handlers_suite_as (HandSPX.lands_againZ fl3 fun h4 fl4 up4 => ?_)
          have J4 : Inv X pins σ' H' { s' with heap := h4 } := J.landed nb fl4.1 ((up.trans up3).trans up4) os ag
          obtain ⟨oe4, vs4, he4, hz4, hd4⟩ := fl4.there
          have S4 := J4.suite he4 hd4 na nL nF
          refine store_ok (X := X.suite a ((a, oe4) :: (X.pn ++ pins))) (v := .ref a) S4 hN hi (.inl hln) rfl (fun s5 S5 => ?_) (.inr hln)
          refine wpAny_mono ((hsu a oe4 cls d (X.pn ++ pins) hz4 ⟨_, hd4⟩).run [] s5 _ H' _ S5 (hyes rfl a na)) (fun f s6 hsp => ?_) fun _ _ z => False.elim z
          have off : ∀ {σ6 : L2.St} {H6 : Hp} {Q : Shared → Prop}, Inv (X.suite a ((a, oe4) :: (X.pn ++ pins))) [] σ6 H6 s6 → (∀ s7, Inv X pins (σ6.set i none) H6 s7 → Q s7) →
              wpAny (model X.prog X.w) X.A (do bindName X.env n .none; unbindBehindTheSuite X.env n pos') (fun _ s7 => Q s7) X.xe s6 := fun {σ6 H6 Q} S6 hq => gone_ok (S6.unsuite ok) hN hi hln hq
          cases f with
          | ret u =>
            obtain ⟨v6, σ6, H6, S6, r6, q6⟩ := hsp
            exact off S6 fun s7 J7 => ⟨_, _, _, J7, r6, q6⟩
          | next =>
            obtain ⟨σ6, H6, S6, q6⟩ := hsp
            exact off S6 fun s7 J7 => ⟨_, _, J7, q6⟩
          | brk =>
            obtain ⟨σ6, H6, S6, q6⟩ := hsp
            exact off S6 fun s7 J7 => ⟨_, _, J7, q6⟩
          | cont =>
            obtain ⟨σ6, H6, S6, q6⟩ := hsp
            exact off S6 fun s7 J7 => ⟨_, _, J7, q6⟩
    exact go hh wish
  · cases f with
    | ret u =>
      obtain ⟨v, σ', H', J', r, q⟩ := hsp
      exact ⟨v, σ', H', J'.ofTry ok, r, q⟩
    | next =>
      obtain ⟨σ', H', J', q⟩ := hsp
      exact wpAny_execs_nil ⟨σ', H', J'.ofTry ok, q⟩
    | brk =>
      obtain ⟨σ', H', J', q⟩ := hsp
      exact ⟨σ', H', J'.ofTry ok, q⟩
    | cont =>
      obtain ⟨σ', H', J', q⟩ := hsp
      exact ⟨σ', H', J'.ofTry ok, q⟩
/-- .. as what to show -/
def tTryN (tb : WX → TS) (K : PySem.W.Frag) (Wout : WX) (l : List Hd) : TS := fun D σ H => tb (wManyN K Wout D l) D σ H
theorem y_tryN {D : Ends} {σ : L2.St} {H : Hp} {K : PySem.W.Frag} (q : tb (wManyN K Wout D l) D σ H) : tTryN tb K Wout l D σ H := q
end
section
variable {K : PySem.W.Frag} {C : Addr} {f : Str} {te : TE} {σ : L2.St} {H : Hp} {Q : VK}
/-- e.f of the caught exception -/
theorem y_xf {a dd : Addr} {fs : List (Str × V)} {v : V} (q : te σ H fun x H1 => x = .ref a ∧ H1 dd = some (.xd fs) ∧ fs.lookup f = some v ∧ Q v H1) (m : ∀ {P P' : V → Hp → Prop}, (∀ x H, P x H → P' x H) → te σ H P → te σ H P') : tXf a (.ref C) (some dd) C f te σ H Q :=
  m (fun x H1 h => ⟨h.1, rfl, dd, fs, v, rfl, h.2.1, h.2.2.1, h.2.2.2⟩) q
end
section
/-- one of two readings -/
def tOrS (s s' : TS) : TS := fun D σ H => s D σ H ∨ s' D σ H
theorem ps_or {X : Cx} {st : Stmt} {s s' : TS} (h : PS X st s) (h' : PS X st s') : PS X st (tOrS s s') := ⟨fun pins s1 σ H D I q => q.elim (h.run pins s1 σ H D I) (h'.run pins s1 σ H D I)⟩
theorem y_orL {s s' : TS} {D : Ends} {σ : L2.St} {H : Hp} (q : s D σ H) : tOrS s s' D σ H := .inl q
theorem y_orR {s s' : TS} {D : Ends} {σ : L2.St} {H : Hp} (q : s' D σ H) : tOrS s s' D σ H := .inr q
theorem y_callSD {sp : Sp} {dvs : List V} {E : L2.St → XK} {t : TA} {σ : L2.St} {H : Hp} {Q : VK} (q : t σ H fun vs H1 => sp (vs ++ dvs) H1 Q (E σ)) : tCallSD sp dvs E t σ H Q := q
/-- a thing of any kind that is looked at by its type -/
inductive Kd (H : Hp) : V → Prop
  | non : Kd H .non
  | bl (b : Bool) : Kd H (.bl b)
  | int (i : Int) : Kd H (.int i)
  | str (z : Str) : Kd H (.str z)
  | lst {a : Addr} {xs : List V} (h : H a = some (.lst xs)) : Kd H (.ref a)
  | tup {a : Addr} {xs : List V} (h : H a = some (.tup xs)) : Kd H (.ref a)
  | dct {a : Addr} {kvs : List (Key × V)} (h : H a = some (.dK kvs)) : Kd H (.ref a)
theorem Kd.same {H H' : Hp} {x : V} (k : Kd H x) (e : Same H H') : Kd H' x := by
  cases k with
  | non => exact .non
  | bl b => exact .bl b
  | int i => exact .int i
  | str z => exact .str z
  | lst h => exact .lst (e _ _ h)
  | tup h => exact .tup (e _ _ h)
  | dct h => exact .dct (e _ _ h)
/-- is it a whole number from lo to hi -/
def isW : V → Int → Int → Bool
  | .int i, lo, hi => decide (lo ≤ i) && decide (i ≤ hi)
  | _, _, _ => false
/-- refused with an error of the class at C that holds v as `found` -/
def Refu (H : Hp) (E : XK) (C : Addr) (v : V) : Prop := ∀ d H', Same H H' → H' d = some (.xd [(("found" : Str), v)]) → E (.ref C) (some d) H'
theorem Refu.same {H H' : Hp} {E : XK} {C : Addr} {v : V} (r : Refu H E C v) (e : Same H H') : Refu H' E C v := fun d H2 e2 hd => r d H2 (e.trans e2) hd
end
end Y
/-! Y: two values that are alike as data, level by level; rules that a law's own comparison needs. -/
namespace Y
open PySem PySem.Spec PyProof.Rows L2 LiI
/-- None, a truth, a whole number, a text of no great length -/
inductive Sc : V → Prop
  | non : Sc .non
  | bl (b : Bool) : Sc (.bl b)
  | int (i : Int) : Sc (.int i)
  | str {z : Str} (h : z.length ≤ 1000) : Sc (.str z)
/-- alike as data of a depth -/
inductive Al (H : Hp) : Nat → V → V → Prop
  | sc {n : Nat} {x : V} (h : Sc x) : Al H n x x
  | lst {n : Nat} {a b : Addr} {xs ys : List V} (ha : H a = some (.lst xs)) (hb : H b = some (.lst ys)) (hl : xs.length = ys.length) (h1 : xs.length ≤ 1000) (h : ∀ (i : Nat) u v, xs[i]? = some u → ys[i]? = some v → Al H n u v) : Al H (n + 1) (.ref a) (.ref b)
  | tup {n : Nat} {a b : Addr} {xs ys : List V} (ha : H a = some (.tup xs)) (hb : H b = some (.tup ys)) (hl : xs.length = ys.length) (h1 : xs.length ≤ 1000) (h : ∀ (i : Nat) u v, xs[i]? = some u → ys[i]? = some v → Al H n u v) : Al H (n + 1) (.ref a) (.ref b)
  | dct {n : Nat} {a b : Addr} {kvs kws : List (Key × V)} (ha : H a = some (.dK kvs)) (hb : H b = some (.dK kws)) (hl : kvs.length = kws.length) (h1 : kvs.length ≤ 1000) (hk : ∀ (i : Nat) p q, kvs[i]? = some p → kws[i]? = some q → p.1 = q.1) (hs : ∀ (i : Nat) p, kvs[i]? = some p → Sc (kV p.1)) (h : ∀ (i : Nat) p q, kvs[i]? = some p → kws[i]? = some q → Al H n p.2 q.2) : Al H (n + 3) (.ref a) (.ref b)
theorem Al.same {H H' : Hp} {n : Nat} {x y : V} (h : Al H n x y) (e : Same H H') : Al H' n x y := by
  induction h with
  | sc h => exact .sc h
  | lst ha hb hl h1 _ ih => exact .lst (e _ _ ha) (e _ _ hb) hl h1 ih
  | tup ha hb hl h1 _ ih => exact .tup (e _ _ ha) (e _ _ hb) hl h1 ih
  | dct ha hb hl h1 hk hs _ ih => exact .dct (e _ _ ha) (e _ _ hb) hl h1 hk hs ih
theorem Al.up {H : Hp} {n : Nat} {x y : V} (h : Al H n x y) : Al H (n + 1) x y := by
  induction h with
  | sc h => exact .sc h
  | lst ha hb hl h1 _ ih => exact .lst ha hb hl h1 ih
  | tup ha hb hl h1 _ ih => exact .tup ha hb hl h1 ih
  | dct ha hb hl h1 hk hs _ ih => exact .dct ha hb hl h1 hk hs ih
theorem Al.le {H : Hp} {n m : Nat} {x y : V} (h : Al H n x y) (l : n ≤ m) : Al H m x y := by
  induction l with
  | refl => exact h
  | step _ ih => exact ih.up
section
variable {K : PySem.W.Frag} {H : Hp} {Q : VK} {te : TE} {σ : L2.St}
theorem y_lItems (q : te σ H fun x H1 => rItemsL x H1 Q) : tListItems te σ H Q := q
theorem y_itemsL {a : Addr} {kvs : List (Key × V)} (h : H a = some (.dK kvs)) (q : ∀ (H' : Hp) (p : Addr) (ts : List Addr), Same H H' → H p = none → H' p = some (.lst (ts.map V.ref)) → ts.length = kvs.length → (∀ (i : Nat) (t : Addr) (kv : Key × V), ts[i]? = some t → kvs[i]? = some kv → H' t = some (.tup [kV kv.1, kv.2])) → Q (.ref p) H') : rItemsL (.ref a) H Q := by
  refine ⟨a, kvs, rfl, h, fun H' p ts e np _ _ hp hP => q H' p ts (fun b o hb => e b o hb) np hp (Paired.length hP) fun i t kv h1 h2 => ?_⟩
  obtain ⟨kv', h3, h4⟩ := L2.paired_get hP h1
  rw [h2] at h3
  have := Option.some.inj h3
  subst this
  exact h4
theorem y_isBl {a b : Bool} (q : Q (.bl (decide (a = b))) H) : rIsB (.bl a) (.bl b) H Q := ⟨a, b, rfl, rfl, q⟩
theorem y_slS {z : Str} {lo hi : Option Int} (h : z.length ≤ sizeLine) (q : Q (.str (cutS z lo hi)) H) : rSlS (.str z) lo hi H Q := ⟨z, rfl, h, q⟩
theorem y_ixS {z : Str} {i : Int} {c : Nat} (h : z.length ≤ sizeLine) (ha : atI z.cps.toList i = some c) (q : Q (.str ⟨#[c]⟩) H) : rSub K (.str z) (.int i) H Q := .inl (.inr (.inr ⟨z, i, c, rfl, rfl, h, ha, q⟩))
end
theorem cut_sign {z : Str} {k c : Nat} (h : z.cps.toList[k]? = some c) : cutS z (some (k : Int)) (some ((k : Int) + 1)) = ⟨#[c]⟩ := by
  have hk : k < z.cps.toList.length := (List.getElem?_eq_some_iff.mp h).1
  have hz : z.length = z.cps.toList.length := by
    show z.cps.size = _
    rw [Array.length_toList]
  unfold cutS HT.sIx
  rw [hz]
  have e1 : ¬ ((k : Int) < 0) := by omega
  have e2 : ¬ ((k : Int) + 1 < 0) := by omega
  have e3 : min ((k : Int) + 1).toNat z.cps.toList.length = k + 1 := by omega
  have e4 : min ((k : Int)).toNat z.cps.toList.length = k := by omega
  simp only [e1, e2, if_false, e3, e4]
  have e5 : (z.cps.toList.drop k).take (k + 1 - k) = [c] := by
    rw [List.drop_eq_getElem_cons hk, show k + 1 - k = 1 by omega]
    have := (List.getElem?_eq_some_iff.mp h).2
    simp [this]
  first
    | rw [e5]
    | (simp; done)
theorem fm_non {α β : Type} (xs : List α) : xs.filterMap (fun _ => (none : Option β)) = [] := by
  induction xs with
  | nil => rfl
  | cons x xs ih => rw [List.filterMap_cons]; exact ih
end Y
/-! Y: for i, x in enumerate(t), t a tuple. -/
namespace Y
open PySem PySem.Spec PyProof.Rows L2
set_option maxHeartbeats 1000000 in
theorem newEnum1 {v : Value} {o : Obj} {Hh : Heap → Prop} (B : Begins v o Hh) :
    Meets (Builtin.«enumerate.__new__» ⟨[.type "enumerate", v], []⟩) (fun _ R s => Hh s.heap ∧ R (.ok (.ret (.ref (s.heap.push o).objs.size))) { s with heap := (s.heap.push o).push { cls := .type "enumerate", data := .fields #[.none, .bool false, .ref s.heap.objs.size, rawInt 0, .none, .none] } }) :=
  .of_wp fun prog w A R s h => by
    obtain ⟨hp, g, d, tk, os⟩ := s
    obtain ⟨h1, h⟩ := h
    have hsub := sub_enumerate
    have it : ∀ {A' : Around} {E : Value → Shared → Prop} {Q : Value → Shared → Prop}, Q (.ref hp.objs.size) ⟨hp.push o, g, d, tk, os⟩ → wpAny (model prog w) A' (pyIter v) Q E ⟨hp, g, d, tk, os⟩ := fun q => B.iter prog w _ _ ⟨hp, g, d, tk, os⟩ _ h1 q
    wp_walk using it
    refine wpAny_stack_any fun st => wpAny_pure ?_
    split
    · rename_i c _ _ _ _ _
      cases (c == Value.type "enumerate")
      · wp_walk using it
        exact ⟨_, rfl, h⟩
      · wp_walk using it
        exact ⟨_, rfl, h⟩
    · wp_walk using it
      exact ⟨_, rfl, h⟩
theorem call_enumB {prog : Program} {w : World} {A : Around} {E : Value → Shared → Prop} {s : Shared} {a : Addr} {o : Obj} {Hh : Heap → Prop} {Q : Value → Shared → Prop} (B : Begins (.ref a) o Hh) (h1 : Hh s.heap)
    (h : ∀ h', IsEnum h' (s.heap.objs.size + 1) s.heap.objs.size 0 .none → h'.get? s.heap.objs.size = some o → h'.objs.size = s.heap.objs.size + 2 → (∀ b o, s.heap.get? b = some o → h'.get? b = some o) → Q (.ref (s.heap.objs.size + 1)) { s with heap := h' }) :
    wpAny (model prog w) A (call (.type "enumerate") [.ref a]) Q E s := by
  refine callType_new F.called_enumerate (by decide) (F.typeCall_enumerate_1 _) (F.newCall_enumerate_1 _) (fun obj => F.args_object_init_2 obj _) F.entry_enumerate_new (newEnum1 B) ⟨h1, ?_⟩
  have hz : (s.heap.push o).objs.size = s.heap.objs.size + 1 := Heap.size_push ..
  show _ ∧ _
  rw [hz]
  have he : IsEnum ((s.heap.push o).push { cls := .type "enumerate", data := .fields #[.none, .bool false, .ref s.heap.objs.size, rawInt 0, .none, .none] }) (s.heap.objs.size + 1) s.heap.objs.size 0 .none := by
    have p := Heap.get?_push_size (s.heap.push o) (o := { cls := .type "enumerate", data := .fields #[.none, .bool false, .ref s.heap.objs.size, rawInt 0, .none, .none] }) rfl
    rw [hz] at p
    exact p
  exact ⟨⟨_, he, rfl⟩, h _ he (Heap.get?_push_of_some _ (Heap.get?_push_size _ B.free)) (by rw [Heap.size_push, hz]) fun b o x => Heap.get?_push_of_some _ (Heap.get?_push_of_some _ x)⟩
/-- the tuple at a, each item in a new pair -/
def Itet (K : PySem.W.Frag) (a : Addr) : It :=
  ⟨fun i H => ∃ (xs : List V) (x : V), SqT K H a xs ∧ xs[i]? = some x,
   fun i H v H' => ∃ T x, v = .ref T ∧ H T = none ∧ H' = upd H T (.tup [.int (i : Nat), x]) ∧ ∀ xs, SqT K H a xs → xs[i]? = some x,
   fun i H => ∃ xs : List V, SqT K H a xs ∧ xs.length = i⟩
theorem turn_enumT {P : Program} {w : World} {K : PySem.W.Frag} {elts : List Expr} {kk : Nat} {tpos : Pos} (a e it : Addr) :
    Turn P w K (.Tuple elts kk tpos) (Itet K a) [e, it] e (fun i h => (∃ old, IsEnum h e it ((i : Nat) : Int) old) ∧ h.IsTupleIter it a i ∧ e ≠ it) := by
  refine { mem := by simp, obj := ?_, keep := ?_, item := ?_, done := ?_, self := ?_ }
  · intro i h st b hb
    obtain ⟨⟨old, he⟩, ⟨o, ho, hc, hd⟩, _⟩ := st
    have e' : b = e ∨ b = it := by simpa using hb
    rcases e' with z | z
    · rw [z]
      exact ⟨_, he, fun v q => nomatch q⟩
    · rw [z]
      exact ⟨o, ho, fun v q => by rw [hd] at q; cases q⟩
  · intro i h h' st k
    obtain ⟨⟨old, he⟩, hi, hne⟩ := st
    exact ⟨⟨old, k e (by simp) _ he⟩, hi.at fun o q => k it (by simp) o q, hne⟩
  · intro X hP hw hK hc i pins s σ H E I hf st hg
    subst hP hw hK
    obtain ⟨⟨old, he⟩, hit, hne⟩ := st
    obtain ⟨xs, x, hq, hx⟩ := hg
    obtain ⟨its, rv, p, hz⟩ := I.tuple hq
    obtain ⟨u, hu, ru⟩ := rv.get hx
    have hel : e < s.heap.objs.size := Heap.lt_size he
    have hil : it < s.heap.objs.size := by
      obtain ⟨_, q, _⟩ := hit
      exact Heap.lt_size q
    have hai : a ≠ it := fun z => by
      obtain ⟨o1, h1, c1, _⟩ := p
      obtain ⟨o2, h2, c2, _⟩ := hit
      rw [z, h2] at h1
      cases h1
      rw [c1] at c2
      exact absurd c2 (by decide)
    have hae : a ≠ e := fun z => by
      obtain ⟨o1, h1, c1, _⟩ := p
      rw [z, he] at h1
      cases h1
      exact absurd (show Value.type "enumerate" = Value.type "tuple" from c1) (by decide)
    have hlt : i < its.toArray.size := by
      have := (List.getElem?_eq_some_iff.mp hu).1
      simpa using this
    have D := Draws.tuple (prog := X.prog) (w := X.w) (A := X.A.in1) (by first | exact I.ok.hd hc | (have := I.ok.hd hc; simpa [Around.in1] using this)) it a hai its.toArray
    refine wpAny_pyNext_enum_itemD D he ⟨hit, p⟩ hlt hne (by simp; exact ⟨hne, Ne.symm hae⟩) fun y h' tk hy ho hst hT hsz hk => ?_
    have hyu : y = u := by
      have h2 : its.toArray[i]? = some u := by simpa using hu
      rw [h2] at hy
      exact (Option.some.inj hy).symm
    subst hyu
    refine ⟨_, rfl, wpAny_letOwnedTupleGo_enum (s := { s with heap := h', toks := tk + 1 }) ho fun h'' he' sb => ?_⟩
    have hT2 : h''.get? s.heap.objs.size = some { cls := .type "tuple", data := .seq #[.int i tk, y] } := (sb.2 _ (Nat.ne_of_gt hel)).trans hT
    have new : ObjOk X.prog X.w (upd H s.heap.objs.size (.tup [.int (i : Nat), x])) h'' s.heap.objs.size (.tup [.int (i : Nat), x]) :=
      ⟨by show 2 ≤ sizeLine; decide, [.int i tk, y], .cons ⟨_, rfl⟩ (.cons ru .nil), ⟨_, hT2, rfl, _, rfl⟩⟩
    have I1 : Inv X pins σ (upd H s.heap.objs.size (.tup [.int (i : Nat), x])) { s with heap := h'', toks := tk + 1 } :=
      I.turnedNew (ch := [e, it]) (fun b ob hb q => (sb.2 b (fun z => hb (by simp [z]))).trans (hk b ob (fun z => hb (by simp [z])) (fun z => hb (by simp [z])) q)) hf (Nat.le_refl _) new
    refine ⟨.ref s.heap.objs.size, _, I1, rfl, ⟨_, x, rfl, I.hok.fresh (Nat.le_refl _), rfl, fun ys hy => by rw [I.tuple_inj hy hq]; exact hx⟩, ⟨⟨y, ?_⟩, hst.1.at fun o q => (sb.2 it (Ne.symm hne)).trans q, hne⟩, fun b hb => ?_⟩
    · have e1 : ((i + 1 : Nat) : Int) = (i : Int) + 1 := by omega
      rw [e1]
      exact he'
    · have hb' : b < s.heap.objs.size := by
        have e' : b = e ∨ b = it := by simpa using hb
        rcases e' with z | z
        · rw [z]; exact hel
        · rw [z]; exact hil
      rw [upd_ne (Nat.ne_of_lt hb')]
      exact (hf b hb).1
  · intro X hP hw hK hc i pins s σ H E I hf st hg
    subst hP hw hK
    obtain ⟨⟨old, he⟩, hit, hne⟩ := st
    obtain ⟨xs, hq, hx⟩ := hg
    obtain ⟨its, rv, p, hz⟩ := I.tuple hq
    obtain ⟨f0, f1, f2, f3, f4, f5⟩ := hf it (by simp)
    have hl := rv.length
    have hai : a ≠ it := fun z => by
      obtain ⟨o1, h1, c1, _⟩ := p
      obtain ⟨o2, h2, c2, _⟩ := hit
      rw [z, h2] at h1
      cases h1
      rw [c1] at c2
      exact absurd c2 (by decide)
    have D := Draws.tuple (prog := X.prog) (w := X.w) (A := X.A.in1) (by first | exact I.ok.hd hc | (have := I.ok.hd hc; simpa [Around.in1] using this)) it a hai its.toArray
    have hi : i = its.toArray.size := by
      simp
      omega
    refine wpAny_pyNext_enum_endD D he ?_ fun h' eb => ⟨rfl, I.turned (t' := s.toks) (fun b o hb q => eb b o hb q) f0 f1 f3 f4 f5⟩
    rw [← hi]
    exact ⟨hit, p⟩
  · intro A i s Q E st h
    obtain ⟨⟨_, he⟩, _⟩ := st
    exact wpAny_pyIter_enum he h
def iEnumT (K : PySem.W.Frag) (ta : TA) : TI := fun σ H R => ta σ H fun vs H1 => ∃ a xs, vs = [.ref a] ∧ SqT K H1 a xs ∧ R (Itet K a) H1
theorem pi_enumT {X : Cx} {e : Expr} {ta : TA} {p pos tpos : Pos} {elts : List Expr} {kk : Nat} (hg : Gl X "enumerate") (hm : X.mg "enumerate" = none) (ha : PA X [e] ta) (hs : starEach [e] X.env = [(false, eval e X.env)] := by rfl) :
    PI X (.Tuple elts kk tpos) (.Call (.Name "enumerate" p) [e] [] pos) (iEnumT X.K ta) := by
  refine ⟨fun pins s σ H R I h => ?_⟩
  refine Call_ (ld_blt I hg hm boot_enumerate (PyProof.Rows.callWith_type1 (thn (ha.run pos pins s σ H _ I h) fun us s1 hus => ?_) hs rfl))
  obtain ⟨vs, H1, I1, r1, a, xs, ex, hq, q⟩ := hus
  subst ex
  cases r1 with
  | cons r rr =>
    cases rr
    cases r
    obtain ⟨its, rv, p', hz⟩ := I1.tuple hq
    refine call_enumB (begins_tuple a its.toArray) p' fun h' he hit hsz hk => wpAny_pyIter_enum he ?_
    have I2 : Inv X pins σ H1 { s1 with heap := h' } := I1.kept (t' := s1.toks) hk
    refine ⟨s1.heap.objs.size + 1, [s1.heap.objs.size + 1, s1.heap.objs.size], _, _, H1, rfl, I2, turn_enumT a (s1.heap.objs.size + 1) s1.heap.objs.size, ⟨⟨.none, he⟩, ⟨_, hit, rfl, rfl⟩, Nat.succ_ne_self _⟩, fun b hb => ?_, q⟩
    have e' : b = s1.heap.objs.size + 1 ∨ b = s1.heap.objs.size := by simpa using hb
    have hle : s1.heap.objs.size ≤ b := by
      rcases e' with z | z
      · rw [z]; exact Nat.le_add_right _ _
      · rw [z]; exact Nat.le_refl _
    exact I1.fpOk hle (I1.hok.fresh hle)
theorem walk_enumT {K : PySem.W.Frag} {a : Addr} {xs : List V} : Walk (Itet K a) xs.length (fun H => SqT K H a xs) (YPair (fun i => some (.int (i : Nat))) (fun i => xs[i]?)) := by
  refine ⟨fun i _ hi q => ⟨xs, xs[i], q, by simp [hi]⟩, fun _ q => ⟨xs, q, rfl⟩, fun i H v H' _ q y => ?_⟩
  obtain ⟨T, x, h1, h2, h3, h4⟩ := y
  exact ⟨T, .int (i : Nat), x, h1, h2, h3, rfl, h4 xs q⟩
section
variable {X : Cx} {K : PySem.W.Frag}
theorem pi_enumTK {e : Expr} {ta : TA} {p pos tpos : Pos} {elts : List Expr} {kk : Nat} (hg : Gl X "enumerate") (hm : X.mg "enumerate" = none) (ha : PA X [e] ta) (hs : starEach [e] X.env = [(false, eval e X.env)] := by rfl) (hK : X.K = K := by rfl) :
    PI X (.Tuple elts kk tpos) (.Call (.Name "enumerate" p) [e] [] pos) (iEnumT K ta) := by subst hK; exact pi_enumT hg hm ha hs
end
section
variable {K : PySem.W.Frag} {tA : TA} {tl : TE} {σ : L2.St} {H : Hp} {R : It → Hp → Prop} {a : Addr} {xs : List V}
def iOr (w1 w2 : TI) : TI := fun σ H R => w1 σ H R ∨ w2 σ H R
theorem pi_orI {X : Cx} {tg iter : Expr} {w1 w2 : TI} (h1 : PI X tg iter w1) (h2 : PI X tg iter w2) : PI X tg iter (iOr w1 w2) := pi_or h1 h2
theorem y_iorL {w1 w2 : TI} (q : w1 σ H R) : iOr w1 w2 σ H R := .inl q
theorem y_iorR {w1 w2 : TI} (q : w2 σ H R) : iOr w1 w2 σ H R := .inr q
theorem y_iET (q : tA σ H fun vs H1 => ∃ a xs, vs = [.ref a] ∧ SqT K H1 a xs ∧ R (Itet K a) H1) : iEnumT K tA σ H R := q
theorem y_gotET {R : Addr → Prop} (h : H a = some (.tup xs)) (q : R a) : ∃ b ys, [V.ref a] = [.ref b] ∧ SqT K H b ys ∧ R b := ⟨a, xs, rfl, SqT.of h, q⟩
end
section
variable {X : Cx} {K : PySem.W.Frag}
/-- tuple(a list) -/
def rTupA (K : PySem.W.Frag) : List V → Hp → VK → Prop := fun xs H Q => ∃ p ys, xs = [.ref p] ∧ ((SqL K H p ys ∧ ∀ l, H l = none → Q (.ref l) (upd H l (.tup ys))) ∨ (SqT K H p ys ∧ Q (.ref p) H))
theorem call_tupleK (hK : X.K = K := by rfl) : CallR X (.type "tuple") (rTupA K) := by
  subst hK
  exact call_tuple_of
theorem y_tupleL {K : PySem.W.Frag} {H : Hp} {Q : VK} {a : Addr} {xs : List V} (h : H a = some (.lst xs)) (q : ∀ p, H p = none → Q (.ref p) (upd H p (.tup xs))) : rTupA K [.ref a] H Q := ⟨a, xs, rfl, .inl ⟨SqL.of h, q⟩⟩
end
end Y
section
open PySem L2 Y
local macro_rules | `(tactic| walk_at "kt") => `(tactic| with_reducible first | exact kt_NoneType_int | exact kt_NoneType_bool | exact kt_NoneType_str | exact kt_NoneType_list | exact kt_NoneType_tuple | exact kt_NoneType_dict | exact kt_bool_int | exact kt_bool_bool | exact kt_bool_str | exact kt_bool_list | exact kt_bool_tuple | exact kt_bool_dict | exact kt_int_int | exact kt_int_bool | exact kt_int_str | exact kt_int_list | exact kt_int_tuple | exact kt_int_dict | exact kt_str_int | exact kt_str_bool | exact kt_str_str | exact kt_str_list | exact kt_str_tuple | exact kt_str_dict | exact kt_list_int | exact kt_list_bool | exact kt_list_str | exact kt_list_list | exact kt_list_tuple | exact kt_list_dict | exact kt_tuple_int | exact kt_tuple_bool | exact kt_tuple_str | exact kt_tuple_list | exact kt_tuple_tuple | exact kt_tuple_dict | exact kt_dict_int | exact kt_dict_bool | exact kt_dict_str | exact kt_dict_list | exact kt_dict_tuple | exact kt_dict_dict)
local macro_rules | `(tactic| walk_at "ty") => `(tactic| first
  | exact TyX.base (.int _) | exact TyX.base (.bl _) | exact TyX.base .non | exact TyX.base (.str _)
  | exact TyX.base (.lst (by walk_at "hf")) | exact TyX.base (.tup (by walk_at "hf")) | exact TyX.fDict (by walk_at "hf") | exact TyX.base (.dK (by walk_at "hf")))
local macro_rules | `(tactic| walk_at "hf") => `(tactic| first
  | assumption
  | exact upd_same
  | (refine up_new (by assumption) ?_; walk_at "hf")
  | (refine same_at (by assumption) ?_; walk_at "hf")
  | (refine up_ne (by first | assumption | (apply Ne.symm; assumption)) ?_; walk_at "hf"))
local macro_rules | `(tactic| walk_at "y1") => `(tactic| with_reducible first
  | refine y_c ?_ | refine y_op ?_ | refine y_seq ?_ | refine y_asg ?_ | refine y_name ?_ | refine y_ifS ?_ | refine y_ret ?_ | refine y_tt ?_ | refine y_tB ?_ | refine y_bl ?_
  | refine y_acons ?_ | refine y_anil ?_ | refine y_cb ?_ | refine y_call ?_ | refine y_not ?_ | refine y_and ?_ | refine y_or ?_ | refine y_andV ?_ | refine y_orV ?_ | refine y_notV ?_ | refine y_un ?_ | refine y_if ?_ | refine y_chain ?_
  | refine y_next ?_ | refine y_drop ?_ | refine y_retN ?_ | refine y_break ?_ | refine y_cont ?_
  | refine y_addI ?_ | refine y_subI ?_ | refine y_ltI ?_ | refine y_leI ?_ | refine y_gtI ?_ | refine y_geI ?_ | refine y_isNo ?_ | refine y_notNo ?_ | refine y_neg ?_
  | refine y_max2 ?_ | refine y_min2 ?_ | refine y_abs ?_ | refine y_intI ?_ | refine y_intB ?_ | refine y_int1 ?_
  | refine y_for ?_ | refine y_lc ?_ | refine y_iL ?_ | refine y_iT ?_ | refine y_r1 ?_ | refine y_r2 ?_ | refine y_iI ?_ | refine y_iV ?_ | refine y_iK ?_ | refine y_iS ?_ | refine y_gotS ?_ | refine y_iE ?_ | refine y_yes ?_ | refine y_fld ?_ | refine y_sfld ?_ | refine y_gfld ?_ | refine y_sfldaug ?_ | refine y_meth ?_ | refine y_make ?_ | refine y_makeK ?_ | refine y_gi ?_ | refine y_gst ?_ | refine y_callSD ?_ | refine y_iET ?_ | refine y_lItems ?_ | refine y_isBl ?_ | refine y_mkO ?_ | refine y_ipI ?_ | refine y_sign ?_ | refine y_daug ?_ | refine y_dput ?_ | refine y_rAdd ?_ | refine y_lc2 ?_ | refine y_r3 ?_ | refine y_par3 ?_ | refine y_par33 ?_ | refine y_frzE ?_ | refine y_lstRg ?_ | refine y_rg2 ?_ | refine y_rg1 ?_ | refine y_ints2 ?_
  | refine y_T ?_ | refine y_F ?_ | refine y_nT ?_ | refine y_nF ?_
  | refine y_tup ?_ | refine y_lst ?_ | refine y_dnew ?_ | refine y_bm ?_ | refine y_bm0 ?_ | refine y_sl ?_ | refine y_nopart ?_ | refine y_part ?_ | refine y_par ?_ | refine y_par2 ?_ | refine y_gcons ?_ | refine y_gnil ?_ | refine y_gsub ?_)
local macro_rules | `(tactic| walk_at "y2") => `(tactic| first
  | ((with_reducible apply y_var); rfl)
  | ((with_reducible apply y_aug); rfl)
  | ((with_reducible apply y_wipe); rfl)
  | ((with_reducible apply y_ndT); rfl)
  | ((with_reducible apply y_dT); rfl)
  | ((with_reducible apply y_bF); decide)
  | ((with_reducible apply y_bT); decide)
  | ((with_reducible apply y_eqS); rfl)
  | ((with_reducible apply y_neS); rfl)
  | ((with_reducible apply y_lenL); walk_at "hf")
  | ((with_reducible apply y_lenF); walk_at "hf")
  | ((with_reducible apply y_lenT); walk_at "hf")
  | ((with_reducible apply y_lenK); walk_at "hf")
  | ((with_reducible apply y_tylst); walk_at "hf")
  | ((with_reducible apply y_getF); walk_at "hf"; assumption; assumption; walk_at "lk")
  | ((with_reducible apply y_augF); walk_at "hf"; assumption; assumption; walk_at "lk")
  | ((with_reducible apply y_onM); walk_at "hf"; walk_at "lk")
  | ((with_reducible apply y_ixT); walk_at "hf"; rfl)
  | ((with_reducible apply y_ixL); walk_at "hf"; rfl)
  | ((with_reducible apply y_gtup); walk_at "hf"; rfl)
  | ((with_reducible apply y_isi); walk_at "ty"; walk_at "kt")
  | ((with_reducible apply y_isiT); walk_at "hf"; walk_at "ty"; walk_at "kt"; walk_at "kt")
  | ((with_reducible apply y_gotL); walk_at "hf") | ((with_reducible apply y_gotT); walk_at "hf") | ((with_reducible apply y_gotI); walk_at "hf")
  | ((with_reducible apply y_gotK); walk_at "hf") | ((with_reducible apply y_gotE); walk_at "hf") | ((with_reducible apply y_gotET); walk_at "hf"))
local macro_rules | `(tactic| walk_at "y") => `(tactic| first | walk_at "y1" | walk_at "y2")
local macro_rules | `(tactic| walk_at "ys") => `(tactic| repeat (walk_at "y"))

namespace K87
open PySem L2 Y
def top (i : Nat) : Stmt := PySem.Challenge.pw_guestfleet_k87_needs_and_least_promises.main.body.getD i (.Pass ⟨0, 0, 0, 0⟩)
abbrev s_is_whole : Stmt := top 10
theorem sc_is_whole : FnScope ["thing", "low", "high"] ["thing", "low", "high"] (defScope s_is_whole) := ⟨rfl, rfl, rfl, by decide +kernel, rfl, by decide +kernel, by decide +kernel⟩
abbrev s_is_name : Stmt := top 11
theorem sc_is_name : FnScope ["thing", "sign"] ["thing"] (defScope s_is_name) := ⟨rfl, rfl, rfl, by decide +kernel, rfl, by decide +kernel, by decide +kernel⟩
abbrev s_need_length : Stmt := top 16
theorem sc_need_length : FnScope ["length"] ["length"] (defScope s_need_length) := ⟨rfl, rfl, rfl, by decide +kernel, rfl, by decide +kernel, by decide +kernel⟩
abbrev s_are_shares : Stmt := top 17
theorem sc_are_shares : FnScope ["thing", "length", "together", "name", "share", "promise", "ceiling"] ["thing", "length"] (defScope s_are_shares) := ⟨rfl, rfl, rfl, by decide +kernel, rfl, by decide +kernel, by decide +kernel⟩
abbrev s_need_case : Stmt := top 21
theorem sc_need_case : FnScope ["length", "guests", "name"] ["length", "guests", "name"] (defScope s_need_case) := ⟨rfl, rfl, rfl, by decide +kernel, rfl, by decide +kernel, by decide +kernel⟩
abbrev s_ahead_by_promise : Stmt := top 22
theorem sc_ahead_by_promise : FnScope ["share", "other", "used", "earlier", "promise", "ceiling", "its_promise", "its_ceiling", "part", "many"] ["share", "other", "used", "earlier"] (defScope s_ahead_by_promise) := ⟨rfl, rfl, rfl, by decide +kernel, rfl, by decide +kernel, by decide +kernel⟩
abbrev s_ahead : Stmt := top 23
theorem sc_ahead : FnScope ["share", "other", "used", "earlier", "promise", "ceiling", "its_promise", "its_ceiling"] ["share", "other", "used", "earlier"] (defScope s_ahead) := ⟨rfl, rfl, rfl, by decide +kernel, rfl, by decide +kernel, by decide +kernel⟩
abbrev s_turn_of : Stmt := top 24
theorem sc_turn_of : FnScope ["length", "guests", "name", "many", "names", "others", "total", "other", "earlier"] ["length", "guests", "name", "many"] (defScope s_turn_of) := ⟨rfl, rfl, rfl, by decide +kernel, rfl, by decide +kernel, by decide +kernel⟩
abbrev s_latest : Stmt := top 25
theorem sc_latest : FnScope ["length", "guests", "name", "many"] ["length", "guests", "name", "many"] (defScope s_latest) := ⟨rfl, rfl, rfl, by decide +kernel, rfl, by decide +kernel, by decide +kernel⟩
abbrev s_at_least_in : Stmt := top 26
theorem sc_at_least_in : FnScope ["length", "guests", "name", "turns", "found", "many", "turn"] ["length", "guests", "name", "turns"] (defScope s_at_least_in) := ⟨rfl, rfl, rfl, by decide +kernel, rfl, by decide +kernel, by decide +kernel⟩
abbrev s_at_least : Stmt := top 27
theorem sc_at_least : FnScope ["length", "guests", "name", "turns", "whole", "rest"] ["length", "guests", "name", "turns"] (defScope s_at_least) := ⟨rfl, rfl, rfl, by decide +kernel, rfl, by decide +kernel, by decide +kernel⟩
abbrev s_worst : Stmt := top 28
theorem sc_worst : FnScope ["length", "guests", "used", "found", "turn", "best", "name"] ["length", "guests"] (defScope s_worst) := ⟨rfl, rfl, rfl, by decide +kernel, rfl, by decide +kernel, by decide +kernel⟩
abbrev s_are_needs : Stmt := top 30
theorem sc_are_needs : FnScope ["thing", "need", "part"] ["thing"] (defScope s_are_needs) := ⟨rfl, rfl, rfl, by decide +kernel, rfl, by decide +kernel, by decide +kernel⟩
abbrev s_first_unmet : Stmt := top 31
theorem sc_first_unmet : FnScope ["length", "guests", "name", "needs", "short", "at", "turns", "steps"] ["length", "guests", "name", "needs"] (defScope s_first_unmet) := ⟨rfl, rfl, rfl, by decide +kernel, rfl, by decide +kernel, by decide +kernel⟩
abbrev s_with_promise : Stmt := top 32
theorem sc_with_promise : FnScope ["length", "guests", "name", "promise", "ceiling", "changed", "other", "share"] ["length", "guests", "name", "promise"] (defScope s_with_promise) := ⟨rfl, rfl, rfl, by decide +kernel, rfl, by decide +kernel, by decide +kernel⟩
abbrev s_least_promise : Stmt := top 33
theorem sc_least_promise : FnScope ["length", "guests", "name", "needs", "promise", "changed"] ["length", "guests", "name", "needs"] (defScope s_least_promise) := ⟨rfl, rfl, rfl, by decide +kernel, rfl, by decide +kernel, by decide +kernel⟩
abbrev s_NoNumber_init : Stmt := (inClass (top 3) 0)
theorem sc_NoNumber_init : FnScope ["self", "found"] ["self", "found"] (defScope s_NoNumber_init) := ⟨rfl, rfl, rfl, by decide +kernel, rfl, by decide +kernel, by decide +kernel⟩
abbrev s_NoShare_init : Stmt := (inClass (top 4) 0)
theorem sc_NoShare_init : FnScope ["self", "found"] ["self", "found"] (defScope s_NoShare_init) := ⟨rfl, rfl, rfl, by decide +kernel, rfl, by decide +kernel, by decide +kernel⟩
abbrev s_NoGuest_init : Stmt := (inClass (top 5) 0)
theorem sc_NoGuest_init : FnScope ["self", "found"] ["self", "found"] (defScope s_NoGuest_init) := ⟨rfl, rfl, rfl, by decide +kernel, rfl, by decide +kernel, by decide +kernel⟩
abbrev s_NoNeeds_init : Stmt := (inClass (top 6) 0)
theorem sc_NoNeeds_init : FnScope ["self", "found"] ["self", "found"] (defScope s_NoNeeds_init) := ⟨rfl, rfl, rfl, by decide +kernel, rfl, by decide +kernel, by decide +kernel⟩
abbrev s__law_cell : Stmt := top 35
theorem sc__law_cell : FnScope ["script", "k"] ["script", "k"] (defScope s__law_cell) := ⟨rfl, rfl, rfl, by decide +kernel, rfl, by decide +kernel, by decide +kernel⟩
abbrev s__law_box : Stmt := top 36
theorem sc__law_box : FnScope ["cell", "great"] ["cell"] (defScope s__law_box) := ⟨rfl, rfl, rfl, by decide +kernel, rfl, by decide +kernel, by decide +kernel⟩
abbrev s__law_take : Stmt := top 37
theorem sc__law_take : FnScope ["box", "many", "digit", "one", "two"] ["box", "many"] (defScope s__law_take) := ⟨rfl, rfl, rfl, by decide +kernel, rfl, by decide +kernel, by decide +kernel⟩
abbrev s__law_same : Stmt := top 38
theorem sc__law_same : FnScope ["told", "due", "same", "k"] ["told", "due"] (defScope s__law_same) := ⟨rfl, rfl, rfl, by decide +kernel, rfl, by decide +kernel, by decide +kernel⟩
abbrev s__law_deal : Stmt := top 39
theorem sc__law_deal : FnScope ["guests", "used", "ready", "names", "first", "best", "name"] ["guests", "used", "ready"] (defScope s__law_deal) := ⟨rfl, rfl, rfl, by decide +kernel, rfl, by decide +kernel, by decide +kernel⟩
abbrev s__law_stretch : Stmt := top 40
theorem sc__law_stretch : FnScope ["guests", "length", "name", "choose", "used", "found", "turn", "got", "one"] ["guests", "length", "name", "choose"] (defScope s__law_stretch) := ⟨rfl, rfl, rfl, by decide +kernel, rfl, by decide +kernel, by decide +kernel⟩
abbrev s__law_case : Stmt := top 41
theorem sc__law_case : FnScope ["box", "length", "left", "guests", "name", "promise", "low", "ceiling", "names", "order", "k"] ["box"] (defScope s__law_case) := ⟨rfl, rfl, rfl, by decide +kernel, rfl, by decide +kernel, by decide +kernel⟩
abbrev s__law_surely : Stmt := top 42
theorem sc__law_surely : FnScope ["length", "guests", "name", "turns", "due", "one", "turn"] ["length", "guests", "name", "turns"] (defScope s__law_surely) := ⟨rfl, rfl, rfl, by decide +kernel, rfl, by decide +kernel, by decide +kernel⟩
abbrev s__law_unmet : Stmt := top 43
theorem sc__law_unmet : FnScope ["length", "guests", "name", "needs", "some", "k"] ["length", "guests", "name", "needs"] (defScope s__law_unmet) := ⟨rfl, rfl, rfl, by decide +kernel, rfl, by decide +kernel, by decide +kernel⟩
abbrev s__law_least : Stmt := top 44
theorem sc__law_least : FnScope ["length", "guests", "name", "needs", "others", "promise", "changed", "one", "share"] ["length", "guests", "name", "needs"] (defScope s__law_least) := ⟨rfl, rfl, rfl, by decide +kernel, rfl, by decide +kernel, by decide +kernel⟩
abbrev s__law_needs : Stmt := top 45
theorem sc__law_needs : FnScope ["box", "length", "guests", "name", "found", "k", "turns", "steps"] ["box", "length", "guests", "name"] (defScope s__law_needs) := ⟨rfl, rfl, rfl, by decide +kernel, rfl, by decide +kernel, by decide +kernel⟩
abbrev s__law_asked : Stmt := top 46
theorem sc__law_asked : FnScope ["way", "length", "guests", "name", "last", "e"] ["way", "length", "guests", "name", "last"] (defScope s__law_asked) := ⟨rfl, rfl, rfl, by decide +kernel, rfl, by decide +kernel, by decide +kernel⟩
abbrev s__law_refusals_right : Stmt := top 47
theorem sc__law_refusals_right : FnScope ["box", "length", "guests", "name", "wrong", "share", "odd", "nobody", "number", "needs", "way", "late", "rows", "found", "word", "value"] ["box", "length", "guests", "name"] (defScope s__law_refusals_right) := ⟨rfl, rfl, rfl, by decide +kernel, rfl, by decide +kernel, by decide +kernel⟩
abbrev s_law : Stmt := top 48
theorem sc_law : FnScope ["script", "k", "box", "length", "guests", "name", "needs", "handed", "told"] ["script"] (defScope s_law) := ⟨rfl, rfl, rfl, by decide +kernel, rfl, by decide +kernel, by decide +kernel⟩
def DefAt (K : PySem.W.Frag) (mg : Str → Option Value) (x : Str) (st : Stmt) : Prop := ∃ f fd, mg x = some (.ref f) ∧ Fun K x x st f fd
theorem defAt_mk {K : PySem.W.Frag} {h : Heap} {mg : Str → Option Value} (X : K.In h) (G : h.Ns mainGlobals mg) {x : Str} {st : Stmt} {f : Addr} {oc : Value} {od an : Option Addr} {osl : Array (Option Value)} {kV doc pm cdv ct : Value}
    (a : PySem.W.nsIn K mainGlobals x = some (some (.ref f))) (l : K.lookup f = some ⟨oc, od, .func (PySem.W.fnOf x x (defArgs st) (defBody st) (defScope st) .none kV doc pm an cdv ct), osl⟩) (c : PySem.W.codeIn K cdv x = true) (k : PySem.W.keepIn K (.ref f) = true) : DefAt K mg x st :=
  ⟨f, _, PySem.W.mg_of X G a, fun_mk l c k⟩
structure Txt (K : PySem.W.Frag) (mg : Str → Option Value) : Prop where
  d_is_whole : DefAt K mg "is_whole" s_is_whole
  d_is_name : DefAt K mg "is_name" s_is_name
  d_need_length : DefAt K mg "need_length" s_need_length
  d_are_shares : DefAt K mg "are_shares" s_are_shares
  d_need_case : DefAt K mg "need_case" s_need_case
  d_ahead_by_promise : DefAt K mg "ahead_by_promise" s_ahead_by_promise
  d_ahead : DefAt K mg "ahead" s_ahead
  d_turn_of : DefAt K mg "turn_of" s_turn_of
  d_latest : DefAt K mg "latest" s_latest
  d_at_least_in : DefAt K mg "at_least_in" s_at_least_in
  d_at_least : DefAt K mg "at_least" s_at_least
  d_worst : DefAt K mg "worst" s_worst
  d_are_needs : DefAt K mg "are_needs" s_are_needs
  d_first_unmet : DefAt K mg "first_unmet" s_first_unmet
  d_with_promise : DefAt K mg "with_promise" s_with_promise
  d_least_promise : DefAt K mg "least_promise" s_least_promise
  d__law_cell : DefAt K mg "_law_cell" s__law_cell
  d__law_box : DefAt K mg "_law_box" s__law_box
  d__law_take : DefAt K mg "_law_take" s__law_take
  d__law_same : DefAt K mg "_law_same" s__law_same
  d__law_deal : DefAt K mg "_law_deal" s__law_deal
  d__law_stretch : DefAt K mg "_law_stretch" s__law_stretch
  d__law_case : DefAt K mg "_law_case" s__law_case
  d__law_surely : DefAt K mg "_law_surely" s__law_surely
  d__law_unmet : DefAt K mg "_law_unmet" s__law_unmet
  d__law_least : DefAt K mg "_law_least" s__law_least
  d__law_needs : DefAt K mg "_law_needs" s__law_needs
  d__law_asked : DefAt K mg "_law_asked" s__law_asked
  d__law_refusals_right : DefAt K mg "_law_refusals_right" s__law_refusals_right
  d_law : DefAt K mg "law" s_law
  n_isinstance : mg "isinstance" = none
  n_int : mg "int" = none
  n_bool : mg "bool" = none
  n_all : mg "all" = none
  n_str : mg "str" = none
  n_len : mg "len" = none
  n_dict : mg "dict" = none
  n_tuple : mg "tuple" = none
  n_max : mg "max" = none
  n_min : mg "min" = none
  n_list : mg "list" = none
  n_range : mg "range" = none
  n_divmod : mg "divmod" = none
  n_enumerate : mg "enumerate" = none
  n_sum : mg "sum" = none
  n_abs : mg "abs" = none
  c_LONGEST_NAME : ∃ t, mg "LONGEST_NAME" = some (Value.int 8 t)
  c_LETTERS : ∃ t, mg "LETTERS" = some (Value.str "abcdefghijklmnopqrstuvwxyz" t)
  c_LEAST_LENGTH : ∃ t, mg "LEAST_LENGTH" = some (Value.int 4 t)
  c_MOST_LENGTH : ∃ t, mg "MOST_LENGTH" = some (Value.int 60 t)
  c_MOST_GUESTS : ∃ t, mg "MOST_GUESTS" = some (Value.int 6 t)
  c_MOST_TURNS : ∃ t, mg "MOST_TURNS" = some (Value.int 400 t)
  c_MOST_NEEDS : ∃ t, mg "MOST_NEEDS" = some (Value.int 60 t)
structure Own (K : PySem.W.Frag) (mg : Str → Option Value) (CGuestError CMissing CNoNumber CNoShare CNoGuest CNoNeeds : Addr) : Prop where
  o_GuestError : OBase K CGuestError "ValueError.__init__"
  g_GuestError : mg "GuestError" = some (.ref CGuestError)
  o_Missing : OBase K CMissing "KeyError.__init__"
  g_Missing : mg "Missing" = some (.ref CMissing)
  e_NoNumber : OexG K CNoNumber "ValueError.__new__" tlValue
  g_NoNumber : mg "NoNumber" = some (.ref CNoNumber)
  f_NoNumber : XfC K CNoNumber
  n_NoNumber_found : PySem.W.findIn K (.ref CNoNumber) "found" = some none
  e_NoShare : OexG K CNoShare "ValueError.__new__" tlValue
  g_NoShare : mg "NoShare" = some (.ref CNoShare)
  f_NoShare : XfC K CNoShare
  n_NoShare_found : PySem.W.findIn K (.ref CNoShare) "found" = some none
  e_NoGuest : OexG K CNoGuest "LookupError.__new__" tlKey
  g_NoGuest : mg "NoGuest" = some (.ref CNoGuest)
  f_NoGuest : XfC K CNoGuest
  n_NoGuest_found : PySem.W.findIn K (.ref CNoGuest) "found" = some none
  e_NoNeeds : OexG K CNoNeeds "ValueError.__new__" tlValue
  g_NoNeeds : mg "NoNeeds" = some (.ref CNoNeeds)
  f_NoNeeds : XfC K CNoNeeds
  n_NoNeeds_found : PySem.W.findIn K (.ref CNoNeeds) "found" = some none
  x_NoNumber_NoNumber : PySem.W.exmOne K (.ref CNoNumber) (.ref CNoNumber) = some true
  x_NoShare_NoNumber : PySem.W.exmOne K (.ref CNoShare) (.ref CNoNumber) = some false
  x_NoShare_NoShare : PySem.W.exmOne K (.ref CNoShare) (.ref CNoShare) = some true
  x_NoGuest_NoNumber : PySem.W.exmOne K (.ref CNoGuest) (.ref CNoNumber) = some false
  x_NoGuest_NoShare : PySem.W.exmOne K (.ref CNoGuest) (.ref CNoShare) = some false
  x_NoGuest_NoGuest : PySem.W.exmOne K (.ref CNoGuest) (.ref CNoGuest) = some true
  x_NoNeeds_NoNumber : PySem.W.exmOne K (.ref CNoNeeds) (.ref CNoNumber) = some false
  x_NoNeeds_NoShare : PySem.W.exmOne K (.ref CNoNeeds) (.ref CNoShare) = some false
  x_NoNeeds_NoGuest : PySem.W.exmOne K (.ref CNoNeeds) (.ref CNoGuest) = some false
  x_NoNeeds_NoNeeds : PySem.W.exmOne K (.ref CNoNeeds) (.ref CNoNeeds) = some true
  m_NoNumber_init : ∃ f fd, (Fun K "__init__" "NoNumber.__init__" s_NoNumber_init f fd) ∧ (PySem.W.findIn K (.ref CNoNumber) "__init__" = some (some (.ref f)) ∧ PySem.W.typeIn K (.ref f) = some (.type "function"))
  m_NoShare_init : ∃ f fd, (Fun K "__init__" "NoShare.__init__" s_NoShare_init f fd) ∧ (PySem.W.findIn K (.ref CNoShare) "__init__" = some (some (.ref f)) ∧ PySem.W.typeIn K (.ref f) = some (.type "function"))
  m_NoGuest_init : ∃ f fd, (Fun K "__init__" "NoGuest.__init__" s_NoGuest_init f fd) ∧ (PySem.W.findIn K (.ref CNoGuest) "__init__" = some (some (.ref f)) ∧ PySem.W.typeIn K (.ref f) = some (.type "function"))
  m_NoNeeds_init : ∃ f fd, (Fun K "__init__" "NoNeeds.__init__" s_NoNeeds_init f fd) ∧ (PySem.W.findIn K (.ref CNoNeeds) "__init__" = some (some (.ref f)) ∧ PySem.W.typeIn K (.ref f) = some (.type "function"))
end K87
namespace K87
open PySem L2 Y

/-! ### the guests as they stand in a heap -/
def letters : Str := "abcdefghijklmnopqrstuvwxyz"
structure NameOk (z : Str) : Prop where
  lo : 1 ≤ z.length
  hi : z.length ≤ 8
  all : ∀ c, c ∈ z.cps.toList → c ∈ letters.cps.toList
def kvOf (nm : List Str) (ts : List Addr) : List (Key × V) := (nm.zip ts).map fun x => ((Sum.inr x.1 : Key), V.ref x.2)
structure Gs (H : Hp) (g : Addr) (o : Obj) (nm : List Str) (ts : List Addr) (p c : Nat → Nat) : Prop where
  d : H g = some (.frz o (.dK (kvOf nm ts)))
  len : ts.length = nm.length
  t : ∀ (i : Nat) (a : Addr), ts[i]? = some a → H a = some (.tup [.int (p i), .int (c i)])
  nd : nm.Nodup
  ok : ∀ z, z ∈ nm → NameOk z
  few : nm.length ≤ 6
theorem Gs.same {H H' : Hp} {g : Addr} {o : Obj} {nm : List Str} {ts : List Addr} {p c : Nat → Nat} (G : Gs H g o nm ts p c) (e : Same H H') : Gs H' g o nm ts p c :=
  ⟨e _ _ G.d, G.len, fun i a h => e _ _ (G.t i a h), G.nd, G.ok, G.few⟩
theorem kvOf_len {nm : List Str} {ts : List Addr} (h : ts.length = nm.length) : (kvOf nm ts).length = nm.length := by
  unfold kvOf
  rw [List.length_map, List.length_zip, h, Nat.min_self]
theorem kvOf_at {nm : List Str} {ts : List Addr} {i : Nat} {k : Key} {v : V} (h : (kvOf nm ts)[i]? = some (k, v)) : ∃ z a, nm[i]? = some z ∧ ts[i]? = some a ∧ k = Sum.inr z ∧ v = .ref a := by
  unfold kvOf at h
  rw [List.getElem?_map] at h
  cases e : (nm.zip ts)[i]? with
  | none =>
    rw [e] at h
    cases h
  | some x =>
    rw [e] at h
    obtain ⟨h1, h2⟩ := List.getElem?_zip_eq_some.mp e
    have := Option.some.inj h
    exact ⟨x.1, x.2, h1, h2, (congrArg Prod.fst this).symm, (congrArg Prod.snd this).symm⟩
def NmOk (x : V) : Prop := ∃ z : Str, x = .str z ∧ NameOk z
theorem nm_all (z : Str) : (∀ c, c ∈ z.cps.toList → c ∈ letters.cps.toList) ↔ ((List.range z.cps.size).map fun i => decide (z.cps.toList.getD i 0 ∈ letters.cps.toList)).all id = true := by
  rw [List.all_map, List.all_eq_true]
  constructor
  · intro h i hi
    have hi := List.mem_range.mp hi
    have hl : i < z.cps.toList.length := by rw [Array.length_toList]; exact hi
    refine decide_eq_true (h _ ?_)
    rw [List.getD_eq_getElem?_getD, List.getElem?_eq_getElem hl]
    exact List.getElem_mem hl
  · intro h c hc
    obtain ⟨i, hi, rfl⟩ := List.mem_iff_getElem.mp hc
    have := h i (List.mem_range.mpr (by rw [Array.length_toList] at hi; exact hi))
    have := of_decide_eq_true this
    rw [List.getD_eq_getElem?_getD, List.getElem?_eq_getElem hi] at this
    exact this
section
variable {P : Program} {w : World} {K : PySem.W.Frag} {mg : Str → Option Value} {base : Heap}
def sp_xinit (C : Addr) : Sp := fun vs H Q _ => ∃ (a : Addr) (x : V), vs = [.ref a, x] ∧ H a = some (exo a C none) ∧ ∀ dx, H dx = none → dx ≠ a → Q .non (upd (upd H dx (exd dx [(("found" : Str), x)])) a (exo a C (some dx)))
theorem ok_NoNumber_init {f : Addr} {fd : FuncData} (T : Txt K mg) {CGuestError CMissing CNoNumber CNoShare CNoGuest CNoNeeds : Addr} (W : Own K mg CGuestError CMissing CNoNumber CNoShare CNoGuest CNoNeeds) (F : Fun K "__init__" "NoNumber.__init__" s_NoNumber_init f fd) : FnOk P w K mg base CX0 1 f fd ["self", "found"] (sp_xinit CNoNumber) := by
  have scp := sc_NoNumber_init
  refine F.ok sc_NoNumber_init (fun vs H Q E h => ?_) (fun cdv A outer s H vs Q E hr h => ?_)
  · first | (obtain ⟨rfl, _⟩ := h; rfl) | (obtain ⟨_, rfl, _⟩ := h; rfl) | (obtain ⟨_, _, rfl, _⟩ := h; rfl) | (obtain ⟨_, _, _, rfl, _⟩ := h; rfl) | (obtain ⟨_, _, _, _, rfl, _⟩ := h; rfl) | (obtain ⟨_, _, _, _, _, rfl, _⟩ := h; rfl) | (obtain ⟨_, _, _, _, _, _, rfl, _⟩ := h; rfl) | (obtain ⟨_, _, _, _, _, _, _, rfl, _⟩ := h; rfl) | (obtain ⟨_, _, _, _, _, _, _, _, rfl, _⟩ := h; rfl) | (obtain ⟨_, _, _, _, _, _, _, _, _, rfl, _⟩ := h; rfl) | (obtain ⟨_, _, _, _, _, _, _, _, _, _, rfl, _⟩ := h; rfl) | (obtain ⟨_, _, _, _, _, _, _, _, _, _, _, rfl, _⟩ := h; rfl) | (obtain ⟨_, _, _, _, _, _, _, _, _, _, _, _, rfl, _⟩ := h; rfl) | (obtain ⟨_, _, _, _, _, _, _, _, _, _, _, _, _, rfl, _⟩ := h; rfl) | (obtain ⟨_, _, _, _, _, _, _, _, _, _, _, _, _, _, rfl, _⟩ := h; rfl) | (obtain ⟨_, _, _, _, _, _, _, _, _, _, _, _, _, _, _, rfl, _⟩ := h; rfl) | (obtain ⟨_, _, _, _, _, _, _, _, _, _, _, _, _, _, _, _, rfl, _⟩ := h; rfl) | (obtain ⟨_, _, _, _, _, _, _, _, _, _, _, _, _, _, _, _, _, rfl, _⟩ := h; rfl) | (obtain ⟨_, _, _, _, _, _, _, _, _, _, _, _, _, _, _, _, _, _, rfl, _⟩ := h; rfl) | (obtain ⟨_, _, _, _, _, _, _, _, _, _, _, _, _, _, _, _, _, _, _, rfl, _⟩ := h; rfl) | (obtain ⟨_, _, _, _, _, _, _, _, _, _, _, _, _, _, _, _, _, _, _, _, rfl, _⟩ := h; rfl) | (obtain ⟨_, _, _, _, _, _, _, _, _, _, _, _, _, _, _, _, _, _, _, _, _, rfl, _⟩ := h; rfl) | (obtain ⟨_, _, _, _, _, _, _, _, _, _, _, _, _, _, _, _, _, _, _, _, _, _, rfl, _⟩ := h; rfl) | (obtain ⟨_, _, _, _, _, _, _, _, _, _, _, _, _, _, _, _, _, _, _, _, _, _, _, rfl, _⟩ := h; rfl) | (obtain ⟨_, _, _, _, _, _, _, _, _, _, _, _, _, _, _, _, _, _, _, _, _, _, _, _, rfl, _⟩ := h; rfl) | (obtain ⟨_, _, _, _, _, _, _, _, _, _, _, _, _, _, _, _, _, _, _, _, _, _, _, _, _, rfl, _⟩ := h; rfl) | (obtain ⟨_, _, _, _, _, _, _, _, _, _, _, _, _, _, _, _, _, _, _, _, _, _, _, _, _, _, rfl, _⟩ := h; rfl) | (obtain ⟨_, _, _, _, _, _, _, _, _, _, _, _, _, _, _, _, _, _, _, _, _, _, _, _, _, _, _, rfl, _⟩ := h; rfl)
  · obtain ⟨a, x, rfl, ha, q⟩ := h
    have hu := hu_of hr
    have hv := hr.units
    refine ⟨_, (pss_cons (ps_expr (pe_ginit bx_value (by decide +kernel) W.o_GuestError W.g_GuestError (pa_cons (pv 0) (pa_cons pe_str pa_nil))))
  (pss_one (ps_gst bx_value (pv 0) (pv 1)))), ?_⟩
    walk_at "ys"
    refine y_giA (by simp) W.e_NoNumber ha ?_
    walk_at "ys"
    exact y_gstN W.e_NoNumber W.n_NoNumber_found ha (fun dx nd ne => q dx nd ne)
theorem ok_NoShare_init {f : Addr} {fd : FuncData} (T : Txt K mg) {CGuestError CMissing CNoNumber CNoShare CNoGuest CNoNeeds : Addr} (W : Own K mg CGuestError CMissing CNoNumber CNoShare CNoGuest CNoNeeds) (F : Fun K "__init__" "NoShare.__init__" s_NoShare_init f fd) : FnOk P w K mg base CX0 1 f fd ["self", "found"] (sp_xinit CNoShare) := by
  have scp := sc_NoShare_init
  refine F.ok sc_NoShare_init (fun vs H Q E h => ?_) (fun cdv A outer s H vs Q E hr h => ?_)
  · first | (obtain ⟨rfl, _⟩ := h; rfl) | (obtain ⟨_, rfl, _⟩ := h; rfl) | (obtain ⟨_, _, rfl, _⟩ := h; rfl) | (obtain ⟨_, _, _, rfl, _⟩ := h; rfl) | (obtain ⟨_, _, _, _, rfl, _⟩ := h; rfl) | (obtain ⟨_, _, _, _, _, rfl, _⟩ := h; rfl) | (obtain ⟨_, _, _, _, _, _, rfl, _⟩ := h; rfl) | (obtain ⟨_, _, _, _, _, _, _, rfl, _⟩ := h; rfl) | (obtain ⟨_, _, _, _, _, _, _, _, rfl, _⟩ := h; rfl) | (obtain ⟨_, _, _, _, _, _, _, _, _, rfl, _⟩ := h; rfl) | (obtain ⟨_, _, _, _, _, _, _, _, _, _, rfl, _⟩ := h; rfl) | (obtain ⟨_, _, _, _, _, _, _, _, _, _, _, rfl, _⟩ := h; rfl) | (obtain ⟨_, _, _, _, _, _, _, _, _, _, _, _, rfl, _⟩ := h; rfl) | (obtain ⟨_, _, _, _, _, _, _, _, _, _, _, _, _, rfl, _⟩ := h; rfl) | (obtain ⟨_, _, _, _, _, _, _, _, _, _, _, _, _, _, rfl, _⟩ := h; rfl) | (obtain ⟨_, _, _, _, _, _, _, _, _, _, _, _, _, _, _, rfl, _⟩ := h; rfl) | (obtain ⟨_, _, _, _, _, _, _, _, _, _, _, _, _, _, _, _, rfl, _⟩ := h; rfl) | (obtain ⟨_, _, _, _, _, _, _, _, _, _, _, _, _, _, _, _, _, rfl, _⟩ := h; rfl) | (obtain ⟨_, _, _, _, _, _, _, _, _, _, _, _, _, _, _, _, _, _, rfl, _⟩ := h; rfl) | (obtain ⟨_, _, _, _, _, _, _, _, _, _, _, _, _, _, _, _, _, _, _, rfl, _⟩ := h; rfl) | (obtain ⟨_, _, _, _, _, _, _, _, _, _, _, _, _, _, _, _, _, _, _, _, rfl, _⟩ := h; rfl) | (obtain ⟨_, _, _, _, _, _, _, _, _, _, _, _, _, _, _, _, _, _, _, _, _, rfl, _⟩ := h; rfl) | (obtain ⟨_, _, _, _, _, _, _, _, _, _, _, _, _, _, _, _, _, _, _, _, _, _, rfl, _⟩ := h; rfl) | (obtain ⟨_, _, _, _, _, _, _, _, _, _, _, _, _, _, _, _, _, _, _, _, _, _, _, rfl, _⟩ := h; rfl) | (obtain ⟨_, _, _, _, _, _, _, _, _, _, _, _, _, _, _, _, _, _, _, _, _, _, _, _, rfl, _⟩ := h; rfl) | (obtain ⟨_, _, _, _, _, _, _, _, _, _, _, _, _, _, _, _, _, _, _, _, _, _, _, _, _, rfl, _⟩ := h; rfl) | (obtain ⟨_, _, _, _, _, _, _, _, _, _, _, _, _, _, _, _, _, _, _, _, _, _, _, _, _, _, rfl, _⟩ := h; rfl) | (obtain ⟨_, _, _, _, _, _, _, _, _, _, _, _, _, _, _, _, _, _, _, _, _, _, _, _, _, _, _, rfl, _⟩ := h; rfl)
  · obtain ⟨a, x, rfl, ha, q⟩ := h
    have hu := hu_of hr
    have hv := hr.units
    refine ⟨_, (pss_cons (ps_expr (pe_ginit bx_value (by decide +kernel) W.o_GuestError W.g_GuestError (pa_cons (pv 0) (pa_cons pe_str pa_nil))))
  (pss_one (ps_gst bx_value (pv 0) (pv 1)))), ?_⟩
    walk_at "ys"
    refine y_giA (by simp) W.e_NoShare ha ?_
    walk_at "ys"
    exact y_gstN W.e_NoShare W.n_NoShare_found ha (fun dx nd ne => q dx nd ne)
theorem ok_NoGuest_init {f : Addr} {fd : FuncData} (T : Txt K mg) {CGuestError CMissing CNoNumber CNoShare CNoGuest CNoNeeds : Addr} (W : Own K mg CGuestError CMissing CNoNumber CNoShare CNoGuest CNoNeeds) (F : Fun K "__init__" "NoGuest.__init__" s_NoGuest_init f fd) : FnOk P w K mg base CX0 1 f fd ["self", "found"] (sp_xinit CNoGuest) := by
  have scp := sc_NoGuest_init
  refine F.ok sc_NoGuest_init (fun vs H Q E h => ?_) (fun cdv A outer s H vs Q E hr h => ?_)
  · first | (obtain ⟨rfl, _⟩ := h; rfl) | (obtain ⟨_, rfl, _⟩ := h; rfl) | (obtain ⟨_, _, rfl, _⟩ := h; rfl) | (obtain ⟨_, _, _, rfl, _⟩ := h; rfl) | (obtain ⟨_, _, _, _, rfl, _⟩ := h; rfl) | (obtain ⟨_, _, _, _, _, rfl, _⟩ := h; rfl) | (obtain ⟨_, _, _, _, _, _, rfl, _⟩ := h; rfl) | (obtain ⟨_, _, _, _, _, _, _, rfl, _⟩ := h; rfl) | (obtain ⟨_, _, _, _, _, _, _, _, rfl, _⟩ := h; rfl) | (obtain ⟨_, _, _, _, _, _, _, _, _, rfl, _⟩ := h; rfl) | (obtain ⟨_, _, _, _, _, _, _, _, _, _, rfl, _⟩ := h; rfl) | (obtain ⟨_, _, _, _, _, _, _, _, _, _, _, rfl, _⟩ := h; rfl) | (obtain ⟨_, _, _, _, _, _, _, _, _, _, _, _, rfl, _⟩ := h; rfl) | (obtain ⟨_, _, _, _, _, _, _, _, _, _, _, _, _, rfl, _⟩ := h; rfl) | (obtain ⟨_, _, _, _, _, _, _, _, _, _, _, _, _, _, rfl, _⟩ := h; rfl) | (obtain ⟨_, _, _, _, _, _, _, _, _, _, _, _, _, _, _, rfl, _⟩ := h; rfl) | (obtain ⟨_, _, _, _, _, _, _, _, _, _, _, _, _, _, _, _, rfl, _⟩ := h; rfl) | (obtain ⟨_, _, _, _, _, _, _, _, _, _, _, _, _, _, _, _, _, rfl, _⟩ := h; rfl) | (obtain ⟨_, _, _, _, _, _, _, _, _, _, _, _, _, _, _, _, _, _, rfl, _⟩ := h; rfl) | (obtain ⟨_, _, _, _, _, _, _, _, _, _, _, _, _, _, _, _, _, _, _, rfl, _⟩ := h; rfl) | (obtain ⟨_, _, _, _, _, _, _, _, _, _, _, _, _, _, _, _, _, _, _, _, rfl, _⟩ := h; rfl) | (obtain ⟨_, _, _, _, _, _, _, _, _, _, _, _, _, _, _, _, _, _, _, _, _, rfl, _⟩ := h; rfl) | (obtain ⟨_, _, _, _, _, _, _, _, _, _, _, _, _, _, _, _, _, _, _, _, _, _, rfl, _⟩ := h; rfl) | (obtain ⟨_, _, _, _, _, _, _, _, _, _, _, _, _, _, _, _, _, _, _, _, _, _, _, rfl, _⟩ := h; rfl) | (obtain ⟨_, _, _, _, _, _, _, _, _, _, _, _, _, _, _, _, _, _, _, _, _, _, _, _, rfl, _⟩ := h; rfl) | (obtain ⟨_, _, _, _, _, _, _, _, _, _, _, _, _, _, _, _, _, _, _, _, _, _, _, _, _, rfl, _⟩ := h; rfl) | (obtain ⟨_, _, _, _, _, _, _, _, _, _, _, _, _, _, _, _, _, _, _, _, _, _, _, _, _, _, rfl, _⟩ := h; rfl) | (obtain ⟨_, _, _, _, _, _, _, _, _, _, _, _, _, _, _, _, _, _, _, _, _, _, _, _, _, _, _, rfl, _⟩ := h; rfl)
  · obtain ⟨a, x, rfl, ha, q⟩ := h
    have hu := hu_of hr
    have hv := hr.units
    refine ⟨_, (pss_cons (ps_expr (pe_ginit bx_key (by decide +kernel) W.o_Missing W.g_Missing (pa_cons (pv 0) (pa_cons pe_str pa_nil))))
  (pss_one (ps_gst bx_key (pv 0) (pv 1)))), ?_⟩
    walk_at "ys"
    refine y_giA (by simp) W.e_NoGuest ha ?_
    walk_at "ys"
    exact y_gstN W.e_NoGuest W.n_NoGuest_found ha (fun dx nd ne => q dx nd ne)
theorem ok_NoNeeds_init {f : Addr} {fd : FuncData} (T : Txt K mg) {CGuestError CMissing CNoNumber CNoShare CNoGuest CNoNeeds : Addr} (W : Own K mg CGuestError CMissing CNoNumber CNoShare CNoGuest CNoNeeds) (F : Fun K "__init__" "NoNeeds.__init__" s_NoNeeds_init f fd) : FnOk P w K mg base CX0 1 f fd ["self", "found"] (sp_xinit CNoNeeds) := by
  have scp := sc_NoNeeds_init
  refine F.ok sc_NoNeeds_init (fun vs H Q E h => ?_) (fun cdv A outer s H vs Q E hr h => ?_)
  · first | (obtain ⟨rfl, _⟩ := h; rfl) | (obtain ⟨_, rfl, _⟩ := h; rfl) | (obtain ⟨_, _, rfl, _⟩ := h; rfl) | (obtain ⟨_, _, _, rfl, _⟩ := h; rfl) | (obtain ⟨_, _, _, _, rfl, _⟩ := h; rfl) | (obtain ⟨_, _, _, _, _, rfl, _⟩ := h; rfl) | (obtain ⟨_, _, _, _, _, _, rfl, _⟩ := h; rfl) | (obtain ⟨_, _, _, _, _, _, _, rfl, _⟩ := h; rfl) | (obtain ⟨_, _, _, _, _, _, _, _, rfl, _⟩ := h; rfl) | (obtain ⟨_, _, _, _, _, _, _, _, _, rfl, _⟩ := h; rfl) | (obtain ⟨_, _, _, _, _, _, _, _, _, _, rfl, _⟩ := h; rfl) | (obtain ⟨_, _, _, _, _, _, _, _, _, _, _, rfl, _⟩ := h; rfl) | (obtain ⟨_, _, _, _, _, _, _, _, _, _, _, _, rfl, _⟩ := h; rfl) | (obtain ⟨_, _, _, _, _, _, _, _, _, _, _, _, _, rfl, _⟩ := h; rfl) | (obtain ⟨_, _, _, _, _, _, _, _, _, _, _, _, _, _, rfl, _⟩ := h; rfl) | (obtain ⟨_, _, _, _, _, _, _, _, _, _, _, _, _, _, _, rfl, _⟩ := h; rfl) | (obtain ⟨_, _, _, _, _, _, _, _, _, _, _, _, _, _, _, _, rfl, _⟩ := h; rfl) | (obtain ⟨_, _, _, _, _, _, _, _, _, _, _, _, _, _, _, _, _, rfl, _⟩ := h; rfl) | (obtain ⟨_, _, _, _, _, _, _, _, _, _, _, _, _, _, _, _, _, _, rfl, _⟩ := h; rfl) | (obtain ⟨_, _, _, _, _, _, _, _, _, _, _, _, _, _, _, _, _, _, _, rfl, _⟩ := h; rfl) | (obtain ⟨_, _, _, _, _, _, _, _, _, _, _, _, _, _, _, _, _, _, _, _, rfl, _⟩ := h; rfl) | (obtain ⟨_, _, _, _, _, _, _, _, _, _, _, _, _, _, _, _, _, _, _, _, _, rfl, _⟩ := h; rfl) | (obtain ⟨_, _, _, _, _, _, _, _, _, _, _, _, _, _, _, _, _, _, _, _, _, _, rfl, _⟩ := h; rfl) | (obtain ⟨_, _, _, _, _, _, _, _, _, _, _, _, _, _, _, _, _, _, _, _, _, _, _, rfl, _⟩ := h; rfl) | (obtain ⟨_, _, _, _, _, _, _, _, _, _, _, _, _, _, _, _, _, _, _, _, _, _, _, _, rfl, _⟩ := h; rfl) | (obtain ⟨_, _, _, _, _, _, _, _, _, _, _, _, _, _, _, _, _, _, _, _, _, _, _, _, _, rfl, _⟩ := h; rfl) | (obtain ⟨_, _, _, _, _, _, _, _, _, _, _, _, _, _, _, _, _, _, _, _, _, _, _, _, _, _, rfl, _⟩ := h; rfl) | (obtain ⟨_, _, _, _, _, _, _, _, _, _, _, _, _, _, _, _, _, _, _, _, _, _, _, _, _, _, _, rfl, _⟩ := h; rfl)
  · obtain ⟨a, x, rfl, ha, q⟩ := h
    have hu := hu_of hr
    have hv := hr.units
    refine ⟨_, (pss_cons (ps_expr (pe_ginit bx_value (by decide +kernel) W.o_GuestError W.g_GuestError (pa_cons (pv 0) (pa_cons pe_str pa_nil))))
  (pss_one (ps_gst bx_value (pv 0) (pv 1)))), ?_⟩
    walk_at "ys"
    refine y_giA (by simp) W.e_NoNeeds ha ?_
    walk_at "ys"
    exact y_gstN W.e_NoNeeds W.n_NoNeeds_found ha (fun dx nd ne => q dx nd ne)
def sp_is_whole (K : PySem.W.Frag) : Sp := fun vs H Q _ => ∃ (x : V) (lo hi : Int), vs = [x, .int lo, .int hi] ∧ Kd H x ∧ Q (.bl (isW x lo hi)) H
theorem ok_is_whole {f : Addr} {fd : FuncData} (T : Txt K mg) (F : Fun K "is_whole" "is_whole" s_is_whole f fd) : FnOk P w K mg base CX0 1 f fd ["thing", "low", "high"] (sp_is_whole K) := by
  have scp := sc_is_whole
  refine F.ok sc_is_whole (fun vs H Q E h => ?_) (fun cdv A outer s H vs Q E hr h => ?_)
  · first | (obtain ⟨rfl, _⟩ := h; rfl) | (obtain ⟨_, rfl, _⟩ := h; rfl) | (obtain ⟨_, _, rfl, _⟩ := h; rfl) | (obtain ⟨_, _, _, rfl, _⟩ := h; rfl) | (obtain ⟨_, _, _, _, rfl, _⟩ := h; rfl) | (obtain ⟨_, _, _, _, _, rfl, _⟩ := h; rfl) | (obtain ⟨_, _, _, _, _, _, rfl, _⟩ := h; rfl) | (obtain ⟨_, _, _, _, _, _, _, rfl, _⟩ := h; rfl) | (obtain ⟨_, _, _, _, _, _, _, _, rfl, _⟩ := h; rfl) | (obtain ⟨_, _, _, _, _, _, _, _, _, rfl, _⟩ := h; rfl) | (obtain ⟨_, _, _, _, _, _, _, _, _, _, rfl, _⟩ := h; rfl) | (obtain ⟨_, _, _, _, _, _, _, _, _, _, _, rfl, _⟩ := h; rfl) | (obtain ⟨_, _, _, _, _, _, _, _, _, _, _, _, rfl, _⟩ := h; rfl) | (obtain ⟨_, _, _, _, _, _, _, _, _, _, _, _, _, rfl, _⟩ := h; rfl) | (obtain ⟨_, _, _, _, _, _, _, _, _, _, _, _, _, _, rfl, _⟩ := h; rfl) | (obtain ⟨_, _, _, _, _, _, _, _, _, _, _, _, _, _, _, rfl, _⟩ := h; rfl) | (obtain ⟨_, _, _, _, _, _, _, _, _, _, _, _, _, _, _, _, rfl, _⟩ := h; rfl) | (obtain ⟨_, _, _, _, _, _, _, _, _, _, _, _, _, _, _, _, _, rfl, _⟩ := h; rfl) | (obtain ⟨_, _, _, _, _, _, _, _, _, _, _, _, _, _, _, _, _, _, rfl, _⟩ := h; rfl) | (obtain ⟨_, _, _, _, _, _, _, _, _, _, _, _, _, _, _, _, _, _, _, rfl, _⟩ := h; rfl) | (obtain ⟨_, _, _, _, _, _, _, _, _, _, _, _, _, _, _, _, _, _, _, _, rfl, _⟩ := h; rfl) | (obtain ⟨_, _, _, _, _, _, _, _, _, _, _, _, _, _, _, _, _, _, _, _, _, rfl, _⟩ := h; rfl) | (obtain ⟨_, _, _, _, _, _, _, _, _, _, _, _, _, _, _, _, _, _, _, _, _, _, rfl, _⟩ := h; rfl) | (obtain ⟨_, _, _, _, _, _, _, _, _, _, _, _, _, _, _, _, _, _, _, _, _, _, _, rfl, _⟩ := h; rfl) | (obtain ⟨_, _, _, _, _, _, _, _, _, _, _, _, _, _, _, _, _, _, _, _, _, _, _, _, rfl, _⟩ := h; rfl) | (obtain ⟨_, _, _, _, _, _, _, _, _, _, _, _, _, _, _, _, _, _, _, _, _, _, _, _, _, rfl, _⟩ := h; rfl) | (obtain ⟨_, _, _, _, _, _, _, _, _, _, _, _, _, _, _, _, _, _, _, _, _, _, _, _, _, _, rfl, _⟩ := h; rfl) | (obtain ⟨_, _, _, _, _, _, _, _, _, _, _, _, _, _, _, _, _, _, _, _, _, _, _, _, _, _, _, rfl, _⟩ := h; rfl)
  · obtain ⟨x, lo, hi, rfl, hk, q⟩ := h
    have hu := hu_of hr
    have hv := hr.units
    refine ⟨_, (pss_one (ps_ret (pe_and (pe_callB (call_isiY (K := K)) (by rfl) T.n_isinstance (by decide +kernel) (pa_cons (pv 0) (pa_cons (pe_bty (T := "int") T.n_int (by decide +kernel)) pa_nil))) (pe_and (pe_not (pe_callB (call_isiY (K := K)) (by rfl) T.n_isinstance (by decide +kernel) (pa_cons (pv 0) (pa_cons (pe_bty (T := "bool") T.n_bool (by decide +kernel)) pa_nil)))) (pe_one (pe_chain op_leI op_leI (pv 1) (pv 0) (pv 2))))))), ?_⟩
    cases hk with
    | int i =>
      walk_at "ys"
      have q : Q (.bl (decide (lo ≤ i) && decide (i ≤ hi))) H := q
      refine y_d2 (fun h1 => ?_) (fun h1 => ?_)
      · walk_at "ys"
        rw [decide_eq_true h1, Bool.true_and] at q
        exact q
      · rw [decide_eq_false h1, Bool.false_and] at q
        exact q
    | non => walk_at "ys"; exact q
    | bl b => walk_at "ys"; exact q
    | str z => walk_at "ys"; exact q
    | lst h => walk_at "ys"; exact q
    | tup h => walk_at "ys"; exact q
    | dct h => walk_at "ys"; exact q
def sp_need_length (CN : Addr) : Sp := fun vs H Q E => ∃ x : V, vs = [x] ∧ Kd H x ∧ ((isW x 4 60 = true ∧ Q .non H) ∨ (isW x 4 60 = false ∧ Refu H E CN x))
theorem ok_need_length {f : Addr} {fd : FuncData} (T : Txt K mg) {CGuestError CMissing CNoNumber CNoShare CNoGuest CNoNeeds : Addr} (W : Own K mg CGuestError CMissing CNoNumber CNoShare CNoGuest CNoNeeds) (F : Fun K "need_length" "need_length" s_need_length f fd) : FnOk P w K mg base (L2.CX P w) 3 f fd ["length"] (sp_need_length CNoNumber) := by
  obtain ⟨f_is_whole, fd_is_whole, g_is_whole, F_is_whole⟩ := T.d_is_whole
  have G_is_whole := ok_is_whole (P := P) (w := w) (base := base) T F_is_whole
  have b_is_whole := F_is_whole.binds (ps := ["thing", "low", "high"]) fun _ _ _ _ _ _ us hl => match us, hl with | [_, _, _], _ => rfl
  obtain ⟨f_NoNumber_init, fd_NoNumber_init, F_NoNumber_init, m_NoNumber_init⟩ := W.m_NoNumber_init
  have G_NoNumber_init := ok_NoNumber_init (P := P) (w := w) (base := base) T W F_NoNumber_init
  have b_NoNumber_init := F_NoNumber_init.binds (ps := ["self", "found"]) fun _ _ _ _ _ _ us hl => match us, hl with | [_, _], _ => rfl
  have scp := sc_need_length
  refine F.okX sc_need_length (fun vs H Q E h => ?_) (fun cdv A outer s H vs Q E hr h => ?_)
  · first | (obtain ⟨rfl, _⟩ := h; rfl) | (obtain ⟨_, rfl, _⟩ := h; rfl) | (obtain ⟨_, _, rfl, _⟩ := h; rfl) | (obtain ⟨_, _, _, rfl, _⟩ := h; rfl) | (obtain ⟨_, _, _, _, rfl, _⟩ := h; rfl) | (obtain ⟨_, _, _, _, _, rfl, _⟩ := h; rfl) | (obtain ⟨_, _, _, _, _, _, rfl, _⟩ := h; rfl) | (obtain ⟨_, _, _, _, _, _, _, rfl, _⟩ := h; rfl) | (obtain ⟨_, _, _, _, _, _, _, _, rfl, _⟩ := h; rfl) | (obtain ⟨_, _, _, _, _, _, _, _, _, rfl, _⟩ := h; rfl) | (obtain ⟨_, _, _, _, _, _, _, _, _, _, rfl, _⟩ := h; rfl) | (obtain ⟨_, _, _, _, _, _, _, _, _, _, _, rfl, _⟩ := h; rfl) | (obtain ⟨_, _, _, _, _, _, _, _, _, _, _, _, rfl, _⟩ := h; rfl) | (obtain ⟨_, _, _, _, _, _, _, _, _, _, _, _, _, rfl, _⟩ := h; rfl) | (obtain ⟨_, _, _, _, _, _, _, _, _, _, _, _, _, _, rfl, _⟩ := h; rfl) | (obtain ⟨_, _, _, _, _, _, _, _, _, _, _, _, _, _, _, rfl, _⟩ := h; rfl) | (obtain ⟨_, _, _, _, _, _, _, _, _, _, _, _, _, _, _, _, rfl, _⟩ := h; rfl) | (obtain ⟨_, _, _, _, _, _, _, _, _, _, _, _, _, _, _, _, _, rfl, _⟩ := h; rfl) | (obtain ⟨_, _, _, _, _, _, _, _, _, _, _, _, _, _, _, _, _, _, rfl, _⟩ := h; rfl) | (obtain ⟨_, _, _, _, _, _, _, _, _, _, _, _, _, _, _, _, _, _, _, rfl, _⟩ := h; rfl) | (obtain ⟨_, _, _, _, _, _, _, _, _, _, _, _, _, _, _, _, _, _, _, _, rfl, _⟩ := h; rfl) | (obtain ⟨_, _, _, _, _, _, _, _, _, _, _, _, _, _, _, _, _, _, _, _, _, rfl, _⟩ := h; rfl) | (obtain ⟨_, _, _, _, _, _, _, _, _, _, _, _, _, _, _, _, _, _, _, _, _, _, rfl, _⟩ := h; rfl) | (obtain ⟨_, _, _, _, _, _, _, _, _, _, _, _, _, _, _, _, _, _, _, _, _, _, _, rfl, _⟩ := h; rfl) | (obtain ⟨_, _, _, _, _, _, _, _, _, _, _, _, _, _, _, _, _, _, _, _, _, _, _, _, rfl, _⟩ := h; rfl) | (obtain ⟨_, _, _, _, _, _, _, _, _, _, _, _, _, _, _, _, _, _, _, _, _, _, _, _, _, rfl, _⟩ := h; rfl) | (obtain ⟨_, _, _, _, _, _, _, _, _, _, _, _, _, _, _, _, _, _, _, _, _, _, _, _, _, _, rfl, _⟩ := h; rfl) | (obtain ⟨_, _, _, _, _, _, _, _, _, _, _, _, _, _, _, _, _, _, _, _, _, _, _, _, _, _, _, rfl, _⟩ := h; rfl)
  · obtain ⟨x, rfl, hk, q⟩ := h
    have hu := hu_of hr
    have hv := hr.units
    refine ⟨_, (pss_one (ps_if (pt_not (pt_val (pe_call (G_is_whole.mono (by decide)) hr rfl g_is_whole F_is_whole.kp b_is_whole .nil pass0 (pa_cons (pv 0) (pa_cons (pe_gint T.c_LEAST_LENGTH) (pa_cons (pe_gint T.c_MOST_LENGTH) pa_nil))))))
  (pss_one (ps_raise rfl (takes_of rfl rfl rfl rfl) (pmk_gex bx_value W.e_NoNumber m_NoNumber_init.1 m_NoNumber_init.2 G_NoNumber_init (hr.mono (by decide)) b_NoNumber_init .nil pass0 rfl W.g_NoNumber (pa_cons (pv 0) pa_nil))))
  pss_nil)), ?_⟩
    walk_at "ys"
    refine ⟨x, 4, 60, rfl, hk, ?_⟩
    rcases q with ⟨h1, q⟩ | ⟨h1, q⟩
    · rw [h1]
      walk_at "ys"
      exact q
    · rw [h1]
      walk_at "ys"
      refine ⟨by simp, fun a na => ?_⟩
      exact ⟨a, _, rfl, upd_same, y_made1 na fun d H' e _ hd => q d H' e hd⟩
def sp_is_name (K : PySem.W.Frag) : Sp := fun vs H Q _ => ∃ x : V, vs = [x] ∧ Kd H x ∧ (∀ z, x = .str z → z.length ≤ 1000) ∧ ∀ b H', Same H H' → (b = true ↔ NmOk x) → Q (.bl b) H'
theorem ok_is_name {f : Addr} {fd : FuncData} (T : Txt K mg) (F : Fun K "is_name" "is_name" s_is_name f fd) : FnOk P w K mg base CX0 1 f fd ["thing"] (sp_is_name K) := by
  have scp := sc_is_name
  refine F.ok sc_is_name (fun vs H Q E h => ?_) (fun cdv A outer s H vs Q E hr h => ?_)
  · first | (obtain ⟨rfl, _⟩ := h; rfl) | (obtain ⟨_, rfl, _⟩ := h; rfl) | (obtain ⟨_, _, rfl, _⟩ := h; rfl) | (obtain ⟨_, _, _, rfl, _⟩ := h; rfl) | (obtain ⟨_, _, _, _, rfl, _⟩ := h; rfl) | (obtain ⟨_, _, _, _, _, rfl, _⟩ := h; rfl) | (obtain ⟨_, _, _, _, _, _, rfl, _⟩ := h; rfl) | (obtain ⟨_, _, _, _, _, _, _, rfl, _⟩ := h; rfl) | (obtain ⟨_, _, _, _, _, _, _, _, rfl, _⟩ := h; rfl) | (obtain ⟨_, _, _, _, _, _, _, _, _, rfl, _⟩ := h; rfl) | (obtain ⟨_, _, _, _, _, _, _, _, _, _, rfl, _⟩ := h; rfl) | (obtain ⟨_, _, _, _, _, _, _, _, _, _, _, rfl, _⟩ := h; rfl) | (obtain ⟨_, _, _, _, _, _, _, _, _, _, _, _, rfl, _⟩ := h; rfl) | (obtain ⟨_, _, _, _, _, _, _, _, _, _, _, _, _, rfl, _⟩ := h; rfl) | (obtain ⟨_, _, _, _, _, _, _, _, _, _, _, _, _, _, rfl, _⟩ := h; rfl) | (obtain ⟨_, _, _, _, _, _, _, _, _, _, _, _, _, _, _, rfl, _⟩ := h; rfl) | (obtain ⟨_, _, _, _, _, _, _, _, _, _, _, _, _, _, _, _, rfl, _⟩ := h; rfl) | (obtain ⟨_, _, _, _, _, _, _, _, _, _, _, _, _, _, _, _, _, rfl, _⟩ := h; rfl) | (obtain ⟨_, _, _, _, _, _, _, _, _, _, _, _, _, _, _, _, _, _, rfl, _⟩ := h; rfl) | (obtain ⟨_, _, _, _, _, _, _, _, _, _, _, _, _, _, _, _, _, _, _, rfl, _⟩ := h; rfl) | (obtain ⟨_, _, _, _, _, _, _, _, _, _, _, _, _, _, _, _, _, _, _, _, rfl, _⟩ := h; rfl) | (obtain ⟨_, _, _, _, _, _, _, _, _, _, _, _, _, _, _, _, _, _, _, _, _, rfl, _⟩ := h; rfl) | (obtain ⟨_, _, _, _, _, _, _, _, _, _, _, _, _, _, _, _, _, _, _, _, _, _, rfl, _⟩ := h; rfl) | (obtain ⟨_, _, _, _, _, _, _, _, _, _, _, _, _, _, _, _, _, _, _, _, _, _, _, rfl, _⟩ := h; rfl) | (obtain ⟨_, _, _, _, _, _, _, _, _, _, _, _, _, _, _, _, _, _, _, _, _, _, _, _, rfl, _⟩ := h; rfl) | (obtain ⟨_, _, _, _, _, _, _, _, _, _, _, _, _, _, _, _, _, _, _, _, _, _, _, _, _, rfl, _⟩ := h; rfl) | (obtain ⟨_, _, _, _, _, _, _, _, _, _, _, _, _, _, _, _, _, _, _, _, _, _, _, _, _, _, rfl, _⟩ := h; rfl) | (obtain ⟨_, _, _, _, _, _, _, _, _, _, _, _, _, _, _, _, _, _, _, _, _, _, _, _, _, _, _, rfl, _⟩ := h; rfl)
  · obtain ⟨x, rfl, hk, hl, q⟩ := h
    have hu := hu_of hr
    have hv := hr.units
    refine ⟨_, (pss_cons (ps_if (PW.pt (pw_or (pt_not (pt_val (pe_callB (call_isiY (K := K)) (by rfl) T.n_isinstance (by decide +kernel) (pa_cons (pv 0) (pa_cons (pe_bty (T := "str") T.n_str (by decide +kernel)) pa_nil))))) (pw_or1 (pt_not (pt_chain op_leI op_leI pe_int (pe_callB (call_lenK (K := K)) (by rfl) T.n_len (by decide +kernel) (pa_cons (pv 0) pa_nil)) (pe_gint T.c_LONGEST_NAME))))))
  (pss_one (ps_ret pe_bl))
  pss_nil)
  (pss_one (ps_ret (pe_callB (call_allY (K := K) rfl) (by rfl) T.n_all (by decide +kernel) (pa_cons (pe_lc (own := [("sign", 1)]) (g := gName 1) (tt := tYes) rfl scp.nd (pi_str (pv 0)) (blkOk_by (own := [("sign", 1)]) (N := ["thing", "sign"]) (sc := defScope s_is_name) (by decide +kernel)) (fun _ _ _ _ _ => (pg_name (i := 1) scp.nd rfl (by first | exact Or.inl rfl | exact Or.inr rfl))) (fun _ _ _ _ _ => pts_nil) (fun _ _ _ _ _ => (pe_cmpR (op_inK (K := K) hu) (pv 1) (pe_gstr T.c_LETTERS) (by rfl)))) pa_nil))))), ?_⟩
    have no : (∀ z, x ≠ .str z) → ∀ H', Same H H' → Q (.bl false) H' := fun hx H' e => q false H' e ⟨fun z => Bool.noConfusion z, fun ⟨z, h, _⟩ => absurd h (hx z)⟩
    cases hk with
    | non => walk_at "ys"; exact no (fun z h => nomatch h) _ (Same.refl _)
    | bl b => walk_at "ys"; exact no (fun z h => nomatch h) _ (Same.refl _)
    | int b => walk_at "ys"; exact no (fun z h => nomatch h) _ (Same.refl _)
    | lst h => walk_at "ys"; exact no (fun z h => nomatch h) _ (Same.refl _)
    | tup h => walk_at "ys"; exact no (fun z h => nomatch h) _ (Same.refl _)
    | dct h => walk_at "ys"; exact no (fun z h => nomatch h) _ (Same.refl _)
    | str z =>
      have hz := hl z rfl
      have bad : ¬ NameOk z → ∀ H', Same H H' → Q (.bl false) H' := fun hn H' e => q false H' e ⟨fun z => Bool.noConfusion z, fun ⟨z', h, hok⟩ => absurd (by rw [V.str.inj h]; exact hok) hn⟩
      walk_at "ys"
      refine y_lenS (sz_line (by omega)) ?_
      walk_at "ys"
      refine y_d2 (fun h1 => ?_) (fun h1 => ?_)
      · walk_at "ys"
        refine y_b2 (fun h2 => ?_) (fun h2 => ?_)
        · walk_at "ys"
          refine bad (fun hok => ?_) _ (Same.refl _)
          have := hok.hi
          have h2 : ¬ ((z.length : Int) ≤ 8) := by simpa using h2
          omega
        · walk_at "ys"
          have h2 : (z.length : Int) ≤ 8 := by simpa using h2
          intro D nD
          refine lc_map (fun i => .bl (decide (z.cps.toList.getD i 0 ∈ letters.cps.toList))) walk_str nD (sz_lt (by have : z.cps.size = z.length := rfl; omega)) (fun _ _ => trivial) (fun i x H1 H2 Nx hi e hY k => ?_) (fun H' e hD => ?_)
          · obtain ⟨rfl, c, hc, rfl⟩ := hY
            have hg : z.cps.toList.getD i 0 = c := by
              rw [List.getD_eq_getElem?_getD, Array.getElem?_toList, hc]
              rfl
            walk_at "ys"
            refine k _ _ ?_ (Same.refl _)
            rw [hg]
            rfl
          · walk_at "ys"
            have hD' : H' D = some (.lst (((List.range z.cps.size).map fun i => decide (z.cps.toList.getD i 0 ∈ letters.cps.toList)).map V.bl)) := by
              rw [hD, List.map_map]
              rfl
            refine y_all hD' ?_
            refine q _ H' e ⟨fun h => ⟨z, rfl, by omega, by omega, (nm_all z).mpr h⟩, fun ⟨z', h, hok⟩ => (nm_all z).mp ?_⟩
            rw [V.str.inj h]
            exact hok.all
      · walk_at "ys"
        exact bad (fun hok => by have := hok.lo; omega) _ (Same.refl _)
end
end K87
namespace K87
open PySem L2 Y

theorem kvOf_pair {nm : List Str} {ts : List Addr} {i : Nat} {a b : V} (h1 : (kvOf nm ts)[i]?.map (fun kv => kV kv.1) = some a) (h2 : (kvOf nm ts)[i]?.map Prod.snd = some b) : ∃ z t, nm[i]? = some z ∧ ts[i]? = some t ∧ a = .str z ∧ b = .ref t := by
  cases e : (kvOf nm ts)[i]? with
  | none =>
    rw [e] at h1
    cases h1
  | some x =>
    rw [e] at h1 h2
    obtain ⟨z, t, h3, h4, h5, h6⟩ := kvOf_at (k := x.1) (v := x.2) e
    refine ⟨z, t, h3, h4, ?_, ?_⟩
    · have := Option.some.inj h1
      rw [← this]
      show kV x.1 = _
      rw [h5]
      rfl
    · have := Option.some.inj h2
      rw [← this]
      exact h6
theorem sumTo_split (p : Nat → Nat) {i n : Nat} (h : i ≤ n) : Deal.sumTo p i ≤ Deal.sumTo p n := by
  induction n with
  | zero =>
    have : i = 0 := by omega
    rw [this]
    exact Nat.le_refl _
  | succ n ih =>
    by_cases e : i = n + 1
    · rw [e]
      exact Nat.le_refl _
    · exact Nat.le_trans (ih (by omega)) (Nat.le_add_right _ _)
def nmA : Str := "a"
def nmB : Str := "b"
def nmBig : Str := "A"
theorem okA : NameOk "a" := ⟨by decide +kernel, by decide +kernel, by decide +kernel⟩
theorem okB : NameOk "b" := ⟨by decide +kernel, by decide +kernel, by decide +kernel⟩
theorem noBig : ¬ NameOk "A" := fun h => by
  have := h.all 65 (by decide +kernel)
  revert this
  decide +kernel
/-- a thing that is no shares -/
inductive OddSh (H : Hp) (L : Nat) : V → Prop
  | non : OddSh H L .non
  | lst {a : Addr} {xs : List V} (h : H a = some (.lst xs)) : OddSh H L (.ref a)
  | one {a t : Addr} (h : H a = some (.dK [((Sum.inr "a" : Key), .ref t)])) (ht : H t = some (.tup [.int 1])) : OddSh H L (.ref a)
  | big {a t : Addr} (h : H a = some (.dK [((Sum.inr "A" : Key), .ref t)])) (ht : H t = some (.tup [.int 1, .int 2])) : OddSh H L (.ref a)
  | zero {a t : Addr} (h : H a = some (.dK [((Sum.inr "a" : Key), .ref t)])) (ht : H t = some (.tup [.int 0, .int 0])) : OddSh H L (.ref a)
  | two {a t u : Addr} (h : H a = some (.dK [((Sum.inr "a" : Key), .ref t), ((Sum.inr "b" : Key), .ref u)])) (ht : H t = some (.tup [.int L, .int L])) (hu : H u = some (.tup [.int 1, .int 1])) : OddSh H L (.ref a)
  | lis {a t : Addr} (h : H a = some (.dK [((Sum.inr "a" : Key), .ref t)])) (ht : H t = some (.lst [.int 1, .int 2])) : OddSh H L (.ref a)
theorem OddSh.same {H H' : Hp} {L : Nat} {x : V} (o : OddSh H L x) (e : Same H H') : OddSh H' L x := by
  cases o with
  | non => exact .non
  | lst h => exact .lst (e _ _ h)
  | one h ht => exact .one (e _ _ h) (e _ _ ht)
  | big h ht => exact .big (e _ _ h) (e _ _ ht)
  | zero h ht => exact .zero (e _ _ h) (e _ _ ht)
  | two h ht hu => exact .two (e _ _ h) (e _ _ ht) (e _ _ hu)
  | lis h ht => exact .lis (e _ _ h) (e _ _ ht)
theorem OddSh.kd {H : Hp} {L : Nat} {x : V} (o : OddSh H L x) : Kd H x := by
  cases o with
  | non => exact .non
  | lst h => exact .lst h
  | one h ht => exact .dct h
  | big h ht => exact .dct h
  | zero h ht => exact .dct h
  | two h ht hu => exact .dct h
  | lis h ht => exact .dct h
theorem isW_in {i lo hi : Int} (h1 : lo ≤ i) (h2 : i ≤ hi) : isW (.int i) lo hi = true := by
  show (decide (lo ≤ i) && decide (i ≤ hi)) = true
  rw [decide_eq_true h1, decide_eq_true h2]
  rfl
theorem isW_lo {i lo hi : Int} (h1 : ¬ lo ≤ i) : isW (.int i) lo hi = false := by
  show (decide (lo ≤ i) && decide (i ≤ hi)) = false
  rw [decide_eq_false h1]
  rfl
theorem isW_hi {i lo hi : Int} (h1 : ¬ i ≤ hi) : isW (.int i) lo hi = false := by
  show (decide (lo ≤ i) && decide (i ≤ hi)) = false
  rw [decide_eq_false h1, Bool.and_false]
theorem one_item {k : Key} {v a b : V} (h1 : [(k, v)][0]?.map (fun kv : Key × V => kV kv.1) = some a) (h2 : [(k, v)][0]?.map Prod.snd = some b) : a = kV k ∧ b = v := ⟨(Option.some.inj h1).symm, (Option.some.inj h2).symm⟩
section
variable {P : Program} {w : World} {K : PySem.W.Frag} {mg : Str → Option Value} {base : Heap}
def sp_are_shares (K : PySem.W.Frag) : Sp := fun vs H Q _ =>
  (∃ (g : Addr) (L : Nat) (o : Obj) (nm : List Str) (ts : List Addr) (p c : Nat → Nat), vs = [.ref g, .int L] ∧ Gs H g o nm ts p c ∧ (∀ i, i < nm.length → p i ≤ L ∧ p i ≤ c i ∧ 1 ≤ c i ∧ c i ≤ L) ∧ ∀ H', Same H H' → Q (.bl (decide (Deal.sumTo p nm.length ≤ L))) H') ∨
  ∃ (x : V) (L : Nat), vs = [x, .int L] ∧ 4 ≤ L ∧ OddSh H L x ∧ ∀ H', Same H H' → Q (.bl false) H'
theorem ok_are_shares {f : Addr} {fd : FuncData} (T : Txt K mg) (F : Fun K "are_shares" "are_shares" s_are_shares f fd) : FnOk P w K mg base CX0 2 f fd ["thing", "length"] (sp_are_shares K) := by
  obtain ⟨f_is_name, fd_is_name, g_is_name, F_is_name⟩ := T.d_is_name
  have G_is_name := ok_is_name (P := P) (w := w) (base := base) T F_is_name
  have b_is_name := F_is_name.binds (ps := ["thing"]) fun _ _ _ _ _ _ us hl => match us, hl with | [_], _ => rfl
  obtain ⟨f_is_whole, fd_is_whole, g_is_whole, F_is_whole⟩ := T.d_is_whole
  have G_is_whole := ok_is_whole (P := P) (w := w) (base := base) T F_is_whole
  have b_is_whole := F_is_whole.binds (ps := ["thing", "low", "high"]) fun _ _ _ _ _ _ us hl => match us, hl with | [_, _, _], _ => rfl
  have scp := sc_are_shares
  refine F.ok sc_are_shares (fun vs H Q E h => ?_) (fun cdv A outer s H vs Q E hr h => ?_)
  · rcases h with ⟨_, _, _, _, _, _, _, rfl, _⟩ | ⟨_, _, rfl, _⟩ <;> rfl
  · have hu := hu_of hr
    have hv := hr.units
    refine ⟨_, (pss_cons (ps_if (PW.pt (pw_or (pt_not (pt_val (pe_callB (call_isiY (K := K)) (by rfl) T.n_isinstance (by decide +kernel) (pa_cons (pv 0) (pa_cons (pe_bty (T := "dict") T.n_dict (by decide +kernel)) pa_nil))))) (pw_or1 (pt_cmpR op_gtI (pe_callB (call_lenK (K := K)) (by rfl) T.n_len (by decide +kernel) (pa_cons (pv 0) pa_nil)) (pe_gint T.c_MOST_GUESTS) (nomark _)))))
  (pss_one (ps_ret pe_bl))
  pss_nil)
  (pss_cons (ps_set (i := 2) scp.nd rfl (by first | exact Or.inl rfl | exact Or.inr rfl) pe_int)
  (pss_cons (ps_or (ps_lock (ps_for PassesOwn.never rfl (pi_items (pv 0)) (pg_tupK (K := K) (n := 2) rfl (pgs_cons (pg_name (i := 3) scp.nd rfl (by first | exact Or.inl rfl | exact Or.inr rfl)) (pgs_cons (pg_name (i := 4) scp.nd rfl (by first | exact Or.inl rfl | exact Or.inr rfl)) pgs_nil)))
  (pss_cons (ps_if (PW.pt (pw_or (pt_not (pt_val (pe_call (G_is_name.mono (by decide)) hr rfl g_is_name F_is_name.kp b_is_name .nil pass0 (pa_cons (pv 3) pa_nil)))) (pw_or (pt_not (pt_val (pe_callB (call_isiY (K := K)) (by rfl) T.n_isinstance (by decide +kernel) (pa_cons (pv 4) (pa_cons (pe_bty (T := "tuple") T.n_tuple (by decide +kernel)) pa_nil))))) (pw_or1 (pt_cmpR (op_neK (K := K) hv) (pe_callB (call_lenK (K := K)) (by rfl) T.n_len (by decide +kernel) (pa_cons (pv 4) pa_nil)) pe_int (nomark _))))))
  (pss_one (ps_ret pe_bl))
  pss_nil)
  (pss_cons (ps_asg (pv 4) (pg_tupK (K := K) (n := 2) rfl (pgs_cons (pg_name (i := 5) scp.nd rfl (by first | exact Or.inl rfl | exact Or.inr rfl)) (pgs_cons (pg_name (i := 6) scp.nd rfl (by first | exact Or.inl rfl | exact Or.inr rfl)) pgs_nil))))
  (pss_cons (ps_if (PW.pt (pw_or (pt_not (pt_val (pe_call (G_is_whole.mono (by decide)) hr rfl g_is_whole F_is_whole.kp b_is_whole .nil pass0 (pa_cons (pv 5) (pa_cons pe_int (pa_cons (pv 1) pa_nil)))))) (pw_or1 (pt_not (pt_val (pe_call (G_is_whole.mono (by decide)) hr rfl g_is_whole F_is_whole.kp b_is_whole .nil pass0 (pa_cons (pv 6) (pa_cons (pe_callB (call_max2Y rfl) (by rfl) T.n_max (by decide +kernel) (pa_cons pe_int (pa_cons (pv 5) pa_nil))) (pa_cons (pv 1) pa_nil)))))))))
  (pss_one (ps_ret pe_bl))
  pss_nil)
  (pss_one (ps_aug (i := 2) scp.nd rfl (by first | exact Or.inl rfl | exact Or.inr rfl) (pv 5) ip_add))))))) (ps_for PassesOwn.never rfl (pi_items (pv 0)) (pg_tupK (K := K) (n := 2) rfl (pgs_cons (pg_name (i := 3) scp.nd rfl (by first | exact Or.inl rfl | exact Or.inr rfl)) (pgs_cons (pg_name (i := 4) scp.nd rfl (by first | exact Or.inl rfl | exact Or.inr rfl)) pgs_nil)))
  (pss_cons (ps_if (PW.pt (pw_or (pt_not (pt_val (pe_call (G_is_name.mono (by decide)) hr rfl g_is_name F_is_name.kp b_is_name .nil pass0 (pa_cons (pv 3) pa_nil)))) (pw_or (pt_not (pt_val (pe_callB (call_isiY (K := K)) (by rfl) T.n_isinstance (by decide +kernel) (pa_cons (pv 4) (pa_cons (pe_bty (T := "tuple") T.n_tuple (by decide +kernel)) pa_nil))))) (pw_or1 (pt_cmpR (op_neK (K := K) hv) (pe_callB (call_lenK (K := K)) (by rfl) T.n_len (by decide +kernel) (pa_cons (pv 4) pa_nil)) pe_int (nomark _))))))
  (pss_one (ps_ret pe_bl))
  pss_nil)
  (pss_cons (ps_asg (pv 4) (pg_tupK (K := K) (n := 2) rfl (pgs_cons (pg_name (i := 5) scp.nd rfl (by first | exact Or.inl rfl | exact Or.inr rfl)) (pgs_cons (pg_name (i := 6) scp.nd rfl (by first | exact Or.inl rfl | exact Or.inr rfl)) pgs_nil))))
  (pss_cons (ps_if (PW.pt (pw_or (pt_not (pt_val (pe_call (G_is_whole.mono (by decide)) hr rfl g_is_whole F_is_whole.kp b_is_whole .nil pass0 (pa_cons (pv 5) (pa_cons pe_int (pa_cons (pv 1) pa_nil)))))) (pw_or1 (pt_not (pt_val (pe_call (G_is_whole.mono (by decide)) hr rfl g_is_whole F_is_whole.kp b_is_whole .nil pass0 (pa_cons (pv 6) (pa_cons (pe_callB (call_max2Y rfl) (by rfl) T.n_max (by decide +kernel) (pa_cons pe_int (pa_cons (pv 5) pa_nil))) (pa_cons (pv 1) pa_nil)))))))))
  (pss_one (ps_ret pe_bl))
  pss_nil)
  (pss_one (ps_aug (i := 2) scp.nd rfl (by first | exact Or.inl rfl | exact Or.inr rfl) (pv 5) ip_add)))))))
  (pss_one (ps_ret (pe_cmpR op_leI (pv 2) (pv 1) (nomark _))))))), ?_⟩
    rcases h with ⟨g, L, o, nm, ts, p, c, rfl, G, O, q⟩ | ⟨x, L, rfl, h4, od, q⟩
    · have hd := G.d
      walk_at "ys"
      refine y_dF (by rw [kvOf_len G.len]; have := G.few; omega) ?_
      walk_at "ys"
      refine y_orR ?_
      walk_at "ys"
      refine for_it walk_items (fun i σ H' => ∃ u3 u4 u5 u6 : Option V, σ = [some (.ref g), some (.int L), some (.int (Deal.sumTo p i : Nat)), u3, u4, u5, u6] ∧ Same H H') ⟨none, none, none, none, rfl, Same.refl H⟩ (fun i σ H' _ ⟨_, _, _, _, _, e⟩ => e _ _ hd) (fun i x σ H1 H2 hi hP hY => ?_) (fun σ H' hP => ?_)
      · obtain ⟨u3, u4, u5, u6, rfl, e⟩ := hP
        obtain ⟨T', a, b, rfl, nT, rfl, h1, h2⟩ := hY
        obtain ⟨z, t, hz, ht, rfl, rfl⟩ := kvOf_pair h1 h2
        have hin : i < nm.length := (List.getElem?_eq_some_iff.mp hz).1
        have h3 : H1 t = some (.tup [.int (p i), .int (c i)]) := e _ _ (G.t i t ht)
        have hok := G.ok z (List.mem_of_getElem? hz)
        walk_at "ys"
        refine ⟨.str z, rfl, .str z, fun z' h => by rw [← V.str.inj h]; have := hok.hi; omega, fun b H3 e3 hb => ?_⟩
        rw [hb.mpr ⟨z, rfl, hok⟩]
        walk_at "ys"
        obtain ⟨h4, h5, h6, h7⟩ := O i hin
        refine ⟨.int (p i), 0, L, rfl, .int _, ?_⟩
        rw [isW_in (by omega) (by omega)]
        walk_at "ys"
        refine ⟨.int (c i), _, L, rfl, .int _, ?_⟩
        rw [isW_in (by split <;> omega) (by omega)]
        walk_at "ys"
        exact ⟨_, _, _, _, rfl, e.trans ((same_new0 nT).trans e3)⟩
      · obtain ⟨u3, u4, u5, u6, rfl, e⟩ := hP
        walk_at "ys"
        have e9 : decide (((Deal.sumTo p (kvOf nm ts).length : Nat) : Int) ≤ (L : Int)) = decide (Deal.sumTo p nm.length ≤ L) := by
          rw [kvOf_len G.len]
          exact decide_eq_decide.mpr (by omega)
        rw [e9]
        exact q _ e
    · cases od with
      | non =>
        walk_at "ys"
        exact q _ (Same.refl _)
      | lst h =>
        walk_at "ys"
        exact q _ (Same.refl _)
      | @one a t h ht =>
        walk_at "ys"
        refine y_dF (by show ¬ ((6 : Int) < 1); omega) ?_
        walk_at "ys"
        refine y_orL (y_lock h True.intro fun od => ?_)
        have hne : t ≠ a := ne_of ht h (fun z => by cases z)
        have ht1 : upd H a (.frz od (.dK [((Sum.inr "a" : Key), V.ref t)])) t = some (.tup [.int 1]) := up_ne hne ht
        have hd1 : upd H a (.frz od (.dK [((Sum.inr "a" : Key), V.ref t)])) a = some (.frz od (.dK [((Sum.inr "a" : Key), V.ref t)])) := upd_same
        have fin : ∀ H', Same (upd H a (.frz od (.dK [((Sum.inr "a" : Key), V.ref t)]))) H' → H' a = some (.frz od (.dK [((Sum.inr "a" : Key), V.ref t)])) ∧ Q (.bl false) (upd H' a (.dK [((Sum.inr "a" : Key), V.ref t)])) := fun H' e => ⟨e _ _ hd1, q _ (lock_same h e)⟩
        generalize upd H a (.frz od (.dK [((Sum.inr "a" : Key), V.ref t)])) = H1 at *
        walk_at "ys"
        refine for_it walk_items (fun i σ H' => i = 0 ∧ σ = [some (.ref a), some (.int L), some (.int 0), none, none, none, none] ∧ H' = H1) ⟨rfl, rfl, rfl⟩ (fun i σ H' _ hP => by rw [hP.2.2]; exact hd1) (fun i x σ H2 H3 hi hP hY => ?_) (fun σ H' hP => absurd hP.1 (by simp))
        obtain ⟨rfl, rfl, rfl⟩ := hP
        obtain ⟨T', a', b', rfl, nT, rfl, h1, h2⟩ := hY
        obtain ⟨rfl, rfl⟩ := one_item h1 h2
        have ht2 := up_new (u := .tup [.str "a", .ref t]) nT ht1
        have f2 : Same H2 (upd H2 T' (.tup [.str "a", .ref t])) := same_new0 nT
        walk_at "ys"
        refine ⟨.str "a", rfl, .str _, fun z' h => by rw [← V.str.inj h]; decide +kernel, fun b H4 e4 hb => ?_⟩
        rw [hb.mpr ⟨_, rfl, okA⟩]
        have ht3 := e4 _ _ ht2
        walk_at "ys"
        exact fin _ (f2.trans e4)
      | @big a t h ht =>
        walk_at "ys"
        refine y_dF (by show ¬ ((6 : Int) < 1); omega) ?_
        walk_at "ys"
        refine y_orL (y_lock h True.intro fun od => ?_)
        have hne : t ≠ a := ne_of ht h (fun z => by cases z)
        have ht1 : upd H a (.frz od (.dK [((Sum.inr "A" : Key), V.ref t)])) t = some (.tup [.int 1, .int 2]) := up_ne hne ht
        have hd1 : upd H a (.frz od (.dK [((Sum.inr "A" : Key), V.ref t)])) a = some (.frz od (.dK [((Sum.inr "A" : Key), V.ref t)])) := upd_same
        have fin : ∀ H', Same (upd H a (.frz od (.dK [((Sum.inr "A" : Key), V.ref t)]))) H' → H' a = some (.frz od (.dK [((Sum.inr "A" : Key), V.ref t)])) ∧ Q (.bl false) (upd H' a (.dK [((Sum.inr "A" : Key), V.ref t)])) := fun H' e => ⟨e _ _ hd1, q _ (lock_same h e)⟩
        generalize upd H a (.frz od (.dK [((Sum.inr "A" : Key), V.ref t)])) = H1 at *
        walk_at "ys"
        refine for_it walk_items (fun i σ H' => i = 0 ∧ σ = [some (.ref a), some (.int L), some (.int 0), none, none, none, none] ∧ H' = H1) ⟨rfl, rfl, rfl⟩ (fun i σ H' _ hP => by rw [hP.2.2]; exact hd1) (fun i x σ H2 H3 hi hP hY => ?_) (fun σ H' hP => absurd hP.1 (by simp))
        obtain ⟨rfl, rfl, rfl⟩ := hP
        obtain ⟨T', a', b', rfl, nT, rfl, h1, h2⟩ := hY
        obtain ⟨rfl, rfl⟩ := one_item h1 h2
        have ht2 := up_new (u := .tup [.str "A", .ref t]) nT ht1
        have f2 : Same H2 (upd H2 T' (.tup [.str "A", .ref t])) := same_new0 nT
        walk_at "ys"
        refine ⟨.str "A", rfl, .str _, fun z' h => by rw [← V.str.inj h]; decide +kernel, fun b H4 e4 hb => ?_⟩
        have hb0 : b = false := by
          cases b with
          | false => rfl
          | true =>
            obtain ⟨z, h, hok⟩ := hb.mp rfl
            rw [← V.str.inj h] at hok
            exact absurd hok noBig
        rw [hb0]
        walk_at "ys"
        exact fin _ (f2.trans e4)
      | @zero a t h ht =>
        walk_at "ys"
        refine y_dF (by show ¬ ((6 : Int) < 1); omega) ?_
        walk_at "ys"
        refine y_orL (y_lock h True.intro fun od => ?_)
        have hne : t ≠ a := ne_of ht h (fun z => by cases z)
        have ht1 : upd H a (.frz od (.dK [((Sum.inr "a" : Key), V.ref t)])) t = some (.tup [.int 0, .int 0]) := up_ne hne ht
        have hd1 : upd H a (.frz od (.dK [((Sum.inr "a" : Key), V.ref t)])) a = some (.frz od (.dK [((Sum.inr "a" : Key), V.ref t)])) := upd_same
        have fin : ∀ H', Same (upd H a (.frz od (.dK [((Sum.inr "a" : Key), V.ref t)]))) H' → H' a = some (.frz od (.dK [((Sum.inr "a" : Key), V.ref t)])) ∧ Q (.bl false) (upd H' a (.dK [((Sum.inr "a" : Key), V.ref t)])) := fun H' e => ⟨e _ _ hd1, q _ (lock_same h e)⟩
        generalize upd H a (.frz od (.dK [((Sum.inr "a" : Key), V.ref t)])) = H1 at *
        walk_at "ys"
        refine for_it walk_items (fun i σ H' => i = 0 ∧ σ = [some (.ref a), some (.int L), some (.int 0), none, none, none, none] ∧ H' = H1) ⟨rfl, rfl, rfl⟩ (fun i σ H' _ hP => by rw [hP.2.2]; exact hd1) (fun i x σ H2 H3 hi hP hY => ?_) (fun σ H' hP => absurd hP.1 (by simp))
        obtain ⟨rfl, rfl, rfl⟩ := hP
        obtain ⟨T', a', b', rfl, nT, rfl, h1, h2⟩ := hY
        obtain ⟨rfl, rfl⟩ := one_item h1 h2
        have ht2 := up_new (u := .tup [.str "a", .ref t]) nT ht1
        have f2 : Same H2 (upd H2 T' (.tup [.str "a", .ref t])) := same_new0 nT
        walk_at "ys"
        refine ⟨.str "a", rfl, .str _, fun z' h => by rw [← V.str.inj h]; decide +kernel, fun b H4 e4 hb => ?_⟩
        rw [hb.mpr ⟨_, rfl, okA⟩]
        have ht3 := e4 _ _ ht2
        walk_at "ys"
        refine ⟨.int 0, 0, L, rfl, .int _, ?_⟩
        rw [isW_in (by omega) (by omega)]
        walk_at "ys"
        refine ⟨.int 0, _, L, rfl, .int _, ?_⟩
        rw [isW_lo (by decide)]
        walk_at "ys"
        exact fin _ (f2.trans e4)
      | @two a t u h ht hu' =>
        walk_at "ys"
        refine y_dF (by show ¬ ((6 : Int) < 2); omega) ?_
        walk_at "ys"
        refine y_orL (y_lock h True.intro fun od => ?_)
        have hne : t ≠ a := ne_of ht h (fun z => by cases z)
        have hne2 : u ≠ a := ne_of hu' h (fun z => by cases z)
        have ht1 : upd H a (.frz od (.dK [((Sum.inr "a" : Key), V.ref t), ((Sum.inr "b" : Key), V.ref u)])) t = some (.tup [.int L, .int L]) := up_ne hne ht
        have hu1 : upd H a (.frz od (.dK [((Sum.inr "a" : Key), V.ref t), ((Sum.inr "b" : Key), V.ref u)])) u = some (.tup [.int 1, .int 1]) := up_ne hne2 hu'
        have hd1 : upd H a (.frz od (.dK [((Sum.inr "a" : Key), V.ref t), ((Sum.inr "b" : Key), V.ref u)])) a = some (.frz od (.dK [((Sum.inr "a" : Key), V.ref t), ((Sum.inr "b" : Key), V.ref u)])) := upd_same
        have fin : ∀ H', Same (upd H a (.frz od (.dK [((Sum.inr "a" : Key), V.ref t), ((Sum.inr "b" : Key), V.ref u)]))) H' → H' a = some (.frz od (.dK [((Sum.inr "a" : Key), V.ref t), ((Sum.inr "b" : Key), V.ref u)])) ∧ Q (.bl false) (upd H' a (.dK [((Sum.inr "a" : Key), V.ref t), ((Sum.inr "b" : Key), V.ref u)])) := fun H' e => ⟨e _ _ hd1, q _ (lock_same h e)⟩
        generalize upd H a (.frz od (.dK [((Sum.inr "a" : Key), V.ref t), ((Sum.inr "b" : Key), V.ref u)])) = H1 at *
        walk_at "ys"
        refine for_it walk_items (fun i σ H' => ∃ v3 v4 v5 v6 : Option V, σ = [some (.ref a), some (.int L), some (.int (if i = 0 then 0 else if i = 1 then (L : Int) else L + 1)), v3, v4, v5, v6] ∧ Same H1 H') ⟨none, none, none, none, rfl, Same.refl _⟩ (fun i σ H' _ hP => ?_) (fun i x σ H2 H3 hi hP hY => ?_) (fun σ H' hP => ?_)
        · obtain ⟨_, _, _, _, _, e⟩ := hP
          exact e _ _ hd1
        · obtain ⟨v3, v4, v5, v6, rfl, e2⟩ := hP
          obtain ⟨T', a', b', rfl, nT, rfl, h1, h2⟩ := hY
          have ht2 := up_new (u := .tup [a', b']) nT (e2 _ _ ht1)
          have hu2 := up_new (u := .tup [a', b']) nT (e2 _ _ hu1)
          have f2 : Same H2 (upd H2 T' (.tup [a', b'])) := same_new0 nT
          match i, h1, h2 with
          | 0, h1, h2 =>
            obtain rfl := (Option.some.inj h1)
            obtain rfl := (Option.some.inj h2)
            walk_at "ys"
            refine ⟨.str "a", rfl, .str _, fun z' h => by rw [← V.str.inj h]; decide +kernel, fun b H4 e4 hb => ?_⟩
            rw [hb.mpr ⟨_, rfl, okA⟩]
            have ht3 := e4 _ _ ht2
            walk_at "ys"
            refine ⟨.int L, 0, L, rfl, .int _, ?_⟩
            rw [isW_in (by omega) (by omega)]
            walk_at "ys"
            refine ⟨.int L, _, L, rfl, .int _, ?_⟩
            rw [isW_in (by split <;> omega) (by omega)]
            walk_at "ys"
            have ez : (if (0 : Nat) = 0 then (0 : Int) else if (0 : Nat) = 1 then (L : Int) else L + 1) + L = (if (0 + 1 : Nat) = 0 then (0 : Int) else if (0 + 1 : Nat) = 1 then (L : Int) else L + 1) := by simp
            rw [ez]
            exact ⟨_, _, _, _, rfl, (e2.trans f2).trans e4⟩
          | 1, h1, h2 =>
            obtain rfl := (Option.some.inj h1)
            obtain rfl := (Option.some.inj h2)
            walk_at "ys"
            refine ⟨.str "b", rfl, .str _, fun z' h => by rw [← V.str.inj h]; decide +kernel, fun b H4 e4 hb => ?_⟩
            rw [hb.mpr ⟨_, rfl, okB⟩]
            have hu3 := e4 _ _ hu2
            walk_at "ys"
            refine ⟨.int 1, 0, L, rfl, .int _, ?_⟩
            rw [isW_in (by omega) (by omega)]
            walk_at "ys"
            refine ⟨.int 1, _, L, rfl, .int _, ?_⟩
            rw [isW_in (by decide) (by omega)]
            walk_at "ys"
            have ez : (if (1 : Nat) = 0 then (0 : Int) else if (1 : Nat) = 1 then (L : Int) else L + 1) + 1 = (if (1 + 1 : Nat) = 0 then (0 : Int) else if (1 + 1 : Nat) = 1 then (L : Int) else L + 1) := by simp
            rw [ez]
            exact ⟨_, _, _, _, rfl, (e2.trans f2).trans e4⟩
        · obtain ⟨v3, v4, v5, v6, rfl, e2⟩ := hP
          refine ⟨e2 _ _ hd1, ?_⟩
          walk_at "ys"
          have e9 : decide ((if ([((Sum.inr "a" : Key), V.ref t), ((Sum.inr "b" : Key), V.ref u)].length = 0) then (0 : Int) else if ([((Sum.inr "a" : Key), V.ref t), ((Sum.inr "b" : Key), V.ref u)].length = 1) then (L : Int) else L + 1) ≤ (L : Int)) = false := decide_eq_false (by simp; omega)
          rw [e9]
          exact (fin _ e2).2
      | @lis a t h ht =>
        walk_at "ys"
        refine y_dF (by show ¬ ((6 : Int) < 1); omega) ?_
        walk_at "ys"
        refine y_orL (y_lock h True.intro fun od => ?_)
        have hne : t ≠ a := ne_of ht h (fun z => by cases z)
        have ht1 : upd H a (.frz od (.dK [((Sum.inr "a" : Key), V.ref t)])) t = some (.lst [.int 1, .int 2]) := up_ne hne ht
        have hd1 : upd H a (.frz od (.dK [((Sum.inr "a" : Key), V.ref t)])) a = some (.frz od (.dK [((Sum.inr "a" : Key), V.ref t)])) := upd_same
        have fin : ∀ H', Same (upd H a (.frz od (.dK [((Sum.inr "a" : Key), V.ref t)]))) H' → H' a = some (.frz od (.dK [((Sum.inr "a" : Key), V.ref t)])) ∧ Q (.bl false) (upd H' a (.dK [((Sum.inr "a" : Key), V.ref t)])) := fun H' e => ⟨e _ _ hd1, q _ (lock_same h e)⟩
        generalize upd H a (.frz od (.dK [((Sum.inr "a" : Key), V.ref t)])) = H1 at *
        walk_at "ys"
        refine for_it walk_items (fun i σ H' => i = 0 ∧ σ = [some (.ref a), some (.int L), some (.int 0), none, none, none, none] ∧ H' = H1) ⟨rfl, rfl, rfl⟩ (fun i σ H' _ hP => by rw [hP.2.2]; exact hd1) (fun i x σ H2 H3 hi hP hY => ?_) (fun σ H' hP => absurd hP.1 (by simp))
        obtain ⟨rfl, rfl, rfl⟩ := hP
        obtain ⟨T', a', b', rfl, nT, rfl, h1, h2⟩ := hY
        obtain ⟨rfl, rfl⟩ := one_item h1 h2
        have ht2 := up_new (u := .tup [.str "a", .ref t]) nT ht1
        have f2 : Same H2 (upd H2 T' (.tup [.str "a", .ref t])) := same_new0 nT
        walk_at "ys"
        refine ⟨.str "a", rfl, .str _, fun z' h => by rw [← V.str.inj h]; decide +kernel, fun b H4 e4 hb => ?_⟩
        rw [hb.mpr ⟨_, rfl, okA⟩]
        have ht3 := e4 _ _ ht2
        walk_at "ys"
        exact fin _ (f2.trans e4)
theorem valV_kvOf {nm : List Str} {ts : List Addr} : ∀ {i : Nat} {z : Str} {t : Addr}, nm.Nodup → nm[i]? = some z → ts[i]? = some t → valV (kvOf nm ts) (Sum.inr z) = some (.ref t) := by
  induction nm generalizing ts with
  | nil => intro i z t _ h _; simp at h
  | cons a r ih =>
    intro i z t nd hz ht
    cases ts with
    | nil => simp at ht
    | cons b bs =>
      have hk : kvOf (a :: r) (b :: bs) = ((Sum.inr a : Key), V.ref b) :: kvOf r bs := rfl
      rw [hk]
      cases i with
      | zero =>
        have h1 : a = z := Option.some.inj hz
        have h2 : b = t := Option.some.inj ht
        subst h1
        subst h2
        exact valV_pos rfl
      | succ i =>
        have nd' := List.nodup_cons.mp nd
        have hz' : r[i]? = some z := hz
        rw [valV_neg (p := ((Sum.inr a : Key), V.ref b)) (fun e => nd'.1 (by
          have : a = z := Sum.inr.inj e
          rw [this]
          exact List.mem_of_getElem? hz'))]
        exact ih nd'.2 hz' ht
theorem kvOf_keys {nm : List Str} : ∀ {ts : List Addr}, ts.length = nm.length → (kvOf nm ts).map (fun kv => kV kv.1) = nm.map V.str := by
  induction nm with
  | nil => intro ts _; rfl
  | cons a r ih =>
    intro ts h
    cases ts with
    | nil => simp at h
    | cons b bs =>
      have hk : kvOf (a :: r) (b :: bs) = ((Sum.inr a : Key), V.ref b) :: kvOf r bs := rfl
      rw [hk, List.map_cons, List.map_cons, ih (by simpa using h)]
      rfl
end
end K87
namespace K87
open PySem L2 Y

theorem int_div {a b : Nat} : ((a : Int) / (b : Int)) = ((a / b : Nat) : Int) := (Int.natCast_ediv a b).symm
theorem int_ceil {a b : Nat} (hb : 0 < b) : -(-(a : Int) / (b : Int)) = (((a + b - 1) / b : Nat) : Int) := by
  have h0 : (0 : Int) < b := by omega
  generalize hq : (a + b - 1) / b = q
  have h1 : ¬ (q * b < a) := fun z => by
    have := (Deal.div_lt_ceil hb).mpr z
    omega
  have h2 : 0 < q → (q - 1) * b < a := fun hp => (Deal.div_lt_ceil hb).mp (by omega)
  have e : (-(a : Int)) / (b : Int) = -(q : Int) := by
    apply Int.le_antisymm
    · have : (-(a : Int)) / (b : Int) < -(q : Int) + 1 := by
        apply Int.ediv_lt_of_lt_mul h0
        by_cases hp : 0 < q
        · have h3 := h2 hp
          have h4 : ((q - 1 : Nat) : Int) * b < a := by
            rw [← Int.natCast_mul]
            omega
          have h5 : (-(q : Int) + 1) * b = -(((q - 1 : Nat) : Int) * b) := by
            rw [← Int.neg_mul]
            congr 1
            omega
          rw [h5]
          omega
        · have : q = 0 := by omega
          subst this
          have h6 : (-((0 : Nat) : Int) + 1) * (b : Int) = b := by simp
          rw [h6]
          omega
      omega
    · apply Int.le_ediv_of_mul_le h0
      rw [Int.neg_mul, ← Int.natCast_mul]
      omega
  rw [e]
  omega
theorem valV_none {nm : List Str} {ts : List Addr} {y : Str} (h : y ∉ nm) : valV (kvOf nm ts) (Sum.inr y) = none := by
  unfold valV
  have : (kvOf nm ts).find? (fun kv => decide (kv.1 = Sum.inr y)) = none := by
    rw [List.find?_eq_none]
    intro kv hkv
    unfold kvOf at hkv
    obtain ⟨x, hx, rfl⟩ := List.mem_map.mp hkv
    have h1 : x.1 ∈ nm := (List.of_mem_zip hx).1
    simp only [decide_eq_true_eq]
    intro z
    have z : x.1 = y := Sum.inr.inj z
    rw [z] at h1
    exact h h1
  rw [this]
  rfl
/-- why a case is refused -/
def CaseRef (H : Hp) (E : XK) (CN CS CG : Addr) (x g z : V) : Prop :=
  (Kd H x ∧ isW x 4 60 = false ∧ Refu H E CN x) ∨
  (∃ L : Nat, x = .int L ∧ 4 ≤ L ∧ L ≤ 60 ∧ OddSh H L g ∧ Refu H E CS g) ∨
  (∃ (L : Nat) (ga : Addr) (o : Obj) (nm : List Str) (ts : List Addr) (p c : Nat → Nat), x = .int L ∧ 4 ≤ L ∧ L ≤ 60 ∧ g = .ref ga ∧ Gs H ga o nm ts p c ∧ Deal.Ok nm.length L p c ∧ Kd H z ∧ (∀ y, z = .str y → y ∉ nm) ∧ Refu H E CG z)
/-- a case as it should be -/
structure Good (H : Hp) (x g : V) (L : Nat) (ga : Addr) (o : Obj) (nm : List Str) (ts : List Addr) (p c : Nat → Nat) : Prop where
  x : x = .int L
  g : g = .ref ga
  G : Gs H ga o nm ts p c
  O : Deal.Ok nm.length L p c
  lo : 4 ≤ L
  hi : L ≤ 60
theorem Good.same {H H' : Hp} {x g : V} {L : Nat} {ga : Addr} {o : Obj} {nm : List Str} {ts : List Addr} {p c : Nat → Nat} (W : Good H x g L ga o nm ts p c) (e : Same H H') : Good H' x g L ga o nm ts p c := ⟨W.x, W.g, W.G.same e, W.O, W.lo, W.hi⟩
theorem ok_lims {n L : Nat} {p c : Nat → Nat} (O : Deal.Ok n L p c) : ∀ i, i < n → p i ≤ L ∧ p i ≤ c i ∧ 1 ≤ c i ∧ c i ≤ L := fun i hi => by
  have h1 := O.pc i hi
  have h2 := O.one i hi
  have h3 := O.cL i hi
  omega
section
variable {P : Program} {w : World} {K : PySem.W.Frag} {mg : Str → Option Value} {base : Heap}
def sp_ahead_by_promise (K : PySem.W.Frag) : Sp := fun vs H Q _ => ∃ (a b : Addr) (sp sc tp tc k : Nat) (e : Bool), vs = [.ref a, .ref b, .int k, .bl e] ∧ H a = some (.tup [.int sp, .int sc]) ∧ H b = some (.tup [.int tp, .int tc]) ∧ 0 < sp ∧ sp ≤ 1000 ∧ tp ≤ 1000 ∧ k ≤ 1000 ∧ Q (.int (Deal.aheadP sp tp e k)) H
theorem ok_ahead_by_promise {f : Addr} {fd : FuncData} (T : Txt K mg) (F : Fun K "ahead_by_promise" "ahead_by_promise" s_ahead_by_promise f fd) : FnOk P w K mg base CX0 1 f fd ["share", "other", "used", "earlier"] (sp_ahead_by_promise K) := by
  have scp := sc_ahead_by_promise
  refine F.ok sc_ahead_by_promise (fun vs H Q E h => ?_) (fun cdv A outer s H vs Q E hr h => ?_)
  · first | (obtain ⟨rfl, _⟩ := h; rfl) | (obtain ⟨_, rfl, _⟩ := h; rfl) | (obtain ⟨_, _, rfl, _⟩ := h; rfl) | (obtain ⟨_, _, _, rfl, _⟩ := h; rfl) | (obtain ⟨_, _, _, _, rfl, _⟩ := h; rfl) | (obtain ⟨_, _, _, _, _, rfl, _⟩ := h; rfl) | (obtain ⟨_, _, _, _, _, _, rfl, _⟩ := h; rfl) | (obtain ⟨_, _, _, _, _, _, _, rfl, _⟩ := h; rfl) | (obtain ⟨_, _, _, _, _, _, _, _, rfl, _⟩ := h; rfl) | (obtain ⟨_, _, _, _, _, _, _, _, _, rfl, _⟩ := h; rfl) | (obtain ⟨_, _, _, _, _, _, _, _, _, _, rfl, _⟩ := h; rfl) | (obtain ⟨_, _, _, _, _, _, _, _, _, _, _, rfl, _⟩ := h; rfl) | (obtain ⟨_, _, _, _, _, _, _, _, _, _, _, _, rfl, _⟩ := h; rfl) | (obtain ⟨_, _, _, _, _, _, _, _, _, _, _, _, _, rfl, _⟩ := h; rfl) | (obtain ⟨_, _, _, _, _, _, _, _, _, _, _, _, _, _, rfl, _⟩ := h; rfl) | (obtain ⟨_, _, _, _, _, _, _, _, _, _, _, _, _, _, _, rfl, _⟩ := h; rfl) | (obtain ⟨_, _, _, _, _, _, _, _, _, _, _, _, _, _, _, _, rfl, _⟩ := h; rfl) | (obtain ⟨_, _, _, _, _, _, _, _, _, _, _, _, _, _, _, _, _, rfl, _⟩ := h; rfl) | (obtain ⟨_, _, _, _, _, _, _, _, _, _, _, _, _, _, _, _, _, _, rfl, _⟩ := h; rfl) | (obtain ⟨_, _, _, _, _, _, _, _, _, _, _, _, _, _, _, _, _, _, _, rfl, _⟩ := h; rfl) | (obtain ⟨_, _, _, _, _, _, _, _, _, _, _, _, _, _, _, _, _, _, _, _, rfl, _⟩ := h; rfl) | (obtain ⟨_, _, _, _, _, _, _, _, _, _, _, _, _, _, _, _, _, _, _, _, _, rfl, _⟩ := h; rfl) | (obtain ⟨_, _, _, _, _, _, _, _, _, _, _, _, _, _, _, _, _, _, _, _, _, _, rfl, _⟩ := h; rfl) | (obtain ⟨_, _, _, _, _, _, _, _, _, _, _, _, _, _, _, _, _, _, _, _, _, _, _, rfl, _⟩ := h; rfl) | (obtain ⟨_, _, _, _, _, _, _, _, _, _, _, _, _, _, _, _, _, _, _, _, _, _, _, _, rfl, _⟩ := h; rfl) | (obtain ⟨_, _, _, _, _, _, _, _, _, _, _, _, _, _, _, _, _, _, _, _, _, _, _, _, _, rfl, _⟩ := h; rfl) | (obtain ⟨_, _, _, _, _, _, _, _, _, _, _, _, _, _, _, _, _, _, _, _, _, _, _, _, _, _, rfl, _⟩ := h; rfl) | (obtain ⟨_, _, _, _, _, _, _, _, _, _, _, _, _, _, _, _, _, _, _, _, _, _, _, _, _, _, _, rfl, _⟩ := h; rfl)
  · obtain ⟨a, b, sp, sc, tp, tc, k, e, rfl, ha, hb, h0, hs, ht, hk, q⟩ := h
    have hu := hu_of hr
    have hv := hr.units
    refine ⟨_, (pss_cons (ps_asg (pv 0) (pg_tupK (K := K) (n := 2) rfl (pgs_cons (pg_name (i := 4) scp.nd rfl (by first | exact Or.inl rfl | exact Or.inr rfl)) (pgs_cons (pg_name (i := 5) scp.nd rfl (by first | exact Or.inl rfl | exact Or.inr rfl)) pgs_nil))))
  (pss_cons (ps_asg (pv 1) (pg_tupK (K := K) (n := 2) rfl (pgs_cons (pg_name (i := 6) scp.nd rfl (by first | exact Or.inl rfl | exact Or.inr rfl)) (pgs_cons (pg_name (i := 7) scp.nd rfl (by first | exact Or.inl rfl | exact Or.inr rfl)) pgs_nil))))
  (pss_cons (ps_set (i := 8) scp.nd rfl (by first | exact Or.inl rfl | exact Or.inr rfl) (pe_op op_times (pv 2) (pv 6)))
  (pss_cons (ps_set (i := 9) scp.nd rfl (by first | exact Or.inl rfl | exact Or.inr rfl) (pe_ifExp (pt_val (pv 3)) (pe_op op_plus (pe_op op_fdivY (pv 8) (pv 4)) pe_int) (pe_un un_negY (pe_op op_fdivY (pe_un un_negY (pv 8)) (pv 4)))))
  (pss_one (ps_ret (pe_callB (call_min2Y rfl) (by rfl) T.n_min (by decide +kernel) (pa_cons (pv 6) (pa_cons (pv 9) pa_nil))))))))), ?_⟩
    walk_at "ys"
    refine y_mulI (cmul_small (by omega) (by omega)) ?_
    walk_at "ys"
    unfold Deal.aheadP at q
    cases e with
    | true =>
      walk_at "ys"
      refine y_fdiv (cdiv_small (by omega) (by omega)) ?_
      walk_at "ys"
      rw [← Int.natCast_mul, int_div]
      rw [if_pos rfl] at q
      have e2 : (if ((k * tp / sp : Nat) : Int) + 1 < (tp : Int) then ((k * tp / sp : Nat) : Int) + 1 else (tp : Int)) = ((min tp (k * tp / sp + 1) : Nat) : Int) := by split <;> omega
      rw [e2]
      exact q
    | false =>
      walk_at "ys"
      refine y_fdiv (cdiv_small (by omega) (by omega)) ?_
      walk_at "ys"
      rw [← Int.natCast_mul, int_ceil h0]
      rw [if_neg Bool.false_ne_true] at q
      have e2 : (if (((k * tp + sp - 1) / sp : Nat) : Int) < (tp : Int) then (((k * tp + sp - 1) / sp : Nat) : Int) else (tp : Int)) = ((min tp ((k * tp + sp - 1) / sp) : Nat) : Int) := by split <;> omega
      rw [e2]
      exact q
def sp_ahead (K : PySem.W.Frag) : Sp := fun vs H Q _ => ∃ (a b : Addr) (sp sc tp tc k : Nat) (e : Bool), vs = [.ref a, .ref b, .int k, .bl e] ∧ H a = some (.tup [.int sp, .int sc]) ∧ H b = some (.tup [.int tp, .int tc]) ∧ sp ≤ 1000 ∧ tp ≤ 1000 ∧ k ≤ 1000 ∧ Q (.int (Deal.ahead sp tp tc e k)) H
theorem ok_ahead {f : Addr} {fd : FuncData} (T : Txt K mg) (F : Fun K "ahead" "ahead" s_ahead f fd) : FnOk P w K mg base CX0 2 f fd ["share", "other", "used", "earlier"] (sp_ahead K) := by
  obtain ⟨f_ahead_by_promise, fd_ahead_by_promise, g_ahead_by_promise, F_ahead_by_promise⟩ := T.d_ahead_by_promise
  have G_ahead_by_promise := ok_ahead_by_promise (P := P) (w := w) (base := base) T F_ahead_by_promise
  have b_ahead_by_promise := F_ahead_by_promise.binds (ps := ["share", "other", "used", "earlier"]) fun _ _ _ _ _ _ us hl => match us, hl with | [_, _, _, _], _ => rfl
  have scp := sc_ahead
  refine F.ok sc_ahead (fun vs H Q E h => ?_) (fun cdv A outer s H vs Q E hr h => ?_)
  · first | (obtain ⟨rfl, _⟩ := h; rfl) | (obtain ⟨_, rfl, _⟩ := h; rfl) | (obtain ⟨_, _, rfl, _⟩ := h; rfl) | (obtain ⟨_, _, _, rfl, _⟩ := h; rfl) | (obtain ⟨_, _, _, _, rfl, _⟩ := h; rfl) | (obtain ⟨_, _, _, _, _, rfl, _⟩ := h; rfl) | (obtain ⟨_, _, _, _, _, _, rfl, _⟩ := h; rfl) | (obtain ⟨_, _, _, _, _, _, _, rfl, _⟩ := h; rfl) | (obtain ⟨_, _, _, _, _, _, _, _, rfl, _⟩ := h; rfl) | (obtain ⟨_, _, _, _, _, _, _, _, _, rfl, _⟩ := h; rfl) | (obtain ⟨_, _, _, _, _, _, _, _, _, _, rfl, _⟩ := h; rfl) | (obtain ⟨_, _, _, _, _, _, _, _, _, _, _, rfl, _⟩ := h; rfl) | (obtain ⟨_, _, _, _, _, _, _, _, _, _, _, _, rfl, _⟩ := h; rfl) | (obtain ⟨_, _, _, _, _, _, _, _, _, _, _, _, _, rfl, _⟩ := h; rfl) | (obtain ⟨_, _, _, _, _, _, _, _, _, _, _, _, _, _, rfl, _⟩ := h; rfl) | (obtain ⟨_, _, _, _, _, _, _, _, _, _, _, _, _, _, _, rfl, _⟩ := h; rfl) | (obtain ⟨_, _, _, _, _, _, _, _, _, _, _, _, _, _, _, _, rfl, _⟩ := h; rfl) | (obtain ⟨_, _, _, _, _, _, _, _, _, _, _, _, _, _, _, _, _, rfl, _⟩ := h; rfl) | (obtain ⟨_, _, _, _, _, _, _, _, _, _, _, _, _, _, _, _, _, _, rfl, _⟩ := h; rfl) | (obtain ⟨_, _, _, _, _, _, _, _, _, _, _, _, _, _, _, _, _, _, _, rfl, _⟩ := h; rfl) | (obtain ⟨_, _, _, _, _, _, _, _, _, _, _, _, _, _, _, _, _, _, _, _, rfl, _⟩ := h; rfl) | (obtain ⟨_, _, _, _, _, _, _, _, _, _, _, _, _, _, _, _, _, _, _, _, _, rfl, _⟩ := h; rfl) | (obtain ⟨_, _, _, _, _, _, _, _, _, _, _, _, _, _, _, _, _, _, _, _, _, _, rfl, _⟩ := h; rfl) | (obtain ⟨_, _, _, _, _, _, _, _, _, _, _, _, _, _, _, _, _, _, _, _, _, _, _, rfl, _⟩ := h; rfl) | (obtain ⟨_, _, _, _, _, _, _, _, _, _, _, _, _, _, _, _, _, _, _, _, _, _, _, _, rfl, _⟩ := h; rfl) | (obtain ⟨_, _, _, _, _, _, _, _, _, _, _, _, _, _, _, _, _, _, _, _, _, _, _, _, _, rfl, _⟩ := h; rfl) | (obtain ⟨_, _, _, _, _, _, _, _, _, _, _, _, _, _, _, _, _, _, _, _, _, _, _, _, _, _, rfl, _⟩ := h; rfl) | (obtain ⟨_, _, _, _, _, _, _, _, _, _, _, _, _, _, _, _, _, _, _, _, _, _, _, _, _, _, _, rfl, _⟩ := h; rfl)
  · obtain ⟨a, b, sp, sc, tp, tc, k, e, rfl, ha, hb, hs, ht, hk, q⟩ := h
    have hu := hu_of hr
    have hv := hr.units
    refine ⟨_, (pss_cons (ps_asg (pv 0) (pg_tupK (K := K) (n := 2) rfl (pgs_cons (pg_name (i := 4) scp.nd rfl (by first | exact Or.inl rfl | exact Or.inr rfl)) (pgs_cons (pg_name (i := 5) scp.nd rfl (by first | exact Or.inl rfl | exact Or.inr rfl)) pgs_nil))))
  (pss_cons (ps_asg (pv 1) (pg_tupK (K := K) (n := 2) rfl (pgs_cons (pg_name (i := 6) scp.nd rfl (by first | exact Or.inl rfl | exact Or.inr rfl)) (pgs_cons (pg_name (i := 7) scp.nd rfl (by first | exact Or.inl rfl | exact Or.inr rfl)) pgs_nil))))
  (pss_cons (ps_if (pt_cmpR op_ltI (pv 2) (pv 4) (nomark _))
  (pss_one (ps_ret (pe_call (G_ahead_by_promise.mono (by decide)) hr rfl g_ahead_by_promise F_ahead_by_promise.kp b_ahead_by_promise .nil pass0 (pa_cons (pv 0) (pa_cons (pv 1) (pa_cons (pv 2) (pa_cons (pv 3) pa_nil)))))))
  pss_nil)
  (pss_one (ps_ret (pe_callB (call_min2Y rfl) (by rfl) T.n_min (by decide +kernel) (pa_cons (pv 7) (pa_cons (pe_callB (call_max2Y rfl) (by rfl) T.n_max (by decide +kernel) (pa_cons (pv 6) (pa_cons (pe_op op_plus (pv 2) (pe_callTy call_intY (by rfl) T.n_int (by decide +kernel) (pa_cons (pv 3) pa_nil))) pa_nil))) pa_nil)))))))), ?_⟩
    walk_at "ys"
    unfold Deal.ahead at q
    refine y_d2 (fun h1 => ?_) (fun h1 => ?_)
    · walk_at "ys"
      rw [if_pos (by omega)] at q
      exact ⟨a, b, sp, sc, tp, tc, k, e, rfl, ha, hb, by omega, hs, ht, hk, q⟩
    · walk_at "ys"
      rw [if_neg (by omega)] at q
      have e2 : ∀ j : Int, j = (if e = true then 1 else 0) → (if (if (k : Int) + j > (tp : Int) then (k : Int) + j else (tp : Int)) < (tc : Int) then (if (k : Int) + j > (tp : Int) then (k : Int) + j else (tp : Int)) else (tc : Int)) = ((min tc (max tp (k + if e = true then 1 else 0)) : Nat) : Int) := by
        intro j hj
        subst hj
        cases e
        · simp only [Bool.false_eq_true, if_false]
          split <;> split at * <;> omega
        · simp only [if_true]
          split <;> split at * <;> omega
      rw [e2 _ rfl]
      exact q
theorem fm_ite {α β : Type} (q : α → Bool) (g : α → β) : ∀ l : List α, l.filterMap (fun j => if q j = true then some (g j) else none) = (l.filter q).map g
  | [] => rfl
  | a :: r => by
    rw [List.filterMap_cons, List.filter_cons]
    by_cases h : q a = true
    · simp only [h, if_true, List.map_cons]
      rw [fm_ite q g r]
    · simp only [h, if_false]
      exact fm_ite q g r
def oth (n i : Nat) : List Nat := (List.range n).filter fun j => !decide (j = i)
theorem oth_sum (f : Nat → Nat) (i : Nat) : ∀ n : Nat, ((oth n i).map f).sum = Deal.sumTo (fun j => if j = i then 0 else f j) n
  | 0 => rfl
  | n + 1 => by
    have ih := oth_sum f i n
    unfold oth at *
    rw [List.range_succ, List.filter_append, List.map_append, List.sum_append, ih]
    show _ = Deal.sumTo (fun j => if j = i then 0 else f j) n + (if n = i then 0 else f n)
    by_cases e : n = i
    · simp [e]
    · simp [e]
theorem take_sum (f : Nat → Nat) {l : List Nat} {k j : Nat} (h : l[k]? = some j) : ((l.take (k + 1)).map f).sum = ((l.take k).map f).sum + f j := by
  rw [List.take_add_one, h, List.map_append, List.sum_append]
  simp
def nmF (nm : List Str) (j : Nat) : Str := nm.getD j ""
theorem nmF_at {nm : List Str} {j : Nat} (h : j < nm.length) : nm[j]? = some (nmF nm j) := by
  unfold nmF
  rw [List.getD_eq_getElem?_getD, List.getElem?_eq_getElem h]
  rfl
theorem nmF_of {nm : List Str} {j : Nat} {z : Str} (h : nm[j]? = some z) : nmF nm j = z := by
  unfold nmF
  rw [List.getD_eq_getElem?_getD, h]
  rfl
theorem nm_inj {nm : List Str} (nd : nm.Nodup) {i j : Nat} (hi : i < nm.length) (hj : j < nm.length) : nmF nm i = nmF nm j ↔ i = j :=
  ⟨fun e => nd_ix nd (nmF_at hi) (by rw [e]; exact nmF_at hj), fun e => by rw [e]⟩
def turnV (n L : Nat) (p c : Nat → Nat) (i m : Nat) : V := if c i < m then .non else if Deal.T n p c i (m - 1) ≤ L then .int (Deal.T n p c i (m - 1) : Nat) else .non
def sp_turn_of (K : PySem.W.Frag) : Sp := fun vs H Q _ => ∃ (L : Nat) (g : Addr) (o : Obj) (nm : List Str) (ts : List Addr) (p c : Nat → Nat) (i m : Nat), vs = [.int L, .ref g, .str (nmF nm i), .int m] ∧ Gs H g o nm ts p c ∧ Deal.Ok nm.length L p c ∧ i < nm.length ∧ 1 ≤ m ∧ m ≤ L ∧ L ≤ 60 ∧ ∀ H', Same H H' → Q (turnV nm.length L p c i m) H'
theorem ok_turn_of {f : Addr} {fd : FuncData} (T : Txt K mg) (F : Fun K "turn_of" "turn_of" s_turn_of f fd) : FnOk P w K mg base CX0 3 f fd ["length", "guests", "name", "many"] (sp_turn_of K) := by
  obtain ⟨f_ahead, fd_ahead, g_ahead, F_ahead⟩ := T.d_ahead
  have G_ahead := ok_ahead (P := P) (w := w) (base := base) T F_ahead
  have b_ahead := F_ahead.binds (ps := ["share", "other", "used", "earlier"]) fun _ _ _ _ _ _ us hl => match us, hl with | [_, _, _, _], _ => rfl
  have scp := sc_turn_of
  refine F.ok sc_turn_of (fun vs H Q E h => ?_) (fun cdv A outer s H vs Q E hr h => ?_)
  · first | (obtain ⟨rfl, _⟩ := h; rfl) | (obtain ⟨_, rfl, _⟩ := h; rfl) | (obtain ⟨_, _, rfl, _⟩ := h; rfl) | (obtain ⟨_, _, _, rfl, _⟩ := h; rfl) | (obtain ⟨_, _, _, _, rfl, _⟩ := h; rfl) | (obtain ⟨_, _, _, _, _, rfl, _⟩ := h; rfl) | (obtain ⟨_, _, _, _, _, _, rfl, _⟩ := h; rfl) | (obtain ⟨_, _, _, _, _, _, _, rfl, _⟩ := h; rfl) | (obtain ⟨_, _, _, _, _, _, _, _, rfl, _⟩ := h; rfl) | (obtain ⟨_, _, _, _, _, _, _, _, _, rfl, _⟩ := h; rfl) | (obtain ⟨_, _, _, _, _, _, _, _, _, _, rfl, _⟩ := h; rfl) | (obtain ⟨_, _, _, _, _, _, _, _, _, _, _, rfl, _⟩ := h; rfl) | (obtain ⟨_, _, _, _, _, _, _, _, _, _, _, _, rfl, _⟩ := h; rfl) | (obtain ⟨_, _, _, _, _, _, _, _, _, _, _, _, _, rfl, _⟩ := h; rfl) | (obtain ⟨_, _, _, _, _, _, _, _, _, _, _, _, _, _, rfl, _⟩ := h; rfl) | (obtain ⟨_, _, _, _, _, _, _, _, _, _, _, _, _, _, _, rfl, _⟩ := h; rfl) | (obtain ⟨_, _, _, _, _, _, _, _, _, _, _, _, _, _, _, _, rfl, _⟩ := h; rfl) | (obtain ⟨_, _, _, _, _, _, _, _, _, _, _, _, _, _, _, _, _, rfl, _⟩ := h; rfl) | (obtain ⟨_, _, _, _, _, _, _, _, _, _, _, _, _, _, _, _, _, _, rfl, _⟩ := h; rfl) | (obtain ⟨_, _, _, _, _, _, _, _, _, _, _, _, _, _, _, _, _, _, _, rfl, _⟩ := h; rfl) | (obtain ⟨_, _, _, _, _, _, _, _, _, _, _, _, _, _, _, _, _, _, _, _, rfl, _⟩ := h; rfl) | (obtain ⟨_, _, _, _, _, _, _, _, _, _, _, _, _, _, _, _, _, _, _, _, _, rfl, _⟩ := h; rfl) | (obtain ⟨_, _, _, _, _, _, _, _, _, _, _, _, _, _, _, _, _, _, _, _, _, _, rfl, _⟩ := h; rfl) | (obtain ⟨_, _, _, _, _, _, _, _, _, _, _, _, _, _, _, _, _, _, _, _, _, _, _, rfl, _⟩ := h; rfl) | (obtain ⟨_, _, _, _, _, _, _, _, _, _, _, _, _, _, _, _, _, _, _, _, _, _, _, _, rfl, _⟩ := h; rfl) | (obtain ⟨_, _, _, _, _, _, _, _, _, _, _, _, _, _, _, _, _, _, _, _, _, _, _, _, _, rfl, _⟩ := h; rfl) | (obtain ⟨_, _, _, _, _, _, _, _, _, _, _, _, _, _, _, _, _, _, _, _, _, _, _, _, _, _, rfl, _⟩ := h; rfl) | (obtain ⟨_, _, _, _, _, _, _, _, _, _, _, _, _, _, _, _, _, _, _, _, _, _, _, _, _, _, _, rfl, _⟩ := h; rfl)
  · obtain ⟨L, g, o, nm, ts, p, c, i, m, rfl, G, O, hi, hm1, hmL, h60, q⟩ := h
    have hu := hu_of hr
    have hv := hr.units
    have hd := G.d
    have hz := nmF_at hi
    have hti := List.getElem?_eq_getElem (show i < ts.length by rw [G.len]; exact hi)
    have hgi := G.t i _ hti
    have hvi := valV_kvOf G.nd hz hti
    refine ⟨_, (pss_cons (ps_if (pt_cmpR op_gtI (pv 3) (pe_ix (ix_anyK (K := K) hu) (pe_ix (ix_anyK (K := K) hu) (pv 1) (pv 2) (fun _ _ => rfl)) pe_int (fun _ _ => rfl)) (nomark _))
  (pss_one (ps_ret pe_non))
  pss_nil)
  (pss_cons (ps_set (i := 4) scp.nd rfl (by first | exact Or.inl rfl | exact Or.inr rfl) (pe_callTy (call_listK (K := K) rfl) (by rfl) T.n_list (by decide +kernel) (pa_cons (pv 1) pa_nil)))
  (pss_cons (ps_setLc (i := 5) (own := [("other", 7)]) (g := gName 7) rfl scp.nd rfl rfl (sw_true rfl rfl rfl (by decide +kernel)) (pi_listK (K := K) (pv 4)) (blkOk_by (own := [("other", 7)]) (N := ["length", "guests", "name", "many", "names", "others", "total", "other", "earlier"]) (sc := defScope s_turn_of) (by decide +kernel)) (fun _ _ _ _ _ => (pg_name (i := 7) scp.nd rfl (by first | exact Or.inl rfl | exact Or.inr rfl))) (fun _ _ _ _ _ => (pts_one (pt_cmpR (op_neK (K := K) hv) (pv 7) (pv 2) (nomark _)))) (fun _ _ _ _ _ => (pv 7)))
  (pss_cons (ps_set (i := 6) scp.nd rfl (by first | exact Or.inl rfl | exact Or.inr rfl) (pv 3))
  (pss_cons (ps_for PassesOwn.never rfl (pi_listK (K := K) (pv 5)) (pg_name (i := 7) scp.nd rfl (by first | exact Or.inl rfl | exact Or.inr rfl))
  (pss_cons (ps_set (i := 8) scp.nd rfl (by first | exact Or.inl rfl | exact Or.inr rfl) (pe_cmpR op_ltI (pe_bmK (K := K) PySem.F.plainAttrs_list PySem.F.slot_list_index PySem.F.type_list_index (mt_indexK (K := K)) (pv 4) (pa_cons (pv 7) pa_nil)) (pe_bmK (K := K) PySem.F.plainAttrs_list PySem.F.slot_list_index PySem.F.type_list_index (mt_indexK (K := K)) (pv 4) (pa_cons (pv 2) pa_nil)) (nomark _)))
  (pss_one (ps_aug (i := 6) scp.nd rfl (by first | exact Or.inl rfl | exact Or.inr rfl) (pe_call (G_ahead.mono (by decide)) hr rfl g_ahead F_ahead.kp b_ahead .nil pass0 (pa_cons (pe_ix (ix_anyK (K := K) hu) (pv 1) (pv 2) (fun _ _ => rfl)) (pa_cons (pe_ix (ix_anyK (K := K) hu) (pv 1) (pv 7) (fun _ _ => rfl)) (pa_cons (pe_op op_minus (pv 3) pe_int) (pa_cons (pv 8) pa_nil))))) ip_add))))
  (pss_one (ps_ret (pe_ifExp (pt_cmpR op_leI (pv 6) (pv 0) (nomark _)) (pv 6) pe_non)))))))), ?_⟩
    walk_at "ys"
    refine y_ixF hd hvi ?_
    walk_at "ys"
    unfold turnV at q
    refine y_d2 (fun h1 => ?_) (fun h1 => ?_)
    · walk_at "ys"
      rw [if_pos (by omega)] at q
      exact q _ (Same.refl H)
    rw [if_neg (by omega)] at q
    walk_at "ys"
    refine y_listF hd (fun ln nln => ?_)
    rw [kvOf_keys G.len]
    have hln : upd H ln (.lst (nm.map V.str)) ln = some (.lst (nm.map V.str)) := upd_same
    have e1 : Same H (upd H ln (.lst (nm.map V.str))) := same_new0 nln
    generalize upd H ln (.lst (nm.map V.str)) = H1 at *
    walk_at "ys"
    intro lo nlo
    refine lc_gen (fun j => if (!decide (j = i)) = true then some (.str (nmF nm j)) else none) walk_list nlo (sz_lt (by rw [List.length_map]; have := G.few; omega)) (fun H' e => SqL.of (e _ _ hln)) (fun j x H2 H3 Nx hj e hY k k0 => ?_) (fun H2 e2 hlo => ?_)
    · obtain ⟨rfl, hx⟩ := hY
      rw [List.length_map] at hj
      rw [List.getElem?_map, nmF_at hj] at hx
      have hx := Option.some.inj hx
      subst hx
      walk_at "ys"
      by_cases hji : j = i
      · subst hji
        walk_at "ys"
        exact k0 _ (by simp) (Same.refl _)
      · refine y_ndF (fun e => hji ((nm_inj G.nd hj hi).mp (V.str.inj e))) ?_
        walk_at "ys"
        refine k _ _ ?_ (Same.refl _)
        rw [decide_eq_false hji]
        rfl
    · rw [List.length_map, fm_ite] at hlo
      change H2 lo = some (.lst ((oth nm.length i).map fun j => .str (nmF nm j))) at hlo
      walk_at "ys"
      have e3 := e1.trans e2
      have hln2 := e2 _ _ hln
      refine for_it walk_list (fun k σ H' => ∃ u7 u8 : Option V, σ = [some (.int L), some (.ref g), some (.str (nmF nm i)), some (.int m), some (.ref ln), some (.ref lo), some (.int ((m + (((oth nm.length i).take k).map (Deal.A p c i (m - 1))).sum : Nat) : Int)), u7, u8] ∧ Same H2 H')
        ⟨none, none, rfl, Same.refl _⟩ (fun k σ H' _ ⟨_, _, _, e⟩ => SqL.of (e _ _ hlo)) (fun k x σ H3 H4 hk hP hY => ?_) (fun σ H3 hP => ?_)
      · obtain ⟨u7, u8, rfl, e4⟩ := hP
        obtain ⟨rfl, hx⟩ := hY
        have hk' : k < (oth nm.length i).length := by simpa [oth] using hk
        have hkj := List.getElem?_eq_getElem hk'
        generalize (oth nm.length i)[k] = j at hkj
        have hjm : j ∈ oth nm.length i := List.mem_of_getElem? hkj
        have hj : j < nm.length := by
          have := (List.mem_filter.mp hjm).1
          exact List.mem_range.mp this
        have hji : j ≠ i := by
          have := (List.mem_filter.mp hjm).2
          simpa using this
        rw [List.getElem?_map] at hx
        have hx2 : ((oth nm.length i)[k]?).map (fun j => V.str (nmF nm j)) = some x := hx
        rw [hkj] at hx2
        have hx := Option.some.inj hx2
        subst hx
        have htj := List.getElem?_eq_getElem (show j < ts.length by rw [G.len]; exact hj)
        have hgj := (e3.trans e4) _ _ (G.t j _ htj)
        have hgi2 := (e3.trans e4) _ _ hgi
        have hvj := valV_kvOf G.nd (nmF_at hj) htj
        have hd2 := (e3.trans e4) _ _ hd
        have hln3 := e4 _ _ hln2
        walk_at "ys"
        refine y_indexS hln3 (nmF_at hj) G.nd ?_
        walk_at "ys"
        refine y_indexS hln3 (nmF_at hi) G.nd ?_
        walk_at "ys"
        refine y_ixF hd2 hvi ?_
        walk_at "ys"
        refine y_ixF hd2 hvj ?_
        walk_at "ys"
        have q1 : ((m : Nat) : Int) - 1 = ((m - 1 : Nat) : Int) := by omega
        have q2 : decide (((j : Nat) : Int) < ((i : Nat) : Int)) = decide (j < i) := by
          by_cases z : j < i
          · rw [decide_eq_true z, decide_eq_true (by omega)]
          · rw [decide_eq_false z, decide_eq_false (by omega)]
        rw [q1, q2]
        have b1 := O.pc i hi
        have b2 := O.cL i hi
        have b3 := O.pc j hj
        have b4 := O.cL j hj
        refine ⟨_, _, p i, c i, p j, c j, m - 1, decide (j < i), rfl, hgi2, hgj, by omega, by omega, by omega, ?_⟩
        walk_at "ys"
        rw [take_sum _ hkj, ← Int.natCast_add, Nat.add_assoc]
        exact ⟨_, _, rfl, e4⟩
      · obtain ⟨u7, u8, rfl, e4⟩ := hP
        rw [List.length_map, List.take_length, oth_sum]
        have q3 : m + Deal.sumTo (fun j => if j = i then 0 else Deal.A p c i (m - 1) j) nm.length = Deal.T nm.length p c i (m - 1) := by
          unfold Deal.T
          omega
        rw [q3]
        walk_at "ys"
        refine y_d2 (fun h2 => ?_) (fun h2 => ?_)
        · rw [if_pos (by omega)] at q
          walk_at "ys"
          exact q _ (e3.trans e4)
        · rw [if_neg (by omega)] at q
          walk_at "ys"
          exact q _ (e3.trans e4)
def sp_need_case (CN CS CG : Addr) : Sp := fun vs H Q E => ∃ x g z : V, vs = [x, g, z] ∧ (CaseRef H E CN CS CG x g z ∨ ∃ (L : Nat) (ga : Addr) (o : Obj) (nm : List Str) (ts : List Addr) (p c : Nat → Nat) (i : Nat), Good H x g L ga o nm ts p c ∧ z = .str (nmF nm i) ∧ i < nm.length ∧ ∀ H', Same H H' → Q .non H')
theorem ok_need_case {f : Addr} {fd : FuncData} (T : Txt K mg) {CGuestError CMissing CNoNumber CNoShare CNoGuest CNoNeeds : Addr} (W : Own K mg CGuestError CMissing CNoNumber CNoShare CNoGuest CNoNeeds) (F : Fun K "need_case" "need_case" s_need_case f fd) : FnOk P w K mg base (L2.CX P w) 4 f fd ["length", "guests", "name"] (sp_need_case CNoNumber CNoShare CNoGuest) := by
  obtain ⟨f_need_length, fd_need_length, g_need_length, F_need_length⟩ := T.d_need_length
  have G_need_length := ok_need_length (P := P) (w := w) (base := base) T W F_need_length
  have b_need_length := F_need_length.binds (ps := ["length"]) fun _ _ _ _ _ _ us hl => match us, hl with | [_], _ => rfl
  obtain ⟨f_are_shares, fd_are_shares, g_are_shares, F_are_shares⟩ := T.d_are_shares
  have G_are_shares := ok_are_shares (P := P) (w := w) (base := base) T F_are_shares
  have b_are_shares := F_are_shares.binds (ps := ["thing", "length"]) fun _ _ _ _ _ _ us hl => match us, hl with | [_, _], _ => rfl
  obtain ⟨f_NoShare_init, fd_NoShare_init, F_NoShare_init, m_NoShare_init⟩ := W.m_NoShare_init
  have G_NoShare_init := ok_NoShare_init (P := P) (w := w) (base := base) T W F_NoShare_init
  have b_NoShare_init := F_NoShare_init.binds (ps := ["self", "found"]) fun _ _ _ _ _ _ us hl => match us, hl with | [_, _], _ => rfl
  obtain ⟨f_NoGuest_init, fd_NoGuest_init, F_NoGuest_init, m_NoGuest_init⟩ := W.m_NoGuest_init
  have G_NoGuest_init := ok_NoGuest_init (P := P) (w := w) (base := base) T W F_NoGuest_init
  have b_NoGuest_init := F_NoGuest_init.binds (ps := ["self", "found"]) fun _ _ _ _ _ _ us hl => match us, hl with | [_, _], _ => rfl
  have scp := sc_need_case
  refine F.okX sc_need_case (fun vs H Q E h => ?_) (fun cdv A outer s H vs Q E hr h => ?_)
  · first | (obtain ⟨rfl, _⟩ := h; rfl) | (obtain ⟨_, rfl, _⟩ := h; rfl) | (obtain ⟨_, _, rfl, _⟩ := h; rfl) | (obtain ⟨_, _, _, rfl, _⟩ := h; rfl) | (obtain ⟨_, _, _, _, rfl, _⟩ := h; rfl) | (obtain ⟨_, _, _, _, _, rfl, _⟩ := h; rfl) | (obtain ⟨_, _, _, _, _, _, rfl, _⟩ := h; rfl) | (obtain ⟨_, _, _, _, _, _, _, rfl, _⟩ := h; rfl) | (obtain ⟨_, _, _, _, _, _, _, _, rfl, _⟩ := h; rfl) | (obtain ⟨_, _, _, _, _, _, _, _, _, rfl, _⟩ := h; rfl) | (obtain ⟨_, _, _, _, _, _, _, _, _, _, rfl, _⟩ := h; rfl) | (obtain ⟨_, _, _, _, _, _, _, _, _, _, _, rfl, _⟩ := h; rfl) | (obtain ⟨_, _, _, _, _, _, _, _, _, _, _, _, rfl, _⟩ := h; rfl) | (obtain ⟨_, _, _, _, _, _, _, _, _, _, _, _, _, rfl, _⟩ := h; rfl) | (obtain ⟨_, _, _, _, _, _, _, _, _, _, _, _, _, _, rfl, _⟩ := h; rfl) | (obtain ⟨_, _, _, _, _, _, _, _, _, _, _, _, _, _, _, rfl, _⟩ := h; rfl) | (obtain ⟨_, _, _, _, _, _, _, _, _, _, _, _, _, _, _, _, rfl, _⟩ := h; rfl) | (obtain ⟨_, _, _, _, _, _, _, _, _, _, _, _, _, _, _, _, _, rfl, _⟩ := h; rfl) | (obtain ⟨_, _, _, _, _, _, _, _, _, _, _, _, _, _, _, _, _, _, rfl, _⟩ := h; rfl) | (obtain ⟨_, _, _, _, _, _, _, _, _, _, _, _, _, _, _, _, _, _, _, rfl, _⟩ := h; rfl) | (obtain ⟨_, _, _, _, _, _, _, _, _, _, _, _, _, _, _, _, _, _, _, _, rfl, _⟩ := h; rfl) | (obtain ⟨_, _, _, _, _, _, _, _, _, _, _, _, _, _, _, _, _, _, _, _, _, rfl, _⟩ := h; rfl) | (obtain ⟨_, _, _, _, _, _, _, _, _, _, _, _, _, _, _, _, _, _, _, _, _, _, rfl, _⟩ := h; rfl) | (obtain ⟨_, _, _, _, _, _, _, _, _, _, _, _, _, _, _, _, _, _, _, _, _, _, _, rfl, _⟩ := h; rfl) | (obtain ⟨_, _, _, _, _, _, _, _, _, _, _, _, _, _, _, _, _, _, _, _, _, _, _, _, rfl, _⟩ := h; rfl) | (obtain ⟨_, _, _, _, _, _, _, _, _, _, _, _, _, _, _, _, _, _, _, _, _, _, _, _, _, rfl, _⟩ := h; rfl) | (obtain ⟨_, _, _, _, _, _, _, _, _, _, _, _, _, _, _, _, _, _, _, _, _, _, _, _, _, _, rfl, _⟩ := h; rfl) | (obtain ⟨_, _, _, _, _, _, _, _, _, _, _, _, _, _, _, _, _, _, _, _, _, _, _, _, _, _, _, rfl, _⟩ := h; rfl)
  · obtain ⟨x, g, z, rfl, q⟩ := h
    have hu := hu_of hr
    have hv := hr.units
    refine ⟨_, (pss_cons (ps_expr (pe_call (G_need_length.mono (by decide)) hr rfl g_need_length F_need_length.kp b_need_length .nil (passes_call (takes_of rfl rfl rfl rfl) (fun _ _ _ _ h => h)) (pa_cons (pv 0) pa_nil)))
  (pss_cons (ps_if (pt_not (pt_val (pe_call (G_are_shares.mono (by decide)) hr rfl g_are_shares F_are_shares.kp b_are_shares .nil pass0 (pa_cons (pv 1) (pa_cons (pv 0) pa_nil)))))
  (pss_one (ps_raise rfl (takes_of rfl rfl rfl rfl) (pmk_gex bx_value W.e_NoShare m_NoShare_init.1 m_NoShare_init.2 G_NoShare_init (hr.mono (by decide)) b_NoShare_init .nil pass0 rfl W.g_NoShare (pa_cons (pv 1) pa_nil))))
  pss_nil)
  (pss_one (ps_if (PW.pt (pw_or (pt_not (pt_val (pe_callB (call_isiY (K := K)) (by rfl) T.n_isinstance (by decide +kernel) (pa_cons (pv 2) (pa_cons (pe_bty (T := "str") T.n_str (by decide +kernel)) pa_nil))))) (pw_or1 (pt_cmpR (op_notInK (K := K) hu) (pv 2) (pv 1) (by rfl)))))
  (pss_one (ps_raise rfl (takes_of rfl rfl rfl rfl) (pmk_gex bx_key W.e_NoGuest m_NoGuest_init.1 m_NoGuest_init.2 G_NoGuest_init (hr.mono (by decide)) b_NoGuest_init .nil pass0 rfl W.g_NoGuest (pa_cons (pv 2) pa_nil))))
  pss_nil)))), ?_⟩
    rcases q with (⟨hk, hb, r⟩ | ⟨L, rfl, h4, h60, od, r⟩ | ⟨L, ga, o, nm, ts, p, c, rfl, h4, h60, rfl, G, O, hk, hn, r⟩) | ⟨L, ga, o, nm, ts, p, c, i, ⟨rfl, rfl, G, O, h4, h60⟩, rfl, hi, q⟩
    · walk_at "ys"
      exact ⟨x, rfl, hk, .inr ⟨hb, r⟩⟩
    · walk_at "ys"
      refine ⟨.int L, rfl, .int _, .inl ⟨isW_in (by omega) (by omega), ?_⟩⟩
      walk_at "ys"
      refine .inr ⟨g, L, rfl, h4, od, fun H1 e1 => ?_⟩
      walk_at "ys"
      refine ⟨by simp, fun a na => ?_⟩
      exact ⟨a, _, rfl, upd_same, y_made1 na fun d H' e _ hd => r d H' (e1.trans e) hd⟩
    · have hd := G.d
      walk_at "ys"
      refine ⟨.int L, rfl, .int _, .inl ⟨isW_in (by omega) (by omega), ?_⟩⟩
      walk_at "ys"
      refine .inl ⟨ga, L, o, nm, ts, p, c, rfl, G, ok_lims O, fun H1 e1 => ?_⟩
      rw [decide_eq_true O.sum]
      have hd1 := e1 _ _ hd
      have fin : ∀ a, H1 a = none → H1 a = none → sp_xinit CNoGuest [.ref a, z] (upd H1 a (exo a CNoGuest none)) (fun v H2 => v = .non ∧ ∃ (d : Addr) (fs : List (Str × V)), H2 a = some (exo a CNoGuest (some d)) ∧ H2 d = some (exd d fs) ∧ H1 d = none ∧ E (.ref CNoGuest) (some d) (upd (del H2 a) d (.xd fs))) (fun _ _ _ => False) := fun a na _ =>
        ⟨a, _, rfl, upd_same, y_made1 na fun d H' e _ hd => r d H' (e1.trans e) hd⟩
      have hk1 := hk.same e1
      cases hk1 with
      | str y =>
        walk_at "ys"
        refine y_niF hd1 ?_
        rw [valV_none (hn y rfl)]
        walk_at "ys"
        exact ⟨by simp, fun a na => fin a na na⟩
      | non => walk_at "ys"; exact ⟨by simp, fun a na => fin a na na⟩
      | bl b => walk_at "ys"; exact ⟨by simp, fun a na => fin a na na⟩
      | int b => walk_at "ys"; exact ⟨by simp, fun a na => fin a na na⟩
      | lst h => walk_at "ys"; exact ⟨by simp, fun a na => fin a na na⟩
      | tup h => walk_at "ys"; exact ⟨by simp, fun a na => fin a na na⟩
      | dct h => walk_at "ys"; exact ⟨by simp, fun a na => fin a na na⟩
    · have hz' := nmF_at hi
      have ht := List.getElem?_eq_getElem (show i < ts.length by rw [G.len]; exact hi)
      walk_at "ys"
      refine ⟨.int L, rfl, .int _, .inl ⟨isW_in (by omega) (by omega), ?_⟩⟩
      walk_at "ys"
      refine .inl ⟨ga, L, o, nm, ts, p, c, rfl, G, ok_lims O, fun H1 e1 => ?_⟩
      rw [decide_eq_true O.sum]
      walk_at "ys"
      refine y_niF (e1 _ _ G.d) ?_
      rw [valV_kvOf G.nd hz' ht]
      walk_at "ys"
      exact q _ e1
def sp_latest (CN CS CG : Addr) : Sp := fun vs H Q E => ∃ x g z m : V, vs = [x, g, z, m] ∧ (CaseRef H E CN CS CG x g z ∨ ∃ (L : Nat) (ga : Addr) (o : Obj) (nm : List Str) (ts : List Addr) (p c : Nat → Nat) (i : Nat), Good H x g L ga o nm ts p c ∧ z = .str (nmF nm i) ∧ i < nm.length ∧ Kd H m ∧ ((isW m 1 L = false ∧ Refu H E CN m) ∨ ∃ k : Nat, m = .int k ∧ 1 ≤ k ∧ k ≤ L ∧ ∀ H', Same H H' → Q (turnV nm.length L p c i k) H'))
theorem ok_latest {f : Addr} {fd : FuncData} (T : Txt K mg) {CGuestError CMissing CNoNumber CNoShare CNoGuest CNoNeeds : Addr} (W : Own K mg CGuestError CMissing CNoNumber CNoShare CNoGuest CNoNeeds) (F : Fun K "latest" "latest" s_latest f fd) : FnOk P w K mg base (L2.CX P w) 5 f fd ["length", "guests", "name", "many"] (sp_latest CNoNumber CNoShare CNoGuest) := by
  obtain ⟨f_need_case, fd_need_case, g_need_case, F_need_case⟩ := T.d_need_case
  have G_need_case := ok_need_case (P := P) (w := w) (base := base) T W F_need_case
  have b_need_case := F_need_case.binds (ps := ["length", "guests", "name"]) fun _ _ _ _ _ _ us hl => match us, hl with | [_, _, _], _ => rfl
  obtain ⟨f_turn_of, fd_turn_of, g_turn_of, F_turn_of⟩ := T.d_turn_of
  have G_turn_of := ok_turn_of (P := P) (w := w) (base := base) T F_turn_of
  have b_turn_of := F_turn_of.binds (ps := ["length", "guests", "name", "many"]) fun _ _ _ _ _ _ us hl => match us, hl with | [_, _, _, _], _ => rfl
  obtain ⟨f_is_whole, fd_is_whole, g_is_whole, F_is_whole⟩ := T.d_is_whole
  have G_is_whole := ok_is_whole (P := P) (w := w) (base := base) T F_is_whole
  have b_is_whole := F_is_whole.binds (ps := ["thing", "low", "high"]) fun _ _ _ _ _ _ us hl => match us, hl with | [_, _, _], _ => rfl
  obtain ⟨f_NoNumber_init, fd_NoNumber_init, F_NoNumber_init, m_NoNumber_init⟩ := W.m_NoNumber_init
  have G_NoNumber_init := ok_NoNumber_init (P := P) (w := w) (base := base) T W F_NoNumber_init
  have b_NoNumber_init := F_NoNumber_init.binds (ps := ["self", "found"]) fun _ _ _ _ _ _ us hl => match us, hl with | [_, _], _ => rfl
  have scp := sc_latest
  refine F.okX sc_latest (fun vs H Q E h => ?_) (fun cdv A outer s H vs Q E hr h => ?_)
  · first | (obtain ⟨rfl, _⟩ := h; rfl) | (obtain ⟨_, rfl, _⟩ := h; rfl) | (obtain ⟨_, _, rfl, _⟩ := h; rfl) | (obtain ⟨_, _, _, rfl, _⟩ := h; rfl) | (obtain ⟨_, _, _, _, rfl, _⟩ := h; rfl) | (obtain ⟨_, _, _, _, _, rfl, _⟩ := h; rfl) | (obtain ⟨_, _, _, _, _, _, rfl, _⟩ := h; rfl) | (obtain ⟨_, _, _, _, _, _, _, rfl, _⟩ := h; rfl) | (obtain ⟨_, _, _, _, _, _, _, _, rfl, _⟩ := h; rfl) | (obtain ⟨_, _, _, _, _, _, _, _, _, rfl, _⟩ := h; rfl) | (obtain ⟨_, _, _, _, _, _, _, _, _, _, rfl, _⟩ := h; rfl) | (obtain ⟨_, _, _, _, _, _, _, _, _, _, _, rfl, _⟩ := h; rfl) | (obtain ⟨_, _, _, _, _, _, _, _, _, _, _, _, rfl, _⟩ := h; rfl) | (obtain ⟨_, _, _, _, _, _, _, _, _, _, _, _, _, rfl, _⟩ := h; rfl) | (obtain ⟨_, _, _, _, _, _, _, _, _, _, _, _, _, _, rfl, _⟩ := h; rfl) | (obtain ⟨_, _, _, _, _, _, _, _, _, _, _, _, _, _, _, rfl, _⟩ := h; rfl) | (obtain ⟨_, _, _, _, _, _, _, _, _, _, _, _, _, _, _, _, rfl, _⟩ := h; rfl) | (obtain ⟨_, _, _, _, _, _, _, _, _, _, _, _, _, _, _, _, _, rfl, _⟩ := h; rfl) | (obtain ⟨_, _, _, _, _, _, _, _, _, _, _, _, _, _, _, _, _, _, rfl, _⟩ := h; rfl) | (obtain ⟨_, _, _, _, _, _, _, _, _, _, _, _, _, _, _, _, _, _, _, rfl, _⟩ := h; rfl) | (obtain ⟨_, _, _, _, _, _, _, _, _, _, _, _, _, _, _, _, _, _, _, _, rfl, _⟩ := h; rfl) | (obtain ⟨_, _, _, _, _, _, _, _, _, _, _, _, _, _, _, _, _, _, _, _, _, rfl, _⟩ := h; rfl) | (obtain ⟨_, _, _, _, _, _, _, _, _, _, _, _, _, _, _, _, _, _, _, _, _, _, rfl, _⟩ := h; rfl) | (obtain ⟨_, _, _, _, _, _, _, _, _, _, _, _, _, _, _, _, _, _, _, _, _, _, _, rfl, _⟩ := h; rfl) | (obtain ⟨_, _, _, _, _, _, _, _, _, _, _, _, _, _, _, _, _, _, _, _, _, _, _, _, rfl, _⟩ := h; rfl) | (obtain ⟨_, _, _, _, _, _, _, _, _, _, _, _, _, _, _, _, _, _, _, _, _, _, _, _, _, rfl, _⟩ := h; rfl) | (obtain ⟨_, _, _, _, _, _, _, _, _, _, _, _, _, _, _, _, _, _, _, _, _, _, _, _, _, _, rfl, _⟩ := h; rfl) | (obtain ⟨_, _, _, _, _, _, _, _, _, _, _, _, _, _, _, _, _, _, _, _, _, _, _, _, _, _, _, rfl, _⟩ := h; rfl)
  · obtain ⟨x, g, z, m, rfl, q⟩ := h
    have hu := hu_of hr
    have hv := hr.units
    refine ⟨_, (pss_cons (ps_expr (pe_call (G_need_case.mono (by decide)) hr rfl g_need_case F_need_case.kp b_need_case .nil (passes_call (takes_of rfl rfl rfl rfl) (fun _ _ _ _ h => h)) (pa_cons (pv 0) (pa_cons (pv 1) (pa_cons (pv 2) pa_nil)))))
  (pss_cons (ps_if (pt_not (pt_val (pe_call (G_is_whole.mono (by decide)) hr rfl g_is_whole F_is_whole.kp b_is_whole .nil pass0 (pa_cons (pv 3) (pa_cons pe_int (pa_cons (pv 0) pa_nil))))))
  (pss_one (ps_raise rfl (takes_of rfl rfl rfl rfl) (pmk_gex bx_value W.e_NoNumber m_NoNumber_init.1 m_NoNumber_init.2 G_NoNumber_init (hr.mono (by decide)) b_NoNumber_init .nil pass0 rfl W.g_NoNumber (pa_cons (pv 3) pa_nil))))
  pss_nil)
  (pss_one (ps_ret (pe_call (G_turn_of.mono (by decide)) hr rfl g_turn_of F_turn_of.kp b_turn_of .nil pass0 (pa_cons (pv 0) (pa_cons (pv 1) (pa_cons (pv 2) (pa_cons (pv 3) pa_nil))))))))), ?_⟩
    walk_at "ys"
    rcases q with h | ⟨L, ga, o, nm, ts, p, c, i, Gd, rfl, hi, hk, q⟩
    · exact ⟨x, g, z, rfl, .inl h⟩
    · refine ⟨x, g, _, rfl, .inr ⟨L, ga, o, nm, ts, p, c, i, Gd, rfl, hi, fun H1 e1 => ?_⟩⟩
      have Gd1 := Gd.same e1
      obtain ⟨rfl, rfl, G, O, h4, h60⟩ := Gd1
      walk_at "ys"
      refine ⟨m, 1, L, rfl, hk.same e1, ?_⟩
      rcases q with ⟨hb, r⟩ | ⟨k, rfl, hk1, hkL, q⟩
      · rw [hb]
        walk_at "ys"
        refine ⟨by simp, fun a na => ?_⟩
        exact ⟨a, _, rfl, upd_same, y_made1 na fun d H' e _ hd => r d H' (e1.trans e) hd⟩
      · rw [isW_in (by omega) (by omega)]
        walk_at "ys"
        exact ⟨L, ga, o, nm, ts, p, c, i, k, rfl, G, O, hi, hk1, hkL, h60, fun H2 e2 => q H2 (e1.trans e2)⟩
end
end K87
namespace K87
open PySem L2 Y

def alP (n L : Nat) (p c : Nat → Nat) (i t k : Nat) : Bool := decide (k < c i) && decide (Deal.T n p c i k ≤ L) && decide (Deal.T n p c i k ≤ t)
/-- how many turns come within the first t ones of a stretch -/
def alin (n L : Nat) (p c : Nat → Nat) (i t : Nat) : Nat := ((List.range L).filter fun k => alP n L p c i t k).length
theorem turn_cases (n L : Nat) (p c : Nat → Nat) (i k : Nat) : (turnV n L p c i (k + 1) = .non ∧ ¬ (k < c i ∧ Deal.T n p c i k ≤ L)) ∨ (turnV n L p c i (k + 1) = .int (Deal.T n p c i k : Nat) ∧ k < c i ∧ Deal.T n p c i k ≤ L) := by
  unfold turnV
  rw [Nat.add_sub_cancel]
  by_cases h1 : c i < k + 1
  · rw [if_pos h1]
    exact .inl ⟨rfl, fun z => by omega⟩
  · rw [if_neg h1]
    by_cases h2 : Deal.T n p c i k ≤ L
    · rw [if_pos h2]
      exact .inr ⟨rfl, by omega, h2⟩
    · rw [if_neg h2]
      exact .inl ⟨rfl, fun z => h2 z.2⟩
theorem alin_all {n L : Nat} {p c : Nat → Nat} (i : Nat) : alin n L p c i L = Deal.many n L p c i := by
  unfold alin Deal.many
  congr 1
  refine List.filter_congr fun k _ => ?_
  unfold alP
  rw [Bool.and_assoc, Bool.and_self]
theorem alin_zero {n L : Nat} {p c : Nat → Nat} (i : Nat) : alin n L p c i 0 = 0 := by
  unfold alin
  rw [List.length_eq_zero_iff, List.filter_eq_nil_iff]
  intro k _
  unfold alP
  have := Deal.T_ge n p c i k
  simp only [Bool.and_eq_true, decide_eq_true_eq]
  omega
section
variable {P : Program} {w : World} {K : PySem.W.Frag} {mg : Str → Option Value} {base : Heap}
def sp_at_least_in (K : PySem.W.Frag) : Sp := fun vs H Q _ => ∃ (L : Nat) (g : Addr) (o : Obj) (nm : List Str) (ts : List Addr) (p c : Nat → Nat) (i t : Nat), vs = [.int L, .ref g, .str (nmF nm i), .int t] ∧ Gs H g o nm ts p c ∧ Deal.Ok nm.length L p c ∧ i < nm.length ∧ L ≤ 60 ∧ ∀ H', Same H H' → Q (.int (alin nm.length L p c i t)) H'
theorem ok_at_least_in {f : Addr} {fd : FuncData} (T : Txt K mg) (F : Fun K "at_least_in" "at_least_in" s_at_least_in f fd) : FnOk P w K mg base CX0 4 f fd ["length", "guests", "name", "turns"] (sp_at_least_in K) := by
  obtain ⟨f_turn_of, fd_turn_of, g_turn_of, F_turn_of⟩ := T.d_turn_of
  have G_turn_of := ok_turn_of (P := P) (w := w) (base := base) T F_turn_of
  have b_turn_of := F_turn_of.binds (ps := ["length", "guests", "name", "many"]) fun _ _ _ _ _ _ us hl => match us, hl with | [_, _, _, _], _ => rfl
  have scp := sc_at_least_in
  refine F.ok sc_at_least_in (fun vs H Q E h => ?_) (fun cdv A outer s H vs Q E hr h => ?_)
  · first | (obtain ⟨rfl, _⟩ := h; rfl) | (obtain ⟨_, rfl, _⟩ := h; rfl) | (obtain ⟨_, _, rfl, _⟩ := h; rfl) | (obtain ⟨_, _, _, rfl, _⟩ := h; rfl) | (obtain ⟨_, _, _, _, rfl, _⟩ := h; rfl) | (obtain ⟨_, _, _, _, _, rfl, _⟩ := h; rfl) | (obtain ⟨_, _, _, _, _, _, rfl, _⟩ := h; rfl) | (obtain ⟨_, _, _, _, _, _, _, rfl, _⟩ := h; rfl) | (obtain ⟨_, _, _, _, _, _, _, _, rfl, _⟩ := h; rfl) | (obtain ⟨_, _, _, _, _, _, _, _, _, rfl, _⟩ := h; rfl) | (obtain ⟨_, _, _, _, _, _, _, _, _, _, rfl, _⟩ := h; rfl) | (obtain ⟨_, _, _, _, _, _, _, _, _, _, _, rfl, _⟩ := h; rfl) | (obtain ⟨_, _, _, _, _, _, _, _, _, _, _, _, rfl, _⟩ := h; rfl) | (obtain ⟨_, _, _, _, _, _, _, _, _, _, _, _, _, rfl, _⟩ := h; rfl) | (obtain ⟨_, _, _, _, _, _, _, _, _, _, _, _, _, _, rfl, _⟩ := h; rfl) | (obtain ⟨_, _, _, _, _, _, _, _, _, _, _, _, _, _, _, rfl, _⟩ := h; rfl) | (obtain ⟨_, _, _, _, _, _, _, _, _, _, _, _, _, _, _, _, rfl, _⟩ := h; rfl) | (obtain ⟨_, _, _, _, _, _, _, _, _, _, _, _, _, _, _, _, _, rfl, _⟩ := h; rfl) | (obtain ⟨_, _, _, _, _, _, _, _, _, _, _, _, _, _, _, _, _, _, rfl, _⟩ := h; rfl) | (obtain ⟨_, _, _, _, _, _, _, _, _, _, _, _, _, _, _, _, _, _, _, rfl, _⟩ := h; rfl) | (obtain ⟨_, _, _, _, _, _, _, _, _, _, _, _, _, _, _, _, _, _, _, _, rfl, _⟩ := h; rfl) | (obtain ⟨_, _, _, _, _, _, _, _, _, _, _, _, _, _, _, _, _, _, _, _, _, rfl, _⟩ := h; rfl) | (obtain ⟨_, _, _, _, _, _, _, _, _, _, _, _, _, _, _, _, _, _, _, _, _, _, rfl, _⟩ := h; rfl) | (obtain ⟨_, _, _, _, _, _, _, _, _, _, _, _, _, _, _, _, _, _, _, _, _, _, _, rfl, _⟩ := h; rfl) | (obtain ⟨_, _, _, _, _, _, _, _, _, _, _, _, _, _, _, _, _, _, _, _, _, _, _, _, rfl, _⟩ := h; rfl) | (obtain ⟨_, _, _, _, _, _, _, _, _, _, _, _, _, _, _, _, _, _, _, _, _, _, _, _, _, rfl, _⟩ := h; rfl) | (obtain ⟨_, _, _, _, _, _, _, _, _, _, _, _, _, _, _, _, _, _, _, _, _, _, _, _, _, _, rfl, _⟩ := h; rfl) | (obtain ⟨_, _, _, _, _, _, _, _, _, _, _, _, _, _, _, _, _, _, _, _, _, _, _, _, _, _, _, rfl, _⟩ := h; rfl)
  · obtain ⟨L, g, o, nm, ts, p, c, i, t, rfl, G, O, hi, h60, q⟩ := h
    have hu := hu_of hr
    have hv := hr.units
    refine ⟨_, (pss_cons (ps_setLc (i := 4) (own := [("many", 5)]) (g := gName 5) (tt := tYes) rfl scp.nd rfl rfl (sw_true rfl rfl rfl (by decide +kernel)) (pi_range2 rfl T.n_range (pa_cons pe_int (pa_cons (pe_op op_plus (pv 0) pe_int) pa_nil))) (blkOk_by (own := [("many", 5)]) (N := ["length", "guests", "name", "turns", "found", "many", "turn"]) (sc := defScope s_at_least_in) (by decide +kernel)) (fun _ _ _ _ _ => (pg_name (i := 5) scp.nd rfl (by first | exact Or.inl rfl | exact Or.inr rfl))) (fun _ _ _ _ _ => pts_nil) (fun _ _ _ _ _ => (pe_call (G_turn_of.mono (by decide)) hr rfl g_turn_of F_turn_of.kp b_turn_of .nil pass0 (pa_cons (pv 0) (pa_cons (pv 1) (pa_cons (pv 2) (pa_cons (pv 5) pa_nil)))))))
  (pss_one (ps_ret (pe_callB (call_lenK (K := K)) (by rfl) T.n_len (by decide +kernel) (pa_cons (pe_lc (own := [("turn", 6)]) (g := gName 6) rfl scp.nd (pi_listK (K := K) (pv 4)) (blkOk_by (own := [("turn", 6)]) (N := ["length", "guests", "name", "turns", "found", "many", "turn"]) (sc := defScope s_at_least_in) (by decide +kernel)) (fun _ _ _ _ _ => (pg_name (i := 6) scp.nd rfl (by first | exact Or.inl rfl | exact Or.inr rfl))) (fun _ _ _ _ _ => (pts_one (PW.pt (pw_and (pt_cmpR op_notNo (pv 6) pe_non (nomark _)) (pw_and1 (pt_cmpR op_leI (pv 6) (pv 3) (nomark _))))))) (fun _ _ _ _ _ => (pv 6))) pa_nil))))), ?_⟩
    walk_at "ys"
    refine y_gotr2 (by omega) ?_
    have eL : ((L : Int) + 1 - 1).toNat = L := by omega
    rw [eL]
    intro lf nlf
    refine lc_map (fun k => turnV nm.length L p c i (k + 1)) walk_range nlf (sz_lt (by omega)) (fun _ _ => trivial) (fun k x H1 H2 Nx hk e hY kk => ?_) (fun H1 e1 hlf => ?_)
    · obtain ⟨rfl, hx⟩ := hY
      have hx : x = V.int ((k + 1 : Nat) : Int) := hx.trans (congrArg V.int (by omega))
      subst hx
      walk_at "ys"
      exact ⟨L, g, o, nm, ts, p, c, i, k + 1, rfl, G.same e, O, hi, by omega, by omega, h60, fun H3 e3 => kk _ _ rfl e3⟩
    · walk_at "ys"
      intro ln nln
      refine lc_gen (fun k => if alP nm.length L p c i t k = true then some (.int (Deal.T nm.length p c i k : Nat)) else none) walk_list nln (sz_lt (by rw [List.length_map, List.length_range]; omega)) (fun H' e => SqL.of (e _ _ hlf)) (fun k x H2 H3 Nx hk e hY kk k0 => ?_) (fun H2 e2 hln => ?_)
      · obtain ⟨rfl, hx⟩ := hY
        rw [List.length_map, List.length_range] at hk
        rw [List.getElem?_map, List.getElem?_range hk] at hx
        have hx := Option.some.inj hx
        subst hx
        show gName 6 (turnV nm.length L p c i (k + 1)) _ _ _
        rcases turn_cases nm.length L p c i k with ⟨e, h1⟩ | ⟨e, h1, h2⟩
        · rw [e]
          walk_at "ys"
          refine k0 _ (if_neg ?_) (Same.refl _)
          unfold alP
          simp only [Bool.and_eq_true, decide_eq_true_eq]
          exact fun z => h1 z.1
        · rw [e]
          walk_at "ys"
          refine y_ndF (fun z => nomatch z) ?_
          walk_at "ys"
          refine y_d2 (fun h3 => ?_) (fun h3 => ?_)
          · walk_at "ys"
            refine kk _ _ (if_pos ?_) (Same.refl _)
            unfold alP
            simp only [Bool.and_eq_true, decide_eq_true_eq]
            exact ⟨⟨h1, h2⟩, by omega⟩
          · refine k0 _ (if_neg ?_) (Same.refl _)
            unfold alP
            simp only [Bool.and_eq_true, decide_eq_true_eq]
            exact fun z => h3 (by have := z.2; omega)
      · rw [List.length_map, List.length_range, fm_ite] at hln
        walk_at "ys"
        rw [List.length_map]
        exact q _ (e1.trans e2)
def sp_at_least (CN CS CG : Addr) : Sp := fun vs H Q E => ∃ x g z m : V, vs = [x, g, z, m] ∧ (CaseRef H E CN CS CG x g z ∨ ∃ (L : Nat) (ga : Addr) (o : Obj) (nm : List Str) (ts : List Addr) (p c : Nat → Nat) (i : Nat), Good H x g L ga o nm ts p c ∧ z = .str (nmF nm i) ∧ i < nm.length ∧ Kd H m ∧ ((isW m 0 400 = false ∧ Refu H E CN m) ∨ ∃ t : Nat, m = .int t ∧ t ≤ 400 ∧ ∀ H', Same H H' → Q (.int ((t / L * alin nm.length L p c i L + alin nm.length L p c i (t % L) : Nat) : Int)) H'))
theorem ok_at_least {f : Addr} {fd : FuncData} (T : Txt K mg) {CGuestError CMissing CNoNumber CNoShare CNoGuest CNoNeeds : Addr} (W : Own K mg CGuestError CMissing CNoNumber CNoShare CNoGuest CNoNeeds) (F : Fun K "at_least" "at_least" s_at_least f fd) : FnOk P w K mg base (L2.CX P w) 5 f fd ["length", "guests", "name", "turns"] (sp_at_least CNoNumber CNoShare CNoGuest) := by
  obtain ⟨f_need_case, fd_need_case, g_need_case, F_need_case⟩ := T.d_need_case
  have G_need_case := ok_need_case (P := P) (w := w) (base := base) T W F_need_case
  have b_need_case := F_need_case.binds (ps := ["length", "guests", "name"]) fun _ _ _ _ _ _ us hl => match us, hl with | [_, _, _], _ => rfl
  obtain ⟨f_is_whole, fd_is_whole, g_is_whole, F_is_whole⟩ := T.d_is_whole
  have G_is_whole := ok_is_whole (P := P) (w := w) (base := base) T F_is_whole
  have b_is_whole := F_is_whole.binds (ps := ["thing", "low", "high"]) fun _ _ _ _ _ _ us hl => match us, hl with | [_, _, _], _ => rfl
  obtain ⟨f_NoNumber_init, fd_NoNumber_init, F_NoNumber_init, m_NoNumber_init⟩ := W.m_NoNumber_init
  have G_NoNumber_init := ok_NoNumber_init (P := P) (w := w) (base := base) T W F_NoNumber_init
  have b_NoNumber_init := F_NoNumber_init.binds (ps := ["self", "found"]) fun _ _ _ _ _ _ us hl => match us, hl with | [_, _], _ => rfl
  obtain ⟨f_at_least_in, fd_at_least_in, g_at_least_in, F_at_least_in⟩ := T.d_at_least_in
  have G_at_least_in := ok_at_least_in (P := P) (w := w) (base := base) T F_at_least_in
  have b_at_least_in := F_at_least_in.binds (ps := ["length", "guests", "name", "turns"]) fun _ _ _ _ _ _ us hl => match us, hl with | [_, _, _, _], _ => rfl
  have scp := sc_at_least
  refine F.okX sc_at_least (fun vs H Q E h => ?_) (fun cdv A outer s H vs Q E hr h => ?_)
  · first | (obtain ⟨rfl, _⟩ := h; rfl) | (obtain ⟨_, rfl, _⟩ := h; rfl) | (obtain ⟨_, _, rfl, _⟩ := h; rfl) | (obtain ⟨_, _, _, rfl, _⟩ := h; rfl) | (obtain ⟨_, _, _, _, rfl, _⟩ := h; rfl) | (obtain ⟨_, _, _, _, _, rfl, _⟩ := h; rfl) | (obtain ⟨_, _, _, _, _, _, rfl, _⟩ := h; rfl) | (obtain ⟨_, _, _, _, _, _, _, rfl, _⟩ := h; rfl) | (obtain ⟨_, _, _, _, _, _, _, _, rfl, _⟩ := h; rfl) | (obtain ⟨_, _, _, _, _, _, _, _, _, rfl, _⟩ := h; rfl) | (obtain ⟨_, _, _, _, _, _, _, _, _, _, rfl, _⟩ := h; rfl) | (obtain ⟨_, _, _, _, _, _, _, _, _, _, _, rfl, _⟩ := h; rfl) | (obtain ⟨_, _, _, _, _, _, _, _, _, _, _, _, rfl, _⟩ := h; rfl) | (obtain ⟨_, _, _, _, _, _, _, _, _, _, _, _, _, rfl, _⟩ := h; rfl) | (obtain ⟨_, _, _, _, _, _, _, _, _, _, _, _, _, _, rfl, _⟩ := h; rfl) | (obtain ⟨_, _, _, _, _, _, _, _, _, _, _, _, _, _, _, rfl, _⟩ := h; rfl) | (obtain ⟨_, _, _, _, _, _, _, _, _, _, _, _, _, _, _, _, rfl, _⟩ := h; rfl) | (obtain ⟨_, _, _, _, _, _, _, _, _, _, _, _, _, _, _, _, _, rfl, _⟩ := h; rfl) | (obtain ⟨_, _, _, _, _, _, _, _, _, _, _, _, _, _, _, _, _, _, rfl, _⟩ := h; rfl) | (obtain ⟨_, _, _, _, _, _, _, _, _, _, _, _, _, _, _, _, _, _, _, rfl, _⟩ := h; rfl) | (obtain ⟨_, _, _, _, _, _, _, _, _, _, _, _, _, _, _, _, _, _, _, _, rfl, _⟩ := h; rfl) | (obtain ⟨_, _, _, _, _, _, _, _, _, _, _, _, _, _, _, _, _, _, _, _, _, rfl, _⟩ := h; rfl) | (obtain ⟨_, _, _, _, _, _, _, _, _, _, _, _, _, _, _, _, _, _, _, _, _, _, rfl, _⟩ := h; rfl) | (obtain ⟨_, _, _, _, _, _, _, _, _, _, _, _, _, _, _, _, _, _, _, _, _, _, _, rfl, _⟩ := h; rfl) | (obtain ⟨_, _, _, _, _, _, _, _, _, _, _, _, _, _, _, _, _, _, _, _, _, _, _, _, rfl, _⟩ := h; rfl) | (obtain ⟨_, _, _, _, _, _, _, _, _, _, _, _, _, _, _, _, _, _, _, _, _, _, _, _, _, rfl, _⟩ := h; rfl) | (obtain ⟨_, _, _, _, _, _, _, _, _, _, _, _, _, _, _, _, _, _, _, _, _, _, _, _, _, _, rfl, _⟩ := h; rfl) | (obtain ⟨_, _, _, _, _, _, _, _, _, _, _, _, _, _, _, _, _, _, _, _, _, _, _, _, _, _, _, rfl, _⟩ := h; rfl)
  · obtain ⟨x, g, z, m, rfl, q⟩ := h
    have hu := hu_of hr
    have hv := hr.units
    refine ⟨_, (pss_cons (ps_expr (pe_call (G_need_case.mono (by decide)) hr rfl g_need_case F_need_case.kp b_need_case .nil (passes_call (takes_of rfl rfl rfl rfl) (fun _ _ _ _ h => h)) (pa_cons (pv 0) (pa_cons (pv 1) (pa_cons (pv 2) pa_nil)))))
  (pss_cons (ps_if (pt_not (pt_val (pe_call (G_is_whole.mono (by decide)) hr rfl g_is_whole F_is_whole.kp b_is_whole .nil pass0 (pa_cons (pv 3) (pa_cons pe_int (pa_cons (pe_gint T.c_MOST_TURNS) pa_nil))))))
  (pss_one (ps_raise rfl (takes_of rfl rfl rfl rfl) (pmk_gex bx_value W.e_NoNumber m_NoNumber_init.1 m_NoNumber_init.2 G_NoNumber_init (hr.mono (by decide)) b_NoNumber_init .nil pass0 rfl W.g_NoNumber (pa_cons (pv 3) pa_nil))))
  pss_nil)
  (pss_cons (ps_asg (pe_callB call_divmodY (by rfl) T.n_divmod (by decide +kernel) (pa_cons (pv 3) (pa_cons (pv 0) pa_nil))) (pg_tupK (K := K) (n := 2) rfl (pgs_cons (pg_name (i := 4) scp.nd rfl (by first | exact Or.inl rfl | exact Or.inr rfl)) (pgs_cons (pg_name (i := 5) scp.nd rfl (by first | exact Or.inl rfl | exact Or.inr rfl)) pgs_nil))))
  (pss_one (ps_ret (pe_op op_plus (pe_op op_times (pv 4) (pe_call (G_at_least_in.mono (by decide)) hr rfl g_at_least_in F_at_least_in.kp b_at_least_in .nil pass0 (pa_cons (pv 0) (pa_cons (pv 1) (pa_cons (pv 2) (pa_cons (pv 0) pa_nil)))))) (pe_call (G_at_least_in.mono (by decide)) hr rfl g_at_least_in F_at_least_in.kp b_at_least_in .nil pass0 (pa_cons (pv 0) (pa_cons (pv 1) (pa_cons (pv 2) (pa_cons (pv 5) pa_nil))))))))))), ?_⟩
    walk_at "ys"
    rcases q with h | ⟨L, ga, o, nm, ts, p, c, i, Gd, rfl, hi, hk, q⟩
    · exact ⟨x, g, z, rfl, .inl h⟩
    · refine ⟨x, g, _, rfl, .inr ⟨L, ga, o, nm, ts, p, c, i, Gd, rfl, hi, fun H1 e1 => ?_⟩⟩
      have Gd1 := Gd.same e1
      obtain ⟨rfl, rfl, G, O, h4, h60⟩ := Gd1
      walk_at "ys"
      refine ⟨m, 0, 400, rfl, hk.same e1, ?_⟩
      rcases q with ⟨hb, r⟩ | ⟨t, rfl, ht, q⟩
      · rw [hb]
        walk_at "ys"
        refine ⟨by simp, fun a na => ?_⟩
        exact ⟨a, _, rfl, upd_same, y_made1 na fun d H' e _ hd => r d H' (e1.trans e) hd⟩
      · rw [isW_in (by omega) (by omega)]
        walk_at "ys"
        refine y_divmod ⟨by omega, by omega⟩ (fun pt npt => ?_)
        have e2 : Same H1 (upd H1 pt (.tup [.int ((t : Int) / (L : Int)), .int ((t : Int) % (L : Int))])) := same_new0 npt
        walk_at "ys"
        refine ⟨L, ga, o, nm, ts, p, c, i, L, rfl, G.same e2, O, hi, h60, fun H2 e3 => ?_⟩
        walk_at "ys"
        have b1 : alin nm.length L p c i L ≤ L := by
          unfold alin
          exact Nat.le_trans (List.length_filter_le _ _) (by rw [List.length_range]; exact Nat.le_refl _)
        rw [int_div]
        have b2 : t / L ≤ t := Nat.div_le_self _ _
        refine y_mulI (cmul_small (by rw [Int.natAbs_natCast]; exact Nat.lt_of_le_of_lt b2 (Nat.lt_of_le_of_lt ht (by decide))) (by omega)) ?_
        walk_at "ys"
        have q1 : (t : Int) % (L : Int) = ((t % L : Nat) : Int) := (Int.natCast_emod t L).symm
        rw [q1]
        refine ⟨L, ga, o, nm, ts, p, c, i, t % L, rfl, G.same (e2.trans e3), O, hi, h60, fun H3 e4 => ?_⟩
        walk_at "ys"
        rw [← Int.natCast_mul, ← Int.natCast_add]
        exact q _ (e1.trans ((e2.trans e3).trans e4))
def sp_worst (CN CS : Addr) : Sp := fun vs H Q E => ∃ x g : V, vs = [x, g] ∧ ((Kd H x ∧ isW x 4 60 = false ∧ Refu H E CN x) ∨ (∃ L : Nat, x = .int L ∧ 4 ≤ L ∧ L ≤ 60 ∧ OddSh H L g ∧ Refu H E CS g))
theorem ok_worst {f : Addr} {fd : FuncData} (T : Txt K mg) {CGuestError CMissing CNoNumber CNoShare CNoGuest CNoNeeds : Addr} (W : Own K mg CGuestError CMissing CNoNumber CNoShare CNoGuest CNoNeeds) (F : Fun K "worst" "worst" s_worst f fd) : FnOk P w K mg base (L2.CX P w) 4 f fd ["length", "guests"] (sp_worst CNoNumber CNoShare) := by
  obtain ⟨f_need_length, fd_need_length, g_need_length, F_need_length⟩ := T.d_need_length
  have G_need_length := ok_need_length (P := P) (w := w) (base := base) T W F_need_length
  have b_need_length := F_need_length.binds (ps := ["length"]) fun _ _ _ _ _ _ us hl => match us, hl with | [_], _ => rfl
  obtain ⟨f_are_shares, fd_are_shares, g_are_shares, F_are_shares⟩ := T.d_are_shares
  have G_are_shares := ok_are_shares (P := P) (w := w) (base := base) T F_are_shares
  have b_are_shares := F_are_shares.binds (ps := ["thing", "length"]) fun _ _ _ _ _ _ us hl => match us, hl with | [_, _], _ => rfl
  obtain ⟨f_NoShare_init, fd_NoShare_init, F_NoShare_init, m_NoShare_init⟩ := W.m_NoShare_init
  have G_NoShare_init := ok_NoShare_init (P := P) (w := w) (base := base) T W F_NoShare_init
  have b_NoShare_init := F_NoShare_init.binds (ps := ["self", "found"]) fun _ _ _ _ _ _ us hl => match us, hl with | [_, _], _ => rfl
  have scp := sc_worst
  refine F.okX sc_worst (fun vs H Q E h => ?_) (fun cdv A outer s H vs Q E hr h => ?_)
  · first | (obtain ⟨rfl, _⟩ := h; rfl) | (obtain ⟨_, rfl, _⟩ := h; rfl) | (obtain ⟨_, _, rfl, _⟩ := h; rfl) | (obtain ⟨_, _, _, rfl, _⟩ := h; rfl) | (obtain ⟨_, _, _, _, rfl, _⟩ := h; rfl) | (obtain ⟨_, _, _, _, _, rfl, _⟩ := h; rfl) | (obtain ⟨_, _, _, _, _, _, rfl, _⟩ := h; rfl) | (obtain ⟨_, _, _, _, _, _, _, rfl, _⟩ := h; rfl) | (obtain ⟨_, _, _, _, _, _, _, _, rfl, _⟩ := h; rfl) | (obtain ⟨_, _, _, _, _, _, _, _, _, rfl, _⟩ := h; rfl) | (obtain ⟨_, _, _, _, _, _, _, _, _, _, rfl, _⟩ := h; rfl) | (obtain ⟨_, _, _, _, _, _, _, _, _, _, _, rfl, _⟩ := h; rfl) | (obtain ⟨_, _, _, _, _, _, _, _, _, _, _, _, rfl, _⟩ := h; rfl) | (obtain ⟨_, _, _, _, _, _, _, _, _, _, _, _, _, rfl, _⟩ := h; rfl) | (obtain ⟨_, _, _, _, _, _, _, _, _, _, _, _, _, _, rfl, _⟩ := h; rfl) | (obtain ⟨_, _, _, _, _, _, _, _, _, _, _, _, _, _, _, rfl, _⟩ := h; rfl) | (obtain ⟨_, _, _, _, _, _, _, _, _, _, _, _, _, _, _, _, rfl, _⟩ := h; rfl) | (obtain ⟨_, _, _, _, _, _, _, _, _, _, _, _, _, _, _, _, _, rfl, _⟩ := h; rfl) | (obtain ⟨_, _, _, _, _, _, _, _, _, _, _, _, _, _, _, _, _, _, rfl, _⟩ := h; rfl) | (obtain ⟨_, _, _, _, _, _, _, _, _, _, _, _, _, _, _, _, _, _, _, rfl, _⟩ := h; rfl) | (obtain ⟨_, _, _, _, _, _, _, _, _, _, _, _, _, _, _, _, _, _, _, _, rfl, _⟩ := h; rfl) | (obtain ⟨_, _, _, _, _, _, _, _, _, _, _, _, _, _, _, _, _, _, _, _, _, rfl, _⟩ := h; rfl) | (obtain ⟨_, _, _, _, _, _, _, _, _, _, _, _, _, _, _, _, _, _, _, _, _, _, rfl, _⟩ := h; rfl) | (obtain ⟨_, _, _, _, _, _, _, _, _, _, _, _, _, _, _, _, _, _, _, _, _, _, _, rfl, _⟩ := h; rfl) | (obtain ⟨_, _, _, _, _, _, _, _, _, _, _, _, _, _, _, _, _, _, _, _, _, _, _, _, rfl, _⟩ := h; rfl) | (obtain ⟨_, _, _, _, _, _, _, _, _, _, _, _, _, _, _, _, _, _, _, _, _, _, _, _, _, rfl, _⟩ := h; rfl) | (obtain ⟨_, _, _, _, _, _, _, _, _, _, _, _, _, _, _, _, _, _, _, _, _, _, _, _, _, _, rfl, _⟩ := h; rfl) | (obtain ⟨_, _, _, _, _, _, _, _, _, _, _, _, _, _, _, _, _, _, _, _, _, _, _, _, _, _, _, rfl, _⟩ := h; rfl)
  · obtain ⟨x, g, rfl, q⟩ := h
    have hu := hu_of hr
    have hv := hr.units
    refine ⟨_, (pss_cons (ps_expr (pe_call (G_need_length.mono (by decide)) hr rfl g_need_length F_need_length.kp b_need_length .nil (passes_call (takes_of rfl rfl rfl rfl) (fun _ _ _ _ h => h)) (pa_cons (pv 0) pa_nil)))
  (pss_cons (ps_if (pt_not (pt_val (pe_call (G_are_shares.mono (by decide)) hr rfl g_are_shares F_are_shares.kp b_are_shares .nil pass0 (pa_cons (pv 1) (pa_cons (pv 0) pa_nil)))))
  (pss_one (ps_raise rfl (takes_of rfl rfl rfl rfl) (pmk_gex bx_value W.e_NoShare m_NoShare_init.1 m_NoShare_init.2 G_NoShare_init (hr.mono (by decide)) b_NoShare_init .nil pass0 rfl W.g_NoShare (pa_cons (pv 1) pa_nil))))
  pss_nil)
  (pss_cons ps_never
  (pss_cons ps_never
  (pss_one ps_never))))), ?_⟩
    rcases q with ⟨hk, hb, r⟩ | ⟨L, rfl, h4, h60, od, r⟩
    · walk_at "ys"
      exact ⟨x, rfl, hk, .inr ⟨hb, r⟩⟩
    · walk_at "ys"
      refine ⟨.int L, rfl, .int _, .inl ⟨isW_in (by omega) (by omega), ?_⟩⟩
      walk_at "ys"
      refine .inr ⟨g, L, rfl, h4, od, fun H1 e1 => ?_⟩
      walk_at "ys"
      refine ⟨by simp, fun a na => ?_⟩
      exact ⟨a, _, rfl, upd_same, y_made1 na fun d H' e _ hd => r d H' (e1.trans e) hd⟩
end
end K87
namespace K87
open PySem L2 Y

def usedOf (nm : List Str) (u : Nat → Nat) : List (Key × V) := (List.range nm.length).map fun j => ((Sum.inr (nmF nm j) : Key), V.int (u j : Nat))
theorem valV_map_range {nm : List Str} (nd : nm.Nodup) (g : Nat → V) {i : Nat} (hi : i < nm.length) : ∀ n, n ≤ nm.length → valV ((List.range n).map fun j => ((Sum.inr (nmF nm j) : Key), g j)) (Sum.inr (nmF nm i)) = if i < n then some (g i) else none
  | 0, _ => rfl
  | n + 1, hn => by
    rw [List.range_succ, List.map_append]
    have ih := valV_map_range nd g hi n (by omega)
    by_cases h : i < n
    · rw [if_pos h] at ih
      rw [if_pos (by omega)]
      unfold valV at *
      rw [List.find?_append]
      cases e : ((List.range n).map fun j => ((Sum.inr (nmF nm j) : Key), g j)).find? fun kv => decide (kv.1 = Sum.inr (nmF nm i)) with
      | none =>
        rw [e] at ih
        cases ih
      | some x =>
        rw [e] at ih
        exact ih
    · rw [if_neg h] at ih
      unfold valV at *
      rw [List.find?_append]
      cases e : ((List.range n).map fun j => ((Sum.inr (nmF nm j) : Key), g j)).find? fun kv => decide (kv.1 = Sum.inr (nmF nm i)) with
      | some x =>
        rw [e] at ih
        cases ih
      | none =>
        by_cases h2 : i = n
        · subst h2
          simp
        · have h3 : ¬ (nmF nm n = nmF nm i) := fun z => h2 ((nm_inj nd (by omega) hi).mp z).symm
          rw [if_neg (by omega)]
          simp [h3]
theorem valV_used {nm : List Str} (nd : nm.Nodup) (u : Nat → Nat) {i : Nat} (hi : i < nm.length) : valV (usedOf nm u) (Sum.inr (nmF nm i)) = some (.int (u i : Nat)) := by
  have := valV_map_range nd (fun j => V.int (u j : Nat)) hi nm.length (Nat.le_refl _)
  rw [if_pos hi] at this
  exact this
theorem used_any {nm : List Str} (nd : nm.Nodup) (u : Nat → Nat) {i : Nat} (hi : i < nm.length) (x : Nat) : putK (usedOf nm u) (Sum.inr (nmF nm i)) (.int (x : Nat)) = usedOf nm (fun j => if j = i then x else u j) := by
  unfold putK
  rw [if_pos (by rw [valV_any, valV_used nd u hi]; rfl)]
  unfold usedOf
  rw [List.map_map]
  refine List.map_congr_left fun j hj => ?_
  have hj := List.mem_range.mp hj
  show (if (Sum.inr (nmF nm j) : Key) = Sum.inr (nmF nm i) then ((Sum.inr (nmF nm j) : Key), V.int (x : Nat)) else _) = _
  by_cases e : j = i
  · subst e
    rw [if_pos rfl]
    simp
  · rw [if_neg (fun z => e ((nm_inj nd hj hi).mp (Sum.inr.inj z)))]
    simp [e]
theorem merge_used {nm : List Str} (nd : nm.Nodup) (g : Nat → V) : ∀ n, n ≤ nm.length → mergeK [] ((List.range n).map fun j => ((Sum.inr (nmF nm j) : Key), g j)) = (List.range n).map fun j => ((Sum.inr (nmF nm j) : Key), g j)
  | 0, _ => rfl
  | n + 1, hn => by
    have ih := merge_used nd g n (by omega)
    unfold mergeK at *
    rw [List.range_succ, List.map_append, List.foldl_append, ih]
    show putK _ _ _ = _
    rw [putK_new _ (by rw [valV_map_range nd g (show n < nm.length by omega) n (by omega), if_neg (Nat.lt_irrefl _)])]
    rfl
theorem paired_idx {α β : Type} {F : α → β → Prop} : ∀ {xs : List α} {ys : List β}, xs.length = ys.length → (∀ (i : Nat) x y, xs[i]? = some x → ys[i]? = some y → F x y) → Paired F xs ys
  | [], [], _, _ => .nil
  | [], _ :: _, h, _ => by simp at h
  | _ :: _, [], h, _ => by simp at h
  | x :: xs, y :: ys, h, f => .cons (f 0 x y rfl rfl) (paired_idx (by simpa using h) fun i a b h1 h2 => f (i + 1) a b h1 h2)
/-- all but the lists as it was -/
def SameT (H H' : Hp) : Prop := ∀ a u, (∀ xs, u ≠ .lst xs) → H a = some u → H' a = some u
theorem SameT.of {H H' : Hp} (e : Same H H') : SameT H H' := fun a u _ h => e a u h
theorem SameT.put {H : Hp} {D : Addr} {xs : List V} {o : HO} (h : H D = some (.lst xs)) : SameT H (upd H D o) := fun a u n e => by
  rw [upd_ne (fun z => n xs (by rw [z, h] at e; exact (Option.some.inj e).symm))]
  exact e
theorem lc_rel {J : It} {n : Nat} {G : Hp → Prop} {Y : Nat → Hp → V → Hp → Prop} {g : TG} {tt : TT} {te : TE} {vs : List Nat} {σ : L2.St} {H0 : Hp} {D : Addr} {Qd : Hp → Prop} (R : Nat → V → Hp → Prop) (hR : ∀ i v H H', SameT H H' → R i v H → R i v H') (w : Walk J n G Y) (nD : H0 D = none) (hn : n < sizeLine)
    (hG : ∀ H', Same H0 H' → G H')
    (hs : ∀ (i : Nat) (x : V) (H1 H2 : Hp) (Nx : Hp → Prop), i < n → Same H0 H1 → Y i H1 x H2 →
      (∀ y H5, Same H1 H5 → R i y H5 → ∃ acc, H5 D = some (.lst acc) ∧ acc.length < sizeLine ∧ Nx (upd H5 D (.lst (acc ++ [y])))) →
      g x (wipe σ vs) H2 fun σ2 H3 => wipe σ2 vs = wipe σ vs ∧ tt σ2 H3 fun b H4 => if b = true then te σ2 H4 fun y H5 => ∃ acc, H5 D = some (.lst acc) ∧ acc.length < sizeLine ∧ Nx (upd H5 D (.lst (acc ++ [y]))) else Nx H4)
    (hd : ∀ (H' : Hp) (ys : List V), Same H0 H' → ys.length = n → (∀ i y, ys[i]? = some y → R i y H') → H' D = some (.lst ys) → Qd H') :
    ∃ W : Nat → Nat → Hp → Prop, (∃ m, W 0 m (upd H0 D (.lst []))) ∧ ∀ i m H, W i m H →
      (J.stop i H ∧ Qd H) ∨ (J.go i H ∧ ∃ Nx : Hp → Prop, (∀ H', Nx H' → ∃ m', m' < m ∧ W (i + 1) m' H') ∧ ∀ x H', J.yld i H x H' → g x (wipe σ vs) H' fun σ2 H2 => wipe σ2 vs = wipe σ vs ∧ tt σ2 H2 fun b H3 =>
        if b = true then te σ2 H3 fun y H4 => ∃ acc, H4 D = some (.lst acc) ∧ acc.length < sizeLine ∧ Nx (upd H4 D (.lst (acc ++ [y]))) else Nx H3) := by
  refine lc_it w (fun i H => Same H0 H ∧ ∃ ys : List V, ys.length = i ∧ (∀ j y, ys[j]? = some y → R j y H) ∧ H D = some (.lst ys)) ⟨same_new0 nD, [], rfl, fun j a h => by simp at h, upd_same⟩ (fun i H _ h => hG H h.1) (fun i x H H' hi hP hY => ?_) (fun H h => ?_)
  · obtain ⟨e, ys, hl, ha, hD⟩ := hP
    refine hs i x H H' (fun H4 => Same H0 H4 ∧ ∃ ys : List V, ys.length = i + 1 ∧ (∀ j y, ys[j]? = some y → R j y H4) ∧ H4 D = some (.lst ys)) hi e hY (fun y H5 e5 h5 => ?_)
    have hD5 := e5 _ _ hD
    refine ⟨_, hD5, by rw [hl]; exact Nat.lt_trans hi hn, same_upd (e.trans e5) nD, ys ++ [y], by rw [List.length_append, hl]; rfl, fun j b hb => ?_, upd_same⟩
    refine hR _ _ _ _ (SameT.put hD5) ?_
    by_cases h : j < ys.length
    · rw [List.getElem?_append_left h] at hb
      exact hR _ _ _ _ (SameT.of e5) (ha j b hb)
    · rw [List.getElem?_append_right (by omega)] at hb
      have hj : j - ys.length = 0 := by
        by_cases z : j - ys.length = 0
        · exact z
        · rw [List.getElem?_eq_none (by simp; omega)] at hb
          cases hb
      rw [hj] at hb
      have : y = b := Option.some.inj hb
      subst this
      have : j = i := by omega
      rw [this]
      exact h5
  · obtain ⟨e, ys, hl, ha, hD⟩ := h
    exact hd H ys e hl ha hD
/-- f with another value at i -/
def set1 (f : Nat → Nat) (i x : Nat) : Nat → Nat := fun j => if j = i then x else f j
theorem sum_set1 {f : Nat → Nat} {i x : Nat} : ∀ {n : Nat}, i < n → Deal.sumTo (set1 f i x) n + f i = Deal.sumTo f n + x := by
  intro n hi
  rw [Deal.sumTo_at (f := set1 f i x) hi, Deal.sumTo_at (f := f) hi]
  have e : (fun j => if j = i then 0 else set1 f i x j) = fun j => if j = i then 0 else f j := funext fun j => by
    unfold set1
    by_cases z : j = i
    · rw [if_pos z, if_pos z]
    · rw [if_neg z, if_neg z, if_neg z]
  rw [e]
  unfold set1
  rw [if_pos rfl]
  omega
theorem ok_set1 {n L i p c : Nat} {tp tc : Nat → Nat} (O : Deal.Ok n L tp tc) (hpc : p ≤ c) (h1 : 1 ≤ c) (hL : c ≤ L) (hs : Deal.sumTo (set1 tp i p) n ≤ L) : Deal.Ok n L (set1 tp i p) (set1 tc i c) := by
  refine ⟨fun j hj => ?_, fun j hj => ?_, fun j hj => ?_, hs⟩ <;> unfold set1 <;> by_cases z : j = i
  · rw [if_pos z, if_pos z]; exact hpc
  · rw [if_neg z, if_neg z]; exact O.pc j hj
  · rw [if_pos z]; exact h1
  · rw [if_neg z]; exact O.one j hj
  · rw [if_pos z]; exact hL
  · rw [if_neg z]; exact O.cL j hj
/-- a list or tuple of needs -/
structure Nds (H : Hp) (v : V) (ns : List (Nat × Nat)) : Prop where
  at_ : ∃ (a : Addr) (ps : List Addr), v = .ref a ∧ (H a = some (.lst (ps.map V.ref)) ∨ H a = some (.tup (ps.map V.ref))) ∧ ps.length = ns.length ∧ ∀ (i : Nat) p n, ps[i]? = some p → ns[i]? = some n → H p = some (.tup [.int n.1, .int n.2])
  lim : ∀ n, n ∈ ns → n.1 ≤ 400 ∧ n.2 ≤ 400
  few : ns.length ≤ 60
theorem Nds.same {H H' : Hp} {v : V} {ns : List (Nat × Nat)} (N : Nds H v ns) (e : Same H H') : Nds H' v ns := by
  obtain ⟨a, ps, h1, h2, h3, h4⟩ := N.at_
  exact ⟨⟨a, ps, h1, h2.imp (e _ _) (e _ _), h3, fun i p n g1 g2 => e _ _ (h4 i p n g1 g2)⟩, N.lim, N.few⟩
inductive OddNd (H : Hp) : V → Prop
  | non : OddNd H .non
  | int (i : Int) : OddNd H (.int i)
  | dct {a : Addr} {kvs : List (Key × V)} (h : H a = some (.dK kvs)) : OddNd H (.ref a)
  | one {a t : Addr} (h : H a = some (.lst [.ref t])) (ht : H t = some (.tup [.int 1])) : OddNd H (.ref a)
  | lis {a t : Addr} (h : H a = some (.lst [.ref t])) (ht : H t = some (.lst [.int 1, .int 1])) : OddNd H (.ref a)
  | big {a t : Addr} {x y : V} (h : H a = some (.lst [.ref t])) (ht : H t = some (.tup [x, y])) (hx : Kd H x) (hy : Kd H y) (hb : (isW x 0 400 && isW y 0 400) = false) : OddNd H (.ref a)
  | many {a : Addr} {xs : List V} (h : H a = some (.lst xs)) (hl : 60 < xs.length) : OddNd H (.ref a)
theorem OddNd.same {H H' : Hp} {v : V} (o : OddNd H v) (e : Same H H') : OddNd H' v := by
  cases o with
  | non => exact .non
  | int i => exact .int i
  | dct h => exact .dct (e _ _ h)
  | one h ht => exact .one (e _ _ h) (e _ _ ht)
  | lis h ht => exact .lis (e _ _ h) (e _ _ ht)
  | big h ht hx hy hb => exact .big (e _ _ h) (e _ _ ht) (hx.same e) (hy.same e) hb
  | many h hl => exact .many (e _ _ h) hl
theorem two_all {x y : Bool} : ([x, y].map V.bl) = [.bl x, .bl y] := rfl
section
variable {P : Program} {w : World} {K : PySem.W.Frag} {mg : Str → Option Value} {base : Heap}
def sp_are_needs (K : PySem.W.Frag) : Sp := fun vs H Q _ => ∃ v : V, vs = [v] ∧ ((∃ ns, Nds H v ns ∧ ∀ H', Same H H' → Q (.bl true) H') ∨ (OddNd H v ∧ ∀ H', Same H H' → Q (.bl false) H'))
theorem ok_are_needs {f : Addr} {fd : FuncData} (T : Txt K mg) (F : Fun K "are_needs" "are_needs" s_are_needs f fd) : FnOk P w K mg base CX0 2 f fd ["thing"] (sp_are_needs K) := by
  obtain ⟨f_is_whole, fd_is_whole, g_is_whole, F_is_whole⟩ := T.d_is_whole
  have G_is_whole := ok_is_whole (P := P) (w := w) (base := base) T F_is_whole
  have b_is_whole := F_is_whole.binds (ps := ["thing", "low", "high"]) fun _ _ _ _ _ _ us hl => match us, hl with | [_, _, _], _ => rfl
  have scp := sc_are_needs
  refine F.ok sc_are_needs (fun vs H Q E h => ?_) (fun cdv A outer s H vs Q E hr h => ?_)
  · first | (obtain ⟨rfl, _⟩ := h; rfl) | (obtain ⟨_, rfl, _⟩ := h; rfl) | (obtain ⟨_, _, rfl, _⟩ := h; rfl) | (obtain ⟨_, _, _, rfl, _⟩ := h; rfl) | (obtain ⟨_, _, _, _, rfl, _⟩ := h; rfl) | (obtain ⟨_, _, _, _, _, rfl, _⟩ := h; rfl) | (obtain ⟨_, _, _, _, _, _, rfl, _⟩ := h; rfl) | (obtain ⟨_, _, _, _, _, _, _, rfl, _⟩ := h; rfl) | (obtain ⟨_, _, _, _, _, _, _, _, rfl, _⟩ := h; rfl) | (obtain ⟨_, _, _, _, _, _, _, _, _, rfl, _⟩ := h; rfl) | (obtain ⟨_, _, _, _, _, _, _, _, _, _, rfl, _⟩ := h; rfl) | (obtain ⟨_, _, _, _, _, _, _, _, _, _, _, rfl, _⟩ := h; rfl) | (obtain ⟨_, _, _, _, _, _, _, _, _, _, _, _, rfl, _⟩ := h; rfl) | (obtain ⟨_, _, _, _, _, _, _, _, _, _, _, _, _, rfl, _⟩ := h; rfl) | (obtain ⟨_, _, _, _, _, _, _, _, _, _, _, _, _, _, rfl, _⟩ := h; rfl) | (obtain ⟨_, _, _, _, _, _, _, _, _, _, _, _, _, _, _, rfl, _⟩ := h; rfl) | (obtain ⟨_, _, _, _, _, _, _, _, _, _, _, _, _, _, _, _, rfl, _⟩ := h; rfl) | (obtain ⟨_, _, _, _, _, _, _, _, _, _, _, _, _, _, _, _, _, rfl, _⟩ := h; rfl) | (obtain ⟨_, _, _, _, _, _, _, _, _, _, _, _, _, _, _, _, _, _, rfl, _⟩ := h; rfl) | (obtain ⟨_, _, _, _, _, _, _, _, _, _, _, _, _, _, _, _, _, _, _, rfl, _⟩ := h; rfl) | (obtain ⟨_, _, _, _, _, _, _, _, _, _, _, _, _, _, _, _, _, _, _, _, rfl, _⟩ := h; rfl) | (obtain ⟨_, _, _, _, _, _, _, _, _, _, _, _, _, _, _, _, _, _, _, _, _, rfl, _⟩ := h; rfl) | (obtain ⟨_, _, _, _, _, _, _, _, _, _, _, _, _, _, _, _, _, _, _, _, _, _, rfl, _⟩ := h; rfl) | (obtain ⟨_, _, _, _, _, _, _, _, _, _, _, _, _, _, _, _, _, _, _, _, _, _, _, rfl, _⟩ := h; rfl) | (obtain ⟨_, _, _, _, _, _, _, _, _, _, _, _, _, _, _, _, _, _, _, _, _, _, _, _, rfl, _⟩ := h; rfl) | (obtain ⟨_, _, _, _, _, _, _, _, _, _, _, _, _, _, _, _, _, _, _, _, _, _, _, _, _, rfl, _⟩ := h; rfl) | (obtain ⟨_, _, _, _, _, _, _, _, _, _, _, _, _, _, _, _, _, _, _, _, _, _, _, _, _, _, rfl, _⟩ := h; rfl) | (obtain ⟨_, _, _, _, _, _, _, _, _, _, _, _, _, _, _, _, _, _, _, _, _, _, _, _, _, _, _, rfl, _⟩ := h; rfl)
  · obtain ⟨v, rfl, q⟩ := h
    have hu := hu_of hr
    have hv := hr.units
    refine ⟨_, (pss_cons (ps_if (PW.pt (pw_or (pt_not (pt_val (pe_callB (call_isiTY (K := K)) (by rfl) T.n_isinstance (by decide +kernel) (pa_cons (pv 0) (pa_cons (pe_tup (pa_cons (pe_bty (T := "list") T.n_list (by decide +kernel)) (pa_cons (pe_bty (T := "tuple") T.n_tuple (by decide +kernel)) pa_nil))) pa_nil))))) (pw_or1 (pt_cmpR op_gtI (pe_callB (call_lenK (K := K)) (by rfl) T.n_len (by decide +kernel) (pa_cons (pv 0) pa_nil)) (pe_gint T.c_MOST_NEEDS) (nomark _)))))
  (pss_one (ps_ret pe_bl))
  pss_nil)
  (pss_cons (ps_for PassesOwn.never rfl (pi_orI (pi_listK (K := K) (pv 0)) (pi_tupK (K := K) (pv 0))) (pg_name (i := 1) scp.nd rfl (by first | exact Or.inl rfl | exact Or.inr rfl))
  (pss_one (ps_if (PW.pt (pw_or (pt_not (pt_val (pe_callB (call_isiY (K := K)) (by rfl) T.n_isinstance (by decide +kernel) (pa_cons (pv 1) (pa_cons (pe_bty (T := "tuple") T.n_tuple (by decide +kernel)) pa_nil))))) (pw_or (pt_cmpR (op_neK (K := K) hv) (pe_callB (call_lenK (K := K)) (by rfl) T.n_len (by decide +kernel) (pa_cons (pv 1) pa_nil)) pe_int (nomark _)) (pw_or1 (pt_not (pt_val (pe_callB (call_allY (K := K) rfl) (by rfl) T.n_all (by decide +kernel) (pa_cons (pe_lc (own := [("part", 2)]) (g := gName 2) (tt := tYes) rfl scp.nd (pi_tupK (K := K) (pv 1)) (blkOk_by (own := [("part", 2)]) (N := ["thing", "need", "part"]) (sc := defScope s_are_needs) (by decide +kernel)) (fun _ _ _ _ _ => (pg_name (i := 2) scp.nd rfl (by first | exact Or.inl rfl | exact Or.inr rfl))) (fun _ _ _ _ _ => pts_nil) (fun _ _ _ _ _ => (pe_call (G_is_whole.mono (by decide)) hr rfl g_is_whole F_is_whole.kp b_is_whole .nil pass0 (pa_cons (pv 2) (pa_cons pe_int (pa_cons (pe_gint T.c_MOST_TURNS) pa_nil)))))) pa_nil))))))))
  (pss_one (ps_ret pe_bl))
  pss_nil)))
  (pss_one (ps_ret pe_bl)))), ?_⟩
    walk_at "ys"
    refine ⟨sz_line (by simp), fun tt ntt => ?_⟩
    have f1 : Same H (upd H tt (.tup [.ty "list", .ty "tuple"])) := same_new0 ntt
    have htt : upd H tt (.tup [.ty "list", .ty "tuple"]) tt = some (.tup [.ty "list", .ty "tuple"]) := upd_same
    rcases q with ⟨ns, N, q⟩ | ⟨od, q⟩
    · have N1 := N.same f1
      generalize upd H tt (.tup [.ty "list", .ty "tuple"]) = H1 at *
      obtain ⟨a, ps, rfl, h2, h3, h4⟩ := N1.at_
      have hlen : ((ps.map V.ref).length : Int) ≤ 60 := by
        rw [List.length_map, h3]
        have := N.few
        omega
      have hps : ∀ (i : Nat) (x : V), (ps.map V.ref)[i]? = some x → ∃ p n, x = .ref p ∧ ns[i]? = some n ∧ H1 p = some (.tup [.int n.1, .int n.2]) := fun i x hx => by
        rw [List.getElem?_map] at hx
        cases e : ps[i]? with
        | none => rw [e] at hx; cases hx
        | some p =>
          rw [e] at hx
          have hi : i < ns.length := by
            have := (List.getElem?_eq_some_iff.mp e).1
            omega
          exact ⟨p, ns[i], (Option.some.inj hx).symm, List.getElem?_eq_getElem hi, h4 i p _ e (List.getElem?_eq_getElem hi)⟩
      have body : ∀ (σ : L2.St) (H2 : Hp) (p : Addr) (n : Nat × Nat), True := fun _ _ _ _ => trivial
      rcases h2 with h2 | h2
      · walk_at "ys"
        refine y_dF (by omega) ?_
        walk_at "ys"
        refine y_iorL ?_
        walk_at "ys"
        refine for_it (walk_list (xs := ps.map V.ref)) (fun i σ H' => (∃ u1 : Option V, σ = [some (.ref a), u1, none]) ∧ Same H1 H') ⟨⟨none, rfl⟩, Same.refl _⟩ (fun i σ H' _ h => SqL.of (h.2 _ _ h2)) (fun i x σ H2 H3 hi hP hY => ?_) (fun σ H' hP => ?_)
        · obtain ⟨⟨u1, rfl⟩, e2⟩ := hP
          obtain ⟨rfl, hx⟩ := hY
          obtain ⟨p, n, rfl, hn, hp⟩ := hps i x hx
          obtain ⟨l1, l2⟩ := N.lim n (List.mem_of_getElem? hn)
          have hp2 := e2 _ _ hp
          walk_at "ys"
          intro D nD
          refine lc_map (fun j => .bl (isW ([V.int n.1, V.int n.2].getD j .non) 0 400)) (walk_tup (xs := [V.int n.1, V.int n.2])) nD (sz_lt (by simp)) (fun H' e => SqT.of (e _ _ hp2)) (fun j y H4 H5 Nx hj e4 hY k => ?_) (fun H4 e4 hD => ?_)
          · obtain ⟨rfl, hy⟩ := hY
            walk_at "ys"
            have hyk : ∃ i : Nat, y = .int i := by
              match j, hy with
              | 0, hy => exact ⟨_, (Option.some.inj hy).symm⟩
              | 1, hy => exact ⟨_, (Option.some.inj hy).symm⟩
            obtain ⟨yi, rfl⟩ := hyk
            refine ⟨.int yi, 0, 400, rfl, .int _, ?_⟩
            refine k _ _ ?_ (Same.refl _)
            rw [List.getD_eq_getElem?_getD, hy]
            rfl
          · walk_at "ys"
            have hD2 : H4 D = some (.lst ([true, true].map V.bl)) := by
              rw [hD]
              show some (HO.lst [V.bl (isW (.int n.1) 0 400), V.bl (isW (.int n.2) 0 400)]) = _
              rw [isW_in (by omega) (by omega), isW_in (by omega) (by omega)]
              rfl
            refine y_all hD2 ?_
            walk_at "ys"
            exact ⟨⟨_, rfl⟩, e2.trans e4⟩
        · obtain ⟨⟨u1, rfl⟩, e2⟩ := hP
          walk_at "ys"
          exact q _ (f1.trans e2)
      · walk_at "ys"
        refine y_dF (by omega) ?_
        walk_at "ys"
        refine y_iorR ?_
        walk_at "ys"
        refine for_it (walk_tup (xs := ps.map V.ref)) (fun i σ H' => (∃ u1 : Option V, σ = [some (.ref a), u1, none]) ∧ Same H1 H') ⟨⟨none, rfl⟩, Same.refl _⟩ (fun i σ H' _ h => SqT.of (h.2 _ _ h2)) (fun i x σ H2 H3 hi hP hY => ?_) (fun σ H' hP => ?_)
        · obtain ⟨⟨u1, rfl⟩, e2⟩ := hP
          obtain ⟨rfl, hx⟩ := hY
          obtain ⟨p, n, rfl, hn, hp⟩ := hps i x hx
          obtain ⟨l1, l2⟩ := N.lim n (List.mem_of_getElem? hn)
          have hp2 := e2 _ _ hp
          walk_at "ys"
          intro D nD
          refine lc_map (fun j => .bl (isW ([V.int n.1, V.int n.2].getD j .non) 0 400)) (walk_tup (xs := [V.int n.1, V.int n.2])) nD (sz_lt (by simp)) (fun H' e => SqT.of (e _ _ hp2)) (fun j y H4 H5 Nx hj e4 hY k => ?_) (fun H4 e4 hD => ?_)
          · obtain ⟨rfl, hy⟩ := hY
            walk_at "ys"
            have hyk : ∃ i : Nat, y = .int i := by
              match j, hy with
              | 0, hy => exact ⟨_, (Option.some.inj hy).symm⟩
              | 1, hy => exact ⟨_, (Option.some.inj hy).symm⟩
            obtain ⟨yi, rfl⟩ := hyk
            refine ⟨.int yi, 0, 400, rfl, .int _, ?_⟩
            refine k _ _ ?_ (Same.refl _)
            rw [List.getD_eq_getElem?_getD, hy]
            rfl
          · walk_at "ys"
            have hD2 : H4 D = some (.lst ([true, true].map V.bl)) := by
              rw [hD]
              show some (HO.lst [V.bl (isW (.int n.1) 0 400), V.bl (isW (.int n.2) 0 400)]) = _
              rw [isW_in (by omega) (by omega), isW_in (by omega) (by omega)]
              rfl
            refine y_all hD2 ?_
            walk_at "ys"
            exact ⟨⟨_, rfl⟩, e2.trans e4⟩
        · obtain ⟨⟨u1, rfl⟩, e2⟩ := hP
          walk_at "ys"
          exact q _ (f1.trans e2)
    · have od1 := od.same f1
      generalize upd H tt (.tup [.ty "list", .ty "tuple"]) = H1 at *
      have single : ∀ {a t : Addr}, H1 a = some (.lst [.ref t]) → True := fun _ => trivial
      cases od1 with
      | non => walk_at "ys"; exact q _ f1
      | int i => walk_at "ys"; exact q _ f1
      | dct h => walk_at "ys"; exact q _ f1
      | many h hl =>
        walk_at "ys"
        refine y_dT (by omega) ?_
        walk_at "ys"
        exact q _ f1
      | @one a t h ht =>
        walk_at "ys"
        refine y_dF (by show ¬ ((60 : Int) < 1); omega) ?_
        walk_at "ys"
        refine y_iorL ?_
        walk_at "ys"
        refine for_it (walk_list (xs := [V.ref t])) (fun i σ H' => i = 0 ∧ σ = [some (.ref a), none, none] ∧ H' = H1) ⟨rfl, rfl, rfl⟩ (fun i σ H' _ hP => by rw [hP.2.2]; exact SqL.of h) (fun i x σ H2 H3 hi hP hY => ?_) (fun σ H' hP => absurd hP.1 (by simp))
        obtain ⟨rfl, rfl, rfl⟩ := hP
        obtain ⟨rfl, hx⟩ := hY
        obtain rfl := (Option.some.inj hx)
        walk_at "ys"
        exact q _ f1
      | @lis a t h ht =>
        walk_at "ys"
        refine y_dF (by show ¬ ((60 : Int) < 1); omega) ?_
        walk_at "ys"
        refine y_iorL ?_
        walk_at "ys"
        refine for_it (walk_list (xs := [V.ref t])) (fun i σ H' => i = 0 ∧ σ = [some (.ref a), none, none] ∧ H' = H1) ⟨rfl, rfl, rfl⟩ (fun i σ H' _ hP => by rw [hP.2.2]; exact SqL.of h) (fun i x σ H2 H3 hi hP hY => ?_) (fun σ H' hP => absurd hP.1 (by simp))
        obtain ⟨rfl, rfl, rfl⟩ := hP
        obtain ⟨rfl, hx⟩ := hY
        obtain rfl := (Option.some.inj hx)
        walk_at "ys"
        exact q _ f1
      | @big a t x0 y0 h ht hx0 hy0 hb =>
        walk_at "ys"
        refine y_dF (by show ¬ ((60 : Int) < 1); omega) ?_
        walk_at "ys"
        refine y_iorL ?_
        walk_at "ys"
        refine for_it (walk_list (xs := [V.ref t])) (fun i σ H' => i = 0 ∧ σ = [some (.ref a), none, none] ∧ H' = H1) ⟨rfl, rfl, rfl⟩ (fun i σ H' _ hP => by rw [hP.2.2]; exact SqL.of h) (fun i x σ H2 H3 hi hP hY => ?_) (fun σ H' hP => absurd hP.1 (by simp))
        obtain ⟨rfl, rfl, rfl⟩ := hP
        obtain ⟨rfl, hx⟩ := hY
        obtain rfl := (Option.some.inj hx)
        walk_at "ys"
        intro D nD
        refine lc_map (fun j => .bl (isW ([x0, y0].getD j .non) 0 400)) (walk_tup (xs := [x0, y0])) nD (sz_lt (by simp)) (fun H' e => SqT.of (e _ _ ht)) (fun j y H4 H5 Nx hj e4 hY k => ?_) (fun H4 e4 hD => ?_)
        · obtain ⟨rfl, hy⟩ := hY
          walk_at "ys"
          have hyk : Kd H5 y := by
            match j, hy with
            | 0, hy => rw [← Option.some.inj hy]; exact hx0.same e4
            | 1, hy => rw [← Option.some.inj hy]; exact hy0.same e4
          refine ⟨y, 0, 400, rfl, hyk, ?_⟩
          refine k _ _ ?_ (Same.refl _)
          rw [List.getD_eq_getElem?_getD, hy]
          rfl
        · walk_at "ys"
          have hD2 : H4 D = some (.lst ([isW x0 0 400, isW y0 0 400].map V.bl)) := hD
          refine y_all hD2 ?_
          have e9 : ([isW x0 0 400, isW y0 0 400].all id) = false := by
            show (isW x0 0 400 && (isW y0 0 400 && true)) = false
            rw [Bool.and_true]
            exact hb
          rw [e9]
          walk_at "ys"
          exact q _ (f1.trans e4)
end
end K87
namespace K87
open PySem L2 Y

/-- how many turns come surely in so many turns of the line -/
def surely (n L : Nat) (p c : Nat → Nat) (i t : Nat) : Nat := t / L * alin n L p c i L + alin n L p c i (t % L)
def shortP (n L : Nat) (p c : Nat → Nat) (i : Nat) (ns : List (Nat × Nat)) (k : Nat) : Bool := decide (surely n L p c i (ns.getD k (0, 0)).1 < (ns.getD k (0, 0)).2)
def shortL (n L : Nat) (p c : Nat → Nat) (i : Nat) (ns : List (Nat × Nat)) : List Nat := (List.range ns.length).filter (shortP n L p c i ns)
def unmetV (n L : Nat) (p c : Nat → Nat) (i : Nat) (ns : List (Nat × Nat)) : V := ((shortL n L p c i ns).head?).elim .non fun k => .int (k : Nat)
theorem getD_mem {ns : List (Nat × Nat)} {j : Nat} (h : j < ns.length) : ns.getD j (0, 0) ∈ ns := by
  rw [List.getD_eq_getElem?_getD, List.getElem?_eq_getElem h]
  exact List.getElem_mem h
section
variable {P : Program} {w : World} {K : PySem.W.Frag} {mg : Str → Option Value} {base : Heap}
def sp_first_unmet (CN CS CG CE : Addr) : Sp := fun vs H Q E => ∃ x g z v : V, vs = [x, g, z, v] ∧ (CaseRef H E CN CS CG x g z ∨ ∃ (L : Nat) (ga : Addr) (o : Obj) (nm : List Str) (ts : List Addr) (p c : Nat → Nat) (i : Nat), Good H x g L ga o nm ts p c ∧ z = .str (nmF nm i) ∧ i < nm.length ∧ ((OddNd H v ∧ Refu H E CE v) ∨ ∃ ns, Nds H v ns ∧ ∀ H', Same H H' → Q (unmetV nm.length L p c i ns) H'))
theorem ok_first_unmet {f : Addr} {fd : FuncData} (T : Txt K mg) {CGuestError CMissing CNoNumber CNoShare CNoGuest CNoNeeds : Addr} (W : Own K mg CGuestError CMissing CNoNumber CNoShare CNoGuest CNoNeeds) (F : Fun K "first_unmet" "first_unmet" s_first_unmet f fd) : FnOk P w K mg base (L2.CX P w) 6 f fd ["length", "guests", "name", "needs"] (sp_first_unmet CNoNumber CNoShare CNoGuest CNoNeeds) := by
  obtain ⟨f_need_case, fd_need_case, g_need_case, F_need_case⟩ := T.d_need_case
  have G_need_case := ok_need_case (P := P) (w := w) (base := base) T W F_need_case
  have b_need_case := F_need_case.binds (ps := ["length", "guests", "name"]) fun _ _ _ _ _ _ us hl => match us, hl with | [_, _, _], _ => rfl
  obtain ⟨f_are_needs, fd_are_needs, g_are_needs, F_are_needs⟩ := T.d_are_needs
  have G_are_needs := ok_are_needs (P := P) (w := w) (base := base) T F_are_needs
  have b_are_needs := F_are_needs.binds (ps := ["thing"]) fun _ _ _ _ _ _ us hl => match us, hl with | [_], _ => rfl
  obtain ⟨f_NoNeeds_init, fd_NoNeeds_init, F_NoNeeds_init, m_NoNeeds_init⟩ := W.m_NoNeeds_init
  have G_NoNeeds_init := ok_NoNeeds_init (P := P) (w := w) (base := base) T W F_NoNeeds_init
  have b_NoNeeds_init := F_NoNeeds_init.binds (ps := ["self", "found"]) fun _ _ _ _ _ _ us hl => match us, hl with | [_, _], _ => rfl
  obtain ⟨f_at_least, fd_at_least, g_at_least, F_at_least⟩ := T.d_at_least
  have G_at_least := ok_at_least (P := P) (w := w) (base := base) T W F_at_least
  have b_at_least := F_at_least.binds (ps := ["length", "guests", "name", "turns"]) fun _ _ _ _ _ _ us hl => match us, hl with | [_, _, _, _], _ => rfl
  have scp := sc_first_unmet
  refine F.okX sc_first_unmet (fun vs H Q E h => ?_) (fun cdv A outer s H vs Q E hr h => ?_)
  · first | (obtain ⟨rfl, _⟩ := h; rfl) | (obtain ⟨_, rfl, _⟩ := h; rfl) | (obtain ⟨_, _, rfl, _⟩ := h; rfl) | (obtain ⟨_, _, _, rfl, _⟩ := h; rfl) | (obtain ⟨_, _, _, _, rfl, _⟩ := h; rfl) | (obtain ⟨_, _, _, _, _, rfl, _⟩ := h; rfl) | (obtain ⟨_, _, _, _, _, _, rfl, _⟩ := h; rfl) | (obtain ⟨_, _, _, _, _, _, _, rfl, _⟩ := h; rfl) | (obtain ⟨_, _, _, _, _, _, _, _, rfl, _⟩ := h; rfl) | (obtain ⟨_, _, _, _, _, _, _, _, _, rfl, _⟩ := h; rfl) | (obtain ⟨_, _, _, _, _, _, _, _, _, _, rfl, _⟩ := h; rfl) | (obtain ⟨_, _, _, _, _, _, _, _, _, _, _, rfl, _⟩ := h; rfl) | (obtain ⟨_, _, _, _, _, _, _, _, _, _, _, _, rfl, _⟩ := h; rfl) | (obtain ⟨_, _, _, _, _, _, _, _, _, _, _, _, _, rfl, _⟩ := h; rfl) | (obtain ⟨_, _, _, _, _, _, _, _, _, _, _, _, _, _, rfl, _⟩ := h; rfl) | (obtain ⟨_, _, _, _, _, _, _, _, _, _, _, _, _, _, _, rfl, _⟩ := h; rfl) | (obtain ⟨_, _, _, _, _, _, _, _, _, _, _, _, _, _, _, _, rfl, _⟩ := h; rfl) | (obtain ⟨_, _, _, _, _, _, _, _, _, _, _, _, _, _, _, _, _, rfl, _⟩ := h; rfl) | (obtain ⟨_, _, _, _, _, _, _, _, _, _, _, _, _, _, _, _, _, _, rfl, _⟩ := h; rfl) | (obtain ⟨_, _, _, _, _, _, _, _, _, _, _, _, _, _, _, _, _, _, _, rfl, _⟩ := h; rfl) | (obtain ⟨_, _, _, _, _, _, _, _, _, _, _, _, _, _, _, _, _, _, _, _, rfl, _⟩ := h; rfl) | (obtain ⟨_, _, _, _, _, _, _, _, _, _, _, _, _, _, _, _, _, _, _, _, _, rfl, _⟩ := h; rfl) | (obtain ⟨_, _, _, _, _, _, _, _, _, _, _, _, _, _, _, _, _, _, _, _, _, _, rfl, _⟩ := h; rfl) | (obtain ⟨_, _, _, _, _, _, _, _, _, _, _, _, _, _, _, _, _, _, _, _, _, _, _, rfl, _⟩ := h; rfl) | (obtain ⟨_, _, _, _, _, _, _, _, _, _, _, _, _, _, _, _, _, _, _, _, _, _, _, _, rfl, _⟩ := h; rfl) | (obtain ⟨_, _, _, _, _, _, _, _, _, _, _, _, _, _, _, _, _, _, _, _, _, _, _, _, _, rfl, _⟩ := h; rfl) | (obtain ⟨_, _, _, _, _, _, _, _, _, _, _, _, _, _, _, _, _, _, _, _, _, _, _, _, _, _, rfl, _⟩ := h; rfl) | (obtain ⟨_, _, _, _, _, _, _, _, _, _, _, _, _, _, _, _, _, _, _, _, _, _, _, _, _, _, _, rfl, _⟩ := h; rfl)
  · obtain ⟨x, g, z, v, rfl, q⟩ := h
    have hu := hu_of hr
    have hv := hr.units
    refine ⟨_, (pss_cons (ps_expr (pe_call (G_need_case.mono (by decide)) hr rfl g_need_case F_need_case.kp b_need_case .nil (passes_call (takes_of rfl rfl rfl rfl) (fun _ _ _ _ h => h)) (pa_cons (pv 0) (pa_cons (pv 1) (pa_cons (pv 2) pa_nil)))))
  (pss_cons (ps_if (pt_not (pt_val (pe_call (G_are_needs.mono (by decide)) hr rfl g_are_needs F_are_needs.kp b_are_needs .nil pass0 (pa_cons (pv 3) pa_nil))))
  (pss_one (ps_raise rfl (takes_of rfl rfl rfl rfl) (pmk_gex bx_value W.e_NoNeeds m_NoNeeds_init.1 m_NoNeeds_init.2 G_NoNeeds_init (hr.mono (by decide)) b_NoNeeds_init .nil pass0 rfl W.g_NoNeeds (pa_cons (pv 3) pa_nil))))
  pss_nil)
  (pss_cons (ps_setLc (i := 4) (own := [("at", 5), ("turns", 6), ("steps", 7)]) rfl scp.nd rfl rfl (sw_true rfl rfl rfl (by decide +kernel)) (pi_orI (pi_enumK (K := K) (by rfl) T.n_enumerate (pa_cons (pv 3) pa_nil)) (pi_enumTK (K := K) (by rfl) T.n_enumerate (pa_cons (pv 3) pa_nil))) (blkOk_by (own := [("at", 5), ("turns", 6), ("steps", 7)]) (N := ["length", "guests", "name", "needs", "short", "at", "turns", "steps"]) (sc := defScope s_first_unmet) (by decide +kernel)) (fun _ _ _ _ _ => (pg_tupK (K := K) (n := 2) rfl (pgs_cons (pg_name (i := 5) scp.nd rfl (by first | exact Or.inl rfl | exact Or.inr rfl)) (pgs_cons (pg_tupK (K := K) (n := 2) rfl (pgs_cons (pg_name (i := 6) scp.nd rfl (by first | exact Or.inl rfl | exact Or.inr rfl)) (pgs_cons (pg_name (i := 7) scp.nd rfl (by first | exact Or.inl rfl | exact Or.inr rfl)) pgs_nil))) pgs_nil)))) (fun _ _ _ _ _ => (pts_one (pt_cmpR op_ltI (pe_call (G_at_least.mono (by decide)) hr rfl g_at_least F_at_least.kp b_at_least .nil passL (pa_cons (pv 0) (pa_cons (pv 1) (pa_cons (pv 2) (pa_cons (pv 6) pa_nil))))) (pv 7) (nomark _)))) (fun _ _ _ _ _ => (pv 5)))
  (pss_one (ps_ret (pe_ifExp (pt_cmpR (op_neK (K := K) hv) (pv 4) (pe_lst pa_nil) (nomark _)) (pe_ix (ix_anyK (K := K) hu) (pv 4) pe_int (fun _ _ => rfl)) pe_non)))))), ?_⟩
    walk_at "ys"
    rcases q with h | ⟨L, ga, o, nm, ts, p, c, i, Gd, rfl, hi, q⟩
    · exact ⟨x, g, z, rfl, .inl h⟩
    refine ⟨x, g, _, rfl, .inr ⟨L, ga, o, nm, ts, p, c, i, Gd, rfl, hi, fun H1 e1 => ?_⟩⟩
    walk_at "ys"
    rcases q with ⟨od, r⟩ | ⟨ns, N, q⟩
    · refine ⟨v, rfl, .inr ⟨od.same e1, fun H2 e2 => ?_⟩⟩
      walk_at "ys"
      refine ⟨by simp, fun a na => ?_⟩
      exact ⟨a, _, rfl, upd_same, y_made1 na fun d H' e _ hd => r d H' ((e1.trans e2).trans e) hd⟩
    refine ⟨v, rfl, .inl ⟨ns, N.same e1, fun H2 e2 => ?_⟩⟩
    have e0 := e1.trans e2
    have N2 := N.same e0
    obtain ⟨rfl, rfl, G, O, h4, h60⟩ := id Gd
    obtain ⟨a, ps, rfl, h2, h3, h4'⟩ := N2.at_
    have hps : ∀ (k : Nat) (x : V), k < ns.length → (ps.map V.ref)[k]? = some x → ∃ p, x = .ref p ∧ H2 p = some (.tup [.int (ns.getD k (0, 0)).1, .int (ns.getD k (0, 0)).2]) := fun k x hk hx => by
      rw [List.getElem?_map] at hx
      cases e : ps[k]? with
      | none => rw [e] at hx; cases hx
      | some p =>
        rw [e] at hx
        refine ⟨p, (Option.some.inj hx).symm, h4' k p _ e ?_⟩
        rw [List.getD_eq_getElem?_getD, List.getElem?_eq_getElem hk]
        rfl
    have few := N2.few
    walk_at "ys"
    rcases h2 with h2 | h2
    · refine y_iorL ?_
      walk_at "ys"
      intro D nD
      refine lc_gen (fun k => if shortP nm.length L p c i ns k = true then some (.int (k : Nat)) else none) (walk_enum (xs := ps.map V.ref)) nD (sz_lt (by rw [List.length_map, h3]; omega)) (fun H' e => SqL.of (e _ _ h2)) (fun j x H3 H4 Nx hj e hY k k0 => ?_) (fun H3 e2 hsh => ?_)
      · obtain ⟨T', x1, y1, rfl, nT, rfl, hx, hy⟩ := hY
        obtain rfl := Option.some.inj hx
        rw [List.length_map, h3] at hj
        obtain ⟨pa, rfl, hp⟩ := hps j y1 hj hy
        have e3 : Same H3 (upd H3 T' (.tup [.int (j : Nat), .ref pa])) := same_new0 nT
        have hp3 := e3 _ _ (e _ _ hp)
        walk_at "ys"
        refine ⟨.int L, .ref ga, .str (nmF nm i), .int (ns.getD j (0, 0)).1, rfl, .inr ⟨L, ga, o, nm, ts, p, c, i, ((Gd.same e0).same e).same e3, rfl, hi, .int _, .inr ⟨_, rfl, (N2.lim _ (getD_mem hj)).1, fun H5 e5 => ?_⟩⟩⟩
        walk_at "ys"
        refine y_d2 (fun z => ?_) (fun z => ?_)
        · walk_at "ys"
          refine k _ _ (if_pos ?_) (e3.trans e5)
          unfold shortP surely
          exact decide_eq_true (Int.ofNat_lt.mp z)
        · refine k0 _ (if_neg ?_) (e3.trans e5)
          unfold shortP surely
          exact fun y => z (Int.ofNat_lt.mpr (of_decide_eq_true y))
      · rw [List.length_map, h3, fm_ite] at hsh
        change H3 D = some (.lst ((shortL nm.length L p c i ns).map fun k => V.int (k : Nat))) at hsh
        have hsh2 : H3 D = some (.lst (((shortL nm.length L p c i ns).map fun k => some ((k : Nat) : Int)).map oV)) := by
          rw [hsh, List.map_map]
          rfl
        unfold unmetV at q
        walk_at "ys"
        refine ⟨sz_line (by simp), fun el nel => ?_⟩
        have e4 : Same H3 (upd H3 el (.lst [])) := same_new0 nel
        walk_at "ys"
        refine y_neL (ys := []) (e4 _ _ hsh2) upd_same ?_
        generalize shortL nm.length L p c i ns = sl at *
        cases sl with
        | nil =>
          rw [show decide ((([] : List Nat).map fun k => some ((k : Nat) : Int)) = []) = true from rfl]
          walk_at "ys"
          exact q _ ((e0.trans e2).trans e4)
        | cons k0 r =>
          rw [decide_eq_false (show ¬ (((k0 :: r).map fun k => some ((k : Nat) : Int)) = []) by simp)]
          walk_at "ys"
          refine y_ixL (e4 _ _ hsh) (L2.atI_nat (xs := (k0 :: r).map fun k => V.int (k : Nat)) (j := 0) rfl) ?_
          walk_at "ys"
          exact q _ ((e0.trans e2).trans e4)
    · refine y_iorR ?_
      walk_at "ys"
      intro D nD
      refine lc_gen (fun k => if shortP nm.length L p c i ns k = true then some (.int (k : Nat)) else none) (walk_enumT (xs := ps.map V.ref)) nD (sz_lt (by rw [List.length_map, h3]; omega)) (fun H' e => SqT.of (e _ _ h2)) (fun j x H3 H4 Nx hj e hY k k0 => ?_) (fun H3 e2 hsh => ?_)
      · obtain ⟨T', x1, y1, rfl, nT, rfl, hx, hy⟩ := hY
        obtain rfl := Option.some.inj hx
        rw [List.length_map, h3] at hj
        obtain ⟨pa, rfl, hp⟩ := hps j y1 hj hy
        have e3 : Same H3 (upd H3 T' (.tup [.int (j : Nat), .ref pa])) := same_new0 nT
        have hp3 := e3 _ _ (e _ _ hp)
        walk_at "ys"
        refine ⟨.int L, .ref ga, .str (nmF nm i), .int (ns.getD j (0, 0)).1, rfl, .inr ⟨L, ga, o, nm, ts, p, c, i, ((Gd.same e0).same e).same e3, rfl, hi, .int _, .inr ⟨_, rfl, (N2.lim _ (getD_mem hj)).1, fun H5 e5 => ?_⟩⟩⟩
        walk_at "ys"
        refine y_d2 (fun z => ?_) (fun z => ?_)
        · walk_at "ys"
          refine k _ _ (if_pos ?_) (e3.trans e5)
          unfold shortP surely
          exact decide_eq_true (Int.ofNat_lt.mp z)
        · refine k0 _ (if_neg ?_) (e3.trans e5)
          unfold shortP surely
          exact fun y => z (Int.ofNat_lt.mpr (of_decide_eq_true y))
      · rw [List.length_map, h3, fm_ite] at hsh
        change H3 D = some (.lst ((shortL nm.length L p c i ns).map fun k => V.int (k : Nat))) at hsh
        have hsh2 : H3 D = some (.lst (((shortL nm.length L p c i ns).map fun k => some ((k : Nat) : Int)).map oV)) := by
          rw [hsh, List.map_map]
          rfl
        unfold unmetV at q
        walk_at "ys"
        refine ⟨sz_line (by simp), fun el nel => ?_⟩
        have e4 : Same H3 (upd H3 el (.lst [])) := same_new0 nel
        walk_at "ys"
        refine y_neL (ys := []) (e4 _ _ hsh2) upd_same ?_
        generalize shortL nm.length L p c i ns = sl at *
        cases sl with
        | nil =>
          rw [show decide ((([] : List Nat).map fun k => some ((k : Nat) : Int)) = []) = true from rfl]
          walk_at "ys"
          exact q _ ((e0.trans e2).trans e4)
        | cons k0 r =>
          rw [decide_eq_false (show ¬ (((k0 :: r).map fun k => some ((k : Nat) : Int)) = []) by simp)]
          walk_at "ys"
          refine y_ixL (e4 _ _ hsh) (L2.atI_nat (xs := (k0 :: r).map fun k => V.int (k : Nat)) (j := 0) rfl) ?_
          walk_at "ys"
          exact q _ ((e0.trans e2).trans e4)
end
end K87
namespace K87
open PySem L2 Y

theorem kvOf_new {nm : List Str} : ∀ {ts : List Addr} {z : Str}, z ∉ nm → valV (kvOf nm ts) (Sum.inr z) = none := fun h => valV_none h
theorem merge_kv : ∀ (nm : List Str) (ts : List Addr) (pre : List Str) (tp : List Addr), tp.length = pre.length → ts.length = nm.length → (pre ++ nm).Nodup → mergeK (kvOf pre tp) (kvOf nm ts) = kvOf (pre ++ nm) (tp ++ ts)
  | [], [], pre, tp, _, _, _ => by rw [List.append_nil, List.append_nil]; rfl
  | [], _ :: _, _, _, _, h, _ => by simp at h
  | _ :: _, [], _, _, _, h, _ => by simp at h
  | a :: r, b :: bs, pre, tp, hp, hl, nd => by
    have e1 : kvOf (a :: r) (b :: bs) = ((Sum.inr a : Key), V.ref b) :: kvOf r bs := rfl
    have na : a ∉ pre := fun z => by
      have := (List.nodup_append.mp nd).2.2 a z a (List.mem_cons_self)
      exact this rfl
    have e2 : putK (kvOf pre tp) (Sum.inr a) (V.ref b) = kvOf (pre ++ [a]) (tp ++ [b]) := by
      rw [putK_new _ (valV_none na)]
      unfold kvOf
      rw [List.zip_append hp.symm, List.map_append]
      rfl
    have ih := merge_kv r bs (pre ++ [a]) (tp ++ [b]) (by simp [hp]) (by simpa using hl) (by simpa using nd)
    rw [e1]
    unfold mergeK at *
    rw [List.foldl_cons]
    show List.foldl _ (putK (kvOf pre tp) (Sum.inr a) (V.ref b)) _ = _
    rw [e2, ih]
    simp
theorem merge_kv0 {nm : List Str} {ts : List Addr} (hl : ts.length = nm.length) (nd : nm.Nodup) : mergeK [] (kvOf nm ts) = kvOf nm ts := by
  have := merge_kv nm ts [] [] rfl hl (by simpa using nd)
  simpa [kvOf] using this
theorem two_lists {R : Nat → Addr → Addr → Prop} : ∀ {ys : List V} (k : Nat), (∀ (i : Nat) y, ys[i]? = some y → ∃ T t, y = V.ref T ∧ R (k + i) T t) → ∃ Ts ts : List Addr, ys = Ts.map V.ref ∧ Ts.length = ys.length ∧ ts.length = ys.length ∧ ∀ (i : Nat) T t, Ts[i]? = some T → ts[i]? = some t → R (k + i) T t
  | [], k, _ => ⟨[], [], rfl, rfl, rfl, fun i T t h => by simp at h⟩
  | y :: ys, k, h => by
    obtain ⟨T, t, rfl, r⟩ := h 0 y rfl
    obtain ⟨Ts, ts, h1, h2, h3, h4⟩ := two_lists (R := R) (ys := ys) (k + 1) fun i y hy => by
      obtain ⟨T, t, h1, h2⟩ := h (i + 1) y hy
      exact ⟨T, t, h1, by rw [show k + 1 + i = k + (i + 1) by omega]; exact h2⟩
    refine ⟨T :: Ts, t :: ts, by rw [h1]; rfl, by simp [h2], by simp [h3], fun i T' t' g1 g2 => ?_⟩
    cases i with
    | zero =>
      obtain rfl := Option.some.inj g1
      obtain rfl := Option.some.inj g2
      exact r
    | succ i =>
      have := h4 i T' t' g1 g2
      rwa [show k + 1 + i = k + (i + 1) by omega] at this
section
variable {P : Program} {w : World} {K : PySem.W.Frag} {mg : Str → Option Value} {base : Heap}
def sp_with_promise (K : PySem.W.Frag) : Sp := fun vs H Q _ => ∃ (L : Nat) (g : Addr) (o : Obj) (nm : List Str) (ts : List Addr) (p c : Nat → Nat) (i q : Nat), vs = [.int L, .ref g, .str (nmF nm i), .int q] ∧ Gs H g o nm ts p c ∧ Deal.Ok nm.length L p c ∧ i < nm.length ∧ 4 ≤ L ∧ L ≤ 60 ∧ q ≤ L ∧
  ((∃ _ : Deal.sumTo (set1 p i q) nm.length ≤ L, ∀ (H' : Hp) (g' : Addr) (o' : Obj) (ts' : List Addr), Same H H' → H g' = none → Gs H' g' o' nm ts' (set1 p i q) (set1 c i (max (c i) q)) → Q (.ref g') H') ∨ (∃ _ : L < Deal.sumTo (set1 p i q) nm.length, ∀ H', Same H H' → Q .non H'))
theorem ok_with_promise {f : Addr} {fd : FuncData} (T : Txt K mg) (F : Fun K "with_promise" "with_promise" s_with_promise f fd) : FnOk P w K mg base CX0 3 f fd ["length", "guests", "name", "promise"] (sp_with_promise K) := by
  obtain ⟨f_are_shares, fd_are_shares, g_are_shares, F_are_shares⟩ := T.d_are_shares
  have G_are_shares := ok_are_shares (P := P) (w := w) (base := base) T F_are_shares
  have b_are_shares := F_are_shares.binds (ps := ["thing", "length"]) fun _ _ _ _ _ _ us hl => match us, hl with | [_, _], _ => rfl
  have scp := sc_with_promise
  refine F.ok sc_with_promise (fun vs H Q E h => ?_) (fun cdv A outer s H vs Q E hr h => ?_)
  · first | (obtain ⟨rfl, _⟩ := h; rfl) | (obtain ⟨_, rfl, _⟩ := h; rfl) | (obtain ⟨_, _, rfl, _⟩ := h; rfl) | (obtain ⟨_, _, _, rfl, _⟩ := h; rfl) | (obtain ⟨_, _, _, _, rfl, _⟩ := h; rfl) | (obtain ⟨_, _, _, _, _, rfl, _⟩ := h; rfl) | (obtain ⟨_, _, _, _, _, _, rfl, _⟩ := h; rfl) | (obtain ⟨_, _, _, _, _, _, _, rfl, _⟩ := h; rfl) | (obtain ⟨_, _, _, _, _, _, _, _, rfl, _⟩ := h; rfl) | (obtain ⟨_, _, _, _, _, _, _, _, _, rfl, _⟩ := h; rfl) | (obtain ⟨_, _, _, _, _, _, _, _, _, _, rfl, _⟩ := h; rfl) | (obtain ⟨_, _, _, _, _, _, _, _, _, _, _, rfl, _⟩ := h; rfl) | (obtain ⟨_, _, _, _, _, _, _, _, _, _, _, _, rfl, _⟩ := h; rfl) | (obtain ⟨_, _, _, _, _, _, _, _, _, _, _, _, _, rfl, _⟩ := h; rfl) | (obtain ⟨_, _, _, _, _, _, _, _, _, _, _, _, _, _, rfl, _⟩ := h; rfl) | (obtain ⟨_, _, _, _, _, _, _, _, _, _, _, _, _, _, _, rfl, _⟩ := h; rfl) | (obtain ⟨_, _, _, _, _, _, _, _, _, _, _, _, _, _, _, _, rfl, _⟩ := h; rfl) | (obtain ⟨_, _, _, _, _, _, _, _, _, _, _, _, _, _, _, _, _, rfl, _⟩ := h; rfl) | (obtain ⟨_, _, _, _, _, _, _, _, _, _, _, _, _, _, _, _, _, _, rfl, _⟩ := h; rfl) | (obtain ⟨_, _, _, _, _, _, _, _, _, _, _, _, _, _, _, _, _, _, _, rfl, _⟩ := h; rfl) | (obtain ⟨_, _, _, _, _, _, _, _, _, _, _, _, _, _, _, _, _, _, _, _, rfl, _⟩ := h; rfl) | (obtain ⟨_, _, _, _, _, _, _, _, _, _, _, _, _, _, _, _, _, _, _, _, _, rfl, _⟩ := h; rfl) | (obtain ⟨_, _, _, _, _, _, _, _, _, _, _, _, _, _, _, _, _, _, _, _, _, _, rfl, _⟩ := h; rfl) | (obtain ⟨_, _, _, _, _, _, _, _, _, _, _, _, _, _, _, _, _, _, _, _, _, _, _, rfl, _⟩ := h; rfl) | (obtain ⟨_, _, _, _, _, _, _, _, _, _, _, _, _, _, _, _, _, _, _, _, _, _, _, _, rfl, _⟩ := h; rfl) | (obtain ⟨_, _, _, _, _, _, _, _, _, _, _, _, _, _, _, _, _, _, _, _, _, _, _, _, _, rfl, _⟩ := h; rfl) | (obtain ⟨_, _, _, _, _, _, _, _, _, _, _, _, _, _, _, _, _, _, _, _, _, _, _, _, _, _, rfl, _⟩ := h; rfl) | (obtain ⟨_, _, _, _, _, _, _, _, _, _, _, _, _, _, _, _, _, _, _, _, _, _, _, _, _, _, _, rfl, _⟩ := h; rfl)
  · obtain ⟨L, g, o, nm, ts, p, c, i, pr, rfl, G, O, hi, h4, h60, hpr, q⟩ := h
    have hu := hu_of hr
    have hv := hr.units
    have hd := G.d
    have hz := nmF_at hi
    have hti := List.getElem?_eq_getElem (show i < ts.length by rw [G.len]; exact hi)
    have hgi := G.t i _ hti
    have hvi := valV_kvOf G.nd hz hti
    have b1 := O.one i hi
    have b2 := O.cL i hi
    have b3 := O.pc i hi
    refine ⟨_, (pss_cons (ps_set (i := 4) scp.nd rfl (by first | exact Or.inl rfl | exact Or.inr rfl) (pe_callB (call_max2Y rfl) (by rfl) T.n_max (by decide +kernel) (pa_cons (pe_ix (ix_anyK (K := K) hu) (pe_ix (ix_anyK (K := K) hu) (pv 1) (pv 2) (fun _ _ => rfl)) pe_int (fun _ _ => rfl)) (pa_cons (pv 3) pa_nil))))
  (pss_cons (ps_set (i := 5) scp.nd rfl (by first | exact Or.inl rfl | exact Or.inr rfl) (pe_callTy (call_dictKK (K := K) rfl) (by rfl) T.n_dict (by decide +kernel) (pa_cons (pe_lc (own := [("other", 6), ("share", 7)]) (tt := tYes) rfl scp.nd (pi_items (pv 1)) (blkOk_by (own := [("other", 6), ("share", 7)]) (N := ["length", "guests", "name", "promise", "ceiling", "changed", "other", "share"]) (sc := defScope s_with_promise) (by decide +kernel)) (fun _ _ _ _ _ => (pg_tupK (K := K) (n := 2) rfl (pgs_cons (pg_name (i := 6) scp.nd rfl (by first | exact Or.inl rfl | exact Or.inr rfl)) (pgs_cons (pg_name (i := 7) scp.nd rfl (by first | exact Or.inl rfl | exact Or.inr rfl)) pgs_nil)))) (fun _ _ _ _ _ => pts_nil) (fun _ _ _ _ _ => (pe_tup (pa_cons (pv 6) (pa_cons (pe_ifExp (pt_cmpR (op_eqK (K := K) hv) (pv 6) (pv 2) (nomark _)) (pe_tup (pa_cons (pv 3) (pa_cons (pv 4) pa_nil))) (pv 7)) pa_nil))))) pa_nil)))
  (pss_frz (pss_one (ps_ret (pe_ifExp (pt_val (pe_call (G_are_shares.mono (by decide)) hr rfl g_are_shares F_are_shares.kp b_are_shares .nil pass0 (pa_cons (pv 5) (pa_cons (pv 0) pa_nil)))) (pv 5) pe_non)))))), ?_⟩
    walk_at "ys"
    refine y_ixF hd hvi ?_
    walk_at "ys"
    have e2 : (if (pr : Int) > (c i : Int) then (pr : Int) else (c i : Int)) = ((max (c i) pr : Nat) : Int) := by split <;> omega
    rw [e2]
    generalize hcc : max (c i) pr = cc at *
    walk_at "ys"
    intro D nD
    refine lc_rel (fun j v H => ∃ T t, v = .ref T ∧ H T = some (.tup [.str (nmF nm j), .ref t]) ∧ H t = some (.tup [.int (set1 p i pr j : Nat), .int (set1 c i cc j : Nat)])) (fun j v H H' e ⟨T, t, h1, h2, h3⟩ => ⟨T, t, h1, e _ _ (fun _ z => nomatch z) h2, e _ _ (fun _ z => nomatch z) h3⟩) (walk_items (kvs := kvOf nm ts)) nD (sz_lt (by rw [kvOf_len G.len]; have := G.few; omega)) (fun H' e => e _ _ hd) (fun j x H1 H2 Nx hj e hY k => ?_) (fun H1 ys e1 hl hR hD => ?_)
    · obtain ⟨T', a, b, rfl, nT, rfl, h1, h2⟩ := hY
      obtain ⟨z, t, hz', ht, rfl, rfl⟩ := kvOf_pair h1 h2
      obtain rfl : nmF nm j = z := nmF_of hz'
      have hjn : j < nm.length := (List.getElem?_eq_some_iff.mp hz').1
      have f2 : Same H1 (upd H1 T' (.tup [.str (nmF nm j), .ref t])) := same_new0 nT
      have htj := f2 _ _ (e _ _ (G.t j t ht))
      walk_at "ys"
      by_cases hji : j = i
      · subst hji
        walk_at "ys"
        refine ⟨sz_line (by simp), fun t2 nt2 => ?_⟩
        have f3 : Same (upd H1 T' (.tup [.str (nmF nm j), .ref t])) (upd (upd H1 T' (.tup [.str (nmF nm j), .ref t])) t2 (.tup [.int pr, .int cc])) := same_new0 nt2
        have ht2 : upd (upd H1 T' (.tup [.str (nmF nm j), .ref t])) t2 (.tup [.int pr, .int cc]) t2 = some (.tup [.int pr, .int cc]) := upd_same
        walk_at "ys"
        refine ⟨sz_line (by simp), fun t3 nt3 => ?_⟩
        refine k _ _ ((f2.trans f3).trans (same_new0 nt3)) ⟨t3, t2, rfl, upd_same, ?_⟩
        rw [up_new nt3 ht2]
        unfold set1
        rw [if_pos rfl, if_pos rfl]
      · refine y_dF (fun e => hji ((nm_inj G.nd hjn hi).mp (V.str.inj e))) ?_
        walk_at "ys"
        refine ⟨sz_line (by simp), fun t3 nt3 => ?_⟩
        refine k _ _ (f2.trans (same_new0 nt3)) ⟨t3, t, rfl, upd_same, ?_⟩
        rw [up_new nt3 htj]
        unfold set1
        rw [if_neg hji, if_neg hji]
    · rw [kvOf_len G.len] at hl
      obtain ⟨Ts, ts', rfl, hl1, hl2, hT⟩ := two_lists (R := fun j T t => H1 T = some (.tup [.str (nmF nm j), .ref t]) ∧ H1 t = some (.tup [.int (set1 p i pr j : Nat), .int (set1 c i cc j : Nat)])) (ys := ys) 0 (fun j y hy => by
        obtain ⟨T, t, h1, h2, h3⟩ := hR j y hy
        rw [Nat.zero_add]
        exact ⟨T, t, h1, h2, h3⟩)
      have hl3 : ts'.length = nm.length := hl2.trans hl
      walk_at "ys"
      refine y_dictP (kvs := kvOf nm ts') hD (paired_idx (by rw [kvOf_len hl3, hl1, hl]) fun j T kv h1 h2 => ?_) (fun gd ngd => ?_)
      · obtain ⟨z, t, hz1, ht1, hk, hv⟩ := kvOf_at (k := kv.1) (v := kv.2) h2
        have := (hT j T t h1 ht1).1
        rw [Nat.zero_add] at this
        rw [hk, hv]
        rw [nmF_of hz1] at this
        exact SqT.of this
      · rw [merge_kv0 hl3 G.nd]
        have hgd : upd H1 gd (.dK (kvOf nm ts')) gd = some (.dK (kvOf nm ts')) := upd_same
        walk_at "ys"
        refine y_frz hgd True.intro (fun od => ?_)
        have e3 : Same H1 (upd (upd H1 gd (.dK (kvOf nm ts'))) gd (.frz od (.dK (kvOf nm ts')))) := same_mut (same_new0 ngd) ngd
        have G3 : Gs (upd (upd H1 gd (.dK (kvOf nm ts'))) gd (.frz od (.dK (kvOf nm ts')))) gd od nm ts' (set1 p i pr) (set1 c i cc) := ⟨upd_same, hl3, fun j t ht => e3 _ _ (by
          have hj : j < Ts.length := by
            have := (List.getElem?_eq_some_iff.mp ht).1
            omega
          have := (hT j _ t (List.getElem?_eq_getElem hj) ht).2
          rw [Nat.zero_add] at this
          exact this), G.nd, G.ok, G.few⟩
        generalize upd (upd H1 gd (.dK (kvOf nm ts'))) gd (.frz od (.dK (kvOf nm ts'))) = H2 at *
        have nH : H gd = none := free_of e1 ngd
        walk_at "ys"
        refine .inl ⟨gd, L, od, nm, ts', set1 p i pr, set1 c i cc, rfl, G3, fun j hj => ?_, fun H3 e4 => ?_⟩
        · have c1 := O.one j hj
          have c2 := O.cL j hj
          have c3 := O.pc j hj
          unfold set1
          split <;> omega
        · rcases q with ⟨hs, q⟩ | ⟨hs, q⟩
          · rw [decide_eq_true hs]
            walk_at "ys"
            exact q H3 gd od ts' ((e1.trans e3).trans e4) nH (G3.same e4)
          · rw [decide_eq_false (by omega)]
            walk_at "ys"
            exact q H3 ((e1.trans e3).trans e4)
/-- the least promise that meets the needs -/
def okq (n L : Nat) (p c : Nat → Nat) (i : Nat) (ns : List (Nat × Nat)) (q : Nat) : Bool := decide (Deal.sumTo (set1 p i q) n ≤ L) && (shortL n L (set1 p i q) (set1 c i (max (c i) q)) i ns).isEmpty
def leastV (n L : Nat) (p c : Nat → Nat) (i : Nat) (ns : List (Nat × Nat)) : V := (((List.range (L + 1)).find? (okq n L p c i ns))).elim .non fun k => .int (k : Nat)
theorem unmet_non {n L : Nat} {p c : Nat → Nat} {i : Nat} {ns : List (Nat × Nat)} : unmetV n L p c i ns = .non ↔ (shortL n L p c i ns).isEmpty = true := by
  unfold unmetV
  cases shortL n L p c i ns with
  | nil => exact ⟨fun _ => rfl, fun _ => rfl⟩
  | cons a r => exact ⟨fun z => (nomatch z), fun z => (nomatch z)⟩
theorem find_some {q : Nat → Bool} {n k : Nat} (hk : k < n) (h : q k = true) (hn : ∀ j, j < k → q j = false) : (List.range n).find? q = some k := by
  rw [List.find?_range_eq_some]
  exact ⟨h, List.mem_range.mpr hk, fun j hj => by simp [hn j hj]⟩
theorem find_none {q : Nat → Bool} {n : Nat} (hn : ∀ j, j < n → q j = false) : (List.range n).find? q = none := by
  rw [List.find?_eq_none]
  intro x hx
  simp [hn x (List.mem_range.mp hx)]
def sp_least_promise (CN CS CG CE : Addr) : Sp := fun vs H Q E => ∃ x g z v : V, vs = [x, g, z, v] ∧ (CaseRef H E CN CS CG x g z ∨ ∃ (L : Nat) (ga : Addr) (o : Obj) (nm : List Str) (ts : List Addr) (p c : Nat → Nat) (i : Nat), Good H x g L ga o nm ts p c ∧ z = .str (nmF nm i) ∧ i < nm.length ∧ ((OddNd H v ∧ Refu H E CE v) ∨ ∃ ns, Nds H v ns ∧ ∀ H', Same H H' → Q (leastV nm.length L p c i ns) H'))
theorem ok_least_promise {f : Addr} {fd : FuncData} (T : Txt K mg) {CGuestError CMissing CNoNumber CNoShare CNoGuest CNoNeeds : Addr} (W : Own K mg CGuestError CMissing CNoNumber CNoShare CNoGuest CNoNeeds) (F : Fun K "least_promise" "least_promise" s_least_promise f fd) : FnOk P w K mg base (L2.CX P w) 7 f fd ["length", "guests", "name", "needs"] (sp_least_promise CNoNumber CNoShare CNoGuest CNoNeeds) := by
  obtain ⟨f_need_case, fd_need_case, g_need_case, F_need_case⟩ := T.d_need_case
  have G_need_case := ok_need_case (P := P) (w := w) (base := base) T W F_need_case
  have b_need_case := F_need_case.binds (ps := ["length", "guests", "name"]) fun _ _ _ _ _ _ us hl => match us, hl with | [_, _, _], _ => rfl
  obtain ⟨f_are_needs, fd_are_needs, g_are_needs, F_are_needs⟩ := T.d_are_needs
  have G_are_needs := ok_are_needs (P := P) (w := w) (base := base) T F_are_needs
  have b_are_needs := F_are_needs.binds (ps := ["thing"]) fun _ _ _ _ _ _ us hl => match us, hl with | [_], _ => rfl
  obtain ⟨f_NoNeeds_init, fd_NoNeeds_init, F_NoNeeds_init, m_NoNeeds_init⟩ := W.m_NoNeeds_init
  have G_NoNeeds_init := ok_NoNeeds_init (P := P) (w := w) (base := base) T W F_NoNeeds_init
  have b_NoNeeds_init := F_NoNeeds_init.binds (ps := ["self", "found"]) fun _ _ _ _ _ _ us hl => match us, hl with | [_, _], _ => rfl
  obtain ⟨f_with_promise, fd_with_promise, g_with_promise, F_with_promise⟩ := T.d_with_promise
  have G_with_promise := ok_with_promise (P := P) (w := w) (base := base) T F_with_promise
  have b_with_promise := F_with_promise.binds (ps := ["length", "guests", "name", "promise"]) fun _ _ _ _ _ _ us hl => match us, hl with | [_, _, _, _], _ => rfl
  obtain ⟨f_first_unmet, fd_first_unmet, g_first_unmet, F_first_unmet⟩ := T.d_first_unmet
  have G_first_unmet := ok_first_unmet (P := P) (w := w) (base := base) T W F_first_unmet
  have b_first_unmet := F_first_unmet.binds (ps := ["length", "guests", "name", "needs"]) fun _ _ _ _ _ _ us hl => match us, hl with | [_, _, _, _], _ => rfl
  have scp := sc_least_promise
  refine F.okX sc_least_promise (fun vs H Q E h => ?_) (fun cdv A outer s H vs Q E hr h => ?_)
  · first | (obtain ⟨rfl, _⟩ := h; rfl) | (obtain ⟨_, rfl, _⟩ := h; rfl) | (obtain ⟨_, _, rfl, _⟩ := h; rfl) | (obtain ⟨_, _, _, rfl, _⟩ := h; rfl) | (obtain ⟨_, _, _, _, rfl, _⟩ := h; rfl) | (obtain ⟨_, _, _, _, _, rfl, _⟩ := h; rfl) | (obtain ⟨_, _, _, _, _, _, rfl, _⟩ := h; rfl) | (obtain ⟨_, _, _, _, _, _, _, rfl, _⟩ := h; rfl) | (obtain ⟨_, _, _, _, _, _, _, _, rfl, _⟩ := h; rfl) | (obtain ⟨_, _, _, _, _, _, _, _, _, rfl, _⟩ := h; rfl) | (obtain ⟨_, _, _, _, _, _, _, _, _, _, rfl, _⟩ := h; rfl) | (obtain ⟨_, _, _, _, _, _, _, _, _, _, _, rfl, _⟩ := h; rfl) | (obtain ⟨_, _, _, _, _, _, _, _, _, _, _, _, rfl, _⟩ := h; rfl) | (obtain ⟨_, _, _, _, _, _, _, _, _, _, _, _, _, rfl, _⟩ := h; rfl) | (obtain ⟨_, _, _, _, _, _, _, _, _, _, _, _, _, _, rfl, _⟩ := h; rfl) | (obtain ⟨_, _, _, _, _, _, _, _, _, _, _, _, _, _, _, rfl, _⟩ := h; rfl) | (obtain ⟨_, _, _, _, _, _, _, _, _, _, _, _, _, _, _, _, rfl, _⟩ := h; rfl) | (obtain ⟨_, _, _, _, _, _, _, _, _, _, _, _, _, _, _, _, _, rfl, _⟩ := h; rfl) | (obtain ⟨_, _, _, _, _, _, _, _, _, _, _, _, _, _, _, _, _, _, rfl, _⟩ := h; rfl) | (obtain ⟨_, _, _, _, _, _, _, _, _, _, _, _, _, _, _, _, _, _, _, rfl, _⟩ := h; rfl) | (obtain ⟨_, _, _, _, _, _, _, _, _, _, _, _, _, _, _, _, _, _, _, _, rfl, _⟩ := h; rfl) | (obtain ⟨_, _, _, _, _, _, _, _, _, _, _, _, _, _, _, _, _, _, _, _, _, rfl, _⟩ := h; rfl) | (obtain ⟨_, _, _, _, _, _, _, _, _, _, _, _, _, _, _, _, _, _, _, _, _, _, rfl, _⟩ := h; rfl) | (obtain ⟨_, _, _, _, _, _, _, _, _, _, _, _, _, _, _, _, _, _, _, _, _, _, _, rfl, _⟩ := h; rfl) | (obtain ⟨_, _, _, _, _, _, _, _, _, _, _, _, _, _, _, _, _, _, _, _, _, _, _, _, rfl, _⟩ := h; rfl) | (obtain ⟨_, _, _, _, _, _, _, _, _, _, _, _, _, _, _, _, _, _, _, _, _, _, _, _, _, rfl, _⟩ := h; rfl) | (obtain ⟨_, _, _, _, _, _, _, _, _, _, _, _, _, _, _, _, _, _, _, _, _, _, _, _, _, _, rfl, _⟩ := h; rfl) | (obtain ⟨_, _, _, _, _, _, _, _, _, _, _, _, _, _, _, _, _, _, _, _, _, _, _, _, _, _, _, rfl, _⟩ := h; rfl)
  · obtain ⟨x, g, z, v, rfl, q⟩ := h
    have hu := hu_of hr
    have hv := hr.units
    refine ⟨_, (pss_cons (ps_expr (pe_call (G_need_case.mono (by decide)) hr rfl g_need_case F_need_case.kp b_need_case .nil (passes_call (takes_of rfl rfl rfl rfl) (fun _ _ _ _ h => h)) (pa_cons (pv 0) (pa_cons (pv 1) (pa_cons (pv 2) pa_nil)))))
  (pss_cons (ps_if (pt_not (pt_val (pe_call (G_are_needs.mono (by decide)) hr rfl g_are_needs F_are_needs.kp b_are_needs .nil pass0 (pa_cons (pv 3) pa_nil))))
  (pss_one (ps_raise rfl (takes_of rfl rfl rfl rfl) (pmk_gex bx_value W.e_NoNeeds m_NoNeeds_init.1 m_NoNeeds_init.2 G_NoNeeds_init (hr.mono (by decide)) b_NoNeeds_init .nil pass0 rfl W.g_NoNeeds (pa_cons (pv 3) pa_nil))))
  pss_nil)
  (pss_cons (ps_for (passes_of rfl) rfl (pi_range1 rfl T.n_range (pa_cons (pe_op op_plus (pv 0) pe_int) pa_nil)) (pg_name (i := 4) scp.nd rfl (by first | exact Or.inl rfl | exact Or.inr rfl))
  (pss_cons (ps_set (i := 5) scp.nd rfl (by first | exact Or.inl rfl | exact Or.inr rfl) (pe_call (G_with_promise.mono (by decide)) hr rfl g_with_promise F_with_promise.kp b_with_promise .nil pass0 (pa_cons (pv 0) (pa_cons (pv 1) (pa_cons (pv 2) (pa_cons (pv 4) pa_nil))))))
  (pss_one (ps_if (PW.pt (pw_and (pt_cmpR op_notNo (pv 5) pe_non (nomark _)) (pw_and1 (pt_cmpR op_isNo (pe_call (G_first_unmet.mono (by decide)) hr rfl g_first_unmet F_first_unmet.kp b_first_unmet .nil (passes_call (takes_of rfl rfl rfl rfl) (fun _ _ _ _ h => h)) (pa_cons (pv 0) (pa_cons (pv 5) (pa_cons (pv 2) (pa_cons (pv 3) pa_nil))))) pe_non (nomark _)))))
  (pss_one (ps_ret (pv 4)))
  pss_nil))))
  (pss_one (ps_ret pe_non))))), ?_⟩
    walk_at "ys"
    rcases q with h | ⟨L, ga, o, nm, ts, p, c, i, Gd, rfl, hi, q⟩
    · exact ⟨x, g, z, rfl, .inl h⟩
    refine ⟨x, g, _, rfl, .inr ⟨L, ga, o, nm, ts, p, c, i, Gd, rfl, hi, fun H1 e1 => ?_⟩⟩
    walk_at "ys"
    rcases q with ⟨od, r⟩ | ⟨ns, N, q⟩
    · refine ⟨v, rfl, .inr ⟨od.same e1, fun H2 e2 => ?_⟩⟩
      walk_at "ys"
      refine ⟨by simp, fun a na => ?_⟩
      exact ⟨a, _, rfl, upd_same, y_made1 na fun d H' e _ hd => r d H' ((e1.trans e2).trans e) hd⟩
    refine ⟨v, rfl, .inl ⟨ns, N.same e1, fun H2 e2 => ?_⟩⟩
    have e0 := e1.trans e2
    obtain ⟨rfl, rfl, G, O, h4, h60⟩ := id Gd
    walk_at "ys"
    refine y_gotr1 (by omega) (by omega) ?_
    refine for_it walk_range (fun k σ H' => ∃ u5 u6 : Option V, σ = [some (.int L), some (.ref ga), some (.str (nmF nm i)), some v, u5, u6] ∧ Same H H' ∧ ∀ j, j < k → okq nm.length L p c i ns j = false)
      ⟨none, none, rfl, e0, fun j hj => by omega⟩ (fun _ _ _ _ _ => trivial) (fun k x σ H3 H4 hk hP hY => ?_) (fun σ H3 hP => ?_)
    · obtain ⟨u5, u6, rfl, e3, hno⟩ := hP
      obtain ⟨rfl, rfl⟩ := hY
      have e9 : (fun i : Nat => V.int ((0 : Int) + (i : Nat))) k = V.int (k : Nat) := congrArg V.int (Int.zero_add _)
      rw [e9]
      have hkL : k ≤ L := by omega
      walk_at "ys"
      refine ⟨L, ga, o, nm, ts, p, c, i, k, rfl, G.same e3, O, hi, h4, h60, hkL, ?_⟩
      have b1 := O.one i hi
      have b2 := O.cL i hi
      have b3 := O.pc i hi
      by_cases hs : Deal.sumTo (set1 p i k) nm.length ≤ L
      · refine .inl ⟨hs, fun H5 g' o' ts' e5 _ G5 => ?_⟩
        have O5 : Deal.Ok nm.length L (set1 p i k) (set1 c i (max (c i) k)) := ok_set1 O (by omega) (by omega) (by omega) hs
        walk_at "ys"
        refine y_ndF (fun z => nomatch z) ?_
        walk_at "ys"
        refine ⟨.int L, .ref g', .str (nmF nm i), v, rfl, .inr ⟨L, g', o', nm, ts', _, _, i, ⟨rfl, rfl, G5, O5, h4, h60⟩, rfl, hi, .inr ⟨ns, N.same (e3.trans e5), fun H6 e6 => ?_⟩⟩⟩
        cases hun : (shortL nm.length L (set1 p i k) (set1 c i (max (c i) k)) i ns).isEmpty with
        | true =>
          rw [unmet_non.mpr hun]
          walk_at "ys"
          have hf : (List.range (L + 1)).find? (okq nm.length L p c i ns) = some k := find_some (by omega) (by unfold okq; rw [decide_eq_true hs, hun]; rfl) hno
          unfold leastV at q
          rw [hf] at q
          exact q _ ((e3.trans e5).trans e6)
        | false =>
          walk_at "ys"
          refine y_dF (fun z => by rw [unmet_non.mp z] at hun; cases hun) ?_
          walk_at "ys"
          refine ⟨_, _, rfl, (e3.trans e5).trans e6, fun j hj => ?_⟩
          by_cases hjk : j < k
          · exact hno j hjk
          · obtain rfl : j = k := by omega
            unfold okq
            rw [hun, Bool.and_false]
      · refine .inr ⟨by omega, fun H5 e5 => ?_⟩
        walk_at "ys"
        refine ⟨_, _, rfl, e3.trans e5, fun j hj => ?_⟩
        by_cases hjk : j < k
        · exact hno j hjk
        · obtain rfl : j = k := by omega
          unfold okq
          rw [decide_eq_false hs, Bool.false_and]
    · obtain ⟨u5, u6, rfl, e3, hno⟩ := hP
      walk_at "ys"
      have hf : (List.range (L + 1)).find? (okq nm.length L p c i ns) = none := find_none fun j hj => hno j (by omega)
      unfold leastV at q
      rw [hf] at q
      exact q _ e3
end
end K87
namespace K87
open PySem L2 Y

/-- all but b as it was -/
def SameBut (b : Addr) (H H' : Hp) : Prop := ∀ a u, a ≠ b → H a = some u → H' a = some u
theorem SameBut.of {b : Addr} {H H' : Hp} (e : Same H H') : SameBut b H H' := fun a u _ h => e a u h
theorem SameBut.refl (b : Addr) (H : Hp) : SameBut b H H := fun _ _ _ h => h
theorem SameBut.trans {b : Addr} {H H' H2 : Hp} (e : SameBut b H H') (e2 : SameBut b H' H2) : SameBut b H H2 := fun a u n h => e2 a u n (e a u n h)
theorem SameBut.put (b : Addr) (H : Hp) (o : HO) : SameBut b H (upd H b o) := fun a u n h => by rw [upd_ne n]; exact h
structure Box (H : Hp) (b : Addr) (B : Nat) : Prop where
  at_ : ∃ g d c : Nat, H b = some (.lst [.int g, .int d, .int c]) ∧ d < 2147483629 ∧ c ≤ B
theorem Box.same {H H' : Hp} {b : Addr} {B : Nat} (X : Box H b B) (e : Same H H') : Box H' b B := by
  obtain ⟨g, d, c, h, h1, h2⟩ := X.at_
  exact ⟨g, d, c, e _ _ h, h1, h2⟩
theorem cut_one (ns : List Int) : cutV (ns.map V.int) none (some 1) = (ns.take 1).map V.int := by
  unfold cutV HT.sIx
  cases ns <;> simp
section
variable {P : Program} {w : World} {K : PySem.W.Frag} {mg : Str → Option Value} {base : Heap}
def sp__law_cell (K : PySem.W.Frag) : Sp := fun vs H Q _ => ∃ (s : Addr) (ns : List Int) (k : Nat), vs = [.ref s, .int k] ∧ SqL K H s (ns.map V.int) ∧ k ≤ 1000 ∧ ∀ z H', Same H H' → Q (.int z) H'
theorem ok__law_cell {f : Addr} {fd : FuncData} (T : Txt K mg) (F : Fun K "_law_cell" "_law_cell" s__law_cell f fd) : FnOk P w K mg base CX0 1 f fd ["script", "k"] (sp__law_cell K) := by
  have scp := sc__law_cell
  refine F.ok sc__law_cell (fun vs H Q E h => ?_) (fun cdv A outer s H vs Q E hr h => ?_)
  · first | (obtain ⟨rfl, _⟩ := h; rfl) | (obtain ⟨_, rfl, _⟩ := h; rfl) | (obtain ⟨_, _, rfl, _⟩ := h; rfl) | (obtain ⟨_, _, _, rfl, _⟩ := h; rfl) | (obtain ⟨_, _, _, _, rfl, _⟩ := h; rfl) | (obtain ⟨_, _, _, _, _, rfl, _⟩ := h; rfl) | (obtain ⟨_, _, _, _, _, _, rfl, _⟩ := h; rfl) | (obtain ⟨_, _, _, _, _, _, _, rfl, _⟩ := h; rfl) | (obtain ⟨_, _, _, _, _, _, _, _, rfl, _⟩ := h; rfl) | (obtain ⟨_, _, _, _, _, _, _, _, _, rfl, _⟩ := h; rfl) | (obtain ⟨_, _, _, _, _, _, _, _, _, _, rfl, _⟩ := h; rfl) | (obtain ⟨_, _, _, _, _, _, _, _, _, _, _, rfl, _⟩ := h; rfl) | (obtain ⟨_, _, _, _, _, _, _, _, _, _, _, _, rfl, _⟩ := h; rfl) | (obtain ⟨_, _, _, _, _, _, _, _, _, _, _, _, _, rfl, _⟩ := h; rfl) | (obtain ⟨_, _, _, _, _, _, _, _, _, _, _, _, _, _, rfl, _⟩ := h; rfl) | (obtain ⟨_, _, _, _, _, _, _, _, _, _, _, _, _, _, _, rfl, _⟩ := h; rfl) | (obtain ⟨_, _, _, _, _, _, _, _, _, _, _, _, _, _, _, _, rfl, _⟩ := h; rfl) | (obtain ⟨_, _, _, _, _, _, _, _, _, _, _, _, _, _, _, _, _, rfl, _⟩ := h; rfl) | (obtain ⟨_, _, _, _, _, _, _, _, _, _, _, _, _, _, _, _, _, _, rfl, _⟩ := h; rfl) | (obtain ⟨_, _, _, _, _, _, _, _, _, _, _, _, _, _, _, _, _, _, _, rfl, _⟩ := h; rfl) | (obtain ⟨_, _, _, _, _, _, _, _, _, _, _, _, _, _, _, _, _, _, _, _, rfl, _⟩ := h; rfl) | (obtain ⟨_, _, _, _, _, _, _, _, _, _, _, _, _, _, _, _, _, _, _, _, _, rfl, _⟩ := h; rfl) | (obtain ⟨_, _, _, _, _, _, _, _, _, _, _, _, _, _, _, _, _, _, _, _, _, _, rfl, _⟩ := h; rfl) | (obtain ⟨_, _, _, _, _, _, _, _, _, _, _, _, _, _, _, _, _, _, _, _, _, _, _, rfl, _⟩ := h; rfl) | (obtain ⟨_, _, _, _, _, _, _, _, _, _, _, _, _, _, _, _, _, _, _, _, _, _, _, _, rfl, _⟩ := h; rfl) | (obtain ⟨_, _, _, _, _, _, _, _, _, _, _, _, _, _, _, _, _, _, _, _, _, _, _, _, _, rfl, _⟩ := h; rfl) | (obtain ⟨_, _, _, _, _, _, _, _, _, _, _, _, _, _, _, _, _, _, _, _, _, _, _, _, _, _, rfl, _⟩ := h; rfl) | (obtain ⟨_, _, _, _, _, _, _, _, _, _, _, _, _, _, _, _, _, _, _, _, _, _, _, _, _, _, _, rfl, _⟩ := h; rfl)
  · obtain ⟨s, ns, k, rfl, hs, hk, q⟩ := h
    have hu := hu_of hr
    have hv := hr.units
    refine ⟨_, (pss_one (ps_ret (pe_ifExp (pt_cmpR op_ltI (pv 1) (pe_callB (call_lenK (K := K)) (by rfl) T.n_len (by decide +kernel) (pa_cons (pv 0) pa_nil)) (nomark _)) (pe_ix (ix_anyK (K := K) hu) (pv 0) (pv 1) (fun _ _ => rfl)) (pe_op op_plus (pe_op op_plus (pe_op op_times pe_int (pv 1)) pe_int) (pe_op op_modY (pe_callTy call_intY (by rfl) T.n_int (by decide +kernel) (pa_cons (pe_callB (call_sumK (K := K) rfl) (by rfl) T.n_sum (by decide +kernel) (pa_cons (pe_slice (sl_listK (K := K)) (pv 0) po_none (po_some pe_int)) pa_nil)) pa_nil)) pe_int))))), ?_⟩
    walk_at "ys"
    refine y_lenLs hs ?_
    walk_at "ys"
    refine y_d2 (fun h1 => ?_) (fun h1 => ?_)
    · rw [List.length_map] at h1
      have h1 : k < ns.length := by omega
      walk_at "ys"
      refine y_ixLs hs (v := .int ns[k]) ?_ ?_
      · rw [atI_nat (by rw [List.length_map]; exact h1), List.getElem?_map, List.getElem?_eq_getElem h1]
        rfl
      · exact q _ _ (Same.refl _)
    · walk_at "ys"
      refine y_mulI (cmul_small (by decide) (by omega)) ?_
      walk_at "ys"
      refine y_slLs hs (fun p np => ?_)
      rw [cut_one]
      walk_at "ys"
      refine y_sum upd_same ?_
      walk_at "ys"
      refine y_mod (by decide) ?_
      walk_at "ys"
      exact q _ _ (same_new0 np)
def sp__law_box (K : PySem.W.Frag) : Sp := fun vs H Q _ => ∃ z : Int, vs = [.int z] ∧ ∀ b H', H b = none → Same H H' → Box H' b 0 → Q (.ref b) H'
theorem ok__law_box {f : Addr} {fd : FuncData} (T : Txt K mg) (F : Fun K "_law_box" "_law_box" s__law_box f fd) : FnOk P w K mg base CX0 1 f fd ["cell"] (sp__law_box K) := by
  have scp := sc__law_box
  refine F.ok sc__law_box (fun vs H Q E h => ?_) (fun cdv A outer s H vs Q E hr h => ?_)
  · first | (obtain ⟨rfl, _⟩ := h; rfl) | (obtain ⟨_, rfl, _⟩ := h; rfl) | (obtain ⟨_, _, rfl, _⟩ := h; rfl) | (obtain ⟨_, _, _, rfl, _⟩ := h; rfl) | (obtain ⟨_, _, _, _, rfl, _⟩ := h; rfl) | (obtain ⟨_, _, _, _, _, rfl, _⟩ := h; rfl) | (obtain ⟨_, _, _, _, _, _, rfl, _⟩ := h; rfl) | (obtain ⟨_, _, _, _, _, _, _, rfl, _⟩ := h; rfl) | (obtain ⟨_, _, _, _, _, _, _, _, rfl, _⟩ := h; rfl) | (obtain ⟨_, _, _, _, _, _, _, _, _, rfl, _⟩ := h; rfl) | (obtain ⟨_, _, _, _, _, _, _, _, _, _, rfl, _⟩ := h; rfl) | (obtain ⟨_, _, _, _, _, _, _, _, _, _, _, rfl, _⟩ := h; rfl) | (obtain ⟨_, _, _, _, _, _, _, _, _, _, _, _, rfl, _⟩ := h; rfl) | (obtain ⟨_, _, _, _, _, _, _, _, _, _, _, _, _, rfl, _⟩ := h; rfl) | (obtain ⟨_, _, _, _, _, _, _, _, _, _, _, _, _, _, rfl, _⟩ := h; rfl) | (obtain ⟨_, _, _, _, _, _, _, _, _, _, _, _, _, _, _, rfl, _⟩ := h; rfl) | (obtain ⟨_, _, _, _, _, _, _, _, _, _, _, _, _, _, _, _, rfl, _⟩ := h; rfl) | (obtain ⟨_, _, _, _, _, _, _, _, _, _, _, _, _, _, _, _, _, rfl, _⟩ := h; rfl) | (obtain ⟨_, _, _, _, _, _, _, _, _, _, _, _, _, _, _, _, _, _, rfl, _⟩ := h; rfl) | (obtain ⟨_, _, _, _, _, _, _, _, _, _, _, _, _, _, _, _, _, _, _, rfl, _⟩ := h; rfl) | (obtain ⟨_, _, _, _, _, _, _, _, _, _, _, _, _, _, _, _, _, _, _, _, rfl, _⟩ := h; rfl) | (obtain ⟨_, _, _, _, _, _, _, _, _, _, _, _, _, _, _, _, _, _, _, _, _, rfl, _⟩ := h; rfl) | (obtain ⟨_, _, _, _, _, _, _, _, _, _, _, _, _, _, _, _, _, _, _, _, _, _, rfl, _⟩ := h; rfl) | (obtain ⟨_, _, _, _, _, _, _, _, _, _, _, _, _, _, _, _, _, _, _, _, _, _, _, rfl, _⟩ := h; rfl) | (obtain ⟨_, _, _, _, _, _, _, _, _, _, _, _, _, _, _, _, _, _, _, _, _, _, _, _, rfl, _⟩ := h; rfl) | (obtain ⟨_, _, _, _, _, _, _, _, _, _, _, _, _, _, _, _, _, _, _, _, _, _, _, _, _, rfl, _⟩ := h; rfl) | (obtain ⟨_, _, _, _, _, _, _, _, _, _, _, _, _, _, _, _, _, _, _, _, _, _, _, _, _, _, rfl, _⟩ := h; rfl) | (obtain ⟨_, _, _, _, _, _, _, _, _, _, _, _, _, _, _, _, _, _, _, _, _, _, _, _, _, _, _, rfl, _⟩ := h; rfl)
  · obtain ⟨z, rfl, q⟩ := h
    have hu := hu_of hr
    have hv := hr.units
    refine ⟨_, (pss_cons (ps_set (i := 1) scp.nd rfl (by first | exact Or.inl rfl | exact Or.inr rfl) (pe_callB call_absY (by rfl) T.n_abs (by decide +kernel) (pa_cons (pv 0) pa_nil)))
  (pss_one (ps_ret (pe_lst (pa_cons (pe_ifExp (pt_cmpR op_geI (pv 1) (pe_op op_powY pe_int pe_int) (nomark _)) (pv 1) pe_int) (pa_cons (pe_op op_modY (pe_callTy call_intY (by rfl) T.n_int (by decide +kernel) (pa_cons (pv 1) pa_nil)) pe_int) (pa_cons pe_int pa_nil))))))), ?_⟩
    walk_at "ys"
    obtain ⟨g, hg⟩ : ∃ g : Nat, (if z < 0 then -z else z) = (g : Int) := ⟨(if z < 0 then -z else z).toNat, by split <;> omega⟩
    rw [hg]
    walk_at "ys"
    refine y_pow ⟨by decide, by decide, by decide⟩ ?_
    walk_at "ys"
    obtain ⟨d, hd, hd2⟩ : ∃ d : Nat, (g : Int) % 2147483629 = (d : Int) ∧ d < 2147483629 := ⟨((g : Int) % 2147483629).toNat, by omega, by omega⟩
    have fin : ∀ (x : Nat) (b : Addr), H b = none → Q (.ref b) (upd H b (.lst [.int x, .int d, .int 0])) := fun x b nb => q b _ nb (same_new0 nb) ⟨x, d, 0, upd_same, hd2, Nat.le_refl _⟩
    refine y_d2 (fun h1 => ?_) (fun h1 => ?_)
    · walk_at "ys"
      refine y_mod (by decide) ?_
      rw [hd]
      walk_at "ys"
      exact ⟨sz_line (by simp), fun b nb => fin g b nb⟩
    · walk_at "ys"
      refine y_mod (by decide) ?_
      rw [hd]
      walk_at "ys"
      exact ⟨sz_line (by simp), fun b nb => fin 0 b nb⟩
def sp__law_take (K : PySem.W.Frag) : Sp := fun vs H Q _ => ∃ (b : Addr) (m B : Nat), vs = [.ref b, .int m] ∧ 0 < m ∧ m ≤ 1000000 ∧ Box H b B ∧ B ≤ 1000000 ∧ ∀ (r : Nat) (H' : Hp), r < m → SameBut b H H' → Box H' b (B + 1) → Q (.int r) H'
theorem ok__law_take {f : Addr} {fd : FuncData} (T : Txt K mg) (F : Fun K "_law_take" "_law_take" s__law_take f fd) : FnOk P w K mg base CX0 1 f fd ["box", "many"] (sp__law_take K) := by
  have scp := sc__law_take
  refine F.ok sc__law_take (fun vs H Q E h => ?_) (fun cdv A outer s H vs Q E hr h => ?_)
  · first | (obtain ⟨rfl, _⟩ := h; rfl) | (obtain ⟨_, rfl, _⟩ := h; rfl) | (obtain ⟨_, _, rfl, _⟩ := h; rfl) | (obtain ⟨_, _, _, rfl, _⟩ := h; rfl) | (obtain ⟨_, _, _, _, rfl, _⟩ := h; rfl) | (obtain ⟨_, _, _, _, _, rfl, _⟩ := h; rfl) | (obtain ⟨_, _, _, _, _, _, rfl, _⟩ := h; rfl) | (obtain ⟨_, _, _, _, _, _, _, rfl, _⟩ := h; rfl) | (obtain ⟨_, _, _, _, _, _, _, _, rfl, _⟩ := h; rfl) | (obtain ⟨_, _, _, _, _, _, _, _, _, rfl, _⟩ := h; rfl) | (obtain ⟨_, _, _, _, _, _, _, _, _, _, rfl, _⟩ := h; rfl) | (obtain ⟨_, _, _, _, _, _, _, _, _, _, _, rfl, _⟩ := h; rfl) | (obtain ⟨_, _, _, _, _, _, _, _, _, _, _, _, rfl, _⟩ := h; rfl) | (obtain ⟨_, _, _, _, _, _, _, _, _, _, _, _, _, rfl, _⟩ := h; rfl) | (obtain ⟨_, _, _, _, _, _, _, _, _, _, _, _, _, _, rfl, _⟩ := h; rfl) | (obtain ⟨_, _, _, _, _, _, _, _, _, _, _, _, _, _, _, rfl, _⟩ := h; rfl) | (obtain ⟨_, _, _, _, _, _, _, _, _, _, _, _, _, _, _, _, rfl, _⟩ := h; rfl) | (obtain ⟨_, _, _, _, _, _, _, _, _, _, _, _, _, _, _, _, _, rfl, _⟩ := h; rfl) | (obtain ⟨_, _, _, _, _, _, _, _, _, _, _, _, _, _, _, _, _, _, rfl, _⟩ := h; rfl) | (obtain ⟨_, _, _, _, _, _, _, _, _, _, _, _, _, _, _, _, _, _, _, rfl, _⟩ := h; rfl) | (obtain ⟨_, _, _, _, _, _, _, _, _, _, _, _, _, _, _, _, _, _, _, _, rfl, _⟩ := h; rfl) | (obtain ⟨_, _, _, _, _, _, _, _, _, _, _, _, _, _, _, _, _, _, _, _, _, rfl, _⟩ := h; rfl) | (obtain ⟨_, _, _, _, _, _, _, _, _, _, _, _, _, _, _, _, _, _, _, _, _, _, rfl, _⟩ := h; rfl) | (obtain ⟨_, _, _, _, _, _, _, _, _, _, _, _, _, _, _, _, _, _, _, _, _, _, _, rfl, _⟩ := h; rfl) | (obtain ⟨_, _, _, _, _, _, _, _, _, _, _, _, _, _, _, _, _, _, _, _, _, _, _, _, rfl, _⟩ := h; rfl) | (obtain ⟨_, _, _, _, _, _, _, _, _, _, _, _, _, _, _, _, _, _, _, _, _, _, _, _, _, rfl, _⟩ := h; rfl) | (obtain ⟨_, _, _, _, _, _, _, _, _, _, _, _, _, _, _, _, _, _, _, _, _, _, _, _, _, _, rfl, _⟩ := h; rfl) | (obtain ⟨_, _, _, _, _, _, _, _, _, _, _, _, _, _, _, _, _, _, _, _, _, _, _, _, _, _, _, rfl, _⟩ := h; rfl)
  · obtain ⟨b, m, B, rfl, h0, hm, X, hB, q⟩ := h
    have hu := hu_of hr
    have hv := hr.units
    obtain ⟨g, d, c, hb, hd, hc⟩ := X.at_
    refine ⟨_, (pss_cons (ps_if (pt_cmpR op_gtI (pe_ix (ix_anyK (K := K) hu) (pv 0) pe_int (fun _ _ => rfl)) pe_int (nomark _))
  (pss_cons (ps_set (i := 2) scp.nd rfl (by first | exact Or.inl rfl | exact Or.inr rfl) (pe_op op_modY (pe_callTy call_intY (by rfl) T.n_int (by decide +kernel) (pa_cons (pe_ix (ix_anyK (K := K) hu) (pv 0) pe_int (fun _ _ => rfl)) pa_nil)) (pv 1)))
  (pss_cons (ps_asg (pe_op op_fdivY (pe_ix (ix_anyK (K := K) hu) (pv 0) pe_int (fun _ _ => rfl)) (pv 1)) (pg_sub (pv 0) pe_int set_list))
  (pss_one (ps_ret (pv 2)))))
  pss_nil)
  (pss_cons (ps_asg (pe_op op_plus (pe_ix (ix_anyK (K := K) hu) (pv 0) pe_int (fun _ _ => rfl)) pe_int) (pg_sub (pv 0) pe_int set_list))
  (pss_cons (ps_set (i := 3) scp.nd rfl (by first | exact Or.inl rfl | exact Or.inr rfl) (pe_op op_modY (pe_callTy call_intY (by rfl) T.n_int (by decide +kernel) (pa_cons (pe_op op_powY (pe_op op_plus (pe_op op_plus (pe_ix (ix_anyK (K := K) hu) (pv 0) pe_int (fun _ _ => rfl)) (pe_op op_times pe_int (pe_ix (ix_anyK (K := K) hu) (pv 0) pe_int (fun _ _ => rfl)))) pe_int) pe_int) pa_nil)) pe_int))
  (pss_cons (ps_set (i := 4) scp.nd rfl (by first | exact Or.inl rfl | exact Or.inr rfl) (pe_op op_modY (pe_callTy call_intY (by rfl) T.n_int (by decide +kernel) (pa_cons (pe_op op_powY (pe_op op_plus (pe_op op_plus (pe_op op_fdivY (pv 3) pe_int) (pe_op op_times pe_int (pe_ix (ix_anyK (K := K) hu) (pv 0) pe_int (fun _ _ => rfl)))) pe_int) pe_int) pa_nil)) pe_int))
  (pss_one (ps_ret (pe_op op_modY (pe_callTy call_intY (by rfl) T.n_int (by decide +kernel) (pa_cons (pe_op op_plus (pe_op op_fdivY (pv 3) pe_int) (pe_op op_times pe_int (pe_op op_fdivY (pv 4) pe_int))) pa_nil)) (pv 1)))))))), ?_⟩
    walk_at "ys"
    refine y_d2 (fun h1 => ?_) (fun h1 => ?_)
    · walk_at "ys"
      refine y_mod (by omega) ?_
      walk_at "ys"
      refine y_fdiv (cdiv_small (by omega) (by omega)) ?_
      walk_at "ys"
      refine y_setL hb (by rfl) ?_
      walk_at "ys"
      have e1 : (g : Int) % (m : Int) = ((g % m : Nat) : Int) := by omega
      have e2 : (g : Int) / (m : Int) = ((g / m : Nat) : Int) := by omega
      rw [e1, e2]
      exact q (g % m) _ (Nat.mod_lt _ h0) (SameBut.put _ _ _) ⟨g / m, d, c, upd_same, hd, by omega⟩
    · walk_at "ys"
      refine y_setL hb (by rfl) ?_
      have hb1 : (upd H b (.lst ([V.int g, V.int d, V.int c].set (Int.toNat 2) (V.int ((c : Int) + 1))))) b = some (.lst [.int g, .int d, .int ((c : Int) + 1)]) := upd_same
      have e1 : SameBut b H (upd H b (.lst ([V.int g, V.int d, V.int c].set (Int.toNat 2) (V.int ((c : Int) + 1))))) := SameBut.put _ _ _
      generalize upd H b (.lst ([V.int g, V.int d, V.int c].set (Int.toNat 2) (V.int ((c : Int) + 1)))) = H1 at *
      walk_at "ys"
      refine y_mulI (cmul_small (by decide) (by omega)) ?_
      walk_at "ys"
      refine y_pow ⟨by decide, by decide, by omega⟩ ?_
      walk_at "ys"
      refine y_mod (by decide) ?_
      have a1 : 0 ≤ ((d : Int) + 7919 * ((c : Int) + 1) + 29) ^ (5 : Int).toNat % 2147483647 := Int.emod_nonneg _ (by decide)
      have a2 : ((d : Int) + 7919 * ((c : Int) + 1) + 29) ^ (5 : Int).toNat % 2147483647 < 2147483647 := Int.emod_lt_of_pos _ (by decide)
      generalize ((d : Int) + 7919 * ((c : Int) + 1) + 29) ^ (5 : Int).toNat % 2147483647 = one at *
      walk_at "ys"
      refine y_fdiv (cdiv_small (by decide) (by decide)) ?_
      walk_at "ys"
      refine y_mulI (cmul_small (by decide) (by omega)) ?_
      walk_at "ys"
      refine y_pow ⟨by decide, by decide, by omega⟩ ?_
      walk_at "ys"
      refine y_mod (by decide) ?_
      have b1 : 0 ≤ (one / 8 + 104729 * ((c : Int) + 1) + 11) ^ (3 : Int).toNat % 2147483629 := Int.emod_nonneg _ (by decide)
      have b2 : (one / 8 + 104729 * ((c : Int) + 1) + 11) ^ (3 : Int).toNat % 2147483629 < 2147483629 := Int.emod_lt_of_pos _ (by decide)
      generalize (one / 8 + 104729 * ((c : Int) + 1) + 11) ^ (3 : Int).toNat % 2147483629 = two at *
      walk_at "ys"
      refine y_fdiv (cdiv_small (by decide) (by decide)) ?_
      walk_at "ys"
      refine y_fdiv (cdiv_small (by decide) (by decide)) ?_
      walk_at "ys"
      refine y_mulI (cmul_small (by decide) (by omega)) ?_
      walk_at "ys"
      refine y_mod (by omega) ?_
      have c1 : 0 ≤ (one / 4 + 536870909 * (two / 4)) % (m : Int) := Int.emod_nonneg _ (by omega)
      have c2 : (one / 4 + 536870909 * (two / 4)) % (m : Int) < m := Int.emod_lt_of_pos _ (by omega)
      generalize (one / 4 + 536870909 * (two / 4)) % (m : Int) = r at *
      obtain ⟨r, rfl⟩ := Int.eq_ofNat_of_zero_le c1
      exact q r _ (by omega) e1 ⟨g, d, c + 1, hb1, hd, by omega⟩
end
end K87
namespace K87
open PySem L2 Y

def six : List Str := ["ann", "bo", "cy", "di", "ed", "flo"]
theorem six_ok : ∀ z, z ∈ six → NameOk z := by
  have h : ∀ z ∈ six, 1 ≤ z.length ∧ z.length ≤ 8 ∧ ∀ c ∈ z.cps.toList, c ∈ letters.cps.toList := by decide +kernel
  exact fun z hz => ⟨(h z hz).1, (h z hz).2.1, (h z hz).2.2⟩
theorem six_nd : six.Nodup := by decide +kernel
theorem six_zed : ∀ z, z ∈ six → z ≠ "zed" := by decide +kernel
theorem valV_fun (g : Str → V) (z : Str) : ∀ nm : List Str, valV (nm.map fun y => ((Sum.inr y : Key), g y)) (Sum.inr z) = if z ∈ nm then some (g z) else none
  | [] => by simp [valV]
  | y :: nm => by
    have ih := valV_fun g z nm
    unfold valV at *
    by_cases e : y = z
    · subst e
      simp
    · have e' : ¬ z = y := fun x => e x.symm
      have e2 : ¬ (Sum.inr y : Key) = Sum.inr z := fun x => e (Sum.inr.inj x)
      rw [List.map_cons, List.find?_cons_of_neg (by simpa using e), ih]
      simp [e']
theorem kvOf_fun (tn : Str → Addr) : ∀ nm : List Str, kvOf nm (nm.map tn) = nm.map fun z => ((Sum.inr z : Key), V.ref (tn z))
  | [] => rfl
  | z :: nm => by
    have ih := kvOf_fun tn nm
    unfold kvOf at *
    rw [List.map_cons, List.zip_cons_cons, List.map_cons, ih, List.map_cons]
theorem merge_fun (g : Str → V) : ∀ (nm pre : List Str), (pre ++ nm).Nodup → mergeK (pre.map fun z => ((Sum.inr z : Key), g z)) (nm.map fun z => ((Sum.inr z : Key), g z)) = (pre ++ nm).map fun z => ((Sum.inr z : Key), g z)
  | [], pre, _ => by rw [List.append_nil]; rfl
  | z :: nm, pre, h => by
    have h2 : (pre ++ [z] ++ nm).Nodup := by simpa using h
    have ih := merge_fun g nm (pre ++ [z]) h2
    have hz : z ∉ pre := fun x => by
      have := (List.nodup_append.mp h).2.2 z x z List.mem_cons_self
      exact this rfl
    unfold mergeK at *
    rw [List.map_cons, List.foldl_cons]
    show List.foldl _ (putK _ (Sum.inr z) (g z)) _ = _
    rw [putK_new _ (by rw [valV_fun, if_neg hz])]
    rw [List.map_append] at ih
    rw [show pre ++ z :: nm = pre ++ [z] ++ nm by simp, ← ih]
    rfl
theorem sum_fun (pn : Str → Nat) (nm : List Str) : ∀ n, n ≤ nm.length → Deal.sumTo (fun i => pn (nmF nm i)) n = ((nm.take n).map pn).sum
  | 0, _ => by simp [Deal.sumTo]
  | n + 1, h => by
    unfold Deal.sumTo
    rw [sum_fun pn nm n (by omega), List.take_add_one, nmF_at (show n < nm.length by omega), List.map_append, List.sum_append]
    simp
theorem SameBut.free {b p : Addr} {H H' : Hp} (e : SameBut b H H') (n : p ≠ b) (h : H' p = none) : H p = none := by
  cases z : H p with
  | none => rfl
  | some u =>
    have := e p u n z
    rw [h] at this
    cases this
theorem SameBut.mut {b p : Addr} {H H' : Hp} {o : HO} (e : SameBut b H H') (n : H p = none) : SameBut b H (upd H' p o) := fun a u na h => by
  rw [upd_ne (ne_of_none h n)]
  exact e a u na h
theorem Box.ne {H : Hp} {b p : Addr} {B : Nat} (X : Box H b B) (n : H p = none) : p ≠ b := by
  obtain ⟨g, d, c, h, _⟩ := X.at_
  exact (ne_of_none h n).symm
theorem Box.mono {H : Hp} {b : Addr} {B B' : Nat} (X : Box H b B) (h : B ≤ B') : Box H b B' := by
  obtain ⟨g, d, c, h1, h2, h3⟩ := X.at_
  exact ⟨g, d, c, h1, h2, by omega⟩
theorem Box.put {H : Hp} {b p : Addr} {B : Nat} {o : HO} (X : Box H b B) (n : p ≠ b) : Box (upd H p o) b B := by
  obtain ⟨g, d, c, h1, h2, h3⟩ := X.at_
  exact ⟨g, d, c, by rw [upd_ne (Ne.symm n)]; exact h1, h2, h3⟩
theorem erase_map {α β : Type} (f : α → β) : ∀ (l : List α) (k : Nat), (l.map f).eraseIdx k = (l.eraseIdx k).map f
  | [], _ => rfl
  | _ :: _, 0 => rfl
  | x :: l, k + 1 => by rw [List.map_cons, List.eraseIdx_cons_succ, erase_map f l k, List.eraseIdx_cons_succ, List.map_cons]
theorem erase_perm {α : Type} : ∀ (l : List α) (k : Nat) (h : k < l.length), List.Perm (l[k] :: l.eraseIdx k) l
  | [], _, h => absurd h (Nat.not_lt_zero _)
  | _ :: _, 0, _ => List.Perm.refl _
  | x :: l, k + 1, h => by
    rw [List.eraseIdx_cons_succ, List.getElem_cons_succ]
    exact (List.Perm.swap _ _ _).trans (List.Perm.cons x (erase_perm l k (by simpa using h)))
structure Cast (H : Hp) (b gd : Addr) (nm : List Str) (tn : Str → Addr) (pn cn : Str → Nat) (L : Nat) : Prop where
  d : H gd = some (.dK (nm.map fun z => ((Sum.inr z : Key), V.ref (tn z))))
  t : ∀ z, z ∈ nm → H (tn z) = some (.tup [.int (pn z), .int (cn z)]) ∧ tn z ≠ b ∧ tn z ≠ gd
  pc : ∀ z, z ∈ nm → pn z ≤ cn z ∧ 1 ≤ cn z ∧ cn z ≤ L
  sum : (nm.map pn).sum ≤ L
structure Case (H : Hp) (b t gd : Addr) (L : Nat) (nm : List Str) (ts : List Addr) (p c : Nat → Nat) : Prop where
  tu : H t = some (.tup [.int L, .ref gd])
  d : H gd = some (.dK (kvOf nm ts))
  len : ts.length = nm.length
  t : ∀ (i : Nat) (a : Addr), ts[i]? = some a → H a = some (.tup [.int (p i), .int (c i)])
  nd : nm.Nodup
  ok : ∀ z, z ∈ nm → z ∈ six
  pos : 1 ≤ nm.length
  few : nm.length ≤ 6
  O : Deal.Ok nm.length L p c
  lo : 4 ≤ L
  hi : L ≤ 60
section
variable {P : Program} {w : World} {K : PySem.W.Frag} {mg : Str → Option Value} {base : Heap}
def sp__law_case (K : PySem.W.Frag) : Sp := fun vs H Q _ => ∃ (b : Addr) (B : Nat), vs = [.ref b] ∧ Box H b B ∧ B ≤ 1000 ∧ ∀ (t gd : Addr) (L : Nat) (nm : List Str) (ts : List Addr) (p c : Nat → Nat) (H' : Hp), SameBut b H H' → H gd = none → Box H' b (B + 100) → Case H' b t gd L nm ts p c → Q (.ref t) H'
theorem ok__law_case {f : Addr} {fd : FuncData} (T : Txt K mg) (F : Fun K "_law_case" "_law_case" s__law_case f fd) : FnOk P w K mg base CX0 2 f fd ["box"] (sp__law_case K) := by
  obtain ⟨f__law_take, fd__law_take, g__law_take, F__law_take⟩ := T.d__law_take
  have G__law_take := ok__law_take (P := P) (w := w) (base := base) T F__law_take
  have b__law_take := F__law_take.binds (ps := ["box", "many"]) fun _ _ _ _ _ _ us hl => match us, hl with | [_, _], _ => rfl
  have scp := sc__law_case
  refine F.ok sc__law_case (fun vs H Q E h => ?_) (fun cdv A outer s H vs Q E hr h => ?_)
  · first | (obtain ⟨rfl, _⟩ := h; rfl) | (obtain ⟨_, rfl, _⟩ := h; rfl) | (obtain ⟨_, _, rfl, _⟩ := h; rfl) | (obtain ⟨_, _, _, rfl, _⟩ := h; rfl) | (obtain ⟨_, _, _, _, rfl, _⟩ := h; rfl) | (obtain ⟨_, _, _, _, _, rfl, _⟩ := h; rfl) | (obtain ⟨_, _, _, _, _, _, rfl, _⟩ := h; rfl) | (obtain ⟨_, _, _, _, _, _, _, rfl, _⟩ := h; rfl) | (obtain ⟨_, _, _, _, _, _, _, _, rfl, _⟩ := h; rfl) | (obtain ⟨_, _, _, _, _, _, _, _, _, rfl, _⟩ := h; rfl) | (obtain ⟨_, _, _, _, _, _, _, _, _, _, rfl, _⟩ := h; rfl) | (obtain ⟨_, _, _, _, _, _, _, _, _, _, _, rfl, _⟩ := h; rfl) | (obtain ⟨_, _, _, _, _, _, _, _, _, _, _, _, rfl, _⟩ := h; rfl) | (obtain ⟨_, _, _, _, _, _, _, _, _, _, _, _, _, rfl, _⟩ := h; rfl) | (obtain ⟨_, _, _, _, _, _, _, _, _, _, _, _, _, _, rfl, _⟩ := h; rfl) | (obtain ⟨_, _, _, _, _, _, _, _, _, _, _, _, _, _, _, rfl, _⟩ := h; rfl) | (obtain ⟨_, _, _, _, _, _, _, _, _, _, _, _, _, _, _, _, rfl, _⟩ := h; rfl) | (obtain ⟨_, _, _, _, _, _, _, _, _, _, _, _, _, _, _, _, _, rfl, _⟩ := h; rfl) | (obtain ⟨_, _, _, _, _, _, _, _, _, _, _, _, _, _, _, _, _, _, rfl, _⟩ := h; rfl) | (obtain ⟨_, _, _, _, _, _, _, _, _, _, _, _, _, _, _, _, _, _, _, rfl, _⟩ := h; rfl) | (obtain ⟨_, _, _, _, _, _, _, _, _, _, _, _, _, _, _, _, _, _, _, _, rfl, _⟩ := h; rfl) | (obtain ⟨_, _, _, _, _, _, _, _, _, _, _, _, _, _, _, _, _, _, _, _, _, rfl, _⟩ := h; rfl) | (obtain ⟨_, _, _, _, _, _, _, _, _, _, _, _, _, _, _, _, _, _, _, _, _, _, rfl, _⟩ := h; rfl) | (obtain ⟨_, _, _, _, _, _, _, _, _, _, _, _, _, _, _, _, _, _, _, _, _, _, _, rfl, _⟩ := h; rfl) | (obtain ⟨_, _, _, _, _, _, _, _, _, _, _, _, _, _, _, _, _, _, _, _, _, _, _, _, rfl, _⟩ := h; rfl) | (obtain ⟨_, _, _, _, _, _, _, _, _, _, _, _, _, _, _, _, _, _, _, _, _, _, _, _, _, rfl, _⟩ := h; rfl) | (obtain ⟨_, _, _, _, _, _, _, _, _, _, _, _, _, _, _, _, _, _, _, _, _, _, _, _, _, _, rfl, _⟩ := h; rfl) | (obtain ⟨_, _, _, _, _, _, _, _, _, _, _, _, _, _, _, _, _, _, _, _, _, _, _, _, _, _, _, rfl, _⟩ := h; rfl)
  · obtain ⟨b, B, rfl, X, hB, q⟩ := h
    have hu := hu_of hr
    have hv := hr.units
    refine ⟨_, (pss_cons (ps_asg (pe_tup (pa_cons (pe_op op_plus pe_int (pe_call (G__law_take.mono (by decide)) hr rfl g__law_take F__law_take.kp b__law_take .nil pass0 (pa_cons (pv 0) (pa_cons (pe_ix (ix_anyK (K := K) hu) (pe_lst (pa_cons pe_int (pa_cons pe_int (pa_cons pe_int pa_nil)))) (pe_call (G__law_take.mono (by decide)) hr rfl g__law_take F__law_take.kp b__law_take .nil pass0 (pa_cons (pv 0) (pa_cons pe_int pa_nil))) (fun _ _ => rfl)) pa_nil)))) (pa_cons pe_int (pa_cons pe_dnewK pa_nil)))) (pg_tupK (K := K) (n := 3) rfl (pgs_cons (pg_name (i := 1) scp.nd rfl (by first | exact Or.inl rfl | exact Or.inr rfl)) (pgs_cons (pg_name (i := 2) scp.nd rfl (by first | exact Or.inl rfl | exact Or.inr rfl)) (pgs_cons (pg_name (i := 3) scp.nd rfl (by first | exact Or.inl rfl | exact Or.inr rfl)) pgs_nil)))))
  (pss_cons (ps_set (i := 2) scp.nd rfl (by first | exact Or.inl rfl | exact Or.inr rfl) (pv 1))
  (pss_cons (ps_for PassesOwn.never rfl (pi_listK (K := K) (pe_slice (sl_listK (K := K)) (pe_lst (pa_cons pe_str (pa_cons pe_str (pa_cons pe_str (pa_cons pe_str (pa_cons pe_str (pa_cons pe_str pa_nil))))))) po_none (po_some (pe_op op_plus pe_int (pe_call (G__law_take.mono (by decide)) hr rfl g__law_take F__law_take.kp b__law_take .nil pass0 (pa_cons (pv 0) (pa_cons pe_int pa_nil))))))) (pg_name (i := 4) scp.nd rfl (by first | exact Or.inl rfl | exact Or.inr rfl))
  (pss_cons (ps_set (i := 5) scp.nd rfl (by first | exact Or.inl rfl | exact Or.inr rfl) (pe_ix (ix_anyK (K := K) hu) (pe_lst (pa_cons pe_int (pa_cons pe_int (pa_cons (pe_call (G__law_take.mono (by decide)) hr rfl g__law_take F__law_take.kp b__law_take .nil pass0 (pa_cons (pv 0) (pa_cons (pe_op op_plus (pv 2) pe_int) pa_nil))) (pa_cons (pe_call (G__law_take.mono (by decide)) hr rfl g__law_take F__law_take.kp b__law_take .nil pass0 (pa_cons (pv 0) (pa_cons (pe_op op_plus (pe_callB (call_min2Y rfl) (by rfl) T.n_min (by decide +kernel) (pa_cons (pv 2) (pa_cons pe_int pa_nil))) pe_int) pa_nil))) pa_nil))))) (pe_call (G__law_take.mono (by decide)) hr rfl g__law_take F__law_take.kp b__law_take .nil pass0 (pa_cons (pv 0) (pa_cons pe_int pa_nil))) (fun _ _ => rfl)))
  (pss_cons (ps_set (i := 5) scp.nd rfl (by first | exact Or.inl rfl | exact Or.inr rfl) (pe_callB (call_min2Y rfl) (by rfl) T.n_min (by decide +kernel) (pa_cons (pv 5) (pa_cons (pv 2) pa_nil))))
  (pss_cons (ps_set (i := 2) scp.nd rfl (by first | exact Or.inl rfl | exact Or.inr rfl) (pe_op op_minus (pv 2) (pv 5)))
  (pss_cons (ps_set (i := 6) scp.nd rfl (by first | exact Or.inl rfl | exact Or.inr rfl) (pe_callB (call_max2Y rfl) (by rfl) T.n_max (by decide +kernel) (pa_cons pe_int (pa_cons (pv 5) pa_nil))))
  (pss_cons (ps_set (i := 7) scp.nd rfl (by first | exact Or.inl rfl | exact Or.inr rfl) (pe_ix (ix_anyK (K := K) hu) (pe_lst (pa_cons (pv 1) (pa_cons (pv 6) (pa_cons (pe_op op_plus (pv 6) (pe_call (G__law_take.mono (by decide)) hr rfl g__law_take F__law_take.kp b__law_take .nil pass0 (pa_cons (pv 0) (pa_cons (pe_op op_plus (pe_op op_minus (pv 1) (pv 6)) pe_int) pa_nil)))) pa_nil)))) (pe_call (G__law_take.mono (by decide)) hr rfl g__law_take F__law_take.kp b__law_take .nil pass0 (pa_cons (pv 0) (pa_cons pe_int pa_nil))) (fun _ _ => rfl)))
  (pss_one (ps_dput hu (pv 3) (pv 4) (pe_tup (pa_cons (pv 5) (pa_cons (pv 7) pa_nil))) rfl))))))))
  (pss_cons (ps_set (i := 8) scp.nd rfl (by first | exact Or.inl rfl | exact Or.inr rfl) (pe_callTy (call_listK (K := K) rfl) (by rfl) T.n_list (by decide +kernel) (pa_cons (pv 3) pa_nil)))
  (pss_cons (ps_setLc (i := 9) (own := [("k", 10)]) (g := gName 10) (tt := tYes) rfl scp.nd rfl rfl (sw_true rfl rfl rfl (by decide +kernel)) (pi_range1 rfl T.n_range (pa_cons (pe_callB (call_lenK (K := K)) (by rfl) T.n_len (by decide +kernel) (pa_cons (pv 3) pa_nil)) pa_nil)) (blkOk_by (own := [("k", 10)]) (N := ["box", "length", "left", "guests", "name", "promise", "low", "ceiling", "names", "order", "k"]) (sc := defScope s__law_case) (by decide +kernel)) (fun _ _ _ _ _ => (pg_name (i := 10) scp.nd rfl (by first | exact Or.inl rfl | exact Or.inr rfl))) (fun _ _ _ _ _ => pts_nil) (fun _ _ _ _ _ => (pe_bmK (K := K) PySem.F.plainAttrs_list PySem.F.slot_list_pop PySem.F.type_list_pop mt_popAt (pv 8) (pa_cons (pe_call (G__law_take.mono (by decide)) hr rfl g__law_take F__law_take.kp b__law_take .nil pass0 (pa_cons (pv 0) (pa_cons (pe_callB (call_lenK (K := K)) (by rfl) T.n_len (by decide +kernel) (pa_cons (pv 8) pa_nil)) pa_nil))) pa_nil))))
  (pss_one (ps_ret (pe_tup (pa_cons (pv 1) (pa_cons (pe_callTy (call_dictKK (K := K) rfl) (by rfl) T.n_dict (by decide +kernel) (pa_cons (pe_lc (own := [("name", 4)]) (g := gName 4) (tt := tYes) rfl scp.nd (pi_listK (K := K) (pv 9)) (blkOk_by (own := [("name", 4)]) (N := ["box", "length", "left", "guests", "name", "promise", "low", "ceiling", "names", "order", "k"]) (sc := defScope s__law_case) (by decide +kernel)) (fun _ _ _ _ _ => (pg_name (i := 4) scp.nd rfl (by first | exact Or.inl rfl | exact Or.inr rfl))) (fun _ _ _ _ _ => pts_nil) (fun _ _ _ _ _ => (pe_tup (pa_cons (pv 4) (pa_cons (pe_ix (ix_anyK (K := K) hu) (pv 3) (pv 4) (fun _ _ => rfl)) pa_nil))))) pa_nil)) pa_nil)))))))))), ?_⟩
    walk_at "ys"
    refine ⟨sz_line (by simp), fun la nla => ?_⟩
    have X1 := X.same (same_new0 (o := .lst [.int 4, .int 12, .int 57]) nla)
    have hla : upd H la (.lst [.int 4, .int 12, .int 57]) la = some (.lst [.int 4, .int 12, .int 57]) := upd_same
    have e1 : Same H (upd H la (.lst [.int 4, .int 12, .int 57])) := same_new0 nla
    have nlab : la ≠ b := X.ne nla
    generalize upd H la (.lst [.int 4, .int 12, .int 57]) = H1 at *
    walk_at "ys"
    refine ⟨b, 3, B, rfl, by decide, by decide, X1, by omega, fun r1 H2 hr1 e2 X2 => ?_⟩
    obtain ⟨m1, hm1, hm0, hm57⟩ : ∃ m1 : Nat, atI [V.int 4, .int 12, .int 57] (r1 : Int) = some (.int m1) ∧ 0 < m1 ∧ m1 ≤ 57 := by
      match r1, hr1 with
      | 0, _ => exact ⟨4, rfl, by decide, by decide⟩
      | 1, _ => exact ⟨12, rfl, by decide, by decide⟩
      | 2, _ => exact ⟨57, rfl, by decide, by decide⟩
    have hla2 := e2 _ _ nlab hla
    walk_at "ys"
    refine y_ixL hla2 hm1 ?_
    walk_at "ys"
    refine ⟨b, m1, B + 1, rfl, hm0, by omega, X2, by omega, fun r2 H3 hr2 e3 X3 => ?_⟩
    have e3 := ((SameBut.of e1).trans e2).trans e3
    walk_at "ys"
    intro gd ngd
    have hLe : (4 : Int) + (r2 : Int) = ((4 + r2 : Nat) : Int) := by omega
    rw [hLe]
    have hL4 : 4 ≤ 4 + r2 := by omega
    have hL60 : 4 + r2 ≤ 60 := by omega
    generalize 4 + r2 = L at *
    have ngb : gd ≠ b := X3.ne ngd
    have ngH : H gd = none := e3.free ngb ngd
    have e4 : SameBut b H (upd H3 gd (.dK [])) := e3.trans (.of (same_new0 ngd))
    have X4 := X3.same (same_new0 (o := .dK []) ngd)
    have hgd4 : upd H3 gd (.dK []) gd = some (.dK []) := upd_same
    generalize upd H3 gd (.dK []) = H4 at *
    walk_at "ys"
    refine ⟨sz_line (by simp), fun tp ntp => ?_⟩
    have e5 := e4.trans (.of (same_new0 (o := .tup [.int L, .int 0, .ref gd]) ntp))
    have X5 := X4.same (same_new0 (o := .tup [.int L, .int 0, .ref gd]) ntp)
    have htp : upd H4 tp (.tup [.int L, .int 0, .ref gd]) tp = some (.tup [.int L, .int 0, .ref gd]) := upd_same
    have hgd5 := same_new0 (o := .tup [.int L, .int 0, .ref gd]) ntp _ _ hgd4
    generalize upd H4 tp (.tup [.int L, .int 0, .ref gd]) = H5 at *
    walk_at "ys"
    refine ⟨sz_line (by simp), fun sa nsa => ?_⟩
    have e6 := e5.trans (.of (same_new0 (o := .lst (six.map V.str)) nsa))
    have X6 := X5.same (same_new0 (o := .lst (six.map V.str)) nsa)
    have hsa : upd H5 sa (.lst (six.map V.str)) sa = some (.lst (six.map V.str)) := upd_same
    have hgd6 := same_new0 (o := .lst (six.map V.str)) nsa _ _ hgd5
    have nsb : sa ≠ b := X5.ne nsa
    change tNoPart _ (upd H5 sa (.lst (six.map V.str))) _
    generalize upd H5 sa (.lst (six.map V.str)) = H6 at *
    walk_at "ys"
    refine ⟨b, 6, B + 2, rfl, by decide, by decide, X6, by omega, fun r6 H7 hr6 e7 X7 => ?_⟩
    have hgd7 := e7 _ _ ngb hgd6
    have hsa7 := e7 _ _ nsb hsa
    have e7 := e6.trans e7
    have hcut : cutV (six.map V.str) none (some ((1 : Int) + (r6 : Int))) = (six.take (1 + r6)).map V.str := by
      match r6, hr6 with
      | 0, _ => rfl
      | 1, _ => rfl
      | 2, _ => rfl
      | 3, _ => rfl
      | 4, _ => rfl
      | 5, _ => rfl
    walk_at "ys"
    refine y_slL hsa7 (fun sl nsl => ?_)
    rw [hcut]
    have hm6 : 1 + r6 ≤ 6 := by omega
    have hm1 : 1 ≤ 1 + r6 := by omega
    generalize 1 + r6 = m at *
    have e8 := e7.trans (.of (same_new0 (o := .lst ((six.take m).map V.str)) nsl))
    have X8 := X7.same (same_new0 (o := .lst ((six.take m).map V.str)) nsl)
    have hsl : upd H7 sl (.lst ((six.take m).map V.str)) sl = some (.lst ((six.take m).map V.str)) := upd_same
    have hgd8 := same_new0 (o := .lst ((six.take m).map V.str)) nsl _ _ hgd7
    have nslb : sl ≠ b := X7.ne nsl
    have nslg : sl ≠ gd := (ne_of_none hgd7 nsl).symm
    generalize upd H7 sl (.lst ((six.take m).map V.str)) = H8 at *
    walk_at "ys"
    have hslen : (six.take m).length = m := by rw [List.length_take]; exact Nat.min_eq_left hm6
    refine for_it (walk_list (xs := (six.take m).map V.str)) (fun i σ H' => ∃ (u4 u5 u6 u7 : Option V) (tn : Str → Addr) (pn cn : Str → Nat) (lf : Nat), σ = [some (.ref b), some (.int L), some (.int lf), some (.ref gd), u4, u5, u6, u7, none, none, none] ∧ SameBut b H H' ∧ H' sl = some (.lst ((six.take m).map V.str)) ∧ Box H' b (B + 3 + 5 * i) ∧ Cast H' b gd (six.take i) tn pn cn L ∧ lf + ((six.take i).map pn).sum = L)
      ⟨none, none, none, none, fun _ => 0, fun _ => 0, fun _ => 0, L, rfl, e8, hsl, X8, ⟨hgd8, fun z hz => by simp at hz, fun z hz => by simp at hz, by simp⟩, by simp⟩
      (fun i σ H' _ h => ?_) (fun i x σ H9 H10 hi hP hY => ?_) (fun σ H9 hP => ?_)
    · obtain ⟨_, _, _, _, _, _, _, _, _, _, h, _⟩ := h
      exact SqL.of h
    · obtain ⟨u4, u5, u6, u7, tn, pn, cn, lf, rfl, e9, hsl9, X9, C, hlf⟩ := hP
      obtain ⟨rfl, hx⟩ := hY
      rw [List.length_map, hslen] at hi
      obtain ⟨z, hz⟩ : ∃ z, six[i]? = some z := ⟨six[i]'(by show i < 6; omega), List.getElem?_eq_getElem _⟩
      rw [List.getElem?_map, List.getElem?_take_of_lt hi, hz] at hx
      have hx := Option.some.inj hx
      subst hx
      have htake : six.take (i + 1) = six.take i ++ [z] := by rw [List.take_add_one, hz]; rfl
      have hzn : z ∉ six.take i := fun hmem => by
        obtain ⟨j, hj, e⟩ := List.mem_iff_getElem.mp hmem
        rw [List.length_take] at hj
        have e2 : six[j]? = some z := by
          rw [List.getElem_take] at e
          rw [← e]
          exact List.getElem?_eq_getElem _
        have := nd_ix six_nd e2 hz
        omega
      have hlL : lf ≤ L := by omega
      have hgd9 := C.d
      walk_at "ys"
      refine ⟨b, lf + 1, B + 3 + 5 * i, rfl, by omega, by omega, X9, by omega, fun a1 H11 ha1 e11 X11 => ?_⟩
      walk_at "ys"
      have em : (if (6 : Int) < (lf : Int) then (6 : Int) else (lf : Int)) + 1 = ((min lf 6 + 1 : Nat) : Int) := by split <;> omega
      rw [em]
      refine ⟨b, min lf 6 + 1, B + 3 + 5 * i + 1, rfl, by omega, by omega, X11, by omega, fun a2 H12 ha2 e12 X12 => ?_⟩
      have e12 := e11.trans e12
      walk_at "ys"
      refine ⟨sz_line (by simp), fun pl npl => ?_⟩
      have e13 := e12.trans (.of (same_new0 (o := .lst [.int 0, .int 1, .int a1, .int a2]) npl))
      have X13 := X12.same (same_new0 (o := .lst [.int 0, .int 1, .int a1, .int a2]) npl)
      have hpl : upd H12 pl (.lst [.int 0, .int 1, .int a1, .int a2]) pl = some (.lst [.int 0, .int 1, .int a1, .int a2]) := upd_same
      have nplb : pl ≠ b := X12.ne npl
      generalize upd H12 pl (.lst [.int 0, .int 1, .int a1, .int a2]) = H13 at *
      walk_at "ys"
      refine ⟨b, 4, B + 3 + 5 * i + 2, rfl, by omega, by omega, X13, by omega, fun a3 H14 ha3 e14 X14 => ?_⟩
      obtain ⟨pr, hpr⟩ : ∃ pr : Nat, atI [V.int 0, .int 1, .int a1, .int a2] (a3 : Int) = some (.int pr) := by
        match a3, ha3 with
        | 0, _ => exact ⟨0, rfl⟩
        | 1, _ => exact ⟨1, rfl⟩
        | 2, _ => exact ⟨a1, rfl⟩
        | 3, _ => exact ⟨a2, rfl⟩
      have hpl14 := e14 _ _ nplb hpl
      have e14 := e13.trans e14
      walk_at "ys"
      refine y_ixL hpl14 hpr ?_
      walk_at "ys"
      obtain ⟨p, hp, hpl⟩ : ∃ p : Nat, (if (lf : Int) < (pr : Int) then (lf : Int) else (pr : Int)) = (p : Int) ∧ p ≤ lf := ⟨min pr lf, by split <;> omega, by omega⟩
      rw [hp]
      walk_at "ys"
      obtain ⟨lf2, hlf2, hlf3⟩ : ∃ lf2 : Nat, (lf : Int) - (p : Int) = (lf2 : Int) ∧ lf2 + p = lf := ⟨lf - p, by omega, by omega⟩
      rw [hlf2]
      walk_at "ys"
      obtain ⟨lw, hlw, hlw1, hlw2, hlw3⟩ : ∃ lw : Nat, (if (p : Int) > 1 then (p : Int) else 1) = (lw : Int) ∧ 1 ≤ lw ∧ p ≤ lw ∧ lw ≤ L := ⟨max 1 p, by split <;> omega, by omega, by omega, by omega⟩
      rw [hlw]
      walk_at "ys"
      have em2 : (L : Int) - (lw : Int) + 1 = ((L - lw + 1 : Nat) : Int) := by omega
      rw [em2]
      refine ⟨b, L - lw + 1, B + 3 + 5 * i + 3, rfl, by omega, by omega, X14, by omega, fun a4 H15 ha4 e15 X15 => ?_⟩
      have e15 := e14.trans e15
      have em3 : (lw : Int) + (a4 : Int) = ((lw + a4 : Nat) : Int) := by omega
      walk_at "ys"
      rw [em3]
      refine ⟨sz_line (by simp), fun cl ncl => ?_⟩
      have e16 := e15.trans (.of (same_new0 (o := .lst [.int L, .int lw, .int (lw + a4 : Nat)]) ncl))
      have X16 := X15.same (same_new0 (o := .lst [.int L, .int lw, .int (lw + a4 : Nat)]) ncl)
      have hcl : upd H15 cl (.lst [.int L, .int lw, .int (lw + a4 : Nat)]) cl = some (.lst [.int L, .int lw, .int (lw + a4 : Nat)]) := upd_same
      have nclb : cl ≠ b := X15.ne ncl
      generalize upd H15 cl (.lst [.int L, .int lw, .int (lw + a4 : Nat)]) = H16 at *
      walk_at "ys"
      refine ⟨b, 3, B + 3 + 5 * i + 4, rfl, by omega, by omega, X16, by omega, fun a5 H17 ha5 e17 X17 => ?_⟩
      obtain ⟨ce, hce, hce1, hce2⟩ : ∃ ce : Nat, atI [V.int L, .int lw, .int (lw + a4 : Nat)] (a5 : Int) = some (.int ce) ∧ lw ≤ ce ∧ ce ≤ L := by
        match a5, ha5 with
        | 0, _ => exact ⟨L, rfl, hlw3, Nat.le_refl _⟩
        | 1, _ => exact ⟨lw, rfl, Nat.le_refl _, hlw3⟩
        | 2, _ => exact ⟨lw + a4, rfl, by omega, by omega⟩
      have hcl17 := e17 _ _ nclb hcl
      have e17 := e16.trans e17
      walk_at "ys"
      refine y_ixL hcl17 hce ?_
      walk_at "ys"
      refine ⟨sz_line (by simp), fun tt ntt => ?_⟩
      have e18 := e17.trans (.of (same_new0 (o := .tup [.int p, .int ce]) ntt))
      have X18 := X17.same (same_new0 (o := .tup [.int p, .int ce]) ntt)
      have htt : upd H17 tt (.tup [.int p, .int ce]) tt = some (.tup [.int p, .int ce]) := upd_same
      have nttb : tt ≠ b := X17.ne ntt
      have hgd17 := e17 _ _ ngb hgd9
      have nttg : tt ≠ gd := (ne_of_none hgd17 ntt).symm
      generalize upd H17 tt (.tup [.int p, .int ce]) = H18 at *
      have hgd18 := e18 _ _ ngb hgd9
      walk_at "ys"
      refine y_put hgd18 (sz_lt (by rw [List.length_map, List.length_take]; omega)) ?_
      rw [putK_new _ (by rw [valV_fun, if_neg hzn])]
      walk_at "ys"
      have hyz : ∀ y, y ∈ six.take i → ¬ y = z := fun y hy e => hzn (by rw [← e]; exact hy)
      have hf : ∀ {α : Type} (f : Str → α) (v : α) (y : Str), y ∈ six.take i → (if y = z then v else f y) = f y := fun f v y hy => if_neg (hyz y hy)
      refine ⟨_, _, _, _, fun y => if y = z then tt else tn y, fun y => if y = z then p else pn y, fun y => if y = z then ce else cn y, lf2, rfl, (e9.trans e18).mut ngH, ?_, ?_, ⟨?_, ?_, ?_, ?_⟩, ?_⟩
      · rw [upd_ne nslg]
        exact e18 _ _ nslb hsl9
      · exact (X18.put ngb).mono (by omega)
      · rw [upd_same, htake, List.map_append]
        congr 3
        · exact List.map_congr_left fun y hy => by rw [if_neg (hyz y hy)]
        · show _ = [((Sum.inr z : Key), V.ref (if z = z then tt else tn z))]
          rw [if_pos rfl]
      · intro y hy
        rw [htake, List.mem_append] at hy
        rcases hy with hy | hy
        · obtain ⟨h1, h2, h3⟩ := C.t y hy
          show upd H18 gd _ (if y = z then tt else tn y) = some (HO.tup [V.int ↑(if y = z then p else pn y), V.int ↑(if y = z then ce else cn y)]) ∧ (if y = z then tt else tn y) ≠ b ∧ (if y = z then tt else tn y) ≠ gd
          rw [hf tn tt y hy, hf pn p y hy, hf cn ce y hy]
          refine ⟨?_, h2, h3⟩
          rw [upd_ne h3]
          exact e18 _ _ h2 h1
        · obtain rfl := List.mem_singleton.mp hy
          rw [if_pos rfl, if_pos rfl, if_pos rfl]
          refine ⟨?_, nttb, nttg⟩
          rw [upd_ne nttg]
          exact htt
      · intro y hy
        rw [htake, List.mem_append] at hy
        rcases hy with hy | hy
        · show ((if y = z then p else pn y) ≤ if y = z then ce else cn y) ∧ (1 ≤ if y = z then ce else cn y) ∧ (if y = z then ce else cn y) ≤ L
          rw [hf pn p y hy, hf cn ce y hy]
          exact C.pc y hy
        · obtain rfl := List.mem_singleton.mp hy
          rw [if_pos rfl, if_pos rfl]
          omega
      · have hs : ((six.take (i + 1)).map fun y => if y = z then p else pn y).sum = ((six.take i).map pn).sum + p := by
          rw [htake, List.map_append, List.sum_append, List.map_congr_left fun y hy => hf pn p y hy]
          simp
        rw [hs]
        omega
      · have hs : ((six.take (i + 1)).map fun y => if y = z then p else pn y).sum = ((six.take i).map pn).sum + p := by
          rw [htake, List.map_append, List.sum_append, List.map_congr_left fun y hy => hf pn p y hy]
          simp
        rw [hs]
        omega
    · obtain ⟨u4, u5, u6, u7, tn, pn, cn, lf, rfl, e9, hsl9, X9, C, hlf⟩ := hP
      rw [List.length_map, hslen] at X9 C hlf
      have hgd9 := C.d
      have hnl : ((six.take m).map fun z => ((Sum.inr z : Key), V.ref (tn z))).map (fun kv => kV kv.1) = (six.take m).map V.str := by
        rw [List.map_map]
        rfl
      generalize hnm : six.take m = nm0 at *
      walk_at "ys"
      refine y_listK hgd9 (fun nl nnl => ?_)
      rw [hnl]
      have e10 := e9.trans (.of (same_new0 (o := .lst (nm0.map V.str)) nnl))
      have X10 := X9.same (same_new0 (o := .lst (nm0.map V.str)) nnl)
      have hnl10 : upd H9 nl (.lst (nm0.map V.str)) nl = some (.lst (nm0.map V.str)) := upd_same
      have nnlb : nl ≠ b := X9.ne nnl
      have nnlg : nl ≠ gd := (ne_of_none hgd9 nnl).symm
      have f10 : Same H9 (upd H9 nl (.lst (nm0.map V.str))) := same_new0 nnl
      have nnlH : H nl = none := e9.free nnlb nnl
      generalize upd H9 nl (.lst (nm0.map V.str)) = H10 at *
      have hgd10 := f10 _ _ hgd9
      walk_at "ys"
      rw [List.length_map, hslen]
      refine y_gotr1 (by omega) (by omega) ?_
      intro od nod
      have nodH : H od = none := e10.free (X10.ne nod) nod
      have nodb : od ≠ b := X10.ne nod
      have nodl : od ≠ nl := (ne_of_none hnl10 nod).symm
      refine lc_it walk_range (fun i H' => ∃ rest done : List Str, H' nl = some (.lst (rest.map V.str)) ∧ H' od = some (.lst (done.map V.str)) ∧ List.Perm (done ++ rest) nm0 ∧ done.length = i ∧ SameBut b H H' ∧ Box H' b (B + 33 + i) ∧ (∀ a u, a ≠ b → a ≠ nl → H10 a = some u → H' a = some u))
        ⟨nm0, [], up_new nod hnl10, upd_same, by simp, rfl, e10.mut nodH, (X10.put nodb).mono (by omega), fun a u _ _ h => up_new nod h⟩ (fun _ _ _ _ => trivial) (fun i x H11 H12 hi hP hY => ?_) (fun H11 hP => ?_)
      · obtain ⟨rest, done, hnl11, hod11, hpe, hdl, e11, X11, F11⟩ := hP
        obtain ⟨rfl, rfl⟩ := hY
        have hrl : done.length + rest.length = m := by rw [← List.length_append, hpe.length_eq, hslen]
        walk_at "ys"
        rw [List.length_map]
        refine ⟨b, rest.length, B + 33 + i, rfl, by omega, by omega, X11, by omega, fun r H13 hr13 e13 X13 => ?_⟩
        have hnl13 := e13 _ _ nnlb hnl11
        have hod13 := e13 _ _ nodb hod11
        walk_at "ys"
        refine y_popAt (y := .str rest[r]) hnl13 (by rw [List.getElem?_map, List.getElem?_eq_getElem hr13]; rfl) (by omega) ?_
        refine ⟨_, by rw [upd_ne nodl]; exact hod13, by rw [List.length_map]; exact sz_lt (by omega), rest.eraseIdx r, done ++ [rest[r]], ?_, ?_, ?_, by rw [List.length_append, hdl]; rfl, ((e11.trans e13).mut nnlH).mut nodH, ((X13.put nnlb).put nodb).mono (by omega), fun a u n1 n2 h => ?_⟩
        · rw [upd_ne (Ne.symm nodl), upd_same, erase_map]
        · rw [upd_same, List.map_append]
          rfl
        · refine List.Perm.trans ?_ hpe
          rw [List.append_assoc]
          exact List.Perm.append_left _ (erase_perm rest r hr13)
        · have nao : a ≠ od := fun z => by
            rw [z] at h
            rw [h] at nod
            cases nod
          rw [upd_ne nao, upd_ne n2]
          exact e13 _ _ n1 (F11 a u n1 n2 h)
      · obtain ⟨rest, done, hnl11, hod11, hpe, hdl, e11, X11, F11⟩ := hP
        have hrl : done.length + rest.length = m := by rw [← List.length_append, hpe.length_eq, hslen]
        have hmm : ((m : Int)).toNat = m := rfl
        obtain rfl : rest = [] := List.eq_nil_of_length_eq_zero (by omega)
        rw [List.append_nil] at hpe
        have hgd11 := F11 _ _ ngb (Ne.symm nnlg) hgd10
        have hdm : done.length = m := by simpa using hrl
        have ht11 : ∀ z, z ∈ done → H11 (tn z) = some (.tup [.int (pn z), .int (cn z)]) := fun z hz => by
          obtain ⟨h1, h2, h3⟩ := C.t z (hpe.mem_iff.mp hz)
          exact F11 _ _ h2 (ne_of_none h1 nnl) (f10 _ _ h1)
        walk_at "ys"
        intro pd npd
        refine lc_new (fun j => .tup [.str (nmF done j), .ref (tn (nmF done j))]) (fun _ _ z => by cases z) (walk_list (xs := done.map V.str)) npd (sz_lt (by rw [List.length_map]; omega)) (fun H' e => SqL.of (e _ _ hod11)) (fun j x H12 H13 Nx hj e12 hY c0 => ?_) (fun H12 as e12 hal ha hpd => ?_)
        · obtain ⟨rfl, hx⟩ := hY
          rw [List.length_map] at hj
          rw [List.getElem?_map, nmF_at hj] at hx
          have hx := Option.some.inj hx
          subst hx
          have hmem : nmF done j ∈ nm0 := hpe.mem_iff.mp (List.mem_of_getElem? (nmF_at hj))
          walk_at "ys"
          refine y_ixK (e12 _ _ hgd11) (by rw [valV_fun, if_pos hmem]) ?_
          walk_at "ys"
          refine ⟨sz_line (by simp), fun tp2 ntp2 => ?_⟩
          exact c0 tp2 _ (same_new0 ntp2) upd_same
        · rw [List.length_map] at hal
          have X12 := X11.same e12
          have hnd : done.Nodup := hpe.nodup_iff.mpr (by rw [← hnm]; exact (List.take_sublist _ _).nodup six_nd)
          walk_at "ys"
          refine y_dictP (kvs := done.map fun z => ((Sum.inr z : Key), V.ref (tn z))) hpd ?_ (fun g2 ng2 => ?_)
          · refine paired_idx (by rw [hal, List.length_map]) fun j a kv h1 h2 => ?_
            have hj : j < done.length := by
              have := (List.getElem?_eq_some_iff.mp h1).1
              omega
            rw [List.getElem?_map, nmF_at hj] at h2
            have h2 := Option.some.inj h2
            subst h2
            exact SqT.of (ha j a h1)
          · have hmg := merge_fun (fun z => V.ref (tn z)) done [] (by simpa using hnd)
            rw [List.map_nil, List.nil_append] at hmg
            rw [hmg]
            have f13 : Same H11 (upd H12 g2 (.dK (done.map fun z => ((Sum.inr z : Key), V.ref (tn z))))) := e12.trans (same_new0 ng2)
            have e13 : SameBut b H (upd H12 g2 (.dK (done.map fun z => ((Sum.inr z : Key), V.ref (tn z))))) := e11.trans (.of f13)
            have X13 := X12.same (same_new0 (o := .dK (done.map fun z => ((Sum.inr z : Key), V.ref (tn z)))) ng2)
            have hg2 : upd H12 g2 (.dK (done.map fun z => ((Sum.inr z : Key), V.ref (tn z)))) g2 = some (.dK (done.map fun z => ((Sum.inr z : Key), V.ref (tn z)))) := upd_same
            have ng2b : g2 ≠ b := X12.ne ng2
            have ng2H : H g2 = none := (e11.trans (.of e12)).free ng2b ng2
            generalize upd H12 g2 (.dK (done.map fun z => ((Sum.inr z : Key), V.ref (tn z)))) = H13 at *
            walk_at "ys"
            refine ⟨sz_line (by simp), fun t2 nt2 => ?_⟩
            have f14 : Same H13 (upd H13 t2 (.tup [.int L, .ref g2])) := same_new0 nt2
            refine q t2 g2 L done (done.map tn) (fun i => pn (nmF done i)) (fun i => cn (nmF done i)) _ (e13.trans (.of f14)) ng2H ((X13.same f14).mono (by omega)) ⟨upd_same, ?_, by rw [List.length_map], ?_, hnd, ?_, by omega, by omega, ⟨?_, ?_, ?_, ?_⟩, hL4, hL60⟩
            · rw [kvOf_fun]
              exact f14 _ _ hg2
            · intro i a h
              rw [List.getElem?_map] at h
              cases hy : done[i]? with
              | none =>
                rw [hy] at h
                cases h
              | some y =>
                rw [hy] at h
                have h := Option.some.inj h
                subst h
                rw [nmF_of hy]
                exact f14 _ _ (f13 _ _ (ht11 y (List.mem_of_getElem? hy)))
            · intro z hz
              have := hpe.mem_iff.mp hz
              rw [← hnm] at this
              exact List.mem_of_mem_take this
            · exact fun i hi => (C.pc _ (hpe.mem_iff.mp (List.mem_of_getElem? (nmF_at hi)))).1
            · exact fun i hi => (C.pc _ (hpe.mem_iff.mp (List.mem_of_getElem? (nmF_at hi)))).2.1
            · exact fun i hi => (C.pc _ (hpe.mem_iff.mp (List.mem_of_getElem? (nmF_at hi)))).2.2
            · rw [sum_fun pn done done.length (Nat.le_refl _), List.take_length, (hpe.map pn).sum_nat]
              exact C.sum
end
end K87
namespace K87
open PySem L2 Y

def nameV (nm : List Str) : Option Nat → V
  | none => .non
  | some i => .str (nmF nm i)
def BestP (p u : Nat → Nat) (m : Nat) : Option Nat → Prop
  | none => ∀ j, j < m → p j ≤ u j
  | some b => b < m ∧ u b < p b ∧ ∀ j, j < m → j ≠ b → u j < p j → (u b * p j < u j * p b ∨ (u b * p j = u j * p b ∧ b < j))
def onR (nm rs : List Str) (f : Nat → Nat) : Nat → Nat := fun j => if nmF nm j ∈ rs then f j else 0
theorem onR_in {nm rs : List Str} {f : Nat → Nat} {j : Nat} (h : nmF nm j ∈ rs) : onR nm rs f j = f j := if_pos h
theorem onR_out {nm rs : List Str} {f : Nat → Nat} {j : Nat} (h : ¬ nmF nm j ∈ rs) : onR nm rs f j = 0 := if_neg h
theorem inV_dec (z : Str) (rs : List Str) : inV (.str z) (rs.map V.str) = decide (z ∈ rs) := by
  unfold inV
  induction rs with
  | nil => simp
  | cons y rs ih =>
    rw [List.map_cons, List.any_cons, ih, eqV_str]
    by_cases e : y = z
    · simp [e]
    · have e' : ¬ z = y := fun x => e x.symm
      simp [e, e']
theorem y_inDec {K : PySem.W.Frag} {H : Hp} {Q : VK} {a : Addr} {z : Str} {rs : List Str} (h : H a = some (.lst (rs.map V.str))) (q : Q (.bl (decide (z ∈ rs))) H) : rInA K (.str z) (.ref a) H Q := y_inL h rfl (flat_strs rs) (by rw [inV_dec]; exact q)
theorem fm_ite' {α β : Type} (q : α → Prop) [DecidablePred q] (g : α → β) : ∀ l : List α, l.filterMap (fun j => if q j then some (g j) else none) = (l.filter fun j => decide (q j)).map g
  | [] => rfl
  | a :: l => by
    have ih := fm_ite' q g l
    rw [List.filterMap_cons, List.filter_cons]
    by_cases h : q a
    · simp only [if_pos h, decide_eq_true h, if_true, List.map_cons, ih]
    · simp only [if_neg h, decide_eq_false h, ih]
      rfl
theorem range_getD (l : List Nat) : (List.range l.length).map (fun m => l.getD m 0) = l := by
  refine List.ext_getElem? fun m => ?_
  rw [List.getElem?_map]
  by_cases h : m < l.length
  · rw [List.getElem?_range h, List.getElem?_eq_getElem h]
    show some (l.getD m 0) = _
    rw [List.getD_eq_getElem?_getD, List.getElem?_eq_getElem h]
    rfl
  · rw [List.getElem?_eq_none (by rw [List.length_range]; omega), List.getElem?_eq_none (by omega)]
    rfl
theorem fm_getD {β : Type} (g : Nat → Option β) (l : List Nat) : (List.range l.length).filterMap (fun m => g (l.getD m 0)) = l.filterMap g := by
  conv => rhs; rw [← range_getD l]
  rw [List.filterMap_map]
  rfl
def Free (n : Nat) (c u : Nat → Nat) : Option Nat → Prop
  | none => ∀ j, j < n → c j ≤ u j
  | some b => b < n ∧ u b < c b ∧ ∀ j, j < n → j ≠ b → u j < c j → u b < u j ∨ (u b = u j ∧ b < j)
theorem best_promise {n b : Nat} {p c u : Nat → Nat} (pc : ∀ j, j < n → p j ≤ c j) (h : BestP p u n (some b)) : Deal.Best n p c u (some b) := by
  obtain ⟨h1, h2, h3⟩ := h
  have := pc b h1
  refine ⟨h1, by omega, fun j hj hne hc => .inl ⟨h2, ?_⟩⟩
  by_cases hp : u j < p j
  · rcases h3 j hj hne hp with z | z
    · exact .inr (.inl z)
    · exact .inr (.inr ⟨z.1, decide_eq_true z.2⟩)
  · exact .inl (by omega)
theorem best_free {n : Nat} {b : Option Nat} {p c u : Nat → Nat} (h : BestP p u n none) (h2 : Free n c u b) : Deal.Best n p c u b := by
  cases b with
  | none => exact h2
  | some b =>
    obtain ⟨h3, h4, h5⟩ := h2
    refine ⟨h3, h4, fun j hj hne hc => .inr ⟨h b h3, h j hj, ?_⟩⟩
    rcases h5 j hj hne hc with z | z
    · exact .inl z
    · exact .inr ⟨z.1, decide_eq_true z.2⟩
/-- the first best of a part of a sorted list -/
def LB (l : List Nat) (ok : Nat → Prop) (lt : Nat → Nat → Prop) (m : Nat) : Option Nat → Prop
  | none => ∀ j, j ∈ l.take m → ¬ ok j
  | some b => b ∈ l.take m ∧ ok b ∧ ∀ j, j ∈ l.take m → j ≠ b → ok j → lt b j ∨ (¬ lt j b ∧ b < j)
theorem take_more {l : List Nat} {m i : Nat} (hi : l[m]? = some i) (j : Nat) : j ∈ l.take (m + 1) ↔ j ∈ l.take m ∨ j = i := by
  rw [List.take_add_one, hi, List.mem_append]
  simp
theorem take_lt {l : List Nat} (s : l.Pairwise (· < ·)) {m i j : Nat} (hi : l[m]? = some i) (hj : j ∈ l.take m) : j < i := by
  obtain ⟨k, hk, e⟩ := List.mem_iff_getElem.mp hj
  rw [List.length_take] at hk
  rw [List.getElem_take] at e
  obtain ⟨hm, e2⟩ := List.getElem?_eq_some_iff.mp hi
  rw [← e, ← e2]
  exact List.pairwise_iff_getElem.mp s k m (by omega) hm (by omega)
theorem lb_skip {l : List Nat} {ok : Nat → Prop} {lt : Nat → Nat → Prop} {m i : Nat} {o : Option Nat} (h : LB l ok lt m o) (hi : l[m]? = some i) (no : ¬ ok i) : LB l ok lt (m + 1) o := by
  cases o with
  | none =>
    intro j hj
    rcases (take_more hi j).mp hj with z | z
    · exact h j z
    · rw [z]; exact no
  | some b =>
    obtain ⟨h1, h2, h3⟩ := h
    refine ⟨(take_more hi b).mpr (.inl h1), h2, fun j hj hne hk => ?_⟩
    rcases (take_more hi j).mp hj with z | z
    · exact h3 j z hne hk
    · rw [z] at hk; exact absurd hk no
theorem lb_keep {l : List Nat} (s : l.Pairwise (· < ·)) {ok : Nat → Prop} {lt : Nat → Nat → Prop} {m i b : Nat} (h : LB l ok lt m (some b)) (hi : l[m]? = some i) (no : ¬ lt i b) : LB l ok lt (m + 1) (some b) := by
  obtain ⟨h1, h2, h3⟩ := h
  refine ⟨(take_more hi b).mpr (.inl h1), h2, fun j hj hne hk => ?_⟩
  rcases (take_more hi j).mp hj with z | z
  · exact h3 j z hne hk
  · rw [z]
    exact .inr ⟨no, take_lt s hi h1⟩
theorem lb_new {l : List Nat} {ok : Nat → Prop} {lt : Nat → Nat → Prop} {m i : Nat} {o : Option Nat} (h : LB l ok lt m o) (hi : l[m]? = some i) (yes : ok i) (as : ∀ a b, lt a b → ¬ lt b a) (nt : ∀ a b j, ok a → ok b → ok j → lt a b → ¬ lt j b → lt a j) (b : ∀ b, o = some b → lt i b) : LB l ok lt (m + 1) (some i) := by
  refine ⟨(take_more hi i).mpr (.inr rfl), yes, fun j hj hne hk => ?_⟩
  rcases (take_more hi j).mp hj with z | z
  · cases o with
    | none => exact absurd hk (h j z)
    | some b' =>
      obtain ⟨h1, h2, h3⟩ := h
      have hb := b b' rfl
      by_cases e : j = b'
      · rw [e]; exact .inl hb
      · rcases h3 j z e hk with y | y
        · exact .inl (nt i b' j yes h2 hk hb (as _ _ y))
        · exact .inl (nt i b' j yes h2 hk hb y.1)
  · exact absurd z hne
theorem lb_nil (l : List Nat) (ok : Nat → Prop) (lt : Nat → Nat → Prop) : LB l ok lt 0 none := fun j hj => by simp at hj
theorem bestR_of {nm rs : List Str} {p c u : Nat → Nat} {b : Option Nat} (h : Deal.Best nm.length (onR nm rs p) (onR nm rs c) u b) : Deal.BestR nm.length p c u (fun j => nmF nm j ∈ rs) b := by
  cases b with
  | none =>
    intro j hj hr
    have := h j hj
    rw [onR_in hr] at this
    exact this
  | some b =>
    obtain ⟨h1, h2, h3⟩ := h
    have hb : nmF nm b ∈ rs := by
      refine Decidable.byContradiction fun z => ?_
      rw [onR_out z] at h2
      omega
    rw [onR_in hb] at h2
    refine ⟨h1, hb, h2, fun j hj hr hne hc => ?_⟩
    have := h3 j hj hne (by rw [onR_in hr]; exact hc)
    rw [onR_in hr, onR_in hb] at this
    exact this
section
variable {P : Program} {w : World} {K : PySem.W.Frag} {mg : Str → Option Value} {base : Heap}
def sp__law_deal (K : PySem.W.Frag) : Sp := fun vs H Q _ => ∃ (g : Addr) (o : Obj) (nm : List Str) (ts : List Addr) (p c : Nat → Nat) (ud r : Addr) (u : Nat → Nat) (rs : List Str), vs = [.ref g, .ref ud, .ref r] ∧ Gs H g o nm ts p c ∧ (∀ i, i < nm.length → p i ≤ c i ∧ c i ≤ 100 ∧ u i ≤ c i) ∧ H ud = some (.dK (usedOf nm u)) ∧ H r = some (.lst (rs.map V.str)) ∧
  ∀ b H', Same H H' → Deal.Best nm.length (onR nm rs p) (onR nm rs c) u b → Q (nameV nm b) H'
theorem ok__law_deal {f : Addr} {fd : FuncData} (T : Txt K mg) (F : Fun K "_law_deal" "_law_deal" s__law_deal f fd) : FnOk P w K mg base CX0 1 f fd ["guests", "used", "ready"] (sp__law_deal K) := by
  have scp := sc__law_deal
  refine F.ok sc__law_deal (fun vs H Q E h => ?_) (fun cdv A outer s H vs Q E hr h => ?_)
  · first | (obtain ⟨rfl, _⟩ := h; rfl) | (obtain ⟨_, rfl, _⟩ := h; rfl) | (obtain ⟨_, _, rfl, _⟩ := h; rfl) | (obtain ⟨_, _, _, rfl, _⟩ := h; rfl) | (obtain ⟨_, _, _, _, rfl, _⟩ := h; rfl) | (obtain ⟨_, _, _, _, _, rfl, _⟩ := h; rfl) | (obtain ⟨_, _, _, _, _, _, rfl, _⟩ := h; rfl) | (obtain ⟨_, _, _, _, _, _, _, rfl, _⟩ := h; rfl) | (obtain ⟨_, _, _, _, _, _, _, _, rfl, _⟩ := h; rfl) | (obtain ⟨_, _, _, _, _, _, _, _, _, rfl, _⟩ := h; rfl) | (obtain ⟨_, _, _, _, _, _, _, _, _, _, rfl, _⟩ := h; rfl) | (obtain ⟨_, _, _, _, _, _, _, _, _, _, _, rfl, _⟩ := h; rfl) | (obtain ⟨_, _, _, _, _, _, _, _, _, _, _, _, rfl, _⟩ := h; rfl) | (obtain ⟨_, _, _, _, _, _, _, _, _, _, _, _, _, rfl, _⟩ := h; rfl) | (obtain ⟨_, _, _, _, _, _, _, _, _, _, _, _, _, _, rfl, _⟩ := h; rfl) | (obtain ⟨_, _, _, _, _, _, _, _, _, _, _, _, _, _, _, rfl, _⟩ := h; rfl) | (obtain ⟨_, _, _, _, _, _, _, _, _, _, _, _, _, _, _, _, rfl, _⟩ := h; rfl) | (obtain ⟨_, _, _, _, _, _, _, _, _, _, _, _, _, _, _, _, _, rfl, _⟩ := h; rfl) | (obtain ⟨_, _, _, _, _, _, _, _, _, _, _, _, _, _, _, _, _, _, rfl, _⟩ := h; rfl) | (obtain ⟨_, _, _, _, _, _, _, _, _, _, _, _, _, _, _, _, _, _, _, rfl, _⟩ := h; rfl) | (obtain ⟨_, _, _, _, _, _, _, _, _, _, _, _, _, _, _, _, _, _, _, _, rfl, _⟩ := h; rfl) | (obtain ⟨_, _, _, _, _, _, _, _, _, _, _, _, _, _, _, _, _, _, _, _, _, rfl, _⟩ := h; rfl) | (obtain ⟨_, _, _, _, _, _, _, _, _, _, _, _, _, _, _, _, _, _, _, _, _, _, rfl, _⟩ := h; rfl) | (obtain ⟨_, _, _, _, _, _, _, _, _, _, _, _, _, _, _, _, _, _, _, _, _, _, _, rfl, _⟩ := h; rfl) | (obtain ⟨_, _, _, _, _, _, _, _, _, _, _, _, _, _, _, _, _, _, _, _, _, _, _, _, rfl, _⟩ := h; rfl) | (obtain ⟨_, _, _, _, _, _, _, _, _, _, _, _, _, _, _, _, _, _, _, _, _, _, _, _, _, rfl, _⟩ := h; rfl) | (obtain ⟨_, _, _, _, _, _, _, _, _, _, _, _, _, _, _, _, _, _, _, _, _, _, _, _, _, _, rfl, _⟩ := h; rfl) | (obtain ⟨_, _, _, _, _, _, _, _, _, _, _, _, _, _, _, _, _, _, _, _, _, _, _, _, _, _, _, rfl, _⟩ := h; rfl)
  · obtain ⟨g, o, nm, ts, p, c, ud, r, u, rs, rfl, G, hlim, hud, hr0, q⟩ := h
    have hu := hu_of hr
    have hv := hr.units
    have hd := G.d
    have hfew := G.few
    have tsx : ∀ j, j < nm.length → ∃ t, ts[j]? = some t := fun j hj => ⟨_, List.getElem?_eq_getElem (show j < ts.length by rw [G.len]; exact hj)⟩
    refine ⟨_, (pss_cons (ps_setLc (i := 3) (own := [("name", 6)]) (g := gName 6) rfl scp.nd rfl rfl (sw_true rfl rfl rfl (by decide +kernel)) (pi_keys (pv 0)) (blkOk_by (own := [("name", 6)]) (N := ["guests", "used", "ready", "names", "first", "best", "name"]) (sc := defScope s__law_deal) (by decide +kernel)) (fun _ _ _ _ _ => (pg_name (i := 6) scp.nd rfl (by first | exact Or.inl rfl | exact Or.inr rfl))) (fun _ _ _ _ _ => (pts_one (pt_cmpR (op_inK (K := K) hu) (pv 6) (pv 2) (by rfl)))) (fun _ _ _ _ _ => (pv 6)))
  (pss_cons (ps_setLc (i := 4) (own := [("name", 6)]) (g := gName 6) rfl scp.nd rfl rfl (sw_true rfl rfl rfl (by decide +kernel)) (pi_listK (K := K) (pv 3)) (blkOk_by (own := [("name", 6)]) (N := ["guests", "used", "ready", "names", "first", "best", "name"]) (sc := defScope s__law_deal) (by decide +kernel)) (fun _ _ _ _ _ => (pg_name (i := 6) scp.nd rfl (by first | exact Or.inl rfl | exact Or.inr rfl))) (fun _ _ _ _ _ => (pts_one (pt_cmpR op_ltI (pe_ix (ix_anyK (K := K) hu) (pv 1) (pv 6) (fun _ _ => rfl)) (pe_ix (ix_anyK (K := K) hu) (pe_ix (ix_anyK (K := K) hu) (pv 0) (pv 6) (fun _ _ => rfl)) pe_int (fun _ _ => rfl)) (nomark _)))) (fun _ _ _ _ _ => (pv 6)))
  (pss_cons (ps_set (i := 5) scp.nd rfl (by first | exact Or.inl rfl | exact Or.inr rfl) pe_non)
  (pss_cons (ps_for PassesOwn.never rfl (pi_listK (K := K) (pv 4)) (pg_name (i := 6) scp.nd rfl (by first | exact Or.inl rfl | exact Or.inr rfl))
  (pss_one (ps_if (PW.pt (pw_or (pt_cmpR op_isNo (pv 5) pe_non (nomark _)) (pw_or1 (pt_cmpR op_ltI (pe_op op_times (pe_ix (ix_anyK (K := K) hu) (pv 1) (pv 6) (fun _ _ => rfl)) (pe_ix (ix_anyK (K := K) hu) (pe_ix (ix_anyK (K := K) hu) (pv 0) (pv 5) (fun _ _ => rfl)) pe_int (fun _ _ => rfl))) (pe_op op_times (pe_ix (ix_anyK (K := K) hu) (pv 1) (pv 5) (fun _ _ => rfl)) (pe_ix (ix_anyK (K := K) hu) (pe_ix (ix_anyK (K := K) hu) (pv 0) (pv 6) (fun _ _ => rfl)) pe_int (fun _ _ => rfl))) (nomark _)))))
  (pss_one (ps_set (i := 5) scp.nd rfl (by first | exact Or.inl rfl | exact Or.inr rfl) (pv 6)))
  pss_nil)))
  (pss_cons (ps_if (pt_cmpR op_notNo (pv 5) pe_non (nomark _))
  (pss_one (ps_ret (pv 5)))
  pss_nil)
  (pss_cons (ps_for PassesOwn.never rfl (pi_listK (K := K) (pv 3)) (pg_name (i := 6) scp.nd rfl (by first | exact Or.inl rfl | exact Or.inr rfl))
  (pss_one (ps_if (PW.pt (pw_and (pt_cmpR op_ltI (pe_ix (ix_anyK (K := K) hu) (pv 1) (pv 6) (fun _ _ => rfl)) (pe_ix (ix_anyK (K := K) hu) (pe_ix (ix_anyK (K := K) hu) (pv 0) (pv 6) (fun _ _ => rfl)) pe_int (fun _ _ => rfl)) (nomark _)) (pw_and1 (PW.pt (pw_or (pt_cmpR op_isNo (pv 5) pe_non (nomark _)) (pw_or1 (pt_cmpR op_ltI (pe_ix (ix_anyK (K := K) hu) (pv 1) (pv 6) (fun _ _ => rfl)) (pe_ix (ix_anyK (K := K) hu) (pv 1) (pv 5) (fun _ _ => rfl)) (nomark _))))))))
  (pss_one (ps_set (i := 5) scp.nd rfl (by first | exact Or.inl rfl | exact Or.inr rfl) (pv 6)))
  pss_nil)))
  (pss_one (ps_ret (pv 5))))))))), ?_⟩
    walk_at "ys"
    intro D nD
    refine lc_gen (fun j => if nmF nm j ∈ rs then some (.str (nmF nm j)) else none) walk_keys nD (sz_lt (by rw [kvOf_len G.len]; omega)) (fun H' e' => e' _ _ hd) (fun i x H2 H3 Nx hi e2 hY k k0 => ?_) (fun H2 e2 hD => ?_)
    · obtain ⟨rfl, kk, v, hkv, rfl⟩ := hY
      obtain ⟨z, t, hz, ht, rfl, rfl⟩ := kvOf_at hkv
      obtain rfl : nmF nm i = z := nmF_of hz
      have hr2 := e2 _ _ hr0
      walk_at "ys"
      refine y_inDec hr2 ?_
      walk_at "ys"
      refine y_d2 (fun g0 => ?_) (fun g0 => ?_)
      · walk_at "ys"
        exact k _ _ (if_pos g0) (Same.refl _)
      · exact k0 _ (if_neg g0) (Same.refl _)
    · rw [kvOf_len G.len, fm_ite'] at hD
      generalize ha1 : (List.range nm.length).filter (fun j => decide (nmF nm j ∈ rs)) = a1 at *
      have ha1m : ∀ j, j ∈ a1 ↔ j < nm.length ∧ nmF nm j ∈ rs := fun j => by
        rw [← ha1, List.mem_filter, List.mem_range, decide_eq_true_eq]
      have ha1l : a1.length ≤ nm.length := by
        rw [← ha1]
        refine Nat.le_trans (List.length_filter_le _ _) ?_
        rw [List.length_range]
        exact Nat.le_refl _
      have ha1s : a1.Pairwise (· < ·) := by
        rw [← ha1]
        exact List.Pairwise.filter _ List.pairwise_lt_range
      have G2 := G.same e2
      have hud2 := e2 _ _ hud
      have hd2 := e2 _ _ hd
      walk_at "ys"
      intro E nE
      refine lc_gen (fun m => (fun j => if u j < p j then some (V.str (nmF nm j)) else none) (a1.getD m 0)) walk_list nE (sz_lt (by rw [List.length_map]; omega)) (fun H' e' => SqL.of (e' _ _ hD)) (fun m x H4 H5 Nx hm e4 hY k k0 => ?_) (fun H4 e4 hE => ?_)
      · obtain ⟨rfl, hx⟩ := hY
        rw [List.length_map] at hm
        rw [List.getElem?_map, List.getElem?_eq_getElem hm] at hx
        have hx := Option.some.inj hx
        subst hx
        have hg : a1.getD m 0 = a1[m] := by
          rw [List.getD_eq_getElem?_getD, List.getElem?_eq_getElem hm]
          rfl
        rw [hg] at k k0
        obtain ⟨hj, hjr⟩ := (ha1m _).mp (List.getElem_mem hm)
        generalize a1[m] = j at *
        obtain ⟨t, ht⟩ := tsx j hj
        have ht4 := e4 _ _ (G2.t j t ht)
        walk_at "ys"
        refine y_ixK (e4 _ _ hud2) (valV_used G.nd u hj) ?_
        walk_at "ys"
        refine y_ixF (e4 _ _ hd2) (valV_kvOf G.nd (nmF_at hj) ht) ?_
        walk_at "ys"
        refine y_d2 (fun g1 => ?_) (fun g1 => ?_)
        · walk_at "ys"
          exact k _ _ (if_pos (by omega)) (Same.refl _)
        · exact k0 _ (if_neg (by omega)) (Same.refl _)
      · rw [List.length_map, fm_getD (fun j => if u j < p j then some (V.str (nmF nm j)) else none), fm_ite'] at hE
        generalize hf1 : a1.filter (fun j => decide (u j < p j)) = f1 at hE
        have hf1m : ∀ j, j ∈ f1 ↔ j < nm.length ∧ nmF nm j ∈ rs ∧ u j < p j := fun j => by
          rw [← hf1, List.mem_filter, ha1m, decide_eq_true_eq, and_assoc]
        have hf1s : f1.Pairwise (· < ·) := by
          rw [← hf1]
          exact List.Pairwise.filter _ ha1s
        have hf1l : f1.length ≤ nm.length := by
          rw [← hf1]
          exact Nat.le_trans (List.length_filter_le _ _) ha1l
        have e5 := e2.trans e4
        have hD4 := e4 _ _ hD
        have hud4 := e4 _ _ hud2
        have hd4 := e4 _ _ hd2
        have G4 := G2.same e4
        walk_at "ys"
        refine for_it (walk_list (xs := f1.map fun j => V.str (nmF nm j))) (fun m σ H' => ∃ (bst : Option Nat) (u6 : Option V), σ = [some (.ref g), some (.ref ud), some (.ref r), some (.ref D), some (.ref E), some (nameV nm bst), u6] ∧ H' = H4 ∧ LB f1 (fun j => j ∈ f1) (fun i b => u i * p b < u b * p i) m bst)
          ⟨none, none, rfl, rfl, lb_nil _ _ _⟩ (fun i σ H' _ h => ?_) (fun m x σ H6 H7 hm hP hY => ?_) (fun σ H6 hP => ?_)
        · obtain ⟨_, _, _, e, _⟩ := h
          rw [e]
          exact SqL.of hE
        · obtain ⟨bst, u6, rfl, rfl, hB⟩ := hP
          obtain ⟨rfl, hx⟩ := hY
          rw [List.length_map] at hm
          have hi := List.getElem?_eq_getElem hm
          rw [List.getElem?_map, hi] at hx
          have hx := Option.some.inj hx
          subst hx
          have hif := List.getElem_mem hm
          generalize f1[m] = i at *
          obtain ⟨hin, hir, hip⟩ := (hf1m i).mp hif
          obtain ⟨ti, hti⟩ := tsx i hin
          have htt := G4.t i ti hti
          have li := hlim i hin
          have nt : ∀ a b j, a ∈ f1 → b ∈ f1 → j ∈ f1 → u a * p b < u b * p a → ¬ u j * p b < u b * p j → u a * p j < u j * p a := fun a b j ha hb hj h1 h2 => by
            have := (hf1m b).mp hb
            have := (hf1m j).mp hj
            exact Deal.frac_lt (q := p b) (b := u b) (by omega) (by omega) h1 (by omega)
          walk_at "ys"
          cases bst with
          | none =>
            walk_at "ys"
            exact ⟨some i, _, rfl, rfl, lb_new hB hi hif (fun a b h1 h2 => by omega) nt (fun b h => nomatch h)⟩
          | some b =>
            have hbf : b ∈ f1 := hB.2.1
            obtain ⟨hbn, hbr, hbp⟩ := (hf1m b).mp hbf
            obtain ⟨tb, htb⟩ := tsx b hbn
            have httb := G4.t b tb htb
            have lb := hlim b hbn
            refine y_dF (fun z => nomatch z) ?_
            walk_at "ys"
            refine y_ixK hud4 (valV_used G.nd u hin) ?_
            walk_at "ys"
            refine y_ixF hd4 (valV_kvOf G.nd (nmF_at hbn) htb) ?_
            walk_at "ys"
            refine y_mulI (cmul_small (by omega) (by omega)) ?_
            walk_at "ys"
            refine y_ixK hud4 (valV_used G.nd u hbn) ?_
            walk_at "ys"
            refine y_ixF hd4 (valV_kvOf G.nd (nmF_at hin) hti) ?_
            walk_at "ys"
            refine y_mulI (cmul_small (by omega) (by omega)) ?_
            walk_at "ys"
            rw [← Int.natCast_mul, ← Int.natCast_mul]
            refine y_d2 (fun g2 => ?_) (fun g2 => ?_)
            · walk_at "ys"
              exact ⟨some i, _, rfl, rfl, lb_new hB hi hif (fun a b h1 h2 => by omega) nt (fun b' h => by cases h; omega)⟩
            · walk_at "ys"
              exact ⟨some b, _, rfl, rfl, lb_keep hf1s hB hi (by omega)⟩
        · obtain ⟨bst, u6, rfl, rfl, hB⟩ := hP
          rw [List.length_map] at hB
          cases bst with
          | some b =>
            walk_at "ys"
            refine y_ndF (fun z => nomatch z) ?_
            walk_at "ys"
            obtain ⟨h1, h2, h3⟩ := hB
            rw [List.take_length] at h1 h3
            obtain ⟨hbn, hbr, hbp⟩ := (hf1m b).mp h1
            refine q (some b) _ e5 (best_promise (fun j hj => ?_) ⟨hbn, by rw [onR_in hbr]; exact hbp, fun j hj hne hp => ?_⟩)
            · unfold onR
              split
              · exact (hlim j hj).1
              · exact Nat.le_refl _
            · have hjr : nmF nm j ∈ rs := by
                refine Decidable.byContradiction fun z => ?_
                rw [onR_out z] at hp
                omega
              rw [onR_in hjr] at hp ⊢
              rw [onR_in hbr]
              have hjf : j ∈ f1 := (hf1m j).mpr ⟨hj, hjr, hp⟩
              rcases h3 j hjf hne hjf with z | z
              · exact .inl z
              · by_cases e : u b * p j = u j * p b
                · exact .inr ⟨e, z.2⟩
                · exact .inl (by have := z.1; omega)
          | none =>
            have hB0 : BestP (onR nm rs p) u nm.length none := fun j hj => by
              rw [show LB f1 (fun j => j ∈ f1) (fun i b => u i * p b < u b * p i) f1.length none = ∀ j, j ∈ f1.take f1.length → ¬ j ∈ f1 from rfl, List.take_length] at hB
              by_cases hjr : nmF nm j ∈ rs
              · rw [onR_in hjr]
                refine Nat.le_of_not_lt fun z => ?_
                have := (hf1m j).mpr ⟨hj, hjr, z⟩
                exact hB j this this
              · rw [onR_out hjr]
                exact Nat.zero_le _
            walk_at "ys"
            refine for_it (walk_list (xs := a1.map fun j => V.str (nmF nm j))) (fun m σ H' => ∃ (bst : Option Nat) (u6 : Option V), σ = [some (.ref g), some (.ref ud), some (.ref r), some (.ref D), some (.ref E), some (nameV nm bst), u6] ∧ H' = H6 ∧ LB a1 (fun j => j ∈ a1 ∧ u j < c j) (fun i b => u i < u b) m bst)
              ⟨none, u6, rfl, rfl, lb_nil _ _ _⟩ (fun i σ H' _ h => ?_) (fun m x σ H7 H8 hm hP hY => ?_) (fun σ H7 hP => ?_)
            · obtain ⟨_, _, _, e, _⟩ := h
              rw [e]
              exact SqL.of hD4
            · obtain ⟨bst, u6, rfl, rfl, hB⟩ := hP
              obtain ⟨rfl, hx⟩ := hY
              rw [List.length_map] at hm
              have hi := List.getElem?_eq_getElem hm
              rw [List.getElem?_map, hi] at hx
              have hx := Option.some.inj hx
              subst hx
              have hia := List.getElem_mem hm
              generalize a1[m] = i at *
              obtain ⟨hin, hir⟩ := (ha1m i).mp hia
              obtain ⟨ti, hti⟩ := tsx i hin
              have htt := G4.t i ti hti
              walk_at "ys"
              refine y_ixK hud4 (valV_used G.nd u hin) ?_
              walk_at "ys"
              refine y_ixF hd4 (valV_kvOf G.nd (nmF_at hin) hti) ?_
              walk_at "ys"
              refine y_d2 (fun g1 => ?_) (fun g1 => ?_)
              · cases bst with
                | none =>
                  walk_at "ys"
                  exact ⟨some i, _, rfl, rfl, lb_new hB hi ⟨hia, by omega⟩ (fun a b h1 h2 => by omega) (fun a b j _ _ _ h1 h2 => by omega) (fun b h => nomatch h)⟩
                | some b =>
                  obtain ⟨hbn, hbr⟩ := (ha1m b).mp hB.2.1.1
                  walk_at "ys"
                  refine y_dF (fun z => nomatch z) ?_
                  walk_at "ys"
                  refine y_ixK hud4 (valV_used G.nd u hin) ?_
                  walk_at "ys"
                  refine y_ixK hud4 (valV_used G.nd u hbn) ?_
                  walk_at "ys"
                  refine y_d2 (fun g2 => ?_) (fun g2 => ?_)
                  · walk_at "ys"
                    exact ⟨some i, _, rfl, rfl, lb_new hB hi ⟨hia, by omega⟩ (fun a b h1 h2 => by omega) (fun a b j _ _ _ h1 h2 => by omega) (fun b' h => by cases h; omega)⟩
                  · walk_at "ys"
                    exact ⟨some b, _, rfl, rfl, lb_keep ha1s hB hi (by omega)⟩
              · walk_at "ys"
                exact ⟨bst, _, rfl, rfl, lb_skip hB hi (fun z => by omega)⟩
            · obtain ⟨bst, u6, rfl, rfl, hB⟩ := hP
              rw [List.length_map] at hB
              walk_at "ys"
              refine q bst _ e5 (best_free hB0 ?_)
              cases bst with
              | none =>
                have hB : ∀ j, j ∈ a1.take a1.length → ¬ (j ∈ a1 ∧ u j < c j) := hB
                rw [List.take_length] at hB
                intro j hj
                by_cases hjr : nmF nm j ∈ rs
                · rw [onR_in hjr]
                  have hja := (ha1m j).mpr ⟨hj, hjr⟩
                  have := hB j hja
                  refine Nat.le_of_not_lt fun z => this ⟨hja, z⟩
                · rw [onR_out hjr]
                  exact Nat.zero_le _
              | some b =>
                obtain ⟨h1, h2, h3⟩ := hB
                rw [List.take_length] at h1 h3
                obtain ⟨hbn, hbr⟩ := (ha1m b).mp h1
                refine ⟨hbn, by rw [onR_in hbr]; exact h2.2, fun j hj hne hc => ?_⟩
                have hjr : nmF nm j ∈ rs := by
                  refine Decidable.byContradiction fun z => ?_
                  rw [onR_out z] at hc
                  omega
                rw [onR_in hjr] at hc
                have hja := (ha1m j).mpr ⟨hj, hjr⟩
                rcases h3 j hja hne ⟨hja, hc⟩ with z | z
                · exact .inl z
                · by_cases e : u b = u j
                  · exact .inr ⟨e, z.2⟩
                  · exact .inl (by have := z.1; omega)
end
end K87
namespace K87
open PySem L2 Y

theorem y_cut {α : Type} {s s' : TS} {nx : L2.St → Hp → Prop} {rt : VK} {bk ct : L2.St → Hp → Prop} {σ : L2.St} {H : Hp} (Pm : α → L2.St → Hp → Prop) (tail : ∀ a σ' H', Pm a σ' H' → s' ⟨nx, rt, bk, ct⟩ σ' H') (h : (∀ a σ' H', Pm a σ' H' → s' ⟨nx, rt, bk, ct⟩ σ' H') → s ⟨s' ⟨nx, rt, bk, ct⟩, rt, bk, ct⟩ σ H) : tSeq s s' ⟨nx, rt, bk, ct⟩ σ H := h tail
/-- lists of names, turn by turn -/
def Ch (H : Hp) (ch : Addr) (L : Nat) (rr : Nat → List Str) : Prop := ∃ ra : Nat → Addr, H ch = some (.lst ((List.range L).map fun t => .ref (ra t))) ∧ ∀ t, t < L → H (ra t) = some (.lst ((rr t).map V.str))
theorem Ch.same {H H' : Hp} {ch : Addr} {L : Nat} {rr : Nat → List Str} (C : Ch H ch L rr) (e : Same H H') : Ch H' ch L rr := by
  obtain ⟨ra, h1, h2⟩ := C
  exact ⟨ra, e _ _ h1, fun t ht => e _ _ (h2 t ht)⟩
def gotV (d : List (Option Nat)) (i : Nat) : List V := (Deal.got d 0 i).map fun x => V.int (x : Nat)
theorem gotV_snoc (d : List (Option Nat)) (x : Option Nat) (i : Nat) : gotV (d ++ [x]) i = if x = some i then gotV d i ++ [.int ((d.length + 1 : Nat) : Int)] else gotV d i := by
  unfold gotV
  rw [Deal.got_snoc]
  split
  · rw [List.map_append]
    rfl
  · rfl
theorem run_cnt {n : Nat} {p c : Nat → Nat} {R : Nat → Nat → Prop} {d : List (Option Nat)} (h : Deal.Run n p c R d) {j : Nat} (hj : j < n) : Deal.cnt d j ≤ c j := by
  have := Deal.run_le h d.length (Nat.le_refl _) j hj
  rwa [List.take_length] at this
section
variable {P : Program} {w : World} {K : PySem.W.Frag} {mg : Str → Option Value} {base : Heap}
def sp__law_stretch (K : PySem.W.Frag) : Sp := fun vs H Q _ => ∃ (L : Nat) (g ch : Addr) (o : Obj) (nm : List Str) (ts : List Addr) (p c : Nat → Nat) (i : Nat) (rr : Nat → List Str), vs = [.ref g, .int L, .str (nmF nm i), .ref ch] ∧ Gs H g o nm ts p c ∧ Deal.Ok nm.length L p c ∧ i < nm.length ∧ L ≤ 60 ∧ Ch H ch L rr ∧ (∀ t, t < L → (rr t).length ≤ 100) ∧
  ∀ d fl H', Same H H' → H fl = none → H' fl = some (.lst (gotV d i)) → Deal.Run nm.length p c (fun t j => nmF nm j ∈ rr t ++ [nmF nm i]) d → d.length = L → Q (.ref fl) H'
theorem ok__law_stretch {f : Addr} {fd : FuncData} (T : Txt K mg) (F : Fun K "_law_stretch" "_law_stretch" s__law_stretch f fd) : FnOk P w K mg base CX0 2 f fd ["guests", "length", "name", "choose"] (sp__law_stretch K) := by
  obtain ⟨f__law_deal, fd__law_deal, g__law_deal, F__law_deal⟩ := T.d__law_deal
  have G__law_deal := ok__law_deal (P := P) (w := w) (base := base) T F__law_deal
  have b__law_deal := F__law_deal.binds (ps := ["guests", "used", "ready"]) fun _ _ _ _ _ _ us hl => match us, hl with | [_, _, _], _ => rfl
  have scp := sc__law_stretch
  refine F.ok sc__law_stretch (fun vs H Q E h => ?_) (fun cdv A outer s H vs Q E hr h => ?_)
  · first | (obtain ⟨rfl, _⟩ := h; rfl) | (obtain ⟨_, rfl, _⟩ := h; rfl) | (obtain ⟨_, _, rfl, _⟩ := h; rfl) | (obtain ⟨_, _, _, rfl, _⟩ := h; rfl) | (obtain ⟨_, _, _, _, rfl, _⟩ := h; rfl) | (obtain ⟨_, _, _, _, _, rfl, _⟩ := h; rfl) | (obtain ⟨_, _, _, _, _, _, rfl, _⟩ := h; rfl) | (obtain ⟨_, _, _, _, _, _, _, rfl, _⟩ := h; rfl) | (obtain ⟨_, _, _, _, _, _, _, _, rfl, _⟩ := h; rfl) | (obtain ⟨_, _, _, _, _, _, _, _, _, rfl, _⟩ := h; rfl) | (obtain ⟨_, _, _, _, _, _, _, _, _, _, rfl, _⟩ := h; rfl) | (obtain ⟨_, _, _, _, _, _, _, _, _, _, _, rfl, _⟩ := h; rfl) | (obtain ⟨_, _, _, _, _, _, _, _, _, _, _, _, rfl, _⟩ := h; rfl) | (obtain ⟨_, _, _, _, _, _, _, _, _, _, _, _, _, rfl, _⟩ := h; rfl) | (obtain ⟨_, _, _, _, _, _, _, _, _, _, _, _, _, _, rfl, _⟩ := h; rfl) | (obtain ⟨_, _, _, _, _, _, _, _, _, _, _, _, _, _, _, rfl, _⟩ := h; rfl) | (obtain ⟨_, _, _, _, _, _, _, _, _, _, _, _, _, _, _, _, rfl, _⟩ := h; rfl) | (obtain ⟨_, _, _, _, _, _, _, _, _, _, _, _, _, _, _, _, _, rfl, _⟩ := h; rfl) | (obtain ⟨_, _, _, _, _, _, _, _, _, _, _, _, _, _, _, _, _, _, rfl, _⟩ := h; rfl) | (obtain ⟨_, _, _, _, _, _, _, _, _, _, _, _, _, _, _, _, _, _, _, rfl, _⟩ := h; rfl) | (obtain ⟨_, _, _, _, _, _, _, _, _, _, _, _, _, _, _, _, _, _, _, _, rfl, _⟩ := h; rfl) | (obtain ⟨_, _, _, _, _, _, _, _, _, _, _, _, _, _, _, _, _, _, _, _, _, rfl, _⟩ := h; rfl) | (obtain ⟨_, _, _, _, _, _, _, _, _, _, _, _, _, _, _, _, _, _, _, _, _, _, rfl, _⟩ := h; rfl) | (obtain ⟨_, _, _, _, _, _, _, _, _, _, _, _, _, _, _, _, _, _, _, _, _, _, _, rfl, _⟩ := h; rfl) | (obtain ⟨_, _, _, _, _, _, _, _, _, _, _, _, _, _, _, _, _, _, _, _, _, _, _, _, rfl, _⟩ := h; rfl) | (obtain ⟨_, _, _, _, _, _, _, _, _, _, _, _, _, _, _, _, _, _, _, _, _, _, _, _, _, rfl, _⟩ := h; rfl) | (obtain ⟨_, _, _, _, _, _, _, _, _, _, _, _, _, _, _, _, _, _, _, _, _, _, _, _, _, _, rfl, _⟩ := h; rfl) | (obtain ⟨_, _, _, _, _, _, _, _, _, _, _, _, _, _, _, _, _, _, _, _, _, _, _, _, _, _, _, rfl, _⟩ := h; rfl)
  · obtain ⟨L, g, ch, o, nm, ts, p, c, i, rr, rfl, G, O, hi, h60, hC, hrl, q⟩ := h
    have hu := hu_of hr
    have hv := hr.units
    have hd := G.d
    have hfew := G.few
    refine ⟨_, (pss_cons (ps_par (i := 4) (j := 5) (by rfl) scp.nd rfl rfl (by decide) rfl rfl (pa_cons (pe_callTy (call_dictKK (K := K) rfl) (by rfl) T.n_dict (by decide +kernel) (pa_cons (pe_lc (own := [("one", 8)]) (g := gName 8) (tt := tYes) rfl scp.nd (pi_keys (pv 0)) (blkOk_by (own := [("one", 8)]) (N := ["guests", "length", "name", "choose", "used", "found", "turn", "got", "one"]) (sc := defScope s__law_stretch) (by decide +kernel)) (fun _ _ _ _ _ => (pg_name (i := 8) scp.nd rfl (by first | exact Or.inl rfl | exact Or.inr rfl))) (fun _ _ _ _ _ => pts_nil) (fun _ _ _ _ _ => (pe_tup (pa_cons (pv 8) (pa_cons pe_int pa_nil))))) pa_nil)) (pa_cons (pe_lst pa_nil) pa_nil)) (by rfl))
  (pss_cons (ps_for PassesOwn.never rfl (pi_range1 rfl T.n_range (pa_cons (pv 1) pa_nil)) (pg_name (i := 6) scp.nd rfl (by first | exact Or.inl rfl | exact Or.inr rfl))
  (pss_cons (ps_set (i := 7) scp.nd rfl (by first | exact Or.inl rfl | exact Or.inr rfl) (pe_call (G__law_deal.mono (by decide)) hr rfl g__law_deal F__law_deal.kp b__law_deal .nil pass0 (pa_cons (pv 0) (pa_cons (pv 4) (pa_cons (pe_op op_plus (pe_ix (ix_anyK (K := K) hu) (pv 3) (pv 6) (fun _ _ => rfl)) (pe_lst (pa_cons (pv 2) pa_nil))) pa_nil)))))
  (pss_cons (ps_if (pt_cmpR op_notNo (pv 7) pe_non (nomark _))
  (pss_one (ps_dput hu (pv 4) (pv 7) (pe_op op_plus (pe_ix (ix_anyK (K := K) hu) (pv 4) (pv 7) (fun _ _ => rfl)) pe_int) rfl))
  pss_nil)
  (pss_one (ps_if (pt_cmpR (op_eqK (K := K) hv) (pv 7) (pv 2) (nomark _))
  (pss_one (ps_expr (pe_bmK (K := K) PySem.F.plainAttrs_list PySem.F.slot_list_append PySem.F.type_list_append mt_append (pv 5) (pa_cons (pe_op op_plus (pv 6) pe_int) pa_nil))))
  pss_nil)))))
  (pss_one (ps_ret (pv 5))))), ?_⟩
    walk_at "ys"
    intro D nD
    refine lc_new (fun j => .tup [.str (nmF nm j), .int 0]) (fun _ _ z => by cases z) walk_keys nD (sz_lt (by rw [kvOf_len G.len]; omega)) (fun H' e' => e' _ _ hd) (fun i x H2 H3 Nx hi e2 hY k => ?_) (fun H2 as e2 hl ha hD => ?_)
    · obtain ⟨rfl, kk, v, hkv, rfl⟩ := hY
      obtain ⟨z, t, hz, ht, rfl, rfl⟩ := kvOf_at hkv
      obtain rfl : nmF nm i = z := nmF_of hz
      walk_at "ys"
      refine ⟨sz_line (by simp), fun tp ntp => ?_⟩
      exact k tp _ (same_new0 ntp) upd_same
    · rw [kvOf_len G.len] at hl
      walk_at "ys"
      refine y_dictP (kvs := usedOf nm fun _ => 0) hD ?_ (fun ud nud => ?_)
      · refine paired_idx (by rw [hl]; unfold usedOf; rw [List.length_map, List.length_range]) fun j a kv h1 h2 => ?_
        have hj : j < nm.length := by
          have := (List.getElem?_eq_some_iff.mp h1).1
          omega
        unfold usedOf at h2
        rw [List.getElem?_map, List.getElem?_range hj] at h2
        have h2 := Option.some.inj h2
        subst h2
        exact SqT.of (ha j a h1)
      · have hm : mergeK [] (usedOf nm fun _ => 0) = usedOf nm fun _ => 0 := merge_used G.nd (fun _ => V.int ((0 : Nat) : Int)) nm.length (Nat.le_refl _)
        rw [hm]
        have nudH : H ud = none := free_of e2 nud
        have e4 : Same H (upd H2 ud (.dK (usedOf nm fun _ => 0))) := e2.trans (same_new0 nud)
        walk_at "ys"
        refine ⟨sz_line (by simp), fun fl nfl => ?_⟩
        have nflH : H fl = none := free_of e4 nfl
        have nfu : fl ≠ ud := fun z => by
          rw [z, upd_same] at nfl
          cases nfl
        have e5 : Same H (upd (upd H2 ud (.dK (usedOf nm fun _ => 0))) fl (.lst [])) := e4.trans (same_new0 nfl)
        have hud5 : (upd (upd H2 ud (.dK (usedOf nm fun _ => 0))) fl (.lst [])) ud = some (.dK (usedOf nm fun _ => 0)) := up_ne (Ne.symm nfu) upd_same
        have hfl5 : (upd (upd H2 ud (.dK (usedOf nm fun _ => 0))) fl (.lst [])) fl = some (.lst []) := upd_same
        generalize upd (upd H2 ud (.dK (usedOf nm fun _ => 0))) fl (.lst []) = H5 at *
        walk_at "ys"
        refine y_gotr1 (by omega) (by omega) ?_
        refine for_it walk_range (fun t σ H' => ∃ (d : List (Option Nat)) (u6 u7 u8 : Option V), σ = [some (.ref g), some (.int L), some (.str (nmF nm i)), some (.ref ch), some (.ref ud), some (.ref fl), u6, u7, u8] ∧ Same H H' ∧ H' ud = some (.dK (usedOf nm (Deal.cnt d))) ∧ H' fl = some (.lst (gotV d i)) ∧ Deal.Run nm.length p c (fun t j => nmF nm j ∈ rr t ++ [nmF nm i]) d ∧ d.length = t)
          ⟨[], none, none, none, rfl, e5, hud5, hfl5, Deal.run_nil _ _ _ _, rfl⟩ (fun _ _ _ _ _ => trivial) (fun t x σ H6 H7 ht hP hY => ?_) (fun σ H6 hP => ?_)
        · obtain ⟨d, u6, u7, u8, rfl, e6, hud6, hfl6, hR, hdl⟩ := hP
          obtain ⟨rfl, rfl⟩ := hY
          have htL : t < L := by omega
          obtain ⟨ra, hc1, hc2⟩ := hC.same e6
          have hrt := hc2 t htL
          have hat : atI ((List.range L).map fun t => V.ref (ra t)) ((0 : Int) + (t : Nat)) = some (.ref (ra t)) := by
            rw [Int.zero_add, Y.atI_nat (by rw [List.length_map, List.length_range]; exact htL), List.getElem?_map, List.getElem?_range htL]
            rfl
          walk_at "ys"
          refine y_ixL hc1 hat ?_
          walk_at "ys"
          refine ⟨sz_line (by simp), fun nl nnl => ?_⟩
          have f8 : Same H7 (upd H7 nl (.lst [.str (nmF nm i)])) := same_new0 nnl
          have hnl : upd H7 nl (.lst [.str (nmF nm i)]) nl = some (.lst [.str (nmF nm i)]) := upd_same
          have hrt8 := f8 _ _ hrt
          generalize upd H7 nl (.lst [.str (nmF nm i)]) = H8 at *
          refine y_addL hrt8 hnl (sz_line (by rw [List.length_map]; have := hrl t htL; simp; omega)) (fun al nal => ?_)
          have eal : (rr t).map V.str ++ [V.str (nmF nm i)] = (rr t ++ [nmF nm i]).map V.str := by rw [List.map_append]; rfl
          rw [eal]
          have f9 : Same H8 (upd H8 al (.lst ((rr t ++ [nmF nm i]).map V.str))) := same_new0 nal
          have hal : upd H8 al (.lst ((rr t ++ [nmF nm i]).map V.str)) al = some (.lst ((rr t ++ [nmF nm i]).map V.str)) := upd_same
          have f79 := f8.trans f9
          generalize upd H8 al (.lst ((rr t ++ [nmF nm i]).map V.str)) = H9 at *
          have e9 := e6.trans f79
          walk_at "ys"
          refine ⟨g, o, nm, ts, p, c, ud, al, Deal.cnt d, rr t ++ [nmF nm i], rfl, G.same e9, fun j hj => ⟨O.pc j hj, by have := O.cL j hj; omega, run_cnt hR hj⟩, f79 _ _ hud6, hal, fun b H10 e10 hB => ?_⟩
          have e10' := e9.trans e10
          have hud10 := e10 _ _ (f79 _ _ hud6)
          have hfl10 := e10 _ _ (f79 _ _ hfl6)
          have hR2 := Deal.run_snoc hR (x := b) (by rw [hdl]; exact bestR_of hB)
          have hgl : (gotV d i).length ≤ 60 := by
            unfold gotV
            rw [List.length_map]
            have h1 := run_cnt hR hi
            have h2 := O.cL i hi
            unfold Deal.cnt at h1
            omega
          -- used[got] is counted
          refine y_name ?_
          refine y_cut (fun (_ : Unit) σ' H' => (σ' = [some (.ref g), some (.int L), some (.str (nmF nm i)), some (.ref ch), some (.ref ud), some (.ref fl), some (.int t), some (nameV nm b), u8]) ∧ Same H H' ∧ H' ud = some (.dK (usedOf nm (Deal.cnt (d ++ [b])))) ∧ H' fl = some (.lst (gotV d i))) (fun _ σ' H11 hP => ?_) (fun tail => ?_)
          · obtain ⟨rfl, e11, hud11, hfl11⟩ := hP
            walk_at "ys"
            have fin : ∀ H', Same H H' → H' ud = some (.dK (usedOf nm (Deal.cnt (d ++ [b])))) → H' fl = some (.lst (gotV (d ++ [b]) i)) → ∃ (d' : List (Option Nat)) (v6 v7 v8 : Option V), [some (.ref g), some (.int L), some (.str (nmF nm i)), some (.ref ch), some (.ref ud), some (.ref fl), some (.int t), some (nameV nm b), u8] = [some (V.ref g), some (.int L), some (.str (nmF nm i)), some (.ref ch), some (.ref ud), some (.ref fl), v6, v7, v8] ∧ Same H H' ∧ H' ud = some (.dK (usedOf nm (Deal.cnt d'))) ∧ H' fl = some (.lst (gotV d' i)) ∧ Deal.Run nm.length p c (fun t j => nmF nm j ∈ rr t ++ [nmF nm i]) d' ∧ d'.length = t + 1 := fun H' h1 h2 h3 =>
              ⟨d ++ [b], _, _, _, rfl, h1, h2, h3, hR2, by rw [List.length_append, hdl]; rfl⟩
            by_cases hbi : b = some i
            · subst hbi
              refine y_eqS rfl ?_
              walk_at "ys"
              refine y_append hfl11 (sz_lt (by omega)) ?_
              walk_at "ys"
              refine fin _ (same_mut e11 nflH) (by rw [upd_ne (Ne.symm nfu)]; exact hud11) ?_
              rw [upd_same, gotV_snoc, if_pos rfl, hdl]
              rfl
            · refine y_eqS (by cases b <;> rfl) ?_
              walk_at "ys"
              have hne : ¬ nameV nm b = .str (nmF nm i) := fun z => by
                cases b with
                | none => cases z
                | some j => exact hbi (by rw [(nm_inj G.nd hB.1 hi).mp (V.str.inj z)])
              refine y_dF hne ?_
              walk_at "ys"
              refine fin _ e11 hud11 ?_
              rw [gotV_snoc, if_neg hbi]
              exact hfl11
          · have e0 : (fun i : Nat => V.int ((0 : Int) + (i : Nat))) t = V.int (t : Nat) := congrArg V.int (Int.zero_add _)
            rw [e0]
            cases b with
            | none =>
              refine y_ifS (y_tt (y_op (y_var rfl (y_c (y_notNo (y_bl (y_ndT (show nameV nm none = V.non from rfl) (y_next ?_))))))))
              refine tail () _ _ ⟨rfl, e10', ?_, hfl10⟩
              have eq : Deal.cnt (d ++ [none]) = Deal.cnt d := funext fun i => by rw [Deal.cnt_snoc, if_neg (fun z => nomatch z)]
              rw [eq]
              exact hud10
            | some b =>
              have hbn : b < nm.length := hB.1
              walk_at "ys"
              refine y_ndF (fun z => nomatch z) ?_
              walk_at "ys"
              refine y_ixK hud10 (valV_used G.nd _ hbn) ?_
              walk_at "ys"
              refine y_put hud10 (sz_lt (by unfold usedOf; rw [List.length_map, List.length_range]; omega)) ?_
              have eqv : V.int (((Deal.cnt d b : Nat) : Int) + 1) = .int ((Deal.cnt d b + 1 : Nat) : Int) := rfl
              rw [eqv, used_any G.nd _ hbn (Deal.cnt d b + 1)]
              have eq : (fun j => if j = b then Deal.cnt d b + 1 else Deal.cnt d j) = Deal.cnt (d ++ [some b]) := funext fun i => by
                rw [Deal.cnt_snoc]
                by_cases z : i = b
                · subst z
                  rw [if_pos rfl, if_pos rfl]
                · rw [if_neg z, if_neg (fun y => z (Option.some.inj y).symm)]
              rw [eq]
              exact tail () _ _ ⟨rfl, same_mut e10' nudH, upd_same, by rw [upd_ne nfu]; exact hfl10⟩
        · obtain ⟨d, u6, u7, u8, rfl, e6, hud6, hfl6, hR, hdl⟩ := hP
          walk_at "ys"
          exact q d fl H6 e6 nflH hfl6 hR hdl
end
end K87
namespace K87
open PySem L2 Y

theorem alin_count {n L : Nat} {p c : Nat → Nat} (O : Deal.Ok n L p c) (i t : Nat) : alin n L p c i t = ((List.range (Deal.many n L p c i)).filter fun k => decide (Deal.T n p c i k ≤ t)).length := by
  unfold alin
  rw [← Deal.many_filter O i, List.filter_filter]
  congr 1
  refine List.filter_congr fun k _ => ?_
  unfold alP
  rw [Bool.and_comm]
theorem oth_mem {n i j : Nat} (hj : j < n) (h : j ≠ i) : j ∈ oth n i := by
  unfold oth
  rw [List.mem_filter, List.mem_range]
  exact ⟨hj, by simpa using h⟩
def turnsOf (n L : Nat) (p c : Nat → Nat) (i : Nat) : List Int := (List.range (Deal.many n L p c i)).map fun k => (Deal.T n p c i k : Int)
theorem got_turns {n L : Nat} {p c : Nat → Nat} {d : List (Option Nat)} (O : Deal.Ok n L p c) (G : Deal.Good n p c d) (hL : d.length = L) {i : Nat} (hi : i < n) : Deal.got d 0 i = (List.range (Deal.many n L p c i)).map (Deal.T n p c i) := by
  rw [G.turns i hi, Deal.cnt_many O G hL hi]
theorem gotV_turns {n L : Nat} {p c : Nat → Nat} {d : List (Option Nat)} (O : Deal.Ok n L p c) (G : Deal.Good n p c d) (hL : d.length = L) {i : Nat} (hi : i < n) : gotV d i = (turnsOf n L p c i).map V.int := by
  unfold gotV turnsOf
  rw [got_turns O G hL hi, List.map_map, List.map_map]
  rfl
theorem gotV_len {d : List (Option Nat)} {i : Nat} : (gotV d i).length = (Deal.got d 0 i).length := by
  unfold gotV
  rw [List.length_map]
theorem run_surely {n L : Nat} {p c : Nat → Nat} {R : Nat → Nat → Prop} {d : List (Option Nat)} (O : Deal.Ok n L p c) (h : Deal.Run n p c R d) (hL : d.length = L) {i : Nat} (hi : i < n) (a : ∀ t j, j < n → R t j) : gotV d i = (turnsOf n L p c i).map V.int :=
  gotV_turns O (Deal.run_good O.pc h a) hL hi
/-- a list of needs -/
structure NdsL (H : Hp) (a : Addr) (ns : List (Nat × Nat)) : Prop where
  at_ : ∃ (ps : List Addr), H a = some (.lst (ps.map V.ref)) ∧ ps.length = ns.length ∧ ∀ (i : Nat) p n, ps[i]? = some p → ns[i]? = some n → H p = some (.tup [.int n.1, .int n.2])
  lim : ∀ n, n ∈ ns → n.1 ≤ 400 ∧ n.2 ≤ 400
  few : ns.length ≤ 60
theorem NdsL.same {H H' : Hp} {a : Addr} {ns : List (Nat × Nat)} (N : NdsL H a ns) (e : Same H H') : NdsL H' a ns := by
  obtain ⟨ps, h2, h3, h4⟩ := N.at_
  exact ⟨⟨ps, e _ _ h2, h3, fun i p n g1 g2 => e _ _ (h4 i p n g1 g2)⟩, N.lim, N.few⟩
theorem NdsL.to {H : Hp} {a : Addr} {ns : List (Nat × Nat)} (N : NdsL H a ns) : Nds H (.ref a) ns := by
  obtain ⟨ps, h2, h3, h4⟩ := N.at_
  exact ⟨⟨a, ps, rfl, .inl h2, h3, h4⟩, N.lim, N.few⟩
section
variable {P : Program} {w : World} {K : PySem.W.Frag} {mg : Str → Option Value} {base : Heap}
def sp__law_surely (K : PySem.W.Frag) : Sp := fun vs H Q _ => ∃ (L : Nat) (g : Addr) (o : Obj) (nm : List Str) (ts : List Addr) (p c : Nat → Nat) (i t : Nat), vs = [.int L, .ref g, .str (nmF nm i), .int t] ∧ Gs H g o nm ts p c ∧ Deal.Ok nm.length L p c ∧ i < nm.length ∧ 4 ≤ L ∧ L ≤ 60 ∧ t ≤ 400 ∧ ∀ H', Same H H' → Q (.int (surely nm.length L p c i t : Nat)) H'
theorem ok__law_surely {f : Addr} {fd : FuncData} (T : Txt K mg) (F : Fun K "_law_surely" "_law_surely" s__law_surely f fd) : FnOk P w K mg base CX0 3 f fd ["length", "guests", "name", "turns"] (sp__law_surely K) := by
  obtain ⟨f__law_stretch, fd__law_stretch, g__law_stretch, F__law_stretch⟩ := T.d__law_stretch
  have G__law_stretch := ok__law_stretch (P := P) (w := w) (base := base) T F__law_stretch
  have b__law_stretch := F__law_stretch.binds (ps := ["guests", "length", "name", "choose"]) fun _ _ _ _ _ _ us hl => match us, hl with | [_, _, _, _], _ => rfl
  have scp := sc__law_surely
  refine F.ok sc__law_surely (fun vs H Q E h => ?_) (fun cdv A outer s H vs Q E hr h => ?_)
  · first | (obtain ⟨rfl, _⟩ := h; rfl) | (obtain ⟨_, rfl, _⟩ := h; rfl) | (obtain ⟨_, _, rfl, _⟩ := h; rfl) | (obtain ⟨_, _, _, rfl, _⟩ := h; rfl) | (obtain ⟨_, _, _, _, rfl, _⟩ := h; rfl) | (obtain ⟨_, _, _, _, _, rfl, _⟩ := h; rfl) | (obtain ⟨_, _, _, _, _, _, rfl, _⟩ := h; rfl) | (obtain ⟨_, _, _, _, _, _, _, rfl, _⟩ := h; rfl) | (obtain ⟨_, _, _, _, _, _, _, _, rfl, _⟩ := h; rfl) | (obtain ⟨_, _, _, _, _, _, _, _, _, rfl, _⟩ := h; rfl) | (obtain ⟨_, _, _, _, _, _, _, _, _, _, rfl, _⟩ := h; rfl) | (obtain ⟨_, _, _, _, _, _, _, _, _, _, _, rfl, _⟩ := h; rfl) | (obtain ⟨_, _, _, _, _, _, _, _, _, _, _, _, rfl, _⟩ := h; rfl) | (obtain ⟨_, _, _, _, _, _, _, _, _, _, _, _, _, rfl, _⟩ := h; rfl) | (obtain ⟨_, _, _, _, _, _, _, _, _, _, _, _, _, _, rfl, _⟩ := h; rfl) | (obtain ⟨_, _, _, _, _, _, _, _, _, _, _, _, _, _, _, rfl, _⟩ := h; rfl) | (obtain ⟨_, _, _, _, _, _, _, _, _, _, _, _, _, _, _, _, rfl, _⟩ := h; rfl) | (obtain ⟨_, _, _, _, _, _, _, _, _, _, _, _, _, _, _, _, _, rfl, _⟩ := h; rfl) | (obtain ⟨_, _, _, _, _, _, _, _, _, _, _, _, _, _, _, _, _, _, rfl, _⟩ := h; rfl) | (obtain ⟨_, _, _, _, _, _, _, _, _, _, _, _, _, _, _, _, _, _, _, rfl, _⟩ := h; rfl) | (obtain ⟨_, _, _, _, _, _, _, _, _, _, _, _, _, _, _, _, _, _, _, _, rfl, _⟩ := h; rfl) | (obtain ⟨_, _, _, _, _, _, _, _, _, _, _, _, _, _, _, _, _, _, _, _, _, rfl, _⟩ := h; rfl) | (obtain ⟨_, _, _, _, _, _, _, _, _, _, _, _, _, _, _, _, _, _, _, _, _, _, rfl, _⟩ := h; rfl) | (obtain ⟨_, _, _, _, _, _, _, _, _, _, _, _, _, _, _, _, _, _, _, _, _, _, _, rfl, _⟩ := h; rfl) | (obtain ⟨_, _, _, _, _, _, _, _, _, _, _, _, _, _, _, _, _, _, _, _, _, _, _, _, rfl, _⟩ := h; rfl) | (obtain ⟨_, _, _, _, _, _, _, _, _, _, _, _, _, _, _, _, _, _, _, _, _, _, _, _, _, rfl, _⟩ := h; rfl) | (obtain ⟨_, _, _, _, _, _, _, _, _, _, _, _, _, _, _, _, _, _, _, _, _, _, _, _, _, _, rfl, _⟩ := h; rfl) | (obtain ⟨_, _, _, _, _, _, _, _, _, _, _, _, _, _, _, _, _, _, _, _, _, _, _, _, _, _, _, rfl, _⟩ := h; rfl)
  · obtain ⟨L, g, o, nm, ts, p, c, i, t, rfl, G, O, hi, h4, h60, ht, q⟩ := h
    have hu := hu_of hr
    have hv := hr.units
    have hd := G.d
    have few := G.few
    refine ⟨_, (pss_cons (ps_set (i := 4) scp.nd rfl (by first | exact Or.inl rfl | exact Or.inr rfl) (pe_call (G__law_stretch.mono (by decide)) hr rfl g__law_stretch F__law_stretch.kp b__law_stretch .nil pass0 (pa_cons (pv 1) (pa_cons (pv 0) (pa_cons (pv 2) (pa_cons (pe_op op_times (pe_lst (pa_cons (pe_lc (own := [("one", 5)]) (g := gName 5) rfl scp.nd (pi_keys (pv 1)) (blkOk_by (own := [("one", 5)]) (N := ["length", "guests", "name", "turns", "due", "one", "turn"]) (sc := defScope s__law_surely) (by decide +kernel)) (fun _ _ _ _ _ => (pg_name (i := 5) scp.nd rfl (by first | exact Or.inl rfl | exact Or.inr rfl))) (fun _ _ _ _ _ => (pts_one (pt_cmpR (op_neK (K := K) hv) (pv 5) (pv 2) (nomark _)))) (fun _ _ _ _ _ => (pv 5))) pa_nil)) (pv 0)) pa_nil))))))
  (pss_one (ps_ret (pe_op op_plus (pe_op op_times (pe_op op_fdivY (pv 3) (pv 0)) (pe_callB (call_lenK (K := K)) (by rfl) T.n_len (by decide +kernel) (pa_cons (pv 4) pa_nil))) (pe_callB (call_lenK (K := K)) (by rfl) T.n_len (by decide +kernel) (pa_cons (pe_lc (own := [("turn", 6)]) (g := gName 6) rfl scp.nd (pi_listK (K := K) (pv 4)) (blkOk_by (own := [("turn", 6)]) (N := ["length", "guests", "name", "turns", "due", "one", "turn"]) (sc := defScope s__law_surely) (by decide +kernel)) (fun _ _ _ _ _ => (pg_name (i := 6) scp.nd rfl (by first | exact Or.inl rfl | exact Or.inr rfl))) (fun _ _ _ _ _ => (pts_one (pt_cmpR op_leI (pv 6) (pe_op op_modY (pe_callTy call_intY (by rfl) T.n_int (by decide +kernel) (pa_cons (pv 3) pa_nil)) (pv 0)) (nomark _)))) (fun _ _ _ _ _ => (pv 6))) pa_nil)))))), ?_⟩
    walk_at "ys"
    intro D nD
    refine lc_gen (fun j => if (!decide (j = i)) = true then some (.str (nmF nm j)) else none) walk_keys nD (sz_lt (by rw [kvOf_len G.len]; omega)) (fun H' e' => e' _ _ hd) (fun j x H2 H3 Nx hj e2 hY k k0 => ?_) (fun H2 e2 hD => ?_)
    · obtain ⟨rfl, kk, v, hkv, rfl⟩ := hY
      obtain ⟨z, t, hz, ht, rfl, rfl⟩ := kvOf_at hkv
      obtain rfl : nmF nm j = z := nmF_of hz
      have hjn : j < nm.length := (List.getElem?_eq_some_iff.mp hz).1
      walk_at "ys"
      by_cases hji : j = i
      · subst hji
        walk_at "ys"
        exact k0 _ (by simp) (Same.refl _)
      · refine y_ndF (fun e => hji ((nm_inj G.nd hjn hi).mp (V.str.inj e))) ?_
        walk_at "ys"
        refine k _ _ ?_ (Same.refl _)
        rw [decide_eq_false hji]
        rfl
    · rw [kvOf_len G.len, fm_ite] at hD
      change H2 D = some (.lst ((oth nm.length i).map fun j => .str (nmF nm j))) at hD
      walk_at "ys"
      refine ⟨sz_line (by simp), fun wl nwl => ?_⟩
      have e3 : Same H2 (upd H2 wl (.lst [.ref D])) := same_new0 nwl
      have hwl : upd H2 wl (.lst [.ref D]) wl = some (.lst [.ref D]) := upd_same
      have hD3 := e3 _ _ hD
      generalize upd H2 wl (.lst [.ref D]) = H3 at *
      walk_at "ys"
      refine y_rep hwl (by omega) (by omega) (sz_line (by simp; omega)) (fun cl ncl => ?_)
      rw [rep_one, Int.toNat_natCast]
      have e4 : Same H3 (upd H3 cl (.lst (List.replicate L (V.ref D)))) := same_new0 ncl
      have hcl : upd H3 cl (.lst (List.replicate L (V.ref D))) cl = some (.lst (List.replicate L (V.ref D))) := upd_same
      have hD4 := e4 _ _ hD3
      generalize upd H3 cl (.lst (List.replicate L (V.ref D))) = H4 at *
      have e5 := (e2.trans e3).trans e4
      walk_at "ys"
      refine ⟨L, g, cl, o, nm, ts, p, c, i, fun _ => (oth nm.length i).map (nmF nm), rfl, G.same e5, O, hi, h60, ⟨fun _ => D, by rw [hcl, List.map_const', List.length_range], fun t _ => by rw [hD4, List.map_map]; rfl⟩, fun t _ => ?_, fun d fl H5 e6 nfl hfl hR hL => ?_⟩
      · rw [List.length_map]
        unfold oth
        exact Nat.le_trans (List.length_filter_le _ _) (by rw [List.length_range]; omega)
      rw [run_surely O hR hL hi (fun t j hj => by
        rw [List.mem_append, List.mem_singleton, List.mem_map]
        by_cases z : j = i
        · exact .inr (by rw [z])
        · exact .inl ⟨j, oth_mem hj z, rfl⟩)] at hfl
      walk_at "ys"
      have h0 : (0 : Int) < L := by omega
      refine y_fdiv (cdiv_small (by omega) (by omega)) ?_
      walk_at "ys"
      have b1 : Deal.many nm.length L p c i ≤ L := by
        rw [← alin_all]
        unfold alin
        exact Nat.le_trans (List.length_filter_le _ _) (by rw [List.length_range]; exact Nat.le_refl _)
      have hl1 : ((turnsOf nm.length L p c i).map V.int).length = Deal.many nm.length L p c i := by
        rw [List.length_map]
        unfold turnsOf
        rw [List.length_map, List.length_range]
      rw [hl1, int_div]
      have b2 : t / L ≤ t := Nat.div_le_self _ _
      refine y_mulI (cmul_small (by rw [Int.natAbs_natCast]; exact Nat.lt_of_le_of_lt b2 (Nat.lt_of_le_of_lt ht (by decide))) (by omega)) ?_
      walk_at "ys"
      intro rl nrl
      refine lc_gen (fun k => if decide (Deal.T nm.length p c i k ≤ t % L) = true then some (.int (Deal.T nm.length p c i k : Nat)) else none) walk_list nrl (sz_lt (by rw [hl1]; omega)) (fun H' e => SqL.of (e _ _ hfl)) (fun k x H6 H7 Nx hk e hY kk k0 => ?_) (fun H6 e7 hrl => ?_)
      · obtain ⟨rfl, hx⟩ := hY
        rw [hl1] at hk
        unfold turnsOf at hx
        rw [List.getElem?_map, List.getElem?_map, List.getElem?_range hk] at hx
        have hx := Option.some.inj hx
        subst hx
        walk_at "ys"
        refine y_mod (by omega) ?_
        walk_at "ys"
        have q1 : (t : Int) % (L : Int) = ((t % L : Nat) : Int) := (Int.natCast_emod t L).symm
        rw [q1]
        refine y_d2 (fun h3 => ?_) (fun h3 => ?_)
        · walk_at "ys"
          exact kk _ _ (if_pos (decide_eq_true (Int.ofNat_le.mp h3))) (Same.refl _)
        · exact k0 _ (if_neg (fun z => h3 (Int.ofNat_le.mpr (of_decide_eq_true z)))) (Same.refl _)
      · rw [hl1, fm_ite] at hrl
        walk_at "ys"
        rw [List.length_map, ← alin_count O i (t % L), ← alin_all, ← Int.natCast_mul, ← Int.natCast_add]
        exact q _ ((e5.trans e6).trans e7)
def sp__law_unmet (K : PySem.W.Frag) : Sp := fun vs H Q _ => ∃ (L : Nat) (g a : Addr) (o : Obj) (nm : List Str) (ts : List Addr) (p c : Nat → Nat) (i : Nat) (ns : List (Nat × Nat)), vs = [.int L, .ref g, .str (nmF nm i), .ref a] ∧ Gs H g o nm ts p c ∧ Deal.Ok nm.length L p c ∧ i < nm.length ∧ 4 ≤ L ∧ L ≤ 60 ∧ NdsL H a ns ∧ ∀ H', Same H H' → Q (unmetV nm.length L p c i ns) H'
theorem ok__law_unmet {f : Addr} {fd : FuncData} (T : Txt K mg) (F : Fun K "_law_unmet" "_law_unmet" s__law_unmet f fd) : FnOk P w K mg base CX0 4 f fd ["length", "guests", "name", "needs"] (sp__law_unmet K) := by
  obtain ⟨f__law_surely, fd__law_surely, g__law_surely, F__law_surely⟩ := T.d__law_surely
  have G__law_surely := ok__law_surely (P := P) (w := w) (base := base) T F__law_surely
  have b__law_surely := F__law_surely.binds (ps := ["length", "guests", "name", "turns"]) fun _ _ _ _ _ _ us hl => match us, hl with | [_, _, _, _], _ => rfl
  have scp := sc__law_unmet
  refine F.ok sc__law_unmet (fun vs H Q E h => ?_) (fun cdv A outer s H vs Q E hr h => ?_)
  · first | (obtain ⟨rfl, _⟩ := h; rfl) | (obtain ⟨_, rfl, _⟩ := h; rfl) | (obtain ⟨_, _, rfl, _⟩ := h; rfl) | (obtain ⟨_, _, _, rfl, _⟩ := h; rfl) | (obtain ⟨_, _, _, _, rfl, _⟩ := h; rfl) | (obtain ⟨_, _, _, _, _, rfl, _⟩ := h; rfl) | (obtain ⟨_, _, _, _, _, _, rfl, _⟩ := h; rfl) | (obtain ⟨_, _, _, _, _, _, _, rfl, _⟩ := h; rfl) | (obtain ⟨_, _, _, _, _, _, _, _, rfl, _⟩ := h; rfl) | (obtain ⟨_, _, _, _, _, _, _, _, _, rfl, _⟩ := h; rfl) | (obtain ⟨_, _, _, _, _, _, _, _, _, _, rfl, _⟩ := h; rfl) | (obtain ⟨_, _, _, _, _, _, _, _, _, _, _, rfl, _⟩ := h; rfl) | (obtain ⟨_, _, _, _, _, _, _, _, _, _, _, _, rfl, _⟩ := h; rfl) | (obtain ⟨_, _, _, _, _, _, _, _, _, _, _, _, _, rfl, _⟩ := h; rfl) | (obtain ⟨_, _, _, _, _, _, _, _, _, _, _, _, _, _, rfl, _⟩ := h; rfl) | (obtain ⟨_, _, _, _, _, _, _, _, _, _, _, _, _, _, _, rfl, _⟩ := h; rfl) | (obtain ⟨_, _, _, _, _, _, _, _, _, _, _, _, _, _, _, _, rfl, _⟩ := h; rfl) | (obtain ⟨_, _, _, _, _, _, _, _, _, _, _, _, _, _, _, _, _, rfl, _⟩ := h; rfl) | (obtain ⟨_, _, _, _, _, _, _, _, _, _, _, _, _, _, _, _, _, _, rfl, _⟩ := h; rfl) | (obtain ⟨_, _, _, _, _, _, _, _, _, _, _, _, _, _, _, _, _, _, _, rfl, _⟩ := h; rfl) | (obtain ⟨_, _, _, _, _, _, _, _, _, _, _, _, _, _, _, _, _, _, _, _, rfl, _⟩ := h; rfl) | (obtain ⟨_, _, _, _, _, _, _, _, _, _, _, _, _, _, _, _, _, _, _, _, _, rfl, _⟩ := h; rfl) | (obtain ⟨_, _, _, _, _, _, _, _, _, _, _, _, _, _, _, _, _, _, _, _, _, _, rfl, _⟩ := h; rfl) | (obtain ⟨_, _, _, _, _, _, _, _, _, _, _, _, _, _, _, _, _, _, _, _, _, _, _, rfl, _⟩ := h; rfl) | (obtain ⟨_, _, _, _, _, _, _, _, _, _, _, _, _, _, _, _, _, _, _, _, _, _, _, _, rfl, _⟩ := h; rfl) | (obtain ⟨_, _, _, _, _, _, _, _, _, _, _, _, _, _, _, _, _, _, _, _, _, _, _, _, _, rfl, _⟩ := h; rfl) | (obtain ⟨_, _, _, _, _, _, _, _, _, _, _, _, _, _, _, _, _, _, _, _, _, _, _, _, _, _, rfl, _⟩ := h; rfl) | (obtain ⟨_, _, _, _, _, _, _, _, _, _, _, _, _, _, _, _, _, _, _, _, _, _, _, _, _, _, _, rfl, _⟩ := h; rfl)
  · obtain ⟨L, g, a, o, nm, ts, p, c, i, ns, rfl, G, O, hi, h4, h60, N, q⟩ := h
    have hu := hu_of hr
    have hv := hr.units
    have few := N.few
    obtain ⟨ps, ha, h3, h4'⟩ := N.at_
    have hps : ∀ (k : Nat), k < ns.length → ∃ p, atI (ps.map V.ref) (k : Int) = some (.ref p) ∧ H p = some (.tup [.int (ns.getD k (0, 0)).1, .int (ns.getD k (0, 0)).2]) := fun k hk => by
      have hk2 : k < ps.length := by omega
      refine ⟨ps[k], L2.atI_nat (by rw [List.getElem?_map, List.getElem?_eq_getElem hk2]; rfl), h4' k _ _ (List.getElem?_eq_getElem hk2) ?_⟩
      rw [List.getD_eq_getElem?_getD, List.getElem?_eq_getElem hk]
      rfl
    refine ⟨_, (pss_cons (ps_setLc (i := 4) (own := [("k", 5)]) (g := gName 5) rfl scp.nd rfl rfl (sw_true rfl rfl rfl (by decide +kernel)) (pi_range1 rfl T.n_range (pa_cons (pe_callB (call_lenK (K := K)) (by rfl) T.n_len (by decide +kernel) (pa_cons (pv 3) pa_nil)) pa_nil)) (blkOk_by (own := [("k", 5)]) (N := ["length", "guests", "name", "needs", "some", "k"]) (sc := defScope s__law_unmet) (by decide +kernel)) (fun _ _ _ _ _ => (pg_name (i := 5) scp.nd rfl (by first | exact Or.inl rfl | exact Or.inr rfl))) (fun _ _ _ _ _ => (pts_one (pt_cmpR op_ltI (pe_call (G__law_surely.mono (by decide)) hr rfl g__law_surely F__law_surely.kp b__law_surely .nil pass0 (pa_cons (pv 0) (pa_cons (pv 1) (pa_cons (pv 2) (pa_cons (pe_ix (ix_anyK (K := K) hu) (pe_ix (ix_anyK (K := K) hu) (pv 3) (pv 5) (fun _ _ => rfl)) pe_int (fun _ _ => rfl)) pa_nil))))) (pe_ix (ix_anyK (K := K) hu) (pe_ix (ix_anyK (K := K) hu) (pv 3) (pv 5) (fun _ _ => rfl)) pe_int (fun _ _ => rfl)) (nomark _)))) (fun _ _ _ _ _ => (pv 5)))
  (pss_one (ps_ret (pe_ifExp (pt_cmpR (op_neK (K := K) hv) (pv 4) (pe_lst pa_nil) (nomark _)) (pe_ix (ix_anyK (K := K) hu) (pv 4) pe_int (fun _ _ => rfl)) pe_non)))), ?_⟩
    walk_at "ys"
    rw [List.length_map, h3]
    refine y_gotr1 (by omega) (by omega) ?_
    intro D nD
    refine lc_gen (fun k => if shortP nm.length L p c i ns k = true then some (.int (k : Nat)) else none) walk_range nD (sz_lt (by omega)) (fun _ _ => trivial) (fun j x H3 H4 Nx hj e hY k k0 => ?_) (fun H3 e2 hsh => ?_)
    · obtain ⟨rfl, rfl⟩ := hY
      have e9 : (fun i : Nat => V.int ((0 : Int) + (i : Nat))) j = V.int (j : Nat) := congrArg V.int (Int.zero_add _)
      rw [e9]
      have hj : j < ns.length := by omega
      obtain ⟨pa, hat, hp⟩ := hps j hj
      have ha3 := e _ _ ha
      have hp3 := e _ _ hp
      walk_at "ys"
      refine y_ixL ha3 hat ?_
      walk_at "ys"
      refine ⟨L, g, o, nm, ts, p, c, i, _, rfl, G.same e, O, hi, h4, h60, (N.lim _ (getD_mem hj)).1, fun H5 e5 => ?_⟩
      have ha5 := e5 _ _ ha3
      have hp5 := e5 _ _ hp3
      walk_at "ys"
      refine y_ixL ha5 hat ?_
      walk_at "ys"
      refine y_d2 (fun z => ?_) (fun z => ?_)
      · walk_at "ys"
        refine k _ _ (if_pos ?_) e5
        unfold shortP
        exact decide_eq_true (Int.ofNat_lt.mp z)
      · refine k0 _ (if_neg ?_) e5
        unfold shortP
        exact fun y => z (Int.ofNat_lt.mpr (of_decide_eq_true y))
    · rw [fm_ite] at hsh
      have eL : ((ns.length : Int) - 0).toNat = ns.length := by omega
      have hsh : H3 D = some (.lst ((shortL nm.length L p c i ns).map fun k => V.int (k : Nat))) := by
        rw [hsh]
        unfold shortL
        first | rfl | (simp; done)
      have hsh2 : H3 D = some (.lst (((shortL nm.length L p c i ns).map fun k => some ((k : Nat) : Int)).map oV)) := by
        rw [hsh, List.map_map]
        rfl
      unfold unmetV at q
      walk_at "ys"
      refine ⟨sz_line (by simp), fun el nel => ?_⟩
      have e4 : Same H3 (upd H3 el (.lst [])) := same_new0 nel
      walk_at "ys"
      refine y_neL (ys := []) (e4 _ _ hsh2) upd_same ?_
      generalize shortL nm.length L p c i ns = sl at *
      cases sl with
      | nil =>
        rw [show decide ((([] : List Nat).map fun k => some ((k : Nat) : Int)) = []) = true from rfl]
        walk_at "ys"
        exact q _ (e2.trans e4)
      | cons k0 r =>
        rw [decide_eq_false (show ¬ (((k0 :: r).map fun k => some ((k : Nat) : Int)) = []) by simp)]
        walk_at "ys"
        refine y_ixL (e4 _ _ hsh) (L2.atI_nat (xs := (k0 :: r).map fun k => V.int (k : Nat)) (j := 0) rfl) ?_
        walk_at "ys"
        exact q _ (e2.trans e4)
end
end K87
namespace K87
open PySem L2 Y

theorem put_kv : ∀ (nm : List Str) (ts : List Addr) (i : Nat) (t : Addr), ts.length = nm.length → nm.Nodup → i < nm.length → putK (kvOf nm ts) (Sum.inr (nmF nm i)) (.ref t) = kvOf nm (ts.set i t) := by
  intro nm ts i t hl nd hi
  have hti : i < ts.length := by omega
  have hv := valV_kvOf nd (nmF_at hi) (List.getElem?_eq_getElem hti)
  unfold putK
  rw [if_pos (by rw [valV_any, hv]; rfl)]
  apply List.ext_getElem?
  intro j
  rw [List.getElem?_map]
  by_cases hj : j < nm.length
  · have e : ∀ us : List Addr, (hu : us.length = nm.length) → (kvOf nm us)[j]? = some ((Sum.inr (nmF nm j) : Key), V.ref (us[j]'(by omega))) := fun us hu => by
      unfold kvOf
      rw [List.getElem?_map, List.getElem?_zip_eq_some (z := (nmF nm j, us[j]'(by omega))) |>.mpr ⟨nmF_at hj, List.getElem?_eq_getElem (show j < us.length by omega)⟩]
      rfl
    rw [e ts hl, e (ts.set i t) (by simp [hl])]
    show some (if (Sum.inr (nmF nm j) : Key) = Sum.inr (nmF nm i) then ((Sum.inr (nmF nm j) : Key), V.ref t) else _) = _
    by_cases z : j = i
    · subst z
      rw [if_pos rfl]
      simp
    · rw [if_neg (fun y => z ((nm_inj nd hj hi).mp (Sum.inr.inj y)))]
      rw [List.getElem_set, if_neg (fun y => z y.symm)]
  · rw [List.getElem?_eq_none (by rw [kvOf_len hl]; omega), List.getElem?_eq_none (by rw [kvOf_len (by simp [hl])]; omega)]
    rfl
theorem sum_others {f : Nat → Nat} {i x n : Nat} (hi : i < n) : Deal.sumTo (set1 f i x) n = Deal.sumTo (fun j => if j = i then 0 else f j) n + x := by
  have h1 := sum_set1 (f := f) (x := x) hi
  have h2 := Deal.sumTo_at (f := f) hi
  omega
section
variable {P : Program} {w : World} {K : PySem.W.Frag} {mg : Str → Option Value} {base : Heap}
def sp__law_least (K : PySem.W.Frag) : Sp := fun vs H Q _ => ∃ (L : Nat) (g a : Addr) (o : Obj) (nm : List Str) (ts : List Addr) (p c : Nat → Nat) (i : Nat) (ns : List (Nat × Nat)), vs = [.int L, .ref g, .str (nmF nm i), .ref a] ∧ Gs H g o nm ts p c ∧ Deal.Ok nm.length L p c ∧ i < nm.length ∧ 4 ≤ L ∧ L ≤ 60 ∧ NdsL H a ns ∧ ∀ H', Same H H' → Q (leastV nm.length L p c i ns) H'
theorem ok__law_least {f : Addr} {fd : FuncData} (T : Txt K mg) (F : Fun K "_law_least" "_law_least" s__law_least f fd) : FnOk P w K mg base CX0 5 f fd ["length", "guests", "name", "needs"] (sp__law_least K) := by
  obtain ⟨f__law_unmet, fd__law_unmet, g__law_unmet, F__law_unmet⟩ := T.d__law_unmet
  have G__law_unmet := ok__law_unmet (P := P) (w := w) (base := base) T F__law_unmet
  have b__law_unmet := F__law_unmet.binds (ps := ["length", "guests", "name", "needs"]) fun _ _ _ _ _ _ us hl => match us, hl with | [_, _, _, _], _ => rfl
  have scp := sc__law_least
  refine F.ok sc__law_least (fun vs H Q E h => ?_) (fun cdv A outer s H vs Q E hr h => ?_)
  · first | (obtain ⟨rfl, _⟩ := h; rfl) | (obtain ⟨_, rfl, _⟩ := h; rfl) | (obtain ⟨_, _, rfl, _⟩ := h; rfl) | (obtain ⟨_, _, _, rfl, _⟩ := h; rfl) | (obtain ⟨_, _, _, _, rfl, _⟩ := h; rfl) | (obtain ⟨_, _, _, _, _, rfl, _⟩ := h; rfl) | (obtain ⟨_, _, _, _, _, _, rfl, _⟩ := h; rfl) | (obtain ⟨_, _, _, _, _, _, _, rfl, _⟩ := h; rfl) | (obtain ⟨_, _, _, _, _, _, _, _, rfl, _⟩ := h; rfl) | (obtain ⟨_, _, _, _, _, _, _, _, _, rfl, _⟩ := h; rfl) | (obtain ⟨_, _, _, _, _, _, _, _, _, _, rfl, _⟩ := h; rfl) | (obtain ⟨_, _, _, _, _, _, _, _, _, _, _, rfl, _⟩ := h; rfl) | (obtain ⟨_, _, _, _, _, _, _, _, _, _, _, _, rfl, _⟩ := h; rfl) | (obtain ⟨_, _, _, _, _, _, _, _, _, _, _, _, _, rfl, _⟩ := h; rfl) | (obtain ⟨_, _, _, _, _, _, _, _, _, _, _, _, _, _, rfl, _⟩ := h; rfl) | (obtain ⟨_, _, _, _, _, _, _, _, _, _, _, _, _, _, _, rfl, _⟩ := h; rfl) | (obtain ⟨_, _, _, _, _, _, _, _, _, _, _, _, _, _, _, _, rfl, _⟩ := h; rfl) | (obtain ⟨_, _, _, _, _, _, _, _, _, _, _, _, _, _, _, _, _, rfl, _⟩ := h; rfl) | (obtain ⟨_, _, _, _, _, _, _, _, _, _, _, _, _, _, _, _, _, _, rfl, _⟩ := h; rfl) | (obtain ⟨_, _, _, _, _, _, _, _, _, _, _, _, _, _, _, _, _, _, _, rfl, _⟩ := h; rfl) | (obtain ⟨_, _, _, _, _, _, _, _, _, _, _, _, _, _, _, _, _, _, _, _, rfl, _⟩ := h; rfl) | (obtain ⟨_, _, _, _, _, _, _, _, _, _, _, _, _, _, _, _, _, _, _, _, _, rfl, _⟩ := h; rfl) | (obtain ⟨_, _, _, _, _, _, _, _, _, _, _, _, _, _, _, _, _, _, _, _, _, _, rfl, _⟩ := h; rfl) | (obtain ⟨_, _, _, _, _, _, _, _, _, _, _, _, _, _, _, _, _, _, _, _, _, _, _, rfl, _⟩ := h; rfl) | (obtain ⟨_, _, _, _, _, _, _, _, _, _, _, _, _, _, _, _, _, _, _, _, _, _, _, _, rfl, _⟩ := h; rfl) | (obtain ⟨_, _, _, _, _, _, _, _, _, _, _, _, _, _, _, _, _, _, _, _, _, _, _, _, _, rfl, _⟩ := h; rfl) | (obtain ⟨_, _, _, _, _, _, _, _, _, _, _, _, _, _, _, _, _, _, _, _, _, _, _, _, _, _, rfl, _⟩ := h; rfl) | (obtain ⟨_, _, _, _, _, _, _, _, _, _, _, _, _, _, _, _, _, _, _, _, _, _, _, _, _, _, _, rfl, _⟩ := h; rfl)
  · obtain ⟨L, g, a, o, nm, ts, p, c, i, ns, rfl, G, O, hi, h4, h60, N, q⟩ := h
    have hu := hu_of hr
    have hv := hr.units
    have hd := G.d
    have few := G.few
    have hz := nmF_at hi
    have hti := List.getElem?_eq_getElem (show i < ts.length by rw [G.len]; exact hi)
    have hgi := G.t i _ hti
    have hvi := valV_kvOf G.nd hz hti
    have b1 := O.one i hi
    have b2 := O.cL i hi
    have b3 := O.pc i hi
    refine ⟨_, (pss_cons (ps_set (i := 4) scp.nd rfl (by first | exact Or.inl rfl | exact Or.inr rfl) (pe_callB (call_sumK (K := K) rfl) (by rfl) T.n_sum (by decide +kernel) (pa_cons (pe_lc (own := [("one", 7), ("share", 8)]) rfl scp.nd (pi_items (pv 1)) (blkOk_by (own := [("one", 7), ("share", 8)]) (N := ["length", "guests", "name", "needs", "others", "promise", "changed", "one", "share"]) (sc := defScope s__law_least) (by decide +kernel)) (fun _ _ _ _ _ => (pg_tupK (K := K) (n := 2) rfl (pgs_cons (pg_name (i := 7) scp.nd rfl (by first | exact Or.inl rfl | exact Or.inr rfl)) (pgs_cons (pg_name (i := 8) scp.nd rfl (by first | exact Or.inl rfl | exact Or.inr rfl)) pgs_nil)))) (fun _ _ _ _ _ => (pts_one (pt_cmpR (op_neK (K := K) hv) (pv 7) (pv 2) (nomark _)))) (fun _ _ _ _ _ => (pe_ix (ix_anyK (K := K) hu) (pv 8) pe_int (fun _ _ => rfl)))) pa_nil)))
  (pss_cons (ps_for PassesOwn.never rfl (pi_range1 rfl T.n_range (pa_cons (pe_op op_plus (pe_op op_minus (pv 0) (pv 4)) pe_int) pa_nil)) (pg_name (i := 5) scp.nd rfl (by first | exact Or.inl rfl | exact Or.inr rfl))
  (pss_cons (ps_set (i := 6) scp.nd rfl (by first | exact Or.inl rfl | exact Or.inr rfl) (pe_callTy (call_dictKK (K := K) rfl) (by rfl) T.n_dict (by decide +kernel) (pa_cons (pv 1) pa_nil)))
  (pss_cons (ps_dput hu (pv 6) (pv 2) (pe_tup (pa_cons (pv 5) (pa_cons (pe_callB (call_max2Y rfl) (by rfl) T.n_max (by decide +kernel) (pa_cons (pe_ix (ix_anyK (K := K) hu) (pe_ix (ix_anyK (K := K) hu) (pv 1) (pv 2) (fun _ _ => rfl)) pe_int (fun _ _ => rfl)) (pa_cons (pv 5) pa_nil))) pa_nil))) rfl)
  (pss_frz (pss_one (ps_if (pt_cmpR op_isNo (pe_call (G__law_unmet.mono (by decide)) hr rfl g__law_unmet F__law_unmet.kp b__law_unmet .nil pass0 (pa_cons (pv 0) (pa_cons (pv 6) (pa_cons (pv 2) (pa_cons (pv 3) pa_nil))))) pe_non (nomark _))
  (pss_one (ps_ret (pv 5)))
  pss_nil))))))
  (pss_one (ps_ret pe_non)))), ?_⟩
    walk_at "ys"
    intro D nD
    refine lc_gen (fun j => if (!decide (j = i)) = true then some (.int (p j)) else none) (walk_items (kvs := kvOf nm ts)) nD (sz_lt (by rw [kvOf_len G.len]; omega)) (fun H' e' => e' _ _ hd) (fun j x H2 H3 Nx hj e2 hY k k0 => ?_) (fun H2 e2 hD => ?_)
    · obtain ⟨T', a', b', rfl, nT, rfl, h1, h2⟩ := hY
      obtain ⟨z, t, hz', ht, rfl, rfl⟩ := kvOf_pair h1 h2
      obtain rfl : nmF nm j = z := nmF_of hz'
      have hjn : j < nm.length := (List.getElem?_eq_some_iff.mp hz').1
      have f2 : Same H2 (upd H2 T' (.tup [.str (nmF nm j), .ref t])) := same_new0 nT
      have htj := f2 _ _ (e2 _ _ (G.t j t ht))
      walk_at "ys"
      by_cases hji : j = i
      · subst hji
        walk_at "ys"
        exact k0 _ (by simp) f2
      · refine y_ndF (fun e => hji ((nm_inj G.nd hjn hi).mp (V.str.inj e))) ?_
        walk_at "ys"
        refine k _ _ ?_ f2
        rw [decide_eq_false hji]
        rfl
    · rw [kvOf_len G.len, fm_ite] at hD
      change H2 D = some (.lst ((oth nm.length i).map fun j => V.int (p j))) at hD
      have hD2 : H2 D = some (.lst (((oth nm.length i).map fun j => ((p j : Nat) : Int)).map V.int)) := by
        rw [hD, List.map_map]
        rfl
      have hs0 := sum_others (f := p) (i := i) (x := p i) hi
      have hs1 : set1 p i (p i) = p := funext fun j => by
        unfold set1
        by_cases z : j = i
        · rw [if_pos z, z]
        · rw [if_neg z]
      rw [hs1] at hs0
      have hOs := O.sum
      walk_at "ys"
      refine y_sum hD2 ?_
      have hsum : ((oth nm.length i).map fun j => ((p j : Nat) : Int)).sum = ((Deal.sumTo (fun j => if j = i then 0 else p j) nm.length : Nat) : Int) := by
        rw [← oth_sum]
        generalize oth nm.length i = l
        induction l with
        | nil => rfl
        | cons x r ih => simp only [List.map_cons, List.sum_cons, ih]; omega
      rw [hsum]
      generalize hoth : Deal.sumTo (fun j => if j = i then 0 else p j) nm.length = ot at *
      walk_at "ys"
      have em : (L : Int) - (ot : Int) + 1 = ((L - ot + 1 : Nat) : Int) := by omega
      rw [em]
      refine y_gotr1 (by omega) (by omega) ?_
      refine for_it walk_range (fun k σ H' => ∃ u6 u7 u8 u9 : Option V, σ = [some (.int L), some (.ref g), some (.str (nmF nm i)), some (.ref a), some (.int ot), u6, u7, u8, u9] ∧ Same H H' ∧ ∀ j, j < k → okq nm.length L p c i ns j = false)
        ⟨none, none, none, none, rfl, e2, fun j hj => by omega⟩ (fun _ _ _ _ _ => trivial) (fun k x σ H3 H4 hk hP hY => ?_) (fun σ H3 hP => ?_)
      · obtain ⟨u6, u7, u8, u9, rfl, e3, hno⟩ := hP
        obtain ⟨rfl, rfl⟩ := hY
        have e9 : (fun i : Nat => V.int ((0 : Int) + (i : Nat))) k = V.int (k : Nat) := congrArg V.int (Int.zero_add _)
        rw [e9]
        have hkL : k + ot ≤ L := by omega
        have G3 := G.same e3
        walk_at "ys"
        refine y_dictF G3.d (fun cd ncd => ?_)
        have f4 : Same H4 (upd H4 cd (.dK (kvOf nm ts))) := same_new0 ncd
        have hcd : upd H4 cd (.dK (kvOf nm ts)) cd = some (.dK (kvOf nm ts)) := upd_same
        have ncH : H cd = none := free_of e3 ncd
        have e4 := e3.trans f4
        generalize upd H4 cd (.dK (kvOf nm ts)) = H4' at *
        have hd4 := e4 _ _ hd
        have hgi4 := e4 _ _ hgi
        walk_at "ys"
        refine y_ixF hd4 hvi ?_
        walk_at "ys"
        have ex : (if (k : Int) > (c i : Int) then (k : Int) else (c i : Int)) = ((max (c i) k : Nat) : Int) := by split <;> omega
        rw [ex]
        refine ⟨sz_line (by simp), fun tt ntt => ?_⟩
        have f5 : Same H4' (upd H4' tt (.tup [.int k, .int (max (c i) k : Nat)])) := same_new0 ntt
        have htt : upd H4' tt (.tup [.int k, .int (max (c i) k : Nat)]) tt = some (.tup [.int k, .int (max (c i) k : Nat)]) := upd_same
        have hcd5 := f5 _ _ hcd
        have e5 := e4.trans f5
        generalize upd H4' tt (.tup [.int k, .int (max (c i) k : Nat)]) = H5 at *
        walk_at "ys"
        refine y_put hcd5 (sz_lt (by rw [kvOf_len G.len]; omega)) ?_
        rw [put_kv nm ts i tt G.len G.nd hi]
        have hcd6 : upd H5 cd (.dK (kvOf nm (ts.set i tt))) cd = some (.dK (kvOf nm (ts.set i tt))) := upd_same
        have e6 : Same H (upd H5 cd (.dK (kvOf nm (ts.set i tt)))) := same_mut e5 ncH
        have hne : tt ≠ cd := ne_of htt hcd5 (fun z => by cases z)
        have htt6 : upd H5 cd (.dK (kvOf nm (ts.set i tt))) tt = some (.tup [.int k, .int (max (c i) k : Nat)]) := up_ne hne htt
        generalize upd H5 cd (.dK (kvOf nm (ts.set i tt))) = H6 at *
        walk_at "ys"
        refine y_frz hcd6 True.intro (fun od => ?_)
        have e7 : Same H (upd H6 cd (.frz od (.dK (kvOf nm (ts.set i tt))))) := same_mut e6 ncH
        have htt7 : (upd H6 cd (.frz od (.dK (kvOf nm (ts.set i tt))))) tt = some (.tup [.int k, .int (max (c i) k : Nat)]) := up_ne hne htt6
        have G7 : Gs (upd H6 cd (.frz od (.dK (kvOf nm (ts.set i tt))))) cd od nm (ts.set i tt) (set1 p i k) (set1 c i (max (c i) k)) := ⟨upd_same, by simp [G.len], fun j t ht => by
          rw [List.getElem?_set] at ht
          by_cases z : i = j
          · subst z
            rw [if_pos rfl, if_pos (by rw [G.len]; exact hi)] at ht
            obtain rfl := Option.some.inj ht
            rw [htt7]
            unfold set1
            rw [if_pos rfl, if_pos rfl]
          · rw [if_neg z] at ht
            rw [e7 _ _ (G.t j t ht)]
            unfold set1
            rw [if_neg (fun y => z y.symm), if_neg (fun y => z y.symm)], G.nd, G.ok, G.few⟩
        generalize upd H6 cd (.frz od (.dK (kvOf nm (ts.set i tt)))) = H7 at *
        have hs : Deal.sumTo (set1 p i k) nm.length ≤ L := by
          rw [sum_others hi, hoth]
          omega
        have O7 : Deal.Ok nm.length L (set1 p i k) (set1 c i (max (c i) k)) := ok_set1 O (by omega) (by omega) (by omega) hs
        walk_at "ys"
        refine ⟨L, cd, a, od, nm, _, _, _, i, ns, rfl, G7, O7, hi, h4, h60, N.same e7, fun H8 e8 => ?_⟩
        cases hun : (shortL nm.length L (set1 p i k) (set1 c i (max (c i) k)) i ns).isEmpty with
        | true =>
          rw [unmet_non.mpr hun]
          walk_at "ys"
          have hf : (List.range (L + 1)).find? (okq nm.length L p c i ns) = some k := find_some (by omega) (by unfold okq; rw [decide_eq_true hs, hun]; rfl) hno
          unfold leastV at q
          rw [hf] at q
          exact q _ (e7.trans e8)
        | false =>
          walk_at "ys"
          refine y_dF (fun z => by rw [unmet_non.mp z] at hun; cases hun) ?_
          walk_at "ys"
          refine ⟨_, _, _, _, rfl, e7.trans e8, fun j hj => ?_⟩
          by_cases hjk : j < k
          · exact hno j hjk
          · obtain rfl : j = k := by omega
            unfold okq
            rw [hun, Bool.and_false]
      · obtain ⟨u6, u7, u8, u9, rfl, e3, hno⟩ := hP
        walk_at "ys"
        have hf : (List.range (L + 1)).find? (okq nm.length L p c i ns) = none := find_none fun j hj => by
          by_cases hjk : j < L - ot + 1
          · exact hno j (by omega)
          · unfold okq
            rw [decide_eq_false (by rw [sum_others hi, hoth]; omega), Bool.false_and]
        unfold leastV at q
        rw [hf] at q
        exact q _ e3
end
end K87
namespace K87
open PySem L2 Y

section
variable {P : Program} {w : World} {K : PySem.W.Frag} {mg : Str → Option Value} {base : Heap}
def sp_al (n : Nat) : Sp := fun vs H Q _ => ∃ x y : V, vs = [x, y] ∧ Al H n x y ∧ ∀ H', Same H H' → Q (.bl true) H'
theorem ok__law_samebase {f : Addr} {fd : FuncData} (T : Txt K mg) (F : Fun K "_law_same" "_law_same" s__law_same f fd) : FnOk P w K mg base CX0 1 f fd ["told", "due"] (sp_al 0) := by
  have scp := sc__law_same
  refine F.ok sc__law_same (fun vs H Q E h => ?_) (fun cdv A outer s H vs Q E hr h => ?_)
  · first | (obtain ⟨rfl, _⟩ := h; rfl) | (obtain ⟨_, rfl, _⟩ := h; rfl) | (obtain ⟨_, _, rfl, _⟩ := h; rfl) | (obtain ⟨_, _, _, rfl, _⟩ := h; rfl) | (obtain ⟨_, _, _, _, rfl, _⟩ := h; rfl) | (obtain ⟨_, _, _, _, _, rfl, _⟩ := h; rfl) | (obtain ⟨_, _, _, _, _, _, rfl, _⟩ := h; rfl) | (obtain ⟨_, _, _, _, _, _, _, rfl, _⟩ := h; rfl) | (obtain ⟨_, _, _, _, _, _, _, _, rfl, _⟩ := h; rfl) | (obtain ⟨_, _, _, _, _, _, _, _, _, rfl, _⟩ := h; rfl) | (obtain ⟨_, _, _, _, _, _, _, _, _, _, rfl, _⟩ := h; rfl) | (obtain ⟨_, _, _, _, _, _, _, _, _, _, _, rfl, _⟩ := h; rfl) | (obtain ⟨_, _, _, _, _, _, _, _, _, _, _, _, rfl, _⟩ := h; rfl) | (obtain ⟨_, _, _, _, _, _, _, _, _, _, _, _, _, rfl, _⟩ := h; rfl) | (obtain ⟨_, _, _, _, _, _, _, _, _, _, _, _, _, _, rfl, _⟩ := h; rfl) | (obtain ⟨_, _, _, _, _, _, _, _, _, _, _, _, _, _, _, rfl, _⟩ := h; rfl) | (obtain ⟨_, _, _, _, _, _, _, _, _, _, _, _, _, _, _, _, rfl, _⟩ := h; rfl) | (obtain ⟨_, _, _, _, _, _, _, _, _, _, _, _, _, _, _, _, _, rfl, _⟩ := h; rfl) | (obtain ⟨_, _, _, _, _, _, _, _, _, _, _, _, _, _, _, _, _, _, rfl, _⟩ := h; rfl) | (obtain ⟨_, _, _, _, _, _, _, _, _, _, _, _, _, _, _, _, _, _, _, rfl, _⟩ := h; rfl) | (obtain ⟨_, _, _, _, _, _, _, _, _, _, _, _, _, _, _, _, _, _, _, _, rfl, _⟩ := h; rfl) | (obtain ⟨_, _, _, _, _, _, _, _, _, _, _, _, _, _, _, _, _, _, _, _, _, rfl, _⟩ := h; rfl) | (obtain ⟨_, _, _, _, _, _, _, _, _, _, _, _, _, _, _, _, _, _, _, _, _, _, rfl, _⟩ := h; rfl) | (obtain ⟨_, _, _, _, _, _, _, _, _, _, _, _, _, _, _, _, _, _, _, _, _, _, _, rfl, _⟩ := h; rfl) | (obtain ⟨_, _, _, _, _, _, _, _, _, _, _, _, _, _, _, _, _, _, _, _, _, _, _, _, rfl, _⟩ := h; rfl) | (obtain ⟨_, _, _, _, _, _, _, _, _, _, _, _, _, _, _, _, _, _, _, _, _, _, _, _, _, rfl, _⟩ := h; rfl) | (obtain ⟨_, _, _, _, _, _, _, _, _, _, _, _, _, _, _, _, _, _, _, _, _, _, _, _, _, _, rfl, _⟩ := h; rfl) | (obtain ⟨_, _, _, _, _, _, _, _, _, _, _, _, _, _, _, _, _, _, _, _, _, _, _, _, _, _, _, rfl, _⟩ := h; rfl)
  · obtain ⟨x, y, rfl, hA, q⟩ := h
    have hu := hu_of hr
    have hv := hr.units
    refine ⟨_, (pss_cons (ps_if (PW.pt (pw_or (pt_cmpR op_isNo (pv 1) pe_non (nomark _)) (pw_or1 (pt_val (pe_callB (call_isiY (K := K)) (by rfl) T.n_isinstance (by decide +kernel) (pa_cons (pv 1) (pa_cons (pe_bty (T := "bool") T.n_bool (by decide +kernel)) pa_nil)))))))
  (pss_one (ps_ret (pe_ifExp (pt_cmpR op_isNo (pv 1) pe_non (nomark _)) (pe_cmpR op_isNo (pv 0) pe_non (nomark _)) (pe_and (pe_callB (call_isiY (K := K)) (by rfl) T.n_isinstance (by decide +kernel) (pa_cons (pv 0) (pa_cons (pe_bty (T := "bool") T.n_bool (by decide +kernel)) pa_nil))) (pe_one (pe_cmpR (op_eqK (K := K) hv) (pe_cmpR op_isBl (pv 0) pe_bl (nomark _)) (pe_cmpR op_isBl (pv 1) pe_bl (nomark _)) (nomark _)))))))
  pss_nil)
  (pss_cons (ps_if (pt_val (pe_callB (call_isiY (K := K)) (by rfl) T.n_isinstance (by decide +kernel) (pa_cons (pv 1) (pa_cons (pe_bty (T := "int") T.n_int (by decide +kernel)) pa_nil))))
  (pss_one (ps_ret (pe_and (pe_callB (call_isiY (K := K)) (by rfl) T.n_isinstance (by decide +kernel) (pa_cons (pv 0) (pa_cons (pe_bty (T := "int") T.n_int (by decide +kernel)) pa_nil))) (pe_and (pe_not (pe_callB (call_isiY (K := K)) (by rfl) T.n_isinstance (by decide +kernel) (pa_cons (pv 0) (pa_cons (pe_bty (T := "bool") T.n_bool (by decide +kernel)) pa_nil)))) (pe_one (pe_cmpR (op_eqK (K := K) hv) (pe_op op_minus (pe_callTy call_intY (by rfl) T.n_int (by decide +kernel) (pa_cons (pv 0) pa_nil)) (pv 1)) pe_int (nomark _)))))))
  pss_nil)
  (pss_cons (ps_if (pt_val (pe_callB (call_isiY (K := K)) (by rfl) T.n_isinstance (by decide +kernel) (pa_cons (pv 1) (pa_cons (pe_bty (T := "str") T.n_str (by decide +kernel)) pa_nil))))
  (pss_cons (ps_set (i := 2) scp.nd rfl (by first | exact Or.inl rfl | exact Or.inr rfl) (pe_and (pe_callB (call_isiY (K := K)) (by rfl) T.n_isinstance (by decide +kernel) (pa_cons (pv 0) (pa_cons (pe_bty (T := "str") T.n_str (by decide +kernel)) pa_nil))) (pe_one (pe_cmpR (op_eqK (K := K) hv) (pe_callB (call_lenK (K := K)) (by rfl) T.n_len (by decide +kernel) (pa_cons (pv 0) pa_nil)) (pe_callB (call_lenK (K := K)) (by rfl) T.n_len (by decide +kernel) (pa_cons (pv 1) pa_nil)) (nomark _)))))
  (pss_one (ps_ret (pe_and (pv 2) (pe_one (pe_cmpR (op_eqK (K := K) hv) (pe_lc (own := [("k", 3)]) (g := gName 3) rfl scp.nd (pi_range1 rfl T.n_range (pa_cons (pe_callB (call_lenK (K := K)) (by rfl) T.n_len (by decide +kernel) (pa_cons (pv 1) pa_nil)) pa_nil)) (blkOk_by (own := [("k", 3)]) (N := ["told", "due", "same", "k"]) (sc := defScope s__law_same) (by decide +kernel)) (fun _ _ _ _ _ => (pg_name (i := 3) scp.nd rfl (by first | exact Or.inl rfl | exact Or.inr rfl))) (fun _ _ _ _ _ => (pts_one (pt_cmpR (op_neK (K := K) hv) (pe_slice sl_str (pv 0) (po_some (pv 3)) (po_some (pe_op op_plus (pv 3) pe_int))) (pe_ix (ix_anyK (K := K) hu) (pv 1) (pv 3) (fun _ _ => rfl)) (nomark _)))) (fun _ _ _ _ _ => (pv 3))) (pe_lst pa_nil) (nomark _)))))))
  pss_nil)
  (pss_cons (ps_if (pt_val (pe_callB (call_isiY (K := K)) (by rfl) T.n_isinstance (by decide +kernel) (pa_cons (pv 1) (pa_cons (pe_bty (T := "dict") T.n_dict (by decide +kernel)) pa_nil))))
  (pss_one ps_never)
  pss_nil)
  (pss_cons ps_never
  (pss_cons ps_never
  (pss_one ps_never))))))), ?_⟩
    cases hA with
    | sc h =>
      cases h with
      | non =>
        walk_at "ys"
        exact q _ (Same.refl _)
      | bl b =>
        walk_at "ys"
        refine y_dF (fun z => nomatch z) ?_
        walk_at "ys"
        refine y_dF (fun z => nomatch z) ?_
        walk_at "ys"
        rw [show decide (V.bl (decide (b = true)) = V.bl (decide (b = true))) = true from decide_eq_true rfl]
        exact q _ (Same.refl _)
      | int i =>
        walk_at "ys"
        refine y_dF (fun z => nomatch z) ?_
        walk_at "ys"
        have e : decide (V.int (i - i) = V.int 0) = true := decide_eq_true (by rw [Int.sub_self])
        rw [e]
        exact q _ (Same.refl _)
      | @str z hz =>
        walk_at "ys"
        refine y_dF (fun z => nomatch z) ?_
        walk_at "ys"
        refine y_lenS (sz_line (by omega)) ?_
        walk_at "ys"
        refine y_lenS (sz_line (by omega)) ?_
        walk_at "ys"
        rw [decide_eq_true rfl]
        walk_at "ys"
        refine y_lenS (sz_line (by omega)) ?_
        walk_at "ys"
        refine y_gotr1 (by omega) (by omega) ?_
        intro D nD
        refine lc_gen (fun _ => none) walk_range nD (sz_lt (by omega)) (fun _ _ => trivial) (fun k x H2 H3 Nx hk e hY c0 c1 => ?_) (fun H2 e2 hno => ?_)
        · obtain ⟨rfl, rfl⟩ := hY
          have hk : k < z.cps.toList.length := by
            rw [Array.length_toList]
            show k < z.length
            omega
          obtain ⟨c, hc⟩ : ∃ c, z.cps.toList[k]? = some c := ⟨_, List.getElem?_eq_getElem hk⟩
          have e0 : (fun i : Nat => V.int ((0 : Int) + (i : Nat))) k = V.int (k : Nat) := congrArg V.int (Int.zero_add _)
          rw [e0]
          walk_at "ys"
          refine y_slS (sz_line (by omega)) ?_
          rw [cut_sign hc]
          walk_at "ys"
          refine y_ixS (sz_line (by omega)) (L2.atI_nat hc) ?_
          walk_at "ys"
          exact c1 _ rfl (Same.refl _)
        · rw [fm_non] at hno
          walk_at "ys"
          refine ⟨sz_line (by simp), fun el nel => ?_⟩
          have e3 : Same H2 (upd H2 el (.lst [])) := same_new0 nel
          walk_at "ys"
          refine y_eqL (xs := []) (ys := []) (e3 _ _ hno) upd_same ?_
          exact q _ (e2.trans e3)
theorem ok_alstep (T : Txt K mg) {n : Nat} (ih : ∀ {f : Addr} {fd : FuncData}, Fun K "_law_same" "_law_same" s__law_same f fd → FnOk P w K mg base CX0 (n + 1) f fd ["told", "due"] (sp_al n)) {f : Addr} {fd : FuncData} (F : Fun K "_law_same" "_law_same" s__law_same f fd) : FnOk P w K mg base CX0 (n + 2) f fd ["told", "due"] (sp_al (n + 1)) := by
  obtain ⟨f__law_same, fd__law_same, g__law_same, F__law_same⟩ := T.d__law_same
  have G__law_same := ih F__law_same
  have b__law_same := F__law_same.binds (ps := ["told", "due"]) fun _ _ _ _ _ _ us hl => match us, hl with | [_, _], _ => rfl
  have scp := sc__law_same
  refine F.ok sc__law_same (fun vs H Q E h => ?_) (fun cdv A outer s H vs Q E hr h => ?_)
  · obtain ⟨_, _, rfl, _⟩ := h
    rfl
  · obtain ⟨x, y, rfl, hA, q⟩ := h
    have hu := hu_of hr
    have hv := hr.units
    refine ⟨_, (pss_cons (ps_if (PW.pt (pw_or (pt_cmpR op_isNo (pv 1) pe_non (nomark _)) (pw_or1 (pt_val (pe_callB (call_isiY (K := K)) (by rfl) T.n_isinstance (by decide +kernel) (pa_cons (pv 1) (pa_cons (pe_bty (T := "bool") T.n_bool (by decide +kernel)) pa_nil)))))))
  (pss_one (ps_ret (pe_ifExp (pt_cmpR op_isNo (pv 1) pe_non (nomark _)) (pe_cmpR op_isNo (pv 0) pe_non (nomark _)) (pe_and (pe_callB (call_isiY (K := K)) (by rfl) T.n_isinstance (by decide +kernel) (pa_cons (pv 0) (pa_cons (pe_bty (T := "bool") T.n_bool (by decide +kernel)) pa_nil))) (pe_one (pe_cmpR (op_eqK (K := K) hv) (pe_cmpR op_isBl (pv 0) pe_bl (nomark _)) (pe_cmpR op_isBl (pv 1) pe_bl (nomark _)) (nomark _)))))))
  pss_nil)
  (pss_cons (ps_if (pt_val (pe_callB (call_isiY (K := K)) (by rfl) T.n_isinstance (by decide +kernel) (pa_cons (pv 1) (pa_cons (pe_bty (T := "int") T.n_int (by decide +kernel)) pa_nil))))
  (pss_one (ps_ret (pe_and (pe_callB (call_isiY (K := K)) (by rfl) T.n_isinstance (by decide +kernel) (pa_cons (pv 0) (pa_cons (pe_bty (T := "int") T.n_int (by decide +kernel)) pa_nil))) (pe_and (pe_not (pe_callB (call_isiY (K := K)) (by rfl) T.n_isinstance (by decide +kernel) (pa_cons (pv 0) (pa_cons (pe_bty (T := "bool") T.n_bool (by decide +kernel)) pa_nil)))) (pe_one (pe_cmpR (op_eqK (K := K) hv) (pe_op op_minus (pe_callTy call_intY (by rfl) T.n_int (by decide +kernel) (pa_cons (pv 0) pa_nil)) (pv 1)) pe_int (nomark _)))))))
  pss_nil)
  (pss_cons (ps_if (pt_val (pe_callB (call_isiY (K := K)) (by rfl) T.n_isinstance (by decide +kernel) (pa_cons (pv 1) (pa_cons (pe_bty (T := "str") T.n_str (by decide +kernel)) pa_nil))))
  (pss_cons (ps_set (i := 2) scp.nd rfl (by first | exact Or.inl rfl | exact Or.inr rfl) (pe_and (pe_callB (call_isiY (K := K)) (by rfl) T.n_isinstance (by decide +kernel) (pa_cons (pv 0) (pa_cons (pe_bty (T := "str") T.n_str (by decide +kernel)) pa_nil))) (pe_one (pe_cmpR (op_eqK (K := K) hv) (pe_callB (call_lenK (K := K)) (by rfl) T.n_len (by decide +kernel) (pa_cons (pv 0) pa_nil)) (pe_callB (call_lenK (K := K)) (by rfl) T.n_len (by decide +kernel) (pa_cons (pv 1) pa_nil)) (nomark _)))))
  (pss_one (ps_ret (pe_and (pv 2) (pe_one (pe_cmpR (op_eqK (K := K) hv) (pe_lc (own := [("k", 3)]) (g := gName 3) rfl scp.nd (pi_range1 rfl T.n_range (pa_cons (pe_callB (call_lenK (K := K)) (by rfl) T.n_len (by decide +kernel) (pa_cons (pv 1) pa_nil)) pa_nil)) (blkOk_by (own := [("k", 3)]) (N := ["told", "due", "same", "k"]) (sc := defScope s__law_same) (by decide +kernel)) (fun _ _ _ _ _ => (pg_name (i := 3) scp.nd rfl (by first | exact Or.inl rfl | exact Or.inr rfl))) (fun _ _ _ _ _ => (pts_one (pt_cmpR (op_neK (K := K) hv) (pe_slice sl_str (pv 0) (po_some (pv 3)) (po_some (pe_op op_plus (pv 3) pe_int))) (pe_ix (ix_anyK (K := K) hu) (pv 1) (pv 3) (fun _ _ => rfl)) (nomark _)))) (fun _ _ _ _ _ => (pv 3))) (pe_lst pa_nil) (nomark _)))))))
  pss_nil)
  (pss_cons (ps_if (pt_val (pe_callB (call_isiY (K := K)) (by rfl) T.n_isinstance (by decide +kernel) (pa_cons (pv 1) (pa_cons (pe_bty (T := "dict") T.n_dict (by decide +kernel)) pa_nil))))
  (pss_one (ps_ret (pe_and (pe_callB (call_isiY (K := K)) (by rfl) T.n_isinstance (by decide +kernel) (pa_cons (pv 0) (pa_cons (pe_bty (T := "dict") T.n_dict (by decide +kernel)) pa_nil))) (pe_one (pe_call (G__law_same.mono (by first | decide | omega)) hr rfl g__law_same F__law_same.kp b__law_same .nil pass0 (pa_cons (LiI.pe_listItems rfl (pv 0) (by rfl) T.n_list (by decide +kernel)) (pa_cons (LiI.pe_listItems rfl (pv 1) (by rfl) T.n_list (by decide +kernel)) pa_nil)))))))
  pss_nil)
  (pss_cons (ps_if (PW.pt (pw_or (pt_cmpR (op_neK (K := K) hv) (pe_callB (call_isiY (K := K)) (by rfl) T.n_isinstance (by decide +kernel) (pa_cons (pv 0) (pa_cons (pe_bty (T := "list") T.n_list (by decide +kernel)) pa_nil))) (pe_callB (call_isiY (K := K)) (by rfl) T.n_isinstance (by decide +kernel) (pa_cons (pv 1) (pa_cons (pe_bty (T := "list") T.n_list (by decide +kernel)) pa_nil))) (nomark _)) (pw_or1 (pt_cmpR (op_neK (K := K) hv) (pe_callB (call_isiY (K := K)) (by rfl) T.n_isinstance (by decide +kernel) (pa_cons (pv 0) (pa_cons (pe_bty (T := "tuple") T.n_tuple (by decide +kernel)) pa_nil))) (pe_callB (call_isiY (K := K)) (by rfl) T.n_isinstance (by decide +kernel) (pa_cons (pv 1) (pa_cons (pe_bty (T := "tuple") T.n_tuple (by decide +kernel)) pa_nil))) (nomark _)))))
  (pss_one (ps_ret pe_bl))
  pss_nil)
  (pss_cons (ps_if (PW.pt (pw_or (pt_not (pt_val (pe_callB (call_isiTY (K := K)) (by rfl) T.n_isinstance (by decide +kernel) (pa_cons (pv 0) (pa_cons (pe_tup (pa_cons (pe_bty (T := "list") T.n_list (by decide +kernel)) (pa_cons (pe_bty (T := "tuple") T.n_tuple (by decide +kernel)) pa_nil))) pa_nil))))) (pw_or1 (pt_cmpR (op_neK (K := K) hv) (pe_callB (call_lenK (K := K)) (by rfl) T.n_len (by decide +kernel) (pa_cons (pv 0) pa_nil)) (pe_callB (call_lenK (K := K)) (by rfl) T.n_len (by decide +kernel) (pa_cons (pv 1) pa_nil)) (nomark _)))))
  (pss_one (ps_ret pe_bl))
  pss_nil)
  (pss_one (ps_ret (pe_cmpR (op_eqK (K := K) hv) (pe_lc (own := [("k", 3)]) (g := gName 3) rfl scp.nd (pi_range1 rfl T.n_range (pa_cons (pe_callB (call_lenK (K := K)) (by rfl) T.n_len (by decide +kernel) (pa_cons (pv 1) pa_nil)) pa_nil)) (blkOk_by (own := [("k", 3)]) (N := ["told", "due", "same", "k"]) (sc := defScope s__law_same) (by decide +kernel)) (fun _ _ _ _ _ => (pg_name (i := 3) scp.nd rfl (by first | exact Or.inl rfl | exact Or.inr rfl))) (fun _ _ _ _ _ => (pts_one (pt_not (pt_val (pe_call (G__law_same.mono (by first | decide | omega)) hr rfl g__law_same F__law_same.kp b__law_same .nil pass0 (pa_cons (pe_ix (ix_anyK (K := K) hu) (pv 0) (pv 3) (fun _ _ => rfl)) (pa_cons (pe_ix (ix_anyK (K := K) hu) (pv 1) (pv 3) (fun _ _ => rfl)) pa_nil))))))) (fun _ _ _ _ _ => (pv 3))) (pe_lst pa_nil) (nomark _)))))))))), ?_⟩
    cases hA with
    | sc h =>
      cases h with
      | non =>
        walk_at "ys"
        exact q _ (Same.refl _)
      | bl b =>
        walk_at "ys"
        refine y_dF (fun z => nomatch z) ?_
        walk_at "ys"
        refine y_dF (fun z => nomatch z) ?_
        walk_at "ys"
        rw [show decide (V.bl (decide (b = true)) = V.bl (decide (b = true))) = true from decide_eq_true rfl]
        exact q _ (Same.refl _)
      | int i =>
        walk_at "ys"
        refine y_dF (fun z => nomatch z) ?_
        walk_at "ys"
        have e : decide (V.int (i - i) = V.int 0) = true := decide_eq_true (by rw [Int.sub_self])
        rw [e]
        exact q _ (Same.refl _)
      | @str z hz =>
        walk_at "ys"
        refine y_dF (fun z => nomatch z) ?_
        walk_at "ys"
        refine y_lenS (sz_line (by omega)) ?_
        walk_at "ys"
        refine y_lenS (sz_line (by omega)) ?_
        walk_at "ys"
        rw [decide_eq_true rfl]
        walk_at "ys"
        refine y_lenS (sz_line (by omega)) ?_
        walk_at "ys"
        refine y_gotr1 (by omega) (by omega) ?_
        intro D nD
        refine lc_gen (fun _ => none) walk_range nD (sz_lt (by omega)) (fun _ _ => trivial) (fun k x H2 H3 Nx hk e hY c0 c1 => ?_) (fun H2 e2 hno => ?_)
        · obtain ⟨rfl, rfl⟩ := hY
          have hk : k < z.cps.toList.length := by
            rw [Array.length_toList]
            show k < z.length
            omega
          obtain ⟨c, hc⟩ : ∃ c, z.cps.toList[k]? = some c := ⟨_, List.getElem?_eq_getElem hk⟩
          have e0 : (fun i : Nat => V.int ((0 : Int) + (i : Nat))) k = V.int (k : Nat) := congrArg V.int (Int.zero_add _)
          rw [e0]
          walk_at "ys"
          refine y_slS (sz_line (by omega)) ?_
          rw [cut_sign hc]
          walk_at "ys"
          refine y_ixS (sz_line (by omega)) (L2.atI_nat hc) ?_
          walk_at "ys"
          exact c1 _ rfl (Same.refl _)
        · rw [fm_non] at hno
          walk_at "ys"
          refine ⟨sz_line (by simp), fun el nel => ?_⟩
          have e3 : Same H2 (upd H2 el (.lst [])) := same_new0 nel
          walk_at "ys"
          refine y_eqL (xs := []) (ys := []) (e3 _ _ hno) upd_same ?_
          exact q _ (e2.trans e3)
    | @lst n a b xs ys ha hb hl h1 hit =>
      walk_at "ys"
      refine y_dF (fun z => nomatch z) ?_
      walk_at "ys"
      refine ⟨sz_line (by simp), fun tp ntp => ?_⟩
      have e1 : Same H (upd H tp (.tup [.ty "list", .ty "tuple"])) := same_new0 ntp
      have ha1 := e1 _ _ ha
      have hb1 := e1 _ _ hb
      walk_at "ys"
      rw [hl]
      walk_at "ys"
      refine y_gotr1 (by omega) (by omega) ?_
      generalize upd H tp (.tup [.ty "list", .ty "tuple"]) = H1 at *
      intro D nD
      refine lc_gen (fun _ => none) walk_range nD (sz_lt (by omega)) (fun _ _ => trivial) (fun k x H2 H3 Nx hk e hY c0 c1 => ?_) (fun H2 e2 hno => ?_)
      · obtain ⟨rfl, rfl⟩ := hY
        have hky : k < ys.length := by omega
        have hkx : k < xs.length := by omega
        have ha2 := e _ _ ha1
        have hb2 := e _ _ hb1
        have gx : xs[k]? = some xs[k] := List.getElem?_eq_getElem hkx
        have gy : ys[k]? = some ys[k] := List.getElem?_eq_getElem hky
        have e0 : (fun i : Nat => V.int ((0 : Int) + (i : Nat))) k = V.int (k : Nat) := congrArg V.int (Int.zero_add _)
        rw [e0]
        walk_at "ys"
        refine y_ixL ha2 (L2.atI_nat gx) ?_
        walk_at "ys"
        refine y_ixL hb2 (L2.atI_nat gy) ?_
        walk_at "ys"
        refine ⟨xs[k], ys[k], rfl, (hit k _ _ gx gy).same (e1.trans e), fun H4 e4 => ?_⟩
        walk_at "ys"
        exact c1 _ rfl e4
      · rw [fm_non] at hno
        walk_at "ys"
        refine ⟨sz_line (by simp), fun el nel => ?_⟩
        have e3 : Same H2 (upd H2 el (.lst [])) := same_new0 nel
        walk_at "ys"
        refine y_eqL (xs := []) (ys := []) (e3 _ _ hno) upd_same ?_
        exact q _ ((e1.trans e2).trans e3)
    | @tup n a b xs ys ha hb hl h1 hit =>
      walk_at "ys"
      refine y_dF (fun z => nomatch z) ?_
      walk_at "ys"
      refine ⟨sz_line (by simp), fun tp ntp => ?_⟩
      have e1 : Same H (upd H tp (.tup [.ty "list", .ty "tuple"])) := same_new0 ntp
      have ha1 := e1 _ _ ha
      have hb1 := e1 _ _ hb
      walk_at "ys"
      rw [hl]
      walk_at "ys"
      refine y_gotr1 (by omega) (by omega) ?_
      generalize upd H tp (.tup [.ty "list", .ty "tuple"]) = H1 at *
      intro D nD
      refine lc_gen (fun _ => none) walk_range nD (sz_lt (by omega)) (fun _ _ => trivial) (fun k x H2 H3 Nx hk e hY c0 c1 => ?_) (fun H2 e2 hno => ?_)
      · obtain ⟨rfl, rfl⟩ := hY
        have hky : k < ys.length := by omega
        have hkx : k < xs.length := by omega
        have ha2 := e _ _ ha1
        have hb2 := e _ _ hb1
        have gx : xs[k]? = some xs[k] := List.getElem?_eq_getElem hkx
        have gy : ys[k]? = some ys[k] := List.getElem?_eq_getElem hky
        have e0 : (fun i : Nat => V.int ((0 : Int) + (i : Nat))) k = V.int (k : Nat) := congrArg V.int (Int.zero_add _)
        rw [e0]
        walk_at "ys"
        refine y_ixT ha2 (L2.atI_nat gx) ?_
        walk_at "ys"
        refine y_ixT hb2 (L2.atI_nat gy) ?_
        walk_at "ys"
        refine ⟨xs[k], ys[k], rfl, (hit k _ _ gx gy).same (e1.trans e), fun H4 e4 => ?_⟩
        walk_at "ys"
        exact c1 _ rfl e4
      · rw [fm_non] at hno
        walk_at "ys"
        refine ⟨sz_line (by simp), fun el nel => ?_⟩
        have e3 : Same H2 (upd H2 el (.lst [])) := same_new0 nel
        walk_at "ys"
        refine y_eqL (xs := []) (ys := []) (e3 _ _ hno) upd_same ?_
        exact q _ ((e1.trans e2).trans e3)
    | @dct n a b kvs kws ha hb hl h1 hk hs hit =>
      walk_at "ys"
      refine y_dF (fun z => nomatch z) ?_
      walk_at "ys"
      refine y_itemsL ha (fun H1 p ts e1 np hp hlt hts => ?_)
      walk_at "ys"
      refine y_itemsL (e1 _ _ hb) (fun H2 p2 us e2 np2 hp2 hlu hus => ?_)
      walk_at "ys"
      refine ⟨_, _, rfl, .lst (e2 _ _ hp) hp2 (by simp [hlt, hlu, hl]) (by simp [hlt, h1]) (fun i u v hu hv => ?_), fun H3 e3 => q H3 ((e1.trans e2).trans e3)⟩
      have hi : i < kvs.length := by
        have := (List.getElem?_eq_some_iff.mp hu).1
        rw [List.length_map] at this
        omega
      have hi1 : i < ts.length := by omega
      have hi2 : i < us.length := by omega
      have gk : kvs[i]? = some kvs[i] := List.getElem?_eq_getElem hi
      have gw : kws[i]? = some (kws[i]'(by omega)) := List.getElem?_eq_getElem (by omega)
      rw [List.getElem?_map, List.getElem?_eq_getElem hi1] at hu
      rw [List.getElem?_map, List.getElem?_eq_getElem hi2] at hv
      obtain rfl := Option.some.inj hu
      obtain rfl := Option.some.inj hv
      have t1 := e2 _ _ (hts i _ _ (List.getElem?_eq_getElem hi1) gk)
      have t2 := hus i _ _ (List.getElem?_eq_getElem hi2) gw
      have ek := hk i _ _ gk gw
      rw [← ek] at t2
      refine .tup t1 t2 rfl (by show 2 ≤ 1000; omega) (fun j x y hx hy => ?_)
      match j, hx, hy with
      | 0, hx, hy =>
        obtain rfl := Option.some.inj hx
        obtain rfl := Option.some.inj hy
        exact .sc (hs i _ gk)
      | 1, hx, hy =>
        obtain rfl := Option.some.inj hx
        obtain rfl := Option.some.inj hy
        exact (hit i _ _ gk gw).same (e1.trans e2)
theorem ok_al (T : Txt K mg) : ∀ (n : Nat) {f : Addr} {fd : FuncData} (F : Fun K "_law_same" "_law_same" s__law_same f fd), FnOk P w K mg base CX0 (n + 1) f fd ["told", "due"] (sp_al n)
  | 0, _, _, F => ok__law_samebase T F
  | n + 1, _, _, F => ok_alstep T (ok_al T n) F
theorem ok__law_samemain (T : Txt K mg) {f : Addr} {fd : FuncData} (F : Fun K "_law_same" "_law_same" s__law_same f fd) : FnOk P w K mg base CX0 7 f fd ["told", "due"] (sp_al 6) := ok_al T 6 F
end
end K87
namespace K87
open PySem L2 Y

theorem Box.isL {H : Hp} {b : Addr} {B : Nat} (X : Box H b B) : ∃ xs, H b = some (.lst xs) := by
  obtain ⟨g, d, c, h, _⟩ := X.at_
  exact ⟨_, h⟩
theorem Box.neL {H : Hp} {b a : Addr} {B : Nat} {u : HO} (X : Box H b B) (h : H a = some u) (n : ∀ xs, u ≠ .lst xs) : a ≠ b := fun z => by
  obtain ⟨xs, hb⟩ := X.isL
  rw [z, hb] at h
  exact n xs (Option.some.inj h).symm
theorem Gs.but {H H' : Hp} {g b : Addr} {o : Obj} {nm : List Str} {ts : List Addr} {p c : Nat → Nat} {B : Nat} (G : Gs H g o nm ts p c) (X : Box H b B) (e : SameBut b H H') : Gs H' g o nm ts p c :=
  ⟨e _ _ (X.neL G.d (fun xs z => by cases z)) G.d, G.len, fun i a h => e _ _ (X.neL (G.t i a h) (fun xs z => by cases z)) (G.t i a h), G.nd, G.ok, G.few⟩
theorem NdsL.but {H H' : Hp} {a b : Addr} {ns : List (Nat × Nat)} {B : Nat} (N : NdsL H a ns) (X : Box H b B) (e : SameBut b H H') (ne : a ≠ b) : NdsL H' a ns := by
  obtain ⟨ps, h2, h3, h4⟩ := N.at_
  exact ⟨⟨ps, e _ _ ne h2, h3, fun i p n g1 g2 => e _ _ (X.neL (h4 i p n g1 g2) (fun xs z => by cases z)) (h4 i p n g1 g2)⟩, N.lim, N.few⟩
theorem three_v {a b c x : V} {k : Nat} (h : k < 3) (P : V → Prop) (ha : P a) (hb : P b) (hc : P c) : ∃ v, atI [a, b, c] (k : Int) = some v ∧ P v := by
  match k, h with
  | 0, _ => exact ⟨a, rfl, ha⟩
  | 1, _ => exact ⟨b, rfl, hb⟩
  | 2, _ => exact ⟨c, rfl, hc⟩
section
variable {P : Program} {w : World} {K : PySem.W.Frag} {mg : Str → Option Value} {base : Heap}
def sp__law_needs (K : PySem.W.Frag) : Sp := fun vs H Q _ => ∃ (L : Nat) (b g : Addr) (B : Nat) (o : Obj) (nm : List Str) (ts : List Addr) (p c : Nat → Nat) (i : Nat), vs = [.ref b, .int L, .ref g, .str (nmF nm i)] ∧ Box H b B ∧ B ≤ 100000 ∧ Gs H g o nm ts p c ∧ Deal.Ok nm.length L p c ∧ i < nm.length ∧ 4 ≤ L ∧ L ≤ 60 ∧ ∀ (fl : Addr) (ns : List (Nat × Nat)) (H' : Hp), SameBut b H H' → H fl = none → Box H' b (B + 100) → NdsL H' fl ns → ns.length ≤ 6 → Q (.ref fl) H'
theorem ok__law_needs {f : Addr} {fd : FuncData} (T : Txt K mg) (F : Fun K "_law_needs" "_law_needs" s__law_needs f fd) : FnOk P w K mg base CX0 4 f fd ["box", "length", "guests", "name"] (sp__law_needs K) := by
  obtain ⟨f__law_take, fd__law_take, g__law_take, F__law_take⟩ := T.d__law_take
  have G__law_take := ok__law_take (P := P) (w := w) (base := base) T F__law_take
  have b__law_take := F__law_take.binds (ps := ["box", "many"]) fun _ _ _ _ _ _ us hl => match us, hl with | [_, _], _ => rfl
  obtain ⟨f__law_surely, fd__law_surely, g__law_surely, F__law_surely⟩ := T.d__law_surely
  have G__law_surely := ok__law_surely (P := P) (w := w) (base := base) T F__law_surely
  have b__law_surely := F__law_surely.binds (ps := ["length", "guests", "name", "turns"]) fun _ _ _ _ _ _ us hl => match us, hl with | [_, _, _, _], _ => rfl
  have scp := sc__law_needs
  refine F.ok sc__law_needs (fun vs H Q E h => ?_) (fun cdv A outer s H vs Q E hr h => ?_)
  · first | (obtain ⟨rfl, _⟩ := h; rfl) | (obtain ⟨_, rfl, _⟩ := h; rfl) | (obtain ⟨_, _, rfl, _⟩ := h; rfl) | (obtain ⟨_, _, _, rfl, _⟩ := h; rfl) | (obtain ⟨_, _, _, _, rfl, _⟩ := h; rfl) | (obtain ⟨_, _, _, _, _, rfl, _⟩ := h; rfl) | (obtain ⟨_, _, _, _, _, _, rfl, _⟩ := h; rfl) | (obtain ⟨_, _, _, _, _, _, _, rfl, _⟩ := h; rfl) | (obtain ⟨_, _, _, _, _, _, _, _, rfl, _⟩ := h; rfl) | (obtain ⟨_, _, _, _, _, _, _, _, _, rfl, _⟩ := h; rfl) | (obtain ⟨_, _, _, _, _, _, _, _, _, _, rfl, _⟩ := h; rfl) | (obtain ⟨_, _, _, _, _, _, _, _, _, _, _, rfl, _⟩ := h; rfl) | (obtain ⟨_, _, _, _, _, _, _, _, _, _, _, _, rfl, _⟩ := h; rfl) | (obtain ⟨_, _, _, _, _, _, _, _, _, _, _, _, _, rfl, _⟩ := h; rfl) | (obtain ⟨_, _, _, _, _, _, _, _, _, _, _, _, _, _, rfl, _⟩ := h; rfl) | (obtain ⟨_, _, _, _, _, _, _, _, _, _, _, _, _, _, _, rfl, _⟩ := h; rfl) | (obtain ⟨_, _, _, _, _, _, _, _, _, _, _, _, _, _, _, _, rfl, _⟩ := h; rfl) | (obtain ⟨_, _, _, _, _, _, _, _, _, _, _, _, _, _, _, _, _, rfl, _⟩ := h; rfl) | (obtain ⟨_, _, _, _, _, _, _, _, _, _, _, _, _, _, _, _, _, _, rfl, _⟩ := h; rfl) | (obtain ⟨_, _, _, _, _, _, _, _, _, _, _, _, _, _, _, _, _, _, _, rfl, _⟩ := h; rfl) | (obtain ⟨_, _, _, _, _, _, _, _, _, _, _, _, _, _, _, _, _, _, _, _, rfl, _⟩ := h; rfl) | (obtain ⟨_, _, _, _, _, _, _, _, _, _, _, _, _, _, _, _, _, _, _, _, _, rfl, _⟩ := h; rfl) | (obtain ⟨_, _, _, _, _, _, _, _, _, _, _, _, _, _, _, _, _, _, _, _, _, _, rfl, _⟩ := h; rfl) | (obtain ⟨_, _, _, _, _, _, _, _, _, _, _, _, _, _, _, _, _, _, _, _, _, _, _, rfl, _⟩ := h; rfl) | (obtain ⟨_, _, _, _, _, _, _, _, _, _, _, _, _, _, _, _, _, _, _, _, _, _, _, _, rfl, _⟩ := h; rfl) | (obtain ⟨_, _, _, _, _, _, _, _, _, _, _, _, _, _, _, _, _, _, _, _, _, _, _, _, _, rfl, _⟩ := h; rfl) | (obtain ⟨_, _, _, _, _, _, _, _, _, _, _, _, _, _, _, _, _, _, _, _, _, _, _, _, _, _, rfl, _⟩ := h; rfl) | (obtain ⟨_, _, _, _, _, _, _, _, _, _, _, _, _, _, _, _, _, _, _, _, _, _, _, _, _, _, _, rfl, _⟩ := h; rfl)
  · obtain ⟨L, b, g, B, o, nm, ts, p, c, i, rfl, X, hB, G, O, hi, h4, h60, q⟩ := h
    have hu := hu_of hr
    have hv := hr.units
    refine ⟨_, (pss_cons (ps_set (i := 4) scp.nd rfl (by first | exact Or.inl rfl | exact Or.inr rfl) (pe_lst pa_nil))
  (pss_cons (ps_for PassesOwn.never rfl (pi_range1 rfl T.n_range (pa_cons (pe_call (G__law_take.mono (by decide)) hr rfl g__law_take F__law_take.kp b__law_take .nil pass0 (pa_cons (pv 0) (pa_cons pe_int pa_nil))) pa_nil)) (pg_name (i := 5) scp.nd rfl (by first | exact Or.inl rfl | exact Or.inr rfl))
  (pss_cons (ps_set (i := 6) scp.nd rfl (by first | exact Or.inl rfl | exact Or.inr rfl) (pe_ix (ix_anyK (K := K) hu) (pe_lst (pa_cons (pe_call (G__law_take.mono (by decide)) hr rfl g__law_take F__law_take.kp b__law_take .nil pass0 (pa_cons (pv 0) (pa_cons (pe_op op_plus (pv 1) pe_int) pa_nil))) (pa_cons (pe_call (G__law_take.mono (by decide)) hr rfl g__law_take F__law_take.kp b__law_take .nil pass0 (pa_cons (pv 0) (pa_cons (pe_op op_times pe_int (pv 1)) pa_nil))) (pa_cons (pe_call (G__law_take.mono (by decide)) hr rfl g__law_take F__law_take.kp b__law_take .nil pass0 (pa_cons (pv 0) (pa_cons pe_int pa_nil))) pa_nil)))) (pe_call (G__law_take.mono (by decide)) hr rfl g__law_take F__law_take.kp b__law_take .nil pass0 (pa_cons (pv 0) (pa_cons pe_int pa_nil))) (fun _ _ => rfl)))
  (pss_cons (ps_set (i := 7) scp.nd rfl (by first | exact Or.inl rfl | exact Or.inr rfl) (pe_op op_plus (pe_call (G__law_surely.mono (by decide)) hr rfl g__law_surely F__law_surely.kp b__law_surely .nil pass0 (pa_cons (pv 1) (pa_cons (pv 2) (pa_cons (pv 3) (pa_cons (pv 6) pa_nil))))) (pe_ix (ix_anyK (K := K) hu) (pe_lst (pa_cons pe_int (pa_cons pe_int (pa_cons pe_int (pa_cons pe_int (pa_cons (pe_un un_negY pe_int) pa_nil)))))) (pe_call (G__law_take.mono (by decide)) hr rfl g__law_take F__law_take.kp b__law_take .nil pass0 (pa_cons (pv 0) (pa_cons pe_int pa_nil))) (fun _ _ => rfl))))
  (pss_one (ps_expr (pe_bmK (K := K) PySem.F.plainAttrs_list PySem.F.slot_list_append PySem.F.type_list_append mt_append (pv 4) (pa_cons (pe_tup (pa_cons (pv 6) (pa_cons (pe_callB (call_max2Y rfl) (by rfl) T.n_max (by decide +kernel) (pa_cons pe_int (pa_cons (pe_callB (call_min2Y rfl) (by rfl) T.n_min (by decide +kernel) (pa_cons pe_int (pa_cons (pv 7) pa_nil))) pa_nil))) pa_nil))) pa_nil)))))))
  (pss_one (ps_ret (pv 4))))), ?_⟩
    walk_at "ys"
    refine ⟨sz_line (by simp), fun fl nfl => ?_⟩
    have e1 : Same H (upd H fl (.lst [])) := same_new0 nfl
    have hfl1 : upd H fl (.lst []) fl = some (.lst []) := upd_same
    have X1 := X.same e1
    have nfb : fl ≠ b := X.ne nfl
    generalize upd H fl (.lst []) = H1 at *
    walk_at "ys"
    refine ⟨b, 7, B, rfl, by decide, by decide, X1, by omega, fun r1 H2 hr1 e2 X2 => ?_⟩
    have hfl2 := e2 _ _ nfb hfl1
    have e2 := (SameBut.of e1).trans e2
    walk_at "ys"
    refine y_gotr1 (by omega) (by omega) ?_
    refine for_it walk_range (fun k σ H' => ∃ (u6 u7 u8 : Option V) (ns : List (Nat × Nat)), σ = [some (.ref b), some (.int L), some (.ref g), some (.str (nmF nm i)), some (.ref fl), u6, u7, u8] ∧ SameBut b H H' ∧ Box H' b (B + 1 + 5 * k) ∧ NdsL H' fl ns ∧ ns.length = k)
      ⟨none, none, none, [], rfl, e2, X2, ⟨⟨[], hfl2, rfl, fun i p n h => by simp at h⟩, fun n hn => by simp at hn, by simp⟩, rfl⟩ (fun _ _ _ _ _ => trivial) (fun k x σ H3 H4 hk hP hY => ?_) (fun σ H3 hP => ?_)
    · obtain ⟨u6, u7, u8, ns, rfl, e3, X3, N, hns⟩ := hP
      obtain ⟨rfl, rfl⟩ := hY
      have hk6 : k < 6 := by omega
      walk_at "ys"
      refine ⟨b, L + 1, _, rfl, by omega, by omega, X3, by omega, fun a1 H5 ha1 e5 X5 => ?_⟩
      walk_at "ys"
      refine y_mulI (cmul_small (by decide) (by omega)) ?_
      have eL : (3 : Int) * (L : Int) = ((3 * L : Nat) : Int) := by omega
      walk_at "ys"
      rw [eL]
      refine ⟨b, 3 * L, _, rfl, by omega, by omega, X5, by omega, fun a2 H6 ha2 e6 X6 => ?_⟩
      walk_at "ys"
      refine ⟨b, 401, _, rfl, by omega, by omega, X6, by omega, fun a3 H7 ha3 e7 X7 => ?_⟩
      walk_at "ys"
      refine ⟨sz_line (by simp), fun tl ntl => ?_⟩
      have f8 : Same H7 (upd H7 tl (.lst [.int a1, .int a2, .int a3])) := same_new0 ntl
      have htl : upd H7 tl (.lst [.int a1, .int a2, .int a3]) tl = some (.lst [.int a1, .int a2, .int a3]) := upd_same
      have X8 := X7.same f8
      have ntb : tl ≠ b := X7.ne ntl
      have e8 := ((e5.trans e6).trans e7).trans (.of f8)
      generalize upd H7 tl (.lst [.int a1, .int a2, .int a3]) = H8 at *
      walk_at "ys"
      refine ⟨b, 3, _, rfl, by omega, by omega, X8, by omega, fun a4 H9 ha4 e9 X9 => ?_⟩
      have htl9 := e9 _ _ ntb htl
      have e9 := e8.trans e9
      obtain ⟨tn, hat, htn⟩ : ∃ tn : Nat, atI [V.int a1, .int a2, .int a3] (a4 : Int) = some (.int tn) ∧ tn ≤ 400 := by
        match a4, ha4 with
        | 0, _ => exact ⟨a1, rfl, by omega⟩
        | 1, _ => exact ⟨a2, rfl, by omega⟩
        | 2, _ => exact ⟨a3, rfl, by omega⟩
      walk_at "ys"
      refine y_ixL htl9 hat ?_
      have G9 := G.but X (e3.trans e9)
      walk_at "ys"
      refine ⟨L, g, o, nm, ts, p, c, i, tn, rfl, G9, O, hi, h4, h60, htn, fun H10 f10 => ?_⟩
      have X10 := X9.same f10
      have e10 := e9.trans (.of f10)
      walk_at "ys"
      refine ⟨sz_line (by simp), fun sl nsl => ?_⟩
      have f11 : Same H10 (upd H10 sl (.lst [.int 0, .int 0, .int 1, .int 2, .int (-1)])) := same_new0 nsl
      have hsl : upd H10 sl (.lst [.int 0, .int 0, .int 1, .int 2, .int (-1)]) sl = some (.lst [.int 0, .int 0, .int 1, .int 2, .int (-1)]) := upd_same
      have X11 := X10.same f11
      have nsb : sl ≠ b := X10.ne nsl
      have e11 := e10.trans (.of f11)
      generalize upd H10 sl (.lst [.int 0, .int 0, .int 1, .int 2, .int (-1)]) = H11 at *
      walk_at "ys"
      refine ⟨b, 5, _, rfl, by omega, by omega, X11, by omega, fun a5 H12 ha5 e12 X12 => ?_⟩
      have hsl12 := e12 _ _ nsb hsl
      have e12 := e11.trans e12
      obtain ⟨di, hdi⟩ : ∃ d : Int, atI [V.int 0, .int 0, .int 1, .int 2, .int (-1)] (a5 : Int) = some (.int d) := by
        match a5, ha5 with
        | 0, _ => exact ⟨0, rfl⟩
        | 1, _ => exact ⟨0, rfl⟩
        | 2, _ => exact ⟨1, rfl⟩
        | 3, _ => exact ⟨2, rfl⟩
        | 4, _ => exact ⟨-1, rfl⟩
      walk_at "ys"
      refine y_ixL hsl12 hdi ?_
      obtain ⟨ps, hps, hpl, hpi⟩ := N.at_
      have hps12 := e12 _ _ nfb hps
      walk_at "ys"
      generalize hst : ((surely nm.length L p c i tn : Nat) : Int) + di = st at *
      obtain ⟨sn, hsn, hsn4⟩ : ∃ sn : Nat, (if (if st < 400 then st else 400) > 0 then (if st < 400 then st else 400) else 0) = (sn : Int) ∧ sn ≤ 400 := ⟨(if (if st < 400 then st else 400) > 0 then (if st < 400 then st else 400) else 0).toNat, by split <;> omega, by split <;> omega⟩
      rw [hsn]
      refine ⟨sz_line (by simp), fun tt ntt => ?_⟩
      have f13 : Same H12 (upd H12 tt (.tup [.int tn, .int sn])) := same_new0 ntt
      have htt : upd H12 tt (.tup [.int tn, .int sn]) tt = some (.tup [.int tn, .int sn]) := upd_same
      have X13 := X12.same f13
      have e13 := e12.trans (.of f13)
      generalize upd H12 tt (.tup [.int tn, .int sn]) = H13 at *
      have hps13 := e13 _ _ nfb hps
      walk_at "ys"
      refine y_append hps13 (sz_lt (by rw [List.length_map]; omega)) ?_
      walk_at "ys"
      refine ⟨_, _, _, ns ++ [(tn, sn)], rfl, (e3.trans e13).mut nfl, (X13.put nfb).mono (by omega), ⟨⟨ps ++ [tt], by rw [upd_same, List.map_append]; rfl, by simp [hpl], fun j q n h1 h2 => ?_⟩, fun n hn => ?_, by simp; omega⟩, by simp; omega⟩
      · by_cases hj : j < ps.length
        · rw [List.getElem?_append_left hj] at h1
          rw [List.getElem?_append_left (by omega)] at h2
          have := hpi j q n h1 h2
          have this := e13 _ _ (X3.neL this (fun xs z => by cases z)) this
          exact up_ne (ne_of this hps13 (fun z => by cases z)) this
        · rw [List.getElem?_append_right (by omega)] at h1 h2
          have hj0 : j - ps.length = 0 := by
            by_cases z : j - ps.length = 0
            · exact z
            · rw [List.getElem?_eq_none (by simp; omega)] at h1
              cases h1
          rw [hj0] at h1
          rw [← hpl, hj0] at h2
          obtain rfl := Option.some.inj h1
          obtain rfl := Option.some.inj h2
          exact up_ne (ne_of htt hps13 (fun z => by cases z)) htt
      · rcases List.mem_append.mp hn with hn | hn
        · exact N.lim n hn
        · obtain rfl := List.mem_singleton.mp hn
          exact ⟨htn, hsn4⟩
    · obtain ⟨u6, u7, u8, ns, rfl, e3, X3, N, hns⟩ := hP
      walk_at "ys"
      exact q fl ns _ e3 nfl (X3.mono (by omega)) N (by omega)
end
end K87
namespace K87
open PySem L2 Y

/-- what an asking of that way answers -/
inductive Ans (H : Hp) (way : Nat) (x g z v : V) : Str → V → Prop
  | number (hk : Kd H x) (hb : isW x 4 60 = false) : Ans H way x g z v "number" x
  | share {L : Nat} (hx : x = .int L) (h4 : 4 ≤ L) (h60 : L ≤ 60) (od : OddSh H L g) : Ans H way x g z v "share" g
  | guest (hw : way < 4) {L : Nat} {ga : Addr} {o : Obj} {nm : List Str} {ts : List Addr} {p c : Nat → Nat} (G : Good H x g L ga o nm ts p c) (hk : Kd H z) (hn : ∀ y, z = .str y → y ∉ nm) : Ans H way x g z v "guest" z
  | late0 (hw : way = 0) {L : Nat} {ga : Addr} {o : Obj} {nm : List Str} {ts : List Addr} {p c : Nat → Nat} {i : Nat} (G : Good H x g L ga o nm ts p c) (hz : z = .str (nmF nm i)) (hi : i < nm.length) (hk : Kd H v) (hb : isW v 1 L = false) : Ans H way x g z v "number" v
  | late1 (hw : way = 1) {L : Nat} {ga : Addr} {o : Obj} {nm : List Str} {ts : List Addr} {p c : Nat → Nat} {i : Nat} (G : Good H x g L ga o nm ts p c) (hz : z = .str (nmF nm i)) (hi : i < nm.length) (hk : Kd H v) (hb : isW v 0 400 = false) : Ans H way x g z v "number" v
  | late2 (hw : 2 ≤ way) (hw4 : way < 4) {L : Nat} {ga : Addr} {o : Obj} {nm : List Str} {ts : List Addr} {p c : Nat → Nat} {i : Nat} (G : Good H x g L ga o nm ts p c) (hz : z = .str (nmF nm i)) (hi : i < nm.length) (od : OddNd H v) : Ans H way x g z v "needs" v
  | told (hw : way = 0) {L : Nat} {ga : Addr} {o : Obj} {nm : List Str} {ts : List Addr} {p c : Nat → Nat} {i k : Nat} (G : Good H x g L ga o nm ts p c) (hz : z = .str (nmF nm i)) (hi : i < nm.length) (hv : v = .int k) (hk1 : 1 ≤ k) (hkL : k ≤ L) : Ans H way x g z v "told" .non
section
variable {P : Program} {w : World} {K : PySem.W.Frag} {mg : Str → Option Value} {base : Heap}
def sp__law_asked (K : PySem.W.Frag) : Sp := fun vs H Q _ => ∃ (way : Nat) (x g z v : V) (wd : Str) (val : V), vs = [.int way, x, g, z, v] ∧ way ≤ 4 ∧ Ans H way x g z v wd val ∧ ∀ (r : Addr) (H' : Hp), Same H H' → H r = none → H' r = some (.lst [.str wd, val]) → Q (.ref r) H'
theorem ok__law_asked {f : Addr} {fd : FuncData} (T : Txt K mg) {CGuestError CMissing CNoNumber CNoShare CNoGuest CNoNeeds : Addr} (W : Own K mg CGuestError CMissing CNoNumber CNoShare CNoGuest CNoNeeds) (F : Fun K "_law_asked" "_law_asked" s__law_asked f fd) : FnOk P w K mg base CX0 8 f fd ["way", "length", "guests", "name", "last"] (sp__law_asked K) := by
  obtain ⟨f_latest, fd_latest, g_latest, F_latest⟩ := T.d_latest
  have G_latest := ok_latest (P := P) (w := w) (base := base) T W F_latest
  have b_latest := F_latest.binds (ps := ["length", "guests", "name", "many"]) fun _ _ _ _ _ _ us hl => match us, hl with | [_, _, _, _], _ => rfl
  obtain ⟨f_at_least, fd_at_least, g_at_least, F_at_least⟩ := T.d_at_least
  have G_at_least := ok_at_least (P := P) (w := w) (base := base) T W F_at_least
  have b_at_least := F_at_least.binds (ps := ["length", "guests", "name", "turns"]) fun _ _ _ _ _ _ us hl => match us, hl with | [_, _, _, _], _ => rfl
  obtain ⟨f_first_unmet, fd_first_unmet, g_first_unmet, F_first_unmet⟩ := T.d_first_unmet
  have G_first_unmet := ok_first_unmet (P := P) (w := w) (base := base) T W F_first_unmet
  have b_first_unmet := F_first_unmet.binds (ps := ["length", "guests", "name", "needs"]) fun _ _ _ _ _ _ us hl => match us, hl with | [_, _, _, _], _ => rfl
  obtain ⟨f_least_promise, fd_least_promise, g_least_promise, F_least_promise⟩ := T.d_least_promise
  have G_least_promise := ok_least_promise (P := P) (w := w) (base := base) T W F_least_promise
  have b_least_promise := F_least_promise.binds (ps := ["length", "guests", "name", "needs"]) fun _ _ _ _ _ _ us hl => match us, hl with | [_, _, _, _], _ => rfl
  obtain ⟨f_worst, fd_worst, g_worst, F_worst⟩ := T.d_worst
  have G_worst := ok_worst (P := P) (w := w) (base := base) T W F_worst
  have b_worst := F_worst.binds (ps := ["length", "guests"]) fun _ _ _ _ _ _ us hl => match us, hl with | [_, _], _ => rfl
  have scp := sc__law_asked
  refine F.ok sc__law_asked (fun vs H Q E h => ?_) (fun cdv A outer s H vs Q E hr h => ?_)
  · first | (obtain ⟨rfl, _⟩ := h; rfl) | (obtain ⟨_, rfl, _⟩ := h; rfl) | (obtain ⟨_, _, rfl, _⟩ := h; rfl) | (obtain ⟨_, _, _, rfl, _⟩ := h; rfl) | (obtain ⟨_, _, _, _, rfl, _⟩ := h; rfl) | (obtain ⟨_, _, _, _, _, rfl, _⟩ := h; rfl) | (obtain ⟨_, _, _, _, _, _, rfl, _⟩ := h; rfl) | (obtain ⟨_, _, _, _, _, _, _, rfl, _⟩ := h; rfl) | (obtain ⟨_, _, _, _, _, _, _, _, rfl, _⟩ := h; rfl) | (obtain ⟨_, _, _, _, _, _, _, _, _, rfl, _⟩ := h; rfl) | (obtain ⟨_, _, _, _, _, _, _, _, _, _, rfl, _⟩ := h; rfl) | (obtain ⟨_, _, _, _, _, _, _, _, _, _, _, rfl, _⟩ := h; rfl) | (obtain ⟨_, _, _, _, _, _, _, _, _, _, _, _, rfl, _⟩ := h; rfl) | (obtain ⟨_, _, _, _, _, _, _, _, _, _, _, _, _, rfl, _⟩ := h; rfl) | (obtain ⟨_, _, _, _, _, _, _, _, _, _, _, _, _, _, rfl, _⟩ := h; rfl) | (obtain ⟨_, _, _, _, _, _, _, _, _, _, _, _, _, _, _, rfl, _⟩ := h; rfl) | (obtain ⟨_, _, _, _, _, _, _, _, _, _, _, _, _, _, _, _, rfl, _⟩ := h; rfl) | (obtain ⟨_, _, _, _, _, _, _, _, _, _, _, _, _, _, _, _, _, rfl, _⟩ := h; rfl) | (obtain ⟨_, _, _, _, _, _, _, _, _, _, _, _, _, _, _, _, _, _, rfl, _⟩ := h; rfl) | (obtain ⟨_, _, _, _, _, _, _, _, _, _, _, _, _, _, _, _, _, _, _, rfl, _⟩ := h; rfl) | (obtain ⟨_, _, _, _, _, _, _, _, _, _, _, _, _, _, _, _, _, _, _, _, rfl, _⟩ := h; rfl) | (obtain ⟨_, _, _, _, _, _, _, _, _, _, _, _, _, _, _, _, _, _, _, _, _, rfl, _⟩ := h; rfl) | (obtain ⟨_, _, _, _, _, _, _, _, _, _, _, _, _, _, _, _, _, _, _, _, _, _, rfl, _⟩ := h; rfl) | (obtain ⟨_, _, _, _, _, _, _, _, _, _, _, _, _, _, _, _, _, _, _, _, _, _, _, rfl, _⟩ := h; rfl) | (obtain ⟨_, _, _, _, _, _, _, _, _, _, _, _, _, _, _, _, _, _, _, _, _, _, _, _, rfl, _⟩ := h; rfl) | (obtain ⟨_, _, _, _, _, _, _, _, _, _, _, _, _, _, _, _, _, _, _, _, _, _, _, _, _, rfl, _⟩ := h; rfl) | (obtain ⟨_, _, _, _, _, _, _, _, _, _, _, _, _, _, _, _, _, _, _, _, _, _, _, _, _, _, rfl, _⟩ := h; rfl) | (obtain ⟨_, _, _, _, _, _, _, _, _, _, _, _, _, _, _, _, _, _, _, _, _, _, _, _, _, _, _, rfl, _⟩ := h; rfl)
  · obtain ⟨way, x, g, z, v, wd, val, rfl, hw4, hA, q⟩ := h
    have hu := hu_of hr
    have hv := hr.units
    refine ⟨_, (pss_cons (ps_try_manyN rfl rfl scp.nd L2.takes0 (fun Wx pn xe tk _ => (pss_one (ps_if (pt_cmpR (op_eqK (K := K) hv) (pv 0) pe_int (nomark _))
  (pss_one (ps_expr (pe_callSD (G_latest.mono (by decide)) hr rfl g_latest F_latest.kp b_latest .nil (fun σ => passAt tk σ) (pa_cons (pv 1) (pa_cons (pv 2) (pa_cons (pv 3) (pa_cons (pv 4) pa_nil)))))))
  (pss_one (ps_if (pt_cmpR (op_eqK (K := K) hv) (pv 0) pe_int (nomark _))
  (pss_one (ps_expr (pe_callSD (G_at_least.mono (by decide)) hr rfl g_at_least F_at_least.kp b_at_least .nil (fun σ => passAt tk σ) (pa_cons (pv 1) (pa_cons (pv 2) (pa_cons (pv 3) (pa_cons (pv 4) pa_nil)))))))
  (pss_one (ps_if (pt_cmpR (op_eqK (K := K) hv) (pv 0) pe_int (nomark _))
  (pss_one (ps_expr (pe_callSD (G_first_unmet.mono (by decide)) hr rfl g_first_unmet F_first_unmet.kp b_first_unmet .nil (fun σ => passAt tk σ) (pa_cons (pv 1) (pa_cons (pv 2) (pa_cons (pv 3) (pa_cons (pv 4) pa_nil)))))))
  (pss_one (ps_if (pt_cmpR (op_eqK (K := K) hv) (pv 0) pe_int (nomark _))
  (pss_one (ps_expr (pe_callSD (G_least_promise.mono (by decide)) hr rfl g_least_promise F_least_promise.kp b_least_promise .nil (fun σ => passAt tk σ) (pa_cons (pv 1) (pa_cons (pv 2) (pa_cons (pv 3) (pa_cons (pv 4) pa_nil)))))))
  (pss_one (ps_expr (pe_callSD (G_worst.mono (by decide)) hr rfl g_worst F_worst.kp b_worst .nil (fun σ => passAt tk σ) (pa_cons (pv 1) (pa_cons (pv 2) pa_nil)))))))))))))) (HdsN.named (i := 5) rfl (by rfl) ⟨rfl, by decide, .inl W.g_NoNumber⟩ (fun a oe cls d pn hz hf => (pss_one (ps_ret (pe_lst (pa_cons pe_str (pa_cons (pe_xf W.f_NoNumber W.n_NoNumber_found hz hf (pv 5)) pa_nil)))))) (HdsN.named (i := 5) rfl (by rfl) ⟨rfl, by decide, .inl W.g_NoShare⟩ (fun a oe cls d pn hz hf => (pss_one (ps_ret (pe_lst (pa_cons pe_str (pa_cons (pe_xf W.f_NoShare W.n_NoShare_found hz hf (pv 5)) pa_nil)))))) (HdsN.named (i := 5) rfl (by rfl) ⟨rfl, by decide, .inl W.g_NoGuest⟩ (fun a oe cls d pn hz hf => (pss_one (ps_ret (pe_lst (pa_cons pe_str (pa_cons (pe_xf W.f_NoGuest W.n_NoGuest_found hz hf (pv 5)) pa_nil)))))) (HdsN.named (i := 5) rfl (by rfl) ⟨rfl, by decide, .inl W.g_NoNeeds⟩ (fun a oe cls d pn hz hf => (pss_one (ps_ret (pe_lst (pa_cons pe_str (pa_cons (pe_xf W.f_NoNeeds W.n_NoNeeds_found hz hf (pv 5)) pa_nil)))))) (HdsN.cons ⟨rfl, by decide, .inl W.g_GuestError⟩ (fun a oe cls d pn _ _ => (pss_one (ps_ret (pe_lst (pa_cons pe_str (pa_cons pe_non pa_nil)))))) (HdsN.cons ⟨rfl, by decide, .inl W.g_Missing⟩ (fun a oe cls d pn _ _ => (pss_one (ps_ret (pe_lst (pa_cons pe_str (pa_cons pe_non pa_nil)))))) HdsN.nil)))))))
  (pss_one (ps_ret (pe_lst (pa_cons pe_str (pa_cons pe_non pa_nil)))))), ?_⟩
    obtain rfl | rfl | rfl | rfl | rfl : way = 0 ∨ way = 1 ∨ way = 2 ∨ way = 3 ∨ way = 4 := by omega
    · walk_at "ys"
      cases hA with
      | number hk hb =>
        refine ⟨x, g, z, v, rfl, .inl (.inl ⟨hk, hb, fun d H' e hd => ?_⟩)⟩
        refine ⟨true, W.x_NoNumber_NoNumber, fun _ ea _ => ?_, fun z => Bool.noConfusion z⟩
        unfold hdRun
        walk_at "ys"
        refine y_var rfl ⟨rfl, rfl, d, _, _, rfl, hd, rfl, ?_⟩
        walk_at "ys"
        refine ⟨sz_line (by simp), fun r nr => ?_⟩
        exact q r _ (e.trans (same_new0 nr)) (free_of e nr) upd_same
      | @share L hx h4 h60 od =>
        refine ⟨x, g, z, v, rfl, .inl (.inr (.inl ⟨L, hx, h4, h60, od, fun d H' e hd => ?_⟩))⟩
        refine ⟨false, W.x_NoShare_NoNumber, fun z => Bool.noConfusion z, fun _ => ⟨true, W.x_NoShare_NoShare, fun _ ea _ => ?_, fun z => Bool.noConfusion z⟩⟩
        unfold hdRun
        walk_at "ys"
        refine y_var rfl ⟨rfl, rfl, d, _, _, rfl, hd, rfl, ?_⟩
        walk_at "ys"
        refine ⟨sz_line (by simp), fun r nr => ?_⟩
        exact q r _ (e.trans (same_new0 nr)) (free_of e nr) upd_same
      | @guest hw L ga o nm ts p c G hk hn =>
        refine ⟨x, g, z, v, rfl, .inl (.inr (.inr ⟨L, ga, o, nm, ts, p, c, G.x, G.lo, G.hi, G.g, G.G, G.O, hk, hn, fun d H' e hd => ?_⟩))⟩
        refine ⟨false, W.x_NoGuest_NoNumber, fun z => Bool.noConfusion z, fun _ => ⟨false, W.x_NoGuest_NoShare, fun z => Bool.noConfusion z, fun _ => ⟨true, W.x_NoGuest_NoGuest, fun _ ea _ => ?_, fun z => Bool.noConfusion z⟩⟩⟩
        unfold hdRun
        walk_at "ys"
        refine y_var rfl ⟨rfl, rfl, d, _, _, rfl, hd, rfl, ?_⟩
        walk_at "ys"
        refine ⟨sz_line (by simp), fun r nr => ?_⟩
        exact q r _ (e.trans (same_new0 nr)) (free_of e nr) upd_same
      | @late0 hw L ga o nm ts p c i G hz hi hk hb =>
        refine ⟨x, g, z, v, rfl, .inr ⟨L, ga, o, nm, ts, p, c, i, G, hz, hi, hk, .inl ⟨hb, fun d H' e hd => ?_⟩⟩⟩
        refine ⟨true, W.x_NoNumber_NoNumber, fun _ ea _ => ?_, fun z => Bool.noConfusion z⟩
        unfold hdRun
        walk_at "ys"
        refine y_var rfl ⟨rfl, rfl, d, _, _, rfl, hd, rfl, ?_⟩
        walk_at "ys"
        refine ⟨sz_line (by simp), fun r nr => ?_⟩
        exact q r _ (e.trans (same_new0 nr)) (free_of e nr) upd_same
      | late1 hw G hz hi hk hb => exact absurd hw (by decide)
      | late2 hw hw2 G hz hi od => exact absurd hw (by decide)
      | @told hw L ga o nm ts p c i k G hz hi hv hk1 hkL =>
        refine ⟨x, g, z, v, rfl, .inr ⟨L, ga, o, nm, ts, p, c, i, G, hz, hi, by rw [hv]; exact .int _, .inr ⟨k, hv, hk1, hkL, fun H' e => ?_⟩⟩⟩
        walk_at "ys"
        refine ⟨sz_line (by simp), fun r nr => ?_⟩
        exact q r _ (e.trans (same_new0 nr)) (free_of e nr) upd_same
    · walk_at "ys"
      cases hA with
      | number hk hb =>
        refine ⟨x, g, z, v, rfl, .inl (.inl ⟨hk, hb, fun d H' e hd => ?_⟩)⟩
        refine ⟨true, W.x_NoNumber_NoNumber, fun _ ea _ => ?_, fun z => Bool.noConfusion z⟩
        unfold hdRun
        walk_at "ys"
        refine y_var rfl ⟨rfl, rfl, d, _, _, rfl, hd, rfl, ?_⟩
        walk_at "ys"
        refine ⟨sz_line (by simp), fun r nr => ?_⟩
        exact q r _ (e.trans (same_new0 nr)) (free_of e nr) upd_same
      | @share L hx h4 h60 od =>
        refine ⟨x, g, z, v, rfl, .inl (.inr (.inl ⟨L, hx, h4, h60, od, fun d H' e hd => ?_⟩))⟩
        refine ⟨false, W.x_NoShare_NoNumber, fun z => Bool.noConfusion z, fun _ => ⟨true, W.x_NoShare_NoShare, fun _ ea _ => ?_, fun z => Bool.noConfusion z⟩⟩
        unfold hdRun
        walk_at "ys"
        refine y_var rfl ⟨rfl, rfl, d, _, _, rfl, hd, rfl, ?_⟩
        walk_at "ys"
        refine ⟨sz_line (by simp), fun r nr => ?_⟩
        exact q r _ (e.trans (same_new0 nr)) (free_of e nr) upd_same
      | @guest hw L ga o nm ts p c G hk hn =>
        refine ⟨x, g, z, v, rfl, .inl (.inr (.inr ⟨L, ga, o, nm, ts, p, c, G.x, G.lo, G.hi, G.g, G.G, G.O, hk, hn, fun d H' e hd => ?_⟩))⟩
        refine ⟨false, W.x_NoGuest_NoNumber, fun z => Bool.noConfusion z, fun _ => ⟨false, W.x_NoGuest_NoShare, fun z => Bool.noConfusion z, fun _ => ⟨true, W.x_NoGuest_NoGuest, fun _ ea _ => ?_, fun z => Bool.noConfusion z⟩⟩⟩
        unfold hdRun
        walk_at "ys"
        refine y_var rfl ⟨rfl, rfl, d, _, _, rfl, hd, rfl, ?_⟩
        walk_at "ys"
        refine ⟨sz_line (by simp), fun r nr => ?_⟩
        exact q r _ (e.trans (same_new0 nr)) (free_of e nr) upd_same
      | late0 hw G hz hi hk hb => exact absurd hw (by decide)
      | @late1 hw L ga o nm ts p c i G hz hi hk hb =>
        refine ⟨x, g, z, v, rfl, .inr ⟨L, ga, o, nm, ts, p, c, i, G, hz, hi, hk, .inl ⟨hb, fun d H' e hd => ?_⟩⟩⟩
        refine ⟨true, W.x_NoNumber_NoNumber, fun _ ea _ => ?_, fun z => Bool.noConfusion z⟩
        unfold hdRun
        walk_at "ys"
        refine y_var rfl ⟨rfl, rfl, d, _, _, rfl, hd, rfl, ?_⟩
        walk_at "ys"
        refine ⟨sz_line (by simp), fun r nr => ?_⟩
        exact q r _ (e.trans (same_new0 nr)) (free_of e nr) upd_same
      | late2 hw hw2 G hz hi od => exact absurd hw (by decide)
      | told hw G hz hi hv hk1 hkL => exact absurd hw (by decide)
    · walk_at "ys"
      cases hA with
      | number hk hb =>
        refine ⟨x, g, z, v, rfl, .inl (.inl ⟨hk, hb, fun d H' e hd => ?_⟩)⟩
        refine ⟨true, W.x_NoNumber_NoNumber, fun _ ea _ => ?_, fun z => Bool.noConfusion z⟩
        unfold hdRun
        walk_at "ys"
        refine y_var rfl ⟨rfl, rfl, d, _, _, rfl, hd, rfl, ?_⟩
        walk_at "ys"
        refine ⟨sz_line (by simp), fun r nr => ?_⟩
        exact q r _ (e.trans (same_new0 nr)) (free_of e nr) upd_same
      | @share L hx h4 h60 od =>
        refine ⟨x, g, z, v, rfl, .inl (.inr (.inl ⟨L, hx, h4, h60, od, fun d H' e hd => ?_⟩))⟩
        refine ⟨false, W.x_NoShare_NoNumber, fun z => Bool.noConfusion z, fun _ => ⟨true, W.x_NoShare_NoShare, fun _ ea _ => ?_, fun z => Bool.noConfusion z⟩⟩
        unfold hdRun
        walk_at "ys"
        refine y_var rfl ⟨rfl, rfl, d, _, _, rfl, hd, rfl, ?_⟩
        walk_at "ys"
        refine ⟨sz_line (by simp), fun r nr => ?_⟩
        exact q r _ (e.trans (same_new0 nr)) (free_of e nr) upd_same
      | @guest hw L ga o nm ts p c G hk hn =>
        refine ⟨x, g, z, v, rfl, .inl (.inr (.inr ⟨L, ga, o, nm, ts, p, c, G.x, G.lo, G.hi, G.g, G.G, G.O, hk, hn, fun d H' e hd => ?_⟩))⟩
        refine ⟨false, W.x_NoGuest_NoNumber, fun z => Bool.noConfusion z, fun _ => ⟨false, W.x_NoGuest_NoShare, fun z => Bool.noConfusion z, fun _ => ⟨true, W.x_NoGuest_NoGuest, fun _ ea _ => ?_, fun z => Bool.noConfusion z⟩⟩⟩
        unfold hdRun
        walk_at "ys"
        refine y_var rfl ⟨rfl, rfl, d, _, _, rfl, hd, rfl, ?_⟩
        walk_at "ys"
        refine ⟨sz_line (by simp), fun r nr => ?_⟩
        exact q r _ (e.trans (same_new0 nr)) (free_of e nr) upd_same
      | late0 hw G hz hi hk hb => exact absurd hw (by decide)
      | late1 hw G hz hi hk hb => exact absurd hw (by decide)
      | @late2 hw hw2 L ga o nm ts p c i G hz hi od =>
        refine ⟨x, g, z, v, rfl, .inr ⟨L, ga, o, nm, ts, p, c, i, G, hz, hi, .inl ⟨od, fun d H' e hd => ?_⟩⟩⟩
        refine ⟨false, W.x_NoNeeds_NoNumber, fun z => Bool.noConfusion z, fun _ => ⟨false, W.x_NoNeeds_NoShare, fun z => Bool.noConfusion z, fun _ => ⟨false, W.x_NoNeeds_NoGuest, fun z => Bool.noConfusion z, fun _ => ⟨true, W.x_NoNeeds_NoNeeds, fun _ ea _ => ?_, fun z => Bool.noConfusion z⟩⟩⟩⟩
        unfold hdRun
        walk_at "ys"
        refine y_var rfl ⟨rfl, rfl, d, _, _, rfl, hd, rfl, ?_⟩
        walk_at "ys"
        refine ⟨sz_line (by simp), fun r nr => ?_⟩
        exact q r _ (e.trans (same_new0 nr)) (free_of e nr) upd_same
      | told hw G hz hi hv hk1 hkL => exact absurd hw (by decide)
    · walk_at "ys"
      cases hA with
      | number hk hb =>
        refine ⟨x, g, z, v, rfl, .inl (.inl ⟨hk, hb, fun d H' e hd => ?_⟩)⟩
        refine ⟨true, W.x_NoNumber_NoNumber, fun _ ea _ => ?_, fun z => Bool.noConfusion z⟩
        unfold hdRun
        walk_at "ys"
        refine y_var rfl ⟨rfl, rfl, d, _, _, rfl, hd, rfl, ?_⟩
        walk_at "ys"
        refine ⟨sz_line (by simp), fun r nr => ?_⟩
        exact q r _ (e.trans (same_new0 nr)) (free_of e nr) upd_same
      | @share L hx h4 h60 od =>
        refine ⟨x, g, z, v, rfl, .inl (.inr (.inl ⟨L, hx, h4, h60, od, fun d H' e hd => ?_⟩))⟩
        refine ⟨false, W.x_NoShare_NoNumber, fun z => Bool.noConfusion z, fun _ => ⟨true, W.x_NoShare_NoShare, fun _ ea _ => ?_, fun z => Bool.noConfusion z⟩⟩
        unfold hdRun
        walk_at "ys"
        refine y_var rfl ⟨rfl, rfl, d, _, _, rfl, hd, rfl, ?_⟩
        walk_at "ys"
        refine ⟨sz_line (by simp), fun r nr => ?_⟩
        exact q r _ (e.trans (same_new0 nr)) (free_of e nr) upd_same
      | @guest hw L ga o nm ts p c G hk hn =>
        refine ⟨x, g, z, v, rfl, .inl (.inr (.inr ⟨L, ga, o, nm, ts, p, c, G.x, G.lo, G.hi, G.g, G.G, G.O, hk, hn, fun d H' e hd => ?_⟩))⟩
        refine ⟨false, W.x_NoGuest_NoNumber, fun z => Bool.noConfusion z, fun _ => ⟨false, W.x_NoGuest_NoShare, fun z => Bool.noConfusion z, fun _ => ⟨true, W.x_NoGuest_NoGuest, fun _ ea _ => ?_, fun z => Bool.noConfusion z⟩⟩⟩
        unfold hdRun
        walk_at "ys"
        refine y_var rfl ⟨rfl, rfl, d, _, _, rfl, hd, rfl, ?_⟩
        walk_at "ys"
        refine ⟨sz_line (by simp), fun r nr => ?_⟩
        exact q r _ (e.trans (same_new0 nr)) (free_of e nr) upd_same
      | late0 hw G hz hi hk hb => exact absurd hw (by decide)
      | late1 hw G hz hi hk hb => exact absurd hw (by decide)
      | @late2 hw hw2 L ga o nm ts p c i G hz hi od =>
        refine ⟨x, g, z, v, rfl, .inr ⟨L, ga, o, nm, ts, p, c, i, G, hz, hi, .inl ⟨od, fun d H' e hd => ?_⟩⟩⟩
        refine ⟨false, W.x_NoNeeds_NoNumber, fun z => Bool.noConfusion z, fun _ => ⟨false, W.x_NoNeeds_NoShare, fun z => Bool.noConfusion z, fun _ => ⟨false, W.x_NoNeeds_NoGuest, fun z => Bool.noConfusion z, fun _ => ⟨true, W.x_NoNeeds_NoNeeds, fun _ ea _ => ?_, fun z => Bool.noConfusion z⟩⟩⟩⟩
        unfold hdRun
        walk_at "ys"
        refine y_var rfl ⟨rfl, rfl, d, _, _, rfl, hd, rfl, ?_⟩
        walk_at "ys"
        refine ⟨sz_line (by simp), fun r nr => ?_⟩
        exact q r _ (e.trans (same_new0 nr)) (free_of e nr) upd_same
      | told hw G hz hi hv hk1 hkL => exact absurd hw (by decide)
    · walk_at "ys"
      cases hA with
      | number hk hb =>
        refine ⟨x, g, rfl, .inl ⟨hk, hb, fun d H' e hd => ?_⟩⟩
        refine ⟨true, W.x_NoNumber_NoNumber, fun _ ea _ => ?_, fun z => Bool.noConfusion z⟩
        unfold hdRun
        walk_at "ys"
        refine y_var rfl ⟨rfl, rfl, d, _, _, rfl, hd, rfl, ?_⟩
        walk_at "ys"
        refine ⟨sz_line (by simp), fun r nr => ?_⟩
        exact q r _ (e.trans (same_new0 nr)) (free_of e nr) upd_same
      | @share L hx h4 h60 od =>
        refine ⟨x, g, rfl, .inr ⟨L, hx, h4, h60, od, fun d H' e hd => ?_⟩⟩
        refine ⟨false, W.x_NoShare_NoNumber, fun z => Bool.noConfusion z, fun _ => ⟨true, W.x_NoShare_NoShare, fun _ ea _ => ?_, fun z => Bool.noConfusion z⟩⟩
        unfold hdRun
        walk_at "ys"
        refine y_var rfl ⟨rfl, rfl, d, _, _, rfl, hd, rfl, ?_⟩
        walk_at "ys"
        refine ⟨sz_line (by simp), fun r nr => ?_⟩
        exact q r _ (e.trans (same_new0 nr)) (free_of e nr) upd_same
      | guest hw G hk hn => exact absurd hw (by decide)
      | late0 hw G hz hi hk hb => exact absurd hw (by decide)
      | late1 hw G hz hi hk hb => exact absurd hw (by decide)
      | late2 hw hw2 G hz hi od => exact absurd hw2 (by decide)
      | told hw G hz hi hv hk1 hkL => exact absurd hw (by decide)
end
end K87
namespace K87
open PySem L2 Y

/-- the heap without b -/
def cut (b : Addr) (H : Hp) : Hp := fun a => if a = b then none else H a
theorem cut_le {b : Addr} {H : Hp} : Same (cut b H) H := fun a u h => by
  unfold cut at h
  by_cases z : a = b
  · rw [if_pos z] at h
    cases h
  · rw [if_neg z] at h
    exact h
theorem cut_but {b : Addr} {H H' : Hp} (e : SameBut b H H') : Same (cut b H) (cut b H') := fun a u h => by
  unfold cut at *
  by_cases z : a = b
  · rw [if_pos z] at h
    cases h
  · rw [if_neg z] at h ⊢
    exact e a u z h
theorem cut_at {b a : Addr} {H : Hp} {u : HO} (h : H a = some u) (n : a ≠ b) : cut b H a = some u := by
  unfold cut
  rw [if_neg n]
  exact h
theorem SameBut.snoc {b : Addr} {H H' H2 : Hp} (e : SameBut b H H') (f : Same H' H2) : SameBut b H H2 := e.trans (.of f)
theorem at_of {xs : List V} {r : Nat} (P : V → Prop) (h : r < xs.length) (a : ∀ v, v ∈ xs → P v) : ∃ v, atI xs (r : Int) = some v ∧ P v :=
  ⟨xs[r], L2.atI_nat (List.getElem?_eq_getElem h), a _ (List.getElem_mem h)⟩
/-- a dict of one pair, laid with its value -/
theorem lay1 {H H1 : Hp} {d : Addr} {kvs : List (Key × V)} (nd : H d = none) (e : Same (upd H d (.dK [])) H1) : Same H (upd H1 d (.dK kvs)) ∧ (upd H1 d (.dK kvs)) d = some (.dK kvs) := ⟨same_mut ((same_new0 nd).trans e) nd, upd_same⟩
theorem Box.nel {H : Hp} {b a : Addr} {B : Nat} {xs : List V} (X : Box H b B) (h : H a = some (.lst xs)) (n : xs.length ≠ 3) : a ≠ b := fun z => by
  obtain ⟨g, d, c, hb, _⟩ := X.at_
  rw [z, hb] at h
  have := HO.lst.inj (Option.some.inj h)
  rw [← this] at n
  exact n rfl
theorem al_lst {H : Hp} {n : Nat} {a : Addr} {xs : List V} (h : H a = some (.lst xs)) (hl : xs.length ≤ 1000) (al : ∀ v, v ∈ xs → Al H n v v) : Al H (n + 1) (.ref a) (.ref a) := .lst h h rfl hl fun i u v hu hv => by
  rw [hu] at hv
  obtain rfl := Option.some.inj hv
  exact al _ (List.mem_of_getElem? hu)
theorem al_tup {H : Hp} {n : Nat} {a : Addr} {xs : List V} (h : H a = some (.tup xs)) (hl : xs.length ≤ 1000) (al : ∀ v, v ∈ xs → Al H n v v) : Al H (n + 1) (.ref a) (.ref a) := .tup h h rfl hl fun i u v hu hv => by
  rw [hu] at hv
  obtain rfl := Option.some.inj hv
  exact al _ (List.mem_of_getElem? hu)
theorem al_dct {H : Hp} {n : Nat} {a : Addr} {kvs : List (Key × V)} (h : H a = some (.dK kvs)) (hl : kvs.length ≤ 1000) (hs : ∀ p, p ∈ kvs → Sc (kV p.1)) (al : ∀ p, p ∈ kvs → Al H n p.2 p.2) : Al H (n + 3) (.ref a) (.ref a) := .dct h h rfl hl (fun i p q hp hq => by
  rw [hp] at hq
  obtain rfl := Option.some.inj hq
  rfl) (fun i p hp => hs p (List.mem_of_getElem? hp)) fun i p q hp hq => by
  rw [hp] at hq
  obtain rfl := Option.some.inj hq
  exact al _ (List.mem_of_getElem? hp)
theorem al_i1 {H : Hp} {n : Nat} {i : Int} : ∀ v, v ∈ [V.int i] → Al H n v v := fun v hv => by
  rw [List.mem_singleton.mp hv]
  exact .sc (.int _)
theorem al_i2 {H : Hp} {n : Nat} {i j : Int} : ∀ v, v ∈ [V.int i, V.int j] → Al H n v v := fun v hv => by
  simp only [List.mem_cons, List.not_mem_nil, or_false] at hv
  rcases hv with rfl | rfl <;> exact .sc (.int _)
theorem al_d1 {H : Hp} {a t : Addr} {k : Str} (h : H a = some (.dK [((Sum.inr k : Key), V.ref t)])) (hk : k.length ≤ 1000) (ht : Al H 2 (.ref t) (.ref t)) : Al H 5 (.ref a) (.ref a) := al_dct (n := 2) h (by show 1 ≤ 1000; decide) (fun p hp => by
  rw [List.mem_singleton.mp hp]
  exact .str hk) fun p hp => by
  rw [List.mem_singleton.mp hp]
  exact ht
def LateOk (H : Hp) (L way : Nat) (v : V) : Prop := (way = 0 → Kd H v ∧ isW v 1 L = false) ∧ (way = 1 → Kd H v ∧ isW v 0 400 = false) ∧ (2 ≤ way → OddNd H v)
theorem ne_of_none' {H : Hp} {a p : Addr} {u : HO} (h : H a = some u) (n : H p = none) : p ≠ a := fun z => by
  rw [z, h] at n
  cases n
/-- a row: an answer, the word and the value due -/
def RowT (F : Hp) (rl : Addr) (H : Hp) (t : Addr) : Prop := ∃ (r : Addr) (wd : Str) (val : V), H t = some (.tup [.ref r, .str wd, val]) ∧ H r = some (.lst [.str wd, val]) ∧ r ≠ rl ∧ wd.length ≤ 1000 ∧ Al F 5 val val
theorem RowT.same {F H H' : Hp} {rl t : Addr} (R : RowT F rl H t) (e : Same H H') : RowT F rl H' t := by
  obtain ⟨r, wd, val, h1, h2, h3, h4, h5⟩ := R
  exact ⟨r, wd, val, e _ _ h1, e _ _ h2, h3, h4, h5⟩
theorem RowT.put {F H : Hp} {rl t : Addr} {xs : List V} {u : HO} (R : RowT F rl H t) (h : H rl = some (.lst xs)) : RowT F rl (upd H rl u) t := by
  obtain ⟨r, wd, val, h1, h2, h3, h4, h5⟩ := R
  exact ⟨r, wd, val, up_ne (ne_of h1 h (fun z => by cases z)) h1, up_ne h3 h2, h3, h4, h5⟩
structure Rows (F : Hp) (rl : Addr) (Hl H : Hp) (ts : List Addr) : Prop where
  e : Same Hl H
  l : H rl = some (.lst (ts.map V.ref))
  r : ∀ t, t ∈ ts → RowT F rl H t
theorem Rows.same {F Hl H H' : Hp} {rl : Addr} {ts : List Addr} (R : Rows F rl Hl H ts) (e : Same H H') : Rows F rl Hl H' ts := ⟨R.e.trans e, e _ _ R.l, fun t ht => (R.r t ht).same e⟩
theorem Rows.add {F Hl H : Hp} {rl t : Addr} {ts : List Addr} (R : Rows F rl Hl H ts) (n : Hl rl = none) (h : RowT F rl H t) : Rows F rl Hl (upd H rl (.lst (ts.map V.ref ++ [.ref t]))) (ts ++ [t]) := ⟨same_mut R.e n, by rw [upd_same, List.map_append]; rfl, fun t' ht => by
  rcases List.mem_append.mp ht with ht | ht
  · exact (R.r t' ht).put R.l
  · rw [List.mem_singleton.mp ht]
    exact h.put R.l⟩
section
variable {P : Program} {w : World} {K : PySem.W.Frag} {mg : Str → Option Value} {base : Heap}
def sp__law_refusals_right (K : PySem.W.Frag) : Sp := fun vs H Q _ => ∃ (L : Nat) (b g : Addr) (B : Nat) (o : Obj) (nm : List Str) (ts : List Addr) (p c : Nat → Nat) (i : Nat), vs = [.ref b, .int L, .ref g, .str (nmF nm i)] ∧ Box H b B ∧ B ≤ 100000 ∧ Gs H g o nm ts p c ∧ Deal.Ok nm.length L p c ∧ i < nm.length ∧ 4 ≤ L ∧ L ≤ 60 ∧ (∀ z, z ∈ nm → z ∈ six) ∧ ∀ (H' : Hp), SameBut b H H' → Box H' b (B + 100) → Q (.bl true) H'
theorem ok__law_refusals_right {f : Addr} {fd : FuncData} (T : Txt K mg) {CGuestError CMissing CNoNumber CNoShare CNoGuest CNoNeeds : Addr} (W : Own K mg CGuestError CMissing CNoNumber CNoShare CNoGuest CNoNeeds) (F : Fun K "_law_refusals_right" "_law_refusals_right" s__law_refusals_right f fd) : FnOk P w K mg base CX0 9 f fd ["box", "length", "guests", "name"] (sp__law_refusals_right K) := by
  obtain ⟨f__law_take, fd__law_take, g__law_take, F__law_take⟩ := T.d__law_take
  have G__law_take := ok__law_take (P := P) (w := w) (base := base) T F__law_take
  have b__law_take := F__law_take.binds (ps := ["box", "many"]) fun _ _ _ _ _ _ us hl => match us, hl with | [_, _], _ => rfl
  obtain ⟨f__law_asked, fd__law_asked, g__law_asked, F__law_asked⟩ := T.d__law_asked
  have G__law_asked := ok__law_asked (P := P) (w := w) (base := base) T W F__law_asked
  have b__law_asked := F__law_asked.binds (ps := ["way", "length", "guests", "name", "last"]) fun _ _ _ _ _ _ us hl => match us, hl with | [_, _, _, _, _], _ => rfl
  obtain ⟨f__law_same, fd__law_same, g__law_same, F__law_same⟩ := T.d__law_same
  have G__law_same := ok__law_samemain (P := P) (w := w) (base := base) T F__law_same
  have b__law_same := F__law_same.binds (ps := ["told", "due"]) fun _ _ _ _ _ _ us hl => match us, hl with | [_, _], _ => rfl
  have scp := sc__law_refusals_right
  refine F.ok sc__law_refusals_right (fun vs H Q E h => ?_) (fun cdv A outer s H vs Q E hr h => ?_)
  · first | (obtain ⟨rfl, _⟩ := h; rfl) | (obtain ⟨_, rfl, _⟩ := h; rfl) | (obtain ⟨_, _, rfl, _⟩ := h; rfl) | (obtain ⟨_, _, _, rfl, _⟩ := h; rfl) | (obtain ⟨_, _, _, _, rfl, _⟩ := h; rfl) | (obtain ⟨_, _, _, _, _, rfl, _⟩ := h; rfl) | (obtain ⟨_, _, _, _, _, _, rfl, _⟩ := h; rfl) | (obtain ⟨_, _, _, _, _, _, _, rfl, _⟩ := h; rfl) | (obtain ⟨_, _, _, _, _, _, _, _, rfl, _⟩ := h; rfl) | (obtain ⟨_, _, _, _, _, _, _, _, _, rfl, _⟩ := h; rfl) | (obtain ⟨_, _, _, _, _, _, _, _, _, _, rfl, _⟩ := h; rfl) | (obtain ⟨_, _, _, _, _, _, _, _, _, _, _, rfl, _⟩ := h; rfl) | (obtain ⟨_, _, _, _, _, _, _, _, _, _, _, _, rfl, _⟩ := h; rfl) | (obtain ⟨_, _, _, _, _, _, _, _, _, _, _, _, _, rfl, _⟩ := h; rfl) | (obtain ⟨_, _, _, _, _, _, _, _, _, _, _, _, _, _, rfl, _⟩ := h; rfl) | (obtain ⟨_, _, _, _, _, _, _, _, _, _, _, _, _, _, _, rfl, _⟩ := h; rfl) | (obtain ⟨_, _, _, _, _, _, _, _, _, _, _, _, _, _, _, _, rfl, _⟩ := h; rfl) | (obtain ⟨_, _, _, _, _, _, _, _, _, _, _, _, _, _, _, _, _, rfl, _⟩ := h; rfl) | (obtain ⟨_, _, _, _, _, _, _, _, _, _, _, _, _, _, _, _, _, _, rfl, _⟩ := h; rfl) | (obtain ⟨_, _, _, _, _, _, _, _, _, _, _, _, _, _, _, _, _, _, _, rfl, _⟩ := h; rfl) | (obtain ⟨_, _, _, _, _, _, _, _, _, _, _, _, _, _, _, _, _, _, _, _, rfl, _⟩ := h; rfl) | (obtain ⟨_, _, _, _, _, _, _, _, _, _, _, _, _, _, _, _, _, _, _, _, _, rfl, _⟩ := h; rfl) | (obtain ⟨_, _, _, _, _, _, _, _, _, _, _, _, _, _, _, _, _, _, _, _, _, _, rfl, _⟩ := h; rfl) | (obtain ⟨_, _, _, _, _, _, _, _, _, _, _, _, _, _, _, _, _, _, _, _, _, _, _, rfl, _⟩ := h; rfl) | (obtain ⟨_, _, _, _, _, _, _, _, _, _, _, _, _, _, _, _, _, _, _, _, _, _, _, _, rfl, _⟩ := h; rfl) | (obtain ⟨_, _, _, _, _, _, _, _, _, _, _, _, _, _, _, _, _, _, _, _, _, _, _, _, _, rfl, _⟩ := h; rfl) | (obtain ⟨_, _, _, _, _, _, _, _, _, _, _, _, _, _, _, _, _, _, _, _, _, _, _, _, _, _, rfl, _⟩ := h; rfl) | (obtain ⟨_, _, _, _, _, _, _, _, _, _, _, _, _, _, _, _, _, _, _, _, _, _, _, _, _, _, _, rfl, _⟩ := h; rfl)
  · obtain ⟨L, b, g, B, o, nm, ts, p, c, i, rfl, X, hB, G, O, hi, h4, h60, h6, q⟩ := h
    have hu := hu_of hr
    have hv := hr.units
    have G0 : Gs (cut b H) g o nm ts p c := ⟨cut_at G.d (X.neL G.d (fun xs z => by cases z)), G.len, fun i a h => cut_at (G.t i a h) (X.neL (G.t i a h) (fun xs z => by cases z)), G.nd, G.ok, G.few⟩
    refine ⟨_, (pss_cons (ps_set (i := 4) scp.nd rfl (by first | exact Or.inl rfl | exact Or.inr rfl) (pe_ix (ix_anyK (K := K) hu) (pe_lst (pa_cons pe_int (pa_cons pe_int (pa_cons (pe_un un_negY pe_int) (pa_cons pe_non (pa_cons pe_bl (pa_cons pe_str (pa_cons (pe_lst (pa_cons pe_int pa_nil)) pa_nil)))))))) (pe_call (G__law_take.mono (by decide)) hr rfl g__law_take F__law_take.kp b__law_take .nil pass0 (pa_cons (pv 0) (pa_cons pe_int pa_nil))) (fun _ _ => rfl)))
  (pss_cons (ps_set (i := 5) scp.nd rfl (by first | exact Or.inl rfl | exact Or.inr rfl) (pe_lst (pa_cons pe_non (pa_cons (pe_lst pa_nil) (pa_cons (pe_disp (pps_cons pe_str (pe_tup (pa_cons pe_int pa_nil)) pps_nil) (by rfl) (by rfl) (fun z => by cases z) (by decide)) (pa_cons (pe_disp (pps_cons pe_str (pe_tup (pa_cons pe_int (pa_cons pe_int pa_nil))) pps_nil) (by rfl) (by rfl) (fun z => by cases z) (by decide)) (pa_cons (pe_disp (pps_cons pe_str (pe_tup (pa_cons pe_int (pa_cons pe_int pa_nil))) pps_nil) (by rfl) (by rfl) (fun z => by cases z) (by decide)) (pa_cons (pe_disp (pps_cons pe_str (pe_tup (pa_cons (pv 1) (pa_cons (pv 1) pa_nil))) (pps_cons pe_str (pe_tup (pa_cons pe_int (pa_cons pe_int pa_nil))) pps_nil)) (by rfl) (by rfl) (fun z => by cases z) (by decide)) (pa_cons (pe_disp (pps_cons pe_str (pe_lst (pa_cons pe_int (pa_cons pe_int pa_nil))) pps_nil) (by rfl) (by rfl) (fun z => by cases z) (by decide)) pa_nil)))))))))
  (pss_cons (ps_par (i := 6) (j := 7) (by rfl) scp.nd rfl rfl (by decide) rfl rfl (pa_cons (pe_ix (ix_anyK (K := K) hu) (pv 5) (pe_call (G__law_take.mono (by decide)) hr rfl g__law_take F__law_take.kp b__law_take .nil pass0 (pa_cons (pv 0) (pa_cons pe_int pa_nil))) (fun _ _ => rfl)) (pa_cons (pe_ix (ix_anyK (K := K) hu) (pe_lst (pa_cons pe_str (pa_cons pe_str (pa_cons pe_non (pa_cons pe_int (pa_cons (pe_lst (pa_cons (pv 3) pa_nil)) pa_nil)))))) (pe_call (G__law_take.mono (by decide)) hr rfl g__law_take F__law_take.kp b__law_take .nil pass0 (pa_cons (pv 0) (pa_cons pe_int pa_nil))) (fun _ _ => rfl)) pa_nil)) (by rfl))
  (pss_cons (ps_set (i := 8) scp.nd rfl (by first | exact Or.inl rfl | exact Or.inr rfl) (pe_lst (pa_cons (pe_lst (pa_cons pe_int (pa_cons (pe_op op_plus (pv 1) pe_int) (pa_cons pe_non (pa_cons pe_bl (pa_cons pe_str pa_nil)))))) (pa_cons (pe_lst (pa_cons pe_int (pa_cons (pe_un un_negY pe_int) (pa_cons pe_non (pa_cons pe_bl (pa_cons pe_str pa_nil)))))) pa_nil))))
  (pss_cons (ps_set (i := 9) scp.nd rfl (by first | exact Or.inl rfl | exact Or.inr rfl) (pe_ix (ix_anyK (K := K) hu) (pe_lst (pa_cons pe_non (pa_cons pe_int (pa_cons pe_dnewK (pa_cons (pe_lst (pa_cons (pe_tup (pa_cons pe_int pa_nil)) pa_nil)) (pa_cons (pe_lst (pa_cons (pe_lst (pa_cons pe_int (pa_cons pe_int pa_nil))) pa_nil)) (pa_cons (pe_lst (pa_cons (pe_tup (pa_cons pe_int (pa_cons pe_int pa_nil))) pa_nil)) (pa_cons (pe_lst (pa_cons (pe_tup (pa_cons (pe_un un_negY pe_int) (pa_cons pe_int pa_nil))) pa_nil)) (pa_cons (pe_lst (pa_cons (pe_tup (pa_cons pe_int (pa_cons pe_bl pa_nil))) pa_nil)) (pa_cons (pe_op op_times (pe_lst (pa_cons (pe_tup (pa_cons pe_int (pa_cons pe_int pa_nil))) pa_nil)) pe_int) pa_nil)))))))))) (pe_call (G__law_take.mono (by decide)) hr rfl g__law_take F__law_take.kp b__law_take .nil pass0 (pa_cons (pv 0) (pa_cons pe_int pa_nil))) (fun _ _ => rfl)))
  (pss_cons (ps_for PassesOwn.never rfl (pi_range1 rfl T.n_range (pa_cons pe_int pa_nil)) (pg_name (i := 10) scp.nd rfl (by first | exact Or.inl rfl | exact Or.inr rfl))
  (pss_cons (ps_set (i := 11) scp.nd rfl (by first | exact Or.inl rfl | exact Or.inr rfl) (pe_ifExp (pt_cmpR op_ltI (pv 10) pe_int (nomark _)) (pe_ix (ix_anyK (K := K) hu) (pe_ix (ix_anyK (K := K) hu) (pv 8) (pv 10) (fun _ _ => rfl)) (pe_call (G__law_take.mono (by decide)) hr rfl g__law_take F__law_take.kp b__law_take .nil pass0 (pa_cons (pv 0) (pa_cons pe_int pa_nil))) (fun _ _ => rfl)) (pv 9)))
  (pss_cons (ps_set (i := 12) scp.nd rfl (by first | exact Or.inl rfl | exact Or.inr rfl) (pe_lst (pa_cons (pe_tup (pa_cons (pe_call (G__law_asked.mono (by decide)) hr rfl g__law_asked F__law_asked.kp b__law_asked .nil pass0 (pa_cons (pv 10) (pa_cons (pv 4) (pa_cons (pv 6) (pa_cons (pv 7) (pa_cons (pv 11) pa_nil)))))) (pa_cons pe_str (pa_cons (pv 4) pa_nil)))) pa_nil)))
  (pss_cons (ps_expr (pe_bmK (K := K) PySem.F.plainAttrs_list PySem.F.slot_list_append PySem.F.type_list_append mt_append (pv 12) (pa_cons (pe_tup (pa_cons (pe_call (G__law_asked.mono (by decide)) hr rfl g__law_asked F__law_asked.kp b__law_asked .nil pass0 (pa_cons (pv 10) (pa_cons (pv 1) (pa_cons (pv 6) (pa_cons (pv 7) (pa_cons (pv 11) pa_nil)))))) (pa_cons pe_str (pa_cons (pv 6) pa_nil)))) pa_nil)))
  (pss_cons (ps_if (pt_cmpR op_ltI (pv 10) pe_int (nomark _))
  (pss_cons (ps_expr (pe_bmK (K := K) PySem.F.plainAttrs_list PySem.F.slot_list_append PySem.F.type_list_append mt_append (pv 12) (pa_cons (pe_tup (pa_cons (pe_call (G__law_asked.mono (by decide)) hr rfl g__law_asked F__law_asked.kp b__law_asked .nil pass0 (pa_cons (pv 10) (pa_cons (pv 1) (pa_cons (pv 2) (pa_cons (pv 7) (pa_cons (pv 11) pa_nil)))))) (pa_cons pe_str (pa_cons (pv 7) pa_nil)))) pa_nil)))
  (pss_one (ps_expr (pe_bmK (K := K) PySem.F.plainAttrs_list PySem.F.slot_list_append PySem.F.type_list_append mt_append (pv 12) (pa_cons (pe_tup (pa_cons (pe_call (G__law_asked.mono (by decide)) hr rfl g__law_asked F__law_asked.kp b__law_asked .nil pass0 (pa_cons (pv 10) (pa_cons (pv 1) (pa_cons (pv 2) (pa_cons (pv 3) (pa_cons (pv 11) pa_nil)))))) (pa_cons (pe_ifExp (pt_cmpR op_ltI (pv 10) pe_int (nomark _)) pe_str pe_str) (pa_cons (pv 11) pa_nil)))) pa_nil)))))
  pss_nil)
  (pss_one (ps_for PassesOwn.never rfl (pi_listK (K := K) (pv 12)) (pg_tupK (K := K) (n := 3) rfl (pgs_cons (pg_name (i := 13) scp.nd rfl (by first | exact Or.inl rfl | exact Or.inr rfl)) (pgs_cons (pg_name (i := 14) scp.nd rfl (by first | exact Or.inl rfl | exact Or.inr rfl)) (pgs_cons (pg_name (i := 15) scp.nd rfl (by first | exact Or.inl rfl | exact Or.inr rfl)) pgs_nil))))
  (pss_one (ps_if (pt_not (pt_val (pe_call (G__law_same.mono (by decide)) hr rfl g__law_same F__law_same.kp b__law_same .nil pass0 (pa_cons (pv 13) (pa_cons (pe_lst (pa_cons (pv 14) (pa_cons (pv 15) pa_nil))) pa_nil)))))
  (pss_one (ps_ret pe_bl))
  pss_nil)))))))))
  (pss_one (ps_ret (pe_cmpR (op_eqK (K := K) hv) (pe_call (G__law_asked.mono (by decide)) hr rfl g__law_asked F__law_asked.kp b__law_asked .nil pass0 (pa_cons pe_int (pa_cons (pv 1) (pa_cons (pv 2) (pa_cons (pv 3) (pa_cons (pv 1) pa_nil)))))) (pe_lst (pa_cons pe_str (pa_cons pe_non pa_nil))) (nomark _)))))))))), ?_⟩
    walk_at "ys"
    -- wrong
    refine ⟨sz_line (by simp), fun l4 nl4 => ?_⟩
    walk_at "ys"
    refine ⟨sz_line (by simp), fun wl nwl => ?_⟩
    have f1 : Same H (upd H l4 (.lst [.int 4])) := same_new0 nl4
    have h4' : upd H l4 (.lst [.int 4]) l4 = some (.lst [.int 4]) := upd_same
    have n4 := X.ne nl4
    generalize upd H l4 (.lst [.int 4]) = H1 at *
    have f2 : Same H1 (upd H1 wl (.lst [.int 3, .int 61, .int (-1), .non, .bl true, .str "4", .ref l4])) := same_new0 nwl
    have hwl : upd H1 wl (.lst [.int 3, .int 61, .int (-1), .non, .bl true, .str "4", .ref l4]) wl = some (.lst [.int 3, .int 61, .int (-1), .non, .bl true, .str "4", .ref l4]) := upd_same
    have h42 := f2 _ _ h4'
    have X2 := (X.same f1).same f2
    have nwb := (X.same f1).ne nwl
    generalize upd H1 wl (.lst [.int 3, .int 61, .int (-1), .non, .bl true, .str "4", .ref l4]) = H2 at *
    have e2 : SameBut b H H2 := .of (f1.trans f2)
    walk_at "ys"
    refine ⟨b, 7, B, rfl, by decide, by decide, X2, by omega, fun r1 H3 hr1 e3 X3 => ?_⟩
    have hwl3 := e3 _ _ nwb hwl
    have h43 : cut b H3 l4 = some (.lst [.int 4]) := cut_at (e3 _ _ n4 h42) n4
    obtain ⟨wv, hwv, wk, wb, wa⟩ := at_of (fun v => Kd (cut b H3) v ∧ isW v 4 60 = false ∧ Al (cut b H3) 5 v v) (xs := [.int 3, .int 61, .int (-1), .non, .bl true, .str "4", .ref l4]) hr1 (fun v hv => by
      simp only [List.mem_cons, List.not_mem_nil, or_false] at hv
      rcases hv with rfl | rfl | rfl | rfl | rfl | rfl | rfl
      · exact ⟨.int _, rfl, .sc (.int _)⟩
      · exact ⟨.int _, rfl, .sc (.int _)⟩
      · exact ⟨.int _, rfl, .sc (.int _)⟩
      · exact ⟨.non, rfl, .sc .non⟩
      · exact ⟨.bl _, rfl, .sc (.bl _)⟩
      · exact ⟨.str _, rfl, .sc (.str (by decide))⟩
      · exact ⟨.lst h43, rfl, .lst h43 h43 rfl (by decide) (fun j u v hu hv => by
          match j, hu, hv with
          | 0, hu, hv =>
            obtain rfl := Option.some.inj hu
            obtain rfl := Option.some.inj hv
            exact .sc (.int _))⟩)
    have e3 := e2.trans e3
    clear hwl h42 h4' f1 f2 X2
    walk_at "ys"
    refine y_ixL hwl3 hwv ?_
    walk_at "ys"
    -- share
    refine ⟨sz_line (by simp), fun la nla => ?_⟩
    have s4 : Same H3 (upd H3 la (.lst [])) := same_new0 nla
    have hla : upd H3 la (.lst []) la = some (.lst []) := upd_same
    generalize upd H3 la (.lst []) = H4 at *
    walk_at "ys"
    intro d1 nd1
    walk_at "ys"
    refine ⟨sz_line (by simp), fun t1 nt1 => ?_⟩
    walk_at "ys"
    refine ⟨up_new nt1 upd_same, [((Sum.inr "a" : Key), V.ref t1)], rfl, by show 1 ≤ 15; decide, ?_⟩
    have ht1 : (upd (upd H4 d1 (.dK [])) t1 (.tup [.int 1])) t1 = some (.tup [.int 1]) := upd_same
    have sa1 : Same (upd H4 d1 (.dK [])) (upd (upd H4 d1 (.dK [])) t1 (.tup [.int 1])) := same_new0 nt1
    have ntd1 : t1 ≠ d1 := (ne_of_none upd_same nt1).symm
    generalize upd (upd H4 d1 (.dK [])) t1 (.tup [.int 1]) = Ha at *
    rw [show mergeK [] [((Sum.inr "a" : Key), V.ref t1)] = [((Sum.inr "a" : Key), V.ref t1)] from rfl]
    obtain ⟨s5, hd1⟩ := lay1 (kvs := [((Sum.inr "a" : Key), V.ref t1)]) nd1 sa1
    replace ht1 : (upd Ha d1 (.dK [((Sum.inr "a" : Key), V.ref t1)])) t1 = some (.tup [.int 1]) := up_ne ntd1 ht1
    clear sa1 nt1
    generalize upd Ha d1 (.dK [((Sum.inr "a" : Key), V.ref t1)]) = H5 at *
    clear Ha
    walk_at "ys"
    intro d2 nd2
    walk_at "ys"
    refine ⟨sz_line (by simp), fun t2 nt2 => ?_⟩
    walk_at "ys"
    refine ⟨up_new nt2 upd_same, [((Sum.inr "A" : Key), V.ref t2)], rfl, by show 1 ≤ 15; decide, ?_⟩
    have ht2 : (upd (upd H5 d2 (.dK [])) t2 (.tup [.int 1, .int 2])) t2 = some (.tup [.int 1, .int 2]) := upd_same
    have sa2 : Same (upd H5 d2 (.dK [])) (upd (upd H5 d2 (.dK [])) t2 (.tup [.int 1, .int 2])) := same_new0 nt2
    have ntd2 : t2 ≠ d2 := (ne_of_none upd_same nt2).symm
    generalize upd (upd H5 d2 (.dK [])) t2 (.tup [.int 1, .int 2]) = Ha at *
    rw [show mergeK [] [((Sum.inr "A" : Key), V.ref t2)] = [((Sum.inr "A" : Key), V.ref t2)] from rfl]
    obtain ⟨s6, hd2⟩ := lay1 (kvs := [((Sum.inr "A" : Key), V.ref t2)]) nd2 sa2
    replace ht2 : (upd Ha d2 (.dK [((Sum.inr "A" : Key), V.ref t2)])) t2 = some (.tup [.int 1, .int 2]) := up_ne ntd2 ht2
    clear sa2 nt2
    generalize upd Ha d2 (.dK [((Sum.inr "A" : Key), V.ref t2)]) = H6 at *
    clear Ha
    walk_at "ys"
    intro d3 nd3
    walk_at "ys"
    refine ⟨sz_line (by simp), fun t3 nt3 => ?_⟩
    walk_at "ys"
    refine ⟨up_new nt3 upd_same, [((Sum.inr "a" : Key), V.ref t3)], rfl, by show 1 ≤ 15; decide, ?_⟩
    have ht3 : (upd (upd H6 d3 (.dK [])) t3 (.tup [.int 0, .int 0])) t3 = some (.tup [.int 0, .int 0]) := upd_same
    have sa3 : Same (upd H6 d3 (.dK [])) (upd (upd H6 d3 (.dK [])) t3 (.tup [.int 0, .int 0])) := same_new0 nt3
    have ntd3 : t3 ≠ d3 := (ne_of_none upd_same nt3).symm
    generalize upd (upd H6 d3 (.dK [])) t3 (.tup [.int 0, .int 0]) = Ha at *
    rw [show mergeK [] [((Sum.inr "a" : Key), V.ref t3)] = [((Sum.inr "a" : Key), V.ref t3)] from rfl]
    obtain ⟨s7, hd3⟩ := lay1 (kvs := [((Sum.inr "a" : Key), V.ref t3)]) nd3 sa3
    replace ht3 : (upd Ha d3 (.dK [((Sum.inr "a" : Key), V.ref t3)])) t3 = some (.tup [.int 0, .int 0]) := up_ne ntd3 ht3
    clear sa3 nt3
    generalize upd Ha d3 (.dK [((Sum.inr "a" : Key), V.ref t3)]) = H7 at *
    clear Ha
    walk_at "ys"
    intro d4 nd4
    refine ⟨.int L, rfl, .int L, rfl, sz_line (by simp), fun t4 nt4 => ?_⟩
    walk_at "ys"
    refine ⟨sz_line (by simp), fun u4 nu4 => ?_⟩
    walk_at "ys"
    refine ⟨up_new nu4 (up_new nt4 upd_same), [((Sum.inr "a" : Key), V.ref t4), ((Sum.inr "b" : Key), V.ref u4)], rfl, by show 2 ≤ 15; decide, ?_⟩
    have ht4 : (upd (upd (upd H7 d4 (.dK [])) t4 (.tup [.int L, .int L])) u4 (.tup [.int 1, .int 1])) t4 = some (.tup [.int L, .int L]) := up_new nu4 upd_same
    have hu4 : (upd (upd (upd H7 d4 (.dK [])) t4 (.tup [.int L, .int L])) u4 (.tup [.int 1, .int 1])) u4 = some (.tup [.int 1, .int 1]) := upd_same
    have sa4 : Same (upd H7 d4 (.dK [])) (upd (upd (upd H7 d4 (.dK [])) t4 (.tup [.int L, .int L])) u4 (.tup [.int 1, .int 1])) := (same_new0 nt4).trans (same_new0 nu4)
    have ntd4 : t4 ≠ d4 := (ne_of_none upd_same nt4).symm
    have nud4 : u4 ≠ d4 := (ne_of_none (up_new nt4 upd_same) nu4).symm
    generalize upd (upd (upd H7 d4 (.dK [])) t4 (.tup [.int L, .int L])) u4 (.tup [.int 1, .int 1]) = Ha at *
    rw [show mergeK [] [((Sum.inr "a" : Key), V.ref t4), ((Sum.inr "b" : Key), V.ref u4)] = [((Sum.inr "a" : Key), V.ref t4), ((Sum.inr "b" : Key), V.ref u4)] from rfl]
    obtain ⟨s8, hd4⟩ := lay1 (kvs := [((Sum.inr "a" : Key), V.ref t4), ((Sum.inr "b" : Key), V.ref u4)]) nd4 sa4
    replace ht4 : (upd Ha d4 (.dK [((Sum.inr "a" : Key), V.ref t4), ((Sum.inr "b" : Key), V.ref u4)])) t4 = some (.tup [.int L, .int L]) := up_ne ntd4 ht4
    replace hu4 : (upd Ha d4 (.dK [((Sum.inr "a" : Key), V.ref t4), ((Sum.inr "b" : Key), V.ref u4)])) u4 = some (.tup [.int 1, .int 1]) := up_ne nud4 hu4
    clear sa4 nt4 nu4
    generalize upd Ha d4 (.dK [((Sum.inr "a" : Key), V.ref t4), ((Sum.inr "b" : Key), V.ref u4)]) = H8 at *
    clear Ha
    walk_at "ys"
    intro d5 nd5
    walk_at "ys"
    refine ⟨sz_line (by simp), fun t5 nt5 => ?_⟩
    walk_at "ys"
    refine ⟨up_new nt5 upd_same, [((Sum.inr "a" : Key), V.ref t5)], rfl, by show 1 ≤ 15; decide, ?_⟩
    have ht5 : (upd (upd H8 d5 (.dK [])) t5 (.lst [.int 1, .int 2])) t5 = some (.lst [.int 1, .int 2]) := upd_same
    have sa5 : Same (upd H8 d5 (.dK [])) (upd (upd H8 d5 (.dK [])) t5 (.lst [.int 1, .int 2])) := same_new0 nt5
    have ntd5 : t5 ≠ d5 := (ne_of_none upd_same nt5).symm
    generalize upd (upd H8 d5 (.dK [])) t5 (.lst [.int 1, .int 2]) = Ha at *
    rw [show mergeK [] [((Sum.inr "a" : Key), V.ref t5)] = [((Sum.inr "a" : Key), V.ref t5)] from rfl]
    obtain ⟨s9, hd5⟩ := lay1 (kvs := [((Sum.inr "a" : Key), V.ref t5)]) nd5 sa5
    replace ht5 : (upd Ha d5 (.dK [((Sum.inr "a" : Key), V.ref t5)])) t5 = some (.lst [.int 1, .int 2]) := up_ne ntd5 ht5
    clear sa5 nt5
    generalize upd Ha d5 (.dK [((Sum.inr "a" : Key), V.ref t5)]) = H9 at *
    clear Ha
    walk_at "ys"
    refine ⟨sz_line (by simp), fun ol nol => ?_⟩
    have s10 : Same H9 (upd H9 ol (.lst [.non, .ref la, .ref d1, .ref d2, .ref d3, .ref d4, .ref d5])) := same_new0 nol
    have hol : upd H9 ol (.lst [.non, .ref la, .ref d1, .ref d2, .ref d3, .ref d4, .ref d5]) ol = some (.lst [.non, .ref la, .ref d1, .ref d2, .ref d3, .ref d4, .ref d5]) := upd_same
    generalize upd H9 ol (.lst [.non, .ref la, .ref d1, .ref d2, .ref d3, .ref d4, .ref d5]) = H10 at *
    replace hla := s5 _ _ hla
    replace hla := s6 _ _ hla
    replace hla := s7 _ _ hla
    replace hla := s8 _ _ hla
    replace hla := s9 _ _ hla
    replace hla := s10 _ _ hla
    replace hd1 := s6 _ _ hd1
    replace hd1 := s7 _ _ hd1
    replace hd1 := s8 _ _ hd1
    replace hd1 := s9 _ _ hd1
    replace hd1 := s10 _ _ hd1
    replace ht1 := s6 _ _ ht1
    replace ht1 := s7 _ _ ht1
    replace ht1 := s8 _ _ ht1
    replace ht1 := s9 _ _ ht1
    replace ht1 := s10 _ _ ht1
    replace hd2 := s7 _ _ hd2
    replace hd2 := s8 _ _ hd2
    replace hd2 := s9 _ _ hd2
    replace hd2 := s10 _ _ hd2
    replace ht2 := s7 _ _ ht2
    replace ht2 := s8 _ _ ht2
    replace ht2 := s9 _ _ ht2
    replace ht2 := s10 _ _ ht2
    replace hd3 := s8 _ _ hd3
    replace hd3 := s9 _ _ hd3
    replace hd3 := s10 _ _ hd3
    replace ht3 := s8 _ _ ht3
    replace ht3 := s9 _ _ ht3
    replace ht3 := s10 _ _ ht3
    replace hd4 := s9 _ _ hd4
    replace hd4 := s10 _ _ hd4
    replace ht4 := s9 _ _ ht4
    replace ht4 := s10 _ _ ht4
    replace hu4 := s9 _ _ hu4
    replace hu4 := s10 _ _ hu4
    replace hd5 := s10 _ _ hd5
    replace ht5 := s10 _ _ ht5
    have f4 : Same H3 H10 := ((((((s4.trans s5).trans s6).trans s7).trans s8).trans s9).trans s10)
    clear s4 s5 s6 s7 s8 s9 s10
    have X10 := X3.same f4
    have hfb : ∀ a, H3 a = none → a ≠ b := fun a h => X3.ne h
    walk_at "ys"
    refine ⟨b, 7, _, rfl, by decide, by decide, X10, by omega, fun r2 H11 hr2 e5 X11 => ?_⟩
    have n_la : la ≠ b := X10.nel hla (by simp)
    replace hla := e5 _ _ n_la hla
    replace hla := cut_at hla n_la
    have n_d1 : d1 ≠ b := X10.neL hd1 (fun xs z => by cases z)
    replace hd1 := e5 _ _ n_d1 hd1
    replace hd1 := cut_at hd1 n_d1
    have n_t1 : t1 ≠ b := X10.neL ht1 (fun xs z => by cases z)
    replace ht1 := e5 _ _ n_t1 ht1
    replace ht1 := cut_at ht1 n_t1
    have n_d2 : d2 ≠ b := X10.neL hd2 (fun xs z => by cases z)
    replace hd2 := e5 _ _ n_d2 hd2
    replace hd2 := cut_at hd2 n_d2
    have n_t2 : t2 ≠ b := X10.neL ht2 (fun xs z => by cases z)
    replace ht2 := e5 _ _ n_t2 ht2
    replace ht2 := cut_at ht2 n_t2
    have n_d3 : d3 ≠ b := X10.neL hd3 (fun xs z => by cases z)
    replace hd3 := e5 _ _ n_d3 hd3
    replace hd3 := cut_at hd3 n_d3
    have n_t3 : t3 ≠ b := X10.neL ht3 (fun xs z => by cases z)
    replace ht3 := e5 _ _ n_t3 ht3
    replace ht3 := cut_at ht3 n_t3
    have n_d4 : d4 ≠ b := X10.neL hd4 (fun xs z => by cases z)
    replace hd4 := e5 _ _ n_d4 hd4
    replace hd4 := cut_at hd4 n_d4
    have n_t4 : t4 ≠ b := X10.neL ht4 (fun xs z => by cases z)
    replace ht4 := e5 _ _ n_t4 ht4
    replace ht4 := cut_at ht4 n_t4
    have n_u4 : u4 ≠ b := X10.neL hu4 (fun xs z => by cases z)
    replace hu4 := e5 _ _ n_u4 hu4
    replace hu4 := cut_at hu4 n_u4
    have n_d5 : d5 ≠ b := X10.neL hd5 (fun xs z => by cases z)
    replace hd5 := e5 _ _ n_d5 hd5
    replace hd5 := cut_at hd5 n_d5
    have n_t5 : t5 ≠ b := X10.nel ht5 (by simp)
    replace ht5 := e5 _ _ n_t5 ht5
    replace ht5 := cut_at ht5 n_t5
    have n_ol : ol ≠ b := X10.nel hol (by simp)
    replace hol := e5 _ _ n_ol hol
    obtain ⟨ov, hov, oo, oa⟩ := at_of (fun v => OddSh (cut b H11) L v ∧ Al (cut b H11) 5 v v) (xs := [.non, .ref la, .ref d1, .ref d2, .ref d3, .ref d4, .ref d5]) hr2 (fun v hv => by
      simp only [List.mem_cons, List.not_mem_nil, or_false] at hv
      rcases hv with rfl | rfl | rfl | rfl | rfl | rfl | rfl
      · exact ⟨.non, .sc .non⟩
      · exact ⟨.lst hla, al_lst hla (by decide) (fun v hv => by simp at hv)⟩
      · exact ⟨.one hd1 ht1, al_d1 hd1 (by decide) (al_tup (n := 1) ht1 (by show 1 ≤ 1000; decide) al_i1)⟩
      · exact ⟨.big hd2 ht2, al_d1 hd2 (by decide) (al_tup (n := 1) ht2 (by show 2 ≤ 1000; decide) al_i2)⟩
      · exact ⟨.zero hd3 ht3, al_d1 hd3 (by decide) (al_tup (n := 1) ht3 (by show 2 ≤ 1000; decide) al_i2)⟩
      · refine ⟨.two hd4 ht4 hu4, al_dct (n := 2) hd4 (by show 2 ≤ 1000; decide) (fun p hp => ?_) fun p hp => ?_⟩
        · simp only [List.mem_cons, List.not_mem_nil, or_false] at hp
          rcases hp with rfl | rfl
          · exact .str (by decide)
          · exact .str (by decide)
        · simp only [List.mem_cons, List.not_mem_nil, or_false] at hp
          rcases hp with rfl | rfl
          · exact al_tup (n := 1) ht4 (by show 2 ≤ 1000; decide) al_i2
          · exact al_tup (n := 1) hu4 (by show 2 ≤ 1000; decide) al_i2
      · exact ⟨.lis hd5 ht5, al_d1 hd5 (by decide) (al_lst (n := 1) ht5 (by show 2 ≤ 1000; decide) al_i2)⟩)
    have e11 := (e3.snoc f4).trans e5
    replace wk := wk.same ((cut_but (.of f4)).trans (cut_but e5))
    replace wa := wa.same ((cut_but (.of f4)).trans (cut_but e5))
    clear hla hd1 ht1 hd2 ht2 hd3 ht3 hd4 ht4 hu4 hd5 ht5 e5 f4
    walk_at "ys"
    refine y_ixL hol hov ?_
    walk_at "ys"
    -- nobody
    refine ⟨sz_line (by simp), fun nl nnl => ?_⟩
    have s1 : Same H11 (upd H11 nl (.lst [.str (nmF nm i)])) := same_new0 nnl
    have hnl : upd H11 nl (.lst [.str (nmF nm i)]) nl = some (.lst [.str (nmF nm i)]) := upd_same
    generalize upd H11 nl (.lst [.str (nmF nm i)]) = H12 at *
    walk_at "ys"
    refine ⟨sz_line (by simp), fun nol nnol => ?_⟩
    have s2 : Same H12 (upd H12 nol (.lst [.str "nobody", .str "", .non, .int 3, .ref nl])) := same_new0 nnol
    have hnol : upd H12 nol (.lst [.str "nobody", .str "", .non, .int 3, .ref nl]) nol = some (.lst [.str "nobody", .str "", .non, .int 3, .ref nl]) := upd_same
    replace hnl := s2 _ _ hnl
    generalize upd H12 nol (.lst [.str "nobody", .str "", .non, .int 3, .ref nl]) = H13 at *
    have X13 := (X11.same s1).same s2
    walk_at "ys"
    refine ⟨b, 5, _, rfl, by decide, by decide, X13, by omega, fun r3 H14 hr3 e5 X14 => ?_⟩
    have n_nl := X13.nel hnl (by simp)
    have n_nol := X13.nel hnol (by simp)
    replace hnl := cut_at (e5 _ _ n_nl hnl) n_nl
    replace hnol := e5 _ _ n_nol hnol
    obtain ⟨nv, hnv, nk, nn, na⟩ := at_of (fun v => Kd (cut b H14) v ∧ (∀ y, v = .str y → y ∉ nm) ∧ Al (cut b H14) 5 v v) (xs := [.str "nobody", .str "", .non, .int 3, .ref nl]) hr3 (fun v hv => by
      simp only [List.mem_cons, List.not_mem_nil, or_false] at hv
      rcases hv with rfl | rfl | rfl | rfl | rfl
      · exact ⟨.str _, fun y hy hm => by rw [← V.str.inj hy] at hm; exact absurd (h6 _ hm) (by decide +kernel), .sc (.str (by decide))⟩
      · exact ⟨.str _, fun y hy hm => by rw [← V.str.inj hy] at hm; exact absurd (h6 _ hm) (by decide +kernel), .sc (.str (by decide))⟩
      · exact ⟨.non, fun y hy => (nomatch hy), .sc .non⟩
      · exact ⟨.int _, fun y hy => (nomatch hy), .sc (.int _)⟩
      · exact ⟨.lst hnl, fun y hy => (nomatch hy), al_lst (n := 4) hnl (by show 1 ≤ 1000; decide) (fun v hv => by
          rw [List.mem_singleton.mp hv]
          exact .sc (.str (by have := (G.ok _ (List.mem_of_getElem? (nmF_at hi))).hi; omega)))⟩)
    have f5 := (cut_but (b := b) (.of (s1.trans s2))).trans (cut_but e5)
    have e14 := (e11.snoc (s1.trans s2)).trans e5
    replace wk := wk.same f5
    replace wa := wa.same f5
    replace oo := oo.same f5
    replace oa := oa.same f5
    clear hnl e5 f5 s1 s2
    walk_at "ys"
    refine y_ixL hnol hnv ?_
    walk_at "ys"
    -- number
    refine ⟨sz_line (by simp), fun n0 nn0 => ?_⟩
    have s15 : Same H14 (upd H14 n0 (.lst [.int 0, .int ((L : Int) + 1), .non, .bl true, .str "1"])) := same_new0 nn0
    have hn0 : upd H14 n0 (.lst [.int 0, .int ((L : Int) + 1), .non, .bl true, .str "1"]) n0 = some (.lst [.int 0, .int ((L : Int) + 1), .non, .bl true, .str "1"]) := upd_same
    generalize upd H14 n0 (.lst [.int 0, .int ((L : Int) + 1), .non, .bl true, .str "1"]) = H15 at *
    walk_at "ys"
    refine ⟨sz_line (by simp), fun n1 nn1 => ?_⟩
    have s16 : Same H15 (upd H15 n1 (.lst [.int 401, .int (-1), .non, .bl true, .str "1"])) := same_new0 nn1
    have hn1 : upd H15 n1 (.lst [.int 401, .int (-1), .non, .bl true, .str "1"]) n1 = some (.lst [.int 401, .int (-1), .non, .bl true, .str "1"]) := upd_same
    generalize upd H15 n1 (.lst [.int 401, .int (-1), .non, .bl true, .str "1"]) = H16 at *
    walk_at "ys"
    refine ⟨sz_line (by simp), fun nq nnq => ?_⟩
    have s17 : Same H16 (upd H16 nq (.lst [.ref n0, .ref n1])) := same_new0 nnq
    have hnq : upd H16 nq (.lst [.ref n0, .ref n1]) nq = some (.lst [.ref n0, .ref n1]) := upd_same
    generalize upd H16 nq (.lst [.ref n0, .ref n1]) = H17 at *
    walk_at "ys"
    intro dn ndn
    have s18 : Same H17 (upd H17 dn (.dK [])) := same_new0 ndn
    have hdn : upd H17 dn (.dK []) dn = some (.dK []) := upd_same
    generalize upd H17 dn (.dK []) = H18 at *
    walk_at "ys"
    refine ⟨sz_line (by simp), fun a1 na1 => ?_⟩
    have s19 : Same H18 (upd H18 a1 (.tup [.int 1])) := same_new0 na1
    have ha1 : upd H18 a1 (.tup [.int 1]) a1 = some (.tup [.int 1]) := upd_same
    generalize upd H18 a1 (.tup [.int 1]) = H19 at *
    walk_at "ys"
    refine ⟨sz_line (by simp), fun b1 nb1 => ?_⟩
    have s20 : Same H19 (upd H19 b1 (.lst [.ref a1])) := same_new0 nb1
    have hb1 : upd H19 b1 (.lst [.ref a1]) b1 = some (.lst [.ref a1]) := upd_same
    generalize upd H19 b1 (.lst [.ref a1]) = H20 at *
    walk_at "ys"
    refine ⟨sz_line (by simp), fun a2 na2 => ?_⟩
    have s21 : Same H20 (upd H20 a2 (.lst [.int 1, .int 1])) := same_new0 na2
    have ha2 : upd H20 a2 (.lst [.int 1, .int 1]) a2 = some (.lst [.int 1, .int 1]) := upd_same
    generalize upd H20 a2 (.lst [.int 1, .int 1]) = H21 at *
    walk_at "ys"
    refine ⟨sz_line (by simp), fun b2 nb2 => ?_⟩
    have s22 : Same H21 (upd H21 b2 (.lst [.ref a2])) := same_new0 nb2
    have hb2 : upd H21 b2 (.lst [.ref a2]) b2 = some (.lst [.ref a2]) := upd_same
    generalize upd H21 b2 (.lst [.ref a2]) = H22 at *
    walk_at "ys"
    refine ⟨sz_line (by simp), fun a3 na3 => ?_⟩
    have s23 : Same H22 (upd H22 a3 (.tup [.int 1, .int 401])) := same_new0 na3
    have ha3 : upd H22 a3 (.tup [.int 1, .int 401]) a3 = some (.tup [.int 1, .int 401]) := upd_same
    generalize upd H22 a3 (.tup [.int 1, .int 401]) = H23 at *
    walk_at "ys"
    refine ⟨sz_line (by simp), fun b3 nb3 => ?_⟩
    have s24 : Same H23 (upd H23 b3 (.lst [.ref a3])) := same_new0 nb3
    have hb3 : upd H23 b3 (.lst [.ref a3]) b3 = some (.lst [.ref a3]) := upd_same
    generalize upd H23 b3 (.lst [.ref a3]) = H24 at *
    walk_at "ys"
    refine ⟨sz_line (by simp), fun a4 na4 => ?_⟩
    have s25 : Same H24 (upd H24 a4 (.tup [.int (-1), .int 1])) := same_new0 na4
    have ha4 : upd H24 a4 (.tup [.int (-1), .int 1]) a4 = some (.tup [.int (-1), .int 1]) := upd_same
    generalize upd H24 a4 (.tup [.int (-1), .int 1]) = H25 at *
    walk_at "ys"
    refine ⟨sz_line (by simp), fun b4 nb4 => ?_⟩
    have s26 : Same H25 (upd H25 b4 (.lst [.ref a4])) := same_new0 nb4
    have hb4 : upd H25 b4 (.lst [.ref a4]) b4 = some (.lst [.ref a4]) := upd_same
    generalize upd H25 b4 (.lst [.ref a4]) = H26 at *
    walk_at "ys"
    refine ⟨sz_line (by simp), fun a5 na5 => ?_⟩
    have s27 : Same H26 (upd H26 a5 (.tup [.int 1, .bl true])) := same_new0 na5
    have ha5 : upd H26 a5 (.tup [.int 1, .bl true]) a5 = some (.tup [.int 1, .bl true]) := upd_same
    generalize upd H26 a5 (.tup [.int 1, .bl true]) = H27 at *
    walk_at "ys"
    refine ⟨sz_line (by simp), fun b5 nb5 => ?_⟩
    have s28 : Same H27 (upd H27 b5 (.lst [.ref a5])) := same_new0 nb5
    have hb5 : upd H27 b5 (.lst [.ref a5]) b5 = some (.lst [.ref a5]) := upd_same
    generalize upd H27 b5 (.lst [.ref a5]) = H28 at *
    walk_at "ys"
    refine ⟨sz_line (by simp), fun a6 na6 => ?_⟩
    have s29 : Same H28 (upd H28 a6 (.tup [.int 1, .int 1])) := same_new0 na6
    have ha6 : upd H28 a6 (.tup [.int 1, .int 1]) a6 = some (.tup [.int 1, .int 1]) := upd_same
    generalize upd H28 a6 (.tup [.int 1, .int 1]) = H29 at *
    walk_at "ys"
    refine ⟨sz_line (by simp), fun b6 nb6 => ?_⟩
    have s30 : Same H29 (upd H29 b6 (.lst [.ref a6])) := same_new0 nb6
    have hb6 : upd H29 b6 (.lst [.ref a6]) b6 = some (.lst [.ref a6]) := upd_same
    generalize upd H29 b6 (.lst [.ref a6]) = H30 at *
    walk_at "ys"
    refine y_rep hb6 (by decide) (by decide) (sz_line (by show 1 * 61 ≤ 100000; decide)) (fun b7 nb7 => ?_)
    rw [rep_one]
    have s31 : Same H30 (upd H30 b7 (.lst (List.replicate (61 : Int).toNat (.ref a6)))) := same_new0 nb7
    have hb7 : upd H30 b7 (.lst (List.replicate (61 : Int).toNat (.ref a6))) b7 = some (.lst (List.replicate (61 : Int).toNat (.ref a6))) := upd_same
    generalize upd H30 b7 (.lst (List.replicate (61 : Int).toNat (.ref a6))) = H31 at *
    walk_at "ys"
    refine ⟨sz_line (by simp), fun nd9 nnd9 => ?_⟩
    have s32 : Same H31 (upd H31 nd9 (.lst [.non, .int 3, .ref dn, .ref b1, .ref b2, .ref b3, .ref b4, .ref b5, .ref b7])) := same_new0 nnd9
    have hnd9 : upd H31 nd9 (.lst [.non, .int 3, .ref dn, .ref b1, .ref b2, .ref b3, .ref b4, .ref b5, .ref b7]) nd9 = some (.lst [.non, .int 3, .ref dn, .ref b1, .ref b2, .ref b3, .ref b4, .ref b5, .ref b7]) := upd_same
    generalize upd H31 nd9 (.lst [.non, .int 3, .ref dn, .ref b1, .ref b2, .ref b3, .ref b4, .ref b5, .ref b7]) = H32 at *
    replace hn0 := s16 _ _ hn0
    replace hn0 := s17 _ _ hn0
    replace hn0 := s18 _ _ hn0
    replace hn0 := s19 _ _ hn0
    replace hn0 := s20 _ _ hn0
    replace hn0 := s21 _ _ hn0
    replace hn0 := s22 _ _ hn0
    replace hn0 := s23 _ _ hn0
    replace hn0 := s24 _ _ hn0
    replace hn0 := s25 _ _ hn0
    replace hn0 := s26 _ _ hn0
    replace hn0 := s27 _ _ hn0
    replace hn0 := s28 _ _ hn0
    replace hn0 := s29 _ _ hn0
    replace hn0 := s30 _ _ hn0
    replace hn0 := s31 _ _ hn0
    replace hn0 := s32 _ _ hn0
    replace hn1 := s17 _ _ hn1
    replace hn1 := s18 _ _ hn1
    replace hn1 := s19 _ _ hn1
    replace hn1 := s20 _ _ hn1
    replace hn1 := s21 _ _ hn1
    replace hn1 := s22 _ _ hn1
    replace hn1 := s23 _ _ hn1
    replace hn1 := s24 _ _ hn1
    replace hn1 := s25 _ _ hn1
    replace hn1 := s26 _ _ hn1
    replace hn1 := s27 _ _ hn1
    replace hn1 := s28 _ _ hn1
    replace hn1 := s29 _ _ hn1
    replace hn1 := s30 _ _ hn1
    replace hn1 := s31 _ _ hn1
    replace hn1 := s32 _ _ hn1
    replace hnq := s18 _ _ hnq
    replace hnq := s19 _ _ hnq
    replace hnq := s20 _ _ hnq
    replace hnq := s21 _ _ hnq
    replace hnq := s22 _ _ hnq
    replace hnq := s23 _ _ hnq
    replace hnq := s24 _ _ hnq
    replace hnq := s25 _ _ hnq
    replace hnq := s26 _ _ hnq
    replace hnq := s27 _ _ hnq
    replace hnq := s28 _ _ hnq
    replace hnq := s29 _ _ hnq
    replace hnq := s30 _ _ hnq
    replace hnq := s31 _ _ hnq
    replace hnq := s32 _ _ hnq
    replace hdn := s19 _ _ hdn
    replace hdn := s20 _ _ hdn
    replace hdn := s21 _ _ hdn
    replace hdn := s22 _ _ hdn
    replace hdn := s23 _ _ hdn
    replace hdn := s24 _ _ hdn
    replace hdn := s25 _ _ hdn
    replace hdn := s26 _ _ hdn
    replace hdn := s27 _ _ hdn
    replace hdn := s28 _ _ hdn
    replace hdn := s29 _ _ hdn
    replace hdn := s30 _ _ hdn
    replace hdn := s31 _ _ hdn
    replace hdn := s32 _ _ hdn
    replace ha1 := s20 _ _ ha1
    replace ha1 := s21 _ _ ha1
    replace ha1 := s22 _ _ ha1
    replace ha1 := s23 _ _ ha1
    replace ha1 := s24 _ _ ha1
    replace ha1 := s25 _ _ ha1
    replace ha1 := s26 _ _ ha1
    replace ha1 := s27 _ _ ha1
    replace ha1 := s28 _ _ ha1
    replace ha1 := s29 _ _ ha1
    replace ha1 := s30 _ _ ha1
    replace ha1 := s31 _ _ ha1
    replace ha1 := s32 _ _ ha1
    replace hb1 := s21 _ _ hb1
    replace hb1 := s22 _ _ hb1
    replace hb1 := s23 _ _ hb1
    replace hb1 := s24 _ _ hb1
    replace hb1 := s25 _ _ hb1
    replace hb1 := s26 _ _ hb1
    replace hb1 := s27 _ _ hb1
    replace hb1 := s28 _ _ hb1
    replace hb1 := s29 _ _ hb1
    replace hb1 := s30 _ _ hb1
    replace hb1 := s31 _ _ hb1
    replace hb1 := s32 _ _ hb1
    replace ha2 := s22 _ _ ha2
    replace ha2 := s23 _ _ ha2
    replace ha2 := s24 _ _ ha2
    replace ha2 := s25 _ _ ha2
    replace ha2 := s26 _ _ ha2
    replace ha2 := s27 _ _ ha2
    replace ha2 := s28 _ _ ha2
    replace ha2 := s29 _ _ ha2
    replace ha2 := s30 _ _ ha2
    replace ha2 := s31 _ _ ha2
    replace ha2 := s32 _ _ ha2
    replace hb2 := s23 _ _ hb2
    replace hb2 := s24 _ _ hb2
    replace hb2 := s25 _ _ hb2
    replace hb2 := s26 _ _ hb2
    replace hb2 := s27 _ _ hb2
    replace hb2 := s28 _ _ hb2
    replace hb2 := s29 _ _ hb2
    replace hb2 := s30 _ _ hb2
    replace hb2 := s31 _ _ hb2
    replace hb2 := s32 _ _ hb2
    replace ha3 := s24 _ _ ha3
    replace ha3 := s25 _ _ ha3
    replace ha3 := s26 _ _ ha3
    replace ha3 := s27 _ _ ha3
    replace ha3 := s28 _ _ ha3
    replace ha3 := s29 _ _ ha3
    replace ha3 := s30 _ _ ha3
    replace ha3 := s31 _ _ ha3
    replace ha3 := s32 _ _ ha3
    replace hb3 := s25 _ _ hb3
    replace hb3 := s26 _ _ hb3
    replace hb3 := s27 _ _ hb3
    replace hb3 := s28 _ _ hb3
    replace hb3 := s29 _ _ hb3
    replace hb3 := s30 _ _ hb3
    replace hb3 := s31 _ _ hb3
    replace hb3 := s32 _ _ hb3
    replace ha4 := s26 _ _ ha4
    replace ha4 := s27 _ _ ha4
    replace ha4 := s28 _ _ ha4
    replace ha4 := s29 _ _ ha4
    replace ha4 := s30 _ _ ha4
    replace ha4 := s31 _ _ ha4
    replace ha4 := s32 _ _ ha4
    replace hb4 := s27 _ _ hb4
    replace hb4 := s28 _ _ hb4
    replace hb4 := s29 _ _ hb4
    replace hb4 := s30 _ _ hb4
    replace hb4 := s31 _ _ hb4
    replace hb4 := s32 _ _ hb4
    replace ha5 := s28 _ _ ha5
    replace ha5 := s29 _ _ ha5
    replace ha5 := s30 _ _ ha5
    replace ha5 := s31 _ _ ha5
    replace ha5 := s32 _ _ ha5
    replace hb5 := s29 _ _ hb5
    replace hb5 := s30 _ _ hb5
    replace hb5 := s31 _ _ hb5
    replace hb5 := s32 _ _ hb5
    replace ha6 := s30 _ _ ha6
    replace ha6 := s31 _ _ ha6
    replace ha6 := s32 _ _ ha6
    replace hb6 := s31 _ _ hb6
    replace hb6 := s32 _ _ hb6
    replace hb7 := s32 _ _ hb7
    have f6 : Same H14 H32 := (((((((((((((((((s15.trans s16).trans s17).trans s18).trans s19).trans s20).trans s21).trans s22).trans s23).trans s24).trans s25).trans s26).trans s27).trans s28).trans s29).trans s30).trans s31).trans s32)
    clear s15 s16 s17 s18 s19 s20 s21 s22 s23 s24 s25 s26 s27 s28 s29 s30 s31 s32
    have X32 := X14.same f6
    walk_at "ys"
    refine ⟨b, 9, _, rfl, by decide, by decide, X32, by omega, fun r4 H33 hr4 e5 X33 => ?_⟩
    have n_n0 := X32.nel hn0 (by simp)
    replace hn0 := cut_at (e5 _ _ n_n0 hn0) n_n0
    have n_n1 := X32.nel hn1 (by simp)
    replace hn1 := cut_at (e5 _ _ n_n1 hn1) n_n1
    have n_nq := X32.nel hnq (by simp)
    replace hnq := cut_at (e5 _ _ n_nq hnq) n_nq
    have n_dn := X32.neL hdn (fun xs z => by cases z)
    replace hdn := cut_at (e5 _ _ n_dn hdn) n_dn
    have n_a1 := X32.neL ha1 (fun xs z => by cases z)
    replace ha1 := cut_at (e5 _ _ n_a1 ha1) n_a1
    have n_b1 := X32.nel hb1 (by simp)
    replace hb1 := cut_at (e5 _ _ n_b1 hb1) n_b1
    have n_a2 := X32.nel ha2 (by simp)
    replace ha2 := cut_at (e5 _ _ n_a2 ha2) n_a2
    have n_b2 := X32.nel hb2 (by simp)
    replace hb2 := cut_at (e5 _ _ n_b2 hb2) n_b2
    have n_a3 := X32.neL ha3 (fun xs z => by cases z)
    replace ha3 := cut_at (e5 _ _ n_a3 ha3) n_a3
    have n_b3 := X32.nel hb3 (by simp)
    replace hb3 := cut_at (e5 _ _ n_b3 hb3) n_b3
    have n_a4 := X32.neL ha4 (fun xs z => by cases z)
    replace ha4 := cut_at (e5 _ _ n_a4 ha4) n_a4
    have n_b4 := X32.nel hb4 (by simp)
    replace hb4 := cut_at (e5 _ _ n_b4 hb4) n_b4
    have n_a5 := X32.neL ha5 (fun xs z => by cases z)
    replace ha5 := cut_at (e5 _ _ n_a5 ha5) n_a5
    have n_b5 := X32.nel hb5 (by simp)
    replace hb5 := cut_at (e5 _ _ n_b5 hb5) n_b5
    have n_a6 := X32.neL ha6 (fun xs z => by cases z)
    replace ha6 := cut_at (e5 _ _ n_a6 ha6) n_a6
    have n_b6 := X32.nel hb6 (by simp)
    replace hb6 := cut_at (e5 _ _ n_b6 hb6) n_b6
    have n_b7 := X32.nel hb7 (by rw [List.length_replicate]; decide)
    replace hb7 := cut_at (e5 _ _ n_b7 hb7) n_b7
    have n_nd9 := X32.nel hnd9 (by simp)
    replace hnd9 := e5 _ _ n_nd9 hnd9
    obtain ⟨dv, hdv, do_, da⟩ := at_of (fun v => OddNd (cut b H33) v ∧ Al (cut b H33) 5 v v) (xs := [.non, .int 3, .ref dn, .ref b1, .ref b2, .ref b3, .ref b4, .ref b5, .ref b7]) hr4 (fun v hv => by
      have one : ∀ {a t : Addr}, cut b H33 a = some (.lst [.ref t]) → Al (cut b H33) 4 (.ref t) (.ref t) → Al (cut b H33) 5 (.ref a) (.ref a) := fun h al => al_lst (n := 4) h (by show 1 ≤ 1000; decide) (fun v hv => by
        rw [List.mem_singleton.mp hv]
        exact al)
      simp only [List.mem_cons, List.not_mem_nil, or_false] at hv
      rcases hv with rfl | rfl | rfl | rfl | rfl | rfl | rfl | rfl | rfl
      · exact ⟨.non, .sc .non⟩
      · exact ⟨.int _, .sc (.int _)⟩
      · exact ⟨.dct hdn, al_dct (n := 2) hdn (by decide) (fun p hp => by simp at hp) (fun p hp => by simp at hp)⟩
      · exact ⟨.one hb1 ha1, one hb1 (al_tup (n := 3) ha1 (by show 1 ≤ 1000; decide) al_i1)⟩
      · exact ⟨.lis hb2 ha2, one hb2 (al_lst (n := 3) ha2 (by show 2 ≤ 1000; decide) al_i2)⟩
      · exact ⟨.big hb3 ha3 (.int _) (.int _) rfl, one hb3 (al_tup (n := 3) ha3 (by show 2 ≤ 1000; decide) al_i2)⟩
      · exact ⟨.big hb4 ha4 (.int _) (.int _) rfl, one hb4 (al_tup (n := 3) ha4 (by show 2 ≤ 1000; decide) al_i2)⟩
      · exact ⟨.big hb5 ha5 (.int _) (.bl _) rfl, one hb5 (al_tup (n := 3) ha5 (by show 2 ≤ 1000; decide) (fun v hv => by
          simp only [List.mem_cons, List.not_mem_nil, or_false] at hv
          rcases hv with rfl | rfl
          · exact .sc (.int _)
          · exact .sc (.bl _)))⟩
      · exact ⟨.many hb7 (by rw [List.length_replicate]; decide), al_lst (n := 4) hb7 (by rw [List.length_replicate]; decide) (fun v hv => by
          rw [(List.mem_replicate.mp hv).2]
          exact al_tup (n := 3) ha6 (by show 2 ≤ 1000; decide) al_i2)⟩)
    have f5 := (cut_but (b := b) (.of f6)).trans (cut_but e5)
    have e33 := (e14.snoc f6).trans e5
    replace wk := wk.same f5
    replace wa := wa.same f5
    replace oo := oo.same f5
    replace oa := oa.same f5
    replace nk := nk.same f5
    replace na := na.same f5
    clear hdn ha1 hb1 ha2 hb2 ha3 hb3 ha4 hb4 ha5 hb5 ha6 hb6 hb7 f5 e5 f6
    walk_at "ys"
    refine y_ixL hnd9 hdv ?_
    have G33 := G0.same (cut_but e33)
    walk_at "ys"
    -- the ways
    refine y_gotr1 (by omega) (by omega) ?_
    refine for_it walk_range (fun k σ H' => ∃ (u10 u11 u12 u13 u14 u15 : Option V), σ = [some (.ref b), some (.int L), some (.ref g), some (.str (nmF nm i)), some wv, some (.ref ol), some ov, some nv, some (.ref nq), some dv, u10, u11, u12, u13, u14, u15] ∧ SameBut b H33 H' ∧ Box H' b (B + 4 + k))
      ⟨none, none, none, none, none, none, rfl, SameBut.refl _ _, X33, ⟩ (fun _ _ _ _ _ => trivial) (fun k x σ Hk Hk' hk hP hY => ?_) (fun σ Hk hP => ?_)
    · obtain ⟨u10, u11, u12, u13, u14, u15, rfl, ek, Xk⟩ := hP
      obtain ⟨rfl, rfl⟩ := hY
      have e0 : (fun i : Nat => V.int ((0 : Int) + (i : Nat))) k = V.int (k : Nat) := congrArg V.int (Int.zero_add _)
      rw [e0]
      have hk5 : k < 5 := by omega
      refine y_name ?_
      refine y_cut (fun (lv : V) σ' H' => σ' = [some (.ref b), some (.int L), some (.ref g), some (.str (nmF nm i)), some wv, some (.ref ol), some ov, some nv, some (.ref nq), some dv, some (.int (k : Nat)), some lv, u12, u13, u14, u15] ∧ SameBut b H33 H' ∧ Box H' b (B + 4 + (k + 1)) ∧ LateOk (cut b H') L k lv ∧ Al (cut b H') 5 lv lv) (fun lv σ' Hl hP => ?_) (fun tail => ?_)
      · obtain ⟨rfl, el, Xl, lo, la⟩ := hP
        have fl := cut_but el
        have cl : Same (cut b Hl) Hl := cut_le
        have G' := (G33.same fl).same cl
        have wk' := (wk.same fl).same cl
        have oo' := (oo.same fl).same cl
        have nk' := (nk.same fl).same cl
        have wa' := wa.same fl
        have oa' := oa.same fl
        have na' := na.same fl
        generalize hF : cut b Hl = F at *
        walk_at "ys"
        refine ⟨k, wv, ov, nv, lv, "number", wv, rfl, by omega, .number wk' wb, fun r1 H1 e1 nr1 hr1 => ?_⟩
        walk_at "ys"
        refine ⟨sz_line (by simp), fun t1 nt1 => ?_⟩
        have g1 : Same H1 (upd H1 t1 (.tup [.ref r1, .str "number", wv])) := same_new0 nt1
        have ht1 : upd H1 t1 (.tup [.ref r1, .str "number", wv]) t1 = some (.tup [.ref r1, .str "number", wv]) := upd_same
        have hr1 := g1 _ _ hr1
        have e1 := e1.trans g1
        clear g1
        generalize upd H1 t1 (.tup [.ref r1, .str "number", wv]) = H2 at *
        walk_at "ys"
        refine ⟨sz_line (by simp), fun rl nrl => ?_⟩
        have g1 : Same H2 (upd H2 rl (.lst ([t1].map V.ref))) := same_new0 nrl
        have hrl : upd H2 rl (.lst ([t1].map V.ref)) rl = some (.lst ([t1].map V.ref)) := upd_same
        have nrl0 : Hl rl = none := free_of e1 nrl
        have row1 : RowT F rl (upd H2 rl (.lst ([t1].map V.ref))) t1 := ⟨r1, "number", wv, g1 _ _ ht1, g1 _ _ hr1, ne_of_none hr1 nrl, by decide, wa'⟩
        have e2 := e1.trans g1
        clear g1 e1 hr1 ht1
        change tSeq _ _ _ _ (upd H2 rl (.lst ([t1].map V.ref)))
        generalize upd H2 rl (.lst ([t1].map V.ref)) = H3 at *
        walk_at "ys"
        refine ⟨k, .int L, ov, nv, lv, "share", ov, rfl, by omega, .share rfl h4 h60 (oo'.same e2), fun r2 H4 e4 nr2 hr2 => ?_⟩
        walk_at "ys"
        refine ⟨sz_line (by simp), fun t2 nt2 => ?_⟩
        have g1 : Same H4 (upd H4 t2 (.tup [.ref r2, .str "share", ov])) := same_new0 nt2
        have ht2 : upd H4 t2 (.tup [.ref r2, .str "share", ov]) t2 = some (.tup [.ref r2, .str "share", ov]) := upd_same
        have hr2 := g1 _ _ hr2
        have e4 := e4.trans g1
        clear g1
        generalize upd H4 t2 (.tup [.ref r2, .str "share", ov]) = H5 at *
        have hrl5 := e4 _ _ hrl
        have row2 : RowT F rl H5 t2 := ⟨r2, "share", ov, ht2, hr2, ne_of_none' hrl nr2, by decide, oa'⟩
        walk_at "ys"
        refine y_append hrl5 (sz_lt (by simp)) ?_
        show tSeq _ _ _ _ _
        have rows2 : Rows F rl Hl (upd H5 rl (.lst ([t1].map V.ref ++ [.ref t2]))) [t1, t2] := Rows.add (ts := [t1]) ⟨e2.trans e4, hrl5, fun t ht => by rw [List.mem_singleton.mp ht]; exact row1.same e4⟩ nrl0 row2
        clear hrl5 row2 row1 hrl ht2 hr2
        generalize upd H5 rl (.lst ([t1].map V.ref ++ [.ref t2])) = H6 at *
        refine y_cut (fun (ts' : List Addr) σ' H' => σ' = [some (.ref b), some (.int L), some (.ref g), some (.str (nmF nm i)), some wv, some (.ref ol), some ov, some nv, some (.ref nq), some dv, some (.int (k : Nat)), some lv, some (.ref rl), u13, u14, u15] ∧ Rows F rl Hl H' ts' ∧ ts'.length ≤ 4) (fun ts' σ' H7 hP => ?_) (fun tail2 => ?_)
        · obtain ⟨rfl, R7, hl4⟩ := hP
          have hrl7 := R7.l
          walk_at "ys"
          refine for_it (walk_list (xs := ts'.map V.ref)) (fun j σ H' => ∃ u13 u14 u15 : Option V, σ = [some (.ref b), some (.int L), some (.ref g), some (.str (nmF nm i)), some wv, some (.ref ol), some ov, some nv, some (.ref nq), some dv, some (.int (k : Nat)), some lv, some (.ref rl), u13, u14, u15] ∧ Rows F rl Hl H' ts') ⟨u13, u14, u15, rfl, R7⟩ (fun j σ H' _ h => ?_) (fun j x σ H8 H9 hj hP hY => ?_) (fun σ H8 hP => ?_)
          · obtain ⟨_, _, _, _, R⟩ := h
            exact SqL.of R.l
          · obtain ⟨v13, v14, v15, rfl, R8⟩ := hP
            obtain ⟨rfl, hx⟩ := hY
            rw [List.length_map] at hj
            rw [List.getElem?_map, List.getElem?_eq_getElem hj] at hx
            obtain rfl := Option.some.inj hx
            obtain ⟨r, wd, val, htt, hrr, hne, hwd, hal⟩ := R8.r _ (List.getElem_mem hj)
            walk_at "ys"
            refine ⟨sz_line (by simp), fun lw nlw => ?_⟩
            have g9 : Same H9 (upd H9 lw (.lst [.str wd, val])) := same_new0 nlw
            have hlw : upd H9 lw (.lst [.str wd, val]) lw = some (.lst [.str wd, val]) := upd_same
            have R9 := R8.same g9
            have hrr9 := g9 _ _ hrr
            generalize upd H9 lw (.lst [.str wd, val]) = H10 at *
            walk_at "ys"
            refine ⟨.ref r, .ref lw, rfl, .lst hrr9 hlw rfl (by show 2 ≤ 1000; decide) (fun q u v hu hv => ?_), fun H11 e11 => ?_⟩
            · match q, hu, hv with
              | 0, hu, hv =>
                obtain rfl := Option.some.inj hu
                obtain rfl := Option.some.inj hv
                exact .sc (.str hwd)
              | 1, hu, hv =>
                obtain rfl := Option.some.inj hu
                obtain rfl := Option.some.inj hv
                exact hal.same (cl.trans R9.e)
            · walk_at "ys"
              exact ⟨_, _, _, rfl, R9.same e11⟩
          · obtain ⟨v13, v14, v15, rfl, R8⟩ := hP
            walk_at "ys"
            exact ⟨_, _, _, _, _, _, rfl, el.snoc R8.e, Xl.same R8.e⟩
        · walk_at "ys"
          refine y_d2 (fun h1 => ?_) (fun h1 => ?_)
          · have hk4 : k < 4 := by omega
            have e6 := rows2.e
            have hrl6 := rows2.l
            walk_at "ys"
            refine ⟨k, .int L, .ref g, nv, lv, "guest", nv, rfl, by omega, .guest hk4 ⟨rfl, rfl, G'.same e6, O, h4, h60⟩ (nk'.same e6) nn, fun r3 H7 e7 nr3 hr3 => ?_⟩
            walk_at "ys"
            refine ⟨sz_line (by simp), fun t3 nt3 => ?_⟩
            have g1 : Same H7 (upd H7 t3 (.tup [.ref r3, .str "guest", nv])) := same_new0 nt3
            have ht3 : upd H7 t3 (.tup [.ref r3, .str "guest", nv]) t3 = some (.tup [.ref r3, .str "guest", nv]) := upd_same
            have hr3 := g1 _ _ hr3
            have e7 := e7.trans g1
            clear g1
            generalize upd H7 t3 (.tup [.ref r3, .str "guest", nv]) = H8 at *
            have R8 := rows2.same e7
            have row3 : RowT F rl H8 t3 := ⟨r3, "guest", nv, ht3, hr3, ne_of_none' hrl6 nr3, by decide, na'⟩
            have hrl8 := R8.l
            walk_at "ys"
            refine y_append hrl8 (sz_lt (by simp)) ?_
            walk_at "ys"
            have R9 := R8.add nrl0 row3
            generalize upd H8 rl (.lst ([t1, t2].map V.ref ++ [.ref t3])) = H9 at *
            have hrl9 := R9.l
            have e9 := R9.e
            have Gd : Good H9 (.int L) (.ref g) L g o nm ts p c := ⟨rfl, rfl, G'.same e9, O, h4, h60⟩
            have c9 : Same F H9 := cl.trans e9
            rcases (by omega : k = 0 ∨ k = 1 ∨ 2 ≤ k) with h0 | h0 | h0
            · subst h0
              refine ⟨0, .int L, .ref g, .str (nmF nm i), lv, "number", lv, rfl, by omega, .late0 rfl Gd rfl hi ((lo.1 rfl).1.same c9) (lo.1 rfl).2, fun r4 Hx ex nr4 hr4 => ?_⟩
              walk_at "ys"
              refine ⟨sz_line (by simp), fun t4 nt4 => ?_⟩
              have g1 : Same Hx (upd Hx t4 (.tup [.ref r4, .str "number", lv])) := same_new0 nt4
              have ht4 : upd Hx t4 (.tup [.ref r4, .str "number", lv]) t4 = some (.tup [.ref r4, .str "number", lv]) := upd_same
              have hr4 := g1 _ _ hr4
              have ex := ex.trans g1
              clear g1
              generalize upd Hx t4 (.tup [.ref r4, .str "number", lv]) = Hz at *
              have Rz := R9.same ex
              have row4 : RowT F rl Hz t4 := ⟨r4, "number", lv, ht4, hr4, ne_of_none' hrl9 nr4, by decide, la⟩
              have hrlz := Rz.l
              walk_at "ys"
              refine y_append hrlz (sz_lt (by simp)) ?_
              exact tail2 _ _ _ ⟨rfl, Rz.add nrl0 row4, by simp⟩
            · subst h0
              refine ⟨1, .int L, .ref g, .str (nmF nm i), lv, "number", lv, rfl, by omega, .late1 rfl Gd rfl hi ((lo.2.1 rfl).1.same c9) (lo.2.1 rfl).2, fun r4 Hx ex nr4 hr4 => ?_⟩
              walk_at "ys"
              refine ⟨sz_line (by simp), fun t4 nt4 => ?_⟩
              have g1 : Same Hx (upd Hx t4 (.tup [.ref r4, .str "number", lv])) := same_new0 nt4
              have ht4 : upd Hx t4 (.tup [.ref r4, .str "number", lv]) t4 = some (.tup [.ref r4, .str "number", lv]) := upd_same
              have hr4 := g1 _ _ hr4
              have ex := ex.trans g1
              clear g1
              generalize upd Hx t4 (.tup [.ref r4, .str "number", lv]) = Hz at *
              have Rz := R9.same ex
              have row4 : RowT F rl Hz t4 := ⟨r4, "number", lv, ht4, hr4, ne_of_none' hrl9 nr4, by decide, la⟩
              have hrlz := Rz.l
              walk_at "ys"
              refine y_append hrlz (sz_lt (by simp)) ?_
              exact tail2 _ _ _ ⟨rfl, Rz.add nrl0 row4, by simp⟩
            · refine ⟨k, .int L, .ref g, .str (nmF nm i), lv, "needs", lv, rfl, by omega, .late2 h0 hk4 Gd rfl hi ((lo.2.2 h0).same c9), fun r4 Hx ex nr4 hr4 => ?_⟩
              walk_at "ys"
              refine y_dF (by omega) ?_
              walk_at "ys"
              refine ⟨sz_line (by simp), fun t4 nt4 => ?_⟩
              have g1 : Same Hx (upd Hx t4 (.tup [.ref r4, .str "needs", lv])) := same_new0 nt4
              have ht4 : upd Hx t4 (.tup [.ref r4, .str "needs", lv]) t4 = some (.tup [.ref r4, .str "needs", lv]) := upd_same
              have hr4 := g1 _ _ hr4
              have ex := ex.trans g1
              clear g1
              generalize upd Hx t4 (.tup [.ref r4, .str "needs", lv]) = Hz at *
              have Rz := R9.same ex
              have row4 : RowT F rl Hz t4 := ⟨r4, "needs", lv, ht4, hr4, ne_of_none' hrl9 nr4, by decide, la⟩
              have hrlz := Rz.l
              walk_at "ys"
              refine y_append hrlz (sz_lt (by simp)) ?_
              exact tail2 _ _ _ ⟨rfl, Rz.add nrl0 row4, by simp⟩
          · exact y_next (tail2 [t1, t2] _ _ ⟨rfl, rows2, by simp⟩)
      · have hq := cut_le _ _ (cut_but ek _ _ hnq)
        have h0 := cut_le _ _ (cut_but ek _ _ hn0)
        have h1 := cut_le _ _ (cut_but ek _ _ hn1)
        rcases (by omega : k = 0 ∨ k = 1 ∨ 2 ≤ k) with hz | hz | hz
        · subst hz
          walk_at "ys"
          refine ⟨b, 5, _, rfl, by decide, by decide, Xk, by omega, fun r5 Hl hr5 e5 X5 => ?_⟩
          have h0' := e5 _ _ n_n0 h0
          obtain ⟨lv, hlv, l1, l2, l3⟩ := at_of (fun v => Kd (cut b Hl) v ∧ isW v 1 L = false ∧ Al (cut b Hl) 5 v v) (xs := [.int 0, .int ((L : Int) + 1), .non, .bl true, .str "1"]) hr5 (fun v hv => by
            simp only [List.mem_cons, List.not_mem_nil, or_false] at hv
            rcases hv with rfl | rfl | rfl | rfl | rfl
            · exact ⟨.int _, isW_lo (by decide), .sc (.int _)⟩
            · exact ⟨.int _, isW_hi (by omega), .sc (.int _)⟩
            · exact ⟨.non, rfl, .sc .non⟩
            · exact ⟨.bl _, rfl, .sc (.bl _)⟩
            · exact ⟨.str _, rfl, .sc (.str (by decide))⟩)
          walk_at "ys"
          refine y_ixL h0' hlv ?_
          exact y_name (tail lv _ _ ⟨rfl, ek.trans e5, X5, ⟨fun z => ⟨l1, l2⟩, fun z => absurd z (by decide), fun z => absurd z (by decide)⟩, l3⟩)
        · subst hz
          walk_at "ys"
          refine ⟨b, 5, _, rfl, by decide, by decide, Xk, by omega, fun r5 Hl hr5 e5 X5 => ?_⟩
          have h0' := e5 _ _ n_n1 h1
          obtain ⟨lv, hlv, l1, l2, l3⟩ := at_of (fun v => Kd (cut b Hl) v ∧ isW v 0 400 = false ∧ Al (cut b Hl) 5 v v) (xs := [.int 401, .int (-1), .non, .bl true, .str "1"]) hr5 (fun v hv => by
            simp only [List.mem_cons, List.not_mem_nil, or_false] at hv
            rcases hv with rfl | rfl | rfl | rfl | rfl
            · exact ⟨.int _, rfl, .sc (.int _)⟩
            · exact ⟨.int _, rfl, .sc (.int _)⟩
            · exact ⟨.non, rfl, .sc .non⟩
            · exact ⟨.bl _, rfl, .sc (.bl _)⟩
            · exact ⟨.str _, rfl, .sc (.str (by decide))⟩)
          walk_at "ys"
          refine y_ixL h0' hlv ?_
          exact y_name (tail lv _ _ ⟨rfl, ek.trans e5, X5, ⟨fun z => absurd z (by decide), fun z => ⟨l1, l2⟩, fun z => absurd z (by decide)⟩, l3⟩)
        · walk_at "ys"
          refine y_dF (by omega) ?_
          have fk := cut_but ek
          exact y_var rfl (y_name (tail dv _ _ ⟨rfl, ek, Xk.mono (by omega), ⟨fun z => absurd z (by omega), fun z => absurd z (by omega), fun _ => do_.same fk⟩, da.same fk⟩))
    · obtain ⟨u10, u11, u12, u13, u14, u15, rfl, ek, Xk⟩ := hP
      have fk := cut_but ek
      have ck : Same (cut b Hk) Hk := cut_le
      have G' := (G33.same fk).same ck
      walk_at "ys"
      refine ⟨0, .int L, .ref g, .str (nmF nm i), .int L, "told", .non, rfl, by omega, .told rfl ⟨rfl, rfl, G', O, h4, h60⟩ rfl hi rfl (by omega) (Nat.le_refl _), fun r Hz ez nr hr => ?_⟩
      walk_at "ys"
      refine ⟨sz_line (by simp), fun el nel => ?_⟩
      have g9 : Same Hz (upd Hz el (.lst [.str "told", .non])) := same_new0 nel
      refine y_eqD (d := .list [.str "told", .none]) (e := .list [.str "told", .none]) (.lst (SqL.of (g9 _ _ hr)) (.cons (.str _) (.cons .non .nil))) (.lst (SqL.of upd_same) (.cons (.str _) (.cons .non .nil))) (by decide +kernel) (by decide +kernel) ?_
      rw [show PyData.eqv (.list [.str "told", .none]) (.list [.str "told", .none]) = true from by decide +kernel]
      exact q _ ((e33.trans ek).snoc (ez.trans g9)) ((Xk.same (ez.trans g9)).mono (by omega))
end
end K87
namespace K87
open PySem L2 Y

theorem same_of_but {b : Addr} {H H4 H' : Hp} (nb : H b = none) (e : Same H H4) (f : SameBut b H4 H') : Same H H' := fun a u h => f a u (ne_of_none h nb) (e a u h)
theorem sql_same {K : PySem.W.Frag} {H H' : Hp} {a : Addr} {xs : List V} (h : SqL K H a xs) (e : Same H H') : SqL K H' a xs :=
  h.elim (fun h => .inl (h.elim (fun h => .inl (e _ _ h)) fun ⟨o, h⟩ => .inr ⟨o, e _ _ h⟩)) fun h => .inr h
theorem sc_unmet {n L : Nat} {p c : Nat → Nat} {i : Nat} {ns : List (Nat × Nat)} : Sc (unmetV n L p c i ns) := by
  unfold unmetV
  cases shortL n L p c i ns with
  | nil => exact .non
  | cons a r => exact .int _
theorem sc_least {n L : Nat} {p c : Nat → Nat} {i : Nat} {ns : List (Nat × Nat)} : Sc (leastV n L p c i ns) := by
  unfold leastV
  cases (List.range (L + 1)).find? (okq n L p c i ns) with
  | none => exact .non
  | some k => exact .int _
theorem least_nil {n L : Nat} {p c : Nat → Nat} {i : Nat} (O : Deal.Ok n L p c) (hi : i < n) : leastV n L p c i [] = .int 0 := by
  have hs := sum_others (f := p) (x := 0) hi
  have hs2 := sum_others (f := p) (x := p i) hi
  have hs1 : set1 p i (p i) = p := funext fun j => by
    unfold set1
    by_cases z : j = i
    · rw [if_pos z, z]
    · rw [if_neg z]
  rw [hs1] at hs2
  have hO := O.sum
  have hf : (List.range (L + 1)).find? (okq n L p c i []) = some 0 := find_some (by omega) (by
    unfold okq
    rw [decide_eq_true (by omega)]
    rfl) (fun j hj => absurd hj (Nat.not_lt_zero _))
  unfold leastV
  rw [hf]
  rfl
section
variable {P : Program} {w : World} {K : PySem.W.Frag} {mg : Str → Option Value} {base : Heap}
def sp_law (K : PySem.W.Frag) : Sp := fun vs H Q _ => ∃ (s : Addr) (ns : List Int), vs = [.ref s] ∧ SqL K H s (ns.map V.int) ∧ ∀ H', Q (.bl true) H'
theorem ok_law {f : Addr} {fd : FuncData} (T : Txt K mg) {CGuestError CMissing CNoNumber CNoShare CNoGuest CNoNeeds : Addr} (W : Own K mg CGuestError CMissing CNoNumber CNoShare CNoGuest CNoNeeds) (F : Fun K "law" "law" s_law f fd) : FnOk P w K mg base CX0 10 f fd ["script"] (sp_law K) := by
  obtain ⟨f__law_box, fd__law_box, g__law_box, F__law_box⟩ := T.d__law_box
  have G__law_box := ok__law_box (P := P) (w := w) (base := base) T F__law_box
  have b__law_box := F__law_box.binds (ps := ["cell"]) fun _ _ _ _ _ _ us hl => match us, hl with | [_], _ => rfl
  obtain ⟨f__law_case, fd__law_case, g__law_case, F__law_case⟩ := T.d__law_case
  have G__law_case := ok__law_case (P := P) (w := w) (base := base) T F__law_case
  have b__law_case := F__law_case.binds (ps := ["box"]) fun _ _ _ _ _ _ us hl => match us, hl with | [_], _ => rfl
  obtain ⟨f__law_needs, fd__law_needs, g__law_needs, F__law_needs⟩ := T.d__law_needs
  have G__law_needs := ok__law_needs (P := P) (w := w) (base := base) T F__law_needs
  have b__law_needs := F__law_needs.binds (ps := ["box", "length", "guests", "name"]) fun _ _ _ _ _ _ us hl => match us, hl with | [_, _, _, _], _ => rfl
  obtain ⟨f__law_cell, fd__law_cell, g__law_cell, F__law_cell⟩ := T.d__law_cell
  have G__law_cell := ok__law_cell (P := P) (w := w) (base := base) T F__law_cell
  have b__law_cell := F__law_cell.binds (ps := ["script", "k"]) fun _ _ _ _ _ _ us hl => match us, hl with | [_, _], _ => rfl
  obtain ⟨f__law_take, fd__law_take, g__law_take, F__law_take⟩ := T.d__law_take
  have G__law_take := ok__law_take (P := P) (w := w) (base := base) T F__law_take
  have b__law_take := F__law_take.binds (ps := ["box", "many"]) fun _ _ _ _ _ _ us hl => match us, hl with | [_, _], _ => rfl
  obtain ⟨f_first_unmet, fd_first_unmet, g_first_unmet, F_first_unmet⟩ := T.d_first_unmet
  have G_first_unmet := ok_first_unmet (P := P) (w := w) (base := base) T W F_first_unmet
  have b_first_unmet := F_first_unmet.binds (ps := ["length", "guests", "name", "needs"]) fun _ _ _ _ _ _ us hl => match us, hl with | [_, _, _, _], _ => rfl
  obtain ⟨f_least_promise, fd_least_promise, g_least_promise, F_least_promise⟩ := T.d_least_promise
  have G_least_promise := ok_least_promise (P := P) (w := w) (base := base) T W F_least_promise
  have b_least_promise := F_least_promise.binds (ps := ["length", "guests", "name", "needs"]) fun _ _ _ _ _ _ us hl => match us, hl with | [_, _, _, _], _ => rfl
  obtain ⟨f__law_same, fd__law_same, g__law_same, F__law_same⟩ := T.d__law_same
  have G__law_same := ok__law_samemain (P := P) (w := w) (base := base) T F__law_same
  have b__law_same := F__law_same.binds (ps := ["told", "due"]) fun _ _ _ _ _ _ us hl => match us, hl with | [_, _], _ => rfl
  obtain ⟨f__law_refusals_right, fd__law_refusals_right, g__law_refusals_right, F__law_refusals_right⟩ := T.d__law_refusals_right
  have G__law_refusals_right := ok__law_refusals_right (P := P) (w := w) (base := base) T W F__law_refusals_right
  have b__law_refusals_right := F__law_refusals_right.binds (ps := ["box", "length", "guests", "name"]) fun _ _ _ _ _ _ us hl => match us, hl with | [_, _, _, _], _ => rfl
  obtain ⟨f__law_unmet, fd__law_unmet, g__law_unmet, F__law_unmet⟩ := T.d__law_unmet
  have G__law_unmet := ok__law_unmet (P := P) (w := w) (base := base) T F__law_unmet
  have b__law_unmet := F__law_unmet.binds (ps := ["length", "guests", "name", "needs"]) fun _ _ _ _ _ _ us hl => match us, hl with | [_, _, _, _], _ => rfl
  obtain ⟨f__law_least, fd__law_least, g__law_least, F__law_least⟩ := T.d__law_least
  have G__law_least := ok__law_least (P := P) (w := w) (base := base) T F__law_least
  have b__law_least := F__law_least.binds (ps := ["length", "guests", "name", "needs"]) fun _ _ _ _ _ _ us hl => match us, hl with | [_, _, _, _], _ => rfl
  have scp := sc_law
  refine F.ok sc_law (fun vs H Q E h => ?_) (fun cdv A outer s H vs Q E hr h => ?_)
  · first | (obtain ⟨rfl, _⟩ := h; rfl) | (obtain ⟨_, rfl, _⟩ := h; rfl) | (obtain ⟨_, _, rfl, _⟩ := h; rfl) | (obtain ⟨_, _, _, rfl, _⟩ := h; rfl) | (obtain ⟨_, _, _, _, rfl, _⟩ := h; rfl) | (obtain ⟨_, _, _, _, _, rfl, _⟩ := h; rfl) | (obtain ⟨_, _, _, _, _, _, rfl, _⟩ := h; rfl) | (obtain ⟨_, _, _, _, _, _, _, rfl, _⟩ := h; rfl) | (obtain ⟨_, _, _, _, _, _, _, _, rfl, _⟩ := h; rfl) | (obtain ⟨_, _, _, _, _, _, _, _, _, rfl, _⟩ := h; rfl) | (obtain ⟨_, _, _, _, _, _, _, _, _, _, rfl, _⟩ := h; rfl) | (obtain ⟨_, _, _, _, _, _, _, _, _, _, _, rfl, _⟩ := h; rfl) | (obtain ⟨_, _, _, _, _, _, _, _, _, _, _, _, rfl, _⟩ := h; rfl) | (obtain ⟨_, _, _, _, _, _, _, _, _, _, _, _, _, rfl, _⟩ := h; rfl) | (obtain ⟨_, _, _, _, _, _, _, _, _, _, _, _, _, _, rfl, _⟩ := h; rfl) | (obtain ⟨_, _, _, _, _, _, _, _, _, _, _, _, _, _, _, rfl, _⟩ := h; rfl) | (obtain ⟨_, _, _, _, _, _, _, _, _, _, _, _, _, _, _, _, rfl, _⟩ := h; rfl) | (obtain ⟨_, _, _, _, _, _, _, _, _, _, _, _, _, _, _, _, _, rfl, _⟩ := h; rfl) | (obtain ⟨_, _, _, _, _, _, _, _, _, _, _, _, _, _, _, _, _, _, rfl, _⟩ := h; rfl) | (obtain ⟨_, _, _, _, _, _, _, _, _, _, _, _, _, _, _, _, _, _, _, rfl, _⟩ := h; rfl) | (obtain ⟨_, _, _, _, _, _, _, _, _, _, _, _, _, _, _, _, _, _, _, _, rfl, _⟩ := h; rfl) | (obtain ⟨_, _, _, _, _, _, _, _, _, _, _, _, _, _, _, _, _, _, _, _, _, rfl, _⟩ := h; rfl) | (obtain ⟨_, _, _, _, _, _, _, _, _, _, _, _, _, _, _, _, _, _, _, _, _, _, rfl, _⟩ := h; rfl) | (obtain ⟨_, _, _, _, _, _, _, _, _, _, _, _, _, _, _, _, _, _, _, _, _, _, _, rfl, _⟩ := h; rfl) | (obtain ⟨_, _, _, _, _, _, _, _, _, _, _, _, _, _, _, _, _, _, _, _, _, _, _, _, rfl, _⟩ := h; rfl) | (obtain ⟨_, _, _, _, _, _, _, _, _, _, _, _, _, _, _, _, _, _, _, _, _, _, _, _, _, rfl, _⟩ := h; rfl) | (obtain ⟨_, _, _, _, _, _, _, _, _, _, _, _, _, _, _, _, _, _, _, _, _, _, _, _, _, _, rfl, _⟩ := h; rfl) | (obtain ⟨_, _, _, _, _, _, _, _, _, _, _, _, _, _, _, _, _, _, _, _, _, _, _, _, _, _, _, rfl, _⟩ := h; rfl)
  · obtain ⟨s0, is, rfl, hs, q⟩ := h
    have hu := hu_of hr
    have hv := hr.units
    refine ⟨_, (pss_cons (ps_for PassesOwn.never rfl (pi_range1 rfl T.n_range (pa_cons (pe_callB (call_max2Y rfl) (by rfl) T.n_max (by decide +kernel) (pa_cons pe_int (pa_cons (pe_callB (call_min2Y rfl) (by rfl) T.n_min (by decide +kernel) (pa_cons pe_int (pa_cons (pe_callB (call_lenK (K := K)) (by rfl) T.n_len (by decide +kernel) (pa_cons (pv 0) pa_nil)) pa_nil))) pa_nil))) pa_nil)) (pg_name (i := 1) scp.nd rfl (by first | exact Or.inl rfl | exact Or.inr rfl))
  (pss_cons (ps_set (i := 2) scp.nd rfl (by first | exact Or.inl rfl | exact Or.inr rfl) (pe_call (G__law_box.mono (by decide)) hr rfl g__law_box F__law_box.kp b__law_box .nil pass0 (pa_cons (pe_call (G__law_cell.mono (by decide)) hr rfl g__law_cell F__law_cell.kp b__law_cell .nil pass0 (pa_cons (pv 0) (pa_cons (pv 1) pa_nil))) pa_nil)))
  (pss_cons (ps_asg (pe_call (G__law_case.mono (by decide)) hr rfl g__law_case F__law_case.kp b__law_case .nil pass0 (pa_cons (pv 2) pa_nil)) (pg_tupK (K := K) (n := 2) rfl (pgs_cons (pg_name (i := 3) scp.nd rfl (by first | exact Or.inl rfl | exact Or.inr rfl)) (pgs_cons (pg_name (i := 4) scp.nd rfl (by first | exact Or.inl rfl | exact Or.inr rfl)) pgs_nil))))
  (pss_frz (pss_cons (ps_set (i := 5) scp.nd rfl (by first | exact Or.inl rfl | exact Or.inr rfl) (pe_ix (ix_anyK (K := K) hu) (pe_callTy (call_listK (K := K) rfl) (by rfl) T.n_list (by decide +kernel) (pa_cons (pv 4) pa_nil)) (pe_call (G__law_take.mono (by decide)) hr rfl g__law_take F__law_take.kp b__law_take .nil pass0 (pa_cons (pv 2) (pa_cons (pe_callB (call_lenK (K := K)) (by rfl) T.n_len (by decide +kernel) (pa_cons (pv 4) pa_nil)) pa_nil))) (fun _ _ => rfl)))
  (pss_cons (ps_set (i := 6) scp.nd rfl (by first | exact Or.inl rfl | exact Or.inr rfl) (pe_call (G__law_needs.mono (by decide)) hr rfl g__law_needs F__law_needs.kp b__law_needs .nil pass0 (pa_cons (pv 2) (pa_cons (pv 3) (pa_cons (pv 4) (pa_cons (pv 5) pa_nil))))))
  (pss_cons (ps_set (i := 7) scp.nd rfl (by first | exact Or.inl rfl | exact Or.inr rfl) (pe_ix (ix_anyK (K := K) hu) (pe_lst (pa_cons (pe_callTy (call_listK (K := K) rfl) (by rfl) T.n_list (by decide +kernel) (pa_cons (pv 6) pa_nil)) (pa_cons (pe_callTy (call_tupleK (K := K) rfl) (by rfl) T.n_tuple (by decide +kernel) (pa_cons (pv 6) pa_nil)) pa_nil))) (pe_call (G__law_take.mono (by decide)) hr rfl g__law_take F__law_take.kp b__law_take .nil pass0 (pa_cons (pv 2) (pa_cons pe_int pa_nil))) (fun _ _ => rfl)))
  (pss_cons (ps_set (i := 8) scp.nd rfl (by first | exact Or.inl rfl | exact Or.inr rfl) (pe_lst (pa_cons (pe_call (G_first_unmet.mono (by decide)) hr rfl g_first_unmet F_first_unmet.kp b_first_unmet .nil passL (pa_cons (pv 3) (pa_cons (pv 4) (pa_cons (pv 5) (pa_cons (pv 7) pa_nil))))) (pa_cons (pe_call (G_least_promise.mono (by decide)) hr rfl g_least_promise F_least_promise.kp b_least_promise .nil passL (pa_cons (pv 3) (pa_cons (pv 4) (pa_cons (pv 5) (pa_cons (pv 7) pa_nil))))) pa_nil))))
  (pss_cons (ps_if (pt_not (pt_val (pe_call (G__law_same.mono (by decide)) hr rfl g__law_same F__law_same.kp b__law_same .nil pass0 (pa_cons (pv 8) (pa_cons (pe_lst (pa_cons (pe_call (G__law_unmet.mono (by decide)) hr rfl g__law_unmet F__law_unmet.kp b__law_unmet .nil pass0 (pa_cons (pv 3) (pa_cons (pv 4) (pa_cons (pv 5) (pa_cons (pv 6) pa_nil))))) (pa_cons (pe_call (G__law_least.mono (by decide)) hr rfl g__law_least F__law_least.kp b__law_least .nil pass0 (pa_cons (pv 3) (pa_cons (pv 4) (pa_cons (pv 5) (pa_cons (pv 6) pa_nil))))) pa_nil))) pa_nil)))))
  (pss_one (ps_ret pe_bl))
  pss_nil)
  (pss_cons (ps_if (pt_not (pt_val (pe_call (G__law_same.mono (by decide)) hr rfl g__law_same F__law_same.kp b__law_same .nil pass0 (pa_cons (pe_call (G_least_promise.mono (by decide)) hr rfl g_least_promise F_least_promise.kp b_least_promise .nil passL (pa_cons (pv 3) (pa_cons (pv 4) (pa_cons (pv 5) (pa_cons (pe_lst pa_nil) pa_nil))))) (pa_cons pe_int pa_nil)))))
  (pss_one (ps_ret pe_bl))
  pss_nil)
  (pss_one (ps_if (pt_not (pt_val (pe_call (G__law_refusals_right.mono (by decide)) hr rfl g__law_refusals_right F__law_refusals_right.kp b__law_refusals_right .nil pass0 (pa_cons (pv 2) (pa_cons (pv 3) (pa_cons (pv 4) (pa_cons (pv 5) pa_nil)))))))
  (pss_one (ps_ret pe_bl))
  pss_nil))))))))))))
  (pss_one (ps_ret pe_bl))), ?_⟩
    walk_at "ys"
    refine y_lenLs hs ?_
    walk_at "ys"
    obtain ⟨n, hn, hn6⟩ : ∃ n : Nat, (if (if ((is.map V.int).length : Int) < 6 then ((is.map V.int).length : Int) else 6) > 3 then (if ((is.map V.int).length : Int) < 6 then ((is.map V.int).length : Int) else 6) else 3) = (n : Int) ∧ n ≤ 6 := ⟨max 3 (min (is.map V.int).length 6), by split <;> split <;> omega, by omega⟩
    rw [hn]
    refine y_gotr1 (by omega) (by omega) ?_
    refine for_it walk_range (fun i σ H' => ∃ (u1 u2 u3 u4 u5 u6 u7 u8 : Option V), σ = [some (.ref s0), u1, u2, u3, u4, u5, u6, u7, u8] ∧ SqL K H' s0 (is.map V.int))
      ⟨none, none, none, none, none, none, none, none, rfl, hs⟩ (fun _ _ _ _ _ => trivial) (fun i x σ H1 H2 hi hP hY => ?_) (fun σ H1 hP => ?_)
    · obtain ⟨u1, u2, u3, u4, u5, u6, u7, u8, rfl, s1⟩ := hP
      obtain ⟨rfl, rfl⟩ := hY
      have e0 : (fun i : Nat => V.int ((0 : Int) + (i : Nat))) i = V.int (i : Nat) := congrArg V.int (Int.zero_add _)
      rw [e0]
      walk_at "ys"
      refine ⟨s0, is, i, rfl, s1, by omega, fun z H3 e3 => ?_⟩
      walk_at "ys"
      refine ⟨z, rfl, fun b H4 nb e4 X4 => ?_⟩
      have nbH : H2 b = none := free_of e3 nb
      have e4 := e3.trans e4
      walk_at "ys"
      refine ⟨b, 0, rfl, X4, by omega, fun t gd L nm ts p c H5 e5 ngd X5 C => ?_⟩
      have htu := C.tu
      have hC := C.d
      have ngdb : gd ≠ b := X4.ne ngd
      walk_at "ys"
      refine y_frz hC True.intro (fun od => ?_)
      have e6 : SameBut b H4 (upd H5 gd (.frz od (.dK (kvOf nm ts)))) := e5.mut ngd
      have X6 : Box (upd H5 gd (.frz od (.dK (kvOf nm ts)))) b 100 := (X5.put ngdb).mono (by omega)
      have G6 : Gs (upd H5 gd (.frz od (.dK (kvOf nm ts)))) gd od nm ts p c := ⟨upd_same, C.len, fun i a h => by rw [upd_ne (ne_of (C.t i a h) hC (fun z => by cases z))]; exact C.t i a h, C.nd, fun z hz => six_ok z (C.ok z hz), C.few⟩
      have O := C.O
      have h4 := C.lo
      have h60 := C.hi
      have hpos := C.pos
      have hfew := C.few
      have h6 := C.ok
      generalize upd H5 gd (.frz od (.dK (kvOf nm ts))) = H6 at *
      clear C hC htu X5 e5
      have hd6 := G6.d
      walk_at "ys"
      refine y_listF hd6 (fun ln nln => ?_)
      rw [kvOf_keys G6.len]
      have f7 : Same H6 (upd H6 ln (.lst (nm.map V.str))) := same_new0 nln
      have hln : upd H6 ln (.lst (nm.map V.str)) ln = some (.lst (nm.map V.str)) := upd_same
      have hd7 := f7 _ _ hd6
      have X7 := X6.same f7
      have G7 := G6.same f7
      have nlb := X6.ne nln
      have e7 := e6.snoc f7
      generalize upd H6 ln (.lst (nm.map V.str)) = H7 at *
      walk_at "ys"
      rw [kvOf_len G7.len]
      refine ⟨b, nm.length, 100, rfl, by omega, by omega, X7, by omega, fun r H8 hr8 e8 X8 => ?_⟩
      have hln8 := e8 _ _ nlb hln
      have G8 := G7.but X7 e8
      have e8 := e7.trans e8
      have atr : atI (nm.map V.str) (r : Int) = some (.str (nmF nm r)) := L2.atI_nat (by rw [List.getElem?_map, nmF_at hr8]; rfl)
      walk_at "ys"
      refine y_ixL hln8 atr ?_
      walk_at "ys"
      refine ⟨L, b, gd, _, od, nm, ts, p, c, r, rfl, X8, by omega, G8, O, hr8, h4, h60, fun fl ns H9 e9 nfl X9 N hl6 => ?_⟩
      have nfb : fl ≠ b := X8.ne nfl
      have G9 := G8.but X8 e9
      have e9 := e8.trans e9
      obtain ⟨ps, hps, hpl, hpi⟩ := N.at_
      walk_at "ys"
      refine y_listL hps (fun l1 nl1 => ?_)
      have f10 : Same H9 (upd H9 l1 (.lst (ps.map V.ref))) := same_new0 nl1
      have hl1 : upd H9 l1 (.lst (ps.map V.ref)) l1 = some (.lst (ps.map V.ref)) := upd_same
      have X10 := X9.same f10
      have nl1b := X9.ne nl1
      have hps10 := f10 _ _ hps
      generalize upd H9 l1 (.lst (ps.map V.ref)) = H10 at *
      walk_at "ys"
      refine y_tupleL hps10 (fun l2 nl2 => ?_)
      have f11 : Same H10 (upd H10 l2 (.tup (ps.map V.ref))) := same_new0 nl2
      have hl2 : upd H10 l2 (.tup (ps.map V.ref)) l2 = some (.tup (ps.map V.ref)) := upd_same
      have X11 := X10.same f11
      have nl2b := X10.ne nl2
      have hl1 := f11 _ _ hl1
      generalize upd H10 l2 (.tup (ps.map V.ref)) = H11 at *
      walk_at "ys"
      refine ⟨sz_line (by simp), fun hl nhl => ?_⟩
      have f12 : Same H11 (upd H11 hl (.lst [.ref l1, .ref l2])) := same_new0 nhl
      have hhl : upd H11 hl (.lst [.ref l1, .ref l2]) hl = some (.lst [.ref l1, .ref l2]) := upd_same
      have X12 := X11.same f12
      have nhb := X11.ne nhl
      have hl1 := f12 _ _ hl1
      have hl2 := f12 _ _ hl2
      have f12 := (f10.trans f11).trans f12
      have G12 := G9.same f12
      have N12 := N.same f12
      have hpi12 := fun i p n h1 h2 => f12 _ _ (hpi i p n h1 h2)
      have e12 := e9.snoc f12
      generalize upd H11 hl (.lst [.ref l1, .ref l2]) = H12 at *
      walk_at "ys"
      refine ⟨b, 2, _, rfl, by decide, by decide, X12, by omega, fun r2 H13 hr2 e13 X13 => ?_⟩
      have G13 := G12.but X12 e13
      have N13 := N12.but X12 e13 nfb
      have hl1 := e13 _ _ nl1b hl1
      have hl2 := e13 _ _ nl2b hl2
      have hhl := e13 _ _ nhb hhl
      have hpi13 : ∀ (i : Nat) p n, ps[i]? = some p → ns[i]? = some n → H13 p = some (.tup [.int n.1, .int n.2]) := fun i p n h1 h2 => e13 _ _ (X12.neL (hpi12 i p n h1 h2) (fun xs z => by cases z)) (hpi12 i p n h1 h2)
      obtain ⟨hv', hat, Nh⟩ := at_of (fun v => Nds H13 v ns) (xs := [.ref l1, .ref l2]) hr2 (fun v hv => by
        simp only [List.mem_cons, List.not_mem_nil, or_false] at hv
        rcases hv with rfl | rfl
        · exact ⟨⟨l1, ps, rfl, .inl hl1, hpl, hpi13⟩, N.lim, N.few⟩
        · exact ⟨⟨l2, ps, rfl, .inr hl2, hpl, hpi13⟩, N.lim, N.few⟩)
      have e13 := e12.trans e13
      clear hpi12 hpi13 hl1 hl2 hln8 hps hps10 hpi G12 N12 X12 X11 X10 X9
      walk_at "ys"
      refine y_ixL hhl hat ?_
      have Gd : Good H13 (.int L) (.ref gd) L gd od nm ts p c := ⟨rfl, rfl, G13, O, h4, h60⟩
      walk_at "ys"
      refine ⟨.int L, .ref gd, .str (nmF nm r), hv', rfl, .inr ⟨L, gd, od, nm, ts, p, c, r, Gd, rfl, hr8, .inr ⟨ns, Nh, fun H14 f14 => ?_⟩⟩⟩
      walk_at "ys"
      refine ⟨.int L, .ref gd, .str (nmF nm r), hv', rfl, .inr ⟨L, gd, od, nm, ts, p, c, r, Gd.same f14, rfl, hr8, .inr ⟨ns, Nh.same f14, fun H15 f15 => ?_⟩⟩⟩
      have f15 := f14.trans f15
      walk_at "ys"
      refine ⟨sz_line (by simp), fun tl ntl => ?_⟩
      have f16 : Same H15 (upd H15 tl (.lst [unmetV nm.length L p c r ns, leastV nm.length L p c r ns])) := same_new0 ntl
      have htl : upd H15 tl (.lst [unmetV nm.length L p c r ns, leastV nm.length L p c r ns]) tl = some (.lst [unmetV nm.length L p c r ns, leastV nm.length L p c r ns]) := upd_same
      have f16 := f15.trans f16
      generalize upd H15 tl (.lst [unmetV nm.length L p c r ns, leastV nm.length L p c r ns]) = H16 at *
      walk_at "ys"
      refine ⟨L, gd, fl, od, nm, ts, p, c, r, ns, rfl, G13.same f16, O, hr8, h4, h60, N13.same f16, fun H17 f17 => ?_⟩
      have htl := f17 _ _ htl
      have f17 := f16.trans f17
      walk_at "ys"
      refine ⟨L, gd, fl, od, nm, ts, p, c, r, ns, rfl, G13.same f17, O, hr8, h4, h60, N13.same f17, fun H18 f18 => ?_⟩
      have htl := f18 _ _ htl
      have f18 := f17.trans f18
      walk_at "ys"
      refine ⟨sz_line (by simp), fun dl ndl => ?_⟩
      have f19 : Same H18 (upd H18 dl (.lst [unmetV nm.length L p c r ns, leastV nm.length L p c r ns])) := same_new0 ndl
      have hdl : upd H18 dl (.lst [unmetV nm.length L p c r ns, leastV nm.length L p c r ns]) dl = some (.lst [unmetV nm.length L p c r ns, leastV nm.length L p c r ns]) := upd_same
      have htl := f19 _ _ htl
      have f19 := f18.trans f19
      generalize upd H18 dl (.lst [unmetV nm.length L p c r ns, leastV nm.length L p c r ns]) = H19 at *
      refine ⟨.ref tl, .ref dl, rfl, .lst htl hdl rfl (by show 2 ≤ 1000; decide) (fun j u v hu hv => ?_), fun H20 f20 => ?_⟩
      · match j, hu, hv with
        | 0, hu, hv =>
          obtain rfl := Option.some.inj hu
          obtain rfl := Option.some.inj hv
          exact .sc sc_unmet
        | 1, hu, hv =>
          obtain rfl := Option.some.inj hu
          obtain rfl := Option.some.inj hv
          exact .sc sc_least
      have f20 := f19.trans f20
      walk_at "ys"
      refine ⟨sz_line (by simp), fun el nel => ?_⟩
      have f21 : Same H20 (upd H20 el (.lst [])) := same_new0 nel
      have hel : upd H20 el (.lst []) el = some (.lst []) := upd_same
      have f21 := f20.trans f21
      generalize upd H20 el (.lst []) = H21 at *
      refine ⟨.int L, .ref gd, .str (nmF nm r), .ref el, rfl, .inr ⟨L, gd, od, nm, ts, p, c, r, Gd.same f21, rfl, hr8, .inr ⟨[], ⟨⟨el, [], rfl, .inl hel, rfl, fun i p n h => by simp at h⟩, fun n hn => by simp at hn, by simp⟩, fun H22 f22 => ?_⟩⟩⟩
      have f22 := f21.trans f22
      rw [least_nil O hr8]
      walk_at "ys"
      refine ⟨.int 0, .int 0, rfl, .sc (.int _), fun H23 f23 => ?_⟩
      have f23 := f22.trans f23
      walk_at "ys"
      refine ⟨L, b, gd, _, od, nm, ts, p, c, r, rfl, X13.same f23, by omega, G13.same f23, O, hr8, h4, h60, h6, fun H24 e24 X24 => ?_⟩
      walk_at "ys"
      exact ⟨_, _, _, _, _, _, _, _, rfl, sql_same s1 (same_of_but nbH e4 ((e13.snoc f23).trans e24))⟩
    · obtain ⟨u1, u2, u3, u4, u5, u6, u7, u8, rfl, s1⟩ := hP
      walk_at "ys"
      exact q _
end
end K87
namespace K87
open PySem L2 Y LamX
theorem int_mk {K : PySem.W.Frag} {h : Heap} {mg : Str → Option Value} (X : K.In h) (G : h.Ns mainGlobals mg) {x : Str} {n : Int} {t : Tok} (a : PySem.W.nsIn K mainGlobals x = some (some (Value.int n t))) : ∃ t, mg x = some (Value.int n t) := ⟨t, PySem.W.mg_of X G a⟩
theorem str_mk {K : PySem.W.Frag} {h : Heap} {mg : Str → Option Value} (X : K.In h) (G : h.Ns mainGlobals mg) {x : Str} {z : Str} {t : Tok} (a : PySem.W.nsIn K mainGlobals x = some (some (Value.str z t))) : ∃ t, mg x = some (Value.str z t) := ⟨t, PySem.W.mg_of X G a⟩
theorem oexg_mk {K : PySem.W.Frag} {C N : Addr} {nm q : Str} {bs bm : List Value} {sn : List Str} {sub : List Value} {ab : Bool} {col : Option Bool} {dd : Option Addr} {k0 k1 k2 k3 k5 : Option Value} {nw : String} {tl : List Value}
    (cl : K.lookup C = some (excClassObj nm q C N bs bm true sn sub ab col dd k0 k1 k2 k3 k5 nw)) (rt : Refs tl bm) (sa : PySem.W.findIn K (.ref C) "__setattr__" = some (some (.builtin "object.__setattr__")))
    (eb : PySem.W.subIn K (.ref C) (.type "BaseException") = some true) (et : PySem.W.typeIn K (.ref C) = some (.type "type")) (ek : PySem.W.keepIn K (.ref C) = true) : OexG K C nw tl :=
  ⟨⟨nm, q, N, bs, bm, sn, sub, ab, col, dd, k0, k1, k2, k3, k5, cl, rt⟩, sa, eb, et, ek⟩
theorem xinit_mk {K : PySem.W.Frag} {C : Addr} {x qual : Str} {st : Stmt} {f : Addr} {oc : Value} {od an : Option Addr} {osl : Array (Option Value)} {kV doc pm cdv ct : Value}
    (a : PySem.W.findIn K (.ref C) "__init__" = some (some (.ref f))) (t : PySem.W.typeIn K (.ref f) = some (.type "function")) (l : K.lookup f = some ⟨oc, od, .func (PySem.W.fnOf x qual (defArgs st) (defBody st) (defScope st) .none kV doc pm an cdv ct), osl⟩)
    (c : PySem.W.codeIn K cdv qual = true) (k : PySem.W.keepIn K (.ref f) = true) : ∃ f fd, Fun K x qual st f fd ∧ (PySem.W.findIn K (.ref C) "__init__" = some (some (.ref f)) ∧ PySem.W.typeIn K (.ref f) = some (.type "function")) := ⟨f, _, fun_mk l c k, a, t⟩
theorem law_at {l : PySem.W.OpenLaw} {w : World} {K : PySem.W.Frag} {h : Heap} {mg : Str → Option Value} {fa CGuestError CMissing CNoNumber CNoShare CNoGuest CNoNeeds : Addr} (X : K.In h) (G : h.Ns mainGlobals mg) (hfa : mg "law" = some (.ref fa)) (T : Txt K mg) (W : Own K mg CGuestError CMissing CNoNumber CNoShare CNoGuest CNoNeeds) : LawAtS l w K CX0 10 63 "script" mg fa h := by
  obtain ⟨f, fd, hm, F⟩ := T.d_law
  have e := hfa.symm.trans hm
  cases e
  have F' := F
  obtain ⟨⟨oc', od', kV', doc', pm', an', cdv', ct', osl', rfl, lk, hc⟩, hk⟩ := F'
  refine ⟨_, [], sp_law K, fun p hp => ?_, fun p hp => ?_, fun p hp => ?_, fun s u => .of_eq rfl, fun H a ns _ _ hT hS => ⟨a, ns, rfl, hS, fun _ => rfl⟩, fun base KI NB TB => ok_law T W F⟩
  · cases hp
  · cases hp
  · cases hp
end K87
end
open PySem PySem.W PyProof.Rows
set_option maxHeartbeats 0 in
theorem PySem.Challenge.cw_guestfleet_k87_needs_and_least_promises_holds : PySem.Challenge.rw_guestfleet_k87_needs_and_least_promises.Holds := by
  w_on; o_law; k_head; (case hw => w_witness2)
  k_fill
  refine LamX.walk_ofTs (l := PySem.Challenge.rw_guestfleet_k87_needs_and_least_promises) (n := 63) (k := 10) (x := "script") (CX := fun _ => L2.CX0) rfl (by decide) rfl ⟨rfl, by decide, by decide⟩ (fun w h Y => PySem.W.km_in_of Y) ?F (fun _ _ _ _ _ z => z)
  case F =>
    intro w mg fa h Y KX G hmg
    refine' K87.law_at KX G hmg { d_is_whole := K87.defAt_mk KX G ?a_is_whole ?l_is_whole ?c_is_whole ?k_is_whole, d_is_name := K87.defAt_mk KX G ?a_is_name ?l_is_name ?c_is_name ?k_is_name, d_need_length := K87.defAt_mk KX G ?a_need_length ?l_need_length ?c_need_length ?k_need_length, d_are_shares := K87.defAt_mk KX G ?a_are_shares ?l_are_shares ?c_are_shares ?k_are_shares, d_need_case := K87.defAt_mk KX G ?a_need_case ?l_need_case ?c_need_case ?k_need_case, d_ahead_by_promise := K87.defAt_mk KX G ?a_ahead_by_promise ?l_ahead_by_promise ?c_ahead_by_promise ?k_ahead_by_promise, d_ahead := K87.defAt_mk KX G ?a_ahead ?l_ahead ?c_ahead ?k_ahead, d_turn_of := K87.defAt_mk KX G ?a_turn_of ?l_turn_of ?c_turn_of ?k_turn_of, d_latest := K87.defAt_mk KX G ?a_latest ?l_latest ?c_latest ?k_latest, d_at_least_in := K87.defAt_mk KX G ?a_at_least_in ?l_at_least_in ?c_at_least_in ?k_at_least_in, d_at_least := K87.defAt_mk KX G ?a_at_least ?l_at_least ?c_at_least ?k_at_least, d_worst := K87.defAt_mk KX G ?a_worst ?l_worst ?c_worst ?k_worst, d_are_needs := K87.defAt_mk KX G ?a_are_needs ?l_are_needs ?c_are_needs ?k_are_needs, d_first_unmet := K87.defAt_mk KX G ?a_first_unmet ?l_first_unmet ?c_first_unmet ?k_first_unmet, d_with_promise := K87.defAt_mk KX G ?a_with_promise ?l_with_promise ?c_with_promise ?k_with_promise, d_least_promise := K87.defAt_mk KX G ?a_least_promise ?l_least_promise ?c_least_promise ?k_least_promise, d__law_cell := K87.defAt_mk KX G ?a__law_cell ?l__law_cell ?c__law_cell ?k__law_cell, d__law_box := K87.defAt_mk KX G ?a__law_box ?l__law_box ?c__law_box ?k__law_box, d__law_take := K87.defAt_mk KX G ?a__law_take ?l__law_take ?c__law_take ?k__law_take, d__law_same := K87.defAt_mk KX G ?a__law_same ?l__law_same ?c__law_same ?k__law_same, d__law_deal := K87.defAt_mk KX G ?a__law_deal ?l__law_deal ?c__law_deal ?k__law_deal, d__law_stretch := K87.defAt_mk KX G ?a__law_stretch ?l__law_stretch ?c__law_stretch ?k__law_stretch, d__law_case := K87.defAt_mk KX G ?a__law_case ?l__law_case ?c__law_case ?k__law_case, d__law_surely := K87.defAt_mk KX G ?a__law_surely ?l__law_surely ?c__law_surely ?k__law_surely, d__law_unmet := K87.defAt_mk KX G ?a__law_unmet ?l__law_unmet ?c__law_unmet ?k__law_unmet, d__law_least := K87.defAt_mk KX G ?a__law_least ?l__law_least ?c__law_least ?k__law_least, d__law_needs := K87.defAt_mk KX G ?a__law_needs ?l__law_needs ?c__law_needs ?k__law_needs, d__law_asked := K87.defAt_mk KX G ?a__law_asked ?l__law_asked ?c__law_asked ?k__law_asked, d__law_refusals_right := K87.defAt_mk KX G ?a__law_refusals_right ?l__law_refusals_right ?c__law_refusals_right ?k__law_refusals_right, d_law := K87.defAt_mk KX G ?a_law ?l_law ?c_law ?k_law, n_isinstance := PySem.W.mg_none_of KX G ?z_isinstance, n_int := PySem.W.mg_none_of KX G ?z_int, n_bool := PySem.W.mg_none_of KX G ?z_bool, n_all := PySem.W.mg_none_of KX G ?z_all, n_str := PySem.W.mg_none_of KX G ?z_str, n_len := PySem.W.mg_none_of KX G ?z_len, n_dict := PySem.W.mg_none_of KX G ?z_dict, n_tuple := PySem.W.mg_none_of KX G ?z_tuple, n_max := PySem.W.mg_none_of KX G ?z_max, n_min := PySem.W.mg_none_of KX G ?z_min, n_list := PySem.W.mg_none_of KX G ?z_list, n_range := PySem.W.mg_none_of KX G ?z_range, n_divmod := PySem.W.mg_none_of KX G ?z_divmod, n_enumerate := PySem.W.mg_none_of KX G ?z_enumerate, n_sum := PySem.W.mg_none_of KX G ?z_sum, n_abs := PySem.W.mg_none_of KX G ?z_abs, c_LONGEST_NAME := K87.int_mk KX G ?t_LONGEST_NAME, c_LETTERS := K87.str_mk KX G ?t_LETTERS, c_LEAST_LENGTH := K87.int_mk KX G ?t_LEAST_LENGTH, c_MOST_LENGTH := K87.int_mk KX G ?t_MOST_LENGTH, c_MOST_GUESTS := K87.int_mk KX G ?t_MOST_GUESTS, c_MOST_TURNS := K87.int_mk KX G ?t_MOST_TURNS, c_MOST_NEEDS := K87.int_mk KX G ?t_MOST_NEEDS } { o_GuestError := _root_.Y.OBase.mk ?rd_GuestError ?gx_GuestError ?ini_GuestError, g_GuestError := PySem.W.mg_of KX G ?ng_GuestError, o_Missing := _root_.Y.OBase.mk ?rd_Missing ?gx_Missing ?ini_Missing, g_Missing := PySem.W.mg_of KX G ?ng_Missing, e_NoNumber := K87.oexg_mk ?cl_NoNumber ?rt_NoNumber ?sa_NoNumber ?eb_NoNumber ?et_NoNumber ?ek_NoNumber, g_NoNumber := PySem.W.mg_of KX G ?ng_NoNumber, f_NoNumber := L2.xfB_ok ?xf_NoNumber, n_NoNumber_found := ?na_NoNumber_found, e_NoShare := K87.oexg_mk ?cl_NoShare ?rt_NoShare ?sa_NoShare ?eb_NoShare ?et_NoShare ?ek_NoShare, g_NoShare := PySem.W.mg_of KX G ?ng_NoShare, f_NoShare := L2.xfB_ok ?xf_NoShare, n_NoShare_found := ?na_NoShare_found, e_NoGuest := K87.oexg_mk ?cl_NoGuest ?rt_NoGuest ?sa_NoGuest ?eb_NoGuest ?et_NoGuest ?ek_NoGuest, g_NoGuest := PySem.W.mg_of KX G ?ng_NoGuest, f_NoGuest := L2.xfB_ok ?xf_NoGuest, n_NoGuest_found := ?na_NoGuest_found, e_NoNeeds := K87.oexg_mk ?cl_NoNeeds ?rt_NoNeeds ?sa_NoNeeds ?eb_NoNeeds ?et_NoNeeds ?ek_NoNeeds, g_NoNeeds := PySem.W.mg_of KX G ?ng_NoNeeds, f_NoNeeds := L2.xfB_ok ?xf_NoNeeds, n_NoNeeds_found := ?na_NoNeeds_found, x_NoNumber_NoNumber := ?xm_NoNumber_NoNumber, x_NoShare_NoNumber := ?xm_NoShare_NoNumber, x_NoShare_NoShare := ?xm_NoShare_NoShare, x_NoGuest_NoNumber := ?xm_NoGuest_NoNumber, x_NoGuest_NoShare := ?xm_NoGuest_NoShare, x_NoGuest_NoGuest := ?xm_NoGuest_NoGuest, x_NoNeeds_NoNumber := ?xm_NoNeeds_NoNumber, x_NoNeeds_NoShare := ?xm_NoNeeds_NoShare, x_NoNeeds_NoGuest := ?xm_NoNeeds_NoGuest, x_NoNeeds_NoNeeds := ?xm_NoNeeds_NoNeeds, m_NoNumber_init := K87.xinit_mk ?ma_NoNumber_init ?mt_NoNumber_init ?ml_NoNumber_init ?mc_NoNumber_init ?mk_NoNumber_init, m_NoShare_init := K87.xinit_mk ?ma_NoShare_init ?mt_NoShare_init ?ml_NoShare_init ?mc_NoShare_init ?mk_NoShare_init, m_NoGuest_init := K87.xinit_mk ?ma_NoGuest_init ?mt_NoGuest_init ?ml_NoGuest_init ?mc_NoGuest_init ?mk_NoGuest_init, m_NoNeeds_init := K87.xinit_mk ?ma_NoNeeds_init ?mt_NoNeeds_init ?ml_NoNeeds_init ?mc_NoNeeds_init ?mk_NoNeeds_init }
    (case a_is_whole => k_is)
    (case l_is_whole => k_is)
    (case c_is_whole => k_is)
    (case k_is_whole => k_is)
    (case a_is_name => k_is)
    (case l_is_name => k_is)
    (case c_is_name => k_is)
    (case k_is_name => k_is)
    (case a_need_length => k_is)
    (case l_need_length => k_is)
    (case c_need_length => k_is)
    (case k_need_length => k_is)
    (case a_are_shares => k_is)
    (case l_are_shares => k_is)
    (case c_are_shares => k_is)
    (case k_are_shares => k_is)
    (case a_need_case => k_is)
    (case l_need_case => k_is)
    (case c_need_case => k_is)
    (case k_need_case => k_is)
    (case a_ahead_by_promise => k_is)
    (case l_ahead_by_promise => k_is)
    (case c_ahead_by_promise => k_is)
    (case k_ahead_by_promise => k_is)
    (case a_ahead => k_is)
    (case l_ahead => k_is)
    (case c_ahead => k_is)
    (case k_ahead => k_is)
    (case a_turn_of => k_is)
    (case l_turn_of => k_is)
    (case c_turn_of => k_is)
    (case k_turn_of => k_is)
    (case a_latest => k_is)
    (case l_latest => k_is)
    (case c_latest => k_is)
    (case k_latest => k_is)
    (case a_at_least_in => k_is)
    (case l_at_least_in => k_is)
    (case c_at_least_in => k_is)
    (case k_at_least_in => k_is)
    (case a_at_least => k_is)
    (case l_at_least => k_is)
    (case c_at_least => k_is)
    (case k_at_least => k_is)
    (case a_worst => k_is)
    (case l_worst => k_is)
    (case c_worst => k_is)
    (case k_worst => k_is)
    (case a_are_needs => k_is)
    (case l_are_needs => k_is)
    (case c_are_needs => k_is)
    (case k_are_needs => k_is)
    (case a_first_unmet => k_is)
    (case l_first_unmet => k_is)
    (case c_first_unmet => k_is)
    (case k_first_unmet => k_is)
    (case a_with_promise => k_is)
    (case l_with_promise => k_is)
    (case c_with_promise => k_is)
    (case k_with_promise => k_is)
    (case a_least_promise => k_is)
    (case l_least_promise => k_is)
    (case c_least_promise => k_is)
    (case k_least_promise => k_is)
    (case a__law_cell => k_is)
    (case l__law_cell => k_is)
    (case c__law_cell => k_is)
    (case k__law_cell => k_is)
    (case a__law_box => k_is)
    (case l__law_box => k_is)
    (case c__law_box => k_is)
    (case k__law_box => k_is)
    (case a__law_take => k_is)
    (case l__law_take => k_is)
    (case c__law_take => k_is)
    (case k__law_take => k_is)
    (case a__law_same => k_is)
    (case l__law_same => k_is)
    (case c__law_same => k_is)
    (case k__law_same => k_is)
    (case a__law_deal => k_is)
    (case l__law_deal => k_is)
    (case c__law_deal => k_is)
    (case k__law_deal => k_is)
    (case a__law_stretch => k_is)
    (case l__law_stretch => k_is)
    (case c__law_stretch => k_is)
    (case k__law_stretch => k_is)
    (case a__law_case => k_is)
    (case l__law_case => k_is)
    (case c__law_case => k_is)
    (case k__law_case => k_is)
    (case a__law_surely => k_is)
    (case l__law_surely => k_is)
    (case c__law_surely => k_is)
    (case k__law_surely => k_is)
    (case a__law_unmet => k_is)
    (case l__law_unmet => k_is)
    (case c__law_unmet => k_is)
    (case k__law_unmet => k_is)
    (case a__law_least => k_is)
    (case l__law_least => k_is)
    (case c__law_least => k_is)
    (case k__law_least => k_is)
    (case a__law_needs => k_is)
    (case l__law_needs => k_is)
    (case c__law_needs => k_is)
    (case k__law_needs => k_is)
    (case a__law_asked => k_is)
    (case l__law_asked => k_is)
    (case c__law_asked => k_is)
    (case k__law_asked => k_is)
    (case a__law_refusals_right => k_is)
    (case l__law_refusals_right => k_is)
    (case c__law_refusals_right => k_is)
    (case k__law_refusals_right => k_is)
    (case a_law => k_is)
    (case l_law => k_is)
    (case c_law => k_is)
    (case k_law => k_is)
    (case z_isinstance => k_is)
    (case z_int => k_is)
    (case z_bool => k_is)
    (case z_all => k_is)
    (case z_str => k_is)
    (case z_len => k_is)
    (case z_dict => k_is)
    (case z_tuple => k_is)
    (case z_max => k_is)
    (case z_min => k_is)
    (case z_list => k_is)
    (case z_range => k_is)
    (case z_divmod => k_is)
    (case z_enumerate => k_is)
    (case z_sum => k_is)
    (case z_abs => k_is)
    (case t_LONGEST_NAME => k_is)
    (case t_LETTERS => k_is)
    (case t_LEAST_LENGTH => k_is)
    (case t_MOST_LENGTH => k_is)
    (case t_MOST_GUESTS => k_is)
    (case t_MOST_TURNS => k_is)
    (case t_MOST_NEEDS => k_is)
    (case ng_GuestError => first | k_is | kernel_rfl)
    (case ng_Missing => first | k_is | kernel_rfl)
    (case ng_NoNumber => first | k_is | kernel_rfl)
    (case ng_NoShare => first | k_is | kernel_rfl)
    (case ng_NoGuest => first | k_is | kernel_rfl)
    (case ng_NoNeeds => first | k_is | kernel_rfl)
    (case rd_GuestError => first | k_is | kernel_rfl)
    (case gx_GuestError => first | k_is | kernel_rfl)
    (case ini_GuestError => first | k_is | kernel_rfl)
    (case rd_Missing => first | k_is | kernel_rfl)
    (case gx_Missing => first | k_is | kernel_rfl)
    (case ini_Missing => first | k_is | kernel_rfl)
    (case cl_NoNumber => first | k_is | kernel_rfl)
    (case rt_NoNumber => exact .more .here)
    (case sa_NoNumber => first | k_is | kernel_rfl)
    (case eb_NoNumber => first | k_is | kernel_rfl)
    (case et_NoNumber => first | k_is | kernel_rfl)
    (case ek_NoNumber => first | k_is | kernel_rfl)
    (case xf_NoNumber => first | k_is | kernel_rfl)
    (case na_NoNumber_found => first | k_is | kernel_rfl)
    (case cl_NoShare => first | k_is | kernel_rfl)
    (case rt_NoShare => exact .more .here)
    (case sa_NoShare => first | k_is | kernel_rfl)
    (case eb_NoShare => first | k_is | kernel_rfl)
    (case et_NoShare => first | k_is | kernel_rfl)
    (case ek_NoShare => first | k_is | kernel_rfl)
    (case xf_NoShare => first | k_is | kernel_rfl)
    (case na_NoShare_found => first | k_is | kernel_rfl)
    (case cl_NoGuest => first | k_is | kernel_rfl)
    (case rt_NoGuest => exact .more .here)
    (case sa_NoGuest => first | k_is | kernel_rfl)
    (case eb_NoGuest => first | k_is | kernel_rfl)
    (case et_NoGuest => first | k_is | kernel_rfl)
    (case ek_NoGuest => first | k_is | kernel_rfl)
    (case xf_NoGuest => first | k_is | kernel_rfl)
    (case na_NoGuest_found => first | k_is | kernel_rfl)
    (case cl_NoNeeds => first | k_is | kernel_rfl)
    (case rt_NoNeeds => exact .more .here)
    (case sa_NoNeeds => first | k_is | kernel_rfl)
    (case eb_NoNeeds => first | k_is | kernel_rfl)
    (case et_NoNeeds => first | k_is | kernel_rfl)
    (case ek_NoNeeds => first | k_is | kernel_rfl)
    (case xf_NoNeeds => first | k_is | kernel_rfl)
    (case na_NoNeeds_found => first | k_is | kernel_rfl)
    (case xm_NoNumber_NoNumber => first | k_is | kernel_rfl)
    (case xm_NoShare_NoNumber => first | k_is | kernel_rfl)
    (case xm_NoShare_NoShare => first | k_is | kernel_rfl)
    (case xm_NoGuest_NoNumber => first | k_is | kernel_rfl)
    (case xm_NoGuest_NoShare => first | k_is | kernel_rfl)
    (case xm_NoGuest_NoGuest => first | k_is | kernel_rfl)
    (case xm_NoNeeds_NoNumber => first | k_is | kernel_rfl)
    (case xm_NoNeeds_NoShare => first | k_is | kernel_rfl)
    (case xm_NoNeeds_NoGuest => first | k_is | kernel_rfl)
    (case xm_NoNeeds_NoNeeds => first | k_is | kernel_rfl)
    (case ma_NoNumber_init => first | k_is | kernel_rfl)
    (case mt_NoNumber_init => first | k_is | kernel_rfl)
    (case ml_NoNumber_init => first | k_is | kernel_rfl)
    (case mc_NoNumber_init => first | k_is | kernel_rfl)
    (case mk_NoNumber_init => first | k_is | kernel_rfl)
    (case ma_NoShare_init => first | k_is | kernel_rfl)
    (case mt_NoShare_init => first | k_is | kernel_rfl)
    (case ml_NoShare_init => first | k_is | kernel_rfl)
    (case mc_NoShare_init => first | k_is | kernel_rfl)
    (case mk_NoShare_init => first | k_is | kernel_rfl)
    (case ma_NoGuest_init => first | k_is | kernel_rfl)
    (case mt_NoGuest_init => first | k_is | kernel_rfl)
    (case ml_NoGuest_init => first | k_is | kernel_rfl)
    (case mc_NoGuest_init => first | k_is | kernel_rfl)
    (case mk_NoGuest_init => first | k_is | kernel_rfl)
    (case ma_NoNeeds_init => first | k_is | kernel_rfl)
    (case mt_NoNeeds_init => first | k_is | kernel_rfl)
    (case ml_NoNeeds_init => first | k_is | kernel_rfl)
    (case mc_NoNeeds_init => first | k_is | kernel_rfl)
    (case mk_NoNeeds_init => first | k_is | kernel_rfl)
