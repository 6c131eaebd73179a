import PyProof.Rows.All
import Wide.All
import OpenK.AllK
import Wide.FinOn
import HandS.ForMost
import HandS.Wide
import HandS.IsInst
import HandS.More
import HandS.Conv
import HandS.SortInts
import HandS.SetKeys
import HandS.Walk
import HandS.Style
import HandS.Lambda
import HandS.SortKw
import KE.DataMinKey
import HandS.MakeKwOnly
import HandS.MakeKw
import HandS.Defaults
import HandS.Exc
import HandS.ExcOwn
import HandS.ExcInit
import HandS.WordsExc
import HandS.TryOnly
import HandS.TryMany
import HandS.CallSlots
import PySem.Challenge.RW_guestfleet_k61_whole_latest_turns_in_cha
import HandS.EndTab
import KE.KNestM
set_option Elab.async false
set_option maxRecDepth 100000
set_option maxHeartbeats 4000000
set_option linter.all false
/-! Y: steps over the hand layer: rules that choose by the values, and for each reading what to show (backward). -/
namespace Y
open PySem PySem.Spec PyProof.Rows L2

/-! ### rules that choose by the values -/
section
variable {X : Cx}
def rDGet : R2 := fun x y H Q => ∃ a v, x = .ref a ∧ DGet H a y (some v) ∧ Q v H
theorem ix_dget (hu : X.A.units + 1 < cLine) : IxR X rDGet := by
  intro value slice pins s σ H x y v u Q I rx ry h hs
  obtain ⟨a, z, rfl, g, q⟩ := h
  obtain rfl : v = Value.ref a := rx
  exact tail_any (dict_typeIs I g) PySem.F.slot_dict_getitem.lookup (d_getItem hu I g ry fun w' s3 I3 rw' => ⟨z, H, I3, rw', q⟩) hs
/-- xs[i], t[i], s[i], d[k] -/
def rSub (K : PySem.W.Frag) : R2 := fun x y H Q => rIx K x y H Q ∨ rDGet x y H Q
theorem ix_any (hu : X.A.units + 1 < cLine) : IxR X (rSub X.K) := ix_seq.or (ix_dget hu)
def rAdd2 : R2 := rI0 fun i j => .int (i + j)
def rSub2 : R2 := rI0 fun i j => .int (i - j)
def rMulI : R2 := rI CMulW fun i j => .int (i * j)
def rAddS : R2 := fun x y H Q => ∃ i j, x = .str i ∧ y = .str j ∧ i.length + j.length ≤ sizeLine ∧ Q (.str (i ++ j)) H
/-- + of ints, texts, lists -/
def rPlus : R2 := fun x y H Q => rAdd2 x y H Q ∨ rAddS x y H Q ∨ rCat x y H Q
theorem op_plus : OpR X (binaryOp .Add) rPlus := op_add.or (OpR.or op_add_str op_cat)
theorem op_minus : OpR X (binaryOp .Sub) rSub2 := op_sub
/-- * of ints, of a list and an int -/
def rTimes : R2 := fun x y H Q => rMulI x y H Q ∨ rRep x y H Q
theorem op_times : OpR X (binaryOp .Mult) rTimes := op_mulW.or op_rep
def rFdiv : R2 := rI CDivW fun i j => .int (i / j)
theorem op_fdivY : OpR X (binaryOp .FloorDiv) rFdiv := op_fdivW
def rMod : R2 := rI (fun _ j => 0 < j) fun i j => .int (i % j)
theorem op_modY : OpR X (binaryOp .Mod) rMod := op_mod
def rPow : R2 := rI CPow fun i j => .int (i ^ j.toNat)
theorem op_powY : OpR X (binaryOp .Pow) rPow := op_pow
/-- == of scalars, of data -/
def rEqA (K : PySem.W.Frag) : R2 := fun x y H Q => rEq x y H Q ∨ rEqD K x y H Q
theorem op_eqA (hu : X.A.units + 64 < cLine) : OpR X (compareOp .Eq) (rEqA X.K) := op_eq.or (op_eqD hu)
def rNeA (K : PySem.W.Frag) : R2 := fun x y H Q => rNe x y H Q ∨ rNeD K x y H Q
theorem op_neA (hu : X.A.units + 64 < cLine) : OpR X (compareOp .NotEq) (rNeA X.K) := op_ne.or (op_neD hu)
def rLtI : R2 := rI0 fun i j => .bl (decide (i < j))
def rLeI : R2 := rI0 fun i j => .bl (decide (i ≤ j))
def rGtI : R2 := rI0 fun i j => .bl (decide (j < i))
def rGeI : R2 := rI0 fun i j => .bl (decide (j ≤ i))
theorem op_ltI : OpR X (compareOp .Lt) rLtI := op_lt
theorem op_leI : OpR X (compareOp .LtE) rLeI := op_le
theorem op_gtI : OpR X (compareOp .Gt) rGtI := op_gt
theorem op_geI : OpR X (compareOp .GtE) rGeI := op_ge
def rIsNo : R2 := fun x y H Q => y = .non ∧ Q (.bl (decide (x = .non))) H
def rNotNo : R2 := fun x y H Q => y = .non ∧ Q (.bl (!decide (x = .non))) H
theorem op_isNo : OpR X (compareOp .Is) rIsNo := op_isN
theorem op_notNo : OpR X (compareOp .IsNot) rNotNo := op_notN
/-- in: a dict, a list or tuple of flat things, a sign in a text -/
def rDIn : R2 := fun x y H Q => ∃ a o, y = .ref a ∧ DGet H a x o ∧ Q (.bl o.isSome) H
def rDNotIn : R2 := fun x y H Q => ∃ a o, y = .ref a ∧ DGet H a x o ∧ Q (.bl (!o.isSome)) H
theorem op_din (hu : X.A.units + 1 < cLine) : OpR X (compareOp .In) rDIn := by
  intro pins s σ H x y v u Q I rx ry h
  obtain ⟨a, o, rfl, g, q⟩ := h
  obtain rfl : u = Value.ref a := ry
  exact d_in hu I g rx fun s3 I3 => ⟨.bl o.isSome, H, I3, rfl, q⟩
theorem op_dnotIn (hu : X.A.units + 1 < cLine) : OpR X (compareOp .NotIn) rDNotIn := by
  intro pins s σ H x y v u Q I rx ry h
  obtain ⟨a, o, rfl, g, q⟩ := h
  obtain rfl : u = Value.ref a := ry
  exact d_notIn hu I g rx fun s3 I3 => ⟨.bl (!o.isSome), H, I3, rfl, q⟩
def rSign : R2 := fun x y H Q => ∃ (c : Nat) (z : Str), x = .str ⟨#[c]⟩ ∧ y = .str z ∧ Q (.bl (decide (c ∈ z.cps.toList))) H
def rInA (K : PySem.W.Frag) : R2 := fun x y H Q => rDIn x y H Q ∨ rIn K false x y H Q ∨ rSign x y H Q
theorem op_inA (hu : X.A.units + 1 < cLine) : OpR X (compareOp .In) (rInA X.K) := (op_din hu).or (OpR.or op_in_seq op_in_sign)
def rNotInA (K : PySem.W.Frag) : R2 := fun x y H Q => rDNotIn x y H Q ∨ rIn K true x y H Q
theorem op_notInA (hu : X.A.units + 1 < cLine) : OpR X (compareOp .NotIn) (rNotInA X.K) := (op_dnotIn hu).or op_notIn_seq
def rNeg : V → Hp → VK → Prop := rU fun i => .int (-i)
theorem un_negY : UnR X (unaryOp .USub) rNeg := un_neg
/-! built-ins -/
def rLenD : List V → Hp → VK → Prop := fun xs H Q => ∃ a kvs, xs = [V.ref a] ∧ Rd H a (.dK kvs) ∧ Q (.int kvs.length) H
theorem call_lenR : CallR X (.builtin "len") rLenD := by
  intro pins s σ H xs us Q I r h
  obtain ⟨a, kvs, rfl, ha, q⟩ := h
  obtain ⟨u, rfl, ru⟩ := vals1 r
  cases ru
  exact d_len I ha fun t s' I' => ⟨.int kvs.length, H, I', ⟨t, rfl⟩, q⟩
def rLen1 (K : PySem.W.Frag) : List V → Hp → VK → Prop := fun xs H Q => ∃ x n, xs = [x] ∧ LenV K x H n ∧ Q (.int n) H
def rLen (K : PySem.W.Frag) : List V → Hp → VK → Prop := fun xs H Q => rLen1 K xs H Q ∨ rLenD xs H Q
theorem call_lenA : CallR X (.builtin "len") (rLen X.K) := CallR.or call_len call_lenR
def rAbs : List V → Hp → VK → Prop := fun xs H Q => ∃ i, xs = [.int i] ∧ Q (.int (if i < 0 then -i else i)) H
theorem call_absY : CallR X (.builtin "abs") rAbs := call_abs
def rMax2 : List V → Hp → VK → Prop := fun xs H Q => ∃ i j, xs = [.int i, .int j] ∧ Q (.int (if j > i then j else i)) H
theorem call_max2Y (hc : X.calm = true) : CallR X (.builtin "max") rMax2 := call_max2 hc
def rMin2 : List V → Hp → VK → Prop := fun xs H Q => ∃ i j, xs = [.int i, .int j] ∧ Q (.int (if j < i then j else i)) H
theorem call_min2Y (hc : X.calm = true) : CallR X (.builtin "min") rMin2 := call_min2 hc
def rInt : List V → Hp → VK → Prop := fun xs H Q => (∃ i, xs = [.int i] ∧ Q (.int i) H) ∨ ∃ k, xs = [.bl k] ∧ Q (.int (if k then 1 else 0)) H
def rListA (K : PySem.W.Frag) : List V → Hp → VK → Prop := fun xs H Q =>
  (∃ p ys, xs = [.ref p] ∧ (SqL K H p ys ∨ SqT K H p ys) ∧ ∀ l, H l = none → Q (.ref l) (upd H l (.lst ys))) ∨
  ∃ (a : Addr) (kvs : List (Key × V)), xs = [.ref a] ∧ Rd H a (.dK kvs) ∧ ∀ p, H p = none → Q (.ref p) (upd H p (.lst (kvs.map fun kv => kV kv.1)))
theorem call_listA (hc : X.calm = true) : CallR X (.type "list") (rListA X.K) := CallR.or call_list_of (call_listD hc)
def rDictA (K : PySem.W.Frag) : List V → Hp → VK → Prop := fun xs H Q =>
  (∃ (a : Addr) (ps : List Addr) (kvs : List (Key × V)), xs = [.ref a] ∧ SqL K H a (ps.map V.ref) ∧ Paired (fun p kv => SqT K H p [kV kv.1, kv.2]) ps kvs ∧ ∀ p, H p = none → Q (.ref p) (upd H p (.dK (mergeK [] kvs)))) ∨
  ∃ (a : Addr) (kvs : List (Key × V)), xs = [.ref a] ∧ Rd H a (.dK kvs) ∧ ∀ p, H p = none → Q (.ref p) (upd H p (.dK kvs))
theorem call_dictA (hc : X.calm = true) : CallR X (.type "dict") (rDictA X.K) := CallR.or (call_dictP hc) call_dictD
def rDivmod : List V → Hp → VK → Prop := fun xs H Q => ∃ i j, xs = [.int i, .int j] ∧ CDiv i j ∧ ∀ p, H p = none → Q (.ref p) (upd H p (.tup [.int (i / j), .int (i % j)]))
/-! walks -/
theorem pi_or {tg iter : Expr} {w1 w2 : TI} (h1 : PI X tg iter w1) (h2 : PI X tg iter w2) : PI X tg iter (fun σ H R => w1 σ H R ∨ w2 σ H R) :=
  ⟨fun pins s σ H R I h => h.elim (h1.run pins s σ H R I) (h2.run pins s σ H R I)⟩
/-- from here on the thing at d is only read -/
def tFrz (t : TS) : TS := fun D σ H => ∃ d u, H d = some u ∧ Mut (some u) ∧ ∀ od, t D σ (upd H d (.frz od u))
theorem pss_frz {sts : List Stmt} {t : TS} (h : PSs X sts t) : PSs X sts (tFrz t) := by
  refine ⟨fun pins s σ H D I hw => ?_⟩
  obtain ⟨d, u, hd, mu, hw⟩ := hw
  obtain ⟨od, I1⟩ := I.lock hd mu
  exact h.run pins s σ _ D I1 (hw od)
def tFrzE (t : TE) : TE := fun σ H Q => t σ H fun v H' => ∃ d u, v = .ref d ∧ H' d = some u ∧ Mut (some u) ∧ ∀ od, Q v (upd H' d (.frz od u))
theorem pe_frz {e : Expr} {t : TE} (h : PE X e t) : PE X e (tFrzE t) := by
  refine ⟨fun pins s σ H Q I hw => ?_⟩
  refine thn (h.run pins s σ H _ I hw) fun v s1 ⟨x, H1, I1, r, d, u, ex, hd, mu, q⟩ => ?_
  obtain ⟨od, I2⟩ := I1.lock hd mu
  exact ⟨x, _, I2, r, q od⟩
end
theorem call_intY {X : Cx} : CallR X (.type "int") rInt := call_int1
theorem call_divmodY {X : Cx} : CallR X (.builtin "divmod") rDivmod := call_divmod
def rSumA (K : PySem.W.Frag) : List V → Hp → VK → Prop := rSum K
theorem call_sumA {X : Cx} (hc : X.calm = true) : CallR X (.builtin "sum") (rSumA X.K) := cr_sum hc

/-! ### heaps -/
theorem up_new {H : Hp} {a p : Addr} {o u : HO} (n : H p = none) (h : H a = some o) : upd H p u a = some o := by
  rw [upd_ne (ne_of_none h n)]
  exact h
theorem up_ne {H : Hp} {a p : Addr} {u : HO} {r : Option HO} (n : a ≠ p) (h : H a = r) : upd H p u a = r := by
  rw [upd_ne n]
  exact h
theorem same_at {H H' : Hp} {a : Addr} {o : HO} (e : Same H H') (h : H a = some o) : H' a = some o := e a o h
theorem same_new {H H' : Hp} {p : Addr} {o : HO} (e : Same H H') (n : H' p = none) : Same H (upd H' p o) := fun a u h => up_new n (e a u h)
theorem same_new0 {H : Hp} {p : Addr} {o : HO} (n : H p = none) : Same H (upd H p o) := fun a u h => up_new n h
theorem same_mut {H H' : Hp} {p : Addr} {o : HO} (e : Same H H') (n : H p = none) : Same H (upd H' p o) := fun a u h => by
  rw [upd_ne (ne_of_none h n)]
  exact e a u h
theorem free_of {H H' : Hp} {p : Addr} (e : Same H H') (n : H' p = none) : H p = none := e.free n
theorem free_upd {H : Hp} {a p : Addr} {u : HO} (n : upd H a u p = none) : H p = none := by
  by_cases e : p = a
  · rw [e, upd_same] at n
    cases n
  · rw [upd_ne e] at n
    exact n
theorem upd_free {H : Hp} {a p : Addr} {u : HO} (n : p ≠ a) (h : H p = none) : upd H a u p = none := by
  rw [upd_ne n]
  exact h

/-! ### what to show -/
section
variable {K : PySem.W.Frag} {σ : L2.St} {H : Hp} {Q : VK} {QT : Bool → Hp → Prop} {ta tb tc te : TE} {t u : TT} {x y v : V}
theorem y_var {i : Nat} (h : σ[i]? = some (some v)) (q : Q v H) : tVar i σ H Q := ⟨v, h, q⟩
theorem y_c (q : Q v H) : tC v σ H Q := q
theorem y_op {r : R2} (q : ta σ H fun x H1 => tb σ H1 fun y H2 => r x y H2 Q) : tOp r ta tb σ H Q := q
theorem y_un {r : V → Hp → VK → Prop} (q : ta σ H fun x H1 => r x H1 Q) : tUn r ta σ H Q := q
theorem y_tt (q : te σ H fun x H' => ∃ k, x = .bl k ∧ QT k H') : tTest te σ H QT := q
theorem y_tB (q : te σ H fun x H' => ∃ k, x = .bl k ∧ QT k H') : tB te σ H QT := q
theorem y_bl {b : Bool} {R : Bool → Prop} (q : R b) : ∃ k, V.bl b = .bl k ∧ R k := ⟨b, rfl, q⟩
theorem y_and (q : t σ H fun c H1 => if c = true then u σ H1 QT else QT false H1) : tAnd t u σ H QT := q
theorem y_or (q : t σ H fun c H1 => if c = true then QT true H1 else u σ H1 QT) : tOr t u σ H QT := q
theorem y_not (q : t σ H fun c H1 => QT (!c) H1) : tNot t σ H QT := q
theorem y_andV (q : ta σ H fun x H1 => ∃ c, x = .bl c ∧ if c = true then tb σ H1 Q else Q (.bl false) H1) : tAndV ta tb σ H Q := q
theorem y_orV (q : ta σ H fun x H1 => ∃ c, x = .bl c ∧ if c = true then Q (.bl true) H1 else tb σ H1 Q) : tOrV ta tb σ H Q := q
theorem y_notV (q : ta σ H fun x H1 => ∃ c, x = .bl c ∧ Q (.bl (!c)) H1) : tNotV ta σ H Q := q
theorem y_if (q : t σ H fun c H1 => if c = true then ta σ H1 Q else tb σ H1 Q) : tIf t ta tb σ H Q := q
theorem y_chain {r r' : R2} (q : ta σ H fun x H1 => tb σ H1 fun y H2 => r x y H2 fun z H3 => ∃ k, z = .bl k ∧ if k = true then (tc σ H3 fun w H4 => r' y w H4 Q) else Q (.bl false) H3) : tChain r r' ta tb tc σ H Q := by
  first
    | exact q
    | (unfold tChain; exact q)
/-! statements -/
variable {nx : L2.St → Hp → Prop} {rt : VK} {bk ct : L2.St → Hp → Prop} {s s' : TS} {g : TG}
theorem y_seq (q : s ⟨s' ⟨nx, rt, bk, ct⟩, rt, bk, ct⟩ σ H) : tSeq s s' ⟨nx, rt, bk, ct⟩ σ H := q
theorem y_next (q : nx σ H) : tNext ⟨nx, rt, bk, ct⟩ σ H := q
theorem y_break (q : bk σ H) : tBreak ⟨nx, rt, bk, ct⟩ σ H := q
theorem y_cont (q : ct σ H) : tCont ⟨nx, rt, bk, ct⟩ σ H := q
theorem y_drop (q : te σ H fun _ H1 => nx σ H1) : tDrop te ⟨nx, rt, bk, ct⟩ σ H := q
theorem y_ret (q : te σ H rt) : tRet te ⟨nx, rt, bk, ct⟩ σ H := q
theorem y_retN (q : rt .non H) : tRetN ⟨nx, rt, bk, ct⟩ σ H := q
theorem y_ifS (q : t σ H fun b H1 => if b = true then s ⟨nx, rt, bk, ct⟩ σ H1 else s' ⟨nx, rt, bk, ct⟩ σ H1) : tIfS t s s' ⟨nx, rt, bk, ct⟩ σ H := q
theorem y_asg (q : te σ H fun x H1 => g x σ H1 nx) : tAsg te g ⟨nx, rt, bk, ct⟩ σ H := q
theorem y_name {i : Nat} {R : L2.St → Hp → Prop} (q : R (σ.set i (some v)) H) : gName i v σ H R := q
theorem y_par {i j : Nat} {ta : TA} (q : ta σ H fun vs H1 => ∃ v w, vs = [v, w] ∧ nx ((σ.set i (some v)).set j (some w)) H1) : tPar i j ta ⟨nx, rt, bk, ct⟩ σ H := q
theorem y_par2 {R : V → V → Prop} {a b : V} (q : R a b) : ∃ v w, [a, b] = [v, w] ∧ R v w := ⟨a, b, rfl, q⟩
theorem y_aug {i : Nat} {ti : TIp} (h : σ[i]? = some (some v)) (q : te σ H fun y H1 => ti v y H1 fun z H2 => nx (σ.set i (some z)) H2) : tAug i te ti ⟨nx, rt, bk, ct⟩ σ H := ⟨v, h, q⟩
theorem y_gtup {n : Nat} {ts : TGs} {R : L2.St → Hp → Prop} {a : Addr} {xs : List V} (h : H a = some (.tup xs)) (hl : xs.length = n) (q : ts xs σ H R) : gTup K n ts (.ref a) σ H R := ⟨a, xs, rfl, SqT.of h, hl, q⟩
theorem y_gcons {t : TG} {ts : TGs} {R : L2.St → Hp → Prop} {r : List V} (q : t v σ H fun σ' H' => ts r σ' H' R) : gCons t ts (v :: r) σ H R := ⟨v, r, rfl, q⟩
theorem y_gnil {R : L2.St → Hp → Prop} (q : R σ H) : gNil [] σ H R := ⟨rfl, q⟩
theorem y_gsub {to ti : TE} {ts : TSet} {R : L2.St → Hp → Prop} (q : to σ H fun o H1 => ti σ H1 fun i H2 => ts o i v H2 fun H3 => R σ H3) : gSub to ti ts v σ H R := q
/-! arguments, calls -/
variable {QA : List V → Hp → Prop} {tA : TA}
theorem y_anil (q : QA [] H) : tNil σ H QA := q
theorem y_acons (q : te σ H fun x H1 => tA σ H1 fun xs H2 => QA (x :: xs) H2) : tCons te tA σ H QA := q
theorem y_call {sp : Sp} {E : XK} (q : tA σ H fun vs H1 => sp (vs ++ []) H1 Q E) : tCall sp [] E tA σ H Q := q
theorem y_cb {r : List V → Hp → VK → Prop} (q : tA σ H fun vs H1 => r vs H1 Q) : tCB r tA σ H Q := q
theorem y_tup (q : tA σ H fun xs H1 => xs.length ≤ sizeLine ∧ ∀ p, H1 p = none → Q (.ref p) (upd H1 p (.tup xs))) : tTup tA σ H Q := q
theorem y_lst (q : tA σ H fun xs H1 => xs.length ≤ sizeLine ∧ ∀ p, H1 p = none → Q (.ref p) (upd H1 p (.lst xs))) : tLst tA σ H Q := q
theorem y_dnew (q : ∀ p, H p = none → Q (.ref p) (upd H p (.dK []))) : tDNewK σ H Q := q
theorem y_bm {T : String} {r : V → List V → Hp → VK → Prop} {to : TE} (q : to σ H fun x H1 => tyV K T x H1 ∧ tA σ H1 fun xs H2 => r x xs H2 Q) : tBM K T r to tA σ H Q := q
theorem y_bm0 {T : String} {r : V → List V → Hp → VK → Prop} {to : TE} (q : to σ H fun x H1 => tyV K T x H1 ∧ r x [] H1 Q) : tBM0 K T r to σ H Q := q
theorem y_tylst {a : Addr} {xs : List V} {R : Prop} (h : H a = some (.lst xs)) (q : R) : tyV K "list" (.ref a) H ∧ R := ⟨.inl ⟨rfl, _, SqL.of h⟩, q⟩
/-! slices -/
variable {QO : Option Int → Hp → Prop} {tl th : TO}
theorem y_sl {r : V → Option Int → Option Int → Hp → VK → Prop} (q : te σ H fun x H1 => tl σ H1 fun l H2 => th σ H2 fun u H3 => r x l u H3 Q) : tSl r te tl th σ H Q := q
theorem y_nopart (q : QO none H) : tNoPart σ H QO := q
theorem y_part (q : te σ H fun x H1 => ∃ i, x = .int i ∧ QO (some i) H1) : tPart te σ H QO := q
theorem y_int1 {i : Int} {R : Int → Prop} (q : R i) : ∃ j, V.int i = .int j ∧ R j := ⟨i, rfl, q⟩
/-! operators by values -/
variable {i j : Int} {a p : Addr} {xs ys : List V} {kvs : List (Key × V)} {o : Obj}
theorem y_addI (q : Q (.int (i + j)) H) : rPlus (.int i) (.int j) H Q := .inl ⟨i, j, rfl, rfl, q⟩
theorem y_addS {x y : Str} (h : x.length + y.length ≤ sizeLine) (q : Q (.str (x ++ y)) H) : rPlus (.str x) (.str y) H Q := .inr (.inl ⟨x, y, rfl, rfl, h, q⟩)
theorem y_addL {b : Addr} (h : H a = some (.lst xs)) (h' : H b = some (.lst ys)) (hl : xs.length + ys.length ≤ sizeLine) (q : ∀ p, H p = none → Q (.ref p) (upd H p (.lst (xs ++ ys)))) : rPlus (.ref a) (.ref b) H Q := .inr (.inr ⟨a, b, xs, ys, rfl, rfl, h, h', hl, q⟩)
theorem y_subI (q : Q (.int (i - j)) H) : rSub2 (.int i) (.int j) H Q := ⟨i, j, rfl, rfl, q⟩
theorem y_mulI (h : CMulW i j) (q : Q (.int (i * j)) H) : rTimes (.int i) (.int j) H Q := .inl ⟨i, j, rfl, rfl, h, q⟩
theorem y_fdiv (h : CDivW i j) (q : Q (.int (i / j)) H) : rFdiv (.int i) (.int j) H Q := ⟨i, j, rfl, rfl, h, q⟩
theorem y_mod (h : 0 < j) (q : Q (.int (i % j)) H) : rMod (.int i) (.int j) H Q := ⟨i, j, rfl, rfl, h, q⟩
theorem y_pow (h : CPow i j) (q : Q (.int (i ^ j.toNat)) H) : rPow (.int i) (.int j) H Q := ⟨i, j, rfl, rfl, h, q⟩
theorem y_neg (q : Q (.int (-i)) H) : rNeg (.int i) H Q := ⟨i, rfl, q⟩
theorem y_ltI (q : Q (.bl (decide (i < j))) H) : rLtI (.int i) (.int j) H Q := ⟨i, j, rfl, rfl, q⟩
theorem y_leI (q : Q (.bl (decide (i ≤ j))) H) : rLeI (.int i) (.int j) H Q := ⟨i, j, rfl, rfl, q⟩
theorem y_gtI (q : Q (.bl (decide (j < i))) H) : rGtI (.int i) (.int j) H Q := ⟨i, j, rfl, rfl, q⟩
theorem y_geI (q : Q (.bl (decide (j ≤ i))) H) : rGeI (.int i) (.int j) H Q := ⟨i, j, rfl, rfl, q⟩
theorem y_isNo (q : Q (.bl (decide (x = .non))) H) : rIsNo x .non H Q := ⟨rfl, q⟩
theorem y_notNo (q : Q (.bl (!decide (x = .non))) H) : rNotNo x .non H Q := ⟨rfl, q⟩
theorem y_eqS (h : scal x y = true) (q : Q (.bl (decide (x = y))) H) : rEqA K x y H Q := .inl ⟨h, q⟩
theorem y_neS (h : scal x y = true) (q : Q (.bl (!decide (x = y))) H) : rNeA K x y H Q := .inl ⟨h, q⟩
theorem y_eqD {d e : PyData} (h1 : Dp K H x d) (h2 : Dp K H y e) (h3 : SeqAt.shaped d = true) (h4 : SeqAt.shaped e = true) (q : Q (.bl (PyData.eqv d e)) H) : rEqA K x y H Q := .inr ⟨d, e, h1, h2, h3, h4, q⟩
theorem y_neD {d e : PyData} (h1 : Dp K H x d) (h2 : Dp K H y e) (h3 : SeqAt.shaped d = true) (h4 : SeqAt.shaped e = true) (q : Q (.bl (!PyData.eqv d e)) H) : rNeA K x y H Q := .inr ⟨d, e, h1, h2, h3, h4, q⟩
theorem dget_f {k : Key} {y : V} (e : H a = some (.frz o (.dK kvs))) (hy : y = kV k := by rfl) : DGet H a y (valV kvs k) := .inl ⟨kvs, k, .inr ⟨o, e⟩, hy, rfl⟩
theorem dget_k {k : Key} {y : V} (e : H a = some (.dK kvs)) (hy : y = kV k := by rfl) : DGet H a y (valV kvs k) := .inl ⟨kvs, k, .inl e, hy, rfl⟩
theorem y_ixL (h : H a = some (.lst xs)) (ha : atI xs i = some v) (q : Q v H) : rSub K (.ref a) (.int i) H Q := .inl (.inl ⟨a, xs, i, v, rfl, rfl, SqL.of h, ha, q⟩)
theorem y_ixLs (h : SqL K H a xs) (ha : atI xs i = some v) (q : Q v H) : rSub K (.ref a) (.int i) H Q := .inl (.inl ⟨a, xs, i, v, rfl, rfl, h, ha, q⟩)
theorem y_ixT (h : H a = some (.tup xs)) (ha : atI xs i = some v) (q : Q v H) : rSub K (.ref a) (.int i) H Q := .inl (.inr (.inl ⟨a, xs, i, v, rfl, rfl, SqT.of h, ha, q⟩))
theorem y_ixF {z : Str} (h : H a = some (.frz o (.dK kvs))) (ha : valV kvs (Sum.inr z) = some v) (q : Q v H) : rSub K (.ref a) (.str z) H Q := .inr ⟨a, v, rfl, by rw [← ha]; exact dget_f (k := Sum.inr z) h, q⟩
theorem y_ixK {z : Str} (h : H a = some (.dK kvs)) (ha : valV kvs (Sum.inr z) = some v) (q : Q v H) : rSub K (.ref a) (.str z) H Q := .inr ⟨a, v, rfl, by rw [← ha]; exact dget_k (k := Sum.inr z) h, q⟩
theorem y_inF {z : Str} (h : H a = some (.frz o (.dK kvs))) (q : Q (.bl (valV kvs (Sum.inr z)).isSome) H) : rInA K (.str z) (.ref a) H Q := .inl ⟨a, _, rfl, dget_f (k := Sum.inr z) h, q⟩
theorem y_inK {z : Str} (h : H a = some (.dK kvs)) (q : Q (.bl (valV kvs (Sum.inr z)).isSome) H) : rInA K (.str z) (.ref a) H Q := .inl ⟨a, _, rfl, dget_k (k := Sum.inr z) h, q⟩
theorem y_niF {z : Str} (h : H a = some (.frz o (.dK kvs))) (q : Q (.bl (!(valV kvs (Sum.inr z)).isSome)) H) : rNotInA K (.str z) (.ref a) H Q := .inl ⟨a, _, rfl, dget_f (k := Sum.inr z) h, q⟩
theorem y_niK {z : Str} (h : H a = some (.dK kvs)) (q : Q (.bl (!(valV kvs (Sum.inr z)).isSome)) H) : rNotInA K (.str z) (.ref a) H Q := .inl ⟨a, _, rfl, dget_k (k := Sum.inr z) h, q⟩
theorem y_inL (h : H a = some (.lst xs)) (hx : flatV x = true) (hf : xs.all flatV = true) (q : Q (.bl (inV x xs)) H) : rInA K x (.ref a) H Q := .inr (.inl ⟨a, xs, rfl, .inl (SqL.of h), hx, hf, q⟩)
theorem y_niL (h : H a = some (.lst xs)) (hx : flatV x = true) (hf : xs.all flatV = true) (q : Q (.bl (!inV x xs)) H) : rNotInA K x (.ref a) H Q := .inr ⟨a, xs, rfl, .inl (SqL.of h), hx, hf, q⟩
theorem y_sign {c : Nat} {z : Str} (q : Q (.bl (decide (c ∈ z.cps.toList))) H) : rInA K (.str ⟨#[c]⟩) (.str z) H Q := .inr (.inr ⟨c, z, rfl, rfl, q⟩)
/-! built-ins by values -/
theorem y_lenL (h : H a = some (.lst xs)) (q : Q (.int xs.length) H) : rLen K [.ref a] H Q := .inl ⟨_, _, rfl, .inl ⟨xs, SqL.of h, rfl⟩, q⟩
theorem y_lenLs (h : SqL K H a xs) (q : Q (.int xs.length) H) : rLen K [.ref a] H Q := .inl ⟨_, _, rfl, .inl ⟨xs, h, rfl⟩, q⟩
theorem y_lenT (h : H a = some (.tup xs)) (q : Q (.int xs.length) H) : rLen K [.ref a] H Q := .inl ⟨_, _, rfl, .inr ⟨xs, SqT.of h, rfl⟩, q⟩
theorem y_lenS {z : Str} (h : z.length ≤ sizeLine) (q : Q (.int z.length) H) : rLen K [.str z] H Q := .inl ⟨_, _, rfl, ⟨h, rfl⟩, q⟩
theorem y_lenF (h : H a = some (.frz o (.dK kvs))) (q : Q (.int kvs.length) H) : rLen K [.ref a] H Q := .inr ⟨a, kvs, rfl, .inr ⟨o, h⟩, q⟩
theorem y_lenK (h : H a = some (.dK kvs)) (q : Q (.int kvs.length) H) : rLen K [.ref a] H Q := .inr ⟨a, kvs, rfl, .inl h, q⟩
theorem y_abs (q : Q (.int (if i < 0 then -i else i)) H) : rAbs [.int i] H Q := ⟨i, rfl, q⟩
theorem y_max2 (q : Q (.int (if j > i then j else i)) H) : rMax2 [.int i, .int j] H Q := ⟨i, j, rfl, q⟩
theorem y_min2 (q : Q (.int (if j < i then j else i)) H) : rMin2 [.int i, .int j] H Q := ⟨i, j, rfl, q⟩
theorem y_intI (q : Q (.int i) H) : rInt [.int i] H Q := .inl ⟨i, rfl, q⟩
theorem y_intB {b : Bool} (q : Q (.int (if b then 1 else 0)) H) : rInt [.bl b] H Q := .inr ⟨b, rfl, q⟩
theorem y_listL (h : H a = some (.lst xs)) (q : ∀ l, H l = none → Q (.ref l) (upd H l (.lst xs))) : rListA K [.ref a] H Q := .inl ⟨a, xs, rfl, .inl (SqL.of h), q⟩
theorem y_listF (h : H a = some (.frz o (.dK kvs))) (q : ∀ l, H l = none → Q (.ref l) (upd H l (.lst (kvs.map fun kv => kV kv.1)))) : rListA K [.ref a] H Q := .inr ⟨a, kvs, rfl, .inr ⟨o, h⟩, q⟩
theorem y_listK (h : H a = some (.dK kvs)) (q : ∀ l, H l = none → Q (.ref l) (upd H l (.lst (kvs.map fun kv => kV kv.1)))) : rListA K [.ref a] H Q := .inr ⟨a, kvs, rfl, .inl h, q⟩
theorem y_dictP {ps : List Addr} {kvs : List (Key × V)} (h : H a = some (.lst (ps.map V.ref))) (hp : Paired (fun p kv => SqT K H p [kV kv.1, kv.2]) ps kvs) (q : ∀ p, H p = none → Q (.ref p) (upd H p (.dK (mergeK [] kvs)))) : rDictA K [.ref a] H Q := .inl ⟨a, ps, kvs, rfl, SqL.of h, hp, q⟩
theorem y_dictF (h : H a = some (.frz o (.dK kvs))) (q : ∀ p, H p = none → Q (.ref p) (upd H p (.dK kvs))) : rDictA K [.ref a] H Q := .inr ⟨a, kvs, rfl, .inr ⟨o, h⟩, q⟩
theorem y_dictK (h : H a = some (.dK kvs)) (q : ∀ p, H p = none → Q (.ref p) (upd H p (.dK kvs))) : rDictA K [.ref a] H Q := .inr ⟨a, kvs, rfl, .inl h, q⟩
theorem y_divmod (h : CDiv i j) (q : ∀ p, H p = none → Q (.ref p) (upd H p (.tup [.int (i / j), .int (i % j)]))) : rDivmod [.int i, .int j] H Q := ⟨i, j, rfl, h, q⟩
theorem y_sum {ns : List Int} (h : H a = some (.lst (ns.map V.int))) (q : Q (.int ns.sum) H) : rSumA K [.ref a] H Q := ⟨a, ns, rfl, SqL.of h, q⟩
theorem y_slL {lo hi : Option Int} (h : H a = some (.lst xs)) (q : ∀ p, H p = none → Q (.ref p) (upd H p (.lst (cutV xs lo hi)))) : rSlL K (.ref a) lo hi H Q := ⟨a, xs, rfl, SqL.of h, q⟩
theorem y_append (h : H a = some (.lst xs)) (hl : xs.length < sizeLine) (q : Q .non (upd H a (.lst (xs ++ [y])))) : rAppend (.ref a) [y] H Q := ⟨a, xs, y, rfl, rfl, h, hl, q⟩
theorem y_extend {b : Addr} (h : H a = some (.lst xs)) (h' : H b = some (.lst ys)) (hl : xs.length + ys.length ≤ sizeLine) (q : Q .non (upd H a (.lst (xs ++ ys)))) : rExtend (.ref a) [.ref b] H Q := ⟨a, b, xs, ys, rfl, rfl, h, h', hl, q⟩
theorem y_setL {k : Int} {j : Nat} {R : Hp → Prop} (h : H a = some (.lst xs)) (hj : ixN xs.length k = some j) (q : R (upd H a (.lst (xs.set j v)))) : rSetL (.ref a) (.int k) v H R := ⟨a, xs, k, j, rfl, rfl, h, hj, q⟩
/-! branches -/
theorem y_T {A B : Prop} (q : A) : if true = true then A else B := iteT q
theorem y_F {A B : Prop} (q : B) : if false = true then A else B := iteF q
theorem y_nT {A B : Prop} (q : B) : if (!true) = true then A else B := iteF q
theorem y_nF {A B : Prop} (q : A) : if (!false) = true then A else B := iteT q
theorem y_dT {P A B : Prop} [Decidable P] (h : P) (q : A) : if decide P = true then A else B := by
  rw [decide_eq_true h]
  exact iteT q
theorem y_dF {P A B : Prop} [Decidable P] (h : ¬ P) (q : B) : if decide P = true then A else B := by
  rw [decide_eq_false h]
  exact iteF q
theorem y_ndT {P A B : Prop} [Decidable P] (h : P) (q : B) : if (!decide P) = true then A else B := by
  rw [decide_eq_true h]
  exact iteF q
theorem y_ndF {P A B : Prop} [Decidable P] (h : ¬ P) (q : A) : if (!decide P) = true then A else B := by
  rw [decide_eq_false h]
  exact iteT q
theorem y_bT {b : Bool} {A B : Prop} (h : b = true) (q : A) : if b = true then A else B := by
  rw [h]
  exact iteT q
theorem y_bF {b : Bool} {A B : Prop} (h : b = false) (q : B) : if b = true then A else B := by
  rw [h]
  exact iteF q
theorem y_d2 {P A B : Prop} [Decidable P] (h1 : P → A) (h2 : ¬ P → B) : if decide P = true then A else B := by
  by_cases h : P
  · exact y_dT h (h1 h)
  · exact y_dF h (h2 h)
theorem y_b2 {b : Bool} {A B : Prop} (h1 : b = true → A) (h2 : b = false → B) : if b = true then A else B := by
  cases b with
  | true => exact iteT (h1 rfl)
  | false => exact iteF (h2 rfl)
end

/-! ### rules with K told from outside (within a comprehension's block too) -/
section
variable {X : Cx} {K : PySem.W.Frag}
theorem ix_anyK (hu : X.A.units + 1 < cLine) (hK : X.K = K := by rfl) : IxR X (rSub K) := by subst hK; exact ix_any hu
theorem op_eqK (hu : X.A.units + 64 < cLine) (hK : X.K = K := by rfl) : OpR X (compareOp .Eq) (rEqA K) := by subst hK; exact op_eqA hu
theorem op_neK (hu : X.A.units + 64 < cLine) (hK : X.K = K := by rfl) : OpR X (compareOp .NotEq) (rNeA K) := by subst hK; exact op_neA hu
theorem op_inK (hu : X.A.units + 1 < cLine) (hK : X.K = K := by rfl) : OpR X (compareOp .In) (rInA K) := by subst hK; exact op_inA hu
theorem op_notInK (hu : X.A.units + 1 < cLine) (hK : X.K = K := by rfl) : OpR X (compareOp .NotIn) (rNotInA K) := by subst hK; exact op_notInA hu
theorem call_lenK (hK : X.K = K := by rfl) : CallR X (.builtin "len") (rLen K) := by subst hK; exact call_lenA
theorem call_listK (hc : X.calm = true) (hK : X.K = K := by rfl) : CallR X (.type "list") (rListA K) := by subst hK; exact call_listA hc
theorem call_dictKK (hc : X.calm = true) (hK : X.K = K := by rfl) : CallR X (.type "dict") (rDictA K) := by subst hK; exact call_dictA hc
theorem call_sumK (hc : X.calm = true) (hK : X.K = K := by rfl) : CallR X (.builtin "sum") (rSumA K) := by subst hK; exact call_sumA hc
def rIsiY (K : PySem.W.Frag) : List V → Hp → VK → Prop := rIsi K
def rIsiTY (K : PySem.W.Frag) : List V → Hp → VK → Prop := rIsiT K
theorem call_isiY (hK : X.K = K := by rfl) : CallR X (.builtin "isinstance") (rIsiY K) := by subst hK; exact call_isi
theorem call_isiTY (hK : X.K = K := by rfl) : CallR X (.builtin "isinstance") (rIsiTY K) := by subst hK; exact call_isiT
def rAnyY (K : PySem.W.Frag) : List V → Hp → VK → Prop := rAny K
def rAllY (K : PySem.W.Frag) : List V → Hp → VK → Prop := rAll K
theorem call_anyY (hc : X.calm = true) (hK : X.K = K := by rfl) : CallR X (.builtin "any") (rAnyY K) := by subst hK; exact cr_any hc
theorem call_allY (hc : X.calm = true) (hK : X.K = K := by rfl) : CallR X (.builtin "all") (rAllY K) := by subst hK; exact cr_all hc
def rSortI (K : PySem.W.Frag) : List V → Hp → VK → Prop := fun vs H Q => ∃ (a : Addr) (ns : List Int), vs = [V.ref a] ∧ SqL K H a (ns.map V.int) ∧ ∀ (ns' : List Int) (p : Addr), List.Perm ns' ns → ns'.Pairwise (· ≤ ·) → H p = none → Q (.ref p) (upd H p (.lst (ns'.map V.int)))
theorem sl_listK (hK : X.K = K := by rfl) : SlR X (rSlL K) := by subst hK; exact sl_list
theorem pi_listK {tg l : Expr} {tl : TE} (hl : PE X l tl) (hK : X.K = K := by rfl) : PI X tg l (iList K tl) := by subst hK; exact pi_list hl
theorem pi_tupK {tg l : Expr} {tl : TE} (hl : PE X l tl) (hK : X.K = K := by rfl) : PI X tg l (iTup K tl) := by subst hK; exact pi_tup hl
theorem pi_enumK {e : Expr} {ta : TA} {p pos tpos : Pos} {elts : List Expr} {kk : Nat} (hg : Gl X "enumerate") (hm : X.mg "enumerate" = none) (ha : PA X [e] ta) (hs : starEach [e] X.env = [(false, eval e X.env)] := by rfl) (hK : X.K = K := by rfl) :
    PI X (.Tuple elts kk tpos) (.Call (.Name "enumerate" p) [e] [] pos) (iEnum K ta) := by subst hK; exact pi_enum hg hm ha hs
theorem pg_tupK {es : List Expr} {k : Nat} {pos : Pos} {t : TGs} {n : Nat} (hc : X.calm = true) (h : PGs X es t)
    (hn : (assignEach es X.env).length = n := by rfl) (hst : (assignEach es X.env).findIdx? (·.1) = none := by rfl) (hK : X.K = K := by rfl) : PG X (.Tuple es k pos) (gTup K n t) := by
  subst hK
  exact pg_tup hc h hn hst
theorem call_sortedY (hK : X.K = K := by rfl) : CallR X (.builtin "sorted") (rSortedI K) := by subst hK; exact cr_sortedI
theorem pe_bmK {T name id : _} {r : V → List V → Hp → VK → Prop} {o e : Expr} {es : List Expr} {to : TE} {t : TA} {apos cpos : Pos} (pa : PlainAttrs T) (slot : Slot T name id) (hty : typeOf (.builtin id) = pure (.type "method_descriptor")) (hm : MtR X id r) (ho : PE X o to) (ha : PA X (e :: es) t)
    (hbase : attributeBase o name X.env (eval o X.env) = eval o X.env := by rfl)
    (hfew : ((backTo cpos (starEach (e :: es) X.env)).all (fun x => !x.1) && (backToKw cpos (keywordEach [] X.env)).all (fun x => x.1.isSome)
      && decide ((e :: es).length + ([] : List Keyword).length + (if ([] : List Keyword).isEmpty then 0 else 1) < 30)) = true := by rfl) (hline : (apos.endLine == cpos.line) = true := by rfl) (hs : starEach (e :: es) X.env = (false, eval e X.env) :: starEach es X.env := by rfl) (hplain : (backTo cpos (starEach es X.env)).any (·.1) = false := by rfl) (hK : X.K = K := by rfl) : PE X (.Call (.Attribute o name apos) (e :: es) [] cpos) (tBM K T r to t) := by
  subst hK
  exact pe_bm pa slot hty hm ho ha hbase hfew hline hs hplain
theorem pe_gint {x : Str} {n : Int} {p : Pos} (h : ∃ t, X.mg x = some (Value.int n t)) (hg : Gl X x := by rfl) (hdb : (x == ("__debug__" : Str)) = false := by decide) : PE X (.Name x p) (tC (.int n)) := by
  obtain ⟨t, h⟩ := h
  exact pe_glob hg h ⟨t, rfl⟩ hdb
theorem pe_gstr {x : Str} {n : Str} {p : Pos} (h : ∃ t, X.mg x = some (Value.str n t)) (hg : Gl X x := by rfl) (hdb : (x == ("__debug__" : Str)) = false := by decide) : PE X (.Name x p) (tC (.str n)) := by
  obtain ⟨t, h⟩ := h
  exact pe_glob hg h ⟨t, rfl⟩ hdb
theorem pe_bty {x : Str} {T : String} {p : Pos} (hm : X.mg x = none) (hv : bootBuiltins x = some (.type T)) (hg : Gl X x := by rfl) (hn : x ≠ "__name__" := by decide) (hd : (x == ("__debug__" : Str)) = false := by decide) : PE X (.Name x p) (tC (.ty T)) := pe_bltn hg hm hv rfl hn hd
end
section
variable {K : PySem.W.Frag} {H : Hp} {Q : VK} {x : V}
theorem y_isi {T A : String} {b : Bool} (ht : TyX K H x (.type A)) (hk : kitB A T = some b) (q : Q (.bl b) H) : rIsiY K [x, .ty T] H Q := ⟨x, .ty T, .type A, .type T, b, rfl, .ty T, ht, kit_ty hk, q⟩
theorem y_isiT {S T A : String} {tp : Addr} {b c : Bool} (hT : H tp = some (.tup [.ty S, .ty T])) (ht : TyX K H x (.type A)) (hk : kitB A S = some b) (hk' : kitB A T = some c) (q : Q (.bl (b || c)) H) : rIsiTY K [x, .ref tp] H Q := by
  refine ⟨x, tp, [.ty S, .ty T], .type A, [.type S, .type T], b || c, rfl, hT, .cons (.ty S) (.cons (.ty T) .nil), ht, ?_, q⟩
  refine kitAny_cons (kit_ty hk) (fun e => ?_) (fun e => by rw [e]; rfl)
  rw [e, Bool.false_or]
  refine kitAny_cons (kit_ty hk') (fun e => ?_) (fun e => e)
  rw [e]
  rfl
theorem kt_NoneType_int : kitB "NoneType" "int" = some false := by decide +kernel
theorem kt_NoneType_bool : kitB "NoneType" "bool" = some false := by decide +kernel
theorem kt_NoneType_str : kitB "NoneType" "str" = some false := by decide +kernel
theorem kt_NoneType_list : kitB "NoneType" "list" = some false := by decide +kernel
theorem kt_NoneType_tuple : kitB "NoneType" "tuple" = some false := by decide +kernel
theorem kt_NoneType_dict : kitB "NoneType" "dict" = some false := by decide +kernel
theorem kt_bool_int : kitB "bool" "int" = some true := by decide +kernel
theorem kt_bool_bool : kitB "bool" "bool" = some true := by decide +kernel
theorem kt_bool_str : kitB "bool" "str" = some false := by decide +kernel
theorem kt_bool_list : kitB "bool" "list" = some false := by decide +kernel
theorem kt_bool_tuple : kitB "bool" "tuple" = some false := by decide +kernel
theorem kt_bool_dict : kitB "bool" "dict" = some false := by decide +kernel
theorem kt_int_int : kitB "int" "int" = some true := by decide +kernel
theorem kt_int_bool : kitB "int" "bool" = some false := by decide +kernel
theorem kt_int_str : kitB "int" "str" = some false := by decide +kernel
theorem kt_int_list : kitB "int" "list" = some false := by decide +kernel
theorem kt_int_tuple : kitB "int" "tuple" = some false := by decide +kernel
theorem kt_int_dict : kitB "int" "dict" = some false := by decide +kernel
theorem kt_str_int : kitB "str" "int" = some false := by decide +kernel
theorem kt_str_bool : kitB "str" "bool" = some false := by decide +kernel
theorem kt_str_str : kitB "str" "str" = some true := by decide +kernel
theorem kt_str_list : kitB "str" "list" = some false := by decide +kernel
theorem kt_str_tuple : kitB "str" "tuple" = some false := by decide +kernel
theorem kt_str_dict : kitB "str" "dict" = some false := by decide +kernel
theorem kt_list_int : kitB "list" "int" = some false := by decide +kernel
theorem kt_list_bool : kitB "list" "bool" = some false := by decide +kernel
theorem kt_list_str : kitB "list" "str" = some false := by decide +kernel
theorem kt_list_list : kitB "list" "list" = some true := by decide +kernel
theorem kt_list_tuple : kitB "list" "tuple" = some false := by decide +kernel
theorem kt_list_dict : kitB "list" "dict" = some false := by decide +kernel
theorem kt_tuple_int : kitB "tuple" "int" = some false := by decide +kernel
theorem kt_tuple_bool : kitB "tuple" "bool" = some false := by decide +kernel
theorem kt_tuple_str : kitB "tuple" "str" = some false := by decide +kernel
theorem kt_tuple_list : kitB "tuple" "list" = some false := by decide +kernel
theorem kt_tuple_tuple : kitB "tuple" "tuple" = some true := by decide +kernel
theorem kt_tuple_dict : kitB "tuple" "dict" = some false := by decide +kernel
theorem kt_dict_int : kitB "dict" "int" = some false := by decide +kernel
theorem kt_dict_bool : kitB "dict" "bool" = some false := by decide +kernel
theorem kt_dict_str : kitB "dict" "str" = some false := by decide +kernel
theorem kt_dict_list : kitB "dict" "list" = some false := by decide +kernel
theorem kt_dict_tuple : kitB "dict" "tuple" = some false := by decide +kernel
theorem kt_dict_dict : kitB "dict" "dict" = some true := by decide +kernel
theorem y_for {wi : TI} {g : TG} {tb : TS} {D : Ends} {σ : L2.St} (q : wi σ H fun J H1 => ∃ W : Nat → Nat → L2.St → Hp → Prop, (∃ m, W 0 m σ H1) ∧ ∀ i m σ H, W i m σ H →
    (J.stop i H ∧ D.nx σ H) ∨ (J.go i H ∧ ∃ N : L2.St → Hp → Prop, (∀ σ' H', N σ' H' → ∃ m', m' < m ∧ W (i + 1) m' σ' H') ∧ ∀ x H', J.yld i H x H' → g x σ H' fun σ2 H2 => tb { D with nx := N, ct := N, bk := D.nx } σ2 H2)) : tFor wi g tb D σ H := q
theorem y_lc {wi : TI} {g : TG} {tt : TT} {te : TE} {vs : List Nat} {σ : L2.St} (q : wi σ H fun J H1 => ∀ D, H1 D = none → ∃ W : Nat → Nat → Hp → Prop, (∃ m, W 0 m (upd H1 D (.lst []))) ∧ ∀ i m H, W i m H →
    (J.stop i H ∧ Q (.ref D) H) ∨ (J.go i H ∧ ∃ Nx : Hp → Prop, (∀ H', Nx H' → ∃ m', m' < m ∧ W (i + 1) m' H') ∧ ∀ x H', J.yld i H x H' → g x (wipe σ vs) H' fun σ2 H2 => wipe σ2 vs = wipe σ vs ∧ tt σ2 H2 fun b H3 =>
      if b = true then te σ2 H3 fun y H4 => ∃ acc, H4 D = some (.lst acc) ∧ acc.length < sizeLine ∧ Nx (upd H4 D (.lst (acc ++ [y]))) else Nx H3)) : tLc wi g tt te vs σ H Q := q
variable {σ : L2.St} {R : It → Hp → Prop} {tl : TE} {tA : TA} {a : Addr} {xs : List V} {o : Obj} {kvs : List (Key × V)}
theorem y_iL (q : tl σ H fun x H1 => ∃ a, x = .ref a ∧ (∃ xs, SqL K H1 a xs) ∧ R (Itl K a) H1) : iList K tl σ H R := q
theorem y_gotL {R : Addr → Prop} (h : H a = some (.lst xs)) (q : R a) : ∃ b, V.ref a = .ref b ∧ (∃ xs, SqL K H b xs) ∧ R b := ⟨a, rfl, ⟨xs, SqL.of h⟩, q⟩
theorem y_gotLs {R : Addr → Prop} (h : SqL K H a xs) (q : R a) : ∃ b, V.ref a = .ref b ∧ (∃ xs, SqL K H b xs) ∧ R b := ⟨a, rfl, ⟨xs, h⟩, q⟩
theorem y_iT (q : tl σ H fun x H1 => ∃ a, x = .ref a ∧ (∃ xs, SqT K H1 a xs) ∧ R (Itt K a) H1) : iTup K tl σ H R := q
theorem y_gotT {R : Addr → Prop} (h : H a = some (.tup xs)) (q : R a) : ∃ b, V.ref a = .ref b ∧ (∃ xs, SqT K H b xs) ∧ R b := ⟨a, rfl, ⟨xs, SqT.of h⟩, q⟩
theorem y_r1 (q : tA σ H fun vs H1 => ∃ j : Int, vs = [.int j] ∧ -(2 ^ 62) ≤ j ∧ j < 2 ^ 62 ∧ R (Itr 0 j.toNat) H1) : iRng1 tA σ H R := q
theorem y_gotr1 {R : Int → Prop} {j : Int} (h1 : -(2 ^ 62) ≤ j) (h2 : j < 2 ^ 62) (q : R j) : ∃ i : Int, [V.int j] = [.int i] ∧ -(2 ^ 62) ≤ i ∧ i < 2 ^ 62 ∧ R i := ⟨j, rfl, h1, h2, q⟩
theorem y_r2 (q : tA σ H fun vs H1 => ∃ i j : Int, vs = [.int i, .int j] ∧ (-(2 ^ 62) ≤ i ∧ i < 2 ^ 62 ∧ -(2 ^ 62) ≤ j ∧ j < 2 ^ 62) ∧ R (Itr i (j - i).toNat) H1) : iRng2 tA σ H R := q
theorem y_gotr2 {R : Int → Int → Prop} {i j : Int} (h : -(2 ^ 62) ≤ i ∧ i < 2 ^ 62 ∧ -(2 ^ 62) ≤ j ∧ j < 2 ^ 62) (q : R i j) : ∃ i' j' : Int, [V.int i, V.int j] = [.int i', .int j'] ∧ (-(2 ^ 62) ≤ i' ∧ i' < 2 ^ 62 ∧ -(2 ^ 62) ≤ j' ∧ j' < 2 ^ 62) ∧ R i' j' := ⟨i, j, rfl, h, q⟩
theorem y_iI (q : tl σ H fun x H1 => ∃ d o kvs, x = .ref d ∧ H1 d = some (.frz o (.dK kvs)) ∧ R (Iti d o kvs) H1) : iItems tl σ H R := q
theorem y_gotI {R : Addr → Obj → List (Key × V) → Prop} (h : H a = some (.frz o (.dK kvs))) (q : R a o kvs) : ∃ d o kvs, V.ref a = .ref d ∧ H d = some (.frz o (.dK kvs)) ∧ R d o kvs := ⟨a, o, kvs, rfl, h, q⟩
theorem y_iV (q : tl σ H fun x H1 => ∃ d o kvs, x = .ref d ∧ H1 d = some (.frz o (.dK kvs)) ∧ R (Itd d o kvs) H1) : iVals tl σ H R := q
theorem y_iK (q : tl σ H fun x H1 => ∃ d o, x = .ref d ∧ ((∃ kvs, H1 d = some (.frz o (.dK kvs)) ∧ R (Itk d o kvs) H1) ∨ ∃ kvs, H1 d = some (.frz o (.dT kvs)) ∧ R (Itkt d o kvs) H1)) : iKeys tl σ H R := q
theorem y_gotK {R : Addr → Obj → List (Key × V) → Prop} {R2 : Addr → Obj → List (List Key × V) → Prop} (h : H a = some (.frz o (.dK kvs))) (q : R a o kvs) : ∃ d o, V.ref a = .ref d ∧ ((∃ kvs, H d = some (.frz o (.dK kvs)) ∧ R d o kvs) ∨ ∃ kvs, H d = some (.frz o (.dT kvs)) ∧ R2 d o kvs) := ⟨a, o, rfl, .inl ⟨kvs, h, q⟩⟩
theorem y_iS (q : tl σ H fun v H1 => ∃ x, v = .str x ∧ R (Its x) H1) : iStr tl σ H R := q
theorem y_gotS {z : Str} {R : Str → Prop} (q : R z) : ∃ x, V.str z = .str x ∧ R x := ⟨z, rfl, q⟩
theorem y_iE (q : tA σ H fun vs H1 => ∃ a xs, vs = [.ref a] ∧ SqL K H1 a xs ∧ R (Ite K a) H1) : iEnum K tA σ H R := q
theorem y_gotE {R : Addr → Prop} (h : H a = some (.lst xs)) (q : R a) : ∃ b ys, [V.ref a] = [.ref b] ∧ SqL K H b ys ∧ R b := ⟨a, xs, rfl, SqL.of h, q⟩
theorem y_all {bs : List Bool} (h : H a = some (.lst (bs.map V.bl))) (q : Q (.bl (bs.all id)) H) : rAllY K [.ref a] H Q := ⟨a, bs, rfl, SqL.of h, q⟩
theorem y_any {bs : List Bool} (h : H a = some (.lst (bs.map V.bl))) (q : Q (.bl (bs.any id)) H) : rAnyY K [.ref a] H Q := ⟨a, bs, rfl, SqL.of h, q⟩
theorem y_sorted {ns : List Int} (h : H a = some (.lst (ns.map V.int))) (q : ∀ (ns' : List Int) (p : Addr), List.Perm ns' ns → ns'.Pairwise (· ≤ ·) → H p = none → Q (.ref p) (upd H p (.lst (ns'.map V.int)))) : rSortI K [.ref a] H Q := ⟨a, ns, rfl, SqL.of h, q⟩
theorem y_yes {QT : Bool → Hp → Prop} (q : QT true H) : tYes σ H QT := q
end


/-! ### comprehensions that change nothing that stood -/
theorem y_wipe {σ2 σ : L2.St} {vs : List Nat} {R : Prop} (h : wipe σ2 vs = wipe σ vs) (q : R) : wipe σ2 vs = wipe σ vs ∧ R := ⟨h, q⟩
theorem y_acc {H : Hp} {D : Addr} {acc : List V} {y : V} {Nx : Hp → Prop} (h : H D = some (.lst acc)) (hl : acc.length < sizeLine) (q : Nx (upd H D (.lst (acc ++ [y])))) : ∃ acc, H D = some (.lst acc) ∧ acc.length < sizeLine ∧ Nx (upd H D (.lst (acc ++ [y]))) := ⟨acc, h, hl, q⟩
theorem fm_succ {f : Nat → Option V} (i : Nat) : (List.range (i + 1)).filterMap f = match f i with | some y => (List.range i).filterMap f ++ [y] | none => (List.range i).filterMap f := by
  rw [List.range_succ, List.filterMap_append]
  cases h : f i with
  | some y => simp [h]
  | none => simp [h]
theorem same_upd {H0 H : Hp} {D : Addr} {o : HO} (e : Same H0 H) (n : H0 D = none) : Same H0 (upd H D o) := fun a u h => by
  rw [upd_ne (ne_of_none h n)]
  exact e a u h
theorem lc_gen {J : It} {n : Nat} {G : Hp → Prop} {Y : Nat → Hp → V → Hp → Prop} {g : TG} {tt : TT} {te : TE} {vs : List Nat} {σ : L2.St} {H0 : Hp} {D : Addr} {Qd : Hp → Prop} (f : Nat → Option V) (w : Walk J n G Y) (nD : H0 D = none) (hn : n < sizeLine)
    (hG : ∀ H', Same H0 H' → G H')
    (hs : ∀ (i : Nat) (x : V) (H1 H2 : Hp) (Nx : Hp → Prop), i < n → Same H0 H1 → Y i H1 x H2 →
      (∀ y H5, f i = some y → Same H1 H5 → ∃ acc, H5 D = some (.lst acc) ∧ acc.length < sizeLine ∧ Nx (upd H5 D (.lst (acc ++ [y])))) → (∀ H5, f i = none → Same H1 H5 → Nx H5) →
      g x (wipe σ vs) H2 fun σ2 H3 => wipe σ2 vs = wipe σ vs ∧ tt σ2 H3 fun b H4 => if b = true then te σ2 H4 fun y H5 => ∃ acc, H5 D = some (.lst acc) ∧ acc.length < sizeLine ∧ Nx (upd H5 D (.lst (acc ++ [y]))) else Nx H4)
    (hd : ∀ H', Same H0 H' → H' D = some (.lst ((List.range n).filterMap f)) → Qd H') :
    ∃ W : Nat → Nat → Hp → Prop, (∃ m, W 0 m (upd H0 D (.lst []))) ∧ ∀ i m H, W i m H →
      (J.stop i H ∧ Qd H) ∨ (J.go i H ∧ ∃ Nx : Hp → Prop, (∀ H', Nx H' → ∃ m', m' < m ∧ W (i + 1) m' H') ∧ ∀ x H', J.yld i H x H' → g x (wipe σ vs) H' fun σ2 H2 => wipe σ2 vs = wipe σ vs ∧ tt σ2 H2 fun b H3 =>
        if b = true then te σ2 H3 fun y H4 => ∃ acc, H4 D = some (.lst acc) ∧ acc.length < sizeLine ∧ Nx (upd H4 D (.lst (acc ++ [y]))) else Nx H3) := by
  refine lc_it w (fun i H => Same H0 H ∧ H D = some (.lst ((List.range i).filterMap f))) ⟨same_new0 nD, upd_same⟩ (fun i H _ h => hG H h.1) (fun i x H H' hi hP hY => ?_) (fun H h => hd H h.1 h.2)
  obtain ⟨e, hD⟩ := hP
  refine hs i x H H' (fun H4 => Same H0 H4 ∧ H4 D = some (.lst ((List.range (i + 1)).filterMap f))) hi e hY (fun y H5 hy e5 => ?_) (fun H5 hy e5 => ?_)
  · refine ⟨_, e5 _ _ hD, ?_, same_upd (e.trans e5) nD, ?_⟩
    · refine Nat.lt_of_le_of_lt (List.length_filterMap_le _ _) ?_
      rw [List.length_range]
      exact Nat.lt_trans hi hn
    · rw [upd_same, fm_succ, hy]
  · refine ⟨e.trans e5, ?_⟩
    rw [e5 _ _ hD, fm_succ, hy]
theorem lc_map {J : It} {n : Nat} {G : Hp → Prop} {Y : Nat → Hp → V → Hp → Prop} {g : TG} {tt : TT} {te : TE} {vs : List Nat} {σ : L2.St} {H0 : Hp} {D : Addr} {Qd : Hp → Prop} (f : Nat → V) (w : Walk J n G Y) (nD : H0 D = none) (hn : n < sizeLine)
    (hG : ∀ H', Same H0 H' → G H')
    (hs : ∀ (i : Nat) (x : V) (H1 H2 : Hp) (Nx : Hp → Prop), i < n → Same H0 H1 → Y i H1 x H2 →
      (∀ y H5, y = f i → Same H1 H5 → ∃ acc, H5 D = some (.lst acc) ∧ acc.length < sizeLine ∧ Nx (upd H5 D (.lst (acc ++ [y])))) →
      g x (wipe σ vs) H2 fun σ2 H3 => wipe σ2 vs = wipe σ vs ∧ tt σ2 H3 fun b H4 => if b = true then te σ2 H4 fun y H5 => ∃ acc, H5 D = some (.lst acc) ∧ acc.length < sizeLine ∧ Nx (upd H5 D (.lst (acc ++ [y]))) else Nx H4)
    (hd : ∀ H', Same H0 H' → H' D = some (.lst ((List.range n).map f)) → Qd H') :
    ∃ W : Nat → Nat → Hp → Prop, (∃ m, W 0 m (upd H0 D (.lst []))) ∧ ∀ i m H, W i m H →
      (J.stop i H ∧ Qd H) ∨ (J.go i H ∧ ∃ Nx : Hp → Prop, (∀ H', Nx H' → ∃ m', m' < m ∧ W (i + 1) m' H') ∧ ∀ x H', J.yld i H x H' → g x (wipe σ vs) H' fun σ2 H2 => wipe σ2 vs = wipe σ vs ∧ tt σ2 H2 fun b H3 =>
        if b = true then te σ2 H3 fun y H4 => ∃ acc, H4 D = some (.lst acc) ∧ acc.length < sizeLine ∧ Nx (upd H4 D (.lst (acc ++ [y]))) else Nx H3) :=
  lc_gen (fun i => some (f i)) w nD hn hG (fun i x H1 H2 Nx hi e hY k _ => hs i x H1 H2 Nx hi e hY fun y H5 hy e5 => k y H5 (by rw [hy]) e5) fun H' e h => hd H' e (by rw [h, ← List.filterMap_eq_map]; rfl)
theorem sz_line {n : Nat} (h : n ≤ 100000) : n ≤ sizeLine := Nat.le_trans h (by decide)
theorem sz_lt {n : Nat} (h : n ≤ 100000) : n < sizeLine := Nat.lt_of_le_of_lt h (by decide)

theorem y_ipI {f : Int → Int → Int} {i j : Int} {H : Hp} {Q : VK} (q : Q (.int (f i j)) H) : ipI f (.int i) (.int j) H Q := ⟨i, j, rfl, rfl, q⟩
def rIndexY (K : PySem.W.Frag) : V → List V → Hp → VK → Prop := rIndex K
theorem mt_indexK {X : Cx} {K : PySem.W.Frag} (hK : X.K = K := by rfl) : MtR X "list.index" (rIndexY K) := by
  subst hK
  exact mt_index
theorem eqV_str {a b : Str} : eqV (.str a) (.str b) = decide (a = b) := by
  unfold eqV
  first
    | rfl
    | simp
theorem y_indexS {K : PySem.W.Frag} {H : Hp} {Q : VK} {a : Addr} {nm : List Str} {z : Str} {j : Nat} (h : H a = some (.lst (nm.map V.str))) (hj : nm[j]? = some z) (nd : nm.Nodup) (q : Q (.int j) H) : rIndexY K (.ref a) [.str z] H Q := by
  refine ⟨a, nm.map V.str, .str z, j, .str z, rfl, rfl, SqL.of h, rfl, ?_, ?_, ?_, ?_, q⟩
  · rw [List.all_eq_true]
    intro x hx
    obtain ⟨y, _, rfl⟩ := List.mem_map.mp hx
    rfl
  · rw [List.getElem?_map, hj]
    rfl
  · rw [eqV_str]
    exact decide_eq_true rfl
  · intro m z' hm hz'
    rw [List.getElem?_map] at hz'
    cases e : nm[m]? with
    | none =>
      rw [e] at hz'
      cases hz'
    | some y =>
      rw [e] at hz'
      have := Option.some.inj hz'
      subst this
      rw [eqV_str]
      refine decide_eq_false fun e2 => ?_
      subst e2
      have := nd_ix nd e hj
      omega
theorem cmul_small {i j : Int} (hi : i.natAbs < 2 ^ 64) (hj : j.natAbs < 2 ^ 64) : CMulW i j := wide_mul (a := 64) (b := 64) hi hj (by decide) (by decide) (by decide)
theorem cdiv_small {i j : Int} (h : 0 < j) (hj : j < 2 ^ 62) : CDivW i j := wide_div (b := 62) h (by omega) (by decide) (by decide)

theorem lc_new {J : It} {n : Nat} {G : Hp → Prop} {Y : Nat → Hp → V → Hp → Prop} {g : TG} {tt : TT} {te : TE} {vs : List Nat} {σ : L2.St} {H0 : Hp} {D : Addr} {Qd : Hp → Prop} (f : Nat → HO) (hf : ∀ i xs, f i ≠ .lst xs) (w : Walk J n G Y) (nD : H0 D = none) (hn : n < sizeLine)
    (hG : ∀ H', Same H0 H' → G H')
    (hs : ∀ (i : Nat) (x : V) (H1 H2 : Hp) (Nx : Hp → Prop), i < n → Same H0 H1 → Y i H1 x H2 →
      (∀ a H5, Same H1 H5 → H5 a = some (f i) → ∃ acc, H5 D = some (.lst acc) ∧ acc.length < sizeLine ∧ Nx (upd H5 D (.lst (acc ++ [.ref a])))) →
      g x (wipe σ vs) H2 fun σ2 H3 => wipe σ2 vs = wipe σ vs ∧ tt σ2 H3 fun b H4 => if b = true then te σ2 H4 fun y H5 => ∃ acc, H5 D = some (.lst acc) ∧ acc.length < sizeLine ∧ Nx (upd H5 D (.lst (acc ++ [y]))) else Nx H4)
    (hd : ∀ (H' : Hp) (as : List Addr), Same H0 H' → as.length = n → (∀ i a, as[i]? = some a → H' a = some (f i)) → H' D = some (.lst (as.map V.ref)) → Qd H') :
    ∃ W : Nat → Nat → Hp → Prop, (∃ m, W 0 m (upd H0 D (.lst []))) ∧ ∀ i m H, W i m H →
      (J.stop i H ∧ Qd H) ∨ (J.go i H ∧ ∃ Nx : Hp → Prop, (∀ H', Nx H' → ∃ m', m' < m ∧ W (i + 1) m' H') ∧ ∀ x H', J.yld i H x H' → g x (wipe σ vs) H' fun σ2 H2 => wipe σ2 vs = wipe σ vs ∧ tt σ2 H2 fun b H3 =>
        if b = true then te σ2 H3 fun y H4 => ∃ acc, H4 D = some (.lst acc) ∧ acc.length < sizeLine ∧ Nx (upd H4 D (.lst (acc ++ [y]))) else Nx H3) := by
  refine lc_it w (fun i H => Same H0 H ∧ ∃ as : List Addr, as.length = i ∧ (∀ j a, as[j]? = some a → H a = some (f j)) ∧ H D = some (.lst (as.map V.ref))) ⟨same_new0 nD, [], rfl, fun j a h => by simp at h, upd_same⟩ (fun i H _ h => hG H h.1) (fun i x H H' hi hP hY => ?_) (fun H h => ?_)
  · obtain ⟨e, as, hl, ha, hD⟩ := hP
    refine hs i x H H' (fun H4 => Same H0 H4 ∧ ∃ as : List Addr, as.length = i + 1 ∧ (∀ j a, as[j]? = some a → H4 a = some (f j)) ∧ H4 D = some (.lst (as.map V.ref))) hi e hY (fun a H5 e5 h5 => ?_)
    have hD5 := e5 _ _ hD
    refine ⟨_, hD5, ?_, same_upd (e.trans e5) nD, as ++ [a], by rw [List.length_append, hl]; rfl, fun j b hb => ?_, ?_⟩
    · rw [List.length_map, hl]
      exact Nat.lt_trans hi hn
    · have hbf : H5 b = some (f j) := by
        by_cases h : j < as.length
        · rw [List.getElem?_append_left h] at hb
          exact e5 _ _ (ha j b hb)
        · rw [List.getElem?_append_right (by omega)] at hb
          have hj : j - as.length = 0 := by
            by_cases z : j - as.length = 0
            · exact z
            · rw [List.getElem?_eq_none (by simp; omega)] at hb
              cases hb
          rw [hj] at hb
          have : a = b := Option.some.inj hb
          subst this
          have : j = i := by omega
          rw [this]
          exact h5
      rw [upd_ne (ne_of hbf hD5 (hf j _))]
      exact hbf
    · rw [upd_same, List.map_append]
      rfl
  · obtain ⟨e, as, hl, ha, hD⟩ := h
    exact hd H as e hl ha hD
theorem y_daug {td ty tv : TE} {rd : V → V → Hp → VK → Prop} {nx : L2.St → Hp → Prop} {rt : VK} {bk ct : L2.St → Hp → Prop} {σ : L2.St} {H : Hp} (q : td σ H fun x H1 => ty σ H1 fun y H2 => ∃ a v, x = .ref a ∧ DGet H2 a y (some v) ∧ tv σ H2 fun y2 H3 => rd v y2 H3 fun z H4 => ∃ H5, DPut H4 a y z H5 ∧ nx σ H5) : sDAug td ty tv rd ⟨nx, rt, bk, ct⟩ σ H := q
theorem y_dput {td ty tv : TE} {nx : L2.St → Hp → Prop} {rt : VK} {bk ct : L2.St → Hp → Prop} {σ : L2.St} {H : Hp} (q : tv σ H fun v H1 => td σ H1 fun x H2 => ty σ H2 fun y H3 => ∃ a H4, x = .ref a ∧ DPut H3 a y v H4 ∧ nx σ H4) : sDPut td ty tv ⟨nx, rt, bk, ct⟩ σ H := q
theorem y_put {z : Str} {v : V} {H : Hp} {a : Addr} {kvs : List (Key × V)} {R : Addr → Hp → Prop} (h : H a = some (.dK kvs)) (hl : kvs.length < sizeLine) (q : R a (upd H a (.dK (putK kvs (Sum.inr z) v)))) : ∃ b H', V.ref a = .ref b ∧ DPut H b (.str z) v H' ∧ R b H' := ⟨a, _, rfl, DPut.k (k := Sum.inr z) h hl, q⟩
theorem y_aug1 {z : Str} {v : V} {H : Hp} {a : Addr} {kvs : List (Key × V)} {R : Addr → V → Prop} (h : H a = some (.dK kvs)) (hv : valV kvs (Sum.inr z) = some v) (q : R a v) : ∃ b w, V.ref a = .ref b ∧ DGet H b (.str z) (some w) ∧ R b w := ⟨a, v, rfl, by rw [← hv]; exact dget_k (k := Sum.inr z) h, q⟩
theorem y_rAdd {i j : Int} {H : Hp} {Q : VK} (q : Q (.int (i + j)) H) : L2.rAdd (.int i) (.int j) H Q := ⟨i, j, rfl, rfl, q⟩
theorem y_put2 {z : Str} {v : V} {H : Hp} {a : Addr} {kvs : List (Key × V)} {R : Hp → Prop} (h : H a = some (.dK kvs)) (hl : kvs.length < sizeLine) (q : R (upd H a (.dK (putK kvs (Sum.inr z) v)))) : ∃ H', DPut H a (.str z) v H' ∧ R H' := ⟨_, DPut.k (k := Sum.inr z) h hl, q⟩
/-! ### comprehensions of two clauses -/
theorem y_lc2 {wi wi1 : TI} {g g1 : TG} {tt tt1 : TT} {te : TE} {vs vs1 : List Nat} {σ : L2.St} {H : Hp} {Q : VK} (q : wi σ H fun J H1 => ∀ D, H1 D = none → ∃ W : Nat → Nat → Hp → Prop, (∃ m, W 0 m (upd H1 D (.lst []))) ∧ ∀ i m H, W i m H →
  (J.stop i H ∧ Q (.ref D) H) ∨ (J.go i H ∧ ∃ Nx : Hp → Prop, (∀ H', Nx H' → ∃ m', m' < m ∧ W (i + 1) m' H') ∧ ∀ x H', J.yld i H x H' → g x (wipe σ vs) H' fun σ2 H2 => wipe σ2 vs = wipe σ vs ∧ tt σ2 H2 fun b H3 =>
    if b = true then wi1 σ2 H3 fun J1 H4 => ∃ W1 : Nat → Nat → Hp → Prop, (∃ m, W1 0 m H4) ∧ ∀ j k H, W1 j k H →
      (J1.stop j H ∧ Nx H) ∨ (J1.go j H ∧ ∃ Nx1 : Hp → Prop, (∀ H', Nx1 H' → ∃ k', k' < k ∧ W1 (j + 1) k' H') ∧ ∀ x H', J1.yld j H x H' → g1 x (wipe σ2 vs1) H' fun σ3 H5 => wipe σ3 vs1 = wipe σ2 vs1 ∧ tt1 σ3 H5 fun b H6 =>
        if b = true then te σ3 H6 fun y H7 => ∃ acc, H7 D = some (.lst acc) ∧ acc.length < sizeLine ∧ Nx1 (upd H7 D (.lst (acc ++ [y]))) else Nx1 H6)
    else Nx H3)) : tLc2 wi g tt wi1 g1 tt1 te vs vs1 σ H Q := q
theorem lc2_out {J : It} {n : Nat} {G : Hp → Prop} {Y : Nat → Hp → V → Hp → Prop} (w : Walk J n G Y) {R : Nat → V → Hp → (Hp → Prop) → Prop} {H1 : Hp} {D : Addr} {Qd : Hp → Prop} (Pv : Nat → Hp → Prop) (h0 : Pv 0 (upd H1 D (.lst []))) (hG : ∀ i H, i ≤ n → Pv i H → G H)
    (hs : ∀ i x H H', i < n → Pv i H → Y i H x H' → R i x H' (Pv (i + 1))) (hd : ∀ H, Pv n H → Qd H) :
    ∃ W : Nat → Nat → Hp → Prop, (∃ m, W 0 m (upd H1 D (.lst []))) ∧ ∀ i m H, W i m H →
      (J.stop i H ∧ Qd H) ∨ (J.go i H ∧ ∃ Nx : Hp → Prop, (∀ H', Nx H' → ∃ m', m' < m ∧ W (i + 1) m' H') ∧ ∀ x H', J.yld i H x H' → R i x H' Nx) := by
  refine ⟨fun i m H => m = n - i ∧ i ≤ n ∧ Pv i H, ⟨n, by simp, Nat.zero_le _, h0⟩, ?_⟩
  rintro i m H ⟨rfl, hi, p⟩
  have q := hG i H hi p
  by_cases hlt : i < n
  · refine .inr ⟨w.goes i H hlt q, Pv (i + 1), fun H' p' => ⟨n - (i + 1), by omega, rfl, hlt, p'⟩, fun x H' y => hs i x H H' hlt p (w.yields i H x H' hlt q y)⟩
  · have e : i = n := by omega
    subst e
    exact .inl ⟨w.stops H q, hd H p⟩
theorem lc2_in {J : It} {n : Nat} {G : Hp → Prop} {Y : Nat → Hp → V → Hp → Prop} (w : Walk J n G Y) {R : Nat → V → Hp → (Hp → Prop) → Prop} {H4 : Hp} {Qd : Hp → Prop} (Pv : Nat → Hp → Prop) (h0 : Pv 0 H4) (hG : ∀ i H, i ≤ n → Pv i H → G H)
    (hs : ∀ i x H H', i < n → Pv i H → Y i H x H' → R i x H' (Pv (i + 1))) (hd : ∀ H, Pv n H → Qd H) :
    ∃ W : Nat → Nat → Hp → Prop, (∃ m, W 0 m H4) ∧ ∀ i m H, W i m H →
      (J.stop i H ∧ Qd H) ∨ (J.go i H ∧ ∃ Nx : Hp → Prop, (∀ H', Nx H' → ∃ m', m' < m ∧ W (i + 1) m' H') ∧ ∀ x H', J.yld i H x H' → R i x H' Nx) := by
  refine ⟨fun i m H => m = n - i ∧ i ≤ n ∧ Pv i H, ⟨n, by simp, Nat.zero_le _, h0⟩, ?_⟩
  rintro i m H ⟨rfl, hi, p⟩
  have q := hG i H hi p
  by_cases hlt : i < n
  · refine .inr ⟨w.goes i H hlt q, Pv (i + 1), fun H' p' => ⟨n - (i + 1), by omega, rfl, hlt, p'⟩, fun x H' y => hs i x H H' hlt p (w.yields i H x H' hlt q y)⟩
  · have e : i = n := by omega
    subst e
    exact .inl ⟨w.stops H q, hd H p⟩
/-! ### ranges with a step -/
theorem y_r3 {tA : TA} {σ : L2.St} {H : Hp} {R : It → Hp → Prop} (q : tA σ H fun vs H1 => ∃ (i j c : Int) (n : Nat), vs = [.int i, .int j, .int c] ∧ RgC i j c n ∧ R (Itc i c n) H1) : iRng3 tA σ H R := q
theorem rgc1 : ∀ L : Fin 61, 4 ≤ L.val → (L.val : Int) ≠ 0 ∧ (L.val : Int).natAbs < 1073741824 ∧ Builtin.Range.small 0 (L.val : Int) (L.val : Int) = true ∧ Builtin.Range.rangeSize 0 (L.val : Int) (L.val : Int) = (1 : Nat) := by decide +kernel
theorem rgc_one {L : Nat} (h4 : 4 ≤ L) (h60 : L ≤ 60) : RgC 0 (L : Int) (L : Int) 1 := rgc1 ⟨L, by omega⟩ h4
theorem flat_strs (nm : List Str) : (nm.map V.str).all flatV = true := by
  rw [List.all_eq_true]
  intro x hx
  obtain ⟨y, _, rfl⟩ := List.mem_map.mp hx
  rfl
theorem inV_strs {z : Str} {nm : List Str} (h : z ∈ nm) : inV (.str z) (nm.map V.str) = true := by
  unfold inV
  rw [List.any_eq_true]
  exact ⟨.str z, List.mem_map.mpr ⟨z, h, rfl⟩, by rw [eqV_str]; exact decide_eq_true rfl⟩
theorem y_inStr {K : PySem.W.Frag} {H : Hp} {Q : VK} {a : Addr} {z : Str} {nm : List Str} (h : H a = some (.lst (nm.map V.str))) (hz : z ∈ nm) (q : Q (.bl true) H) : rInA K (.str z) (.ref a) H Q := y_inL h rfl (flat_strs nm) (by rw [inV_strs hz]; exact q)
theorem y_niStr {K : PySem.W.Frag} {H : Hp} {Q : VK} {a : Addr} {z : Str} {nm : List Str} (h : H a = some (.lst (nm.map V.str))) (hz : z ∈ nm) (q : Q (.bl false) H) : rNotInA K (.str z) (.ref a) H Q := y_niL h rfl (flat_strs nm) (by rw [inV_strs hz]; exact q)
theorem atI_nat {α : Type} {xs : List α} {j : Nat} (h : j < xs.length) : atI xs (j : Int) = xs[j]? := by
  unfold atI ixN
  rw [if_pos (Int.natCast_nonneg j)]
  first
    | (rw [if_pos (by simpa using h)]; simp; done)
    | simp [h]
theorem cutV_whole {xs : List V} {L : Nat} (h : xs.length = L) : cutV xs (some 0) (some (L : Int)) = xs := by
  unfold cutV HT.sIx
  have : ¬ ((xs.length : Int) < 0) := by omega
  simp [← h, this]
/-! ### lists of ints and None: == and != -/
def oV : Option Int → V
  | none => .non
  | some i => .int i
def oD : Option Int → PyData
  | none => .none
  | some i => .int i
theorem dp_all {K : PySem.W.Frag} {H : Hp} : ∀ xs : List (Option Int), DpAll K H (xs.map oV) (xs.map oD)
  | [] => .nil
  | none :: xs => .cons .non (dp_all xs)
  | some i :: xs => .cons (.int i) (dp_all xs)
theorem lay_all : ∀ xs : List (Option Int), PyData.canLayAll0 (xs.map oD) = true ∧ PyData.depthAll (xs.map oD) = 0
  | [] => ⟨by simp only [List.map_nil, PyData.canLayAll0], by simp only [List.map_nil, PyData.depthAll]⟩
  | none :: xs => by
    obtain ⟨h1, h2⟩ := lay_all xs
    constructor
    · simp only [List.map_cons, oD, PyData.canLayAll0, PyData.canLay0, h1, Bool.and_self]
    · simp only [List.map_cons, oD, PyData.depthAll, PyData.depth, h2, Nat.max_self]
  | some i :: xs => by
    obtain ⟨h1, h2⟩ := lay_all xs
    constructor
    · simp only [List.map_cons, oD, PyData.canLayAll0, PyData.canLay0, h1, Bool.and_self]
    · simp only [List.map_cons, oD, PyData.depthAll, PyData.depth, h2, Nat.max_self]
theorem shaped_all (xs : List (Option Int)) : SeqAt.shaped (.list (xs.map oD)) = true := by
  obtain ⟨h1, h2⟩ := lay_all xs
  unfold SeqAt.shaped
  rw [Bool.and_eq_true]
  constructor
  · simp only [PyData.canLay0, h1]
  · simp only [PyData.depth, h2]
    decide
theorem eqv_opt : ∀ xs ys : List (Option Int), PyData.eqvAll (xs.map oD) (ys.map oD) = decide (xs = ys)
  | [], [] => by simp [PyData.eqvAll]
  | [], y :: ys => by simp [PyData.eqvAll]
  | x :: xs, [] => by simp [PyData.eqvAll]
  | x :: xs, y :: ys => by
    have ih := eqv_opt xs ys
    simp only [List.map_cons, PyData.eqvAll, ih]
    cases x <;> cases y <;> simp [oD, PyData.eqv]
    rfl
section
variable {K : PySem.W.Frag} {H : Hp} {Q : VK} {a b : Addr}
theorem y_eqL {xs ys : List (Option Int)} (h : H a = some (.lst (xs.map oV))) (h' : H b = some (.lst (ys.map oV))) (q : Q (.bl (decide (xs = ys))) H) : rEqA K (.ref a) (.ref b) H Q :=
  y_eqD (.lst (SqL.of h) (dp_all xs)) (.lst (SqL.of h') (dp_all ys)) (shaped_all xs) (shaped_all ys) (by rw [PyData.eqv, eqv_opt]; exact q)
theorem y_neL {xs ys : List (Option Int)} (h : H a = some (.lst (xs.map oV))) (h' : H b = some (.lst (ys.map oV))) (q : Q (.bl (!decide (xs = ys))) H) : rNeA K (.ref a) (.ref b) H Q :=
  y_neD (.lst (SqL.of h) (dp_all xs)) (.lst (SqL.of h') (dp_all ys)) (shaped_all xs) (shaped_all ys) (by rw [PyData.eqv, eqv_opt]; exact q)
theorem oV_ints (ns : List Int) : ns.map V.int = (ns.map some).map oV := by rw [List.map_map]; rfl
theorem y_slLs {xs : List V} {lo hi : Option Int} (h : SqL K H a xs) (q : ∀ p, H p = none → Q (.ref p) (upd H p (.lst (cutV xs lo hi)))) : rSlL K (.ref a) lo hi H Q := ⟨a, xs, rfl, h, q⟩
theorem y_rep {xs : List V} {k : Int} (h : H a = some (.lst xs)) (h1 : -(2 ^ 63) ≤ k) (h2 : k < 2 ^ 63) (hl : xs.length * k.toNat ≤ sizeLine) (q : ∀ p, H p = none → Q (.ref p) (upd H p (.lst (List.replicate k.toNat xs).flatten))) : rTimes (.ref a) (.int k) H Q := .inr ⟨a, k, xs, rfl, rfl, h, h1, h2, hl, q⟩
theorem y_popAt {xs : List V} {j : Nat} {y : V} (h : H a = some (.lst xs)) (hj : xs[j]? = some y) (hl : j < 2 ^ 62) (q : Q y (upd H a (.lst (xs.eraseIdx j)))) : rPopAt (.ref a) [.int (j : Nat)] H Q := by
  have hlt : j < xs.length := by
    refine Nat.lt_of_not_le fun z => ?_
    rw [List.getElem?_eq_none z] at hj
    cases hj
  refine ⟨a, xs, (j : Nat), j, y, rfl, rfl, h, by omega, by omega, ?_, hj, q⟩
  unfold seqIndex?
  have n0 : ¬ ((j : Int) < 0) := by omega
  simp [n0, hlt]
theorem rep_one (v : V) : ∀ n, (List.replicate n [v]).flatten = List.replicate n v
  | 0 => rfl
  | n + 1 => by
    rw [List.replicate_succ, List.flatten_cons, rep_one v n]
    rfl
end
theorem y_par3 {i j l : Nat} {ta : TA} {nx : L2.St → Hp → Prop} {rt : VK} {bk ct : L2.St → Hp → Prop} {σ : L2.St} {H : Hp} (q : ta σ H fun vs H1 => ∃ u v w, vs = [u, v, w] ∧ nx (((σ.set i (some u)).set j (some v)).set l (some w)) H1) : tPar3 i j l ta ⟨nx, rt, bk, ct⟩ σ H := q
theorem y_par33 {R : V → V → V → Prop} {a b c : V} (q : R a b c) : ∃ u v w, [a, b, c] = [u, v, w] ∧ R u v w := ⟨a, b, c, rfl, q⟩
theorem y_lstRg {σ : L2.St} {H : Hp} {Q : VK} {te : L2.St → Hp → (Int → Int → Hp → Prop) → Prop} (q : te σ H fun a b H1 => RgOk a b ∧ ∀ q, H1 q = none → Q (.ref q) (upd H1 q (.lst (rgV a b)))) : tLstRg te σ H Q := q
theorem y_rg2 {σ : L2.St} {H : Hp} {ta tb : TE} {R : Int → Int → Hp → Prop} (q : ta σ H fun x H1 => tb σ H1 fun y H2 => ∃ i j, x = .int i ∧ y = .int j ∧ R i j H2) : tRg2 ta tb σ H R := q
theorem y_rg1 {σ : L2.St} {H : Hp} {ta : TE} {R : Int → Int → Hp → Prop} (q : ta σ H fun x H1 => ∃ n, x = .int n ∧ R 0 n H1) : tRg1 ta σ H R := q
theorem y_ints2 {i j : Int} {R : Int → Int → Prop} (q : R i j) : ∃ i' j', V.int i = .int i' ∧ V.int j = .int j' ∧ R i' j' := ⟨i, j, rfl, rfl, q⟩
theorem perm_sorted : ∀ {xs ys : List Int}, List.Perm xs ys → xs.Pairwise (· ≤ ·) → ys.Pairwise (· ≤ ·) → xs = ys
  | [], ys, h, _, _ => (List.Perm.nil_eq h)
  | x :: xs, [], h, _, _ => by
    have := h.length_eq
    simp at this
  | x :: xs, y :: ys, h, hx, hy => by
    have hx' := List.pairwise_cons.mp hx
    have hy' := List.pairwise_cons.mp hy
    have e : x = y := by
      have h1 : x ∈ y :: ys := h.mem_iff.mp List.mem_cons_self
      have h2 : y ∈ x :: xs := h.mem_iff.mpr List.mem_cons_self
      rcases List.mem_cons.mp h1 with a | a
      · exact a
      · rcases List.mem_cons.mp h2 with b | b
        · exact b.symm
        · have := hx'.1 y b
          have := hy'.1 x a
          omega
    subst e
    rw [perm_sorted ((List.perm_cons x).mp h) hx'.2 hy'.2]
theorem y_frz {t : TS} {D : Ends} {σ : L2.St} {H : Hp} {d : Addr} {u : HO} (h : H d = some u) (m : Mut (some u)) (q : ∀ od, t D σ (upd H d (.frz od u))) : tFrz t D σ H := ⟨d, u, h, m, q⟩
theorem y_frzE {t : TE} {σ : L2.St} {H : Hp} {Q : VK} (q : t σ H fun v H' => ∃ d u, v = .ref d ∧ H' d = some u ∧ Mut (some u) ∧ ∀ od, Q v (upd H' d (.frz od u))) : tFrzE t σ H Q := q
theorem y_gotF {H : Hp} {d : Addr} {u : HO} {R : Addr → Obj → HO → Prop} (h : H d = some u) (m : Mut (some u)) (q : ∀ od, R d od u) : ∃ d' u, V.ref d = .ref d' ∧ H d' = some u ∧ Mut (some u) ∧ ∀ od, R d' od u := ⟨d, u, rfl, h, m, q⟩
end Y
/-! YMin: min(xs, key=lambda n: .., default=None). -/
namespace Y
open PySem PySem.Spec PyProof.Rows L2 LamX
/-- one parameter a, else captured names and globals -/
structure LamS1 (sc scope : Scope) (a : Str) : Prop where
  kind : scope.kind = .function
  co : scope.isCoroutine = false
  gen : scope.isGenerator = false
  own : ∀ y ∈ scope.names, y.2 = .local → y.1 = a
  nocell : ∀ y ∈ scope.names, y.2 ≠ .cell
  par : scope.names.lookup a = some .local
  free : ∀ y ∈ scope.names, y.2 = .free → sc.names.lookup y.1 = some .cell ∨ sc.names.lookup y.1 = some .free
def lamS1B (sc scope : Scope) (a : Str) : Bool :=
  decide (scope.kind = .function) && !scope.isCoroutine && !scope.isGenerator && decide (scope.names.lookup a = some .local) && scope.names.all fun y => (!decide (y.2 = .local) || decide (y.1 = a)) && !decide (y.2 = .cell) && (!decide (y.2 = .free) || decide (sc.names.lookup y.1 = some .cell) || decide (sc.names.lookup y.1 = some .free))
theorem lamS1_by {sc scope : Scope} {a : Str} (h : lamS1B sc scope a = true) : LamS1 sc scope a := by
  unfold lamS1B at h
  simp only [Bool.and_eq_true, Bool.or_eq_true, Bool.not_eq_true', decide_eq_true_eq, decide_eq_false_iff_not, List.all_eq_true] at h
  obtain ⟨⟨⟨⟨h1, h2⟩, h3⟩, h5⟩, h4⟩ := h
  refine ⟨h1, h2, h3, fun y hy e => ?_, fun y hy e => (h4 y hy).1.2 e, h5, fun y hy e => ?_⟩
  · rcases (h4 y hy).1.1 with z | z
    · exact absurd e z
    · exact z
  · rcases (h4 y hy).2 with (z | z) | z
    · exact absurd e z
    · exact .inl z
    · exact .inr z
theorem LamS1.has {X : Cx} {scope : Scope} {a : Str} (L : LamS1 X.env.scope scope a) (ok : X.Ok) : ∀ y ∈ scope.names, y.2 = .free → ∃ c, X.env.cells.lookup y.1 = some c := fun y hy e => by
  rcases L.free y hy e with k | k
  · exact ok.has _ (.inl k)
  · exact ok.has _ (.inr k)
/-- the names as the lambda sees them: its parameter in slot i -/
def slot1 (σ : L2.St) (i : Nat) (v : V) : L2.St := σ.set i (some v)
section
variable {X : Cx} {pins : List (Addr × Obj)} {σ : L2.St} {H HZ : Hp} {s s1 : Shared}
theorem lam_start1 {A : Around} {outer : List Env} {E : XK} {scope : Scope} {f c' : Addr} {h₁ : Heap} {tk : Nat} {a : Str} {i : Nat} {v : V} {u : Value} (I : Inv X pins σ H s) (L : LamS1 X.env.scope scope a) (hN : X.N.Nodup) (hi : X.N[i]? = some a) (rv : RelV v u) (e0 : Env0 X.prog X.w X.K X.mg X.base A outer s1 HZ) (hd : A.handled = none)
    (un : Un (frs X.stack) [] H HZ s.heap s1.heap) (hns : h₁.Ns s1.heap.objs.size fun y => ([(a, u)] : List (Str × Value)).reverse.lookup y) (kp : ∀ b o, s1.heap.get? b = some o → h₁.get? b = some o) :
    Inv (lamCx X A outer s1 HZ E scope f c') [] (slot1 σ i v) HZ { s1 with heap := h₁, toks := tk } := by
  have hfree := L.has I.ok
  have cm : ∀ {y c}, (cloFrom X.env.cells scope.names []).lookup y = some c → X.env.cells.lookup y = some c := fun {y c} e => by
    rcases cloFrom_mem (PySem.mem_of_lookup e) with hm | ⟨h1, h2⟩
    · cases hm
    · obtain ⟨c1, hc⟩ := hfree _ h1 rfl
      have hc : X.env.cells.lookup y = some c1 := hc
      have e2 : c = c1 := by
        rw [h2, hc] <;> rfl
      rw [e2]
      exact hc
  have look : ∀ {y}, scope.names.lookup y = some .free → ∃ c, (cloFrom X.env.cells scope.names []).lookup y = some c := fun {y} hl => by
    have hy : (y, NameKind.free) ∈ scope.names := PySem.mem_of_lookup hl
    exact mem_lookup (cloFrom_has (cells := X.env.cells) (acc := []) hy)
  have cellK : ∀ {c : Addr} {v : Option Value}, H c = none → s.heap.IsCell c v → h₁.IsCell c v := fun {c v} n ⟨o, ho, hd⟩ => by
    obtain ⟨sl, q⟩ := un.any ho n (by simp)
    exact ⟨_, kp _ _ q, hd⟩
  have noA : ∀ b : Addr, b ∉ (lamCx X A outer s1 HZ E scope f c').ex := fun b z => absurd (show b ∈ ([] : List Addr) from z) (by simp)
  have hiσ : i < σ.length := by
    rw [I.len]
    exact (List.getElem?_eq_some_iff.mp hi).1
  refine ⟨⟨e0.mod, L.kind, rfl, rfl, Nat.le_refl _, fun y z c e1 e2 => I.ok.inj y z c (cm e1) (cm e2), fun y hy => ?_, fun y c z _ => ?_, fun _ => hd, Around.frames_deeper e0.frames, .inr ⟨rfl, rfl⟩, fun b z => absurd z (noA b), e0.bs, e0.bsz, fun b _ _ => noA b,
      fun b z => absurd z (noA b), e0.funs, e0.frf⟩,
    rfl, e0.bare, Un.kept kp, ⟨_, hns, fun j y v' e1 e2 e3 => ?_⟩, fun y c e => ?_, e0.hok.fresh (Nat.le_refl _), fun y c e => ?_, fun q hq => absurd (show q ∈ ([] : List (Addr × Obj)) ++ [] from hq) (by simp), e0.hok.kept kp, (by unfold slot1; rw [List.length_set]; exact I.len)⟩
  · have hy : scope.names.lookup y = some .cell ∨ scope.names.lookup y = some .free := hy
    rcases hy with hy | hy
    · exact absurd rfl (L.nocell _ (PySem.mem_of_lookup hy))
    · exact look hy
  · have z : false = true := z
    cases z
  · have e3 : Vis scope y := e3
    rcases e3 with k | k | k
    · have ya : y = a := L.own _ (PySem.mem_of_lookup k) rfl
      subst ya
      have hji : j = i := nodup_ix hN e1 hi
      subst hji
      have e2 : (σ.set j (some v))[j]? = some (some v') := e2
      rw [List.getElem?_set_self hiσ] at e2
      cases e2
      exact ⟨u, rv, .inl ⟨k, by simp⟩⟩
    · exact absurd rfl (L.nocell _ (PySem.mem_of_lookup k))
    · have hji : i ≠ j := fun z => by
        subst z
        have e1 : X.N[i]? = some y := e1
        rw [hi] at e1
        cases e1
        have := L.par
        rw [k] at this
        cases this
      have e2 : (σ.set i (some v))[j]? = some (some v') := e2
      rw [List.getElem?_set_ne hji] at e2
      obtain ⟨m, hn, hl⟩ := I.loc
      have hvis : Vis X.env.scope y := (L.free _ (PySem.mem_of_lookup k) rfl).elim (fun k => .inr (.inl k)) (fun k => .inr (.inr k))
      obtain ⟨w', r, q⟩ := hl j y v' e1 e2 hvis
      obtain ⟨c2, h2⟩ := look k
      refine ⟨w', r, .inr ⟨.inr k, c2, h2, ?_⟩⟩
      have c1 := cm h2
      rcases q with ⟨k', _⟩ | ⟨_, c3, e', z⟩
      · have k' : X.env.scope.names.lookup y = some .local := k'
        rcases L.free _ (PySem.mem_of_lookup k) rfl with k2 | k2 <;> rw [show X.env.scope.names.lookup y = _ from k2] at k' <;> cases k'
      · rw [c1] at e'
        cases e'
        exact cellK (I.freeC y _ c1) z
  · obtain ⟨w', z⟩ := I.cell y c (cm e)
    exact ⟨w', cellK (I.freeC y c (cm e)) z⟩
  · obtain ⟨v, o, ho, hd⟩ := I.cell y c (cm e)
    exact un.free c o ho (I.freeC y c (cm e)) (by simp)
/-- the lambda is called with one value -/
theorem lam_call1 {A : Around} {f c' : Addr} {pm ctv : Value} {params : Arguments} {body : Expr} {scope : Scope} {k i : Nat} {a : Str} {v : V} {u : Value} {tb : TE} {Q : VK} (I : Inv X pins σ H s) (L : LamS1 X.env.scope scope a) (hN : X.N.Nodup) (hi : X.N[i]? = some a)
    (hf : s.heap.get? f = some (PySem.W.kla_obj "<lambda>" (X.env.qual ++ "<lambda>") params body scope (cloFrom X.env.cells scope.names []) pm c' ctv)) (hc : H c' = some (CodeO c' (X.env.qual ++ "<lambda>")))
    (hbind : bindArgs (PySem.W.kla_fn "<lambda>" (X.env.qual ++ "<lambda>") params body scope (cloFrom X.env.cells scope.names []) pm (.ref c') ctv) ⟨[u], []⟩ = pure [(a, u)])
    (e0 : Env0 X.prog X.w X.K X.mg X.base A X.stack s H) (hr : Room (k + 1) A) (rv : RelV v u)
    (hbody : ∀ (A' : Around) (outer : List Env) (s : Shared) (H : Hp) (E : XK), Room k (A'.deeper (lamEnv X scope s.heap.objs.size f c')) → PE (lamCx X A' outer s H E scope f c') body tb)
    (ht : tb (slot1 σ i v) H Q) : wpAny (model X.prog X.w) A (call (.ref f) [u]) (fun w s' => CE X.stack X.prog X.w H s Q w s') (fun _ _ => False) s := by
  obtain ⟨⟨oc, vs, t, hoc, hdc, hvc⟩, _, _⟩ := I.hok c' _ hc
  have rc : codeAny (model X.prog X.w) A (.call (.ref f) ⟨[u], []⟩) (CR (L2.CX X.prog X.w) X.stack X.prog X.w H s Q (fun _ _ _ => False)) s := by
    refine PySem.W.kla_callFunE hr.depth hf rfl L.co L.gen rfl ⟨c', oc, vs, t, rfl, hoc, hdc, hvc⟩ ?_
    rw [hbind]
    refine wpAny_pure (wpAny_newFunctionEnv (fun y hy => L.nocell y hy) (fun y hy => by rw [List.mem_singleton.mp hy]; exact L.par) (fun h₁ hns hsb => ⟨I.nolimit.fresh _ hsb, ?_⟩) L.kind)
    show codeAny _ _ (.expr body (lamEnv X scope s.heap.objs.size f c')) _ _
    have kp : ∀ b o, s.heap.get? b = some o → h₁.get? b = some o := fun b o e => hsb.extBut b o (Nat.ne_of_lt (Heap.lt_size e)) (Heap.get?_push_of_some _ e)
    have J : Inv (lamCx X A X.stack s H (fun _ _ _ => False) scope f c') [] (slot1 σ i v) H { s with heap := h₁, toks := s.toks + ([(a, u)] : List (Str × Value)).length } :=
      lam_start1 I L hN hi rv e0 hr.hd Un.refl hns kp
    refine PySem.W.kla_codeExpr (wpAny_mono ((hbody _ _ s H (fun _ _ _ => False) (hr.deeper _)).run [] _ _ H Q J ht) (fun v s' hq => ?_) fun e s' hq => hq)
    obtain ⟨w', H', J', rv, q⟩ := hq
    exact ⟨w', H', J'.os, J'.bare, J'.base, J'.hok, rv, q⟩
  refine wpAny_call (codeAny_mono rc fun r s' hq => ?_)
  cases r with
  | error e =>
    obtain ⟨_, _, _, _, _, _, _, _, _, _, _, _, z⟩ := hq
    exact z.elim
  | ok fl =>
    cases fl with
    | ret u => exact hq
    | next => exact False.elim hq
    | brk => exact False.elim hq
    | cont => exact False.elim hq
end

/-! ### the least of a list by a key -/
theorem argBest_ok (kf : Nat → Int) : ∀ (m j : Nat), j ≤ m → argBest (fun i j => decide (kf i < kf j)) m ≤ m ∧ kf (argBest (fun i j => decide (kf i < kf j)) m) ≤ kf j ∧ (j < argBest (fun i j => decide (kf i < kf j)) m → kf (argBest (fun i j => decide (kf i < kf j)) m) < kf j)
  | 0, j, h => by
    have : j = 0 := by omega
    subst this
    exact ⟨Nat.le_refl _, Int.le_refl _, fun z => absurd z (Nat.not_lt_zero _)⟩
  | m + 1, j, h => by
    unfold argBest
    by_cases hb : kf (m + 1) < kf (argBest (fun i j => decide (kf i < kf j)) m)
    · rw [if_pos (decide_eq_true hb)]
      refine ⟨Nat.le_refl _, ?_, fun z => ?_⟩
      · by_cases e : j = m + 1
        · rw [e]
          exact Int.le_refl _
        · have := argBest_ok kf m j (by omega)
          omega
      · have := argBest_ok kf m j (by omega)
        omega
    · rw [if_neg (by rw [decide_eq_false hb]; exact Bool.false_ne_true)]
      by_cases e : j = m + 1
      · have := argBest_ok kf m m (Nat.le_refl _)
        subst e
        exact ⟨by omega, by omega, fun z => by omega⟩
      · have := argBest_ok kf m j (by omega)
        exact ⟨by omega, this.2⟩
/-- all but the tables stays -/
def SameN (H H' : Hp) : Prop := ExtN H H'
/-- min(xs, key=lambda n: .., default=None): the list is only read from then on; the answer is the first one whose key is the least -/
def tMinLam (T : List (Addr × Str)) (te tb : TE) (i : Nat) : TE := fun σ H Q => te σ H fun x H1 => ∃ (l : Addr) (xs : List V), x = .ref l ∧ H1 l = some (.lst xs) ∧ Tabs T H1 ∧ ∀ (o : Obj) (H2 : Hp), ExtN (upd H1 l (.frz o (.lst xs))) H2 → Tabs T H2 →
  ∃ kf : Nat → Int, (∀ (j : Nat) (v : V), xs[j]? = some v → tb (slot1 σ i v) H2 fun y H3 => y = .int (kf j) ∧ H3 = H2) ∧
    (xs = [] → Q .non H2) ∧ ∀ (j : Nat) (v : V), xs[j]? = some v → (∀ m, m < xs.length → kf j ≤ kf m ∧ (m < j → kf j < kf m)) → Q v H2
theorem y_minlam {T : List (Addr × Str)} {te tb : TE} {i : Nat} {σ : L2.St} {H : Hp} {Q : VK} (q : te σ H fun x H1 => ∃ (l : Addr) (xs : List V), x = .ref l ∧ H1 l = some (.lst xs) ∧ Tabs T H1 ∧ ∀ (o : Obj) (H2 : Hp), ExtN (upd H1 l (.frz o (.lst xs))) H2 → Tabs T H2 →
    ∃ kf : Nat → Int, (∀ (j : Nat) (v : V), xs[j]? = some v → tb (slot1 σ i v) H2 fun y H3 => y = .int (kf j) ∧ H3 = H2) ∧
      (xs = [] → Q .non H2) ∧ ∀ (j : Nat) (v : V), xs[j]? = some v → (∀ m, m < xs.length → kf j ≤ kf m ∧ (m < j → kf j < kf m)) → Q v H2) : tMinLam T te tb i σ H Q := q
theorem tabs_upd {T : List (Addr × Str)} {H : Hp} {l : Addr} {u : HO} (t : Tabs T H) {v : HO} (h : H l = some v) (hv : ∀ ps, v ≠ .tbl ps) (hv2 : ∀ (c : Addr) (q : Str), v ≠ CodeO c q) : Tabs T (upd H l u) := fun p hp => by
  obtain ⟨ps, h1, h2, h3⟩ := t p hp
  refine ⟨ps, ?_, h2, fun pos cv hc => ?_⟩
  · rw [upd_ne (fun z => by rw [z, h] at h1; exact hv ps (Option.some.inj h1))]
    exact h1
  · obtain ⟨c, e1, e2⟩ := h3 pos cv hc
    refine ⟨c, e1, ?_⟩
    rw [upd_ne (fun z => by rw [z, h] at e2; exact hv2 _ _ (Option.some.inj e2))]
    exact e2
/-- untracked records of ours are changed, all else is kept -/
theorem inv_moved {X : Cx} {pins : List (Addr × Obj)} {σ : L2.St} {H : Hp} {s s' : Shared} {ws : List Addr} (I : Inv X pins σ H s) (hws : ∀ b ∈ ws, FpOk X pins H b) (m : Moved ws (fun a b => b = a) s s') : Inv X pins σ H s' := by
  obtain ⟨h', g', d', t', o'⟩ := s'
  obtain ⟨hm, hg, hd, ho, ht⟩ := m
  have hg : g' = s.gens := hg
  have ho : o' = s.os := ho
  subst hg
  subst ho
  have ne : ∀ b u, H b = some u → b ∉ ws := fun b u e z => by
    have := (hws b z).1
    rw [e] at this
    cases this
  refine I.step (g' := s.gens) (d' := d') (t' := t') (ch := ws) (fun b hb => ?_) (fun b o _ _ hc e _ => hm b o hc e) (fun b o _ _ hc e _ => ⟨o.slots, hm b o hc e⟩) (fun _ _ _ _ n => n) (fun b o hc e => ⟨o, hm b o hc e⟩) (fun _ _ e => e) (fun _ _ _ e => e) (fun b ps e => ⟨#[], by rw [e]; simp⟩) (fun m hn => ?_) (fun b u e => ?_) I.bare
  · obtain ⟨f0, f1, f2, f3, f4, f5⟩ := hws b hb
    exact ⟨f3, f1, f4, f5⟩
  · obtain ⟨o, es, ep, ho, r⟩ := hn
    exact ⟨o, es, ep, hm _ o (fun z => (hws _ z).2.1 rfl) ho, r⟩
  · refine (I.hok b u e).stay (fun c v hc q => hm c v ?_ q) (fun _ q => q) fun _ _ q => q
    rcases hc with z | z
    · rw [z]
      exact ne b u e
    · exact ne c _ z
section
variable {X : Cx}
theorem pe_minlam {T : List (Addr × Str)} {c P : Addr} {k i : Nat} {a : Str} {params : Arguments} {body : Expr} {scope : Scope} {e : Expr} {te tb : TE} {p p1 p2 lpos dpos pos : Pos} {jd : Nat}
    (hcalm : X.calm = true) (hg : Gl X "min") (hm : X.mg "min" = none) (he : PE X e te) (TB : TabB X.base X.mg c P) (hcode : X.env.code = .ref c) (hmT : (P, X.env.qual ++ "<lambda>") ∈ T) (hu : ∀ p ∈ T, p.1 = P → p.2 = X.env.qual ++ "<lambda>")
    (hr : Room (k + 2) X.A) (L : LamS1 X.env.scope scope a) (hN : X.N.Nodup) (hi : X.N[i]? = some a) (hdef : defaultsOf params X.env = ([], []))
    (hbind : ∀ (q : Str) (cl : List (Str × Addr)) (pm cv ctv u : Value), bindArgs (PySem.W.kla_fn "<lambda>" q params body scope cl pm cv ctv) ⟨[u], []⟩ = pure [(a, u)])
    (hbody : ∀ (A : Around) (outer : List Env) (s : Shared) (H : Hp) (E : XK) (f c' : Addr), Room k (A.deeper (lamEnv X scope s.heap.objs.size f c')) → PE (lamCx X A outer s H E scope f c') body tb)
    (hs : starEach [e] X.env = (false, eval e X.env) :: starEach [] X.env := by rfl) (hst : backTo pos (starEach [e] X.env) = (false, eval e X.env) :: backTo pos (starEach [] X.env) := by rfl) (hpl : (backTo pos (starEach [e] X.env)).any (·.1) = false := by rfl) :
    PE X (.Call (.Name "min" p) [e] [⟨some "key", .Lambda params body scope lpos, p1⟩, ⟨some "default", .Constant .none jd dpos, p2⟩] pos) (tMinLam T te tb i) := by
  refine ⟨fun pins s σ H Q I h => ?_⟩
  have hv : bootBuiltins "min" = some (.builtin "min") := by decide +kernel
  refine wpAny_Call_Name_kw (ld_blt I hg hm hv ?_ (by decide) (by decide))
  have ha : PA X [e] (tCons te tNil) := pa_cons he pa_nil hs
  refine PyProof.Rows.callWith_kw (thn (ha.run pos pins s σ H (fun vs H1 => match vs with
    | [x] => ∃ (l : Addr) (xs : List V), x = .ref l ∧ H1 l = some (.lst xs) ∧ Tabs T H1 ∧ ∀ (o : Obj) (H2 : Hp), ExtN (upd H1 l (.frz o (.lst xs))) H2 → Tabs T H2 →
        ∃ kf : Nat → Int, (∀ (j : Nat) (v : V), xs[j]? = some v → tb (slot1 σ i v) H2 fun y H3 => y = .int (kf j) ∧ H3 = H2) ∧
          (xs = [] → Q .non H2) ∧ ∀ (j : Nat) (v : V), xs[j]? = some v → (∀ m, m < xs.length → kf j ≤ kf m ∧ (m < j → kf j < kf m)) → Q v H2
    | _ => False) I h) fun us s1 ⟨vs, H1, I1, r1, q1⟩ => ?_) hst hpl rfl rfl
  match vs, r1, q1 with
  | [x], r1, ⟨l, xs, ex, hl, hT, q⟩ =>
  subst ex
  obtain ⟨ul, rfl, rl⟩ := vals1 r1
  obtain rfl : ul = Value.ref l := rl
  obtain ⟨od, I2⟩ := I1.lock hl (True.intro : Mut (some (.lst xs)))
  have T2 : Tabs T (upd H1 l (.frz od (.lst xs))) := tabs_upd hT hl (fun ps z => by cases z) (fun c q z => by unfold CodeO at z; cases z)
  refine wpAny_evalAll_cons (wpAny_bind ?_)
  refine lam_make2 (T := T) I2 TB hcode hmT hu T2 hdef (L.has I2.ok) fun f c' pm ctv H2 s2 I3 eN T3 hf hfn hfr hco => ?_
  refine wpAny_bind (wpAny_standAt (wpAny_pure ?_))
  refine wpAny_evalAll_cons (wpAny_bind (PyProof.Rows.Constant_none (wpAny_bind (wpAny_standAt (wpAny_pure (wpAny_evalAll_nil ?_))))))
  obtain ⟨kf, hk, h0, hb⟩ := q od H2 eN T3
  have I4 := I3
  show wpAny _ _ (call (.builtin "min") [.ref l] [(Str.ofString "key", .ref f), (Str.ofString "default", .none)]) _ _ _
  have hl2 : H2 l = some (.frz od (.lst xs)) := eN _ _ upd_same (fun ps z => by cases z)
  obtain ⟨gl, gz, its, nl, rvs, gd⟩ := (show ObjOk X.prog X.w H2 s2.heap l (.frz od (.lst xs)) from I4.hok l _ hl2)
  have ed : od = { cls := .type "list", data := .seq its.toArray nl } := by
    rw [gl] at gd
    exact Option.some.inj gd
  have hlist : ∀ s' : Shared, Inv X pins σ H2 s' → s'.heap.IsList l its.toArray := fun s' J => by
    have := (show ObjOk X.prog X.w H2 s'.heap l (.frz od (.lst xs)) from J.hok l _ hl2).1
    rw [ed] at this
    exact ⟨_, this, rfl, nl, rfl⟩
  have hll : l < s2.heap.objs.size := Heap.lt_size gl
  have hff : f < s2.heap.objs.size := Heap.lt_size hf
  have nI : H2 s2.heap.objs.size = none := I3.hok.fresh (Nat.le_refl _)
  have nS : H2 (s2.heap.objs.size + 1) = none := I3.hok.fresh (Nat.le_succ _)
  have fI := I3.fpOk (H' := H2) (Nat.le_refl _) nI
  have fS := I3.fpOk (H' := H2) (Nat.le_succ _) nS
  have hws : ∀ b ∈ [s2.heap.objs.size + 1, s2.heap.objs.size], FpOk X pins H2 b := fun b hb => by
    rcases List.mem_cons.mp hb with e | e
    · rw [e]
      exact fS
    · rw [List.mem_singleton.mp e]
      exact fI
  have frI : ∀ {b : Addr}, FpOk X pins H2 b → ∀ {s' : Shared}, Inv X pins σ H2 s' → b ∉ frs X.stack := fun fp s' J z => by
    rcases List.mem_cons.mp (J.stkSub _ z) with e | e
    · exact fp.2.1 e
    · exact fp.2.2.1 e
  have hlen : xs.length = its.length := rvs.length
  refine call_min_walkKD ?_
  refine wpAny_pyIter_list (hlist s2 I3) ?_
  have hsz : (s2.heap.push { cls := .type "list_iterator", data := .fields #[.ref l, .int 0 0] }).objs.size = s2.heap.objs.size + 1 := Heap.size_push ..
  have kp : ∀ b o, s2.heap.get? b = some o → (s2.heap.push { cls := .type "list_iterator", data := .fields #[.ref l, .int 0 0] }).get? b = some o := fun b o e => Heap.get?_push_of_some _ e
  have W := (Walks.list (prog := X.prog) (w := X.w) (A := X.A.in1) (I3.ok.hd hcalm) s2.heap.objs.size l (Nat.ne_of_lt hll) its.toArray).toS
  refine ⟨s2.heap.objs.size, [s2.heap.objs.size, l], [s2.heap.objs.size], _, _, _, _, fun s' => Inv X pins σ H2 s' ∧ s'.heap.get? f = some (PySem.W.kla_obj "<lambda>" (X.env.qual ++ "<lambda>") params body scope (cloFrom X.env.cells scope.names []) pm c' ctv), fun i k _ => ∃ t, k = .int (kf i) t, fun i j => decide (kf i < kf j), rfl, W, ?_, ?_, ?_, ?_, ?_, ?_⟩
  · exact ⟨⟨_, Heap.get?_push_size _ rfl, rfl, rfl⟩, by
      obtain ⟨o, a1, a2, a3⟩ := hlist s2 I3
      exact ⟨o, kp _ _ a1, a2, a3⟩⟩
  · intro b hb
    rw [hsz]
    rcases List.mem_cons.mp hb with e | e
    · rw [e]
      exact Nat.lt_succ_self _
    · rw [List.mem_singleton.mp e]
      exact Nat.lt_succ_of_lt hll
  · rw [hsz]
    refine ⟨fun s3 s4 J m => ⟨inv_moved J.1 hws m, m.heap f _ (fun z => ?_) J.2⟩, fun _ _ _ _ h _ => h, fun j v s3 o Q' E' hj hP J st hS k2 => ?_, fun j j2 ki kj s3 Q' E' _ h1 h2 h3 => ?_⟩
    · rcases List.mem_cons.mp z with e | e
      · rw [e] at hff
        exact absurd hff (Nat.not_lt.mpr (Nat.le_succ _))
      · rw [List.mem_singleton.mp e] at hff
        exact Nat.lt_irrefl _ hff
    · have hj' : j < its.length := by simpa using hj
      have hx := List.getElem?_eq_getElem (show j < xs.length by omega)
      obtain ⟨u, hu, ru⟩ := rvs.get hx
      have hP' : its[j]? = some v := by simpa using hP
      rw [hu] at hP'
      obtain rfl : u = v := Option.some.inj hP'
      have hc4 : H2 c' = some (CodeO c' (X.env.qual ++ "<lambda>")) := hco
      refine wpAny_mono (lam_call1 (k := k) J.1 L hN hi J.2 hc4 (hbind _ _ _ _ _ _) J.1.env0.in1 (hr.in1) ru (fun A' outer s5 H5 E5 hr5 => hbody A' outer s5 H5 E5 f c' hr5) (hk j _ hx)) (fun w s4 hq => ?_) fun _ _ z => z.elim
      obtain ⟨y, H', os, bare, un, hok, ry, ey, eH⟩ := hq
      subst ey
      subst eH
      have J4 := J.1.call' (ch := []) os un hok bare (fun b z => absurd z (by simp))
      obtain ⟨t, rfl⟩ := ry
      refine k2 _ _ ⟨J4, un.keep _ _ J.2 hfn hfr (by simp)⟩ ⟨?_, hlist _ J4⟩ (un.keep _ _ hS nS (frI fS J.1) (by simp)) ⟨t, rfl⟩ fun _ _ h => h
      obtain ⟨oi, g1, g2, g3⟩ := st.1
      exact ⟨oi, un.keep _ _ g1 nI (frI fI J.1) (by simp), g2, g3⟩
    · exact CmpOf.ints_lt (P := fun i v => ∃ t, v = .int (kf i) t) kf (fun i v h => h) j j2 _ _ _ _ _ h1 h2 h3
  · exact ⟨I3.kept kp, kp _ _ hf⟩
  · intro hn s3 J
    have : xs = [] := by
      have : its.length = 0 := by simpa using hn
      rw [this] at hlen
      exact List.length_eq_zero_iff.mp hlen
    exact ⟨.non, H2, J.1, rfl, h0 this⟩
  · intro hn v s3 hP J
    have hn' : 0 < its.length := by simpa using hn
    have hb2 := argBest_ok kf (its.toArray.size - 1)
    generalize argBest (fun i j => decide (kf i < kf j)) (its.toArray.size - 1) = m at hb2 hP
    have hsz2 : its.toArray.size = its.length := List.size_toArray ..
    have hm : m < xs.length := by
      have := (hb2 0 (Nat.zero_le _)).1
      omega
    have hx := List.getElem?_eq_getElem hm
    obtain ⟨u, hu, ru⟩ := rvs.get hx
    have hP' : its[m]? = some v := by simpa using hP
    rw [hu] at hP'
    obtain rfl : u = v := Option.some.inj hP'
    exact ⟨_, H2, J.1, ru, hb m _ hx fun m2 hm2 => (hb2 m2 (by omega)).2⟩
end
end Y
/-! Mathematics of the dealing of turns: tickets, their order, the latest turns. Plain Lean. -/
namespace Deal

/-- how many turns another guest (tp, tc) has ahead of the turn number k of one with (sp, sc); e: the other one stands earlier -/
def aheadP (sp tp : Nat) (e : Bool) (k : Nat) : Nat := min tp (if e then k * tp / sp + 1 else (k * tp + sp - 1) / sp)
def ahead (sp tp tc : Nat) (e : Bool) (k : Nat) : Nat :=
  if k < sp then aheadP sp tp e k else min tc (max tp (k + if e then 1 else 0))

/-- ticket x of a guest (tp, tc) goes ahead of ticket k of (sp, sc); e: the first stands earlier -/
def goes (sp tp : Nat) (e : Bool) (k x : Nat) : Prop :=
  (x < tp ∧ (sp ≤ k ∨ x * sp < k * tp ∨ (x * sp = k * tp ∧ e = true))) ∨ (tp ≤ x ∧ sp ≤ k ∧ (x < k ∨ (x = k ∧ e = true)))

theorem div_lt_ceil {a b x : Nat} (hb : 0 < b) : x < (a + b - 1) / b ↔ x * b < a := by
  rw [Nat.lt_iff_add_one_le, Nat.le_div_iff_mul_le hb, Nat.add_mul]
  omega
theorem lt_div_succ {a b x : Nat} (hb : 0 < b) : x < a / b + 1 ↔ x * b ≤ a := by
  rw [Nat.lt_succ_iff, Nat.le_div_iff_mul_le hb]

theorem ahead_iff {sp tp tc : Nat} {e : Bool} {k x : Nat} (hx : x < tc) : x < ahead sp tp tc e k ↔ goes sp tp e k x := by
  unfold ahead goes
  by_cases hk : k < sp
  · rw [if_pos hk]
    unfold aheadP
    have hsp : 0 < sp := by omega
    rw [Nat.lt_min]
    cases e with
    | true =>
      rw [if_pos rfl, lt_div_succ hsp]
      constructor
      · rintro ⟨h1, h2⟩
        refine Or.inl ⟨h1, Or.inr ?_⟩
        rcases Nat.lt_or_eq_of_le h2 with h | h
        · exact Or.inl h
        · exact Or.inr ⟨h, rfl⟩
      · rintro (⟨h1, h2 | h2 | h2⟩ | ⟨h1, h2, h3⟩)
        · omega
        · exact ⟨h1, Nat.le_of_lt h2⟩
        · exact ⟨h1, Nat.le_of_eq h2.1⟩
        · omega
    | false =>
      rw [if_neg (by simp), div_lt_ceil hsp]
      constructor
      · rintro ⟨h1, h2⟩
        exact Or.inl ⟨h1, Or.inr (Or.inl h2)⟩
      · rintro (⟨h1, h2 | h2 | h2⟩ | ⟨h1, h2, h3⟩)
        · omega
        · exact ⟨h1, h2⟩
        · exact absurd h2.2 (by simp)
        · omega
  · rw [if_neg hk]
    rw [Nat.lt_min]
    cases e with
    | true =>
      rw [if_pos rfl]
      show x < tc ∧ x < max tp (k + 1) ↔ _
      simp only [and_true]
      omega
    | false =>
      rw [if_neg (by simp)]
      simp only [Bool.false_eq_true, and_false, or_false]
      omega

theorem ahead_le {sp tp tc : Nat} {e : Bool} {k : Nat} (h : tp ≤ tc) : ahead sp tp tc e k ≤ tc := by
  unfold ahead aheadP
  split
  · exact Nat.le_trans (Nat.min_le_left _ _) h
  · exact Nat.min_le_left _ _

/-- a/p < b/q ≤ c/r -/
theorem frac_lt {a b c p q r : Nat} (hq : 0 < q) (hr : 0 < r) (h1 : a * q < b * p) (h2 : b * r ≤ c * q) : a * r < c * p := by
  have e1 : a * q * r < b * p * r := Nat.mul_lt_mul_of_pos_right h1 hr
  have e2 : b * r * p ≤ c * q * p := Nat.mul_le_mul_right _ h2
  have e3 : a * r * q < c * p * q := by
    have x1 : a * r * q = a * q * r := Nat.mul_right_comm _ _ _
    have x2 : b * p * r = b * r * p := Nat.mul_right_comm _ _ _
    have x3 : c * p * q = c * q * p := Nat.mul_right_comm _ _ _
    omega
  exact Nat.lt_of_mul_lt_mul_right e3

theorem goes_total {sp tp : Nat} {e : Bool} {k x : Nat} (h : ¬ goes sp tp e k x) : goes tp sp (!e) x k := by
  unfold goes at *
  have h1 : ¬ (x < tp ∧ (sp ≤ k ∨ x * sp < k * tp ∨ (x * sp = k * tp ∧ e = true))) := fun z => h (Or.inl z)
  have h2 : ¬ (tp ≤ x ∧ sp ≤ k ∧ (x < k ∨ (x = k ∧ e = true))) := fun z => h (Or.inr z)
  by_cases hx : x < tp
  · have h3 : ¬ (sp ≤ k) := fun z => h1 ⟨hx, Or.inl z⟩
    have h4 : ¬ (x * sp < k * tp) := fun z => h1 ⟨hx, Or.inr (Or.inl z)⟩
    have h5 : ¬ (x * sp = k * tp ∧ e = true) := fun z => h1 ⟨hx, Or.inr (Or.inr z)⟩
    refine Or.inl ⟨by omega, Or.inr ?_⟩
    by_cases h6 : x * sp = k * tp
    · refine Or.inr ⟨h6.symm, ?_⟩
      cases e with
      | true => exact absurd ⟨h6, rfl⟩ h5
      | false => rfl
    · exact Or.inl (by omega)
  · by_cases hk : k < sp
    · exact Or.inl ⟨hk, Or.inl (by omega)⟩
    · refine Or.inr ⟨by omega, by omega, ?_⟩
      by_cases h6 : x = k
      · refine Or.inr ⟨h6.symm, ?_⟩
        cases e with
        | true => exact absurd ⟨by omega, by omega, Or.inr ⟨h6, rfl⟩⟩ h2
        | false => rfl
      · refine Or.inl ?_
        by_cases h7 : x < k
        · exact absurd ⟨by omega, by omega, Or.inl h7⟩ h2
        · omega
theorem goes_asymm {sp tp : Nat} {e : Bool} {k x : Nat} (h : goes sp tp e k x) : ¬ goes tp sp (!e) x k := by
  unfold goes at *
  rintro (⟨h1, h2⟩ | ⟨h1, h2, h3⟩)
  · rcases h with ⟨g1, g2⟩ | ⟨g1, g2, g3⟩
    · rcases g2 with g | g | g
      · omega
      · rcases h2 with z | z | z <;> omega
      · rcases h2 with z | z | z
        · omega
        · omega
        · have h1 := g.2
          have h2 := z.2
          rw [h1] at h2
          exact Bool.noConfusion h2
    · omega
  · rcases h with ⟨g1, g2⟩ | ⟨g1, g2, g3⟩
    · omega
    · rcases h3 with h3 | h3
      · rcases g3 with z | z <;> omega
      · rcases g3 with z | z
        · omega
        · have h1 := z.2
          have h2 := h3.2
          rw [h1] at h2
          exact Bool.noConfusion h2

theorem ahead_mono {sp tp tc : Nat} {e : Bool} {k k' : Nat} (ht : tp ≤ tc) (h : k ≤ k') : ahead sp tp tc e k ≤ ahead sp tp tc e k' := by
  unfold ahead
  by_cases h1 : k < sp
  · rw [if_pos h1]
    by_cases h2 : k' < sp
    · rw [if_pos h2]
      unfold aheadP
      have m : k * tp ≤ k' * tp := Nat.mul_le_mul_right _ h
      have m1 : k * tp / sp ≤ k' * tp / sp := Nat.div_le_div_right m
      have m2 : (k * tp + sp - 1) / sp ≤ (k' * tp + sp - 1) / sp := Nat.div_le_div_right (by omega)
      cases e
      · simp only [Bool.false_eq_true, if_false]
        omega
      · simp only [if_true]
        omega
    · rw [if_neg h2]
      unfold aheadP
      refine Nat.le_trans (Nat.min_le_left _ _) ?_
      rw [Nat.le_min]
      exact ⟨ht, Nat.le_max_left _ _⟩
  · rw [if_neg h1, if_neg (show ¬ k' < sp by omega)]
    cases e
    · simp only [Bool.false_eq_true, if_false]
      omega
    · simp only [if_true]
      omega

/-! ### sums -/
def sumTo (f : Nat → Nat) : Nat → Nat
  | 0 => 0
  | n + 1 => sumTo f n + f n
theorem sumTo_le {f g : Nat → Nat} : ∀ {n : Nat}, (∀ j, j < n → f j ≤ g j) → sumTo f n ≤ sumTo g n
  | 0, _ => Nat.le_refl _
  | n + 1, h => Nat.add_le_add (sumTo_le fun j hj => h j (by omega)) (h n (by omega))
theorem sumTo_congr {f g : Nat → Nat} : ∀ {n : Nat}, (∀ j, j < n → f j = g j) → sumTo f n = sumTo g n
  | 0, _ => rfl
  | n + 1, h => by
    unfold sumTo
    rw [sumTo_congr (n := n) fun j hj => h j (by omega), h n (by omega)]
/-- one place taken out -/
theorem sumTo_at {f : Nat → Nat} {i : Nat} : ∀ {n : Nat}, i < n → sumTo f n = f i + sumTo (fun j => if j = i then 0 else f j) n
  | 0, h => absurd h (Nat.not_lt_zero _)
  | n + 1, h => by
    unfold sumTo
    by_cases e : i = n
    · subst e
      have : sumTo (fun j => if j = i then 0 else f j) i = sumTo f i := sumTo_congr fun j hj => by
        show (if j = i then 0 else f j) = f j
        rw [if_neg (by omega)]
      rw [this, if_pos rfl]
      omega
    · have h2 : i < n := by omega
      rw [sumTo_at (f := f) (n := n) h2]
      show _ = f i + (sumTo (fun j => if j = i then 0 else f j) n + (if n = i then 0 else f n))
      rw [if_neg (show ¬ n = i from fun z => e z.symm)]
      omega

/-! ### the case -/
structure Ok (n L : Nat) (p c : Nat → Nat) : Prop where
  pc : ∀ i, i < n → p i ≤ c i
  one : ∀ i, i < n → 1 ≤ c i
  cL : ∀ i, i < n → c i ≤ L
  sum : sumTo p n ≤ L

def A (p c : Nat → Nat) (i k j : Nat) : Nat := ahead (p i) (p j) (c j) (decide (j < i)) k
/-- the latest turn (from 1 on) of the ticket k of guest i -/
def T (n : Nat) (p c : Nat → Nat) (i k : Nat) : Nat := k + 1 + sumTo (fun j => if j = i then 0 else A p c i k j) n

theorem T_lt {n L : Nat} {p c : Nat → Nat} (O : Ok n L p c) {i k k' : Nat} (h : k < k') : T n p c i k < T n p c i k' := by
  unfold T
  have : sumTo (fun j => if j = i then 0 else A p c i k j) n ≤ sumTo (fun j => if j = i then 0 else A p c i k' j) n := sumTo_le fun j hj => by
    show (if j = i then 0 else A p c i k j) ≤ (if j = i then 0 else A p c i k' j)
    split
    · exact Nat.le_refl _
    · exact ahead_mono (O.pc j hj) (by omega)
  omega
theorem T_le {n L : Nat} {p c : Nat → Nat} (O : Ok n L p c) {i k k' : Nat} (h : k ≤ k') : T n p c i k ≤ T n p c i k' := by
  rcases Nat.lt_or_eq_of_le h with z | z
  · exact Nat.le_of_lt (T_lt O z)
  · rw [z]
    exact Nat.le_refl _
theorem T_ge (n : Nat) (p c : Nat → Nat) (i k : Nat) : k + 1 ≤ T n p c i k := by
  unfold T
  omega
theorem T_promise {n L : Nat} {p c : Nat → Nat} (O : Ok n L p c) {i k : Nat} (hi : i < n) (hk : k < p i) : T n p c i k ≤ L := by
  unfold T
  have h1 := sumTo_at (f := p) hi
  have h2 : sumTo (fun j => if j = i then 0 else A p c i k j) n ≤ sumTo (fun j => if j = i then 0 else p j) n := sumTo_le fun j hj => by
    show (if j = i then 0 else A p c i k j) ≤ (if j = i then 0 else p j)
    split
    · exact Nat.le_refl _
    · unfold A ahead
      rw [if_pos hk]
      unfold aheadP
      exact Nat.min_le_left _ _
  have h3 := O.sum
  omega

/-! ### the dealing when all are ready -/
/-- who gets a turn, by the turns u that were used -/
def Best (n : Nat) (p c u : Nat → Nat) : Option Nat → Prop
  | none => ∀ j, j < n → c j ≤ u j
  | some b => b < n ∧ u b < c b ∧ ∀ j, j < n → j ≠ b → u j < c j → goes (p j) (p b) (decide (b < j)) (u j) (u b)

/-- the turns, from 1 on, at which i got one -/
def got : List (Option Nat) → Nat → Nat → List Nat
  | [], _, _ => []
  | x :: r, t, i => if x = some i then (t + 1) :: got r (t + 1) i else got r (t + 1) i
theorem got_app : ∀ (d e : List (Option Nat)) (t i : Nat), got (d ++ e) t i = got d t i ++ got e (t + d.length) i
  | [], e, t, i => by simp [got]
  | x :: r, e, t, i => by
    show (if x = some i then (t + 1) :: got (r ++ e) (t + 1) i else got (r ++ e) (t + 1) i) = _
    rw [got_app r e (t + 1) i, List.length_cons, show t + 1 + r.length = t + (r.length + 1) by omega]
    show _ = (if x = some i then (t + 1) :: got r (t + 1) i else got r (t + 1) i) ++ _
    split <;> simp
theorem got_snoc (d : List (Option Nat)) (x : Option Nat) (i : Nat) : got (d ++ [x]) 0 i = if x = some i then got d 0 i ++ [d.length + 1] else got d 0 i := by
  rw [got_app]
  simp only [got, Nat.zero_add]
  split <;> simp
def cnt (d : List (Option Nat)) (i : Nat) : Nat := (got d 0 i).length
theorem cnt_snoc (d : List (Option Nat)) (x : Option Nat) (i : Nat) : cnt (d ++ [x]) i = if x = some i then cnt d i + 1 else cnt d i := by
  unfold cnt
  rw [got_snoc]
  split <;> simp

structure Good (n : Nat) (p c : Nat → Nat) (d : List (Option Nat)) : Prop where
  le : ∀ i, i < n → cnt d i ≤ c i
  closed : ∀ i, i < n → ∀ k, k < cnt d i → ∀ j, j < n → j ≠ i → ∀ x, x < c j → goes (p i) (p j) (decide (j < i)) k x → x < cnt d j
  turns : ∀ i, i < n → got d 0 i = (List.range (cnt d i)).map (T n p c i)
  total : sumTo (cnt d) n = d.length ∨ (∀ i, i < n → c i ≤ cnt d i)
  perm : List.Perm ((List.range n).flatMap (got d 0)) ((List.range (sumTo (cnt d) n)).map (· + 1))
  names : ∀ i, some i ∈ d → i < n

theorem flip {a b : Nat} (h : a ≠ b) : (!decide (a < b)) = decide (b < a) := by
  by_cases h1 : a < b
  · rw [decide_eq_true h1, decide_eq_false (by omega)]
    rfl
  · rw [decide_eq_false h1, decide_eq_true (by omega)]
    rfl

theorem sumTo_zero : ∀ n : Nat, sumTo (fun _ => 0) n = 0
  | 0 => rfl
  | n + 1 => by
    unfold sumTo
    rw [sumTo_zero n]

theorem good_nil (n : Nat) (p c : Nat → Nat) : Good n p c [] where
  le := fun i _ => Nat.zero_le _
  closed := fun i _ k hk => absurd hk (Nat.not_lt_zero _)
  turns := fun i _ => rfl
  total := Or.inl (sumTo_zero n)
  perm := by
    have e : sumTo (cnt []) n = 0 := sumTo_zero n
    rw [e]
    have : (List.range n).flatMap (got [] 0) = [] := by
      rw [List.flatMap_eq_nil_iff]
      intro x _
      rfl
    rw [this]
    exact List.Perm.refl _
  names := fun i h => by cases h

/-- what the tickets ahead of the next one of b are: all that were dealt -/
theorem at_best {n : Nat} {p c : Nat → Nat} {d : List (Option Nat)} (pc : ∀ i, i < n → p i ≤ c i) (G : Good n p c d) {b : Nat} (hb : Best n p c (cnt d) (some b)) : ∀ j, j < n → j ≠ b → A p c b (cnt d b) j = cnt d j := by
  obtain ⟨hn, hc, hm⟩ := hb
  intro j hj hne
  refine Nat.le_antisymm ?_ ?_
  · -- none of j's next tickets goes ahead
    by_cases hl : A p c b (cnt d b) j ≤ cnt d j
    · exact hl
    · have h1 : cnt d j < A p c b (cnt d b) j := by omega
      have h2 : A p c b (cnt d b) j ≤ c j := ahead_le (pc j hj)
      have h3 : cnt d j < c j := by omega
      have h4 := (ahead_iff h3).mp h1
      have h5 := hm j hj hne h3
      have h6 := goes_asymm h5
      rw [flip (fun z => hne z.symm)] at h6
      exact absurd h4 h6
  · -- all of j's dealt tickets went ahead
    by_cases h0 : cnt d j = 0
    · omega
    · have hx : cnt d j - 1 < c j := by
        have := G.le j hj
        omega
      have h1 : ¬ goes (p j) (p b) (decide (b < j)) (cnt d j - 1) (cnt d b) := fun z => by
        have := G.closed j hj (cnt d j - 1) (by omega) b hn (fun e => hne e.symm) (cnt d b) hc z
        omega
      have h2 := goes_total h1
      rw [flip (fun z => hne z.symm)] at h2
      have h3 := (ahead_iff hx).mpr h2
      unfold A
      omega

theorem T_best {n : Nat} {p c : Nat → Nat} {d : List (Option Nat)} (pc : ∀ i, i < n → p i ≤ c i) (G : Good n p c d) {b : Nat} (hb : Best n p c (cnt d) (some b)) : T n p c b (cnt d b) = sumTo (cnt d) n + 1 := by
  have h := at_best pc G hb
  unfold T
  have e : sumTo (fun j => if j = b then 0 else A p c b (cnt d b) j) n = sumTo (fun j => if j = b then 0 else cnt d j) n := sumTo_congr fun j hj => by
    show (if j = b then 0 else _) = (if j = b then 0 else _)
    split
    · rfl
    · rename_i hne
      exact h j hj hne
  rw [e, sumTo_at (f := cnt d) hb.1]
  omega

theorem perm_step {f g : Nat → List Nat} {b y : Nat} : ∀ {n : Nat}, b < n → (∀ i, i ≠ b → g i = f i) → g b = f b ++ [y] → List.Perm ((List.range n).flatMap g) ((List.range n).flatMap f ++ [y])
  | 0, h, _, _ => absurd h (Nat.not_lt_zero _)
  | n + 1, h, h1, h2 => by
    rw [List.range_succ, List.flatMap_append, List.flatMap_append]
    by_cases e : b = n
    · subst e
      have : (List.range b).flatMap g = (List.range b).flatMap f := by
        rw [List.flatMap_def, List.flatMap_def]
        congr 1
        refine List.map_congr_left fun i hi => h1 i ?_
        have := List.mem_range.mp hi
        omega
      rw [this]
      simp only [List.flatMap_cons, List.flatMap_nil, List.append_nil]
      rw [h2, List.append_assoc]
    · have ih := perm_step (n := n) (by omega) h1 h2
      simp only [List.flatMap_cons, List.flatMap_nil, List.append_nil]
      rw [h1 n (fun z => e z.symm)]
      refine (List.Perm.append_right _ ih).trans ?_
      rw [List.append_assoc, List.append_assoc]
      exact List.Perm.append_left _ List.perm_append_comm

theorem sumTo_cnt_snoc {n : Nat} {d : List (Option Nat)} {b : Nat} (hb : b < n) : sumTo (cnt (d ++ [some b])) n = sumTo (cnt d) n + 1 := by
  rw [sumTo_at (f := cnt (d ++ [some b])) hb, sumTo_at (f := cnt d) hb, cnt_snoc, if_pos rfl]
  have : sumTo (fun j => if j = b then 0 else cnt (d ++ [some b]) j) n = sumTo (fun j => if j = b then 0 else cnt d j) n := sumTo_congr fun j _ => by
    show (if j = b then 0 else _) = (if j = b then 0 else _)
    split
    · rfl
    · rename_i hne
      rw [cnt_snoc, if_neg (fun z => hne (Option.some.inj z).symm)]
  omega

theorem good_snoc {n : Nat} {p c : Nat → Nat} {d : List (Option Nat)} (pc : ∀ i, i < n → p i ≤ c i) (G : Good n p c d) {x : Option Nat} (hb : Best n p c (cnt d) x) : Good n p c (d ++ [x]) := by
  cases x with
  | none =>
    have e : ∀ i, cnt (d ++ [none]) i = cnt d i := fun i => by
      rw [cnt_snoc, if_neg (fun z => nomatch z)]
    have e2 : ∀ i, got (d ++ [none]) 0 i = got d 0 i := fun i => by
      rw [got_snoc, if_neg (fun z => nomatch z)]
    have e3 : cnt (d ++ [none]) = cnt d := funext e
    have e4 : got (d ++ [none]) 0 = got d 0 := funext e2
    refine ⟨fun i hi => by rw [e]; exact G.le i hi, fun i hi k hk j hj hne x hx hg => ?_, fun i hi => by rw [e, e2]; exact G.turns i hi, Or.inr fun i hi => by rw [e]; exact hb i hi, by rw [e3, e4]; exact G.perm, fun i hi => ?_⟩
    · rw [e] at hk ⊢
      exact G.closed i hi k hk j hj hne x hx hg
    · rcases List.mem_append.mp hi with h | h
      · exact G.names i h
      · simp at h
  | some b =>
    obtain ⟨hn, hc, hm⟩ := id hb
    have hA := at_best pc G hb
    have hT := T_best pc G hb
    have eb : cnt (d ++ [some b]) b = cnt d b + 1 := by rw [cnt_snoc, if_pos rfl]
    have eo : ∀ i, i ≠ b → cnt (d ++ [some b]) i = cnt d i := fun i hi => by
      rw [cnt_snoc, if_neg (fun z => hi (Option.some.inj z).symm)]
    have hs : sumTo (cnt d) n = d.length := by
      rcases G.total with h | h
      · exact h
      · have := h b hn
        omega
    refine ⟨fun i hi => ?_, fun i hi k hk j hj hne x hx hg => ?_, fun i hi => ?_, Or.inl ?_, ?_, fun i hi => ?_⟩
    · by_cases e : i = b
      · subst e
        rw [eb]
        omega
      · rw [eo i e]
        exact G.le i hi
    · by_cases e : i = b
      · subst e
        rw [eo j hne]
        rw [eb] at hk
        by_cases hk2 : k < cnt d i
        · exact G.closed i hi k hk2 j hj hne x hx hg
        · have : k = cnt d i := by omega
          subst this
          have h1 := (ahead_iff hx).mpr hg
          have h2 := hA j hj hne
          unfold A at h2
          omega
      · rw [eo i e] at hk
        have h1 := G.closed i hi k hk j hj hne x hx hg
        by_cases e2 : j = b
        · subst e2
          rw [eb]
          omega
        · rw [eo j e2]
          exact h1
    · by_cases e : i = b
      · subst e
        rw [got_snoc, if_pos rfl, eb, List.range_succ, List.map_append, ← G.turns i hi, List.map_cons, List.map_nil, hT, hs]
      · rw [got_snoc, if_neg (fun z => e (Option.some.inj z).symm), eo i e]
        exact G.turns i hi
    · rw [sumTo_cnt_snoc hn, hs, List.length_append]
      rfl
    · rw [sumTo_cnt_snoc hn, List.range_succ, List.map_append]
      refine (perm_step (f := got d 0) (y := d.length + 1) hn (fun i hi => ?_) ?_).trans ?_
      · rw [got_snoc, if_neg (fun z => hi (Option.some.inj z).symm)]
      · rw [got_snoc, if_pos rfl]
      · rw [List.map_cons, List.map_nil, hs]
        rw [← hs]
        exact List.Perm.append_right _ G.perm
    · rcases List.mem_append.mp hi with h | h
      · exact G.names i h
      · have : i = b := by simpa using h
        rw [this]
        exact hn

/-- behind a whole stretch: whose turns came -/
theorem came {n L : Nat} {p c : Nat → Nat} {d : List (Option Nat)} (O : Ok n L p c) (G : Good n p c d) (hL : d.length = L) {i k : Nat} (hi : i < n) : k < cnt d i ↔ k < c i ∧ T n p c i k ≤ L := by
  constructor
  · intro h
    refine ⟨Nat.lt_of_lt_of_le h (G.le i hi), ?_⟩
    have hm : T n p c i k ∈ got d 0 i := by
      rw [G.turns i hi]
      exact List.mem_map.mpr ⟨k, List.mem_range.mpr h, rfl⟩
    have : ∀ (d : List (Option Nat)) (t i y : Nat), y ∈ got d t i → y ≤ t + d.length := by
      intro d
      induction d with
      | nil =>
        intro t i y h
        cases h
      | cons x r ih =>
        intro t i y h
        unfold got at h
        rw [List.length_cons]
        split at h
        · rcases List.mem_cons.mp h with e | h
          · omega
          · have := ih _ _ _ h
            omega
        · have := ih _ _ _ h
          omega
    have := this d 0 i _ hm
    omega
  · rintro ⟨h1, h2⟩
    apply Nat.lt_of_not_le
    intro h3
    have hs : sumTo (cnt d) n = L := by
      rcases G.total with h | h
      · rw [h, hL]
      · have := h i hi
        omega
    have h4 : T n p c i (cnt d i) ≤ L := Nat.le_trans (T_le O h3) h2
    have h5 : sumTo (cnt d) n + 1 ≤ T n p c i (cnt d i) := by
      unfold T
      rw [sumTo_at (f := cnt d) hi]
      have : sumTo (fun j => if j = i then 0 else cnt d j) n ≤ sumTo (fun j => if j = i then 0 else A p c i (cnt d i) j) n := sumTo_le fun j hj => by
        show (if j = i then 0 else _) ≤ (if j = i then 0 else _)
        split
        · exact Nat.le_refl _
        · rename_i hne
          by_cases h0 : cnt d j = 0
          · omega
          · have hx : cnt d j - 1 < c j := by
              have := G.le j hj
              omega
            have g1 : ¬ goes (p j) (p i) (decide (i < j)) (cnt d j - 1) (cnt d i) := fun z => by
              have := G.closed j hj (cnt d j - 1) (by omega) i hi (fun e => hne e.symm) (cnt d i) (by omega) z
              omega
            have g2 := goes_total g1
            rw [flip (fun z => hne z.symm)] at g2
            have g3 := (ahead_iff hx).mpr g2
            unfold A
            omega
      omega
    omega

/-- how many turns of i come -/
def many (n L : Nat) (p c : Nat → Nat) (i : Nat) : Nat := ((List.range L).filter fun k => decide (k < c i) && decide (T n p c i k ≤ L)).length
theorem range_filter_pre {q : Nat → Bool} (h : ∀ k, q (k + 1) = true → q k = true) : ∀ L : Nat, (List.range L).filter q = List.range ((List.range L).filter q).length
  | 0 => rfl
  | L + 1 => by
    have ih := range_filter_pre h L
    rw [List.range_succ, List.filter_append]
    by_cases e : q L = true
    · have all : ∀ m, m ≤ L → q (L - m) = true := by
        intro m
        induction m with
        | zero => intro _; exact e
        | succ m im =>
          intro hm
          refine h _ ?_
          rw [show L - (m + 1) + 1 = L - m by omega]
          exact im (by omega)
      have e2 : (List.range L).filter q = List.range L := List.filter_eq_self.mpr fun k hk => by
        have h1 := List.mem_range.mp hk
        have := all (L - k) (by omega)
        rw [show L - (L - k) = k by omega] at this
        exact this
      rw [e2]
      simp [e, List.range_succ]
    · have e3 : [L].filter q = [] := by simp [e]
      rw [e3, List.append_nil]
      exact ih
theorem many_filter {n L : Nat} {p c : Nat → Nat} (O : Ok n L p c) (i : Nat) : (List.range L).filter (fun k => decide (k < c i) && decide (T n p c i k ≤ L)) = List.range (many n L p c i) :=
  range_filter_pre (q := fun k => decide (k < c i) && decide (T n p c i k ≤ L)) (fun k h => by
    simp only [Bool.and_eq_true, decide_eq_true_eq] at h ⊢
    have := T_lt O (i := i) (show k < k + 1 by omega)
    omega) L
theorem many_iff {n L : Nat} {p c : Nat → Nat} (O : Ok n L p c) {i k : Nat} : k < many n L p c i ↔ k < c i ∧ T n p c i k ≤ L := by
  rw [← List.mem_range, ← many_filter O, List.mem_filter]
  simp only [Bool.and_eq_true, decide_eq_true_eq, List.mem_range]
  constructor
  · exact fun h => h.2
  · intro h
    have := T_ge n p c i k
    exact ⟨by omega, h⟩
theorem cnt_many {n L : Nat} {p c : Nat → Nat} {d : List (Option Nat)} (O : Ok n L p c) (G : Good n p c d) (hL : d.length = L) {i : Nat} (hi : i < n) : cnt d i = many n L p c i := by
  refine Nat.le_antisymm (Nat.le_of_not_lt fun h => ?_) (Nat.le_of_not_lt fun h => ?_)
  · have := (many_iff O).mpr ((came O G hL hi).mp h)
    omega
  · have := (came O G hL hi).mpr ((many_iff O).mp h)
    omega
theorem many_promise {n L : Nat} {p c : Nat → Nat} (O : Ok n L p c) {i : Nat} (hi : i < n) : p i ≤ many n L p c i := by
  refine Nat.le_of_not_lt fun h => ?_
  have h1 := (many_iff O (i := i) (k := many n L p c i)).mpr ⟨Nat.lt_of_lt_of_le h (O.pc i hi), T_promise O hi h⟩
  omega
theorem many_le {n L : Nat} {p c : Nat → Nat} (O : Ok n L p c) (i : Nat) : many n L p c i ≤ L := by
  refine Nat.le_of_not_lt fun h => ?_
  have h1 := (many_iff O).mp h
  have := T_ge n p c i L
  omega

/-- one guest more behind all others -/
theorem more_T {n : Nat} {p c p' c' : Nat → Nat} (hp : ∀ j, j < n → p' j = p j) (hc : ∀ j, j < n → c' j = c j) {i k : Nat} (hi : i < n) : T n p c i k ≤ T (n + 1) p' c' i k := by
  unfold T
  have e : sumTo (fun j => if j = i then 0 else A p' c' i k j) n = sumTo (fun j => if j = i then 0 else A p c i k j) n := sumTo_congr fun j hj => by
    show (if j = i then 0 else _) = (if j = i then 0 else _)
    split
    · rfl
    · unfold A
      rw [hp i hi, hp j hj, hc j hj]
  show _ ≤ k + 1 + (sumTo (fun j => if j = i then 0 else A p' c' i k j) n + _)
  rw [e]
  omega
theorem more_many {n L : Nat} {p c p' c' : Nat → Nat} (O : Ok n L p c) (O' : Ok (n + 1) L p' c') (hp : ∀ j, j < n → p' j = p j) (hc : ∀ j, j < n → c' j = c j) {i : Nat} (hi : i < n) : many (n + 1) L p' c' i ≤ many n L p c i := by
  refine Nat.le_of_not_lt fun h => ?_
  have h1 := (many_iff O').mp h
  have h2 := more_T (k := many n L p c i) hp hc hi
  have h3 := (many_iff O (i := i) (k := many n L p c i)).mpr ⟨by rw [← hc i hi]; exact h1.1, by omega⟩
  omega

/-- a greater promise -/
theorem div_anti {a b d : Nat} (hb : 0 < b) (h : b ≤ d) : a / d ≤ a / b := Nat.div_le_div_left h hb
theorem ceil_anti {a b d : Nat} (hb : 0 < b) (h : b ≤ d) : (a + d - 1) / d ≤ (a + b - 1) / b := by
  have hd : 0 < d := by omega
  refine Nat.le_of_not_lt fun h1 => ?_
  have h2 := (div_lt_ceil hd).mp h1
  have h3 : ¬ ((a + b - 1) / b * b < a) := fun z => by
    have := (div_lt_ceil hb).mpr z
    omega
  have h4 : (a + b - 1) / b * b ≤ (a + b - 1) / b * d := Nat.mul_le_mul_left _ h
  omega
theorem greater_A {p c p' c' : Nat → Nat} {i : Nat} (hp : ∀ j, j ≠ i → p' j = p j) (hc : ∀ j, j ≠ i → c' j = c j) (hpi : p i ≤ p' i) {j k : Nat} (hj : j ≠ i) (hpc : p j ≤ c j) (hk : k < p' i) : A p' c' i k j ≤ A p c i k j := by
  unfold A ahead
  rw [if_pos hk, hp j hj]
  by_cases h : k < p i
  · rw [if_pos h]
    unfold aheadP
    have h0 : 0 < p i := by omega
    have m1 := div_anti (a := k * p j) h0 hpi
    have m2 := ceil_anti (a := k * p j) h0 hpi
    split
    · omega
    · omega
  · rw [if_neg h]
    unfold aheadP
    refine Nat.le_trans (Nat.min_le_left _ _) ?_
    rw [Nat.le_min]
    exact ⟨hpc, Nat.le_max_left _ _⟩
theorem greater_T {n L : Nat} {p c p' c' : Nat → Nat} {i : Nat} (O : Ok n L p c) (hp : ∀ j, j ≠ i → p' j = p j) (hc : ∀ j, j ≠ i → c' j = c j) (hpi : p i ≤ p' i) {k : Nat} (hk : k < p' i) : T n p' c' i k ≤ T n p c i k := by
  unfold T
  have : sumTo (fun j => if j = i then 0 else A p' c' i k j) n ≤ sumTo (fun j => if j = i then 0 else A p c i k j) n := sumTo_le fun j hj => by
    show (if j = i then 0 else _) ≤ (if j = i then 0 else _)
    split
    · exact Nat.le_refl _
    · rename_i h
      exact greater_A hp hc hpi h (O.pc j hj) hk
  omega
theorem greater_many {n L : Nat} {p c p' c' : Nat → Nat} {i : Nat} (O : Ok n L p c) (O' : Ok n L p' c') (hp : ∀ j, j ≠ i → p' j = p j) (hc : ∀ j, j ≠ i → c' j = c j) (hpi : p i ≤ p' i) (hci : c i ≤ c' i) : min (many n L p c i) (p' i) ≤ many n L p' c' i := by
  refine Nat.le_of_not_lt fun h => ?_
  have h0 : many n L p' c' i < many n L p c i := by omega
  have h1 := (many_iff O).mp h0
  have h2 := greater_T O hp hc hpi (k := many n L p' c' i) (by omega)
  have h3 := (many_iff O' (i := i) (k := many n L p' c' i)).mpr ⟨by omega, by omega⟩
  omega

/-- of two guests alike the first has its turns ahead: z is the last one, n its place, f the first -/
theorem ahead_e {sp tp tc k : Nat} : ahead sp tp tc false k ≤ ahead sp tp tc true k := by
  unfold ahead
  split
  · rename_i h
    unfold aheadP
    have h0 : 0 < sp := by omega
    have : (k * tp + sp - 1) / sp ≤ k * tp / sp + 1 := by
      refine Nat.le_of_not_lt fun h1 => ?_
      have h2 := (div_lt_ceil h0).mp h1
      have h3 : ¬ (k * tp / sp + 1 < k * tp / sp + 1) := Nat.lt_irrefl _
      have h4 : k * tp / sp + 1 < k * tp / sp + 1 := by
        rw [lt_div_succ h0]
        omega
      exact h3 h4
    simp only [Bool.false_eq_true, if_false, if_true]
    omega
  · simp only [Bool.false_eq_true, if_false, if_true]
    omega
theorem ahead_self {sp sc k : Nat} (h : k < sc) : ahead sp sp sc false k < ahead sp sp sc true k := by
  have h1 : ¬ (k < ahead sp sp sc false k) := fun z => by
    have := (ahead_iff h).mp z
    unfold goes at this
    simp only [Bool.false_eq_true, and_false, or_false, Nat.lt_irrefl] at this
    omega
  have h2 : k < ahead sp sp sc true k := (ahead_iff h).mpr (by
    unfold goes
    by_cases hk : k < sp
    · exact Or.inl ⟨hk, Or.inr (Or.inr ⟨rfl, rfl⟩)⟩
    · exact Or.inr ⟨by omega, by omega, Or.inr ⟨rfl, rfl⟩⟩)
  omega
theorem order_T {n : Nat} {p c : Nat → Nat} {f k : Nat} (hf : f < n) (hp : p n = p f) (hc : c n = c f) (hk : k < c f) : T (n + 1) p c f k < T (n + 1) p c n k := by
  unfold T
  show k + 1 + (sumTo (fun j => if j = f then 0 else A p c f k j) n + (if n = f then 0 else A p c f k n)) < k + 1 + (sumTo (fun j => if j = n then 0 else A p c n k j) n + (if n = n then 0 else A p c n k n))
  rw [if_neg (show ¬ n = f by omega), if_pos rfl]
  have e1 : sumTo (fun j => if j = n then 0 else A p c n k j) n = sumTo (fun j => A p c n k j) n := sumTo_congr fun j hj => by
    show (if j = n then 0 else _) = _
    rw [if_neg (by omega)]
  rw [e1, sumTo_at (f := fun j => A p c n k j) hf]
  have h1 : sumTo (fun j => if j = f then 0 else A p c f k j) n ≤ sumTo (fun j => if j = f then 0 else A p c n k j) n := sumTo_le fun j hj => by
    show (if j = f then 0 else _) ≤ (if j = f then 0 else _)
    split
    · exact Nat.le_refl _
    · unfold A
      rw [hp, decide_eq_true hj]
      cases decide (j < f)
      · exact ahead_e
      · exact Nat.le_refl _
  have h2 : A p c f k n < A p c n k f := by
    unfold A
    rw [hp, hc, decide_eq_true hf, decide_eq_false (by omega)]
    exact ahead_self hk
  show _ < k + 1 + (A p c n k f + _ + 0)
  omega
theorem order_many {n L : Nat} {p c : Nat → Nat} {f : Nat} (O : Ok (n + 1) L p c) (hf : f < n) (hp : p n = p f) (hc : c n = c f) : many (n + 1) L p c n ≤ many (n + 1) L p c f := by
  refine Nat.le_of_not_lt fun h => ?_
  have h1 := (many_iff O).mp h
  have h2 := order_T (k := many (n + 1) L p c f) hf hp hc (by omega)
  have h3 := (many_iff O (i := f) (k := many (n + 1) L p c f)).mpr ⟨by omega, by omega⟩
  omega
end Deal
/-! The dealing when only some are ready: who is always ready has its turns no later than T. Plain Lean. -/
namespace Deal
def BestR (n : Nat) (p c u : Nat → Nat) (R : Nat → Prop) : Option Nat → Prop
  | none => ∀ j, j < n → R j → c j ≤ u j
  | some b => b < n ∧ R b ∧ u b < c b ∧ ∀ j, j < n → R j → j ≠ b → u j < c j → goes (p j) (p b) (decide (b < j)) (u j) (u b)
theorem best_all {n : Nat} {p c u : Nat → Nat} {R : Nat → Prop} {r : Option Nat} (h : BestR n p c u R r) (a : ∀ j, j < n → R j) : Best n p c u r := by
  cases r with
  | none => exact fun j hj => h j hj (a j hj)
  | some b => exact ⟨h.1, h.2.2.1, fun j hj => h.2.2.2 j hj (a j hj)⟩
theorem best_one {n : Nat} {p c u : Nat → Nat} {R : Nat → Prop} {r r' : Option Nat} (h : BestR n p c u R r) (h' : BestR n p c u R r') : r = r' := by
  cases r with
  | none =>
    cases r' with
    | none => rfl
    | some b =>
      have := h b h'.1 h'.2.1
      have := h'.2.2.1
      omega
  | some a =>
    cases r' with
    | none =>
      have := h' a h.1 h.2.1
      have := h.2.2.1
      omega
    | some b =>
      by_cases e : a = b
      · rw [e]
      · have h1 := h.2.2.2 b h'.1 h'.2.1 (fun z => e z.symm) h'.2.2.1
        have h2 := h'.2.2.2 a h.1 h.2.1 e h.2.2.1
        have h3 := goes_asymm h1
        rw [flip e] at h3
        exact absurd h2 h3
/-- d is dealt, at each turn among those that R names -/
def Run (n : Nat) (p c : Nat → Nat) (R : Nat → Nat → Prop) (d : List (Option Nat)) : Prop := ∀ t x, d[t]? = some x → BestR n p c (cnt (d.take t)) (R t) x
theorem run_nil (n : Nat) (p c : Nat → Nat) (R : Nat → Nat → Prop) : Run n p c R [] := fun t x h => by simp at h
theorem run_snoc {n : Nat} {p c : Nat → Nat} {R : Nat → Nat → Prop} {d : List (Option Nat)} (h : Run n p c R d) {x : Option Nat} (hx : BestR n p c (cnt d) (R d.length) x) : Run n p c R (d ++ [x]) := fun t y hy => by
  by_cases ht : t < d.length
  · rw [List.getElem?_append_left ht] at hy
    rw [List.take_append_of_le_length (Nat.le_of_lt ht)]
    exact h t y hy
  · rw [List.getElem?_append_right (by omega)] at hy
    have ht2 : t = d.length := by
      by_cases z : t - d.length = 0
      · omega
      · rw [List.getElem?_eq_none (by simp; omega)] at hy
        cases hy
    subst ht2
    simp at hy
    subst hy
    rw [List.take_append_of_le_length (Nat.le_refl _), List.take_length]
    exact hx
theorem run_take {n : Nat} {p c : Nat → Nat} {R : Nat → Nat → Prop} {d : List (Option Nat)} (h : Run n p c R d) (s : Nat) : Run n p c R (d.take s) := fun t x hx => by
  have ht : t < s := by
    have h1 := (List.getElem?_eq_some_iff.mp hx).1
    rw [List.length_take] at h1
    omega
  rw [List.getElem?_take_of_lt ht] at hx
  rw [List.take_take, Nat.min_eq_left (Nat.le_of_lt ht)]
  exact h t x hx
theorem run_one {n : Nat} {p c : Nat → Nat} {R : Nat → Nat → Prop} : ∀ {d d' : List (Option Nat)}, Run n p c R d → Run n p c R d' → d.length = d'.length → d = d' := by
  intro d d' h h' hl
  have key : ∀ s, s ≤ d.length → d.take s = d'.take s := by
    intro s
    induction s with
    | zero => intro _; simp
    | succ s ih =>
      intro hs
      have e := ih (by omega)
      have h1 : d[s]? = some d[s] := List.getElem?_eq_getElem (by omega)
      have h2 : d'[s]? = some d'[s] := List.getElem?_eq_getElem (by omega)
      have b1 := h s _ h1
      have b2 := h' s _ h2
      rw [← e] at b2
      have := best_one b1 b2
      rw [List.take_add_one, List.take_add_one, h1, h2, e, this]
  have := key d.length (Nat.le_refl _)
  rw [List.take_length, hl, List.take_length] at this
  exact this
theorem run_good {n : Nat} {p c : Nat → Nat} {R : Nat → Nat → Prop} {d : List (Option Nat)} (pc : ∀ i, i < n → p i ≤ c i) (h : Run n p c R d) (a : ∀ t j, j < n → R t j) : Good n p c d := by
  have key : ∀ s, s ≤ d.length → Good n p c (d.take s) := by
    intro s
    induction s with
    | zero => intro _; simpa using good_nil n p c
    | succ s ih =>
      intro hs
      have h1 : d[s]? = some d[s] := List.getElem?_eq_getElem (by omega)
      have b1 := best_all (h s _ h1) (a s)
      have := good_snoc pc (ih (by omega)) b1
      rw [List.take_add_one, h1]
      exact this
  have := key d.length (Nat.le_refl _)
  rwa [List.take_length] at this
theorem sumTo_one {f g : Nat → Nat} {b : Nat} : ∀ {n : Nat}, b < n → g b = f b + 1 → (∀ j, j ≠ b → g j = f j) → sumTo g n = sumTo f n + 1 := by
  intro n hb h1 h2
  have e1 := sumTo_at (f := g) hb
  have e2 := sumTo_at (f := f) hb
  have e3 : sumTo (fun j => if j = b then 0 else g j) n = sumTo (fun j => if j = b then 0 else f j) n := sumTo_congr fun j _ => by
    by_cases e : j = b
    · simp [e]
    · simp [e, h2 j e]
  omega
theorem run_le {n : Nat} {p c : Nat → Nat} {R : Nat → Nat → Prop} {d : List (Option Nat)} (h : Run n p c R d) : ∀ s, s ≤ d.length → ∀ j, j < n → cnt (d.take s) j ≤ c j := by
  intro s
  induction s with
  | zero => intro _ j _; simp [cnt, got]
  | succ s ih =>
    intro hs j hj
    have h1 : d[s]? = some d[s] := List.getElem?_eq_getElem (by omega)
    have hb := h s _ h1
    have := ih (by omega) j hj
    rw [List.take_add_one, h1]
    show cnt (d.take s ++ [d[s]]) j ≤ c j
    rw [cnt_snoc]
    split
    · rename_i e
      rw [e] at hb
      have := hb.2.2.1
      omega
    · exact this
theorem run_names {n : Nat} {p c : Nat → Nat} {R : Nat → Nat → Prop} {d : List (Option Nat)} (h : Run n p c R d) {i : Nat} (hi : some i ∈ d) : i < n := by
  obtain ⟨t, ht, e⟩ := List.mem_iff_getElem.mp hi
  have h1 : d[t]? = some (some i) := by rw [List.getElem?_eq_getElem ht, e]
  exact (h t _ h1).1
/-- while i, always ready, has at most k turns, every other one stays within what goes ahead -/
theorem run_bound {n : Nat} {p c : Nat → Nat} {R : Nat → Nat → Prop} {d : List (Option Nat)} (pc : ∀ i, i < n → p i ≤ c i) (h : Run n p c R d) {i k : Nat} (hi : i < n) (a : ∀ t, R t i) (hk : k < c i) :
    ∀ s, s ≤ d.length → cnt (d.take s) i ≤ k → (∀ j, j < n → j ≠ i → cnt (d.take s) j ≤ A p c i k j) ∧ sumTo (cnt (d.take s)) n = s := by
  intro s
  induction s with
  | zero =>
    intro _ _
    refine ⟨fun j _ _ => by simp [cnt, got], ?_⟩
    have : sumTo (cnt (d.take 0)) n = sumTo (fun _ => 0) n := sumTo_congr fun j _ => by simp [cnt, got]
    rw [this, sumTo_zero]
  | succ s ih =>
    intro hs hc
    have h1 : d[s]? = some d[s] := List.getElem?_eq_getElem (by omega)
    have e : d.take (s + 1) = d.take s ++ [d[s]] := by rw [List.take_add_one, h1]; rfl
    have hb := h s _ h1
    rw [e, cnt_snoc] at hc
    have hc0 : cnt (d.take s) i ≤ k := by
      split at hc <;> omega
    obtain ⟨i1, i2⟩ := ih (by omega) hc0
    rw [e]
    cases hx : d[s] with
    | none =>
      rw [hx] at hb
      have := hb i hi (a s)
      omega
    | some b =>
      rw [hx] at hb
      obtain ⟨hbn, hbR, hbc, hbm⟩ := hb
      refine ⟨fun j hj hne => ?_, ?_⟩
      · rw [cnt_snoc]
        by_cases ej : b = j
        · subst ej
          rw [if_pos rfl]
          have g := hbm i hi (a s) (fun z => hne z.symm) (by omega)
          have g2 := (ahead_iff (sp := p i) (tp := p b) (tc := c b) hbc).mpr g
          have g3 := ahead_mono (sp := p i) (tp := p b) (tc := c b) (e := decide (b < i)) (pc b hbn) hc0
          show _ ≤ ahead (p i) (p b) (c b) (decide (b < i)) k
          omega
        · rw [if_neg (fun z => ej (Option.some.inj z))]
          exact i1 j hj hne
      · rw [sumTo_one (f := cnt (d.take s)) (b := b) hbn, i2]
        · rw [cnt_snoc, if_pos rfl]
        · intro j hj
          rw [cnt_snoc, if_neg (fun z => hj (Option.some.inj z).symm)]
theorem run_latest {n : Nat} {p c : Nat → Nat} {R : Nat → Nat → Prop} {d : List (Option Nat)} (pc : ∀ i, i < n → p i ≤ c i) (h : Run n p c R d) {i k : Nat} (hi : i < n) (a : ∀ t, R t i) (hk : k < c i) (hT : T n p c i k ≤ d.length) : k < cnt (d.take (T n p c i k)) i := by
  refine Nat.lt_of_not_le fun hle => ?_
  obtain ⟨b1, b2⟩ := run_bound pc h hi a hk _ hT hle
  have e1 := sumTo_at (f := cnt (d.take (T n p c i k))) hi
  have e2 : sumTo (fun j => if j = i then 0 else cnt (d.take (T n p c i k)) j) n ≤ sumTo (fun j => if j = i then 0 else A p c i k j) n := sumTo_le fun j hj => by
    by_cases e : j = i
    · simp [e]
    · simp only [if_neg e]
      exact b1 j hj e
  have e3 : T n p c i k = k + 1 + sumTo (fun j => if j = i then 0 else A p c i k j) n := rfl
  omega
theorem got_le : ∀ (d : List (Option Nat)) (t i x : Nat), x ∈ got d t i → x ≤ t + d.length
  | [], _, _, _, h => by simp [got] at h
  | y :: d, t, i, x, h => by
    have h : x ∈ (if y = some i then (t + 1) :: got d (t + 1) i else got d (t + 1) i) := h
    rw [List.length_cons]
    split at h
    · rcases List.mem_cons.mp h with e | e
      · omega
      · have := got_le d (t + 1) i x e
        omega
    · have := got_le d (t + 1) i x h
      omega
theorem got_ge : ∀ (d : List (Option Nat)) (t i x : Nat), x ∈ got d t i → t < x
  | [], _, _, _, h => by simp [got] at h
  | y :: d, t, i, x, h => by
    have h : x ∈ (if y = some i then (t + 1) :: got d (t + 1) i else got d (t + 1) i) := h
    split at h
    · rcases List.mem_cons.mp h with e | e
      · omega
      · have := got_ge d (t + 1) i x e
        omega
    · have := got_ge d (t + 1) i x h
      omega
theorem got_take {d : List (Option Nat)} {t i k x : Nat} (h : k < cnt (d.take t) i) (hx : (got d 0 i)[k]? = some x) : x ≤ t := by
  have e : d = d.take t ++ d.drop t := (List.take_append_drop t d).symm
  have e2 : got d 0 i = got (d.take t) 0 i ++ got (d.drop t) (0 + (d.take t).length) i := by
    rw [← got_app, ← e]
  rw [e2, List.getElem?_append_left h] at hx
  have := got_le _ _ _ _ (List.mem_of_getElem? hx)
  rw [List.length_take] at this
  omega
theorem cnt_take {d : List (Option Nat)} {t i : Nat} : cnt (d.take t) i ≤ cnt d i := by
  have e : d = d.take t ++ d.drop t := (List.take_append_drop t d).symm
  have e2 : got d 0 i = got (d.take t) 0 i ++ got (d.drop t) (0 + (d.take t).length) i := by
    rw [← got_app, ← e]
  unfold cnt
  rw [e2, List.length_append]
  omega
/-- THE LAW: whoever is always ready has every turn that `many` counts, and none later than T -/
theorem run_law {n L : Nat} {p c : Nat → Nat} {R : Nat → Nat → Prop} {d : List (Option Nat)} (O : Ok n L p c) (h : Run n p c R d) (hL : d.length = L) {i : Nat} (hi : i < n) (a : ∀ t, R t i) :
    many n L p c i ≤ cnt d i ∧ ∀ k, k < many n L p c i → ∃ x, (got d 0 i)[k]? = some x ∧ x ≤ T n p c i k := by
  have key : ∀ k, k < many n L p c i → k < cnt (d.take (T n p c i k)) i := fun k hk => by
    obtain ⟨h1, h2⟩ := (many_iff O).mp hk
    exact run_latest O.pc h hi a h1 (by omega)
  refine ⟨?_, fun k hk => ?_⟩
  · cases hm : many n L p c i with
    | zero => omega
    | succ m =>
      have h1 := key m (by omega)
      have h2 := cnt_take (d := d) (t := T n p c i m) (i := i)
      omega
  · have h1 := key k hk
    have h2 := cnt_take (d := d) (t := T n p c i k) (i := i)
    have h3 : k < (got d 0 i).length := by
      unfold cnt at h1 h2
      omega
    exact ⟨_, List.getElem?_eq_getElem h3, got_take h1 (List.getElem?_eq_getElem h3)⟩
end Deal
/-! Y: fields, methods, new instances, locked statements: the readings' steps. -/
namespace Y
open PySem PySem.Spec PyProof.Rows L2
section
variable {X : Cx} {K : PySem.W.Frag} {o e value : Expr} {f m : Str} {pos pos' tpos : Pos} {ta tv : TE}
theorem pe_fldK (he : PE X e ta) (hb : attributeBase e f X.env (eval e X.env) = eval e X.env := by rfl) (hK : X.K = K := by rfl) : PE X (.Attribute e f pos) (tFld K ta f) := by subst hK; exact pe_fld he hb
theorem ps_fldK (ha : PE X o ta) (hv : PE X value tv) (hs : swapsWith value (some (.Attribute o f pos')) pos.line X.env = pure false := by rfl) (hK : X.K = K := by rfl) : PS X (.Assign [.Attribute o f pos'] value pos) (sFld K ta tv f) := by subst hK; exact ps_fld ha hv hs
theorem ps_fldaugK {op : Operator} {rd : V → V → Hp → VK → Prop} (ha : PE X o ta) (hv : PE X value tv) (hop : InOp X op rd) (hK : X.K = K := by rfl) : PS X (.AugAssign (.Attribute o f tpos) op value pos) (sFldAug K ta tv rd f) := by subst hK; exact ps_fldaug ha hv hop
def rFld (K : PySem.W.Frag) (f : Str) : V → Hp → VK → Prop := fun x H Q => ∃ a C dx fs v, x = .ref a ∧ H a = some (.ins C dx fs) ∧ Cls K C ∧ NoAttr K C f ∧ fs.lookup f = some v ∧ Q v H
def rSetF (K : PySem.W.Frag) (f : Str) : V → V → Hp → (Hp → Prop) → Prop := fun x y H R => ∃ a C dx fs, x = .ref a ∧ H a = some (.ins C dx fs) ∧ Cls K C ∧ NoAttr K C f ∧ fs.length < 1000 ∧ R (upd H a (.ins C dx (putF f y fs)))
def rAugF (K : PySem.W.Frag) (f : Str) (tv : TE) (rd : V → V → Hp → VK → Prop) (σ : L2.St) (R : Hp → Prop) : V → Hp → Prop := fun x H1 => ∃ a C dx fs v, x = .ref a ∧ H1 a = some (.ins C dx fs) ∧ Cls K C ∧ NoAttr K C f ∧ fs.lookup f = some v ∧
  tv σ H1 fun y H2 => rd v y H2 fun z H3 => ∃ dx' fs', H3 a = some (.ins C dx' fs') ∧ fs'.length < 1000 ∧ R (upd H3 a (.ins C dx' (putF f z fs')))
def rMeth (C : Addr) (m : Str) : V → Hp → Prop → Prop := fun x H R => ∃ a dx fs, x = .ref a ∧ H a = some (.ins C dx fs) ∧ fs.lookup m = none ∧ R
/-- o.f as one of several targets -/
def gFld (K : PySem.W.Frag) (ta : TE) (f : Str) : TG := fun y σ H R => ta σ H fun x H2 => rSetF K f x y H2 fun H3 => R σ H3
theorem pg_fld (ha : PE X o ta) : PG X (.Attribute o f pos) (gFld X.K ta f) := by
  refine ⟨fun pins s σ H v u Q I r h => ?_⟩
  rw [assign_Attribute]
  refine wpAny_bind (wpAny_holding (thn (ha.run pins s σ H _ I h) fun ov s2 ⟨x, H2, I2, rx, a, C, dx, fs, ex, ea, c, n, l, q2⟩ => ?_))
  subst ex
  obtain rfl : ov = Value.ref a := rx
  refine wpAny_bind (wpAny_standAt (wpAny_bind (wpAny_holding ?_)))
  exact setattr_ok I2 ea c n l r fun s3 I3 => wpAny_release ⟨σ, _, I3, q2⟩
theorem pg_fldK (ha : PE X o ta) (hK : X.K = K := by rfl) : PG X (.Attribute o f pos) (gFld K ta f) := by subst hK; exact pg_fld ha
end
section
variable {K : PySem.W.Frag} {f m : Str} {ta tv : TE} {σ : L2.St} {H : Hp} {Q : VK} {a C dx : Addr} {fs : List (Str × V)} {v y : V} {nx : L2.St → Hp → Prop} {rt : VK} {bk ct : L2.St → Hp → Prop} {R : Hp → Prop}
theorem y_fld (q : ta σ H fun x H1 => rFld K f x H1 Q) : tFld K ta f σ H Q := q
theorem y_getF (h : H a = some (.ins C dx fs)) (c : Cls K C) (n : NoAttr K C f) (l : fs.lookup f = some v) (q : Q v H) : rFld K f (.ref a) H Q := ⟨a, C, dx, fs, v, rfl, h, c, n, l, q⟩
theorem y_sfld (q : tv σ H fun y H1 => ta σ H1 fun x H2 => rSetF K f x y H2 fun H3 => nx σ H3) : sFld K ta tv f ⟨nx, rt, bk, ct⟩ σ H := q
theorem y_gfld {R : L2.St → Hp → Prop} (q : ta σ H fun x H2 => rSetF K f x y H2 fun H3 => R σ H3) : gFld K ta f y σ H R := q
theorem y_setF (h : H a = some (.ins C dx fs)) (c : Cls K C) (n : NoAttr K C f) (hl : fs.length < 1000) (q : R (upd H a (.ins C dx (putF f y fs)))) : rSetF K f (.ref a) y H R := ⟨a, C, dx, fs, rfl, h, c, n, hl, q⟩
theorem y_sfldaug {rd : V → V → Hp → VK → Prop} (q : ta σ H fun x H1 => rAugF K f tv rd σ (fun H3 => nx σ H3) x H1) : sFldAug K ta tv rd f ⟨nx, rt, bk, ct⟩ σ H := q
theorem y_augF {rd : V → V → Hp → VK → Prop} (h : H a = some (.ins C dx fs)) (c : Cls K C) (n : NoAttr K C f) (l : fs.lookup f = some v)
    (q : tv σ H fun y H2 => rd v y H2 fun z H3 => ∃ dx' fs', H3 a = some (.ins C dx' fs') ∧ fs'.length < 1000 ∧ R (upd H3 a (.ins C dx' (putF f z fs')))) : rAugF K f tv rd σ R (.ref a) H := ⟨a, C, dx, fs, v, rfl, h, c, n, l, q⟩
theorem y_putF {z : V} (h : H a = some (.ins C dx fs)) (hl : fs.length < 1000) (q : R (upd H a (.ins C dx (putF f z fs)))) : ∃ dx' fs', H a = some (.ins C dx' fs') ∧ fs'.length < 1000 ∧ R (upd H a (.ins C dx' (putF f z fs'))) := ⟨dx, fs, h, hl, q⟩
theorem y_meth {sp : Sp} {dvs : List V} {E : XK} {t : TA} (q : ta σ H fun x H1 => rMeth C m x H1 (t σ H1 fun vs H2 => sp (x :: (vs ++ dvs)) H2 Q E)) : tMeth C m sp dvs E ta t σ H Q := q
theorem y_onM {R : Prop} (h : H a = some (.ins C dx fs)) (l : fs.lookup m = none) (q : R) : rMeth C m (.ref a) H R := ⟨a, dx, fs, rfl, h, l, q⟩
theorem y_make {sp : Sp} {dvs : List V} {E : XK} {t : TA} (q : t σ H fun vs H1 => ∀ x dx, H1 x = none → H1 dx = none → dx ≠ x → sp (.ref x :: (vs ++ dvs)) (upd (upd H1 dx (.own x)) x (.ins C dx [])) (fun v H2 => v = .non ∧ Q (.ref x) H2) E) : tMake C sp dvs E t σ H Q := q
theorem y_makeK {n m : Nat} {sp : Sp} {gV : List V → List V → List V} {E : XK} {t tk : TA} (q : t σ H fun vs H1 => tk σ H1 fun zs H2 => vs.length = n ∧ zs.length = m ∧ ∀ x dx, H2 x = none → H2 dx = none → dx ≠ x → sp (gV (.ref x :: vs) zs) (upd (upd H2 dx (.own x)) x (.ins C dx [])) (fun v H3 => v = .non ∧ Q (.ref x) H3) E) : tMakeK C n m sp gV E t tk σ H Q := q
theorem y_lock {t : TS} {d : Addr} {u : HO} (h : H d = some u) (mu : Mut (some u)) (q : ∀ od, t ⟨fun σ' H' => H' d = some (.frz od u) ∧ nx σ' (upd H' d u), fun v H' => H' d = some (.frz od u) ∧ rt v (upd H' d u), fun σ' H' => H' d = some (.frz od u) ∧ bk σ' (upd H' d u), fun σ' H' => H' d = some (.frz od u) ∧ ct σ' (upd H' d u)⟩ σ (upd H d (.frz od u))) : tLock t ⟨nx, rt, bk, ct⟩ σ H := ⟨d, u, h, mu, q⟩
theorem y_lockE {t : TE} {d : Addr} {u : HO} (h : H d = some u) (mu : Mut (some u)) (q : ∀ od, t σ (upd H d (.frz od u)) fun v H' => H' d = some (.frz od u) ∧ Q v (upd H' d u)) : tLockE t σ H Q := ⟨d, u, h, mu, q⟩
theorem lock_same {H H' : Hp} {d : Addr} {u : HO} {od : Obj} (h : H d = some u) (e : Same (upd H d (.frz od u)) H') : Same H (upd H' d u) := fun b w hb => by
  by_cases z : b = d
  · rw [z, upd_same, ← h, ← z]
    exact hb
  · rw [upd_ne z]
    exact e b w (by rw [upd_ne z]; exact hb)
end
theorem lk_1 {f : Str} {v : V} {r : List (Str × V)} : ((f, v) :: r).lookup f = some v := by simp [List.lookup]
theorem lk_2 {f g : Str} {v : V} {r : List (Str × V)} (h : (f == g) = false) : ((g, v) :: r).lookup f = r.lookup f := by simp [List.lookup, h]
theorem pf_1 {f : Str} {v w : V} {r : List (Str × V)} : putF f v ((f, w) :: r) = (f, v) :: r := by simp [putF]
theorem pf_2 {f g : Str} {v w : V} {r : List (Str × V)} (h : (g == f) = false) : putF f v ((g, w) :: r) = (g, w) :: putF f v r := by
  have : ¬ g = f := by simpa using h
  simp [putF, this]
end Y
/-! Y: own exceptions whose base is an own class without __init__. -/
namespace Y
open PySem PySem.Spec PyProof.Rows L2
/-- an own exception class that has no __init__ of its own: the built-in's is found -/
structure OBase (K : PySem.W.Frag) (B : Addr) (id : String) : Prop where
  rd : PySem.W.readsIn K B (.type "type") = true
  ga : PySem.W.specialIn K (.ref B) "__getattribute__" = some (some (.builtin "type.__getattribute__"))
  ini : PySem.W.findCls K (.ref B) (.type "type") "__init__" = some (.val (.builtin id))
section
variable {X : Cx} {e : Expr} {es : List Expr} {ta : TA} {x : Str} {B : Addr} {p1 p2 pos : Pos}
theorem pe_obinit {pl : Sem Bool} (O : OBase X.K B "ValueError.__init__") (hm : X.mg x = some (.ref B)) (ha : PA X (e :: es) ta) (hg : Gl X x := by rfl) (hdb : (x == ("__debug__" : Str)) = false := by decide)
    (hc : eval (.Call (.Attribute (.Name x p1) "__init__" p2) (e :: es) [] pos) X.env = (do
      let ov ← eval (.Name x p1) X.env
      standAt p2.atName
      let (f, first) ← holding [ov] (getMethod ov "__init__" pl)
      callWith pos f first (backTo pos (starEach (e :: es) X.env)) (backToKw pos (keywordEach [] X.env))) := by rfl)
    (he : starEach (e :: es) X.env = (false, eval e X.env) :: starEach es X.env := by rfl) (hpl : (backTo pos (starEach es X.env)).any (·.1) = false := by rfl) :
    PE X (.Call (.Attribute (.Name x p1) "__init__" p2) (e :: es) [] pos) (tVeI X.K ta) := by
  refine ⟨fun pins s σ H Q I h => ?_⟩
  refine PySem.W.methodCall_KW (ld_glob I hg hm ?_ hdb) hc
  refine PySem.W.method_cls I.kIn O.ga (PySem.W.cls_value I.kIn O.rd O.ini (by decide +kernel) ?_)
  show wpAny _ _ (callWith pos (Value.builtin "ValueError.__init__") [] (backTo pos (starEach (e :: es) X.env)) []) _ _ _
  have I' := I.tok (s.toks + 1)
  refine PyProof.Rows.callWith_method1 (thn (ha.run pos pins _ σ H _ I' h) fun us s1 hus => ?_) he hpl
  obtain ⟨vs, H1, I1, r1, a, C, ws, rfl, hl, T, ea, q⟩ := hus
  cases r1 with
  | cons ra rw' =>
    obtain rfl := (show _ = Value.ref a from ra)
    exact oinit_ok T I1 ea (Nat.le_trans (Nat.le_of_eq (Paired.length rw').symm) (Nat.le_trans hl (by decide))) fun s' J => ⟨.non, H1, J, rfl, q⟩
end
section
variable {X : Cx} {CX : CXT} {k : Nat} {C f : Addr} {m : Str} {fd : FuncData} {ps : List Str} {sp : Sp} {dvs : List V} {ds : List Value} {E : L2.St → XK} {o e : Expr} {es : List Expr} {ta : TE} {t : TA} {apos pos : Pos}
/-- o.m(e, ..), what is raised is wished for at the caller's slots -/
def tMethS (C : Addr) (m : Str) (sp : Sp) (dvs : List V) (E : L2.St → XK) (ta : TE) (t : TA) : TE := fun σ H Q => ta σ H fun x H1 => rMeth C m x H1 (t σ H1 fun vs H2 => sp (x :: (vs ++ dvs)) H2 Q (E σ))
theorem pe_methSD {pl : Sem Bool} (he : PE X o ta) (c : Cls X.K C) (hm : Meth X.K C m f) (F : FnOk X.prog X.w X.K X.mg X.base CX k f fd ps sp) (hr : Room k X.A) (hb : Binds X.K fd ps ds) (hd : Vals dvs ds) (hx : ∀ σ, PassesAt CX X σ (E σ)) (ha : PA X (e :: es) t)
    (hst : starEach (e :: es) X.env = (false, eval e X.env) :: starEach es X.env := by rfl) (hpl : (backTo pos (starEach es X.env)).any (·.1) = false := by rfl)
    (ht : eval (.Call (.Attribute o m apos) (e :: es) [] pos) X.env = (do
      let ov ← eval o X.env
      standAt apos.atName
      let (f, first) ← holding [ov] (getMethod ov m pl)
      callWith pos f first (backTo pos (starEach (e :: es) X.env)) (backToKw pos (keywordEach [] X.env))) := by rfl) : PE X (.Call (.Attribute o m apos) (e :: es) [] pos) (tMethS C m sp dvs E ta t) := by
  refine ⟨fun pins s σ H Q I h => ?_⟩
  refine PySem.W.methodCall_KW (pl := pl) (thn (he.run pins s σ H _ I h) fun u s1 hu1 => ?_) ht
  obtain ⟨x, H1, I1, rx, a, dx, fs, rfl, ea, l, q⟩ := hu1
  obtain rfl : u = Value.ref a := rx
  refine getmeth_ok I1 ea c hm l (PySem.W.callWith_K (first := [.ref a]) (h₀ := X.base) I.ok.mod.kin hm.kp (thn (ha.run pos pins s1 σ H1 _ I1 q) fun us s2 hu2 => ?_) hst hpl)
  obtain ⟨vs, H2, I2, r, q2⟩ := hu2
  exact ⟨I2.kIn, run_fnSD (us := .ref a :: us) (vs := .ref a :: vs) F hr hb hd (hx σ) I2 (.cons rfl r) q2⟩
end
section
variable {X : Cx} {CX : CXT} {k n : Nat} {C f : Addr} {m : Str} {fd : FuncData} {ps ks : List Str} {sp : Sp} {E : XK} {o e : Expr} {es : List Expr} {kws : List Keyword} {ta : TE} {t tk : TA} {apos pos : Pos} {g : List Value → List Value → List Value} {gV : List V → List V → List V}
/-- o.m(e, .., k = v, ..) -/
def tMethK (C : Addr) (m : Str) (n j : Nat) (sp : Sp) (gV : List V → List V → List V) (E : XK) (ta : TE) (t tk : TA) : TE := fun σ H Q => ta σ H fun x H1 => rMeth C m x H1 (t σ H1 fun vs H2 => tk σ H2 fun zs H3 => vs.length = n ∧ zs.length = j ∧ sp (gV (x :: vs) zs) H3 Q E)
theorem pe_methK {pl : Sem Bool} (he : PE X o ta) (c : Cls X.K C) (hm : Meth X.K C m f) (F : FnOk X.prog X.w X.K X.mg X.base CX k f fd ps sp) (hr : Room k X.A) (hb : KBn X.K fd ps (n + 1) ks g gV) (hx : Passes CX X E) (ha : PA X (e :: es) t) (hkw : PK X kws tk)
    (hall : (backToKw pos (keywordEach kws X.env)).all (·.1.isSome) = true := by rfl) (hks : (backToKw pos (keywordEach kws X.env)).filterMap (·.1) = ks := by rfl)
    (hst : starEach (e :: es) X.env = (false, eval e X.env) :: starEach es X.env := by rfl) (hpl : ((backTo pos (starEach (e :: es) X.env)).any (·.1) || (backToKw pos (keywordEach kws X.env)).any (·.1.isNone)) = false := by rfl)
    (ht : eval (.Call (.Attribute o m apos) (e :: es) kws pos) X.env = (do
      let ov ← eval o X.env
      standAt apos.atName
      let (f, first) ← holding [ov] (getMethod ov m pl)
      callWith pos f first (backTo pos (starEach (e :: es) X.env)) (backToKw pos (keywordEach kws X.env))) := by rfl) : PE X (.Call (.Attribute o m apos) (e :: es) kws pos) (tMethK C m n ks.length sp gV E ta t tk) := by
  refine ⟨fun pins s σ H Q I h => ?_⟩
  refine PySem.W.methodCall_KW (pl := pl) (thn (he.run pins s σ H _ I h) fun u s1 hu1 => ?_) ht
  obtain ⟨x, H1, I1, rx, a, dx, fs, rfl, ea, l, q⟩ := hu1
  obtain rfl : u = Value.ref a := rx
  refine getmeth_ok I1 ea c hm l (PySem.W.callWith_KW (first := [.ref a]) (h₀ := X.base) I.ok.mod.kin hm.kp hall (thn (ha.run pos pins s1 σ H1 _ I1 q) fun us s2 hu2 => ?_) hpl hst)
  obtain ⟨vs, H2, I2, r, q2⟩ := hu2
  refine thn (hkw.run pos pins s2 σ H2 _ I2 q2) fun ws s3 hu3 => ?_
  obtain ⟨zs, H3, I3, rz, l1, l2, q3⟩ := hu3
  refine ⟨I3.kIn, ?_⟩
  rw [hks]
  have r1 : Vals (V.ref a :: vs) (Value.ref a :: us) := .cons rfl r
  have r2 := hb.rel r1 rz
  have n1 : (Value.ref a :: us).length = n + 1 := by
    rw [List.length_cons, ← r.length, l1]
  refine wpAny_call (codeAny_mono (F.run X.A X.stack s3 H3 ⟨Value.ref a :: us, ks.zip ws⟩ _ _ Q E hr I3.env0 (hb.to s3 _ ws I3.kIn n1 (rz.length.symm.trans l2)) r2 q3) fun r s' hq => ?_)
  cases r with
  | error e => exact hx pins σ H3 s3 e s' I3 hq
  | ok fl =>
    cases fl with
    | ret u => exact I3.after hq
    | next => exact False.elim hq
    | brk => exact False.elim hq
    | cont => exact False.elim hq
end
section
variable {K : PySem.W.Frag} {C : Addr} {f m : Str} {ta te to : TE} {tA : TA} {σ : L2.St} {H : Hp} {Q : VK} {nx : L2.St → Hp → Prop} {rt : VK} {bk ct : L2.St → Hp → Prop}
theorem y_methS {sp : Sp} {dvs : List V} {E : L2.St → XK} (q : ta σ H fun x H1 => rMeth C m x H1 (tA σ H1 fun vs H2 => sp (x :: (vs ++ dvs)) H2 Q (E σ))) : tMethS C m sp dvs E ta tA σ H Q := q
theorem y_methK {n j : Nat} {sp : Sp} {gV : List V → List V → List V} {E : XK} {tk : TA} (q : ta σ H fun x H1 => rMeth C m x H1 (tA σ H1 fun vs H2 => tk σ H2 fun zs H3 => vs.length = n ∧ zs.length = j ∧ sp (gV (x :: vs) zs) H3 Q E)) : tMethK C m n j sp gV E ta tA tk σ H Q := q
def rVei (K : PySem.W.Frag) (vs : List V) (H : Hp) (Q : VK) : Prop := ∃ (a C : Addr) (ws : List V), vs = .ref a :: ws ∧ ws.length ≤ 1000 ∧ OexC K C ∧ H a = some (exo a C none) ∧ Q .non H
theorem y_vei (q : tA σ H fun vs H1 => rVei K vs H1 Q) : tVeI K tA σ H Q := q
theorem y_veiA {a C : Addr} {ws : List V} (h : ws.length ≤ 1000) (T : OexC K C) (e : H a = some (exo a C none)) (q : Q .non H) : rVei K (.ref a :: ws) H Q := ⟨a, C, ws, rfl, h, T, e, q⟩
def rOst (K : PySem.W.Frag) (f : Str) (x y : V) (H2 : Hp) (nx : Hp → Prop) : Prop := ∃ a C : Addr, x = .ref a ∧ OexC K C ∧ PySem.W.findIn K (.ref C) f = some none ∧
  ((H2 a = some (exo a C none) ∧ ∀ dx, H2 dx = none → dx ≠ a → nx (upd (upd H2 dx (exd dx [(f, y)])) a (exo a C (some dx)))) ∨
    ∃ (dx : Addr) (fs : List (Str × V)), H2 a = some (exo a C (some dx)) ∧ H2 dx = some (exd dx fs) ∧ fs.length ≤ 900 ∧ nx (upd H2 dx (exd dx ((f, y) :: fs))))
theorem y_ost (q : te σ H fun y H1 => to σ H1 fun x H2 => rOst K f x y H2 fun H3 => nx σ H3) : tOst K f to te ⟨nx, rt, bk, ct⟩ σ H := q
/-- the first field stored in a new exception -/
theorem y_ostN {a C : Addr} {y : V} {R : Hp → Prop} (T : OexC K C) (n : PySem.W.findIn K (.ref C) f = some none) (e : H a = some (exo a C none)) (q : ∀ dx, H dx = none → dx ≠ a → R (upd (upd H dx (exd dx [(f, y)])) a (exo a C (some dx)))) : rOst K f (.ref a) y H R := ⟨a, C, rfl, T, n, .inl ⟨e, q⟩⟩
/-- the making of an exception, to be raised -/
theorem y_mkO {sp : Sp} {dvs : List V} {QX : XK} (q : tA σ H fun vs H1 => vs.length ≤ 1000 ∧ ∀ a, H1 a = none → sp (.ref a :: (vs ++ dvs)) (upd H1 a (exo a C none))
  (fun v H2 => v = .non ∧ ∃ (d : Addr) (fs : List (Str × V)), H2 a = some (exo a C (some d)) ∧ H2 d = some (exd d fs) ∧ H1 d = none ∧ QX (.ref C) (some d) (upd (del H2 a) d (.xd fs))) (fun _ _ _ => False)) : tMkO C sp dvs tA σ H QX := q
end
/-- an exception that has been made leaves nothing behind but its dict -/
theorem exc_gone {H : Hp} {a d : Addr} {o1 : HO} {o2 o3 : HO} {fs : List (Str × V)} (na : H a = none) (nd : H d = none) : Same H (upd (del (upd (upd (upd H a o1) d o2) a o3) a) d (.xd fs)) := fun b u h => by
  rw [upd_ne (ne_of_none h nd), del_ne (ne_of_none h na), upd_ne (ne_of_none h na), upd_ne (ne_of_none h nd), upd_ne (ne_of_none h na)]
  exact h
/-- an exception of one field has been made -/
theorem y_made1 {H : Hp} {a C : Addr} {f : Str} {y : V} {QX : XK} (na : H a = none) (q : ∀ d H', Same H H' → H d = none → H' d = some (.xd [(f, y)]) → QX (.ref C) (some d) H') (dx : Addr) (nd : upd H a (exo a C none) dx = none) (ne : dx ≠ a) :
    (fun v H2 => v = .non ∧ ∃ (d : Addr) (fs : List (Str × V)), H2 a = some (exo a C (some d)) ∧ H2 d = some (exd d fs) ∧ H d = none ∧ QX (.ref C) (some d) (upd (del H2 a) d (.xd fs))) V.non (upd (upd (upd H a (exo a C none)) dx (exd dx [(f, y)])) a (exo a C (some dx))) := by
  have nd' : H dx = none := by
    rw [upd_ne ne] at nd
    exact nd
  exact ⟨rfl, dx, [(f, y)], upd_same, by rw [upd_ne ne, upd_same], nd', q dx _ (exc_gone na nd') nd' upd_same⟩
end Y
section
open PySem L2 Y
local macro_rules | `(tactic| walk_at "kt") => `(tactic| with_reducible first | exact kt_NoneType_int | exact kt_NoneType_bool | exact kt_NoneType_str | exact kt_NoneType_list | exact kt_NoneType_tuple | exact kt_NoneType_dict | exact kt_bool_int | exact kt_bool_bool | exact kt_bool_str | exact kt_bool_list | exact kt_bool_tuple | exact kt_bool_dict | exact kt_int_int | exact kt_int_bool | exact kt_int_str | exact kt_int_list | exact kt_int_tuple | exact kt_int_dict | exact kt_str_int | exact kt_str_bool | exact kt_str_str | exact kt_str_list | exact kt_str_tuple | exact kt_str_dict | exact kt_list_int | exact kt_list_bool | exact kt_list_str | exact kt_list_list | exact kt_list_tuple | exact kt_list_dict | exact kt_tuple_int | exact kt_tuple_bool | exact kt_tuple_str | exact kt_tuple_list | exact kt_tuple_tuple | exact kt_tuple_dict | exact kt_dict_int | exact kt_dict_bool | exact kt_dict_str | exact kt_dict_list | exact kt_dict_tuple | exact kt_dict_dict)
local macro_rules | `(tactic| walk_at "ty") => `(tactic| first
  | exact TyX.base (.int _) | exact TyX.base (.bl _) | exact TyX.base .non | exact TyX.base (.str _)
  | exact TyX.base (.lst (by walk_at "hf")) | exact TyX.base (.tup (by walk_at "hf")) | exact TyX.fDict (by walk_at "hf") | exact TyX.base (.dK (by walk_at "hf")))
local macro_rules | `(tactic| walk_at "hf") => `(tactic| first
  | assumption
  | exact upd_same
  | (refine up_new (by assumption) ?_; walk_at "hf")
  | (refine same_at (by assumption) ?_; walk_at "hf")
  | (refine up_ne (by first | assumption | (apply Ne.symm; assumption)) ?_; walk_at "hf"))
local macro_rules | `(tactic| walk_at "y1") => `(tactic| with_reducible first
  | refine y_c ?_ | refine y_op ?_ | refine y_seq ?_ | refine y_asg ?_ | refine y_name ?_ | refine y_ifS ?_ | refine y_ret ?_ | refine y_tt ?_ | refine y_tB ?_ | refine y_bl ?_
  | refine y_acons ?_ | refine y_anil ?_ | refine y_cb ?_ | refine y_call ?_ | refine y_not ?_ | refine y_and ?_ | refine y_or ?_ | refine y_andV ?_ | refine y_orV ?_ | refine y_notV ?_ | refine y_un ?_ | refine y_if ?_ | refine y_chain ?_
  | refine y_next ?_ | refine y_drop ?_ | refine y_retN ?_ | refine y_break ?_ | refine y_cont ?_
  | refine y_addI ?_ | refine y_subI ?_ | refine y_ltI ?_ | refine y_leI ?_ | refine y_gtI ?_ | refine y_geI ?_ | refine y_isNo ?_ | refine y_notNo ?_ | refine y_neg ?_
  | refine y_max2 ?_ | refine y_min2 ?_ | refine y_abs ?_ | refine y_intI ?_ | refine y_intB ?_ | refine y_int1 ?_
  | refine y_for ?_ | refine y_lc ?_ | refine y_iL ?_ | refine y_iT ?_ | refine y_r1 ?_ | refine y_r2 ?_ | refine y_iI ?_ | refine y_iV ?_ | refine y_iK ?_ | refine y_iS ?_ | refine y_gotS ?_ | refine y_iE ?_ | refine y_yes ?_ | refine y_fld ?_ | refine y_sfld ?_ | refine y_gfld ?_ | refine y_sfldaug ?_ | refine y_meth ?_ | refine y_make ?_ | refine y_makeK ?_ | refine y_methS ?_ | refine y_methK ?_ | refine y_vei ?_ | refine y_ost ?_ | refine y_ipI ?_ | refine y_sign ?_ | refine y_daug ?_ | refine y_dput ?_ | refine y_rAdd ?_ | refine y_lc2 ?_ | refine y_r3 ?_ | refine y_par3 ?_ | refine y_par33 ?_ | refine y_frzE ?_ | refine y_lstRg ?_ | refine y_rg2 ?_ | refine y_rg1 ?_ | refine y_ints2 ?_
  | refine y_T ?_ | refine y_F ?_ | refine y_nT ?_ | refine y_nF ?_
  | refine y_tup ?_ | refine y_lst ?_ | refine y_dnew ?_ | refine y_bm ?_ | refine y_bm0 ?_ | refine y_sl ?_ | refine y_nopart ?_ | refine y_part ?_ | refine y_par ?_ | refine y_par2 ?_ | refine y_gcons ?_ | refine y_gnil ?_ | refine y_gsub ?_)
local macro_rules | `(tactic| walk_at "y2") => `(tactic| first
  | ((with_reducible apply y_var); rfl)
  | ((with_reducible apply y_aug); rfl)
  | ((with_reducible apply y_wipe); rfl)
  | ((with_reducible apply y_ndT); rfl)
  | ((with_reducible apply y_dT); rfl)
  | ((with_reducible apply y_bF); decide)
  | ((with_reducible apply y_bT); decide)
  | ((with_reducible apply y_eqS); rfl)
  | ((with_reducible apply y_neS); rfl)
  | ((with_reducible apply y_lenL); walk_at "hf")
  | ((with_reducible apply y_lenF); walk_at "hf")
  | ((with_reducible apply y_lenT); walk_at "hf")
  | ((with_reducible apply y_lenK); walk_at "hf")
  | ((with_reducible apply y_tylst); walk_at "hf")
  | ((with_reducible apply y_getF); walk_at "hf"; assumption; assumption; walk_at "lk")
  | ((with_reducible apply y_augF); walk_at "hf"; assumption; assumption; walk_at "lk")
  | ((with_reducible apply y_onM); walk_at "hf"; walk_at "lk")
  | ((with_reducible apply y_ixT); walk_at "hf"; rfl)
  | ((with_reducible apply y_ixL); walk_at "hf"; rfl)
  | ((with_reducible apply y_gtup); walk_at "hf"; rfl)
  | ((with_reducible apply y_isi); walk_at "ty"; walk_at "kt")
  | ((with_reducible apply y_isiT); walk_at "hf"; walk_at "ty"; walk_at "kt"; walk_at "kt")
  | ((with_reducible apply y_gotL); walk_at "hf") | ((with_reducible apply y_gotT); walk_at "hf") | ((with_reducible apply y_gotI); walk_at "hf")
  | ((with_reducible apply y_gotK); walk_at "hf") | ((with_reducible apply y_gotE); walk_at "hf"))
local macro_rules | `(tactic| walk_at "y") => `(tactic| first | walk_at "y1" | walk_at "y2")
local macro_rules | `(tactic| walk_at "ys") => `(tactic| repeat (walk_at "y"))

namespace K61
open PySem L2 Y
def top (i : Nat) : Stmt := PySem.Challenge.pw_guestfleet_k61_whole_latest_turns_in_cha.main.body.getD i (.Pass ⟨0, 0, 0, 0⟩)
abbrev s_is_whole : Stmt := top 15
theorem sc_is_whole : FnScope ["thing", "low", "high"] ["thing", "low", "high"] (defScope s_is_whole) := ⟨rfl, rfl, rfl, by decide +kernel, rfl, by decide +kernel, by decide +kernel⟩
abbrev s_is_name : Stmt := top 16
theorem sc_is_name : FnScope ["thing", "sign"] ["thing"] (defScope s_is_name) := ⟨rfl, rfl, rfl, by decide +kernel, rfl, by decide +kernel, by decide +kernel⟩
abbrev s_need_length : Stmt := top 21
theorem sc_need_length : FnScope ["length"] ["length"] (defScope s_need_length) := ⟨rfl, rfl, rfl, by decide +kernel, rfl, by decide +kernel, by decide +kernel⟩
abbrev s_need_share : Stmt := top 22
theorem sc_need_share : FnScope ["length", "promise", "ceiling"] ["length", "promise", "ceiling"] (defScope s_need_share) := ⟨rfl, rfl, rfl, by decide +kernel, rfl, by decide +kernel, by decide +kernel⟩
abbrev s_are_shares : Stmt := top 25
theorem sc_are_shares : FnScope ["thing", "length", "together", "name", "share", "promise", "ceiling"] ["thing", "length"] (defScope s_are_shares) := ⟨rfl, rfl, rfl, by decide +kernel, rfl, by decide +kernel, by decide +kernel⟩
abbrev s_need_case : Stmt := top 28
theorem sc_need_case : FnScope ["length", "guests", "name"] ["length", "guests", "name"] (defScope s_need_case) := ⟨rfl, rfl, rfl, by decide +kernel, rfl, by decide +kernel, by decide +kernel⟩
abbrev s_ahead_by_promise : Stmt := top 29
theorem sc_ahead_by_promise : FnScope ["share", "other", "used", "earlier", "promise", "ceiling", "its_promise", "its_ceiling", "part", "many"] ["share", "other", "used", "earlier"] (defScope s_ahead_by_promise) := ⟨rfl, rfl, rfl, by decide +kernel, rfl, by decide +kernel, by decide +kernel⟩
abbrev s_ahead : Stmt := top 30
theorem sc_ahead : FnScope ["share", "other", "used", "earlier", "promise", "ceiling", "its_promise", "its_ceiling"] ["share", "other", "used", "earlier"] (defScope s_ahead) := ⟨rfl, rfl, rfl, by decide +kernel, rfl, by decide +kernel, by decide +kernel⟩
abbrev s_turn_of : Stmt := top 31
theorem sc_turn_of : FnScope ["length", "guests", "name", "many", "names", "others", "total", "other", "earlier"] ["length", "guests", "name", "many"] (defScope s_turn_of) := ⟨rfl, rfl, rfl, by decide +kernel, rfl, by decide +kernel, by decide +kernel⟩
abbrev s_latest : Stmt := top 32
theorem sc_latest : FnScope ["length", "guests", "name", "many"] ["length", "guests", "name", "many"] (defScope s_latest) := ⟨rfl, rfl, rfl, by decide +kernel, rfl, by decide +kernel, by decide +kernel⟩
abbrev s_at_least_in : Stmt := top 33
theorem sc_at_least_in : FnScope ["length", "guests", "name", "turns", "found", "many", "turn"] ["length", "guests", "name", "turns"] (defScope s_at_least_in) := ⟨rfl, rfl, rfl, by decide +kernel, rfl, by decide +kernel, by decide +kernel⟩
abbrev s_at_least : Stmt := top 34
theorem sc_at_least : FnScope ["length", "guests", "name", "turns", "whole", "rest"] ["length", "guests", "name", "turns"] (defScope s_at_least) := ⟨rfl, rfl, rfl, by decide +kernel, rfl, by decide +kernel, by decide +kernel⟩
abbrev s_TooMuch_init : Stmt := (inClass (top 9) 0)
theorem sc_TooMuch_init : FnScope ["self", "many"] ["self", "many"] (defScope s_TooMuch_init) := ⟨rfl, rfl, rfl, by decide +kernel, rfl, by decide +kernel, by decide +kernel⟩
abbrev s_Portion_init : Stmt := (inClass (top 23) 0)
theorem sc_Portion_init : FnScope ["self", "promise", "ceiling", "at_once"] ["self", "promise", "ceiling", "at_once"] (defScope s_Portion_init) := ⟨rfl, rfl, rfl, by decide +kernel, rfl, by decide +kernel, by decide +kernel⟩
abbrev s_Portion_begin : Stmt := (inClass (top 23) 1)
theorem sc_Portion_begin : FnScope ["self"] ["self"] (defScope s_Portion_begin) := ⟨rfl, rfl, rfl, by decide +kernel, rfl, by decide +kernel, by decide +kernel⟩
abbrev s_Shares_init : Stmt := (inClass (top 24) 0)
theorem sc_Shares_init : FnScope ["self", "length"] ["self", "length"] (defScope s_Shares_init) := ⟨rfl, rfl, rfl, by decide +kernel, rfl, by decide +kernel, by decide +kernel⟩
abbrev s_Shares_need_guest : Stmt := (inClass (top 24) 1)
theorem sc_Shares_need_guest : FnScope ["self", "name"] ["self", "name"] (defScope s_Shares_need_guest) := ⟨rfl, rfl, rfl, by decide +kernel, rfl, by decide +kernel, by decide +kernel⟩
abbrev s_Shares_need_room_for : Stmt := (inClass (top 24) 2)
theorem sc_Shares_need_room_for : FnScope ["self", "promise", "but", "together"] ["self", "promise", "but"] (defScope s_Shares_need_room_for) := ⟨rfl, rfl, rfl, by decide +kernel, rfl, by decide +kernel, by decide +kernel⟩
abbrev s_Shares_come : Stmt := (inClass (top 24) 3)
theorem sc_Shares_come : FnScope ["self", "name", "promise", "ceiling"] ["self", "name", "promise", "ceiling"] (defScope s_Shares_come) := ⟨rfl, rfl, rfl, by decide +kernel, rfl, by decide +kernel, by decide +kernel⟩
abbrev s_Shares_change : Stmt := (inClass (top 24) 5)
theorem sc_Shares_change : FnScope ["self", "name", "promise", "ceiling", "portion"] ["self", "name", "promise", "ceiling"] (defScope s_Shares_change) := ⟨rfl, rfl, rfl, by decide +kernel, rfl, by decide +kernel, by decide +kernel⟩
abbrev s_Shares_promised_one : Stmt := (inClass (top 24) 6)
theorem sc_Shares_promised_one : FnScope ["self", "ready", "best", "name", "portion", "kept"] ["self", "ready"] (defScope s_Shares_promised_one) := ⟨rfl, rfl, rfl, by decide +kernel, rfl, by decide +kernel, by decide +kernel⟩
abbrev s_Shares_free_one : Stmt := (inClass (top 24) 7)
theorem sc_Shares_free_one : FnScope ["self", "ready", "below", "name"] ["self", "ready"] (defScope s_Shares_free_one) := ⟨rfl, rfl, rfl, by decide +kernel, rfl, by decide +kernel, by decide +kernel⟩
abbrev s_Shares_deal : Stmt := (inClass (top 24) 8)
theorem sc_Shares_deal : FnScope ["self", "ready", "name", "portion"] ["self", "ready"] (defScope s_Shares_deal) := ⟨rfl, rfl, rfl, by decide +kernel, rfl, by decide +kernel, by decide +kernel⟩
abbrev s_Shares_length : Stmt := (inClass (top 24) 9)
theorem sc_Shares_length : FnScope ["self"] ["self"] (defScope s_Shares_length) := ⟨rfl, rfl, rfl, by decide +kernel, rfl, by decide +kernel, by decide +kernel⟩
abbrev s_Shares_names : Stmt := (inClass (top 24) 10)
theorem sc_Shares_names : FnScope ["self"] ["self"] (defScope s_Shares_names) := ⟨rfl, rfl, rfl, by decide +kernel, rfl, by decide +kernel, by decide +kernel⟩
abbrev s_Shares_counting : Stmt := (inClass (top 24) 13)
theorem sc_Shares_counting : FnScope ["self", "name"] ["self", "name"] (defScope s_Shares_counting) := ⟨rfl, rfl, rfl, by decide +kernel, rfl, by decide +kernel, by decide +kernel⟩
abbrev s_Shares_promised : Stmt := (inClass (top 24) 16)
theorem sc_Shares_promised : FnScope ["self", "portion"] ["self"] (defScope s_Shares_promised) := ⟨rfl, rfl, rfl, by decide +kernel, rfl, by decide +kernel, by decide +kernel⟩
abbrev s__law_cell : Stmt := top 36
theorem sc__law_cell : FnScope ["script", "k"] ["script", "k"] (defScope s__law_cell) := ⟨rfl, rfl, rfl, by decide +kernel, rfl, by decide +kernel, by decide +kernel⟩
abbrev s__law_box : Stmt := top 37
theorem sc__law_box : FnScope ["cell", "great"] ["cell"] (defScope s__law_box) := ⟨rfl, rfl, rfl, by decide +kernel, rfl, by decide +kernel, by decide +kernel⟩
abbrev s__law_take : Stmt := top 38
theorem sc__law_take : FnScope ["box", "many", "digit", "one", "two"] ["box", "many"] (defScope s__law_take) := ⟨rfl, rfl, rfl, by decide +kernel, rfl, by decide +kernel, by decide +kernel⟩
abbrev s__law_case : Stmt := top 40
theorem sc__law_case : FnScope ["box", "length", "left", "guests", "name", "promise", "low", "ceiling", "names", "order", "k"] ["box"] (defScope s__law_case) := ⟨rfl, rfl, rfl, by decide +kernel, rfl, by decide +kernel, by decide +kernel⟩
abbrev s__law_counting : Stmt := top 41
theorem sc__law_counting : FnScope ["shares", "name"] ["shares"] (defScope s__law_counting) := ⟨rfl, rfl, rfl, by decide +kernel, rfl, by decide +kernel, by decide +kernel⟩
abbrev s__law_change : Stmt := top 42
theorem sc__law_change : FnScope ["box", "shares", "name", "length", "promise"] ["box", "shares"] (defScope s__law_change) := ⟨rfl, rfl, rfl, by decide +kernel, rfl, by decide +kernel, by decide +kernel⟩
abbrev s__law_stretch_right : Stmt := top 43
theorem sc__law_stretch_right : FnScope ["box", "shares", "name", "guests", "length", "found", "turn", "ready", "many", "due", "turns", "one"] ["box", "shares", "name"] (defScope s__law_stretch_right) := ⟨rfl, rfl, rfl, by decide +kernel, rfl, by decide +kernel, by decide +kernel⟩
abbrev s_law : Stmt := top 44
theorem sc_law : FnScope ["script", "k", "box", "length", "guests", "shares", "name", "one", "promise", "ceiling", "turn"] ["script"] (defScope s_law) := ⟨rfl, rfl, rfl, by decide +kernel, rfl, by decide +kernel, by decide +kernel⟩
def DefAt (K : PySem.W.Frag) (mg : Str → Option Value) (x : Str) (st : Stmt) : Prop := ∃ f fd, mg x = some (.ref f) ∧ Fun K x x st f fd
theorem defAt_mk {K : PySem.W.Frag} {h : Heap} {mg : Str → Option Value} (X : K.In h) (G : h.Ns mainGlobals mg) {x : Str} {st : Stmt} {f : Addr} {oc : Value} {od an : Option Addr} {osl : Array (Option Value)} {kV doc pm cdv ct : Value}
    (a : PySem.W.nsIn K mainGlobals x = some (some (.ref f))) (l : K.lookup f = some ⟨oc, od, .func (PySem.W.fnOf x x (defArgs st) (defBody st) (defScope st) .none kV doc pm an cdv ct), osl⟩) (c : PySem.W.codeIn K cdv x = true) (k : PySem.W.keepIn K (.ref f) = true) : DefAt K mg x st :=
  ⟨f, _, PySem.W.mg_of X G a, fun_mk l c k⟩
structure Txt (K : PySem.W.Frag) (mg : Str → Option Value) : Prop where
  d_is_whole : DefAt K mg "is_whole" s_is_whole
  d_is_name : DefAt K mg "is_name" s_is_name
  d_need_length : DefAt K mg "need_length" s_need_length
  d_need_share : DefAt K mg "need_share" s_need_share
  d_are_shares : DefAt K mg "are_shares" s_are_shares
  d_need_case : DefAt K mg "need_case" s_need_case
  d_ahead_by_promise : DefAt K mg "ahead_by_promise" s_ahead_by_promise
  d_ahead : DefAt K mg "ahead" s_ahead
  d_turn_of : DefAt K mg "turn_of" s_turn_of
  d_latest : DefAt K mg "latest" s_latest
  d_at_least_in : DefAt K mg "at_least_in" s_at_least_in
  d_at_least : DefAt K mg "at_least" s_at_least
  d__law_cell : DefAt K mg "_law_cell" s__law_cell
  d__law_box : DefAt K mg "_law_box" s__law_box
  d__law_take : DefAt K mg "_law_take" s__law_take
  d__law_case : DefAt K mg "_law_case" s__law_case
  d__law_counting : DefAt K mg "_law_counting" s__law_counting
  d__law_change : DefAt K mg "_law_change" s__law_change
  d__law_stretch_right : DefAt K mg "_law_stretch_right" s__law_stretch_right
  d_law : DefAt K mg "law" s_law
  n_isinstance : mg "isinstance" = none
  n_int : mg "int" = none
  n_bool : mg "bool" = none
  n_all : mg "all" = none
  n_str : mg "str" = none
  n_len : mg "len" = none
  n_max : mg "max" = none
  n_dict : mg "dict" = none
  n_tuple : mg "tuple" = none
  n_min : mg "min" = none
  n_list : mg "list" = none
  n_range : mg "range" = none
  n_divmod : mg "divmod" = none
  n_sum : mg "sum" = none
  n_abs : mg "abs" = none
  c_LONGEST_NAME : ∃ t, mg "LONGEST_NAME" = some (Value.int 8 t)
  c_LETTERS : ∃ t, mg "LETTERS" = some (Value.str "abcdefghijklmnopqrstuvwxyz" t)
  c_LEAST_LENGTH : ∃ t, mg "LEAST_LENGTH" = some (Value.int 4 t)
  c_MOST_LENGTH : ∃ t, mg "MOST_LENGTH" = some (Value.int 60 t)
  c_MOST_GUESTS : ∃ t, mg "MOST_GUESTS" = some (Value.int 6 t)
  c_MOST_TURNS : ∃ t, mg "MOST_TURNS" = some (Value.int 400 t)
structure Own (K : PySem.W.Frag) (mg : Str → Option Value) (CPortion CShares CGuestError CTooMuch : Addr) : Prop where
  c_Portion : Cls K CPortion
  g_Portion : mg "Portion" = some (.ref CPortion)
  n_Portion_told_promise : NoAttr K CPortion "told_promise"
  n_Portion_told_ceiling : NoAttr K CPortion "told_ceiling"
  n_Portion_now_promise : NoAttr K CPortion "now_promise"
  n_Portion_now_ceiling : NoAttr K CPortion "now_ceiling"
  n_Portion_turns_used : NoAttr K CPortion "turns_used"
  c_Shares : Cls K CShares
  g_Shares : mg "Shares" = some (.ref CShares)
  n_Shares_own_length : NoAttr K CShares "own_length"
  n_Shares_portions : NoAttr K CShares "portions"
  n_Shares_turns_passed : NoAttr K CShares "turns_passed"
  n_Shares_all_dealt : NoAttr K CShares "all_dealt"
  o_GuestError : OBase K CGuestError "ValueError.__init__"
  g_GuestError : mg "GuestError" = some (.ref CGuestError)
  e_TooMuch : OexC K CTooMuch
  g_TooMuch : mg "TooMuch" = some (.ref CTooMuch)
  x_TooMuch : PySem.W.exmOne K (.ref CTooMuch) (.ref CTooMuch) = some true
  n_TooMuch_many : PySem.W.findIn K (.ref CTooMuch) "many" = some none
  m_TooMuch_init : ∃ f fd, (Fun K "__init__" "TooMuch.__init__" s_TooMuch_init f fd) ∧ (PySem.W.findIn K (.ref CTooMuch) "__init__" = some (some (.ref f)) ∧ PySem.W.typeIn K (.ref f) = some (.type "function"))
  m_Portion_init : ∃ f fd, (Fun K "__init__" "Portion.__init__" s_Portion_init f fd) ∧ (True ∧ Mk K CPortion f)
  m_Portion_begin : ∃ f fd, (Fun K "begin" "Portion.begin" s_Portion_begin f fd) ∧ (Meth K CPortion "begin" f)
  m_Shares_init : ∃ f fd, (Fun K "__init__" "Shares.__init__" s_Shares_init f fd) ∧ (True ∧ Mk K CShares f)
  m_Shares_need_guest : ∃ f fd, (Fun K "need_guest" "Shares.need_guest" s_Shares_need_guest f fd) ∧ (Meth K CShares "need_guest" f)
  m_Shares_need_room_for : ∃ f fd, (FunD K "need_room_for" "Shares.need_room_for" (defArgs s_Shares_need_room_for) (defBody s_Shares_need_room_for) (defScope s_Shares_need_room_for) [] [("but", .int 0)] f fd) ∧ (Meth K CShares "need_room_for" f)
  m_Shares_come : ∃ f fd, (Fun K "come" "Shares.come" s_Shares_come f fd) ∧ (Meth K CShares "come" f)
  m_Shares_change : ∃ f fd, (Fun K "change" "Shares.change" s_Shares_change f fd) ∧ (Meth K CShares "change" f)
  m_Shares_promised_one : ∃ f fd, (Fun K "promised_one" "Shares.promised_one" s_Shares_promised_one f fd) ∧ (Meth K CShares "promised_one" f)
  m_Shares_free_one : ∃ f fd, (Fun K "free_one" "Shares.free_one" s_Shares_free_one f fd) ∧ (Meth K CShares "free_one" f)
  m_Shares_deal : ∃ f fd, (Fun K "deal" "Shares.deal" s_Shares_deal f fd) ∧ (Meth K CShares "deal" f)
  m_Shares_length : ∃ f fd, (Fun K "length" "Shares.length" s_Shares_length f fd) ∧ (Meth K CShares "length" f)
  m_Shares_names : ∃ f fd, (Fun K "names" "Shares.names" s_Shares_names f fd) ∧ (Meth K CShares "names" f)
  m_Shares_counting : ∃ f fd, (Fun K "counting" "Shares.counting" s_Shares_counting f fd) ∧ (Meth K CShares "counting" f)
  m_Shares_promised : ∃ f fd, (Fun K "promised" "Shares.promised" s_Shares_promised f fd) ∧ (Meth K CShares "promised" f)
end K61
namespace K61
open PySem L2 Y

/-! ### the guests as they stand in a heap -/
def letters : Str := "abcdefghijklmnopqrstuvwxyz"
structure NameOk (z : Str) : Prop where
  lo : 1 ≤ z.length
  hi : z.length ≤ 8
  all : ∀ c, c ∈ z.cps.toList → c ∈ letters.cps.toList
def kvOf (nm : List Str) (ts : List Addr) : List (Key × V) := (nm.zip ts).map fun x => ((Sum.inr x.1 : Key), V.ref x.2)
structure Gs (H : Hp) (g : Addr) (o : Obj) (nm : List Str) (ts : List Addr) (p c : Nat → Nat) : Prop where
  d : H g = some (.frz o (.dK (kvOf nm ts)))
  len : ts.length = nm.length
  t : ∀ (i : Nat) (a : Addr), ts[i]? = some a → H a = some (.tup [.int (p i), .int (c i)])
  nd : nm.Nodup
  ok : ∀ z, z ∈ nm → NameOk z
  few : nm.length ≤ 6
theorem Gs.same {H H' : Hp} {g : Addr} {o : Obj} {nm : List Str} {ts : List Addr} {p c : Nat → Nat} (G : Gs H g o nm ts p c) (e : Same H H') : Gs H' g o nm ts p c :=
  ⟨e _ _ G.d, G.len, fun i a h => e _ _ (G.t i a h), G.nd, G.ok, G.few⟩
theorem kvOf_len {nm : List Str} {ts : List Addr} (h : ts.length = nm.length) : (kvOf nm ts).length = nm.length := by
  unfold kvOf
  rw [List.length_map, List.length_zip, h, Nat.min_self]
theorem kvOf_at {nm : List Str} {ts : List Addr} {i : Nat} {k : Key} {v : V} (h : (kvOf nm ts)[i]? = some (k, v)) : ∃ z a, nm[i]? = some z ∧ ts[i]? = some a ∧ k = Sum.inr z ∧ v = .ref a := by
  unfold kvOf at h
  rw [List.getElem?_map] at h
  cases e : (nm.zip ts)[i]? with
  | none =>
    rw [e] at h
    cases h
  | some x =>
    rw [e] at h
    obtain ⟨h1, h2⟩ := List.getElem?_zip_eq_some.mp e
    have := Option.some.inj h
    exact ⟨x.1, x.2, h1, h2, (congrArg Prod.fst this).symm, (congrArg Prod.snd this).symm⟩
section
variable {P : Program} {w : World} {K : PySem.W.Frag} {mg : Str → Option Value} {base : Heap}
def sp_is_whole (K : PySem.W.Frag) : Sp := fun vs H Q _ => ∃ i lo hi : Int, vs = [.int i, .int lo, .int hi] ∧ Q (.bl (decide (lo ≤ i) && decide (i ≤ hi))) H
theorem ok_is_whole {f : Addr} {fd : FuncData} (T : Txt K mg) (F : Fun K "is_whole" "is_whole" s_is_whole f fd) : FnOk P w K mg base CX0 1 f fd ["thing", "low", "high"] (sp_is_whole K) := by
  have scp := sc_is_whole
  refine F.ok sc_is_whole (fun vs H Q E h => ?_) (fun cdv A outer s H vs Q E hr h => ?_)
  · first | (obtain ⟨rfl, _⟩ := h; rfl) | (obtain ⟨_, rfl, _⟩ := h; rfl) | (obtain ⟨_, _, rfl, _⟩ := h; rfl) | (obtain ⟨_, _, _, rfl, _⟩ := h; rfl) | (obtain ⟨_, _, _, _, rfl, _⟩ := h; rfl) | (obtain ⟨_, _, _, _, _, rfl, _⟩ := h; rfl) | (obtain ⟨_, _, _, _, _, _, rfl, _⟩ := h; rfl) | (obtain ⟨_, _, _, _, _, _, _, rfl, _⟩ := h; rfl) | (obtain ⟨_, _, _, _, _, _, _, _, rfl, _⟩ := h; rfl) | (obtain ⟨_, _, _, _, _, _, _, _, _, rfl, _⟩ := h; rfl) | (obtain ⟨_, _, _, _, _, _, _, _, _, _, rfl, _⟩ := h; rfl) | (obtain ⟨_, _, _, _, _, _, _, _, _, _, _, rfl, _⟩ := h; rfl) | (obtain ⟨_, _, _, _, _, _, _, _, _, _, _, _, rfl, _⟩ := h; rfl) | (obtain ⟨_, _, _, _, _, _, _, _, _, _, _, _, _, rfl, _⟩ := h; rfl) | (obtain ⟨_, _, _, _, _, _, _, _, _, _, _, _, _, _, rfl, _⟩ := h; rfl) | (obtain ⟨_, _, _, _, _, _, _, _, _, _, _, _, _, _, _, rfl, _⟩ := h; rfl) | (obtain ⟨_, _, _, _, _, _, _, _, _, _, _, _, _, _, _, _, rfl, _⟩ := h; rfl) | (obtain ⟨_, _, _, _, _, _, _, _, _, _, _, _, _, _, _, _, _, rfl, _⟩ := h; rfl) | (obtain ⟨_, _, _, _, _, _, _, _, _, _, _, _, _, _, _, _, _, _, rfl, _⟩ := h; rfl) | (obtain ⟨_, _, _, _, _, _, _, _, _, _, _, _, _, _, _, _, _, _, _, rfl, _⟩ := h; rfl) | (obtain ⟨_, _, _, _, _, _, _, _, _, _, _, _, _, _, _, _, _, _, _, _, rfl, _⟩ := h; rfl) | (obtain ⟨_, _, _, _, _, _, _, _, _, _, _, _, _, _, _, _, _, _, _, _, _, rfl, _⟩ := h; rfl) | (obtain ⟨_, _, _, _, _, _, _, _, _, _, _, _, _, _, _, _, _, _, _, _, _, _, rfl, _⟩ := h; rfl) | (obtain ⟨_, _, _, _, _, _, _, _, _, _, _, _, _, _, _, _, _, _, _, _, _, _, _, rfl, _⟩ := h; rfl) | (obtain ⟨_, _, _, _, _, _, _, _, _, _, _, _, _, _, _, _, _, _, _, _, _, _, _, _, rfl, _⟩ := h; rfl) | (obtain ⟨_, _, _, _, _, _, _, _, _, _, _, _, _, _, _, _, _, _, _, _, _, _, _, _, _, rfl, _⟩ := h; rfl) | (obtain ⟨_, _, _, _, _, _, _, _, _, _, _, _, _, _, _, _, _, _, _, _, _, _, _, _, _, _, rfl, _⟩ := h; rfl) | (obtain ⟨_, _, _, _, _, _, _, _, _, _, _, _, _, _, _, _, _, _, _, _, _, _, _, _, _, _, _, rfl, _⟩ := h; rfl)
  · obtain ⟨i, lo, hi, rfl, q⟩ := h
    have hu := hu_of hr
    have hv := hr.units
    refine ⟨_, (pss_one (ps_ret (pe_and (pe_callB (call_isiY (K := K)) (by rfl) T.n_isinstance (by decide +kernel) (pa_cons (pv 0) (pa_cons (pe_bty (T := "int") T.n_int (by decide +kernel)) pa_nil))) (pe_and (pe_not (pe_callB (call_isiY (K := K)) (by rfl) T.n_isinstance (by decide +kernel) (pa_cons (pv 0) (pa_cons (pe_bty (T := "bool") T.n_bool (by decide +kernel)) pa_nil)))) (pe_one (pe_chain op_leI op_leI (pv 1) (pv 0) (pv 2))))))), ?_⟩
    walk_at "ys"
    refine y_d2 (fun h1 => ?_) (fun h1 => ?_)
    · walk_at "ys"
      rw [decide_eq_true h1, Bool.true_and] at q
      exact q
    · rw [decide_eq_false h1, Bool.false_and] at q
      exact q
def sp_need_length (K : PySem.W.Frag) : Sp := fun vs H Q _ => ∃ i : Int, vs = [.int i] ∧ 4 ≤ i ∧ i ≤ 60 ∧ Q .non H
theorem ok_need_length {f : Addr} {fd : FuncData} (T : Txt K mg) (F : Fun K "need_length" "need_length" s_need_length f fd) : FnOk P w K mg base CX0 2 f fd ["length"] (sp_need_length K) := by
  obtain ⟨f_is_whole, fd_is_whole, g_is_whole, F_is_whole⟩ := T.d_is_whole
  have G_is_whole := ok_is_whole (P := P) (w := w) (base := base) T F_is_whole
  have b_is_whole := F_is_whole.binds (ps := ["thing", "low", "high"]) fun _ _ _ _ _ _ us hl => match us, hl with | [_, _, _], _ => rfl
  have scp := sc_need_length
  refine F.ok sc_need_length (fun vs H Q E h => ?_) (fun cdv A outer s H vs Q E hr h => ?_)
  · first | (obtain ⟨rfl, _⟩ := h; rfl) | (obtain ⟨_, rfl, _⟩ := h; rfl) | (obtain ⟨_, _, rfl, _⟩ := h; rfl) | (obtain ⟨_, _, _, rfl, _⟩ := h; rfl) | (obtain ⟨_, _, _, _, rfl, _⟩ := h; rfl) | (obtain ⟨_, _, _, _, _, rfl, _⟩ := h; rfl) | (obtain ⟨_, _, _, _, _, _, rfl, _⟩ := h; rfl) | (obtain ⟨_, _, _, _, _, _, _, rfl, _⟩ := h; rfl) | (obtain ⟨_, _, _, _, _, _, _, _, rfl, _⟩ := h; rfl) | (obtain ⟨_, _, _, _, _, _, _, _, _, rfl, _⟩ := h; rfl) | (obtain ⟨_, _, _, _, _, _, _, _, _, _, rfl, _⟩ := h; rfl) | (obtain ⟨_, _, _, _, _, _, _, _, _, _, _, rfl, _⟩ := h; rfl) | (obtain ⟨_, _, _, _, _, _, _, _, _, _, _, _, rfl, _⟩ := h; rfl) | (obtain ⟨_, _, _, _, _, _, _, _, _, _, _, _, _, rfl, _⟩ := h; rfl) | (obtain ⟨_, _, _, _, _, _, _, _, _, _, _, _, _, _, rfl, _⟩ := h; rfl) | (obtain ⟨_, _, _, _, _, _, _, _, _, _, _, _, _, _, _, rfl, _⟩ := h; rfl) | (obtain ⟨_, _, _, _, _, _, _, _, _, _, _, _, _, _, _, _, rfl, _⟩ := h; rfl) | (obtain ⟨_, _, _, _, _, _, _, _, _, _, _, _, _, _, _, _, _, rfl, _⟩ := h; rfl) | (obtain ⟨_, _, _, _, _, _, _, _, _, _, _, _, _, _, _, _, _, _, rfl, _⟩ := h; rfl) | (obtain ⟨_, _, _, _, _, _, _, _, _, _, _, _, _, _, _, _, _, _, _, rfl, _⟩ := h; rfl) | (obtain ⟨_, _, _, _, _, _, _, _, _, _, _, _, _, _, _, _, _, _, _, _, rfl, _⟩ := h; rfl) | (obtain ⟨_, _, _, _, _, _, _, _, _, _, _, _, _, _, _, _, _, _, _, _, _, rfl, _⟩ := h; rfl) | (obtain ⟨_, _, _, _, _, _, _, _, _, _, _, _, _, _, _, _, _, _, _, _, _, _, rfl, _⟩ := h; rfl) | (obtain ⟨_, _, _, _, _, _, _, _, _, _, _, _, _, _, _, _, _, _, _, _, _, _, _, rfl, _⟩ := h; rfl) | (obtain ⟨_, _, _, _, _, _, _, _, _, _, _, _, _, _, _, _, _, _, _, _, _, _, _, _, rfl, _⟩ := h; rfl) | (obtain ⟨_, _, _, _, _, _, _, _, _, _, _, _, _, _, _, _, _, _, _, _, _, _, _, _, _, rfl, _⟩ := h; rfl) | (obtain ⟨_, _, _, _, _, _, _, _, _, _, _, _, _, _, _, _, _, _, _, _, _, _, _, _, _, _, rfl, _⟩ := h; rfl) | (obtain ⟨_, _, _, _, _, _, _, _, _, _, _, _, _, _, _, _, _, _, _, _, _, _, _, _, _, _, _, rfl, _⟩ := h; rfl)
  · obtain ⟨i, rfl, h4, h60, q⟩ := h
    have hu := hu_of hr
    have hv := hr.units
    refine ⟨_, (pss_one (ps_if (pt_not (pt_val (pe_call (G_is_whole.mono (by decide)) hr rfl g_is_whole F_is_whole.kp b_is_whole .nil pass0 (pa_cons (pv 0) (pa_cons (pe_gint T.c_LEAST_LENGTH) (pa_cons (pe_gint T.c_MOST_LENGTH) pa_nil))))))
  (pss_one ps_never)
  pss_nil)), ?_⟩
    walk_at "ys"
    refine ⟨i, 4, 60, rfl, ?_⟩
    rw [decide_eq_true h4, decide_eq_true h60]
    walk_at "ys"
    exact q
def sp_is_name (K : PySem.W.Frag) : Sp := fun vs H Q _ => ∃ z : Str, vs = [.str z] ∧ NameOk z ∧ ∀ H', Same H H' → Q (.bl true) H'
theorem ok_is_name {f : Addr} {fd : FuncData} (T : Txt K mg) (F : Fun K "is_name" "is_name" s_is_name f fd) : FnOk P w K mg base CX0 1 f fd ["thing"] (sp_is_name K) := by
  have scp := sc_is_name
  refine F.ok sc_is_name (fun vs H Q E h => ?_) (fun cdv A outer s H vs Q E hr h => ?_)
  · first | (obtain ⟨rfl, _⟩ := h; rfl) | (obtain ⟨_, rfl, _⟩ := h; rfl) | (obtain ⟨_, _, rfl, _⟩ := h; rfl) | (obtain ⟨_, _, _, rfl, _⟩ := h; rfl) | (obtain ⟨_, _, _, _, rfl, _⟩ := h; rfl) | (obtain ⟨_, _, _, _, _, rfl, _⟩ := h; rfl) | (obtain ⟨_, _, _, _, _, _, rfl, _⟩ := h; rfl) | (obtain ⟨_, _, _, _, _, _, _, rfl, _⟩ := h; rfl) | (obtain ⟨_, _, _, _, _, _, _, _, rfl, _⟩ := h; rfl) | (obtain ⟨_, _, _, _, _, _, _, _, _, rfl, _⟩ := h; rfl) | (obtain ⟨_, _, _, _, _, _, _, _, _, _, rfl, _⟩ := h; rfl) | (obtain ⟨_, _, _, _, _, _, _, _, _, _, _, rfl, _⟩ := h; rfl) | (obtain ⟨_, _, _, _, _, _, _, _, _, _, _, _, rfl, _⟩ := h; rfl) | (obtain ⟨_, _, _, _, _, _, _, _, _, _, _, _, _, rfl, _⟩ := h; rfl) | (obtain ⟨_, _, _, _, _, _, _, _, _, _, _, _, _, _, rfl, _⟩ := h; rfl) | (obtain ⟨_, _, _, _, _, _, _, _, _, _, _, _, _, _, _, rfl, _⟩ := h; rfl) | (obtain ⟨_, _, _, _, _, _, _, _, _, _, _, _, _, _, _, _, rfl, _⟩ := h; rfl) | (obtain ⟨_, _, _, _, _, _, _, _, _, _, _, _, _, _, _, _, _, rfl, _⟩ := h; rfl) | (obtain ⟨_, _, _, _, _, _, _, _, _, _, _, _, _, _, _, _, _, _, rfl, _⟩ := h; rfl) | (obtain ⟨_, _, _, _, _, _, _, _, _, _, _, _, _, _, _, _, _, _, _, rfl, _⟩ := h; rfl) | (obtain ⟨_, _, _, _, _, _, _, _, _, _, _, _, _, _, _, _, _, _, _, _, rfl, _⟩ := h; rfl) | (obtain ⟨_, _, _, _, _, _, _, _, _, _, _, _, _, _, _, _, _, _, _, _, _, rfl, _⟩ := h; rfl) | (obtain ⟨_, _, _, _, _, _, _, _, _, _, _, _, _, _, _, _, _, _, _, _, _, _, rfl, _⟩ := h; rfl) | (obtain ⟨_, _, _, _, _, _, _, _, _, _, _, _, _, _, _, _, _, _, _, _, _, _, _, rfl, _⟩ := h; rfl) | (obtain ⟨_, _, _, _, _, _, _, _, _, _, _, _, _, _, _, _, _, _, _, _, _, _, _, _, rfl, _⟩ := h; rfl) | (obtain ⟨_, _, _, _, _, _, _, _, _, _, _, _, _, _, _, _, _, _, _, _, _, _, _, _, _, rfl, _⟩ := h; rfl) | (obtain ⟨_, _, _, _, _, _, _, _, _, _, _, _, _, _, _, _, _, _, _, _, _, _, _, _, _, _, rfl, _⟩ := h; rfl) | (obtain ⟨_, _, _, _, _, _, _, _, _, _, _, _, _, _, _, _, _, _, _, _, _, _, _, _, _, _, _, rfl, _⟩ := h; rfl)
  · obtain ⟨z, rfl, hz, q⟩ := h
    have hu := hu_of hr
    have hv := hr.units
    refine ⟨_, (pss_cons (ps_if (PW.pt (pw_or (pt_not (pt_val (pe_callB (call_isiY (K := K)) (by rfl) T.n_isinstance (by decide +kernel) (pa_cons (pv 0) (pa_cons (pe_bty (T := "str") T.n_str (by decide +kernel)) pa_nil))))) (pw_or1 (pt_not (pt_chain op_leI op_leI pe_int (pe_callB (call_lenK (K := K)) (by rfl) T.n_len (by decide +kernel) (pa_cons (pv 0) pa_nil)) (pe_gint T.c_LONGEST_NAME))))))
  (pss_one (ps_ret pe_bl))
  pss_nil)
  (pss_one (ps_ret (pe_callB (call_allY (K := K) rfl) (by rfl) T.n_all (by decide +kernel) (pa_cons (pe_lc (own := [("sign", 1)]) (g := gName 1) (tt := tYes) rfl scp.nd (pi_str (pv 0)) (blkOk_by (own := [("sign", 1)]) (N := ["thing", "sign"]) (sc := defScope s_is_name) (by decide +kernel)) (fun _ _ _ _ _ => (pg_name (i := 1) scp.nd rfl (by first | exact Or.inl rfl | exact Or.inr rfl))) (fun _ _ _ _ _ => pts_nil) (fun _ _ _ _ _ => (pe_cmpR (op_inK (K := K) hu) (pv 1) (pe_gstr T.c_LETTERS) (by rfl)))) pa_nil))))), ?_⟩
    walk_at "ys"
    refine y_lenS (sz_line (by have := hz.hi; omega)) ?_
    walk_at "ys"
    refine y_dT (by have := hz.lo; omega) ?_
    walk_at "ys"
    refine y_ndT (by have := hz.hi; omega) ?_
    walk_at "ys"
    intro D nD
    refine lc_map (fun _ => .bl true) walk_str nD (sz_lt (by have := hz.hi; have : z.cps.size = z.length := rfl; omega)) (fun _ _ => trivial) (fun i x H1 H2 Nx hi e hY k => ?_) (fun H' e hD => ?_)
    · obtain ⟨rfl, c, hc, rfl⟩ := hY
      walk_at "ys"
      refine k _ _ (congrArg V.bl (decide_eq_true ?_)) (Same.refl _)
      exact hz.all c (Array.mem_toList_iff.mpr (Array.mem_of_getElem? hc))
    · walk_at "ys"
      have hD' : H' D = some (.lst ((List.replicate z.cps.size true).map V.bl)) := by
        rw [hD]
        congr 2
        rw [List.map_replicate, List.map_const', List.length_range]
      refine y_all hD' ?_
      have : (List.replicate z.cps.size true).all id = true := by
        rw [List.all_eq_true]
        intro b hb
        exact (List.mem_replicate.mp hb).2
      rw [this]
      exact q H' e
end
end K61
namespace K61
open PySem L2 Y

theorem kvOf_pair {nm : List Str} {ts : List Addr} {i : Nat} {a b : V} (h1 : (kvOf nm ts)[i]?.map (fun kv => kV kv.1) = some a) (h2 : (kvOf nm ts)[i]?.map Prod.snd = some b) : ∃ z t, nm[i]? = some z ∧ ts[i]? = some t ∧ a = .str z ∧ b = .ref t := by
  cases e : (kvOf nm ts)[i]? with
  | none =>
    rw [e] at h1
    cases h1
  | some x =>
    rw [e] at h1 h2
    obtain ⟨z, t, h3, h4, h5, h6⟩ := kvOf_at (k := x.1) (v := x.2) e
    refine ⟨z, t, h3, h4, ?_, ?_⟩
    · have := Option.some.inj h1
      rw [← this]
      show kV x.1 = _
      rw [h5]
      rfl
    · have := Option.some.inj h2
      rw [← this]
      exact h6
theorem sumTo_split (p : Nat → Nat) {i n : Nat} (h : i ≤ n) : Deal.sumTo p i ≤ Deal.sumTo p n := by
  induction n with
  | zero =>
    have : i = 0 := by omega
    rw [this]
    exact Nat.le_refl _
  | succ n ih =>
    by_cases e : i = n + 1
    · rw [e]
      exact Nat.le_refl _
    · exact Nat.le_trans (ih (by omega)) (Nat.le_add_right _ _)
section
variable {P : Program} {w : World} {K : PySem.W.Frag} {mg : Str → Option Value} {base : Heap}
def sp_are_shares (K : PySem.W.Frag) : Sp := fun vs H Q _ => ∃ (g : Addr) (L : Nat) (o : Obj) (nm : List Str) (ts : List Addr) (p c : Nat → Nat), vs = [.ref g, .int L] ∧ Gs H g o nm ts p c ∧ Deal.Ok nm.length L p c ∧ ∀ H', Same H H' → Q (.bl true) H'
theorem ok_are_shares {f : Addr} {fd : FuncData} (T : Txt K mg) (F : Fun K "are_shares" "are_shares" s_are_shares f fd) : FnOk P w K mg base CX0 2 f fd ["thing", "length"] (sp_are_shares K) := by
  obtain ⟨f_is_name, fd_is_name, g_is_name, F_is_name⟩ := T.d_is_name
  have G_is_name := ok_is_name (P := P) (w := w) (base := base) T F_is_name
  have b_is_name := F_is_name.binds (ps := ["thing"]) fun _ _ _ _ _ _ us hl => match us, hl with | [_], _ => rfl
  obtain ⟨f_is_whole, fd_is_whole, g_is_whole, F_is_whole⟩ := T.d_is_whole
  have G_is_whole := ok_is_whole (P := P) (w := w) (base := base) T F_is_whole
  have b_is_whole := F_is_whole.binds (ps := ["thing", "low", "high"]) fun _ _ _ _ _ _ us hl => match us, hl with | [_, _, _], _ => rfl
  have scp := sc_are_shares
  refine F.ok sc_are_shares (fun vs H Q E h => ?_) (fun cdv A outer s H vs Q E hr h => ?_)
  · first | (obtain ⟨rfl, _⟩ := h; rfl) | (obtain ⟨_, rfl, _⟩ := h; rfl) | (obtain ⟨_, _, rfl, _⟩ := h; rfl) | (obtain ⟨_, _, _, rfl, _⟩ := h; rfl) | (obtain ⟨_, _, _, _, rfl, _⟩ := h; rfl) | (obtain ⟨_, _, _, _, _, rfl, _⟩ := h; rfl) | (obtain ⟨_, _, _, _, _, _, rfl, _⟩ := h; rfl) | (obtain ⟨_, _, _, _, _, _, _, rfl, _⟩ := h; rfl) | (obtain ⟨_, _, _, _, _, _, _, _, rfl, _⟩ := h; rfl) | (obtain ⟨_, _, _, _, _, _, _, _, _, rfl, _⟩ := h; rfl) | (obtain ⟨_, _, _, _, _, _, _, _, _, _, rfl, _⟩ := h; rfl) | (obtain ⟨_, _, _, _, _, _, _, _, _, _, _, rfl, _⟩ := h; rfl) | (obtain ⟨_, _, _, _, _, _, _, _, _, _, _, _, rfl, _⟩ := h; rfl) | (obtain ⟨_, _, _, _, _, _, _, _, _, _, _, _, _, rfl, _⟩ := h; rfl) | (obtain ⟨_, _, _, _, _, _, _, _, _, _, _, _, _, _, rfl, _⟩ := h; rfl) | (obtain ⟨_, _, _, _, _, _, _, _, _, _, _, _, _, _, _, rfl, _⟩ := h; rfl) | (obtain ⟨_, _, _, _, _, _, _, _, _, _, _, _, _, _, _, _, rfl, _⟩ := h; rfl) | (obtain ⟨_, _, _, _, _, _, _, _, _, _, _, _, _, _, _, _, _, rfl, _⟩ := h; rfl) | (obtain ⟨_, _, _, _, _, _, _, _, _, _, _, _, _, _, _, _, _, _, rfl, _⟩ := h; rfl) | (obtain ⟨_, _, _, _, _, _, _, _, _, _, _, _, _, _, _, _, _, _, _, rfl, _⟩ := h; rfl) | (obtain ⟨_, _, _, _, _, _, _, _, _, _, _, _, _, _, _, _, _, _, _, _, rfl, _⟩ := h; rfl) | (obtain ⟨_, _, _, _, _, _, _, _, _, _, _, _, _, _, _, _, _, _, _, _, _, rfl, _⟩ := h; rfl) | (obtain ⟨_, _, _, _, _, _, _, _, _, _, _, _, _, _, _, _, _, _, _, _, _, _, rfl, _⟩ := h; rfl) | (obtain ⟨_, _, _, _, _, _, _, _, _, _, _, _, _, _, _, _, _, _, _, _, _, _, _, rfl, _⟩ := h; rfl) | (obtain ⟨_, _, _, _, _, _, _, _, _, _, _, _, _, _, _, _, _, _, _, _, _, _, _, _, rfl, _⟩ := h; rfl) | (obtain ⟨_, _, _, _, _, _, _, _, _, _, _, _, _, _, _, _, _, _, _, _, _, _, _, _, _, rfl, _⟩ := h; rfl) | (obtain ⟨_, _, _, _, _, _, _, _, _, _, _, _, _, _, _, _, _, _, _, _, _, _, _, _, _, _, rfl, _⟩ := h; rfl) | (obtain ⟨_, _, _, _, _, _, _, _, _, _, _, _, _, _, _, _, _, _, _, _, _, _, _, _, _, _, _, rfl, _⟩ := h; rfl)
  · obtain ⟨g, L, o, nm, ts, p, c, rfl, G, O, q⟩ := h
    have hu := hu_of hr
    have hv := hr.units
    have hd := G.d
    refine ⟨_, (pss_cons (ps_if (PW.pt (pw_or (pt_not (pt_val (pe_callB (call_isiY (K := K)) (by rfl) T.n_isinstance (by decide +kernel) (pa_cons (pv 0) (pa_cons (pe_bty (T := "dict") T.n_dict (by decide +kernel)) pa_nil))))) (pw_or1 (pt_cmpR op_gtI (pe_callB (call_lenK (K := K)) (by rfl) T.n_len (by decide +kernel) (pa_cons (pv 0) pa_nil)) (pe_gint T.c_MOST_GUESTS) (nomark _)))))
  (pss_one (ps_ret pe_bl))
  pss_nil)
  (pss_cons (ps_set (i := 2) scp.nd rfl (by first | exact Or.inl rfl | exact Or.inr rfl) pe_int)
  (pss_cons (ps_for PassesOwn.never rfl (pi_items (pv 0)) (pg_tupK (K := K) (n := 2) rfl (pgs_cons (pg_name (i := 3) scp.nd rfl (by first | exact Or.inl rfl | exact Or.inr rfl)) (pgs_cons (pg_name (i := 4) scp.nd rfl (by first | exact Or.inl rfl | exact Or.inr rfl)) pgs_nil)))
  (pss_cons (ps_if (PW.pt (pw_or (pt_not (pt_val (pe_call (G_is_name.mono (by decide)) hr rfl g_is_name F_is_name.kp b_is_name .nil pass0 (pa_cons (pv 3) pa_nil)))) (pw_or (pt_not (pt_val (pe_callB (call_isiY (K := K)) (by rfl) T.n_isinstance (by decide +kernel) (pa_cons (pv 4) (pa_cons (pe_bty (T := "tuple") T.n_tuple (by decide +kernel)) pa_nil))))) (pw_or1 (pt_cmpR (op_neK (K := K) hv) (pe_callB (call_lenK (K := K)) (by rfl) T.n_len (by decide +kernel) (pa_cons (pv 4) pa_nil)) pe_int (nomark _))))))
  (pss_one (ps_ret pe_bl))
  pss_nil)
  (pss_cons (ps_asg (pv 4) (pg_tupK (K := K) (n := 2) rfl (pgs_cons (pg_name (i := 5) scp.nd rfl (by first | exact Or.inl rfl | exact Or.inr rfl)) (pgs_cons (pg_name (i := 6) scp.nd rfl (by first | exact Or.inl rfl | exact Or.inr rfl)) pgs_nil))))
  (pss_cons (ps_if (PW.pt (pw_or (pt_not (pt_val (pe_call (G_is_whole.mono (by decide)) hr rfl g_is_whole F_is_whole.kp b_is_whole .nil pass0 (pa_cons (pv 5) (pa_cons pe_int (pa_cons (pv 1) pa_nil)))))) (pw_or1 (pt_not (pt_val (pe_call (G_is_whole.mono (by decide)) hr rfl g_is_whole F_is_whole.kp b_is_whole .nil pass0 (pa_cons (pv 6) (pa_cons (pe_callB (call_max2Y rfl) (by rfl) T.n_max (by decide +kernel) (pa_cons pe_int (pa_cons (pv 5) pa_nil))) (pa_cons (pv 1) pa_nil)))))))))
  (pss_one (ps_ret pe_bl))
  pss_nil)
  (pss_one (ps_aug (i := 2) scp.nd rfl (by first | exact Or.inl rfl | exact Or.inr rfl) (pv 5) ip_add))))))
  (pss_one (ps_ret (pe_cmpR op_leI (pv 2) (pv 1) (nomark _))))))), ?_⟩
    walk_at "ys"
    refine y_dF (by rw [kvOf_len G.len]; have := G.few; omega) ?_
    walk_at "ys"
    refine for_it walk_items (fun i σ H' => ∃ u3 u4 u5 u6 : Option V, σ = [some (.ref g), some (.int L), some (.int (Deal.sumTo p i : Nat)), u3, u4, u5, u6] ∧ Same H H') ⟨none, none, none, none, rfl, Same.refl H⟩ (fun i σ H' _ ⟨_, _, _, _, _, e⟩ => e _ _ hd) (fun i x σ H1 H2 hi hP hY => ?_) (fun σ H' hP => ?_)
    · obtain ⟨u3, u4, u5, u6, rfl, e⟩ := hP
      obtain ⟨T', a, b, rfl, nT, rfl, h1, h2⟩ := hY
      obtain ⟨z, t, hz, ht, rfl, rfl⟩ := kvOf_pair h1 h2
      have hin : i < nm.length := (List.getElem?_eq_some_iff.mp hz).1
      have h3 : H1 t = some (.tup [.int (p i), .int (c i)]) := e _ _ (G.t i t ht)
      walk_at "ys"
      refine ⟨z, rfl, G.ok z (List.mem_of_getElem? hz), fun H3 e3 => ?_⟩
      walk_at "ys"
      have h4 := O.pc i hin
      have h5 := O.one i hin
      have h6 := O.cL i hin
      refine ⟨p i, 0, L, rfl, ?_⟩
      rw [decide_eq_true (show (0 : Int) ≤ (p i : Int) by omega), decide_eq_true (show ((p i : Nat) : Int) ≤ (L : Int) by omega)]
      walk_at "ys"
      refine ⟨c i, _, L, rfl, ?_⟩
      rw [decide_eq_true (show (if ((p i : Nat) : Int) > 1 then ((p i : Nat) : Int) else 1) ≤ (c i : Int) by split <;> omega), decide_eq_true (show ((c i : Nat) : Int) ≤ (L : Int) by omega)]
      walk_at "ys"
      exact ⟨_, _, _, _, rfl, e.trans ((same_new0 nT).trans e3)⟩
    · obtain ⟨u3, u4, u5, u6, rfl, e⟩ := hP
      walk_at "ys"
      have h7 := O.sum
      have h8 : Deal.sumTo p (kvOf nm ts).length ≤ L := by rw [kvOf_len G.len]; exact h7
      rw [decide_eq_true (show ((Deal.sumTo p (kvOf nm ts).length : Nat) : Int) ≤ (L : Int) by omega)]
      exact q _ e
theorem valV_kvOf {nm : List Str} {ts : List Addr} : ∀ {i : Nat} {z : Str} {t : Addr}, nm.Nodup → nm[i]? = some z → ts[i]? = some t → valV (kvOf nm ts) (Sum.inr z) = some (.ref t) := by
  induction nm generalizing ts with
  | nil => intro i z t _ h _; simp at h
  | cons a r ih =>
    intro i z t nd hz ht
    cases ts with
    | nil => simp at ht
    | cons b bs =>
      have hk : kvOf (a :: r) (b :: bs) = ((Sum.inr a : Key), V.ref b) :: kvOf r bs := rfl
      rw [hk]
      cases i with
      | zero =>
        have h1 : a = z := Option.some.inj hz
        have h2 : b = t := Option.some.inj ht
        subst h1
        subst h2
        exact valV_pos rfl
      | succ i =>
        have nd' := List.nodup_cons.mp nd
        have hz' : r[i]? = some z := hz
        rw [valV_neg (p := ((Sum.inr a : Key), V.ref b)) (fun e => nd'.1 (by
          have : a = z := Sum.inr.inj e
          rw [this]
          exact List.mem_of_getElem? hz'))]
        exact ih nd'.2 hz' ht
theorem kvOf_keys {nm : List Str} : ∀ {ts : List Addr}, ts.length = nm.length → (kvOf nm ts).map (fun kv => kV kv.1) = nm.map V.str := by
  induction nm with
  | nil => intro ts _; rfl
  | cons a r ih =>
    intro ts h
    cases ts with
    | nil => simp at h
    | cons b bs =>
      have hk : kvOf (a :: r) (b :: bs) = ((Sum.inr a : Key), V.ref b) :: kvOf r bs := rfl
      rw [hk, List.map_cons, List.map_cons, ih (by simpa using h)]
      rfl
def sp_need_case (K : PySem.W.Frag) : Sp := fun vs H Q _ => ∃ (L : Nat) (g : Addr) (o : Obj) (nm : List Str) (ts : List Addr) (p c : Nat → Nat) (z : Str), vs = [.int L, .ref g, .str z] ∧ Gs H g o nm ts p c ∧ Deal.Ok nm.length L p c ∧ z ∈ nm ∧ 4 ≤ L ∧ L ≤ 60 ∧ ∀ H', Same H H' → Q .non H'
theorem ok_need_case {f : Addr} {fd : FuncData} (T : Txt K mg) (F : Fun K "need_case" "need_case" s_need_case f fd) : FnOk P w K mg base CX0 3 f fd ["length", "guests", "name"] (sp_need_case K) := by
  obtain ⟨f_need_length, fd_need_length, g_need_length, F_need_length⟩ := T.d_need_length
  have G_need_length := ok_need_length (P := P) (w := w) (base := base) T F_need_length
  have b_need_length := F_need_length.binds (ps := ["length"]) fun _ _ _ _ _ _ us hl => match us, hl with | [_], _ => rfl
  obtain ⟨f_are_shares, fd_are_shares, g_are_shares, F_are_shares⟩ := T.d_are_shares
  have G_are_shares := ok_are_shares (P := P) (w := w) (base := base) T F_are_shares
  have b_are_shares := F_are_shares.binds (ps := ["thing", "length"]) fun _ _ _ _ _ _ us hl => match us, hl with | [_, _], _ => rfl
  have scp := sc_need_case
  refine F.ok sc_need_case (fun vs H Q E h => ?_) (fun cdv A outer s H vs Q E hr h => ?_)
  · first | (obtain ⟨rfl, _⟩ := h; rfl) | (obtain ⟨_, rfl, _⟩ := h; rfl) | (obtain ⟨_, _, rfl, _⟩ := h; rfl) | (obtain ⟨_, _, _, rfl, _⟩ := h; rfl) | (obtain ⟨_, _, _, _, rfl, _⟩ := h; rfl) | (obtain ⟨_, _, _, _, _, rfl, _⟩ := h; rfl) | (obtain ⟨_, _, _, _, _, _, rfl, _⟩ := h; rfl) | (obtain ⟨_, _, _, _, _, _, _, rfl, _⟩ := h; rfl) | (obtain ⟨_, _, _, _, _, _, _, _, rfl, _⟩ := h; rfl) | (obtain ⟨_, _, _, _, _, _, _, _, _, rfl, _⟩ := h; rfl) | (obtain ⟨_, _, _, _, _, _, _, _, _, _, rfl, _⟩ := h; rfl) | (obtain ⟨_, _, _, _, _, _, _, _, _, _, _, rfl, _⟩ := h; rfl) | (obtain ⟨_, _, _, _, _, _, _, _, _, _, _, _, rfl, _⟩ := h; rfl) | (obtain ⟨_, _, _, _, _, _, _, _, _, _, _, _, _, rfl, _⟩ := h; rfl) | (obtain ⟨_, _, _, _, _, _, _, _, _, _, _, _, _, _, rfl, _⟩ := h; rfl) | (obtain ⟨_, _, _, _, _, _, _, _, _, _, _, _, _, _, _, rfl, _⟩ := h; rfl) | (obtain ⟨_, _, _, _, _, _, _, _, _, _, _, _, _, _, _, _, rfl, _⟩ := h; rfl) | (obtain ⟨_, _, _, _, _, _, _, _, _, _, _, _, _, _, _, _, _, rfl, _⟩ := h; rfl) | (obtain ⟨_, _, _, _, _, _, _, _, _, _, _, _, _, _, _, _, _, _, rfl, _⟩ := h; rfl) | (obtain ⟨_, _, _, _, _, _, _, _, _, _, _, _, _, _, _, _, _, _, _, rfl, _⟩ := h; rfl) | (obtain ⟨_, _, _, _, _, _, _, _, _, _, _, _, _, _, _, _, _, _, _, _, rfl, _⟩ := h; rfl) | (obtain ⟨_, _, _, _, _, _, _, _, _, _, _, _, _, _, _, _, _, _, _, _, _, rfl, _⟩ := h; rfl) | (obtain ⟨_, _, _, _, _, _, _, _, _, _, _, _, _, _, _, _, _, _, _, _, _, _, rfl, _⟩ := h; rfl) | (obtain ⟨_, _, _, _, _, _, _, _, _, _, _, _, _, _, _, _, _, _, _, _, _, _, _, rfl, _⟩ := h; rfl) | (obtain ⟨_, _, _, _, _, _, _, _, _, _, _, _, _, _, _, _, _, _, _, _, _, _, _, _, rfl, _⟩ := h; rfl) | (obtain ⟨_, _, _, _, _, _, _, _, _, _, _, _, _, _, _, _, _, _, _, _, _, _, _, _, _, rfl, _⟩ := h; rfl) | (obtain ⟨_, _, _, _, _, _, _, _, _, _, _, _, _, _, _, _, _, _, _, _, _, _, _, _, _, _, rfl, _⟩ := h; rfl) | (obtain ⟨_, _, _, _, _, _, _, _, _, _, _, _, _, _, _, _, _, _, _, _, _, _, _, _, _, _, _, rfl, _⟩ := h; rfl)
  · obtain ⟨L, g, o, nm, ts, p, c, z, rfl, G, O, hz, h4, h60, q⟩ := h
    have hu := hu_of hr
    have hv := hr.units
    obtain ⟨i, hi, hiz⟩ := List.mem_iff_getElem.mp hz
    have hz' : nm[i]? = some z := by rw [← hiz]; exact List.getElem?_eq_getElem hi
    have ht := List.getElem?_eq_getElem (show i < ts.length by rw [G.len]; exact hi)
    refine ⟨_, (pss_cons (ps_expr (pe_call (G_need_length.mono (by decide)) hr rfl g_need_length F_need_length.kp b_need_length .nil pass0 (pa_cons (pv 0) pa_nil)))
  (pss_cons (ps_if (pt_not (pt_val (pe_call (G_are_shares.mono (by decide)) hr rfl g_are_shares F_are_shares.kp b_are_shares .nil pass0 (pa_cons (pv 1) (pa_cons (pv 0) pa_nil)))))
  (pss_one ps_never)
  pss_nil)
  (pss_one (ps_if (PW.pt (pw_or (pt_not (pt_val (pe_callB (call_isiY (K := K)) (by rfl) T.n_isinstance (by decide +kernel) (pa_cons (pv 2) (pa_cons (pe_bty (T := "str") T.n_str (by decide +kernel)) pa_nil))))) (pw_or1 (pt_cmpR (op_notInK (K := K) hu) (pv 2) (pv 1) (by rfl)))))
  (pss_one ps_never)
  pss_nil)))), ?_⟩
    walk_at "ys"
    refine ⟨L, rfl, by omega, by omega, ?_⟩
    walk_at "ys"
    refine ⟨g, L, o, nm, ts, p, c, rfl, G, O, fun H1 e1 => ?_⟩
    walk_at "ys"
    refine y_niF (e1 _ _ G.d) ?_
    rw [valV_kvOf G.nd hz' ht]
    walk_at "ys"
    exact q _ e1
end
end K61
namespace K61
open PySem L2 Y

theorem int_div {a b : Nat} : ((a : Int) / (b : Int)) = ((a / b : Nat) : Int) := (Int.natCast_ediv a b).symm
theorem int_ceil {a b : Nat} (hb : 0 < b) : -(-(a : Int) / (b : Int)) = (((a + b - 1) / b : Nat) : Int) := by
  have h0 : (0 : Int) < b := by omega
  generalize hq : (a + b - 1) / b = q
  have h1 : ¬ (q * b < a) := fun z => by
    have := (Deal.div_lt_ceil hb).mpr z
    omega
  have h2 : 0 < q → (q - 1) * b < a := fun hp => (Deal.div_lt_ceil hb).mp (by omega)
  have e : (-(a : Int)) / (b : Int) = -(q : Int) := by
    apply Int.le_antisymm
    · have : (-(a : Int)) / (b : Int) < -(q : Int) + 1 := by
        apply Int.ediv_lt_of_lt_mul h0
        by_cases hp : 0 < q
        · have h3 := h2 hp
          have h4 : ((q - 1 : Nat) : Int) * b < a := by
            rw [← Int.natCast_mul]
            omega
          have h5 : (-(q : Int) + 1) * b = -(((q - 1 : Nat) : Int) * b) := by
            rw [← Int.neg_mul]
            congr 1
            omega
          rw [h5]
          omega
        · have : q = 0 := by omega
          subst this
          have h6 : (-((0 : Nat) : Int) + 1) * (b : Int) = b := by simp
          rw [h6]
          omega
      omega
    · apply Int.le_ediv_of_mul_le h0
      rw [Int.neg_mul, ← Int.natCast_mul]
      omega
  rw [e]
  omega
section
variable {P : Program} {w : World} {K : PySem.W.Frag} {mg : Str → Option Value} {base : Heap}
def sp_ahead_by_promise (K : PySem.W.Frag) : Sp := fun vs H Q _ => ∃ (a b : Addr) (sp sc tp tc k : Nat) (e : Bool), vs = [.ref a, .ref b, .int k, .bl e] ∧ H a = some (.tup [.int sp, .int sc]) ∧ H b = some (.tup [.int tp, .int tc]) ∧ 0 < sp ∧ sp ≤ 1000 ∧ tp ≤ 1000 ∧ k ≤ 1000 ∧ Q (.int (Deal.aheadP sp tp e k)) H
theorem ok_ahead_by_promise {f : Addr} {fd : FuncData} (T : Txt K mg) (F : Fun K "ahead_by_promise" "ahead_by_promise" s_ahead_by_promise f fd) : FnOk P w K mg base CX0 1 f fd ["share", "other", "used", "earlier"] (sp_ahead_by_promise K) := by
  have scp := sc_ahead_by_promise
  refine F.ok sc_ahead_by_promise (fun vs H Q E h => ?_) (fun cdv A outer s H vs Q E hr h => ?_)
  · first | (obtain ⟨rfl, _⟩ := h; rfl) | (obtain ⟨_, rfl, _⟩ := h; rfl) | (obtain ⟨_, _, rfl, _⟩ := h; rfl) | (obtain ⟨_, _, _, rfl, _⟩ := h; rfl) | (obtain ⟨_, _, _, _, rfl, _⟩ := h; rfl) | (obtain ⟨_, _, _, _, _, rfl, _⟩ := h; rfl) | (obtain ⟨_, _, _, _, _, _, rfl, _⟩ := h; rfl) | (obtain ⟨_, _, _, _, _, _, _, rfl, _⟩ := h; rfl) | (obtain ⟨_, _, _, _, _, _, _, _, rfl, _⟩ := h; rfl) | (obtain ⟨_, _, _, _, _, _, _, _, _, rfl, _⟩ := h; rfl) | (obtain ⟨_, _, _, _, _, _, _, _, _, _, rfl, _⟩ := h; rfl) | (obtain ⟨_, _, _, _, _, _, _, _, _, _, _, rfl, _⟩ := h; rfl) | (obtain ⟨_, _, _, _, _, _, _, _, _, _, _, _, rfl, _⟩ := h; rfl) | (obtain ⟨_, _, _, _, _, _, _, _, _, _, _, _, _, rfl, _⟩ := h; rfl) | (obtain ⟨_, _, _, _, _, _, _, _, _, _, _, _, _, _, rfl, _⟩ := h; rfl) | (obtain ⟨_, _, _, _, _, _, _, _, _, _, _, _, _, _, _, rfl, _⟩ := h; rfl) | (obtain ⟨_, _, _, _, _, _, _, _, _, _, _, _, _, _, _, _, rfl, _⟩ := h; rfl) | (obtain ⟨_, _, _, _, _, _, _, _, _, _, _, _, _, _, _, _, _, rfl, _⟩ := h; rfl) | (obtain ⟨_, _, _, _, _, _, _, _, _, _, _, _, _, _, _, _, _, _, rfl, _⟩ := h; rfl) | (obtain ⟨_, _, _, _, _, _, _, _, _, _, _, _, _, _, _, _, _, _, _, rfl, _⟩ := h; rfl) | (obtain ⟨_, _, _, _, _, _, _, _, _, _, _, _, _, _, _, _, _, _, _, _, rfl, _⟩ := h; rfl) | (obtain ⟨_, _, _, _, _, _, _, _, _, _, _, _, _, _, _, _, _, _, _, _, _, rfl, _⟩ := h; rfl) | (obtain ⟨_, _, _, _, _, _, _, _, _, _, _, _, _, _, _, _, _, _, _, _, _, _, rfl, _⟩ := h; rfl) | (obtain ⟨_, _, _, _, _, _, _, _, _, _, _, _, _, _, _, _, _, _, _, _, _, _, _, rfl, _⟩ := h; rfl) | (obtain ⟨_, _, _, _, _, _, _, _, _, _, _, _, _, _, _, _, _, _, _, _, _, _, _, _, rfl, _⟩ := h; rfl) | (obtain ⟨_, _, _, _, _, _, _, _, _, _, _, _, _, _, _, _, _, _, _, _, _, _, _, _, _, rfl, _⟩ := h; rfl) | (obtain ⟨_, _, _, _, _, _, _, _, _, _, _, _, _, _, _, _, _, _, _, _, _, _, _, _, _, _, rfl, _⟩ := h; rfl) | (obtain ⟨_, _, _, _, _, _, _, _, _, _, _, _, _, _, _, _, _, _, _, _, _, _, _, _, _, _, _, rfl, _⟩ := h; rfl)
  · obtain ⟨a, b, sp, sc, tp, tc, k, e, rfl, ha, hb, h0, hs, ht, hk, q⟩ := h
    have hu := hu_of hr
    have hv := hr.units
    refine ⟨_, (pss_cons (ps_asg (pv 0) (pg_tupK (K := K) (n := 2) rfl (pgs_cons (pg_name (i := 4) scp.nd rfl (by first | exact Or.inl rfl | exact Or.inr rfl)) (pgs_cons (pg_name (i := 5) scp.nd rfl (by first | exact Or.inl rfl | exact Or.inr rfl)) pgs_nil))))
  (pss_cons (ps_asg (pv 1) (pg_tupK (K := K) (n := 2) rfl (pgs_cons (pg_name (i := 6) scp.nd rfl (by first | exact Or.inl rfl | exact Or.inr rfl)) (pgs_cons (pg_name (i := 7) scp.nd rfl (by first | exact Or.inl rfl | exact Or.inr rfl)) pgs_nil))))
  (pss_cons (ps_set (i := 8) scp.nd rfl (by first | exact Or.inl rfl | exact Or.inr rfl) (pe_op op_times (pv 2) (pv 6)))
  (pss_cons (ps_set (i := 9) scp.nd rfl (by first | exact Or.inl rfl | exact Or.inr rfl) (pe_ifExp (pt_val (pv 3)) (pe_op op_plus (pe_op op_fdivY (pv 8) (pv 4)) pe_int) (pe_un un_negY (pe_op op_fdivY (pe_un un_negY (pv 8)) (pv 4)))))
  (pss_one (ps_ret (pe_callB (call_min2Y rfl) (by rfl) T.n_min (by decide +kernel) (pa_cons (pv 6) (pa_cons (pv 9) pa_nil))))))))), ?_⟩
    walk_at "ys"
    refine y_mulI (cmul_small (by omega) (by omega)) ?_
    walk_at "ys"
    unfold Deal.aheadP at q
    cases e with
    | true =>
      walk_at "ys"
      refine y_fdiv (cdiv_small (by omega) (by omega)) ?_
      walk_at "ys"
      rw [← Int.natCast_mul, int_div]
      rw [if_pos rfl] at q
      have e2 : (if ((k * tp / sp : Nat) : Int) + 1 < (tp : Int) then ((k * tp / sp : Nat) : Int) + 1 else (tp : Int)) = ((min tp (k * tp / sp + 1) : Nat) : Int) := by split <;> omega
      rw [e2]
      exact q
    | false =>
      walk_at "ys"
      refine y_fdiv (cdiv_small (by omega) (by omega)) ?_
      walk_at "ys"
      rw [← Int.natCast_mul, int_ceil h0]
      rw [if_neg Bool.false_ne_true] at q
      have e2 : (if (((k * tp + sp - 1) / sp : Nat) : Int) < (tp : Int) then (((k * tp + sp - 1) / sp : Nat) : Int) else (tp : Int)) = ((min tp ((k * tp + sp - 1) / sp) : Nat) : Int) := by split <;> omega
      rw [e2]
      exact q
def sp_ahead (K : PySem.W.Frag) : Sp := fun vs H Q _ => ∃ (a b : Addr) (sp sc tp tc k : Nat) (e : Bool), vs = [.ref a, .ref b, .int k, .bl e] ∧ H a = some (.tup [.int sp, .int sc]) ∧ H b = some (.tup [.int tp, .int tc]) ∧ sp ≤ 1000 ∧ tp ≤ 1000 ∧ k ≤ 1000 ∧ Q (.int (Deal.ahead sp tp tc e k)) H
theorem ok_ahead {f : Addr} {fd : FuncData} (T : Txt K mg) (F : Fun K "ahead" "ahead" s_ahead f fd) : FnOk P w K mg base CX0 2 f fd ["share", "other", "used", "earlier"] (sp_ahead K) := by
  obtain ⟨f_ahead_by_promise, fd_ahead_by_promise, g_ahead_by_promise, F_ahead_by_promise⟩ := T.d_ahead_by_promise
  have G_ahead_by_promise := ok_ahead_by_promise (P := P) (w := w) (base := base) T F_ahead_by_promise
  have b_ahead_by_promise := F_ahead_by_promise.binds (ps := ["share", "other", "used", "earlier"]) fun _ _ _ _ _ _ us hl => match us, hl with | [_, _, _, _], _ => rfl
  have scp := sc_ahead
  refine F.ok sc_ahead (fun vs H Q E h => ?_) (fun cdv A outer s H vs Q E hr h => ?_)
  · first | (obtain ⟨rfl, _⟩ := h; rfl) | (obtain ⟨_, rfl, _⟩ := h; rfl) | (obtain ⟨_, _, rfl, _⟩ := h; rfl) | (obtain ⟨_, _, _, rfl, _⟩ := h; rfl) | (obtain ⟨_, _, _, _, rfl, _⟩ := h; rfl) | (obtain ⟨_, _, _, _, _, rfl, _⟩ := h; rfl) | (obtain ⟨_, _, _, _, _, _, rfl, _⟩ := h; rfl) | (obtain ⟨_, _, _, _, _, _, _, rfl, _⟩ := h; rfl) | (obtain ⟨_, _, _, _, _, _, _, _, rfl, _⟩ := h; rfl) | (obtain ⟨_, _, _, _, _, _, _, _, _, rfl, _⟩ := h; rfl) | (obtain ⟨_, _, _, _, _, _, _, _, _, _, rfl, _⟩ := h; rfl) | (obtain ⟨_, _, _, _, _, _, _, _, _, _, _, rfl, _⟩ := h; rfl) | (obtain ⟨_, _, _, _, _, _, _, _, _, _, _, _, rfl, _⟩ := h; rfl) | (obtain ⟨_, _, _, _, _, _, _, _, _, _, _, _, _, rfl, _⟩ := h; rfl) | (obtain ⟨_, _, _, _, _, _, _, _, _, _, _, _, _, _, rfl, _⟩ := h; rfl) | (obtain ⟨_, _, _, _, _, _, _, _, _, _, _, _, _, _, _, rfl, _⟩ := h; rfl) | (obtain ⟨_, _, _, _, _, _, _, _, _, _, _, _, _, _, _, _, rfl, _⟩ := h; rfl) | (obtain ⟨_, _, _, _, _, _, _, _, _, _, _, _, _, _, _, _, _, rfl, _⟩ := h; rfl) | (obtain ⟨_, _, _, _, _, _, _, _, _, _, _, _, _, _, _, _, _, _, rfl, _⟩ := h; rfl) | (obtain ⟨_, _, _, _, _, _, _, _, _, _, _, _, _, _, _, _, _, _, _, rfl, _⟩ := h; rfl) | (obtain ⟨_, _, _, _, _, _, _, _, _, _, _, _, _, _, _, _, _, _, _, _, rfl, _⟩ := h; rfl) | (obtain ⟨_, _, _, _, _, _, _, _, _, _, _, _, _, _, _, _, _, _, _, _, _, rfl, _⟩ := h; rfl) | (obtain ⟨_, _, _, _, _, _, _, _, _, _, _, _, _, _, _, _, _, _, _, _, _, _, rfl, _⟩ := h; rfl) | (obtain ⟨_, _, _, _, _, _, _, _, _, _, _, _, _, _, _, _, _, _, _, _, _, _, _, rfl, _⟩ := h; rfl) | (obtain ⟨_, _, _, _, _, _, _, _, _, _, _, _, _, _, _, _, _, _, _, _, _, _, _, _, rfl, _⟩ := h; rfl) | (obtain ⟨_, _, _, _, _, _, _, _, _, _, _, _, _, _, _, _, _, _, _, _, _, _, _, _, _, rfl, _⟩ := h; rfl) | (obtain ⟨_, _, _, _, _, _, _, _, _, _, _, _, _, _, _, _, _, _, _, _, _, _, _, _, _, _, rfl, _⟩ := h; rfl) | (obtain ⟨_, _, _, _, _, _, _, _, _, _, _, _, _, _, _, _, _, _, _, _, _, _, _, _, _, _, _, rfl, _⟩ := h; rfl)
  · obtain ⟨a, b, sp, sc, tp, tc, k, e, rfl, ha, hb, hs, ht, hk, q⟩ := h
    have hu := hu_of hr
    have hv := hr.units
    refine ⟨_, (pss_cons (ps_asg (pv 0) (pg_tupK (K := K) (n := 2) rfl (pgs_cons (pg_name (i := 4) scp.nd rfl (by first | exact Or.inl rfl | exact Or.inr rfl)) (pgs_cons (pg_name (i := 5) scp.nd rfl (by first | exact Or.inl rfl | exact Or.inr rfl)) pgs_nil))))
  (pss_cons (ps_asg (pv 1) (pg_tupK (K := K) (n := 2) rfl (pgs_cons (pg_name (i := 6) scp.nd rfl (by first | exact Or.inl rfl | exact Or.inr rfl)) (pgs_cons (pg_name (i := 7) scp.nd rfl (by first | exact Or.inl rfl | exact Or.inr rfl)) pgs_nil))))
  (pss_cons (ps_if (pt_cmpR op_ltI (pv 2) (pv 4) (nomark _))
  (pss_one (ps_ret (pe_call (G_ahead_by_promise.mono (by decide)) hr rfl g_ahead_by_promise F_ahead_by_promise.kp b_ahead_by_promise .nil pass0 (pa_cons (pv 0) (pa_cons (pv 1) (pa_cons (pv 2) (pa_cons (pv 3) pa_nil)))))))
  pss_nil)
  (pss_one (ps_ret (pe_callB (call_min2Y rfl) (by rfl) T.n_min (by decide +kernel) (pa_cons (pv 7) (pa_cons (pe_callB (call_max2Y rfl) (by rfl) T.n_max (by decide +kernel) (pa_cons (pv 6) (pa_cons (pe_op op_plus (pv 2) (pe_callTy call_intY (by rfl) T.n_int (by decide +kernel) (pa_cons (pv 3) pa_nil))) pa_nil))) pa_nil)))))))), ?_⟩
    walk_at "ys"
    unfold Deal.ahead at q
    refine y_d2 (fun h1 => ?_) (fun h1 => ?_)
    · walk_at "ys"
      rw [if_pos (by omega)] at q
      exact ⟨a, b, sp, sc, tp, tc, k, e, rfl, ha, hb, by omega, hs, ht, hk, q⟩
    · walk_at "ys"
      rw [if_neg (by omega)] at q
      have e2 : ∀ j : Int, j = (if e = true then 1 else 0) → (if (if (k : Int) + j > (tp : Int) then (k : Int) + j else (tp : Int)) < (tc : Int) then (if (k : Int) + j > (tp : Int) then (k : Int) + j else (tp : Int)) else (tc : Int)) = ((min tc (max tp (k + if e = true then 1 else 0)) : Nat) : Int) := by
        intro j hj
        subst hj
        cases e
        · simp only [Bool.false_eq_true, if_false]
          split <;> split at * <;> omega
        · simp only [if_true]
          split <;> split at * <;> omega
      rw [e2 _ rfl]
      exact q
theorem fm_ite {α β : Type} (q : α → Bool) (g : α → β) : ∀ l : List α, l.filterMap (fun j => if q j = true then some (g j) else none) = (l.filter q).map g
  | [] => rfl
  | a :: r => by
    rw [List.filterMap_cons, List.filter_cons]
    by_cases h : q a = true
    · simp only [h, if_true, List.map_cons]
      rw [fm_ite q g r]
    · simp only [h, if_false]
      exact fm_ite q g r
def oth (n i : Nat) : List Nat := (List.range n).filter fun j => !decide (j = i)
theorem oth_sum (f : Nat → Nat) (i : Nat) : ∀ n : Nat, ((oth n i).map f).sum = Deal.sumTo (fun j => if j = i then 0 else f j) n
  | 0 => rfl
  | n + 1 => by
    have ih := oth_sum f i n
    unfold oth at *
    rw [List.range_succ, List.filter_append, List.map_append, List.sum_append, ih]
    show _ = Deal.sumTo (fun j => if j = i then 0 else f j) n + (if n = i then 0 else f n)
    by_cases e : n = i
    · simp [e]
    · simp [e]
theorem take_sum (f : Nat → Nat) {l : List Nat} {k j : Nat} (h : l[k]? = some j) : ((l.take (k + 1)).map f).sum = ((l.take k).map f).sum + f j := by
  rw [List.take_add_one, h, List.map_append, List.sum_append]
  simp
def nmF (nm : List Str) (j : Nat) : Str := nm.getD j ""
theorem nmF_at {nm : List Str} {j : Nat} (h : j < nm.length) : nm[j]? = some (nmF nm j) := by
  unfold nmF
  rw [List.getD_eq_getElem?_getD, List.getElem?_eq_getElem h]
  rfl
theorem nmF_of {nm : List Str} {j : Nat} {z : Str} (h : nm[j]? = some z) : nmF nm j = z := by
  unfold nmF
  rw [List.getD_eq_getElem?_getD, h]
  rfl
theorem nm_inj {nm : List Str} (nd : nm.Nodup) {i j : Nat} (hi : i < nm.length) (hj : j < nm.length) : nmF nm i = nmF nm j ↔ i = j :=
  ⟨fun e => nd_ix nd (nmF_at hi) (by rw [e]; exact nmF_at hj), fun e => by rw [e]⟩
def turnV (n L : Nat) (p c : Nat → Nat) (i m : Nat) : V := if c i < m then .non else if Deal.T n p c i (m - 1) ≤ L then .int (Deal.T n p c i (m - 1) : Nat) else .non
def sp_turn_of (K : PySem.W.Frag) : Sp := fun vs H Q _ => ∃ (L : Nat) (g : Addr) (o : Obj) (nm : List Str) (ts : List Addr) (p c : Nat → Nat) (i m : Nat), vs = [.int L, .ref g, .str (nmF nm i), .int m] ∧ Gs H g o nm ts p c ∧ Deal.Ok nm.length L p c ∧ i < nm.length ∧ 1 ≤ m ∧ m ≤ L ∧ L ≤ 60 ∧ ∀ H', Same H H' → Q (turnV nm.length L p c i m) H'
theorem ok_turn_of {f : Addr} {fd : FuncData} (T : Txt K mg) (F : Fun K "turn_of" "turn_of" s_turn_of f fd) : FnOk P w K mg base CX0 3 f fd ["length", "guests", "name", "many"] (sp_turn_of K) := by
  obtain ⟨f_ahead, fd_ahead, g_ahead, F_ahead⟩ := T.d_ahead
  have G_ahead := ok_ahead (P := P) (w := w) (base := base) T F_ahead
  have b_ahead := F_ahead.binds (ps := ["share", "other", "used", "earlier"]) fun _ _ _ _ _ _ us hl => match us, hl with | [_, _, _, _], _ => rfl
  have scp := sc_turn_of
  refine F.ok sc_turn_of (fun vs H Q E h => ?_) (fun cdv A outer s H vs Q E hr h => ?_)
  · first | (obtain ⟨rfl, _⟩ := h; rfl) | (obtain ⟨_, rfl, _⟩ := h; rfl) | (obtain ⟨_, _, rfl, _⟩ := h; rfl) | (obtain ⟨_, _, _, rfl, _⟩ := h; rfl) | (obtain ⟨_, _, _, _, rfl, _⟩ := h; rfl) | (obtain ⟨_, _, _, _, _, rfl, _⟩ := h; rfl) | (obtain ⟨_, _, _, _, _, _, rfl, _⟩ := h; rfl) | (obtain ⟨_, _, _, _, _, _, _, rfl, _⟩ := h; rfl) | (obtain ⟨_, _, _, _, _, _, _, _, rfl, _⟩ := h; rfl) | (obtain ⟨_, _, _, _, _, _, _, _, _, rfl, _⟩ := h; rfl) | (obtain ⟨_, _, _, _, _, _, _, _, _, _, rfl, _⟩ := h; rfl) | (obtain ⟨_, _, _, _, _, _, _, _, _, _, _, rfl, _⟩ := h; rfl) | (obtain ⟨_, _, _, _, _, _, _, _, _, _, _, _, rfl, _⟩ := h; rfl) | (obtain ⟨_, _, _, _, _, _, _, _, _, _, _, _, _, rfl, _⟩ := h; rfl) | (obtain ⟨_, _, _, _, _, _, _, _, _, _, _, _, _, _, rfl, _⟩ := h; rfl) | (obtain ⟨_, _, _, _, _, _, _, _, _, _, _, _, _, _, _, rfl, _⟩ := h; rfl) | (obtain ⟨_, _, _, _, _, _, _, _, _, _, _, _, _, _, _, _, rfl, _⟩ := h; rfl) | (obtain ⟨_, _, _, _, _, _, _, _, _, _, _, _, _, _, _, _, _, rfl, _⟩ := h; rfl) | (obtain ⟨_, _, _, _, _, _, _, _, _, _, _, _, _, _, _, _, _, _, rfl, _⟩ := h; rfl) | (obtain ⟨_, _, _, _, _, _, _, _, _, _, _, _, _, _, _, _, _, _, _, rfl, _⟩ := h; rfl) | (obtain ⟨_, _, _, _, _, _, _, _, _, _, _, _, _, _, _, _, _, _, _, _, rfl, _⟩ := h; rfl) | (obtain ⟨_, _, _, _, _, _, _, _, _, _, _, _, _, _, _, _, _, _, _, _, _, rfl, _⟩ := h; rfl) | (obtain ⟨_, _, _, _, _, _, _, _, _, _, _, _, _, _, _, _, _, _, _, _, _, _, rfl, _⟩ := h; rfl) | (obtain ⟨_, _, _, _, _, _, _, _, _, _, _, _, _, _, _, _, _, _, _, _, _, _, _, rfl, _⟩ := h; rfl) | (obtain ⟨_, _, _, _, _, _, _, _, _, _, _, _, _, _, _, _, _, _, _, _, _, _, _, _, rfl, _⟩ := h; rfl) | (obtain ⟨_, _, _, _, _, _, _, _, _, _, _, _, _, _, _, _, _, _, _, _, _, _, _, _, _, rfl, _⟩ := h; rfl) | (obtain ⟨_, _, _, _, _, _, _, _, _, _, _, _, _, _, _, _, _, _, _, _, _, _, _, _, _, _, rfl, _⟩ := h; rfl) | (obtain ⟨_, _, _, _, _, _, _, _, _, _, _, _, _, _, _, _, _, _, _, _, _, _, _, _, _, _, _, rfl, _⟩ := h; rfl)
  · obtain ⟨L, g, o, nm, ts, p, c, i, m, rfl, G, O, hi, hm1, hmL, h60, q⟩ := h
    have hu := hu_of hr
    have hv := hr.units
    have hd := G.d
    have hz := nmF_at hi
    have hti := List.getElem?_eq_getElem (show i < ts.length by rw [G.len]; exact hi)
    have hgi := G.t i _ hti
    have hvi := valV_kvOf G.nd hz hti
    refine ⟨_, (pss_cons (ps_if (pt_cmpR op_gtI (pv 3) (pe_ix (ix_anyK (K := K) hu) (pe_ix (ix_anyK (K := K) hu) (pv 1) (pv 2) (fun _ _ => rfl)) pe_int (fun _ _ => rfl)) (nomark _))
  (pss_one (ps_ret pe_non))
  pss_nil)
  (pss_cons (ps_set (i := 4) scp.nd rfl (by first | exact Or.inl rfl | exact Or.inr rfl) (pe_callTy (call_listK (K := K) rfl) (by rfl) T.n_list (by decide +kernel) (pa_cons (pv 1) pa_nil)))
  (pss_cons (ps_setLc (i := 5) (own := [("other", 7)]) (g := gName 7) rfl scp.nd rfl rfl (sw_true rfl rfl rfl (by decide +kernel)) (pi_listK (K := K) (pv 4)) (blkOk_by (own := [("other", 7)]) (N := ["length", "guests", "name", "many", "names", "others", "total", "other", "earlier"]) (sc := defScope s_turn_of) (by decide +kernel)) (fun _ _ _ _ _ => (pg_name (i := 7) scp.nd rfl (by first | exact Or.inl rfl | exact Or.inr rfl))) (fun _ _ _ _ _ => (pts_one (pt_cmpR (op_neK (K := K) hv) (pv 7) (pv 2) (nomark _)))) (fun _ _ _ _ _ => (pv 7)))
  (pss_cons (ps_set (i := 6) scp.nd rfl (by first | exact Or.inl rfl | exact Or.inr rfl) (pv 3))
  (pss_cons (ps_for PassesOwn.never rfl (pi_listK (K := K) (pv 5)) (pg_name (i := 7) scp.nd rfl (by first | exact Or.inl rfl | exact Or.inr rfl))
  (pss_cons (ps_set (i := 8) scp.nd rfl (by first | exact Or.inl rfl | exact Or.inr rfl) (pe_cmpR op_ltI (pe_bmK (K := K) PySem.F.plainAttrs_list PySem.F.slot_list_index PySem.F.type_list_index (mt_indexK (K := K)) (pv 4) (pa_cons (pv 7) pa_nil)) (pe_bmK (K := K) PySem.F.plainAttrs_list PySem.F.slot_list_index PySem.F.type_list_index (mt_indexK (K := K)) (pv 4) (pa_cons (pv 2) pa_nil)) (nomark _)))
  (pss_one (ps_aug (i := 6) scp.nd rfl (by first | exact Or.inl rfl | exact Or.inr rfl) (pe_call (G_ahead.mono (by decide)) hr rfl g_ahead F_ahead.kp b_ahead .nil pass0 (pa_cons (pe_ix (ix_anyK (K := K) hu) (pv 1) (pv 2) (fun _ _ => rfl)) (pa_cons (pe_ix (ix_anyK (K := K) hu) (pv 1) (pv 7) (fun _ _ => rfl)) (pa_cons (pe_op op_minus (pv 3) pe_int) (pa_cons (pv 8) pa_nil))))) ip_add))))
  (pss_one (ps_ret (pe_ifExp (pt_cmpR op_leI (pv 6) (pv 0) (nomark _)) (pv 6) pe_non)))))))), ?_⟩
    walk_at "ys"
    refine y_ixF hd hvi ?_
    walk_at "ys"
    unfold turnV at q
    refine y_d2 (fun h1 => ?_) (fun h1 => ?_)
    · walk_at "ys"
      rw [if_pos (by omega)] at q
      exact q _ (Same.refl H)
    rw [if_neg (by omega)] at q
    walk_at "ys"
    refine y_listF hd (fun ln nln => ?_)
    rw [kvOf_keys G.len]
    have hln : upd H ln (.lst (nm.map V.str)) ln = some (.lst (nm.map V.str)) := upd_same
    have e1 : Same H (upd H ln (.lst (nm.map V.str))) := same_new0 nln
    generalize upd H ln (.lst (nm.map V.str)) = H1 at *
    walk_at "ys"
    intro lo nlo
    refine lc_gen (fun j => if (!decide (j = i)) = true then some (.str (nmF nm j)) else none) walk_list nlo (sz_lt (by rw [List.length_map]; have := G.few; omega)) (fun H' e => SqL.of (e _ _ hln)) (fun j x H2 H3 Nx hj e hY k k0 => ?_) (fun H2 e2 hlo => ?_)
    · obtain ⟨rfl, hx⟩ := hY
      rw [List.length_map] at hj
      rw [List.getElem?_map, nmF_at hj] at hx
      have hx := Option.some.inj hx
      subst hx
      walk_at "ys"
      by_cases hji : j = i
      · subst hji
        walk_at "ys"
        exact k0 _ (by simp) (Same.refl _)
      · refine y_ndF (fun e => hji ((nm_inj G.nd hj hi).mp (V.str.inj e))) ?_
        walk_at "ys"
        refine k _ _ ?_ (Same.refl _)
        rw [decide_eq_false hji]
        rfl
    · rw [List.length_map, fm_ite] at hlo
      change H2 lo = some (.lst ((oth nm.length i).map fun j => .str (nmF nm j))) at hlo
      walk_at "ys"
      have e3 := e1.trans e2
      have hln2 := e2 _ _ hln
      refine for_it walk_list (fun k σ H' => ∃ u7 u8 : Option V, σ = [some (.int L), some (.ref g), some (.str (nmF nm i)), some (.int m), some (.ref ln), some (.ref lo), some (.int ((m + (((oth nm.length i).take k).map (Deal.A p c i (m - 1))).sum : Nat) : Int)), u7, u8] ∧ Same H2 H')
        ⟨none, none, rfl, Same.refl _⟩ (fun k σ H' _ ⟨_, _, _, e⟩ => SqL.of (e _ _ hlo)) (fun k x σ H3 H4 hk hP hY => ?_) (fun σ H3 hP => ?_)
      · obtain ⟨u7, u8, rfl, e4⟩ := hP
        obtain ⟨rfl, hx⟩ := hY
        have hk' : k < (oth nm.length i).length := by simpa [oth] using hk
        have hkj := List.getElem?_eq_getElem hk'
        generalize (oth nm.length i)[k] = j at hkj
        have hjm : j ∈ oth nm.length i := List.mem_of_getElem? hkj
        have hj : j < nm.length := by
          have := (List.mem_filter.mp hjm).1
          exact List.mem_range.mp this
        have hji : j ≠ i := by
          have := (List.mem_filter.mp hjm).2
          simpa using this
        rw [List.getElem?_map] at hx
        have hx2 : ((oth nm.length i)[k]?).map (fun j => V.str (nmF nm j)) = some x := hx
        rw [hkj] at hx2
        have hx := Option.some.inj hx2
        subst hx
        have htj := List.getElem?_eq_getElem (show j < ts.length by rw [G.len]; exact hj)
        have hgj := (e3.trans e4) _ _ (G.t j _ htj)
        have hgi2 := (e3.trans e4) _ _ hgi
        have hvj := valV_kvOf G.nd (nmF_at hj) htj
        have hd2 := (e3.trans e4) _ _ hd
        have hln3 := e4 _ _ hln2
        walk_at "ys"
        refine y_indexS hln3 (nmF_at hj) G.nd ?_
        walk_at "ys"
        refine y_indexS hln3 (nmF_at hi) G.nd ?_
        walk_at "ys"
        refine y_ixF hd2 hvi ?_
        walk_at "ys"
        refine y_ixF hd2 hvj ?_
        walk_at "ys"
        have q1 : ((m : Nat) : Int) - 1 = ((m - 1 : Nat) : Int) := by omega
        have q2 : decide (((j : Nat) : Int) < ((i : Nat) : Int)) = decide (j < i) := by
          by_cases z : j < i
          · rw [decide_eq_true z, decide_eq_true (by omega)]
          · rw [decide_eq_false z, decide_eq_false (by omega)]
        rw [q1, q2]
        have b1 := O.pc i hi
        have b2 := O.cL i hi
        have b3 := O.pc j hj
        have b4 := O.cL j hj
        refine ⟨_, _, p i, c i, p j, c j, m - 1, decide (j < i), rfl, hgi2, hgj, by omega, by omega, by omega, ?_⟩
        walk_at "ys"
        rw [take_sum _ hkj, ← Int.natCast_add, Nat.add_assoc]
        exact ⟨_, _, rfl, e4⟩
      · obtain ⟨u7, u8, rfl, e4⟩ := hP
        rw [List.length_map, List.take_length, oth_sum]
        have q3 : m + Deal.sumTo (fun j => if j = i then 0 else Deal.A p c i (m - 1) j) nm.length = Deal.T nm.length p c i (m - 1) := by
          unfold Deal.T
          omega
        rw [q3]
        walk_at "ys"
        refine y_d2 (fun h2 => ?_) (fun h2 => ?_)
        · rw [if_pos (by omega)] at q
          walk_at "ys"
          exact q _ (e3.trans e4)
        · rw [if_neg (by omega)] at q
          walk_at "ys"
          exact q _ (e3.trans e4)
def sp_latest (K : PySem.W.Frag) : Sp := fun vs H Q _ => ∃ (L : Nat) (g : Addr) (o : Obj) (nm : List Str) (ts : List Addr) (p c : Nat → Nat) (i m : Nat), vs = [.int L, .ref g, .str (nmF nm i), .int m] ∧ Gs H g o nm ts p c ∧ Deal.Ok nm.length L p c ∧ i < nm.length ∧ 1 ≤ m ∧ m ≤ L ∧ 4 ≤ L ∧ L ≤ 60 ∧ ∀ H', Same H H' → Q (turnV nm.length L p c i m) H'
theorem ok_latest {f : Addr} {fd : FuncData} (T : Txt K mg) (F : Fun K "latest" "latest" s_latest f fd) : FnOk P w K mg base CX0 4 f fd ["length", "guests", "name", "many"] (sp_latest K) := by
  obtain ⟨f_need_case, fd_need_case, g_need_case, F_need_case⟩ := T.d_need_case
  have G_need_case := ok_need_case (P := P) (w := w) (base := base) T F_need_case
  have b_need_case := F_need_case.binds (ps := ["length", "guests", "name"]) fun _ _ _ _ _ _ us hl => match us, hl with | [_, _, _], _ => rfl
  obtain ⟨f_turn_of, fd_turn_of, g_turn_of, F_turn_of⟩ := T.d_turn_of
  have G_turn_of := ok_turn_of (P := P) (w := w) (base := base) T F_turn_of
  have b_turn_of := F_turn_of.binds (ps := ["length", "guests", "name", "many"]) fun _ _ _ _ _ _ us hl => match us, hl with | [_, _, _, _], _ => rfl
  obtain ⟨f_is_whole, fd_is_whole, g_is_whole, F_is_whole⟩ := T.d_is_whole
  have G_is_whole := ok_is_whole (P := P) (w := w) (base := base) T F_is_whole
  have b_is_whole := F_is_whole.binds (ps := ["thing", "low", "high"]) fun _ _ _ _ _ _ us hl => match us, hl with | [_, _, _], _ => rfl
  have scp := sc_latest
  refine F.ok sc_latest (fun vs H Q E h => ?_) (fun cdv A outer s H vs Q E hr h => ?_)
  · first | (obtain ⟨rfl, _⟩ := h; rfl) | (obtain ⟨_, rfl, _⟩ := h; rfl) | (obtain ⟨_, _, rfl, _⟩ := h; rfl) | (obtain ⟨_, _, _, rfl, _⟩ := h; rfl) | (obtain ⟨_, _, _, _, rfl, _⟩ := h; rfl) | (obtain ⟨_, _, _, _, _, rfl, _⟩ := h; rfl) | (obtain ⟨_, _, _, _, _, _, rfl, _⟩ := h; rfl) | (obtain ⟨_, _, _, _, _, _, _, rfl, _⟩ := h; rfl) | (obtain ⟨_, _, _, _, _, _, _, _, rfl, _⟩ := h; rfl) | (obtain ⟨_, _, _, _, _, _, _, _, _, rfl, _⟩ := h; rfl) | (obtain ⟨_, _, _, _, _, _, _, _, _, _, rfl, _⟩ := h; rfl) | (obtain ⟨_, _, _, _, _, _, _, _, _, _, _, rfl, _⟩ := h; rfl) | (obtain ⟨_, _, _, _, _, _, _, _, _, _, _, _, rfl, _⟩ := h; rfl) | (obtain ⟨_, _, _, _, _, _, _, _, _, _, _, _, _, rfl, _⟩ := h; rfl) | (obtain ⟨_, _, _, _, _, _, _, _, _, _, _, _, _, _, rfl, _⟩ := h; rfl) | (obtain ⟨_, _, _, _, _, _, _, _, _, _, _, _, _, _, _, rfl, _⟩ := h; rfl) | (obtain ⟨_, _, _, _, _, _, _, _, _, _, _, _, _, _, _, _, rfl, _⟩ := h; rfl) | (obtain ⟨_, _, _, _, _, _, _, _, _, _, _, _, _, _, _, _, _, rfl, _⟩ := h; rfl) | (obtain ⟨_, _, _, _, _, _, _, _, _, _, _, _, _, _, _, _, _, _, rfl, _⟩ := h; rfl) | (obtain ⟨_, _, _, _, _, _, _, _, _, _, _, _, _, _, _, _, _, _, _, rfl, _⟩ := h; rfl) | (obtain ⟨_, _, _, _, _, _, _, _, _, _, _, _, _, _, _, _, _, _, _, _, rfl, _⟩ := h; rfl) | (obtain ⟨_, _, _, _, _, _, _, _, _, _, _, _, _, _, _, _, _, _, _, _, _, rfl, _⟩ := h; rfl) | (obtain ⟨_, _, _, _, _, _, _, _, _, _, _, _, _, _, _, _, _, _, _, _, _, _, rfl, _⟩ := h; rfl) | (obtain ⟨_, _, _, _, _, _, _, _, _, _, _, _, _, _, _, _, _, _, _, _, _, _, _, rfl, _⟩ := h; rfl) | (obtain ⟨_, _, _, _, _, _, _, _, _, _, _, _, _, _, _, _, _, _, _, _, _, _, _, _, rfl, _⟩ := h; rfl) | (obtain ⟨_, _, _, _, _, _, _, _, _, _, _, _, _, _, _, _, _, _, _, _, _, _, _, _, _, rfl, _⟩ := h; rfl) | (obtain ⟨_, _, _, _, _, _, _, _, _, _, _, _, _, _, _, _, _, _, _, _, _, _, _, _, _, _, rfl, _⟩ := h; rfl) | (obtain ⟨_, _, _, _, _, _, _, _, _, _, _, _, _, _, _, _, _, _, _, _, _, _, _, _, _, _, _, rfl, _⟩ := h; rfl)
  · obtain ⟨L, g, o, nm, ts, p, c, i, m, rfl, G, O, hi, hm1, hmL, h4, h60, q⟩ := h
    have hu := hu_of hr
    have hv := hr.units
    refine ⟨_, (pss_cons (ps_expr (pe_call (G_need_case.mono (by decide)) hr rfl g_need_case F_need_case.kp b_need_case .nil pass0 (pa_cons (pv 0) (pa_cons (pv 1) (pa_cons (pv 2) pa_nil)))))
  (pss_cons (ps_if (pt_not (pt_val (pe_call (G_is_whole.mono (by decide)) hr rfl g_is_whole F_is_whole.kp b_is_whole .nil pass0 (pa_cons (pv 3) (pa_cons pe_int (pa_cons (pv 0) pa_nil))))))
  (pss_one ps_never)
  pss_nil)
  (pss_one (ps_ret (pe_call (G_turn_of.mono (by decide)) hr rfl g_turn_of F_turn_of.kp b_turn_of .nil pass0 (pa_cons (pv 0) (pa_cons (pv 1) (pa_cons (pv 2) (pa_cons (pv 3) pa_nil))))))))), ?_⟩
    walk_at "ys"
    refine ⟨L, g, o, nm, ts, p, c, nmF nm i, rfl, G, O, List.mem_of_getElem? (nmF_at hi), h4, h60, fun H1 e1 => ?_⟩
    walk_at "ys"
    refine ⟨m, 1, L, rfl, ?_⟩
    rw [decide_eq_true (show (1 : Int) ≤ (m : Int) by omega), decide_eq_true (show ((m : Nat) : Int) ≤ (L : Int) by omega)]
    walk_at "ys"
    exact ⟨L, g, o, nm, ts, p, c, i, m, rfl, G.same e1, O, hi, hm1, hmL, h60, fun H2 e2 => q H2 (e1.trans e2)⟩
end
end K61
namespace K61
open PySem L2 Y

def alP (n L : Nat) (p c : Nat → Nat) (i t k : Nat) : Bool := decide (k < c i) && decide (Deal.T n p c i k ≤ L) && decide (Deal.T n p c i k ≤ t)
/-- how many turns come within the first t ones of a stretch -/
def alin (n L : Nat) (p c : Nat → Nat) (i t : Nat) : Nat := ((List.range L).filter fun k => alP n L p c i t k).length
theorem turn_cases (n L : Nat) (p c : Nat → Nat) (i k : Nat) : (turnV n L p c i (k + 1) = .non ∧ ¬ (k < c i ∧ Deal.T n p c i k ≤ L)) ∨ (turnV n L p c i (k + 1) = .int (Deal.T n p c i k : Nat) ∧ k < c i ∧ Deal.T n p c i k ≤ L) := by
  unfold turnV
  rw [Nat.add_sub_cancel]
  by_cases h1 : c i < k + 1
  · rw [if_pos h1]
    exact .inl ⟨rfl, fun z => by omega⟩
  · rw [if_neg h1]
    by_cases h2 : Deal.T n p c i k ≤ L
    · rw [if_pos h2]
      exact .inr ⟨rfl, by omega, h2⟩
    · rw [if_neg h2]
      exact .inl ⟨rfl, fun z => h2 z.2⟩
theorem alin_all {n L : Nat} {p c : Nat → Nat} (i : Nat) : alin n L p c i L = Deal.many n L p c i := by
  unfold alin Deal.many
  congr 1
  refine List.filter_congr fun k _ => ?_
  unfold alP
  rw [Bool.and_assoc, Bool.and_self]
theorem alin_zero {n L : Nat} {p c : Nat → Nat} (i : Nat) : alin n L p c i 0 = 0 := by
  unfold alin
  rw [List.length_eq_zero_iff, List.filter_eq_nil_iff]
  intro k _
  unfold alP
  have := Deal.T_ge n p c i k
  simp only [Bool.and_eq_true, decide_eq_true_eq]
  omega
section
variable {P : Program} {w : World} {K : PySem.W.Frag} {mg : Str → Option Value} {base : Heap}
def sp_at_least_in (K : PySem.W.Frag) : Sp := fun vs H Q _ => ∃ (L : Nat) (g : Addr) (o : Obj) (nm : List Str) (ts : List Addr) (p c : Nat → Nat) (i t : Nat), vs = [.int L, .ref g, .str (nmF nm i), .int t] ∧ Gs H g o nm ts p c ∧ Deal.Ok nm.length L p c ∧ i < nm.length ∧ L ≤ 60 ∧ ∀ H', Same H H' → Q (.int (alin nm.length L p c i t)) H'
theorem ok_at_least_in {f : Addr} {fd : FuncData} (T : Txt K mg) (F : Fun K "at_least_in" "at_least_in" s_at_least_in f fd) : FnOk P w K mg base CX0 4 f fd ["length", "guests", "name", "turns"] (sp_at_least_in K) := by
  obtain ⟨f_turn_of, fd_turn_of, g_turn_of, F_turn_of⟩ := T.d_turn_of
  have G_turn_of := ok_turn_of (P := P) (w := w) (base := base) T F_turn_of
  have b_turn_of := F_turn_of.binds (ps := ["length", "guests", "name", "many"]) fun _ _ _ _ _ _ us hl => match us, hl with | [_, _, _, _], _ => rfl
  have scp := sc_at_least_in
  refine F.ok sc_at_least_in (fun vs H Q E h => ?_) (fun cdv A outer s H vs Q E hr h => ?_)
  · first | (obtain ⟨rfl, _⟩ := h; rfl) | (obtain ⟨_, rfl, _⟩ := h; rfl) | (obtain ⟨_, _, rfl, _⟩ := h; rfl) | (obtain ⟨_, _, _, rfl, _⟩ := h; rfl) | (obtain ⟨_, _, _, _, rfl, _⟩ := h; rfl) | (obtain ⟨_, _, _, _, _, rfl, _⟩ := h; rfl) | (obtain ⟨_, _, _, _, _, _, rfl, _⟩ := h; rfl) | (obtain ⟨_, _, _, _, _, _, _, rfl, _⟩ := h; rfl) | (obtain ⟨_, _, _, _, _, _, _, _, rfl, _⟩ := h; rfl) | (obtain ⟨_, _, _, _, _, _, _, _, _, rfl, _⟩ := h; rfl) | (obtain ⟨_, _, _, _, _, _, _, _, _, _, rfl, _⟩ := h; rfl) | (obtain ⟨_, _, _, _, _, _, _, _, _, _, _, rfl, _⟩ := h; rfl) | (obtain ⟨_, _, _, _, _, _, _, _, _, _, _, _, rfl, _⟩ := h; rfl) | (obtain ⟨_, _, _, _, _, _, _, _, _, _, _, _, _, rfl, _⟩ := h; rfl) | (obtain ⟨_, _, _, _, _, _, _, _, _, _, _, _, _, _, rfl, _⟩ := h; rfl) | (obtain ⟨_, _, _, _, _, _, _, _, _, _, _, _, _, _, _, rfl, _⟩ := h; rfl) | (obtain ⟨_, _, _, _, _, _, _, _, _, _, _, _, _, _, _, _, rfl, _⟩ := h; rfl) | (obtain ⟨_, _, _, _, _, _, _, _, _, _, _, _, _, _, _, _, _, rfl, _⟩ := h; rfl) | (obtain ⟨_, _, _, _, _, _, _, _, _, _, _, _, _, _, _, _, _, _, rfl, _⟩ := h; rfl) | (obtain ⟨_, _, _, _, _, _, _, _, _, _, _, _, _, _, _, _, _, _, _, rfl, _⟩ := h; rfl) | (obtain ⟨_, _, _, _, _, _, _, _, _, _, _, _, _, _, _, _, _, _, _, _, rfl, _⟩ := h; rfl) | (obtain ⟨_, _, _, _, _, _, _, _, _, _, _, _, _, _, _, _, _, _, _, _, _, rfl, _⟩ := h; rfl) | (obtain ⟨_, _, _, _, _, _, _, _, _, _, _, _, _, _, _, _, _, _, _, _, _, _, rfl, _⟩ := h; rfl) | (obtain ⟨_, _, _, _, _, _, _, _, _, _, _, _, _, _, _, _, _, _, _, _, _, _, _, rfl, _⟩ := h; rfl) | (obtain ⟨_, _, _, _, _, _, _, _, _, _, _, _, _, _, _, _, _, _, _, _, _, _, _, _, rfl, _⟩ := h; rfl) | (obtain ⟨_, _, _, _, _, _, _, _, _, _, _, _, _, _, _, _, _, _, _, _, _, _, _, _, _, rfl, _⟩ := h; rfl) | (obtain ⟨_, _, _, _, _, _, _, _, _, _, _, _, _, _, _, _, _, _, _, _, _, _, _, _, _, _, rfl, _⟩ := h; rfl) | (obtain ⟨_, _, _, _, _, _, _, _, _, _, _, _, _, _, _, _, _, _, _, _, _, _, _, _, _, _, _, rfl, _⟩ := h; rfl)
  · obtain ⟨L, g, o, nm, ts, p, c, i, t, rfl, G, O, hi, h60, q⟩ := h
    have hu := hu_of hr
    have hv := hr.units
    refine ⟨_, (pss_cons (ps_setLc (i := 4) (own := [("many", 5)]) (g := gName 5) (tt := tYes) rfl scp.nd rfl rfl (sw_true rfl rfl rfl (by decide +kernel)) (pi_range2 rfl T.n_range (pa_cons pe_int (pa_cons (pe_op op_plus (pv 0) pe_int) pa_nil))) (blkOk_by (own := [("many", 5)]) (N := ["length", "guests", "name", "turns", "found", "many", "turn"]) (sc := defScope s_at_least_in) (by decide +kernel)) (fun _ _ _ _ _ => (pg_name (i := 5) scp.nd rfl (by first | exact Or.inl rfl | exact Or.inr rfl))) (fun _ _ _ _ _ => pts_nil) (fun _ _ _ _ _ => (pe_call (G_turn_of.mono (by decide)) hr rfl g_turn_of F_turn_of.kp b_turn_of .nil pass0 (pa_cons (pv 0) (pa_cons (pv 1) (pa_cons (pv 2) (pa_cons (pv 5) pa_nil)))))))
  (pss_one (ps_ret (pe_callB (call_lenK (K := K)) (by rfl) T.n_len (by decide +kernel) (pa_cons (pe_lc (own := [("turn", 6)]) (g := gName 6) rfl scp.nd (pi_listK (K := K) (pv 4)) (blkOk_by (own := [("turn", 6)]) (N := ["length", "guests", "name", "turns", "found", "many", "turn"]) (sc := defScope s_at_least_in) (by decide +kernel)) (fun _ _ _ _ _ => (pg_name (i := 6) scp.nd rfl (by first | exact Or.inl rfl | exact Or.inr rfl))) (fun _ _ _ _ _ => (pts_one (PW.pt (pw_and (pt_cmpR op_notNo (pv 6) pe_non (nomark _)) (pw_and1 (pt_cmpR op_leI (pv 6) (pv 3) (nomark _))))))) (fun _ _ _ _ _ => (pv 6))) pa_nil))))), ?_⟩
    walk_at "ys"
    refine y_gotr2 (by omega) ?_
    have eL : ((L : Int) + 1 - 1).toNat = L := by omega
    rw [eL]
    intro lf nlf
    refine lc_map (fun k => turnV nm.length L p c i (k + 1)) walk_range nlf (sz_lt (by omega)) (fun _ _ => trivial) (fun k x H1 H2 Nx hk e hY kk => ?_) (fun H1 e1 hlf => ?_)
    · obtain ⟨rfl, hx⟩ := hY
      have hx : x = V.int ((k + 1 : Nat) : Int) := hx.trans (congrArg V.int (by omega))
      subst hx
      walk_at "ys"
      exact ⟨L, g, o, nm, ts, p, c, i, k + 1, rfl, G.same e, O, hi, by omega, by omega, h60, fun H3 e3 => kk _ _ rfl e3⟩
    · walk_at "ys"
      intro ln nln
      refine lc_gen (fun k => if alP nm.length L p c i t k = true then some (.int (Deal.T nm.length p c i k : Nat)) else none) walk_list nln (sz_lt (by rw [List.length_map, List.length_range]; omega)) (fun H' e => SqL.of (e _ _ hlf)) (fun k x H2 H3 Nx hk e hY kk k0 => ?_) (fun H2 e2 hln => ?_)
      · obtain ⟨rfl, hx⟩ := hY
        rw [List.length_map, List.length_range] at hk
        rw [List.getElem?_map, List.getElem?_range hk] at hx
        have hx := Option.some.inj hx
        subst hx
        show gName 6 (turnV nm.length L p c i (k + 1)) _ _ _
        rcases turn_cases nm.length L p c i k with ⟨e, h1⟩ | ⟨e, h1, h2⟩
        · rw [e]
          walk_at "ys"
          refine k0 _ (if_neg ?_) (Same.refl _)
          unfold alP
          simp only [Bool.and_eq_true, decide_eq_true_eq]
          exact fun z => h1 z.1
        · rw [e]
          walk_at "ys"
          refine y_ndF (fun z => nomatch z) ?_
          walk_at "ys"
          refine y_d2 (fun h3 => ?_) (fun h3 => ?_)
          · walk_at "ys"
            refine kk _ _ (if_pos ?_) (Same.refl _)
            unfold alP
            simp only [Bool.and_eq_true, decide_eq_true_eq]
            exact ⟨⟨h1, h2⟩, by omega⟩
          · refine k0 _ (if_neg ?_) (Same.refl _)
            unfold alP
            simp only [Bool.and_eq_true, decide_eq_true_eq]
            exact fun z => h3 (by have := z.2; omega)
      · rw [List.length_map, List.length_range, fm_ite] at hln
        walk_at "ys"
        rw [List.length_map]
        exact q _ (e1.trans e2)
def sp_at_least (K : PySem.W.Frag) : Sp := fun vs H Q _ => ∃ (L : Nat) (g : Addr) (o : Obj) (nm : List Str) (ts : List Addr) (p c : Nat → Nat) (i t : Nat), vs = [.int L, .ref g, .str (nmF nm i), .int t] ∧ Gs H g o nm ts p c ∧ Deal.Ok nm.length L p c ∧ i < nm.length ∧ 4 ≤ L ∧ L ≤ 60 ∧ t ≤ 400 ∧ ∀ H', Same H H' → Q (.int ((t / L * alin nm.length L p c i L + alin nm.length L p c i (t % L) : Nat) : Int)) H'
theorem ok_at_least {f : Addr} {fd : FuncData} (T : Txt K mg) (F : Fun K "at_least" "at_least" s_at_least f fd) : FnOk P w K mg base CX0 5 f fd ["length", "guests", "name", "turns"] (sp_at_least K) := by
  obtain ⟨f_need_case, fd_need_case, g_need_case, F_need_case⟩ := T.d_need_case
  have G_need_case := ok_need_case (P := P) (w := w) (base := base) T F_need_case
  have b_need_case := F_need_case.binds (ps := ["length", "guests", "name"]) fun _ _ _ _ _ _ us hl => match us, hl with | [_, _, _], _ => rfl
  obtain ⟨f_is_whole, fd_is_whole, g_is_whole, F_is_whole⟩ := T.d_is_whole
  have G_is_whole := ok_is_whole (P := P) (w := w) (base := base) T F_is_whole
  have b_is_whole := F_is_whole.binds (ps := ["thing", "low", "high"]) fun _ _ _ _ _ _ us hl => match us, hl with | [_, _, _], _ => rfl
  obtain ⟨f_at_least_in, fd_at_least_in, g_at_least_in, F_at_least_in⟩ := T.d_at_least_in
  have G_at_least_in := ok_at_least_in (P := P) (w := w) (base := base) T F_at_least_in
  have b_at_least_in := F_at_least_in.binds (ps := ["length", "guests", "name", "turns"]) fun _ _ _ _ _ _ us hl => match us, hl with | [_, _, _, _], _ => rfl
  have scp := sc_at_least
  refine F.ok sc_at_least (fun vs H Q E h => ?_) (fun cdv A outer s H vs Q E hr h => ?_)
  · first | (obtain ⟨rfl, _⟩ := h; rfl) | (obtain ⟨_, rfl, _⟩ := h; rfl) | (obtain ⟨_, _, rfl, _⟩ := h; rfl) | (obtain ⟨_, _, _, rfl, _⟩ := h; rfl) | (obtain ⟨_, _, _, _, rfl, _⟩ := h; rfl) | (obtain ⟨_, _, _, _, _, rfl, _⟩ := h; rfl) | (obtain ⟨_, _, _, _, _, _, rfl, _⟩ := h; rfl) | (obtain ⟨_, _, _, _, _, _, _, rfl, _⟩ := h; rfl) | (obtain ⟨_, _, _, _, _, _, _, _, rfl, _⟩ := h; rfl) | (obtain ⟨_, _, _, _, _, _, _, _, _, rfl, _⟩ := h; rfl) | (obtain ⟨_, _, _, _, _, _, _, _, _, _, rfl, _⟩ := h; rfl) | (obtain ⟨_, _, _, _, _, _, _, _, _, _, _, rfl, _⟩ := h; rfl) | (obtain ⟨_, _, _, _, _, _, _, _, _, _, _, _, rfl, _⟩ := h; rfl) | (obtain ⟨_, _, _, _, _, _, _, _, _, _, _, _, _, rfl, _⟩ := h; rfl) | (obtain ⟨_, _, _, _, _, _, _, _, _, _, _, _, _, _, rfl, _⟩ := h; rfl) | (obtain ⟨_, _, _, _, _, _, _, _, _, _, _, _, _, _, _, rfl, _⟩ := h; rfl) | (obtain ⟨_, _, _, _, _, _, _, _, _, _, _, _, _, _, _, _, rfl, _⟩ := h; rfl) | (obtain ⟨_, _, _, _, _, _, _, _, _, _, _, _, _, _, _, _, _, rfl, _⟩ := h; rfl) | (obtain ⟨_, _, _, _, _, _, _, _, _, _, _, _, _, _, _, _, _, _, rfl, _⟩ := h; rfl) | (obtain ⟨_, _, _, _, _, _, _, _, _, _, _, _, _, _, _, _, _, _, _, rfl, _⟩ := h; rfl) | (obtain ⟨_, _, _, _, _, _, _, _, _, _, _, _, _, _, _, _, _, _, _, _, rfl, _⟩ := h; rfl) | (obtain ⟨_, _, _, _, _, _, _, _, _, _, _, _, _, _, _, _, _, _, _, _, _, rfl, _⟩ := h; rfl) | (obtain ⟨_, _, _, _, _, _, _, _, _, _, _, _, _, _, _, _, _, _, _, _, _, _, rfl, _⟩ := h; rfl) | (obtain ⟨_, _, _, _, _, _, _, _, _, _, _, _, _, _, _, _, _, _, _, _, _, _, _, rfl, _⟩ := h; rfl) | (obtain ⟨_, _, _, _, _, _, _, _, _, _, _, _, _, _, _, _, _, _, _, _, _, _, _, _, rfl, _⟩ := h; rfl) | (obtain ⟨_, _, _, _, _, _, _, _, _, _, _, _, _, _, _, _, _, _, _, _, _, _, _, _, _, rfl, _⟩ := h; rfl) | (obtain ⟨_, _, _, _, _, _, _, _, _, _, _, _, _, _, _, _, _, _, _, _, _, _, _, _, _, _, rfl, _⟩ := h; rfl) | (obtain ⟨_, _, _, _, _, _, _, _, _, _, _, _, _, _, _, _, _, _, _, _, _, _, _, _, _, _, _, rfl, _⟩ := h; rfl)
  · obtain ⟨L, g, o, nm, ts, p, c, i, t, rfl, G, O, hi, h4, h60, ht, q⟩ := h
    have hu := hu_of hr
    have hv := hr.units
    refine ⟨_, (pss_cons (ps_expr (pe_call (G_need_case.mono (by decide)) hr rfl g_need_case F_need_case.kp b_need_case .nil pass0 (pa_cons (pv 0) (pa_cons (pv 1) (pa_cons (pv 2) pa_nil)))))
  (pss_cons (ps_if (pt_not (pt_val (pe_call (G_is_whole.mono (by decide)) hr rfl g_is_whole F_is_whole.kp b_is_whole .nil pass0 (pa_cons (pv 3) (pa_cons pe_int (pa_cons (pe_gint T.c_MOST_TURNS) pa_nil))))))
  (pss_one ps_never)
  pss_nil)
  (pss_cons (ps_asg (pe_callB call_divmodY (by rfl) T.n_divmod (by decide +kernel) (pa_cons (pv 3) (pa_cons (pv 0) pa_nil))) (pg_tupK (K := K) (n := 2) rfl (pgs_cons (pg_name (i := 4) scp.nd rfl (by first | exact Or.inl rfl | exact Or.inr rfl)) (pgs_cons (pg_name (i := 5) scp.nd rfl (by first | exact Or.inl rfl | exact Or.inr rfl)) pgs_nil))))
  (pss_one (ps_ret (pe_op op_plus (pe_op op_times (pv 4) (pe_call (G_at_least_in.mono (by decide)) hr rfl g_at_least_in F_at_least_in.kp b_at_least_in .nil pass0 (pa_cons (pv 0) (pa_cons (pv 1) (pa_cons (pv 2) (pa_cons (pv 0) pa_nil)))))) (pe_call (G_at_least_in.mono (by decide)) hr rfl g_at_least_in F_at_least_in.kp b_at_least_in .nil pass0 (pa_cons (pv 0) (pa_cons (pv 1) (pa_cons (pv 2) (pa_cons (pv 5) pa_nil))))))))))), ?_⟩
    walk_at "ys"
    refine ⟨L, g, o, nm, ts, p, c, nmF nm i, rfl, G, O, List.mem_of_getElem? (nmF_at hi), h4, h60, fun H1 e1 => ?_⟩
    walk_at "ys"
    refine ⟨t, 0, 400, rfl, ?_⟩
    rw [decide_eq_true (show (0 : Int) ≤ (t : Int) by omega), decide_eq_true (show ((t : Nat) : Int) ≤ (400 : Int) by omega)]
    walk_at "ys"
    refine y_divmod ⟨by omega, by omega⟩ (fun pt npt => ?_)
    have e2 : Same H (upd H1 pt (.tup [.int ((t : Int) / (L : Int)), .int ((t : Int) % (L : Int))])) := e1.trans (same_new0 npt)
    walk_at "ys"
    refine ⟨L, g, o, nm, ts, p, c, i, L, rfl, G.same e2, O, hi, h60, fun H2 e3 => ?_⟩
    walk_at "ys"
    have b1 : alin nm.length L p c i L ≤ L := by
      unfold alin
      exact Nat.le_trans (List.length_filter_le _ _) (by rw [List.length_range]; exact Nat.le_refl _)
    rw [int_div]
    have b2 : t / L ≤ t := Nat.div_le_self _ _
    refine y_mulI (cmul_small (by rw [Int.natAbs_natCast]; exact Nat.lt_of_le_of_lt b2 (Nat.lt_of_le_of_lt ht (by decide))) (by omega)) ?_
    walk_at "ys"
    have q1 : (t : Int) % (L : Int) = ((t % L : Nat) : Int) := (Int.natCast_emod t L).symm
    rw [q1]
    refine ⟨L, g, o, nm, ts, p, c, i, t % L, rfl, G.same (e2.trans e3), O, hi, h60, fun H3 e4 => ?_⟩
    walk_at "ys"
    rw [← Int.natCast_mul, ← Int.natCast_add]
    exact q _ ((e2.trans e3).trans e4)
end
end K61
namespace K61
open PySem L2 Y LamX

/-- a def whose code object is known -/
structure FunC (K : PySem.W.Frag) (x qual : Str) (st : Stmt) (f : Addr) (fd : FuncData) (c : Addr) : Prop where
  ex : ∃ (oc : Value) (od : Option Addr) (kV doc pm : Value) (an : Option Addr) (ct : Value) (osl : Array (Option Value)),
    fd = PySem.W.fnOf x qual (defArgs st) (defBody st) (defScope st) .none kV doc pm an (.ref c) ct ∧ K.lookup f = some ⟨oc, od, .func fd, osl⟩ ∧ PySem.W.codeIn K (.ref c) qual = true
  kp : PySem.W.keepIn K (.ref f) = true
theorem FunC.fn {K : PySem.W.Frag} {x qual : Str} {st : Stmt} {f : Addr} {fd : FuncData} {c : Addr} (F : FunC K x qual st f fd c) : Fun K x qual st f fd := by
  obtain ⟨oc, od, kV, doc, pm, an, ct, osl, e, lk, hcd⟩ := F.ex
  exact ⟨⟨oc, od, kV, doc, pm, an, .ref c, ct, osl, e, lk, hcd⟩, F.kp⟩
theorem FunC.binds {K : PySem.W.Frag} {x qual : Str} {st : Stmt} {f : Addr} {fd : FuncData} {c : Addr} (F : FunC K x qual st f fd c) {ps : List Str}
    (h : ∀ (kV doc pm : Value) (an : Option Addr) (cdv ct : Value) (us : List Value), us.length = ps.length → PySem.bindArgs (PySem.W.fnOf x qual (defArgs st) (defBody st) (defScope st) .none kV doc pm an cdv ct) ⟨us, []⟩ = pure (ps.zip us)) : Binds K fd ps [] := F.fn.binds h
theorem FunC.ok {P : Program} {w : World} {K : PySem.W.Frag} {mg : Str → Option Value} {base : Heap} {x qual : Str} {st : Stmt} {f : Addr} {fd : FuncData} {c : Addr} {N ps : List Str} {k : Nat} {sp : Sp} (F : FunC K x qual st f fd c) (S : FnScope N ps (defScope st)) (len : ∀ vs H Q E, sp vs H Q E → vs.length = ps.length)
    (hbody : ∀ (A : Around) (outer : List Env) (s : Shared) (H : Hp) (vs : List V) (Q : VK) (E : XK), Room k (A.deeper (PyProof.Rows.envOfC qual (defScope st) s.heap.objs.size f (.ref c))) → sp vs H Q E →
      ∃ t, PSs (cxOf CX0 P w K mg base N qual (defScope st) f (.ref c) A outer s H E).nox (defBody st) t ∧ t { nx := fun _ H' => Q .non H', rt := Q } (L2.start N vs) H) : FnOk P w K mg base CX0 (k + 1) f fd ps sp := by
  obtain ⟨oc, od, kV, doc, pm, an, ct, osl, rfl, lk, hcd⟩ := F.ex
  refine fn_of lk hcd S len fun A outer s H vs Q E hr hsp => ?_
  obtain ⟨t, h, q⟩ := hbody A outer s H vs Q E hr hsp
  exact ⟨t, h.nox, q⟩
/-- next_of's code object and its table -/
structure Cd (K : PySem.W.Frag) (mg : Str → Option Value) (base : Heap) (CShares ca Pt ca2 Pt2 : Addr) : Prop where
  d2 : ∃ f fd, FunC K "free_one" "Shares.free_one" s_Shares_free_one f fd ca2 ∧ Meth K CShares "free_one" f
  tb2 : TabB base mg ca2 Pt2
def qL2 : Str := "Shares.free_one.<locals>.<lambda>"
def tabsOf (Pt Pt2 : Addr) : List (Addr × Str) := [(Pt2, qL2)]
theorem tabs_mem2 {Pt Pt2 : Addr} : (Pt2, qL2) ∈ tabsOf Pt Pt2 := List.mem_cons_self
theorem tabs_only2 {Pt Pt2 : Addr} : ∀ p ∈ tabsOf Pt Pt2, p.1 = Pt2 → p.2 = qL2 := fun p hp e => by
  rw [List.mem_singleton.mp hp]
def nameV (nm : List Str) : Option Nat → V
  | none => .non
  | some i => .str (nmF nm i)
def usedOf (nm : List Str) (u : Nat → Nat) : List (Key × V) := (List.range nm.length).map fun j => ((Sum.inr (nmF nm j) : Key), V.int (u j : Nat))
theorem valV_map_range {nm : List Str} (nd : nm.Nodup) (g : Nat → V) {i : Nat} (hi : i < nm.length) : ∀ n, n ≤ nm.length → valV ((List.range n).map fun j => ((Sum.inr (nmF nm j) : Key), g j)) (Sum.inr (nmF nm i)) = if i < n then some (g i) else none
  | 0, _ => rfl
  | n + 1, hn => by
    rw [List.range_succ, List.map_append]
    have ih := valV_map_range nd g hi n (by omega)
    by_cases h : i < n
    · rw [if_pos h] at ih
      rw [if_pos (by omega)]
      unfold valV at *
      rw [List.find?_append]
      cases e : ((List.range n).map fun j => ((Sum.inr (nmF nm j) : Key), g j)).find? fun kv => decide (kv.1 = Sum.inr (nmF nm i)) with
      | none =>
        rw [e] at ih
        cases ih
      | some x =>
        rw [e] at ih
        exact ih
    · rw [if_neg h] at ih
      unfold valV at *
      rw [List.find?_append]
      cases e : ((List.range n).map fun j => ((Sum.inr (nmF nm j) : Key), g j)).find? fun kv => decide (kv.1 = Sum.inr (nmF nm i)) with
      | some x =>
        rw [e] at ih
        cases ih
      | none =>
        by_cases h2 : i = n
        · subst h2
          simp
        · have h3 : ¬ (nmF nm n = nmF nm i) := fun z => h2 ((nm_inj nd (by omega) hi).mp z).symm
          rw [if_neg (by omega)]
          simp [h3]
theorem valV_used {nm : List Str} (nd : nm.Nodup) (u : Nat → Nat) {i : Nat} (hi : i < nm.length) : valV (usedOf nm u) (Sum.inr (nmF nm i)) = some (.int (u i : Nat)) := by
  have := valV_map_range nd (fun j => V.int (u j : Nat)) hi nm.length (Nat.le_refl _)
  rw [if_pos hi] at this
  exact this
section
variable {P : Program} {w : World} {K : PySem.W.Frag} {mg : Str → Option Value} {base : Heap}
/-- the least part of a promise among the first m -/
def BestP (p u : Nat → Nat) (m : Nat) : Option Nat → Prop
  | none => ∀ j, j < m → p j ≤ u j
  | some b => b < m ∧ u b < p b ∧ ∀ j, j < m → j ≠ b → u j < p j → (u b * p j < u j * p b ∨ (u b * p j = u j * p b ∧ b < j))
theorem bp_none {p u : Nat → Nat} {i : Nat} (h : BestP p u i none) (h2 : ¬ u i < p i) : BestP p u (i + 1) none := fun j hj => by
  by_cases e : j = i
  · subst e
    omega
  · exact h j (by omega)
theorem bp_some {p u : Nat → Nat} {i b : Nat} (h : BestP p u i (some b)) (h2 : u i < p i → ¬ (u i * p b < u b * p i)) : BestP p u (i + 1) (some b) := by
  obtain ⟨h3, h4, h5⟩ := h
  refine ⟨by omega, h4, fun j hj hne hp => ?_⟩
  by_cases e : j = i
  · subst e
    have := h2 hp
    by_cases e2 : u b * p j = u j * p b
    · exact .inr ⟨e2, h3⟩
    · exact .inl (by omega)
  · exact h5 j (by omega) hne hp
theorem bp_new {p u : Nat → Nat} {i : Nat} {o : Option Nat} (h : BestP p u i o) (h1 : u i < p i) (h2 : ∀ b, o = some b → u i * p b < u b * p i) : BestP p u (i + 1) (some i) := by
  refine ⟨by omega, h1, fun j hj hne hp => ?_⟩
  cases o with
  | none =>
    have := h j (by omega)
    omega
  | some b =>
    obtain ⟨h3, h4, h5⟩ := h
    have h6 := h2 b rfl
    by_cases e : j = b
    · subst e
      exact .inl h6
    · refine .inl (Deal.frac_lt (q := p b) (b := u b) (by omega) (by omega) h6 ?_)
      rcases h5 j (by omega) e hp with z | z
      · exact Nat.le_of_lt z
      · exact Nat.le_of_eq z.1
end
end K61
namespace K61
open PySem L2 Y LamX

theorem extn_mut {H H' : Hp} {p : Addr} {o : HO} (e : ExtN H H') (n : H p = none) : ExtN H (upd H' p o) := fun a u h nt => by
  rw [upd_ne (ne_of_none h n)]
  exact e a u h nt
theorem used_any {nm : List Str} (nd : nm.Nodup) (u : Nat → Nat) {i : Nat} (hi : i < nm.length) (x : Nat) : putK (usedOf nm u) (Sum.inr (nmF nm i)) (.int (x : Nat)) = usedOf nm (fun j => if j = i then x else u j) := by
  unfold putK
  rw [if_pos (by rw [valV_any, valV_used nd u hi]; rfl)]
  unfold usedOf
  rw [List.map_map]
  refine List.map_congr_left fun j hj => ?_
  have hj := List.mem_range.mp hj
  show (if (Sum.inr (nmF nm j) : Key) = Sum.inr (nmF nm i) then ((Sum.inr (nmF nm j) : Key), V.int (x : Nat)) else _) = _
  by_cases e : j = i
  · subst e
    rw [if_pos rfl]
    simp
  · rw [if_neg (fun z => e ((nm_inj nd hj hi).mp (Sum.inr.inj z)))]
    simp [e]
theorem merge_used {nm : List Str} (nd : nm.Nodup) (g : Nat → V) : ∀ n, n ≤ nm.length → mergeK [] ((List.range n).map fun j => ((Sum.inr (nmF nm j) : Key), g j)) = (List.range n).map fun j => ((Sum.inr (nmF nm j) : Key), g j)
  | 0, _ => rfl
  | n + 1, hn => by
    have ih := merge_used nd g n (by omega)
    unfold mergeK at *
    rw [List.range_succ, List.map_append, List.foldl_append, ih]
    show putK _ _ _ = _
    rw [putK_new _ (by rw [valV_map_range nd g (show n < nm.length by omega) n (by omega), if_neg (Nat.lt_irrefl _)])]
    rfl
theorem paired_idx {α β : Type} {F : α → β → Prop} : ∀ {xs : List α} {ys : List β}, xs.length = ys.length → (∀ (i : Nat) x y, xs[i]? = some x → ys[i]? = some y → F x y) → Paired F xs ys
  | [], [], _, _ => .nil
  | [], _ :: _, h, _ => by simp at h
  | _ :: _, [], h, _ => by simp at h
  | x :: xs, y :: ys, h, f => .cons (f 0 x y rfl rfl) (paired_idx (by simpa using h) fun i a b h1 h2 => f (i + 1) a b h1 h2)
theorem nameV_snoc (nm : List Str) (d : List (Option Nat)) (r : Option Nat) : d.map (nameV nm) ++ [nameV nm r] = (d ++ [r]).map (nameV nm) := by
  rw [List.map_append]
  rfl
theorem best_any {n : Nat} {p c u : Nat → Nat} {r : Option Nat} (h : Deal.Best n p c u r) : Deal.BestR n p c u (fun _ => True) r := by
  cases r with
  | none => exact fun j hj _ => h j hj
  | some b => exact ⟨h.1, trivial, h.2.1, fun j hj _ => h.2.2 j hj⟩
section
variable {P : Program} {w : World} {K : PySem.W.Frag} {mg : Str → Option Value} {base : Heap}
end
end K61
namespace K61
open PySem L2 Y LamX

theorem got_fm {β : Type} (d : List (Option Nat)) (i : Nat) (f : Nat → β) : ∀ n, n ≤ d.length → (List.range n).filterMap (fun j => if d[j]? = some (some i) then some (f j) else none) = (Deal.got (d.take n) 0 i).map fun t => f (t - 1)
  | 0, _ => by simp [Deal.got]
  | n + 1, h => by
    have ih := got_fm d i f n (by omega)
    have e : d.take (n + 1) = d.take n ++ [d[n]] := by rw [List.take_succ, List.getElem?_eq_getElem (by omega)]; rfl
    rw [List.range_succ, List.filterMap_append, ih, e, Deal.got_snoc]
    have e2 : d[n]? = some d[n] := List.getElem?_eq_getElem (by omega)
    by_cases z : d[n] = some i
    · rw [if_pos z, List.map_append]
      have hl : (d.take n).length = n := by rw [List.length_take]; omega
      simp [e2, z, hl]
    · rw [if_neg z]
      simp [e2, z]
theorem got_all {β : Type} (d : List (Option Nat)) (i : Nat) (f : Nat → β) : (List.range d.length).filterMap (fun j => if d[j]? = some (some i) then some (f j) else none) = (Deal.got d 0 i).map fun t => f (t - 1) := by
  have := got_fm d i f d.length (Nat.le_refl _)
  rwa [List.take_length] at this
theorem all_true : ∀ n, (List.replicate n true).all id = true
  | 0 => rfl
  | n + 1 => by
    rw [List.replicate_succ, List.all_cons, all_true n]
    rfl
theorem any_false : ∀ n, (List.replicate n false).any id = false
  | 0 => rfl
  | n + 1 => by
    rw [List.replicate_succ, List.any_cons, any_false n]
    rfl
theorem map_const {α β : Type} (b : β) : ∀ (xs : List α), xs.map (fun _ => b) = List.replicate xs.length b
  | [] => rfl
  | x :: xs => by
    rw [List.map_cons, map_const b xs, List.length_cons, List.replicate_succ]
theorem range_const {β : Type} (b : β) (n : Nat) : (List.range n).map (fun _ => b) = List.replicate n b := by rw [map_const, List.length_range]
theorem rep_map {α β : Type} (f : α → β) (a : α) : ∀ n, (List.replicate n a).map f = List.replicate n (f a)
  | 0 => rfl
  | n + 1 => by rw [List.replicate_succ, List.map_cons, rep_map f a n, List.replicate_succ]
end K61
namespace K61
open PySem L2 Y LamX

/-- all but b as it was -/
def SameBut (b : Addr) (H H' : Hp) : Prop := ∀ a u, a ≠ b → H a = some u → H' a = some u
theorem SameBut.of {b : Addr} {H H' : Hp} (e : Same H H') : SameBut b H H' := fun a u _ h => e a u h
theorem SameBut.refl (b : Addr) (H : Hp) : SameBut b H H := fun _ _ _ h => h
theorem SameBut.trans {b : Addr} {H H' H2 : Hp} (e : SameBut b H H') (e2 : SameBut b H' H2) : SameBut b H H2 := fun a u n h => e2 a u n (e a u n h)
theorem SameBut.put (b : Addr) (H : Hp) (o : HO) : SameBut b H (upd H b o) := fun a u n h => by rw [upd_ne n]; exact h
structure Box (H : Hp) (b : Addr) (B : Nat) : Prop where
  at_ : ∃ g d c : Nat, H b = some (.lst [.int g, .int d, .int c]) ∧ d < 2147483629 ∧ c ≤ B
theorem Box.same {H H' : Hp} {b : Addr} {B : Nat} (X : Box H b B) (e : Same H H') : Box H' b B := by
  obtain ⟨g, d, c, h, h1, h2⟩ := X.at_
  exact ⟨g, d, c, e _ _ h, h1, h2⟩
theorem cut_one (ns : List Int) : cutV (ns.map V.int) none (some 1) = (ns.take 1).map V.int := by
  unfold cutV HT.sIx
  cases ns <;> simp
section
variable {P : Program} {w : World} {K : PySem.W.Frag} {mg : Str → Option Value} {base : Heap}
def sp__law_cell (K : PySem.W.Frag) : Sp := fun vs H Q _ => ∃ (s : Addr) (ns : List Int) (k : Nat), vs = [.ref s, .int k] ∧ SqL K H s (ns.map V.int) ∧ k ≤ 1000 ∧ ∀ z H', Same H H' → Q (.int z) H'
theorem ok__law_cell {f : Addr} {fd : FuncData} (T : Txt K mg) (F : Fun K "_law_cell" "_law_cell" s__law_cell f fd) : FnOk P w K mg base CX0 1 f fd ["script", "k"] (sp__law_cell K) := by
  have scp := sc__law_cell
  refine F.ok sc__law_cell (fun vs H Q E h => ?_) (fun cdv A outer s H vs Q E hr h => ?_)
  · first | (obtain ⟨rfl, _⟩ := h; rfl) | (obtain ⟨_, rfl, _⟩ := h; rfl) | (obtain ⟨_, _, rfl, _⟩ := h; rfl) | (obtain ⟨_, _, _, rfl, _⟩ := h; rfl) | (obtain ⟨_, _, _, _, rfl, _⟩ := h; rfl) | (obtain ⟨_, _, _, _, _, rfl, _⟩ := h; rfl) | (obtain ⟨_, _, _, _, _, _, rfl, _⟩ := h; rfl) | (obtain ⟨_, _, _, _, _, _, _, rfl, _⟩ := h; rfl) | (obtain ⟨_, _, _, _, _, _, _, _, rfl, _⟩ := h; rfl) | (obtain ⟨_, _, _, _, _, _, _, _, _, rfl, _⟩ := h; rfl) | (obtain ⟨_, _, _, _, _, _, _, _, _, _, rfl, _⟩ := h; rfl) | (obtain ⟨_, _, _, _, _, _, _, _, _, _, _, rfl, _⟩ := h; rfl) | (obtain ⟨_, _, _, _, _, _, _, _, _, _, _, _, rfl, _⟩ := h; rfl) | (obtain ⟨_, _, _, _, _, _, _, _, _, _, _, _, _, rfl, _⟩ := h; rfl) | (obtain ⟨_, _, _, _, _, _, _, _, _, _, _, _, _, _, rfl, _⟩ := h; rfl) | (obtain ⟨_, _, _, _, _, _, _, _, _, _, _, _, _, _, _, rfl, _⟩ := h; rfl) | (obtain ⟨_, _, _, _, _, _, _, _, _, _, _, _, _, _, _, _, rfl, _⟩ := h; rfl) | (obtain ⟨_, _, _, _, _, _, _, _, _, _, _, _, _, _, _, _, _, rfl, _⟩ := h; rfl) | (obtain ⟨_, _, _, _, _, _, _, _, _, _, _, _, _, _, _, _, _, _, rfl, _⟩ := h; rfl) | (obtain ⟨_, _, _, _, _, _, _, _, _, _, _, _, _, _, _, _, _, _, _, rfl, _⟩ := h; rfl) | (obtain ⟨_, _, _, _, _, _, _, _, _, _, _, _, _, _, _, _, _, _, _, _, rfl, _⟩ := h; rfl) | (obtain ⟨_, _, _, _, _, _, _, _, _, _, _, _, _, _, _, _, _, _, _, _, _, rfl, _⟩ := h; rfl) | (obtain ⟨_, _, _, _, _, _, _, _, _, _, _, _, _, _, _, _, _, _, _, _, _, _, rfl, _⟩ := h; rfl) | (obtain ⟨_, _, _, _, _, _, _, _, _, _, _, _, _, _, _, _, _, _, _, _, _, _, _, rfl, _⟩ := h; rfl) | (obtain ⟨_, _, _, _, _, _, _, _, _, _, _, _, _, _, _, _, _, _, _, _, _, _, _, _, rfl, _⟩ := h; rfl) | (obtain ⟨_, _, _, _, _, _, _, _, _, _, _, _, _, _, _, _, _, _, _, _, _, _, _, _, _, rfl, _⟩ := h; rfl) | (obtain ⟨_, _, _, _, _, _, _, _, _, _, _, _, _, _, _, _, _, _, _, _, _, _, _, _, _, _, rfl, _⟩ := h; rfl) | (obtain ⟨_, _, _, _, _, _, _, _, _, _, _, _, _, _, _, _, _, _, _, _, _, _, _, _, _, _, _, rfl, _⟩ := h; rfl)
  · obtain ⟨s, ns, k, rfl, hs, hk, q⟩ := h
    have hu := hu_of hr
    have hv := hr.units
    refine ⟨_, (pss_one (ps_ret (pe_ifExp (pt_cmpR op_ltI (pv 1) (pe_callB (call_lenK (K := K)) (by rfl) T.n_len (by decide +kernel) (pa_cons (pv 0) pa_nil)) (nomark _)) (pe_ix (ix_anyK (K := K) hu) (pv 0) (pv 1) (fun _ _ => rfl)) (pe_op op_plus (pe_op op_plus (pe_op op_times pe_int (pv 1)) pe_int) (pe_op op_modY (pe_callTy call_intY (by rfl) T.n_int (by decide +kernel) (pa_cons (pe_callB (call_sumK (K := K) rfl) (by rfl) T.n_sum (by decide +kernel) (pa_cons (pe_slice (sl_listK (K := K)) (pv 0) po_none (po_some pe_int)) pa_nil)) pa_nil)) pe_int))))), ?_⟩
    walk_at "ys"
    refine y_lenLs hs ?_
    walk_at "ys"
    refine y_d2 (fun h1 => ?_) (fun h1 => ?_)
    · rw [List.length_map] at h1
      have h1 : k < ns.length := by omega
      walk_at "ys"
      refine y_ixLs hs (v := .int ns[k]) ?_ ?_
      · rw [atI_nat (by rw [List.length_map]; exact h1), List.getElem?_map, List.getElem?_eq_getElem h1]
        rfl
      · exact q _ _ (Same.refl _)
    · walk_at "ys"
      refine y_mulI (cmul_small (by decide) (by omega)) ?_
      walk_at "ys"
      refine y_slLs hs (fun p np => ?_)
      rw [cut_one]
      walk_at "ys"
      refine y_sum upd_same ?_
      walk_at "ys"
      refine y_mod (by decide) ?_
      walk_at "ys"
      exact q _ _ (same_new0 np)
def sp__law_box (K : PySem.W.Frag) : Sp := fun vs H Q _ => ∃ z : Int, vs = [.int z] ∧ ∀ b H', H b = none → Same H H' → Box H' b 0 → Q (.ref b) H'
theorem ok__law_box {f : Addr} {fd : FuncData} (T : Txt K mg) (F : Fun K "_law_box" "_law_box" s__law_box f fd) : FnOk P w K mg base CX0 1 f fd ["cell"] (sp__law_box K) := by
  have scp := sc__law_box
  refine F.ok sc__law_box (fun vs H Q E h => ?_) (fun cdv A outer s H vs Q E hr h => ?_)
  · first | (obtain ⟨rfl, _⟩ := h; rfl) | (obtain ⟨_, rfl, _⟩ := h; rfl) | (obtain ⟨_, _, rfl, _⟩ := h; rfl) | (obtain ⟨_, _, _, rfl, _⟩ := h; rfl) | (obtain ⟨_, _, _, _, rfl, _⟩ := h; rfl) | (obtain ⟨_, _, _, _, _, rfl, _⟩ := h; rfl) | (obtain ⟨_, _, _, _, _, _, rfl, _⟩ := h; rfl) | (obtain ⟨_, _, _, _, _, _, _, rfl, _⟩ := h; rfl) | (obtain ⟨_, _, _, _, _, _, _, _, rfl, _⟩ := h; rfl) | (obtain ⟨_, _, _, _, _, _, _, _, _, rfl, _⟩ := h; rfl) | (obtain ⟨_, _, _, _, _, _, _, _, _, _, rfl, _⟩ := h; rfl) | (obtain ⟨_, _, _, _, _, _, _, _, _, _, _, rfl, _⟩ := h; rfl) | (obtain ⟨_, _, _, _, _, _, _, _, _, _, _, _, rfl, _⟩ := h; rfl) | (obtain ⟨_, _, _, _, _, _, _, _, _, _, _, _, _, rfl, _⟩ := h; rfl) | (obtain ⟨_, _, _, _, _, _, _, _, _, _, _, _, _, _, rfl, _⟩ := h; rfl) | (obtain ⟨_, _, _, _, _, _, _, _, _, _, _, _, _, _, _, rfl, _⟩ := h; rfl) | (obtain ⟨_, _, _, _, _, _, _, _, _, _, _, _, _, _, _, _, rfl, _⟩ := h; rfl) | (obtain ⟨_, _, _, _, _, _, _, _, _, _, _, _, _, _, _, _, _, rfl, _⟩ := h; rfl) | (obtain ⟨_, _, _, _, _, _, _, _, _, _, _, _, _, _, _, _, _, _, rfl, _⟩ := h; rfl) | (obtain ⟨_, _, _, _, _, _, _, _, _, _, _, _, _, _, _, _, _, _, _, rfl, _⟩ := h; rfl) | (obtain ⟨_, _, _, _, _, _, _, _, _, _, _, _, _, _, _, _, _, _, _, _, rfl, _⟩ := h; rfl) | (obtain ⟨_, _, _, _, _, _, _, _, _, _, _, _, _, _, _, _, _, _, _, _, _, rfl, _⟩ := h; rfl) | (obtain ⟨_, _, _, _, _, _, _, _, _, _, _, _, _, _, _, _, _, _, _, _, _, _, rfl, _⟩ := h; rfl) | (obtain ⟨_, _, _, _, _, _, _, _, _, _, _, _, _, _, _, _, _, _, _, _, _, _, _, rfl, _⟩ := h; rfl) | (obtain ⟨_, _, _, _, _, _, _, _, _, _, _, _, _, _, _, _, _, _, _, _, _, _, _, _, rfl, _⟩ := h; rfl) | (obtain ⟨_, _, _, _, _, _, _, _, _, _, _, _, _, _, _, _, _, _, _, _, _, _, _, _, _, rfl, _⟩ := h; rfl) | (obtain ⟨_, _, _, _, _, _, _, _, _, _, _, _, _, _, _, _, _, _, _, _, _, _, _, _, _, _, rfl, _⟩ := h; rfl) | (obtain ⟨_, _, _, _, _, _, _, _, _, _, _, _, _, _, _, _, _, _, _, _, _, _, _, _, _, _, _, rfl, _⟩ := h; rfl)
  · obtain ⟨z, rfl, q⟩ := h
    have hu := hu_of hr
    have hv := hr.units
    refine ⟨_, (pss_cons (ps_set (i := 1) scp.nd rfl (by first | exact Or.inl rfl | exact Or.inr rfl) (pe_callB call_absY (by rfl) T.n_abs (by decide +kernel) (pa_cons (pv 0) pa_nil)))
  (pss_one (ps_ret (pe_lst (pa_cons (pe_ifExp (pt_cmpR op_geI (pv 1) (pe_op op_powY pe_int pe_int) (nomark _)) (pv 1) pe_int) (pa_cons (pe_op op_modY (pe_callTy call_intY (by rfl) T.n_int (by decide +kernel) (pa_cons (pv 1) pa_nil)) pe_int) (pa_cons pe_int pa_nil))))))), ?_⟩
    walk_at "ys"
    obtain ⟨g, hg⟩ : ∃ g : Nat, (if z < 0 then -z else z) = (g : Int) := ⟨(if z < 0 then -z else z).toNat, by split <;> omega⟩
    rw [hg]
    walk_at "ys"
    refine y_pow ⟨by decide, by decide, by decide⟩ ?_
    walk_at "ys"
    obtain ⟨d, hd, hd2⟩ : ∃ d : Nat, (g : Int) % 2147483629 = (d : Int) ∧ d < 2147483629 := ⟨((g : Int) % 2147483629).toNat, by omega, by omega⟩
    have fin : ∀ (x : Nat) (b : Addr), H b = none → Q (.ref b) (upd H b (.lst [.int x, .int d, .int 0])) := fun x b nb => q b _ nb (same_new0 nb) ⟨x, d, 0, upd_same, hd2, Nat.le_refl _⟩
    refine y_d2 (fun h1 => ?_) (fun h1 => ?_)
    · walk_at "ys"
      refine y_mod (by decide) ?_
      rw [hd]
      walk_at "ys"
      exact ⟨sz_line (by simp), fun b nb => fin g b nb⟩
    · walk_at "ys"
      refine y_mod (by decide) ?_
      rw [hd]
      walk_at "ys"
      exact ⟨sz_line (by simp), fun b nb => fin 0 b nb⟩
def sp__law_take (K : PySem.W.Frag) : Sp := fun vs H Q _ => ∃ (b : Addr) (m B : Nat), vs = [.ref b, .int m] ∧ 0 < m ∧ m ≤ 1000000 ∧ Box H b B ∧ B ≤ 1000000 ∧ ∀ (r : Nat) (H' : Hp), r < m → SameBut b H H' → Box H' b (B + 1) → Q (.int r) H'
theorem ok__law_take {f : Addr} {fd : FuncData} (T : Txt K mg) (F : Fun K "_law_take" "_law_take" s__law_take f fd) : FnOk P w K mg base CX0 1 f fd ["box", "many"] (sp__law_take K) := by
  have scp := sc__law_take
  refine F.ok sc__law_take (fun vs H Q E h => ?_) (fun cdv A outer s H vs Q E hr h => ?_)
  · first | (obtain ⟨rfl, _⟩ := h; rfl) | (obtain ⟨_, rfl, _⟩ := h; rfl) | (obtain ⟨_, _, rfl, _⟩ := h; rfl) | (obtain ⟨_, _, _, rfl, _⟩ := h; rfl) | (obtain ⟨_, _, _, _, rfl, _⟩ := h; rfl) | (obtain ⟨_, _, _, _, _, rfl, _⟩ := h; rfl) | (obtain ⟨_, _, _, _, _, _, rfl, _⟩ := h; rfl) | (obtain ⟨_, _, _, _, _, _, _, rfl, _⟩ := h; rfl) | (obtain ⟨_, _, _, _, _, _, _, _, rfl, _⟩ := h; rfl) | (obtain ⟨_, _, _, _, _, _, _, _, _, rfl, _⟩ := h; rfl) | (obtain ⟨_, _, _, _, _, _, _, _, _, _, rfl, _⟩ := h; rfl) | (obtain ⟨_, _, _, _, _, _, _, _, _, _, _, rfl, _⟩ := h; rfl) | (obtain ⟨_, _, _, _, _, _, _, _, _, _, _, _, rfl, _⟩ := h; rfl) | (obtain ⟨_, _, _, _, _, _, _, _, _, _, _, _, _, rfl, _⟩ := h; rfl) | (obtain ⟨_, _, _, _, _, _, _, _, _, _, _, _, _, _, rfl, _⟩ := h; rfl) | (obtain ⟨_, _, _, _, _, _, _, _, _, _, _, _, _, _, _, rfl, _⟩ := h; rfl) | (obtain ⟨_, _, _, _, _, _, _, _, _, _, _, _, _, _, _, _, rfl, _⟩ := h; rfl) | (obtain ⟨_, _, _, _, _, _, _, _, _, _, _, _, _, _, _, _, _, rfl, _⟩ := h; rfl) | (obtain ⟨_, _, _, _, _, _, _, _, _, _, _, _, _, _, _, _, _, _, rfl, _⟩ := h; rfl) | (obtain ⟨_, _, _, _, _, _, _, _, _, _, _, _, _, _, _, _, _, _, _, rfl, _⟩ := h; rfl) | (obtain ⟨_, _, _, _, _, _, _, _, _, _, _, _, _, _, _, _, _, _, _, _, rfl, _⟩ := h; rfl) | (obtain ⟨_, _, _, _, _, _, _, _, _, _, _, _, _, _, _, _, _, _, _, _, _, rfl, _⟩ := h; rfl) | (obtain ⟨_, _, _, _, _, _, _, _, _, _, _, _, _, _, _, _, _, _, _, _, _, _, rfl, _⟩ := h; rfl) | (obtain ⟨_, _, _, _, _, _, _, _, _, _, _, _, _, _, _, _, _, _, _, _, _, _, _, rfl, _⟩ := h; rfl) | (obtain ⟨_, _, _, _, _, _, _, _, _, _, _, _, _, _, _, _, _, _, _, _, _, _, _, _, rfl, _⟩ := h; rfl) | (obtain ⟨_, _, _, _, _, _, _, _, _, _, _, _, _, _, _, _, _, _, _, _, _, _, _, _, _, rfl, _⟩ := h; rfl) | (obtain ⟨_, _, _, _, _, _, _, _, _, _, _, _, _, _, _, _, _, _, _, _, _, _, _, _, _, _, rfl, _⟩ := h; rfl) | (obtain ⟨_, _, _, _, _, _, _, _, _, _, _, _, _, _, _, _, _, _, _, _, _, _, _, _, _, _, _, rfl, _⟩ := h; rfl)
  · obtain ⟨b, m, B, rfl, h0, hm, X, hB, q⟩ := h
    have hu := hu_of hr
    have hv := hr.units
    obtain ⟨g, d, c, hb, hd, hc⟩ := X.at_
    refine ⟨_, (pss_cons (ps_if (pt_cmpR op_gtI (pe_ix (ix_anyK (K := K) hu) (pv 0) pe_int (fun _ _ => rfl)) pe_int (nomark _))
  (pss_cons (ps_set (i := 2) scp.nd rfl (by first | exact Or.inl rfl | exact Or.inr rfl) (pe_op op_modY (pe_callTy call_intY (by rfl) T.n_int (by decide +kernel) (pa_cons (pe_ix (ix_anyK (K := K) hu) (pv 0) pe_int (fun _ _ => rfl)) pa_nil)) (pv 1)))
  (pss_cons (ps_asg (pe_op op_fdivY (pe_ix (ix_anyK (K := K) hu) (pv 0) pe_int (fun _ _ => rfl)) (pv 1)) (pg_sub (pv 0) pe_int set_list))
  (pss_one (ps_ret (pv 2)))))
  pss_nil)
  (pss_cons (ps_asg (pe_op op_plus (pe_ix (ix_anyK (K := K) hu) (pv 0) pe_int (fun _ _ => rfl)) pe_int) (pg_sub (pv 0) pe_int set_list))
  (pss_cons (ps_set (i := 3) scp.nd rfl (by first | exact Or.inl rfl | exact Or.inr rfl) (pe_op op_modY (pe_callTy call_intY (by rfl) T.n_int (by decide +kernel) (pa_cons (pe_op op_powY (pe_op op_plus (pe_op op_plus (pe_ix (ix_anyK (K := K) hu) (pv 0) pe_int (fun _ _ => rfl)) (pe_op op_times pe_int (pe_ix (ix_anyK (K := K) hu) (pv 0) pe_int (fun _ _ => rfl)))) pe_int) pe_int) pa_nil)) pe_int))
  (pss_cons (ps_set (i := 4) scp.nd rfl (by first | exact Or.inl rfl | exact Or.inr rfl) (pe_op op_modY (pe_callTy call_intY (by rfl) T.n_int (by decide +kernel) (pa_cons (pe_op op_powY (pe_op op_plus (pe_op op_plus (pe_op op_fdivY (pv 3) pe_int) (pe_op op_times pe_int (pe_ix (ix_anyK (K := K) hu) (pv 0) pe_int (fun _ _ => rfl)))) pe_int) pe_int) pa_nil)) pe_int))
  (pss_one (ps_ret (pe_op op_modY (pe_callTy call_intY (by rfl) T.n_int (by decide +kernel) (pa_cons (pe_op op_plus (pe_op op_fdivY (pv 3) pe_int) (pe_op op_times pe_int (pe_op op_fdivY (pv 4) pe_int))) pa_nil)) (pv 1)))))))), ?_⟩
    walk_at "ys"
    refine y_d2 (fun h1 => ?_) (fun h1 => ?_)
    · walk_at "ys"
      refine y_mod (by omega) ?_
      walk_at "ys"
      refine y_fdiv (cdiv_small (by omega) (by omega)) ?_
      walk_at "ys"
      refine y_setL hb (by rfl) ?_
      walk_at "ys"
      have e1 : (g : Int) % (m : Int) = ((g % m : Nat) : Int) := by omega
      have e2 : (g : Int) / (m : Int) = ((g / m : Nat) : Int) := by omega
      rw [e1, e2]
      exact q (g % m) _ (Nat.mod_lt _ h0) (SameBut.put _ _ _) ⟨g / m, d, c, upd_same, hd, by omega⟩
    · walk_at "ys"
      refine y_setL hb (by rfl) ?_
      have hb1 : (upd H b (.lst ([V.int g, V.int d, V.int c].set (Int.toNat 2) (V.int ((c : Int) + 1))))) b = some (.lst [.int g, .int d, .int ((c : Int) + 1)]) := upd_same
      have e1 : SameBut b H (upd H b (.lst ([V.int g, V.int d, V.int c].set (Int.toNat 2) (V.int ((c : Int) + 1))))) := SameBut.put _ _ _
      generalize upd H b (.lst ([V.int g, V.int d, V.int c].set (Int.toNat 2) (V.int ((c : Int) + 1)))) = H1 at *
      walk_at "ys"
      refine y_mulI (cmul_small (by decide) (by omega)) ?_
      walk_at "ys"
      refine y_pow ⟨by decide, by decide, by omega⟩ ?_
      walk_at "ys"
      refine y_mod (by decide) ?_
      have a1 : 0 ≤ ((d : Int) + 7919 * ((c : Int) + 1) + 29) ^ (5 : Int).toNat % 2147483647 := Int.emod_nonneg _ (by decide)
      have a2 : ((d : Int) + 7919 * ((c : Int) + 1) + 29) ^ (5 : Int).toNat % 2147483647 < 2147483647 := Int.emod_lt_of_pos _ (by decide)
      generalize ((d : Int) + 7919 * ((c : Int) + 1) + 29) ^ (5 : Int).toNat % 2147483647 = one at *
      walk_at "ys"
      refine y_fdiv (cdiv_small (by decide) (by decide)) ?_
      walk_at "ys"
      refine y_mulI (cmul_small (by decide) (by omega)) ?_
      walk_at "ys"
      refine y_pow ⟨by decide, by decide, by omega⟩ ?_
      walk_at "ys"
      refine y_mod (by decide) ?_
      have b1 : 0 ≤ (one / 8 + 104729 * ((c : Int) + 1) + 11) ^ (3 : Int).toNat % 2147483629 := Int.emod_nonneg _ (by decide)
      have b2 : (one / 8 + 104729 * ((c : Int) + 1) + 11) ^ (3 : Int).toNat % 2147483629 < 2147483629 := Int.emod_lt_of_pos _ (by decide)
      generalize (one / 8 + 104729 * ((c : Int) + 1) + 11) ^ (3 : Int).toNat % 2147483629 = two at *
      walk_at "ys"
      refine y_fdiv (cdiv_small (by decide) (by decide)) ?_
      walk_at "ys"
      refine y_fdiv (cdiv_small (by decide) (by decide)) ?_
      walk_at "ys"
      refine y_mulI (cmul_small (by decide) (by omega)) ?_
      walk_at "ys"
      refine y_mod (by omega) ?_
      have c1 : 0 ≤ (one / 4 + 536870909 * (two / 4)) % (m : Int) := Int.emod_nonneg _ (by omega)
      have c2 : (one / 4 + 536870909 * (two / 4)) % (m : Int) < m := Int.emod_lt_of_pos _ (by omega)
      generalize (one / 4 + 536870909 * (two / 4)) % (m : Int) = r at *
      obtain ⟨r, rfl⟩ := Int.eq_ofNat_of_zero_le c1
      exact q r _ (by omega) e1 ⟨g, d, c + 1, hb1, hd, by omega⟩
end
end K61
namespace K61
open PySem L2 Y LamX

theorem filter_lt (M : Nat) : ∀ L, M ≤ L → (List.range L).filter (fun j => decide (j < M)) = List.range M
  | 0, h => by
    have : M = 0 := by omega
    subst this
    rfl
  | L + 1, h => by
    rw [List.range_succ, List.filter_append]
    by_cases e : M = L + 1
    · subst e
      have h1 : (List.range L).filter (fun j => decide (j < L + 1)) = List.range L := List.filter_eq_self.mpr fun j hj => by
        have := List.mem_range.mp hj
        exact decide_eq_true (by omega)
      rw [h1, List.range_succ]
      simp
    · rw [filter_lt M L (by omega)]
      have : ¬ L < M := by omega
      simp [this]
def turnsOf (n L : Nat) (p c : Nat → Nat) (i : Nat) : List Int := (List.range (Deal.many n L p c i)).map fun k => (Deal.T n p c i k : Int)
theorem turnsOf_len {n L : Nat} {p c : Nat → Nat} (i : Nat) : (turnsOf n L p c i).length = Deal.many n L p c i := by
  unfold turnsOf
  rw [List.length_map, List.length_range]
theorem turnsOf_at {n L : Nat} {p c : Nat → Nat} {i k : Nat} (h : k < Deal.many n L p c i) : (turnsOf n L p c i)[k]? = some (Deal.T n p c i k : Int) := by
  unfold turnsOf
  rw [List.getElem?_map, List.getElem?_range h]
  rfl
def optT (n L : Nat) (p c : Nat → Nat) (i j : Nat) : Option Int := if j < Deal.many n L p c i then some (Deal.T n p c i j : Int) else none
theorem turnV_opt {n L : Nat} {p c : Nat → Nat} (O : Deal.Ok n L p c) (i j : Nat) : turnV n L p c i (j + 1) = oV (optT n L p c i j) := by
  unfold optT
  rcases turn_cases n L p c i j with ⟨h1, h2⟩ | ⟨h1, h2⟩
  · rw [h1, if_neg (fun z => h2 ((Deal.many_iff O).mp z))]
    rfl
  · rw [h1, if_pos ((Deal.many_iff O).mpr h2)]
    rfl
theorem opts_split {n L : Nat} {p c : Nat → Nat} (O : Deal.Ok n L p c) (i : Nat) : (List.range L).map (optT n L p c i) = (turnsOf n L p c i).map some ++ List.replicate (L - Deal.many n L p c i) none := by
  have hM := Deal.many_le O i
  have e : L = Deal.many n L p c i + (L - Deal.many n L p c i) := by omega
  have e2 : (List.range L).map (optT n L p c i) = (List.range (Deal.many n L p c i + (L - Deal.many n L p c i))).map (optT n L p c i) := by rw [← e]
  rw [e2, List.range_add, List.map_append]
  congr 1
  · unfold turnsOf
    rw [List.map_map]
    refine List.map_congr_left fun j hj => ?_
    unfold optT
    rw [if_pos (List.mem_range.mp hj)]
    rfl
  · rw [List.map_map, ← range_const]
    refine List.map_congr_left fun j hj => ?_
    show optT n L p c i (_ + j) = none
    unfold optT
    rw [if_neg (by omega)]
end K61
namespace K61
open PySem L2 Y LamX

def six : List Str := ["ann", "bo", "cy", "di", "ed", "flo"]
theorem six_ok : ∀ z, z ∈ six → NameOk z := by
  have h : ∀ z ∈ six, 1 ≤ z.length ∧ z.length ≤ 8 ∧ ∀ c ∈ z.cps.toList, c ∈ letters.cps.toList := by decide +kernel
  exact fun z hz => ⟨(h z hz).1, (h z hz).2.1, (h z hz).2.2⟩
theorem six_nd : six.Nodup := by decide +kernel
theorem six_zed : ∀ z, z ∈ six → z ≠ "zed" := by decide +kernel
theorem valV_fun (g : Str → V) (z : Str) : ∀ nm : List Str, valV (nm.map fun y => ((Sum.inr y : Key), g y)) (Sum.inr z) = if z ∈ nm then some (g z) else none
  | [] => by simp [valV]
  | y :: nm => by
    have ih := valV_fun g z nm
    unfold valV at *
    by_cases e : y = z
    · subst e
      simp
    · have e' : ¬ z = y := fun x => e x.symm
      have e2 : ¬ (Sum.inr y : Key) = Sum.inr z := fun x => e (Sum.inr.inj x)
      rw [List.map_cons, List.find?_cons_of_neg (by simpa using e), ih]
      simp [e']
theorem kvOf_fun (tn : Str → Addr) : ∀ nm : List Str, kvOf nm (nm.map tn) = nm.map fun z => ((Sum.inr z : Key), V.ref (tn z))
  | [] => rfl
  | z :: nm => by
    have ih := kvOf_fun tn nm
    unfold kvOf at *
    rw [List.map_cons, List.zip_cons_cons, List.map_cons, ih, List.map_cons]
theorem merge_fun (g : Str → V) : ∀ (nm pre : List Str), (pre ++ nm).Nodup → mergeK (pre.map fun z => ((Sum.inr z : Key), g z)) (nm.map fun z => ((Sum.inr z : Key), g z)) = (pre ++ nm).map fun z => ((Sum.inr z : Key), g z)
  | [], pre, _ => by rw [List.append_nil]; rfl
  | z :: nm, pre, h => by
    have h2 : (pre ++ [z] ++ nm).Nodup := by simpa using h
    have ih := merge_fun g nm (pre ++ [z]) h2
    have hz : z ∉ pre := fun x => by
      have := (List.nodup_append.mp h).2.2 z x z List.mem_cons_self
      exact this rfl
    unfold mergeK at *
    rw [List.map_cons, List.foldl_cons]
    show List.foldl _ (putK _ (Sum.inr z) (g z)) _ = _
    rw [putK_new _ (by rw [valV_fun, if_neg hz])]
    rw [List.map_append] at ih
    rw [show pre ++ z :: nm = pre ++ [z] ++ nm by simp, ← ih]
    rfl
theorem sum_fun (pn : Str → Nat) (nm : List Str) : ∀ n, n ≤ nm.length → Deal.sumTo (fun i => pn (nmF nm i)) n = ((nm.take n).map pn).sum
  | 0, _ => by simp [Deal.sumTo]
  | n + 1, h => by
    unfold Deal.sumTo
    rw [sum_fun pn nm n (by omega), List.take_add_one, nmF_at (show n < nm.length by omega), List.map_append, List.sum_append]
    simp
theorem SameBut.free {b p : Addr} {H H' : Hp} (e : SameBut b H H') (n : p ≠ b) (h : H' p = none) : H p = none := by
  cases z : H p with
  | none => rfl
  | some u =>
    have := e p u n z
    rw [h] at this
    cases this
theorem SameBut.mut {b p : Addr} {H H' : Hp} {o : HO} (e : SameBut b H H') (n : H p = none) : SameBut b H (upd H' p o) := fun a u na h => by
  rw [upd_ne (ne_of_none h n)]
  exact e a u na h
theorem Box.ne {H : Hp} {b p : Addr} {B : Nat} (X : Box H b B) (n : H p = none) : p ≠ b := by
  obtain ⟨g, d, c, h, _⟩ := X.at_
  exact (ne_of_none h n).symm
theorem Box.mono {H : Hp} {b : Addr} {B B' : Nat} (X : Box H b B) (h : B ≤ B') : Box H b B' := by
  obtain ⟨g, d, c, h1, h2, h3⟩ := X.at_
  exact ⟨g, d, c, h1, h2, by omega⟩
theorem Box.put {H : Hp} {b p : Addr} {B : Nat} {o : HO} (X : Box H b B) (n : p ≠ b) : Box (upd H p o) b B := by
  obtain ⟨g, d, c, h1, h2, h3⟩ := X.at_
  exact ⟨g, d, c, by rw [upd_ne (Ne.symm n)]; exact h1, h2, h3⟩
theorem erase_map {α β : Type} (f : α → β) : ∀ (l : List α) (k : Nat), (l.map f).eraseIdx k = (l.eraseIdx k).map f
  | [], _ => rfl
  | _ :: _, 0 => rfl
  | x :: l, k + 1 => by rw [List.map_cons, List.eraseIdx_cons_succ, erase_map f l k, List.eraseIdx_cons_succ, List.map_cons]
theorem erase_perm {α : Type} : ∀ (l : List α) (k : Nat) (h : k < l.length), List.Perm (l[k] :: l.eraseIdx k) l
  | [], _, h => absurd h (Nat.not_lt_zero _)
  | _ :: _, 0, _ => List.Perm.refl _
  | x :: l, k + 1, h => by
    rw [List.eraseIdx_cons_succ, List.getElem_cons_succ]
    exact (List.Perm.swap _ _ _).trans (List.Perm.cons x (erase_perm l k (by simpa using h)))
structure Cast (H : Hp) (b gd : Addr) (nm : List Str) (tn : Str → Addr) (pn cn : Str → Nat) (L : Nat) : Prop where
  d : H gd = some (.dK (nm.map fun z => ((Sum.inr z : Key), V.ref (tn z))))
  t : ∀ z, z ∈ nm → H (tn z) = some (.tup [.int (pn z), .int (cn z)]) ∧ tn z ≠ b ∧ tn z ≠ gd
  pc : ∀ z, z ∈ nm → pn z ≤ cn z ∧ 1 ≤ cn z ∧ cn z ≤ L
  sum : (nm.map pn).sum ≤ L
structure Case (H : Hp) (b t gd : Addr) (L : Nat) (nm : List Str) (ts : List Addr) (p c : Nat → Nat) : Prop where
  tu : H t = some (.tup [.int L, .ref gd])
  d : H gd = some (.dK (kvOf nm ts))
  len : ts.length = nm.length
  t : ∀ (i : Nat) (a : Addr), ts[i]? = some a → H a = some (.tup [.int (p i), .int (c i)])
  nd : nm.Nodup
  ok : ∀ z, z ∈ nm → z ∈ six
  pos : 1 ≤ nm.length
  few : nm.length ≤ 6
  O : Deal.Ok nm.length L p c
  lo : 4 ≤ L
  hi : L ≤ 60
section
variable {P : Program} {w : World} {K : PySem.W.Frag} {mg : Str → Option Value} {base : Heap}
def sp__law_case (K : PySem.W.Frag) : Sp := fun vs H Q _ => ∃ (b : Addr) (B : Nat), vs = [.ref b] ∧ Box H b B ∧ B ≤ 1000 ∧ ∀ (t gd : Addr) (L : Nat) (nm : List Str) (ts : List Addr) (p c : Nat → Nat) (H' : Hp), SameBut b H H' → H gd = none → Box H' b (B + 100) → Case H' b t gd L nm ts p c → Q (.ref t) H'
theorem ok__law_case {f : Addr} {fd : FuncData} (T : Txt K mg) (F : Fun K "_law_case" "_law_case" s__law_case f fd) : FnOk P w K mg base CX0 2 f fd ["box"] (sp__law_case K) := by
  obtain ⟨f__law_take, fd__law_take, g__law_take, F__law_take⟩ := T.d__law_take
  have G__law_take := ok__law_take (P := P) (w := w) (base := base) T F__law_take
  have b__law_take := F__law_take.binds (ps := ["box", "many"]) fun _ _ _ _ _ _ us hl => match us, hl with | [_, _], _ => rfl
  have scp := sc__law_case
  refine F.ok sc__law_case (fun vs H Q E h => ?_) (fun cdv A outer s H vs Q E hr h => ?_)
  · first | (obtain ⟨rfl, _⟩ := h; rfl) | (obtain ⟨_, rfl, _⟩ := h; rfl) | (obtain ⟨_, _, rfl, _⟩ := h; rfl) | (obtain ⟨_, _, _, rfl, _⟩ := h; rfl) | (obtain ⟨_, _, _, _, rfl, _⟩ := h; rfl) | (obtain ⟨_, _, _, _, _, rfl, _⟩ := h; rfl) | (obtain ⟨_, _, _, _, _, _, rfl, _⟩ := h; rfl) | (obtain ⟨_, _, _, _, _, _, _, rfl, _⟩ := h; rfl) | (obtain ⟨_, _, _, _, _, _, _, _, rfl, _⟩ := h; rfl) | (obtain ⟨_, _, _, _, _, _, _, _, _, rfl, _⟩ := h; rfl) | (obtain ⟨_, _, _, _, _, _, _, _, _, _, rfl, _⟩ := h; rfl) | (obtain ⟨_, _, _, _, _, _, _, _, _, _, _, rfl, _⟩ := h; rfl) | (obtain ⟨_, _, _, _, _, _, _, _, _, _, _, _, rfl, _⟩ := h; rfl) | (obtain ⟨_, _, _, _, _, _, _, _, _, _, _, _, _, rfl, _⟩ := h; rfl) | (obtain ⟨_, _, _, _, _, _, _, _, _, _, _, _, _, _, rfl, _⟩ := h; rfl) | (obtain ⟨_, _, _, _, _, _, _, _, _, _, _, _, _, _, _, rfl, _⟩ := h; rfl) | (obtain ⟨_, _, _, _, _, _, _, _, _, _, _, _, _, _, _, _, rfl, _⟩ := h; rfl) | (obtain ⟨_, _, _, _, _, _, _, _, _, _, _, _, _, _, _, _, _, rfl, _⟩ := h; rfl) | (obtain ⟨_, _, _, _, _, _, _, _, _, _, _, _, _, _, _, _, _, _, rfl, _⟩ := h; rfl) | (obtain ⟨_, _, _, _, _, _, _, _, _, _, _, _, _, _, _, _, _, _, _, rfl, _⟩ := h; rfl) | (obtain ⟨_, _, _, _, _, _, _, _, _, _, _, _, _, _, _, _, _, _, _, _, rfl, _⟩ := h; rfl) | (obtain ⟨_, _, _, _, _, _, _, _, _, _, _, _, _, _, _, _, _, _, _, _, _, rfl, _⟩ := h; rfl) | (obtain ⟨_, _, _, _, _, _, _, _, _, _, _, _, _, _, _, _, _, _, _, _, _, _, rfl, _⟩ := h; rfl) | (obtain ⟨_, _, _, _, _, _, _, _, _, _, _, _, _, _, _, _, _, _, _, _, _, _, _, rfl, _⟩ := h; rfl) | (obtain ⟨_, _, _, _, _, _, _, _, _, _, _, _, _, _, _, _, _, _, _, _, _, _, _, _, rfl, _⟩ := h; rfl) | (obtain ⟨_, _, _, _, _, _, _, _, _, _, _, _, _, _, _, _, _, _, _, _, _, _, _, _, _, rfl, _⟩ := h; rfl) | (obtain ⟨_, _, _, _, _, _, _, _, _, _, _, _, _, _, _, _, _, _, _, _, _, _, _, _, _, _, rfl, _⟩ := h; rfl) | (obtain ⟨_, _, _, _, _, _, _, _, _, _, _, _, _, _, _, _, _, _, _, _, _, _, _, _, _, _, _, rfl, _⟩ := h; rfl)
  · obtain ⟨b, B, rfl, X, hB, q⟩ := h
    have hu := hu_of hr
    have hv := hr.units
    refine ⟨_, (pss_cons (ps_asg (pe_tup (pa_cons (pe_op op_plus pe_int (pe_call (G__law_take.mono (by decide)) hr rfl g__law_take F__law_take.kp b__law_take .nil pass0 (pa_cons (pv 0) (pa_cons (pe_ix (ix_anyK (K := K) hu) (pe_lst (pa_cons pe_int (pa_cons pe_int (pa_cons pe_int pa_nil)))) (pe_call (G__law_take.mono (by decide)) hr rfl g__law_take F__law_take.kp b__law_take .nil pass0 (pa_cons (pv 0) (pa_cons pe_int pa_nil))) (fun _ _ => rfl)) pa_nil)))) (pa_cons pe_int (pa_cons pe_dnewK pa_nil)))) (pg_tupK (K := K) (n := 3) rfl (pgs_cons (pg_name (i := 1) scp.nd rfl (by first | exact Or.inl rfl | exact Or.inr rfl)) (pgs_cons (pg_name (i := 2) scp.nd rfl (by first | exact Or.inl rfl | exact Or.inr rfl)) (pgs_cons (pg_name (i := 3) scp.nd rfl (by first | exact Or.inl rfl | exact Or.inr rfl)) pgs_nil)))))
  (pss_cons (ps_set (i := 2) scp.nd rfl (by first | exact Or.inl rfl | exact Or.inr rfl) (pv 1))
  (pss_cons (ps_for PassesOwn.never rfl (pi_listK (K := K) (pe_slice (sl_listK (K := K)) (pe_lst (pa_cons pe_str (pa_cons pe_str (pa_cons pe_str (pa_cons pe_str (pa_cons pe_str (pa_cons pe_str pa_nil))))))) po_none (po_some (pe_op op_plus pe_int (pe_call (G__law_take.mono (by decide)) hr rfl g__law_take F__law_take.kp b__law_take .nil pass0 (pa_cons (pv 0) (pa_cons pe_int pa_nil))))))) (pg_name (i := 4) scp.nd rfl (by first | exact Or.inl rfl | exact Or.inr rfl))
  (pss_cons (ps_set (i := 5) scp.nd rfl (by first | exact Or.inl rfl | exact Or.inr rfl) (pe_ix (ix_anyK (K := K) hu) (pe_lst (pa_cons pe_int (pa_cons pe_int (pa_cons (pe_call (G__law_take.mono (by decide)) hr rfl g__law_take F__law_take.kp b__law_take .nil pass0 (pa_cons (pv 0) (pa_cons (pe_op op_plus (pv 2) pe_int) pa_nil))) (pa_cons (pe_call (G__law_take.mono (by decide)) hr rfl g__law_take F__law_take.kp b__law_take .nil pass0 (pa_cons (pv 0) (pa_cons (pe_op op_plus (pe_callB (call_min2Y rfl) (by rfl) T.n_min (by decide +kernel) (pa_cons (pv 2) (pa_cons pe_int pa_nil))) pe_int) pa_nil))) pa_nil))))) (pe_call (G__law_take.mono (by decide)) hr rfl g__law_take F__law_take.kp b__law_take .nil pass0 (pa_cons (pv 0) (pa_cons pe_int pa_nil))) (fun _ _ => rfl)))
  (pss_cons (ps_set (i := 5) scp.nd rfl (by first | exact Or.inl rfl | exact Or.inr rfl) (pe_callB (call_min2Y rfl) (by rfl) T.n_min (by decide +kernel) (pa_cons (pv 5) (pa_cons (pv 2) pa_nil))))
  (pss_cons (ps_set (i := 2) scp.nd rfl (by first | exact Or.inl rfl | exact Or.inr rfl) (pe_op op_minus (pv 2) (pv 5)))
  (pss_cons (ps_set (i := 6) scp.nd rfl (by first | exact Or.inl rfl | exact Or.inr rfl) (pe_callB (call_max2Y rfl) (by rfl) T.n_max (by decide +kernel) (pa_cons pe_int (pa_cons (pv 5) pa_nil))))
  (pss_cons (ps_set (i := 7) scp.nd rfl (by first | exact Or.inl rfl | exact Or.inr rfl) (pe_ix (ix_anyK (K := K) hu) (pe_lst (pa_cons (pv 1) (pa_cons (pv 6) (pa_cons (pe_op op_plus (pv 6) (pe_call (G__law_take.mono (by decide)) hr rfl g__law_take F__law_take.kp b__law_take .nil pass0 (pa_cons (pv 0) (pa_cons (pe_op op_plus (pe_op op_minus (pv 1) (pv 6)) pe_int) pa_nil)))) pa_nil)))) (pe_call (G__law_take.mono (by decide)) hr rfl g__law_take F__law_take.kp b__law_take .nil pass0 (pa_cons (pv 0) (pa_cons pe_int pa_nil))) (fun _ _ => rfl)))
  (pss_one (ps_dput hu (pv 3) (pv 4) (pe_tup (pa_cons (pv 5) (pa_cons (pv 7) pa_nil))) rfl))))))))
  (pss_cons (ps_set (i := 8) scp.nd rfl (by first | exact Or.inl rfl | exact Or.inr rfl) (pe_callTy (call_listK (K := K) rfl) (by rfl) T.n_list (by decide +kernel) (pa_cons (pv 3) pa_nil)))
  (pss_cons (ps_setLc (i := 9) (own := [("k", 10)]) (g := gName 10) (tt := tYes) rfl scp.nd rfl rfl (sw_true rfl rfl rfl (by decide +kernel)) (pi_range1 rfl T.n_range (pa_cons (pe_callB (call_lenK (K := K)) (by rfl) T.n_len (by decide +kernel) (pa_cons (pv 3) pa_nil)) pa_nil)) (blkOk_by (own := [("k", 10)]) (N := ["box", "length", "left", "guests", "name", "promise", "low", "ceiling", "names", "order", "k"]) (sc := defScope s__law_case) (by decide +kernel)) (fun _ _ _ _ _ => (pg_name (i := 10) scp.nd rfl (by first | exact Or.inl rfl | exact Or.inr rfl))) (fun _ _ _ _ _ => pts_nil) (fun _ _ _ _ _ => (pe_bmK (K := K) PySem.F.plainAttrs_list PySem.F.slot_list_pop PySem.F.type_list_pop mt_popAt (pv 8) (pa_cons (pe_call (G__law_take.mono (by decide)) hr rfl g__law_take F__law_take.kp b__law_take .nil pass0 (pa_cons (pv 0) (pa_cons (pe_callB (call_lenK (K := K)) (by rfl) T.n_len (by decide +kernel) (pa_cons (pv 8) pa_nil)) pa_nil))) pa_nil))))
  (pss_one (ps_ret (pe_tup (pa_cons (pv 1) (pa_cons (pe_callTy (call_dictKK (K := K) rfl) (by rfl) T.n_dict (by decide +kernel) (pa_cons (pe_lc (own := [("name", 4)]) (g := gName 4) (tt := tYes) rfl scp.nd (pi_listK (K := K) (pv 9)) (blkOk_by (own := [("name", 4)]) (N := ["box", "length", "left", "guests", "name", "promise", "low", "ceiling", "names", "order", "k"]) (sc := defScope s__law_case) (by decide +kernel)) (fun _ _ _ _ _ => (pg_name (i := 4) scp.nd rfl (by first | exact Or.inl rfl | exact Or.inr rfl))) (fun _ _ _ _ _ => pts_nil) (fun _ _ _ _ _ => (pe_tup (pa_cons (pv 4) (pa_cons (pe_ix (ix_anyK (K := K) hu) (pv 3) (pv 4) (fun _ _ => rfl)) pa_nil))))) pa_nil)) pa_nil)))))))))), ?_⟩
    walk_at "ys"
    refine ⟨sz_line (by simp), fun la nla => ?_⟩
    have X1 := X.same (same_new0 (o := .lst [.int 4, .int 12, .int 57]) nla)
    have hla : upd H la (.lst [.int 4, .int 12, .int 57]) la = some (.lst [.int 4, .int 12, .int 57]) := upd_same
    have e1 : Same H (upd H la (.lst [.int 4, .int 12, .int 57])) := same_new0 nla
    have nlab : la ≠ b := X.ne nla
    generalize upd H la (.lst [.int 4, .int 12, .int 57]) = H1 at *
    walk_at "ys"
    refine ⟨b, 3, B, rfl, by decide, by decide, X1, by omega, fun r1 H2 hr1 e2 X2 => ?_⟩
    obtain ⟨m1, hm1, hm0, hm57⟩ : ∃ m1 : Nat, atI [V.int 4, .int 12, .int 57] (r1 : Int) = some (.int m1) ∧ 0 < m1 ∧ m1 ≤ 57 := by
      match r1, hr1 with
      | 0, _ => exact ⟨4, rfl, by decide, by decide⟩
      | 1, _ => exact ⟨12, rfl, by decide, by decide⟩
      | 2, _ => exact ⟨57, rfl, by decide, by decide⟩
    have hla2 := e2 _ _ nlab hla
    walk_at "ys"
    refine y_ixL hla2 hm1 ?_
    walk_at "ys"
    refine ⟨b, m1, B + 1, rfl, hm0, by omega, X2, by omega, fun r2 H3 hr2 e3 X3 => ?_⟩
    have e3 := ((SameBut.of e1).trans e2).trans e3
    walk_at "ys"
    intro gd ngd
    have hLe : (4 : Int) + (r2 : Int) = ((4 + r2 : Nat) : Int) := by omega
    rw [hLe]
    have hL4 : 4 ≤ 4 + r2 := by omega
    have hL60 : 4 + r2 ≤ 60 := by omega
    generalize 4 + r2 = L at *
    have ngb : gd ≠ b := X3.ne ngd
    have ngH : H gd = none := e3.free ngb ngd
    have e4 : SameBut b H (upd H3 gd (.dK [])) := e3.trans (.of (same_new0 ngd))
    have X4 := X3.same (same_new0 (o := .dK []) ngd)
    have hgd4 : upd H3 gd (.dK []) gd = some (.dK []) := upd_same
    generalize upd H3 gd (.dK []) = H4 at *
    walk_at "ys"
    refine ⟨sz_line (by simp), fun tp ntp => ?_⟩
    have e5 := e4.trans (.of (same_new0 (o := .tup [.int L, .int 0, .ref gd]) ntp))
    have X5 := X4.same (same_new0 (o := .tup [.int L, .int 0, .ref gd]) ntp)
    have htp : upd H4 tp (.tup [.int L, .int 0, .ref gd]) tp = some (.tup [.int L, .int 0, .ref gd]) := upd_same
    have hgd5 := same_new0 (o := .tup [.int L, .int 0, .ref gd]) ntp _ _ hgd4
    generalize upd H4 tp (.tup [.int L, .int 0, .ref gd]) = H5 at *
    walk_at "ys"
    refine ⟨sz_line (by simp), fun sa nsa => ?_⟩
    have e6 := e5.trans (.of (same_new0 (o := .lst (six.map V.str)) nsa))
    have X6 := X5.same (same_new0 (o := .lst (six.map V.str)) nsa)
    have hsa : upd H5 sa (.lst (six.map V.str)) sa = some (.lst (six.map V.str)) := upd_same
    have hgd6 := same_new0 (o := .lst (six.map V.str)) nsa _ _ hgd5
    have nsb : sa ≠ b := X5.ne nsa
    change tNoPart _ (upd H5 sa (.lst (six.map V.str))) _
    generalize upd H5 sa (.lst (six.map V.str)) = H6 at *
    walk_at "ys"
    refine ⟨b, 6, B + 2, rfl, by decide, by decide, X6, by omega, fun r6 H7 hr6 e7 X7 => ?_⟩
    have hgd7 := e7 _ _ ngb hgd6
    have hsa7 := e7 _ _ nsb hsa
    have e7 := e6.trans e7
    have hcut : cutV (six.map V.str) none (some ((1 : Int) + (r6 : Int))) = (six.take (1 + r6)).map V.str := by
      match r6, hr6 with
      | 0, _ => rfl
      | 1, _ => rfl
      | 2, _ => rfl
      | 3, _ => rfl
      | 4, _ => rfl
      | 5, _ => rfl
    walk_at "ys"
    refine y_slL hsa7 (fun sl nsl => ?_)
    rw [hcut]
    have hm6 : 1 + r6 ≤ 6 := by omega
    have hm1 : 1 ≤ 1 + r6 := by omega
    generalize 1 + r6 = m at *
    have e8 := e7.trans (.of (same_new0 (o := .lst ((six.take m).map V.str)) nsl))
    have X8 := X7.same (same_new0 (o := .lst ((six.take m).map V.str)) nsl)
    have hsl : upd H7 sl (.lst ((six.take m).map V.str)) sl = some (.lst ((six.take m).map V.str)) := upd_same
    have hgd8 := same_new0 (o := .lst ((six.take m).map V.str)) nsl _ _ hgd7
    have nslb : sl ≠ b := X7.ne nsl
    have nslg : sl ≠ gd := (ne_of_none hgd7 nsl).symm
    generalize upd H7 sl (.lst ((six.take m).map V.str)) = H8 at *
    walk_at "ys"
    have hslen : (six.take m).length = m := by rw [List.length_take]; exact Nat.min_eq_left hm6
    refine for_it (walk_list (xs := (six.take m).map V.str)) (fun i σ H' => ∃ (u4 u5 u6 u7 : Option V) (tn : Str → Addr) (pn cn : Str → Nat) (lf : Nat), σ = [some (.ref b), some (.int L), some (.int lf), some (.ref gd), u4, u5, u6, u7, none, none, none] ∧ SameBut b H H' ∧ H' sl = some (.lst ((six.take m).map V.str)) ∧ Box H' b (B + 3 + 5 * i) ∧ Cast H' b gd (six.take i) tn pn cn L ∧ lf + ((six.take i).map pn).sum = L)
      ⟨none, none, none, none, fun _ => 0, fun _ => 0, fun _ => 0, L, rfl, e8, hsl, X8, ⟨hgd8, fun z hz => by simp at hz, fun z hz => by simp at hz, by simp⟩, by simp⟩
      (fun i σ H' _ h => ?_) (fun i x σ H9 H10 hi hP hY => ?_) (fun σ H9 hP => ?_)
    · obtain ⟨_, _, _, _, _, _, _, _, _, _, h, _⟩ := h
      exact SqL.of h
    · obtain ⟨u4, u5, u6, u7, tn, pn, cn, lf, rfl, e9, hsl9, X9, C, hlf⟩ := hP
      obtain ⟨rfl, hx⟩ := hY
      rw [List.length_map, hslen] at hi
      obtain ⟨z, hz⟩ : ∃ z, six[i]? = some z := ⟨six[i]'(by show i < 6; omega), List.getElem?_eq_getElem _⟩
      rw [List.getElem?_map, List.getElem?_take_of_lt hi, hz] at hx
      have hx := Option.some.inj hx
      subst hx
      have htake : six.take (i + 1) = six.take i ++ [z] := by rw [List.take_add_one, hz]; rfl
      have hzn : z ∉ six.take i := fun hmem => by
        obtain ⟨j, hj, e⟩ := List.mem_iff_getElem.mp hmem
        rw [List.length_take] at hj
        have e2 : six[j]? = some z := by
          rw [List.getElem_take] at e
          rw [← e]
          exact List.getElem?_eq_getElem _
        have := nd_ix six_nd e2 hz
        omega
      have hlL : lf ≤ L := by omega
      have hgd9 := C.d
      walk_at "ys"
      refine ⟨b, lf + 1, B + 3 + 5 * i, rfl, by omega, by omega, X9, by omega, fun a1 H11 ha1 e11 X11 => ?_⟩
      walk_at "ys"
      have em : (if (6 : Int) < (lf : Int) then (6 : Int) else (lf : Int)) + 1 = ((min lf 6 + 1 : Nat) : Int) := by split <;> omega
      rw [em]
      refine ⟨b, min lf 6 + 1, B + 3 + 5 * i + 1, rfl, by omega, by omega, X11, by omega, fun a2 H12 ha2 e12 X12 => ?_⟩
      have e12 := e11.trans e12
      walk_at "ys"
      refine ⟨sz_line (by simp), fun pl npl => ?_⟩
      have e13 := e12.trans (.of (same_new0 (o := .lst [.int 0, .int 1, .int a1, .int a2]) npl))
      have X13 := X12.same (same_new0 (o := .lst [.int 0, .int 1, .int a1, .int a2]) npl)
      have hpl : upd H12 pl (.lst [.int 0, .int 1, .int a1, .int a2]) pl = some (.lst [.int 0, .int 1, .int a1, .int a2]) := upd_same
      have nplb : pl ≠ b := X12.ne npl
      generalize upd H12 pl (.lst [.int 0, .int 1, .int a1, .int a2]) = H13 at *
      walk_at "ys"
      refine ⟨b, 4, B + 3 + 5 * i + 2, rfl, by omega, by omega, X13, by omega, fun a3 H14 ha3 e14 X14 => ?_⟩
      obtain ⟨pr, hpr⟩ : ∃ pr : Nat, atI [V.int 0, .int 1, .int a1, .int a2] (a3 : Int) = some (.int pr) := by
        match a3, ha3 with
        | 0, _ => exact ⟨0, rfl⟩
        | 1, _ => exact ⟨1, rfl⟩
        | 2, _ => exact ⟨a1, rfl⟩
        | 3, _ => exact ⟨a2, rfl⟩
      have hpl14 := e14 _ _ nplb hpl
      have e14 := e13.trans e14
      walk_at "ys"
      refine y_ixL hpl14 hpr ?_
      walk_at "ys"
      obtain ⟨p, hp, hpl⟩ : ∃ p : Nat, (if (lf : Int) < (pr : Int) then (lf : Int) else (pr : Int)) = (p : Int) ∧ p ≤ lf := ⟨min pr lf, by split <;> omega, by omega⟩
      rw [hp]
      walk_at "ys"
      obtain ⟨lf2, hlf2, hlf3⟩ : ∃ lf2 : Nat, (lf : Int) - (p : Int) = (lf2 : Int) ∧ lf2 + p = lf := ⟨lf - p, by omega, by omega⟩
      rw [hlf2]
      walk_at "ys"
      obtain ⟨lw, hlw, hlw1, hlw2, hlw3⟩ : ∃ lw : Nat, (if (p : Int) > 1 then (p : Int) else 1) = (lw : Int) ∧ 1 ≤ lw ∧ p ≤ lw ∧ lw ≤ L := ⟨max 1 p, by split <;> omega, by omega, by omega, by omega⟩
      rw [hlw]
      walk_at "ys"
      have em2 : (L : Int) - (lw : Int) + 1 = ((L - lw + 1 : Nat) : Int) := by omega
      rw [em2]
      refine ⟨b, L - lw + 1, B + 3 + 5 * i + 3, rfl, by omega, by omega, X14, by omega, fun a4 H15 ha4 e15 X15 => ?_⟩
      have e15 := e14.trans e15
      have em3 : (lw : Int) + (a4 : Int) = ((lw + a4 : Nat) : Int) := by omega
      walk_at "ys"
      rw [em3]
      refine ⟨sz_line (by simp), fun cl ncl => ?_⟩
      have e16 := e15.trans (.of (same_new0 (o := .lst [.int L, .int lw, .int (lw + a4 : Nat)]) ncl))
      have X16 := X15.same (same_new0 (o := .lst [.int L, .int lw, .int (lw + a4 : Nat)]) ncl)
      have hcl : upd H15 cl (.lst [.int L, .int lw, .int (lw + a4 : Nat)]) cl = some (.lst [.int L, .int lw, .int (lw + a4 : Nat)]) := upd_same
      have nclb : cl ≠ b := X15.ne ncl
      generalize upd H15 cl (.lst [.int L, .int lw, .int (lw + a4 : Nat)]) = H16 at *
      walk_at "ys"
      refine ⟨b, 3, B + 3 + 5 * i + 4, rfl, by omega, by omega, X16, by omega, fun a5 H17 ha5 e17 X17 => ?_⟩
      obtain ⟨ce, hce, hce1, hce2⟩ : ∃ ce : Nat, atI [V.int L, .int lw, .int (lw + a4 : Nat)] (a5 : Int) = some (.int ce) ∧ lw ≤ ce ∧ ce ≤ L := by
        match a5, ha5 with
        | 0, _ => exact ⟨L, rfl, hlw3, Nat.le_refl _⟩
        | 1, _ => exact ⟨lw, rfl, Nat.le_refl _, hlw3⟩
        | 2, _ => exact ⟨lw + a4, rfl, by omega, by omega⟩
      have hcl17 := e17 _ _ nclb hcl
      have e17 := e16.trans e17
      walk_at "ys"
      refine y_ixL hcl17 hce ?_
      walk_at "ys"
      refine ⟨sz_line (by simp), fun tt ntt => ?_⟩
      have e18 := e17.trans (.of (same_new0 (o := .tup [.int p, .int ce]) ntt))
      have X18 := X17.same (same_new0 (o := .tup [.int p, .int ce]) ntt)
      have htt : upd H17 tt (.tup [.int p, .int ce]) tt = some (.tup [.int p, .int ce]) := upd_same
      have nttb : tt ≠ b := X17.ne ntt
      have hgd17 := e17 _ _ ngb hgd9
      have nttg : tt ≠ gd := (ne_of_none hgd17 ntt).symm
      generalize upd H17 tt (.tup [.int p, .int ce]) = H18 at *
      have hgd18 := e18 _ _ ngb hgd9
      walk_at "ys"
      refine y_put hgd18 (sz_lt (by rw [List.length_map, List.length_take]; omega)) ?_
      rw [putK_new _ (by rw [valV_fun, if_neg hzn])]
      walk_at "ys"
      have hyz : ∀ y, y ∈ six.take i → ¬ y = z := fun y hy e => hzn (by rw [← e]; exact hy)
      have hf : ∀ {α : Type} (f : Str → α) (v : α) (y : Str), y ∈ six.take i → (if y = z then v else f y) = f y := fun f v y hy => if_neg (hyz y hy)
      refine ⟨_, _, _, _, fun y => if y = z then tt else tn y, fun y => if y = z then p else pn y, fun y => if y = z then ce else cn y, lf2, rfl, (e9.trans e18).mut ngH, ?_, ?_, ⟨?_, ?_, ?_, ?_⟩, ?_⟩
      · rw [upd_ne nslg]
        exact e18 _ _ nslb hsl9
      · exact (X18.put ngb).mono (by omega)
      · rw [upd_same, htake, List.map_append]
        congr 3
        · exact List.map_congr_left fun y hy => by rw [if_neg (hyz y hy)]
        · show _ = [((Sum.inr z : Key), V.ref (if z = z then tt else tn z))]
          rw [if_pos rfl]
      · intro y hy
        rw [htake, List.mem_append] at hy
        rcases hy with hy | hy
        · obtain ⟨h1, h2, h3⟩ := C.t y hy
          show upd H18 gd _ (if y = z then tt else tn y) = some (HO.tup [V.int ↑(if y = z then p else pn y), V.int ↑(if y = z then ce else cn y)]) ∧ (if y = z then tt else tn y) ≠ b ∧ (if y = z then tt else tn y) ≠ gd
          rw [hf tn tt y hy, hf pn p y hy, hf cn ce y hy]
          refine ⟨?_, h2, h3⟩
          rw [upd_ne h3]
          exact e18 _ _ h2 h1
        · obtain rfl := List.mem_singleton.mp hy
          rw [if_pos rfl, if_pos rfl, if_pos rfl]
          refine ⟨?_, nttb, nttg⟩
          rw [upd_ne nttg]
          exact htt
      · intro y hy
        rw [htake, List.mem_append] at hy
        rcases hy with hy | hy
        · show ((if y = z then p else pn y) ≤ if y = z then ce else cn y) ∧ (1 ≤ if y = z then ce else cn y) ∧ (if y = z then ce else cn y) ≤ L
          rw [hf pn p y hy, hf cn ce y hy]
          exact C.pc y hy
        · obtain rfl := List.mem_singleton.mp hy
          rw [if_pos rfl, if_pos rfl]
          omega
      · have hs : ((six.take (i + 1)).map fun y => if y = z then p else pn y).sum = ((six.take i).map pn).sum + p := by
          rw [htake, List.map_append, List.sum_append, List.map_congr_left fun y hy => hf pn p y hy]
          simp
        rw [hs]
        omega
      · have hs : ((six.take (i + 1)).map fun y => if y = z then p else pn y).sum = ((six.take i).map pn).sum + p := by
          rw [htake, List.map_append, List.sum_append, List.map_congr_left fun y hy => hf pn p y hy]
          simp
        rw [hs]
        omega
    · obtain ⟨u4, u5, u6, u7, tn, pn, cn, lf, rfl, e9, hsl9, X9, C, hlf⟩ := hP
      rw [List.length_map, hslen] at X9 C hlf
      have hgd9 := C.d
      have hnl : ((six.take m).map fun z => ((Sum.inr z : Key), V.ref (tn z))).map (fun kv => kV kv.1) = (six.take m).map V.str := by
        rw [List.map_map]
        rfl
      generalize hnm : six.take m = nm0 at *
      walk_at "ys"
      refine y_listK hgd9 (fun nl nnl => ?_)
      rw [hnl]
      have e10 := e9.trans (.of (same_new0 (o := .lst (nm0.map V.str)) nnl))
      have X10 := X9.same (same_new0 (o := .lst (nm0.map V.str)) nnl)
      have hnl10 : upd H9 nl (.lst (nm0.map V.str)) nl = some (.lst (nm0.map V.str)) := upd_same
      have nnlb : nl ≠ b := X9.ne nnl
      have nnlg : nl ≠ gd := (ne_of_none hgd9 nnl).symm
      have f10 : Same H9 (upd H9 nl (.lst (nm0.map V.str))) := same_new0 nnl
      have nnlH : H nl = none := e9.free nnlb nnl
      generalize upd H9 nl (.lst (nm0.map V.str)) = H10 at *
      have hgd10 := f10 _ _ hgd9
      walk_at "ys"
      rw [List.length_map, hslen]
      refine y_gotr1 (by omega) (by omega) ?_
      intro od nod
      have nodH : H od = none := e10.free (X10.ne nod) nod
      have nodb : od ≠ b := X10.ne nod
      have nodl : od ≠ nl := (ne_of_none hnl10 nod).symm
      refine lc_it walk_range (fun i H' => ∃ rest done : List Str, H' nl = some (.lst (rest.map V.str)) ∧ H' od = some (.lst (done.map V.str)) ∧ List.Perm (done ++ rest) nm0 ∧ done.length = i ∧ SameBut b H H' ∧ Box H' b (B + 33 + i) ∧ (∀ a u, a ≠ b → a ≠ nl → H10 a = some u → H' a = some u))
        ⟨nm0, [], up_new nod hnl10, upd_same, by simp, rfl, e10.mut nodH, (X10.put nodb).mono (by omega), fun a u _ _ h => up_new nod h⟩ (fun _ _ _ _ => trivial) (fun i x H11 H12 hi hP hY => ?_) (fun H11 hP => ?_)
      · obtain ⟨rest, done, hnl11, hod11, hpe, hdl, e11, X11, F11⟩ := hP
        obtain ⟨rfl, rfl⟩ := hY
        have hrl : done.length + rest.length = m := by rw [← List.length_append, hpe.length_eq, hslen]
        walk_at "ys"
        rw [List.length_map]
        refine ⟨b, rest.length, B + 33 + i, rfl, by omega, by omega, X11, by omega, fun r H13 hr13 e13 X13 => ?_⟩
        have hnl13 := e13 _ _ nnlb hnl11
        have hod13 := e13 _ _ nodb hod11
        walk_at "ys"
        refine y_popAt (y := .str rest[r]) hnl13 (by rw [List.getElem?_map, List.getElem?_eq_getElem hr13]; rfl) (by omega) ?_
        refine ⟨_, by rw [upd_ne nodl]; exact hod13, by rw [List.length_map]; exact sz_lt (by omega), rest.eraseIdx r, done ++ [rest[r]], ?_, ?_, ?_, by rw [List.length_append, hdl]; rfl, ((e11.trans e13).mut nnlH).mut nodH, ((X13.put nnlb).put nodb).mono (by omega), fun a u n1 n2 h => ?_⟩
        · rw [upd_ne (Ne.symm nodl), upd_same, erase_map]
        · rw [upd_same, List.map_append]
          rfl
        · refine List.Perm.trans ?_ hpe
          rw [List.append_assoc]
          exact List.Perm.append_left _ (erase_perm rest r hr13)
        · have nao : a ≠ od := fun z => by
            rw [z] at h
            rw [h] at nod
            cases nod
          rw [upd_ne nao, upd_ne n2]
          exact e13 _ _ n1 (F11 a u n1 n2 h)
      · obtain ⟨rest, done, hnl11, hod11, hpe, hdl, e11, X11, F11⟩ := hP
        have hrl : done.length + rest.length = m := by rw [← List.length_append, hpe.length_eq, hslen]
        have hmm : ((m : Int)).toNat = m := rfl
        obtain rfl : rest = [] := List.eq_nil_of_length_eq_zero (by omega)
        rw [List.append_nil] at hpe
        have hgd11 := F11 _ _ ngb (Ne.symm nnlg) hgd10
        have hdm : done.length = m := by simpa using hrl
        have ht11 : ∀ z, z ∈ done → H11 (tn z) = some (.tup [.int (pn z), .int (cn z)]) := fun z hz => by
          obtain ⟨h1, h2, h3⟩ := C.t z (hpe.mem_iff.mp hz)
          exact F11 _ _ h2 (ne_of_none h1 nnl) (f10 _ _ h1)
        walk_at "ys"
        intro pd npd
        refine lc_new (fun j => .tup [.str (nmF done j), .ref (tn (nmF done j))]) (fun _ _ z => by cases z) (walk_list (xs := done.map V.str)) npd (sz_lt (by rw [List.length_map]; omega)) (fun H' e => SqL.of (e _ _ hod11)) (fun j x H12 H13 Nx hj e12 hY c0 => ?_) (fun H12 as e12 hal ha hpd => ?_)
        · obtain ⟨rfl, hx⟩ := hY
          rw [List.length_map] at hj
          rw [List.getElem?_map, nmF_at hj] at hx
          have hx := Option.some.inj hx
          subst hx
          have hmem : nmF done j ∈ nm0 := hpe.mem_iff.mp (List.mem_of_getElem? (nmF_at hj))
          walk_at "ys"
          refine y_ixK (e12 _ _ hgd11) (by rw [valV_fun, if_pos hmem]) ?_
          walk_at "ys"
          refine ⟨sz_line (by simp), fun tp2 ntp2 => ?_⟩
          exact c0 tp2 _ (same_new0 ntp2) upd_same
        · rw [List.length_map] at hal
          have X12 := X11.same e12
          have hnd : done.Nodup := hpe.nodup_iff.mpr (by rw [← hnm]; exact (List.take_sublist _ _).nodup six_nd)
          walk_at "ys"
          refine y_dictP (kvs := done.map fun z => ((Sum.inr z : Key), V.ref (tn z))) hpd ?_ (fun g2 ng2 => ?_)
          · refine paired_idx (by rw [hal, List.length_map]) fun j a kv h1 h2 => ?_
            have hj : j < done.length := by
              have := (List.getElem?_eq_some_iff.mp h1).1
              omega
            rw [List.getElem?_map, nmF_at hj] at h2
            have h2 := Option.some.inj h2
            subst h2
            exact SqT.of (ha j a h1)
          · have hmg := merge_fun (fun z => V.ref (tn z)) done [] (by simpa using hnd)
            rw [List.map_nil, List.nil_append] at hmg
            rw [hmg]
            have f13 : Same H11 (upd H12 g2 (.dK (done.map fun z => ((Sum.inr z : Key), V.ref (tn z))))) := e12.trans (same_new0 ng2)
            have e13 : SameBut b H (upd H12 g2 (.dK (done.map fun z => ((Sum.inr z : Key), V.ref (tn z))))) := e11.trans (.of f13)
            have X13 := X12.same (same_new0 (o := .dK (done.map fun z => ((Sum.inr z : Key), V.ref (tn z)))) ng2)
            have hg2 : upd H12 g2 (.dK (done.map fun z => ((Sum.inr z : Key), V.ref (tn z)))) g2 = some (.dK (done.map fun z => ((Sum.inr z : Key), V.ref (tn z)))) := upd_same
            have ng2b : g2 ≠ b := X12.ne ng2
            have ng2H : H g2 = none := (e11.trans (.of e12)).free ng2b ng2
            generalize upd H12 g2 (.dK (done.map fun z => ((Sum.inr z : Key), V.ref (tn z)))) = H13 at *
            walk_at "ys"
            refine ⟨sz_line (by simp), fun t2 nt2 => ?_⟩
            have f14 : Same H13 (upd H13 t2 (.tup [.int L, .ref g2])) := same_new0 nt2
            refine q t2 g2 L done (done.map tn) (fun i => pn (nmF done i)) (fun i => cn (nmF done i)) _ (e13.trans (.of f14)) ng2H ((X13.same f14).mono (by omega)) ⟨upd_same, ?_, by rw [List.length_map], ?_, hnd, ?_, by omega, by omega, ⟨?_, ?_, ?_, ?_⟩, hL4, hL60⟩
            · rw [kvOf_fun]
              exact f14 _ _ hg2
            · intro i a h
              rw [List.getElem?_map] at h
              cases hy : done[i]? with
              | none =>
                rw [hy] at h
                cases h
              | some y =>
                rw [hy] at h
                have h := Option.some.inj h
                subst h
                rw [nmF_of hy]
                exact f14 _ _ (f13 _ _ (ht11 y (List.mem_of_getElem? hy)))
            · intro z hz
              have := hpe.mem_iff.mp hz
              rw [← hnm] at this
              exact List.mem_of_mem_take this
            · exact fun i hi => (C.pc _ (hpe.mem_iff.mp (List.mem_of_getElem? (nmF_at hi)))).1
            · exact fun i hi => (C.pc _ (hpe.mem_iff.mp (List.mem_of_getElem? (nmF_at hi)))).2.1
            · exact fun i hi => (C.pc _ (hpe.mem_iff.mp (List.mem_of_getElem? (nmF_at hi)))).2.2
            · rw [sum_fun pn done done.length (Nat.le_refl _), List.take_length, (hpe.map pn).sum_nat]
              exact C.sum
end
end K61
namespace K61
open PySem L2 Y LamX
def fldP (tp tc np nc u : Nat) : List (Str × V) := [(("told_promise" : Str), V.int tp), (("told_ceiling" : Str), V.int tc), (("now_promise" : Str), V.int np), (("now_ceiling" : Str), V.int nc), (("turns_used" : Str), V.int u)]
def fldS (L : Nat) (pd : Addr) (t : Nat) (al : Addr) : List (Str × V) := [(("own_length" : Str), V.int L), (("portions" : Str), V.ref pd), (("turns_passed" : Str), V.int t), (("all_dealt" : Str), V.ref al)]
theorem lenP {tp tc np nc u : Nat} : (fldP tp tc np nc u).length < 1000 := by show 5 < 1000; decide
theorem lenS {L : Nat} {pd : Addr} {t : Nat} {al : Addr} : (fldS L pd t al).length < 1000 := by show 4 < 1000; decide
theorem lkP_told_promise {tp : Nat} {tc : Nat} {np : Nat} {nc : Nat} {u : Nat} : (fldP tp tc np nc u).lookup ("told_promise" : Str) = some (V.int tp) := by
  unfold fldP
  rw [lk_1]
theorem pfP_told_promise {tp : Nat} {tc : Nat} {np : Nat} {nc : Nat} {u : Nat} {y : Nat} : putF ("told_promise" : Str) (V.int y) (fldP tp tc np nc u) = fldP y tc np nc u := by
  unfold fldP
  rw [pf_1]
theorem lkP_told_ceiling {tp : Nat} {tc : Nat} {np : Nat} {nc : Nat} {u : Nat} : (fldP tp tc np nc u).lookup ("told_ceiling" : Str) = some (V.int tc) := by
  unfold fldP
  rw [lk_2 (by decide +kernel)]
  rw [lk_1]
theorem pfP_told_ceiling {tp : Nat} {tc : Nat} {np : Nat} {nc : Nat} {u : Nat} {y : Nat} : putF ("told_ceiling" : Str) (V.int y) (fldP tp tc np nc u) = fldP tp y np nc u := by
  unfold fldP
  rw [pf_2 (by decide +kernel)]
  rw [pf_1]
theorem lkP_now_promise {tp : Nat} {tc : Nat} {np : Nat} {nc : Nat} {u : Nat} : (fldP tp tc np nc u).lookup ("now_promise" : Str) = some (V.int np) := by
  unfold fldP
  rw [lk_2 (by decide +kernel)]
  rw [lk_2 (by decide +kernel)]
  rw [lk_1]
theorem pfP_now_promise {tp : Nat} {tc : Nat} {np : Nat} {nc : Nat} {u : Nat} {y : Nat} : putF ("now_promise" : Str) (V.int y) (fldP tp tc np nc u) = fldP tp tc y nc u := by
  unfold fldP
  rw [pf_2 (by decide +kernel)]
  rw [pf_2 (by decide +kernel)]
  rw [pf_1]
theorem lkP_now_ceiling {tp : Nat} {tc : Nat} {np : Nat} {nc : Nat} {u : Nat} : (fldP tp tc np nc u).lookup ("now_ceiling" : Str) = some (V.int nc) := by
  unfold fldP
  rw [lk_2 (by decide +kernel)]
  rw [lk_2 (by decide +kernel)]
  rw [lk_2 (by decide +kernel)]
  rw [lk_1]
theorem pfP_now_ceiling {tp : Nat} {tc : Nat} {np : Nat} {nc : Nat} {u : Nat} {y : Nat} : putF ("now_ceiling" : Str) (V.int y) (fldP tp tc np nc u) = fldP tp tc np y u := by
  unfold fldP
  rw [pf_2 (by decide +kernel)]
  rw [pf_2 (by decide +kernel)]
  rw [pf_2 (by decide +kernel)]
  rw [pf_1]
theorem lkP_turns_used {tp : Nat} {tc : Nat} {np : Nat} {nc : Nat} {u : Nat} : (fldP tp tc np nc u).lookup ("turns_used" : Str) = some (V.int u) := by
  unfold fldP
  rw [lk_2 (by decide +kernel)]
  rw [lk_2 (by decide +kernel)]
  rw [lk_2 (by decide +kernel)]
  rw [lk_2 (by decide +kernel)]
  rw [lk_1]
theorem pfP_turns_used {tp : Nat} {tc : Nat} {np : Nat} {nc : Nat} {u : Nat} {y : Nat} : putF ("turns_used" : Str) (V.int y) (fldP tp tc np nc u) = fldP tp tc np nc y := by
  unfold fldP
  rw [pf_2 (by decide +kernel)]
  rw [pf_2 (by decide +kernel)]
  rw [pf_2 (by decide +kernel)]
  rw [pf_2 (by decide +kernel)]
  rw [pf_1]
theorem lkS_own_length {L : Nat} {pd : Addr} {t : Nat} {al : Addr} : (fldS L pd t al).lookup ("own_length" : Str) = some (V.int L) := by
  unfold fldS
  rw [lk_1]
theorem pfS_own_length {L : Nat} {pd : Addr} {t : Nat} {al : Addr} {y : Nat} : putF ("own_length" : Str) (V.int y) (fldS L pd t al) = fldS y pd t al := by
  unfold fldS
  rw [pf_1]
theorem lkS_portions {L : Nat} {pd : Addr} {t : Nat} {al : Addr} : (fldS L pd t al).lookup ("portions" : Str) = some (V.ref pd) := by
  unfold fldS
  rw [lk_2 (by decide +kernel)]
  rw [lk_1]
theorem pfS_portions {L : Nat} {pd : Addr} {t : Nat} {al : Addr} {y : Addr} : putF ("portions" : Str) (V.ref y) (fldS L pd t al) = fldS L y t al := by
  unfold fldS
  rw [pf_2 (by decide +kernel)]
  rw [pf_1]
theorem lkS_turns_passed {L : Nat} {pd : Addr} {t : Nat} {al : Addr} : (fldS L pd t al).lookup ("turns_passed" : Str) = some (V.int t) := by
  unfold fldS
  rw [lk_2 (by decide +kernel)]
  rw [lk_2 (by decide +kernel)]
  rw [lk_1]
theorem pfS_turns_passed {L : Nat} {pd : Addr} {t : Nat} {al : Addr} {y : Nat} : putF ("turns_passed" : Str) (V.int y) (fldS L pd t al) = fldS L pd y al := by
  unfold fldS
  rw [pf_2 (by decide +kernel)]
  rw [pf_2 (by decide +kernel)]
  rw [pf_1]
theorem lkS_all_dealt {L : Nat} {pd : Addr} {t : Nat} {al : Addr} : (fldS L pd t al).lookup ("all_dealt" : Str) = some (V.ref al) := by
  unfold fldS
  rw [lk_2 (by decide +kernel)]
  rw [lk_2 (by decide +kernel)]
  rw [lk_2 (by decide +kernel)]
  rw [lk_1]
theorem pfS_all_dealt {L : Nat} {pd : Addr} {t : Nat} {al : Addr} {y : Addr} : putF ("all_dealt" : Str) (V.ref y) (fldS L pd t al) = fldS L pd t y := by
  unfold fldS
  rw [pf_2 (by decide +kernel)]
  rw [pf_2 (by decide +kernel)]
  rw [pf_2 (by decide +kernel)]
  rw [pf_1]
theorem mnP_begin {tp tc np nc u : Nat} : (fldP tp tc np nc u).lookup ("begin" : Str) = none := by
  unfold fldP
  rw [lk_2 (by decide +kernel)]
  rw [lk_2 (by decide +kernel)]
  rw [lk_2 (by decide +kernel)]
  rw [lk_2 (by decide +kernel)]
  rw [lk_2 (by decide +kernel)]
  rfl
theorem mnS_need_guest {L : Nat} {pd : Addr} {t : Nat} {al : Addr} : (fldS L pd t al).lookup ("need_guest" : Str) = none := by
  unfold fldS
  rw [lk_2 (by decide +kernel)]
  rw [lk_2 (by decide +kernel)]
  rw [lk_2 (by decide +kernel)]
  rw [lk_2 (by decide +kernel)]
  rfl
theorem mnS_need_room_for {L : Nat} {pd : Addr} {t : Nat} {al : Addr} : (fldS L pd t al).lookup ("need_room_for" : Str) = none := by
  unfold fldS
  rw [lk_2 (by decide +kernel)]
  rw [lk_2 (by decide +kernel)]
  rw [lk_2 (by decide +kernel)]
  rw [lk_2 (by decide +kernel)]
  rfl
theorem mnS_come {L : Nat} {pd : Addr} {t : Nat} {al : Addr} : (fldS L pd t al).lookup ("come" : Str) = none := by
  unfold fldS
  rw [lk_2 (by decide +kernel)]
  rw [lk_2 (by decide +kernel)]
  rw [lk_2 (by decide +kernel)]
  rw [lk_2 (by decide +kernel)]
  rfl
theorem mnS_promised_one {L : Nat} {pd : Addr} {t : Nat} {al : Addr} : (fldS L pd t al).lookup ("promised_one" : Str) = none := by
  unfold fldS
  rw [lk_2 (by decide +kernel)]
  rw [lk_2 (by decide +kernel)]
  rw [lk_2 (by decide +kernel)]
  rw [lk_2 (by decide +kernel)]
  rfl
theorem mnS_free_one {L : Nat} {pd : Addr} {t : Nat} {al : Addr} : (fldS L pd t al).lookup ("free_one" : Str) = none := by
  unfold fldS
  rw [lk_2 (by decide +kernel)]
  rw [lk_2 (by decide +kernel)]
  rw [lk_2 (by decide +kernel)]
  rw [lk_2 (by decide +kernel)]
  rfl
theorem mnS_deal {L : Nat} {pd : Addr} {t : Nat} {al : Addr} : (fldS L pd t al).lookup ("deal" : Str) = none := by
  unfold fldS
  rw [lk_2 (by decide +kernel)]
  rw [lk_2 (by decide +kernel)]
  rw [lk_2 (by decide +kernel)]
  rw [lk_2 (by decide +kernel)]
  rfl
theorem mnS_promised {L : Nat} {pd : Addr} {t : Nat} {al : Addr} : (fldS L pd t al).lookup ("promised" : Str) = none := by
  unfold fldS
  rw [lk_2 (by decide +kernel)]
  rw [lk_2 (by decide +kernel)]
  rw [lk_2 (by decide +kernel)]
  rw [lk_2 (by decide +kernel)]
  rfl
theorem mnS_change {L : Nat} {pd : Addr} {t : Nat} {al : Addr} : (fldS L pd t al).lookup ("change" : Str) = none := by
  unfold fldS
  rw [lk_2 (by decide +kernel)]
  rw [lk_2 (by decide +kernel)]
  rw [lk_2 (by decide +kernel)]
  rw [lk_2 (by decide +kernel)]
  rfl
theorem mnS_length {L : Nat} {pd : Addr} {t : Nat} {al : Addr} : (fldS L pd t al).lookup ("length" : Str) = none := by
  unfold fldS
  rw [lk_2 (by decide +kernel)]
  rw [lk_2 (by decide +kernel)]
  rw [lk_2 (by decide +kernel)]
  rw [lk_2 (by decide +kernel)]
  rfl
theorem mnS_names {L : Nat} {pd : Addr} {t : Nat} {al : Addr} : (fldS L pd t al).lookup ("names" : Str) = none := by
  unfold fldS
  rw [lk_2 (by decide +kernel)]
  rw [lk_2 (by decide +kernel)]
  rw [lk_2 (by decide +kernel)]
  rw [lk_2 (by decide +kernel)]
  rfl
theorem mnS_counting {L : Nat} {pd : Addr} {t : Nat} {al : Addr} : (fldS L pd t al).lookup ("counting" : Str) = none := by
  unfold fldS
  rw [lk_2 (by decide +kernel)]
  rw [lk_2 (by decide +kernel)]
  rw [lk_2 (by decide +kernel)]
  rw [lk_2 (by decide +kernel)]
  rfl
local macro_rules | `(tactic| walk_at "lk") => `(tactic| with_reducible first | exact lkP_told_promise | exact lkP_told_ceiling | exact lkP_now_promise | exact lkP_now_ceiling | exact lkP_turns_used | exact lkS_own_length | exact lkS_portions | exact lkS_turns_passed | exact lkS_all_dealt | exact mnP_begin | exact mnS_need_guest | exact mnS_need_room_for | exact mnS_come | exact mnS_promised_one | exact mnS_free_one | exact mnS_deal | exact mnS_promised | exact mnS_change | exact mnS_length | exact mnS_names | exact mnS_counting)
local macro_rules | `(tactic| walk_at "ln") => `(tactic| first | exact lenP | exact lenS | (simp; done) | (show 0 < 1000; decide) | (show 1 < 1000; decide) | (show 2 < 1000; decide) | (show 3 < 1000; decide) | (show 4 < 1000; decide))

theorem upd_upd {H : Hp} {a : Addr} {o u : HO} : upd (upd H a o) a u = upd H a u := funext fun b => by
  by_cases z : b = a
  · rw [z, upd_same, upd_same]
  · rw [upd_ne z, upd_ne z, upd_ne z]
theorem pf_0 {f : Str} {v : V} : putF f v [] = [(f, v)] := rfl
section
variable {P : Program} {w : World} {K : PySem.W.Frag} {mg : Str → Option Value} {base : Heap}
theorem kb_portion {f : Addr} {fd : FuncData} (F : Fun K "__init__" "Portion.__init__" s_Portion_init f fd) : KBn K fd ["self", "promise", "ceiling", "at_once"] 3 ["at_once"] (fun us ws => us ++ ws) (fun vs zs => vs ++ zs) := by
  obtain ⟨⟨oc, od, kV, doc, pm, an, cdv, ct, osl, rfl, lk, hc⟩, hk⟩ := F
  refine ⟨fun s us ws X l1 l2 => .of_eq ?_, fun r1 r2 => r1.append r2⟩
  match us, l1 with
  | [a, b, c], _ => match ws, l2 with
    | [d], _ => rfl
def sp_Portion_init (CP : Addr) : Sp := fun vs H Q _ => ∃ (x dx : Addr) (p c : Nat) (b : Bool), vs = [.ref x, .int p, .int c, .bl b] ∧ H x = some (.ins CP dx []) ∧ ∀ H', SameBut x H H' → H' x = some (.ins CP dx (fldP p c (if b then p else 0) c 0)) → Q .non H'
theorem ok_Portion_init {f : Addr} {fd : FuncData} (T : Txt K mg) {CPortion CShares CGuestError CTooMuch : Addr} (W : Own K mg CPortion CShares CGuestError CTooMuch) (F : Fun K "__init__" "Portion.__init__" s_Portion_init f fd) : FnOk P w K mg base CX0 1 f fd ["self", "promise", "ceiling", "at_once"] (sp_Portion_init CPortion) := by
  have scp := sc_Portion_init
  refine F.ok sc_Portion_init (fun vs H Q E h => ?_) (fun cdv A outer s H vs Q E hr h => ?_)
  · first | (obtain ⟨rfl, _⟩ := h; rfl) | (obtain ⟨_, rfl, _⟩ := h; rfl) | (obtain ⟨_, _, rfl, _⟩ := h; rfl) | (obtain ⟨_, _, _, rfl, _⟩ := h; rfl) | (obtain ⟨_, _, _, _, rfl, _⟩ := h; rfl) | (obtain ⟨_, _, _, _, _, rfl, _⟩ := h; rfl) | (obtain ⟨_, _, _, _, _, _, rfl, _⟩ := h; rfl) | (obtain ⟨_, _, _, _, _, _, _, rfl, _⟩ := h; rfl) | (obtain ⟨_, _, _, _, _, _, _, _, rfl, _⟩ := h; rfl) | (obtain ⟨_, _, _, _, _, _, _, _, _, rfl, _⟩ := h; rfl) | (obtain ⟨_, _, _, _, _, _, _, _, _, _, rfl, _⟩ := h; rfl) | (obtain ⟨_, _, _, _, _, _, _, _, _, _, _, rfl, _⟩ := h; rfl) | (obtain ⟨_, _, _, _, _, _, _, _, _, _, _, _, rfl, _⟩ := h; rfl) | (obtain ⟨_, _, _, _, _, _, _, _, _, _, _, _, _, rfl, _⟩ := h; rfl) | (obtain ⟨_, _, _, _, _, _, _, _, _, _, _, _, _, _, rfl, _⟩ := h; rfl) | (obtain ⟨_, _, _, _, _, _, _, _, _, _, _, _, _, _, _, rfl, _⟩ := h; rfl) | (obtain ⟨_, _, _, _, _, _, _, _, _, _, _, _, _, _, _, _, rfl, _⟩ := h; rfl) | (obtain ⟨_, _, _, _, _, _, _, _, _, _, _, _, _, _, _, _, _, rfl, _⟩ := h; rfl) | (obtain ⟨_, _, _, _, _, _, _, _, _, _, _, _, _, _, _, _, _, _, rfl, _⟩ := h; rfl) | (obtain ⟨_, _, _, _, _, _, _, _, _, _, _, _, _, _, _, _, _, _, _, rfl, _⟩ := h; rfl) | (obtain ⟨_, _, _, _, _, _, _, _, _, _, _, _, _, _, _, _, _, _, _, _, rfl, _⟩ := h; rfl) | (obtain ⟨_, _, _, _, _, _, _, _, _, _, _, _, _, _, _, _, _, _, _, _, _, rfl, _⟩ := h; rfl) | (obtain ⟨_, _, _, _, _, _, _, _, _, _, _, _, _, _, _, _, _, _, _, _, _, _, rfl, _⟩ := h; rfl) | (obtain ⟨_, _, _, _, _, _, _, _, _, _, _, _, _, _, _, _, _, _, _, _, _, _, _, rfl, _⟩ := h; rfl) | (obtain ⟨_, _, _, _, _, _, _, _, _, _, _, _, _, _, _, _, _, _, _, _, _, _, _, _, rfl, _⟩ := h; rfl) | (obtain ⟨_, _, _, _, _, _, _, _, _, _, _, _, _, _, _, _, _, _, _, _, _, _, _, _, _, rfl, _⟩ := h; rfl) | (obtain ⟨_, _, _, _, _, _, _, _, _, _, _, _, _, _, _, _, _, _, _, _, _, _, _, _, _, _, rfl, _⟩ := h; rfl) | (obtain ⟨_, _, _, _, _, _, _, _, _, _, _, _, _, _, _, _, _, _, _, _, _, _, _, _, _, _, _, rfl, _⟩ := h; rfl)
  · obtain ⟨x, dx, p, c, b, rfl, hx, q⟩ := h
    have hu := hu_of hr
    have hv := hr.units
    have c_Portion := W.c_Portion; have n_Portion_told_promise := W.n_Portion_told_promise; have n_Portion_told_ceiling := W.n_Portion_told_ceiling; have n_Portion_now_promise := W.n_Portion_now_promise; have n_Portion_now_ceiling := W.n_Portion_now_ceiling; have n_Portion_turns_used := W.n_Portion_turns_used; have c_Shares := W.c_Shares; have n_Shares_own_length := W.n_Shares_own_length; have n_Shares_portions := W.n_Shares_portions; have n_Shares_turns_passed := W.n_Shares_turns_passed; have n_Shares_all_dealt := W.n_Shares_all_dealt
    refine ⟨_, (pss_cons (ps_fldK (K := K) (pv 0) (pv 1))
  (pss_cons (ps_fldK (K := K) (pv 0) (pv 2))
  (pss_cons (ps_fldK (K := K) (pv 0) (pe_ifExp (pt_val (pv 3)) (pv 1) pe_int))
  (pss_cons (ps_fldK (K := K) (pv 0) (pv 2))
  (pss_one (ps_fldK (K := K) (pv 0) pe_int)))))), ?_⟩
    walk_at "ys"
    refine y_setF hx c_Portion n_Portion_told_promise (by show 0 < 1000; decide) ?_
    rw [pf_0]
    walk_at "ys"
    refine y_setF upd_same c_Portion n_Portion_told_ceiling (by show 1 < 1000; decide) ?_
    rw [pf_2 (by decide +kernel), pf_0, upd_upd]
    have fin : ∀ m : Nat, m = (if b = true then p else 0) → ∀ H', SameBut x H H' → H' x = some (.ins CPortion dx [(("told_promise" : Str), .int p), (("told_ceiling" : Str), .int c), (("now_promise" : Str), .int m), (("now_ceiling" : Str), .int c), (("turns_used" : Str), .int (0 : Nat))]) → Q .non H' := fun m hm H' e1 e2 => by
      subst hm
      exact q H' e1 e2
    walk_at "ys"
    refine y_b2 (fun hb => ?_) (fun hb => ?_)
    · walk_at "ys"
      refine y_setF upd_same c_Portion n_Portion_now_promise (by show 2 < 1000; decide) ?_
      rw [pf_2 (by decide +kernel), pf_2 (by decide +kernel), pf_0, upd_upd]
      walk_at "ys"
      refine y_setF upd_same c_Portion n_Portion_now_ceiling (by show 3 < 1000; decide) ?_
      rw [pf_2 (by decide +kernel), pf_2 (by decide +kernel), pf_2 (by decide +kernel), pf_0, upd_upd]
      walk_at "ys"
      refine y_setF upd_same c_Portion n_Portion_turns_used (by show 4 < 1000; decide) ?_
      rw [pf_2 (by decide +kernel), pf_2 (by decide +kernel), pf_2 (by decide +kernel), pf_2 (by decide +kernel), pf_0, upd_upd]
      exact fin p (by rw [if_pos hb]) _ (SameBut.put _ _ _) upd_same
    · walk_at "ys"
      refine y_setF upd_same c_Portion n_Portion_now_promise (by show 2 < 1000; decide) ?_
      rw [pf_2 (by decide +kernel), pf_2 (by decide +kernel), pf_0, upd_upd]
      walk_at "ys"
      refine y_setF upd_same c_Portion n_Portion_now_ceiling (by show 3 < 1000; decide) ?_
      rw [pf_2 (by decide +kernel), pf_2 (by decide +kernel), pf_2 (by decide +kernel), pf_0, upd_upd]
      walk_at "ys"
      refine y_setF upd_same c_Portion n_Portion_turns_used (by show 4 < 1000; decide) ?_
      rw [pf_2 (by decide +kernel), pf_2 (by decide +kernel), pf_2 (by decide +kernel), pf_2 (by decide +kernel), pf_0, upd_upd]
      exact fin 0 (by rw [if_neg (by rw [hb]; exact Bool.noConfusion)]) _ (SameBut.put _ _ _) upd_same
def sp_Portion_begin (CP : Addr) : Sp := fun vs H Q _ => ∃ (x dx : Addr) (tp tc np nc u : Nat), vs = [.ref x] ∧ H x = some (.ins CP dx (fldP tp tc np nc u)) ∧ ∀ H', SameBut x H H' → H' x = some (.ins CP dx (fldP tp tc tp tc 0)) → Q .non H'
theorem ok_Portion_begin {f : Addr} {fd : FuncData} (T : Txt K mg) {CPortion CShares CGuestError CTooMuch : Addr} (W : Own K mg CPortion CShares CGuestError CTooMuch) (F : Fun K "begin" "Portion.begin" s_Portion_begin f fd) : FnOk P w K mg base CX0 1 f fd ["self"] (sp_Portion_begin CPortion) := by
  have scp := sc_Portion_begin
  refine F.ok sc_Portion_begin (fun vs H Q E h => ?_) (fun cdv A outer s H vs Q E hr h => ?_)
  · first | (obtain ⟨rfl, _⟩ := h; rfl) | (obtain ⟨_, rfl, _⟩ := h; rfl) | (obtain ⟨_, _, rfl, _⟩ := h; rfl) | (obtain ⟨_, _, _, rfl, _⟩ := h; rfl) | (obtain ⟨_, _, _, _, rfl, _⟩ := h; rfl) | (obtain ⟨_, _, _, _, _, rfl, _⟩ := h; rfl) | (obtain ⟨_, _, _, _, _, _, rfl, _⟩ := h; rfl) | (obtain ⟨_, _, _, _, _, _, _, rfl, _⟩ := h; rfl) | (obtain ⟨_, _, _, _, _, _, _, _, rfl, _⟩ := h; rfl) | (obtain ⟨_, _, _, _, _, _, _, _, _, rfl, _⟩ := h; rfl) | (obtain ⟨_, _, _, _, _, _, _, _, _, _, rfl, _⟩ := h; rfl) | (obtain ⟨_, _, _, _, _, _, _, _, _, _, _, rfl, _⟩ := h; rfl) | (obtain ⟨_, _, _, _, _, _, _, _, _, _, _, _, rfl, _⟩ := h; rfl) | (obtain ⟨_, _, _, _, _, _, _, _, _, _, _, _, _, rfl, _⟩ := h; rfl) | (obtain ⟨_, _, _, _, _, _, _, _, _, _, _, _, _, _, rfl, _⟩ := h; rfl) | (obtain ⟨_, _, _, _, _, _, _, _, _, _, _, _, _, _, _, rfl, _⟩ := h; rfl) | (obtain ⟨_, _, _, _, _, _, _, _, _, _, _, _, _, _, _, _, rfl, _⟩ := h; rfl) | (obtain ⟨_, _, _, _, _, _, _, _, _, _, _, _, _, _, _, _, _, rfl, _⟩ := h; rfl) | (obtain ⟨_, _, _, _, _, _, _, _, _, _, _, _, _, _, _, _, _, _, rfl, _⟩ := h; rfl) | (obtain ⟨_, _, _, _, _, _, _, _, _, _, _, _, _, _, _, _, _, _, _, rfl, _⟩ := h; rfl) | (obtain ⟨_, _, _, _, _, _, _, _, _, _, _, _, _, _, _, _, _, _, _, _, rfl, _⟩ := h; rfl) | (obtain ⟨_, _, _, _, _, _, _, _, _, _, _, _, _, _, _, _, _, _, _, _, _, rfl, _⟩ := h; rfl) | (obtain ⟨_, _, _, _, _, _, _, _, _, _, _, _, _, _, _, _, _, _, _, _, _, _, rfl, _⟩ := h; rfl) | (obtain ⟨_, _, _, _, _, _, _, _, _, _, _, _, _, _, _, _, _, _, _, _, _, _, _, rfl, _⟩ := h; rfl) | (obtain ⟨_, _, _, _, _, _, _, _, _, _, _, _, _, _, _, _, _, _, _, _, _, _, _, _, rfl, _⟩ := h; rfl) | (obtain ⟨_, _, _, _, _, _, _, _, _, _, _, _, _, _, _, _, _, _, _, _, _, _, _, _, _, rfl, _⟩ := h; rfl) | (obtain ⟨_, _, _, _, _, _, _, _, _, _, _, _, _, _, _, _, _, _, _, _, _, _, _, _, _, _, rfl, _⟩ := h; rfl) | (obtain ⟨_, _, _, _, _, _, _, _, _, _, _, _, _, _, _, _, _, _, _, _, _, _, _, _, _, _, _, rfl, _⟩ := h; rfl)
  · obtain ⟨x, dx, tp, tc, np, nc, u, rfl, hx, q⟩ := h
    have hu := hu_of hr
    have hv := hr.units
    have c_Portion := W.c_Portion; have n_Portion_told_promise := W.n_Portion_told_promise; have n_Portion_told_ceiling := W.n_Portion_told_ceiling; have n_Portion_now_promise := W.n_Portion_now_promise; have n_Portion_now_ceiling := W.n_Portion_now_ceiling; have n_Portion_turns_used := W.n_Portion_turns_used; have c_Shares := W.c_Shares; have n_Shares_own_length := W.n_Shares_own_length; have n_Shares_portions := W.n_Shares_portions; have n_Shares_turns_passed := W.n_Shares_turns_passed; have n_Shares_all_dealt := W.n_Shares_all_dealt
    refine ⟨_, (pss_cons (ps_asg (pe_tup (pa_cons (pe_fldK (K := K) (pv 0)) (pa_cons (pe_fldK (K := K) (pv 0)) pa_nil))) (pg_tupK (K := K) (n := 2) rfl (pgs_cons (pg_fldK (K := K) (pv 0)) (pgs_cons (pg_fldK (K := K) (pv 0)) pgs_nil))))
  (pss_one (ps_fldK (K := K) (pv 0) pe_int))), ?_⟩
    walk_at "ys"
    refine ⟨sz_line (by simp), fun tt ntt => ?_⟩
    have f1 : Same H (upd H tt (.tup [.int tp, .int tc])) := same_new0 ntt
    have htt : upd H tt (.tup [.int tp, .int tc]) tt = some (.tup [.int tp, .int tc]) := upd_same
    have hx1 := f1 _ _ hx
    generalize upd H tt (.tup [.int tp, .int tc]) = H1 at *
    walk_at "ys"
    refine y_setF hx1 c_Portion n_Portion_now_promise lenP ?_
    rw [pfP_now_promise]
    walk_at "ys"
    refine y_setF upd_same c_Portion n_Portion_now_ceiling lenP ?_
    rw [pfP_now_ceiling, upd_upd]
    walk_at "ys"
    refine y_setF upd_same c_Portion n_Portion_turns_used lenP ?_
    rw [show V.int 0 = V.int ((0 : Nat) : Int) from rfl, pfP_turns_used, upd_upd]
    exact q _ ((SameBut.of f1).trans (SameBut.put _ _ _)) upd_same
def sp_Shares_init (CS : Addr) : Sp := fun vs H Q _ => ∃ (x dx : Addr) (L : Nat), vs = [.ref x, .int L] ∧ H x = some (.ins CS dx []) ∧ 4 ≤ L ∧ L ≤ 60 ∧ ∀ pd al H', SameBut x H H' → H' x = some (.ins CS dx (fldS L pd 0 al)) → H pd = none → H al = none → H' pd = some (.dK []) → H' al = some (.lst []) → Q .non H'
theorem ok_Shares_init {f : Addr} {fd : FuncData} (T : Txt K mg) {CPortion CShares CGuestError CTooMuch : Addr} (W : Own K mg CPortion CShares CGuestError CTooMuch) (F : Fun K "__init__" "Shares.__init__" s_Shares_init f fd) : FnOk P w K mg base CX0 3 f fd ["self", "length"] (sp_Shares_init CShares) := by
  obtain ⟨f_need_length, fd_need_length, g_need_length, F_need_length⟩ := T.d_need_length
  have G_need_length := ok_need_length (P := P) (w := w) (base := base) T F_need_length
  have b_need_length := F_need_length.binds (ps := ["length"]) fun _ _ _ _ _ _ us hl => match us, hl with | [_], _ => rfl
  have scp := sc_Shares_init
  refine F.ok sc_Shares_init (fun vs H Q E h => ?_) (fun cdv A outer s H vs Q E hr h => ?_)
  · first | (obtain ⟨rfl, _⟩ := h; rfl) | (obtain ⟨_, rfl, _⟩ := h; rfl) | (obtain ⟨_, _, rfl, _⟩ := h; rfl) | (obtain ⟨_, _, _, rfl, _⟩ := h; rfl) | (obtain ⟨_, _, _, _, rfl, _⟩ := h; rfl) | (obtain ⟨_, _, _, _, _, rfl, _⟩ := h; rfl) | (obtain ⟨_, _, _, _, _, _, rfl, _⟩ := h; rfl) | (obtain ⟨_, _, _, _, _, _, _, rfl, _⟩ := h; rfl) | (obtain ⟨_, _, _, _, _, _, _, _, rfl, _⟩ := h; rfl) | (obtain ⟨_, _, _, _, _, _, _, _, _, rfl, _⟩ := h; rfl) | (obtain ⟨_, _, _, _, _, _, _, _, _, _, rfl, _⟩ := h; rfl) | (obtain ⟨_, _, _, _, _, _, _, _, _, _, _, rfl, _⟩ := h; rfl) | (obtain ⟨_, _, _, _, _, _, _, _, _, _, _, _, rfl, _⟩ := h; rfl) | (obtain ⟨_, _, _, _, _, _, _, _, _, _, _, _, _, rfl, _⟩ := h; rfl) | (obtain ⟨_, _, _, _, _, _, _, _, _, _, _, _, _, _, rfl, _⟩ := h; rfl) | (obtain ⟨_, _, _, _, _, _, _, _, _, _, _, _, _, _, _, rfl, _⟩ := h; rfl) | (obtain ⟨_, _, _, _, _, _, _, _, _, _, _, _, _, _, _, _, rfl, _⟩ := h; rfl) | (obtain ⟨_, _, _, _, _, _, _, _, _, _, _, _, _, _, _, _, _, rfl, _⟩ := h; rfl) | (obtain ⟨_, _, _, _, _, _, _, _, _, _, _, _, _, _, _, _, _, _, rfl, _⟩ := h; rfl) | (obtain ⟨_, _, _, _, _, _, _, _, _, _, _, _, _, _, _, _, _, _, _, rfl, _⟩ := h; rfl) | (obtain ⟨_, _, _, _, _, _, _, _, _, _, _, _, _, _, _, _, _, _, _, _, rfl, _⟩ := h; rfl) | (obtain ⟨_, _, _, _, _, _, _, _, _, _, _, _, _, _, _, _, _, _, _, _, _, rfl, _⟩ := h; rfl) | (obtain ⟨_, _, _, _, _, _, _, _, _, _, _, _, _, _, _, _, _, _, _, _, _, _, rfl, _⟩ := h; rfl) | (obtain ⟨_, _, _, _, _, _, _, _, _, _, _, _, _, _, _, _, _, _, _, _, _, _, _, rfl, _⟩ := h; rfl) | (obtain ⟨_, _, _, _, _, _, _, _, _, _, _, _, _, _, _, _, _, _, _, _, _, _, _, _, rfl, _⟩ := h; rfl) | (obtain ⟨_, _, _, _, _, _, _, _, _, _, _, _, _, _, _, _, _, _, _, _, _, _, _, _, _, rfl, _⟩ := h; rfl) | (obtain ⟨_, _, _, _, _, _, _, _, _, _, _, _, _, _, _, _, _, _, _, _, _, _, _, _, _, _, rfl, _⟩ := h; rfl) | (obtain ⟨_, _, _, _, _, _, _, _, _, _, _, _, _, _, _, _, _, _, _, _, _, _, _, _, _, _, _, rfl, _⟩ := h; rfl)
  · obtain ⟨x, dx, L, rfl, hx, h4, h60, q⟩ := h
    have hu := hu_of hr
    have hv := hr.units
    have c_Portion := W.c_Portion; have n_Portion_told_promise := W.n_Portion_told_promise; have n_Portion_told_ceiling := W.n_Portion_told_ceiling; have n_Portion_now_promise := W.n_Portion_now_promise; have n_Portion_now_ceiling := W.n_Portion_now_ceiling; have n_Portion_turns_used := W.n_Portion_turns_used; have c_Shares := W.c_Shares; have n_Shares_own_length := W.n_Shares_own_length; have n_Shares_portions := W.n_Shares_portions; have n_Shares_turns_passed := W.n_Shares_turns_passed; have n_Shares_all_dealt := W.n_Shares_all_dealt
    refine ⟨_, (pss_cons (ps_expr (pe_call (G_need_length.mono (by decide)) hr rfl g_need_length F_need_length.kp b_need_length .nil pass0 (pa_cons (pv 1) pa_nil)))
  (pss_cons (ps_fldK (K := K) (pv 0) (pv 1))
  (pss_cons (ps_fldK (K := K) (pv 0) pe_dnewK)
  (pss_cons (ps_fldK (K := K) (pv 0) pe_int)
  (pss_one (ps_fldK (K := K) (pv 0) (pe_lst pa_nil))))))), ?_⟩
    walk_at "ys"
    refine ⟨L, rfl, by omega, by omega, ?_⟩
    walk_at "ys"
    refine y_setF hx c_Shares n_Shares_own_length (by show 0 < 1000; decide) ?_
    rw [pf_0]
    walk_at "ys"
    intro pd npd
    have nxp : x ≠ pd := ne_of_none upd_same npd
    walk_at "ys"
    refine y_setF (fs := [(("own_length" : Str), .int L)]) (up_ne nxp upd_same) c_Shares n_Shares_portions (by show 1 < 1000; decide) ?_
    rw [pf_2 (by decide +kernel), pf_0]
    walk_at "ys"
    refine y_setF upd_same c_Shares n_Shares_turns_passed (by show 2 < 1000; decide) ?_
    rw [pf_2 (by decide +kernel), pf_2 (by decide +kernel), pf_0, upd_upd]
    walk_at "ys"
    refine ⟨sz_line (by simp), fun al nal => ?_⟩
    have nxa : x ≠ al := ne_of_none upd_same nal
    walk_at "ys"
    refine y_setF (fs := [(("own_length" : Str), .int L), (("portions" : Str), .ref pd), (("turns_passed" : Str), .int 0)]) (up_ne nxa upd_same) c_Shares n_Shares_all_dealt (by show 3 < 1000; decide) ?_
    rw [pf_2 (by decide +kernel), pf_2 (by decide +kernel), pf_2 (by decide +kernel), pf_0]
    have nap : pd ≠ al := fun z => by
      rw [z, upd_ne (Ne.symm nxa), upd_same] at nal
      cases nal
    have npdH : H pd = none := by
      rw [upd_ne (Ne.symm nxp)] at npd
      exact npd
    have nalH : H al = none := by
      rw [upd_ne (Ne.symm nxa), upd_ne (Ne.symm nap), upd_ne (Ne.symm nxa)] at nal
      exact nal
    refine q pd al _ (fun a u na h => ?_) upd_same npdH nalH ?_ ?_
    · rw [upd_ne na, upd_ne (ne_of_none h nalH), upd_ne na, upd_ne (ne_of_none h npdH), upd_ne na]
      exact h
    · rw [upd_ne (Ne.symm nxp), upd_ne nap, upd_ne (Ne.symm nxp), upd_same]
    · rw [upd_ne (Ne.symm nxa), upd_same]
theorem sum_ints (p : Nat → Nat) : ∀ n, ((List.range n).map fun j => (p j : Int)).sum = (Deal.sumTo p n : Nat)
  | 0 => by simp [Deal.sumTo]
  | n + 1 => by
    rw [List.range_succ, List.map_append, List.sum_append, sum_ints p n]
    show _ = ((Deal.sumTo p n + p n : Nat) : Int)
    simp
/-- a Shares at s -/
structure Sh (H : Hp) (CP CS s pd al : Addr) (L t : Nat) (nm : List Str) (pt : Nat → Addr) (tp tc np nc u : Nat → Nat) (d : List V) : Prop where
  ob : ∃ dx, H s = some (.ins CS dx (fldS L pd t al))
  pd : H pd = some (.dK ((List.range nm.length).map fun j => ((Sum.inr (nmF nm j) : Key), V.ref (pt j))))
  po : ∀ j, j < nm.length → ∃ dx, H (pt j) = some (.ins CP dx (fldP (tp j) (tc j) (np j) (nc j) (u j)))
  al : H al = some (.lst d)
  nd : nm.Nodup
  few : nm.length ≤ 6
  inj : ∀ i j, i < nm.length → j < nm.length → pt i = pt j → i = j
  ne : ∀ j, j < nm.length → pt j ≠ s
theorem Sh.same {H H' : Hp} {CP CS s pd al : Addr} {L t : Nat} {nm : List Str} {pt : Nat → Addr} {tp tc np nc u : Nat → Nat} {d : List V} (S : Sh H CP CS s pd al L t nm pt tp tc np nc u d) (e : Same H H') : Sh H' CP CS s pd al L t nm pt tp tc np nc u d :=
  ⟨S.ob.imp fun _ h => e _ _ h, e _ _ S.pd, fun j hj => (S.po j hj).imp fun _ h => e _ _ h, e _ _ S.al, S.nd, S.few, S.inj, S.ne⟩
def sp_Shares_need_guest (CS : Addr) : Sp := fun vs H Q _ => ∃ (s pd al dx : Addr) (L t : Nat) (kvs : List (Key × V)) (z : Str), vs = [.ref s, .str z] ∧ H s = some (.ins CS dx (fldS L pd t al)) ∧ H pd = some (.dK kvs) ∧ (valV kvs (Sum.inr z)).isSome = true ∧ Q .non H
theorem ok_Shares_need_guest {f : Addr} {fd : FuncData} (T : Txt K mg) {CPortion CShares CGuestError CTooMuch : Addr} (W : Own K mg CPortion CShares CGuestError CTooMuch) (F : Fun K "need_guest" "Shares.need_guest" s_Shares_need_guest f fd) : FnOk P w K mg base CX0 1 f fd ["self", "name"] (sp_Shares_need_guest CShares) := by
  have scp := sc_Shares_need_guest
  refine F.ok sc_Shares_need_guest (fun vs H Q E h => ?_) (fun cdv A outer s H vs Q E hr h => ?_)
  · first | (obtain ⟨rfl, _⟩ := h; rfl) | (obtain ⟨_, rfl, _⟩ := h; rfl) | (obtain ⟨_, _, rfl, _⟩ := h; rfl) | (obtain ⟨_, _, _, rfl, _⟩ := h; rfl) | (obtain ⟨_, _, _, _, rfl, _⟩ := h; rfl) | (obtain ⟨_, _, _, _, _, rfl, _⟩ := h; rfl) | (obtain ⟨_, _, _, _, _, _, rfl, _⟩ := h; rfl) | (obtain ⟨_, _, _, _, _, _, _, rfl, _⟩ := h; rfl) | (obtain ⟨_, _, _, _, _, _, _, _, rfl, _⟩ := h; rfl) | (obtain ⟨_, _, _, _, _, _, _, _, _, rfl, _⟩ := h; rfl) | (obtain ⟨_, _, _, _, _, _, _, _, _, _, rfl, _⟩ := h; rfl) | (obtain ⟨_, _, _, _, _, _, _, _, _, _, _, rfl, _⟩ := h; rfl) | (obtain ⟨_, _, _, _, _, _, _, _, _, _, _, _, rfl, _⟩ := h; rfl) | (obtain ⟨_, _, _, _, _, _, _, _, _, _, _, _, _, rfl, _⟩ := h; rfl) | (obtain ⟨_, _, _, _, _, _, _, _, _, _, _, _, _, _, rfl, _⟩ := h; rfl) | (obtain ⟨_, _, _, _, _, _, _, _, _, _, _, _, _, _, _, rfl, _⟩ := h; rfl) | (obtain ⟨_, _, _, _, _, _, _, _, _, _, _, _, _, _, _, _, rfl, _⟩ := h; rfl) | (obtain ⟨_, _, _, _, _, _, _, _, _, _, _, _, _, _, _, _, _, rfl, _⟩ := h; rfl) | (obtain ⟨_, _, _, _, _, _, _, _, _, _, _, _, _, _, _, _, _, _, rfl, _⟩ := h; rfl) | (obtain ⟨_, _, _, _, _, _, _, _, _, _, _, _, _, _, _, _, _, _, _, rfl, _⟩ := h; rfl) | (obtain ⟨_, _, _, _, _, _, _, _, _, _, _, _, _, _, _, _, _, _, _, _, rfl, _⟩ := h; rfl) | (obtain ⟨_, _, _, _, _, _, _, _, _, _, _, _, _, _, _, _, _, _, _, _, _, rfl, _⟩ := h; rfl) | (obtain ⟨_, _, _, _, _, _, _, _, _, _, _, _, _, _, _, _, _, _, _, _, _, _, rfl, _⟩ := h; rfl) | (obtain ⟨_, _, _, _, _, _, _, _, _, _, _, _, _, _, _, _, _, _, _, _, _, _, _, rfl, _⟩ := h; rfl) | (obtain ⟨_, _, _, _, _, _, _, _, _, _, _, _, _, _, _, _, _, _, _, _, _, _, _, _, rfl, _⟩ := h; rfl) | (obtain ⟨_, _, _, _, _, _, _, _, _, _, _, _, _, _, _, _, _, _, _, _, _, _, _, _, _, rfl, _⟩ := h; rfl) | (obtain ⟨_, _, _, _, _, _, _, _, _, _, _, _, _, _, _, _, _, _, _, _, _, _, _, _, _, _, rfl, _⟩ := h; rfl) | (obtain ⟨_, _, _, _, _, _, _, _, _, _, _, _, _, _, _, _, _, _, _, _, _, _, _, _, _, _, _, rfl, _⟩ := h; rfl)
  · obtain ⟨s0, pd, al, dx, L, t, kvs, z, rfl, hs, hp, hz, q⟩ := h
    have hu := hu_of hr
    have hv := hr.units
    have c_Portion := W.c_Portion; have n_Portion_told_promise := W.n_Portion_told_promise; have n_Portion_told_ceiling := W.n_Portion_told_ceiling; have n_Portion_now_promise := W.n_Portion_now_promise; have n_Portion_now_ceiling := W.n_Portion_now_ceiling; have n_Portion_turns_used := W.n_Portion_turns_used; have c_Shares := W.c_Shares; have n_Shares_own_length := W.n_Shares_own_length; have n_Shares_portions := W.n_Shares_portions; have n_Shares_turns_passed := W.n_Shares_turns_passed; have n_Shares_all_dealt := W.n_Shares_all_dealt
    refine ⟨_, (pss_one (ps_if (PW.pt (pw_or (pt_not (pt_val (pe_callB (call_isiY (K := K)) (by rfl) T.n_isinstance (by decide +kernel) (pa_cons (pv 1) (pa_cons (pe_bty (T := "str") T.n_str (by decide +kernel)) pa_nil))))) (pw_or1 (pt_cmpR (op_notInK (K := K) hu) (pv 1) (pe_fldK (K := K) (pv 0)) (by rfl)))))
  (pss_one ps_never)
  pss_nil)), ?_⟩
    walk_at "ys"
    refine y_niK hp ?_
    rw [hz]
    walk_at "ys"
    exact q
def sp_Shares_promised (CP CS : Addr) : Sp := fun vs H Q _ => ∃ (s pd al : Addr) (L t : Nat) (nm : List Str) (pt : Nat → Addr) (tp tc np nc u : Nat → Nat) (d : List V), vs = [.ref s] ∧ Sh H CP CS s pd al L t nm pt tp tc np nc u d ∧ ∀ H', Same H H' → Q (.int (Deal.sumTo tp nm.length : Nat)) H'
theorem ok_Shares_promised {f : Addr} {fd : FuncData} (T : Txt K mg) {CPortion CShares CGuestError CTooMuch : Addr} (W : Own K mg CPortion CShares CGuestError CTooMuch) (F : Fun K "promised" "Shares.promised" s_Shares_promised f fd) : FnOk P w K mg base CX0 1 f fd ["self"] (sp_Shares_promised CPortion CShares) := by
  have scp := sc_Shares_promised
  refine F.ok sc_Shares_promised (fun vs H Q E h => ?_) (fun cdv A outer s H vs Q E hr h => ?_)
  · first | (obtain ⟨rfl, _⟩ := h; rfl) | (obtain ⟨_, rfl, _⟩ := h; rfl) | (obtain ⟨_, _, rfl, _⟩ := h; rfl) | (obtain ⟨_, _, _, rfl, _⟩ := h; rfl) | (obtain ⟨_, _, _, _, rfl, _⟩ := h; rfl) | (obtain ⟨_, _, _, _, _, rfl, _⟩ := h; rfl) | (obtain ⟨_, _, _, _, _, _, rfl, _⟩ := h; rfl) | (obtain ⟨_, _, _, _, _, _, _, rfl, _⟩ := h; rfl) | (obtain ⟨_, _, _, _, _, _, _, _, rfl, _⟩ := h; rfl) | (obtain ⟨_, _, _, _, _, _, _, _, _, rfl, _⟩ := h; rfl) | (obtain ⟨_, _, _, _, _, _, _, _, _, _, rfl, _⟩ := h; rfl) | (obtain ⟨_, _, _, _, _, _, _, _, _, _, _, rfl, _⟩ := h; rfl) | (obtain ⟨_, _, _, _, _, _, _, _, _, _, _, _, rfl, _⟩ := h; rfl) | (obtain ⟨_, _, _, _, _, _, _, _, _, _, _, _, _, rfl, _⟩ := h; rfl) | (obtain ⟨_, _, _, _, _, _, _, _, _, _, _, _, _, _, rfl, _⟩ := h; rfl) | (obtain ⟨_, _, _, _, _, _, _, _, _, _, _, _, _, _, _, rfl, _⟩ := h; rfl) | (obtain ⟨_, _, _, _, _, _, _, _, _, _, _, _, _, _, _, _, rfl, _⟩ := h; rfl) | (obtain ⟨_, _, _, _, _, _, _, _, _, _, _, _, _, _, _, _, _, rfl, _⟩ := h; rfl) | (obtain ⟨_, _, _, _, _, _, _, _, _, _, _, _, _, _, _, _, _, _, rfl, _⟩ := h; rfl) | (obtain ⟨_, _, _, _, _, _, _, _, _, _, _, _, _, _, _, _, _, _, _, rfl, _⟩ := h; rfl) | (obtain ⟨_, _, _, _, _, _, _, _, _, _, _, _, _, _, _, _, _, _, _, _, rfl, _⟩ := h; rfl) | (obtain ⟨_, _, _, _, _, _, _, _, _, _, _, _, _, _, _, _, _, _, _, _, _, rfl, _⟩ := h; rfl) | (obtain ⟨_, _, _, _, _, _, _, _, _, _, _, _, _, _, _, _, _, _, _, _, _, _, rfl, _⟩ := h; rfl) | (obtain ⟨_, _, _, _, _, _, _, _, _, _, _, _, _, _, _, _, _, _, _, _, _, _, _, rfl, _⟩ := h; rfl) | (obtain ⟨_, _, _, _, _, _, _, _, _, _, _, _, _, _, _, _, _, _, _, _, _, _, _, _, rfl, _⟩ := h; rfl) | (obtain ⟨_, _, _, _, _, _, _, _, _, _, _, _, _, _, _, _, _, _, _, _, _, _, _, _, _, rfl, _⟩ := h; rfl) | (obtain ⟨_, _, _, _, _, _, _, _, _, _, _, _, _, _, _, _, _, _, _, _, _, _, _, _, _, _, rfl, _⟩ := h; rfl) | (obtain ⟨_, _, _, _, _, _, _, _, _, _, _, _, _, _, _, _, _, _, _, _, _, _, _, _, _, _, _, rfl, _⟩ := h; rfl)
  · obtain ⟨s0, pd, al, L, t, nm, pt, tp, tc, np, nc, u, d, rfl, S, q⟩ := h
    have hu := hu_of hr
    have hv := hr.units
    have c_Portion := W.c_Portion; have n_Portion_told_promise := W.n_Portion_told_promise; have n_Portion_told_ceiling := W.n_Portion_told_ceiling; have n_Portion_now_promise := W.n_Portion_now_promise; have n_Portion_now_ceiling := W.n_Portion_now_ceiling; have n_Portion_turns_used := W.n_Portion_turns_used; have c_Shares := W.c_Shares; have n_Shares_own_length := W.n_Shares_own_length; have n_Shares_portions := W.n_Shares_portions; have n_Shares_turns_passed := W.n_Shares_turns_passed; have n_Shares_all_dealt := W.n_Shares_all_dealt
    obtain ⟨dx, hs⟩ := S.ob
    refine ⟨_, (pss_one (ps_lock (ps_ret (pe_callB (call_sumK (K := K) rfl) (by rfl) T.n_sum (by decide +kernel) (pa_cons (pe_lc (own := [("portion", 1)]) (g := gName 1) (tt := tYes) rfl scp.nd (pi_values (pe_fldK (K := K) (pv 0))) (blkOk_by (own := [("portion", 1)]) (N := ["self", "portion"]) (sc := defScope s_Shares_promised) (by decide +kernel)) (fun _ _ _ _ _ => (pg_name (i := 1) scp.nd rfl (by first | exact Or.inl rfl | exact Or.inr rfl))) (fun _ _ _ _ _ => pts_nil) (fun _ _ _ _ _ => (pe_fldK (K := K) (pv 1)))) pa_nil))))), ?_⟩
    refine y_lock S.pd True.intro (fun od => ?_)
    have fl : ∀ a u, a ≠ pd → H a = some u → upd H pd (.frz od (.dK ((List.range nm.length).map fun j => ((Sum.inr (nmF nm j) : Key), V.ref (pt j))))) a = some u := fun a u n h => by rw [upd_ne n]; exact h
    have hs1 := fl _ _ (ne_of hs S.pd (fun z => by cases z)) hs
    have hp1 : upd H pd (.frz od (.dK ((List.range nm.length).map fun j => ((Sum.inr (nmF nm j) : Key), V.ref (pt j))))) pd = some (.frz od (.dK ((List.range nm.length).map fun j => ((Sum.inr (nmF nm j) : Key), V.ref (pt j))))) := upd_same
    have po1 : ∀ j, j < nm.length → ∃ dx, upd H pd (.frz od (.dK ((List.range nm.length).map fun j => ((Sum.inr (nmF nm j) : Key), V.ref (pt j))))) (pt j) = some (.ins CPortion dx (fldP (tp j) (tc j) (np j) (nc j) (u j))) := fun j hj => (S.po j hj).imp fun dx h => fl _ _ (ne_of h S.pd (fun z => by cases z)) h
    have fin : ∀ H', Same (upd H pd (.frz od (.dK ((List.range nm.length).map fun j => ((Sum.inr (nmF nm j) : Key), V.ref (pt j)))))) H' → Same H (upd H' pd (.dK ((List.range nm.length).map fun j => ((Sum.inr (nmF nm j) : Key), V.ref (pt j))))) := fun H' e => lock_same S.pd e
    generalize upd H pd (.frz od (.dK ((List.range nm.length).map fun j => ((Sum.inr (nmF nm j) : Key), V.ref (pt j))))) = H1 at *
    walk_at "ys"
    intro D nD
    refine lc_map (fun j => .int (tp j)) walk_values nD (sz_lt (by rw [List.length_map, List.length_range]; have := S.few; omega)) (fun H' e' => e' _ _ hp1) (fun i x H2 H3 Nx hi e2 hY k => ?_) (fun H2 e2 hD => ?_)
    · obtain ⟨rfl, kk, hkv⟩ := hY
      rw [List.length_map, List.length_range] at hi
      rw [List.getElem?_map, List.getElem?_range hi] at hkv
      have hkv := Option.some.inj hkv
      obtain rfl : V.ref (pt i) = x := (Prod.mk.inj hkv).2
      obtain ⟨dx2, hpi⟩ := po1 i hi
      have hpi2 := e2 _ _ hpi
      walk_at "ys"
      exact k _ _ rfl (Same.refl _)
    · rw [List.length_map, List.length_range] at hD
      have hD2 : H2 D = some (.lst (((List.range nm.length).map fun j => (tp j : Int)).map V.int)) := by
        rw [hD, List.map_map]
        rfl
      walk_at "ys"
      refine y_sum hD2 ?_
      rw [sum_ints]
      exact ⟨e2 _ _ hp1, q _ (fin _ e2)⟩
theorem binds_room {f : Addr} {fd : FuncData} (F : FunD K "need_room_for" "Shares.need_room_for" (defArgs s_Shares_need_room_for) (defBody s_Shares_need_room_for) (defScope s_Shares_need_room_for) [] [("but", .int 0)] f fd) : ∃ ds, Vals [V.int 0] ds ∧ Binds K fd ["self", "promise", "but"] ds := by
  refine F.binds0 (ps := ["self", "promise", "but"]) 2 (fun z => nomatch z) rfl (fun D doc pm an cdv ct us ks l1 l2 => ?_)
  match us, l1 with
  | [a, b], _ => match ks, l2 with
    | [c], _ => exact ⟨_, _, _, _, _, _, rfl, rfl, rfl⟩
theorem kb_room {f : Addr} {fd : FuncData} (F : FunD K "need_room_for" "Shares.need_room_for" (defArgs s_Shares_need_room_for) (defBody s_Shares_need_room_for) (defScope s_Shares_need_room_for) [] [("but", .int 0)] f fd) : KBn K fd ["self", "promise", "but"] 2 ["but"] (fun us ws => us ++ ws) (fun vs zs => vs ++ zs) := by
  obtain ⟨⟨oc, od, dV, kV, doc, pm, an, cdv, ct, osl, rfl, lk, hc, hd, hk⟩, kp⟩ := F
  rcases hd with ⟨_, rfl⟩ | ⟨h, _⟩
  · refine ⟨fun s us ws X l1 l2 => .of_eq ?_, fun r1 r2 => r1.append r2⟩
    match us, l1 with
    | [a, b], _ => match ws, l2 with
      | [c], _ => rfl
  · exact absurd rfl h
def sp_TooMuch_init (K : PySem.W.Frag) (C : Addr) : Sp := fun vs H Q _ => ∃ (a : Addr) (n : Int), vs = [.ref a, .int n] ∧ H a = some (exo a C none) ∧ ∀ dx, H dx = none → dx ≠ a → Q .non (upd (upd H dx (exd dx [(("many" : Str), .int n)])) a (exo a C (some dx)))
theorem ok_TooMuch_init {f : Addr} {fd : FuncData} (T : Txt K mg) {CPortion CShares CGuestError CTooMuch : Addr} (W : Own K mg CPortion CShares CGuestError CTooMuch) (F : Fun K "__init__" "TooMuch.__init__" s_TooMuch_init f fd) : FnOk P w K mg base CX0 1 f fd ["self", "many"] (sp_TooMuch_init K CTooMuch) := by
  have scp := sc_TooMuch_init
  refine F.ok sc_TooMuch_init (fun vs H Q E h => ?_) (fun cdv A outer s H vs Q E hr h => ?_)
  · first | (obtain ⟨rfl, _⟩ := h; rfl) | (obtain ⟨_, rfl, _⟩ := h; rfl) | (obtain ⟨_, _, rfl, _⟩ := h; rfl) | (obtain ⟨_, _, _, rfl, _⟩ := h; rfl) | (obtain ⟨_, _, _, _, rfl, _⟩ := h; rfl) | (obtain ⟨_, _, _, _, _, rfl, _⟩ := h; rfl) | (obtain ⟨_, _, _, _, _, _, rfl, _⟩ := h; rfl) | (obtain ⟨_, _, _, _, _, _, _, rfl, _⟩ := h; rfl) | (obtain ⟨_, _, _, _, _, _, _, _, rfl, _⟩ := h; rfl) | (obtain ⟨_, _, _, _, _, _, _, _, _, rfl, _⟩ := h; rfl) | (obtain ⟨_, _, _, _, _, _, _, _, _, _, rfl, _⟩ := h; rfl) | (obtain ⟨_, _, _, _, _, _, _, _, _, _, _, rfl, _⟩ := h; rfl) | (obtain ⟨_, _, _, _, _, _, _, _, _, _, _, _, rfl, _⟩ := h; rfl) | (obtain ⟨_, _, _, _, _, _, _, _, _, _, _, _, _, rfl, _⟩ := h; rfl) | (obtain ⟨_, _, _, _, _, _, _, _, _, _, _, _, _, _, rfl, _⟩ := h; rfl) | (obtain ⟨_, _, _, _, _, _, _, _, _, _, _, _, _, _, _, rfl, _⟩ := h; rfl) | (obtain ⟨_, _, _, _, _, _, _, _, _, _, _, _, _, _, _, _, rfl, _⟩ := h; rfl) | (obtain ⟨_, _, _, _, _, _, _, _, _, _, _, _, _, _, _, _, _, rfl, _⟩ := h; rfl) | (obtain ⟨_, _, _, _, _, _, _, _, _, _, _, _, _, _, _, _, _, _, rfl, _⟩ := h; rfl) | (obtain ⟨_, _, _, _, _, _, _, _, _, _, _, _, _, _, _, _, _, _, _, rfl, _⟩ := h; rfl) | (obtain ⟨_, _, _, _, _, _, _, _, _, _, _, _, _, _, _, _, _, _, _, _, rfl, _⟩ := h; rfl) | (obtain ⟨_, _, _, _, _, _, _, _, _, _, _, _, _, _, _, _, _, _, _, _, _, rfl, _⟩ := h; rfl) | (obtain ⟨_, _, _, _, _, _, _, _, _, _, _, _, _, _, _, _, _, _, _, _, _, _, rfl, _⟩ := h; rfl) | (obtain ⟨_, _, _, _, _, _, _, _, _, _, _, _, _, _, _, _, _, _, _, _, _, _, _, rfl, _⟩ := h; rfl) | (obtain ⟨_, _, _, _, _, _, _, _, _, _, _, _, _, _, _, _, _, _, _, _, _, _, _, _, rfl, _⟩ := h; rfl) | (obtain ⟨_, _, _, _, _, _, _, _, _, _, _, _, _, _, _, _, _, _, _, _, _, _, _, _, _, rfl, _⟩ := h; rfl) | (obtain ⟨_, _, _, _, _, _, _, _, _, _, _, _, _, _, _, _, _, _, _, _, _, _, _, _, _, _, rfl, _⟩ := h; rfl) | (obtain ⟨_, _, _, _, _, _, _, _, _, _, _, _, _, _, _, _, _, _, _, _, _, _, _, _, _, _, _, rfl, _⟩ := h; rfl)
  · obtain ⟨a, n, rfl, ha, q⟩ := h
    have hu := hu_of hr
    have hv := hr.units
    refine ⟨_, (pss_cons (ps_expr (pe_obinit W.o_GuestError W.g_GuestError (pa_cons (pv 0) (pa_cons pe_str pa_nil))))
  (pss_one (ps_ost (pv 0) (pv 1)))), ?_⟩
    walk_at "ys"
    refine y_veiA (by simp) W.e_TooMuch ha ?_
    walk_at "ys"
    refine y_ostN W.e_TooMuch W.n_TooMuch_many ha (fun dx nd ne => ?_)
    exact q dx nd ne
def sp_Shares_need_room_for (CP CS CT : Addr) : Sp := fun vs H Q E => ∃ (s pd al : Addr) (L t : Nat) (nm : List Str) (pt : Nat → Addr) (tp tc np nc u : Nat → Nat) (d : List V) (p b : Nat), vs = [.ref s, .int p, .int b] ∧ Sh H CP CS s pd al L t nm pt tp tc np nc u d ∧ b ≤ Deal.sumTo tp nm.length + p ∧ (Deal.sumTo tp nm.length + p ≤ L + b → ∀ H', Same H H' → Q .non H') ∧ (L + b < Deal.sumTo tp nm.length + p → ∀ dd H', Same H H' → E (.ref CT) (some dd) H')
theorem ok_Shares_need_room_for {f : Addr} {fd : FuncData} (T : Txt K mg) {CPortion CShares CGuestError CTooMuch : Addr} (W : Own K mg CPortion CShares CGuestError CTooMuch) (F : FunD K "need_room_for" "Shares.need_room_for" (defArgs s_Shares_need_room_for) (defBody s_Shares_need_room_for) (defScope s_Shares_need_room_for) [] [("but", .int 0)] f fd) : FnOk P w K mg base (L2.CX P w) 3 f fd ["self", "promise", "but"] (sp_Shares_need_room_for CPortion CShares CTooMuch) := by
  obtain ⟨f_TooMuch_init, fd_TooMuch_init, F_TooMuch_init, m_TooMuch_init⟩ := W.m_TooMuch_init
  have G_TooMuch_init := ok_TooMuch_init (P := P) (w := w) (base := base) T W F_TooMuch_init
  have b_TooMuch_init := F_TooMuch_init.binds (ps := ["self", "many"]) fun _ _ _ _ _ _ us hl => match us, hl with | [_, _], _ => rfl
  obtain ⟨f_Shares_promised, fd_Shares_promised, F_Shares_promised, m_Shares_promised⟩ := W.m_Shares_promised
  have G_Shares_promised := ok_Shares_promised (P := P) (w := w) (base := base) T W F_Shares_promised
  have b_Shares_promised := F_Shares_promised.binds (ps := ["self"]) fun _ _ _ _ _ _ us hl => match us, hl with | [_], _ => rfl
  have scp := sc_Shares_need_room_for
  refine F.ok sc_Shares_need_room_for (fun vs H Q E h => ?_) (fun cdv A outer s H vs Q E hr h => ?_)
  · first | (obtain ⟨rfl, _⟩ := h; rfl) | (obtain ⟨_, rfl, _⟩ := h; rfl) | (obtain ⟨_, _, rfl, _⟩ := h; rfl) | (obtain ⟨_, _, _, rfl, _⟩ := h; rfl) | (obtain ⟨_, _, _, _, rfl, _⟩ := h; rfl) | (obtain ⟨_, _, _, _, _, rfl, _⟩ := h; rfl) | (obtain ⟨_, _, _, _, _, _, rfl, _⟩ := h; rfl) | (obtain ⟨_, _, _, _, _, _, _, rfl, _⟩ := h; rfl) | (obtain ⟨_, _, _, _, _, _, _, _, rfl, _⟩ := h; rfl) | (obtain ⟨_, _, _, _, _, _, _, _, _, rfl, _⟩ := h; rfl) | (obtain ⟨_, _, _, _, _, _, _, _, _, _, rfl, _⟩ := h; rfl) | (obtain ⟨_, _, _, _, _, _, _, _, _, _, _, rfl, _⟩ := h; rfl) | (obtain ⟨_, _, _, _, _, _, _, _, _, _, _, _, rfl, _⟩ := h; rfl) | (obtain ⟨_, _, _, _, _, _, _, _, _, _, _, _, _, rfl, _⟩ := h; rfl) | (obtain ⟨_, _, _, _, _, _, _, _, _, _, _, _, _, _, rfl, _⟩ := h; rfl) | (obtain ⟨_, _, _, _, _, _, _, _, _, _, _, _, _, _, _, rfl, _⟩ := h; rfl) | (obtain ⟨_, _, _, _, _, _, _, _, _, _, _, _, _, _, _, _, rfl, _⟩ := h; rfl) | (obtain ⟨_, _, _, _, _, _, _, _, _, _, _, _, _, _, _, _, _, rfl, _⟩ := h; rfl) | (obtain ⟨_, _, _, _, _, _, _, _, _, _, _, _, _, _, _, _, _, _, rfl, _⟩ := h; rfl) | (obtain ⟨_, _, _, _, _, _, _, _, _, _, _, _, _, _, _, _, _, _, _, rfl, _⟩ := h; rfl) | (obtain ⟨_, _, _, _, _, _, _, _, _, _, _, _, _, _, _, _, _, _, _, _, rfl, _⟩ := h; rfl) | (obtain ⟨_, _, _, _, _, _, _, _, _, _, _, _, _, _, _, _, _, _, _, _, _, rfl, _⟩ := h; rfl) | (obtain ⟨_, _, _, _, _, _, _, _, _, _, _, _, _, _, _, _, _, _, _, _, _, _, rfl, _⟩ := h; rfl) | (obtain ⟨_, _, _, _, _, _, _, _, _, _, _, _, _, _, _, _, _, _, _, _, _, _, _, rfl, _⟩ := h; rfl) | (obtain ⟨_, _, _, _, _, _, _, _, _, _, _, _, _, _, _, _, _, _, _, _, _, _, _, _, rfl, _⟩ := h; rfl) | (obtain ⟨_, _, _, _, _, _, _, _, _, _, _, _, _, _, _, _, _, _, _, _, _, _, _, _, _, rfl, _⟩ := h; rfl) | (obtain ⟨_, _, _, _, _, _, _, _, _, _, _, _, _, _, _, _, _, _, _, _, _, _, _, _, _, _, rfl, _⟩ := h; rfl) | (obtain ⟨_, _, _, _, _, _, _, _, _, _, _, _, _, _, _, _, _, _, _, _, _, _, _, _, _, _, _, rfl, _⟩ := h; rfl)
  · obtain ⟨s0, pd, al, L, t, nm, pt, tp, tc, np, nc, u, d, p, b, rfl, S, hb, q, qE⟩ := h
    have hu := hu_of hr
    have hv := hr.units
    have c_Portion := W.c_Portion; have n_Portion_told_promise := W.n_Portion_told_promise; have n_Portion_told_ceiling := W.n_Portion_told_ceiling; have n_Portion_now_promise := W.n_Portion_now_promise; have n_Portion_now_ceiling := W.n_Portion_now_ceiling; have n_Portion_turns_used := W.n_Portion_turns_used; have c_Shares := W.c_Shares; have n_Shares_own_length := W.n_Shares_own_length; have n_Shares_portions := W.n_Shares_portions; have n_Shares_turns_passed := W.n_Shares_turns_passed; have n_Shares_all_dealt := W.n_Shares_all_dealt
    obtain ⟨dx, hs⟩ := S.ob
    refine ⟨_, (pss_cons (ps_set (i := 3) scp.nd rfl (by first | exact Or.inl rfl | exact Or.inr rfl) (pe_op op_plus (pe_op op_minus (pe_meth0 (pv 0) W.c_Shares m_Shares_promised (G_Shares_promised.mono (by decide)) hr b_Shares_promised .nil pass0) (pv 2)) (pv 1)))
  (pss_one (ps_if (pt_cmpR op_gtI (pv 3) (pe_fldK (K := K) (pv 0)) (nomark _))
  (pss_one (ps_raise rfl (takes_of rfl rfl rfl rfl) (pmk_oex W.e_TooMuch m_TooMuch_init.1 m_TooMuch_init.2 G_TooMuch_init (hr.mono (by decide)) b_TooMuch_init .nil pass0 rfl W.g_TooMuch (pa_cons (pv 3) pa_nil))))
  pss_nil))), ?_⟩
    walk_at "ys"
    refine ⟨s0, pd, al, L, t, nm, pt, tp, tc, np, nc, u, d, rfl, S, fun H1 e1 => ?_⟩
    have hs1 := e1 _ _ hs
    walk_at "ys"
    refine y_d2 (fun g => ?_) (fun g => ?_)
    · refine y_mkO ?_
      walk_at "ys"
      refine ⟨by simp, fun a na => ?_⟩
      exact ⟨a, _, rfl, upd_same, y_made1 na fun dd H' e2 _ _ => qE (by omega) dd _ (e1.trans e2)⟩
    · walk_at "ys"
      exact q (by omega) _ e1
end
end K61
namespace K61
open PySem L2 Y LamX
local macro_rules | `(tactic| walk_at "lk") => `(tactic| with_reducible first | exact lkP_told_promise | exact lkP_told_ceiling | exact lkP_now_promise | exact lkP_now_ceiling | exact lkP_turns_used | exact lkS_own_length | exact lkS_portions | exact lkS_turns_passed | exact lkS_all_dealt | exact mnP_begin | exact mnS_need_guest | exact mnS_need_room_for | exact mnS_come | exact mnS_promised_one | exact mnS_free_one | exact mnS_deal | exact mnS_promised | exact mnS_change | exact mnS_length | exact mnS_names | exact mnS_counting)
local macro_rules | `(tactic| walk_at "ln") => `(tactic| first | exact lenP | exact lenS | (simp; done) | (show 0 < 1000; decide) | (show 1 < 1000; decide) | (show 2 < 1000; decide) | (show 3 < 1000; decide) | (show 4 < 1000; decide))

def pdOf (nm : List Str) (pt : Nat → Addr) : List (Key × V) := (List.range nm.length).map fun j => ((Sum.inr (nmF nm j) : Key), V.ref (pt j))
theorem pdOf_len (nm : List Str) (pt : Nat → Addr) : (pdOf nm pt).length = nm.length := by
  unfold pdOf
  rw [List.length_map, List.length_range]
theorem pdOf_val {nm : List Str} {pt : Nat → Addr} (nd : nm.Nodup) {i : Nat} (hi : i < nm.length) : valV (pdOf nm pt) (Sum.inr (nmF nm i)) = some (.ref (pt i)) := by
  have := valV_map_range nd (fun j => V.ref (pt j)) hi nm.length (Nat.le_refl _)
  rw [if_pos hi] at this
  exact this
theorem pdOf_none {nm : List Str} {pt : Nat → Addr} {z : Str} (h : z ∉ nm) : valV (pdOf nm pt) (Sum.inr z) = none := by
  unfold valV pdOf
  rw [Option.map_eq_none_iff, List.find?_eq_none]
  intro kv hkv
  obtain ⟨j, hj, rfl⟩ := List.mem_map.mp hkv
  simp only [decide_eq_true_eq]
  exact fun e => h (by rw [← Sum.inr.inj e]; exact List.mem_of_getElem? (nmF_at (List.mem_range.mp hj)))
theorem nmF_snoc {nm : List Str} (z : Str) {i : Nat} (h : i < nm.length) : nmF (nm ++ [z]) i = nmF nm i := by
  refine nmF_of ?_
  rw [List.getElem?_append_left h]
  exact nmF_at h
theorem nmF_last (nm : List Str) (z : Str) : nmF (nm ++ [z]) nm.length = z := nmF_of (by simp)
theorem pdOf_snoc (nm : List Str) (pt : Nat → Addr) (z : Str) (x : Addr) : pdOf nm pt ++ [((Sum.inr z : Key), V.ref x)] = pdOf (nm ++ [z]) (fun j => if j = nm.length then x else pt j) := by
  unfold pdOf
  rw [List.length_append, List.length_singleton, List.range_succ, List.map_append]
  congr 1
  · refine List.map_congr_left fun j hj => ?_
    have hj := List.mem_range.mp hj
    show _ = ((Sum.inr (nmF (nm ++ [z]) j) : Key), V.ref (if j = nm.length then x else pt j))
    rw [nmF_snoc z hj, if_neg (by omega)]
  · show _ = [((Sum.inr (nmF (nm ++ [z]) nm.length) : Key), V.ref (if nm.length = nm.length then x else pt nm.length))]
    rw [nmF_last, if_pos rfl]
theorem pd_pair {nm : List Str} {pt : Nat → Addr} {i : Nat} {a b : V} (h1 : (pdOf nm pt)[i]?.map (fun kv => kV kv.1) = some a) (h2 : (pdOf nm pt)[i]?.map Prod.snd = some b) : i < nm.length ∧ a = .str (nmF nm i) ∧ b = .ref (pt i) := by
  by_cases hi : i < nm.length
  · unfold pdOf at h1 h2
    rw [List.getElem?_map, List.getElem?_range hi] at h1 h2
    exact ⟨hi, (Option.some.inj h1).symm, (Option.some.inj h2).symm⟩
  · rw [List.getElem?_eq_none (by rw [pdOf_len]; omega)] at h1
    cases h1
def onR (nm rs : List Str) (f : Nat → Nat) : Nat → Nat := fun j => if nmF nm j ∈ rs then f j else 0
theorem onR_in {nm rs : List Str} {f : Nat → Nat} {j : Nat} (h : nmF nm j ∈ rs) : onR nm rs f j = f j := if_pos h
theorem onR_out {nm rs : List Str} {f : Nat → Nat} {j : Nat} (h : ¬ nmF nm j ∈ rs) : onR nm rs f j = 0 := if_neg h
theorem onR_le {nm rs : List Str} {f : Nat → Nat} {j : Nat} : onR nm rs f j ≤ f j := by
  unfold onR
  split
  · exact Nat.le_refl _
  · exact Nat.zero_le _
theorem inV_dec (z : Str) (rs : List Str) : inV (.str z) (rs.map V.str) = decide (z ∈ rs) := by
  unfold inV
  induction rs with
  | nil => simp
  | cons y rs ih =>
    rw [List.map_cons, List.any_cons, ih, eqV_str]
    by_cases e : y = z
    · simp [e]
    · have e' : ¬ z = y := fun x => e x.symm
      simp [e, e']
theorem y_inDec {K : PySem.W.Frag} {H : Hp} {Q : VK} {a : Addr} {z : Str} {rs : List Str} (h : H a = some (.lst (rs.map V.str))) (q : Q (.bl (decide (z ∈ rs))) H) : rInA K (.str z) (.ref a) H Q := y_inL h rfl (flat_strs rs) (by rw [inV_dec]; exact q)
section
variable {P : Program} {w : World} {K : PySem.W.Frag} {mg : Str → Option Value} {base : Heap}
def sp_need_share (K : PySem.W.Frag) : Sp := fun vs H Q _ => ∃ L p c : Nat, vs = [.int L, .int p, .int c] ∧ p ≤ L ∧ p ≤ c ∧ 1 ≤ c ∧ c ≤ L ∧ Q .non H
theorem ok_need_share {f : Addr} {fd : FuncData} (T : Txt K mg) (F : Fun K "need_share" "need_share" s_need_share f fd) : FnOk P w K mg base CX0 2 f fd ["length", "promise", "ceiling"] (sp_need_share K) := by
  obtain ⟨f_is_whole, fd_is_whole, g_is_whole, F_is_whole⟩ := T.d_is_whole
  have G_is_whole := ok_is_whole (P := P) (w := w) (base := base) T F_is_whole
  have b_is_whole := F_is_whole.binds (ps := ["thing", "low", "high"]) fun _ _ _ _ _ _ us hl => match us, hl with | [_, _, _], _ => rfl
  have scp := sc_need_share
  refine F.ok sc_need_share (fun vs H Q E h => ?_) (fun cdv A outer s H vs Q E hr h => ?_)
  · first | (obtain ⟨rfl, _⟩ := h; rfl) | (obtain ⟨_, rfl, _⟩ := h; rfl) | (obtain ⟨_, _, rfl, _⟩ := h; rfl) | (obtain ⟨_, _, _, rfl, _⟩ := h; rfl) | (obtain ⟨_, _, _, _, rfl, _⟩ := h; rfl) | (obtain ⟨_, _, _, _, _, rfl, _⟩ := h; rfl) | (obtain ⟨_, _, _, _, _, _, rfl, _⟩ := h; rfl) | (obtain ⟨_, _, _, _, _, _, _, rfl, _⟩ := h; rfl) | (obtain ⟨_, _, _, _, _, _, _, _, rfl, _⟩ := h; rfl) | (obtain ⟨_, _, _, _, _, _, _, _, _, rfl, _⟩ := h; rfl) | (obtain ⟨_, _, _, _, _, _, _, _, _, _, rfl, _⟩ := h; rfl) | (obtain ⟨_, _, _, _, _, _, _, _, _, _, _, rfl, _⟩ := h; rfl) | (obtain ⟨_, _, _, _, _, _, _, _, _, _, _, _, rfl, _⟩ := h; rfl) | (obtain ⟨_, _, _, _, _, _, _, _, _, _, _, _, _, rfl, _⟩ := h; rfl) | (obtain ⟨_, _, _, _, _, _, _, _, _, _, _, _, _, _, rfl, _⟩ := h; rfl) | (obtain ⟨_, _, _, _, _, _, _, _, _, _, _, _, _, _, _, rfl, _⟩ := h; rfl) | (obtain ⟨_, _, _, _, _, _, _, _, _, _, _, _, _, _, _, _, rfl, _⟩ := h; rfl) | (obtain ⟨_, _, _, _, _, _, _, _, _, _, _, _, _, _, _, _, _, rfl, _⟩ := h; rfl) | (obtain ⟨_, _, _, _, _, _, _, _, _, _, _, _, _, _, _, _, _, _, rfl, _⟩ := h; rfl) | (obtain ⟨_, _, _, _, _, _, _, _, _, _, _, _, _, _, _, _, _, _, _, rfl, _⟩ := h; rfl) | (obtain ⟨_, _, _, _, _, _, _, _, _, _, _, _, _, _, _, _, _, _, _, _, rfl, _⟩ := h; rfl) | (obtain ⟨_, _, _, _, _, _, _, _, _, _, _, _, _, _, _, _, _, _, _, _, _, rfl, _⟩ := h; rfl) | (obtain ⟨_, _, _, _, _, _, _, _, _, _, _, _, _, _, _, _, _, _, _, _, _, _, rfl, _⟩ := h; rfl) | (obtain ⟨_, _, _, _, _, _, _, _, _, _, _, _, _, _, _, _, _, _, _, _, _, _, _, rfl, _⟩ := h; rfl) | (obtain ⟨_, _, _, _, _, _, _, _, _, _, _, _, _, _, _, _, _, _, _, _, _, _, _, _, rfl, _⟩ := h; rfl) | (obtain ⟨_, _, _, _, _, _, _, _, _, _, _, _, _, _, _, _, _, _, _, _, _, _, _, _, _, rfl, _⟩ := h; rfl) | (obtain ⟨_, _, _, _, _, _, _, _, _, _, _, _, _, _, _, _, _, _, _, _, _, _, _, _, _, _, rfl, _⟩ := h; rfl) | (obtain ⟨_, _, _, _, _, _, _, _, _, _, _, _, _, _, _, _, _, _, _, _, _, _, _, _, _, _, _, rfl, _⟩ := h; rfl)
  · obtain ⟨L, p, c, rfl, h1, h2, h3, h4, q⟩ := h
    have hu := hu_of hr
    have hv := hr.units
    refine ⟨_, (pss_cons (ps_if (pt_not (pt_val (pe_call (G_is_whole.mono (by decide)) hr rfl g_is_whole F_is_whole.kp b_is_whole .nil pass0 (pa_cons (pv 1) (pa_cons pe_int (pa_cons (pv 0) pa_nil))))))
  (pss_one ps_never)
  pss_nil)
  (pss_one (ps_if (pt_not (pt_val (pe_call (G_is_whole.mono (by decide)) hr rfl g_is_whole F_is_whole.kp b_is_whole .nil pass0 (pa_cons (pv 2) (pa_cons (pe_callB (call_max2Y rfl) (by rfl) T.n_max (by decide +kernel) (pa_cons pe_int (pa_cons (pv 1) pa_nil))) (pa_cons (pv 0) pa_nil))))))
  (pss_one ps_never)
  pss_nil))), ?_⟩
    walk_at "ys"
    refine ⟨p, 0, L, rfl, ?_⟩
    rw [decide_eq_true (by omega), decide_eq_true (by omega)]
    walk_at "ys"
    refine ⟨c, _, L, rfl, ?_⟩
    rw [decide_eq_true (by split <;> omega), decide_eq_true (by omega)]
    walk_at "ys"
    exact q
theorem Sh.dk {H : Hp} {CP CS s pd al : Addr} {L t : Nat} {nm : List Str} {pt : Nat → Addr} {tp tc np nc u : Nat → Nat} {d : List V} (S : Sh H CP CS s pd al L t nm pt tp tc np nc u d) : H pd = some (.dK (pdOf nm pt)) := S.pd
def sp_Shares_come (CP CS : Addr) : Sp := fun vs H Q _ => ∃ (s pd al : Addr) (L : Nat) (nm : List Str) (pt : Nat → Addr) (tp tc np nc u : Nat → Nat) (d : List V) (z : Str) (p c : Nat), vs = [.ref s, .str z, .int p, .int c] ∧ Sh H CP CS s pd al L 0 nm pt tp tc np nc u d ∧ NameOk z ∧ z ∉ nm ∧ nm.length ≤ 5 ∧ p ≤ c ∧ 1 ≤ c ∧ c ≤ L ∧ L ≤ 60 ∧ Deal.sumTo tp nm.length + p ≤ L ∧
  ∀ x H', H x = none → SameBut pd H H' → Sh H' CP CS s pd al L 0 (nm ++ [z]) (fun j => if j = nm.length then x else pt j) (fun j => if j = nm.length then p else tp j) (fun j => if j = nm.length then c else tc j) (fun j => if j = nm.length then p else np j) (fun j => if j = nm.length then c else nc j) (fun j => if j = nm.length then 0 else u j) d → Q .non H'
theorem ok_Shares_come {f : Addr} {fd : FuncData} (T : Txt K mg) {CPortion CShares CGuestError CTooMuch : Addr} (W : Own K mg CPortion CShares CGuestError CTooMuch) (F : Fun K "come" "Shares.come" s_Shares_come f fd) : FnOk P w K mg base CX0 4 f fd ["self", "name", "promise", "ceiling"] (sp_Shares_come CPortion CShares) := by
  obtain ⟨f_need_share, fd_need_share, g_need_share, F_need_share⟩ := T.d_need_share
  have G_need_share := ok_need_share (P := P) (w := w) (base := base) T F_need_share
  have b_need_share := F_need_share.binds (ps := ["length", "promise", "ceiling"]) fun _ _ _ _ _ _ us hl => match us, hl with | [_, _, _], _ => rfl
  obtain ⟨f_Shares_need_room_for, fd_Shares_need_room_for, F_Shares_need_room_for, m_Shares_need_room_for⟩ := W.m_Shares_need_room_for
  have G_Shares_need_room_for := ok_Shares_need_room_for (P := P) (w := w) (base := base) T W F_Shares_need_room_for
  obtain ⟨ds_Shares_need_room_for, dv_Shares_need_room_for, b_Shares_need_room_for⟩ := binds_room F_Shares_need_room_for
  have kb_Shares_need_room_for := kb_room F_Shares_need_room_for
  obtain ⟨f_Portion_init, fd_Portion_init, F_Portion_init, m_Portion_init⟩ := W.m_Portion_init
  have G_Portion_init := ok_Portion_init (P := P) (w := w) (base := base) T W F_Portion_init
  have kb_Portion_init := kb_portion F_Portion_init
  obtain ⟨f_is_name, fd_is_name, g_is_name, F_is_name⟩ := T.d_is_name
  have G_is_name := ok_is_name (P := P) (w := w) (base := base) T F_is_name
  have b_is_name := F_is_name.binds (ps := ["thing"]) fun _ _ _ _ _ _ us hl => match us, hl with | [_], _ => rfl
  have scp := sc_Shares_come
  refine F.ok sc_Shares_come (fun vs H Q E h => ?_) (fun cdv A outer s H vs Q E hr h => ?_)
  · first | (obtain ⟨rfl, _⟩ := h; rfl) | (obtain ⟨_, rfl, _⟩ := h; rfl) | (obtain ⟨_, _, rfl, _⟩ := h; rfl) | (obtain ⟨_, _, _, rfl, _⟩ := h; rfl) | (obtain ⟨_, _, _, _, rfl, _⟩ := h; rfl) | (obtain ⟨_, _, _, _, _, rfl, _⟩ := h; rfl) | (obtain ⟨_, _, _, _, _, _, rfl, _⟩ := h; rfl) | (obtain ⟨_, _, _, _, _, _, _, rfl, _⟩ := h; rfl) | (obtain ⟨_, _, _, _, _, _, _, _, rfl, _⟩ := h; rfl) | (obtain ⟨_, _, _, _, _, _, _, _, _, rfl, _⟩ := h; rfl) | (obtain ⟨_, _, _, _, _, _, _, _, _, _, rfl, _⟩ := h; rfl) | (obtain ⟨_, _, _, _, _, _, _, _, _, _, _, rfl, _⟩ := h; rfl) | (obtain ⟨_, _, _, _, _, _, _, _, _, _, _, _, rfl, _⟩ := h; rfl) | (obtain ⟨_, _, _, _, _, _, _, _, _, _, _, _, _, rfl, _⟩ := h; rfl) | (obtain ⟨_, _, _, _, _, _, _, _, _, _, _, _, _, _, rfl, _⟩ := h; rfl) | (obtain ⟨_, _, _, _, _, _, _, _, _, _, _, _, _, _, _, rfl, _⟩ := h; rfl) | (obtain ⟨_, _, _, _, _, _, _, _, _, _, _, _, _, _, _, _, rfl, _⟩ := h; rfl) | (obtain ⟨_, _, _, _, _, _, _, _, _, _, _, _, _, _, _, _, _, rfl, _⟩ := h; rfl) | (obtain ⟨_, _, _, _, _, _, _, _, _, _, _, _, _, _, _, _, _, _, rfl, _⟩ := h; rfl) | (obtain ⟨_, _, _, _, _, _, _, _, _, _, _, _, _, _, _, _, _, _, _, rfl, _⟩ := h; rfl) | (obtain ⟨_, _, _, _, _, _, _, _, _, _, _, _, _, _, _, _, _, _, _, _, rfl, _⟩ := h; rfl) | (obtain ⟨_, _, _, _, _, _, _, _, _, _, _, _, _, _, _, _, _, _, _, _, _, rfl, _⟩ := h; rfl) | (obtain ⟨_, _, _, _, _, _, _, _, _, _, _, _, _, _, _, _, _, _, _, _, _, _, rfl, _⟩ := h; rfl) | (obtain ⟨_, _, _, _, _, _, _, _, _, _, _, _, _, _, _, _, _, _, _, _, _, _, _, rfl, _⟩ := h; rfl) | (obtain ⟨_, _, _, _, _, _, _, _, _, _, _, _, _, _, _, _, _, _, _, _, _, _, _, _, rfl, _⟩ := h; rfl) | (obtain ⟨_, _, _, _, _, _, _, _, _, _, _, _, _, _, _, _, _, _, _, _, _, _, _, _, _, rfl, _⟩ := h; rfl) | (obtain ⟨_, _, _, _, _, _, _, _, _, _, _, _, _, _, _, _, _, _, _, _, _, _, _, _, _, _, rfl, _⟩ := h; rfl) | (obtain ⟨_, _, _, _, _, _, _, _, _, _, _, _, _, _, _, _, _, _, _, _, _, _, _, _, _, _, _, rfl, _⟩ := h; rfl)
  · obtain ⟨s0, pd, al, L, nm, pt, tp, tc, np, nc, u, d, z, p, c, rfl, S, hz, hzn, h5, hpc, hc1, hcL, h60, hsum, q⟩ := h
    have hu := hu_of hr
    have hv := hr.units
    have c_Portion := W.c_Portion; have n_Portion_told_promise := W.n_Portion_told_promise; have n_Portion_told_ceiling := W.n_Portion_told_ceiling; have n_Portion_now_promise := W.n_Portion_now_promise; have n_Portion_now_ceiling := W.n_Portion_now_ceiling; have n_Portion_turns_used := W.n_Portion_turns_used; have c_Shares := W.c_Shares; have n_Shares_own_length := W.n_Shares_own_length; have n_Shares_portions := W.n_Shares_portions; have n_Shares_turns_passed := W.n_Shares_turns_passed; have n_Shares_all_dealt := W.n_Shares_all_dealt
    refine ⟨_, (pss_cons (ps_if (pt_not (pt_val (pe_call (G_is_name.mono (by decide)) hr rfl g_is_name F_is_name.kp b_is_name .nil pass0 (pa_cons (pv 1) pa_nil))))
  (pss_one ps_never)
  pss_nil)
  (pss_cons (ps_expr (pe_call (G_need_share.mono (by decide)) hr rfl g_need_share F_need_share.kp b_need_share .nil pass0 (pa_cons (pe_fldK (K := K) (pv 0)) (pa_cons (pv 2) (pa_cons (pv 3) pa_nil)))))
  (pss_cons (ps_if (pt_cmpR (op_inK (K := K) hu) (pv 1) (pe_fldK (K := K) (pv 0)) (by rfl))
  (pss_one ps_never)
  pss_nil)
  (pss_cons (ps_if (pt_cmpR (op_eqK (K := K) hv) (pe_callB (call_lenK (K := K)) (by rfl) T.n_len (by decide +kernel) (pa_cons (pe_fldK (K := K) (pv 0)) pa_nil)) (pe_gint T.c_MOST_GUESTS) (nomark _))
  (pss_one ps_never)
  pss_nil)
  (pss_cons (ps_expr (pe_meth (pv 0) W.c_Shares m_Shares_need_room_for (G_Shares_need_room_for.mono (by decide)) hr b_Shares_need_room_for dv_Shares_need_room_for passL (pa_cons (pv 2) pa_nil)))
  (pss_one (ps_dput hu (pe_fldK (K := K) (pv 0)) (pv 1) (pe_makeK (n := 2) m_Portion_init.2 G_Portion_init (hr.mono (by decide)) rfl W.g_Portion kb_Portion_init pass0 (pa_cons (pv 2) (pa_cons (pv 3) pa_nil)) (pk_cons (pe_cmpR (op_eqK (K := K) hv) (pe_fldK (K := K) (pv 0)) pe_int (nomark _)) pk_nil)) rfl))))))), ?_⟩
    walk_at "ys"
    refine ⟨z, rfl, hz, fun H1 e1 => ?_⟩
    obtain ⟨dx, hs⟩ := S.ob
    have hs1 := e1 _ _ hs
    have hp1 := e1 _ _ S.dk
    walk_at "ys"
    refine ⟨L, p, c, rfl, by omega, hpc, hc1, hcL, ?_⟩
    walk_at "ys"
    refine y_inK hp1 ?_
    rw [pdOf_none hzn]
    walk_at "ys"
    rw [pdOf_len]
    refine y_dF (fun y => by have := V.int.inj y; omega) ?_
    walk_at "ys"
    refine ⟨s0, pd, al, L, 0, nm, pt, tp, tc, np, nc, u, d, p, 0, rfl, S.same e1, by omega, fun _ H2 e2 => ?_, fun z => absurd z (by omega)⟩
    have e2 := e1.trans e2
    have S2 := S.same e2
    have hs2 := e2 _ _ hs
    walk_at "ys"
    refine ⟨rfl, rfl, fun x dy nx ndy hne => ?_⟩
    have eb : decide (V.int ((0 : Nat) : Int) = V.int 0) = true := decide_eq_true rfl
    rw [eb]
    refine ⟨x, dy, p, c, true, rfl, upd_same, fun H3 e3 hx3 => ⟨rfl, ?_⟩⟩
    have hxs : x ≠ s0 := (ne_of_none hs2 nx).symm
    have keep : ∀ a u, H2 a = some u → H3 a = some u := fun a u h => e3 _ _ (ne_of_none h nx) (by rw [upd_ne (ne_of_none h nx), upd_ne (ne_of_none h ndy)]; exact h)
    have hs3 := keep _ _ hs2
    have hp3 := keep _ _ S2.dk
    walk_at "ys"
    refine y_put hp3 (sz_lt (by rw [pdOf_len]; omega)) ?_
    rw [putK_new _ (pdOf_none hzn), pdOf_snoc]
    have hpd : ∀ a u, (∀ kvs, u ≠ .dK kvs) → H3 a = some u → a ≠ pd := fun a u n h => ne_of h hp3 (n _)
    refine q x _ (free_of e2 nx) (fun a u n h => by rw [upd_ne n]; exact keep _ _ (e2 _ _ h)) ⟨⟨dx, ?_⟩, ?_, fun j hj => ?_, ?_, ?_, by rw [List.length_append]; exact Nat.succ_le_succ h5, fun i j hi hj e => ?_, fun j hj => ?_⟩
    · rw [upd_ne (hpd _ _ (fun _ z => by cases z) hs3)]
      exact hs3
    · rw [upd_same]
      rfl
    · rw [List.length_append, List.length_singleton] at hj
      by_cases ej : j = nm.length
      · refine ⟨dy, ?_⟩
        simp only [if_pos ej]
        rw [upd_ne (hpd _ _ (fun _ z => by cases z) hx3)]
        exact hx3
      · obtain ⟨dj, hj2⟩ := S2.po j (by omega)
        refine ⟨dj, ?_⟩
        simp only [if_neg ej]
        rw [upd_ne (hpd _ _ (fun _ z => by cases z) (keep _ _ hj2))]
        exact keep _ _ hj2
    · have := keep _ _ S2.al
      rw [upd_ne (hpd _ _ (fun _ z => by cases z) this)]
      exact this
    · rw [List.nodup_append]
      refine ⟨S.nd, by simp, fun a ha b' hb => ?_⟩
      have := List.mem_singleton.mp hb
      subst this
      exact fun e => hzn (e ▸ ha)
    · rw [List.length_append, List.length_singleton] at hi hj
      have nxp : ∀ j, j < nm.length → pt j ≠ x := fun j hj => by
        obtain ⟨dj, hj2⟩ := S2.po j hj
        exact ne_of_none hj2 nx
      by_cases ei : i = nm.length
      · by_cases ej : j = nm.length
        · omega
        · simp only [if_pos ei, if_neg ej] at e
          exact absurd e.symm (nxp j (by omega))
      · by_cases ej : j = nm.length
        · simp only [if_pos ej, if_neg ei] at e
          exact absurd e (nxp i (by omega))
        · simp only [if_neg ei, if_neg ej] at e
          exact S.inj i j (by omega) (by omega) e
    · rw [List.length_append, List.length_singleton] at hj
      by_cases ej : j = nm.length
      · simp only [if_pos ej]
        exact hxs
      · simp only [if_neg ej]
        exact S.ne j (by omega)
/-- the best by what is promised, among those that are ready -/
def sp_Shares_promised_one (CP CS : Addr) : Sp := fun vs H Q _ => ∃ (s pd al r : Addr) (L t : Nat) (nm : List Str) (pt : Nat → Addr) (tp tc np nc u : Nat → Nat) (d : List V) (rs : List Str), vs = [.ref s, .ref r] ∧ Sh H CP CS s pd al L t nm pt tp tc np nc u d ∧ H r = some (.lst (rs.map V.str)) ∧ (∀ i, i < nm.length → u i ≤ 100 ∧ np i ≤ 100) ∧
  ∀ b H', Same H H' → BestP (onR nm rs np) u nm.length b → Q (nameV nm b) H'
theorem ok_Shares_promised_one {f : Addr} {fd : FuncData} (T : Txt K mg) {CPortion CShares CGuestError CTooMuch : Addr} (W : Own K mg CPortion CShares CGuestError CTooMuch) (F : Fun K "promised_one" "Shares.promised_one" s_Shares_promised_one f fd) : FnOk P w K mg base CX0 1 f fd ["self", "ready"] (sp_Shares_promised_one CPortion CShares) := by
  have scp := sc_Shares_promised_one
  refine F.ok sc_Shares_promised_one (fun vs H Q E h => ?_) (fun cdv A outer s H vs Q E hr h => ?_)
  · first | (obtain ⟨rfl, _⟩ := h; rfl) | (obtain ⟨_, rfl, _⟩ := h; rfl) | (obtain ⟨_, _, rfl, _⟩ := h; rfl) | (obtain ⟨_, _, _, rfl, _⟩ := h; rfl) | (obtain ⟨_, _, _, _, rfl, _⟩ := h; rfl) | (obtain ⟨_, _, _, _, _, rfl, _⟩ := h; rfl) | (obtain ⟨_, _, _, _, _, _, rfl, _⟩ := h; rfl) | (obtain ⟨_, _, _, _, _, _, _, rfl, _⟩ := h; rfl) | (obtain ⟨_, _, _, _, _, _, _, _, rfl, _⟩ := h; rfl) | (obtain ⟨_, _, _, _, _, _, _, _, _, rfl, _⟩ := h; rfl) | (obtain ⟨_, _, _, _, _, _, _, _, _, _, rfl, _⟩ := h; rfl) | (obtain ⟨_, _, _, _, _, _, _, _, _, _, _, rfl, _⟩ := h; rfl) | (obtain ⟨_, _, _, _, _, _, _, _, _, _, _, _, rfl, _⟩ := h; rfl) | (obtain ⟨_, _, _, _, _, _, _, _, _, _, _, _, _, rfl, _⟩ := h; rfl) | (obtain ⟨_, _, _, _, _, _, _, _, _, _, _, _, _, _, rfl, _⟩ := h; rfl) | (obtain ⟨_, _, _, _, _, _, _, _, _, _, _, _, _, _, _, rfl, _⟩ := h; rfl) | (obtain ⟨_, _, _, _, _, _, _, _, _, _, _, _, _, _, _, _, rfl, _⟩ := h; rfl) | (obtain ⟨_, _, _, _, _, _, _, _, _, _, _, _, _, _, _, _, _, rfl, _⟩ := h; rfl) | (obtain ⟨_, _, _, _, _, _, _, _, _, _, _, _, _, _, _, _, _, _, rfl, _⟩ := h; rfl) | (obtain ⟨_, _, _, _, _, _, _, _, _, _, _, _, _, _, _, _, _, _, _, rfl, _⟩ := h; rfl) | (obtain ⟨_, _, _, _, _, _, _, _, _, _, _, _, _, _, _, _, _, _, _, _, rfl, _⟩ := h; rfl) | (obtain ⟨_, _, _, _, _, _, _, _, _, _, _, _, _, _, _, _, _, _, _, _, _, rfl, _⟩ := h; rfl) | (obtain ⟨_, _, _, _, _, _, _, _, _, _, _, _, _, _, _, _, _, _, _, _, _, _, rfl, _⟩ := h; rfl) | (obtain ⟨_, _, _, _, _, _, _, _, _, _, _, _, _, _, _, _, _, _, _, _, _, _, _, rfl, _⟩ := h; rfl) | (obtain ⟨_, _, _, _, _, _, _, _, _, _, _, _, _, _, _, _, _, _, _, _, _, _, _, _, rfl, _⟩ := h; rfl) | (obtain ⟨_, _, _, _, _, _, _, _, _, _, _, _, _, _, _, _, _, _, _, _, _, _, _, _, _, rfl, _⟩ := h; rfl) | (obtain ⟨_, _, _, _, _, _, _, _, _, _, _, _, _, _, _, _, _, _, _, _, _, _, _, _, _, _, rfl, _⟩ := h; rfl) | (obtain ⟨_, _, _, _, _, _, _, _, _, _, _, _, _, _, _, _, _, _, _, _, _, _, _, _, _, _, _, rfl, _⟩ := h; rfl)
  · obtain ⟨s0, pd, al, r, L, t, nm, pt, tp, tc, np, nc, u, d, rs, rfl, S, hr0, hlim, q⟩ := h
    have hu := hu_of hr
    have hv := hr.units
    have c_Portion := W.c_Portion; have n_Portion_told_promise := W.n_Portion_told_promise; have n_Portion_told_ceiling := W.n_Portion_told_ceiling; have n_Portion_now_promise := W.n_Portion_now_promise; have n_Portion_now_ceiling := W.n_Portion_now_ceiling; have n_Portion_turns_used := W.n_Portion_turns_used; have c_Shares := W.c_Shares; have n_Shares_own_length := W.n_Shares_own_length; have n_Shares_portions := W.n_Shares_portions; have n_Shares_turns_passed := W.n_Shares_turns_passed; have n_Shares_all_dealt := W.n_Shares_all_dealt
    obtain ⟨dx, hs⟩ := S.ob
    refine ⟨_, (pss_cons (ps_set (i := 2) scp.nd rfl (by first | exact Or.inl rfl | exact Or.inr rfl) pe_non)
  (pss_cons (ps_lock (ps_for PassesOwn.never rfl (pi_items (pe_fldK (K := K) (pv 0))) (pg_tupK (K := K) (n := 2) rfl (pgs_cons (pg_name (i := 3) scp.nd rfl (by first | exact Or.inl rfl | exact Or.inr rfl)) (pgs_cons (pg_name (i := 4) scp.nd rfl (by first | exact Or.inl rfl | exact Or.inr rfl)) pgs_nil)))
  (pss_one (ps_if (PW.pt (pw_and (pt_cmpR (op_inK (K := K) hu) (pv 3) (pv 1) (by rfl)) (pw_and1 (pt_cmpR op_ltI (pe_fldK (K := K) (pv 4)) (pe_fldK (K := K) (pv 4)) (nomark _)))))
  (pss_cons (ps_set (i := 5) scp.nd rfl (by first | exact Or.inl rfl | exact Or.inr rfl) (pe_ix (ix_anyK (K := K) hu) (pe_fldK (K := K) (pv 0)) (pe_ifExp (pt_cmpR op_isNo (pv 2) pe_non (nomark _)) (pv 3) (pv 2)) (fun _ _ => rfl)))
  (pss_one (ps_if (PW.pt (pw_or (pt_cmpR op_isNo (pv 2) pe_non (nomark _)) (pw_or1 (pt_cmpR op_ltI (pe_op op_times (pe_fldK (K := K) (pv 4)) (pe_fldK (K := K) (pv 5))) (pe_op op_times (pe_fldK (K := K) (pv 5)) (pe_fldK (K := K) (pv 4))) (nomark _)))))
  (pss_one (ps_set (i := 2) scp.nd rfl (by first | exact Or.inl rfl | exact Or.inr rfl) (pv 3)))
  pss_nil)))
  pss_nil))))
  (pss_one (ps_ret (pv 2))))), ?_⟩
    walk_at "ys"
    refine y_lock S.dk True.intro (fun od => ?_)
    have fin : ∀ H', Same (upd H pd (.frz od (.dK (pdOf nm pt)))) H' → Same H (upd H' pd (.dK (pdOf nm pt))) := fun H' e => lock_same S.dk e
    have keep : ∀ a u, (∀ kvs, u ≠ .dK kvs) → H a = some u → upd H pd (.frz od (.dK (pdOf nm pt))) a = some u := fun a u n h => by
      rw [upd_ne (ne_of h S.dk (n _))]
      exact h
    have hs1 := keep _ _ (fun _ z => by cases z) hs
    have hr1 := keep _ _ (fun _ z => by cases z) hr0
    have po1 : ∀ j, j < nm.length → ∃ dx, upd H pd (.frz od (.dK (pdOf nm pt))) (pt j) = some (.ins CPortion dx (fldP (tp j) (tc j) (np j) (nc j) (u j))) := fun j hj => (S.po j hj).imp fun dx h => keep _ _ (fun _ z => by cases z) h
    have hp1 : upd H pd (.frz od (.dK (pdOf nm pt))) pd = some (.frz od (.dK (pdOf nm pt))) := upd_same
    generalize upd H pd (.frz od (.dK (pdOf nm pt))) = H1 at *
    walk_at "ys"
    refine for_it walk_items (fun m σ H' => ∃ (bst : Option Nat) (u3 u4 u5 : Option V), σ = [some (.ref s0), some (.ref r), some (nameV nm bst), u3, u4, u5] ∧ Same H1 H' ∧ BestP (onR nm rs np) u m bst)
      ⟨none, none, none, none, rfl, Same.refl _, fun j hj => absurd hj (Nat.not_lt_zero _)⟩ (fun i σ H' _ ⟨_, _, _, _, _, e, _⟩ => e _ _ hp1) (fun i x σ H2 H3 hi hP hY => ?_) (fun σ H2 hP => ?_)
    · obtain ⟨bst, u3, u4, u5, rfl, e, hB⟩ := hP
      obtain ⟨T', a, b, rfl, nT, rfl, h1, h2⟩ := hY
      obtain ⟨hin, rfl, rfl⟩ := pd_pair h1 h2
      have e3 : Same H1 (upd H2 T' (.tup [.str (nmF nm i), .ref (pt i)])) := e.trans (same_new0 nT)
      have hT : upd H2 T' (.tup [.str (nmF nm i), .ref (pt i)]) T' = some (.tup [.str (nmF nm i), .ref (pt i)]) := upd_same
      generalize upd H2 T' (.tup [.str (nmF nm i), .ref (pt i)]) = H4 at *
      have hs4 := e3 _ _ hs1
      have hr4 := e3 _ _ hr1
      have hp4 := e3 _ _ hp1
      obtain ⟨di, hpi⟩ := po1 i hin
      have hpi4 := e3 _ _ hpi
      have li := hlim i hin
      have hval := pdOf_val (pt := pt) S.nd hin
      have hno : ∀ (h : ¬ (u i < onR nm rs np i)), BestP (onR nm rs np) u (i + 1) bst := fun h => by
        cases bst with
        | none => exact bp_none hB h
        | some b => exact bp_some hB (fun z => absurd z h)
      walk_at "ys"
      refine y_inDec hr4 ?_
      walk_at "ys"
      refine y_d2 (fun g0 => ?_) (fun g0 => ?_)
      · have pi : onR nm rs np i = np i := onR_in g0
        walk_at "ys"
        refine y_d2 (fun g1 => ?_) (fun g1 => ?_)
        · cases bst with
          | none =>
            walk_at "ys"
            refine y_ixF hp4 hval ?_
            walk_at "ys"
            exact ⟨some i, _, _, _, rfl, e3, bp_new hB (by rw [pi]; omega) (fun b h => nomatch h)⟩
          | some b =>
            have hb : b < nm.length := Nat.lt_trans hB.1 hin
            obtain ⟨db, hpb⟩ := po1 b hb
            have hpb4 := e3 _ _ hpb
            have lb := hlim b hb
            have hub := hB.2.1
            have pb : onR nm rs np b = np b := by
              by_cases z : nmF nm b ∈ rs
              · exact onR_in z
              · rw [onR_out z] at hub
                omega
            walk_at "ys"
            refine y_dF (fun z => nomatch z) ?_
            walk_at "ys"
            refine y_ixF hp4 (pdOf_val (pt := pt) S.nd hb) ?_
            walk_at "ys"
            refine y_dF (fun z => nomatch z) ?_
            walk_at "ys"
            refine y_mulI (cmul_small (by omega) (by omega)) ?_
            walk_at "ys"
            refine y_mulI (cmul_small (by omega) (by omega)) ?_
            walk_at "ys"
            rw [← Int.natCast_mul, ← Int.natCast_mul]
            refine y_d2 (fun g2 => ?_) (fun g2 => ?_)
            · walk_at "ys"
              exact ⟨some i, _, _, _, rfl, e3, bp_new hB (by rw [pi]; omega) (fun b' h => by cases h; rw [pi, pb]; omega)⟩
            · walk_at "ys"
              exact ⟨some b, _, _, _, rfl, e3, bp_some hB (fun _ => by rw [pi, pb]; omega)⟩
        · walk_at "ys"
          exact ⟨bst, _, _, _, rfl, e3, hno (by rw [pi]; omega)⟩
      · have pi : onR nm rs np i = 0 := onR_out g0
        walk_at "ys"
        exact ⟨bst, _, _, _, rfl, e3, hno (by rw [pi]; omega)⟩
    · obtain ⟨bst, u3, u4, u5, rfl, e, hB⟩ := hP
      rw [pdOf_len] at hB
      refine ⟨e _ _ hp1, ?_⟩
      walk_at "ys"
      exact q bst _ (fin _ e) hB
end
end K61
namespace K61
open PySem L2 Y LamX
local macro_rules | `(tactic| walk_at "lk") => `(tactic| with_reducible first | exact lkP_told_promise | exact lkP_told_ceiling | exact lkP_now_promise | exact lkP_now_ceiling | exact lkP_turns_used | exact lkS_own_length | exact lkS_portions | exact lkS_turns_passed | exact lkS_all_dealt | exact mnP_begin | exact mnS_need_guest | exact mnS_need_room_for | exact mnS_come | exact mnS_promised_one | exact mnS_free_one | exact mnS_deal | exact mnS_promised | exact mnS_change | exact mnS_length | exact mnS_names | exact mnS_counting)
local macro_rules | `(tactic| walk_at "ln") => `(tactic| first | exact lenP | exact lenS | (simp; done) | (show 0 < 1000; decide) | (show 1 < 1000; decide) | (show 2 < 1000; decide) | (show 3 < 1000; decide) | (show 4 < 1000; decide))

theorem fm_ite' {α β : Type} (q : α → Prop) [DecidablePred q] (g : α → β) : ∀ l : List α, l.filterMap (fun j => if q j then some (g j) else none) = (l.filter fun j => decide (q j)).map g
  | [] => rfl
  | a :: l => by
    have ih := fm_ite' q g l
    rw [List.filterMap_cons, List.filter_cons]
    by_cases h : q a
    · simp only [if_pos h, decide_eq_true h, if_true, List.map_cons, ih]
    · simp only [if_neg h, decide_eq_false h, ih]
      rfl
theorem range_getD (l : List Nat) : (List.range l.length).map (fun m => l.getD m 0) = l := by
  refine List.ext_getElem? fun m => ?_
  rw [List.getElem?_map]
  by_cases h : m < l.length
  · rw [List.getElem?_range h, List.getElem?_eq_getElem h]
    show some (l.getD m 0) = _
    rw [List.getD_eq_getElem?_getD, List.getElem?_eq_getElem h]
    rfl
  · rw [List.getElem?_eq_none (by rw [List.length_range]; omega), List.getElem?_eq_none (by omega)]
    rfl
theorem fm_getD {β : Type} (g : Nat → Option β) (l : List Nat) : (List.range l.length).filterMap (fun m => g (l.getD m 0)) = l.filterMap g := by
  conv => rhs; rw [← range_getD l]
  rw [List.filterMap_map]
  rfl
theorem pdOf_keys (nm : List Str) (pt : Nat → Addr) {i : Nat} {k : Key} {v : V} (h : (pdOf nm pt)[i]? = some (k, v)) : i < nm.length ∧ k = Sum.inr (nmF nm i) ∧ v = .ref (pt i) := by
  by_cases hi : i < nm.length
  · unfold pdOf at h
    rw [List.getElem?_map, List.getElem?_range hi] at h
    have := Option.some.inj h
    exact ⟨hi, (Prod.mk.inj this).1.symm, (Prod.mk.inj this).2.symm⟩
  · rw [List.getElem?_eq_none (by rw [pdOf_len]; omega)] at h
    cases h
section
variable {P : Program} {w : World} {K : PySem.W.Frag} {mg : Str → Option Value} {base : Heap}
/-- the least used among those ready that are below their ceilings, the first of them -/
def Free (n : Nat) (c u : Nat → Nat) : Option Nat → Prop
  | none => ∀ j, j < n → c j ≤ u j
  | some b => b < n ∧ u b < c b ∧ ∀ j, j < n → j ≠ b → u j < c j → u b < u j ∨ (u b = u j ∧ b < j)
def sp_Shares_free_one (CP CS Pt Pt2 : Addr) : Sp := fun vs H Q _ => ∃ (s pd al r : Addr) (L t : Nat) (nm : List Str) (pt : Nat → Addr) (tp tc np nc u : Nat → Nat) (d : List V) (rs : List Str), vs = [.ref s, .ref r] ∧ Sh H CP CS s pd al L t nm pt tp tc np nc u d ∧ H r = some (.lst (rs.map V.str)) ∧ Tabs (tabsOf Pt Pt2) H ∧
  ∀ b H', ExtN H H' → Tabs (tabsOf Pt Pt2) H' → Free nm.length (onR nm rs nc) u b → Q (nameV nm b) H'
theorem ok_Shares_free_one {f : Addr} {fd : FuncData} (T : Txt K mg) {CPortion CShares CGuestError CTooMuch : Addr} (W : Own K mg CPortion CShares CGuestError CTooMuch) {ca Pt ca2 Pt2 : Addr} (C : Cd K mg base CShares ca Pt ca2 Pt2) (F : FunC K "free_one" "Shares.free_one" s_Shares_free_one f fd ca2) : FnOk P w K mg base CX0 3 f fd ["self", "ready"] (sp_Shares_free_one CPortion CShares Pt Pt2) := by
  have scp := sc_Shares_free_one
  refine F.ok sc_Shares_free_one (fun vs H Q E h => ?_) (fun A outer s H vs Q E hr h => ?_)
  · first | (obtain ⟨rfl, _⟩ := h; rfl) | (obtain ⟨_, rfl, _⟩ := h; rfl) | (obtain ⟨_, _, rfl, _⟩ := h; rfl) | (obtain ⟨_, _, _, rfl, _⟩ := h; rfl) | (obtain ⟨_, _, _, _, rfl, _⟩ := h; rfl) | (obtain ⟨_, _, _, _, _, rfl, _⟩ := h; rfl) | (obtain ⟨_, _, _, _, _, _, rfl, _⟩ := h; rfl) | (obtain ⟨_, _, _, _, _, _, _, rfl, _⟩ := h; rfl) | (obtain ⟨_, _, _, _, _, _, _, _, rfl, _⟩ := h; rfl) | (obtain ⟨_, _, _, _, _, _, _, _, _, rfl, _⟩ := h; rfl) | (obtain ⟨_, _, _, _, _, _, _, _, _, _, rfl, _⟩ := h; rfl) | (obtain ⟨_, _, _, _, _, _, _, _, _, _, _, rfl, _⟩ := h; rfl) | (obtain ⟨_, _, _, _, _, _, _, _, _, _, _, _, rfl, _⟩ := h; rfl) | (obtain ⟨_, _, _, _, _, _, _, _, _, _, _, _, _, rfl, _⟩ := h; rfl) | (obtain ⟨_, _, _, _, _, _, _, _, _, _, _, _, _, _, rfl, _⟩ := h; rfl) | (obtain ⟨_, _, _, _, _, _, _, _, _, _, _, _, _, _, _, rfl, _⟩ := h; rfl) | (obtain ⟨_, _, _, _, _, _, _, _, _, _, _, _, _, _, _, _, rfl, _⟩ := h; rfl) | (obtain ⟨_, _, _, _, _, _, _, _, _, _, _, _, _, _, _, _, _, rfl, _⟩ := h; rfl) | (obtain ⟨_, _, _, _, _, _, _, _, _, _, _, _, _, _, _, _, _, _, rfl, _⟩ := h; rfl) | (obtain ⟨_, _, _, _, _, _, _, _, _, _, _, _, _, _, _, _, _, _, _, rfl, _⟩ := h; rfl) | (obtain ⟨_, _, _, _, _, _, _, _, _, _, _, _, _, _, _, _, _, _, _, _, rfl, _⟩ := h; rfl) | (obtain ⟨_, _, _, _, _, _, _, _, _, _, _, _, _, _, _, _, _, _, _, _, _, rfl, _⟩ := h; rfl) | (obtain ⟨_, _, _, _, _, _, _, _, _, _, _, _, _, _, _, _, _, _, _, _, _, _, rfl, _⟩ := h; rfl) | (obtain ⟨_, _, _, _, _, _, _, _, _, _, _, _, _, _, _, _, _, _, _, _, _, _, _, rfl, _⟩ := h; rfl) | (obtain ⟨_, _, _, _, _, _, _, _, _, _, _, _, _, _, _, _, _, _, _, _, _, _, _, _, rfl, _⟩ := h; rfl) | (obtain ⟨_, _, _, _, _, _, _, _, _, _, _, _, _, _, _, _, _, _, _, _, _, _, _, _, _, rfl, _⟩ := h; rfl) | (obtain ⟨_, _, _, _, _, _, _, _, _, _, _, _, _, _, _, _, _, _, _, _, _, _, _, _, _, _, rfl, _⟩ := h; rfl) | (obtain ⟨_, _, _, _, _, _, _, _, _, _, _, _, _, _, _, _, _, _, _, _, _, _, _, _, _, _, _, rfl, _⟩ := h; rfl)
  · obtain ⟨s0, pd, al, r, L, t, nm, pt, tp, tc, np, nc, u, d, rs, rfl, S, hr0, hT, q⟩ := h
    have hu := hu_of hr
    have hv := hr.units
    have c_Portion := W.c_Portion; have n_Portion_told_promise := W.n_Portion_told_promise; have n_Portion_told_ceiling := W.n_Portion_told_ceiling; have n_Portion_now_promise := W.n_Portion_now_promise; have n_Portion_now_ceiling := W.n_Portion_now_ceiling; have n_Portion_turns_used := W.n_Portion_turns_used; have c_Shares := W.c_Shares; have n_Shares_own_length := W.n_Shares_own_length; have n_Shares_portions := W.n_Shares_portions; have n_Shares_turns_passed := W.n_Shares_turns_passed; have n_Shares_all_dealt := W.n_Shares_all_dealt
    obtain ⟨dx, hs⟩ := S.ob
    have hfew := S.few
    refine ⟨_, (pss_cons (ps_lock (ps_setLc (i := 2) (own := [("name", 3)]) (g := gName 3) rfl scp.nd rfl rfl (sw_true rfl rfl rfl (by decide +kernel)) (pi_keys (pe_fldK (K := K) (pv 0))) (blkOk_by (own := [("name", 3)]) (N := ["self", "ready", "below", "name"]) (sc := defScope s_Shares_free_one) (by decide +kernel)) (fun _ _ _ _ _ => (pg_name (i := 3) scp.nd rfl (by first | exact Or.inl rfl | exact Or.inr rfl))) (fun _ _ _ _ _ => (pts_one (pt_cmpR (op_inK (K := K) hu) (pv 3) (pv 1) (by rfl)))) (fun _ _ _ _ _ => (pv 3))))
  (pss_cons (ps_setLc (i := 2) (own := [("name", 3)]) (g := gName 3) rfl scp.nd rfl rfl (sw_true rfl rfl rfl (by decide +kernel)) (pi_listK (K := K) (pv 2)) (blkOk_by (own := [("name", 3)]) (N := ["self", "ready", "below", "name"]) (sc := defScope s_Shares_free_one) (by decide +kernel)) (fun _ _ _ _ _ => (pg_name (i := 3) scp.nd rfl (by first | exact Or.inl rfl | exact Or.inr rfl))) (fun _ _ _ _ _ => (pts_one (pt_cmpR op_ltI (pe_fldK (K := K) (pe_ix (ix_anyK (K := K) hu) (pe_fldK (K := K) (pv 0)) (pv 3) (fun _ _ => rfl))) (pe_fldK (K := K) (pe_ix (ix_anyK (K := K) hu) (pe_fldK (K := K) (pv 0)) (pv 3) (fun _ _ => rfl))) (nomark _)))) (fun _ _ _ _ _ => (pv 3)))
  (pss_one (ps_ret (pe_minlam (T := tabsOf Pt Pt2) (c := ca2) (P := Pt2) (i := 3) (a := "name") (k := 0) rfl (by rfl) T.n_min (pv 2) C.tb2 rfl tabs_mem2 tabs_only2 (hr.mono (by decide)) (lamS1_by (sc := defScope s_Shares_free_one) (by decide +kernel)) scp.nd rfl rfl (fun _ _ _ _ _ _ => rfl) (fun _ _ _ _ _ _ _ hr => have hu := hu_of hr; have hv := hr.units; (pe_fldK (K := K) (pe_ix (ix_anyK (K := K) hu) (pe_fldK (K := K) (pv 0)) (pv 3) (fun _ _ => rfl))))))))), ?_⟩
    walk_at "ys"
    refine y_lock S.dk True.intro (fun od => ?_)
    have fin : ∀ H', Same (upd H pd (.frz od (.dK (pdOf nm pt)))) H' → Same H (upd H' pd (.dK (pdOf nm pt))) := fun H' e => lock_same S.dk e
    have keep : ∀ a u, (∀ kvs, u ≠ .dK kvs) → H a = some u → upd H pd (.frz od (.dK (pdOf nm pt))) a = some u := fun a u n h => by
      rw [upd_ne (ne_of h S.dk (n _))]
      exact h
    have hs1 := keep _ _ (fun _ z => by cases z) hs
    have hr1 := keep _ _ (fun _ z => by cases z) hr0
    have hp1 : upd H pd (.frz od (.dK (pdOf nm pt))) pd = some (.frz od (.dK (pdOf nm pt))) := upd_same
    generalize upd H pd (.frz od (.dK (pdOf nm pt))) = H1 at *
    walk_at "ys"
    intro D nD
    refine lc_gen (fun j => if nmF nm j ∈ rs then some (.str (nmF nm j)) else none) walk_keys nD (sz_lt (by rw [pdOf_len]; omega)) (fun H' e' => e' _ _ hp1) (fun i x H2 H3 Nx hi e2 hY k k0 => ?_) (fun H2 e2 hD => ?_)
    · obtain ⟨rfl, kk, v, hkv, rfl⟩ := hY
      obtain ⟨hin, rfl, rfl⟩ := pdOf_keys nm pt hkv
      have hr2 := e2 _ _ hr1
      walk_at "ys"
      refine y_inDec hr2 ?_
      walk_at "ys"
      refine y_d2 (fun g0 => ?_) (fun g0 => ?_)
      · walk_at "ys"
        exact k _ _ (if_pos g0) (Same.refl _)
      · exact k0 _ (if_neg g0) (Same.refl _)
    · rw [pdOf_len, fm_ite'] at hD
      walk_at "ys"
      refine ⟨e2 _ _ hp1, ?_⟩
      have e3 := fin _ e2
      have hDpd : D ≠ pd := ne_of hD (e2 _ _ hp1) (fun z => by cases z)
      have nDH : H D = none := by
        cases hz : H D with
        | none => rfl
        | some w =>
          have h1 := e3 _ _ hz
          rw [upd_ne hDpd] at h1
          by_cases hk : ∃ kvs, w = .dK kvs
          · obtain ⟨kvs, rfl⟩ := hk
            rw [hD] at h1
            cases h1
          · have := keep D w (fun kvs z => hk ⟨kvs, z⟩) hz
            rw [nD] at this
            cases this
      have hD3 : upd H2 pd (.dK (pdOf nm pt)) D = some (.lst (((List.range nm.length).filter fun j => decide (nmF nm j ∈ rs)).map fun j => .str (nmF nm j))) := by
        rw [upd_ne hDpd]
        exact hD
      generalize upd H2 pd (.dK (pdOf nm pt)) = H3 at *
      generalize ha1 : (List.range nm.length).filter (fun j => decide (nmF nm j ∈ rs)) = a1 at *
      have ha1m : ∀ (m j : Nat), a1[m]? = some j → j < nm.length ∧ nmF nm j ∈ rs := fun m j h => by
        have := List.mem_of_getElem? h
        rw [← ha1, List.mem_filter, List.mem_range, decide_eq_true_eq] at this
        exact this
      have ha1l : a1.length ≤ nm.length := by
        rw [← ha1]
        refine Nat.le_trans (List.length_filter_le _ _) ?_
        rw [List.length_range]
        exact Nat.le_refl _
      have S3 := S.same e3
      have hs3 := e3 _ _ hs
      have hp3 := S3.dk
      walk_at "ys"
      intro E nE
      refine lc_gen (fun m => (fun j => if u j < nc j then some (V.str (nmF nm j)) else none) (a1.getD m 0)) walk_list nE (sz_lt (by rw [List.length_map]; omega)) (fun H' e' => SqL.of (e' _ _ hD3)) (fun m x H4 H5 Nx hm e4 hY k k0 => ?_) (fun H4 e4 hE => ?_)
      · obtain ⟨rfl, hx⟩ := hY
        rw [List.length_map] at hm
        rw [List.getElem?_map, List.getElem?_eq_getElem hm] at hx
        have hx := Option.some.inj hx
        subst hx
        have hg : a1.getD m 0 = a1[m] := by
          rw [List.getD_eq_getElem?_getD, List.getElem?_eq_getElem hm]
          rfl
        rw [hg] at k k0
        obtain ⟨hj, hjr⟩ := ha1m m _ (List.getElem?_eq_getElem hm)
        generalize a1[m] = j at *
        have hs4 := e4 _ _ hs3
        have hp4 := e4 _ _ hp3
        obtain ⟨dj, hpj⟩ := S3.po j hj
        have hpj4 := e4 _ _ hpj
        walk_at "ys"
        refine y_ixK hp4 (pdOf_val S.nd hj) ?_
        walk_at "ys"
        refine y_ixK hp4 (pdOf_val S.nd hj) ?_
        walk_at "ys"
        refine y_d2 (fun g1 => ?_) (fun g1 => ?_)
        · walk_at "ys"
          exact k _ _ (if_pos (by omega)) (Same.refl _)
        · exact k0 _ (if_neg (by omega)) (Same.refl _)
      · rw [List.length_map, fm_getD (fun j => if u j < nc j then some (V.str (nmF nm j)) else none), fm_ite'] at hE
        have e5 := e3.trans e4
        have nEH : H E = none := free_of e3 nE
        generalize hbel : a1.filter (fun j => decide (u j < nc j)) = bel at hE
        have hmem : ∀ (m j : Nat), bel[m]? = some j → j < nm.length ∧ u j < onR nm rs nc j := fun m j h => by
          have h1 := List.mem_of_getElem? h
          rw [← hbel, List.mem_filter, decide_eq_true_eq] at h1
          obtain ⟨m', hm'⟩ := List.mem_iff_getElem?.mp h1.1
          obtain ⟨h2, h3⟩ := ha1m m' j hm'
          exact ⟨h2, by rw [onR_in h3]; exact h1.2⟩
        have hin : ∀ j, j < nm.length → u j < onR nm rs nc j → ∃ m, bel[m]? = some j := fun j h1 h2 => by
          have h3 : nmF nm j ∈ rs := by
            refine Decidable.byContradiction fun z => ?_
            rw [onR_out z] at h2
            omega
          rw [onR_in h3] at h2
          have : j ∈ bel := by
            rw [← hbel, List.mem_filter, decide_eq_true_eq, ← ha1, List.mem_filter, List.mem_range, decide_eq_true_eq]
            exact ⟨⟨h1, h3⟩, h2⟩
          exact List.mem_iff_getElem?.mp this
        have hord : ∀ (m m' j j' : Nat), m < m' → bel[m]? = some j → bel[m']? = some j' → j < j' := fun m m' j j' h h1 h2 => by
          have hp : bel.Pairwise (· < ·) := by
            rw [← hbel, ← ha1]
            exact List.Pairwise.filter _ (List.Pairwise.filter _ List.pairwise_lt_range)
          obtain ⟨a1, a2⟩ := List.getElem?_eq_some_iff.mp h1
          obtain ⟨b1, b2⟩ := List.getElem?_eq_some_iff.mp h2
          rw [← a2, ← b2]
          exact List.pairwise_iff_getElem.mp hp m m' a1 b1 h
        have gD : ∀ (m j : Nat), bel[m]? = some j → bel.getD m 0 = j := fun m j h => by
          rw [List.getD_eq_getElem?_getD, h]
          rfl
        walk_at "ys"
        refine y_minlam ?_
        walk_at "ys"
        refine ⟨E, _, rfl, hE, hT.ext e5, fun od2 H5 eN T5 => ?_⟩
        have e6 : Same H (upd H4 E (.frz od2 (.lst (bel.map fun j => .str (nmF nm j))))) := same_upd e5 nEH
        have e7 : ExtN H H5 := (ExtN.of e6).trans eN
        have hs5 := e7 _ _ hs (fun ps z => by cases z)
        have hp5 := e7 _ _ S.dk (fun ps z => by cases z)
        refine ⟨fun m => (u (bel.getD m 0) : Nat), fun m v hv => ?_, fun h0 => ?_, fun m v hv hmin => ?_⟩
        · rw [List.getElem?_map] at hv
          cases hb : bel[m]? with
          | none =>
            rw [hb] at hv
            cases hv
          | some j =>
            rw [hb] at hv
            have hv := Option.some.inj hv
            subst hv
            obtain ⟨dj, hpj⟩ := S.po j (hmem m j hb).1
            have hpj5 := e7 _ _ hpj (fun ps z => by cases z)
            walk_at "ys"
            refine y_ixK hp5 (pdOf_val S.nd (hmem m j hb).1) ?_
            walk_at "ys"
            refine ⟨?_, rfl⟩
            show V.int ((u j : Nat) : Int) = V.int ((u (bel.getD m 0) : Nat) : Int)
            rw [gD m j hb]
        · refine q none _ e7 T5 fun j hj => Nat.le_of_not_lt fun z => ?_
          obtain ⟨m, hm⟩ := hin j hj z
          have : bel = [] := List.map_eq_nil_iff.mp h0
          rw [this] at hm
          simp at hm
        · rw [List.getElem?_map] at hv
          cases hb : bel[m]? with
          | none =>
            rw [hb] at hv
            cases hv
          | some b =>
            rw [hb] at hv
            have hv := Option.some.inj hv
            subst hv
            have hbm := hmem m b hb
            refine q (some b) _ e7 T5 ⟨hbm.1, hbm.2, fun j hj hne hc => ?_⟩
            obtain ⟨m', hm'⟩ := hin j hj hc
            have hl : m' < bel.length := (List.getElem?_eq_some_iff.mp hm').1
            have h2 : ((u (bel.getD m 0) : Nat) : Int) ≤ ((u (bel.getD m' 0) : Nat) : Int) ∧ (m' < m → ((u (bel.getD m 0) : Nat) : Int) < ((u (bel.getD m' 0) : Nat) : Int)) := hmin m' (by rw [List.length_map]; exact hl)
            rw [gD m b hb, gD m' j hm'] at h2
            by_cases z : u b = u j
            · refine .inr ⟨z, ?_⟩
              by_cases z2 : m < m'
              · exact hord m m' b j z2 hb hm'
              · have z3 : m' ≠ m := fun z4 => by
                  rw [z4, hb] at hm'
                  exact hne (Option.some.inj hm').symm
                have := h2.2 (by omega)
                omega
            · exact .inl (by omega)
end
end K61
namespace K61
open PySem L2 Y LamX
local macro_rules | `(tactic| walk_at "lk") => `(tactic| with_reducible first | exact lkP_told_promise | exact lkP_told_ceiling | exact lkP_now_promise | exact lkP_now_ceiling | exact lkP_turns_used | exact lkS_own_length | exact lkS_portions | exact lkS_turns_passed | exact lkS_all_dealt | exact mnP_begin | exact mnS_need_guest | exact mnS_need_room_for | exact mnS_come | exact mnS_promised_one | exact mnS_free_one | exact mnS_deal | exact mnS_promised | exact mnS_change | exact mnS_length | exact mnS_names | exact mnS_counting)
local macro_rules | `(tactic| walk_at "ln") => `(tactic| first | exact lenP | exact lenS | (simp; done) | (show 0 < 1000; decide) | (show 1 < 1000; decide) | (show 2 < 1000; decide) | (show 3 < 1000; decide) | (show 4 < 1000; decide))

/-- all but the Shares at s, its list and its portions -/
def Out (s al : Addr) (n : Nat) (pt : Nat → Addr) (H H' : Hp) : Prop := ∀ a o, a ≠ s → a ≠ al → (∀ j, j < n → a ≠ pt j) → (∀ ps, o ≠ .tbl ps) → H a = some o → H' a = some o
theorem Out.of {s al : Addr} {n : Nat} {pt : Nat → Addr} {H H' : Hp} (e : ExtN H H') : Out s al n pt H H' := fun a o _ _ _ nt h => e a o h nt
theorem Out.trans {s al : Addr} {n : Nat} {pt : Nat → Addr} {H H' H2 : Hp} (e : Out s al n pt H H') (e2 : Out s al n pt H' H2) : Out s al n pt H H2 := fun a o h1 h2 h3 nt h => e2 a o h1 h2 h3 nt (e a o h1 h2 h3 nt h)
theorem y_cut {α : Type} {s s' : TS} {nx : L2.St → Hp → Prop} {rt : VK} {bk ct : L2.St → Hp → Prop} {σ : L2.St} {H : Hp} (Pm : α → L2.St → Hp → Prop) (tail : ∀ a σ' H', Pm a σ' H' → s' ⟨nx, rt, bk, ct⟩ σ' H') (h : (∀ a σ' H', Pm a σ' H' → s' ⟨nx, rt, bk, ct⟩ σ' H') → s ⟨s' ⟨nx, rt, bk, ct⟩, rt, bk, ct⟩ σ H) : tSeq s s' ⟨nx, rt, bk, ct⟩ σ H := h tail
theorem best_promise {n b : Nat} {p c u : Nat → Nat} (pc : ∀ j, j < n → p j ≤ c j) (h : BestP p u n (some b)) : Deal.Best n p c u (some b) := by
  obtain ⟨h1, h2, h3⟩ := h
  have := pc b h1
  refine ⟨h1, by omega, fun j hj hne hc => .inl ⟨h2, ?_⟩⟩
  by_cases hp : u j < p j
  · rcases h3 j hj hne hp with z | z
    · exact .inr (.inl z)
    · exact .inr (.inr ⟨z.1, decide_eq_true z.2⟩)
  · exact .inl (by omega)
theorem best_free {n : Nat} {b : Option Nat} {p c u : Nat → Nat} (h : BestP p u n none) (h2 : Free n c u b) : Deal.Best n p c u b := by
  cases b with
  | none => exact h2
  | some b =>
    obtain ⟨h3, h4, h5⟩ := h2
    refine ⟨h3, h4, fun j hj hne hc => .inr ⟨h b h3, h j hj, ?_⟩⟩
    rcases h5 j hj hne hc with z | z
    · exact .inl z
    · exact .inr ⟨z.1, decide_eq_true z.2⟩
theorem tabs_ins {T : List (Addr × Str)} {H H' : Hp} (t : Tabs T H) (e : ∀ a o, (∀ C dx fs, o ≠ .ins C dx fs) → H a = some o → H' a = some o) : Tabs T H' := fun p hp => by
  obtain ⟨ps, h1, h2, h3⟩ := t p hp
  refine ⟨ps, e _ _ (fun C dx fs z => by cases z) h1, h2, fun pos cv hc => ?_⟩
  obtain ⟨c, e1, e2⟩ := h3 pos cv hc
  exact ⟨c, e1, e _ _ (fun C dx fs z => by unfold CodeO at z; cases z) e2⟩
def bump (u : Nat → Nat) (b : Option Nat) : Nat → Nat := fun j => if b = some j then u j + 1 else u j
section
variable {P : Program} {w : World} {K : PySem.W.Frag} {mg : Str → Option Value} {base : Heap}
def sp_Shares_deal (CP CS Pt Pt2 : Addr) : Sp := fun vs H Q _ => ∃ (s pd al r : Addr) (L t : Nat) (nm : List Str) (pt : Nat → Addr) (tp tc np nc u : Nat → Nat) (d : List V) (rs : List Str), vs = [.ref s, .ref r] ∧ Sh H CP CS s pd al L t nm pt tp tc np nc u d ∧ H r = some (.lst (rs.map V.str)) ∧ (∀ z, z ∈ rs → z ∈ nm) ∧ rs.length ≤ 1000 ∧ (∀ i, i < nm.length → u i ≤ 100 ∧ np i ≤ 100 ∧ np i ≤ nc i) ∧ d.length ≤ 10000 ∧ Tabs (tabsOf Pt Pt2) H ∧
  ∀ b H', Out s al nm.length pt H H' → Tabs (tabsOf Pt Pt2) H' → Deal.Best nm.length (onR nm rs np) (onR nm rs nc) u b →
    Sh H' CP CS s pd al L (if t + 1 = L then 0 else t + 1) nm pt tp tc (if t + 1 = L then tp else np) (if t + 1 = L then tc else nc) (if t + 1 = L then fun _ => 0 else bump u b) (d ++ [nameV nm b]) → Q (nameV nm b) H'
theorem ok_Shares_deal {f : Addr} {fd : FuncData} (T : Txt K mg) {CPortion CShares CGuestError CTooMuch : Addr} (W : Own K mg CPortion CShares CGuestError CTooMuch) {ca Pt ca2 Pt2 : Addr} (C : Cd K mg base CShares ca Pt ca2 Pt2) (F : Fun K "deal" "Shares.deal" s_Shares_deal f fd) : FnOk P w K mg base CX0 4 f fd ["self", "ready"] (sp_Shares_deal CPortion CShares Pt Pt2) := by
  obtain ⟨f_Shares_promised_one, fd_Shares_promised_one, F_Shares_promised_one, m_Shares_promised_one⟩ := W.m_Shares_promised_one
  have G_Shares_promised_one := ok_Shares_promised_one (P := P) (w := w) (base := base) T W F_Shares_promised_one
  have b_Shares_promised_one := F_Shares_promised_one.binds (ps := ["self", "ready"]) fun _ _ _ _ _ _ us hl => match us, hl with | [_, _], _ => rfl
  obtain ⟨f_Shares_need_guest, fd_Shares_need_guest, F_Shares_need_guest, m_Shares_need_guest⟩ := W.m_Shares_need_guest
  have G_Shares_need_guest := ok_Shares_need_guest (P := P) (w := w) (base := base) T W F_Shares_need_guest
  have b_Shares_need_guest := F_Shares_need_guest.binds (ps := ["self", "name"]) fun _ _ _ _ _ _ us hl => match us, hl with | [_, _], _ => rfl
  obtain ⟨f_Shares_free_one, fd_Shares_free_one, F_Shares_free_one, m_Shares_free_one⟩ := C.d2
  have G_Shares_free_one := ok_Shares_free_one (P := P) (w := w) (base := base) T W C F_Shares_free_one
  have b_Shares_free_one := F_Shares_free_one.binds (ps := ["self", "ready"]) fun _ _ _ _ _ _ us hl => match us, hl with | [_, _], _ => rfl
  obtain ⟨f_Portion_begin, fd_Portion_begin, F_Portion_begin, m_Portion_begin⟩ := W.m_Portion_begin
  have G_Portion_begin := ok_Portion_begin (P := P) (w := w) (base := base) T W F_Portion_begin
  have b_Portion_begin := F_Portion_begin.binds (ps := ["self"]) fun _ _ _ _ _ _ us hl => match us, hl with | [_], _ => rfl
  have scp := sc_Shares_deal
  refine F.ok sc_Shares_deal (fun vs H Q E h => ?_) (fun cdv A outer s H vs Q E hr h => ?_)
  · first | (obtain ⟨rfl, _⟩ := h; rfl) | (obtain ⟨_, rfl, _⟩ := h; rfl) | (obtain ⟨_, _, rfl, _⟩ := h; rfl) | (obtain ⟨_, _, _, rfl, _⟩ := h; rfl) | (obtain ⟨_, _, _, _, rfl, _⟩ := h; rfl) | (obtain ⟨_, _, _, _, _, rfl, _⟩ := h; rfl) | (obtain ⟨_, _, _, _, _, _, rfl, _⟩ := h; rfl) | (obtain ⟨_, _, _, _, _, _, _, rfl, _⟩ := h; rfl) | (obtain ⟨_, _, _, _, _, _, _, _, rfl, _⟩ := h; rfl) | (obtain ⟨_, _, _, _, _, _, _, _, _, rfl, _⟩ := h; rfl) | (obtain ⟨_, _, _, _, _, _, _, _, _, _, rfl, _⟩ := h; rfl) | (obtain ⟨_, _, _, _, _, _, _, _, _, _, _, rfl, _⟩ := h; rfl) | (obtain ⟨_, _, _, _, _, _, _, _, _, _, _, _, rfl, _⟩ := h; rfl) | (obtain ⟨_, _, _, _, _, _, _, _, _, _, _, _, _, rfl, _⟩ := h; rfl) | (obtain ⟨_, _, _, _, _, _, _, _, _, _, _, _, _, _, rfl, _⟩ := h; rfl) | (obtain ⟨_, _, _, _, _, _, _, _, _, _, _, _, _, _, _, rfl, _⟩ := h; rfl) | (obtain ⟨_, _, _, _, _, _, _, _, _, _, _, _, _, _, _, _, rfl, _⟩ := h; rfl) | (obtain ⟨_, _, _, _, _, _, _, _, _, _, _, _, _, _, _, _, _, rfl, _⟩ := h; rfl) | (obtain ⟨_, _, _, _, _, _, _, _, _, _, _, _, _, _, _, _, _, _, rfl, _⟩ := h; rfl) | (obtain ⟨_, _, _, _, _, _, _, _, _, _, _, _, _, _, _, _, _, _, _, rfl, _⟩ := h; rfl) | (obtain ⟨_, _, _, _, _, _, _, _, _, _, _, _, _, _, _, _, _, _, _, _, rfl, _⟩ := h; rfl) | (obtain ⟨_, _, _, _, _, _, _, _, _, _, _, _, _, _, _, _, _, _, _, _, _, rfl, _⟩ := h; rfl) | (obtain ⟨_, _, _, _, _, _, _, _, _, _, _, _, _, _, _, _, _, _, _, _, _, _, rfl, _⟩ := h; rfl) | (obtain ⟨_, _, _, _, _, _, _, _, _, _, _, _, _, _, _, _, _, _, _, _, _, _, _, rfl, _⟩ := h; rfl) | (obtain ⟨_, _, _, _, _, _, _, _, _, _, _, _, _, _, _, _, _, _, _, _, _, _, _, _, rfl, _⟩ := h; rfl) | (obtain ⟨_, _, _, _, _, _, _, _, _, _, _, _, _, _, _, _, _, _, _, _, _, _, _, _, _, rfl, _⟩ := h; rfl) | (obtain ⟨_, _, _, _, _, _, _, _, _, _, _, _, _, _, _, _, _, _, _, _, _, _, _, _, _, _, rfl, _⟩ := h; rfl) | (obtain ⟨_, _, _, _, _, _, _, _, _, _, _, _, _, _, _, _, _, _, _, _, _, _, _, _, _, _, _, rfl, _⟩ := h; rfl)
  · obtain ⟨s0, pd, al, r, L, t, nm, pt, tp, tc, np, nc, u, d, rs, rfl, S, hr0, hrn, hrl, hlim, hd, hT, q⟩ := h
    have hu := hu_of hr
    have hv := hr.units
    have c_Portion := W.c_Portion; have n_Portion_told_promise := W.n_Portion_told_promise; have n_Portion_told_ceiling := W.n_Portion_told_ceiling; have n_Portion_now_promise := W.n_Portion_now_promise; have n_Portion_now_ceiling := W.n_Portion_now_ceiling; have n_Portion_turns_used := W.n_Portion_turns_used; have c_Shares := W.c_Shares; have n_Shares_own_length := W.n_Shares_own_length; have n_Shares_portions := W.n_Shares_portions; have n_Shares_turns_passed := W.n_Shares_turns_passed; have n_Shares_all_dealt := W.n_Shares_all_dealt
    obtain ⟨dx, hs⟩ := S.ob
    have hfew := S.few
    refine ⟨_, (pss_cons (ps_if (pt_not (pt_val (pe_callB (call_isiTY (K := K)) (by rfl) T.n_isinstance (by decide +kernel) (pa_cons (pv 1) (pa_cons (pe_tup (pa_cons (pe_bty (T := "list") T.n_list (by decide +kernel)) (pa_cons (pe_bty (T := "tuple") T.n_tuple (by decide +kernel)) pa_nil))) pa_nil)))))
  (pss_one ps_never)
  pss_nil)
  (pss_cons (ps_for PassesOwn.never rfl (pi_listK (K := K) (pv 1)) (pg_name (i := 2) scp.nd rfl (by first | exact Or.inl rfl | exact Or.inr rfl))
  (pss_one (ps_expr (pe_meth (pv 0) W.c_Shares m_Shares_need_guest (G_Shares_need_guest.mono (by decide)) hr b_Shares_need_guest .nil pass0 (pa_cons (pv 2) pa_nil)))))
  (pss_cons (ps_set (i := 2) scp.nd rfl (by first | exact Or.inl rfl | exact Or.inr rfl) (pe_meth (pv 0) W.c_Shares m_Shares_promised_one (G_Shares_promised_one.mono (by decide)) hr b_Shares_promised_one .nil pass0 (pa_cons (pv 1) pa_nil)))
  (pss_cons (ps_if (pt_cmpR op_isNo (pv 2) pe_non (nomark _))
  (pss_one (ps_set (i := 2) scp.nd rfl (by first | exact Or.inl rfl | exact Or.inr rfl) (pe_meth (pv 0) W.c_Shares m_Shares_free_one (G_Shares_free_one.mono (by decide)) hr b_Shares_free_one .nil pass0 (pa_cons (pv 1) pa_nil))))
  pss_nil)
  (pss_cons (ps_if (pt_cmpR op_notNo (pv 2) pe_non (nomark _))
  (pss_one (ps_fldaugK (K := K) (pe_ix (ix_anyK (K := K) hu) (pe_fldK (K := K) (pv 0)) (pv 2) (fun _ _ => rfl)) pe_int in_add))
  pss_nil)
  (pss_cons (ps_expr (pe_bmK (K := K) PySem.F.plainAttrs_list PySem.F.slot_list_append PySem.F.type_list_append mt_append (pe_fldK (K := K) (pv 0)) (pa_cons (pv 2) pa_nil)))
  (pss_cons (ps_fldaugK (K := K) (pv 0) pe_int in_add)
  (pss_cons (ps_if (pt_cmpR (op_eqK (K := K) hv) (pe_fldK (K := K) (pv 0)) (pe_fldK (K := K) (pv 0)) (nomark _))
  (pss_cons (ps_fldK (K := K) (pv 0) pe_int)
  (pss_one (ps_lock (ps_for PassesOwn.never rfl (pi_values (pe_fldK (K := K) (pv 0))) (pg_name (i := 3) scp.nd rfl (by first | exact Or.inl rfl | exact Or.inr rfl))
  (pss_one (ps_expr (pe_meth0 (pv 3) W.c_Portion m_Portion_begin (G_Portion_begin.mono (by decide)) hr b_Portion_begin .nil pass0)))))))
  pss_nil)
  (pss_one (ps_ret (pv 2))))))))))), ?_⟩
    walk_at "ys"
    refine ⟨sz_line (by simp), fun tp0 ntp0 => ?_⟩
    have e1 : Same H (upd H tp0 (.tup [.ty "list", .ty "tuple"])) := same_new0 ntp0
    have hr1 := e1 _ _ hr0
    walk_at "ys"
    generalize upd H tp0 (.tup [.ty "list", .ty "tuple"]) = H1 at *
    have S1 := S.same e1
    have hs1 := e1 _ _ hs
    refine for_it (walk_list (xs := rs.map V.str)) (fun m σ H' => ∃ u2 u3 : Option V, σ = [some (.ref s0), some (.ref r), u2, u3] ∧ H' = H1) ⟨none, none, rfl, rfl⟩ (fun i σ H' _ ⟨_, _, _, e⟩ => by rw [e]; exact SqL.of hr1) (fun i x σ H2 H3 hi hP hY => ?_) (fun σ H2 hP => ?_)
    · obtain ⟨u2, u3, rfl, rfl⟩ := hP
      obtain ⟨rfl, hx⟩ := hY
      rw [List.length_map] at hi
      rw [List.getElem?_map, List.getElem?_eq_getElem hi] at hx
      have hx := Option.some.inj hx
      subst hx
      have hzn := hrn _ (List.getElem_mem hi)
      obtain ⟨j, hj⟩ := List.mem_iff_getElem?.mp hzn
      have hjl : j < nm.length := (List.getElem?_eq_some_iff.mp hj).1
      walk_at "ys"
      refine ⟨s0, pd, al, dx, L, t, pdOf nm pt, rs[i], rfl, hs1, S1.dk, ?_, ?_⟩
      · rw [← nmF_of hj, pdOf_val S.nd hjl]
        rfl
      · walk_at "ys"
        exact ⟨_, _, rfl, rfl⟩
    · obtain ⟨u2, u3, rfl, rfl⟩ := hP
      walk_at "ys"
      refine ⟨s0, pd, al, r, L, t, nm, pt, tp, tc, np, nc, u, d, rs, rfl, S1, hr1, fun i hi => ⟨(hlim i hi).1, (hlim i hi).2.1⟩, fun b1 H3 e3 hB => ?_⟩
      have e3 := e1.trans e3
      have S3 := S.same e3
      have T3 := hT.ext e3
      refine y_name ?_
      refine y_cut (fun b σ' H' => (∃ u3 : Option V, σ' = [some (.ref s0), some (.ref r), some (nameV nm b), u3]) ∧ ExtN H H' ∧ Tabs (tabsOf Pt Pt2) H' ∧ Deal.Best nm.length (onR nm rs np) (onR nm rs nc) u b) (fun b σ' H4 hP => ?_) (fun tail => ?_)
      · obtain ⟨⟨u3, rfl⟩, e4, T4, hbest⟩ := hP
        have S4 : Sh H4 CPortion CShares s0 pd al L t nm pt tp tc np nc u d := ⟨⟨dx, e4 _ _ hs (fun ps z => by cases z)⟩, e4 _ _ S.pd (fun ps z => by cases z), fun j hj => (S.po j hj).imp fun _ h => e4 _ _ h (fun ps z => by cases z), e4 _ _ S.al (fun ps z => by cases z), S.nd, S.few, S.inj, S.ne⟩
        have hs4 := e4 _ _ hs (fun ps z => by cases z)
        have hp4 := S4.dk
        -- the used turn
        refine y_cut (fun (_ : Unit) σ' H' => σ' = [some (.ref s0), some (.ref r), some (nameV nm b), u3] ∧ Out s0 al nm.length pt H H' ∧ Tabs (tabsOf Pt Pt2) H' ∧ Sh H' CPortion CShares s0 pd al L t nm pt tp tc np nc (bump u b) d) (fun _ σ' H5 hP => ?_) (fun tail => ?_)
        · obtain ⟨rfl, o5, T5, S5⟩ := hP
          obtain ⟨d5, hs5⟩ := S5.ob
          have hal5 := S5.al
          walk_at "ys"
          refine y_append hal5 (sz_lt (by omega)) ?_
          have S6 : Sh (upd H5 al (.lst (d ++ [nameV nm b]))) CPortion CShares s0 pd al L t nm pt tp tc np nc (bump u b) (d ++ [nameV nm b]) :=
            ⟨⟨d5, by rw [upd_ne (ne_of hs5 hal5 (fun z => by cases z))]; exact hs5⟩, by rw [upd_ne (ne_of S5.pd hal5 (fun z => by cases z))]; exact S5.pd, fun j hj => (S5.po j hj).imp fun _ h => by rw [upd_ne (ne_of h hal5 (fun z => by cases z))]; exact h, upd_same, S.nd, S.few, S.inj, S.ne⟩
          have o6 : Out s0 al nm.length pt H (upd H5 al (.lst (d ++ [nameV nm b]))) := fun a o n1 n2 n3 nt h => by
            rw [upd_ne n2]
            exact o5 a o n1 n2 n3 nt h
          have T6 : Tabs (tabsOf Pt Pt2) (upd H5 al (.lst (d ++ [nameV nm b]))) := tabs_upd T5 hal5 (fun ps z => by cases z) (fun c q z => by unfold CodeO at z; cases z)
          generalize upd H5 al (.lst (d ++ [nameV nm b])) = H6 at *
          obtain ⟨d6, hs6⟩ := S6.ob
          walk_at "ys"
          refine y_putF hs6 lenS ?_
          have et : V.int ((t : Nat) + 1 : Int) = V.int ((t + 1 : Nat) : Int) := rfl
          rw [et, pfS_turns_passed]
          have o7 : ∀ t' : Nat, Out s0 al nm.length pt H (upd H6 s0 (.ins CShares d6 (fldS L pd t' al))) := fun t' a o n1 n2 n3 nt h => by
            rw [upd_ne n1]
            exact o6 a o n1 n2 n3 nt h
          have T7 : ∀ t' : Nat, Tabs (tabsOf Pt Pt2) (upd H6 s0 (.ins CShares d6 (fldS L pd t' al))) := fun t' => tabs_upd T6 hs6 (fun ps z => by cases z) (fun c q z => by unfold CodeO at z; cases z)
          have S7 : ∀ t' : Nat, Sh (upd H6 s0 (.ins CShares d6 (fldS L pd t' al))) CPortion CShares s0 pd al L t' nm pt tp tc np nc (bump u b) (d ++ [nameV nm b]) := fun t' =>
            ⟨⟨d6, upd_same⟩, by rw [upd_ne (ne_of S6.pd hs6 (fun z => by cases z))]; exact S6.pd, fun j hj => (S6.po j hj).imp fun _ h => by rw [upd_ne (S.ne j hj)]; exact h, by rw [upd_ne (ne_of S6.al hs6 (fun z => by cases z))]; exact S6.al, S.nd, S.few, S.inj, S.ne⟩
          have hs7 : upd H6 s0 (.ins CShares d6 (fldS L pd (t + 1) al)) s0 = some (.ins CShares d6 (fldS L pd (t + 1) al)) := upd_same
          walk_at "ys"
          refine y_d2 (fun g => ?_) (fun g => ?_)
          · have g : t + 1 = L := by have := V.int.inj g; omega
            walk_at "ys"
            refine y_setF hs7 c_Shares n_Shares_turns_passed lenS ?_
            rw [show V.int 0 = V.int ((0 : Nat) : Int) from rfl, pfS_turns_passed, upd_upd]
            have S8 := S7 0
            have o8 := o7 0
            have T8 := T7 0
            generalize upd H6 s0 (.ins CShares d6 (fldS L pd 0 al)) = H8 at *
            refine y_lock S8.dk True.intro (fun od => ?_)
            have hpp : upd H8 pd (.frz od (.dK (pdOf nm pt))) pd = some (.frz od (.dK (pdOf nm pt))) := upd_same
            have keep : ∀ a o, (∀ kvs, o ≠ .dK kvs) → H8 a = some o → upd H8 pd (.frz od (.dK (pdOf nm pt))) a = some o := fun a o n h => by
              rw [upd_ne (ne_of h S8.dk (n _))]
              exact h
            have back : ∀ H', (∀ a o, (∀ j, j < nm.length → a ≠ pt j) → upd H8 pd (.frz od (.dK (pdOf nm pt))) a = some o → H' a = some o) → ∀ a o, (∀ j, j < nm.length → a ≠ pt j) → H8 a = some o → upd H' pd (.dK (pdOf nm pt)) a = some o := fun H' F a o n h => by
              by_cases ea : a = pd
              · rw [ea, upd_same]
                rw [ea, S8.dk] at h
                exact h
              · rw [upd_ne ea]
                exact F a o n (by rw [upd_ne ea]; exact h)
            have po8 : ∀ j, j < nm.length → ∃ dx, upd H8 pd (.frz od (.dK (pdOf nm pt))) (pt j) = some (.ins CPortion dx (fldP (tp j) (tc j) (np j) (nc j) (bump u b j))) := fun j hj => (S8.po j hj).imp fun _ h => keep _ _ (fun _ z => by cases z) h
            have hs8 : ∃ dx, upd H8 pd (.frz od (.dK (pdOf nm pt))) s0 = some (.ins CShares dx (fldS L pd 0 al)) := S8.ob.imp fun _ h => keep _ _ (fun _ z => by cases z) h
            have npp : ∀ j, j < nm.length → pd ≠ pt j := fun j hj => by
              obtain ⟨dj, hj2⟩ := S8.po j hj
              exact ne_of S8.dk hj2 (fun z => by cases z)
            generalize hHL : upd H8 pd (.frz od (.dK (pdOf nm pt))) = HL at *
            walk_at "ys"
            have nsp : ∀ j, j < nm.length → s0 ≠ pt j := fun j hj => (S.ne j hj).symm
            obtain ⟨d8, hs8⟩ := hs8
            walk_at "ys"
            refine for_it walk_values (fun i σ H' => (∃ u3 : Option V, σ = [some (.ref s0), some (.ref r), some (nameV nm b), u3]) ∧ (∀ a o, (∀ j, j < nm.length → a ≠ pt j) → HL a = some o → H' a = some o) ∧ (∀ j, j < nm.length → ∃ dx, H' (pt j) = some (.ins CPortion dx (fldP (tp j) (tc j) (if j < i then tp j else np j) (if j < i then tc j else nc j) (if j < i then 0 else bump u b j)))))
              ⟨⟨_, rfl⟩, fun a o _ h => h, fun j hj => by simpa using po8 j hj⟩ (fun i σ H' _ h => h.2.1 _ _ npp hpp) (fun i x σ H9 H10 hi hP hY => ?_) (fun σ H9 hP => ?_)
            · obtain ⟨⟨u3', rfl⟩, F9, po9⟩ := hP
              obtain ⟨rfl, kk, hkv⟩ := hY
              obtain ⟨hin, rfl, rfl⟩ := pdOf_keys nm pt hkv
              obtain ⟨di, hpi⟩ := po9 i hin
              walk_at "ys"
              refine ⟨pt i, di, tp i, tc i, _, _, _, rfl, hpi, fun H11 e11 h11 => ?_⟩
              walk_at "ys"
              refine ⟨⟨_, rfl⟩, fun a o n h => e11 _ _ (n i hin) (F9 _ _ n h), fun j hj => ?_⟩
              by_cases ej : j = i
              · subst ej
                exact ⟨di, by simpa using h11⟩
              · obtain ⟨dj, hj2⟩ := po9 j hj
                refine ⟨dj, ?_⟩
                have hne : pt j ≠ pt i := fun z => ej (S.inj _ _ hj hin z)
                have := e11 _ _ hne hj2
                by_cases hji : j < i
                · rw [if_pos hji, if_pos hji, if_pos hji] at this
                  rw [if_pos (by omega), if_pos (by omega), if_pos (by omega)]
                  exact this
                · rw [if_neg hji, if_neg hji, if_neg hji] at this
                  rw [if_neg (by omega), if_neg (by omega), if_neg (by omega)]
                  exact this
            · obtain ⟨⟨u3', rfl⟩, F9, po9⟩ := hP
              rw [pdOf_len] at po9
              refine ⟨F9 _ _ npp hpp, ?_⟩
              have B := back H9 F9
              walk_at "ys"
              refine q b _ (fun a o n1 n2 n3 nt h => B a o n3 (o8 a o n1 n2 n3 nt h)) (tabs_ins T8 (fun a o n h => B a o (fun j hj z => by
                obtain ⟨dj, hj2⟩ := S8.po j hj
                rw [z, hj2] at h
                exact n _ _ _ (Option.some.inj h).symm) h)) hbest ?_
              rw [if_pos g, if_pos g, if_pos g, if_pos g]
              refine ⟨S8.ob.imp fun _ h => B _ _ nsp h, upd_same, fun j hj => ?_, B _ _ (fun j hj => ?_) S8.al, S.nd, S.few, S.inj, S.ne⟩
              · obtain ⟨dj, hj2⟩ := po9 j hj
                refine ⟨dj, ?_⟩
                rw [if_pos hj, if_pos hj, if_pos hj] at hj2
                rw [upd_ne (Ne.symm (npp j hj))]
                exact hj2
              · obtain ⟨dj, hj2⟩ := S8.po j hj
                exact ne_of S8.al hj2 (fun z => by cases z)
          · have g : ¬ t + 1 = L := fun z => g (by rw [z])
            walk_at "ys"
            refine q b _ (o7 (t + 1)) (T7 (t + 1)) hbest ?_
            rw [if_neg g, if_neg g, if_neg g, if_neg g]
            exact S7 (t + 1)
        · cases b with
          | none =>
            refine y_ifS (y_tt (y_op (y_var rfl (y_c (y_notNo (y_bl (y_ndT (show nameV nm none = V.non from rfl) (y_next ?_))))))))
            exact tail () _ _ ⟨rfl, Out.of e4, T4, S4⟩
          | some b =>
            obtain ⟨hbn, hbc, _⟩ := hbest
            obtain ⟨db, hpb⟩ := S4.po b hbn
            walk_at "ys"
            refine y_ndF (fun z => nomatch z) ?_
            walk_at "ys"
            refine y_ixK hp4 (pdOf_val S.nd hbn) ?_
            walk_at "ys"
            refine y_putF hpb lenP ?_
            have eu : V.int ((u b : Nat) + 1 : Int) = V.int ((u b + 1 : Nat) : Int) := rfl
            rw [eu, pfP_turns_used]
            refine tail () _ _ ⟨rfl, fun a o n1 n2 n3 nt h => ?_, tabs_upd T4 hpb (fun ps z => by cases z) (fun c q z => by unfold CodeO at z; cases z), ⟨⟨dx, ?_⟩, ?_, fun j hj => ?_, ?_, S.nd, S.few, S.inj, S.ne⟩⟩
            · rw [upd_ne (n3 b hbn)]
              exact e4 _ _ h nt
            · rw [upd_ne (Ne.symm (S.ne b hbn))]
              exact hs4
            · rw [upd_ne (ne_of S4.dk hpb (fun z => by cases z))]
              exact S4.pd
            · by_cases ej : j = b
              · subst ej
                refine ⟨db, ?_⟩
                rw [upd_same]
                unfold bump
                rw [if_pos rfl]
              · obtain ⟨dj, hj2⟩ := S4.po j hj
                refine ⟨dj, ?_⟩
                rw [upd_ne (fun z => ej (S.inj _ _ hj hbn z))]
                unfold bump
                rw [if_neg (fun z => ej (Option.some.inj z).symm)]
                exact hj2
            · rw [upd_ne (ne_of S4.al hpb (fun z => by cases z))]
              exact S4.al
      · cases b1 with
        | some b =>
          walk_at "ys"
          refine y_dF (fun z => nomatch z) ?_
          refine y_next ?_
          exact tail (some b) _ _ ⟨⟨_, rfl⟩, ExtN.of e3, T3, best_promise (fun j hj => by
            unfold onR
            split
            · exact (hlim j hj).2.2
            · exact Nat.le_refl _) hB⟩
        | none =>
          walk_at "ys"
          refine ⟨s0, pd, al, r, L, t, nm, pt, tp, tc, np, nc, u, d, rs, rfl, S3, e3 _ _ hr0, T3, fun b H4 e4 T4 hF => ?_⟩
          refine y_name ?_
          exact tail b _ _ ⟨⟨_, rfl⟩, (ExtN.of e3).trans e4, T4, best_free hB hF⟩
end
end K61
namespace K61
open PySem L2 Y LamX
local macro_rules | `(tactic| walk_at "lk") => `(tactic| with_reducible first | exact lkP_told_promise | exact lkP_told_ceiling | exact lkP_now_promise | exact lkP_now_ceiling | exact lkP_turns_used | exact lkS_own_length | exact lkS_portions | exact lkS_turns_passed | exact lkS_all_dealt | exact mnP_begin | exact mnS_need_guest | exact mnS_need_room_for | exact mnS_come | exact mnS_promised_one | exact mnS_free_one | exact mnS_deal | exact mnS_promised | exact mnS_change | exact mnS_length | exact mnS_names | exact mnS_counting)
local macro_rules | `(tactic| walk_at "ln") => `(tactic| first | exact lenP | exact lenS | (simp; done) | (show 0 < 1000; decide) | (show 1 < 1000; decide) | (show 2 < 1000; decide) | (show 3 < 1000; decide) | (show 4 < 1000; decide))

theorem bestR_of {nm rs : List Str} {p c u : Nat → Nat} {b : Option Nat} (h : Deal.Best nm.length (onR nm rs p) (onR nm rs c) u b) : Deal.BestR nm.length p c u (fun j => nmF nm j ∈ rs) b := by
  cases b with
  | none =>
    intro j hj hr
    have := h j hj
    rw [onR_in hr] at this
    exact this
  | some b =>
    obtain ⟨h1, h2, h3⟩ := h
    have hb : nmF nm b ∈ rs := by
      refine Decidable.byContradiction fun z => ?_
      rw [onR_out z] at h2
      omega
    rw [onR_in hb] at h2
    refine ⟨h1, hb, h2, fun j hj hr hne hc => ?_⟩
    have := h3 j hj hne (by rw [onR_in hr]; exact hc)
    rw [onR_in hr, onR_in hb] at this
    exact this
/-- all but the lists as it was -/
def SameT (H H' : Hp) : Prop := ∀ a u, (∀ xs, u ≠ .lst xs) → H a = some u → H' a = some u
theorem SameT.of {H H' : Hp} (e : Same H H') : SameT H H' := fun a u _ h => e a u h
theorem SameT.put {H : Hp} {D : Addr} {xs : List V} {o : HO} (h : H D = some (.lst xs)) : SameT H (upd H D o) := fun a u n e => by
  rw [upd_ne (fun z => n xs (by rw [z, h] at e; exact (Option.some.inj e).symm))]
  exact e
theorem lc_rel {J : It} {n : Nat} {G : Hp → Prop} {Y : Nat → Hp → V → Hp → Prop} {g : TG} {tt : TT} {te : TE} {vs : List Nat} {σ : L2.St} {H0 : Hp} {D : Addr} {Qd : Hp → Prop} (R : Nat → V → Hp → Prop) (hR : ∀ i v H H', SameT H H' → R i v H → R i v H') (w : Walk J n G Y) (nD : H0 D = none) (hn : n < sizeLine)
    (hG : ∀ H', Same H0 H' → G H')
    (hs : ∀ (i : Nat) (x : V) (H1 H2 : Hp) (Nx : Hp → Prop), i < n → Same H0 H1 → Y i H1 x H2 →
      (∀ y H5, Same H1 H5 → R i y H5 → ∃ acc, H5 D = some (.lst acc) ∧ acc.length < sizeLine ∧ Nx (upd H5 D (.lst (acc ++ [y])))) →
      g x (wipe σ vs) H2 fun σ2 H3 => wipe σ2 vs = wipe σ vs ∧ tt σ2 H3 fun b H4 => if b = true then te σ2 H4 fun y H5 => ∃ acc, H5 D = some (.lst acc) ∧ acc.length < sizeLine ∧ Nx (upd H5 D (.lst (acc ++ [y]))) else Nx H4)
    (hd : ∀ (H' : Hp) (ys : List V), Same H0 H' → ys.length = n → (∀ i y, ys[i]? = some y → R i y H') → H' D = some (.lst ys) → Qd H') :
    ∃ W : Nat → Nat → Hp → Prop, (∃ m, W 0 m (upd H0 D (.lst []))) ∧ ∀ i m H, W i m H →
      (J.stop i H ∧ Qd H) ∨ (J.go i H ∧ ∃ Nx : Hp → Prop, (∀ H', Nx H' → ∃ m', m' < m ∧ W (i + 1) m' H') ∧ ∀ x H', J.yld i H x H' → g x (wipe σ vs) H' fun σ2 H2 => wipe σ2 vs = wipe σ vs ∧ tt σ2 H2 fun b H3 =>
        if b = true then te σ2 H3 fun y H4 => ∃ acc, H4 D = some (.lst acc) ∧ acc.length < sizeLine ∧ Nx (upd H4 D (.lst (acc ++ [y]))) else Nx H3) := by
  refine lc_it w (fun i H => Same H0 H ∧ ∃ ys : List V, ys.length = i ∧ (∀ j y, ys[j]? = some y → R j y H) ∧ H D = some (.lst ys)) ⟨same_new0 nD, [], rfl, fun j a h => by simp at h, upd_same⟩ (fun i H _ h => hG H h.1) (fun i x H H' hi hP hY => ?_) (fun H h => ?_)
  · obtain ⟨e, ys, hl, ha, hD⟩ := hP
    refine hs i x H H' (fun H4 => Same H0 H4 ∧ ∃ ys : List V, ys.length = i + 1 ∧ (∀ j y, ys[j]? = some y → R j y H4) ∧ H4 D = some (.lst ys)) hi e hY (fun y H5 e5 h5 => ?_)
    have hD5 := e5 _ _ hD
    refine ⟨_, hD5, by rw [hl]; exact Nat.lt_trans hi hn, same_upd (e.trans e5) nD, ys ++ [y], by rw [List.length_append, hl]; rfl, fun j b hb => ?_, upd_same⟩
    refine hR _ _ _ _ (SameT.put hD5) ?_
    by_cases h : j < ys.length
    · rw [List.getElem?_append_left h] at hb
      exact hR _ _ _ _ (SameT.of e5) (ha j b hb)
    · rw [List.getElem?_append_right (by omega)] at hb
      have hj : j - ys.length = 0 := by
        by_cases z : j - ys.length = 0
        · exact z
        · rw [List.getElem?_eq_none (by simp; omega)] at hb
          cases hb
      rw [hj] at hb
      have : y = b := Option.some.inj hb
      subst this
      have : j = i := by omega
      rw [this]
      exact h5
  · obtain ⟨e, ys, hl, ha, hD⟩ := h
    exact hd H ys e hl ha hD
theorem pdOf_names (nm : List Str) (pt : Nat → Addr) : (pdOf nm pt).map (fun kv => kV kv.1) = nm.map V.str := by
  unfold pdOf
  rw [List.map_map]
  have e : nm = (List.range nm.length).map (nmF nm) := by
    refine List.ext_getElem? fun i => ?_
    rw [List.getElem?_map]
    by_cases h : i < nm.length
    · rw [List.getElem?_range h, nmF_at h]
      rfl
    · rw [List.getElem?_eq_none (by omega), List.getElem?_eq_none (by rw [List.length_range]; omega)]
      rfl
  conv => rhs; rw [e]
  rw [List.map_map]
  rfl
/-- f with another value at i -/
def set1 (f : Nat → Nat) (i x : Nat) : Nat → Nat := fun j => if j = i then x else f j
theorem sum_set1 {f : Nat → Nat} {i x : Nat} : ∀ {n : Nat}, i < n → Deal.sumTo (set1 f i x) n + f i = Deal.sumTo f n + x := by
  intro n hi
  rw [Deal.sumTo_at (f := set1 f i x) hi, Deal.sumTo_at (f := f) hi]
  have e : (fun j => if j = i then 0 else set1 f i x j) = fun j => if j = i then 0 else f j := funext fun j => by
    unfold set1
    by_cases z : j = i
    · rw [if_pos z, if_pos z]
    · rw [if_neg z, if_neg z, if_neg z]
  rw [e]
  unfold set1
  rw [if_pos rfl]
  omega
section
variable {P : Program} {w : World} {K : PySem.W.Frag} {mg : Str → Option Value} {base : Heap}
def sp_Shares_length (CP CS : Addr) : Sp := fun vs H Q _ => ∃ (s pd al : Addr) (L t : Nat) (nm : List Str) (pt : Nat → Addr) (tp tc np nc u : Nat → Nat) (d : List V), vs = [.ref s] ∧ Sh H CP CS s pd al L t nm pt tp tc np nc u d ∧ Q (.int L) H
theorem ok_Shares_length {f : Addr} {fd : FuncData} (T : Txt K mg) {CPortion CShares CGuestError CTooMuch : Addr} (W : Own K mg CPortion CShares CGuestError CTooMuch) (F : Fun K "length" "Shares.length" s_Shares_length f fd) : FnOk P w K mg base CX0 1 f fd ["self"] (sp_Shares_length CPortion CShares) := by
  have scp := sc_Shares_length
  refine F.ok sc_Shares_length (fun vs H Q E h => ?_) (fun cdv A outer s H vs Q E hr h => ?_)
  · first | (obtain ⟨rfl, _⟩ := h; rfl) | (obtain ⟨_, rfl, _⟩ := h; rfl) | (obtain ⟨_, _, rfl, _⟩ := h; rfl) | (obtain ⟨_, _, _, rfl, _⟩ := h; rfl) | (obtain ⟨_, _, _, _, rfl, _⟩ := h; rfl) | (obtain ⟨_, _, _, _, _, rfl, _⟩ := h; rfl) | (obtain ⟨_, _, _, _, _, _, rfl, _⟩ := h; rfl) | (obtain ⟨_, _, _, _, _, _, _, rfl, _⟩ := h; rfl) | (obtain ⟨_, _, _, _, _, _, _, _, rfl, _⟩ := h; rfl) | (obtain ⟨_, _, _, _, _, _, _, _, _, rfl, _⟩ := h; rfl) | (obtain ⟨_, _, _, _, _, _, _, _, _, _, rfl, _⟩ := h; rfl) | (obtain ⟨_, _, _, _, _, _, _, _, _, _, _, rfl, _⟩ := h; rfl) | (obtain ⟨_, _, _, _, _, _, _, _, _, _, _, _, rfl, _⟩ := h; rfl) | (obtain ⟨_, _, _, _, _, _, _, _, _, _, _, _, _, rfl, _⟩ := h; rfl) | (obtain ⟨_, _, _, _, _, _, _, _, _, _, _, _, _, _, rfl, _⟩ := h; rfl) | (obtain ⟨_, _, _, _, _, _, _, _, _, _, _, _, _, _, _, rfl, _⟩ := h; rfl) | (obtain ⟨_, _, _, _, _, _, _, _, _, _, _, _, _, _, _, _, rfl, _⟩ := h; rfl) | (obtain ⟨_, _, _, _, _, _, _, _, _, _, _, _, _, _, _, _, _, rfl, _⟩ := h; rfl) | (obtain ⟨_, _, _, _, _, _, _, _, _, _, _, _, _, _, _, _, _, _, rfl, _⟩ := h; rfl) | (obtain ⟨_, _, _, _, _, _, _, _, _, _, _, _, _, _, _, _, _, _, _, rfl, _⟩ := h; rfl) | (obtain ⟨_, _, _, _, _, _, _, _, _, _, _, _, _, _, _, _, _, _, _, _, rfl, _⟩ := h; rfl) | (obtain ⟨_, _, _, _, _, _, _, _, _, _, _, _, _, _, _, _, _, _, _, _, _, rfl, _⟩ := h; rfl) | (obtain ⟨_, _, _, _, _, _, _, _, _, _, _, _, _, _, _, _, _, _, _, _, _, _, rfl, _⟩ := h; rfl) | (obtain ⟨_, _, _, _, _, _, _, _, _, _, _, _, _, _, _, _, _, _, _, _, _, _, _, rfl, _⟩ := h; rfl) | (obtain ⟨_, _, _, _, _, _, _, _, _, _, _, _, _, _, _, _, _, _, _, _, _, _, _, _, rfl, _⟩ := h; rfl) | (obtain ⟨_, _, _, _, _, _, _, _, _, _, _, _, _, _, _, _, _, _, _, _, _, _, _, _, _, rfl, _⟩ := h; rfl) | (obtain ⟨_, _, _, _, _, _, _, _, _, _, _, _, _, _, _, _, _, _, _, _, _, _, _, _, _, _, rfl, _⟩ := h; rfl) | (obtain ⟨_, _, _, _, _, _, _, _, _, _, _, _, _, _, _, _, _, _, _, _, _, _, _, _, _, _, _, rfl, _⟩ := h; rfl)
  · obtain ⟨s0, pd, al, L, t, nm, pt, tp, tc, np, nc, u, d, rfl, S, q⟩ := h
    have hu := hu_of hr
    have hv := hr.units
    have c_Portion := W.c_Portion; have n_Portion_told_promise := W.n_Portion_told_promise; have n_Portion_told_ceiling := W.n_Portion_told_ceiling; have n_Portion_now_promise := W.n_Portion_now_promise; have n_Portion_now_ceiling := W.n_Portion_now_ceiling; have n_Portion_turns_used := W.n_Portion_turns_used; have c_Shares := W.c_Shares; have n_Shares_own_length := W.n_Shares_own_length; have n_Shares_portions := W.n_Shares_portions; have n_Shares_turns_passed := W.n_Shares_turns_passed; have n_Shares_all_dealt := W.n_Shares_all_dealt
    obtain ⟨dx, hs⟩ := S.ob
    refine ⟨_, (pss_one (ps_ret (pe_fldK (K := K) (pv 0)))), ?_⟩
    walk_at "ys"
    exact q
def sp_Shares_names (CP CS : Addr) : Sp := fun vs H Q _ => ∃ (s pd al : Addr) (L t : Nat) (nm : List Str) (pt : Nat → Addr) (tp tc np nc u : Nat → Nat) (d : List V), vs = [.ref s] ∧ Sh H CP CS s pd al L t nm pt tp tc np nc u d ∧ ∀ l, H l = none → Q (.ref l) (upd H l (.lst (nm.map V.str)))
theorem ok_Shares_names {f : Addr} {fd : FuncData} (T : Txt K mg) {CPortion CShares CGuestError CTooMuch : Addr} (W : Own K mg CPortion CShares CGuestError CTooMuch) (F : Fun K "names" "Shares.names" s_Shares_names f fd) : FnOk P w K mg base CX0 1 f fd ["self"] (sp_Shares_names CPortion CShares) := by
  have scp := sc_Shares_names
  refine F.ok sc_Shares_names (fun vs H Q E h => ?_) (fun cdv A outer s H vs Q E hr h => ?_)
  · first | (obtain ⟨rfl, _⟩ := h; rfl) | (obtain ⟨_, rfl, _⟩ := h; rfl) | (obtain ⟨_, _, rfl, _⟩ := h; rfl) | (obtain ⟨_, _, _, rfl, _⟩ := h; rfl) | (obtain ⟨_, _, _, _, rfl, _⟩ := h; rfl) | (obtain ⟨_, _, _, _, _, rfl, _⟩ := h; rfl) | (obtain ⟨_, _, _, _, _, _, rfl, _⟩ := h; rfl) | (obtain ⟨_, _, _, _, _, _, _, rfl, _⟩ := h; rfl) | (obtain ⟨_, _, _, _, _, _, _, _, rfl, _⟩ := h; rfl) | (obtain ⟨_, _, _, _, _, _, _, _, _, rfl, _⟩ := h; rfl) | (obtain ⟨_, _, _, _, _, _, _, _, _, _, rfl, _⟩ := h; rfl) | (obtain ⟨_, _, _, _, _, _, _, _, _, _, _, rfl, _⟩ := h; rfl) | (obtain ⟨_, _, _, _, _, _, _, _, _, _, _, _, rfl, _⟩ := h; rfl) | (obtain ⟨_, _, _, _, _, _, _, _, _, _, _, _, _, rfl, _⟩ := h; rfl) | (obtain ⟨_, _, _, _, _, _, _, _, _, _, _, _, _, _, rfl, _⟩ := h; rfl) | (obtain ⟨_, _, _, _, _, _, _, _, _, _, _, _, _, _, _, rfl, _⟩ := h; rfl) | (obtain ⟨_, _, _, _, _, _, _, _, _, _, _, _, _, _, _, _, rfl, _⟩ := h; rfl) | (obtain ⟨_, _, _, _, _, _, _, _, _, _, _, _, _, _, _, _, _, rfl, _⟩ := h; rfl) | (obtain ⟨_, _, _, _, _, _, _, _, _, _, _, _, _, _, _, _, _, _, rfl, _⟩ := h; rfl) | (obtain ⟨_, _, _, _, _, _, _, _, _, _, _, _, _, _, _, _, _, _, _, rfl, _⟩ := h; rfl) | (obtain ⟨_, _, _, _, _, _, _, _, _, _, _, _, _, _, _, _, _, _, _, _, rfl, _⟩ := h; rfl) | (obtain ⟨_, _, _, _, _, _, _, _, _, _, _, _, _, _, _, _, _, _, _, _, _, rfl, _⟩ := h; rfl) | (obtain ⟨_, _, _, _, _, _, _, _, _, _, _, _, _, _, _, _, _, _, _, _, _, _, rfl, _⟩ := h; rfl) | (obtain ⟨_, _, _, _, _, _, _, _, _, _, _, _, _, _, _, _, _, _, _, _, _, _, _, rfl, _⟩ := h; rfl) | (obtain ⟨_, _, _, _, _, _, _, _, _, _, _, _, _, _, _, _, _, _, _, _, _, _, _, _, rfl, _⟩ := h; rfl) | (obtain ⟨_, _, _, _, _, _, _, _, _, _, _, _, _, _, _, _, _, _, _, _, _, _, _, _, _, rfl, _⟩ := h; rfl) | (obtain ⟨_, _, _, _, _, _, _, _, _, _, _, _, _, _, _, _, _, _, _, _, _, _, _, _, _, _, rfl, _⟩ := h; rfl) | (obtain ⟨_, _, _, _, _, _, _, _, _, _, _, _, _, _, _, _, _, _, _, _, _, _, _, _, _, _, _, rfl, _⟩ := h; rfl)
  · obtain ⟨s0, pd, al, L, t, nm, pt, tp, tc, np, nc, u, d, rfl, S, q⟩ := h
    have hu := hu_of hr
    have hv := hr.units
    have c_Portion := W.c_Portion; have n_Portion_told_promise := W.n_Portion_told_promise; have n_Portion_told_ceiling := W.n_Portion_told_ceiling; have n_Portion_now_promise := W.n_Portion_now_promise; have n_Portion_now_ceiling := W.n_Portion_now_ceiling; have n_Portion_turns_used := W.n_Portion_turns_used; have c_Shares := W.c_Shares; have n_Shares_own_length := W.n_Shares_own_length; have n_Shares_portions := W.n_Shares_portions; have n_Shares_turns_passed := W.n_Shares_turns_passed; have n_Shares_all_dealt := W.n_Shares_all_dealt
    obtain ⟨dx, hs⟩ := S.ob
    refine ⟨_, (pss_one (ps_ret (pe_callTy (call_listK (K := K) rfl) (by rfl) T.n_list (by decide +kernel) (pa_cons (pe_fldK (K := K) (pv 0)) pa_nil)))), ?_⟩
    walk_at "ys"
    refine y_listK S.dk (fun l nl => ?_)
    rw [pdOf_names]
    exact q l nl
def sp_Shares_counting (CP CS : Addr) : Sp := fun vs H Q _ => ∃ (s pd al : Addr) (L t : Nat) (nm : List Str) (pt : Nat → Addr) (tp tc np nc u : Nat → Nat) (d : List V) (i : Nat), vs = [.ref s, .str (nmF nm i)] ∧ i < nm.length ∧ Sh H CP CS s pd al L t nm pt tp tc np nc u d ∧ ∀ l, H l = none → Q (.ref l) (upd H l (.tup [.int (np i), .int (nc i)]))
theorem ok_Shares_counting {f : Addr} {fd : FuncData} (T : Txt K mg) {CPortion CShares CGuestError CTooMuch : Addr} (W : Own K mg CPortion CShares CGuestError CTooMuch) (F : Fun K "counting" "Shares.counting" s_Shares_counting f fd) : FnOk P w K mg base CX0 2 f fd ["self", "name"] (sp_Shares_counting CPortion CShares) := by
  obtain ⟨f_Shares_need_guest, fd_Shares_need_guest, F_Shares_need_guest, m_Shares_need_guest⟩ := W.m_Shares_need_guest
  have G_Shares_need_guest := ok_Shares_need_guest (P := P) (w := w) (base := base) T W F_Shares_need_guest
  have b_Shares_need_guest := F_Shares_need_guest.binds (ps := ["self", "name"]) fun _ _ _ _ _ _ us hl => match us, hl with | [_, _], _ => rfl
  have scp := sc_Shares_counting
  refine F.ok sc_Shares_counting (fun vs H Q E h => ?_) (fun cdv A outer s H vs Q E hr h => ?_)
  · first | (obtain ⟨rfl, _⟩ := h; rfl) | (obtain ⟨_, rfl, _⟩ := h; rfl) | (obtain ⟨_, _, rfl, _⟩ := h; rfl) | (obtain ⟨_, _, _, rfl, _⟩ := h; rfl) | (obtain ⟨_, _, _, _, rfl, _⟩ := h; rfl) | (obtain ⟨_, _, _, _, _, rfl, _⟩ := h; rfl) | (obtain ⟨_, _, _, _, _, _, rfl, _⟩ := h; rfl) | (obtain ⟨_, _, _, _, _, _, _, rfl, _⟩ := h; rfl) | (obtain ⟨_, _, _, _, _, _, _, _, rfl, _⟩ := h; rfl) | (obtain ⟨_, _, _, _, _, _, _, _, _, rfl, _⟩ := h; rfl) | (obtain ⟨_, _, _, _, _, _, _, _, _, _, rfl, _⟩ := h; rfl) | (obtain ⟨_, _, _, _, _, _, _, _, _, _, _, rfl, _⟩ := h; rfl) | (obtain ⟨_, _, _, _, _, _, _, _, _, _, _, _, rfl, _⟩ := h; rfl) | (obtain ⟨_, _, _, _, _, _, _, _, _, _, _, _, _, rfl, _⟩ := h; rfl) | (obtain ⟨_, _, _, _, _, _, _, _, _, _, _, _, _, _, rfl, _⟩ := h; rfl) | (obtain ⟨_, _, _, _, _, _, _, _, _, _, _, _, _, _, _, rfl, _⟩ := h; rfl) | (obtain ⟨_, _, _, _, _, _, _, _, _, _, _, _, _, _, _, _, rfl, _⟩ := h; rfl) | (obtain ⟨_, _, _, _, _, _, _, _, _, _, _, _, _, _, _, _, _, rfl, _⟩ := h; rfl) | (obtain ⟨_, _, _, _, _, _, _, _, _, _, _, _, _, _, _, _, _, _, rfl, _⟩ := h; rfl) | (obtain ⟨_, _, _, _, _, _, _, _, _, _, _, _, _, _, _, _, _, _, _, rfl, _⟩ := h; rfl) | (obtain ⟨_, _, _, _, _, _, _, _, _, _, _, _, _, _, _, _, _, _, _, _, rfl, _⟩ := h; rfl) | (obtain ⟨_, _, _, _, _, _, _, _, _, _, _, _, _, _, _, _, _, _, _, _, _, rfl, _⟩ := h; rfl) | (obtain ⟨_, _, _, _, _, _, _, _, _, _, _, _, _, _, _, _, _, _, _, _, _, _, rfl, _⟩ := h; rfl) | (obtain ⟨_, _, _, _, _, _, _, _, _, _, _, _, _, _, _, _, _, _, _, _, _, _, _, rfl, _⟩ := h; rfl) | (obtain ⟨_, _, _, _, _, _, _, _, _, _, _, _, _, _, _, _, _, _, _, _, _, _, _, _, rfl, _⟩ := h; rfl) | (obtain ⟨_, _, _, _, _, _, _, _, _, _, _, _, _, _, _, _, _, _, _, _, _, _, _, _, _, rfl, _⟩ := h; rfl) | (obtain ⟨_, _, _, _, _, _, _, _, _, _, _, _, _, _, _, _, _, _, _, _, _, _, _, _, _, _, rfl, _⟩ := h; rfl) | (obtain ⟨_, _, _, _, _, _, _, _, _, _, _, _, _, _, _, _, _, _, _, _, _, _, _, _, _, _, _, rfl, _⟩ := h; rfl)
  · obtain ⟨s0, pd, al, L, t, nm, pt, tp, tc, np, nc, u, d, i, rfl, hi, S, q⟩ := h
    have hu := hu_of hr
    have hv := hr.units
    have c_Portion := W.c_Portion; have n_Portion_told_promise := W.n_Portion_told_promise; have n_Portion_told_ceiling := W.n_Portion_told_ceiling; have n_Portion_now_promise := W.n_Portion_now_promise; have n_Portion_now_ceiling := W.n_Portion_now_ceiling; have n_Portion_turns_used := W.n_Portion_turns_used; have c_Shares := W.c_Shares; have n_Shares_own_length := W.n_Shares_own_length; have n_Shares_portions := W.n_Shares_portions; have n_Shares_turns_passed := W.n_Shares_turns_passed; have n_Shares_all_dealt := W.n_Shares_all_dealt
    obtain ⟨dx, hs⟩ := S.ob
    obtain ⟨dp, hp⟩ := S.po i hi
    have hv2 := pdOf_val (pt := pt) S.nd hi
    refine ⟨_, (pss_cons (ps_expr (pe_meth (pv 0) W.c_Shares m_Shares_need_guest (G_Shares_need_guest.mono (by decide)) hr b_Shares_need_guest .nil pass0 (pa_cons (pv 1) pa_nil)))
  (pss_one (ps_ret (pe_tup (pa_cons (pe_fldK (K := K) (pe_ix (ix_anyK (K := K) hu) (pe_fldK (K := K) (pv 0)) (pv 1) (fun _ _ => rfl))) (pa_cons (pe_fldK (K := K) (pe_ix (ix_anyK (K := K) hu) (pe_fldK (K := K) (pv 0)) (pv 1) (fun _ _ => rfl))) pa_nil)))))), ?_⟩
    walk_at "ys"
    refine ⟨s0, pd, al, dx, L, t, pdOf nm pt, nmF nm i, rfl, hs, S.dk, by rw [hv2]; rfl, ?_⟩
    walk_at "ys"
    refine y_ixK S.dk hv2 ?_
    walk_at "ys"
    refine y_ixK S.dk hv2 ?_
    walk_at "ys"
    exact ⟨sz_line (by simp), q⟩
def sp_Shares_change (CP CS CT : Addr) : Sp := fun vs H Q E => ∃ (s pd al : Addr) (L t : Nat) (nm : List Str) (pt : Nat → Addr) (tp tc np nc u : Nat → Nat) (d : List V) (i p c : Nat), vs = [.ref s, .str (nmF nm i), .int p, .int c] ∧ i < nm.length ∧ Sh H CP CS s pd al L t nm pt tp tc np nc u d ∧ t ≠ 0 ∧ p ≤ c ∧ 1 ≤ c ∧ c ≤ L ∧ L ≤ 60 ∧
  (Deal.sumTo (set1 tp i p) nm.length ≤ L → ∀ H', SameBut (pt i) H H' → Sh H' CP CS s pd al L t nm pt (set1 tp i p) (set1 tc i c) np nc u d → Q .non H') ∧ ∀ dd H', Same H H' → E (.ref CT) (some dd) H'
theorem ok_Shares_change {f : Addr} {fd : FuncData} (T : Txt K mg) {CPortion CShares CGuestError CTooMuch : Addr} (W : Own K mg CPortion CShares CGuestError CTooMuch) (F : Fun K "change" "Shares.change" s_Shares_change f fd) : FnOk P w K mg base (L2.CX P w) 4 f fd ["self", "name", "promise", "ceiling"] (sp_Shares_change CPortion CShares CTooMuch) := by
  obtain ⟨f_Shares_need_guest, fd_Shares_need_guest, F_Shares_need_guest, m_Shares_need_guest⟩ := W.m_Shares_need_guest
  have G_Shares_need_guest := ok_Shares_need_guest (P := P) (w := w) (base := base) T W F_Shares_need_guest
  have b_Shares_need_guest := F_Shares_need_guest.binds (ps := ["self", "name"]) fun _ _ _ _ _ _ us hl => match us, hl with | [_, _], _ => rfl
  obtain ⟨f_need_share, fd_need_share, g_need_share, F_need_share⟩ := T.d_need_share
  have G_need_share := ok_need_share (P := P) (w := w) (base := base) T F_need_share
  have b_need_share := F_need_share.binds (ps := ["length", "promise", "ceiling"]) fun _ _ _ _ _ _ us hl => match us, hl with | [_, _, _], _ => rfl
  obtain ⟨f_Shares_need_room_for, fd_Shares_need_room_for, F_Shares_need_room_for, m_Shares_need_room_for⟩ := W.m_Shares_need_room_for
  have G_Shares_need_room_for := ok_Shares_need_room_for (P := P) (w := w) (base := base) T W F_Shares_need_room_for
  obtain ⟨ds_Shares_need_room_for, dv_Shares_need_room_for, b_Shares_need_room_for⟩ := binds_room F_Shares_need_room_for
  have kb_Shares_need_room_for := kb_room F_Shares_need_room_for
  obtain ⟨f_Portion_begin, fd_Portion_begin, F_Portion_begin, m_Portion_begin⟩ := W.m_Portion_begin
  have G_Portion_begin := ok_Portion_begin (P := P) (w := w) (base := base) T W F_Portion_begin
  have b_Portion_begin := F_Portion_begin.binds (ps := ["self"]) fun _ _ _ _ _ _ us hl => match us, hl with | [_], _ => rfl
  have scp := sc_Shares_change
  refine F.okX sc_Shares_change (fun vs H Q E h => ?_) (fun cdv A outer s H vs Q E hr h => ?_)
  · first | (obtain ⟨rfl, _⟩ := h; rfl) | (obtain ⟨_, rfl, _⟩ := h; rfl) | (obtain ⟨_, _, rfl, _⟩ := h; rfl) | (obtain ⟨_, _, _, rfl, _⟩ := h; rfl) | (obtain ⟨_, _, _, _, rfl, _⟩ := h; rfl) | (obtain ⟨_, _, _, _, _, rfl, _⟩ := h; rfl) | (obtain ⟨_, _, _, _, _, _, rfl, _⟩ := h; rfl) | (obtain ⟨_, _, _, _, _, _, _, rfl, _⟩ := h; rfl) | (obtain ⟨_, _, _, _, _, _, _, _, rfl, _⟩ := h; rfl) | (obtain ⟨_, _, _, _, _, _, _, _, _, rfl, _⟩ := h; rfl) | (obtain ⟨_, _, _, _, _, _, _, _, _, _, rfl, _⟩ := h; rfl) | (obtain ⟨_, _, _, _, _, _, _, _, _, _, _, rfl, _⟩ := h; rfl) | (obtain ⟨_, _, _, _, _, _, _, _, _, _, _, _, rfl, _⟩ := h; rfl) | (obtain ⟨_, _, _, _, _, _, _, _, _, _, _, _, _, rfl, _⟩ := h; rfl) | (obtain ⟨_, _, _, _, _, _, _, _, _, _, _, _, _, _, rfl, _⟩ := h; rfl) | (obtain ⟨_, _, _, _, _, _, _, _, _, _, _, _, _, _, _, rfl, _⟩ := h; rfl) | (obtain ⟨_, _, _, _, _, _, _, _, _, _, _, _, _, _, _, _, rfl, _⟩ := h; rfl) | (obtain ⟨_, _, _, _, _, _, _, _, _, _, _, _, _, _, _, _, _, rfl, _⟩ := h; rfl) | (obtain ⟨_, _, _, _, _, _, _, _, _, _, _, _, _, _, _, _, _, _, rfl, _⟩ := h; rfl) | (obtain ⟨_, _, _, _, _, _, _, _, _, _, _, _, _, _, _, _, _, _, _, rfl, _⟩ := h; rfl) | (obtain ⟨_, _, _, _, _, _, _, _, _, _, _, _, _, _, _, _, _, _, _, _, rfl, _⟩ := h; rfl) | (obtain ⟨_, _, _, _, _, _, _, _, _, _, _, _, _, _, _, _, _, _, _, _, _, rfl, _⟩ := h; rfl) | (obtain ⟨_, _, _, _, _, _, _, _, _, _, _, _, _, _, _, _, _, _, _, _, _, _, rfl, _⟩ := h; rfl) | (obtain ⟨_, _, _, _, _, _, _, _, _, _, _, _, _, _, _, _, _, _, _, _, _, _, _, rfl, _⟩ := h; rfl) | (obtain ⟨_, _, _, _, _, _, _, _, _, _, _, _, _, _, _, _, _, _, _, _, _, _, _, _, rfl, _⟩ := h; rfl) | (obtain ⟨_, _, _, _, _, _, _, _, _, _, _, _, _, _, _, _, _, _, _, _, _, _, _, _, _, rfl, _⟩ := h; rfl) | (obtain ⟨_, _, _, _, _, _, _, _, _, _, _, _, _, _, _, _, _, _, _, _, _, _, _, _, _, _, rfl, _⟩ := h; rfl) | (obtain ⟨_, _, _, _, _, _, _, _, _, _, _, _, _, _, _, _, _, _, _, _, _, _, _, _, _, _, _, rfl, _⟩ := h; rfl)
  · obtain ⟨s0, pd, al, L, t, nm, pt, tp, tc, np, nc, u, d, i, p, c, rfl, hi, S, ht0, hpc, hc1, hcL, h60, q, qE⟩ := h
    have hu := hu_of hr
    have hv := hr.units
    have c_Portion := W.c_Portion; have n_Portion_told_promise := W.n_Portion_told_promise; have n_Portion_told_ceiling := W.n_Portion_told_ceiling; have n_Portion_now_promise := W.n_Portion_now_promise; have n_Portion_now_ceiling := W.n_Portion_now_ceiling; have n_Portion_turns_used := W.n_Portion_turns_used; have c_Shares := W.c_Shares; have n_Shares_own_length := W.n_Shares_own_length; have n_Shares_portions := W.n_Shares_portions; have n_Shares_turns_passed := W.n_Shares_turns_passed; have n_Shares_all_dealt := W.n_Shares_all_dealt
    obtain ⟨dx, hs⟩ := S.ob
    obtain ⟨dp, hp⟩ := S.po i hi
    have hv2 := pdOf_val (pt := pt) S.nd hi
    have hsum := sum_set1 (f := tp) (i := i) (x := p) hi
    refine ⟨_, (pss_cons (ps_expr (pe_meth (pv 0) W.c_Shares m_Shares_need_guest (G_Shares_need_guest.mono (by decide)) hr b_Shares_need_guest .nil pass0 (pa_cons (pv 1) pa_nil)))
  (pss_cons (ps_expr (pe_call (G_need_share.mono (by decide)) hr rfl g_need_share F_need_share.kp b_need_share .nil pass0 (pa_cons (pe_fldK (K := K) (pv 0)) (pa_cons (pv 2) (pa_cons (pv 3) pa_nil)))))
  (pss_cons (ps_set (i := 4) scp.nd rfl (by first | exact Or.inl rfl | exact Or.inr rfl) (pe_ix (ix_anyK (K := K) hu) (pe_fldK (K := K) (pv 0)) (pv 1) (fun _ _ => rfl)))
  (pss_cons (ps_expr (pe_methK (pv 0) W.c_Shares m_Shares_need_room_for (G_Shares_need_room_for.mono (by decide)) hr kb_Shares_need_room_for (passes_call (takes_of rfl rfl rfl rfl) (fun _ _ _ _ h => h)) (pa_cons (pv 2) pa_nil) (pk_cons (pe_fldK (K := K) (pv 4)) pk_nil)))
  (pss_cons (ps_asg (pe_tup (pa_cons (pv 2) (pa_cons (pv 3) pa_nil))) (pg_tupK (K := K) (n := 2) rfl (pgs_cons (pg_fldK (K := K) (pv 4)) (pgs_cons (pg_fldK (K := K) (pv 4)) pgs_nil))))
  (pss_one (ps_if (pt_cmpR (op_eqK (K := K) hv) (pe_fldK (K := K) (pv 0)) pe_int (nomark _))
  (pss_one (ps_expr (pe_meth0 (pv 4) W.c_Portion m_Portion_begin (G_Portion_begin.mono (by decide)) hr b_Portion_begin .nil pass0)))
  pss_nil))))))), ?_⟩
    walk_at "ys"
    refine ⟨s0, pd, al, dx, L, t, pdOf nm pt, nmF nm i, rfl, hs, S.dk, by rw [hv2]; rfl, ?_⟩
    walk_at "ys"
    refine ⟨L, p, c, rfl, by omega, hpc, hc1, hcL, ?_⟩
    walk_at "ys"
    refine y_ixK S.dk hv2 ?_
    walk_at "ys"
    refine ⟨rfl, rfl, s0, pd, al, L, t, nm, pt, tp, tc, np, nc, u, d, p, tp i, rfl, S, by omega, fun hle H1 e1 => ?_, fun _ dd H' e => qE dd H' e⟩
    have hp1 := e1 _ _ hp
    walk_at "ys"
    refine ⟨sz_line (by simp), fun tt ntt => ?_⟩
    have f1 : Same H1 (upd H1 tt (.tup [.int p, .int c])) := same_new0 ntt
    have htt : upd H1 tt (.tup [.int p, .int c]) tt = some (.tup [.int p, .int c]) := upd_same
    have hp2 := f1 _ _ hp1
    have e2 := e1.trans f1
    generalize upd H1 tt (.tup [.int p, .int c]) = H2 at *
    walk_at "ys"
    refine y_setF hp2 c_Portion n_Portion_told_promise lenP ?_
    rw [pfP_told_promise]
    walk_at "ys"
    refine y_setF upd_same c_Portion n_Portion_told_ceiling lenP ?_
    rw [pfP_told_ceiling, upd_upd]
    have S2 := S.same e2
    have S3 : Sh (upd H2 (pt i) (.ins CPortion dp (fldP p c (np i) (nc i) (u i)))) CPortion CShares s0 pd al L t nm pt (set1 tp i p) (set1 tc i c) np nc u d := by
      refine ⟨S2.ob.imp fun _ h => up_ne (Ne.symm (S.ne i hi)) h, up_ne (ne_of S2.pd hp2 (fun z => by cases z)) S2.pd, fun j hj => ?_, up_ne (ne_of S2.al hp2 (fun z => by cases z)) S2.al, S.nd, S.few, S.inj, S.ne⟩
      by_cases z : j = i
      · subst z
        refine ⟨dp, ?_⟩
        rw [upd_same]
        unfold set1
        rw [if_pos rfl, if_pos rfl]
      · obtain ⟨dj, h⟩ := S2.po j hj
        refine ⟨dj, ?_⟩
        rw [upd_ne (fun y => z (S.inj j i hj hi y)), h]
        unfold set1
        rw [if_neg z, if_neg z]
    obtain ⟨dx3, hs3⟩ := S3.ob
    walk_at "ys"
    refine y_dF (fun z => ht0 (by have := V.int.inj z; omega)) ?_
    walk_at "ys"
    exact q (by omega) _ ((SameBut.of e2).trans (SameBut.put _ _ _)) S3
def sp__law_counting (CP CS : Addr) : Sp := fun vs H Q _ => ∃ (s pd al : Addr) (L t : Nat) (nm : List Str) (pt : Nat → Addr) (tp tc np nc u : Nat → Nat) (d : List V), vs = [.ref s] ∧ Sh H CP CS s pd al L t nm pt tp tc np nc u d ∧
  ∀ gd ts H', Same H H' → H gd = none → H' gd = some (.dK (kvOf nm ts)) → ts.length = nm.length → (∀ (i : Nat) (a : Addr), ts[i]? = some a → H' a = some (.tup [.int (np i), .int (nc i)])) → Q (.ref gd) H'
theorem ok__law_counting {f : Addr} {fd : FuncData} (T : Txt K mg) {CPortion CShares CGuestError CTooMuch : Addr} (W : Own K mg CPortion CShares CGuestError CTooMuch) (F : Fun K "_law_counting" "_law_counting" s__law_counting f fd) : FnOk P w K mg base CX0 3 f fd ["shares"] (sp__law_counting CPortion CShares) := by
  obtain ⟨f_Shares_counting, fd_Shares_counting, F_Shares_counting, m_Shares_counting⟩ := W.m_Shares_counting
  have G_Shares_counting := ok_Shares_counting (P := P) (w := w) (base := base) T W F_Shares_counting
  have b_Shares_counting := F_Shares_counting.binds (ps := ["self", "name"]) fun _ _ _ _ _ _ us hl => match us, hl with | [_, _], _ => rfl
  obtain ⟨f_Shares_names, fd_Shares_names, F_Shares_names, m_Shares_names⟩ := W.m_Shares_names
  have G_Shares_names := ok_Shares_names (P := P) (w := w) (base := base) T W F_Shares_names
  have b_Shares_names := F_Shares_names.binds (ps := ["self"]) fun _ _ _ _ _ _ us hl => match us, hl with | [_], _ => rfl
  have scp := sc__law_counting
  refine F.ok sc__law_counting (fun vs H Q E h => ?_) (fun cdv A outer s H vs Q E hr h => ?_)
  · first | (obtain ⟨rfl, _⟩ := h; rfl) | (obtain ⟨_, rfl, _⟩ := h; rfl) | (obtain ⟨_, _, rfl, _⟩ := h; rfl) | (obtain ⟨_, _, _, rfl, _⟩ := h; rfl) | (obtain ⟨_, _, _, _, rfl, _⟩ := h; rfl) | (obtain ⟨_, _, _, _, _, rfl, _⟩ := h; rfl) | (obtain ⟨_, _, _, _, _, _, rfl, _⟩ := h; rfl) | (obtain ⟨_, _, _, _, _, _, _, rfl, _⟩ := h; rfl) | (obtain ⟨_, _, _, _, _, _, _, _, rfl, _⟩ := h; rfl) | (obtain ⟨_, _, _, _, _, _, _, _, _, rfl, _⟩ := h; rfl) | (obtain ⟨_, _, _, _, _, _, _, _, _, _, rfl, _⟩ := h; rfl) | (obtain ⟨_, _, _, _, _, _, _, _, _, _, _, rfl, _⟩ := h; rfl) | (obtain ⟨_, _, _, _, _, _, _, _, _, _, _, _, rfl, _⟩ := h; rfl) | (obtain ⟨_, _, _, _, _, _, _, _, _, _, _, _, _, rfl, _⟩ := h; rfl) | (obtain ⟨_, _, _, _, _, _, _, _, _, _, _, _, _, _, rfl, _⟩ := h; rfl) | (obtain ⟨_, _, _, _, _, _, _, _, _, _, _, _, _, _, _, rfl, _⟩ := h; rfl) | (obtain ⟨_, _, _, _, _, _, _, _, _, _, _, _, _, _, _, _, rfl, _⟩ := h; rfl) | (obtain ⟨_, _, _, _, _, _, _, _, _, _, _, _, _, _, _, _, _, rfl, _⟩ := h; rfl) | (obtain ⟨_, _, _, _, _, _, _, _, _, _, _, _, _, _, _, _, _, _, rfl, _⟩ := h; rfl) | (obtain ⟨_, _, _, _, _, _, _, _, _, _, _, _, _, _, _, _, _, _, _, rfl, _⟩ := h; rfl) | (obtain ⟨_, _, _, _, _, _, _, _, _, _, _, _, _, _, _, _, _, _, _, _, rfl, _⟩ := h; rfl) | (obtain ⟨_, _, _, _, _, _, _, _, _, _, _, _, _, _, _, _, _, _, _, _, _, rfl, _⟩ := h; rfl) | (obtain ⟨_, _, _, _, _, _, _, _, _, _, _, _, _, _, _, _, _, _, _, _, _, _, rfl, _⟩ := h; rfl) | (obtain ⟨_, _, _, _, _, _, _, _, _, _, _, _, _, _, _, _, _, _, _, _, _, _, _, rfl, _⟩ := h; rfl) | (obtain ⟨_, _, _, _, _, _, _, _, _, _, _, _, _, _, _, _, _, _, _, _, _, _, _, _, rfl, _⟩ := h; rfl) | (obtain ⟨_, _, _, _, _, _, _, _, _, _, _, _, _, _, _, _, _, _, _, _, _, _, _, _, _, rfl, _⟩ := h; rfl) | (obtain ⟨_, _, _, _, _, _, _, _, _, _, _, _, _, _, _, _, _, _, _, _, _, _, _, _, _, _, rfl, _⟩ := h; rfl) | (obtain ⟨_, _, _, _, _, _, _, _, _, _, _, _, _, _, _, _, _, _, _, _, _, _, _, _, _, _, _, rfl, _⟩ := h; rfl)
  · obtain ⟨s0, pd, al, L, t, nm, pt, tp, tc, np, nc, u, d, rfl, S, q⟩ := h
    have hu := hu_of hr
    have hv := hr.units
    have c_Portion := W.c_Portion; have n_Portion_told_promise := W.n_Portion_told_promise; have n_Portion_told_ceiling := W.n_Portion_told_ceiling; have n_Portion_now_promise := W.n_Portion_now_promise; have n_Portion_now_ceiling := W.n_Portion_now_ceiling; have n_Portion_turns_used := W.n_Portion_turns_used; have c_Shares := W.c_Shares; have n_Shares_own_length := W.n_Shares_own_length; have n_Shares_portions := W.n_Shares_portions; have n_Shares_turns_passed := W.n_Shares_turns_passed; have n_Shares_all_dealt := W.n_Shares_all_dealt
    obtain ⟨dx, hs⟩ := S.ob
    have hfew := S.few
    refine ⟨_, (pss_one (ps_ret (pe_callTy (call_dictKK (K := K) rfl) (by rfl) T.n_dict (by decide +kernel) (pa_cons (pe_lc (own := [("name", 1)]) (g := gName 1) (tt := tYes) rfl scp.nd (pi_listK (K := K) (pe_meth0 (pv 0) W.c_Shares m_Shares_names (G_Shares_names.mono (by decide)) hr b_Shares_names .nil pass0)) (blkOk_by (own := [("name", 1)]) (N := ["shares", "name"]) (sc := defScope s__law_counting) (by decide +kernel)) (fun _ _ _ _ _ => (pg_name (i := 1) scp.nd rfl (by first | exact Or.inl rfl | exact Or.inr rfl))) (fun _ _ _ _ _ => pts_nil) (fun _ _ _ _ _ => (pe_tup (pa_cons (pv 1) (pa_cons (pe_meth (pv 0) W.c_Shares m_Shares_counting (G_Shares_counting.mono (by decide)) hr b_Shares_counting .nil pass0 (pa_cons (pv 1) pa_nil)) pa_nil))))) pa_nil)))), ?_⟩
    walk_at "ys"
    refine ⟨s0, pd, al, L, t, nm, pt, tp, tc, np, nc, u, d, rfl, S, fun l nl => ?_⟩
    have f1 : Same H (upd H l (.lst (nm.map V.str))) := same_new0 nl
    have hl : upd H l (.lst (nm.map V.str)) l = some (.lst (nm.map V.str)) := upd_same
    generalize upd H l (.lst (nm.map V.str)) = H1 at *
    walk_at "ys"
    intro D nD
    refine lc_rel (fun i v H' => ∃ a x, v = .ref a ∧ H' a = some (.tup [.str (nmF nm i), .ref x]) ∧ H' x = some (.tup [.int (np i), .int (nc i)])) (fun i v H H' e h => ?_) (walk_list (xs := nm.map V.str)) nD (sz_lt (by rw [List.length_map]; omega)) (fun H' e => SqL.of (e _ _ hl)) (fun i x H2 H3 Nx hi e2 hY k => ?_) (fun H2 ys e2 hyl hys hD => ?_)
    · obtain ⟨a, x, h1, h2, h3⟩ := h
      exact ⟨a, x, h1, e _ _ (fun xs z => by cases z) h2, e _ _ (fun xs z => by cases z) h3⟩
    · obtain ⟨rfl, hx⟩ := hY
      rw [List.length_map] at hi
      rw [List.getElem?_map, nmF_at hi] at hx
      have hx := Option.some.inj hx
      subst hx
      walk_at "ys"
      refine ⟨s0, pd, al, L, t, nm, pt, tp, tc, np, nc, u, d, i, rfl, hi, S.same (f1.trans e2), fun x nx => ?_⟩
      walk_at "ys"
      refine ⟨sz_line (by simp), fun a na => ?_⟩
      exact k _ _ ((same_new0 nx).trans (same_new0 na)) ⟨a, x, rfl, upd_same, up_new na upd_same⟩
    · rw [List.length_map] at hyl
      obtain ⟨as, has⟩ : ∃ as : List Addr, ys = as.map V.ref := by
        refine ⟨ys.map fun v => match v with | .ref a => a | _ => l, ?_⟩
        rw [List.map_map]
        refine List.ext_getElem? fun i => ?_
        rw [List.getElem?_map]
        cases e : ys[i]? with
        | none => rfl
        | some y =>
          obtain ⟨a, x, rfl, _⟩ := hys i y e
          rfl
      subst has
      rw [List.length_map] at hyl
      have key : ∀ i : Nat, ∃ x : Addr, i < nm.length → ∃ a, as[i]? = some a ∧ H2 a = some (.tup [.str (nmF nm i), .ref x]) ∧ H2 x = some (.tup [.int (np i), .int (nc i)]) := fun i => by
        by_cases hi : i < nm.length
        · have e : (as.map V.ref)[i]? = some (.ref as[i]) := by rw [List.getElem?_map, List.getElem?_eq_getElem (by omega)]; rfl
          obtain ⟨a, x, h1, h2, h3⟩ := hys i _ e
          refine ⟨x, fun _ => ⟨a, ?_, h2, h3⟩⟩
          rw [List.getElem?_eq_getElem (by omega), V.ref.inj h1]
        · exact ⟨l, fun z => absurd z hi⟩
      obtain ⟨xf, hxf⟩ : ∃ xf : Nat → Addr, ∀ i, i < nm.length → ∃ a, as[i]? = some a ∧ H2 a = some (.tup [.str (nmF nm i), .ref (xf i)]) ∧ H2 (xf i) = some (.tup [.int (np i), .int (nc i)]) := ⟨fun i => (key i).choose, fun i hi => (key i).choose_spec hi⟩
      have htl : ((List.range nm.length).map xf).length = nm.length := by rw [List.length_map, List.length_range]
      have hta : ∀ (i : Nat) (a : Addr), ((List.range nm.length).map xf)[i]? = some a → i < nm.length ∧ a = xf i := fun i a h => by
        rw [List.getElem?_map] at h
        by_cases hi : i < nm.length
        · rw [List.getElem?_range hi] at h
          exact ⟨hi, (Option.some.inj h).symm⟩
        · rw [List.getElem?_eq_none (by rw [List.length_range]; omega)] at h
          cases h
      walk_at "ys"
      refine y_dictP (kvs := kvOf nm ((List.range nm.length).map xf)) hD ?_ (fun gd ngd => ?_)
      · refine paired_idx (by rw [kvOf_len htl, hyl]) fun j a kv h1 h2 => ?_
        have hj : j < nm.length := by
          have := (List.getElem?_eq_some_iff.mp h1).1
          omega
        obtain ⟨kk, vv⟩ := kv
        obtain ⟨z, ta, hz, hta2, rfl, rfl⟩ := kvOf_at h2
        obtain rfl : nmF nm j = z := nmF_of hz
        obtain ⟨a', ha', h3, _⟩ := hxf j hj
        rw [h1] at ha'
        have ha' := Option.some.inj ha'
        subst ha'
        obtain ⟨_, rfl⟩ := hta j ta hta2
        exact SqT.of h3
      · have hm : mergeK [] (kvOf nm ((List.range nm.length).map xf)) = kvOf nm ((List.range nm.length).map xf) := by
          have := merge_used S.nd (fun j => V.ref (xf j)) nm.length (Nat.le_refl _)
          have e : kvOf nm ((List.range nm.length).map xf) = (List.range nm.length).map fun j => ((Sum.inr (nmF nm j) : Key), V.ref (xf j)) := by
            refine List.ext_getElem? fun i => ?_
            by_cases hi : i < nm.length
            · rw [List.getElem?_map, List.getElem?_range hi]
              unfold kvOf
              rw [List.getElem?_map, (List.getElem?_zip_eq_some (z := (nmF nm i, xf i))).mpr ⟨nmF_at hi, show ((List.range nm.length).map xf)[i]? = some (xf i) by rw [List.getElem?_map, List.getElem?_range hi]; rfl⟩]
              rfl
            · rw [List.getElem?_eq_none (by rw [kvOf_len htl]; omega), List.getElem?_eq_none (by rw [List.length_map, List.length_range]; omega)]
          rw [e]
          exact this
        rw [hm]
        refine q gd _ _ ((f1.trans e2).trans (same_new0 ngd)) (free_of (f1.trans e2) ngd) upd_same htl (fun i a h => ?_)
        obtain ⟨hi, rfl⟩ := hta i a h
        obtain ⟨_, _, _, h4⟩ := hxf i hi
        exact up_new ngd h4
end
end K61
namespace K61
open PySem L2 Y LamX
local macro_rules | `(tactic| walk_at "lk") => `(tactic| with_reducible first | exact lkP_told_promise | exact lkP_told_ceiling | exact lkP_now_promise | exact lkP_now_ceiling | exact lkP_turns_used | exact lkS_own_length | exact lkS_portions | exact lkS_turns_passed | exact lkS_all_dealt | exact mnP_begin | exact mnS_need_guest | exact mnS_need_room_for | exact mnS_come | exact mnS_promised_one | exact mnS_free_one | exact mnS_deal | exact mnS_promised | exact mnS_change | exact mnS_length | exact mnS_names | exact mnS_counting)
local macro_rules | `(tactic| walk_at "ln") => `(tactic| first | exact lenP | exact lenS | (simp; done) | (show 0 < 1000; decide) | (show 1 < 1000; decide) | (show 2 < 1000; decide) | (show 3 < 1000; decide) | (show 4 < 1000; decide))

/-- all but the box and the guests' portions as it was -/
def OutP (b : Addr) (n : Nat) (pt : Nat → Addr) (H H' : Hp) : Prop := ∀ a o, a ≠ b → (∀ j, j < n → a ≠ pt j) → H a = some o → H' a = some o
theorem OutP.of {b : Addr} {n : Nat} {pt : Nat → Addr} {H H' : Hp} (e : SameBut b H H') : OutP b n pt H H' := fun a o h1 _ h => e a o h1 h
theorem OutP.trans {b : Addr} {n : Nat} {pt : Nat → Addr} {H H' H2 : Hp} (e : OutP b n pt H H') (e2 : OutP b n pt H' H2) : OutP b n pt H H2 := fun a o h1 h2 h => e2 a o h1 h2 (e a o h1 h2 h)
theorem tabs_gen {T : List (Addr × Str)} {H H' : Hp} (t : Tabs T H) (e : ∀ a o, (∀ C dx fs, o ≠ .ins C dx fs) → (∀ xs, o ≠ .lst xs) → H a = some o → H' a = some o) : Tabs T H' := fun p hp => by
  obtain ⟨ps, h1, h2, h3⟩ := t p hp
  refine ⟨ps, e _ _ (fun _ _ _ z => by cases z) (fun _ z => by cases z) h1, h2, fun pos cv hc => ?_⟩
  obtain ⟨c, e1, e2⟩ := h3 pos cv hc
  exact ⟨c, e1, e _ _ (fun _ _ _ z => by unfold CodeO at z; cases z) (fun _ z => by unfold CodeO at z; cases z) e2⟩
theorem Sh.but {H H' : Hp} {CP CS s pd al b : Addr} {L t B : Nat} {nm : List Str} {pt : Nat → Addr} {tp tc np nc u : Nat → Nat} {d : List V} (S : Sh H CP CS s pd al L t nm pt tp tc np nc u d) (X : Box H b B) (hab : al ≠ b) (e : SameBut b H H') : Sh H' CP CS s pd al L t nm pt tp tc np nc u d := by
  obtain ⟨x1, x2, x3, hb, _⟩ := X.at_
  exact ⟨S.ob.imp fun _ h => e _ _ (ne_of h hb (fun z => by cases z)) h, e _ _ (ne_of S.pd hb (fun z => by cases z)) S.pd, fun j hj => (S.po j hj).imp fun _ h => e _ _ (ne_of h hb (fun z => by cases z)) h, e _ _ hab S.al, S.nd, S.few, S.inj, S.ne⟩
theorem Sh.ptb {H : Hp} {CP CS s pd al b : Addr} {L t B : Nat} {nm : List Str} {pt : Nat → Addr} {tp tc np nc u : Nat → Nat} {d : List V} (S : Sh H CP CS s pd al L t nm pt tp tc np nc u d) (X : Box H b B) {j : Nat} (hj : j < nm.length) : pt j ≠ b := by
  obtain ⟨x1, x2, x3, hb, _⟩ := X.at_
  obtain ⟨dx, h⟩ := S.po j hj
  exact ne_of h hb (fun z => by cases z)
theorem ok_set1 {n L i p c : Nat} {tp tc : Nat → Nat} (O : Deal.Ok n L tp tc) (hpc : p ≤ c) (h1 : 1 ≤ c) (hL : c ≤ L) (hs : Deal.sumTo (set1 tp i p) n ≤ L) : Deal.Ok n L (set1 tp i p) (set1 tc i c) := by
  refine ⟨fun j hj => ?_, fun j hj => ?_, fun j hj => ?_, hs⟩ <;> unfold set1 <;> by_cases z : j = i
  · rw [if_pos z, if_pos z]; exact hpc
  · rw [if_neg z, if_neg z]; exact O.pc j hj
  · rw [if_pos z]; exact h1
  · rw [if_neg z]; exact O.one j hj
  · rw [if_pos z]; exact hL
  · rw [if_neg z]; exact O.cL j hj
section
variable {P : Program} {w : World} {K : PySem.W.Frag} {mg : Str → Option Value} {base : Heap}
def sp__law_change (CP CS : Addr) : Sp := fun vs H Q _ => ∃ (b : Addr) (B : Nat) (s pd al : Addr) (L t : Nat) (nm : List Str) (pt : Nat → Addr) (tp tc np nc u : Nat → Nat) (d : List V), vs = [.ref b, .ref s] ∧ Box H b B ∧ B ≤ 100000 ∧ al ≠ b ∧ Sh H CP CS s pd al L t nm pt tp tc np nc u d ∧ t ≠ 0 ∧ 1 ≤ nm.length ∧ Deal.Ok nm.length L tp tc ∧ 4 ≤ L ∧ L ≤ 60 ∧
  ∀ r tp' tc' H', OutP b nm.length pt H H' → Box H' b (B + 3) → Sh H' CP CS s pd al L t nm pt tp' tc' np nc u d → Deal.Ok nm.length L tp' tc' → Q (.bl r) H'
theorem ok__law_change {f : Addr} {fd : FuncData} (T : Txt K mg) {CPortion CShares CGuestError CTooMuch : Addr} (W : Own K mg CPortion CShares CGuestError CTooMuch) (F : Fun K "_law_change" "_law_change" s__law_change f fd) : FnOk P w K mg base CX0 5 f fd ["box", "shares"] (sp__law_change CPortion CShares) := by
  obtain ⟨f__law_take, fd__law_take, g__law_take, F__law_take⟩ := T.d__law_take
  have G__law_take := ok__law_take (P := P) (w := w) (base := base) T F__law_take
  have b__law_take := F__law_take.binds (ps := ["box", "many"]) fun _ _ _ _ _ _ us hl => match us, hl with | [_, _], _ => rfl
  obtain ⟨f_Shares_length, fd_Shares_length, F_Shares_length, m_Shares_length⟩ := W.m_Shares_length
  have G_Shares_length := ok_Shares_length (P := P) (w := w) (base := base) T W F_Shares_length
  have b_Shares_length := F_Shares_length.binds (ps := ["self"]) fun _ _ _ _ _ _ us hl => match us, hl with | [_], _ => rfl
  obtain ⟨f_Shares_change, fd_Shares_change, F_Shares_change, m_Shares_change⟩ := W.m_Shares_change
  have G_Shares_change := ok_Shares_change (P := P) (w := w) (base := base) T W F_Shares_change
  have b_Shares_change := F_Shares_change.binds (ps := ["self", "name", "promise", "ceiling"]) fun _ _ _ _ _ _ us hl => match us, hl with | [_, _, _, _], _ => rfl
  obtain ⟨f_Shares_names, fd_Shares_names, F_Shares_names, m_Shares_names⟩ := W.m_Shares_names
  have G_Shares_names := ok_Shares_names (P := P) (w := w) (base := base) T W F_Shares_names
  have b_Shares_names := F_Shares_names.binds (ps := ["self"]) fun _ _ _ _ _ _ us hl => match us, hl with | [_], _ => rfl
  have scp := sc__law_change
  refine F.ok sc__law_change (fun vs H Q E h => ?_) (fun cdv A outer s H vs Q E hr h => ?_)
  · first | (obtain ⟨rfl, _⟩ := h; rfl) | (obtain ⟨_, rfl, _⟩ := h; rfl) | (obtain ⟨_, _, rfl, _⟩ := h; rfl) | (obtain ⟨_, _, _, rfl, _⟩ := h; rfl) | (obtain ⟨_, _, _, _, rfl, _⟩ := h; rfl) | (obtain ⟨_, _, _, _, _, rfl, _⟩ := h; rfl) | (obtain ⟨_, _, _, _, _, _, rfl, _⟩ := h; rfl) | (obtain ⟨_, _, _, _, _, _, _, rfl, _⟩ := h; rfl) | (obtain ⟨_, _, _, _, _, _, _, _, rfl, _⟩ := h; rfl) | (obtain ⟨_, _, _, _, _, _, _, _, _, rfl, _⟩ := h; rfl) | (obtain ⟨_, _, _, _, _, _, _, _, _, _, rfl, _⟩ := h; rfl) | (obtain ⟨_, _, _, _, _, _, _, _, _, _, _, rfl, _⟩ := h; rfl) | (obtain ⟨_, _, _, _, _, _, _, _, _, _, _, _, rfl, _⟩ := h; rfl) | (obtain ⟨_, _, _, _, _, _, _, _, _, _, _, _, _, rfl, _⟩ := h; rfl) | (obtain ⟨_, _, _, _, _, _, _, _, _, _, _, _, _, _, rfl, _⟩ := h; rfl) | (obtain ⟨_, _, _, _, _, _, _, _, _, _, _, _, _, _, _, rfl, _⟩ := h; rfl) | (obtain ⟨_, _, _, _, _, _, _, _, _, _, _, _, _, _, _, _, rfl, _⟩ := h; rfl) | (obtain ⟨_, _, _, _, _, _, _, _, _, _, _, _, _, _, _, _, _, rfl, _⟩ := h; rfl) | (obtain ⟨_, _, _, _, _, _, _, _, _, _, _, _, _, _, _, _, _, _, rfl, _⟩ := h; rfl) | (obtain ⟨_, _, _, _, _, _, _, _, _, _, _, _, _, _, _, _, _, _, _, rfl, _⟩ := h; rfl) | (obtain ⟨_, _, _, _, _, _, _, _, _, _, _, _, _, _, _, _, _, _, _, _, rfl, _⟩ := h; rfl) | (obtain ⟨_, _, _, _, _, _, _, _, _, _, _, _, _, _, _, _, _, _, _, _, _, rfl, _⟩ := h; rfl) | (obtain ⟨_, _, _, _, _, _, _, _, _, _, _, _, _, _, _, _, _, _, _, _, _, _, rfl, _⟩ := h; rfl) | (obtain ⟨_, _, _, _, _, _, _, _, _, _, _, _, _, _, _, _, _, _, _, _, _, _, _, rfl, _⟩ := h; rfl) | (obtain ⟨_, _, _, _, _, _, _, _, _, _, _, _, _, _, _, _, _, _, _, _, _, _, _, _, rfl, _⟩ := h; rfl) | (obtain ⟨_, _, _, _, _, _, _, _, _, _, _, _, _, _, _, _, _, _, _, _, _, _, _, _, _, rfl, _⟩ := h; rfl) | (obtain ⟨_, _, _, _, _, _, _, _, _, _, _, _, _, _, _, _, _, _, _, _, _, _, _, _, _, _, rfl, _⟩ := h; rfl) | (obtain ⟨_, _, _, _, _, _, _, _, _, _, _, _, _, _, _, _, _, _, _, _, _, _, _, _, _, _, _, rfl, _⟩ := h; rfl)
  · obtain ⟨b, B, s0, pd, al, L, t, nm, pt, tp, tc, np, nc, u, d, rfl, X, hB, hab, S, ht0, hn1, O, h4, h60, q⟩ := h
    have hu := hu_of hr
    have hv := hr.units
    have c_Portion := W.c_Portion; have n_Portion_told_promise := W.n_Portion_told_promise; have n_Portion_told_ceiling := W.n_Portion_told_ceiling; have n_Portion_now_promise := W.n_Portion_now_promise; have n_Portion_now_ceiling := W.n_Portion_now_ceiling; have n_Portion_turns_used := W.n_Portion_turns_used; have c_Shares := W.c_Shares; have n_Shares_own_length := W.n_Shares_own_length; have n_Shares_portions := W.n_Shares_portions; have n_Shares_turns_passed := W.n_Shares_turns_passed; have n_Shares_all_dealt := W.n_Shares_all_dealt
    have hfew := S.few
    refine ⟨_, (pss_cons (ps_par (i := 2) (j := 3) (by rfl) scp.nd rfl rfl (by decide) rfl rfl (pa_cons (pe_ix (ix_anyK (K := K) hu) (pe_meth0 (pv 1) W.c_Shares m_Shares_names (G_Shares_names.mono (by decide)) hr b_Shares_names .nil pass0) (pe_call (G__law_take.mono (by decide)) hr rfl g__law_take F__law_take.kp b__law_take .nil pass0 (pa_cons (pv 0) (pa_cons (pe_callB (call_lenK (K := K)) (by rfl) T.n_len (by decide +kernel) (pa_cons (pe_meth0 (pv 1) W.c_Shares m_Shares_names (G_Shares_names.mono (by decide)) hr b_Shares_names .nil pass0) pa_nil)) pa_nil))) (fun _ _ => rfl)) (pa_cons (pe_meth0 (pv 1) W.c_Shares m_Shares_length (G_Shares_length.mono (by decide)) hr b_Shares_length .nil pass0) pa_nil)) (by rfl))
  (pss_cons (ps_set (i := 4) scp.nd rfl (by first | exact Or.inl rfl | exact Or.inr rfl) (pe_call (G__law_take.mono (by decide)) hr rfl g__law_take F__law_take.kp b__law_take .nil pass0 (pa_cons (pv 0) (pa_cons (pe_op op_plus (pv 3) pe_int) pa_nil))))
  (pss_cons (ps_try_only rfl rfl ⟨rfl, by decide, .inl W.g_TooMuch⟩ L2.takes0 (fun Wx pn xe tk _ => (pss_one (ps_expr (pe_methSD (pv 1) W.c_Shares m_Shares_change (G_Shares_change.mono (by decide)) hr b_Shares_change .nil (fun σ => passAt tk σ) (pa_cons (pv 2) (pa_cons (pv 4) (pa_cons (pe_op op_plus (pe_callB (call_max2Y rfl) (by rfl) T.n_max (by decide +kernel) (pa_cons pe_int (pa_cons (pv 4) pa_nil))) (pe_call (G__law_take.mono (by decide)) hr rfl g__law_take F__law_take.kp b__law_take .nil pass0 (pa_cons (pv 0) (pa_cons (pe_op op_plus (pe_op op_minus (pv 3) (pe_callB (call_max2Y rfl) (by rfl) T.n_max (by decide +kernel) (pa_cons pe_int (pa_cons (pv 4) pa_nil)))) pe_int) pa_nil)))) pa_nil))))))) (fun a oe cls d pn _ _ => (pss_one (ps_ret pe_bl))))
  (pss_one (ps_ret pe_bl))))), ?_⟩
    obtain ⟨dx, hs⟩ := S.ob
    walk_at "ys"
    refine ⟨s0, pd, al, L, t, nm, pt, tp, tc, np, nc, u, d, rfl, S, fun l1 nl1 => ?_⟩
    have f1 : Same H (upd H l1 (.lst (nm.map V.str))) := same_new0 nl1
    have hl1 : upd H l1 (.lst (nm.map V.str)) l1 = some (.lst (nm.map V.str)) := upd_same
    have l1b : l1 ≠ b := X.ne nl1
    have hs1 := f1 _ _ hs
    generalize upd H l1 (.lst (nm.map V.str)) = H1 at *
    walk_at "ys"
    refine ⟨s0, pd, al, L, t, nm, pt, tp, tc, np, nc, u, d, rfl, S.same f1, fun l2 nl2 => ?_⟩
    have f2 := f1.trans (same_new0 (o := .lst (nm.map V.str)) nl2)
    have hl12 : upd H1 l2 (.lst (nm.map V.str)) l1 = some (.lst (nm.map V.str)) := up_new nl2 hl1
    have hl2 : upd H1 l2 (.lst (nm.map V.str)) l2 = some (.lst (nm.map V.str)) := upd_same
    generalize upd H1 l2 (.lst (nm.map V.str)) = H2 at *
    walk_at "ys"
    rw [List.length_map]
    refine ⟨b, nm.length, B, rfl, by omega, by omega, X.same f2, by omega, fun i H3 hi e3 X3 => ?_⟩
    have hl13 := e3 _ _ l1b hl12
    have S3 := (S.same f2).but (X.same f2) hab e3
    have o3 : OutP b nm.length pt H H3 := (OutP.of (SameBut.of f2)).trans (.of e3)
    obtain ⟨dx3, hs3⟩ := S3.ob
    have ati : atI (nm.map V.str) (i : Int) = some (.str (nmF nm i)) := L2.atI_nat (by rw [List.getElem?_map, nmF_at hi]; rfl)
    walk_at "ys"
    refine y_ixL hl13 ati ?_
    walk_at "ys"
    refine ⟨s0, pd, al, L, t, nm, pt, tp, tc, np, nc, u, d, rfl, S3, ?_⟩
    walk_at "ys"
    refine ⟨b, L + 1, B + 1, rfl, by omega, by omega, X3, by omega, fun p H4 hp e4 X4 => ?_⟩
    have S4 := S3.but X3 hab e4
    have o4 := o3.trans (.of e4)
    obtain ⟨dx4, hs4⟩ := S4.ob
    walk_at "ys"
    obtain ⟨m, hm, hm1, hmp, hmL⟩ : ∃ m : Nat, (if (p : Int) > 1 then (p : Int) else 1) = (m : Int) ∧ 1 ≤ m ∧ p ≤ m ∧ m ≤ L := ⟨max 1 p, by split <;> omega, by omega, by omega, by omega⟩
    rw [hm]
    walk_at "ys"
    refine ⟨b, L - m + 1, B + 2, by show [V.ref b, V.int ((L : Int) - m + 1)] = _; congr 3; omega, by omega, by omega, X4, by omega, fun r H5 hr5 e5 X5 => ?_⟩
    have S5 := S4.but X4 hab e5
    have o5 := o4.trans (.of e5)
    walk_at "ys"
    refine ⟨s0, pd, al, L, t, nm, pt, tp, tc, np, nc, u, d, i, p, m + r, rfl, hi, S5, ht0, by omega, by omega, by omega, h60, fun hsum H6 e6 S6 => ?_, fun dd H6 e6 => ?_⟩
    · walk_at "ys"
      refine q true _ _ H6 (o5.trans fun a o h1 h2 h => e6 a o (h2 i hi) h) ?_ S6 (ok_set1 O (by omega) (by omega) (by omega) hsum)
      obtain ⟨x1, x2, x3, hb, h1, h2⟩ := X5.at_
      exact ⟨x1, x2, x3, e6 _ _ (Ne.symm (S5.ptb X5 hi)) hb, h1, by omega⟩
    · refine ⟨true, W.x_TooMuch, fun _ _ _ => ?_, fun z => nomatch z⟩
      walk_at "ys"
      exact q false tp tc H6 (o5.trans (.of (SameBut.of e6))) (X5.same e6) (S5.same e6) O
end
end K61
namespace K61
open PySem L2 Y LamX
local macro_rules | `(tactic| walk_at "lk") => `(tactic| with_reducible first | exact lkP_told_promise | exact lkP_told_ceiling | exact lkP_now_promise | exact lkP_now_ceiling | exact lkP_turns_used | exact lkS_own_length | exact lkS_portions | exact lkS_turns_passed | exact lkS_all_dealt | exact mnP_begin | exact mnS_need_guest | exact mnS_need_room_for | exact mnS_come | exact mnS_promised_one | exact mnS_free_one | exact mnS_deal | exact mnS_promised | exact mnS_change | exact mnS_length | exact mnS_names | exact mnS_counting)
local macro_rules | `(tactic| walk_at "ln") => `(tactic| first | exact lenP | exact lenS | (simp; done) | (show 0 < 1000; decide) | (show 1 < 1000; decide) | (show 2 < 1000; decide) | (show 3 < 1000; decide) | (show 4 < 1000; decide))

def gotV (d : List (Option Nat)) (i : Nat) : List V := (Deal.got d 0 i).map fun x => V.int (x : Nat)
theorem gotV_snoc (d : List (Option Nat)) (x : Option Nat) (i : Nat) : gotV (d ++ [x]) i = if x = some i then gotV d i ++ [.int ((d.length + 1 : Nat) : Int)] else gotV d i := by
  unfold gotV
  rw [Deal.got_snoc]
  split
  · rw [List.map_append]
    rfl
  · rfl
theorem run_cnt {n : Nat} {p c : Nat → Nat} {R : Nat → Nat → Prop} {d : List (Option Nat)} (h : Deal.Run n p c R d) {j : Nat} (hj : j < n) : Deal.cnt d j ≤ c j := by
  have := Deal.run_le h d.length (Nat.le_refl _) j hj
  rwa [List.take_length] at this
theorem alin_count {n L : Nat} {p c : Nat → Nat} (O : Deal.Ok n L p c) (i t : Nat) : alin n L p c i t = ((List.range (Deal.many n L p c i)).filter fun k => decide (Deal.T n p c i k ≤ t)).length := by
  unfold alin
  rw [← Deal.many_filter O i, List.filter_filter]
  congr 1
  refine List.filter_congr fun k _ => ?_
  unfold alP
  rw [Bool.and_comm]
theorem tabs_but {T : List (Addr × Str)} {H H' : Hp} {l : Addr} (t : Tabs T H) (e : SameBut l H H') {v : HO} (h : H l = some v) (hv : ∀ ps, v ≠ .tbl ps) (hv2 : ∀ (c : Addr) (q : Str), v ≠ CodeO c q) : Tabs T H' := fun p hp => by
  obtain ⟨ps, h1, h2, h3⟩ := t p hp
  refine ⟨ps, e _ _ (fun z => by rw [z, h] at h1; exact hv ps (Option.some.inj h1)) h1, h2, fun pos cv hc => ?_⟩
  obtain ⟨c, e1, e2⟩ := h3 pos cv hc
  exact ⟨c, e1, e _ _ (fun z => by rw [z, h] at e2; exact hv2 _ _ (Option.some.inj e2)) e2⟩
theorem Box.tabs {T : List (Addr × Str)} {H H' : Hp} {b : Addr} {B : Nat} (X : Box H b B) (t : Tabs T H) (e : SameBut b H H') : Tabs T H' := by
  obtain ⟨x1, x2, x3, hb, _⟩ := X.at_
  exact tabs_but t e hb (fun ps z => by cases z) (fun c q z => by unfold CodeO at z; cases z)
theorem Gs.mk2 {H H' : Hp} {g : Addr} {o : Obj} {nm : List Str} {ts : List Addr} {p c : Nat → Nat} (G : Gs H g o nm ts p c) (e : ∀ a u, (∀ xs, u ≠ .lst xs) → (∀ C dx fs, u ≠ .ins C dx fs) → (∀ ps, u ≠ .tbl ps) → H a = some u → H' a = some u) : Gs H' g o nm ts p c :=
  ⟨e _ _ (fun _ z => by cases z) (fun _ _ _ z => by cases z) (fun _ z => by cases z) G.d, G.len, fun i a h => e _ _ (fun _ z => by cases z) (fun _ _ _ z => by cases z) (fun _ z => by cases z) (G.t i a h), G.nd, G.ok, G.few⟩
theorem lc_subK {J : It} {n : Nat} {G : Hp → Prop} {Y : Nat → Hp → V → Hp → Prop} {g : TG} {tt : TT} {te : TE} {vs : List Nat} {σ : L2.St} {H0 : Hp} {D b : Addr} {B : Nat} {Qd : Hp → Prop} (f : Nat → Str) (must : Nat → Prop) (w : Walk J n G Y) (nD : H0 D = none) (nb : D ≠ b) (X : Box H0 b B) (hn : n < sizeLine)
    (hG : ∀ H', SameBut b H0 H' → G H')
    (hs : ∀ (k : Nat) (x : V) (H1 H2 : Hp) (Nx : Hp → Prop), k < n → SameBut b H0 H1 → Box H1 b (B + k) → Y k H1 x H2 →
      (∀ H5, SameBut b H1 H5 → Box H5 b (B + k + 1) → ∃ acc, H5 D = some (.lst acc) ∧ acc.length < sizeLine ∧ Nx (upd H5 D (.lst (acc ++ [.str (f k)])))) → (¬ must k → ∀ H5, SameBut b H1 H5 → Box H5 b (B + k + 1) → Nx H5) →
      g x (wipe σ vs) H2 fun σ2 H3 => wipe σ2 vs = wipe σ vs ∧ tt σ2 H3 fun b H4 => if b = true then te σ2 H4 fun y H5 => ∃ acc, H5 D = some (.lst acc) ∧ acc.length < sizeLine ∧ Nx (upd H5 D (.lst (acc ++ [y]))) else Nx H4)
    (hd : ∀ (H' : Hp) (rs : List Str), SameBut b H0 H' → Box H' b (B + n) → H' D = some (.lst (rs.map V.str)) → (∀ z, z ∈ rs → ∃ k, k < n ∧ z = f k) → (∀ k, k < n → must k → f k ∈ rs) → rs.length ≤ n → Qd H') :
    ∃ W : Nat → Nat → Hp → Prop, (∃ m, W 0 m (upd H0 D (.lst []))) ∧ ∀ i m H, W i m H →
      (J.stop i H ∧ Qd H) ∨ (J.go i H ∧ ∃ Nx : Hp → Prop, (∀ H', Nx H' → ∃ m', m' < m ∧ W (i + 1) m' H') ∧ ∀ x H', J.yld i H x H' → g x (wipe σ vs) H' fun σ2 H2 => wipe σ2 vs = wipe σ vs ∧ tt σ2 H2 fun b H3 =>
        if b = true then te σ2 H3 fun y H4 => ∃ acc, H4 D = some (.lst acc) ∧ acc.length < sizeLine ∧ Nx (upd H4 D (.lst (acc ++ [y]))) else Nx H3) := by
  refine lc_it w (fun k H' => SameBut b H0 H' ∧ Box H' b (B + k) ∧ ∃ rs : List Str, H' D = some (.lst (rs.map V.str)) ∧ (∀ z, z ∈ rs → ∃ j, j < k ∧ z = f j) ∧ (∀ j, j < k → must j → f j ∈ rs) ∧ rs.length ≤ k) ⟨.of (same_new0 nD), X.put nb, [], upd_same, fun z hz => by simp at hz, fun j hj => absurd hj (Nat.not_lt_zero _), Nat.le_refl _⟩ (fun i H _ h => hG H h.1) (fun k x H H' hk hP hY => ?_) (fun H h => ?_)
  · obtain ⟨e, XB, rs, hD, ho, hm, hl⟩ := hP
    refine hs k x H H' (fun H4 => SameBut b H0 H4 ∧ Box H4 b (B + (k + 1)) ∧ ∃ rs : List Str, H4 D = some (.lst (rs.map V.str)) ∧ (∀ z, z ∈ rs → ∃ j, j < k + 1 ∧ z = f j) ∧ (∀ j, j < k + 1 → must j → f j ∈ rs) ∧ rs.length ≤ k + 1) hk e XB hY (fun H5 e5 X5 => ?_) (fun nm H5 e5 X5 => ?_)
    · refine ⟨_, e5 _ _ nb hD, by rw [List.length_map]; exact Nat.lt_of_le_of_lt hl (Nat.lt_trans hk hn), (e.trans e5).mut nD, X5.put nb, rs ++ [f k], by rw [upd_same, List.map_append]; rfl, fun y hy => ?_, fun j hj m => ?_, by rw [List.length_append]; exact Nat.succ_le_succ hl⟩
      · rcases List.mem_append.mp hy with h | h
        · obtain ⟨j, h1, h2⟩ := ho y h
          exact ⟨j, by omega, h2⟩
        · exact ⟨k, by omega, List.mem_singleton.mp h⟩
      · by_cases z : j = k
        · subst z
          exact List.mem_append.mpr (.inr (List.mem_singleton.mpr rfl))
        · exact List.mem_append.mpr (.inl (hm j (by omega) m))
    · refine ⟨e.trans e5, X5, rs, e5 _ _ nb hD, fun y hy => ?_, fun j hj m => ?_, Nat.le_succ_of_le hl⟩
      · obtain ⟨j, h1, h2⟩ := ho y hy
        exact ⟨j, by omega, h2⟩
      · by_cases z : j = k
        · subst z
          exact absurd m nm
        · exact hm j (by omega) m
  · obtain ⟨e, XB, rs, hD, ho, hm, hl⟩ := h
    exact hd H rs e XB hD ho hm hl
theorem run_cong {n : Nat} {p c : Nat → Nat} {R R' : Nat → Nat → Prop} {d : List (Option Nat)} (h : Deal.Run n p c R d) (e : ∀ t, t < d.length → R' t = R t) : Deal.Run n p c R' d := fun t x hx => by
  have ht : t < d.length := (List.getElem?_eq_some_iff.mp hx).1
  rw [e t ht]
  exact h t x hx
theorem bump_cnt (d : List (Option Nat)) (b : Option Nat) : bump (Deal.cnt d) b = Deal.cnt (d ++ [b]) := funext fun i => by
  rw [Deal.cnt_snoc]
  rfl
/-- what comes surely is not more than what came -/
theorem sure_le {M : Nat} {T : Nat → Nat} {F : List Nat} (r : Nat) (hM : M ≤ F.length) (h : ∀ k, k < M → ∃ x, F[k]? = some x ∧ x ≤ T k) : ((List.range M).filter fun k => decide (T k ≤ r)).length ≤ (F.filter fun x => decide (x ≤ r)).length := by
  have e : F.take M = (List.range M).map fun k => F.getD k 0 := by
    refine List.ext_getElem? fun k => ?_
    rw [List.getElem?_map]
    by_cases hk : k < M
    · rw [List.getElem?_take_of_lt hk, List.getElem?_range hk, List.getElem?_eq_getElem (by omega)]
      simp [List.getD_eq_getElem?_getD, List.getElem?_eq_getElem (show k < F.length by omega)]
    · rw [List.getElem?_eq_none (by rw [List.length_take]; omega), List.getElem?_eq_none (by rw [List.length_range]; omega)]
      rfl
  have h1 : (F.take M).filter (fun x => decide (x ≤ r)) = ((List.range M).filter fun k => decide (F.getD k 0 ≤ r)).map fun k => F.getD k 0 := by
    rw [e, List.filter_map]
    rfl
  have h2 : ((F.take M).filter fun x => decide (x ≤ r)).length ≤ (F.filter fun x => decide (x ≤ r)).length := ((List.take_sublist M F).filter _).length_le
  rw [h1, List.length_map] at h2
  refine Nat.le_trans ?_ h2
  rw [← List.countP_eq_length_filter, ← List.countP_eq_length_filter]
  refine List.countP_mono_left fun k hk hp => ?_
  obtain ⟨x, hx, hle⟩ := h k (List.mem_range.mp hk)
  rw [List.getD_eq_getElem?_getD, hx]
  have hp := of_decide_eq_true hp
  exact decide_eq_true (show x ≤ r by omega)
end K61
namespace K61
open PySem L2 Y LamX
local macro_rules | `(tactic| walk_at "lk") => `(tactic| with_reducible first | exact lkP_told_promise | exact lkP_told_ceiling | exact lkP_now_promise | exact lkP_now_ceiling | exact lkP_turns_used | exact lkS_own_length | exact lkS_portions | exact lkS_turns_passed | exact lkS_all_dealt | exact mnP_begin | exact mnS_need_guest | exact mnS_need_room_for | exact mnS_come | exact mnS_promised_one | exact mnS_free_one | exact mnS_deal | exact mnS_promised | exact mnS_change | exact mnS_length | exact mnS_names | exact mnS_counting)
local macro_rules | `(tactic| walk_at "ln") => `(tactic| first | exact lenP | exact lenS | (simp; done) | (show 0 < 1000; decide) | (show 1 < 1000; decide) | (show 2 < 1000; decide) | (show 3 < 1000; decide) | (show 4 < 1000; decide))

/-- all but the box, the Shares, its list, its portions and one more list as it was -/
def OutS (b s al fl : Addr) (n : Nat) (pt : Nat → Addr) (H H' : Hp) : Prop := ∀ a o, a ≠ b → a ≠ s → a ≠ al → a ≠ fl → (∀ j, j < n → a ≠ pt j) → (∀ ps, o ≠ .tbl ps) → H a = some o → H' a = some o
theorem OutS.refl (b s al fl : Addr) (n : Nat) (pt : Nat → Addr) (H : Hp) : OutS b s al fl n pt H H := fun _ _ _ _ _ _ _ _ h => h
theorem OutS.trans {b s al fl : Addr} {n : Nat} {pt : Nat → Addr} {H H' H2 : Hp} (e : OutS b s al fl n pt H H') (e2 : OutS b s al fl n pt H' H2) : OutS b s al fl n pt H H2 := fun a o h1 h2 h3 h4 h5 nt h => e2 a o h1 h2 h3 h4 h5 nt (e a o h1 h2 h3 h4 h5 nt h)
theorem OutS.ofB {b s al fl : Addr} {n : Nat} {pt : Nat → Addr} {H H' : Hp} (e : SameBut b H H') : OutS b s al fl n pt H H' := fun a o h1 _ _ _ _ _ h => e a o h1 h
theorem OutS.ofP {b s al fl : Addr} {n : Nat} {pt : Nat → Addr} {H H' : Hp} (e : OutP b n pt H H') : OutS b s al fl n pt H H' := fun a o h1 _ _ _ h5 _ h => e a o h1 h5 h
theorem OutS.ofO {b s al fl : Addr} {n : Nat} {pt : Nat → Addr} {H H' : Hp} (e : Out s al n pt H H') : OutS b s al fl n pt H H' := fun a o _ h2 h3 _ h5 nt h => e a o h2 h3 h5 nt h
theorem OutS.put {b s al fl : Addr} {n : Nat} {pt : Nat → Addr} (H : Hp) (o : HO) : OutS b s al fl n pt H (upd H fl o) := fun a u _ _ _ h4 _ _ h => by
  rw [upd_ne h4]
  exact h
theorem Gs.outS {H H' : Hp} {CP CS s pd al b fl : Addr} {L t B : Nat} {nm nm2 : List Str} {pt : Nat → Addr} {tp tc np nc u : Nat → Nat} {d : List V} {g : Addr} {o : Obj} {ts : List Addr} {p c : Nat → Nat} {xs : List V} (G : Gs H g o nm2 ts p c) (S : Sh H CP CS s pd al L t nm pt tp tc np nc u d) (X : Box H b B) (hf : H fl = some (.lst xs)) (e : OutS b s al fl nm.length pt H H') : Gs H' g o nm2 ts p c := by
  obtain ⟨x1, x2, x3, hb, _⟩ := X.at_
  obtain ⟨dx, hs⟩ := S.ob
  refine G.mk2 fun a u hl hi ht h => e a u (fun z => ?_) (fun z => ?_) (fun z => ?_) (fun z => ?_) (fun j hj z => ?_) ht h
  · rw [z, hb] at h
    exact hl _ (Option.some.inj h).symm
  · rw [z, hs] at h
    exact hi _ _ _ (Option.some.inj h).symm
  · rw [z, S.al] at h
    exact hl _ (Option.some.inj h).symm
  · rw [z, hf] at h
    exact hl _ (Option.some.inj h).symm
  · obtain ⟨dj, hj⟩ := S.po j hj
    rw [z, hj] at h
    exact hi _ _ _ (Option.some.inj h).symm
/-- the heap in which a stretch begins -/
def sp__law_stretch_right (CP CS Pt Pt2 : Addr) : Sp := fun vs H Q _ => ∃ (b : Addr) (B : Nat) (s pd al : Addr) (L : Nat) (nm : List Str) (pt : Nat → Addr) (tp tc : Nat → Nat) (d : List V) (i : Nat), vs = [.ref b, .ref s, .str (nmF nm i)] ∧ Box H b B ∧ B ≤ 90000 ∧ al ≠ b ∧ Sh H CP CS s pd al L 0 nm pt tp tc tp tc (Deal.cnt []) d ∧ d.length ≤ 9000 ∧ Deal.Ok nm.length L tp tc ∧ (∀ z, z ∈ nm → NameOk z) ∧ i < nm.length ∧ 4 ≤ L ∧ L ≤ 60 ∧ Tabs (tabsOf Pt Pt2) H ∧
  ∀ tp' tc' d' H', (∀ a o, a ≠ b → a ≠ s → a ≠ al → (∀ j, j < nm.length → a ≠ pt j) → (∀ ps, o ≠ .tbl ps) → H a = some o → H' a = some o) → Tabs (tabsOf Pt Pt2) H' → Box H' b (B + 1000) → Sh H' CP CS s pd al L 0 nm pt tp' tc' tp' tc' (Deal.cnt []) d' → d'.length = d.length + L → Deal.Ok nm.length L tp' tc' → Q (.bl true) H'
section
variable {P : Program} {w : World} {K : PySem.W.Frag} {mg : Str → Option Value} {base : Heap}
theorem ok__law_stretch_right {f : Addr} {fd : FuncData} (T : Txt K mg) {CPortion CShares CGuestError CTooMuch : Addr} (W : Own K mg CPortion CShares CGuestError CTooMuch) {ca Pt ca2 Pt2 : Addr} (C : Cd K mg base CShares ca Pt ca2 Pt2) (F : Fun K "_law_stretch_right" "_law_stretch_right" s__law_stretch_right f fd) : FnOk P w K mg base CX0 6 f fd ["box", "shares", "name"] (sp__law_stretch_right CPortion CShares Pt Pt2) := by
  obtain ⟨f__law_take, fd__law_take, g__law_take, F__law_take⟩ := T.d__law_take
  have G__law_take := ok__law_take (P := P) (w := w) (base := base) T F__law_take
  have b__law_take := F__law_take.binds (ps := ["box", "many"]) fun _ _ _ _ _ _ us hl => match us, hl with | [_, _], _ => rfl
  obtain ⟨f__law_counting, fd__law_counting, g__law_counting, F__law_counting⟩ := T.d__law_counting
  have G__law_counting := ok__law_counting (P := P) (w := w) (base := base) T W F__law_counting
  have b__law_counting := F__law_counting.binds (ps := ["shares"]) fun _ _ _ _ _ _ us hl => match us, hl with | [_], _ => rfl
  obtain ⟨f_Shares_length, fd_Shares_length, F_Shares_length, m_Shares_length⟩ := W.m_Shares_length
  have G_Shares_length := ok_Shares_length (P := P) (w := w) (base := base) T W F_Shares_length
  have b_Shares_length := F_Shares_length.binds (ps := ["self"]) fun _ _ _ _ _ _ us hl => match us, hl with | [_], _ => rfl
  obtain ⟨f_latest, fd_latest, g_latest, F_latest⟩ := T.d_latest
  have G_latest := ok_latest (P := P) (w := w) (base := base) T F_latest
  have b_latest := F_latest.binds (ps := ["length", "guests", "name", "many"]) fun _ _ _ _ _ _ us hl => match us, hl with | [_, _, _, _], _ => rfl
  obtain ⟨f_at_least, fd_at_least, g_at_least, F_at_least⟩ := T.d_at_least
  have G_at_least := ok_at_least (P := P) (w := w) (base := base) T F_at_least
  have b_at_least := F_at_least.binds (ps := ["length", "guests", "name", "turns"]) fun _ _ _ _ _ _ us hl => match us, hl with | [_, _, _, _], _ => rfl
  obtain ⟨f__law_change, fd__law_change, g__law_change, F__law_change⟩ := T.d__law_change
  have G__law_change := ok__law_change (P := P) (w := w) (base := base) T W F__law_change
  have b__law_change := F__law_change.binds (ps := ["box", "shares"]) fun _ _ _ _ _ _ us hl => match us, hl with | [_, _], _ => rfl
  obtain ⟨f_Shares_deal, fd_Shares_deal, F_Shares_deal, m_Shares_deal⟩ := W.m_Shares_deal
  have G_Shares_deal := ok_Shares_deal (P := P) (w := w) (base := base) T W C F_Shares_deal
  have b_Shares_deal := F_Shares_deal.binds (ps := ["self", "ready"]) fun _ _ _ _ _ _ us hl => match us, hl with | [_, _], _ => rfl
  have scp := sc__law_stretch_right
  refine F.ok sc__law_stretch_right (fun vs H Q E h => ?_) (fun cdv A outer s H vs Q E hr h => ?_)
  · first | (obtain ⟨rfl, _⟩ := h; rfl) | (obtain ⟨_, rfl, _⟩ := h; rfl) | (obtain ⟨_, _, rfl, _⟩ := h; rfl) | (obtain ⟨_, _, _, rfl, _⟩ := h; rfl) | (obtain ⟨_, _, _, _, rfl, _⟩ := h; rfl) | (obtain ⟨_, _, _, _, _, rfl, _⟩ := h; rfl) | (obtain ⟨_, _, _, _, _, _, rfl, _⟩ := h; rfl) | (obtain ⟨_, _, _, _, _, _, _, rfl, _⟩ := h; rfl) | (obtain ⟨_, _, _, _, _, _, _, _, rfl, _⟩ := h; rfl) | (obtain ⟨_, _, _, _, _, _, _, _, _, rfl, _⟩ := h; rfl) | (obtain ⟨_, _, _, _, _, _, _, _, _, _, rfl, _⟩ := h; rfl) | (obtain ⟨_, _, _, _, _, _, _, _, _, _, _, rfl, _⟩ := h; rfl) | (obtain ⟨_, _, _, _, _, _, _, _, _, _, _, _, rfl, _⟩ := h; rfl) | (obtain ⟨_, _, _, _, _, _, _, _, _, _, _, _, _, rfl, _⟩ := h; rfl) | (obtain ⟨_, _, _, _, _, _, _, _, _, _, _, _, _, _, rfl, _⟩ := h; rfl) | (obtain ⟨_, _, _, _, _, _, _, _, _, _, _, _, _, _, _, rfl, _⟩ := h; rfl) | (obtain ⟨_, _, _, _, _, _, _, _, _, _, _, _, _, _, _, _, rfl, _⟩ := h; rfl) | (obtain ⟨_, _, _, _, _, _, _, _, _, _, _, _, _, _, _, _, _, rfl, _⟩ := h; rfl) | (obtain ⟨_, _, _, _, _, _, _, _, _, _, _, _, _, _, _, _, _, _, rfl, _⟩ := h; rfl) | (obtain ⟨_, _, _, _, _, _, _, _, _, _, _, _, _, _, _, _, _, _, _, rfl, _⟩ := h; rfl) | (obtain ⟨_, _, _, _, _, _, _, _, _, _, _, _, _, _, _, _, _, _, _, _, rfl, _⟩ := h; rfl) | (obtain ⟨_, _, _, _, _, _, _, _, _, _, _, _, _, _, _, _, _, _, _, _, _, rfl, _⟩ := h; rfl) | (obtain ⟨_, _, _, _, _, _, _, _, _, _, _, _, _, _, _, _, _, _, _, _, _, _, rfl, _⟩ := h; rfl) | (obtain ⟨_, _, _, _, _, _, _, _, _, _, _, _, _, _, _, _, _, _, _, _, _, _, _, rfl, _⟩ := h; rfl) | (obtain ⟨_, _, _, _, _, _, _, _, _, _, _, _, _, _, _, _, _, _, _, _, _, _, _, _, rfl, _⟩ := h; rfl) | (obtain ⟨_, _, _, _, _, _, _, _, _, _, _, _, _, _, _, _, _, _, _, _, _, _, _, _, _, rfl, _⟩ := h; rfl) | (obtain ⟨_, _, _, _, _, _, _, _, _, _, _, _, _, _, _, _, _, _, _, _, _, _, _, _, _, _, rfl, _⟩ := h; rfl) | (obtain ⟨_, _, _, _, _, _, _, _, _, _, _, _, _, _, _, _, _, _, _, _, _, _, _, _, _, _, _, rfl, _⟩ := h; rfl)
  · obtain ⟨b, B, s0, pd, al, L, nm, pt, tp, tc, d, i, rfl, X, hB, hab, S, hdl, O, hok, hi, h4, h60, hT, q⟩ := h
    have hu := hu_of hr
    have hv := hr.units
    have c_Portion := W.c_Portion; have n_Portion_told_promise := W.n_Portion_told_promise; have n_Portion_told_ceiling := W.n_Portion_told_ceiling; have n_Portion_now_promise := W.n_Portion_now_promise; have n_Portion_now_ceiling := W.n_Portion_now_ceiling; have n_Portion_turns_used := W.n_Portion_turns_used; have c_Shares := W.c_Shares; have n_Shares_own_length := W.n_Shares_own_length; have n_Shares_portions := W.n_Shares_portions; have n_Shares_turns_passed := W.n_Shares_turns_passed; have n_Shares_all_dealt := W.n_Shares_all_dealt
    have hfew := S.few
    refine ⟨_, (pss_cons (ps_par3 (i := 3) (j := 4) (l := 5) (by rfl) scp.nd rfl rfl rfl (by decide) (by decide) (by decide) rfl rfl rfl (pa_cons (pe_call (G__law_counting.mono (by decide)) hr rfl g__law_counting F__law_counting.kp b__law_counting .nil pass0 (pa_cons (pv 1) pa_nil)) (pa_cons (pe_meth0 (pv 1) W.c_Shares m_Shares_length (G_Shares_length.mono (by decide)) hr b_Shares_length .nil pass0) (pa_cons (pe_lst pa_nil) pa_nil))) (by rfl))
  (pss_frz (pss_cons (ps_for PassesOwn.never rfl (pi_range1 rfl T.n_range (pa_cons (pv 4) pa_nil)) (pg_name (i := 6) scp.nd rfl (by first | exact Or.inl rfl | exact Or.inr rfl))
  (pss_cons (ps_setLc (i := 7) (own := [("one", 11)]) (g := gName 11) rfl scp.nd rfl rfl (sw_true rfl rfl rfl (by decide +kernel)) (pi_keys (pv 3)) (blkOk_by (own := [("one", 11)]) (N := ["box", "shares", "name", "guests", "length", "found", "turn", "ready", "many", "due", "turns", "one"]) (sc := defScope s__law_stretch_right) (by decide +kernel)) (fun _ _ _ _ _ => (pg_name (i := 11) scp.nd rfl (by first | exact Or.inl rfl | exact Or.inr rfl))) (fun _ _ _ _ _ => (pts_one (PW.pt (pw_or (pt_cmpR (op_eqK (K := K) hv) (pv 11) (pv 2) (nomark _)) (pw_or1 (pt_cmpR op_gtI (pe_call (G__law_take.mono (by decide)) hr rfl g__law_take F__law_take.kp b__law_take .nil pass0 (pa_cons (pv 0) (pa_cons pe_int pa_nil))) pe_int (nomark _))))))) (fun _ _ _ _ _ => (pv 11)))
  (pss_cons (ps_if (PW.pt (pw_and (pt_cmpR (op_eqK (K := K) hv) (pe_call (G__law_take.mono (by decide)) hr rfl g__law_take F__law_take.kp b__law_take .nil pass0 (pa_cons (pv 0) (pa_cons pe_int pa_nil))) pe_int (nomark _)) (pw_and1 (pt_cmpR op_gtI (pv 6) pe_int (nomark _)))))
  (pss_one (ps_expr (pe_call (G__law_change.mono (by decide)) hr rfl g__law_change F__law_change.kp b__law_change .nil pass0 (pa_cons (pv 0) (pa_cons (pv 1) pa_nil)))))
  pss_nil)
  (pss_one (ps_if (pt_cmpR (op_eqK (K := K) hv) (pe_meth (pv 1) W.c_Shares m_Shares_deal (G_Shares_deal.mono (by decide)) hr b_Shares_deal .nil pass0 (pa_cons (pv 7) pa_nil)) (pv 2) (nomark _))
  (pss_one (ps_expr (pe_bmK (K := K) PySem.F.plainAttrs_list PySem.F.slot_list_append PySem.F.type_list_append mt_append (pv 5) (pa_cons (pe_op op_plus (pv 6) pe_int) pa_nil))))
  pss_nil)))))
  (pss_cons (ps_for PassesOwn.never rfl (pi_range2 rfl T.n_range (pa_cons pe_int (pa_cons (pe_op op_plus (pv 4) pe_int) pa_nil))) (pg_name (i := 8) scp.nd rfl (by first | exact Or.inl rfl | exact Or.inr rfl))
  (pss_cons (ps_set (i := 9) scp.nd rfl (by first | exact Or.inl rfl | exact Or.inr rfl) (pe_call (G_latest.mono (by decide)) hr rfl g_latest F_latest.kp b_latest .nil pass0 (pa_cons (pv 4) (pa_cons (pv 3) (pa_cons (pv 2) (pa_cons (pv 8) pa_nil))))))
  (pss_one (ps_if (PW.pt (pw_and (pt_cmpR op_notNo (pv 9) pe_non (nomark _)) (pw_and1 (PW.pt (pw_or (pt_cmpR op_ltI (pe_callB (call_lenK (K := K)) (by rfl) T.n_len (by decide +kernel) (pa_cons (pv 5) pa_nil)) (pv 8) (nomark _)) (pw_or1 (pt_cmpR op_gtI (pe_ix (ix_anyK (K := K) hu) (pv 5) (pe_op op_minus (pv 8) pe_int) (fun _ _ => rfl)) (pv 9) (nomark _))))))))
  (pss_one (ps_ret pe_bl))
  pss_nil))))
  (pss_cons (ps_set (i := 10) scp.nd rfl (by first | exact Or.inl rfl | exact Or.inr rfl) (pe_call (G__law_take.mono (by decide)) hr rfl g__law_take F__law_take.kp b__law_take .nil pass0 (pa_cons (pv 0) (pa_cons (pe_op op_plus (pv 4) pe_int) pa_nil))))
  (pss_one (ps_ret (pe_cmpR op_geI (pe_callB (call_lenK (K := K)) (by rfl) T.n_len (by decide +kernel) (pa_cons (pe_lc (own := [("turn", 6)]) (g := gName 6) rfl scp.nd (pi_listK (K := K) (pv 5)) (blkOk_by (own := [("turn", 6)]) (N := ["box", "shares", "name", "guests", "length", "found", "turn", "ready", "many", "due", "turns", "one"]) (sc := defScope s__law_stretch_right) (by decide +kernel)) (fun _ _ _ _ _ => (pg_name (i := 6) scp.nd rfl (by first | exact Or.inl rfl | exact Or.inr rfl))) (fun _ _ _ _ _ => (pts_one (pt_cmpR op_leI (pv 6) (pv 10) (nomark _)))) (fun _ _ _ _ _ => (pv 6))) pa_nil)) (pe_call (G_at_least.mono (by decide)) hr rfl g_at_least F_at_least.kp b_at_least .nil pass0 (pa_cons (pv 4) (pa_cons (pv 3) (pa_cons (pv 2) (pa_cons (pv 10) pa_nil))))) (nomark _))))))))), ?_⟩
    walk_at "ys"
    refine ⟨s0, pd, al, L, 0, nm, pt, tp, tc, tp, tc, _, d, rfl, S, fun gd ts H1 e1 ngd hgd htl hts => ?_⟩
    have S1 := S.same e1
    have X1 := X.same e1
    obtain ⟨dx1, hs1⟩ := S1.ob
    walk_at "ys"
    refine ⟨s0, pd, al, L, 0, nm, pt, tp, tc, tp, tc, _, d, rfl, S1, ?_⟩
    walk_at "ys"
    refine ⟨sz_line (by simp), fun fl nfl => ?_⟩
    have f2 : Same H1 (upd H1 fl (.lst [])) := same_new0 nfl
    have hfl : upd H1 fl (.lst []) fl = some (.lst []) := upd_same
    have nflH : H fl = none := free_of e1 nfl
    have flb : fl ≠ b := X1.ne nfl
    have fla : fl ≠ al := (ne_of_none S1.al nfl).symm
    have S2 := S1.same f2
    have X2 := X1.same f2
    have T2 := (hT.ext e1).ext f2
    have hgd2 := f2 _ _ hgd
    have hts2 : ∀ (i : Nat) (a : Addr), ts[i]? = some a → upd H1 fl (.lst []) a = some (.tup [.int (tp i), .int (tc i)]) := fun i a h => f2 _ _ (hts i a h)
    have e2 := e1.trans f2
    have hgdH := ngd
    generalize upd H1 fl (.lst []) = H2 at *
    walk_at "ys"
    refine y_frz hgd2 True.intro (fun od => ?_)
    have ngdb : gd ≠ b := X.ne ngd
    have keep3 : ∀ a u, a ≠ gd → H2 a = some u → upd H2 gd (.frz od (.dK (kvOf nm ts))) a = some u := fun a u n h => by rw [upd_ne n]; exact h
    have X3 : Box (upd H2 gd (.frz od (.dK (kvOf nm ts)))) b B := X2.put ngdb
    have T3 : Tabs (tabsOf Pt Pt2) (upd H2 gd (.frz od (.dK (kvOf nm ts)))) := tabs_upd T2 hgd2 (fun ps z => by cases z) (fun c q z => by unfold CodeO at z; cases z)
    have G3 : Gs (upd H2 gd (.frz od (.dK (kvOf nm ts)))) gd od nm ts tp tc := ⟨upd_same, htl, fun i a h => keep3 _ _ (ne_of (hts2 i a h) hgd2 (fun z => by cases z)) (hts2 i a h), S.nd, hok, hfew⟩
    have s3 : Same H (upd H2 gd (.frz od (.dK (kvOf nm ts)))) := same_mut e2 ngd
    have S3 : Sh (upd H2 gd (.frz od (.dK (kvOf nm ts)))) CPortion CShares s0 pd al L 0 nm pt tp tc tp tc (Deal.cnt []) d := S.same s3
    have hfl3 : upd H2 gd (.frz od (.dK (kvOf nm ts))) fl = some (.lst []) := keep3 _ _ (ne_of hfl hgd2 (fun z => by cases z)) hfl
    generalize upd H2 gd (.frz od (.dK (kvOf nm ts))) = H3 at *
    clear hgd2 hts2 keep3 S2 X2 T2 e2 hfl
    walk_at "ys"
    refine y_gotr1 (by omega) (by omega) ?_
    refine for_it walk_range (fun t σ H' => ∃ (tp' tc' np nc u : Nat → Nat) (dV : List V) (dd : List (Option Nat)) (rr : Nat → List Str) (v6 v7 : Option V), σ = [some (.ref b), some (.ref s0), some (.str (nmF nm i)), some (.ref gd), some (.int L), some (.ref fl), v6, v7, none, none, none, none] ∧ OutS b s0 al fl nm.length pt H3 H' ∧ Tabs (tabsOf Pt Pt2) H' ∧ Box H' b (B + t * 10) ∧ Gs H' gd od nm ts tp tc ∧ Sh H' CPortion CShares s0 pd al L (if t = L then 0 else t) nm pt tp' tc' np nc u dV ∧ Deal.Ok nm.length L tp' tc' ∧ dV.length = d.length + t ∧ dd.length = t ∧ Deal.Run nm.length tp tc (fun t' j => nmF nm j ∈ rr t') dd ∧ (∀ t', nmF nm i ∈ rr t') ∧ (t < L → np = tp ∧ nc = tc ∧ u = Deal.cnt dd) ∧ (t = L → np = tp' ∧ nc = tc' ∧ u = Deal.cnt []) ∧ H' fl = some (.lst (gotV dd i)))
      ⟨tp, tc, tp, tc, _, d, [], fun _ => nm, none, none, rfl, OutS.refl _ _ _ _ _ _ _, T3, X3.mono (by omega), G3, by rw [if_neg (by omega)]; exact S3, O, rfl, rfl, Deal.run_nil _ _ _ _, fun _ => List.mem_of_getElem? (nmF_at hi), fun _ => ⟨rfl, rfl, rfl⟩, fun z => by omega, hfl3⟩ (fun _ _ _ _ _ => trivial) (fun t x σ H4 H5 ht hP hY => ?_) (fun σ H4 hP => ?_)
    · obtain ⟨tp', tc', np, nc, u, dV, dd, rr, v6, v7, rfl, o4, T4, X4, G4, S4, O4, hdV, hdd, hR, hin, hlt, _, hfl4⟩ := hP
      obtain ⟨rfl, rfl⟩ := hY
      have htL : t < L := by omega
      obtain ⟨rfl, rfl, rfl⟩ := hlt htL
      rw [if_neg (by omega)] at S4
      have e0 : (fun i : Nat => V.int ((0 : Int) + (i : Nat))) t = V.int (t : Nat) := congrArg V.int (Int.zero_add _)
      rw [e0]
      have hd4 := G4.d
      have gdb : gd ≠ b := by
        obtain ⟨x1, x2, x3, hb, _⟩ := X4.at_
        exact ne_of hd4 hb (fun z => by cases z)
      walk_at "ys"
      intro D nD
      have nDb : D ≠ b := X4.ne nD
      have nDf : D ≠ fl := (ne_of_none hfl4 nD).symm
      have nDa : D ≠ al := (ne_of_none S4.al nD).symm
      refine lc_subK (B := B + t * 10) (nmF nm) (fun j => j = i) walk_keys nD nDb X4 (sz_lt (by rw [kvOf_len G4.len]; omega)) (fun H' e => e _ _ gdb hd4) (fun j x H6 H7 Nx hj e6 X6 hY k k0 => ?_) (fun H6 rs e6 X6 hD hrs hmust hrl => ?_)
      · obtain ⟨rfl, kk, v, hkv, rfl⟩ := hY
        obtain ⟨z, tz, hz, htz, rfl, rfl⟩ := kvOf_at hkv
        obtain rfl : nmF nm j = z := nmF_of hz
        have hjn : j < nm.length := (List.getElem?_eq_some_iff.mp hz).1
        walk_at "ys"
        by_cases hji : j = i
        · subst hji
          walk_at "ys"
          exact k _ (SameBut.refl _ _) (X6.mono (by omega))
        · refine y_dF (fun e => hji ((nm_inj S.nd hjn hi).mp (V.str.inj e))) ?_
          walk_at "ys"
          refine ⟨b, 3, B + t * 10 + j, rfl, by omega, by omega, X6, by omega, fun r H8 hr8 e8 X8 => ?_⟩
          walk_at "ys"
          refine y_d2 (fun g => ?_) (fun g => ?_)
          · walk_at "ys"
            exact k _ e8 X8
          · exact k0 hji _ e8 X8
      · rw [kvOf_len G4.len] at X6 hrl
        have S6 := S4.but X4 hab e6
        have hfl6 := e6 _ _ flb hfl4
        have T6 := X4.tabs T4 e6
        have hrn : ∀ z, z ∈ rs → z ∈ nm := fun z hz => by
          obtain ⟨k, hk, rfl⟩ := hrs z hz
          rw [kvOf_len G4.len] at hk
          exact List.mem_of_getElem? (nmF_at hk)
        have hri : nmF nm i ∈ rs := hmust i (by rw [kvOf_len G4.len]; exact hi) rfl
        have o6 : OutS b s0 al fl nm.length pt H3 H6 := o4.trans (.ofB e6)
        have G6 := G4.outS S4 X4 hfl4 (.ofB e6)
        -- a change, at times
        obtain ⟨dx6, hs6⟩ := S6.ob
        refine y_cut (fun (c2 : (Nat → Nat) × (Nat → Nat)) σ' H' => σ' = [some (.ref b), some (.ref s0), some (.str (nmF nm i)), some (.ref gd), some (.int L), some (.ref fl), some (.int (t : Nat)), some (.ref D), none, none, none, none] ∧ OutP b nm.length pt H6 H' ∧ Box H' b (B + t * 10 + 10) ∧ Sh H' CPortion CShares s0 pd al L t nm pt c2.1 c2.2 np nc (Deal.cnt dd) dV ∧ Deal.Ok nm.length L c2.1 c2.2) (fun c2 σ' H9 hP => ?_) (fun tail => ?_)
        · obtain ⟨rfl, o9, X9, S9, O9⟩ := hP
          have hptl : ∀ j, j < nm.length → ∀ a xs, H6 a = some (.lst xs) → a ≠ pt j := fun j hj a xs h => by
            obtain ⟨dj, hj⟩ := S6.po j hj
            exact ne_of h hj (fun z => by cases z)
          have hD9 := o9 _ _ nDb (fun j hj => hptl j hj _ _ hD) hD
          have hfl9 := o9 _ _ flb (fun j hj => hptl j hj _ _ hfl6) hfl6
          have G9 := G6.outS S6 X6 hfl6 (.ofP o9)
          have oS9 : OutS b s0 al fl nm.length pt H3 H9 := o6.trans (.ofP o9)
          obtain ⟨dx9, hs9⟩ := S9.ob
          have T9 : Tabs (tabsOf Pt Pt2) H9 := tabs_gen T6 fun a o h1 h2 h => o9 a o (fun z => by
            obtain ⟨x1, x2, x3, hb, _⟩ := X6.at_
            rw [z, hb] at h
            exact h2 _ (Option.some.inj h).symm) (fun j hj z => by
            obtain ⟨dj, hj⟩ := S6.po j hj
            rw [z, hj] at h
            exact h1 _ _ _ (Option.some.inj h).symm) h
          walk_at "ys"
          refine ⟨s0, pd, al, D, L, t, nm, pt, c2.1, c2.2, np, nc, Deal.cnt dd, dV, rs, rfl, S9, hD9, hrn, by omega, fun j hj => ⟨?_, ?_, O.pc j hj⟩, by omega, T9, fun b' H10 o10 T10 hBb S10 => ?_⟩
          · have h1 := run_cnt hR hj
            have h2 := O.cL j hj
            omega
          · have h1 := O.pc j hj
            have h2 := O.cL j hj
            omega
          · have hBR := bestR_of hBb
            have hfl10 : H10 fl = some (.lst (gotV dd i)) := o10 _ _ (ne_of hfl9 hs9 (fun z => by cases z)) fla (fun j hj => by
              obtain ⟨dj, hj⟩ := S9.po j hj
              exact ne_of hfl9 hj (fun z => by cases z)) (fun ps z => by cases z) hfl9
            have G10 := G9.outS S9 X9 hfl9 (.ofO o10)
            have oS10 : OutS b s0 al fl nm.length pt H3 H10 := oS9.trans (.ofO o10)
            have X10 : Box H10 b (B + t * 10 + 10) := by
              obtain ⟨x1, x2, x3, hb, h1, h2⟩ := X9.at_
              exact ⟨x1, x2, x3, o10 _ _ (ne_of hb hs9 (fun z => by cases z)) (Ne.symm hab) (fun j hj => Ne.symm (S9.ptb X9 hj)) (fun ps z => by cases z) hb, h1, h2⟩
            have hR2 : Deal.Run nm.length np nc (fun t' j => nmF nm j ∈ (if t' = t then rs else rr t')) (dd ++ [b']) := by
              refine Deal.run_snoc (run_cong hR fun t' ht' => ?_) ?_
              · rw [if_neg (by omega)]
              · rw [hdd, if_pos rfl]
                exact hBR
            have hin2 : ∀ t', nmF nm i ∈ (if t' = t then rs else rr t') := fun t' => by
              by_cases z : t' = t
              · rw [if_pos z]; exact hri
              · rw [if_neg z]; exact hin t'
            have fin : ∀ H', OutS b s0 al fl nm.length pt H10 H' → H' fl = some (.lst (gotV (dd ++ [b']) i)) → Tabs (tabsOf Pt Pt2) H' → Box H' b (B + t * 10 + 10) → Sh H' CPortion CShares s0 pd al L (if t + 1 = L then 0 else t + 1) nm pt c2.1 c2.2 (if t + 1 = L then c2.1 else np) (if t + 1 = L then c2.2 else nc) (if t + 1 = L then fun _ => 0 else bump (Deal.cnt dd) b') (dV ++ [nameV nm b']) →
                ∃ (tp' tc' np2 nc2 u : Nat → Nat) (dV : List V) (dd : List (Option Nat)) (rr : Nat → List Str) (v6 v7 : Option V), [some (V.ref b), some (V.ref s0), some (V.str (nmF nm i)), some (V.ref gd), some (V.int L), some (V.ref fl), some (V.int (t : Nat)), some (V.ref D), none, none, none, none] = [some (V.ref b), some (V.ref s0), some (V.str (nmF nm i)), some (V.ref gd), some (V.int L), some (V.ref fl), v6, v7, none, none, none, none] ∧ OutS b s0 al fl nm.length pt H3 H' ∧ Tabs (tabsOf Pt Pt2) H' ∧ Box H' b (B + (t + 1) * 10) ∧ Gs H' gd od nm ts np nc ∧ Sh H' CPortion CShares s0 pd al L (if t + 1 = L then 0 else t + 1) nm pt tp' tc' np2 nc2 u dV ∧ Deal.Ok nm.length L tp' tc' ∧ dV.length = d.length + (t + 1) ∧ dd.length = t + 1 ∧ Deal.Run nm.length np nc (fun t' j => nmF nm j ∈ rr t') dd ∧ (∀ t', nmF nm i ∈ rr t') ∧ (t + 1 < L → np2 = np ∧ nc2 = nc ∧ u = Deal.cnt dd) ∧ (t + 1 = L → np2 = tp' ∧ nc2 = tc' ∧ u = Deal.cnt []) ∧ H' fl = some (.lst (gotV dd i)) := fun H' h1 h2 h3 h4 h5 =>
              ⟨c2.1, c2.2, _, _, _, dV ++ [nameV nm b'], dd ++ [b'], fun t' => if t' = t then rs else rr t', _, _, rfl, oS10.trans h1, h3, h4.mono (by omega), G10.outS S10 X10 hfl10 h1, h5, O9, by rw [List.length_append, hdV]; rfl, by rw [List.length_append, hdd]; rfl, hR2, hin2, fun z => by rw [if_neg (by omega), if_neg (by omega), if_neg (by omega), bump_cnt]; exact ⟨rfl, rfl, rfl⟩, fun z => by rw [if_pos z, if_pos z, if_pos z]; exact ⟨rfl, rfl, rfl⟩, h2⟩
            have hgl : (gotV dd i).length ≤ 60 := by
              unfold gotV
              rw [List.length_map]
              have h1 := run_cnt hR hi
              have h2 := O.cL i hi
              unfold Deal.cnt at h1
              omega
            walk_at "ys"
            by_cases hbi : b' = some i
            · subst hbi
              refine y_eqS rfl ?_
              walk_at "ys"
              refine y_append hfl10 (sz_lt (by omega)) ?_
              walk_at "ys"
              refine fin _ (.put _ _) ?_ (tabs_upd T10 hfl10 (fun ps z => by cases z) (fun c q z => by unfold CodeO at z; cases z)) (X10.put flb) ?_
              · rw [upd_same, gotV_snoc, if_pos rfl, hdd]
                rfl
              · refine ⟨S10.ob.imp fun _ h => up_ne (ne_of h hfl10 (fun z => by cases z)) h, up_ne (ne_of S10.pd hfl10 (fun z => by cases z)) S10.pd, fun j hj => (S10.po j hj).imp fun _ h => up_ne (ne_of h hfl10 (fun z => by cases z)) h, up_ne (Ne.symm fla) S10.al, S10.nd, S10.few, S10.inj, S10.ne⟩
            · refine y_eqS (by cases b' <;> rfl) ?_
              walk_at "ys"
              have hne : ¬ nameV nm b' = .str (nmF nm i) := fun z => by
                cases b' with
                | none => cases z
                | some j => exact hbi (by rw [(nm_inj S.nd hBR.1 hi).mp (V.str.inj z)])
              refine y_dF hne ?_
              walk_at "ys"
              refine fin _ (OutS.refl _ _ _ _ _ _ _) ?_ T10 X10 S10
              rw [gotV_snoc, if_neg hbi]
              exact hfl10
        · have e1t : (fun i : Nat => V.int ((0 : Int) + (i : Nat))) t = V.int (t : Nat) := congrArg V.int (Int.zero_add _)
          walk_at "ys"
          refine ⟨b, 6, B + t * 10 + nm.length, rfl, by omega, by omega, X6, by omega, fun r H7 hr7 e7 X7 => ?_⟩
          have S7 := S6.but X6 hab e7
          walk_at "ys"
          refine y_d2 (fun g => ?_) (fun g => ?_)
          · walk_at "ys"
            refine y_d2 (fun g2 => ?_) (fun g2 => ?_)
            · walk_at "ys"
              refine ⟨b, B + t * 10 + nm.length + 1, s0, pd, al, L, t, nm, pt, tp', tc', np, nc, Deal.cnt dd, dV, rfl, X7, by omega, hab, S7, by omega, by omega, O4, h4, h60, fun r2 tp2 tc2 H8 o8 X8 S8 O8 => ?_⟩
              exact tail (tp2, tc2) _ _ ⟨rfl, (OutP.of e7).trans o8, X8.mono (by omega), S8, O8⟩
            · exact y_next (tail (tp', tc') _ _ ⟨rfl, .of e7, X7.mono (by omega), S7, O4⟩)
          · exact y_F (y_next (tail (tp', tc') _ _ ⟨rfl, .of e7, X7.mono (by omega), S7, O4⟩))
    · obtain ⟨tp', tc', np, nc, u, dV, dd, rr, v6, v7, rfl, o4, T4, X4, G4, S4, O4, hdV, hdd, hR, hin, _, hle, hfl4⟩ := hP
      have eL : ((L : Int).toNat) = L := rfl
      obtain ⟨rfl, rfl, rfl⟩ := hle eL
      rw [if_pos eL] at S4
      have hddL : dd.length = L := by omega
      obtain ⟨hm1, hm2⟩ := Deal.run_law O hR hddL hi hin
      have hgl : (gotV dd i).length = Deal.cnt dd i := by
        unfold gotV Deal.cnt
        rw [List.length_map]
      have hc60 : Deal.cnt dd i ≤ 60 := by
        have h1 := run_cnt hR hi
        have h2 := O.cL i hi
        omega
      walk_at "ys"
      refine y_gotr2 (by omega) ?_
      refine for_it walk_range (fun k σ H' => ∃ (v8 v9 : Option V), σ = [some (.ref b), some (.ref s0), some (.str (nmF nm i)), some (.ref gd), some (.int L), some (.ref fl), v6, v7, v8, v9, none, none] ∧ Same H4 H')
        ⟨_, _, rfl, Same.refl _⟩ (fun _ _ _ _ _ => trivial) (fun k x σ H5 H6 hk hP hY => ?_) (fun σ H5 hP => ?_)
      · obtain ⟨v8, v9, rfl, e5⟩ := hP
        obtain ⟨rfl, rfl⟩ := hY
        have hk : k < L := by omega
        have ek : (fun i : Nat => V.int ((1 : Int) + (i : Nat))) k = V.int ((k + 1 : Nat) : Int) := by
          show V.int ((1 : Int) + (k : Nat)) = _
          congr 1
          omega
        rw [ek]
        walk_at "ys"
        refine ⟨L, gd, od, nm, ts, tp, tc, i, k + 1, rfl, G4.same e5, O, hi, by omega, by omega, h4, h60, fun H7 e7 => ?_⟩
        have e57 := e5.trans e7
        have hfl7 := e57 _ _ hfl4
        rcases turn_cases nm.length L tp tc i k with ⟨h1, h2⟩ | ⟨h1, h2⟩
        · rw [h1]
          walk_at "ys"
          exact ⟨_, _, rfl, e57⟩
        · rw [h1]
          have hkm := (Deal.many_iff O).mpr h2
          obtain ⟨y, hy, hyT⟩ := hm2 k hkm
          walk_at "ys"
          refine y_ndF (fun z => nomatch z) ?_
          walk_at "ys"
          refine y_dF (by rw [hgl]; omega) ?_
          walk_at "ys"
          refine y_ixL hfl7 (v := .int (y : Nat)) ?_ ?_
          · have e9 : ((k + 1 : Nat) : Int) - 1 = (k : Nat) := by omega
            rw [e9]
            refine L2.atI_nat ?_
            unfold gotV
            rw [List.getElem?_map, hy]
            rfl
          · walk_at "ys"
            refine y_dF (by omega) ?_
            walk_at "ys"
            exact ⟨_, _, rfl, e57⟩
      · obtain ⟨v8, v9, rfl, e5⟩ := hP
        have X5 := X4.same e5
        have S5 := S4.same e5
        have G5 := G4.same e5
        have T5 := T4.ext e5
        have hfl5 := e5 _ _ hfl4
        walk_at "ys"
        refine ⟨b, L + 1, B + L * 10, rfl, by omega, by omega, X5, by omega, fun r H6 hr6 e6 X6 => ?_⟩
        have hfl6 := e6 _ _ flb hfl5
        have S6 := S5.but X5 hab e6
        have G6 := G5.outS S5 X5 hfl5 (.ofB e6)
        have T6 := X5.tabs T5 e6
        walk_at "ys"
        intro D nD
        refine lc_gen (fun k => if (Deal.got dd 0 i).getD k 0 ≤ r then some (V.int ((Deal.got dd 0 i).getD k 0 : Nat)) else none) (walk_list (xs := gotV dd i)) nD (sz_lt (by omega)) (fun H' e => SqL.of (e _ _ hfl6)) (fun k y H7 H8 Nx hk e7 hY c0 c1 => ?_) (fun H7 e7 hD => ?_)
        · obtain ⟨rfl, hx⟩ := hY
          have hkl : k < (Deal.got dd 0 i).length := by
            unfold gotV at hk
            rwa [List.length_map] at hk
          unfold gotV at hx
          rw [List.getElem?_map, List.getElem?_eq_getElem hkl] at hx
          have hx := Option.some.inj hx
          subst hx
          have eg : (Deal.got dd 0 i).getD k 0 = (Deal.got dd 0 i)[k] := by rw [List.getD_eq_getElem?_getD, List.getElem?_eq_getElem hkl]; rfl
          walk_at "ys"
          refine y_d2 (fun g => ?_) (fun g => ?_)
          · walk_at "ys"
            exact c0 _ _ (by rw [eg]; exact if_pos (by omega)) (Same.refl _)
          · exact c1 _ (by rw [eg]; exact if_neg (by omega)) (Same.refl _)
        · have hgl2 : (gotV dd i).length = (Deal.got dd 0 i).length := by unfold gotV; rw [List.length_map]
          rw [hgl2, fm_getD (fun x : Nat => if x ≤ r then some (V.int (x : Nat)) else none), fm_ite'] at hD
          walk_at "ys"
          rw [List.length_map]
          refine ⟨L, gd, od, nm, ts, tp, tc, i, r, rfl, G6.same e7, O, hi, h4, h60, by omega, fun H8 e8 => ?_⟩
          have hsure := sure_le (M := Deal.many nm.length L tp tc i) (T := Deal.T nm.length tp tc i) r hm1 hm2
          have hal : r / L * alin nm.length L tp tc i L + alin nm.length L tp tc i (r % L) ≤ ((Deal.got dd 0 i).filter fun x => decide (x ≤ r)).length := by
            rw [alin_all, alin_count O]
            by_cases hrL : r = L
            · subst hrL
              rw [Nat.div_self (by omega), Nat.mod_self, Nat.one_mul]
              have h1 : ((List.range (Deal.many nm.length r tp tc i)).filter fun k => decide (Deal.T nm.length tp tc i k ≤ 0)) = [] := by
                rw [List.filter_eq_nil_iff]
                intro k hk
                have := Deal.T_ge nm.length tp tc i k
                simp
                omega
              have h2 : ((List.range (Deal.many nm.length r tp tc i)).filter fun k => decide (Deal.T nm.length tp tc i k ≤ r)) = List.range (Deal.many nm.length r tp tc i) := by
                rw [List.filter_eq_self]
                intro k hk
                exact decide_eq_true ((Deal.many_iff O).mp (List.mem_range.mp hk)).2
              rw [h2, List.length_range] at hsure
              rw [h1]
              exact hsure
            · rw [Nat.div_eq_of_lt (by omega), Nat.mod_eq_of_lt (by omega), Nat.zero_mul, Nat.zero_add]
              exact hsure
          walk_at "ys"
          have et : decide (((r / L * alin nm.length L tp tc i L + alin nm.length L tp tc i (r % L) : Nat) : Int) ≤ ((((Deal.got dd 0 i).filter fun x => decide (x ≤ r)).length : Nat) : Int)) = true := decide_eq_true (by omega)
          rw [et]
          have e68 := e7.trans e8
          refine q _ _ dV _ (fun a o h1 h2 h3 h5 nt h => e68 _ _ (e6 _ _ h1 (e5 _ _ (o4 a o h1 h2 h3 (ne_of_none h nflH) h5 nt (s3 _ _ h))))) (T6.ext e68) ((X6.same e68).mono (by omega)) (S6.same e68) (by omega) O4
end
end K61
namespace K61
open PySem L2 Y LamX
local macro_rules | `(tactic| walk_at "lk") => `(tactic| with_reducible first | exact lkP_told_promise | exact lkP_told_ceiling | exact lkP_now_promise | exact lkP_now_ceiling | exact lkP_turns_used | exact lkS_own_length | exact lkS_portions | exact lkS_turns_passed | exact lkS_all_dealt | exact mnP_begin | exact mnS_need_guest | exact mnS_need_room_for | exact mnS_come | exact mnS_promised_one | exact mnS_free_one | exact mnS_deal | exact mnS_promised | exact mnS_change | exact mnS_length | exact mnS_names | exact mnS_counting)
local macro_rules | `(tactic| walk_at "ln") => `(tactic| first | exact lenP | exact lenS | (simp; done) | (show 0 < 1000; decide) | (show 1 < 1000; decide) | (show 2 < 1000; decide) | (show 3 < 1000; decide) | (show 4 < 1000; decide))

theorem sql_extn {K : PySem.W.Frag} {H H' : Hp} {a : Addr} {xs : List V} (h : SqL K H a xs) (e : ExtN H H') : SqL K H' a xs :=
  h.elim (fun h => .inl (h.elim (fun h => .inl (e _ _ h (fun ps z => by cases z))) fun ⟨o, h⟩ => .inr ⟨o, e _ _ h (fun ps z => by cases z)⟩)) fun h => .inr h
theorem extn_but {H H1 H' : Hp} {b : Addr} (e : ExtN H H1) (n : H b = none) (f : SameBut b H1 H') : ExtN H H' := fun a u h nt => f _ _ (ne_of_none h n) (e a u h nt)
theorem Box.extn {H H' : Hp} {b : Addr} {B : Nat} (X : Box H b B) (e : ExtN H H') : Box H' b B := by
  obtain ⟨g, d, c, h, h1, h2⟩ := X.at_
  exact ⟨g, d, c, e _ _ h (fun ps z => by cases z), h1, h2⟩
theorem Sh.cong {H : Hp} {CP CS s pd al : Addr} {L t : Nat} {nm : List Str} {pt : Nat → Addr} {tp tc np nc u tp' tc' np' nc' u' : Nat → Nat} {d : List V} (S : Sh H CP CS s pd al L t nm pt tp tc np nc u d) (h : ∀ j, j < nm.length → tp j = tp' j ∧ tc j = tc' j ∧ np j = np' j ∧ nc j = nc' j ∧ u j = u' j) : Sh H CP CS s pd al L t nm pt tp' tc' np' nc' u' d :=
  ⟨S.ob, S.pd, fun j hj => by
    obtain ⟨h1, h2, h3, h4, h5⟩ := h j hj
    obtain ⟨dx, e⟩ := S.po j hj
    exact ⟨dx, by rw [e, h1, h2, h3, h4, h5]⟩, S.al, S.nd, S.few, S.inj, S.ne⟩
section
variable {P : Program} {w : World} {K : PySem.W.Frag} {mg : Str → Option Value} {base : Heap}
def sp_law (K : PySem.W.Frag) (Pt Pt2 : Addr) : Sp := fun vs H Q _ => ∃ (s : Addr) (ns : List Int), vs = [.ref s] ∧ SqL K H s (ns.map V.int) ∧ Tabs (tabsOf Pt Pt2) H ∧ ∀ H', Q (.bl true) H'
theorem ok_law {f : Addr} {fd : FuncData} (T : Txt K mg) {CPortion CShares CGuestError CTooMuch : Addr} (W : Own K mg CPortion CShares CGuestError CTooMuch) {ca Pt ca2 Pt2 : Addr} (C : Cd K mg base CShares ca Pt ca2 Pt2) (F : Fun K "law" "law" s_law f fd) : FnOk P w K mg base CX0 7 f fd ["script"] (sp_law K Pt Pt2) := by
  obtain ⟨f__law_box, fd__law_box, g__law_box, F__law_box⟩ := T.d__law_box
  have G__law_box := ok__law_box (P := P) (w := w) (base := base) T F__law_box
  have b__law_box := F__law_box.binds (ps := ["cell"]) fun _ _ _ _ _ _ us hl => match us, hl with | [_], _ => rfl
  obtain ⟨f__law_case, fd__law_case, g__law_case, F__law_case⟩ := T.d__law_case
  have G__law_case := ok__law_case (P := P) (w := w) (base := base) T F__law_case
  have b__law_case := F__law_case.binds (ps := ["box"]) fun _ _ _ _ _ _ us hl => match us, hl with | [_], _ => rfl
  obtain ⟨f__law_cell, fd__law_cell, g__law_cell, F__law_cell⟩ := T.d__law_cell
  have G__law_cell := ok__law_cell (P := P) (w := w) (base := base) T F__law_cell
  have b__law_cell := F__law_cell.binds (ps := ["script", "k"]) fun _ _ _ _ _ _ us hl => match us, hl with | [_, _], _ => rfl
  obtain ⟨f_Shares_init, fd_Shares_init, F_Shares_init, m_Shares_init⟩ := W.m_Shares_init
  have G_Shares_init := ok_Shares_init (P := P) (w := w) (base := base) T W F_Shares_init
  have b_Shares_init := F_Shares_init.binds (ps := ["self", "length"]) fun _ _ _ _ _ _ us hl => match us, hl with | [_, _], _ => rfl
  obtain ⟨f_Shares_come, fd_Shares_come, F_Shares_come, m_Shares_come⟩ := W.m_Shares_come
  have G_Shares_come := ok_Shares_come (P := P) (w := w) (base := base) T W F_Shares_come
  have b_Shares_come := F_Shares_come.binds (ps := ["self", "name", "promise", "ceiling"]) fun _ _ _ _ _ _ us hl => match us, hl with | [_, _, _, _], _ => rfl
  obtain ⟨f__law_take, fd__law_take, g__law_take, F__law_take⟩ := T.d__law_take
  have G__law_take := ok__law_take (P := P) (w := w) (base := base) T F__law_take
  have b__law_take := F__law_take.binds (ps := ["box", "many"]) fun _ _ _ _ _ _ us hl => match us, hl with | [_, _], _ => rfl
  obtain ⟨f__law_stretch_right, fd__law_stretch_right, g__law_stretch_right, F__law_stretch_right⟩ := T.d__law_stretch_right
  have G__law_stretch_right := ok__law_stretch_right (P := P) (w := w) (base := base) T W C F__law_stretch_right
  have b__law_stretch_right := F__law_stretch_right.binds (ps := ["box", "shares", "name"]) fun _ _ _ _ _ _ us hl => match us, hl with | [_, _, _], _ => rfl
  have scp := sc_law
  refine F.ok sc_law (fun vs H Q E h => ?_) (fun cdv A outer s H vs Q E hr h => ?_)
  · first | (obtain ⟨rfl, _⟩ := h; rfl) | (obtain ⟨_, rfl, _⟩ := h; rfl) | (obtain ⟨_, _, rfl, _⟩ := h; rfl) | (obtain ⟨_, _, _, rfl, _⟩ := h; rfl) | (obtain ⟨_, _, _, _, rfl, _⟩ := h; rfl) | (obtain ⟨_, _, _, _, _, rfl, _⟩ := h; rfl) | (obtain ⟨_, _, _, _, _, _, rfl, _⟩ := h; rfl) | (obtain ⟨_, _, _, _, _, _, _, rfl, _⟩ := h; rfl) | (obtain ⟨_, _, _, _, _, _, _, _, rfl, _⟩ := h; rfl) | (obtain ⟨_, _, _, _, _, _, _, _, _, rfl, _⟩ := h; rfl) | (obtain ⟨_, _, _, _, _, _, _, _, _, _, rfl, _⟩ := h; rfl) | (obtain ⟨_, _, _, _, _, _, _, _, _, _, _, rfl, _⟩ := h; rfl) | (obtain ⟨_, _, _, _, _, _, _, _, _, _, _, _, rfl, _⟩ := h; rfl) | (obtain ⟨_, _, _, _, _, _, _, _, _, _, _, _, _, rfl, _⟩ := h; rfl) | (obtain ⟨_, _, _, _, _, _, _, _, _, _, _, _, _, _, rfl, _⟩ := h; rfl) | (obtain ⟨_, _, _, _, _, _, _, _, _, _, _, _, _, _, _, rfl, _⟩ := h; rfl) | (obtain ⟨_, _, _, _, _, _, _, _, _, _, _, _, _, _, _, _, rfl, _⟩ := h; rfl) | (obtain ⟨_, _, _, _, _, _, _, _, _, _, _, _, _, _, _, _, _, rfl, _⟩ := h; rfl) | (obtain ⟨_, _, _, _, _, _, _, _, _, _, _, _, _, _, _, _, _, _, rfl, _⟩ := h; rfl) | (obtain ⟨_, _, _, _, _, _, _, _, _, _, _, _, _, _, _, _, _, _, _, rfl, _⟩ := h; rfl) | (obtain ⟨_, _, _, _, _, _, _, _, _, _, _, _, _, _, _, _, _, _, _, _, rfl, _⟩ := h; rfl) | (obtain ⟨_, _, _, _, _, _, _, _, _, _, _, _, _, _, _, _, _, _, _, _, _, rfl, _⟩ := h; rfl) | (obtain ⟨_, _, _, _, _, _, _, _, _, _, _, _, _, _, _, _, _, _, _, _, _, _, rfl, _⟩ := h; rfl) | (obtain ⟨_, _, _, _, _, _, _, _, _, _, _, _, _, _, _, _, _, _, _, _, _, _, _, rfl, _⟩ := h; rfl) | (obtain ⟨_, _, _, _, _, _, _, _, _, _, _, _, _, _, _, _, _, _, _, _, _, _, _, _, rfl, _⟩ := h; rfl) | (obtain ⟨_, _, _, _, _, _, _, _, _, _, _, _, _, _, _, _, _, _, _, _, _, _, _, _, _, rfl, _⟩ := h; rfl) | (obtain ⟨_, _, _, _, _, _, _, _, _, _, _, _, _, _, _, _, _, _, _, _, _, _, _, _, _, _, rfl, _⟩ := h; rfl) | (obtain ⟨_, _, _, _, _, _, _, _, _, _, _, _, _, _, _, _, _, _, _, _, _, _, _, _, _, _, _, rfl, _⟩ := h; rfl)
  · obtain ⟨s0, ns, rfl, hs, hT, q⟩ := h
    have hu := hu_of hr
    have hv := hr.units
    have c_Portion := W.c_Portion; have n_Portion_told_promise := W.n_Portion_told_promise; have n_Portion_told_ceiling := W.n_Portion_told_ceiling; have n_Portion_now_promise := W.n_Portion_now_promise; have n_Portion_now_ceiling := W.n_Portion_now_ceiling; have n_Portion_turns_used := W.n_Portion_turns_used; have c_Shares := W.c_Shares; have n_Shares_own_length := W.n_Shares_own_length; have n_Shares_portions := W.n_Shares_portions; have n_Shares_turns_passed := W.n_Shares_turns_passed; have n_Shares_all_dealt := W.n_Shares_all_dealt
    refine ⟨_, (pss_cons (ps_for PassesOwn.never rfl (pi_range1 rfl T.n_range (pa_cons (pe_callB (call_max2Y rfl) (by rfl) T.n_max (by decide +kernel) (pa_cons pe_int (pa_cons (pe_callB (call_min2Y rfl) (by rfl) T.n_min (by decide +kernel) (pa_cons pe_int (pa_cons (pe_callB (call_lenK (K := K)) (by rfl) T.n_len (by decide +kernel) (pa_cons (pv 0) pa_nil)) pa_nil))) pa_nil))) pa_nil)) (pg_name (i := 1) scp.nd rfl (by first | exact Or.inl rfl | exact Or.inr rfl))
  (pss_cons (ps_set (i := 2) scp.nd rfl (by first | exact Or.inl rfl | exact Or.inr rfl) (pe_call (G__law_box.mono (by decide)) hr rfl g__law_box F__law_box.kp b__law_box .nil pass0 (pa_cons (pe_call (G__law_cell.mono (by decide)) hr rfl g__law_cell F__law_cell.kp b__law_cell .nil pass0 (pa_cons (pv 0) (pa_cons (pv 1) pa_nil))) pa_nil)))
  (pss_cons (ps_asg (pe_call (G__law_case.mono (by decide)) hr rfl g__law_case F__law_case.kp b__law_case .nil pass0 (pa_cons (pv 2) pa_nil)) (pg_tupK (K := K) (n := 2) rfl (pgs_cons (pg_name (i := 3) scp.nd rfl (by first | exact Or.inl rfl | exact Or.inr rfl)) (pgs_cons (pg_name (i := 4) scp.nd rfl (by first | exact Or.inl rfl | exact Or.inr rfl)) pgs_nil))))
  (pss_cons (ps_par (i := 5) (j := 6) (by rfl) scp.nd rfl rfl (by decide) rfl rfl (pa_cons (pe_make m_Shares_init.2 G_Shares_init (hr.mono (by decide)) rfl W.g_Shares b_Shares_init .nil pass0 (pa_cons (pv 3) pa_nil)) (pa_cons (pe_ix (ix_anyK (K := K) hu) (pe_callTy (call_listK (K := K) rfl) (by rfl) T.n_list (by decide +kernel) (pa_cons (pv 4) pa_nil)) (pe_call (G__law_take.mono (by decide)) hr rfl g__law_take F__law_take.kp b__law_take .nil pass0 (pa_cons (pv 2) (pa_cons (pe_callB (call_lenK (K := K)) (by rfl) T.n_len (by decide +kernel) (pa_cons (pv 4) pa_nil)) pa_nil))) (fun _ _ => rfl)) pa_nil)) (by rfl))
  (pss_frz (pss_cons (ps_for PassesOwn.never rfl (pi_items (pv 4)) (pg_tupK (K := K) (n := 2) rfl (pgs_cons (pg_name (i := 7) scp.nd rfl (by first | exact Or.inl rfl | exact Or.inr rfl)) (pgs_cons (pg_tupK (K := K) (n := 2) rfl (pgs_cons (pg_name (i := 8) scp.nd rfl (by first | exact Or.inl rfl | exact Or.inr rfl)) (pgs_cons (pg_name (i := 9) scp.nd rfl (by first | exact Or.inl rfl | exact Or.inr rfl)) pgs_nil))) pgs_nil)))
  (pss_one (ps_expr (pe_meth (pv 5) W.c_Shares m_Shares_come (G_Shares_come.mono (by decide)) hr b_Shares_come .nil pass0 (pa_cons (pv 7) (pa_cons (pv 8) (pa_cons (pv 9) pa_nil)))))))
  (pss_one (ps_for PassesOwn.never rfl (pi_range1 rfl T.n_range (pa_cons (pe_op op_plus pe_int (pe_call (G__law_take.mono (by decide)) hr rfl g__law_take F__law_take.kp b__law_take .nil pass0 (pa_cons (pv 2) (pa_cons pe_int pa_nil)))) pa_nil)) (pg_name (i := 10) scp.nd rfl (by first | exact Or.inl rfl | exact Or.inr rfl))
  (pss_one (ps_if (pt_not (pt_val (pe_call (G__law_stretch_right.mono (by decide)) hr rfl g__law_stretch_right F__law_stretch_right.kp b__law_stretch_right .nil pass0 (pa_cons (pv 2) (pa_cons (pv 5) (pa_cons (pv 6) pa_nil))))))
  (pss_one (ps_ret pe_bl))
  pss_nil))))))))))
  (pss_one (ps_ret pe_bl))), ?_⟩
    walk_at "ys"
    refine y_lenLs hs ?_
    walk_at "ys"
    obtain ⟨n, hn, hn6⟩ : ∃ n : Nat, (if (if ((ns.map V.int).length : Int) < 4 then ((ns.map V.int).length : Int) else 4) > 2 then (if ((ns.map V.int).length : Int) < 4 then ((ns.map V.int).length : Int) else 4) else 2) = (n : Int) ∧ n ≤ 4 := ⟨max 2 (min (ns.map V.int).length 4), by split <;> split <;> omega, by omega⟩
    rw [hn]
    refine y_gotr1 (by omega) (by omega) ?_
    refine for_it walk_range (fun i σ H' => ∃ (u1 u2 u3 u4 u5 u6 u7 u8 u9 u10 : Option V), σ = [some (.ref s0), u1, u2, u3, u4, u5, u6, u7, u8, u9, u10] ∧ SqL K H' s0 (ns.map V.int) ∧ Tabs (tabsOf Pt Pt2) H')
      ⟨none, none, none, none, none, none, none, none, none, none, rfl, hs, hT⟩ (fun _ _ _ _ _ => trivial) (fun i x σ H1 H2 hi hP hY => ?_) (fun σ H1 hP => ?_)
    · obtain ⟨u1, u2, u3, u4, u5, u6, u7, u8, u9, u10, rfl, s1, T1⟩ := hP
      obtain ⟨rfl, rfl⟩ := hY
      have e0 : (fun i : Nat => V.int ((0 : Int) + (i : Nat))) i = V.int (i : Nat) := congrArg V.int (Int.zero_add _)
      rw [e0]
      walk_at "ys"
      refine ⟨s0, ns, i, rfl, s1, by omega, fun z H3 e3 => ?_⟩
      walk_at "ys"
      refine ⟨z, rfl, fun b H4 nb e4 X4 => ?_⟩
      have nbH : H2 b = none := free_of e3 nb
      have e4 := e3.trans e4
      have T4 := T1.ext e4
      have E4 := ExtN.of e4
      walk_at "ys"
      refine ⟨b, 0, rfl, X4, by omega, fun tt gd L nm ts p c H5 e5 ngd X5 C => ?_⟩
      have T5 := X4.tabs T4 e5
      have E5 := extn_but E4 nbH e5
      have htu := C.tu
      have hC := C.d
      have ngd2 : H2 gd = none := free_of e4 ngd
      have ngdb : gd ≠ b := X4.ne ngd
      have O := C.O
      have h4 := C.lo
      have h60 := C.hi
      have hpos := C.pos
      have hfew := C.few
      have hok : ∀ z, z ∈ nm → NameOk z := fun z hz => six_ok z (C.ok z hz)
      walk_at "ys"
      intro x dx nx ndx hne
      refine ⟨x, dx, L, rfl, upd_same, h4, h60, fun pd al H6 e6 hx npd nal hpd hal => ⟨rfl, ?_⟩⟩
      have s6 : Same H5 H6 := fun a u h => e6 _ _ (ne_of_none h nx) (by rw [upd_ne (ne_of_none h nx), upd_ne (ne_of_none h ndx)]; exact h)
      have npx : pd ≠ x := fun z => by rw [z, upd_same] at npd; cases npd
      have nax : al ≠ x := fun z => by rw [z, upd_same] at nal; cases nal
      have np5 : H5 pd = none := by
        rw [upd_ne npx] at npd
        exact free_upd npd
      have na5 : H5 al = none := by
        rw [upd_ne nax] at nal
        exact free_upd nal
      have hC6 := s6 _ _ hC
      have X6 := X5.same s6
      have T6 := T5.ext s6
      walk_at "ys"
      refine y_listK hC6 (fun ln nln => ?_)
      rw [kvOf_keys C.len]
      have f7 : Same H6 (upd H6 ln (.lst (nm.map V.str))) := same_new0 nln
      have hln : upd H6 ln (.lst (nm.map V.str)) ln = some (.lst (nm.map V.str)) := upd_same
      have hC7 := f7 _ _ hC6
      have X7 := X6.same f7
      have T7 := T6.ext f7
      have lnb : ln ≠ b := X6.ne nln
      have s7 := s6.trans f7
      have hx7 := f7 _ _ hx
      have hpd7 := f7 _ _ hpd
      have hal7 := f7 _ _ hal
      generalize upd H6 ln (.lst (nm.map V.str)) = H7 at *
      walk_at "ys"
      rw [kvOf_len C.len]
      refine ⟨b, nm.length, 100, rfl, by omega, by omega, X7.mono (by omega), by omega, fun ii H8 hii e8 X8 => ?_⟩
      have hln8 := e8 _ _ lnb hln
      have hC8 := e8 _ _ ngdb hC7
      have T8 := X7.tabs T7 e8
      have alb : al ≠ b := X5.ne na5
      have pdb : pd ≠ b := X5.ne np5
      have hxb : x ≠ b := X5.ne (by
        have := nx
        exact nx)
      have hx8 := e8 _ _ hxb hx7
      have hpd8 := e8 _ _ pdb hpd7
      have hal8 := e8 _ _ alb hal7
      have ht8 : ∀ (i : Nat) (a : Addr), ts[i]? = some a → H8 a = some (.tup [.int (p i), .int (c i)]) := fun i a h => e8 _ _ (by
        obtain ⟨y1, y2, y3, hb, _⟩ := X7.at_
        exact ne_of (s7 _ _ (C.t i a h)) hb (fun z => by cases z)) (s7 _ _ (C.t i a h))
      have E8 : ExtN H2 H8 := extn_but (E5.trans (ExtN.of s7)) nbH e8
      have ati : atI (nm.map V.str) (ii : Int) = some (.str (nmF nm ii)) := L2.atI_nat (by rw [List.getElem?_map, nmF_at hii]; rfl)
      walk_at "ys"
      refine y_ixL hln8 ati ?_
      walk_at "ys"
      have clen := C.len
      have cnd := C.nd
      refine y_frz hC8 True.intro (fun od => ?_)
      have ngx : gd ≠ x := ne_of hC8 hx8 (fun z => by cases z)
      have ngp : gd ≠ pd := fun z => by rw [z, np5] at hC; cases hC
      have nga : gd ≠ al := ne_of hC8 hal8 (fun z => by cases z)
      have k9 : ∀ a u, a ≠ gd → H8 a = some u → upd H8 gd (.frz od (.dK (kvOf nm ts))) a = some u := fun a u n h => by rw [upd_ne n]; exact h
      have E9 : ExtN H2 (upd H8 gd (.frz od (.dK (kvOf nm ts)))) := extn_mut E8 ngd2
      have X9 : Box (upd H8 gd (.frz od (.dK (kvOf nm ts)))) b 101 := X8.put ngdb
      have T9 : Tabs (tabsOf Pt Pt2) (upd H8 gd (.frz od (.dK (kvOf nm ts)))) := tabs_upd T8 hC8 (fun ps z => by cases z) (fun c q z => by unfold CodeO at z; cases z)
      have hx9 := k9 _ _ (Ne.symm ngx) hx8
      have hpd9 := k9 _ _ (Ne.symm ngp) hpd8
      have hal9 := k9 _ _ (Ne.symm nga) hal8
      have ht9 : ∀ (i : Nat) (a : Addr), ts[i]? = some a → upd H8 gd (.frz od (.dK (kvOf nm ts))) a = some (.tup [.int (p i), .int (c i)]) := fun i a h => k9 _ _ (ne_of (ht8 i a h) hC8 (fun z => by cases z)) (ht8 i a h)
      have hd9 : upd H8 gd (.frz od (.dK (kvOf nm ts))) gd = some (.frz od (.dK (kvOf nm ts))) := upd_same
      have new5 : ∀ y, H5 y = none → ∀ a u, (∀ ps, u ≠ .tbl ps) → H2 a = some u → a ≠ y := fun y ny a u nt h z => by
        have := E5 _ _ h nt
        rw [z, ny] at this
        cases this
      generalize upd H8 gd (.frz od (.dK (kvOf nm ts))) = H9 at *
      have S0 : Sh H9 CPortion CShares x pd al L 0 ([] : List Str) (fun _ => 0) p c p c (fun _ => 0) [] := ⟨⟨dx, hx9⟩, hpd9, fun j hj => absurd hj (Nat.not_lt_zero _), hal9, List.nodup_nil, Nat.zero_le _, fun i j hi => absurd hi (Nat.not_lt_zero _), fun j hj => absurd hj (Nat.not_lt_zero _)⟩
      walk_at "ys"
      refine for_it walk_items (fun m σ H' => ∃ (v7 v8 v9 : Option V) (pt : Nat → Addr) (tp tc np nc u : Nat → Nat), σ = [some (.ref s0), some (.int (i : Nat)), some (.ref b), some (.int L), some (.ref gd), some (.ref x), some (.str (nmF nm ii)), v7, v8, v9, u10] ∧ SameBut pd H9 H' ∧ Sh H' CPortion CShares x pd al L 0 (nm.take m) pt tp tc np nc u [] ∧ (∀ j, j < m → tp j = p j ∧ tc j = c j ∧ np j = p j ∧ nc j = c j ∧ u j = 0 ∧ H9 (pt j) = none))
        ⟨_, _, _, fun _ => 0, p, c, p, c, fun _ => 0, rfl, SameBut.refl _ _, S0, fun j hj => absurd hj (Nat.not_lt_zero _)⟩ (fun m σ H' _ h => ?_) (fun m y σ H10 H11 hm hP hY => ?_) (fun σ H10 hP => ?_)
      · obtain ⟨_, _, _, _, _, _, _, _, _, _, e, _⟩ := h
        exact e _ _ ngp hd9
      · obtain ⟨v7, v8, v9, pt, tp, tc, np, nc, u, rfl, e10, S10, h10⟩ := hP
        obtain ⟨T', a, b', rfl, nT, rfl, h1, h2⟩ := hY
        obtain ⟨z, t, hz, ht, rfl, rfl⟩ := kvOf_pair h1 h2
        have hmn : m < nm.length := (List.getElem?_eq_some_iff.mp hz).1
        obtain rfl : nmF nm m = z := nmF_of hz
        have f4 : Same H10 (upd H10 T' (.tup [.str (nmF nm m), .ref t])) := same_new0 nT
        have hT4 : upd H10 T' (.tup [.str (nmF nm m), .ref t]) T' = some (.tup [.str (nmF nm m), .ref t]) := upd_same
        have ht4 : upd H10 T' (.tup [.str (nmF nm m), .ref t]) t = some (.tup [.int (p m), .int (c m)]) := f4 _ _ (e10 _ _ (ne_of (ht9 m t ht) hpd9 (fun z => by cases z)) (ht9 m t ht))
        generalize upd H10 T' (.tup [.str (nmF nm m), .ref t]) = H12 at *
        have S12 := S10.same f4
        obtain ⟨d12, hs12⟩ := S12.ob
        have hlen : (nm.take m).length = m := by rw [List.length_take]; omega
        have hzn : nmF nm m ∉ nm.take m := fun hmem => by
          obtain ⟨j, hj, e⟩ := List.mem_iff_getElem.mp hmem
          rw [List.length_take] at hj
          rw [List.getElem_take] at e
          have e2 : nm[j]? = some (nmF nm m) := by rw [← e]; exact List.getElem?_eq_getElem _
          have := nd_ix cnd e2 (nmF_at hmn)
          omega
        have hsum : Deal.sumTo tp m + p m ≤ L := by
          have h4 : Deal.sumTo tp m = Deal.sumTo p m := Deal.sumTo_congr fun j hj => (h10 j hj).1
          have h5 : ∀ k, m + 1 ≤ k → Deal.sumTo p (m + 1) ≤ Deal.sumTo p k := by
            intro k
            induction k with
            | zero => omega
            | succ k ih =>
              intro hk
              by_cases e : m + 1 = k + 1
              · rw [e]; exact Nat.le_refl _
              · have := ih (by omega)
                show _ ≤ Deal.sumTo p k + p k
                omega
          have h6 := h5 nm.length hmn
          have h7 : Deal.sumTo p (m + 1) = Deal.sumTo p m + p m := rfl
          have := O.sum
          omega
        walk_at "ys"
        refine ⟨x, pd, al, L, nm.take m, pt, tp, tc, np, nc, u, [], nmF nm m, p m, c m, rfl, S12, hok _ (List.mem_of_getElem? (nmF_at hmn)), hzn, by omega, O.pc m hmn, O.one m hmn, O.cL m hmn, h60, by rw [hlen]; exact hsum, fun y H13 ny e13 S13 => ?_⟩
        have htk : nm.take m ++ [nmF nm m] = nm.take (m + 1) := by rw [List.take_add_one, nmF_at hmn]; rfl
        rw [htk, hlen] at S13
        have ny9 : H9 y = none := by
          have h8 : H10 y = none := free_of f4 ny
          by_cases e : y = pd
          · rw [e] at h8
            have := S10.dk
            rw [h8] at this
            cases this
          · exact e10.free e h8
        walk_at "ys"
        refine ⟨_, _, _, _, _, _, _, _, _, rfl, (e10.trans (.of f4)).trans e13, S13, fun j hj => ?_⟩
        by_cases ej : j = m
        · subst ej
          exact ⟨if_pos rfl, if_pos rfl, if_pos rfl, if_pos rfl, if_pos rfl, by simp [ny9]⟩
        · have := h10 j (by omega)
          simpa [ej] using this
      · obtain ⟨v7, v8, v9, pt, tp, tc, np, nc, u, rfl, e10, S10, h10⟩ := hP
        rw [kvOf_len clen] at S10 h10
        rw [List.take_length] at S10
        have S11 : Sh H10 CPortion CShares x pd al L 0 nm pt p c p c (Deal.cnt []) [] := S10.cong fun j hj => by
          obtain ⟨h1, h2, h3, h4, h5, _⟩ := h10 j hj
          exact ⟨h1, h2, h3, h4, h5⟩
        have hbp : b ≠ pd := Ne.symm pdb
        have X10 : Box H10 b 101 := by
          obtain ⟨y1, y2, y3, hb, h1, h2⟩ := X9.at_
          exact ⟨y1, y2, y3, e10 _ _ hbp hb, h1, h2⟩
        have T10 : Tabs (tabsOf Pt Pt2) H10 := tabs_but T9 e10 hpd9 (fun ps z => by cases z) (fun c q z => by unfold CodeO at z; cases z)
        have npd2 := new5 pd np5
        have nal2 := new5 al na5
        have nx2 := new5 x nx
        have E10 : ExtN H2 H10 := fun a u h nt => e10 _ _ (npd2 a u nt h) (E9 a u h nt)
        have npt2 : ∀ j, j < nm.length → ∀ a u, (∀ ps, u ≠ .tbl ps) → H2 a = some u → a ≠ pt j := fun j hj a u nt h z => by
          have := E9 _ _ h nt
          rw [z, (h10 j hj).2.2.2.2.2] at this
          cases this
        walk_at "ys"
        refine ⟨b, 3, 101, rfl, by omega, by omega, X10, by omega, fun r H11 hr11 e11 X11 => ?_⟩
        have S12 := S11.but X10 alb e11
        have T11 := X10.tabs T10 e11
        have E11 : ExtN H2 H11 := extn_but E10 nbH e11
        walk_at "ys"
        refine y_gotr1 (by omega) (by omega) ?_
        refine for_it walk_range (fun m σ H' => ∃ (v10 : Option V) (tp tc : Nat → Nat) (dV : List V), σ = [some (.ref s0), some (.int (i : Nat)), some (.ref b), some (.int L), some (.ref gd), some (.ref x), some (.str (nmF nm ii)), v7, v8, v9, v10] ∧ ExtN H2 H' ∧ Tabs (tabsOf Pt Pt2) H' ∧ Box H' b (102 + m * 1000) ∧ Sh H' CPortion CShares x pd al L 0 nm pt tp tc tp tc (Deal.cnt []) dV ∧ Deal.Ok nm.length L tp tc ∧ dV.length = m * L)
          ⟨_, p, c, [], rfl, E11, T11, X11, S12, O, by simp⟩ (fun _ _ _ _ _ => trivial) (fun m y σ H12 H13 hm hP hY => ?_) (fun σ H12 hP => ?_)
        · obtain ⟨v10, tp2, tc2, dV, rfl, E12, T12, X12, S13, O12, hdV⟩ := hP
          obtain ⟨rfl, rfl⟩ := hY
          have hm7 : m < 7 := by omega
          have hmL : m * L ≤ 7 * 60 := Nat.mul_le_mul (by omega) h60
          walk_at "ys"
          refine ⟨b, 102 + m * 1000, x, pd, al, L, nm, pt, tp2, tc2, dV, ii, rfl, X12, by omega, alb, S13, by omega, O12, hok, hii, h4, h60, T12, fun tp3 tc3 d3 H14 o14 T14 X14 S14 hd14 O14 => ?_⟩
          walk_at "ys"
          refine ⟨_, tp3, tc3, d3, rfl, fun a u h nt => o14 a u (ne_of_none h nbH) (nx2 a u nt h) (nal2 a u nt h) (fun j hj => npt2 j hj a u nt h) nt (E12 a u h nt), T14, X14.mono (by omega), S14, O14, by rw [hd14, hdV, Nat.succ_mul]⟩
        · obtain ⟨v10, tp2, tc2, dV, rfl, E12, T12, X12, S13, O12, hdV⟩ := hP
          walk_at "ys"
          exact ⟨_, _, _, _, _, _, _, _, _, _, rfl, sql_extn s1 E12, T12⟩
    · obtain ⟨u1, u2, u3, u4, u5, u6, u7, u8, u9, u10, rfl, s1, T1⟩ := hP
      walk_at "ys"
      exact q _
end
end K61
namespace K61
open PySem L2 Y LamX
theorem int_mk {K : PySem.W.Frag} {h : Heap} {mg : Str → Option Value} (X : K.In h) (G : h.Ns mainGlobals mg) {x : Str} {n : Int} {t : Tok} (a : PySem.W.nsIn K mainGlobals x = some (some (Value.int n t))) : ∃ t, mg x = some (Value.int n t) := ⟨t, PySem.W.mg_of X G a⟩
theorem str_mk {K : PySem.W.Frag} {h : Heap} {mg : Str → Option Value} (X : K.In h) (G : h.Ns mainGlobals mg) {x : Str} {z : Str} {t : Tok} (a : PySem.W.nsIn K mainGlobals x = some (some (Value.str z t))) : ∃ t, mg x = some (Value.str z t) := ⟨t, PySem.W.mg_of X G a⟩
theorem noat_mk {K : PySem.W.Frag} {C : Addr} {f : Str} (h : PySem.W.findIn K (.ref C) f = some none) : NoAttr K C f := h
theorem meth_mk {K : PySem.W.Frag} {C : Addr} {m x qual : Str} {st : Stmt} {f : Addr} {oc : Value} {od an : Option Addr} {osl : Array (Option Value)} {kV doc pm cdv ct : Value}
    (a : PySem.W.findIn K (.ref C) m = some (some (.ref f))) (i : PySem.W.isFn K (.ref f) = true) (l : K.lookup f = some ⟨oc, od, .func (PySem.W.fnOf x qual (defArgs st) (defBody st) (defScope st) .none kV doc pm an cdv ct), osl⟩)
    (c : PySem.W.codeIn K cdv qual = true) (k : PySem.W.keepIn K (.ref f) = true) : ∃ f fd, Fun K x qual st f fd ∧ Meth K C m f := ⟨f, _, fun_mk l c k, a, i, k⟩
theorem init_mk {K : PySem.W.Frag} {C : Addr} {x qual : Str} {st : Stmt} {f : Addr} {oc : Value} {od an : Option Addr} {osl : Array (Option Value)} {kV doc pm cdv ct : Value}
    (a : PySem.W.findIn K (.ref C) "__init__" = some (some (.ref f))) (i : PySem.W.isFn K (.ref f) = true) (l : K.lookup f = some ⟨oc, od, .func (PySem.W.fnOf x qual (defArgs st) (defBody st) (defScope st) .none kV doc pm an cdv ct), osl⟩)
    (c : PySem.W.codeIn K cdv qual = true) (k : PySem.W.keepIn K (.ref f) = true) (mk : PySem.W.makesIn K C = true) (kc : PySem.W.keepIn K (.ref C) = true) : ∃ f fd, Fun K x qual st f fd ∧ True ∧ Mk K C f := ⟨f, _, fun_mk l c k, trivial, mk, a, i, kc⟩
theorem methK_mk {K : PySem.W.Frag} {C : Addr} {m x qual : Str} {st : Stmt} {f D : Addr} {oc : Value} {od an : Option Addr} {osl : Array (Option Value)} {doc pm cdv ct : Value} {k1 : Str} {n1 : Int} {t1 : Tok}
    (a : PySem.W.findIn K (.ref C) m = some (some (.ref f))) (i : PySem.W.isFn K (.ref f) = true) (l : K.lookup f = some ⟨oc, od, .func (PySem.W.fnOf x qual (defArgs st) (defBody st) (defScope st) .none (.ref D) doc pm an cdv ct), osl⟩)
    (c : PySem.W.codeIn K cdv qual = true) (k : PySem.W.keepIn K (.ref f) = true) (d : PySem.W.nsIn K D k1 = some (some (.int n1 t1))) : ∃ f fd, FunD K x qual (defArgs st) (defBody st) (defScope st) [] [(k1, .int n1)] f fd ∧ Meth K C m f :=
  ⟨f, _, ⟨⟨oc, od, .none, .ref D, doc, pm, an, cdv, ct, osl, rfl, l, c, .inl ⟨rfl, rfl⟩, .inr ⟨D, rfl, fun q hq => by rw [List.mem_singleton.mp hq]; exact ⟨_, d, ⟨t1, rfl⟩⟩⟩⟩, k⟩, a, i, k⟩
theorem oex_mk {K : PySem.W.Frag} {C N : Addr} {nm q : Str} {bs bm : List Value} {sn : List Str} {sub : List Value} {ab : Bool} {col : Option Bool} {dd : Option Addr} {k0 k1 k2 k3 k5 : Option Value}
    (cl : K.lookup C = some (excClassObj nm q C N bs bm true sn sub ab col dd k0 k1 k2 k3 k5 "ValueError.__new__")) (vr : PySem.HandSPX.refsVE bm = true) (sa : PySem.W.findIn K (.ref C) "__setattr__" = some (some (.builtin "object.__setattr__")))
    (eb : PySem.W.subIn K (.ref C) (.type "BaseException") = some true) (et : PySem.W.typeIn K (.ref C) = some (.type "type")) (ek : PySem.W.keepIn K (.ref C) = true) : OexC K C :=
  ⟨⟨nm, q, N, bs, bm, sn, sub, ab, col, dd, k0, k1, k2, k3, k5, cl, vr⟩, sa, eb, et, ek⟩
theorem xinit_mk {K : PySem.W.Frag} {C : Addr} {x qual : Str} {st : Stmt} {f : Addr} {oc : Value} {od an : Option Addr} {osl : Array (Option Value)} {kV doc pm cdv ct : Value}
    (a : PySem.W.findIn K (.ref C) "__init__" = some (some (.ref f))) (t : PySem.W.typeIn K (.ref f) = some (.type "function")) (l : K.lookup f = some ⟨oc, od, .func (PySem.W.fnOf x qual (defArgs st) (defBody st) (defScope st) .none kV doc pm an cdv ct), osl⟩)
    (c : PySem.W.codeIn K cdv qual = true) (k : PySem.W.keepIn K (.ref f) = true) : ∃ f fd, Fun K x qual st f fd ∧ (PySem.W.findIn K (.ref C) "__init__" = some (some (.ref f)) ∧ PySem.W.typeIn K (.ref f) = some (.type "function")) := ⟨f, _, fun_mk l c k, a, t⟩
theorem law_at {l : PySem.W.OpenLaw} {w : World} {K : PySem.W.Frag} {h : Heap} {mg : Str → Option Value} {fa f3 ca2 Pt2 CPortion CShares CGuestError CTooMuch : Addr} (X : K.In h) (G : h.Ns mainGlobals mg) (hfa : mg "law" = some (.ref fa)) (T : Txt K mg) (W : Own K mg CPortion CShares CGuestError CTooMuch)
    {oc3 : Value} {od3 an3 : Option Addr} {osl3 : Array (Option Value)} {kV3 doc3 pm3 ct3 : Value} (a3 : PySem.W.findIn K (.ref CShares) "free_one" = some (some (.ref f3))) (i3 : PySem.W.isFn K (.ref f3) = true) (l3 : K.lookup f3 = some ⟨oc3, od3, .func (PySem.W.fnOf "free_one" "Shares.free_one" (defArgs s_Shares_free_one) (defBody s_Shares_free_one) (defScope s_Shares_free_one) .none kV3 doc3 pm3 an3 (.ref ca2) ct3), osl3⟩)
    (c3 : PySem.W.codeIn K (.ref ca2) "Shares.free_one" = true) (k3 : PySem.W.keepIn K (.ref f3) = true) (hd3 : PySem.W.codeHdIn K ca2 Pt2 = true) (nP3 : K.lookup Pt2 = none)
    {ps : List Addr} (tab : ∀ P ∈ ps, h.get? P = some (PySem.W.tabObj #[])) (mem : ps = [Pt2]) : LawAtS l w K CX0 7 63 "script" mg fa h := by
  obtain ⟨f, fd, hm, F⟩ := T.d_law
  have e := hfa.symm.trans hm
  cases e
  have F' := F
  obtain ⟨⟨oc', od', kV', doc', pm', an', cdv', ct', osl', rfl, lk, hc⟩, hk⟩ := F'
  refine ⟨_, [(ca2, Pt2)], sp_law K Pt2 Pt2, fun p hp => ?_, fun p hp => ?_, fun p hp => ?_, fun s u => .of_eq rfl, fun H a ns _ _ hT hS => ⟨a, ns, rfl, hS, fun p hp => ?_, fun _ => rfl⟩, fun base KI NB TB => ok_law (ca := ca2) T W ⟨⟨f3, _, ⟨⟨oc3, od3, kV3, doc3, pm3, an3, ct3, osl3, rfl, l3, c3⟩, k3⟩, a3, i3, k3⟩, TB (ca2, Pt2) (List.mem_singleton.mpr rfl)⟩ F⟩
  · rw [List.mem_singleton.mp hp]
    exact tab Pt2 (by rw [mem]; exact List.mem_singleton.mpr rfl)
  · rw [List.mem_singleton.mp hp]
    exact nP3
  · rw [List.mem_singleton.mp hp]
    exact PySem.W.codeHd_of_K X hd3
  · unfold tabsOf at hp
    rw [List.mem_singleton.mp hp]
    exact TabS.nil (hT (ca2, Pt2) (List.mem_singleton.mpr rfl))
end K61
end
open PySem PySem.W PyProof.Rows
set_option maxHeartbeats 0 in
theorem PySem.Challenge.cw_guestfleet_k61_whole_latest_turns_in_cha_holds : PySem.Challenge.rw_guestfleet_k61_whole_latest_turns_in_cha.Holds := by
  w_on; o_law; k_head; (case hw => w_witness2)
  k_fill
  refine LamX.walk_ofTs (l := PySem.Challenge.rw_guestfleet_k61_whole_latest_turns_in_cha) (n := 63) (k := 7) (x := "script") (CX := fun _ => L2.CX0) rfl (by decide) rfl ⟨rfl, by decide, by decide⟩ (fun w h Y => PySem.W.km_in_of Y) ?F (fun _ _ _ _ _ z => z)
  case F =>
    intro w mg fa h Y KX G hmg
    refine' K61.law_at KX G hmg { d_is_whole := K61.defAt_mk KX G ?a_is_whole ?l_is_whole ?c_is_whole ?k_is_whole, d_is_name := K61.defAt_mk KX G ?a_is_name ?l_is_name ?c_is_name ?k_is_name, d_need_length := K61.defAt_mk KX G ?a_need_length ?l_need_length ?c_need_length ?k_need_length, d_need_share := K61.defAt_mk KX G ?a_need_share ?l_need_share ?c_need_share ?k_need_share, d_are_shares := K61.defAt_mk KX G ?a_are_shares ?l_are_shares ?c_are_shares ?k_are_shares, d_need_case := K61.defAt_mk KX G ?a_need_case ?l_need_case ?c_need_case ?k_need_case, d_ahead_by_promise := K61.defAt_mk KX G ?a_ahead_by_promise ?l_ahead_by_promise ?c_ahead_by_promise ?k_ahead_by_promise, d_ahead := K61.defAt_mk KX G ?a_ahead ?l_ahead ?c_ahead ?k_ahead, d_turn_of := K61.defAt_mk KX G ?a_turn_of ?l_turn_of ?c_turn_of ?k_turn_of, d_latest := K61.defAt_mk KX G ?a_latest ?l_latest ?c_latest ?k_latest, d_at_least_in := K61.defAt_mk KX G ?a_at_least_in ?l_at_least_in ?c_at_least_in ?k_at_least_in, d_at_least := K61.defAt_mk KX G ?a_at_least ?l_at_least ?c_at_least ?k_at_least, d__law_cell := K61.defAt_mk KX G ?a__law_cell ?l__law_cell ?c__law_cell ?k__law_cell, d__law_box := K61.defAt_mk KX G ?a__law_box ?l__law_box ?c__law_box ?k__law_box, d__law_take := K61.defAt_mk KX G ?a__law_take ?l__law_take ?c__law_take ?k__law_take, d__law_case := K61.defAt_mk KX G ?a__law_case ?l__law_case ?c__law_case ?k__law_case, d__law_counting := K61.defAt_mk KX G ?a__law_counting ?l__law_counting ?c__law_counting ?k__law_counting, d__law_change := K61.defAt_mk KX G ?a__law_change ?l__law_change ?c__law_change ?k__law_change, d__law_stretch_right := K61.defAt_mk KX G ?a__law_stretch_right ?l__law_stretch_right ?c__law_stretch_right ?k__law_stretch_right, d_law := K61.defAt_mk KX G ?a_law ?l_law ?c_law ?k_law, n_isinstance := PySem.W.mg_none_of KX G ?z_isinstance, n_int := PySem.W.mg_none_of KX G ?z_int, n_bool := PySem.W.mg_none_of KX G ?z_bool, n_all := PySem.W.mg_none_of KX G ?z_all, n_str := PySem.W.mg_none_of KX G ?z_str, n_len := PySem.W.mg_none_of KX G ?z_len, n_max := PySem.W.mg_none_of KX G ?z_max, n_dict := PySem.W.mg_none_of KX G ?z_dict, n_tuple := PySem.W.mg_none_of KX G ?z_tuple, n_min := PySem.W.mg_none_of KX G ?z_min, n_list := PySem.W.mg_none_of KX G ?z_list, n_range := PySem.W.mg_none_of KX G ?z_range, n_divmod := PySem.W.mg_none_of KX G ?z_divmod, n_sum := PySem.W.mg_none_of KX G ?z_sum, n_abs := PySem.W.mg_none_of KX G ?z_abs, c_LONGEST_NAME := K61.int_mk KX G ?t_LONGEST_NAME, c_LETTERS := K61.str_mk KX G ?t_LETTERS, c_LEAST_LENGTH := K61.int_mk KX G ?t_LEAST_LENGTH, c_MOST_LENGTH := K61.int_mk KX G ?t_MOST_LENGTH, c_MOST_GUESTS := K61.int_mk KX G ?t_MOST_GUESTS, c_MOST_TURNS := K61.int_mk KX G ?t_MOST_TURNS } { c_Portion := L2.Cls.mk ?pg_Portion ?hd_Portion ?po_Portion ?sa_Portion, g_Portion := PySem.W.mg_of KX G ?ng_Portion, n_Portion_told_promise := K61.noat_mk ?na_Portion_told_promise, n_Portion_told_ceiling := K61.noat_mk ?na_Portion_told_ceiling, n_Portion_now_promise := K61.noat_mk ?na_Portion_now_promise, n_Portion_now_ceiling := K61.noat_mk ?na_Portion_now_ceiling, n_Portion_turns_used := K61.noat_mk ?na_Portion_turns_used, c_Shares := L2.Cls.mk ?pg_Shares ?hd_Shares ?po_Shares ?sa_Shares, g_Shares := PySem.W.mg_of KX G ?ng_Shares, n_Shares_own_length := K61.noat_mk ?na_Shares_own_length, n_Shares_portions := K61.noat_mk ?na_Shares_portions, n_Shares_turns_passed := K61.noat_mk ?na_Shares_turns_passed, n_Shares_all_dealt := K61.noat_mk ?na_Shares_all_dealt, o_GuestError := _root_.Y.OBase.mk ?rd_GuestError ?gx_GuestError ?ini_GuestError, g_GuestError := PySem.W.mg_of KX G ?ng_GuestError, e_TooMuch := K61.oex_mk ?cl_TooMuch ?vr_TooMuch ?sa_TooMuch ?eb_TooMuch ?et_TooMuch ?ek_TooMuch, g_TooMuch := PySem.W.mg_of KX G ?ng_TooMuch, x_TooMuch := ?xm_TooMuch, n_TooMuch_many := ?na_TooMuch_many, m_TooMuch_init := K61.xinit_mk ?ma_TooMuch_init ?mt_TooMuch_init ?ml_TooMuch_init ?mc_TooMuch_init ?mk_TooMuch_init, m_Portion_init := K61.init_mk ?ma_Portion_init ?mf_Portion_init ?ml_Portion_init ?mc_Portion_init ?mk_Portion_init ?mm_Portion_init ?mq_Portion_init, m_Portion_begin := K61.meth_mk ?ma_Portion_begin ?mf_Portion_begin ?ml_Portion_begin ?mc_Portion_begin ?mk_Portion_begin, m_Shares_init := K61.init_mk ?ma_Shares_init ?mf_Shares_init ?ml_Shares_init ?mc_Shares_init ?mk_Shares_init ?mm_Shares_init ?mq_Shares_init, m_Shares_need_guest := K61.meth_mk ?ma_Shares_need_guest ?mf_Shares_need_guest ?ml_Shares_need_guest ?mc_Shares_need_guest ?mk_Shares_need_guest, m_Shares_need_room_for := K61.methK_mk ?ma_Shares_need_room_for ?mf_Shares_need_room_for ?ml_Shares_need_room_for ?mc_Shares_need_room_for ?mk_Shares_need_room_for ?md_Shares_need_room_for, m_Shares_come := K61.meth_mk ?ma_Shares_come ?mf_Shares_come ?ml_Shares_come ?mc_Shares_come ?mk_Shares_come, m_Shares_change := K61.meth_mk ?ma_Shares_change ?mf_Shares_change ?ml_Shares_change ?mc_Shares_change ?mk_Shares_change, m_Shares_promised_one := K61.meth_mk ?ma_Shares_promised_one ?mf_Shares_promised_one ?ml_Shares_promised_one ?mc_Shares_promised_one ?mk_Shares_promised_one, m_Shares_free_one := K61.meth_mk ?ma_Shares_free_one ?mf_Shares_free_one ?ml_Shares_free_one ?mc_Shares_free_one ?mk_Shares_free_one, m_Shares_deal := K61.meth_mk ?ma_Shares_deal ?mf_Shares_deal ?ml_Shares_deal ?mc_Shares_deal ?mk_Shares_deal, m_Shares_length := K61.meth_mk ?ma_Shares_length ?mf_Shares_length ?ml_Shares_length ?mc_Shares_length ?mk_Shares_length, m_Shares_names := K61.meth_mk ?ma_Shares_names ?mf_Shares_names ?ml_Shares_names ?mc_Shares_names ?mk_Shares_names, m_Shares_counting := K61.meth_mk ?ma_Shares_counting ?mf_Shares_counting ?ml_Shares_counting ?mc_Shares_counting ?mk_Shares_counting, m_Shares_promised := K61.meth_mk ?ma_Shares_promised ?mf_Shares_promised ?ml_Shares_promised ?mc_Shares_promised ?mk_Shares_promised } ?a3 ?i3 ?l3 ?c3 ?k3 ?hd3 ?nP3 (PySem.W.km_tabs_of Y) ?mem
    (case mem => rfl)
    (case a_is_whole => k_is)
    (case l_is_whole => k_is)
    (case c_is_whole => k_is)
    (case k_is_whole => k_is)
    (case a_is_name => k_is)
    (case l_is_name => k_is)
    (case c_is_name => k_is)
    (case k_is_name => k_is)
    (case a_need_length => k_is)
    (case l_need_length => k_is)
    (case c_need_length => k_is)
    (case k_need_length => k_is)
    (case a_need_share => k_is)
    (case l_need_share => k_is)
    (case c_need_share => k_is)
    (case k_need_share => k_is)
    (case a_are_shares => k_is)
    (case l_are_shares => k_is)
    (case c_are_shares => k_is)
    (case k_are_shares => k_is)
    (case a_need_case => k_is)
    (case l_need_case => k_is)
    (case c_need_case => k_is)
    (case k_need_case => k_is)
    (case a_ahead_by_promise => k_is)
    (case l_ahead_by_promise => k_is)
    (case c_ahead_by_promise => k_is)
    (case k_ahead_by_promise => k_is)
    (case a_ahead => k_is)
    (case l_ahead => k_is)
    (case c_ahead => k_is)
    (case k_ahead => k_is)
    (case a_turn_of => k_is)
    (case l_turn_of => k_is)
    (case c_turn_of => k_is)
    (case k_turn_of => k_is)
    (case a_latest => k_is)
    (case l_latest => k_is)
    (case c_latest => k_is)
    (case k_latest => k_is)
    (case a_at_least_in => k_is)
    (case l_at_least_in => k_is)
    (case c_at_least_in => k_is)
    (case k_at_least_in => k_is)
    (case a_at_least => k_is)
    (case l_at_least => k_is)
    (case c_at_least => k_is)
    (case k_at_least => k_is)
    (case a__law_cell => k_is)
    (case l__law_cell => k_is)
    (case c__law_cell => k_is)
    (case k__law_cell => k_is)
    (case a__law_box => k_is)
    (case l__law_box => k_is)
    (case c__law_box => k_is)
    (case k__law_box => k_is)
    (case a__law_take => k_is)
    (case l__law_take => k_is)
    (case c__law_take => k_is)
    (case k__law_take => k_is)
    (case a__law_case => k_is)
    (case l__law_case => k_is)
    (case c__law_case => k_is)
    (case k__law_case => k_is)
    (case a__law_counting => k_is)
    (case l__law_counting => k_is)
    (case c__law_counting => k_is)
    (case k__law_counting => k_is)
    (case a__law_change => k_is)
    (case l__law_change => k_is)
    (case c__law_change => k_is)
    (case k__law_change => k_is)
    (case a__law_stretch_right => k_is)
    (case l__law_stretch_right => k_is)
    (case c__law_stretch_right => k_is)
    (case k__law_stretch_right => k_is)
    (case a_law => k_is)
    (case l_law => k_is)
    (case c_law => k_is)
    (case k_law => k_is)
    (case z_isinstance => k_is)
    (case z_int => k_is)
    (case z_bool => k_is)
    (case z_all => k_is)
    (case z_str => k_is)
    (case z_len => k_is)
    (case z_max => k_is)
    (case z_dict => k_is)
    (case z_tuple => k_is)
    (case z_min => k_is)
    (case z_list => k_is)
    (case z_range => k_is)
    (case z_divmod => k_is)
    (case z_sum => k_is)
    (case z_abs => k_is)
    (case t_LONGEST_NAME => k_is)
    (case t_LETTERS => k_is)
    (case t_LEAST_LENGTH => k_is)
    (case t_MOST_LENGTH => k_is)
    (case t_MOST_GUESTS => k_is)
    (case t_MOST_TURNS => k_is)
    (case ng_Portion => first | k_is | kernel_rfl)
    (case ng_Shares => first | k_is | kernel_rfl)
    (case ng_GuestError => first | k_is | kernel_rfl)
    (case ng_TooMuch => first | k_is | kernel_rfl)
    (case pg_Portion => first | k_is | kernel_rfl)
    (case hd_Portion => first | k_is | kernel_rfl)
    (case po_Portion => first | k_is | kernel_rfl)
    (case sa_Portion => first | k_is | kernel_rfl)
    (case na_Portion_told_promise => first | k_is | kernel_rfl)
    (case na_Portion_told_ceiling => first | k_is | kernel_rfl)
    (case na_Portion_now_promise => first | k_is | kernel_rfl)
    (case na_Portion_now_ceiling => first | k_is | kernel_rfl)
    (case na_Portion_turns_used => first | k_is | kernel_rfl)
    (case pg_Shares => first | k_is | kernel_rfl)
    (case hd_Shares => first | k_is | kernel_rfl)
    (case po_Shares => first | k_is | kernel_rfl)
    (case sa_Shares => first | k_is | kernel_rfl)
    (case na_Shares_own_length => first | k_is | kernel_rfl)
    (case na_Shares_portions => first | k_is | kernel_rfl)
    (case na_Shares_turns_passed => first | k_is | kernel_rfl)
    (case na_Shares_all_dealt => first | k_is | kernel_rfl)
    (case rd_GuestError => first | k_is | kernel_rfl)
    (case gx_GuestError => first | k_is | kernel_rfl)
    (case ini_GuestError => first | k_is | kernel_rfl)
    (case cl_TooMuch => first | k_is | kernel_rfl)
    (case vr_TooMuch => decide +kernel)
    (case sa_TooMuch => first | k_is | kernel_rfl)
    (case eb_TooMuch => first | k_is | kernel_rfl)
    (case et_TooMuch => first | k_is | kernel_rfl)
    (case ek_TooMuch => first | k_is | kernel_rfl)
    (case xm_TooMuch => first | k_is | kernel_rfl)
    (case na_TooMuch_many => first | k_is | kernel_rfl)
    (case ma_TooMuch_init => first | k_is | kernel_rfl)
    (case mt_TooMuch_init => first | k_is | kernel_rfl)
    (case ml_TooMuch_init => first | k_is | kernel_rfl)
    (case mc_TooMuch_init => first | k_is | kernel_rfl)
    (case mk_TooMuch_init => first | k_is | kernel_rfl)
    (case ma_Portion_init => first | k_is | kernel_rfl)
    (case mf_Portion_init => first | k_is | kernel_rfl)
    (case ml_Portion_init => first | k_is | kernel_rfl)
    (case mc_Portion_init => first | k_is | kernel_rfl)
    (case mk_Portion_init => first | k_is | kernel_rfl)
    (case mm_Portion_init => first | k_is | kernel_rfl)
    (case mq_Portion_init => first | k_is | kernel_rfl)
    (case ma_Portion_begin => first | k_is | kernel_rfl)
    (case mf_Portion_begin => first | k_is | kernel_rfl)
    (case ml_Portion_begin => first | k_is | kernel_rfl)
    (case mc_Portion_begin => first | k_is | kernel_rfl)
    (case mk_Portion_begin => first | k_is | kernel_rfl)
    (case ma_Shares_init => first | k_is | kernel_rfl)
    (case mf_Shares_init => first | k_is | kernel_rfl)
    (case ml_Shares_init => first | k_is | kernel_rfl)
    (case mc_Shares_init => first | k_is | kernel_rfl)
    (case mk_Shares_init => first | k_is | kernel_rfl)
    (case mm_Shares_init => first | k_is | kernel_rfl)
    (case mq_Shares_init => first | k_is | kernel_rfl)
    (case ma_Shares_need_guest => first | k_is | kernel_rfl)
    (case mf_Shares_need_guest => first | k_is | kernel_rfl)
    (case ml_Shares_need_guest => first | k_is | kernel_rfl)
    (case mc_Shares_need_guest => first | k_is | kernel_rfl)
    (case mk_Shares_need_guest => first | k_is | kernel_rfl)
    (case ma_Shares_need_room_for => first | k_is | kernel_rfl)
    (case mf_Shares_need_room_for => first | k_is | kernel_rfl)
    (case ml_Shares_need_room_for => first | k_is | kernel_rfl)
    (case mc_Shares_need_room_for => first | k_is | kernel_rfl)
    (case mk_Shares_need_room_for => first | k_is | kernel_rfl)
    (case md_Shares_need_room_for => first | k_is | kernel_rfl)
    (case ma_Shares_come => first | k_is | kernel_rfl)
    (case mf_Shares_come => first | k_is | kernel_rfl)
    (case ml_Shares_come => first | k_is | kernel_rfl)
    (case mc_Shares_come => first | k_is | kernel_rfl)
    (case mk_Shares_come => first | k_is | kernel_rfl)
    (case ma_Shares_change => first | k_is | kernel_rfl)
    (case mf_Shares_change => first | k_is | kernel_rfl)
    (case ml_Shares_change => first | k_is | kernel_rfl)
    (case mc_Shares_change => first | k_is | kernel_rfl)
    (case mk_Shares_change => first | k_is | kernel_rfl)
    (case ma_Shares_promised_one => first | k_is | kernel_rfl)
    (case mf_Shares_promised_one => first | k_is | kernel_rfl)
    (case ml_Shares_promised_one => first | k_is | kernel_rfl)
    (case mc_Shares_promised_one => first | k_is | kernel_rfl)
    (case mk_Shares_promised_one => first | k_is | kernel_rfl)
    (case ma_Shares_free_one => first | k_is | kernel_rfl)
    (case mf_Shares_free_one => first | k_is | kernel_rfl)
    (case ml_Shares_free_one => first | k_is | kernel_rfl)
    (case mc_Shares_free_one => first | k_is | kernel_rfl)
    (case mk_Shares_free_one => first | k_is | kernel_rfl)
    (case ma_Shares_deal => first | k_is | kernel_rfl)
    (case mf_Shares_deal => first | k_is | kernel_rfl)
    (case ml_Shares_deal => first | k_is | kernel_rfl)
    (case mc_Shares_deal => first | k_is | kernel_rfl)
    (case mk_Shares_deal => first | k_is | kernel_rfl)
    (case ma_Shares_length => first | k_is | kernel_rfl)
    (case mf_Shares_length => first | k_is | kernel_rfl)
    (case ml_Shares_length => first | k_is | kernel_rfl)
    (case mc_Shares_length => first | k_is | kernel_rfl)
    (case mk_Shares_length => first | k_is | kernel_rfl)
    (case ma_Shares_names => first | k_is | kernel_rfl)
    (case mf_Shares_names => first | k_is | kernel_rfl)
    (case ml_Shares_names => first | k_is | kernel_rfl)
    (case mc_Shares_names => first | k_is | kernel_rfl)
    (case mk_Shares_names => first | k_is | kernel_rfl)
    (case ma_Shares_counting => first | k_is | kernel_rfl)
    (case mf_Shares_counting => first | k_is | kernel_rfl)
    (case ml_Shares_counting => first | k_is | kernel_rfl)
    (case mc_Shares_counting => first | k_is | kernel_rfl)
    (case mk_Shares_counting => first | k_is | kernel_rfl)
    (case ma_Shares_promised => first | k_is | kernel_rfl)
    (case mf_Shares_promised => first | k_is | kernel_rfl)
    (case ml_Shares_promised => first | k_is | kernel_rfl)
    (case mc_Shares_promised => first | k_is | kernel_rfl)
    (case mk_Shares_promised => first | k_is | kernel_rfl)
    (case a3 => k_is)
    (case i3 => k_is)
    (case l3 => k_is)
    (case c3 => k_is)
    (case k3 => k_is)
    (case hd3 => kernel_rfl)
    (case nP3 => kernel_rfl)
