import PyProof.Rows.All
import Wide.All
import OpenK.AllK
import Wide.FinOn
import HandS.ForMost
import HandS.Wide
import HandS.IsInst
import HandS.More
import HandS.Conv
import HandS.SortInts
import HandS.SetKeys
import HandS.Walk
import HandS.Style
import HandS.Lambda
import HandS.SortKw
import KE.DataMinKey
import PySem.Challenge.RW_guestfleet_k60_whole_latest_turns_of_all
import HandS.EndTab
import KE.KNestM
set_option Elab.async false
set_option maxRecDepth 100000
set_option maxHeartbeats 4000000
set_option linter.all false
/-! Y: steps over the hand layer: rules that choose by the values, and for each reading what to show (backward). -/
namespace Y
open PySem PySem.Spec PyProof.Rows L2

/-! ### rules that choose by the values -/
section
variable {X : Cx}
def rDGet : R2 := fun x y H Q => ∃ a v, x = .ref a ∧ DGet H a y (some v) ∧ Q v H
theorem ix_dget (hu : X.A.units + 1 < cLine) : IxR X rDGet := by
  intro value slice pins s σ H x y v u Q I rx ry h hs
  obtain ⟨a, z, rfl, g, q⟩ := h
  obtain rfl : v = Value.ref a := rx
  exact tail_any (dict_typeIs I g) PySem.F.slot_dict_getitem.lookup (d_getItem hu I g ry fun w' s3 I3 rw' => ⟨z, H, I3, rw', q⟩) hs
/-- xs[i], t[i], s[i], d[k] -/
def rSub (K : PySem.W.Frag) : R2 := fun x y H Q => rIx K x y H Q ∨ rDGet x y H Q
theorem ix_any (hu : X.A.units + 1 < cLine) : IxR X (rSub X.K) := ix_seq.or (ix_dget hu)
def rAdd2 : R2 := rI0 fun i j => .int (i + j)
def rSub2 : R2 := rI0 fun i j => .int (i - j)
def rMulI : R2 := rI CMulW fun i j => .int (i * j)
def rAddS : R2 := fun x y H Q => ∃ i j, x = .str i ∧ y = .str j ∧ i.length + j.length ≤ sizeLine ∧ Q (.str (i ++ j)) H
/-- + of ints, texts, lists -/
def rPlus : R2 := fun x y H Q => rAdd2 x y H Q ∨ rAddS x y H Q ∨ rCat x y H Q
theorem op_plus : OpR X (binaryOp .Add) rPlus := op_add.or (OpR.or op_add_str op_cat)
theorem op_minus : OpR X (binaryOp .Sub) rSub2 := op_sub
/-- * of ints, of a list and an int -/
def rTimes : R2 := fun x y H Q => rMulI x y H Q ∨ rRep x y H Q
theorem op_times : OpR X (binaryOp .Mult) rTimes := op_mulW.or op_rep
def rFdiv : R2 := rI CDivW fun i j => .int (i / j)
theorem op_fdivY : OpR X (binaryOp .FloorDiv) rFdiv := op_fdivW
def rMod : R2 := rI (fun _ j => 0 < j) fun i j => .int (i % j)
theorem op_modY : OpR X (binaryOp .Mod) rMod := op_mod
def rPow : R2 := rI CPow fun i j => .int (i ^ j.toNat)
theorem op_powY : OpR X (binaryOp .Pow) rPow := op_pow
/-- == of scalars, of data -/
def rEqA (K : PySem.W.Frag) : R2 := fun x y H Q => rEq x y H Q ∨ rEqD K x y H Q
theorem op_eqA (hu : X.A.units + 64 < cLine) : OpR X (compareOp .Eq) (rEqA X.K) := op_eq.or (op_eqD hu)
def rNeA (K : PySem.W.Frag) : R2 := fun x y H Q => rNe x y H Q ∨ rNeD K x y H Q
theorem op_neA (hu : X.A.units + 64 < cLine) : OpR X (compareOp .NotEq) (rNeA X.K) := op_ne.or (op_neD hu)
def rLtI : R2 := rI0 fun i j => .bl (decide (i < j))
def rLeI : R2 := rI0 fun i j => .bl (decide (i ≤ j))
def rGtI : R2 := rI0 fun i j => .bl (decide (j < i))
def rGeI : R2 := rI0 fun i j => .bl (decide (j ≤ i))
theorem op_ltI : OpR X (compareOp .Lt) rLtI := op_lt
theorem op_leI : OpR X (compareOp .LtE) rLeI := op_le
theorem op_gtI : OpR X (compareOp .Gt) rGtI := op_gt
theorem op_geI : OpR X (compareOp .GtE) rGeI := op_ge
def rIsNo : R2 := fun x y H Q => y = .non ∧ Q (.bl (decide (x = .non))) H
def rNotNo : R2 := fun x y H Q => y = .non ∧ Q (.bl (!decide (x = .non))) H
theorem op_isNo : OpR X (compareOp .Is) rIsNo := op_isN
theorem op_notNo : OpR X (compareOp .IsNot) rNotNo := op_notN
/-- in: a dict, a list or tuple of flat things, a sign in a text -/
def rDIn : R2 := fun x y H Q => ∃ a o, y = .ref a ∧ DGet H a x o ∧ Q (.bl o.isSome) H
def rDNotIn : R2 := fun x y H Q => ∃ a o, y = .ref a ∧ DGet H a x o ∧ Q (.bl (!o.isSome)) H
theorem op_din (hu : X.A.units + 1 < cLine) : OpR X (compareOp .In) rDIn := by
  intro pins s σ H x y v u Q I rx ry h
  obtain ⟨a, o, rfl, g, q⟩ := h
  obtain rfl : u = Value.ref a := ry
  exact d_in hu I g rx fun s3 I3 => ⟨.bl o.isSome, H, I3, rfl, q⟩
theorem op_dnotIn (hu : X.A.units + 1 < cLine) : OpR X (compareOp .NotIn) rDNotIn := by
  intro pins s σ H x y v u Q I rx ry h
  obtain ⟨a, o, rfl, g, q⟩ := h
  obtain rfl : u = Value.ref a := ry
  exact d_notIn hu I g rx fun s3 I3 => ⟨.bl (!o.isSome), H, I3, rfl, q⟩
def rSign : R2 := fun x y H Q => ∃ (c : Nat) (z : Str), x = .str ⟨#[c]⟩ ∧ y = .str z ∧ Q (.bl (decide (c ∈ z.cps.toList))) H
def rInA (K : PySem.W.Frag) : R2 := fun x y H Q => rDIn x y H Q ∨ rIn K false x y H Q ∨ rSign x y H Q
theorem op_inA (hu : X.A.units + 1 < cLine) : OpR X (compareOp .In) (rInA X.K) := (op_din hu).or (OpR.or op_in_seq op_in_sign)
def rNotInA (K : PySem.W.Frag) : R2 := fun x y H Q => rDNotIn x y H Q ∨ rIn K true x y H Q
theorem op_notInA (hu : X.A.units + 1 < cLine) : OpR X (compareOp .NotIn) (rNotInA X.K) := (op_dnotIn hu).or op_notIn_seq
def rNeg : V → Hp → VK → Prop := rU fun i => .int (-i)
theorem un_negY : UnR X (unaryOp .USub) rNeg := un_neg
/-! built-ins -/
def rLenD : List V → Hp → VK → Prop := fun xs H Q => ∃ a kvs, xs = [V.ref a] ∧ Rd H a (.dK kvs) ∧ Q (.int kvs.length) H
theorem call_lenR : CallR X (.builtin "len") rLenD := by
  intro pins s σ H xs us Q I r h
  obtain ⟨a, kvs, rfl, ha, q⟩ := h
  obtain ⟨u, rfl, ru⟩ := vals1 r
  cases ru
  exact d_len I ha fun t s' I' => ⟨.int kvs.length, H, I', ⟨t, rfl⟩, q⟩
def rLen1 (K : PySem.W.Frag) : List V → Hp → VK → Prop := fun xs H Q => ∃ x n, xs = [x] ∧ LenV K x H n ∧ Q (.int n) H
def rLen (K : PySem.W.Frag) : List V → Hp → VK → Prop := fun xs H Q => rLen1 K xs H Q ∨ rLenD xs H Q
theorem call_lenA : CallR X (.builtin "len") (rLen X.K) := CallR.or call_len call_lenR
def rAbs : List V → Hp → VK → Prop := fun xs H Q => ∃ i, xs = [.int i] ∧ Q (.int (if i < 0 then -i else i)) H
theorem call_absY : CallR X (.builtin "abs") rAbs := call_abs
def rMax2 : List V → Hp → VK → Prop := fun xs H Q => ∃ i j, xs = [.int i, .int j] ∧ Q (.int (if j > i then j else i)) H
theorem call_max2Y (hc : X.calm = true) : CallR X (.builtin "max") rMax2 := call_max2 hc
def rMin2 : List V → Hp → VK → Prop := fun xs H Q => ∃ i j, xs = [.int i, .int j] ∧ Q (.int (if j < i then j else i)) H
theorem call_min2Y (hc : X.calm = true) : CallR X (.builtin "min") rMin2 := call_min2 hc
def rInt : List V → Hp → VK → Prop := fun xs H Q => (∃ i, xs = [.int i] ∧ Q (.int i) H) ∨ ∃ k, xs = [.bl k] ∧ Q (.int (if k then 1 else 0)) H
def rListA (K : PySem.W.Frag) : List V → Hp → VK → Prop := fun xs H Q =>
  (∃ p ys, xs = [.ref p] ∧ (SqL K H p ys ∨ SqT K H p ys) ∧ ∀ l, H l = none → Q (.ref l) (upd H l (.lst ys))) ∨
  ∃ (a : Addr) (kvs : List (Key × V)), xs = [.ref a] ∧ Rd H a (.dK kvs) ∧ ∀ p, H p = none → Q (.ref p) (upd H p (.lst (kvs.map fun kv => kV kv.1)))
theorem call_listA (hc : X.calm = true) : CallR X (.type "list") (rListA X.K) := CallR.or call_list_of (call_listD hc)
def rDictA (K : PySem.W.Frag) : List V → Hp → VK → Prop := fun xs H Q =>
  (∃ (a : Addr) (ps : List Addr) (kvs : List (Key × V)), xs = [.ref a] ∧ SqL K H a (ps.map V.ref) ∧ Paired (fun p kv => SqT K H p [kV kv.1, kv.2]) ps kvs ∧ ∀ p, H p = none → Q (.ref p) (upd H p (.dK (mergeK [] kvs)))) ∨
  ∃ (a : Addr) (kvs : List (Key × V)), xs = [.ref a] ∧ Rd H a (.dK kvs) ∧ ∀ p, H p = none → Q (.ref p) (upd H p (.dK kvs))
theorem call_dictA (hc : X.calm = true) : CallR X (.type "dict") (rDictA X.K) := CallR.or (call_dictP hc) call_dictD
def rDivmod : List V → Hp → VK → Prop := fun xs H Q => ∃ i j, xs = [.int i, .int j] ∧ CDiv i j ∧ ∀ p, H p = none → Q (.ref p) (upd H p (.tup [.int (i / j), .int (i % j)]))
/-! walks -/
theorem pi_or {tg iter : Expr} {w1 w2 : TI} (h1 : PI X tg iter w1) (h2 : PI X tg iter w2) : PI X tg iter (fun σ H R => w1 σ H R ∨ w2 σ H R) :=
  ⟨fun pins s σ H R I h => h.elim (h1.run pins s σ H R I) (h2.run pins s σ H R I)⟩
/-- from here on the thing at d is only read -/
def tFrz (t : TS) : TS := fun D σ H => ∃ d u, H d = some u ∧ Mut (some u) ∧ ∀ od, t D σ (upd H d (.frz od u))
theorem pss_frz {sts : List Stmt} {t : TS} (h : PSs X sts t) : PSs X sts (tFrz t) := by
  refine ⟨fun pins s σ H D I hw => ?_⟩
  obtain ⟨d, u, hd, mu, hw⟩ := hw
  obtain ⟨od, I1⟩ := I.lock hd mu
  exact h.run pins s σ _ D I1 (hw od)
def tFrzE (t : TE) : TE := fun σ H Q => t σ H fun v H' => ∃ d u, v = .ref d ∧ H' d = some u ∧ Mut (some u) ∧ ∀ od, Q v (upd H' d (.frz od u))
theorem pe_frz {e : Expr} {t : TE} (h : PE X e t) : PE X e (tFrzE t) := by
  refine ⟨fun pins s σ H Q I hw => ?_⟩
  refine thn (h.run pins s σ H _ I hw) fun v s1 ⟨x, H1, I1, r, d, u, ex, hd, mu, q⟩ => ?_
  obtain ⟨od, I2⟩ := I1.lock hd mu
  exact ⟨x, _, I2, r, q od⟩
end
theorem call_intY {X : Cx} : CallR X (.type "int") rInt := call_int1
theorem call_divmodY {X : Cx} : CallR X (.builtin "divmod") rDivmod := call_divmod
def rSumA (K : PySem.W.Frag) : List V → Hp → VK → Prop := rSum K
theorem call_sumA {X : Cx} (hc : X.calm = true) : CallR X (.builtin "sum") (rSumA X.K) := cr_sum hc

/-! ### heaps -/
theorem up_new {H : Hp} {a p : Addr} {o u : HO} (n : H p = none) (h : H a = some o) : upd H p u a = some o := by
  rw [upd_ne (ne_of_none h n)]
  exact h
theorem up_ne {H : Hp} {a p : Addr} {u : HO} {r : Option HO} (n : a ≠ p) (h : H a = r) : upd H p u a = r := by
  rw [upd_ne n]
  exact h
theorem same_at {H H' : Hp} {a : Addr} {o : HO} (e : Same H H') (h : H a = some o) : H' a = some o := e a o h
theorem same_new {H H' : Hp} {p : Addr} {o : HO} (e : Same H H') (n : H' p = none) : Same H (upd H' p o) := fun a u h => up_new n (e a u h)
theorem same_new0 {H : Hp} {p : Addr} {o : HO} (n : H p = none) : Same H (upd H p o) := fun a u h => up_new n h
theorem same_mut {H H' : Hp} {p : Addr} {o : HO} (e : Same H H') (n : H p = none) : Same H (upd H' p o) := fun a u h => by
  rw [upd_ne (ne_of_none h n)]
  exact e a u h
theorem free_of {H H' : Hp} {p : Addr} (e : Same H H') (n : H' p = none) : H p = none := e.free n
theorem free_upd {H : Hp} {a p : Addr} {u : HO} (n : upd H a u p = none) : H p = none := by
  by_cases e : p = a
  · rw [e, upd_same] at n
    cases n
  · rw [upd_ne e] at n
    exact n
theorem upd_free {H : Hp} {a p : Addr} {u : HO} (n : p ≠ a) (h : H p = none) : upd H a u p = none := by
  rw [upd_ne n]
  exact h

/-! ### what to show -/
section
variable {K : PySem.W.Frag} {σ : L2.St} {H : Hp} {Q : VK} {QT : Bool → Hp → Prop} {ta tb tc te : TE} {t u : TT} {x y v : V}
theorem y_var {i : Nat} (h : σ[i]? = some (some v)) (q : Q v H) : tVar i σ H Q := ⟨v, h, q⟩
theorem y_c (q : Q v H) : tC v σ H Q := q
theorem y_op {r : R2} (q : ta σ H fun x H1 => tb σ H1 fun y H2 => r x y H2 Q) : tOp r ta tb σ H Q := q
theorem y_un {r : V → Hp → VK → Prop} (q : ta σ H fun x H1 => r x H1 Q) : tUn r ta σ H Q := q
theorem y_tt (q : te σ H fun x H' => ∃ k, x = .bl k ∧ QT k H') : tTest te σ H QT := q
theorem y_tB (q : te σ H fun x H' => ∃ k, x = .bl k ∧ QT k H') : tB te σ H QT := q
theorem y_bl {b : Bool} {R : Bool → Prop} (q : R b) : ∃ k, V.bl b = .bl k ∧ R k := ⟨b, rfl, q⟩
theorem y_and (q : t σ H fun c H1 => if c = true then u σ H1 QT else QT false H1) : tAnd t u σ H QT := q
theorem y_or (q : t σ H fun c H1 => if c = true then QT true H1 else u σ H1 QT) : tOr t u σ H QT := q
theorem y_not (q : t σ H fun c H1 => QT (!c) H1) : tNot t σ H QT := q
theorem y_andV (q : ta σ H fun x H1 => ∃ c, x = .bl c ∧ if c = true then tb σ H1 Q else Q (.bl false) H1) : tAndV ta tb σ H Q := q
theorem y_orV (q : ta σ H fun x H1 => ∃ c, x = .bl c ∧ if c = true then Q (.bl true) H1 else tb σ H1 Q) : tOrV ta tb σ H Q := q
theorem y_notV (q : ta σ H fun x H1 => ∃ c, x = .bl c ∧ Q (.bl (!c)) H1) : tNotV ta σ H Q := q
theorem y_if (q : t σ H fun c H1 => if c = true then ta σ H1 Q else tb σ H1 Q) : tIf t ta tb σ H Q := q
theorem y_chain {r r' : R2} (q : ta σ H fun x H1 => tb σ H1 fun y H2 => r x y H2 fun z H3 => ∃ k, z = .bl k ∧ if k = true then (tc σ H3 fun w H4 => r' y w H4 Q) else Q (.bl false) H3) : tChain r r' ta tb tc σ H Q := by
  first
    | exact q
    | (unfold tChain; exact q)
/-! statements -/
variable {nx : L2.St → Hp → Prop} {rt : VK} {bk ct : L2.St → Hp → Prop} {s s' : TS} {g : TG}
theorem y_seq (q : s ⟨s' ⟨nx, rt, bk, ct⟩, rt, bk, ct⟩ σ H) : tSeq s s' ⟨nx, rt, bk, ct⟩ σ H := q
theorem y_next (q : nx σ H) : tNext ⟨nx, rt, bk, ct⟩ σ H := q
theorem y_break (q : bk σ H) : tBreak ⟨nx, rt, bk, ct⟩ σ H := q
theorem y_cont (q : ct σ H) : tCont ⟨nx, rt, bk, ct⟩ σ H := q
theorem y_drop (q : te σ H fun _ H1 => nx σ H1) : tDrop te ⟨nx, rt, bk, ct⟩ σ H := q
theorem y_ret (q : te σ H rt) : tRet te ⟨nx, rt, bk, ct⟩ σ H := q
theorem y_retN (q : rt .non H) : tRetN ⟨nx, rt, bk, ct⟩ σ H := q
theorem y_ifS (q : t σ H fun b H1 => if b = true then s ⟨nx, rt, bk, ct⟩ σ H1 else s' ⟨nx, rt, bk, ct⟩ σ H1) : tIfS t s s' ⟨nx, rt, bk, ct⟩ σ H := q
theorem y_asg (q : te σ H fun x H1 => g x σ H1 nx) : tAsg te g ⟨nx, rt, bk, ct⟩ σ H := q
theorem y_name {i : Nat} {R : L2.St → Hp → Prop} (q : R (σ.set i (some v)) H) : gName i v σ H R := q
theorem y_par {i j : Nat} {ta : TA} (q : ta σ H fun vs H1 => ∃ v w, vs = [v, w] ∧ nx ((σ.set i (some v)).set j (some w)) H1) : tPar i j ta ⟨nx, rt, bk, ct⟩ σ H := q
theorem y_par2 {R : V → V → Prop} {a b : V} (q : R a b) : ∃ v w, [a, b] = [v, w] ∧ R v w := ⟨a, b, rfl, q⟩
theorem y_aug {i : Nat} {ti : TIp} (h : σ[i]? = some (some v)) (q : te σ H fun y H1 => ti v y H1 fun z H2 => nx (σ.set i (some z)) H2) : tAug i te ti ⟨nx, rt, bk, ct⟩ σ H := ⟨v, h, q⟩
theorem y_gtup {n : Nat} {ts : TGs} {R : L2.St → Hp → Prop} {a : Addr} {xs : List V} (h : H a = some (.tup xs)) (hl : xs.length = n) (q : ts xs σ H R) : gTup K n ts (.ref a) σ H R := ⟨a, xs, rfl, SqT.of h, hl, q⟩
theorem y_gcons {t : TG} {ts : TGs} {R : L2.St → Hp → Prop} {r : List V} (q : t v σ H fun σ' H' => ts r σ' H' R) : gCons t ts (v :: r) σ H R := ⟨v, r, rfl, q⟩
theorem y_gnil {R : L2.St → Hp → Prop} (q : R σ H) : gNil [] σ H R := ⟨rfl, q⟩
theorem y_gsub {to ti : TE} {ts : TSet} {R : L2.St → Hp → Prop} (q : to σ H fun o H1 => ti σ H1 fun i H2 => ts o i v H2 fun H3 => R σ H3) : gSub to ti ts v σ H R := q
/-! arguments, calls -/
variable {QA : List V → Hp → Prop} {tA : TA}
theorem y_anil (q : QA [] H) : tNil σ H QA := q
theorem y_acons (q : te σ H fun x H1 => tA σ H1 fun xs H2 => QA (x :: xs) H2) : tCons te tA σ H QA := q
theorem y_call {sp : Sp} {E : XK} (q : tA σ H fun vs H1 => sp (vs ++ []) H1 Q E) : tCall sp [] E tA σ H Q := q
theorem y_cb {r : List V → Hp → VK → Prop} (q : tA σ H fun vs H1 => r vs H1 Q) : tCB r tA σ H Q := q
theorem y_tup (q : tA σ H fun xs H1 => xs.length ≤ sizeLine ∧ ∀ p, H1 p = none → Q (.ref p) (upd H1 p (.tup xs))) : tTup tA σ H Q := q
theorem y_lst (q : tA σ H fun xs H1 => xs.length ≤ sizeLine ∧ ∀ p, H1 p = none → Q (.ref p) (upd H1 p (.lst xs))) : tLst tA σ H Q := q
theorem y_dnew (q : ∀ p, H p = none → Q (.ref p) (upd H p (.dK []))) : tDNewK σ H Q := q
theorem y_bm {T : String} {r : V → List V → Hp → VK → Prop} {to : TE} (q : to σ H fun x H1 => tyV K T x H1 ∧ tA σ H1 fun xs H2 => r x xs H2 Q) : tBM K T r to tA σ H Q := q
theorem y_bm0 {T : String} {r : V → List V → Hp → VK → Prop} {to : TE} (q : to σ H fun x H1 => tyV K T x H1 ∧ r x [] H1 Q) : tBM0 K T r to σ H Q := q
theorem y_tylst {a : Addr} {xs : List V} {R : Prop} (h : H a = some (.lst xs)) (q : R) : tyV K "list" (.ref a) H ∧ R := ⟨.inl ⟨rfl, _, SqL.of h⟩, q⟩
/-! slices -/
variable {QO : Option Int → Hp → Prop} {tl th : TO}
theorem y_sl {r : V → Option Int → Option Int → Hp → VK → Prop} (q : te σ H fun x H1 => tl σ H1 fun l H2 => th σ H2 fun u H3 => r x l u H3 Q) : tSl r te tl th σ H Q := q
theorem y_nopart (q : QO none H) : tNoPart σ H QO := q
theorem y_part (q : te σ H fun x H1 => ∃ i, x = .int i ∧ QO (some i) H1) : tPart te σ H QO := q
theorem y_int1 {i : Int} {R : Int → Prop} (q : R i) : ∃ j, V.int i = .int j ∧ R j := ⟨i, rfl, q⟩
/-! operators by values -/
variable {i j : Int} {a p : Addr} {xs ys : List V} {kvs : List (Key × V)} {o : Obj}
theorem y_addI (q : Q (.int (i + j)) H) : rPlus (.int i) (.int j) H Q := .inl ⟨i, j, rfl, rfl, q⟩
theorem y_addS {x y : Str} (h : x.length + y.length ≤ sizeLine) (q : Q (.str (x ++ y)) H) : rPlus (.str x) (.str y) H Q := .inr (.inl ⟨x, y, rfl, rfl, h, q⟩)
theorem y_addL {b : Addr} (h : H a = some (.lst xs)) (h' : H b = some (.lst ys)) (hl : xs.length + ys.length ≤ sizeLine) (q : ∀ p, H p = none → Q (.ref p) (upd H p (.lst (xs ++ ys)))) : rPlus (.ref a) (.ref b) H Q := .inr (.inr ⟨a, b, xs, ys, rfl, rfl, h, h', hl, q⟩)
theorem y_subI (q : Q (.int (i - j)) H) : rSub2 (.int i) (.int j) H Q := ⟨i, j, rfl, rfl, q⟩
theorem y_mulI (h : CMulW i j) (q : Q (.int (i * j)) H) : rTimes (.int i) (.int j) H Q := .inl ⟨i, j, rfl, rfl, h, q⟩
theorem y_fdiv (h : CDivW i j) (q : Q (.int (i / j)) H) : rFdiv (.int i) (.int j) H Q := ⟨i, j, rfl, rfl, h, q⟩
theorem y_mod (h : 0 < j) (q : Q (.int (i % j)) H) : rMod (.int i) (.int j) H Q := ⟨i, j, rfl, rfl, h, q⟩
theorem y_pow (h : CPow i j) (q : Q (.int (i ^ j.toNat)) H) : rPow (.int i) (.int j) H Q := ⟨i, j, rfl, rfl, h, q⟩
theorem y_neg (q : Q (.int (-i)) H) : rNeg (.int i) H Q := ⟨i, rfl, q⟩
theorem y_ltI (q : Q (.bl (decide (i < j))) H) : rLtI (.int i) (.int j) H Q := ⟨i, j, rfl, rfl, q⟩
theorem y_leI (q : Q (.bl (decide (i ≤ j))) H) : rLeI (.int i) (.int j) H Q := ⟨i, j, rfl, rfl, q⟩
theorem y_gtI (q : Q (.bl (decide (j < i))) H) : rGtI (.int i) (.int j) H Q := ⟨i, j, rfl, rfl, q⟩
theorem y_geI (q : Q (.bl (decide (j ≤ i))) H) : rGeI (.int i) (.int j) H Q := ⟨i, j, rfl, rfl, q⟩
theorem y_isNo (q : Q (.bl (decide (x = .non))) H) : rIsNo x .non H Q := ⟨rfl, q⟩
theorem y_notNo (q : Q (.bl (!decide (x = .non))) H) : rNotNo x .non H Q := ⟨rfl, q⟩
theorem y_eqS (h : scal x y = true) (q : Q (.bl (decide (x = y))) H) : rEqA K x y H Q := .inl ⟨h, q⟩
theorem y_neS (h : scal x y = true) (q : Q (.bl (!decide (x = y))) H) : rNeA K x y H Q := .inl ⟨h, q⟩
theorem y_eqD {d e : PyData} (h1 : Dp K H x d) (h2 : Dp K H y e) (h3 : SeqAt.shaped d = true) (h4 : SeqAt.shaped e = true) (q : Q (.bl (PyData.eqv d e)) H) : rEqA K x y H Q := .inr ⟨d, e, h1, h2, h3, h4, q⟩
theorem y_neD {d e : PyData} (h1 : Dp K H x d) (h2 : Dp K H y e) (h3 : SeqAt.shaped d = true) (h4 : SeqAt.shaped e = true) (q : Q (.bl (!PyData.eqv d e)) H) : rNeA K x y H Q := .inr ⟨d, e, h1, h2, h3, h4, q⟩
theorem dget_f {k : Key} {y : V} (e : H a = some (.frz o (.dK kvs))) (hy : y = kV k := by rfl) : DGet H a y (valV kvs k) := .inl ⟨kvs, k, .inr ⟨o, e⟩, hy, rfl⟩
theorem dget_k {k : Key} {y : V} (e : H a = some (.dK kvs)) (hy : y = kV k := by rfl) : DGet H a y (valV kvs k) := .inl ⟨kvs, k, .inl e, hy, rfl⟩
theorem y_ixL (h : H a = some (.lst xs)) (ha : atI xs i = some v) (q : Q v H) : rSub K (.ref a) (.int i) H Q := .inl (.inl ⟨a, xs, i, v, rfl, rfl, SqL.of h, ha, q⟩)
theorem y_ixLs (h : SqL K H a xs) (ha : atI xs i = some v) (q : Q v H) : rSub K (.ref a) (.int i) H Q := .inl (.inl ⟨a, xs, i, v, rfl, rfl, h, ha, q⟩)
theorem y_ixT (h : H a = some (.tup xs)) (ha : atI xs i = some v) (q : Q v H) : rSub K (.ref a) (.int i) H Q := .inl (.inr (.inl ⟨a, xs, i, v, rfl, rfl, SqT.of h, ha, q⟩))
theorem y_ixF {z : Str} (h : H a = some (.frz o (.dK kvs))) (ha : valV kvs (Sum.inr z) = some v) (q : Q v H) : rSub K (.ref a) (.str z) H Q := .inr ⟨a, v, rfl, by rw [← ha]; exact dget_f (k := Sum.inr z) h, q⟩
theorem y_ixK {z : Str} (h : H a = some (.dK kvs)) (ha : valV kvs (Sum.inr z) = some v) (q : Q v H) : rSub K (.ref a) (.str z) H Q := .inr ⟨a, v, rfl, by rw [← ha]; exact dget_k (k := Sum.inr z) h, q⟩
theorem y_inF {z : Str} (h : H a = some (.frz o (.dK kvs))) (q : Q (.bl (valV kvs (Sum.inr z)).isSome) H) : rInA K (.str z) (.ref a) H Q := .inl ⟨a, _, rfl, dget_f (k := Sum.inr z) h, q⟩
theorem y_inK {z : Str} (h : H a = some (.dK kvs)) (q : Q (.bl (valV kvs (Sum.inr z)).isSome) H) : rInA K (.str z) (.ref a) H Q := .inl ⟨a, _, rfl, dget_k (k := Sum.inr z) h, q⟩
theorem y_niF {z : Str} (h : H a = some (.frz o (.dK kvs))) (q : Q (.bl (!(valV kvs (Sum.inr z)).isSome)) H) : rNotInA K (.str z) (.ref a) H Q := .inl ⟨a, _, rfl, dget_f (k := Sum.inr z) h, q⟩
theorem y_niK {z : Str} (h : H a = some (.dK kvs)) (q : Q (.bl (!(valV kvs (Sum.inr z)).isSome)) H) : rNotInA K (.str z) (.ref a) H Q := .inl ⟨a, _, rfl, dget_k (k := Sum.inr z) h, q⟩
theorem y_inL (h : H a = some (.lst xs)) (hx : flatV x = true) (hf : xs.all flatV = true) (q : Q (.bl (inV x xs)) H) : rInA K x (.ref a) H Q := .inr (.inl ⟨a, xs, rfl, .inl (SqL.of h), hx, hf, q⟩)
theorem y_niL (h : H a = some (.lst xs)) (hx : flatV x = true) (hf : xs.all flatV = true) (q : Q (.bl (!inV x xs)) H) : rNotInA K x (.ref a) H Q := .inr ⟨a, xs, rfl, .inl (SqL.of h), hx, hf, q⟩
theorem y_sign {c : Nat} {z : Str} (q : Q (.bl (decide (c ∈ z.cps.toList))) H) : rInA K (.str ⟨#[c]⟩) (.str z) H Q := .inr (.inr ⟨c, z, rfl, rfl, q⟩)
/-! built-ins by values -/
theorem y_lenL (h : H a = some (.lst xs)) (q : Q (.int xs.length) H) : rLen K [.ref a] H Q := .inl ⟨_, _, rfl, .inl ⟨xs, SqL.of h, rfl⟩, q⟩
theorem y_lenLs (h : SqL K H a xs) (q : Q (.int xs.length) H) : rLen K [.ref a] H Q := .inl ⟨_, _, rfl, .inl ⟨xs, h, rfl⟩, q⟩
theorem y_lenT (h : H a = some (.tup xs)) (q : Q (.int xs.length) H) : rLen K [.ref a] H Q := .inl ⟨_, _, rfl, .inr ⟨xs, SqT.of h, rfl⟩, q⟩
theorem y_lenS {z : Str} (h : z.length ≤ sizeLine) (q : Q (.int z.length) H) : rLen K [.str z] H Q := .inl ⟨_, _, rfl, ⟨h, rfl⟩, q⟩
theorem y_lenF (h : H a = some (.frz o (.dK kvs))) (q : Q (.int kvs.length) H) : rLen K [.ref a] H Q := .inr ⟨a, kvs, rfl, .inr ⟨o, h⟩, q⟩
theorem y_lenK (h : H a = some (.dK kvs)) (q : Q (.int kvs.length) H) : rLen K [.ref a] H Q := .inr ⟨a, kvs, rfl, .inl h, q⟩
theorem y_abs (q : Q (.int (if i < 0 then -i else i)) H) : rAbs [.int i] H Q := ⟨i, rfl, q⟩
theorem y_max2 (q : Q (.int (if j > i then j else i)) H) : rMax2 [.int i, .int j] H Q := ⟨i, j, rfl, q⟩
theorem y_min2 (q : Q (.int (if j < i then j else i)) H) : rMin2 [.int i, .int j] H Q := ⟨i, j, rfl, q⟩
theorem y_intI (q : Q (.int i) H) : rInt [.int i] H Q := .inl ⟨i, rfl, q⟩
theorem y_intB {b : Bool} (q : Q (.int (if b then 1 else 0)) H) : rInt [.bl b] H Q := .inr ⟨b, rfl, q⟩
theorem y_listL (h : H a = some (.lst xs)) (q : ∀ l, H l = none → Q (.ref l) (upd H l (.lst xs))) : rListA K [.ref a] H Q := .inl ⟨a, xs, rfl, .inl (SqL.of h), q⟩
theorem y_listF (h : H a = some (.frz o (.dK kvs))) (q : ∀ l, H l = none → Q (.ref l) (upd H l (.lst (kvs.map fun kv => kV kv.1)))) : rListA K [.ref a] H Q := .inr ⟨a, kvs, rfl, .inr ⟨o, h⟩, q⟩
theorem y_listK (h : H a = some (.dK kvs)) (q : ∀ l, H l = none → Q (.ref l) (upd H l (.lst (kvs.map fun kv => kV kv.1)))) : rListA K [.ref a] H Q := .inr ⟨a, kvs, rfl, .inl h, q⟩
theorem y_dictP {ps : List Addr} {kvs : List (Key × V)} (h : H a = some (.lst (ps.map V.ref))) (hp : Paired (fun p kv => SqT K H p [kV kv.1, kv.2]) ps kvs) (q : ∀ p, H p = none → Q (.ref p) (upd H p (.dK (mergeK [] kvs)))) : rDictA K [.ref a] H Q := .inl ⟨a, ps, kvs, rfl, SqL.of h, hp, q⟩
theorem y_dictF (h : H a = some (.frz o (.dK kvs))) (q : ∀ p, H p = none → Q (.ref p) (upd H p (.dK kvs))) : rDictA K [.ref a] H Q := .inr ⟨a, kvs, rfl, .inr ⟨o, h⟩, q⟩
theorem y_dictK (h : H a = some (.dK kvs)) (q : ∀ p, H p = none → Q (.ref p) (upd H p (.dK kvs))) : rDictA K [.ref a] H Q := .inr ⟨a, kvs, rfl, .inl h, q⟩
theorem y_divmod (h : CDiv i j) (q : ∀ p, H p = none → Q (.ref p) (upd H p (.tup [.int (i / j), .int (i % j)]))) : rDivmod [.int i, .int j] H Q := ⟨i, j, rfl, h, q⟩
theorem y_sum {ns : List Int} (h : H a = some (.lst (ns.map V.int))) (q : Q (.int ns.sum) H) : rSumA K [.ref a] H Q := ⟨a, ns, rfl, SqL.of h, q⟩
theorem y_slL {lo hi : Option Int} (h : H a = some (.lst xs)) (q : ∀ p, H p = none → Q (.ref p) (upd H p (.lst (cutV xs lo hi)))) : rSlL K (.ref a) lo hi H Q := ⟨a, xs, rfl, SqL.of h, q⟩
theorem y_append (h : H a = some (.lst xs)) (hl : xs.length < sizeLine) (q : Q .non (upd H a (.lst (xs ++ [y])))) : rAppend (.ref a) [y] H Q := ⟨a, xs, y, rfl, rfl, h, hl, q⟩
theorem y_extend {b : Addr} (h : H a = some (.lst xs)) (h' : H b = some (.lst ys)) (hl : xs.length + ys.length ≤ sizeLine) (q : Q .non (upd H a (.lst (xs ++ ys)))) : rExtend (.ref a) [.ref b] H Q := ⟨a, b, xs, ys, rfl, rfl, h, h', hl, q⟩
theorem y_setL {k : Int} {j : Nat} {R : Hp → Prop} (h : H a = some (.lst xs)) (hj : ixN xs.length k = some j) (q : R (upd H a (.lst (xs.set j v)))) : rSetL (.ref a) (.int k) v H R := ⟨a, xs, k, j, rfl, rfl, h, hj, q⟩
/-! branches -/
theorem y_T {A B : Prop} (q : A) : if true = true then A else B := iteT q
theorem y_F {A B : Prop} (q : B) : if false = true then A else B := iteF q
theorem y_nT {A B : Prop} (q : B) : if (!true) = true then A else B := iteF q
theorem y_nF {A B : Prop} (q : A) : if (!false) = true then A else B := iteT q
theorem y_dT {P A B : Prop} [Decidable P] (h : P) (q : A) : if decide P = true then A else B := by
  rw [decide_eq_true h]
  exact iteT q
theorem y_dF {P A B : Prop} [Decidable P] (h : ¬ P) (q : B) : if decide P = true then A else B := by
  rw [decide_eq_false h]
  exact iteF q
theorem y_ndT {P A B : Prop} [Decidable P] (h : P) (q : B) : if (!decide P) = true then A else B := by
  rw [decide_eq_true h]
  exact iteF q
theorem y_ndF {P A B : Prop} [Decidable P] (h : ¬ P) (q : A) : if (!decide P) = true then A else B := by
  rw [decide_eq_false h]
  exact iteT q
theorem y_bT {b : Bool} {A B : Prop} (h : b = true) (q : A) : if b = true then A else B := by
  rw [h]
  exact iteT q
theorem y_bF {b : Bool} {A B : Prop} (h : b = false) (q : B) : if b = true then A else B := by
  rw [h]
  exact iteF q
theorem y_d2 {P A B : Prop} [Decidable P] (h1 : P → A) (h2 : ¬ P → B) : if decide P = true then A else B := by
  by_cases h : P
  · exact y_dT h (h1 h)
  · exact y_dF h (h2 h)
theorem y_b2 {b : Bool} {A B : Prop} (h1 : b = true → A) (h2 : b = false → B) : if b = true then A else B := by
  cases b with
  | true => exact iteT (h1 rfl)
  | false => exact iteF (h2 rfl)
end

/-! ### rules with K told from outside (within a comprehension's block too) -/
section
variable {X : Cx} {K : PySem.W.Frag}
theorem ix_anyK (hu : X.A.units + 1 < cLine) (hK : X.K = K := by rfl) : IxR X (rSub K) := by subst hK; exact ix_any hu
theorem op_eqK (hu : X.A.units + 64 < cLine) (hK : X.K = K := by rfl) : OpR X (compareOp .Eq) (rEqA K) := by subst hK; exact op_eqA hu
theorem op_neK (hu : X.A.units + 64 < cLine) (hK : X.K = K := by rfl) : OpR X (compareOp .NotEq) (rNeA K) := by subst hK; exact op_neA hu
theorem op_inK (hu : X.A.units + 1 < cLine) (hK : X.K = K := by rfl) : OpR X (compareOp .In) (rInA K) := by subst hK; exact op_inA hu
theorem op_notInK (hu : X.A.units + 1 < cLine) (hK : X.K = K := by rfl) : OpR X (compareOp .NotIn) (rNotInA K) := by subst hK; exact op_notInA hu
theorem call_lenK (hK : X.K = K := by rfl) : CallR X (.builtin "len") (rLen K) := by subst hK; exact call_lenA
theorem call_listK (hc : X.calm = true) (hK : X.K = K := by rfl) : CallR X (.type "list") (rListA K) := by subst hK; exact call_listA hc
theorem call_dictKK (hc : X.calm = true) (hK : X.K = K := by rfl) : CallR X (.type "dict") (rDictA K) := by subst hK; exact call_dictA hc
theorem call_sumK (hc : X.calm = true) (hK : X.K = K := by rfl) : CallR X (.builtin "sum") (rSumA K) := by subst hK; exact call_sumA hc
def rIsiY (K : PySem.W.Frag) : List V → Hp → VK → Prop := rIsi K
def rIsiTY (K : PySem.W.Frag) : List V → Hp → VK → Prop := rIsiT K
theorem call_isiY (hK : X.K = K := by rfl) : CallR X (.builtin "isinstance") (rIsiY K) := by subst hK; exact call_isi
theorem call_isiTY (hK : X.K = K := by rfl) : CallR X (.builtin "isinstance") (rIsiTY K) := by subst hK; exact call_isiT
def rAnyY (K : PySem.W.Frag) : List V → Hp → VK → Prop := rAny K
def rAllY (K : PySem.W.Frag) : List V → Hp → VK → Prop := rAll K
theorem call_anyY (hc : X.calm = true) (hK : X.K = K := by rfl) : CallR X (.builtin "any") (rAnyY K) := by subst hK; exact cr_any hc
theorem call_allY (hc : X.calm = true) (hK : X.K = K := by rfl) : CallR X (.builtin "all") (rAllY K) := by subst hK; exact cr_all hc
def rSortI (K : PySem.W.Frag) : List V → Hp → VK → Prop := fun vs H Q => ∃ (a : Addr) (ns : List Int), vs = [V.ref a] ∧ SqL K H a (ns.map V.int) ∧ ∀ (ns' : List Int) (p : Addr), List.Perm ns' ns → ns'.Pairwise (· ≤ ·) → H p = none → Q (.ref p) (upd H p (.lst (ns'.map V.int)))
theorem sl_listK (hK : X.K = K := by rfl) : SlR X (rSlL K) := by subst hK; exact sl_list
theorem pi_listK {tg l : Expr} {tl : TE} (hl : PE X l tl) (hK : X.K = K := by rfl) : PI X tg l (iList K tl) := by subst hK; exact pi_list hl
theorem pi_tupK {tg l : Expr} {tl : TE} (hl : PE X l tl) (hK : X.K = K := by rfl) : PI X tg l (iTup K tl) := by subst hK; exact pi_tup hl
theorem pi_enumK {e : Expr} {ta : TA} {p pos tpos : Pos} {elts : List Expr} {kk : Nat} (hg : Gl X "enumerate") (hm : X.mg "enumerate" = none) (ha : PA X [e] ta) (hs : starEach [e] X.env = [(false, eval e X.env)] := by rfl) (hK : X.K = K := by rfl) :
    PI X (.Tuple elts kk tpos) (.Call (.Name "enumerate" p) [e] [] pos) (iEnum K ta) := by subst hK; exact pi_enum hg hm ha hs
theorem pg_tupK {es : List Expr} {k : Nat} {pos : Pos} {t : TGs} {n : Nat} (hc : X.calm = true) (h : PGs X es t)
    (hn : (assignEach es X.env).length = n := by rfl) (hst : (assignEach es X.env).findIdx? (·.1) = none := by rfl) (hK : X.K = K := by rfl) : PG X (.Tuple es k pos) (gTup K n t) := by
  subst hK
  exact pg_tup hc h hn hst
theorem call_sortedY (hK : X.K = K := by rfl) : CallR X (.builtin "sorted") (rSortedI K) := by subst hK; exact cr_sortedI
theorem pe_bmK {T name id : _} {r : V → List V → Hp → VK → Prop} {o e : Expr} {es : List Expr} {to : TE} {t : TA} {apos cpos : Pos} (pa : PlainAttrs T) (slot : Slot T name id) (hty : typeOf (.builtin id) = pure (.type "method_descriptor")) (hm : MtR X id r) (ho : PE X o to) (ha : PA X (e :: es) t)
    (hbase : attributeBase o name X.env (eval o X.env) = eval o X.env := by rfl)
    (hfew : ((backTo cpos (starEach (e :: es) X.env)).all (fun x => !x.1) && (backToKw cpos (keywordEach [] X.env)).all (fun x => x.1.isSome)
      && decide ((e :: es).length + ([] : List Keyword).length + (if ([] : List Keyword).isEmpty then 0 else 1) < 30)) = true := by rfl) (hline : (apos.endLine == cpos.line) = true := by rfl) (hs : starEach (e :: es) X.env = (false, eval e X.env) :: starEach es X.env := by rfl) (hplain : (backTo cpos (starEach es X.env)).any (·.1) = false := by rfl) (hK : X.K = K := by rfl) : PE X (.Call (.Attribute o name apos) (e :: es) [] cpos) (tBM K T r to t) := by
  subst hK
  exact pe_bm pa slot hty hm ho ha hbase hfew hline hs hplain
theorem pe_gint {x : Str} {n : Int} {p : Pos} (h : ∃ t, X.mg x = some (Value.int n t)) (hg : Gl X x := by rfl) (hdb : (x == ("__debug__" : Str)) = false := by decide) : PE X (.Name x p) (tC (.int n)) := by
  obtain ⟨t, h⟩ := h
  exact pe_glob hg h ⟨t, rfl⟩ hdb
theorem pe_gstr {x : Str} {n : Str} {p : Pos} (h : ∃ t, X.mg x = some (Value.str n t)) (hg : Gl X x := by rfl) (hdb : (x == ("__debug__" : Str)) = false := by decide) : PE X (.Name x p) (tC (.str n)) := by
  obtain ⟨t, h⟩ := h
  exact pe_glob hg h ⟨t, rfl⟩ hdb
theorem pe_bty {x : Str} {T : String} {p : Pos} (hm : X.mg x = none) (hv : bootBuiltins x = some (.type T)) (hg : Gl X x := by rfl) (hn : x ≠ "__name__" := by decide) (hd : (x == ("__debug__" : Str)) = false := by decide) : PE X (.Name x p) (tC (.ty T)) := pe_bltn hg hm hv rfl hn hd
end
section
variable {K : PySem.W.Frag} {H : Hp} {Q : VK} {x : V}
theorem y_isi {T A : String} {b : Bool} (ht : TyX K H x (.type A)) (hk : kitB A T = some b) (q : Q (.bl b) H) : rIsiY K [x, .ty T] H Q := ⟨x, .ty T, .type A, .type T, b, rfl, .ty T, ht, kit_ty hk, q⟩
theorem y_isiT {S T A : String} {tp : Addr} {b c : Bool} (hT : H tp = some (.tup [.ty S, .ty T])) (ht : TyX K H x (.type A)) (hk : kitB A S = some b) (hk' : kitB A T = some c) (q : Q (.bl (b || c)) H) : rIsiTY K [x, .ref tp] H Q := by
  refine ⟨x, tp, [.ty S, .ty T], .type A, [.type S, .type T], b || c, rfl, hT, .cons (.ty S) (.cons (.ty T) .nil), ht, ?_, q⟩
  refine kitAny_cons (kit_ty hk) (fun e => ?_) (fun e => by rw [e]; rfl)
  rw [e, Bool.false_or]
  refine kitAny_cons (kit_ty hk') (fun e => ?_) (fun e => e)
  rw [e]
  rfl
theorem kt_NoneType_int : kitB "NoneType" "int" = some false := by decide +kernel
theorem kt_NoneType_bool : kitB "NoneType" "bool" = some false := by decide +kernel
theorem kt_NoneType_str : kitB "NoneType" "str" = some false := by decide +kernel
theorem kt_NoneType_list : kitB "NoneType" "list" = some false := by decide +kernel
theorem kt_NoneType_tuple : kitB "NoneType" "tuple" = some false := by decide +kernel
theorem kt_NoneType_dict : kitB "NoneType" "dict" = some false := by decide +kernel
theorem kt_bool_int : kitB "bool" "int" = some true := by decide +kernel
theorem kt_bool_bool : kitB "bool" "bool" = some true := by decide +kernel
theorem kt_bool_str : kitB "bool" "str" = some false := by decide +kernel
theorem kt_bool_list : kitB "bool" "list" = some false := by decide +kernel
theorem kt_bool_tuple : kitB "bool" "tuple" = some false := by decide +kernel
theorem kt_bool_dict : kitB "bool" "dict" = some false := by decide +kernel
theorem kt_int_int : kitB "int" "int" = some true := by decide +kernel
theorem kt_int_bool : kitB "int" "bool" = some false := by decide +kernel
theorem kt_int_str : kitB "int" "str" = some false := by decide +kernel
theorem kt_int_list : kitB "int" "list" = some false := by decide +kernel
theorem kt_int_tuple : kitB "int" "tuple" = some false := by decide +kernel
theorem kt_int_dict : kitB "int" "dict" = some false := by decide +kernel
theorem kt_str_int : kitB "str" "int" = some false := by decide +kernel
theorem kt_str_bool : kitB "str" "bool" = some false := by decide +kernel
theorem kt_str_str : kitB "str" "str" = some true := by decide +kernel
theorem kt_str_list : kitB "str" "list" = some false := by decide +kernel
theorem kt_str_tuple : kitB "str" "tuple" = some false := by decide +kernel
theorem kt_str_dict : kitB "str" "dict" = some false := by decide +kernel
theorem kt_list_int : kitB "list" "int" = some false := by decide +kernel
theorem kt_list_bool : kitB "list" "bool" = some false := by decide +kernel
theorem kt_list_str : kitB "list" "str" = some false := by decide +kernel
theorem kt_list_list : kitB "list" "list" = some true := by decide +kernel
theorem kt_list_tuple : kitB "list" "tuple" = some false := by decide +kernel
theorem kt_list_dict : kitB "list" "dict" = some false := by decide +kernel
theorem kt_tuple_int : kitB "tuple" "int" = some false := by decide +kernel
theorem kt_tuple_bool : kitB "tuple" "bool" = some false := by decide +kernel
theorem kt_tuple_str : kitB "tuple" "str" = some false := by decide +kernel
theorem kt_tuple_list : kitB "tuple" "list" = some false := by decide +kernel
theorem kt_tuple_tuple : kitB "tuple" "tuple" = some true := by decide +kernel
theorem kt_tuple_dict : kitB "tuple" "dict" = some false := by decide +kernel
theorem kt_dict_int : kitB "dict" "int" = some false := by decide +kernel
theorem kt_dict_bool : kitB "dict" "bool" = some false := by decide +kernel
theorem kt_dict_str : kitB "dict" "str" = some false := by decide +kernel
theorem kt_dict_list : kitB "dict" "list" = some false := by decide +kernel
theorem kt_dict_tuple : kitB "dict" "tuple" = some false := by decide +kernel
theorem kt_dict_dict : kitB "dict" "dict" = some true := by decide +kernel
theorem y_for {wi : TI} {g : TG} {tb : TS} {D : Ends} {σ : L2.St} (q : wi σ H fun J H1 => ∃ W : Nat → Nat → L2.St → Hp → Prop, (∃ m, W 0 m σ H1) ∧ ∀ i m σ H, W i m σ H →
    (J.stop i H ∧ D.nx σ H) ∨ (J.go i H ∧ ∃ N : L2.St → Hp → Prop, (∀ σ' H', N σ' H' → ∃ m', m' < m ∧ W (i + 1) m' σ' H') ∧ ∀ x H', J.yld i H x H' → g x σ H' fun σ2 H2 => tb { D with nx := N, ct := N, bk := D.nx } σ2 H2)) : tFor wi g tb D σ H := q
theorem y_lc {wi : TI} {g : TG} {tt : TT} {te : TE} {vs : List Nat} {σ : L2.St} (q : wi σ H fun J H1 => ∀ D, H1 D = none → ∃ W : Nat → Nat → Hp → Prop, (∃ m, W 0 m (upd H1 D (.lst []))) ∧ ∀ i m H, W i m H →
    (J.stop i H ∧ Q (.ref D) H) ∨ (J.go i H ∧ ∃ Nx : Hp → Prop, (∀ H', Nx H' → ∃ m', m' < m ∧ W (i + 1) m' H') ∧ ∀ x H', J.yld i H x H' → g x (wipe σ vs) H' fun σ2 H2 => wipe σ2 vs = wipe σ vs ∧ tt σ2 H2 fun b H3 =>
      if b = true then te σ2 H3 fun y H4 => ∃ acc, H4 D = some (.lst acc) ∧ acc.length < sizeLine ∧ Nx (upd H4 D (.lst (acc ++ [y]))) else Nx H3)) : tLc wi g tt te vs σ H Q := q
variable {σ : L2.St} {R : It → Hp → Prop} {tl : TE} {tA : TA} {a : Addr} {xs : List V} {o : Obj} {kvs : List (Key × V)}
theorem y_iL (q : tl σ H fun x H1 => ∃ a, x = .ref a ∧ (∃ xs, SqL K H1 a xs) ∧ R (Itl K a) H1) : iList K tl σ H R := q
theorem y_gotL {R : Addr → Prop} (h : H a = some (.lst xs)) (q : R a) : ∃ b, V.ref a = .ref b ∧ (∃ xs, SqL K H b xs) ∧ R b := ⟨a, rfl, ⟨xs, SqL.of h⟩, q⟩
theorem y_gotLs {R : Addr → Prop} (h : SqL K H a xs) (q : R a) : ∃ b, V.ref a = .ref b ∧ (∃ xs, SqL K H b xs) ∧ R b := ⟨a, rfl, ⟨xs, h⟩, q⟩
theorem y_iT (q : tl σ H fun x H1 => ∃ a, x = .ref a ∧ (∃ xs, SqT K H1 a xs) ∧ R (Itt K a) H1) : iTup K tl σ H R := q
theorem y_gotT {R : Addr → Prop} (h : H a = some (.tup xs)) (q : R a) : ∃ b, V.ref a = .ref b ∧ (∃ xs, SqT K H b xs) ∧ R b := ⟨a, rfl, ⟨xs, SqT.of h⟩, q⟩
theorem y_r1 (q : tA σ H fun vs H1 => ∃ j : Int, vs = [.int j] ∧ -(2 ^ 62) ≤ j ∧ j < 2 ^ 62 ∧ R (Itr 0 j.toNat) H1) : iRng1 tA σ H R := q
theorem y_gotr1 {R : Int → Prop} {j : Int} (h1 : -(2 ^ 62) ≤ j) (h2 : j < 2 ^ 62) (q : R j) : ∃ i : Int, [V.int j] = [.int i] ∧ -(2 ^ 62) ≤ i ∧ i < 2 ^ 62 ∧ R i := ⟨j, rfl, h1, h2, q⟩
theorem y_r2 (q : tA σ H fun vs H1 => ∃ i j : Int, vs = [.int i, .int j] ∧ (-(2 ^ 62) ≤ i ∧ i < 2 ^ 62 ∧ -(2 ^ 62) ≤ j ∧ j < 2 ^ 62) ∧ R (Itr i (j - i).toNat) H1) : iRng2 tA σ H R := q
theorem y_gotr2 {R : Int → Int → Prop} {i j : Int} (h : -(2 ^ 62) ≤ i ∧ i < 2 ^ 62 ∧ -(2 ^ 62) ≤ j ∧ j < 2 ^ 62) (q : R i j) : ∃ i' j' : Int, [V.int i, V.int j] = [.int i', .int j'] ∧ (-(2 ^ 62) ≤ i' ∧ i' < 2 ^ 62 ∧ -(2 ^ 62) ≤ j' ∧ j' < 2 ^ 62) ∧ R i' j' := ⟨i, j, rfl, h, q⟩
theorem y_iI (q : tl σ H fun x H1 => ∃ d o kvs, x = .ref d ∧ H1 d = some (.frz o (.dK kvs)) ∧ R (Iti d o kvs) H1) : iItems tl σ H R := q
theorem y_gotI {R : Addr → Obj → List (Key × V) → Prop} (h : H a = some (.frz o (.dK kvs))) (q : R a o kvs) : ∃ d o kvs, V.ref a = .ref d ∧ H d = some (.frz o (.dK kvs)) ∧ R d o kvs := ⟨a, o, kvs, rfl, h, q⟩
theorem y_iV (q : tl σ H fun x H1 => ∃ d o kvs, x = .ref d ∧ H1 d = some (.frz o (.dK kvs)) ∧ R (Itd d o kvs) H1) : iVals tl σ H R := q
theorem y_iK (q : tl σ H fun x H1 => ∃ d o, x = .ref d ∧ ((∃ kvs, H1 d = some (.frz o (.dK kvs)) ∧ R (Itk d o kvs) H1) ∨ ∃ kvs, H1 d = some (.frz o (.dT kvs)) ∧ R (Itkt d o kvs) H1)) : iKeys tl σ H R := q
theorem y_gotK {R : Addr → Obj → List (Key × V) → Prop} {R2 : Addr → Obj → List (List Key × V) → Prop} (h : H a = some (.frz o (.dK kvs))) (q : R a o kvs) : ∃ d o, V.ref a = .ref d ∧ ((∃ kvs, H d = some (.frz o (.dK kvs)) ∧ R d o kvs) ∨ ∃ kvs, H d = some (.frz o (.dT kvs)) ∧ R2 d o kvs) := ⟨a, o, rfl, .inl ⟨kvs, h, q⟩⟩
theorem y_iS (q : tl σ H fun v H1 => ∃ x, v = .str x ∧ R (Its x) H1) : iStr tl σ H R := q
theorem y_gotS {z : Str} {R : Str → Prop} (q : R z) : ∃ x, V.str z = .str x ∧ R x := ⟨z, rfl, q⟩
theorem y_iE (q : tA σ H fun vs H1 => ∃ a xs, vs = [.ref a] ∧ SqL K H1 a xs ∧ R (Ite K a) H1) : iEnum K tA σ H R := q
theorem y_gotE {R : Addr → Prop} (h : H a = some (.lst xs)) (q : R a) : ∃ b ys, [V.ref a] = [.ref b] ∧ SqL K H b ys ∧ R b := ⟨a, xs, rfl, SqL.of h, q⟩
theorem y_all {bs : List Bool} (h : H a = some (.lst (bs.map V.bl))) (q : Q (.bl (bs.all id)) H) : rAllY K [.ref a] H Q := ⟨a, bs, rfl, SqL.of h, q⟩
theorem y_any {bs : List Bool} (h : H a = some (.lst (bs.map V.bl))) (q : Q (.bl (bs.any id)) H) : rAnyY K [.ref a] H Q := ⟨a, bs, rfl, SqL.of h, q⟩
theorem y_sorted {ns : List Int} (h : H a = some (.lst (ns.map V.int))) (q : ∀ (ns' : List Int) (p : Addr), List.Perm ns' ns → ns'.Pairwise (· ≤ ·) → H p = none → Q (.ref p) (upd H p (.lst (ns'.map V.int)))) : rSortI K [.ref a] H Q := ⟨a, ns, rfl, SqL.of h, q⟩
theorem y_yes {QT : Bool → Hp → Prop} (q : QT true H) : tYes σ H QT := q
end


/-! ### comprehensions that change nothing that stood -/
theorem y_wipe {σ2 σ : L2.St} {vs : List Nat} {R : Prop} (h : wipe σ2 vs = wipe σ vs) (q : R) : wipe σ2 vs = wipe σ vs ∧ R := ⟨h, q⟩
theorem y_acc {H : Hp} {D : Addr} {acc : List V} {y : V} {Nx : Hp → Prop} (h : H D = some (.lst acc)) (hl : acc.length < sizeLine) (q : Nx (upd H D (.lst (acc ++ [y])))) : ∃ acc, H D = some (.lst acc) ∧ acc.length < sizeLine ∧ Nx (upd H D (.lst (acc ++ [y]))) := ⟨acc, h, hl, q⟩
theorem fm_succ {f : Nat → Option V} (i : Nat) : (List.range (i + 1)).filterMap f = match f i with | some y => (List.range i).filterMap f ++ [y] | none => (List.range i).filterMap f := by
  rw [List.range_succ, List.filterMap_append]
  cases h : f i with
  | some y => simp [h]
  | none => simp [h]
theorem same_upd {H0 H : Hp} {D : Addr} {o : HO} (e : Same H0 H) (n : H0 D = none) : Same H0 (upd H D o) := fun a u h => by
  rw [upd_ne (ne_of_none h n)]
  exact e a u h
theorem lc_gen {J : It} {n : Nat} {G : Hp → Prop} {Y : Nat → Hp → V → Hp → Prop} {g : TG} {tt : TT} {te : TE} {vs : List Nat} {σ : L2.St} {H0 : Hp} {D : Addr} {Qd : Hp → Prop} (f : Nat → Option V) (w : Walk J n G Y) (nD : H0 D = none) (hn : n < sizeLine)
    (hG : ∀ H', Same H0 H' → G H')
    (hs : ∀ (i : Nat) (x : V) (H1 H2 : Hp) (Nx : Hp → Prop), i < n → Same H0 H1 → Y i H1 x H2 →
      (∀ y H5, f i = some y → Same H1 H5 → ∃ acc, H5 D = some (.lst acc) ∧ acc.length < sizeLine ∧ Nx (upd H5 D (.lst (acc ++ [y])))) → (∀ H5, f i = none → Same H1 H5 → Nx H5) →
      g x (wipe σ vs) H2 fun σ2 H3 => wipe σ2 vs = wipe σ vs ∧ tt σ2 H3 fun b H4 => if b = true then te σ2 H4 fun y H5 => ∃ acc, H5 D = some (.lst acc) ∧ acc.length < sizeLine ∧ Nx (upd H5 D (.lst (acc ++ [y]))) else Nx H4)
    (hd : ∀ H', Same H0 H' → H' D = some (.lst ((List.range n).filterMap f)) → Qd H') :
    ∃ W : Nat → Nat → Hp → Prop, (∃ m, W 0 m (upd H0 D (.lst []))) ∧ ∀ i m H, W i m H →
      (J.stop i H ∧ Qd H) ∨ (J.go i H ∧ ∃ Nx : Hp → Prop, (∀ H', Nx H' → ∃ m', m' < m ∧ W (i + 1) m' H') ∧ ∀ x H', J.yld i H x H' → g x (wipe σ vs) H' fun σ2 H2 => wipe σ2 vs = wipe σ vs ∧ tt σ2 H2 fun b H3 =>
        if b = true then te σ2 H3 fun y H4 => ∃ acc, H4 D = some (.lst acc) ∧ acc.length < sizeLine ∧ Nx (upd H4 D (.lst (acc ++ [y]))) else Nx H3) := by
  refine lc_it w (fun i H => Same H0 H ∧ H D = some (.lst ((List.range i).filterMap f))) ⟨same_new0 nD, upd_same⟩ (fun i H _ h => hG H h.1) (fun i x H H' hi hP hY => ?_) (fun H h => hd H h.1 h.2)
  obtain ⟨e, hD⟩ := hP
  refine hs i x H H' (fun H4 => Same H0 H4 ∧ H4 D = some (.lst ((List.range (i + 1)).filterMap f))) hi e hY (fun y H5 hy e5 => ?_) (fun H5 hy e5 => ?_)
  · refine ⟨_, e5 _ _ hD, ?_, same_upd (e.trans e5) nD, ?_⟩
    · refine Nat.lt_of_le_of_lt (List.length_filterMap_le _ _) ?_
      rw [List.length_range]
      exact Nat.lt_trans hi hn
    · rw [upd_same, fm_succ, hy]
  · refine ⟨e.trans e5, ?_⟩
    rw [e5 _ _ hD, fm_succ, hy]
theorem lc_map {J : It} {n : Nat} {G : Hp → Prop} {Y : Nat → Hp → V → Hp → Prop} {g : TG} {tt : TT} {te : TE} {vs : List Nat} {σ : L2.St} {H0 : Hp} {D : Addr} {Qd : Hp → Prop} (f : Nat → V) (w : Walk J n G Y) (nD : H0 D = none) (hn : n < sizeLine)
    (hG : ∀ H', Same H0 H' → G H')
    (hs : ∀ (i : Nat) (x : V) (H1 H2 : Hp) (Nx : Hp → Prop), i < n → Same H0 H1 → Y i H1 x H2 →
      (∀ y H5, y = f i → Same H1 H5 → ∃ acc, H5 D = some (.lst acc) ∧ acc.length < sizeLine ∧ Nx (upd H5 D (.lst (acc ++ [y])))) →
      g x (wipe σ vs) H2 fun σ2 H3 => wipe σ2 vs = wipe σ vs ∧ tt σ2 H3 fun b H4 => if b = true then te σ2 H4 fun y H5 => ∃ acc, H5 D = some (.lst acc) ∧ acc.length < sizeLine ∧ Nx (upd H5 D (.lst (acc ++ [y]))) else Nx H4)
    (hd : ∀ H', Same H0 H' → H' D = some (.lst ((List.range n).map f)) → Qd H') :
    ∃ W : Nat → Nat → Hp → Prop, (∃ m, W 0 m (upd H0 D (.lst []))) ∧ ∀ i m H, W i m H →
      (J.stop i H ∧ Qd H) ∨ (J.go i H ∧ ∃ Nx : Hp → Prop, (∀ H', Nx H' → ∃ m', m' < m ∧ W (i + 1) m' H') ∧ ∀ x H', J.yld i H x H' → g x (wipe σ vs) H' fun σ2 H2 => wipe σ2 vs = wipe σ vs ∧ tt σ2 H2 fun b H3 =>
        if b = true then te σ2 H3 fun y H4 => ∃ acc, H4 D = some (.lst acc) ∧ acc.length < sizeLine ∧ Nx (upd H4 D (.lst (acc ++ [y]))) else Nx H3) :=
  lc_gen (fun i => some (f i)) w nD hn hG (fun i x H1 H2 Nx hi e hY k _ => hs i x H1 H2 Nx hi e hY fun y H5 hy e5 => k y H5 (by rw [hy]) e5) fun H' e h => hd H' e (by rw [h, ← List.filterMap_eq_map]; rfl)
theorem sz_line {n : Nat} (h : n ≤ 100000) : n ≤ sizeLine := Nat.le_trans h (by decide)
theorem sz_lt {n : Nat} (h : n ≤ 100000) : n < sizeLine := Nat.lt_of_le_of_lt h (by decide)

theorem y_ipI {f : Int → Int → Int} {i j : Int} {H : Hp} {Q : VK} (q : Q (.int (f i j)) H) : ipI f (.int i) (.int j) H Q := ⟨i, j, rfl, rfl, q⟩
def rIndexY (K : PySem.W.Frag) : V → List V → Hp → VK → Prop := rIndex K
theorem mt_indexK {X : Cx} {K : PySem.W.Frag} (hK : X.K = K := by rfl) : MtR X "list.index" (rIndexY K) := by
  subst hK
  exact mt_index
theorem eqV_str {a b : Str} : eqV (.str a) (.str b) = decide (a = b) := by
  unfold eqV
  first
    | rfl
    | simp
theorem y_indexS {K : PySem.W.Frag} {H : Hp} {Q : VK} {a : Addr} {nm : List Str} {z : Str} {j : Nat} (h : H a = some (.lst (nm.map V.str))) (hj : nm[j]? = some z) (nd : nm.Nodup) (q : Q (.int j) H) : rIndexY K (.ref a) [.str z] H Q := by
  refine ⟨a, nm.map V.str, .str z, j, .str z, rfl, rfl, SqL.of h, rfl, ?_, ?_, ?_, ?_, q⟩
  · rw [List.all_eq_true]
    intro x hx
    obtain ⟨y, _, rfl⟩ := List.mem_map.mp hx
    rfl
  · rw [List.getElem?_map, hj]
    rfl
  · rw [eqV_str]
    exact decide_eq_true rfl
  · intro m z' hm hz'
    rw [List.getElem?_map] at hz'
    cases e : nm[m]? with
    | none =>
      rw [e] at hz'
      cases hz'
    | some y =>
      rw [e] at hz'
      have := Option.some.inj hz'
      subst this
      rw [eqV_str]
      refine decide_eq_false fun e2 => ?_
      subst e2
      have := nd_ix nd e hj
      omega
theorem cmul_small {i j : Int} (hi : i.natAbs < 2 ^ 64) (hj : j.natAbs < 2 ^ 64) : CMulW i j := wide_mul (a := 64) (b := 64) hi hj (by decide) (by decide) (by decide)
theorem cdiv_small {i j : Int} (h : 0 < j) (hj : j < 2 ^ 62) : CDivW i j := wide_div (b := 62) h (by omega) (by decide) (by decide)

theorem lc_new {J : It} {n : Nat} {G : Hp → Prop} {Y : Nat → Hp → V → Hp → Prop} {g : TG} {tt : TT} {te : TE} {vs : List Nat} {σ : L2.St} {H0 : Hp} {D : Addr} {Qd : Hp → Prop} (f : Nat → HO) (hf : ∀ i xs, f i ≠ .lst xs) (w : Walk J n G Y) (nD : H0 D = none) (hn : n < sizeLine)
    (hG : ∀ H', Same H0 H' → G H')
    (hs : ∀ (i : Nat) (x : V) (H1 H2 : Hp) (Nx : Hp → Prop), i < n → Same H0 H1 → Y i H1 x H2 →
      (∀ a H5, Same H1 H5 → H5 a = some (f i) → ∃ acc, H5 D = some (.lst acc) ∧ acc.length < sizeLine ∧ Nx (upd H5 D (.lst (acc ++ [.ref a])))) →
      g x (wipe σ vs) H2 fun σ2 H3 => wipe σ2 vs = wipe σ vs ∧ tt σ2 H3 fun b H4 => if b = true then te σ2 H4 fun y H5 => ∃ acc, H5 D = some (.lst acc) ∧ acc.length < sizeLine ∧ Nx (upd H5 D (.lst (acc ++ [y]))) else Nx H4)
    (hd : ∀ (H' : Hp) (as : List Addr), Same H0 H' → as.length = n → (∀ i a, as[i]? = some a → H' a = some (f i)) → H' D = some (.lst (as.map V.ref)) → Qd H') :
    ∃ W : Nat → Nat → Hp → Prop, (∃ m, W 0 m (upd H0 D (.lst []))) ∧ ∀ i m H, W i m H →
      (J.stop i H ∧ Qd H) ∨ (J.go i H ∧ ∃ Nx : Hp → Prop, (∀ H', Nx H' → ∃ m', m' < m ∧ W (i + 1) m' H') ∧ ∀ x H', J.yld i H x H' → g x (wipe σ vs) H' fun σ2 H2 => wipe σ2 vs = wipe σ vs ∧ tt σ2 H2 fun b H3 =>
        if b = true then te σ2 H3 fun y H4 => ∃ acc, H4 D = some (.lst acc) ∧ acc.length < sizeLine ∧ Nx (upd H4 D (.lst (acc ++ [y]))) else Nx H3) := by
  refine lc_it w (fun i H => Same H0 H ∧ ∃ as : List Addr, as.length = i ∧ (∀ j a, as[j]? = some a → H a = some (f j)) ∧ H D = some (.lst (as.map V.ref))) ⟨same_new0 nD, [], rfl, fun j a h => by simp at h, upd_same⟩ (fun i H _ h => hG H h.1) (fun i x H H' hi hP hY => ?_) (fun H h => ?_)
  · obtain ⟨e, as, hl, ha, hD⟩ := hP
    refine hs i x H H' (fun H4 => Same H0 H4 ∧ ∃ as : List Addr, as.length = i + 1 ∧ (∀ j a, as[j]? = some a → H4 a = some (f j)) ∧ H4 D = some (.lst (as.map V.ref))) hi e hY (fun a H5 e5 h5 => ?_)
    have hD5 := e5 _ _ hD
    refine ⟨_, hD5, ?_, same_upd (e.trans e5) nD, as ++ [a], by rw [List.length_append, hl]; rfl, fun j b hb => ?_, ?_⟩
    · rw [List.length_map, hl]
      exact Nat.lt_trans hi hn
    · have hbf : H5 b = some (f j) := by
        by_cases h : j < as.length
        · rw [List.getElem?_append_left h] at hb
          exact e5 _ _ (ha j b hb)
        · rw [List.getElem?_append_right (by omega)] at hb
          have hj : j - as.length = 0 := by
            by_cases z : j - as.length = 0
            · exact z
            · rw [List.getElem?_eq_none (by simp; omega)] at hb
              cases hb
          rw [hj] at hb
          have : a = b := Option.some.inj hb
          subst this
          have : j = i := by omega
          rw [this]
          exact h5
      rw [upd_ne (ne_of hbf hD5 (hf j _))]
      exact hbf
    · rw [upd_same, List.map_append]
      rfl
  · obtain ⟨e, as, hl, ha, hD⟩ := h
    exact hd H as e hl ha hD
theorem y_daug {td ty tv : TE} {rd : V → V → Hp → VK → Prop} {nx : L2.St → Hp → Prop} {rt : VK} {bk ct : L2.St → Hp → Prop} {σ : L2.St} {H : Hp} (q : td σ H fun x H1 => ty σ H1 fun y H2 => ∃ a v, x = .ref a ∧ DGet H2 a y (some v) ∧ tv σ H2 fun y2 H3 => rd v y2 H3 fun z H4 => ∃ H5, DPut H4 a y z H5 ∧ nx σ H5) : sDAug td ty tv rd ⟨nx, rt, bk, ct⟩ σ H := q
theorem y_dput {td ty tv : TE} {nx : L2.St → Hp → Prop} {rt : VK} {bk ct : L2.St → Hp → Prop} {σ : L2.St} {H : Hp} (q : tv σ H fun v H1 => td σ H1 fun x H2 => ty σ H2 fun y H3 => ∃ a H4, x = .ref a ∧ DPut H3 a y v H4 ∧ nx σ H4) : sDPut td ty tv ⟨nx, rt, bk, ct⟩ σ H := q
theorem y_put {z : Str} {v : V} {H : Hp} {a : Addr} {kvs : List (Key × V)} {R : Addr → Hp → Prop} (h : H a = some (.dK kvs)) (hl : kvs.length < sizeLine) (q : R a (upd H a (.dK (putK kvs (Sum.inr z) v)))) : ∃ b H', V.ref a = .ref b ∧ DPut H b (.str z) v H' ∧ R b H' := ⟨a, _, rfl, DPut.k (k := Sum.inr z) h hl, q⟩
theorem y_aug1 {z : Str} {v : V} {H : Hp} {a : Addr} {kvs : List (Key × V)} {R : Addr → V → Prop} (h : H a = some (.dK kvs)) (hv : valV kvs (Sum.inr z) = some v) (q : R a v) : ∃ b w, V.ref a = .ref b ∧ DGet H b (.str z) (some w) ∧ R b w := ⟨a, v, rfl, by rw [← hv]; exact dget_k (k := Sum.inr z) h, q⟩
theorem y_rAdd {i j : Int} {H : Hp} {Q : VK} (q : Q (.int (i + j)) H) : L2.rAdd (.int i) (.int j) H Q := ⟨i, j, rfl, rfl, q⟩
theorem y_put2 {z : Str} {v : V} {H : Hp} {a : Addr} {kvs : List (Key × V)} {R : Hp → Prop} (h : H a = some (.dK kvs)) (hl : kvs.length < sizeLine) (q : R (upd H a (.dK (putK kvs (Sum.inr z) v)))) : ∃ H', DPut H a (.str z) v H' ∧ R H' := ⟨_, DPut.k (k := Sum.inr z) h hl, q⟩
/-! ### comprehensions of two clauses -/
theorem y_lc2 {wi wi1 : TI} {g g1 : TG} {tt tt1 : TT} {te : TE} {vs vs1 : List Nat} {σ : L2.St} {H : Hp} {Q : VK} (q : wi σ H fun J H1 => ∀ D, H1 D = none → ∃ W : Nat → Nat → Hp → Prop, (∃ m, W 0 m (upd H1 D (.lst []))) ∧ ∀ i m H, W i m H →
  (J.stop i H ∧ Q (.ref D) H) ∨ (J.go i H ∧ ∃ Nx : Hp → Prop, (∀ H', Nx H' → ∃ m', m' < m ∧ W (i + 1) m' H') ∧ ∀ x H', J.yld i H x H' → g x (wipe σ vs) H' fun σ2 H2 => wipe σ2 vs = wipe σ vs ∧ tt σ2 H2 fun b H3 =>
    if b = true then wi1 σ2 H3 fun J1 H4 => ∃ W1 : Nat → Nat → Hp → Prop, (∃ m, W1 0 m H4) ∧ ∀ j k H, W1 j k H →
      (J1.stop j H ∧ Nx H) ∨ (J1.go j H ∧ ∃ Nx1 : Hp → Prop, (∀ H', Nx1 H' → ∃ k', k' < k ∧ W1 (j + 1) k' H') ∧ ∀ x H', J1.yld j H x H' → g1 x (wipe σ2 vs1) H' fun σ3 H5 => wipe σ3 vs1 = wipe σ2 vs1 ∧ tt1 σ3 H5 fun b H6 =>
        if b = true then te σ3 H6 fun y H7 => ∃ acc, H7 D = some (.lst acc) ∧ acc.length < sizeLine ∧ Nx1 (upd H7 D (.lst (acc ++ [y]))) else Nx1 H6)
    else Nx H3)) : tLc2 wi g tt wi1 g1 tt1 te vs vs1 σ H Q := q
theorem lc2_out {J : It} {n : Nat} {G : Hp → Prop} {Y : Nat → Hp → V → Hp → Prop} (w : Walk J n G Y) {R : Nat → V → Hp → (Hp → Prop) → Prop} {H1 : Hp} {D : Addr} {Qd : Hp → Prop} (Pv : Nat → Hp → Prop) (h0 : Pv 0 (upd H1 D (.lst []))) (hG : ∀ i H, i ≤ n → Pv i H → G H)
    (hs : ∀ i x H H', i < n → Pv i H → Y i H x H' → R i x H' (Pv (i + 1))) (hd : ∀ H, Pv n H → Qd H) :
    ∃ W : Nat → Nat → Hp → Prop, (∃ m, W 0 m (upd H1 D (.lst []))) ∧ ∀ i m H, W i m H →
      (J.stop i H ∧ Qd H) ∨ (J.go i H ∧ ∃ Nx : Hp → Prop, (∀ H', Nx H' → ∃ m', m' < m ∧ W (i + 1) m' H') ∧ ∀ x H', J.yld i H x H' → R i x H' Nx) := by
  refine ⟨fun i m H => m = n - i ∧ i ≤ n ∧ Pv i H, ⟨n, by simp, Nat.zero_le _, h0⟩, ?_⟩
  rintro i m H ⟨rfl, hi, p⟩
  have q := hG i H hi p
  by_cases hlt : i < n
  · refine .inr ⟨w.goes i H hlt q, Pv (i + 1), fun H' p' => ⟨n - (i + 1), by omega, rfl, hlt, p'⟩, fun x H' y => hs i x H H' hlt p (w.yields i H x H' hlt q y)⟩
  · have e : i = n := by omega
    subst e
    exact .inl ⟨w.stops H q, hd H p⟩
theorem lc2_in {J : It} {n : Nat} {G : Hp → Prop} {Y : Nat → Hp → V → Hp → Prop} (w : Walk J n G Y) {R : Nat → V → Hp → (Hp → Prop) → Prop} {H4 : Hp} {Qd : Hp → Prop} (Pv : Nat → Hp → Prop) (h0 : Pv 0 H4) (hG : ∀ i H, i ≤ n → Pv i H → G H)
    (hs : ∀ i x H H', i < n → Pv i H → Y i H x H' → R i x H' (Pv (i + 1))) (hd : ∀ H, Pv n H → Qd H) :
    ∃ W : Nat → Nat → Hp → Prop, (∃ m, W 0 m H4) ∧ ∀ i m H, W i m H →
      (J.stop i H ∧ Qd H) ∨ (J.go i H ∧ ∃ Nx : Hp → Prop, (∀ H', Nx H' → ∃ m', m' < m ∧ W (i + 1) m' H') ∧ ∀ x H', J.yld i H x H' → R i x H' Nx) := by
  refine ⟨fun i m H => m = n - i ∧ i ≤ n ∧ Pv i H, ⟨n, by simp, Nat.zero_le _, h0⟩, ?_⟩
  rintro i m H ⟨rfl, hi, p⟩
  have q := hG i H hi p
  by_cases hlt : i < n
  · refine .inr ⟨w.goes i H hlt q, Pv (i + 1), fun H' p' => ⟨n - (i + 1), by omega, rfl, hlt, p'⟩, fun x H' y => hs i x H H' hlt p (w.yields i H x H' hlt q y)⟩
  · have e : i = n := by omega
    subst e
    exact .inl ⟨w.stops H q, hd H p⟩
/-! ### ranges with a step -/
theorem y_r3 {tA : TA} {σ : L2.St} {H : Hp} {R : It → Hp → Prop} (q : tA σ H fun vs H1 => ∃ (i j c : Int) (n : Nat), vs = [.int i, .int j, .int c] ∧ RgC i j c n ∧ R (Itc i c n) H1) : iRng3 tA σ H R := q
theorem rgc1 : ∀ L : Fin 61, 4 ≤ L.val → (L.val : Int) ≠ 0 ∧ (L.val : Int).natAbs < 1073741824 ∧ Builtin.Range.small 0 (L.val : Int) (L.val : Int) = true ∧ Builtin.Range.rangeSize 0 (L.val : Int) (L.val : Int) = (1 : Nat) := by decide +kernel
theorem rgc_one {L : Nat} (h4 : 4 ≤ L) (h60 : L ≤ 60) : RgC 0 (L : Int) (L : Int) 1 := rgc1 ⟨L, by omega⟩ h4
theorem flat_strs (nm : List Str) : (nm.map V.str).all flatV = true := by
  rw [List.all_eq_true]
  intro x hx
  obtain ⟨y, _, rfl⟩ := List.mem_map.mp hx
  rfl
theorem inV_strs {z : Str} {nm : List Str} (h : z ∈ nm) : inV (.str z) (nm.map V.str) = true := by
  unfold inV
  rw [List.any_eq_true]
  exact ⟨.str z, List.mem_map.mpr ⟨z, h, rfl⟩, by rw [eqV_str]; exact decide_eq_true rfl⟩
theorem y_inStr {K : PySem.W.Frag} {H : Hp} {Q : VK} {a : Addr} {z : Str} {nm : List Str} (h : H a = some (.lst (nm.map V.str))) (hz : z ∈ nm) (q : Q (.bl true) H) : rInA K (.str z) (.ref a) H Q := y_inL h rfl (flat_strs nm) (by rw [inV_strs hz]; exact q)
theorem y_niStr {K : PySem.W.Frag} {H : Hp} {Q : VK} {a : Addr} {z : Str} {nm : List Str} (h : H a = some (.lst (nm.map V.str))) (hz : z ∈ nm) (q : Q (.bl false) H) : rNotInA K (.str z) (.ref a) H Q := y_niL h rfl (flat_strs nm) (by rw [inV_strs hz]; exact q)
theorem atI_nat {α : Type} {xs : List α} {j : Nat} (h : j < xs.length) : atI xs (j : Int) = xs[j]? := by
  unfold atI ixN
  rw [if_pos (Int.natCast_nonneg j)]
  first
    | (rw [if_pos (by simpa using h)]; simp; done)
    | simp [h]
theorem cutV_whole {xs : List V} {L : Nat} (h : xs.length = L) : cutV xs (some 0) (some (L : Int)) = xs := by
  unfold cutV HT.sIx
  have : ¬ ((xs.length : Int) < 0) := by omega
  simp [← h, this]
/-! ### lists of ints and None: == and != -/
def oV : Option Int → V
  | none => .non
  | some i => .int i
def oD : Option Int → PyData
  | none => .none
  | some i => .int i
theorem dp_all {K : PySem.W.Frag} {H : Hp} : ∀ xs : List (Option Int), DpAll K H (xs.map oV) (xs.map oD)
  | [] => .nil
  | none :: xs => .cons .non (dp_all xs)
  | some i :: xs => .cons (.int i) (dp_all xs)
theorem lay_all : ∀ xs : List (Option Int), PyData.canLayAll0 (xs.map oD) = true ∧ PyData.depthAll (xs.map oD) = 0
  | [] => ⟨by simp only [List.map_nil, PyData.canLayAll0], by simp only [List.map_nil, PyData.depthAll]⟩
  | none :: xs => by
    obtain ⟨h1, h2⟩ := lay_all xs
    constructor
    · simp only [List.map_cons, oD, PyData.canLayAll0, PyData.canLay0, h1, Bool.and_self]
    · simp only [List.map_cons, oD, PyData.depthAll, PyData.depth, h2, Nat.max_self]
  | some i :: xs => by
    obtain ⟨h1, h2⟩ := lay_all xs
    constructor
    · simp only [List.map_cons, oD, PyData.canLayAll0, PyData.canLay0, h1, Bool.and_self]
    · simp only [List.map_cons, oD, PyData.depthAll, PyData.depth, h2, Nat.max_self]
theorem shaped_all (xs : List (Option Int)) : SeqAt.shaped (.list (xs.map oD)) = true := by
  obtain ⟨h1, h2⟩ := lay_all xs
  unfold SeqAt.shaped
  rw [Bool.and_eq_true]
  constructor
  · simp only [PyData.canLay0, h1]
  · simp only [PyData.depth, h2]
    decide
theorem eqv_opt : ∀ xs ys : List (Option Int), PyData.eqvAll (xs.map oD) (ys.map oD) = decide (xs = ys)
  | [], [] => by simp [PyData.eqvAll]
  | [], y :: ys => by simp [PyData.eqvAll]
  | x :: xs, [] => by simp [PyData.eqvAll]
  | x :: xs, y :: ys => by
    have ih := eqv_opt xs ys
    simp only [List.map_cons, PyData.eqvAll, ih]
    cases x <;> cases y <;> simp [oD, PyData.eqv]
    rfl
section
variable {K : PySem.W.Frag} {H : Hp} {Q : VK} {a b : Addr}
theorem y_eqL {xs ys : List (Option Int)} (h : H a = some (.lst (xs.map oV))) (h' : H b = some (.lst (ys.map oV))) (q : Q (.bl (decide (xs = ys))) H) : rEqA K (.ref a) (.ref b) H Q :=
  y_eqD (.lst (SqL.of h) (dp_all xs)) (.lst (SqL.of h') (dp_all ys)) (shaped_all xs) (shaped_all ys) (by rw [PyData.eqv, eqv_opt]; exact q)
theorem y_neL {xs ys : List (Option Int)} (h : H a = some (.lst (xs.map oV))) (h' : H b = some (.lst (ys.map oV))) (q : Q (.bl (!decide (xs = ys))) H) : rNeA K (.ref a) (.ref b) H Q :=
  y_neD (.lst (SqL.of h) (dp_all xs)) (.lst (SqL.of h') (dp_all ys)) (shaped_all xs) (shaped_all ys) (by rw [PyData.eqv, eqv_opt]; exact q)
theorem oV_ints (ns : List Int) : ns.map V.int = (ns.map some).map oV := by rw [List.map_map]; rfl
theorem y_slLs {xs : List V} {lo hi : Option Int} (h : SqL K H a xs) (q : ∀ p, H p = none → Q (.ref p) (upd H p (.lst (cutV xs lo hi)))) : rSlL K (.ref a) lo hi H Q := ⟨a, xs, rfl, h, q⟩
theorem y_rep {xs : List V} {k : Int} (h : H a = some (.lst xs)) (h1 : -(2 ^ 63) ≤ k) (h2 : k < 2 ^ 63) (hl : xs.length * k.toNat ≤ sizeLine) (q : ∀ p, H p = none → Q (.ref p) (upd H p (.lst (List.replicate k.toNat xs).flatten))) : rTimes (.ref a) (.int k) H Q := .inr ⟨a, k, xs, rfl, rfl, h, h1, h2, hl, q⟩
theorem y_popAt {xs : List V} {j : Nat} {y : V} (h : H a = some (.lst xs)) (hj : xs[j]? = some y) (hl : j < 2 ^ 62) (q : Q y (upd H a (.lst (xs.eraseIdx j)))) : rPopAt (.ref a) [.int (j : Nat)] H Q := by
  have hlt : j < xs.length := by
    refine Nat.lt_of_not_le fun z => ?_
    rw [List.getElem?_eq_none z] at hj
    cases hj
  refine ⟨a, xs, (j : Nat), j, y, rfl, rfl, h, by omega, by omega, ?_, hj, q⟩
  unfold seqIndex?
  have n0 : ¬ ((j : Int) < 0) := by omega
  simp [n0, hlt]
theorem rep_one (v : V) : ∀ n, (List.replicate n [v]).flatten = List.replicate n v
  | 0 => rfl
  | n + 1 => by
    rw [List.replicate_succ, List.flatten_cons, rep_one v n]
    rfl
end
theorem y_par3 {i j l : Nat} {ta : TA} {nx : L2.St → Hp → Prop} {rt : VK} {bk ct : L2.St → Hp → Prop} {σ : L2.St} {H : Hp} (q : ta σ H fun vs H1 => ∃ u v w, vs = [u, v, w] ∧ nx (((σ.set i (some u)).set j (some v)).set l (some w)) H1) : tPar3 i j l ta ⟨nx, rt, bk, ct⟩ σ H := q
theorem y_par33 {R : V → V → V → Prop} {a b c : V} (q : R a b c) : ∃ u v w, [a, b, c] = [u, v, w] ∧ R u v w := ⟨a, b, c, rfl, q⟩
theorem y_lstRg {σ : L2.St} {H : Hp} {Q : VK} {te : L2.St → Hp → (Int → Int → Hp → Prop) → Prop} (q : te σ H fun a b H1 => RgOk a b ∧ ∀ q, H1 q = none → Q (.ref q) (upd H1 q (.lst (rgV a b)))) : tLstRg te σ H Q := q
theorem y_rg2 {σ : L2.St} {H : Hp} {ta tb : TE} {R : Int → Int → Hp → Prop} (q : ta σ H fun x H1 => tb σ H1 fun y H2 => ∃ i j, x = .int i ∧ y = .int j ∧ R i j H2) : tRg2 ta tb σ H R := q
theorem y_rg1 {σ : L2.St} {H : Hp} {ta : TE} {R : Int → Int → Hp → Prop} (q : ta σ H fun x H1 => ∃ n, x = .int n ∧ R 0 n H1) : tRg1 ta σ H R := q
theorem y_ints2 {i j : Int} {R : Int → Int → Prop} (q : R i j) : ∃ i' j', V.int i = .int i' ∧ V.int j = .int j' ∧ R i' j' := ⟨i, j, rfl, rfl, q⟩
theorem perm_sorted : ∀ {xs ys : List Int}, List.Perm xs ys → xs.Pairwise (· ≤ ·) → ys.Pairwise (· ≤ ·) → xs = ys
  | [], ys, h, _, _ => (List.Perm.nil_eq h)
  | x :: xs, [], h, _, _ => by
    have := h.length_eq
    simp at this
  | x :: xs, y :: ys, h, hx, hy => by
    have hx' := List.pairwise_cons.mp hx
    have hy' := List.pairwise_cons.mp hy
    have e : x = y := by
      have h1 : x ∈ y :: ys := h.mem_iff.mp List.mem_cons_self
      have h2 : y ∈ x :: xs := h.mem_iff.mpr List.mem_cons_self
      rcases List.mem_cons.mp h1 with a | a
      · exact a
      · rcases List.mem_cons.mp h2 with b | b
        · exact b.symm
        · have := hx'.1 y b
          have := hy'.1 x a
          omega
    subst e
    rw [perm_sorted ((List.perm_cons x).mp h) hx'.2 hy'.2]
theorem y_frz {t : TS} {D : Ends} {σ : L2.St} {H : Hp} {d : Addr} {u : HO} (h : H d = some u) (m : Mut (some u)) (q : ∀ od, t D σ (upd H d (.frz od u))) : tFrz t D σ H := ⟨d, u, h, m, q⟩
theorem y_frzE {t : TE} {σ : L2.St} {H : Hp} {Q : VK} (q : t σ H fun v H' => ∃ d u, v = .ref d ∧ H' d = some u ∧ Mut (some u) ∧ ∀ od, Q v (upd H' d (.frz od u))) : tFrzE t σ H Q := q
theorem y_gotF {H : Hp} {d : Addr} {u : HO} {R : Addr → Obj → HO → Prop} (h : H d = some u) (m : Mut (some u)) (q : ∀ od, R d od u) : ∃ d' u, V.ref d = .ref d' ∧ H d' = some u ∧ Mut (some u) ∧ ∀ od, R d' od u := ⟨d, u, rfl, h, m, q⟩
end Y
/-! YMin: min(xs, key=lambda n: .., default=None). -/
namespace Y
open PySem PySem.Spec PyProof.Rows L2 LamX
/-- one parameter a, else captured names and globals -/
structure LamS1 (sc scope : Scope) (a : Str) : Prop where
  kind : scope.kind = .function
  co : scope.isCoroutine = false
  gen : scope.isGenerator = false
  own : ∀ y ∈ scope.names, y.2 = .local → y.1 = a
  nocell : ∀ y ∈ scope.names, y.2 ≠ .cell
  par : scope.names.lookup a = some .local
  free : ∀ y ∈ scope.names, y.2 = .free → sc.names.lookup y.1 = some .cell ∨ sc.names.lookup y.1 = some .free
def lamS1B (sc scope : Scope) (a : Str) : Bool :=
  decide (scope.kind = .function) && !scope.isCoroutine && !scope.isGenerator && decide (scope.names.lookup a = some .local) && scope.names.all fun y => (!decide (y.2 = .local) || decide (y.1 = a)) && !decide (y.2 = .cell) && (!decide (y.2 = .free) || decide (sc.names.lookup y.1 = some .cell) || decide (sc.names.lookup y.1 = some .free))
theorem lamS1_by {sc scope : Scope} {a : Str} (h : lamS1B sc scope a = true) : LamS1 sc scope a := by
  unfold lamS1B at h
  simp only [Bool.and_eq_true, Bool.or_eq_true, Bool.not_eq_true', decide_eq_true_eq, decide_eq_false_iff_not, List.all_eq_true] at h
  obtain ⟨⟨⟨⟨h1, h2⟩, h3⟩, h5⟩, h4⟩ := h
  refine ⟨h1, h2, h3, fun y hy e => ?_, fun y hy e => (h4 y hy).1.2 e, h5, fun y hy e => ?_⟩
  · rcases (h4 y hy).1.1 with z | z
    · exact absurd e z
    · exact z
  · rcases (h4 y hy).2 with (z | z) | z
    · exact absurd e z
    · exact .inl z
    · exact .inr z
theorem LamS1.has {X : Cx} {scope : Scope} {a : Str} (L : LamS1 X.env.scope scope a) (ok : X.Ok) : ∀ y ∈ scope.names, y.2 = .free → ∃ c, X.env.cells.lookup y.1 = some c := fun y hy e => by
  rcases L.free y hy e with k | k
  · exact ok.has _ (.inl k)
  · exact ok.has _ (.inr k)
/-- the names as the lambda sees them: its parameter in slot i -/
def slot1 (σ : L2.St) (i : Nat) (v : V) : L2.St := σ.set i (some v)
section
variable {X : Cx} {pins : List (Addr × Obj)} {σ : L2.St} {H HZ : Hp} {s s1 : Shared}
theorem lam_start1 {A : Around} {outer : List Env} {E : XK} {scope : Scope} {f c' : Addr} {h₁ : Heap} {tk : Nat} {a : Str} {i : Nat} {v : V} {u : Value} (I : Inv X pins σ H s) (L : LamS1 X.env.scope scope a) (hN : X.N.Nodup) (hi : X.N[i]? = some a) (rv : RelV v u) (e0 : Env0 X.prog X.w X.K X.mg X.base A outer s1 HZ) (hd : A.handled = none)
    (un : Un (frs X.stack) [] H HZ s.heap s1.heap) (hns : h₁.Ns s1.heap.objs.size fun y => ([(a, u)] : List (Str × Value)).reverse.lookup y) (kp : ∀ b o, s1.heap.get? b = some o → h₁.get? b = some o) :
    Inv (lamCx X A outer s1 HZ E scope f c') [] (slot1 σ i v) HZ { s1 with heap := h₁, toks := tk } := by
  have hfree := L.has I.ok
  have cm : ∀ {y c}, (cloFrom X.env.cells scope.names []).lookup y = some c → X.env.cells.lookup y = some c := fun {y c} e => by
    rcases cloFrom_mem (PySem.mem_of_lookup e) with hm | ⟨h1, h2⟩
    · cases hm
    · obtain ⟨c1, hc⟩ := hfree _ h1 rfl
      have hc : X.env.cells.lookup y = some c1 := hc
      have e2 : c = c1 := by
        rw [h2, hc] <;> rfl
      rw [e2]
      exact hc
  have look : ∀ {y}, scope.names.lookup y = some .free → ∃ c, (cloFrom X.env.cells scope.names []).lookup y = some c := fun {y} hl => by
    have hy : (y, NameKind.free) ∈ scope.names := PySem.mem_of_lookup hl
    exact mem_lookup (cloFrom_has (cells := X.env.cells) (acc := []) hy)
  have cellK : ∀ {c : Addr} {v : Option Value}, H c = none → s.heap.IsCell c v → h₁.IsCell c v := fun {c v} n ⟨o, ho, hd⟩ => by
    obtain ⟨sl, q⟩ := un.any ho n (by simp)
    exact ⟨_, kp _ _ q, hd⟩
  have noA : ∀ b : Addr, b ∉ (lamCx X A outer s1 HZ E scope f c').ex := fun b z => absurd (show b ∈ ([] : List Addr) from z) (by simp)
  have hiσ : i < σ.length := by
    rw [I.len]
    exact (List.getElem?_eq_some_iff.mp hi).1
  refine ⟨⟨e0.mod, L.kind, rfl, rfl, Nat.le_refl _, fun y z c e1 e2 => I.ok.inj y z c (cm e1) (cm e2), fun y hy => ?_, fun y c z _ => ?_, fun _ => hd, Around.frames_deeper e0.frames, .inr ⟨rfl, rfl⟩, fun b z => absurd z (noA b), e0.bs, e0.bsz, fun b _ _ => noA b,
      fun b z => absurd z (noA b), e0.funs, e0.frf⟩,
    rfl, e0.bare, Un.kept kp, ⟨_, hns, fun j y v' e1 e2 e3 => ?_⟩, fun y c e => ?_, e0.hok.fresh (Nat.le_refl _), fun y c e => ?_, fun q hq => absurd (show q ∈ ([] : List (Addr × Obj)) ++ [] from hq) (by simp), e0.hok.kept kp, (by unfold slot1; rw [List.length_set]; exact I.len)⟩
  · have hy : scope.names.lookup y = some .cell ∨ scope.names.lookup y = some .free := hy
    rcases hy with hy | hy
    · exact absurd rfl (L.nocell _ (PySem.mem_of_lookup hy))
    · exact look hy
  · have z : false = true := z
    cases z
  · have e3 : Vis scope y := e3
    rcases e3 with k | k | k
    · have ya : y = a := L.own _ (PySem.mem_of_lookup k) rfl
      subst ya
      have hji : j = i := nodup_ix hN e1 hi
      subst hji
      have e2 : (σ.set j (some v))[j]? = some (some v') := e2
      rw [List.getElem?_set_self hiσ] at e2
      cases e2
      exact ⟨u, rv, .inl ⟨k, by simp⟩⟩
    · exact absurd rfl (L.nocell _ (PySem.mem_of_lookup k))
    · have hji : i ≠ j := fun z => by
        subst z
        have e1 : X.N[i]? = some y := e1
        rw [hi] at e1
        cases e1
        have := L.par
        rw [k] at this
        cases this
      have e2 : (σ.set i (some v))[j]? = some (some v') := e2
      rw [List.getElem?_set_ne hji] at e2
      obtain ⟨m, hn, hl⟩ := I.loc
      have hvis : Vis X.env.scope y := (L.free _ (PySem.mem_of_lookup k) rfl).elim (fun k => .inr (.inl k)) (fun k => .inr (.inr k))
      obtain ⟨w', r, q⟩ := hl j y v' e1 e2 hvis
      obtain ⟨c2, h2⟩ := look k
      refine ⟨w', r, .inr ⟨.inr k, c2, h2, ?_⟩⟩
      have c1 := cm h2
      rcases q with ⟨k', _⟩ | ⟨_, c3, e', z⟩
      · have k' : X.env.scope.names.lookup y = some .local := k'
        rcases L.free _ (PySem.mem_of_lookup k) rfl with k2 | k2 <;> rw [show X.env.scope.names.lookup y = _ from k2] at k' <;> cases k'
      · rw [c1] at e'
        cases e'
        exact cellK (I.freeC y _ c1) z
  · obtain ⟨w', z⟩ := I.cell y c (cm e)
    exact ⟨w', cellK (I.freeC y c (cm e)) z⟩
  · obtain ⟨v, o, ho, hd⟩ := I.cell y c (cm e)
    exact un.free c o ho (I.freeC y c (cm e)) (by simp)
/-- the lambda is called with one value -/
theorem lam_call1 {A : Around} {f c' : Addr} {pm ctv : Value} {params : Arguments} {body : Expr} {scope : Scope} {k i : Nat} {a : Str} {v : V} {u : Value} {tb : TE} {Q : VK} (I : Inv X pins σ H s) (L : LamS1 X.env.scope scope a) (hN : X.N.Nodup) (hi : X.N[i]? = some a)
    (hf : s.heap.get? f = some (PySem.W.kla_obj "<lambda>" (X.env.qual ++ "<lambda>") params body scope (cloFrom X.env.cells scope.names []) pm c' ctv)) (hc : H c' = some (CodeO c' (X.env.qual ++ "<lambda>")))
    (hbind : bindArgs (PySem.W.kla_fn "<lambda>" (X.env.qual ++ "<lambda>") params body scope (cloFrom X.env.cells scope.names []) pm (.ref c') ctv) ⟨[u], []⟩ = pure [(a, u)])
    (e0 : Env0 X.prog X.w X.K X.mg X.base A X.stack s H) (hr : Room (k + 1) A) (rv : RelV v u)
    (hbody : ∀ (A' : Around) (outer : List Env) (s : Shared) (H : Hp) (E : XK), Room k (A'.deeper (lamEnv X scope s.heap.objs.size f c')) → PE (lamCx X A' outer s H E scope f c') body tb)
    (ht : tb (slot1 σ i v) H Q) : wpAny (model X.prog X.w) A (call (.ref f) [u]) (fun w s' => CE X.stack X.prog X.w H s Q w s') (fun _ _ => False) s := by
  obtain ⟨⟨oc, vs, t, hoc, hdc, hvc⟩, _, _⟩ := I.hok c' _ hc
  have rc : codeAny (model X.prog X.w) A (.call (.ref f) ⟨[u], []⟩) (CR (L2.CX X.prog X.w) X.stack X.prog X.w H s Q (fun _ _ _ => False)) s := by
    refine PySem.W.kla_callFunE hr.depth hf rfl L.co L.gen rfl ⟨c', oc, vs, t, rfl, hoc, hdc, hvc⟩ ?_
    rw [hbind]
    refine wpAny_pure (wpAny_newFunctionEnv (fun y hy => L.nocell y hy) (fun y hy => by rw [List.mem_singleton.mp hy]; exact L.par) (fun h₁ hns hsb => ⟨I.nolimit.fresh _ hsb, ?_⟩) L.kind)
    show codeAny _ _ (.expr body (lamEnv X scope s.heap.objs.size f c')) _ _
    have kp : ∀ b o, s.heap.get? b = some o → h₁.get? b = some o := fun b o e => hsb.extBut b o (Nat.ne_of_lt (Heap.lt_size e)) (Heap.get?_push_of_some _ e)
    have J : Inv (lamCx X A X.stack s H (fun _ _ _ => False) scope f c') [] (slot1 σ i v) H { s with heap := h₁, toks := s.toks + ([(a, u)] : List (Str × Value)).length } :=
      lam_start1 I L hN hi rv e0 hr.hd Un.refl hns kp
    refine PySem.W.kla_codeExpr (wpAny_mono ((hbody _ _ s H (fun _ _ _ => False) (hr.deeper _)).run [] _ _ H Q J ht) (fun v s' hq => ?_) fun e s' hq => hq)
    obtain ⟨w', H', J', rv, q⟩ := hq
    exact ⟨w', H', J'.os, J'.bare, J'.base, J'.hok, rv, q⟩
  refine wpAny_call (codeAny_mono rc fun r s' hq => ?_)
  cases r with
  | error e =>
    obtain ⟨_, _, _, _, _, _, _, _, _, _, _, _, z⟩ := hq
    exact z.elim
  | ok fl =>
    cases fl with
    | ret u => exact hq
    | next => exact False.elim hq
    | brk => exact False.elim hq
    | cont => exact False.elim hq
end

/-! ### the least of a list by a key -/
theorem argBest_ok (kf : Nat → Int) : ∀ (m j : Nat), j ≤ m → argBest (fun i j => decide (kf i < kf j)) m ≤ m ∧ kf (argBest (fun i j => decide (kf i < kf j)) m) ≤ kf j ∧ (j < argBest (fun i j => decide (kf i < kf j)) m → kf (argBest (fun i j => decide (kf i < kf j)) m) < kf j)
  | 0, j, h => by
    have : j = 0 := by omega
    subst this
    exact ⟨Nat.le_refl _, Int.le_refl _, fun z => absurd z (Nat.not_lt_zero _)⟩
  | m + 1, j, h => by
    unfold argBest
    by_cases hb : kf (m + 1) < kf (argBest (fun i j => decide (kf i < kf j)) m)
    · rw [if_pos (decide_eq_true hb)]
      refine ⟨Nat.le_refl _, ?_, fun z => ?_⟩
      · by_cases e : j = m + 1
        · rw [e]
          exact Int.le_refl _
        · have := argBest_ok kf m j (by omega)
          omega
      · have := argBest_ok kf m j (by omega)
        omega
    · rw [if_neg (by rw [decide_eq_false hb]; exact Bool.false_ne_true)]
      by_cases e : j = m + 1
      · have := argBest_ok kf m m (Nat.le_refl _)
        subst e
        exact ⟨by omega, by omega, fun z => by omega⟩
      · have := argBest_ok kf m j (by omega)
        exact ⟨by omega, this.2⟩
/-- all but the tables stays -/
def SameN (H H' : Hp) : Prop := ExtN H H'
/-- min(xs, key=lambda n: .., default=None): the list is only read from then on; the answer is the first one whose key is the least -/
def tMinLam (T : List (Addr × Str)) (te tb : TE) (i : Nat) : TE := fun σ H Q => te σ H fun x H1 => ∃ (l : Addr) (xs : List V), x = .ref l ∧ H1 l = some (.lst xs) ∧ Tabs T H1 ∧ ∀ (o : Obj) (H2 : Hp), ExtN (upd H1 l (.frz o (.lst xs))) H2 → Tabs T H2 →
  ∃ kf : Nat → Int, (∀ (j : Nat) (v : V), xs[j]? = some v → tb (slot1 σ i v) H2 fun y H3 => y = .int (kf j) ∧ H3 = H2) ∧
    (xs = [] → Q .non H2) ∧ ∀ (j : Nat) (v : V), xs[j]? = some v → (∀ m, m < xs.length → kf j ≤ kf m ∧ (m < j → kf j < kf m)) → Q v H2
theorem y_minlam {T : List (Addr × Str)} {te tb : TE} {i : Nat} {σ : L2.St} {H : Hp} {Q : VK} (q : te σ H fun x H1 => ∃ (l : Addr) (xs : List V), x = .ref l ∧ H1 l = some (.lst xs) ∧ Tabs T H1 ∧ ∀ (o : Obj) (H2 : Hp), ExtN (upd H1 l (.frz o (.lst xs))) H2 → Tabs T H2 →
    ∃ kf : Nat → Int, (∀ (j : Nat) (v : V), xs[j]? = some v → tb (slot1 σ i v) H2 fun y H3 => y = .int (kf j) ∧ H3 = H2) ∧
      (xs = [] → Q .non H2) ∧ ∀ (j : Nat) (v : V), xs[j]? = some v → (∀ m, m < xs.length → kf j ≤ kf m ∧ (m < j → kf j < kf m)) → Q v H2) : tMinLam T te tb i σ H Q := q
theorem tabs_upd {T : List (Addr × Str)} {H : Hp} {l : Addr} {u : HO} (t : Tabs T H) {v : HO} (h : H l = some v) (hv : ∀ ps, v ≠ .tbl ps) (hv2 : ∀ (c : Addr) (q : Str), v ≠ CodeO c q) : Tabs T (upd H l u) := fun p hp => by
  obtain ⟨ps, h1, h2, h3⟩ := t p hp
  refine ⟨ps, ?_, h2, fun pos cv hc => ?_⟩
  · rw [upd_ne (fun z => by rw [z, h] at h1; exact hv ps (Option.some.inj h1))]
    exact h1
  · obtain ⟨c, e1, e2⟩ := h3 pos cv hc
    refine ⟨c, e1, ?_⟩
    rw [upd_ne (fun z => by rw [z, h] at e2; exact hv2 _ _ (Option.some.inj e2))]
    exact e2
/-- untracked records of ours are changed, all else is kept -/
theorem inv_moved {X : Cx} {pins : List (Addr × Obj)} {σ : L2.St} {H : Hp} {s s' : Shared} {ws : List Addr} (I : Inv X pins σ H s) (hws : ∀ b ∈ ws, FpOk X pins H b) (m : Moved ws (fun a b => b = a) s s') : Inv X pins σ H s' := by
  obtain ⟨h', g', d', t', o'⟩ := s'
  obtain ⟨hm, hg, hd, ho, ht⟩ := m
  have hg : g' = s.gens := hg
  have ho : o' = s.os := ho
  subst hg
  subst ho
  have ne : ∀ b u, H b = some u → b ∉ ws := fun b u e z => by
    have := (hws b z).1
    rw [e] at this
    cases this
  refine I.step (g' := s.gens) (d' := d') (t' := t') (ch := ws) (fun b hb => ?_) (fun b o _ _ hc e _ => hm b o hc e) (fun b o _ _ hc e _ => ⟨o.slots, hm b o hc e⟩) (fun _ _ _ _ n => n) (fun b o hc e => ⟨o, hm b o hc e⟩) (fun _ _ e => e) (fun _ _ _ e => e) (fun b ps e => ⟨#[], by rw [e]; simp⟩) (fun m hn => ?_) (fun b u e => ?_) I.bare
  · obtain ⟨f0, f1, f2, f3, f4, f5⟩ := hws b hb
    exact ⟨f3, f1, f4, f5⟩
  · obtain ⟨o, es, ep, ho, r⟩ := hn
    exact ⟨o, es, ep, hm _ o (fun z => (hws _ z).2.1 rfl) ho, r⟩
  · refine (I.hok b u e).stay (fun c v hc q => hm c v ?_ q) (fun _ q => q) fun _ _ q => q
    rcases hc with z | z
    · rw [z]
      exact ne b u e
    · exact ne c _ z
section
variable {X : Cx}
theorem pe_minlam {T : List (Addr × Str)} {c P : Addr} {k i : Nat} {a : Str} {params : Arguments} {body : Expr} {scope : Scope} {e : Expr} {te tb : TE} {p p1 p2 lpos dpos pos : Pos} {jd : Nat}
    (hcalm : X.calm = true) (hg : Gl X "min") (hm : X.mg "min" = none) (he : PE X e te) (TB : TabB X.base X.mg c P) (hcode : X.env.code = .ref c) (hmT : (P, X.env.qual ++ "<lambda>") ∈ T) (hu : ∀ p ∈ T, p.1 = P → p.2 = X.env.qual ++ "<lambda>")
    (hr : Room (k + 2) X.A) (L : LamS1 X.env.scope scope a) (hN : X.N.Nodup) (hi : X.N[i]? = some a) (hdef : defaultsOf params X.env = ([], []))
    (hbind : ∀ (q : Str) (cl : List (Str × Addr)) (pm cv ctv u : Value), bindArgs (PySem.W.kla_fn "<lambda>" q params body scope cl pm cv ctv) ⟨[u], []⟩ = pure [(a, u)])
    (hbody : ∀ (A : Around) (outer : List Env) (s : Shared) (H : Hp) (E : XK) (f c' : Addr), Room k (A.deeper (lamEnv X scope s.heap.objs.size f c')) → PE (lamCx X A outer s H E scope f c') body tb)
    (hs : starEach [e] X.env = (false, eval e X.env) :: starEach [] X.env := by rfl) (hst : backTo pos (starEach [e] X.env) = (false, eval e X.env) :: backTo pos (starEach [] X.env) := by rfl) (hpl : (backTo pos (starEach [e] X.env)).any (·.1) = false := by rfl) :
    PE X (.Call (.Name "min" p) [e] [⟨some "key", .Lambda params body scope lpos, p1⟩, ⟨some "default", .Constant .none jd dpos, p2⟩] pos) (tMinLam T te tb i) := by
  refine ⟨fun pins s σ H Q I h => ?_⟩
  have hv : bootBuiltins "min" = some (.builtin "min") := by decide +kernel
  refine wpAny_Call_Name_kw (ld_blt I hg hm hv ?_ (by decide) (by decide))
  have ha : PA X [e] (tCons te tNil) := pa_cons he pa_nil hs
  refine PyProof.Rows.callWith_kw (thn (ha.run pos pins s σ H (fun vs H1 => match vs with
    | [x] => ∃ (l : Addr) (xs : List V), x = .ref l ∧ H1 l = some (.lst xs) ∧ Tabs T H1 ∧ ∀ (o : Obj) (H2 : Hp), ExtN (upd H1 l (.frz o (.lst xs))) H2 → Tabs T H2 →
        ∃ kf : Nat → Int, (∀ (j : Nat) (v : V), xs[j]? = some v → tb (slot1 σ i v) H2 fun y H3 => y = .int (kf j) ∧ H3 = H2) ∧
          (xs = [] → Q .non H2) ∧ ∀ (j : Nat) (v : V), xs[j]? = some v → (∀ m, m < xs.length → kf j ≤ kf m ∧ (m < j → kf j < kf m)) → Q v H2
    | _ => False) I h) fun us s1 ⟨vs, H1, I1, r1, q1⟩ => ?_) hst hpl rfl rfl
  match vs, r1, q1 with
  | [x], r1, ⟨l, xs, ex, hl, hT, q⟩ =>
  subst ex
  obtain ⟨ul, rfl, rl⟩ := vals1 r1
  obtain rfl : ul = Value.ref l := rl
  obtain ⟨od, I2⟩ := I1.lock hl (True.intro : Mut (some (.lst xs)))
  have T2 : Tabs T (upd H1 l (.frz od (.lst xs))) := tabs_upd hT hl (fun ps z => by cases z) (fun c q z => by unfold CodeO at z; cases z)
  refine wpAny_evalAll_cons (wpAny_bind ?_)
  refine lam_make2 (T := T) I2 TB hcode hmT hu T2 hdef (L.has I2.ok) fun f c' pm ctv H2 s2 I3 eN T3 hf hfn hfr hco => ?_
  refine wpAny_bind (wpAny_standAt (wpAny_pure ?_))
  refine wpAny_evalAll_cons (wpAny_bind (PyProof.Rows.Constant_none (wpAny_bind (wpAny_standAt (wpAny_pure (wpAny_evalAll_nil ?_))))))
  obtain ⟨kf, hk, h0, hb⟩ := q od H2 eN T3
  have I4 := I3
  show wpAny _ _ (call (.builtin "min") [.ref l] [(Str.ofString "key", .ref f), (Str.ofString "default", .none)]) _ _ _
  have hl2 : H2 l = some (.frz od (.lst xs)) := eN _ _ upd_same (fun ps z => by cases z)
  obtain ⟨gl, gz, its, nl, rvs, gd⟩ := (show ObjOk X.prog X.w H2 s2.heap l (.frz od (.lst xs)) from I4.hok l _ hl2)
  have ed : od = { cls := .type "list", data := .seq its.toArray nl } := by
    rw [gl] at gd
    exact Option.some.inj gd
  have hlist : ∀ s' : Shared, Inv X pins σ H2 s' → s'.heap.IsList l its.toArray := fun s' J => by
    have := (show ObjOk X.prog X.w H2 s'.heap l (.frz od (.lst xs)) from J.hok l _ hl2).1
    rw [ed] at this
    exact ⟨_, this, rfl, nl, rfl⟩
  have hll : l < s2.heap.objs.size := Heap.lt_size gl
  have hff : f < s2.heap.objs.size := Heap.lt_size hf
  have nI : H2 s2.heap.objs.size = none := I3.hok.fresh (Nat.le_refl _)
  have nS : H2 (s2.heap.objs.size + 1) = none := I3.hok.fresh (Nat.le_succ _)
  have fI := I3.fpOk (H' := H2) (Nat.le_refl _) nI
  have fS := I3.fpOk (H' := H2) (Nat.le_succ _) nS
  have hws : ∀ b ∈ [s2.heap.objs.size + 1, s2.heap.objs.size], FpOk X pins H2 b := fun b hb => by
    rcases List.mem_cons.mp hb with e | e
    · rw [e]
      exact fS
    · rw [List.mem_singleton.mp e]
      exact fI
  have frI : ∀ {b : Addr}, FpOk X pins H2 b → ∀ {s' : Shared}, Inv X pins σ H2 s' → b ∉ frs X.stack := fun fp s' J z => by
    rcases List.mem_cons.mp (J.stkSub _ z) with e | e
    · exact fp.2.1 e
    · exact fp.2.2.1 e
  have hlen : xs.length = its.length := rvs.length
  refine call_min_walkKD ?_
  refine wpAny_pyIter_list (hlist s2 I3) ?_
  have hsz : (s2.heap.push { cls := .type "list_iterator", data := .fields #[.ref l, .int 0 0] }).objs.size = s2.heap.objs.size + 1 := Heap.size_push ..
  have kp : ∀ b o, s2.heap.get? b = some o → (s2.heap.push { cls := .type "list_iterator", data := .fields #[.ref l, .int 0 0] }).get? b = some o := fun b o e => Heap.get?_push_of_some _ e
  have W := (Walks.list (prog := X.prog) (w := X.w) (A := X.A.in1) (I3.ok.hd hcalm) s2.heap.objs.size l (Nat.ne_of_lt hll) its.toArray).toS
  refine ⟨s2.heap.objs.size, [s2.heap.objs.size, l], [s2.heap.objs.size], _, _, _, _, fun s' => Inv X pins σ H2 s' ∧ s'.heap.get? f = some (PySem.W.kla_obj "<lambda>" (X.env.qual ++ "<lambda>") params body scope (cloFrom X.env.cells scope.names []) pm c' ctv), fun i k _ => ∃ t, k = .int (kf i) t, fun i j => decide (kf i < kf j), rfl, W, ?_, ?_, ?_, ?_, ?_, ?_⟩
  · exact ⟨⟨_, Heap.get?_push_size _ rfl, rfl, rfl⟩, by
      obtain ⟨o, a1, a2, a3⟩ := hlist s2 I3
      exact ⟨o, kp _ _ a1, a2, a3⟩⟩
  · intro b hb
    rw [hsz]
    rcases List.mem_cons.mp hb with e | e
    · rw [e]
      exact Nat.lt_succ_self _
    · rw [List.mem_singleton.mp e]
      exact Nat.lt_succ_of_lt hll
  · rw [hsz]
    refine ⟨fun s3 s4 J m => ⟨inv_moved J.1 hws m, m.heap f _ (fun z => ?_) J.2⟩, fun _ _ _ _ h _ => h, fun j v s3 o Q' E' hj hP J st hS k2 => ?_, fun j j2 ki kj s3 Q' E' _ h1 h2 h3 => ?_⟩
    · rcases List.mem_cons.mp z with e | e
      · rw [e] at hff
        exact absurd hff (Nat.not_lt.mpr (Nat.le_succ _))
      · rw [List.mem_singleton.mp e] at hff
        exact Nat.lt_irrefl _ hff
    · have hj' : j < its.length := by simpa using hj
      have hx := List.getElem?_eq_getElem (show j < xs.length by omega)
      obtain ⟨u, hu, ru⟩ := rvs.get hx
      have hP' : its[j]? = some v := by simpa using hP
      rw [hu] at hP'
      obtain rfl : u = v := Option.some.inj hP'
      have hc4 : H2 c' = some (CodeO c' (X.env.qual ++ "<lambda>")) := hco
      refine wpAny_mono (lam_call1 (k := k) J.1 L hN hi J.2 hc4 (hbind _ _ _ _ _ _) J.1.env0.in1 (hr.in1) ru (fun A' outer s5 H5 E5 hr5 => hbody A' outer s5 H5 E5 f c' hr5) (hk j _ hx)) (fun w s4 hq => ?_) fun _ _ z => z.elim
      obtain ⟨y, H', os, bare, un, hok, ry, ey, eH⟩ := hq
      subst ey
      subst eH
      have J4 := J.1.call' (ch := []) os un hok bare (fun b z => absurd z (by simp))
      obtain ⟨t, rfl⟩ := ry
      refine k2 _ _ ⟨J4, un.keep _ _ J.2 hfn hfr (by simp)⟩ ⟨?_, hlist _ J4⟩ (un.keep _ _ hS nS (frI fS J.1) (by simp)) ⟨t, rfl⟩ fun _ _ h => h
      obtain ⟨oi, g1, g2, g3⟩ := st.1
      exact ⟨oi, un.keep _ _ g1 nI (frI fI J.1) (by simp), g2, g3⟩
    · exact CmpOf.ints_lt (P := fun i v => ∃ t, v = .int (kf i) t) kf (fun i v h => h) j j2 _ _ _ _ _ h1 h2 h3
  · exact ⟨I3.kept kp, kp _ _ hf⟩
  · intro hn s3 J
    have : xs = [] := by
      have : its.length = 0 := by simpa using hn
      rw [this] at hlen
      exact List.length_eq_zero_iff.mp hlen
    exact ⟨.non, H2, J.1, rfl, h0 this⟩
  · intro hn v s3 hP J
    have hn' : 0 < its.length := by simpa using hn
    have hb2 := argBest_ok kf (its.toArray.size - 1)
    generalize argBest (fun i j => decide (kf i < kf j)) (its.toArray.size - 1) = m at hb2 hP
    have hsz2 : its.toArray.size = its.length := List.size_toArray ..
    have hm : m < xs.length := by
      have := (hb2 0 (Nat.zero_le _)).1
      omega
    have hx := List.getElem?_eq_getElem hm
    obtain ⟨u, hu, ru⟩ := rvs.get hx
    have hP' : its[m]? = some v := by simpa using hP
    rw [hu] at hP'
    obtain rfl : u = v := Option.some.inj hP'
    exact ⟨_, H2, J.1, ru, hb m _ hx fun m2 hm2 => (hb2 m2 (by omega)).2⟩
end
end Y
/-! Mathematics of the dealing of turns: tickets, their order, the latest turns. Plain Lean. -/
namespace Deal

/-- how many turns another guest (tp, tc) has ahead of the turn number k of one with (sp, sc); e: the other one stands earlier -/
def aheadP (sp tp : Nat) (e : Bool) (k : Nat) : Nat := min tp (if e then k * tp / sp + 1 else (k * tp + sp - 1) / sp)
def ahead (sp tp tc : Nat) (e : Bool) (k : Nat) : Nat :=
  if k < sp then aheadP sp tp e k else min tc (max tp (k + if e then 1 else 0))

/-- ticket x of a guest (tp, tc) goes ahead of ticket k of (sp, sc); e: the first stands earlier -/
def goes (sp tp : Nat) (e : Bool) (k x : Nat) : Prop :=
  (x < tp ∧ (sp ≤ k ∨ x * sp < k * tp ∨ (x * sp = k * tp ∧ e = true))) ∨ (tp ≤ x ∧ sp ≤ k ∧ (x < k ∨ (x = k ∧ e = true)))

theorem div_lt_ceil {a b x : Nat} (hb : 0 < b) : x < (a + b - 1) / b ↔ x * b < a := by
  rw [Nat.lt_iff_add_one_le, Nat.le_div_iff_mul_le hb, Nat.add_mul]
  omega
theorem lt_div_succ {a b x : Nat} (hb : 0 < b) : x < a / b + 1 ↔ x * b ≤ a := by
  rw [Nat.lt_succ_iff, Nat.le_div_iff_mul_le hb]

theorem ahead_iff {sp tp tc : Nat} {e : Bool} {k x : Nat} (hx : x < tc) : x < ahead sp tp tc e k ↔ goes sp tp e k x := by
  unfold ahead goes
  by_cases hk : k < sp
  · rw [if_pos hk]
    unfold aheadP
    have hsp : 0 < sp := by omega
    rw [Nat.lt_min]
    cases e with
    | true =>
      rw [if_pos rfl, lt_div_succ hsp]
      constructor
      · rintro ⟨h1, h2⟩
        refine Or.inl ⟨h1, Or.inr ?_⟩
        rcases Nat.lt_or_eq_of_le h2 with h | h
        · exact Or.inl h
        · exact Or.inr ⟨h, rfl⟩
      · rintro (⟨h1, h2 | h2 | h2⟩ | ⟨h1, h2, h3⟩)
        · omega
        · exact ⟨h1, Nat.le_of_lt h2⟩
        · exact ⟨h1, Nat.le_of_eq h2.1⟩
        · omega
    | false =>
      rw [if_neg (by simp), div_lt_ceil hsp]
      constructor
      · rintro ⟨h1, h2⟩
        exact Or.inl ⟨h1, Or.inr (Or.inl h2)⟩
      · rintro (⟨h1, h2 | h2 | h2⟩ | ⟨h1, h2, h3⟩)
        · omega
        · exact ⟨h1, h2⟩
        · exact absurd h2.2 (by simp)
        · omega
  · rw [if_neg hk]
    rw [Nat.lt_min]
    cases e with
    | true =>
      rw [if_pos rfl]
      show x < tc ∧ x < max tp (k + 1) ↔ _
      simp only [and_true]
      omega
    | false =>
      rw [if_neg (by simp)]
      simp only [Bool.false_eq_true, and_false, or_false]
      omega

theorem ahead_le {sp tp tc : Nat} {e : Bool} {k : Nat} (h : tp ≤ tc) : ahead sp tp tc e k ≤ tc := by
  unfold ahead aheadP
  split
  · exact Nat.le_trans (Nat.min_le_left _ _) h
  · exact Nat.min_le_left _ _

/-- a/p < b/q ≤ c/r -/
theorem frac_lt {a b c p q r : Nat} (hq : 0 < q) (hr : 0 < r) (h1 : a * q < b * p) (h2 : b * r ≤ c * q) : a * r < c * p := by
  have e1 : a * q * r < b * p * r := Nat.mul_lt_mul_of_pos_right h1 hr
  have e2 : b * r * p ≤ c * q * p := Nat.mul_le_mul_right _ h2
  have e3 : a * r * q < c * p * q := by
    have x1 : a * r * q = a * q * r := Nat.mul_right_comm _ _ _
    have x2 : b * p * r = b * r * p := Nat.mul_right_comm _ _ _
    have x3 : c * p * q = c * q * p := Nat.mul_right_comm _ _ _
    omega
  exact Nat.lt_of_mul_lt_mul_right e3

theorem goes_total {sp tp : Nat} {e : Bool} {k x : Nat} (h : ¬ goes sp tp e k x) : goes tp sp (!e) x k := by
  unfold goes at *
  have h1 : ¬ (x < tp ∧ (sp ≤ k ∨ x * sp < k * tp ∨ (x * sp = k * tp ∧ e = true))) := fun z => h (Or.inl z)
  have h2 : ¬ (tp ≤ x ∧ sp ≤ k ∧ (x < k ∨ (x = k ∧ e = true))) := fun z => h (Or.inr z)
  by_cases hx : x < tp
  · have h3 : ¬ (sp ≤ k) := fun z => h1 ⟨hx, Or.inl z⟩
    have h4 : ¬ (x * sp < k * tp) := fun z => h1 ⟨hx, Or.inr (Or.inl z)⟩
    have h5 : ¬ (x * sp = k * tp ∧ e = true) := fun z => h1 ⟨hx, Or.inr (Or.inr z)⟩
    refine Or.inl ⟨by omega, Or.inr ?_⟩
    by_cases h6 : x * sp = k * tp
    · refine Or.inr ⟨h6.symm, ?_⟩
      cases e with
      | true => exact absurd ⟨h6, rfl⟩ h5
      | false => rfl
    · exact Or.inl (by omega)
  · by_cases hk : k < sp
    · exact Or.inl ⟨hk, Or.inl (by omega)⟩
    · refine Or.inr ⟨by omega, by omega, ?_⟩
      by_cases h6 : x = k
      · refine Or.inr ⟨h6.symm, ?_⟩
        cases e with
        | true => exact absurd ⟨by omega, by omega, Or.inr ⟨h6, rfl⟩⟩ h2
        | false => rfl
      · refine Or.inl ?_
        by_cases h7 : x < k
        · exact absurd ⟨by omega, by omega, Or.inl h7⟩ h2
        · omega
theorem goes_asymm {sp tp : Nat} {e : Bool} {k x : Nat} (h : goes sp tp e k x) : ¬ goes tp sp (!e) x k := by
  unfold goes at *
  rintro (⟨h1, h2⟩ | ⟨h1, h2, h3⟩)
  · rcases h with ⟨g1, g2⟩ | ⟨g1, g2, g3⟩
    · rcases g2 with g | g | g
      · omega
      · rcases h2 with z | z | z <;> omega
      · rcases h2 with z | z | z
        · omega
        · omega
        · have h1 := g.2
          have h2 := z.2
          rw [h1] at h2
          exact Bool.noConfusion h2
    · omega
  · rcases h with ⟨g1, g2⟩ | ⟨g1, g2, g3⟩
    · omega
    · rcases h3 with h3 | h3
      · rcases g3 with z | z <;> omega
      · rcases g3 with z | z
        · omega
        · have h1 := z.2
          have h2 := h3.2
          rw [h1] at h2
          exact Bool.noConfusion h2

theorem ahead_mono {sp tp tc : Nat} {e : Bool} {k k' : Nat} (ht : tp ≤ tc) (h : k ≤ k') : ahead sp tp tc e k ≤ ahead sp tp tc e k' := by
  unfold ahead
  by_cases h1 : k < sp
  · rw [if_pos h1]
    by_cases h2 : k' < sp
    · rw [if_pos h2]
      unfold aheadP
      have m : k * tp ≤ k' * tp := Nat.mul_le_mul_right _ h
      have m1 : k * tp / sp ≤ k' * tp / sp := Nat.div_le_div_right m
      have m2 : (k * tp + sp - 1) / sp ≤ (k' * tp + sp - 1) / sp := Nat.div_le_div_right (by omega)
      cases e
      · simp only [Bool.false_eq_true, if_false]
        omega
      · simp only [if_true]
        omega
    · rw [if_neg h2]
      unfold aheadP
      refine Nat.le_trans (Nat.min_le_left _ _) ?_
      rw [Nat.le_min]
      exact ⟨ht, Nat.le_max_left _ _⟩
  · rw [if_neg h1, if_neg (show ¬ k' < sp by omega)]
    cases e
    · simp only [Bool.false_eq_true, if_false]
      omega
    · simp only [if_true]
      omega

/-! ### sums -/
def sumTo (f : Nat → Nat) : Nat → Nat
  | 0 => 0
  | n + 1 => sumTo f n + f n
theorem sumTo_le {f g : Nat → Nat} : ∀ {n : Nat}, (∀ j, j < n → f j ≤ g j) → sumTo f n ≤ sumTo g n
  | 0, _ => Nat.le_refl _
  | n + 1, h => Nat.add_le_add (sumTo_le fun j hj => h j (by omega)) (h n (by omega))
theorem sumTo_congr {f g : Nat → Nat} : ∀ {n : Nat}, (∀ j, j < n → f j = g j) → sumTo f n = sumTo g n
  | 0, _ => rfl
  | n + 1, h => by
    unfold sumTo
    rw [sumTo_congr (n := n) fun j hj => h j (by omega), h n (by omega)]
/-- one place taken out -/
theorem sumTo_at {f : Nat → Nat} {i : Nat} : ∀ {n : Nat}, i < n → sumTo f n = f i + sumTo (fun j => if j = i then 0 else f j) n
  | 0, h => absurd h (Nat.not_lt_zero _)
  | n + 1, h => by
    unfold sumTo
    by_cases e : i = n
    · subst e
      have : sumTo (fun j => if j = i then 0 else f j) i = sumTo f i := sumTo_congr fun j hj => by
        show (if j = i then 0 else f j) = f j
        rw [if_neg (by omega)]
      rw [this, if_pos rfl]
      omega
    · have h2 : i < n := by omega
      rw [sumTo_at (f := f) (n := n) h2]
      show _ = f i + (sumTo (fun j => if j = i then 0 else f j) n + (if n = i then 0 else f n))
      rw [if_neg (show ¬ n = i from fun z => e z.symm)]
      omega

/-! ### the case -/
structure Ok (n L : Nat) (p c : Nat → Nat) : Prop where
  pc : ∀ i, i < n → p i ≤ c i
  one : ∀ i, i < n → 1 ≤ c i
  cL : ∀ i, i < n → c i ≤ L
  sum : sumTo p n ≤ L

def A (p c : Nat → Nat) (i k j : Nat) : Nat := ahead (p i) (p j) (c j) (decide (j < i)) k
/-- the latest turn (from 1 on) of the ticket k of guest i -/
def T (n : Nat) (p c : Nat → Nat) (i k : Nat) : Nat := k + 1 + sumTo (fun j => if j = i then 0 else A p c i k j) n

theorem T_lt {n L : Nat} {p c : Nat → Nat} (O : Ok n L p c) {i k k' : Nat} (h : k < k') : T n p c i k < T n p c i k' := by
  unfold T
  have : sumTo (fun j => if j = i then 0 else A p c i k j) n ≤ sumTo (fun j => if j = i then 0 else A p c i k' j) n := sumTo_le fun j hj => by
    show (if j = i then 0 else A p c i k j) ≤ (if j = i then 0 else A p c i k' j)
    split
    · exact Nat.le_refl _
    · exact ahead_mono (O.pc j hj) (by omega)
  omega
theorem T_le {n L : Nat} {p c : Nat → Nat} (O : Ok n L p c) {i k k' : Nat} (h : k ≤ k') : T n p c i k ≤ T n p c i k' := by
  rcases Nat.lt_or_eq_of_le h with z | z
  · exact Nat.le_of_lt (T_lt O z)
  · rw [z]
    exact Nat.le_refl _
theorem T_ge (n : Nat) (p c : Nat → Nat) (i k : Nat) : k + 1 ≤ T n p c i k := by
  unfold T
  omega
theorem T_promise {n L : Nat} {p c : Nat → Nat} (O : Ok n L p c) {i k : Nat} (hi : i < n) (hk : k < p i) : T n p c i k ≤ L := by
  unfold T
  have h1 := sumTo_at (f := p) hi
  have h2 : sumTo (fun j => if j = i then 0 else A p c i k j) n ≤ sumTo (fun j => if j = i then 0 else p j) n := sumTo_le fun j hj => by
    show (if j = i then 0 else A p c i k j) ≤ (if j = i then 0 else p j)
    split
    · exact Nat.le_refl _
    · unfold A ahead
      rw [if_pos hk]
      unfold aheadP
      exact Nat.min_le_left _ _
  have h3 := O.sum
  omega

/-! ### the dealing when all are ready -/
/-- who gets a turn, by the turns u that were used -/
def Best (n : Nat) (p c u : Nat → Nat) : Option Nat → Prop
  | none => ∀ j, j < n → c j ≤ u j
  | some b => b < n ∧ u b < c b ∧ ∀ j, j < n → j ≠ b → u j < c j → goes (p j) (p b) (decide (b < j)) (u j) (u b)

/-- the turns, from 1 on, at which i got one -/
def got : List (Option Nat) → Nat → Nat → List Nat
  | [], _, _ => []
  | x :: r, t, i => if x = some i then (t + 1) :: got r (t + 1) i else got r (t + 1) i
theorem got_app : ∀ (d e : List (Option Nat)) (t i : Nat), got (d ++ e) t i = got d t i ++ got e (t + d.length) i
  | [], e, t, i => by simp [got]
  | x :: r, e, t, i => by
    show (if x = some i then (t + 1) :: got (r ++ e) (t + 1) i else got (r ++ e) (t + 1) i) = _
    rw [got_app r e (t + 1) i, List.length_cons, show t + 1 + r.length = t + (r.length + 1) by omega]
    show _ = (if x = some i then (t + 1) :: got r (t + 1) i else got r (t + 1) i) ++ _
    split <;> simp
theorem got_snoc (d : List (Option Nat)) (x : Option Nat) (i : Nat) : got (d ++ [x]) 0 i = if x = some i then got d 0 i ++ [d.length + 1] else got d 0 i := by
  rw [got_app]
  simp only [got, Nat.zero_add]
  split <;> simp
def cnt (d : List (Option Nat)) (i : Nat) : Nat := (got d 0 i).length
theorem cnt_snoc (d : List (Option Nat)) (x : Option Nat) (i : Nat) : cnt (d ++ [x]) i = if x = some i then cnt d i + 1 else cnt d i := by
  unfold cnt
  rw [got_snoc]
  split <;> simp

structure Good (n : Nat) (p c : Nat → Nat) (d : List (Option Nat)) : Prop where
  le : ∀ i, i < n → cnt d i ≤ c i
  closed : ∀ i, i < n → ∀ k, k < cnt d i → ∀ j, j < n → j ≠ i → ∀ x, x < c j → goes (p i) (p j) (decide (j < i)) k x → x < cnt d j
  turns : ∀ i, i < n → got d 0 i = (List.range (cnt d i)).map (T n p c i)
  total : sumTo (cnt d) n = d.length ∨ (∀ i, i < n → c i ≤ cnt d i)
  perm : List.Perm ((List.range n).flatMap (got d 0)) ((List.range (sumTo (cnt d) n)).map (· + 1))
  names : ∀ i, some i ∈ d → i < n

theorem flip {a b : Nat} (h : a ≠ b) : (!decide (a < b)) = decide (b < a) := by
  by_cases h1 : a < b
  · rw [decide_eq_true h1, decide_eq_false (by omega)]
    rfl
  · rw [decide_eq_false h1, decide_eq_true (by omega)]
    rfl

theorem sumTo_zero : ∀ n : Nat, sumTo (fun _ => 0) n = 0
  | 0 => rfl
  | n + 1 => by
    unfold sumTo
    rw [sumTo_zero n]

theorem good_nil (n : Nat) (p c : Nat → Nat) : Good n p c [] where
  le := fun i _ => Nat.zero_le _
  closed := fun i _ k hk => absurd hk (Nat.not_lt_zero _)
  turns := fun i _ => rfl
  total := Or.inl (sumTo_zero n)
  perm := by
    have e : sumTo (cnt []) n = 0 := sumTo_zero n
    rw [e]
    have : (List.range n).flatMap (got [] 0) = [] := by
      rw [List.flatMap_eq_nil_iff]
      intro x _
      rfl
    rw [this]
    exact List.Perm.refl _
  names := fun i h => by cases h

/-- what the tickets ahead of the next one of b are: all that were dealt -/
theorem at_best {n : Nat} {p c : Nat → Nat} {d : List (Option Nat)} (pc : ∀ i, i < n → p i ≤ c i) (G : Good n p c d) {b : Nat} (hb : Best n p c (cnt d) (some b)) : ∀ j, j < n → j ≠ b → A p c b (cnt d b) j = cnt d j := by
  obtain ⟨hn, hc, hm⟩ := hb
  intro j hj hne
  refine Nat.le_antisymm ?_ ?_
  · -- none of j's next tickets goes ahead
    by_cases hl : A p c b (cnt d b) j ≤ cnt d j
    · exact hl
    · have h1 : cnt d j < A p c b (cnt d b) j := by omega
      have h2 : A p c b (cnt d b) j ≤ c j := ahead_le (pc j hj)
      have h3 : cnt d j < c j := by omega
      have h4 := (ahead_iff h3).mp h1
      have h5 := hm j hj hne h3
      have h6 := goes_asymm h5
      rw [flip (fun z => hne z.symm)] at h6
      exact absurd h4 h6
  · -- all of j's dealt tickets went ahead
    by_cases h0 : cnt d j = 0
    · omega
    · have hx : cnt d j - 1 < c j := by
        have := G.le j hj
        omega
      have h1 : ¬ goes (p j) (p b) (decide (b < j)) (cnt d j - 1) (cnt d b) := fun z => by
        have := G.closed j hj (cnt d j - 1) (by omega) b hn (fun e => hne e.symm) (cnt d b) hc z
        omega
      have h2 := goes_total h1
      rw [flip (fun z => hne z.symm)] at h2
      have h3 := (ahead_iff hx).mpr h2
      unfold A
      omega

theorem T_best {n : Nat} {p c : Nat → Nat} {d : List (Option Nat)} (pc : ∀ i, i < n → p i ≤ c i) (G : Good n p c d) {b : Nat} (hb : Best n p c (cnt d) (some b)) : T n p c b (cnt d b) = sumTo (cnt d) n + 1 := by
  have h := at_best pc G hb
  unfold T
  have e : sumTo (fun j => if j = b then 0 else A p c b (cnt d b) j) n = sumTo (fun j => if j = b then 0 else cnt d j) n := sumTo_congr fun j hj => by
    show (if j = b then 0 else _) = (if j = b then 0 else _)
    split
    · rfl
    · rename_i hne
      exact h j hj hne
  rw [e, sumTo_at (f := cnt d) hb.1]
  omega

theorem perm_step {f g : Nat → List Nat} {b y : Nat} : ∀ {n : Nat}, b < n → (∀ i, i ≠ b → g i = f i) → g b = f b ++ [y] → List.Perm ((List.range n).flatMap g) ((List.range n).flatMap f ++ [y])
  | 0, h, _, _ => absurd h (Nat.not_lt_zero _)
  | n + 1, h, h1, h2 => by
    rw [List.range_succ, List.flatMap_append, List.flatMap_append]
    by_cases e : b = n
    · subst e
      have : (List.range b).flatMap g = (List.range b).flatMap f := by
        rw [List.flatMap_def, List.flatMap_def]
        congr 1
        refine List.map_congr_left fun i hi => h1 i ?_
        have := List.mem_range.mp hi
        omega
      rw [this]
      simp only [List.flatMap_cons, List.flatMap_nil, List.append_nil]
      rw [h2, List.append_assoc]
    · have ih := perm_step (n := n) (by omega) h1 h2
      simp only [List.flatMap_cons, List.flatMap_nil, List.append_nil]
      rw [h1 n (fun z => e z.symm)]
      refine (List.Perm.append_right _ ih).trans ?_
      rw [List.append_assoc, List.append_assoc]
      exact List.Perm.append_left _ List.perm_append_comm

theorem sumTo_cnt_snoc {n : Nat} {d : List (Option Nat)} {b : Nat} (hb : b < n) : sumTo (cnt (d ++ [some b])) n = sumTo (cnt d) n + 1 := by
  rw [sumTo_at (f := cnt (d ++ [some b])) hb, sumTo_at (f := cnt d) hb, cnt_snoc, if_pos rfl]
  have : sumTo (fun j => if j = b then 0 else cnt (d ++ [some b]) j) n = sumTo (fun j => if j = b then 0 else cnt d j) n := sumTo_congr fun j _ => by
    show (if j = b then 0 else _) = (if j = b then 0 else _)
    split
    · rfl
    · rename_i hne
      rw [cnt_snoc, if_neg (fun z => hne (Option.some.inj z).symm)]
  omega

theorem good_snoc {n : Nat} {p c : Nat → Nat} {d : List (Option Nat)} (pc : ∀ i, i < n → p i ≤ c i) (G : Good n p c d) {x : Option Nat} (hb : Best n p c (cnt d) x) : Good n p c (d ++ [x]) := by
  cases x with
  | none =>
    have e : ∀ i, cnt (d ++ [none]) i = cnt d i := fun i => by
      rw [cnt_snoc, if_neg (fun z => nomatch z)]
    have e2 : ∀ i, got (d ++ [none]) 0 i = got d 0 i := fun i => by
      rw [got_snoc, if_neg (fun z => nomatch z)]
    have e3 : cnt (d ++ [none]) = cnt d := funext e
    have e4 : got (d ++ [none]) 0 = got d 0 := funext e2
    refine ⟨fun i hi => by rw [e]; exact G.le i hi, fun i hi k hk j hj hne x hx hg => ?_, fun i hi => by rw [e, e2]; exact G.turns i hi, Or.inr fun i hi => by rw [e]; exact hb i hi, by rw [e3, e4]; exact G.perm, fun i hi => ?_⟩
    · rw [e] at hk ⊢
      exact G.closed i hi k hk j hj hne x hx hg
    · rcases List.mem_append.mp hi with h | h
      · exact G.names i h
      · simp at h
  | some b =>
    obtain ⟨hn, hc, hm⟩ := id hb
    have hA := at_best pc G hb
    have hT := T_best pc G hb
    have eb : cnt (d ++ [some b]) b = cnt d b + 1 := by rw [cnt_snoc, if_pos rfl]
    have eo : ∀ i, i ≠ b → cnt (d ++ [some b]) i = cnt d i := fun i hi => by
      rw [cnt_snoc, if_neg (fun z => hi (Option.some.inj z).symm)]
    have hs : sumTo (cnt d) n = d.length := by
      rcases G.total with h | h
      · exact h
      · have := h b hn
        omega
    refine ⟨fun i hi => ?_, fun i hi k hk j hj hne x hx hg => ?_, fun i hi => ?_, Or.inl ?_, ?_, fun i hi => ?_⟩
    · by_cases e : i = b
      · subst e
        rw [eb]
        omega
      · rw [eo i e]
        exact G.le i hi
    · by_cases e : i = b
      · subst e
        rw [eo j hne]
        rw [eb] at hk
        by_cases hk2 : k < cnt d i
        · exact G.closed i hi k hk2 j hj hne x hx hg
        · have : k = cnt d i := by omega
          subst this
          have h1 := (ahead_iff hx).mpr hg
          have h2 := hA j hj hne
          unfold A at h2
          omega
      · rw [eo i e] at hk
        have h1 := G.closed i hi k hk j hj hne x hx hg
        by_cases e2 : j = b
        · subst e2
          rw [eb]
          omega
        · rw [eo j e2]
          exact h1
    · by_cases e : i = b
      · subst e
        rw [got_snoc, if_pos rfl, eb, List.range_succ, List.map_append, ← G.turns i hi, List.map_cons, List.map_nil, hT, hs]
      · rw [got_snoc, if_neg (fun z => e (Option.some.inj z).symm), eo i e]
        exact G.turns i hi
    · rw [sumTo_cnt_snoc hn, hs, List.length_append]
      rfl
    · rw [sumTo_cnt_snoc hn, List.range_succ, List.map_append]
      refine (perm_step (f := got d 0) (y := d.length + 1) hn (fun i hi => ?_) ?_).trans ?_
      · rw [got_snoc, if_neg (fun z => hi (Option.some.inj z).symm)]
      · rw [got_snoc, if_pos rfl]
      · rw [List.map_cons, List.map_nil, hs]
        rw [← hs]
        exact List.Perm.append_right _ G.perm
    · rcases List.mem_append.mp hi with h | h
      · exact G.names i h
      · have : i = b := by simpa using h
        rw [this]
        exact hn

/-- behind a whole stretch: whose turns came -/
theorem came {n L : Nat} {p c : Nat → Nat} {d : List (Option Nat)} (O : Ok n L p c) (G : Good n p c d) (hL : d.length = L) {i k : Nat} (hi : i < n) : k < cnt d i ↔ k < c i ∧ T n p c i k ≤ L := by
  constructor
  · intro h
    refine ⟨Nat.lt_of_lt_of_le h (G.le i hi), ?_⟩
    have hm : T n p c i k ∈ got d 0 i := by
      rw [G.turns i hi]
      exact List.mem_map.mpr ⟨k, List.mem_range.mpr h, rfl⟩
    have : ∀ (d : List (Option Nat)) (t i y : Nat), y ∈ got d t i → y ≤ t + d.length := by
      intro d
      induction d with
      | nil =>
        intro t i y h
        cases h
      | cons x r ih =>
        intro t i y h
        unfold got at h
        rw [List.length_cons]
        split at h
        · rcases List.mem_cons.mp h with e | h
          · omega
          · have := ih _ _ _ h
            omega
        · have := ih _ _ _ h
          omega
    have := this d 0 i _ hm
    omega
  · rintro ⟨h1, h2⟩
    apply Nat.lt_of_not_le
    intro h3
    have hs : sumTo (cnt d) n = L := by
      rcases G.total with h | h
      · rw [h, hL]
      · have := h i hi
        omega
    have h4 : T n p c i (cnt d i) ≤ L := Nat.le_trans (T_le O h3) h2
    have h5 : sumTo (cnt d) n + 1 ≤ T n p c i (cnt d i) := by
      unfold T
      rw [sumTo_at (f := cnt d) hi]
      have : sumTo (fun j => if j = i then 0 else cnt d j) n ≤ sumTo (fun j => if j = i then 0 else A p c i (cnt d i) j) n := sumTo_le fun j hj => by
        show (if j = i then 0 else _) ≤ (if j = i then 0 else _)
        split
        · exact Nat.le_refl _
        · rename_i hne
          by_cases h0 : cnt d j = 0
          · omega
          · have hx : cnt d j - 1 < c j := by
              have := G.le j hj
              omega
            have g1 : ¬ goes (p j) (p i) (decide (i < j)) (cnt d j - 1) (cnt d i) := fun z => by
              have := G.closed j hj (cnt d j - 1) (by omega) i hi (fun e => hne e.symm) (cnt d i) (by omega) z
              omega
            have g2 := goes_total g1
            rw [flip (fun z => hne z.symm)] at g2
            have g3 := (ahead_iff hx).mpr g2
            unfold A
            omega
      omega
    omega

/-- how many turns of i come -/
def many (n L : Nat) (p c : Nat → Nat) (i : Nat) : Nat := ((List.range L).filter fun k => decide (k < c i) && decide (T n p c i k ≤ L)).length
theorem range_filter_pre {q : Nat → Bool} (h : ∀ k, q (k + 1) = true → q k = true) : ∀ L : Nat, (List.range L).filter q = List.range ((List.range L).filter q).length
  | 0 => rfl
  | L + 1 => by
    have ih := range_filter_pre h L
    rw [List.range_succ, List.filter_append]
    by_cases e : q L = true
    · have all : ∀ m, m ≤ L → q (L - m) = true := by
        intro m
        induction m with
        | zero => intro _; exact e
        | succ m im =>
          intro hm
          refine h _ ?_
          rw [show L - (m + 1) + 1 = L - m by omega]
          exact im (by omega)
      have e2 : (List.range L).filter q = List.range L := List.filter_eq_self.mpr fun k hk => by
        have h1 := List.mem_range.mp hk
        have := all (L - k) (by omega)
        rw [show L - (L - k) = k by omega] at this
        exact this
      rw [e2]
      simp [e, List.range_succ]
    · have e3 : [L].filter q = [] := by simp [e]
      rw [e3, List.append_nil]
      exact ih
theorem many_filter {n L : Nat} {p c : Nat → Nat} (O : Ok n L p c) (i : Nat) : (List.range L).filter (fun k => decide (k < c i) && decide (T n p c i k ≤ L)) = List.range (many n L p c i) :=
  range_filter_pre (q := fun k => decide (k < c i) && decide (T n p c i k ≤ L)) (fun k h => by
    simp only [Bool.and_eq_true, decide_eq_true_eq] at h ⊢
    have := T_lt O (i := i) (show k < k + 1 by omega)
    omega) L
theorem many_iff {n L : Nat} {p c : Nat → Nat} (O : Ok n L p c) {i k : Nat} : k < many n L p c i ↔ k < c i ∧ T n p c i k ≤ L := by
  rw [← List.mem_range, ← many_filter O, List.mem_filter]
  simp only [Bool.and_eq_true, decide_eq_true_eq, List.mem_range]
  constructor
  · exact fun h => h.2
  · intro h
    have := T_ge n p c i k
    exact ⟨by omega, h⟩
theorem cnt_many {n L : Nat} {p c : Nat → Nat} {d : List (Option Nat)} (O : Ok n L p c) (G : Good n p c d) (hL : d.length = L) {i : Nat} (hi : i < n) : cnt d i = many n L p c i := by
  refine Nat.le_antisymm (Nat.le_of_not_lt fun h => ?_) (Nat.le_of_not_lt fun h => ?_)
  · have := (many_iff O).mpr ((came O G hL hi).mp h)
    omega
  · have := (came O G hL hi).mpr ((many_iff O).mp h)
    omega
theorem many_promise {n L : Nat} {p c : Nat → Nat} (O : Ok n L p c) {i : Nat} (hi : i < n) : p i ≤ many n L p c i := by
  refine Nat.le_of_not_lt fun h => ?_
  have h1 := (many_iff O (i := i) (k := many n L p c i)).mpr ⟨Nat.lt_of_lt_of_le h (O.pc i hi), T_promise O hi h⟩
  omega
theorem many_le {n L : Nat} {p c : Nat → Nat} (O : Ok n L p c) (i : Nat) : many n L p c i ≤ L := by
  refine Nat.le_of_not_lt fun h => ?_
  have h1 := (many_iff O).mp h
  have := T_ge n p c i L
  omega

/-- one guest more behind all others -/
theorem more_T {n : Nat} {p c p' c' : Nat → Nat} (hp : ∀ j, j < n → p' j = p j) (hc : ∀ j, j < n → c' j = c j) {i k : Nat} (hi : i < n) : T n p c i k ≤ T (n + 1) p' c' i k := by
  unfold T
  have e : sumTo (fun j => if j = i then 0 else A p' c' i k j) n = sumTo (fun j => if j = i then 0 else A p c i k j) n := sumTo_congr fun j hj => by
    show (if j = i then 0 else _) = (if j = i then 0 else _)
    split
    · rfl
    · unfold A
      rw [hp i hi, hp j hj, hc j hj]
  show _ ≤ k + 1 + (sumTo (fun j => if j = i then 0 else A p' c' i k j) n + _)
  rw [e]
  omega
theorem more_many {n L : Nat} {p c p' c' : Nat → Nat} (O : Ok n L p c) (O' : Ok (n + 1) L p' c') (hp : ∀ j, j < n → p' j = p j) (hc : ∀ j, j < n → c' j = c j) {i : Nat} (hi : i < n) : many (n + 1) L p' c' i ≤ many n L p c i := by
  refine Nat.le_of_not_lt fun h => ?_
  have h1 := (many_iff O').mp h
  have h2 := more_T (k := many n L p c i) hp hc hi
  have h3 := (many_iff O (i := i) (k := many n L p c i)).mpr ⟨by rw [← hc i hi]; exact h1.1, by omega⟩
  omega

/-- a greater promise -/
theorem div_anti {a b d : Nat} (hb : 0 < b) (h : b ≤ d) : a / d ≤ a / b := Nat.div_le_div_left h hb
theorem ceil_anti {a b d : Nat} (hb : 0 < b) (h : b ≤ d) : (a + d - 1) / d ≤ (a + b - 1) / b := by
  have hd : 0 < d := by omega
  refine Nat.le_of_not_lt fun h1 => ?_
  have h2 := (div_lt_ceil hd).mp h1
  have h3 : ¬ ((a + b - 1) / b * b < a) := fun z => by
    have := (div_lt_ceil hb).mpr z
    omega
  have h4 : (a + b - 1) / b * b ≤ (a + b - 1) / b * d := Nat.mul_le_mul_left _ h
  omega
theorem greater_A {p c p' c' : Nat → Nat} {i : Nat} (hp : ∀ j, j ≠ i → p' j = p j) (hc : ∀ j, j ≠ i → c' j = c j) (hpi : p i ≤ p' i) {j k : Nat} (hj : j ≠ i) (hpc : p j ≤ c j) (hk : k < p' i) : A p' c' i k j ≤ A p c i k j := by
  unfold A ahead
  rw [if_pos hk, hp j hj]
  by_cases h : k < p i
  · rw [if_pos h]
    unfold aheadP
    have h0 : 0 < p i := by omega
    have m1 := div_anti (a := k * p j) h0 hpi
    have m2 := ceil_anti (a := k * p j) h0 hpi
    split
    · omega
    · omega
  · rw [if_neg h]
    unfold aheadP
    refine Nat.le_trans (Nat.min_le_left _ _) ?_
    rw [Nat.le_min]
    exact ⟨hpc, Nat.le_max_left _ _⟩
theorem greater_T {n L : Nat} {p c p' c' : Nat → Nat} {i : Nat} (O : Ok n L p c) (hp : ∀ j, j ≠ i → p' j = p j) (hc : ∀ j, j ≠ i → c' j = c j) (hpi : p i ≤ p' i) {k : Nat} (hk : k < p' i) : T n p' c' i k ≤ T n p c i k := by
  unfold T
  have : sumTo (fun j => if j = i then 0 else A p' c' i k j) n ≤ sumTo (fun j => if j = i then 0 else A p c i k j) n := sumTo_le fun j hj => by
    show (if j = i then 0 else _) ≤ (if j = i then 0 else _)
    split
    · exact Nat.le_refl _
    · rename_i h
      exact greater_A hp hc hpi h (O.pc j hj) hk
  omega
theorem greater_many {n L : Nat} {p c p' c' : Nat → Nat} {i : Nat} (O : Ok n L p c) (O' : Ok n L p' c') (hp : ∀ j, j ≠ i → p' j = p j) (hc : ∀ j, j ≠ i → c' j = c j) (hpi : p i ≤ p' i) (hci : c i ≤ c' i) : min (many n L p c i) (p' i) ≤ many n L p' c' i := by
  refine Nat.le_of_not_lt fun h => ?_
  have h0 : many n L p' c' i < many n L p c i := by omega
  have h1 := (many_iff O).mp h0
  have h2 := greater_T O hp hc hpi (k := many n L p' c' i) (by omega)
  have h3 := (many_iff O' (i := i) (k := many n L p' c' i)).mpr ⟨by omega, by omega⟩
  omega

/-- of two guests alike the first has its turns ahead: z is the last one, n its place, f the first -/
theorem ahead_e {sp tp tc k : Nat} : ahead sp tp tc false k ≤ ahead sp tp tc true k := by
  unfold ahead
  split
  · rename_i h
    unfold aheadP
    have h0 : 0 < sp := by omega
    have : (k * tp + sp - 1) / sp ≤ k * tp / sp + 1 := by
      refine Nat.le_of_not_lt fun h1 => ?_
      have h2 := (div_lt_ceil h0).mp h1
      have h3 : ¬ (k * tp / sp + 1 < k * tp / sp + 1) := Nat.lt_irrefl _
      have h4 : k * tp / sp + 1 < k * tp / sp + 1 := by
        rw [lt_div_succ h0]
        omega
      exact h3 h4
    simp only [Bool.false_eq_true, if_false, if_true]
    omega
  · simp only [Bool.false_eq_true, if_false, if_true]
    omega
theorem ahead_self {sp sc k : Nat} (h : k < sc) : ahead sp sp sc false k < ahead sp sp sc true k := by
  have h1 : ¬ (k < ahead sp sp sc false k) := fun z => by
    have := (ahead_iff h).mp z
    unfold goes at this
    simp only [Bool.false_eq_true, and_false, or_false, Nat.lt_irrefl] at this
    omega
  have h2 : k < ahead sp sp sc true k := (ahead_iff h).mpr (by
    unfold goes
    by_cases hk : k < sp
    · exact Or.inl ⟨hk, Or.inr (Or.inr ⟨rfl, rfl⟩)⟩
    · exact Or.inr ⟨by omega, by omega, Or.inr ⟨rfl, rfl⟩⟩)
  omega
theorem order_T {n : Nat} {p c : Nat → Nat} {f k : Nat} (hf : f < n) (hp : p n = p f) (hc : c n = c f) (hk : k < c f) : T (n + 1) p c f k < T (n + 1) p c n k := by
  unfold T
  show k + 1 + (sumTo (fun j => if j = f then 0 else A p c f k j) n + (if n = f then 0 else A p c f k n)) < k + 1 + (sumTo (fun j => if j = n then 0 else A p c n k j) n + (if n = n then 0 else A p c n k n))
  rw [if_neg (show ¬ n = f by omega), if_pos rfl]
  have e1 : sumTo (fun j => if j = n then 0 else A p c n k j) n = sumTo (fun j => A p c n k j) n := sumTo_congr fun j hj => by
    show (if j = n then 0 else _) = _
    rw [if_neg (by omega)]
  rw [e1, sumTo_at (f := fun j => A p c n k j) hf]
  have h1 : sumTo (fun j => if j = f then 0 else A p c f k j) n ≤ sumTo (fun j => if j = f then 0 else A p c n k j) n := sumTo_le fun j hj => by
    show (if j = f then 0 else _) ≤ (if j = f then 0 else _)
    split
    · exact Nat.le_refl _
    · unfold A
      rw [hp, decide_eq_true hj]
      cases decide (j < f)
      · exact ahead_e
      · exact Nat.le_refl _
  have h2 : A p c f k n < A p c n k f := by
    unfold A
    rw [hp, hc, decide_eq_true hf, decide_eq_false (by omega)]
    exact ahead_self hk
  show _ < k + 1 + (A p c n k f + _ + 0)
  omega
theorem order_many {n L : Nat} {p c : Nat → Nat} {f : Nat} (O : Ok (n + 1) L p c) (hf : f < n) (hp : p n = p f) (hc : c n = c f) : many (n + 1) L p c n ≤ many (n + 1) L p c f := by
  refine Nat.le_of_not_lt fun h => ?_
  have h1 := (many_iff O).mp h
  have h2 := order_T (k := many (n + 1) L p c f) hf hp hc (by omega)
  have h3 := (many_iff O (i := f) (k := many (n + 1) L p c f)).mpr ⟨by omega, by omega⟩
  omega
end Deal
section
open PySem L2 Y
local macro_rules | `(tactic| walk_at "kt") => `(tactic| with_reducible first | exact kt_NoneType_int | exact kt_NoneType_bool | exact kt_NoneType_str | exact kt_NoneType_list | exact kt_NoneType_tuple | exact kt_NoneType_dict | exact kt_bool_int | exact kt_bool_bool | exact kt_bool_str | exact kt_bool_list | exact kt_bool_tuple | exact kt_bool_dict | exact kt_int_int | exact kt_int_bool | exact kt_int_str | exact kt_int_list | exact kt_int_tuple | exact kt_int_dict | exact kt_str_int | exact kt_str_bool | exact kt_str_str | exact kt_str_list | exact kt_str_tuple | exact kt_str_dict | exact kt_list_int | exact kt_list_bool | exact kt_list_str | exact kt_list_list | exact kt_list_tuple | exact kt_list_dict | exact kt_tuple_int | exact kt_tuple_bool | exact kt_tuple_str | exact kt_tuple_list | exact kt_tuple_tuple | exact kt_tuple_dict | exact kt_dict_int | exact kt_dict_bool | exact kt_dict_str | exact kt_dict_list | exact kt_dict_tuple | exact kt_dict_dict)
local macro_rules | `(tactic| walk_at "ty") => `(tactic| first
  | exact TyX.base (.int _) | exact TyX.base (.bl _) | exact TyX.base .non | exact TyX.base (.str _)
  | exact TyX.base (.lst (by walk_at "hf")) | exact TyX.base (.tup (by walk_at "hf")) | exact TyX.fDict (by walk_at "hf") | exact TyX.base (.dK (by walk_at "hf")))
local macro_rules | `(tactic| walk_at "hf") => `(tactic| first
  | assumption
  | exact upd_same
  | (refine up_new (by assumption) ?_; walk_at "hf")
  | (refine same_at (by assumption) ?_; walk_at "hf")
  | (refine up_ne (by first | assumption | (apply Ne.symm; assumption)) ?_; walk_at "hf"))
local macro_rules | `(tactic| walk_at "y1") => `(tactic| with_reducible first
  | refine y_c ?_ | refine y_op ?_ | refine y_seq ?_ | refine y_asg ?_ | refine y_name ?_ | refine y_ifS ?_ | refine y_ret ?_ | refine y_tt ?_ | refine y_tB ?_ | refine y_bl ?_
  | refine y_acons ?_ | refine y_anil ?_ | refine y_cb ?_ | refine y_call ?_ | refine y_not ?_ | refine y_and ?_ | refine y_or ?_ | refine y_andV ?_ | refine y_orV ?_ | refine y_notV ?_ | refine y_un ?_ | refine y_if ?_ | refine y_chain ?_
  | refine y_next ?_ | refine y_drop ?_ | refine y_retN ?_ | refine y_break ?_ | refine y_cont ?_
  | refine y_addI ?_ | refine y_subI ?_ | refine y_ltI ?_ | refine y_leI ?_ | refine y_gtI ?_ | refine y_geI ?_ | refine y_isNo ?_ | refine y_notNo ?_ | refine y_neg ?_
  | refine y_max2 ?_ | refine y_min2 ?_ | refine y_abs ?_ | refine y_intI ?_ | refine y_intB ?_ | refine y_int1 ?_
  | refine y_for ?_ | refine y_lc ?_ | refine y_iL ?_ | refine y_iT ?_ | refine y_r1 ?_ | refine y_r2 ?_ | refine y_iI ?_ | refine y_iV ?_ | refine y_iK ?_ | refine y_iS ?_ | refine y_gotS ?_ | refine y_iE ?_ | refine y_yes ?_ | refine y_ipI ?_ | refine y_sign ?_ | refine y_daug ?_ | refine y_dput ?_ | refine y_rAdd ?_ | refine y_lc2 ?_ | refine y_r3 ?_ | refine y_par3 ?_ | refine y_par33 ?_ | refine y_frzE ?_ | refine y_lstRg ?_ | refine y_rg2 ?_ | refine y_rg1 ?_ | refine y_ints2 ?_
  | refine y_T ?_ | refine y_F ?_ | refine y_nT ?_ | refine y_nF ?_
  | refine y_tup ?_ | refine y_lst ?_ | refine y_dnew ?_ | refine y_bm ?_ | refine y_bm0 ?_ | refine y_sl ?_ | refine y_nopart ?_ | refine y_part ?_ | refine y_par ?_ | refine y_par2 ?_ | refine y_gcons ?_ | refine y_gnil ?_ | refine y_gsub ?_)
local macro_rules | `(tactic| walk_at "y2") => `(tactic| first
  | ((with_reducible apply y_var); rfl)
  | ((with_reducible apply y_aug); rfl)
  | ((with_reducible apply y_wipe); rfl)
  | ((with_reducible apply y_ndT); rfl)
  | ((with_reducible apply y_dT); rfl)
  | ((with_reducible apply y_bF); decide)
  | ((with_reducible apply y_bT); decide)
  | ((with_reducible apply y_eqS); rfl)
  | ((with_reducible apply y_neS); rfl)
  | ((with_reducible apply y_lenL); walk_at "hf")
  | ((with_reducible apply y_lenF); walk_at "hf")
  | ((with_reducible apply y_lenT); walk_at "hf")
  | ((with_reducible apply y_lenK); walk_at "hf")
  | ((with_reducible apply y_tylst); walk_at "hf")
  | ((with_reducible apply y_ixT); walk_at "hf"; rfl)
  | ((with_reducible apply y_ixL); walk_at "hf"; rfl)
  | ((with_reducible apply y_gtup); walk_at "hf"; rfl)
  | ((with_reducible apply y_isi); walk_at "ty"; walk_at "kt")
  | ((with_reducible apply y_isiT); walk_at "hf"; walk_at "ty"; walk_at "kt"; walk_at "kt")
  | ((with_reducible apply y_gotL); walk_at "hf") | ((with_reducible apply y_gotT); walk_at "hf") | ((with_reducible apply y_gotI); walk_at "hf")
  | ((with_reducible apply y_gotK); walk_at "hf") | ((with_reducible apply y_gotE); walk_at "hf"))
local macro_rules | `(tactic| walk_at "y") => `(tactic| first | walk_at "y1" | walk_at "y2")
local macro_rules | `(tactic| walk_at "ys") => `(tactic| repeat (walk_at "y"))

namespace K60
open PySem L2 Y
def top (i : Nat) : Stmt := PySem.Challenge.pw_guestfleet_k60_whole_latest_turns_of_all.main.body.getD i (.Pass ⟨0, 0, 0, 0⟩)
abbrev s_is_whole : Stmt := top 10
theorem sc_is_whole : FnScope ["thing", "low", "high"] ["thing", "low", "high"] (defScope s_is_whole) := ⟨rfl, rfl, rfl, by decide +kernel, rfl, by decide +kernel, by decide +kernel⟩
abbrev s_is_name : Stmt := top 11
theorem sc_is_name : FnScope ["thing", "sign"] ["thing"] (defScope s_is_name) := ⟨rfl, rfl, rfl, by decide +kernel, rfl, by decide +kernel, by decide +kernel⟩
abbrev s_need_length : Stmt := top 17
theorem sc_need_length : FnScope ["length"] ["length"] (defScope s_need_length) := ⟨rfl, rfl, rfl, by decide +kernel, rfl, by decide +kernel, by decide +kernel⟩
abbrev s_are_shares : Stmt := top 18
theorem sc_are_shares : FnScope ["thing", "length", "together", "name", "share", "promise", "ceiling"] ["thing", "length"] (defScope s_are_shares) := ⟨rfl, rfl, rfl, by decide +kernel, rfl, by decide +kernel, by decide +kernel⟩
abbrev s_is_one_of : Stmt := top 19
theorem sc_is_one_of : FnScope ["thing", "guests"] ["thing", "guests"] (defScope s_is_one_of) := ⟨rfl, rfl, rfl, by decide +kernel, rfl, by decide +kernel, by decide +kernel⟩
abbrev s_are_ready : Stmt := top 20
theorem sc_are_ready : FnScope ["thing", "guests", "row", "name"] ["thing", "guests"] (defScope s_are_ready) := ⟨rfl, rfl, rfl, by decide +kernel, rfl, by decide +kernel, by decide +kernel⟩
abbrev s_are_dealt : Stmt := top 21
theorem sc_are_dealt : FnScope ["thing", "guests", "many", "name"] ["thing", "guests", "many"] (defScope s_are_dealt) := ⟨rfl, rfl, rfl, by decide +kernel, rfl, by decide +kernel, by decide +kernel⟩
abbrev s_breaks : Stmt := top 22
theorem sc_breaks : FnScope ["length", "share", "name", "ready", "dealt", "promise", "ceiling", "got", "turn", "other", "row"] ["length", "share", "name", "ready", "dealt"] (defScope s_breaks) := ⟨rfl, rfl, rfl, by decide +kernel, rfl, by decide +kernel, by decide +kernel⟩
abbrev s_first_broken : Stmt := top 23
theorem sc_first_broken : FnScope ["length", "guests", "ready", "dealt", "begin", "some", "name", "share"] ["length", "guests", "ready", "dealt"] (defScope s_first_broken) := ⟨rfl, rfl, rfl, by decide +kernel, rfl, by decide +kernel, by decide +kernel⟩
abbrev s_need_case : Stmt := top 26
theorem sc_need_case : FnScope ["length", "guests", "name"] ["length", "guests", "name"] (defScope s_need_case) := ⟨rfl, rfl, rfl, by decide +kernel, rfl, by decide +kernel, by decide +kernel⟩
abbrev s_ahead_by_promise : Stmt := top 27
theorem sc_ahead_by_promise : FnScope ["share", "other", "used", "earlier", "promise", "ceiling", "its_promise", "its_ceiling", "part", "many"] ["share", "other", "used", "earlier"] (defScope s_ahead_by_promise) := ⟨rfl, rfl, rfl, by decide +kernel, rfl, by decide +kernel, by decide +kernel⟩
abbrev s_ahead : Stmt := top 28
theorem sc_ahead : FnScope ["share", "other", "used", "earlier", "promise", "ceiling", "its_promise", "its_ceiling"] ["share", "other", "used", "earlier"] (defScope s_ahead) := ⟨rfl, rfl, rfl, by decide +kernel, rfl, by decide +kernel, by decide +kernel⟩
abbrev s_turn_of : Stmt := top 29
theorem sc_turn_of : FnScope ["length", "guests", "name", "many", "names", "others", "total", "other", "earlier"] ["length", "guests", "name", "many"] (defScope s_turn_of) := ⟨rfl, rfl, rfl, by decide +kernel, rfl, by decide +kernel, by decide +kernel⟩
abbrev s_latest : Stmt := top 30
theorem sc_latest : FnScope ["length", "guests", "name", "many"] ["length", "guests", "name", "many"] (defScope s_latest) := ⟨rfl, rfl, rfl, by decide +kernel, rfl, by decide +kernel, by decide +kernel⟩
abbrev s_at_least_in : Stmt := top 31
theorem sc_at_least_in : FnScope ["length", "guests", "name", "turns", "found", "many", "turn"] ["length", "guests", "name", "turns"] (defScope s_at_least_in) := ⟨rfl, rfl, rfl, by decide +kernel, rfl, by decide +kernel, by decide +kernel⟩
abbrev s_at_least : Stmt := top 32
theorem sc_at_least : FnScope ["length", "guests", "name", "turns", "whole", "rest"] ["length", "guests", "name", "turns"] (defScope s_at_least) := ⟨rfl, rfl, rfl, by decide +kernel, rfl, by decide +kernel, by decide +kernel⟩
abbrev s_worst : Stmt := top 33
theorem sc_worst : FnScope ["length", "guests", "used", "found", "turn", "best", "name"] ["length", "guests"] (defScope s_worst) := ⟨rfl, rfl, rfl, by decide +kernel, rfl, by decide +kernel, by decide +kernel⟩
abbrev s_next_of : Stmt := top 34
theorem sc_next_of : FnScope ["guests", "used", "best", "name", "promise", "ceiling", "below"] ["guests", "used"] (defScope s_next_of) := ⟨rfl, rfl, rfl, by decide +kernel, rfl, by decide +kernel, by decide +kernel⟩
abbrev s__law_cell : Stmt := top 36
theorem sc__law_cell : FnScope ["script", "k"] ["script", "k"] (defScope s__law_cell) := ⟨rfl, rfl, rfl, by decide +kernel, rfl, by decide +kernel, by decide +kernel⟩
abbrev s__law_box : Stmt := top 37
theorem sc__law_box : FnScope ["cell", "great"] ["cell"] (defScope s__law_box) := ⟨rfl, rfl, rfl, by decide +kernel, rfl, by decide +kernel, by decide +kernel⟩
abbrev s__law_take : Stmt := top 38
theorem sc__law_take : FnScope ["box", "many", "digit", "one", "two"] ["box", "many"] (defScope s__law_take) := ⟨rfl, rfl, rfl, by decide +kernel, rfl, by decide +kernel, by decide +kernel⟩
abbrev s__law_same : Stmt := top 39
theorem sc__law_same : FnScope ["told", "due", "same", "k"] ["told", "due"] (defScope s__law_same) := ⟨rfl, rfl, rfl, by decide +kernel, rfl, by decide +kernel, by decide +kernel⟩
abbrev s__law_case : Stmt := top 40
theorem sc__law_case : FnScope ["box", "length", "left", "guests", "name", "promise", "low", "ceiling", "names", "order", "k"] ["box"] (defScope s__law_case) := ⟨rfl, rfl, rfl, by decide +kernel, rfl, by decide +kernel, by decide +kernel⟩
abbrev s__law_turns : Stmt := top 41
theorem sc__law_turns : FnScope ["length", "guests", "name", "found", "some", "many", "turn"] ["length", "guests", "name"] (defScope s__law_turns) := ⟨rfl, rfl, rfl, by decide +kernel, rfl, by decide +kernel, by decide +kernel⟩
abbrev s__law_all_right : Stmt := top 42
theorem sc__law_all_right : FnScope ["length", "guests", "dealt", "turns", "name", "together", "k"] ["length", "guests"] (defScope s__law_all_right) := ⟨rfl, rfl, rfl, by decide +kernel, rfl, by decide +kernel, by decide +kernel⟩
abbrev s__law_more_right : Stmt := top 43
theorem sc__law_more_right : FnScope ["box", "length", "guests", "left", "promise", "more", "name", "one", "other", "share", "k"] ["box", "length", "guests"] (defScope s__law_more_right) := ⟨rfl, rfl, rfl, by decide +kernel, rfl, by decide +kernel, by decide +kernel⟩
abbrev s__law_greater_right : Stmt := top 44
theorem sc__law_greater_right : FnScope ["box", "length", "guests", "left", "name", "promise", "ceiling", "greater", "more", "one", "other", "share", "k"] ["box", "length", "guests"] (defScope s__law_greater_right) := ⟨rfl, rfl, rfl, by decide +kernel, rfl, by decide +kernel, by decide +kernel⟩
abbrev s__law_order_right : Stmt := top 45
theorem sc__law_order_right : FnScope ["box", "length", "guests", "names", "half", "first", "one", "other", "name", "k"] ["box", "length", "guests"] (defScope s__law_order_right) := ⟨rfl, rfl, rfl, by decide +kernel, rfl, by decide +kernel, by decide +kernel⟩
abbrev s_law : Stmt := top 46
theorem sc_law : FnScope ["script", "k", "box", "length", "guests"] ["script"] (defScope s_law) := ⟨rfl, rfl, rfl, by decide +kernel, rfl, by decide +kernel, by decide +kernel⟩
def DefAt (K : PySem.W.Frag) (mg : Str → Option Value) (x : Str) (st : Stmt) : Prop := ∃ f fd, mg x = some (.ref f) ∧ Fun K x x st f fd
theorem defAt_mk {K : PySem.W.Frag} {h : Heap} {mg : Str → Option Value} (X : K.In h) (G : h.Ns mainGlobals mg) {x : Str} {st : Stmt} {f : Addr} {oc : Value} {od an : Option Addr} {osl : Array (Option Value)} {kV doc pm cdv ct : Value}
    (a : PySem.W.nsIn K mainGlobals x = some (some (.ref f))) (l : K.lookup f = some ⟨oc, od, .func (PySem.W.fnOf x x (defArgs st) (defBody st) (defScope st) .none kV doc pm an cdv ct), osl⟩) (c : PySem.W.codeIn K cdv x = true) (k : PySem.W.keepIn K (.ref f) = true) : DefAt K mg x st :=
  ⟨f, _, PySem.W.mg_of X G a, fun_mk l c k⟩
structure Txt (K : PySem.W.Frag) (mg : Str → Option Value) : Prop where
  d_is_whole : DefAt K mg "is_whole" s_is_whole
  d_is_name : DefAt K mg "is_name" s_is_name
  d_need_length : DefAt K mg "need_length" s_need_length
  d_are_shares : DefAt K mg "are_shares" s_are_shares
  d_is_one_of : DefAt K mg "is_one_of" s_is_one_of
  d_are_ready : DefAt K mg "are_ready" s_are_ready
  d_are_dealt : DefAt K mg "are_dealt" s_are_dealt
  d_breaks : DefAt K mg "breaks" s_breaks
  d_first_broken : DefAt K mg "first_broken" s_first_broken
  d_need_case : DefAt K mg "need_case" s_need_case
  d_ahead_by_promise : DefAt K mg "ahead_by_promise" s_ahead_by_promise
  d_ahead : DefAt K mg "ahead" s_ahead
  d_turn_of : DefAt K mg "turn_of" s_turn_of
  d_latest : DefAt K mg "latest" s_latest
  d_at_least_in : DefAt K mg "at_least_in" s_at_least_in
  d_at_least : DefAt K mg "at_least" s_at_least
  d_worst : DefAt K mg "worst" s_worst
  d_next_of : DefAt K mg "next_of" s_next_of
  d__law_cell : DefAt K mg "_law_cell" s__law_cell
  d__law_box : DefAt K mg "_law_box" s__law_box
  d__law_take : DefAt K mg "_law_take" s__law_take
  d__law_same : DefAt K mg "_law_same" s__law_same
  d__law_case : DefAt K mg "_law_case" s__law_case
  d__law_turns : DefAt K mg "_law_turns" s__law_turns
  d__law_all_right : DefAt K mg "_law_all_right" s__law_all_right
  d__law_more_right : DefAt K mg "_law_more_right" s__law_more_right
  d__law_greater_right : DefAt K mg "_law_greater_right" s__law_greater_right
  d__law_order_right : DefAt K mg "_law_order_right" s__law_order_right
  d_law : DefAt K mg "law" s_law
  n_isinstance : mg "isinstance" = none
  n_int : mg "int" = none
  n_bool : mg "bool" = none
  n_all : mg "all" = none
  n_str : mg "str" = none
  n_len : mg "len" = none
  n_dict : mg "dict" = none
  n_tuple : mg "tuple" = none
  n_max : mg "max" = none
  n_list : mg "list" = none
  n_any : mg "any" = none
  n_enumerate : mg "enumerate" = none
  n_range : mg "range" = none
  n_min : mg "min" = none
  n_divmod : mg "divmod" = none
  n_sum : mg "sum" = none
  n_abs : mg "abs" = none
  n_sorted : mg "sorted" = none
  c_LONGEST_NAME : ∃ t, mg "LONGEST_NAME" = some (Value.int 8 t)
  c_LETTERS : ∃ t, mg "LETTERS" = some (Value.str "abcdefghijklmnopqrstuvwxyz" t)
  c_LEAST_LENGTH : ∃ t, mg "LEAST_LENGTH" = some (Value.int 4 t)
  c_MOST_LENGTH : ∃ t, mg "MOST_LENGTH" = some (Value.int 60 t)
  c_MOST_GUESTS : ∃ t, mg "MOST_GUESTS" = some (Value.int 6 t)
  c_MOST_TURNS_shares : ∃ t, mg "MOST_TURNS_shares" = some (Value.int 400 t)
  c_MOST_TURNS_latest : ∃ t, mg "MOST_TURNS_latest" = some (Value.int 400 t)
end K60
namespace K60
open PySem L2 Y

/-! ### the guests as they stand in a heap -/
def letters : Str := "abcdefghijklmnopqrstuvwxyz"
structure NameOk (z : Str) : Prop where
  lo : 1 ≤ z.length
  hi : z.length ≤ 8
  all : ∀ c, c ∈ z.cps.toList → c ∈ letters.cps.toList
def kvOf (nm : List Str) (ts : List Addr) : List (Key × V) := (nm.zip ts).map fun x => ((Sum.inr x.1 : Key), V.ref x.2)
structure Gs (H : Hp) (g : Addr) (o : Obj) (nm : List Str) (ts : List Addr) (p c : Nat → Nat) : Prop where
  d : H g = some (.frz o (.dK (kvOf nm ts)))
  len : ts.length = nm.length
  t : ∀ (i : Nat) (a : Addr), ts[i]? = some a → H a = some (.tup [.int (p i), .int (c i)])
  nd : nm.Nodup
  ok : ∀ z, z ∈ nm → NameOk z
  few : nm.length ≤ 6
theorem Gs.same {H H' : Hp} {g : Addr} {o : Obj} {nm : List Str} {ts : List Addr} {p c : Nat → Nat} (G : Gs H g o nm ts p c) (e : Same H H') : Gs H' g o nm ts p c :=
  ⟨e _ _ G.d, G.len, fun i a h => e _ _ (G.t i a h), G.nd, G.ok, G.few⟩
theorem kvOf_len {nm : List Str} {ts : List Addr} (h : ts.length = nm.length) : (kvOf nm ts).length = nm.length := by
  unfold kvOf
  rw [List.length_map, List.length_zip, h, Nat.min_self]
theorem kvOf_at {nm : List Str} {ts : List Addr} {i : Nat} {k : Key} {v : V} (h : (kvOf nm ts)[i]? = some (k, v)) : ∃ z a, nm[i]? = some z ∧ ts[i]? = some a ∧ k = Sum.inr z ∧ v = .ref a := by
  unfold kvOf at h
  rw [List.getElem?_map] at h
  cases e : (nm.zip ts)[i]? with
  | none =>
    rw [e] at h
    cases h
  | some x =>
    rw [e] at h
    obtain ⟨h1, h2⟩ := List.getElem?_zip_eq_some.mp e
    have := Option.some.inj h
    exact ⟨x.1, x.2, h1, h2, (congrArg Prod.fst this).symm, (congrArg Prod.snd this).symm⟩
section
variable {P : Program} {w : World} {K : PySem.W.Frag} {mg : Str → Option Value} {base : Heap}
def sp_is_whole (K : PySem.W.Frag) : Sp := fun vs H Q _ => ∃ i lo hi : Int, vs = [.int i, .int lo, .int hi] ∧ Q (.bl (decide (lo ≤ i) && decide (i ≤ hi))) H
theorem ok_is_whole {f : Addr} {fd : FuncData} (T : Txt K mg) (F : Fun K "is_whole" "is_whole" s_is_whole f fd) : FnOk P w K mg base CX0 1 f fd ["thing", "low", "high"] (sp_is_whole K) := by
  have scp := sc_is_whole
  refine F.ok sc_is_whole (fun vs H Q E h => ?_) (fun cdv A outer s H vs Q E hr h => ?_)
  · first | (obtain ⟨rfl, _⟩ := h; rfl) | (obtain ⟨_, rfl, _⟩ := h; rfl) | (obtain ⟨_, _, rfl, _⟩ := h; rfl) | (obtain ⟨_, _, _, rfl, _⟩ := h; rfl) | (obtain ⟨_, _, _, _, rfl, _⟩ := h; rfl) | (obtain ⟨_, _, _, _, _, rfl, _⟩ := h; rfl) | (obtain ⟨_, _, _, _, _, _, rfl, _⟩ := h; rfl) | (obtain ⟨_, _, _, _, _, _, _, rfl, _⟩ := h; rfl) | (obtain ⟨_, _, _, _, _, _, _, _, rfl, _⟩ := h; rfl) | (obtain ⟨_, _, _, _, _, _, _, _, _, rfl, _⟩ := h; rfl) | (obtain ⟨_, _, _, _, _, _, _, _, _, _, rfl, _⟩ := h; rfl) | (obtain ⟨_, _, _, _, _, _, _, _, _, _, _, rfl, _⟩ := h; rfl) | (obtain ⟨_, _, _, _, _, _, _, _, _, _, _, _, rfl, _⟩ := h; rfl) | (obtain ⟨_, _, _, _, _, _, _, _, _, _, _, _, _, rfl, _⟩ := h; rfl) | (obtain ⟨_, _, _, _, _, _, _, _, _, _, _, _, _, _, rfl, _⟩ := h; rfl) | (obtain ⟨_, _, _, _, _, _, _, _, _, _, _, _, _, _, _, rfl, _⟩ := h; rfl)
  · obtain ⟨i, lo, hi, rfl, q⟩ := h
    have hu := hu_of hr
    have hv := hr.units
    refine ⟨_, (pss_one (ps_ret (pe_and (pe_callB (call_isiY (K := K)) (by rfl) T.n_isinstance (by decide +kernel) (pa_cons (pv 0) (pa_cons (pe_bty (T := "int") T.n_int (by decide +kernel)) pa_nil))) (pe_and (pe_not (pe_callB (call_isiY (K := K)) (by rfl) T.n_isinstance (by decide +kernel) (pa_cons (pv 0) (pa_cons (pe_bty (T := "bool") T.n_bool (by decide +kernel)) pa_nil)))) (pe_one (pe_chain op_leI op_leI (pv 1) (pv 0) (pv 2))))))), ?_⟩
    walk_at "ys"
    refine y_d2 (fun h1 => ?_) (fun h1 => ?_)
    · walk_at "ys"
      rw [decide_eq_true h1, Bool.true_and] at q
      exact q
    · rw [decide_eq_false h1, Bool.false_and] at q
      exact q
def sp_need_length (K : PySem.W.Frag) : Sp := fun vs H Q _ => ∃ i : Int, vs = [.int i] ∧ 4 ≤ i ∧ i ≤ 60 ∧ Q .non H
theorem ok_need_length {f : Addr} {fd : FuncData} (T : Txt K mg) (F : Fun K "need_length" "need_length" s_need_length f fd) : FnOk P w K mg base CX0 2 f fd ["length"] (sp_need_length K) := by
  obtain ⟨f_is_whole, fd_is_whole, g_is_whole, F_is_whole⟩ := T.d_is_whole
  have G_is_whole := ok_is_whole (P := P) (w := w) (base := base) T F_is_whole
  have b_is_whole := F_is_whole.binds (ps := ["thing", "low", "high"]) fun _ _ _ _ _ _ us hl => match us, hl with | [_, _, _], _ => rfl
  have scp := sc_need_length
  refine F.ok sc_need_length (fun vs H Q E h => ?_) (fun cdv A outer s H vs Q E hr h => ?_)
  · first | (obtain ⟨rfl, _⟩ := h; rfl) | (obtain ⟨_, rfl, _⟩ := h; rfl) | (obtain ⟨_, _, rfl, _⟩ := h; rfl) | (obtain ⟨_, _, _, rfl, _⟩ := h; rfl) | (obtain ⟨_, _, _, _, rfl, _⟩ := h; rfl) | (obtain ⟨_, _, _, _, _, rfl, _⟩ := h; rfl) | (obtain ⟨_, _, _, _, _, _, rfl, _⟩ := h; rfl) | (obtain ⟨_, _, _, _, _, _, _, rfl, _⟩ := h; rfl) | (obtain ⟨_, _, _, _, _, _, _, _, rfl, _⟩ := h; rfl) | (obtain ⟨_, _, _, _, _, _, _, _, _, rfl, _⟩ := h; rfl) | (obtain ⟨_, _, _, _, _, _, _, _, _, _, rfl, _⟩ := h; rfl) | (obtain ⟨_, _, _, _, _, _, _, _, _, _, _, rfl, _⟩ := h; rfl) | (obtain ⟨_, _, _, _, _, _, _, _, _, _, _, _, rfl, _⟩ := h; rfl) | (obtain ⟨_, _, _, _, _, _, _, _, _, _, _, _, _, rfl, _⟩ := h; rfl) | (obtain ⟨_, _, _, _, _, _, _, _, _, _, _, _, _, _, rfl, _⟩ := h; rfl) | (obtain ⟨_, _, _, _, _, _, _, _, _, _, _, _, _, _, _, rfl, _⟩ := h; rfl)
  · obtain ⟨i, rfl, h4, h60, q⟩ := h
    have hu := hu_of hr
    have hv := hr.units
    refine ⟨_, (pss_one (ps_if (pt_not (pt_val (pe_call (G_is_whole.mono (by decide)) hr rfl g_is_whole F_is_whole.kp b_is_whole .nil pass0 (pa_cons (pv 0) (pa_cons (pe_gint T.c_LEAST_LENGTH) (pa_cons (pe_gint T.c_MOST_LENGTH) pa_nil))))))
  (pss_one ps_never)
  pss_nil)), ?_⟩
    walk_at "ys"
    refine ⟨i, 4, 60, rfl, ?_⟩
    rw [decide_eq_true h4, decide_eq_true h60]
    walk_at "ys"
    exact q
def sp_is_name (K : PySem.W.Frag) : Sp := fun vs H Q _ => ∃ z : Str, vs = [.str z] ∧ NameOk z ∧ ∀ H', Same H H' → Q (.bl true) H'
theorem ok_is_name {f : Addr} {fd : FuncData} (T : Txt K mg) (F : Fun K "is_name" "is_name" s_is_name f fd) : FnOk P w K mg base CX0 1 f fd ["thing"] (sp_is_name K) := by
  have scp := sc_is_name
  refine F.ok sc_is_name (fun vs H Q E h => ?_) (fun cdv A outer s H vs Q E hr h => ?_)
  · first | (obtain ⟨rfl, _⟩ := h; rfl) | (obtain ⟨_, rfl, _⟩ := h; rfl) | (obtain ⟨_, _, rfl, _⟩ := h; rfl) | (obtain ⟨_, _, _, rfl, _⟩ := h; rfl) | (obtain ⟨_, _, _, _, rfl, _⟩ := h; rfl) | (obtain ⟨_, _, _, _, _, rfl, _⟩ := h; rfl) | (obtain ⟨_, _, _, _, _, _, rfl, _⟩ := h; rfl) | (obtain ⟨_, _, _, _, _, _, _, rfl, _⟩ := h; rfl) | (obtain ⟨_, _, _, _, _, _, _, _, rfl, _⟩ := h; rfl) | (obtain ⟨_, _, _, _, _, _, _, _, _, rfl, _⟩ := h; rfl) | (obtain ⟨_, _, _, _, _, _, _, _, _, _, rfl, _⟩ := h; rfl) | (obtain ⟨_, _, _, _, _, _, _, _, _, _, _, rfl, _⟩ := h; rfl) | (obtain ⟨_, _, _, _, _, _, _, _, _, _, _, _, rfl, _⟩ := h; rfl) | (obtain ⟨_, _, _, _, _, _, _, _, _, _, _, _, _, rfl, _⟩ := h; rfl) | (obtain ⟨_, _, _, _, _, _, _, _, _, _, _, _, _, _, rfl, _⟩ := h; rfl) | (obtain ⟨_, _, _, _, _, _, _, _, _, _, _, _, _, _, _, rfl, _⟩ := h; rfl)
  · obtain ⟨z, rfl, hz, q⟩ := h
    have hu := hu_of hr
    have hv := hr.units
    refine ⟨_, (pss_cons (ps_if (PW.pt (pw_or (pt_not (pt_val (pe_callB (call_isiY (K := K)) (by rfl) T.n_isinstance (by decide +kernel) (pa_cons (pv 0) (pa_cons (pe_bty (T := "str") T.n_str (by decide +kernel)) pa_nil))))) (pw_or1 (pt_not (pt_chain op_leI op_leI pe_int (pe_callB (call_lenK (K := K)) (by rfl) T.n_len (by decide +kernel) (pa_cons (pv 0) pa_nil)) (pe_gint T.c_LONGEST_NAME))))))
  (pss_one (ps_ret pe_bl))
  pss_nil)
  (pss_one (ps_ret (pe_callB (call_allY (K := K) rfl) (by rfl) T.n_all (by decide +kernel) (pa_cons (pe_lc (own := [("sign", 1)]) (g := gName 1) (tt := tYes) rfl scp.nd (pi_str (pv 0)) (blkOk_by (own := [("sign", 1)]) (N := ["thing", "sign"]) (sc := defScope s_is_name) (by decide +kernel)) (fun _ _ _ _ _ => (pg_name (i := 1) scp.nd rfl (by first | exact Or.inl rfl | exact Or.inr rfl))) (fun _ _ _ _ _ => pts_nil) (fun _ _ _ _ _ => (pe_cmpR (op_inK (K := K) hu) (pv 1) (pe_gstr T.c_LETTERS) (by rfl)))) pa_nil))))), ?_⟩
    walk_at "ys"
    refine y_lenS (sz_line (by have := hz.hi; omega)) ?_
    walk_at "ys"
    refine y_dT (by have := hz.lo; omega) ?_
    walk_at "ys"
    refine y_ndT (by have := hz.hi; omega) ?_
    walk_at "ys"
    intro D nD
    refine lc_map (fun _ => .bl true) walk_str nD (sz_lt (by have := hz.hi; have : z.cps.size = z.length := rfl; omega)) (fun _ _ => trivial) (fun i x H1 H2 Nx hi e hY k => ?_) (fun H' e hD => ?_)
    · obtain ⟨rfl, c, hc, rfl⟩ := hY
      walk_at "ys"
      refine k _ _ (congrArg V.bl (decide_eq_true ?_)) (Same.refl _)
      exact hz.all c (Array.mem_toList_iff.mpr (Array.mem_of_getElem? hc))
    · walk_at "ys"
      have hD' : H' D = some (.lst ((List.replicate z.cps.size true).map V.bl)) := by
        rw [hD]
        congr 2
        rw [List.map_replicate, List.map_const', List.length_range]
      refine y_all hD' ?_
      have : (List.replicate z.cps.size true).all id = true := by
        rw [List.all_eq_true]
        intro b hb
        exact (List.mem_replicate.mp hb).2
      rw [this]
      exact q H' e
end
end K60
namespace K60
open PySem L2 Y

theorem kvOf_pair {nm : List Str} {ts : List Addr} {i : Nat} {a b : V} (h1 : (kvOf nm ts)[i]?.map (fun kv => kV kv.1) = some a) (h2 : (kvOf nm ts)[i]?.map Prod.snd = some b) : ∃ z t, nm[i]? = some z ∧ ts[i]? = some t ∧ a = .str z ∧ b = .ref t := by
  cases e : (kvOf nm ts)[i]? with
  | none =>
    rw [e] at h1
    cases h1
  | some x =>
    rw [e] at h1 h2
    obtain ⟨z, t, h3, h4, h5, h6⟩ := kvOf_at (k := x.1) (v := x.2) e
    refine ⟨z, t, h3, h4, ?_, ?_⟩
    · have := Option.some.inj h1
      rw [← this]
      show kV x.1 = _
      rw [h5]
      rfl
    · have := Option.some.inj h2
      rw [← this]
      exact h6
theorem sumTo_split (p : Nat → Nat) {i n : Nat} (h : i ≤ n) : Deal.sumTo p i ≤ Deal.sumTo p n := by
  induction n with
  | zero =>
    have : i = 0 := by omega
    rw [this]
    exact Nat.le_refl _
  | succ n ih =>
    by_cases e : i = n + 1
    · rw [e]
      exact Nat.le_refl _
    · exact Nat.le_trans (ih (by omega)) (Nat.le_add_right _ _)
section
variable {P : Program} {w : World} {K : PySem.W.Frag} {mg : Str → Option Value} {base : Heap}
def sp_are_shares (K : PySem.W.Frag) : Sp := fun vs H Q _ => ∃ (g : Addr) (L : Nat) (o : Obj) (nm : List Str) (ts : List Addr) (p c : Nat → Nat), vs = [.ref g, .int L] ∧ Gs H g o nm ts p c ∧ Deal.Ok nm.length L p c ∧ ∀ H', Same H H' → Q (.bl true) H'
theorem ok_are_shares {f : Addr} {fd : FuncData} (T : Txt K mg) (F : Fun K "are_shares" "are_shares" s_are_shares f fd) : FnOk P w K mg base CX0 2 f fd ["thing", "length"] (sp_are_shares K) := by
  obtain ⟨f_is_name, fd_is_name, g_is_name, F_is_name⟩ := T.d_is_name
  have G_is_name := ok_is_name (P := P) (w := w) (base := base) T F_is_name
  have b_is_name := F_is_name.binds (ps := ["thing"]) fun _ _ _ _ _ _ us hl => match us, hl with | [_], _ => rfl
  obtain ⟨f_is_whole, fd_is_whole, g_is_whole, F_is_whole⟩ := T.d_is_whole
  have G_is_whole := ok_is_whole (P := P) (w := w) (base := base) T F_is_whole
  have b_is_whole := F_is_whole.binds (ps := ["thing", "low", "high"]) fun _ _ _ _ _ _ us hl => match us, hl with | [_, _, _], _ => rfl
  have scp := sc_are_shares
  refine F.ok sc_are_shares (fun vs H Q E h => ?_) (fun cdv A outer s H vs Q E hr h => ?_)
  · first | (obtain ⟨rfl, _⟩ := h; rfl) | (obtain ⟨_, rfl, _⟩ := h; rfl) | (obtain ⟨_, _, rfl, _⟩ := h; rfl) | (obtain ⟨_, _, _, rfl, _⟩ := h; rfl) | (obtain ⟨_, _, _, _, rfl, _⟩ := h; rfl) | (obtain ⟨_, _, _, _, _, rfl, _⟩ := h; rfl) | (obtain ⟨_, _, _, _, _, _, rfl, _⟩ := h; rfl) | (obtain ⟨_, _, _, _, _, _, _, rfl, _⟩ := h; rfl) | (obtain ⟨_, _, _, _, _, _, _, _, rfl, _⟩ := h; rfl) | (obtain ⟨_, _, _, _, _, _, _, _, _, rfl, _⟩ := h; rfl) | (obtain ⟨_, _, _, _, _, _, _, _, _, _, rfl, _⟩ := h; rfl) | (obtain ⟨_, _, _, _, _, _, _, _, _, _, _, rfl, _⟩ := h; rfl) | (obtain ⟨_, _, _, _, _, _, _, _, _, _, _, _, rfl, _⟩ := h; rfl) | (obtain ⟨_, _, _, _, _, _, _, _, _, _, _, _, _, rfl, _⟩ := h; rfl) | (obtain ⟨_, _, _, _, _, _, _, _, _, _, _, _, _, _, rfl, _⟩ := h; rfl) | (obtain ⟨_, _, _, _, _, _, _, _, _, _, _, _, _, _, _, rfl, _⟩ := h; rfl)
  · obtain ⟨g, L, o, nm, ts, p, c, rfl, G, O, q⟩ := h
    have hu := hu_of hr
    have hv := hr.units
    have hd := G.d
    refine ⟨_, (pss_cons (ps_if (PW.pt (pw_or (pt_not (pt_val (pe_callB (call_isiY (K := K)) (by rfl) T.n_isinstance (by decide +kernel) (pa_cons (pv 0) (pa_cons (pe_bty (T := "dict") T.n_dict (by decide +kernel)) pa_nil))))) (pw_or1 (pt_cmpR op_gtI (pe_callB (call_lenK (K := K)) (by rfl) T.n_len (by decide +kernel) (pa_cons (pv 0) pa_nil)) (pe_gint T.c_MOST_GUESTS) (nomark _)))))
  (pss_one (ps_ret pe_bl))
  pss_nil)
  (pss_cons (ps_set (i := 2) scp.nd rfl (by first | exact Or.inl rfl | exact Or.inr rfl) pe_int)
  (pss_cons (ps_for PassesOwn.never rfl (pi_items (pv 0)) (pg_tupK (K := K) (n := 2) rfl (pgs_cons (pg_name (i := 3) scp.nd rfl (by first | exact Or.inl rfl | exact Or.inr rfl)) (pgs_cons (pg_name (i := 4) scp.nd rfl (by first | exact Or.inl rfl | exact Or.inr rfl)) pgs_nil)))
  (pss_cons (ps_if (PW.pt (pw_or (pt_not (pt_val (pe_call (G_is_name.mono (by decide)) hr rfl g_is_name F_is_name.kp b_is_name .nil pass0 (pa_cons (pv 3) pa_nil)))) (pw_or (pt_not (pt_val (pe_callB (call_isiY (K := K)) (by rfl) T.n_isinstance (by decide +kernel) (pa_cons (pv 4) (pa_cons (pe_bty (T := "tuple") T.n_tuple (by decide +kernel)) pa_nil))))) (pw_or1 (pt_cmpR (op_neK (K := K) hv) (pe_callB (call_lenK (K := K)) (by rfl) T.n_len (by decide +kernel) (pa_cons (pv 4) pa_nil)) pe_int (nomark _))))))
  (pss_one (ps_ret pe_bl))
  pss_nil)
  (pss_cons (ps_asg (pv 4) (pg_tupK (K := K) (n := 2) rfl (pgs_cons (pg_name (i := 5) scp.nd rfl (by first | exact Or.inl rfl | exact Or.inr rfl)) (pgs_cons (pg_name (i := 6) scp.nd rfl (by first | exact Or.inl rfl | exact Or.inr rfl)) pgs_nil))))
  (pss_cons (ps_if (PW.pt (pw_or (pt_not (pt_val (pe_call (G_is_whole.mono (by decide)) hr rfl g_is_whole F_is_whole.kp b_is_whole .nil pass0 (pa_cons (pv 5) (pa_cons pe_int (pa_cons (pv 1) pa_nil)))))) (pw_or1 (pt_not (pt_val (pe_call (G_is_whole.mono (by decide)) hr rfl g_is_whole F_is_whole.kp b_is_whole .nil pass0 (pa_cons (pv 6) (pa_cons (pe_callB (call_max2Y rfl) (by rfl) T.n_max (by decide +kernel) (pa_cons pe_int (pa_cons (pv 5) pa_nil))) (pa_cons (pv 1) pa_nil)))))))))
  (pss_one (ps_ret pe_bl))
  pss_nil)
  (pss_one (ps_aug (i := 2) scp.nd rfl (by first | exact Or.inl rfl | exact Or.inr rfl) (pv 5) ip_add))))))
  (pss_one (ps_ret (pe_cmpR op_leI (pv 2) (pv 1) (nomark _))))))), ?_⟩
    walk_at "ys"
    refine y_dF (by rw [kvOf_len G.len]; have := G.few; omega) ?_
    walk_at "ys"
    refine for_it walk_items (fun i σ H' => ∃ u3 u4 u5 u6 : Option V, σ = [some (.ref g), some (.int L), some (.int (Deal.sumTo p i : Nat)), u3, u4, u5, u6] ∧ Same H H') ⟨none, none, none, none, rfl, Same.refl H⟩ (fun i σ H' _ ⟨_, _, _, _, _, e⟩ => e _ _ hd) (fun i x σ H1 H2 hi hP hY => ?_) (fun σ H' hP => ?_)
    · obtain ⟨u3, u4, u5, u6, rfl, e⟩ := hP
      obtain ⟨T', a, b, rfl, nT, rfl, h1, h2⟩ := hY
      obtain ⟨z, t, hz, ht, rfl, rfl⟩ := kvOf_pair h1 h2
      have hin : i < nm.length := (List.getElem?_eq_some_iff.mp hz).1
      have h3 : H1 t = some (.tup [.int (p i), .int (c i)]) := e _ _ (G.t i t ht)
      walk_at "ys"
      refine ⟨z, rfl, G.ok z (List.mem_of_getElem? hz), fun H3 e3 => ?_⟩
      walk_at "ys"
      have h4 := O.pc i hin
      have h5 := O.one i hin
      have h6 := O.cL i hin
      refine ⟨p i, 0, L, rfl, ?_⟩
      rw [decide_eq_true (show (0 : Int) ≤ (p i : Int) by omega), decide_eq_true (show ((p i : Nat) : Int) ≤ (L : Int) by omega)]
      walk_at "ys"
      refine ⟨c i, _, L, rfl, ?_⟩
      rw [decide_eq_true (show (if ((p i : Nat) : Int) > 1 then ((p i : Nat) : Int) else 1) ≤ (c i : Int) by split <;> omega), decide_eq_true (show ((c i : Nat) : Int) ≤ (L : Int) by omega)]
      walk_at "ys"
      exact ⟨_, _, _, _, rfl, e.trans ((same_new0 nT).trans e3)⟩
    · obtain ⟨u3, u4, u5, u6, rfl, e⟩ := hP
      walk_at "ys"
      have h7 := O.sum
      have h8 : Deal.sumTo p (kvOf nm ts).length ≤ L := by rw [kvOf_len G.len]; exact h7
      rw [decide_eq_true (show ((Deal.sumTo p (kvOf nm ts).length : Nat) : Int) ≤ (L : Int) by omega)]
      exact q _ e
theorem valV_kvOf {nm : List Str} {ts : List Addr} : ∀ {i : Nat} {z : Str} {t : Addr}, nm.Nodup → nm[i]? = some z → ts[i]? = some t → valV (kvOf nm ts) (Sum.inr z) = some (.ref t) := by
  induction nm generalizing ts with
  | nil => intro i z t _ h _; simp at h
  | cons a r ih =>
    intro i z t nd hz ht
    cases ts with
    | nil => simp at ht
    | cons b bs =>
      have hk : kvOf (a :: r) (b :: bs) = ((Sum.inr a : Key), V.ref b) :: kvOf r bs := rfl
      rw [hk]
      cases i with
      | zero =>
        have h1 : a = z := Option.some.inj hz
        have h2 : b = t := Option.some.inj ht
        subst h1
        subst h2
        exact valV_pos rfl
      | succ i =>
        have nd' := List.nodup_cons.mp nd
        have hz' : r[i]? = some z := hz
        rw [valV_neg (p := ((Sum.inr a : Key), V.ref b)) (fun e => nd'.1 (by
          have : a = z := Sum.inr.inj e
          rw [this]
          exact List.mem_of_getElem? hz'))]
        exact ih nd'.2 hz' ht
theorem kvOf_keys {nm : List Str} : ∀ {ts : List Addr}, ts.length = nm.length → (kvOf nm ts).map (fun kv => kV kv.1) = nm.map V.str := by
  induction nm with
  | nil => intro ts _; rfl
  | cons a r ih =>
    intro ts h
    cases ts with
    | nil => simp at h
    | cons b bs =>
      have hk : kvOf (a :: r) (b :: bs) = ((Sum.inr a : Key), V.ref b) :: kvOf r bs := rfl
      rw [hk, List.map_cons, List.map_cons, ih (by simpa using h)]
      rfl
def sp_is_one_of (K : PySem.W.Frag) : Sp := fun vs H Q _ => ∃ (z : Str) (g : Addr) (o : Obj) (nm : List Str) (ts : List Addr) (p c : Nat → Nat), vs = [.str z, .ref g] ∧ Gs H g o nm ts p c ∧ z ∈ nm ∧ Q (.bl true) H
theorem ok_is_one_of {f : Addr} {fd : FuncData} (T : Txt K mg) (F : Fun K "is_one_of" "is_one_of" s_is_one_of f fd) : FnOk P w K mg base CX0 1 f fd ["thing", "guests"] (sp_is_one_of K) := by
  have scp := sc_is_one_of
  refine F.ok sc_is_one_of (fun vs H Q E h => ?_) (fun cdv A outer s H vs Q E hr h => ?_)
  · first | (obtain ⟨rfl, _⟩ := h; rfl) | (obtain ⟨_, rfl, _⟩ := h; rfl) | (obtain ⟨_, _, rfl, _⟩ := h; rfl) | (obtain ⟨_, _, _, rfl, _⟩ := h; rfl) | (obtain ⟨_, _, _, _, rfl, _⟩ := h; rfl) | (obtain ⟨_, _, _, _, _, rfl, _⟩ := h; rfl) | (obtain ⟨_, _, _, _, _, _, rfl, _⟩ := h; rfl) | (obtain ⟨_, _, _, _, _, _, _, rfl, _⟩ := h; rfl) | (obtain ⟨_, _, _, _, _, _, _, _, rfl, _⟩ := h; rfl) | (obtain ⟨_, _, _, _, _, _, _, _, _, rfl, _⟩ := h; rfl) | (obtain ⟨_, _, _, _, _, _, _, _, _, _, rfl, _⟩ := h; rfl) | (obtain ⟨_, _, _, _, _, _, _, _, _, _, _, rfl, _⟩ := h; rfl) | (obtain ⟨_, _, _, _, _, _, _, _, _, _, _, _, rfl, _⟩ := h; rfl) | (obtain ⟨_, _, _, _, _, _, _, _, _, _, _, _, _, rfl, _⟩ := h; rfl) | (obtain ⟨_, _, _, _, _, _, _, _, _, _, _, _, _, _, rfl, _⟩ := h; rfl) | (obtain ⟨_, _, _, _, _, _, _, _, _, _, _, _, _, _, _, rfl, _⟩ := h; rfl)
  · obtain ⟨z, g, o, nm, ts, p, c, rfl, G, hz, q⟩ := h
    have hu := hu_of hr
    have hv := hr.units
    have hd := G.d
    obtain ⟨i, hi, hiz⟩ := List.mem_iff_getElem.mp hz
    have hz' : nm[i]? = some z := by rw [← hiz]; exact List.getElem?_eq_getElem hi
    have ht := List.getElem?_eq_getElem (show i < ts.length by rw [G.len]; exact hi)
    refine ⟨_, (pss_one (ps_ret (pe_and (pe_callB (call_isiY (K := K)) (by rfl) T.n_isinstance (by decide +kernel) (pa_cons (pv 0) (pa_cons (pe_bty (T := "str") T.n_str (by decide +kernel)) pa_nil))) (pe_one (pe_cmpR (op_inK (K := K) hu) (pv 0) (pv 1) (by rfl)))))), ?_⟩
    walk_at "ys"
    refine y_inF hd ?_
    rw [valV_kvOf G.nd hz' ht]
    walk_at "ys"
    exact q
def sp_need_case (K : PySem.W.Frag) : Sp := fun vs H Q _ => ∃ (L : Nat) (g : Addr) (o : Obj) (nm : List Str) (ts : List Addr) (p c : Nat → Nat) (z : Str), vs = [.int L, .ref g, .str z] ∧ Gs H g o nm ts p c ∧ Deal.Ok nm.length L p c ∧ z ∈ nm ∧ 4 ≤ L ∧ L ≤ 60 ∧ ∀ H', Same H H' → Q .non H'
theorem ok_need_case {f : Addr} {fd : FuncData} (T : Txt K mg) (F : Fun K "need_case" "need_case" s_need_case f fd) : FnOk P w K mg base CX0 3 f fd ["length", "guests", "name"] (sp_need_case K) := by
  obtain ⟨f_need_length, fd_need_length, g_need_length, F_need_length⟩ := T.d_need_length
  have G_need_length := ok_need_length (P := P) (w := w) (base := base) T F_need_length
  have b_need_length := F_need_length.binds (ps := ["length"]) fun _ _ _ _ _ _ us hl => match us, hl with | [_], _ => rfl
  obtain ⟨f_are_shares, fd_are_shares, g_are_shares, F_are_shares⟩ := T.d_are_shares
  have G_are_shares := ok_are_shares (P := P) (w := w) (base := base) T F_are_shares
  have b_are_shares := F_are_shares.binds (ps := ["thing", "length"]) fun _ _ _ _ _ _ us hl => match us, hl with | [_, _], _ => rfl
  have scp := sc_need_case
  refine F.ok sc_need_case (fun vs H Q E h => ?_) (fun cdv A outer s H vs Q E hr h => ?_)
  · first | (obtain ⟨rfl, _⟩ := h; rfl) | (obtain ⟨_, rfl, _⟩ := h; rfl) | (obtain ⟨_, _, rfl, _⟩ := h; rfl) | (obtain ⟨_, _, _, rfl, _⟩ := h; rfl) | (obtain ⟨_, _, _, _, rfl, _⟩ := h; rfl) | (obtain ⟨_, _, _, _, _, rfl, _⟩ := h; rfl) | (obtain ⟨_, _, _, _, _, _, rfl, _⟩ := h; rfl) | (obtain ⟨_, _, _, _, _, _, _, rfl, _⟩ := h; rfl) | (obtain ⟨_, _, _, _, _, _, _, _, rfl, _⟩ := h; rfl) | (obtain ⟨_, _, _, _, _, _, _, _, _, rfl, _⟩ := h; rfl) | (obtain ⟨_, _, _, _, _, _, _, _, _, _, rfl, _⟩ := h; rfl) | (obtain ⟨_, _, _, _, _, _, _, _, _, _, _, rfl, _⟩ := h; rfl) | (obtain ⟨_, _, _, _, _, _, _, _, _, _, _, _, rfl, _⟩ := h; rfl) | (obtain ⟨_, _, _, _, _, _, _, _, _, _, _, _, _, rfl, _⟩ := h; rfl) | (obtain ⟨_, _, _, _, _, _, _, _, _, _, _, _, _, _, rfl, _⟩ := h; rfl) | (obtain ⟨_, _, _, _, _, _, _, _, _, _, _, _, _, _, _, rfl, _⟩ := h; rfl)
  · obtain ⟨L, g, o, nm, ts, p, c, z, rfl, G, O, hz, h4, h60, q⟩ := h
    have hu := hu_of hr
    have hv := hr.units
    obtain ⟨i, hi, hiz⟩ := List.mem_iff_getElem.mp hz
    have hz' : nm[i]? = some z := by rw [← hiz]; exact List.getElem?_eq_getElem hi
    have ht := List.getElem?_eq_getElem (show i < ts.length by rw [G.len]; exact hi)
    refine ⟨_, (pss_cons (ps_expr (pe_call (G_need_length.mono (by decide)) hr rfl g_need_length F_need_length.kp b_need_length .nil pass0 (pa_cons (pv 0) pa_nil)))
  (pss_cons (ps_if (pt_not (pt_val (pe_call (G_are_shares.mono (by decide)) hr rfl g_are_shares F_are_shares.kp b_are_shares .nil pass0 (pa_cons (pv 1) (pa_cons (pv 0) pa_nil)))))
  (pss_one ps_never)
  pss_nil)
  (pss_one (ps_if (PW.pt (pw_or (pt_not (pt_val (pe_callB (call_isiY (K := K)) (by rfl) T.n_isinstance (by decide +kernel) (pa_cons (pv 2) (pa_cons (pe_bty (T := "str") T.n_str (by decide +kernel)) pa_nil))))) (pw_or1 (pt_cmpR (op_notInK (K := K) hu) (pv 2) (pv 1) (by rfl)))))
  (pss_one ps_never)
  pss_nil)))), ?_⟩
    walk_at "ys"
    refine ⟨L, rfl, by omega, by omega, ?_⟩
    walk_at "ys"
    refine ⟨g, L, o, nm, ts, p, c, rfl, G, O, fun H1 e1 => ?_⟩
    walk_at "ys"
    refine y_niF (e1 _ _ G.d) ?_
    rw [valV_kvOf G.nd hz' ht]
    walk_at "ys"
    exact q _ e1
end
end K60
namespace K60
open PySem L2 Y

theorem int_div {a b : Nat} : ((a : Int) / (b : Int)) = ((a / b : Nat) : Int) := (Int.natCast_ediv a b).symm
theorem int_ceil {a b : Nat} (hb : 0 < b) : -(-(a : Int) / (b : Int)) = (((a + b - 1) / b : Nat) : Int) := by
  have h0 : (0 : Int) < b := by omega
  generalize hq : (a + b - 1) / b = q
  have h1 : ¬ (q * b < a) := fun z => by
    have := (Deal.div_lt_ceil hb).mpr z
    omega
  have h2 : 0 < q → (q - 1) * b < a := fun hp => (Deal.div_lt_ceil hb).mp (by omega)
  have e : (-(a : Int)) / (b : Int) = -(q : Int) := by
    apply Int.le_antisymm
    · have : (-(a : Int)) / (b : Int) < -(q : Int) + 1 := by
        apply Int.ediv_lt_of_lt_mul h0
        by_cases hp : 0 < q
        · have h3 := h2 hp
          have h4 : ((q - 1 : Nat) : Int) * b < a := by
            rw [← Int.natCast_mul]
            omega
          have h5 : (-(q : Int) + 1) * b = -(((q - 1 : Nat) : Int) * b) := by
            rw [← Int.neg_mul]
            congr 1
            omega
          rw [h5]
          omega
        · have : q = 0 := by omega
          subst this
          have h6 : (-((0 : Nat) : Int) + 1) * (b : Int) = b := by simp
          rw [h6]
          omega
      omega
    · apply Int.le_ediv_of_mul_le h0
      rw [Int.neg_mul, ← Int.natCast_mul]
      omega
  rw [e]
  omega
section
variable {P : Program} {w : World} {K : PySem.W.Frag} {mg : Str → Option Value} {base : Heap}
def sp_ahead_by_promise (K : PySem.W.Frag) : Sp := fun vs H Q _ => ∃ (a b : Addr) (sp sc tp tc k : Nat) (e : Bool), vs = [.ref a, .ref b, .int k, .bl e] ∧ H a = some (.tup [.int sp, .int sc]) ∧ H b = some (.tup [.int tp, .int tc]) ∧ 0 < sp ∧ sp ≤ 1000 ∧ tp ≤ 1000 ∧ k ≤ 1000 ∧ Q (.int (Deal.aheadP sp tp e k)) H
theorem ok_ahead_by_promise {f : Addr} {fd : FuncData} (T : Txt K mg) (F : Fun K "ahead_by_promise" "ahead_by_promise" s_ahead_by_promise f fd) : FnOk P w K mg base CX0 1 f fd ["share", "other", "used", "earlier"] (sp_ahead_by_promise K) := by
  have scp := sc_ahead_by_promise
  refine F.ok sc_ahead_by_promise (fun vs H Q E h => ?_) (fun cdv A outer s H vs Q E hr h => ?_)
  · first | (obtain ⟨rfl, _⟩ := h; rfl) | (obtain ⟨_, rfl, _⟩ := h; rfl) | (obtain ⟨_, _, rfl, _⟩ := h; rfl) | (obtain ⟨_, _, _, rfl, _⟩ := h; rfl) | (obtain ⟨_, _, _, _, rfl, _⟩ := h; rfl) | (obtain ⟨_, _, _, _, _, rfl, _⟩ := h; rfl) | (obtain ⟨_, _, _, _, _, _, rfl, _⟩ := h; rfl) | (obtain ⟨_, _, _, _, _, _, _, rfl, _⟩ := h; rfl) | (obtain ⟨_, _, _, _, _, _, _, _, rfl, _⟩ := h; rfl) | (obtain ⟨_, _, _, _, _, _, _, _, _, rfl, _⟩ := h; rfl) | (obtain ⟨_, _, _, _, _, _, _, _, _, _, rfl, _⟩ := h; rfl) | (obtain ⟨_, _, _, _, _, _, _, _, _, _, _, rfl, _⟩ := h; rfl) | (obtain ⟨_, _, _, _, _, _, _, _, _, _, _, _, rfl, _⟩ := h; rfl) | (obtain ⟨_, _, _, _, _, _, _, _, _, _, _, _, _, rfl, _⟩ := h; rfl) | (obtain ⟨_, _, _, _, _, _, _, _, _, _, _, _, _, _, rfl, _⟩ := h; rfl) | (obtain ⟨_, _, _, _, _, _, _, _, _, _, _, _, _, _, _, rfl, _⟩ := h; rfl)
  · obtain ⟨a, b, sp, sc, tp, tc, k, e, rfl, ha, hb, h0, hs, ht, hk, q⟩ := h
    have hu := hu_of hr
    have hv := hr.units
    refine ⟨_, (pss_cons (ps_asg (pv 0) (pg_tupK (K := K) (n := 2) rfl (pgs_cons (pg_name (i := 4) scp.nd rfl (by first | exact Or.inl rfl | exact Or.inr rfl)) (pgs_cons (pg_name (i := 5) scp.nd rfl (by first | exact Or.inl rfl | exact Or.inr rfl)) pgs_nil))))
  (pss_cons (ps_asg (pv 1) (pg_tupK (K := K) (n := 2) rfl (pgs_cons (pg_name (i := 6) scp.nd rfl (by first | exact Or.inl rfl | exact Or.inr rfl)) (pgs_cons (pg_name (i := 7) scp.nd rfl (by first | exact Or.inl rfl | exact Or.inr rfl)) pgs_nil))))
  (pss_cons (ps_set (i := 8) scp.nd rfl (by first | exact Or.inl rfl | exact Or.inr rfl) (pe_op op_times (pv 2) (pv 6)))
  (pss_cons (ps_set (i := 9) scp.nd rfl (by first | exact Or.inl rfl | exact Or.inr rfl) (pe_ifExp (pt_val (pv 3)) (pe_op op_plus (pe_op op_fdivY (pv 8) (pv 4)) pe_int) (pe_un un_negY (pe_op op_fdivY (pe_un un_negY (pv 8)) (pv 4)))))
  (pss_one (ps_ret (pe_callB (call_min2Y rfl) (by rfl) T.n_min (by decide +kernel) (pa_cons (pv 6) (pa_cons (pv 9) pa_nil))))))))), ?_⟩
    walk_at "ys"
    refine y_mulI (cmul_small (by omega) (by omega)) ?_
    walk_at "ys"
    unfold Deal.aheadP at q
    cases e with
    | true =>
      walk_at "ys"
      refine y_fdiv (cdiv_small (by omega) (by omega)) ?_
      walk_at "ys"
      rw [← Int.natCast_mul, int_div]
      rw [if_pos rfl] at q
      have e2 : (if ((k * tp / sp : Nat) : Int) + 1 < (tp : Int) then ((k * tp / sp : Nat) : Int) + 1 else (tp : Int)) = ((min tp (k * tp / sp + 1) : Nat) : Int) := by split <;> omega
      rw [e2]
      exact q
    | false =>
      walk_at "ys"
      refine y_fdiv (cdiv_small (by omega) (by omega)) ?_
      walk_at "ys"
      rw [← Int.natCast_mul, int_ceil h0]
      rw [if_neg Bool.false_ne_true] at q
      have e2 : (if (((k * tp + sp - 1) / sp : Nat) : Int) < (tp : Int) then (((k * tp + sp - 1) / sp : Nat) : Int) else (tp : Int)) = ((min tp ((k * tp + sp - 1) / sp) : Nat) : Int) := by split <;> omega
      rw [e2]
      exact q
def sp_ahead (K : PySem.W.Frag) : Sp := fun vs H Q _ => ∃ (a b : Addr) (sp sc tp tc k : Nat) (e : Bool), vs = [.ref a, .ref b, .int k, .bl e] ∧ H a = some (.tup [.int sp, .int sc]) ∧ H b = some (.tup [.int tp, .int tc]) ∧ sp ≤ 1000 ∧ tp ≤ 1000 ∧ k ≤ 1000 ∧ Q (.int (Deal.ahead sp tp tc e k)) H
theorem ok_ahead {f : Addr} {fd : FuncData} (T : Txt K mg) (F : Fun K "ahead" "ahead" s_ahead f fd) : FnOk P w K mg base CX0 2 f fd ["share", "other", "used", "earlier"] (sp_ahead K) := by
  obtain ⟨f_ahead_by_promise, fd_ahead_by_promise, g_ahead_by_promise, F_ahead_by_promise⟩ := T.d_ahead_by_promise
  have G_ahead_by_promise := ok_ahead_by_promise (P := P) (w := w) (base := base) T F_ahead_by_promise
  have b_ahead_by_promise := F_ahead_by_promise.binds (ps := ["share", "other", "used", "earlier"]) fun _ _ _ _ _ _ us hl => match us, hl with | [_, _, _, _], _ => rfl
  have scp := sc_ahead
  refine F.ok sc_ahead (fun vs H Q E h => ?_) (fun cdv A outer s H vs Q E hr h => ?_)
  · first | (obtain ⟨rfl, _⟩ := h; rfl) | (obtain ⟨_, rfl, _⟩ := h; rfl) | (obtain ⟨_, _, rfl, _⟩ := h; rfl) | (obtain ⟨_, _, _, rfl, _⟩ := h; rfl) | (obtain ⟨_, _, _, _, rfl, _⟩ := h; rfl) | (obtain ⟨_, _, _, _, _, rfl, _⟩ := h; rfl) | (obtain ⟨_, _, _, _, _, _, rfl, _⟩ := h; rfl) | (obtain ⟨_, _, _, _, _, _, _, rfl, _⟩ := h; rfl) | (obtain ⟨_, _, _, _, _, _, _, _, rfl, _⟩ := h; rfl) | (obtain ⟨_, _, _, _, _, _, _, _, _, rfl, _⟩ := h; rfl) | (obtain ⟨_, _, _, _, _, _, _, _, _, _, rfl, _⟩ := h; rfl) | (obtain ⟨_, _, _, _, _, _, _, _, _, _, _, rfl, _⟩ := h; rfl) | (obtain ⟨_, _, _, _, _, _, _, _, _, _, _, _, rfl, _⟩ := h; rfl) | (obtain ⟨_, _, _, _, _, _, _, _, _, _, _, _, _, rfl, _⟩ := h; rfl) | (obtain ⟨_, _, _, _, _, _, _, _, _, _, _, _, _, _, rfl, _⟩ := h; rfl) | (obtain ⟨_, _, _, _, _, _, _, _, _, _, _, _, _, _, _, rfl, _⟩ := h; rfl)
  · obtain ⟨a, b, sp, sc, tp, tc, k, e, rfl, ha, hb, hs, ht, hk, q⟩ := h
    have hu := hu_of hr
    have hv := hr.units
    refine ⟨_, (pss_cons (ps_asg (pv 0) (pg_tupK (K := K) (n := 2) rfl (pgs_cons (pg_name (i := 4) scp.nd rfl (by first | exact Or.inl rfl | exact Or.inr rfl)) (pgs_cons (pg_name (i := 5) scp.nd rfl (by first | exact Or.inl rfl | exact Or.inr rfl)) pgs_nil))))
  (pss_cons (ps_asg (pv 1) (pg_tupK (K := K) (n := 2) rfl (pgs_cons (pg_name (i := 6) scp.nd rfl (by first | exact Or.inl rfl | exact Or.inr rfl)) (pgs_cons (pg_name (i := 7) scp.nd rfl (by first | exact Or.inl rfl | exact Or.inr rfl)) pgs_nil))))
  (pss_cons (ps_if (pt_cmpR op_ltI (pv 2) (pv 4) (nomark _))
  (pss_one (ps_ret (pe_call (G_ahead_by_promise.mono (by decide)) hr rfl g_ahead_by_promise F_ahead_by_promise.kp b_ahead_by_promise .nil pass0 (pa_cons (pv 0) (pa_cons (pv 1) (pa_cons (pv 2) (pa_cons (pv 3) pa_nil)))))))
  pss_nil)
  (pss_one (ps_ret (pe_callB (call_min2Y rfl) (by rfl) T.n_min (by decide +kernel) (pa_cons (pv 7) (pa_cons (pe_callB (call_max2Y rfl) (by rfl) T.n_max (by decide +kernel) (pa_cons (pv 6) (pa_cons (pe_op op_plus (pv 2) (pe_callTy call_intY (by rfl) T.n_int (by decide +kernel) (pa_cons (pv 3) pa_nil))) pa_nil))) pa_nil)))))))), ?_⟩
    walk_at "ys"
    unfold Deal.ahead at q
    refine y_d2 (fun h1 => ?_) (fun h1 => ?_)
    · walk_at "ys"
      rw [if_pos (by omega)] at q
      exact ⟨a, b, sp, sc, tp, tc, k, e, rfl, ha, hb, by omega, hs, ht, hk, q⟩
    · walk_at "ys"
      rw [if_neg (by omega)] at q
      have e2 : ∀ j : Int, j = (if e = true then 1 else 0) → (if (if (k : Int) + j > (tp : Int) then (k : Int) + j else (tp : Int)) < (tc : Int) then (if (k : Int) + j > (tp : Int) then (k : Int) + j else (tp : Int)) else (tc : Int)) = ((min tc (max tp (k + if e = true then 1 else 0)) : Nat) : Int) := by
        intro j hj
        subst hj
        cases e
        · simp only [Bool.false_eq_true, if_false]
          split <;> split at * <;> omega
        · simp only [if_true]
          split <;> split at * <;> omega
      rw [e2 _ rfl]
      exact q
theorem fm_ite {α β : Type} (q : α → Bool) (g : α → β) : ∀ l : List α, l.filterMap (fun j => if q j = true then some (g j) else none) = (l.filter q).map g
  | [] => rfl
  | a :: r => by
    rw [List.filterMap_cons, List.filter_cons]
    by_cases h : q a = true
    · simp only [h, if_true, List.map_cons]
      rw [fm_ite q g r]
    · simp only [h, if_false]
      exact fm_ite q g r
def oth (n i : Nat) : List Nat := (List.range n).filter fun j => !decide (j = i)
theorem oth_sum (f : Nat → Nat) (i : Nat) : ∀ n : Nat, ((oth n i).map f).sum = Deal.sumTo (fun j => if j = i then 0 else f j) n
  | 0 => rfl
  | n + 1 => by
    have ih := oth_sum f i n
    unfold oth at *
    rw [List.range_succ, List.filter_append, List.map_append, List.sum_append, ih]
    show _ = Deal.sumTo (fun j => if j = i then 0 else f j) n + (if n = i then 0 else f n)
    by_cases e : n = i
    · simp [e]
    · simp [e]
theorem take_sum (f : Nat → Nat) {l : List Nat} {k j : Nat} (h : l[k]? = some j) : ((l.take (k + 1)).map f).sum = ((l.take k).map f).sum + f j := by
  rw [List.take_add_one, h, List.map_append, List.sum_append]
  simp
def nmF (nm : List Str) (j : Nat) : Str := nm.getD j ""
theorem nmF_at {nm : List Str} {j : Nat} (h : j < nm.length) : nm[j]? = some (nmF nm j) := by
  unfold nmF
  rw [List.getD_eq_getElem?_getD, List.getElem?_eq_getElem h]
  rfl
theorem nmF_of {nm : List Str} {j : Nat} {z : Str} (h : nm[j]? = some z) : nmF nm j = z := by
  unfold nmF
  rw [List.getD_eq_getElem?_getD, h]
  rfl
theorem nm_inj {nm : List Str} (nd : nm.Nodup) {i j : Nat} (hi : i < nm.length) (hj : j < nm.length) : nmF nm i = nmF nm j ↔ i = j :=
  ⟨fun e => nd_ix nd (nmF_at hi) (by rw [e]; exact nmF_at hj), fun e => by rw [e]⟩
def turnV (n L : Nat) (p c : Nat → Nat) (i m : Nat) : V := if c i < m then .non else if Deal.T n p c i (m - 1) ≤ L then .int (Deal.T n p c i (m - 1) : Nat) else .non
def sp_turn_of (K : PySem.W.Frag) : Sp := fun vs H Q _ => ∃ (L : Nat) (g : Addr) (o : Obj) (nm : List Str) (ts : List Addr) (p c : Nat → Nat) (i m : Nat), vs = [.int L, .ref g, .str (nmF nm i), .int m] ∧ Gs H g o nm ts p c ∧ Deal.Ok nm.length L p c ∧ i < nm.length ∧ 1 ≤ m ∧ m ≤ L ∧ L ≤ 60 ∧ ∀ H', Same H H' → Q (turnV nm.length L p c i m) H'
theorem ok_turn_of {f : Addr} {fd : FuncData} (T : Txt K mg) (F : Fun K "turn_of" "turn_of" s_turn_of f fd) : FnOk P w K mg base CX0 3 f fd ["length", "guests", "name", "many"] (sp_turn_of K) := by
  obtain ⟨f_ahead, fd_ahead, g_ahead, F_ahead⟩ := T.d_ahead
  have G_ahead := ok_ahead (P := P) (w := w) (base := base) T F_ahead
  have b_ahead := F_ahead.binds (ps := ["share", "other", "used", "earlier"]) fun _ _ _ _ _ _ us hl => match us, hl with | [_, _, _, _], _ => rfl
  have scp := sc_turn_of
  refine F.ok sc_turn_of (fun vs H Q E h => ?_) (fun cdv A outer s H vs Q E hr h => ?_)
  · first | (obtain ⟨rfl, _⟩ := h; rfl) | (obtain ⟨_, rfl, _⟩ := h; rfl) | (obtain ⟨_, _, rfl, _⟩ := h; rfl) | (obtain ⟨_, _, _, rfl, _⟩ := h; rfl) | (obtain ⟨_, _, _, _, rfl, _⟩ := h; rfl) | (obtain ⟨_, _, _, _, _, rfl, _⟩ := h; rfl) | (obtain ⟨_, _, _, _, _, _, rfl, _⟩ := h; rfl) | (obtain ⟨_, _, _, _, _, _, _, rfl, _⟩ := h; rfl) | (obtain ⟨_, _, _, _, _, _, _, _, rfl, _⟩ := h; rfl) | (obtain ⟨_, _, _, _, _, _, _, _, _, rfl, _⟩ := h; rfl) | (obtain ⟨_, _, _, _, _, _, _, _, _, _, rfl, _⟩ := h; rfl) | (obtain ⟨_, _, _, _, _, _, _, _, _, _, _, rfl, _⟩ := h; rfl) | (obtain ⟨_, _, _, _, _, _, _, _, _, _, _, _, rfl, _⟩ := h; rfl) | (obtain ⟨_, _, _, _, _, _, _, _, _, _, _, _, _, rfl, _⟩ := h; rfl) | (obtain ⟨_, _, _, _, _, _, _, _, _, _, _, _, _, _, rfl, _⟩ := h; rfl) | (obtain ⟨_, _, _, _, _, _, _, _, _, _, _, _, _, _, _, rfl, _⟩ := h; rfl)
  · obtain ⟨L, g, o, nm, ts, p, c, i, m, rfl, G, O, hi, hm1, hmL, h60, q⟩ := h
    have hu := hu_of hr
    have hv := hr.units
    have hd := G.d
    have hz := nmF_at hi
    have hti := List.getElem?_eq_getElem (show i < ts.length by rw [G.len]; exact hi)
    have hgi := G.t i _ hti
    have hvi := valV_kvOf G.nd hz hti
    refine ⟨_, (pss_cons (ps_if (pt_cmpR op_gtI (pv 3) (pe_ix (ix_anyK (K := K) hu) (pe_ix (ix_anyK (K := K) hu) (pv 1) (pv 2) (fun _ _ => rfl)) pe_int (fun _ _ => rfl)) (nomark _))
  (pss_one (ps_ret pe_non))
  pss_nil)
  (pss_cons (ps_set (i := 4) scp.nd rfl (by first | exact Or.inl rfl | exact Or.inr rfl) (pe_callTy (call_listK (K := K) rfl) (by rfl) T.n_list (by decide +kernel) (pa_cons (pv 1) pa_nil)))
  (pss_cons (ps_setLc (i := 5) (own := [("other", 7)]) (g := gName 7) rfl scp.nd rfl rfl (sw_true rfl rfl rfl (by decide +kernel)) (pi_listK (K := K) (pv 4)) (blkOk_by (own := [("other", 7)]) (N := ["length", "guests", "name", "many", "names", "others", "total", "other", "earlier"]) (sc := defScope s_turn_of) (by decide +kernel)) (fun _ _ _ _ _ => (pg_name (i := 7) scp.nd rfl (by first | exact Or.inl rfl | exact Or.inr rfl))) (fun _ _ _ _ _ => (pts_one (pt_cmpR (op_neK (K := K) hv) (pv 7) (pv 2) (nomark _)))) (fun _ _ _ _ _ => (pv 7)))
  (pss_cons (ps_set (i := 6) scp.nd rfl (by first | exact Or.inl rfl | exact Or.inr rfl) (pv 3))
  (pss_cons (ps_for PassesOwn.never rfl (pi_listK (K := K) (pv 5)) (pg_name (i := 7) scp.nd rfl (by first | exact Or.inl rfl | exact Or.inr rfl))
  (pss_cons (ps_set (i := 8) scp.nd rfl (by first | exact Or.inl rfl | exact Or.inr rfl) (pe_cmpR op_ltI (pe_bmK (K := K) PySem.F.plainAttrs_list PySem.F.slot_list_index PySem.F.type_list_index (mt_indexK (K := K)) (pv 4) (pa_cons (pv 7) pa_nil)) (pe_bmK (K := K) PySem.F.plainAttrs_list PySem.F.slot_list_index PySem.F.type_list_index (mt_indexK (K := K)) (pv 4) (pa_cons (pv 2) pa_nil)) (nomark _)))
  (pss_one (ps_aug (i := 6) scp.nd rfl (by first | exact Or.inl rfl | exact Or.inr rfl) (pe_call (G_ahead.mono (by decide)) hr rfl g_ahead F_ahead.kp b_ahead .nil pass0 (pa_cons (pe_ix (ix_anyK (K := K) hu) (pv 1) (pv 2) (fun _ _ => rfl)) (pa_cons (pe_ix (ix_anyK (K := K) hu) (pv 1) (pv 7) (fun _ _ => rfl)) (pa_cons (pe_op op_minus (pv 3) pe_int) (pa_cons (pv 8) pa_nil))))) ip_add))))
  (pss_one (ps_ret (pe_ifExp (pt_cmpR op_leI (pv 6) (pv 0) (nomark _)) (pv 6) pe_non)))))))), ?_⟩
    walk_at "ys"
    refine y_ixF hd hvi ?_
    walk_at "ys"
    unfold turnV at q
    refine y_d2 (fun h1 => ?_) (fun h1 => ?_)
    · walk_at "ys"
      rw [if_pos (by omega)] at q
      exact q _ (Same.refl H)
    rw [if_neg (by omega)] at q
    walk_at "ys"
    refine y_listF hd (fun ln nln => ?_)
    rw [kvOf_keys G.len]
    have hln : upd H ln (.lst (nm.map V.str)) ln = some (.lst (nm.map V.str)) := upd_same
    have e1 : Same H (upd H ln (.lst (nm.map V.str))) := same_new0 nln
    generalize upd H ln (.lst (nm.map V.str)) = H1 at *
    walk_at "ys"
    intro lo nlo
    refine lc_gen (fun j => if (!decide (j = i)) = true then some (.str (nmF nm j)) else none) walk_list nlo (sz_lt (by rw [List.length_map]; have := G.few; omega)) (fun H' e => SqL.of (e _ _ hln)) (fun j x H2 H3 Nx hj e hY k k0 => ?_) (fun H2 e2 hlo => ?_)
    · obtain ⟨rfl, hx⟩ := hY
      rw [List.length_map] at hj
      rw [List.getElem?_map, nmF_at hj] at hx
      have hx := Option.some.inj hx
      subst hx
      walk_at "ys"
      by_cases hji : j = i
      · subst hji
        walk_at "ys"
        exact k0 _ (by simp) (Same.refl _)
      · refine y_ndF (fun e => hji ((nm_inj G.nd hj hi).mp (V.str.inj e))) ?_
        walk_at "ys"
        refine k _ _ ?_ (Same.refl _)
        rw [decide_eq_false hji]
        rfl
    · rw [List.length_map, fm_ite] at hlo
      change H2 lo = some (.lst ((oth nm.length i).map fun j => .str (nmF nm j))) at hlo
      walk_at "ys"
      have e3 := e1.trans e2
      have hln2 := e2 _ _ hln
      refine for_it walk_list (fun k σ H' => ∃ u7 u8 : Option V, σ = [some (.int L), some (.ref g), some (.str (nmF nm i)), some (.int m), some (.ref ln), some (.ref lo), some (.int ((m + (((oth nm.length i).take k).map (Deal.A p c i (m - 1))).sum : Nat) : Int)), u7, u8] ∧ Same H2 H')
        ⟨none, none, rfl, Same.refl _⟩ (fun k σ H' _ ⟨_, _, _, e⟩ => SqL.of (e _ _ hlo)) (fun k x σ H3 H4 hk hP hY => ?_) (fun σ H3 hP => ?_)
      · obtain ⟨u7, u8, rfl, e4⟩ := hP
        obtain ⟨rfl, hx⟩ := hY
        have hk' : k < (oth nm.length i).length := by simpa [oth] using hk
        have hkj := List.getElem?_eq_getElem hk'
        generalize (oth nm.length i)[k] = j at hkj
        have hjm : j ∈ oth nm.length i := List.mem_of_getElem? hkj
        have hj : j < nm.length := by
          have := (List.mem_filter.mp hjm).1
          exact List.mem_range.mp this
        have hji : j ≠ i := by
          have := (List.mem_filter.mp hjm).2
          simpa using this
        rw [List.getElem?_map] at hx
        have hx2 : ((oth nm.length i)[k]?).map (fun j => V.str (nmF nm j)) = some x := hx
        rw [hkj] at hx2
        have hx := Option.some.inj hx2
        subst hx
        have htj := List.getElem?_eq_getElem (show j < ts.length by rw [G.len]; exact hj)
        have hgj := (e3.trans e4) _ _ (G.t j _ htj)
        have hgi2 := (e3.trans e4) _ _ hgi
        have hvj := valV_kvOf G.nd (nmF_at hj) htj
        have hd2 := (e3.trans e4) _ _ hd
        have hln3 := e4 _ _ hln2
        walk_at "ys"
        refine y_indexS hln3 (nmF_at hj) G.nd ?_
        walk_at "ys"
        refine y_indexS hln3 (nmF_at hi) G.nd ?_
        walk_at "ys"
        refine y_ixF hd2 hvi ?_
        walk_at "ys"
        refine y_ixF hd2 hvj ?_
        walk_at "ys"
        have q1 : ((m : Nat) : Int) - 1 = ((m - 1 : Nat) : Int) := by omega
        have q2 : decide (((j : Nat) : Int) < ((i : Nat) : Int)) = decide (j < i) := by
          by_cases z : j < i
          · rw [decide_eq_true z, decide_eq_true (by omega)]
          · rw [decide_eq_false z, decide_eq_false (by omega)]
        rw [q1, q2]
        have b1 := O.pc i hi
        have b2 := O.cL i hi
        have b3 := O.pc j hj
        have b4 := O.cL j hj
        refine ⟨_, _, p i, c i, p j, c j, m - 1, decide (j < i), rfl, hgi2, hgj, by omega, by omega, by omega, ?_⟩
        walk_at "ys"
        rw [take_sum _ hkj, ← Int.natCast_add, Nat.add_assoc]
        exact ⟨_, _, rfl, e4⟩
      · obtain ⟨u7, u8, rfl, e4⟩ := hP
        rw [List.length_map, List.take_length, oth_sum]
        have q3 : m + Deal.sumTo (fun j => if j = i then 0 else Deal.A p c i (m - 1) j) nm.length = Deal.T nm.length p c i (m - 1) := by
          unfold Deal.T
          omega
        rw [q3]
        walk_at "ys"
        refine y_d2 (fun h2 => ?_) (fun h2 => ?_)
        · rw [if_pos (by omega)] at q
          walk_at "ys"
          exact q _ (e3.trans e4)
        · rw [if_neg (by omega)] at q
          walk_at "ys"
          exact q _ (e3.trans e4)
def sp_latest (K : PySem.W.Frag) : Sp := fun vs H Q _ => ∃ (L : Nat) (g : Addr) (o : Obj) (nm : List Str) (ts : List Addr) (p c : Nat → Nat) (i m : Nat), vs = [.int L, .ref g, .str (nmF nm i), .int m] ∧ Gs H g o nm ts p c ∧ Deal.Ok nm.length L p c ∧ i < nm.length ∧ 1 ≤ m ∧ m ≤ L ∧ 4 ≤ L ∧ L ≤ 60 ∧ ∀ H', Same H H' → Q (turnV nm.length L p c i m) H'
theorem ok_latest {f : Addr} {fd : FuncData} (T : Txt K mg) (F : Fun K "latest" "latest" s_latest f fd) : FnOk P w K mg base CX0 4 f fd ["length", "guests", "name", "many"] (sp_latest K) := by
  obtain ⟨f_need_case, fd_need_case, g_need_case, F_need_case⟩ := T.d_need_case
  have G_need_case := ok_need_case (P := P) (w := w) (base := base) T F_need_case
  have b_need_case := F_need_case.binds (ps := ["length", "guests", "name"]) fun _ _ _ _ _ _ us hl => match us, hl with | [_, _, _], _ => rfl
  obtain ⟨f_turn_of, fd_turn_of, g_turn_of, F_turn_of⟩ := T.d_turn_of
  have G_turn_of := ok_turn_of (P := P) (w := w) (base := base) T F_turn_of
  have b_turn_of := F_turn_of.binds (ps := ["length", "guests", "name", "many"]) fun _ _ _ _ _ _ us hl => match us, hl with | [_, _, _, _], _ => rfl
  obtain ⟨f_is_whole, fd_is_whole, g_is_whole, F_is_whole⟩ := T.d_is_whole
  have G_is_whole := ok_is_whole (P := P) (w := w) (base := base) T F_is_whole
  have b_is_whole := F_is_whole.binds (ps := ["thing", "low", "high"]) fun _ _ _ _ _ _ us hl => match us, hl with | [_, _, _], _ => rfl
  have scp := sc_latest
  refine F.ok sc_latest (fun vs H Q E h => ?_) (fun cdv A outer s H vs Q E hr h => ?_)
  · first | (obtain ⟨rfl, _⟩ := h; rfl) | (obtain ⟨_, rfl, _⟩ := h; rfl) | (obtain ⟨_, _, rfl, _⟩ := h; rfl) | (obtain ⟨_, _, _, rfl, _⟩ := h; rfl) | (obtain ⟨_, _, _, _, rfl, _⟩ := h; rfl) | (obtain ⟨_, _, _, _, _, rfl, _⟩ := h; rfl) | (obtain ⟨_, _, _, _, _, _, rfl, _⟩ := h; rfl) | (obtain ⟨_, _, _, _, _, _, _, rfl, _⟩ := h; rfl) | (obtain ⟨_, _, _, _, _, _, _, _, rfl, _⟩ := h; rfl) | (obtain ⟨_, _, _, _, _, _, _, _, _, rfl, _⟩ := h; rfl) | (obtain ⟨_, _, _, _, _, _, _, _, _, _, rfl, _⟩ := h; rfl) | (obtain ⟨_, _, _, _, _, _, _, _, _, _, _, rfl, _⟩ := h; rfl) | (obtain ⟨_, _, _, _, _, _, _, _, _, _, _, _, rfl, _⟩ := h; rfl) | (obtain ⟨_, _, _, _, _, _, _, _, _, _, _, _, _, rfl, _⟩ := h; rfl) | (obtain ⟨_, _, _, _, _, _, _, _, _, _, _, _, _, _, rfl, _⟩ := h; rfl) | (obtain ⟨_, _, _, _, _, _, _, _, _, _, _, _, _, _, _, rfl, _⟩ := h; rfl)
  · obtain ⟨L, g, o, nm, ts, p, c, i, m, rfl, G, O, hi, hm1, hmL, h4, h60, q⟩ := h
    have hu := hu_of hr
    have hv := hr.units
    refine ⟨_, (pss_cons (ps_expr (pe_call (G_need_case.mono (by decide)) hr rfl g_need_case F_need_case.kp b_need_case .nil pass0 (pa_cons (pv 0) (pa_cons (pv 1) (pa_cons (pv 2) pa_nil)))))
  (pss_cons (ps_if (pt_not (pt_val (pe_call (G_is_whole.mono (by decide)) hr rfl g_is_whole F_is_whole.kp b_is_whole .nil pass0 (pa_cons (pv 3) (pa_cons pe_int (pa_cons (pv 0) pa_nil))))))
  (pss_one ps_never)
  pss_nil)
  (pss_one (ps_ret (pe_call (G_turn_of.mono (by decide)) hr rfl g_turn_of F_turn_of.kp b_turn_of .nil pass0 (pa_cons (pv 0) (pa_cons (pv 1) (pa_cons (pv 2) (pa_cons (pv 3) pa_nil))))))))), ?_⟩
    walk_at "ys"
    refine ⟨L, g, o, nm, ts, p, c, nmF nm i, rfl, G, O, List.mem_of_getElem? (nmF_at hi), h4, h60, fun H1 e1 => ?_⟩
    walk_at "ys"
    refine ⟨m, 1, L, rfl, ?_⟩
    rw [decide_eq_true (show (1 : Int) ≤ (m : Int) by omega), decide_eq_true (show ((m : Nat) : Int) ≤ (L : Int) by omega)]
    walk_at "ys"
    exact ⟨L, g, o, nm, ts, p, c, i, m, rfl, G.same e1, O, hi, hm1, hmL, h60, fun H2 e2 => q H2 (e1.trans e2)⟩
end
end K60
namespace K60
open PySem L2 Y

def alP (n L : Nat) (p c : Nat → Nat) (i t k : Nat) : Bool := decide (k < c i) && decide (Deal.T n p c i k ≤ L) && decide (Deal.T n p c i k ≤ t)
/-- how many turns come within the first t ones of a stretch -/
def alin (n L : Nat) (p c : Nat → Nat) (i t : Nat) : Nat := ((List.range L).filter fun k => alP n L p c i t k).length
theorem turn_cases (n L : Nat) (p c : Nat → Nat) (i k : Nat) : (turnV n L p c i (k + 1) = .non ∧ ¬ (k < c i ∧ Deal.T n p c i k ≤ L)) ∨ (turnV n L p c i (k + 1) = .int (Deal.T n p c i k : Nat) ∧ k < c i ∧ Deal.T n p c i k ≤ L) := by
  unfold turnV
  rw [Nat.add_sub_cancel]
  by_cases h1 : c i < k + 1
  · rw [if_pos h1]
    exact .inl ⟨rfl, fun z => by omega⟩
  · rw [if_neg h1]
    by_cases h2 : Deal.T n p c i k ≤ L
    · rw [if_pos h2]
      exact .inr ⟨rfl, by omega, h2⟩
    · rw [if_neg h2]
      exact .inl ⟨rfl, fun z => h2 z.2⟩
theorem alin_all {n L : Nat} {p c : Nat → Nat} (i : Nat) : alin n L p c i L = Deal.many n L p c i := by
  unfold alin Deal.many
  congr 1
  refine List.filter_congr fun k _ => ?_
  unfold alP
  rw [Bool.and_assoc, Bool.and_self]
theorem alin_zero {n L : Nat} {p c : Nat → Nat} (i : Nat) : alin n L p c i 0 = 0 := by
  unfold alin
  rw [List.length_eq_zero_iff, List.filter_eq_nil_iff]
  intro k _
  unfold alP
  have := Deal.T_ge n p c i k
  simp only [Bool.and_eq_true, decide_eq_true_eq]
  omega
section
variable {P : Program} {w : World} {K : PySem.W.Frag} {mg : Str → Option Value} {base : Heap}
def sp_at_least_in (K : PySem.W.Frag) : Sp := fun vs H Q _ => ∃ (L : Nat) (g : Addr) (o : Obj) (nm : List Str) (ts : List Addr) (p c : Nat → Nat) (i t : Nat), vs = [.int L, .ref g, .str (nmF nm i), .int t] ∧ Gs H g o nm ts p c ∧ Deal.Ok nm.length L p c ∧ i < nm.length ∧ L ≤ 60 ∧ ∀ H', Same H H' → Q (.int (alin nm.length L p c i t)) H'
theorem ok_at_least_in {f : Addr} {fd : FuncData} (T : Txt K mg) (F : Fun K "at_least_in" "at_least_in" s_at_least_in f fd) : FnOk P w K mg base CX0 4 f fd ["length", "guests", "name", "turns"] (sp_at_least_in K) := by
  obtain ⟨f_turn_of, fd_turn_of, g_turn_of, F_turn_of⟩ := T.d_turn_of
  have G_turn_of := ok_turn_of (P := P) (w := w) (base := base) T F_turn_of
  have b_turn_of := F_turn_of.binds (ps := ["length", "guests", "name", "many"]) fun _ _ _ _ _ _ us hl => match us, hl with | [_, _, _, _], _ => rfl
  have scp := sc_at_least_in
  refine F.ok sc_at_least_in (fun vs H Q E h => ?_) (fun cdv A outer s H vs Q E hr h => ?_)
  · first | (obtain ⟨rfl, _⟩ := h; rfl) | (obtain ⟨_, rfl, _⟩ := h; rfl) | (obtain ⟨_, _, rfl, _⟩ := h; rfl) | (obtain ⟨_, _, _, rfl, _⟩ := h; rfl) | (obtain ⟨_, _, _, _, rfl, _⟩ := h; rfl) | (obtain ⟨_, _, _, _, _, rfl, _⟩ := h; rfl) | (obtain ⟨_, _, _, _, _, _, rfl, _⟩ := h; rfl) | (obtain ⟨_, _, _, _, _, _, _, rfl, _⟩ := h; rfl) | (obtain ⟨_, _, _, _, _, _, _, _, rfl, _⟩ := h; rfl) | (obtain ⟨_, _, _, _, _, _, _, _, _, rfl, _⟩ := h; rfl) | (obtain ⟨_, _, _, _, _, _, _, _, _, _, rfl, _⟩ := h; rfl) | (obtain ⟨_, _, _, _, _, _, _, _, _, _, _, rfl, _⟩ := h; rfl) | (obtain ⟨_, _, _, _, _, _, _, _, _, _, _, _, rfl, _⟩ := h; rfl) | (obtain ⟨_, _, _, _, _, _, _, _, _, _, _, _, _, rfl, _⟩ := h; rfl) | (obtain ⟨_, _, _, _, _, _, _, _, _, _, _, _, _, _, rfl, _⟩ := h; rfl) | (obtain ⟨_, _, _, _, _, _, _, _, _, _, _, _, _, _, _, rfl, _⟩ := h; rfl)
  · obtain ⟨L, g, o, nm, ts, p, c, i, t, rfl, G, O, hi, h60, q⟩ := h
    have hu := hu_of hr
    have hv := hr.units
    refine ⟨_, (pss_cons (ps_setLc (i := 4) (own := [("many", 5)]) (g := gName 5) (tt := tYes) rfl scp.nd rfl rfl (sw_true rfl rfl rfl (by decide +kernel)) (pi_range2 rfl T.n_range (pa_cons pe_int (pa_cons (pe_op op_plus (pv 0) pe_int) pa_nil))) (blkOk_by (own := [("many", 5)]) (N := ["length", "guests", "name", "turns", "found", "many", "turn"]) (sc := defScope s_at_least_in) (by decide +kernel)) (fun _ _ _ _ _ => (pg_name (i := 5) scp.nd rfl (by first | exact Or.inl rfl | exact Or.inr rfl))) (fun _ _ _ _ _ => pts_nil) (fun _ _ _ _ _ => (pe_call (G_turn_of.mono (by decide)) hr rfl g_turn_of F_turn_of.kp b_turn_of .nil pass0 (pa_cons (pv 0) (pa_cons (pv 1) (pa_cons (pv 2) (pa_cons (pv 5) pa_nil)))))))
  (pss_one (ps_ret (pe_callB (call_lenK (K := K)) (by rfl) T.n_len (by decide +kernel) (pa_cons (pe_lc (own := [("turn", 6)]) (g := gName 6) rfl scp.nd (pi_listK (K := K) (pv 4)) (blkOk_by (own := [("turn", 6)]) (N := ["length", "guests", "name", "turns", "found", "many", "turn"]) (sc := defScope s_at_least_in) (by decide +kernel)) (fun _ _ _ _ _ => (pg_name (i := 6) scp.nd rfl (by first | exact Or.inl rfl | exact Or.inr rfl))) (fun _ _ _ _ _ => (pts_one (PW.pt (pw_and (pt_cmpR op_notNo (pv 6) pe_non (nomark _)) (pw_and1 (pt_cmpR op_leI (pv 6) (pv 3) (nomark _))))))) (fun _ _ _ _ _ => (pv 6))) pa_nil))))), ?_⟩
    walk_at "ys"
    refine y_gotr2 (by omega) ?_
    have eL : ((L : Int) + 1 - 1).toNat = L := by omega
    rw [eL]
    intro lf nlf
    refine lc_map (fun k => turnV nm.length L p c i (k + 1)) walk_range nlf (sz_lt (by omega)) (fun _ _ => trivial) (fun k x H1 H2 Nx hk e hY kk => ?_) (fun H1 e1 hlf => ?_)
    · obtain ⟨rfl, hx⟩ := hY
      have hx : x = V.int ((k + 1 : Nat) : Int) := hx.trans (congrArg V.int (by omega))
      subst hx
      walk_at "ys"
      exact ⟨L, g, o, nm, ts, p, c, i, k + 1, rfl, G.same e, O, hi, by omega, by omega, h60, fun H3 e3 => kk _ _ rfl e3⟩
    · walk_at "ys"
      intro ln nln
      refine lc_gen (fun k => if alP nm.length L p c i t k = true then some (.int (Deal.T nm.length p c i k : Nat)) else none) walk_list nln (sz_lt (by rw [List.length_map, List.length_range]; omega)) (fun H' e => SqL.of (e _ _ hlf)) (fun k x H2 H3 Nx hk e hY kk k0 => ?_) (fun H2 e2 hln => ?_)
      · obtain ⟨rfl, hx⟩ := hY
        rw [List.length_map, List.length_range] at hk
        rw [List.getElem?_map, List.getElem?_range hk] at hx
        have hx := Option.some.inj hx
        subst hx
        show gName 6 (turnV nm.length L p c i (k + 1)) _ _ _
        rcases turn_cases nm.length L p c i k with ⟨e, h1⟩ | ⟨e, h1, h2⟩
        · rw [e]
          walk_at "ys"
          refine k0 _ (if_neg ?_) (Same.refl _)
          unfold alP
          simp only [Bool.and_eq_true, decide_eq_true_eq]
          exact fun z => h1 z.1
        · rw [e]
          walk_at "ys"
          refine y_ndF (fun z => nomatch z) ?_
          walk_at "ys"
          refine y_d2 (fun h3 => ?_) (fun h3 => ?_)
          · walk_at "ys"
            refine kk _ _ (if_pos ?_) (Same.refl _)
            unfold alP
            simp only [Bool.and_eq_true, decide_eq_true_eq]
            exact ⟨⟨h1, h2⟩, by omega⟩
          · refine k0 _ (if_neg ?_) (Same.refl _)
            unfold alP
            simp only [Bool.and_eq_true, decide_eq_true_eq]
            exact fun z => h3 (by have := z.2; omega)
      · rw [List.length_map, List.length_range, fm_ite] at hln
        walk_at "ys"
        rw [List.length_map]
        exact q _ (e1.trans e2)
def sp_at_least (K : PySem.W.Frag) : Sp := fun vs H Q _ => ∃ (L : Nat) (g : Addr) (o : Obj) (nm : List Str) (ts : List Addr) (p c : Nat → Nat) (i t : Nat), vs = [.int L, .ref g, .str (nmF nm i), .int t] ∧ Gs H g o nm ts p c ∧ Deal.Ok nm.length L p c ∧ i < nm.length ∧ 4 ≤ L ∧ L ≤ 60 ∧ t ≤ 400 ∧ ∀ H', Same H H' → Q (.int ((t / L * alin nm.length L p c i L + alin nm.length L p c i (t % L) : Nat) : Int)) H'
theorem ok_at_least {f : Addr} {fd : FuncData} (T : Txt K mg) (F : Fun K "at_least" "at_least" s_at_least f fd) : FnOk P w K mg base CX0 5 f fd ["length", "guests", "name", "turns"] (sp_at_least K) := by
  obtain ⟨f_need_case, fd_need_case, g_need_case, F_need_case⟩ := T.d_need_case
  have G_need_case := ok_need_case (P := P) (w := w) (base := base) T F_need_case
  have b_need_case := F_need_case.binds (ps := ["length", "guests", "name"]) fun _ _ _ _ _ _ us hl => match us, hl with | [_, _, _], _ => rfl
  obtain ⟨f_is_whole, fd_is_whole, g_is_whole, F_is_whole⟩ := T.d_is_whole
  have G_is_whole := ok_is_whole (P := P) (w := w) (base := base) T F_is_whole
  have b_is_whole := F_is_whole.binds (ps := ["thing", "low", "high"]) fun _ _ _ _ _ _ us hl => match us, hl with | [_, _, _], _ => rfl
  obtain ⟨f_at_least_in, fd_at_least_in, g_at_least_in, F_at_least_in⟩ := T.d_at_least_in
  have G_at_least_in := ok_at_least_in (P := P) (w := w) (base := base) T F_at_least_in
  have b_at_least_in := F_at_least_in.binds (ps := ["length", "guests", "name", "turns"]) fun _ _ _ _ _ _ us hl => match us, hl with | [_, _, _, _], _ => rfl
  have scp := sc_at_least
  refine F.ok sc_at_least (fun vs H Q E h => ?_) (fun cdv A outer s H vs Q E hr h => ?_)
  · first | (obtain ⟨rfl, _⟩ := h; rfl) | (obtain ⟨_, rfl, _⟩ := h; rfl) | (obtain ⟨_, _, rfl, _⟩ := h; rfl) | (obtain ⟨_, _, _, rfl, _⟩ := h; rfl) | (obtain ⟨_, _, _, _, rfl, _⟩ := h; rfl) | (obtain ⟨_, _, _, _, _, rfl, _⟩ := h; rfl) | (obtain ⟨_, _, _, _, _, _, rfl, _⟩ := h; rfl) | (obtain ⟨_, _, _, _, _, _, _, rfl, _⟩ := h; rfl) | (obtain ⟨_, _, _, _, _, _, _, _, rfl, _⟩ := h; rfl) | (obtain ⟨_, _, _, _, _, _, _, _, _, rfl, _⟩ := h; rfl) | (obtain ⟨_, _, _, _, _, _, _, _, _, _, rfl, _⟩ := h; rfl) | (obtain ⟨_, _, _, _, _, _, _, _, _, _, _, rfl, _⟩ := h; rfl) | (obtain ⟨_, _, _, _, _, _, _, _, _, _, _, _, rfl, _⟩ := h; rfl) | (obtain ⟨_, _, _, _, _, _, _, _, _, _, _, _, _, rfl, _⟩ := h; rfl) | (obtain ⟨_, _, _, _, _, _, _, _, _, _, _, _, _, _, rfl, _⟩ := h; rfl) | (obtain ⟨_, _, _, _, _, _, _, _, _, _, _, _, _, _, _, rfl, _⟩ := h; rfl)
  · obtain ⟨L, g, o, nm, ts, p, c, i, t, rfl, G, O, hi, h4, h60, ht, q⟩ := h
    have hu := hu_of hr
    have hv := hr.units
    refine ⟨_, (pss_cons (ps_expr (pe_call (G_need_case.mono (by decide)) hr rfl g_need_case F_need_case.kp b_need_case .nil pass0 (pa_cons (pv 0) (pa_cons (pv 1) (pa_cons (pv 2) pa_nil)))))
  (pss_cons (ps_if (pt_not (pt_val (pe_call (G_is_whole.mono (by decide)) hr rfl g_is_whole F_is_whole.kp b_is_whole .nil pass0 (pa_cons (pv 3) (pa_cons pe_int (pa_cons (pe_gint T.c_MOST_TURNS_latest) pa_nil))))))
  (pss_one ps_never)
  pss_nil)
  (pss_cons (ps_asg (pe_callB call_divmodY (by rfl) T.n_divmod (by decide +kernel) (pa_cons (pv 3) (pa_cons (pv 0) pa_nil))) (pg_tupK (K := K) (n := 2) rfl (pgs_cons (pg_name (i := 4) scp.nd rfl (by first | exact Or.inl rfl | exact Or.inr rfl)) (pgs_cons (pg_name (i := 5) scp.nd rfl (by first | exact Or.inl rfl | exact Or.inr rfl)) pgs_nil))))
  (pss_one (ps_ret (pe_op op_plus (pe_op op_times (pv 4) (pe_call (G_at_least_in.mono (by decide)) hr rfl g_at_least_in F_at_least_in.kp b_at_least_in .nil pass0 (pa_cons (pv 0) (pa_cons (pv 1) (pa_cons (pv 2) (pa_cons (pv 0) pa_nil)))))) (pe_call (G_at_least_in.mono (by decide)) hr rfl g_at_least_in F_at_least_in.kp b_at_least_in .nil pass0 (pa_cons (pv 0) (pa_cons (pv 1) (pa_cons (pv 2) (pa_cons (pv 5) pa_nil))))))))))), ?_⟩
    walk_at "ys"
    refine ⟨L, g, o, nm, ts, p, c, nmF nm i, rfl, G, O, List.mem_of_getElem? (nmF_at hi), h4, h60, fun H1 e1 => ?_⟩
    walk_at "ys"
    refine ⟨t, 0, 400, rfl, ?_⟩
    rw [decide_eq_true (show (0 : Int) ≤ (t : Int) by omega), decide_eq_true (show ((t : Nat) : Int) ≤ (400 : Int) by omega)]
    walk_at "ys"
    refine y_divmod ⟨by omega, by omega⟩ (fun pt npt => ?_)
    have e2 : Same H (upd H1 pt (.tup [.int ((t : Int) / (L : Int)), .int ((t : Int) % (L : Int))])) := e1.trans (same_new0 npt)
    walk_at "ys"
    refine ⟨L, g, o, nm, ts, p, c, i, L, rfl, G.same e2, O, hi, h60, fun H2 e3 => ?_⟩
    walk_at "ys"
    have b1 : alin nm.length L p c i L ≤ L := by
      unfold alin
      exact Nat.le_trans (List.length_filter_le _ _) (by rw [List.length_range]; exact Nat.le_refl _)
    rw [int_div]
    have b2 : t / L ≤ t := Nat.div_le_self _ _
    refine y_mulI (cmul_small (by rw [Int.natAbs_natCast]; exact Nat.lt_of_le_of_lt b2 (Nat.lt_of_le_of_lt ht (by decide))) (by omega)) ?_
    walk_at "ys"
    have q1 : (t : Int) % (L : Int) = ((t % L : Nat) : Int) := (Int.natCast_emod t L).symm
    rw [q1]
    refine ⟨L, g, o, nm, ts, p, c, i, t % L, rfl, G.same (e2.trans e3), O, hi, h60, fun H3 e4 => ?_⟩
    walk_at "ys"
    rw [← Int.natCast_mul, ← Int.natCast_add]
    exact q _ ((e2.trans e3).trans e4)
end
end K60
namespace K60
open PySem L2 Y LamX

/-- a def whose code object is known -/
structure FunC (K : PySem.W.Frag) (x qual : Str) (st : Stmt) (f : Addr) (fd : FuncData) (c : Addr) : Prop where
  ex : ∃ (oc : Value) (od : Option Addr) (kV doc pm : Value) (an : Option Addr) (ct : Value) (osl : Array (Option Value)),
    fd = PySem.W.fnOf x qual (defArgs st) (defBody st) (defScope st) .none kV doc pm an (.ref c) ct ∧ K.lookup f = some ⟨oc, od, .func fd, osl⟩ ∧ PySem.W.codeIn K (.ref c) qual = true
  kp : PySem.W.keepIn K (.ref f) = true
theorem FunC.fn {K : PySem.W.Frag} {x qual : Str} {st : Stmt} {f : Addr} {fd : FuncData} {c : Addr} (F : FunC K x qual st f fd c) : Fun K x qual st f fd := by
  obtain ⟨oc, od, kV, doc, pm, an, ct, osl, e, lk, hcd⟩ := F.ex
  exact ⟨⟨oc, od, kV, doc, pm, an, .ref c, ct, osl, e, lk, hcd⟩, F.kp⟩
theorem FunC.binds {K : PySem.W.Frag} {x qual : Str} {st : Stmt} {f : Addr} {fd : FuncData} {c : Addr} (F : FunC K x qual st f fd c) {ps : List Str}
    (h : ∀ (kV doc pm : Value) (an : Option Addr) (cdv ct : Value) (us : List Value), us.length = ps.length → PySem.bindArgs (PySem.W.fnOf x qual (defArgs st) (defBody st) (defScope st) .none kV doc pm an cdv ct) ⟨us, []⟩ = pure (ps.zip us)) : Binds K fd ps [] := F.fn.binds h
theorem FunC.ok {P : Program} {w : World} {K : PySem.W.Frag} {mg : Str → Option Value} {base : Heap} {x qual : Str} {st : Stmt} {f : Addr} {fd : FuncData} {c : Addr} {N ps : List Str} {k : Nat} {sp : Sp} (F : FunC K x qual st f fd c) (S : FnScope N ps (defScope st)) (len : ∀ vs H Q E, sp vs H Q E → vs.length = ps.length)
    (hbody : ∀ (A : Around) (outer : List Env) (s : Shared) (H : Hp) (vs : List V) (Q : VK) (E : XK), Room k (A.deeper (PyProof.Rows.envOfC qual (defScope st) s.heap.objs.size f (.ref c))) → sp vs H Q E →
      ∃ t, PSs (cxOf CX0 P w K mg base N qual (defScope st) f (.ref c) A outer s H E).nox (defBody st) t ∧ t { nx := fun _ H' => Q .non H', rt := Q } (L2.start N vs) H) : FnOk P w K mg base CX0 (k + 1) f fd ps sp := by
  obtain ⟨oc, od, kV, doc, pm, an, ct, osl, rfl, lk, hcd⟩ := F.ex
  refine fn_of lk hcd S len fun A outer s H vs Q E hr hsp => ?_
  obtain ⟨t, h, q⟩ := hbody A outer s H vs Q E hr hsp
  exact ⟨t, h.nox, q⟩
/-- next_of's code object and its table -/
structure Cd (K : PySem.W.Frag) (mg : Str → Option Value) (base : Heap) (ca Pt : Addr) : Prop where
  d : ∃ f fd, mg "next_of" = some (.ref f) ∧ FunC K "next_of" "next_of" s_next_of f fd ca
  tb : TabB base mg ca Pt
def qL : Str := "next_of.<locals>.<lambda>"
def nameV (nm : List Str) : Option Nat → V
  | none => .non
  | some i => .str (nmF nm i)
def usedOf (nm : List Str) (u : Nat → Nat) : List (Key × V) := (List.range nm.length).map fun j => ((Sum.inr (nmF nm j) : Key), V.int (u j : Nat))
theorem valV_map_range {nm : List Str} (nd : nm.Nodup) (g : Nat → V) {i : Nat} (hi : i < nm.length) : ∀ n, n ≤ nm.length → valV ((List.range n).map fun j => ((Sum.inr (nmF nm j) : Key), g j)) (Sum.inr (nmF nm i)) = if i < n then some (g i) else none
  | 0, _ => rfl
  | n + 1, hn => by
    rw [List.range_succ, List.map_append]
    have ih := valV_map_range nd g hi n (by omega)
    by_cases h : i < n
    · rw [if_pos h] at ih
      rw [if_pos (by omega)]
      unfold valV at *
      rw [List.find?_append]
      cases e : ((List.range n).map fun j => ((Sum.inr (nmF nm j) : Key), g j)).find? fun kv => decide (kv.1 = Sum.inr (nmF nm i)) with
      | none =>
        rw [e] at ih
        cases ih
      | some x =>
        rw [e] at ih
        exact ih
    · rw [if_neg h] at ih
      unfold valV at *
      rw [List.find?_append]
      cases e : ((List.range n).map fun j => ((Sum.inr (nmF nm j) : Key), g j)).find? fun kv => decide (kv.1 = Sum.inr (nmF nm i)) with
      | some x =>
        rw [e] at ih
        cases ih
      | none =>
        by_cases h2 : i = n
        · subst h2
          simp
        · have h3 : ¬ (nmF nm n = nmF nm i) := fun z => h2 ((nm_inj nd (by omega) hi).mp z).symm
          rw [if_neg (by omega)]
          simp [h3]
theorem valV_used {nm : List Str} (nd : nm.Nodup) (u : Nat → Nat) {i : Nat} (hi : i < nm.length) : valV (usedOf nm u) (Sum.inr (nmF nm i)) = some (.int (u i : Nat)) := by
  have := valV_map_range nd (fun j => V.int (u j : Nat)) hi nm.length (Nat.le_refl _)
  rw [if_pos hi] at this
  exact this
theorem qual_lam : (PyProof.Rows.envOfC "next_of" (defScope s_next_of) 0 0 .none).qual ++ "<lambda>" = qL := by decide +kernel
section
variable {P : Program} {w : World} {K : PySem.W.Frag} {mg : Str → Option Value} {base : Heap}
/-- the least part of a promise among the first m -/
def BestP (p u : Nat → Nat) (m : Nat) : Option Nat → Prop
  | none => ∀ j, j < m → p j ≤ u j
  | some b => b < m ∧ u b < p b ∧ ∀ j, j < m → j ≠ b → u j < p j → (u b * p j < u j * p b ∨ (u b * p j = u j * p b ∧ b < j))
theorem bp_none {p u : Nat → Nat} {i : Nat} (h : BestP p u i none) (h2 : ¬ u i < p i) : BestP p u (i + 1) none := fun j hj => by
  by_cases e : j = i
  · subst e
    omega
  · exact h j (by omega)
theorem bp_some {p u : Nat → Nat} {i b : Nat} (h : BestP p u i (some b)) (h2 : u i < p i → ¬ (u i * p b < u b * p i)) : BestP p u (i + 1) (some b) := by
  obtain ⟨h3, h4, h5⟩ := h
  refine ⟨by omega, h4, fun j hj hne hp => ?_⟩
  by_cases e : j = i
  · subst e
    have := h2 hp
    by_cases e2 : u b * p j = u j * p b
    · exact .inr ⟨e2, h3⟩
    · exact .inl (by omega)
  · exact h5 j (by omega) hne hp
theorem bp_new {p u : Nat → Nat} {i : Nat} {o : Option Nat} (h : BestP p u i o) (h1 : u i < p i) (h2 : ∀ b, o = some b → u i * p b < u b * p i) : BestP p u (i + 1) (some i) := by
  refine ⟨by omega, h1, fun j hj hne hp => ?_⟩
  cases o with
  | none =>
    have := h j (by omega)
    omega
  | some b =>
    obtain ⟨h3, h4, h5⟩ := h
    have h6 := h2 b rfl
    by_cases e : j = b
    · subst e
      exact .inl h6
    · refine .inl (Deal.frac_lt (q := p b) (b := u b) (by omega) (by omega) h6 ?_)
      rcases h5 j (by omega) e hp with z | z
      · exact Nat.le_of_lt z
      · exact Nat.le_of_eq z.1
def sp_next_of (K : PySem.W.Frag) (Pt : Addr) : Sp := fun vs H Q _ => ∃ (g : Addr) (o : Obj) (nm : List Str) (ts : List Addr) (p c : Nat → Nat) (ud : Addr) (u : Nat → Nat) (L : Nat), vs = [.ref g, .ref ud] ∧ Gs H g o nm ts p c ∧ Deal.Ok nm.length L p c ∧ L ≤ 60 ∧ H ud = some (.dK (usedOf nm u)) ∧ (∀ i, i < nm.length → u i ≤ c i) ∧ Tabs [(Pt, qL)] H ∧
  ∀ r H', ExtN H H' → Tabs [(Pt, qL)] H' → Deal.Best nm.length p c u r → Q (nameV nm r) H'
theorem ok_next_of {f : Addr} {fd : FuncData} (T : Txt K mg) {ca Pt : Addr} (C : Cd K mg base ca Pt) (F : FunC K "next_of" "next_of" s_next_of f fd ca) : FnOk P w K mg base CX0 3 f fd ["guests", "used"] (sp_next_of K Pt) := by
  have scp := sc_next_of
  refine F.ok sc_next_of (fun vs H Q E h => ?_) (fun A outer s H vs Q E hr h => ?_)
  · first | (obtain ⟨rfl, _⟩ := h; rfl) | (obtain ⟨_, rfl, _⟩ := h; rfl) | (obtain ⟨_, _, rfl, _⟩ := h; rfl) | (obtain ⟨_, _, _, rfl, _⟩ := h; rfl) | (obtain ⟨_, _, _, _, rfl, _⟩ := h; rfl) | (obtain ⟨_, _, _, _, _, rfl, _⟩ := h; rfl) | (obtain ⟨_, _, _, _, _, _, rfl, _⟩ := h; rfl) | (obtain ⟨_, _, _, _, _, _, _, rfl, _⟩ := h; rfl) | (obtain ⟨_, _, _, _, _, _, _, _, rfl, _⟩ := h; rfl) | (obtain ⟨_, _, _, _, _, _, _, _, _, rfl, _⟩ := h; rfl) | (obtain ⟨_, _, _, _, _, _, _, _, _, _, rfl, _⟩ := h; rfl) | (obtain ⟨_, _, _, _, _, _, _, _, _, _, _, rfl, _⟩ := h; rfl) | (obtain ⟨_, _, _, _, _, _, _, _, _, _, _, _, rfl, _⟩ := h; rfl) | (obtain ⟨_, _, _, _, _, _, _, _, _, _, _, _, _, rfl, _⟩ := h; rfl) | (obtain ⟨_, _, _, _, _, _, _, _, _, _, _, _, _, _, rfl, _⟩ := h; rfl) | (obtain ⟨_, _, _, _, _, _, _, _, _, _, _, _, _, _, _, rfl, _⟩ := h; rfl)
  · obtain ⟨g, o, nm, ts, p, c, ud, u, L, rfl, G, O, h60, hud, huc, hT, q⟩ := h
    have hu := hu_of hr
    have hv := hr.units
    have hd := G.d
    refine ⟨_, (pss_cons (ps_set (i := 2) scp.nd rfl (by first | exact Or.inl rfl | exact Or.inr rfl) pe_non)
  (pss_cons (ps_for PassesOwn.never rfl (pi_items (pv 0)) (pg_tupK (K := K) (n := 2) rfl (pgs_cons (pg_name (i := 3) scp.nd rfl (by first | exact Or.inl rfl | exact Or.inr rfl)) (pgs_cons (pg_tupK (K := K) (n := 2) rfl (pgs_cons (pg_name (i := 4) scp.nd rfl (by first | exact Or.inl rfl | exact Or.inr rfl)) (pgs_cons (pg_name (i := 5) scp.nd rfl (by first | exact Or.inl rfl | exact Or.inr rfl)) pgs_nil))) pgs_nil)))
  (pss_one (ps_if (PW.pt (pw_and (pt_cmpR op_ltI (pe_ix (ix_anyK (K := K) hu) (pv 1) (pv 3) (fun _ _ => rfl)) (pv 4) (nomark _)) (pw_and1 (PW.pt (pw_or (pt_cmpR op_isNo (pv 2) pe_non (nomark _)) (pw_or1 (pt_cmpR op_ltI (pe_op op_times (pe_ix (ix_anyK (K := K) hu) (pv 1) (pv 3) (fun _ _ => rfl)) (pe_ix (ix_anyK (K := K) hu) (pe_ix (ix_anyK (K := K) hu) (pv 0) (pv 2) (fun _ _ => rfl)) pe_int (fun _ _ => rfl))) (pe_op op_times (pe_ix (ix_anyK (K := K) hu) (pv 1) (pv 2) (fun _ _ => rfl)) (pv 4)) (nomark _))))))))
  (pss_one (ps_set (i := 2) scp.nd rfl (by first | exact Or.inl rfl | exact Or.inr rfl) (pv 3)))
  pss_nil)))
  (pss_cons (ps_if (pt_cmpR op_notNo (pv 2) pe_non (nomark _))
  (pss_one (ps_ret (pv 2)))
  pss_nil)
  (pss_cons (ps_setLc (i := 6) (own := [("name", 3), ("promise", 4), ("ceiling", 5)]) rfl scp.nd rfl rfl (sw_true rfl rfl rfl (by decide +kernel)) (pi_items (pv 0)) (blkOk_by (own := [("name", 3), ("promise", 4), ("ceiling", 5)]) (N := ["guests", "used", "best", "name", "promise", "ceiling", "below"]) (sc := defScope s_next_of) (by decide +kernel)) (fun _ _ _ _ _ => (pg_tupK (K := K) (n := 2) rfl (pgs_cons (pg_name (i := 3) scp.nd rfl (by first | exact Or.inl rfl | exact Or.inr rfl)) (pgs_cons (pg_tupK (K := K) (n := 2) rfl (pgs_cons (pg_name (i := 4) scp.nd rfl (by first | exact Or.inl rfl | exact Or.inr rfl)) (pgs_cons (pg_name (i := 5) scp.nd rfl (by first | exact Or.inl rfl | exact Or.inr rfl)) pgs_nil))) pgs_nil)))) (fun _ _ _ _ _ => (pts_one (pt_cmpR op_ltI (pe_ix (ix_anyK (K := K) hu) (pv 1) (pv 3) (fun _ _ => rfl)) (pv 5) (nomark _)))) (fun _ _ _ _ _ => (pv 3)))
  (pss_one (ps_ret (pe_minlam (T := [(Pt, qL)]) (c := ca) (P := Pt) (i := 3) (a := "name") (k := 0) rfl (by rfl) T.n_min (pv 6) C.tb rfl (List.mem_singleton.mpr rfl) (fun p hp _ => by rw [List.mem_singleton.mp hp]; rfl) (hr.mono (by decide)) (lamS1_by (sc := defScope s_next_of) (by decide +kernel)) scp.nd rfl rfl (fun _ _ _ _ _ _ => rfl) (fun _ _ _ _ _ _ _ hr => have hu := hu_of hr; have hv := hr.units; (pe_ix (ix_anyK (K := K) hu) (pv 1) (pv 3) (fun _ _ => rfl)))))))))), ?_⟩
    walk_at "ys"
    refine for_it walk_items (fun m σ H' => ∃ (bst : Option Nat) (u3 u4 u5 : Option V), σ = [some (.ref g), some (.ref ud), some (nameV nm bst), u3, u4, u5, none] ∧ Same H H' ∧ BestP p u m bst)
      ⟨none, none, none, none, rfl, Same.refl _, fun j hj => absurd hj (Nat.not_lt_zero _)⟩ (fun i σ H' _ ⟨_, _, _, _, _, e, _⟩ => e _ _ hd) (fun i x σ H1 H2 hi hP hY => ?_) (fun σ H1 hP => ?_)
    · obtain ⟨bst, u3, u4, u5, rfl, e, hB⟩ := hP
      obtain ⟨T', a, b, rfl, nT, rfl, h1, h2⟩ := hY
      obtain ⟨z, t, hz, ht, rfl, rfl⟩ := kvOf_pair h1 h2
      have hin : i < nm.length := (List.getElem?_eq_some_iff.mp hz).1
      obtain rfl : nmF nm i = z := nmF_of hz
      have e2 : Same H (upd H1 T' (.tup [kV (Sum.inr (nmF nm i)), .ref t])) := e.trans (same_new0 nT)
      have e3 : Same H (upd H1 T' (.tup [.str (nmF nm i), .ref t])) := e2
      have h3 : (upd H1 T' (.tup [.str (nmF nm i), .ref t])) t = some (.tup [.int (p i), .int (c i)]) := e3 _ _ (G.t i t ht)
      have hud2 := e3 _ _ hud
      have hd2 := e3 _ _ hd
      have bi := huc i hin
      have bc := O.cL i hin
      have bp := O.pc i hin
      walk_at "ys"
      refine y_ixK hud2 (valV_used G.nd u hin) ?_
      walk_at "ys"
      refine y_d2 (fun g1 => ?_) (fun g1 => ?_)
      · cases bst with
        | none =>
          walk_at "ys"
          exact ⟨some i, _, _, _, rfl, e3, bp_new hB (by omega) (fun b h => nomatch h)⟩
        | some b =>
          have hb : b < nm.length := Nat.lt_trans hB.1 hin
          have htb := List.getElem?_eq_getElem (show b < ts.length by rw [G.len]; exact hb)
          have hgb := e3 _ _ (G.t b _ htb)
          have bb := huc b hb
          have bbc := O.cL b hb
          have bbp := O.pc b hb
          walk_at "ys"
          refine y_dF (fun z => nomatch z) ?_
          walk_at "ys"
          refine y_ixK hud2 (valV_used G.nd u hin) ?_
          walk_at "ys"
          refine y_ixF hd2 (valV_kvOf G.nd (nmF_at hb) htb) ?_
          walk_at "ys"
          refine y_mulI (cmul_small (by omega) (by omega)) ?_
          walk_at "ys"
          refine y_ixK hud2 (valV_used G.nd u hb) ?_
          walk_at "ys"
          refine y_mulI (cmul_small (by omega) (by omega)) ?_
          walk_at "ys"
          rw [← Int.natCast_mul, ← Int.natCast_mul]
          refine y_d2 (fun g2 => ?_) (fun g2 => ?_)
          · walk_at "ys"
            exact ⟨some i, _, _, _, rfl, e3, bp_new hB (by omega) (fun b' h => by cases h; omega)⟩
          · walk_at "ys"
            exact ⟨some b, _, _, _, rfl, e3, bp_some hB (fun _ => by omega)⟩
      · walk_at "ys"
        refine ⟨bst, _, _, _, rfl, e3, ?_⟩
        cases bst with
        | none => exact bp_none hB (by omega)
        | some b => exact bp_some hB (fun z => absurd (show ((u i : Nat) : Int) < ((p i : Nat) : Int) by omega) g1)
    · obtain ⟨bst, u3, u4, u5, rfl, e, hB⟩ := hP
      rw [kvOf_len G.len] at hB
      cases bst with
      | some b =>
        walk_at "ys"
        refine y_ndF (fun z => nomatch z) ?_
        walk_at "ys"
        obtain ⟨h1, h2, h3⟩ := hB
        have hpc := O.pc b h1
        refine q (some b) _ (ExtN.of e) (hT.ext e) ⟨h1, by omega, fun j hj hne hc => .inl ⟨h2, ?_⟩⟩
        by_cases hp : u j < p j
        · rcases h3 j hj hne hp with z | z
          · exact .inr (.inl z)
          · exact .inr (.inr ⟨z.1, decide_eq_true z.2⟩)
        · exact .inl (by omega)
      | none =>
        walk_at "ys"
        intro D nD
        have nDH : H D = none := free_of e nD
        have hd1 := e _ _ hd
        have hud1 := e _ _ hud
        refine lc_gen (fun j => if decide (u j < c j) = true then some (.str (nmF nm j)) else none) walk_items nD (sz_lt (by rw [kvOf_len G.len]; have := G.few; omega)) (fun H' e' => e' _ _ hd1) (fun i x H2 H3 Nx hi e2 hY k k0 => ?_) (fun H2 e2 hD => ?_)
        · obtain ⟨T', a, b, rfl, nT, rfl, h1, h2⟩ := hY
          obtain ⟨z, t, hz, ht, rfl, rfl⟩ := kvOf_pair h1 h2
          have hin : i < nm.length := (List.getElem?_eq_some_iff.mp hz).1
          obtain rfl : nmF nm i = z := nmF_of hz
          have e3 : Same H2 (upd H2 T' (.tup [.str (nmF nm i), .ref t])) := same_new0 nT
          have e4 := (e.trans e2).trans e3
          have h3 := e4 _ _ (G.t i t ht)
          have hud2 := e4 _ _ hud
          walk_at "ys"
          refine y_ixK hud2 (valV_used G.nd u hin) ?_
          walk_at "ys"
          refine y_d2 (fun g1 => ?_) (fun g1 => ?_)
          · walk_at "ys"
            exact k _ _ (if_pos (decide_eq_true (by omega))) e3
          · walk_at "ys"
            exact k0 _ (if_neg (by rw [decide_eq_true_eq]; omega)) e3
        · rw [kvOf_len G.len, fm_ite] at hD
          have e5 := e.trans e2
          have hud3 := e5 _ _ hud
          generalize hbel : (List.range nm.length).filter (fun j => decide (u j < c j)) = bel at hD
          have hmem : ∀ (m j : Nat), bel[m]? = some j → j < nm.length ∧ u j < c j := fun m j h => by
            have := List.mem_of_getElem? h
            rw [← hbel, List.mem_filter, List.mem_range, decide_eq_true_eq] at this
            exact this
          have hin : ∀ j, j < nm.length → u j < c j → ∃ m, bel[m]? = some j := fun j h1 h2 => by
            have : j ∈ bel := by
              rw [← hbel, List.mem_filter, List.mem_range, decide_eq_true_eq]
              exact ⟨h1, h2⟩
            exact List.mem_iff_getElem?.mp this
          have hord : ∀ (m m' j j' : Nat), m < m' → bel[m]? = some j → bel[m']? = some j' → j < j' := fun m m' j j' h h1 h2 => by
            have hp : bel.Pairwise (· < ·) := by
              rw [← hbel]
              exact List.Pairwise.filter _ List.pairwise_lt_range
            obtain ⟨a1, a2⟩ := List.getElem?_eq_some_iff.mp h1
            obtain ⟨b1, b2⟩ := List.getElem?_eq_some_iff.mp h2
            rw [← a2, ← b2]
            exact List.pairwise_iff_getElem.mp hp m m' a1 b1 h
          have gD : ∀ (m j : Nat), bel[m]? = some j → bel.getD m 0 = j := fun m j h => by
            rw [List.getD_eq_getElem?_getD, h]
            rfl
          walk_at "ys"
          refine y_minlam ?_
          walk_at "ys"
          refine ⟨D, _, rfl, hD, hT.ext e5, fun od H3 eN T3 => ?_⟩
          have e6 : Same H (upd H2 D (.frz od (.lst (bel.map fun j => .str (nmF nm j))))) := same_upd e5 nDH
          have e7 : ExtN H H3 := (ExtN.of e6).trans eN
          have hud4 : H3 ud = some (.dK (usedOf nm u)) := e7 _ _ hud (fun ps z => by cases z)
          refine ⟨fun m => (u (bel.getD m 0) : Nat), fun m v hv => ?_, fun h0 => ?_, fun m v hv hmin => ?_⟩
          · rw [List.getElem?_map] at hv
            cases hb : bel[m]? with
            | none =>
              rw [hb] at hv
              cases hv
            | some j =>
              rw [hb] at hv
              have hv := Option.some.inj hv
              subst hv
              walk_at "ys"
              refine y_ixK hud4 (valV_used G.nd u (hmem m j hb).1) ?_
              refine ⟨?_, rfl⟩
              show V.int ((u j : Nat) : Int) = V.int ((u (bel.getD m 0) : Nat) : Int)
              rw [gD m j hb]
          · refine q none _ e7 T3 fun j hj => Nat.le_of_not_lt fun z => ?_
            obtain ⟨m, hm⟩ := hin j hj z
            have : bel = [] := List.map_eq_nil_iff.mp h0
            rw [this] at hm
            simp at hm
          · rw [List.getElem?_map] at hv
            cases hb : bel[m]? with
            | none =>
              rw [hb] at hv
              cases hv
            | some b =>
              rw [hb] at hv
              have hv := Option.some.inj hv
              subst hv
              have hbm := hmem m b hb
              refine q (some b) _ e7 T3 ⟨hbm.1, hbm.2, fun j hj hne hc => .inr ⟨hB b hbm.1, hB j hj, ?_⟩⟩
              obtain ⟨m', hm'⟩ := hin j hj hc
              have hl : m' < bel.length := (List.getElem?_eq_some_iff.mp hm').1
              have h2 : ((u (bel.getD m 0) : Nat) : Int) ≤ ((u (bel.getD m' 0) : Nat) : Int) ∧ (m' < m → ((u (bel.getD m 0) : Nat) : Int) < ((u (bel.getD m' 0) : Nat) : Int)) := hmin m' (by rw [List.length_map]; exact hl)
              rw [gD m b hb, gD m' j hm'] at h2
              by_cases z : u b = u j
              · refine .inr ⟨z, decide_eq_true ?_⟩
                by_cases z2 : m < m'
                · exact hord m m' b j z2 hb hm'
                · have z3 : m' ≠ m := fun z4 => by
                    rw [z4, hb] at hm'
                    exact hne (Option.some.inj hm').symm
                  have := h2.2 (by omega)
                  omega
              · exact .inl (by omega)
end
end K60
namespace K60
open PySem L2 Y LamX

theorem extn_mut {H H' : Hp} {p : Addr} {o : HO} (e : ExtN H H') (n : H p = none) : ExtN H (upd H' p o) := fun a u h nt => by
  rw [upd_ne (ne_of_none h n)]
  exact e a u h nt
theorem used_any {nm : List Str} (nd : nm.Nodup) (u : Nat → Nat) {i : Nat} (hi : i < nm.length) (x : Nat) : putK (usedOf nm u) (Sum.inr (nmF nm i)) (.int (x : Nat)) = usedOf nm (fun j => if j = i then x else u j) := by
  unfold putK
  rw [if_pos (by rw [valV_any, valV_used nd u hi]; rfl)]
  unfold usedOf
  rw [List.map_map]
  refine List.map_congr_left fun j hj => ?_
  have hj := List.mem_range.mp hj
  show (if (Sum.inr (nmF nm j) : Key) = Sum.inr (nmF nm i) then ((Sum.inr (nmF nm j) : Key), V.int (x : Nat)) else _) = _
  by_cases e : j = i
  · subst e
    rw [if_pos rfl]
    simp
  · rw [if_neg (fun z => e ((nm_inj nd hj hi).mp (Sum.inr.inj z)))]
    simp [e]
theorem merge_used {nm : List Str} (nd : nm.Nodup) (g : Nat → V) : ∀ n, n ≤ nm.length → mergeK [] ((List.range n).map fun j => ((Sum.inr (nmF nm j) : Key), g j)) = (List.range n).map fun j => ((Sum.inr (nmF nm j) : Key), g j)
  | 0, _ => rfl
  | n + 1, hn => by
    have ih := merge_used nd g n (by omega)
    unfold mergeK at *
    rw [List.range_succ, List.map_append, List.foldl_append, ih]
    show putK _ _ _ = _
    rw [putK_new _ (by rw [valV_map_range nd g (show n < nm.length by omega) n (by omega), if_neg (Nat.lt_irrefl _)])]
    rfl
theorem paired_idx {α β : Type} {F : α → β → Prop} : ∀ {xs : List α} {ys : List β}, xs.length = ys.length → (∀ (i : Nat) x y, xs[i]? = some x → ys[i]? = some y → F x y) → Paired F xs ys
  | [], [], _, _ => .nil
  | [], _ :: _, h, _ => by simp at h
  | _ :: _, [], h, _ => by simp at h
  | x :: xs, y :: ys, h, f => .cons (f 0 x y rfl rfl) (paired_idx (by simpa using h) fun i a b h1 h2 => f (i + 1) a b h1 h2)
theorem nameV_snoc (nm : List Str) (d : List (Option Nat)) (r : Option Nat) : d.map (nameV nm) ++ [nameV nm r] = (d ++ [r]).map (nameV nm) := by
  rw [List.map_append]
  rfl
section
variable {P : Program} {w : World} {K : PySem.W.Frag} {mg : Str → Option Value} {base : Heap}
def sp_worst (K : PySem.W.Frag) (Pt : Addr) : Sp := fun vs H Q _ => ∃ (L : Nat) (g : Addr) (o : Obj) (nm : List Str) (ts : List Addr) (p c : Nat → Nat), vs = [.int L, .ref g] ∧ Gs H g o nm ts p c ∧ Deal.Ok nm.length L p c ∧ 4 ≤ L ∧ L ≤ 60 ∧ Tabs [(Pt, qL)] H ∧
  ∀ (d : List (Option Nat)) (fl : Addr) (H' : Hp), ExtN H H' → Tabs [(Pt, qL)] H' → Deal.Good nm.length p c d → d.length = L → H fl = none → H' fl = some (.lst (d.map (nameV nm))) → Q (.ref fl) H'
theorem ok_worst {f : Addr} {fd : FuncData} (T : Txt K mg) {ca Pt : Addr} (C : Cd K mg base ca Pt) (F : Fun K "worst" "worst" s_worst f fd) : FnOk P w K mg base CX0 4 f fd ["length", "guests"] (sp_worst K Pt) := by
  obtain ⟨f_need_length, fd_need_length, g_need_length, F_need_length⟩ := T.d_need_length
  have G_need_length := ok_need_length (P := P) (w := w) (base := base) T F_need_length
  have b_need_length := F_need_length.binds (ps := ["length"]) fun _ _ _ _ _ _ us hl => match us, hl with | [_], _ => rfl
  obtain ⟨f_are_shares, fd_are_shares, g_are_shares, F_are_shares⟩ := T.d_are_shares
  have G_are_shares := ok_are_shares (P := P) (w := w) (base := base) T F_are_shares
  have b_are_shares := F_are_shares.binds (ps := ["thing", "length"]) fun _ _ _ _ _ _ us hl => match us, hl with | [_, _], _ => rfl
  obtain ⟨f_next_of, fd_next_of, g_next_of, F_next_of⟩ := C.d
  have G_next_of := ok_next_of (P := P) (w := w) (base := base) T C F_next_of
  have b_next_of := F_next_of.binds (ps := ["guests", "used"]) fun _ _ _ _ _ _ us hl => match us, hl with | [_, _], _ => rfl
  have scp := sc_worst
  refine F.ok sc_worst (fun vs H Q E h => ?_) (fun cdv A outer s H vs Q E hr h => ?_)
  · first | (obtain ⟨rfl, _⟩ := h; rfl) | (obtain ⟨_, rfl, _⟩ := h; rfl) | (obtain ⟨_, _, rfl, _⟩ := h; rfl) | (obtain ⟨_, _, _, rfl, _⟩ := h; rfl) | (obtain ⟨_, _, _, _, rfl, _⟩ := h; rfl) | (obtain ⟨_, _, _, _, _, rfl, _⟩ := h; rfl) | (obtain ⟨_, _, _, _, _, _, rfl, _⟩ := h; rfl) | (obtain ⟨_, _, _, _, _, _, _, rfl, _⟩ := h; rfl) | (obtain ⟨_, _, _, _, _, _, _, _, rfl, _⟩ := h; rfl) | (obtain ⟨_, _, _, _, _, _, _, _, _, rfl, _⟩ := h; rfl) | (obtain ⟨_, _, _, _, _, _, _, _, _, _, rfl, _⟩ := h; rfl) | (obtain ⟨_, _, _, _, _, _, _, _, _, _, _, rfl, _⟩ := h; rfl) | (obtain ⟨_, _, _, _, _, _, _, _, _, _, _, _, rfl, _⟩ := h; rfl) | (obtain ⟨_, _, _, _, _, _, _, _, _, _, _, _, _, rfl, _⟩ := h; rfl) | (obtain ⟨_, _, _, _, _, _, _, _, _, _, _, _, _, _, rfl, _⟩ := h; rfl) | (obtain ⟨_, _, _, _, _, _, _, _, _, _, _, _, _, _, _, rfl, _⟩ := h; rfl)
  · obtain ⟨L, g, o, nm, ts, p, c, rfl, G, O, h4, h60, hT, q⟩ := h
    have hu := hu_of hr
    have hv := hr.units
    have hd := G.d
    refine ⟨_, (pss_cons (ps_expr (pe_call (G_need_length.mono (by decide)) hr rfl g_need_length F_need_length.kp b_need_length .nil pass0 (pa_cons (pv 0) pa_nil)))
  (pss_cons (ps_if (pt_not (pt_val (pe_call (G_are_shares.mono (by decide)) hr rfl g_are_shares F_are_shares.kp b_are_shares .nil pass0 (pa_cons (pv 1) (pa_cons (pv 0) pa_nil)))))
  (pss_one ps_never)
  pss_nil)
  (pss_cons (ps_par (i := 2) (j := 3) (by rfl) scp.nd rfl rfl (by decide) rfl rfl (pa_cons (pe_callTy (call_dictKK (K := K) rfl) (by rfl) T.n_dict (by decide +kernel) (pa_cons (pe_lc (own := [("name", 6)]) (g := gName 6) (tt := tYes) rfl scp.nd (pi_keys (pv 1)) (blkOk_by (own := [("name", 6)]) (N := ["length", "guests", "used", "found", "turn", "best", "name"]) (sc := defScope s_worst) (by decide +kernel)) (fun _ _ _ _ _ => (pg_name (i := 6) scp.nd rfl (by first | exact Or.inl rfl | exact Or.inr rfl))) (fun _ _ _ _ _ => pts_nil) (fun _ _ _ _ _ => (pe_tup (pa_cons (pv 6) (pa_cons pe_int pa_nil))))) pa_nil)) (pa_cons (pe_lst pa_nil) pa_nil)) (by rfl))
  (pss_cons (ps_for PassesOwn.never rfl (pi_range1 rfl T.n_range (pa_cons (pv 0) pa_nil)) (pg_name (i := 4) scp.nd rfl (by first | exact Or.inl rfl | exact Or.inr rfl))
  (pss_cons (ps_set (i := 5) scp.nd rfl (by first | exact Or.inl rfl | exact Or.inr rfl) (pe_call (G_next_of.mono (by decide)) hr rfl g_next_of F_next_of.kp b_next_of .nil pass0 (pa_cons (pv 1) (pa_cons (pv 2) pa_nil))))
  (pss_cons (ps_if (pt_cmpR op_notNo (pv 5) pe_non (nomark _))
  (pss_one (ps_daug hu (pv 2) (pv 5) pe_int in_add (fun _ _ _ => rfl)))
  pss_nil)
  (pss_one (ps_expr (pe_bmK (K := K) PySem.F.plainAttrs_list PySem.F.slot_list_append PySem.F.type_list_append mt_append (pv 3) (pa_cons (pv 5) pa_nil)))))))
  (pss_one (ps_ret (pv 3))))))), ?_⟩
    walk_at "ys"
    refine ⟨L, rfl, by omega, by omega, ?_⟩
    walk_at "ys"
    refine ⟨g, L, o, nm, ts, p, c, rfl, G, O, fun H1 e1 => ?_⟩
    have hd1 := e1 _ _ hd
    walk_at "ys"
    intro D nD
    refine lc_new (fun j => .tup [.str (nmF nm j), .int 0]) (fun _ _ z => by cases z) walk_keys nD (sz_lt (by rw [kvOf_len G.len]; have := G.few; omega)) (fun H' e' => e' _ _ hd1) (fun i x H2 H3 Nx hi e2 hY k => ?_) (fun H2 as e2 hl ha hD => ?_)
    · obtain ⟨rfl, kk, v, hkv, rfl⟩ := hY
      obtain ⟨z, t, hz, ht, rfl, rfl⟩ := kvOf_at hkv
      obtain rfl : nmF nm i = z := nmF_of hz
      walk_at "ys"
      refine ⟨sz_line (by simp), fun tp ntp => ?_⟩
      exact k tp _ (same_new0 ntp) upd_same
    · rw [kvOf_len G.len] at hl
      walk_at "ys"
      refine y_dictP (kvs := usedOf nm fun _ => 0) hD ?_ (fun ud nud => ?_)
      · refine paired_idx (by rw [hl]; unfold usedOf; rw [List.length_map, List.length_range]) fun j a kv h1 h2 => ?_
        have hj : j < nm.length := by
          have := (List.getElem?_eq_some_iff.mp h1).1
          omega
        unfold usedOf at h2
        rw [List.getElem?_map, List.getElem?_range hj] at h2
        have h2 := Option.some.inj h2
        subst h2
        exact SqT.of (ha j a h1)
      · have hm : mergeK [] (usedOf nm fun _ => 0) = usedOf nm fun _ => 0 := merge_used G.nd (fun _ => V.int ((0 : Nat) : Int)) nm.length (Nat.le_refl _)
        rw [hm]
        have e3 := e1.trans e2
        have nudH : H ud = none := free_of e3 nud
        have e4 : Same H (upd H2 ud (.dK (usedOf nm fun _ => 0))) := e3.trans (same_new0 nud)
        walk_at "ys"
        refine ⟨sz_line (by simp), fun fl nfl => ?_⟩
        have nflH : H fl = none := free_of e4 nfl
        have nfu : fl ≠ ud := fun z => by
          rw [z, upd_same] at nfl
          cases nfl
        have e5 : Same H (upd (upd H2 ud (.dK (usedOf nm fun _ => 0))) fl (.lst [])) := e4.trans (same_new0 nfl)
        have hud5 : (upd (upd H2 ud (.dK (usedOf nm fun _ => 0))) fl (.lst [])) ud = some (.dK (usedOf nm fun _ => 0)) := up_ne (Ne.symm nfu) upd_same
        have hfl5 : (upd (upd H2 ud (.dK (usedOf nm fun _ => 0))) fl (.lst [])) fl = some (.lst []) := upd_same
        generalize upd (upd H2 ud (.dK (usedOf nm fun _ => 0))) fl (.lst []) = H5 at *
        walk_at "ys"
        refine y_gotr1 (by omega) (by omega) ?_
        refine for_it walk_range (fun t σ H' => ∃ (d : List (Option Nat)) (u4 u5 : Option V), σ = [some (.int L), some (.ref g), some (.ref ud), some (.ref fl), u4, u5, none] ∧ ExtN H H' ∧ Tabs [(Pt, qL)] H' ∧ Deal.Good nm.length p c d ∧ d.length = t ∧ H' ud = some (.dK (usedOf nm (Deal.cnt d))) ∧ H' fl = some (.lst (d.map (nameV nm))))
          ⟨[], none, none, rfl, ExtN.of e5, hT.ext e5, Deal.good_nil _ _ _, rfl, hud5, hfl5⟩ (fun _ _ _ _ _ => trivial) (fun t x σ H6 H7 ht hP hY => ?_) (fun σ H6 hP => ?_)
        · obtain ⟨d, u4, u5, rfl, e6, T6, Gd, hdl, hud6, hfl6⟩ := hP
          obtain ⟨rfl, rfl⟩ := hY
          have G6 : Gs H7 g o nm ts p c := ⟨e6 _ _ G.d (fun ps z => by cases z), G.len, fun i a h => e6 _ _ (G.t i a h) (fun ps z => by cases z), G.nd, G.ok, G.few⟩
          walk_at "ys"
          refine ⟨g, o, nm, ts, p, c, ud, Deal.cnt d, L, rfl, G6, O, h60, hud6, Gd.le, T6, fun r H8 e8 T8 hB => ?_⟩
          have hud8 := e8 _ _ hud6 (fun ps z => by cases z)
          have hfl8 := e8 _ _ hfl6 (fun ps z => by cases z)
          have e9 := e6.trans e8
          have Gd2 := Deal.good_snoc O.pc Gd hB
          have hdl2 : d.length < 60 := by
            have : (L : Int).toNat = L := rfl
            omega
          cases r with
          | none =>
            walk_at "ys"
            refine y_append hfl8 (by rw [List.length_map]; exact sz_lt (by omega)) ?_
            walk_at "ys"
            have eq : Deal.cnt (d ++ [none]) = Deal.cnt d := funext fun i => by rw [Deal.cnt_snoc, if_neg (fun z => nomatch z)]
            refine ⟨d ++ [none], _, _, rfl, extn_mut e9 nflH, tabs_upd T8 hfl8 (fun ps z => by cases z) (fun c q z => by unfold CodeO at z; cases z), Gd2, by rw [List.length_append, hdl]; rfl, ?_, ?_⟩
            · rw [eq]
              exact up_ne (Ne.symm nfu) hud8
            · rw [upd_same, ← nameV_snoc]
          | some b =>
            have hbn : b < nm.length := hB.1
            walk_at "ys"
            refine y_ndF (fun z => nomatch z) ?_
            walk_at "ys"
            refine y_aug1 hud8 (valV_used G.nd _ hbn) ?_
            walk_at "ys"
            refine y_put2 (z := nmF nm b) (kvs := usedOf nm (Deal.cnt d)) hud8 (sz_lt (by unfold usedOf; rw [List.length_map, List.length_range]; have := G.few; omega)) ?_
            have eqv : V.int (((Deal.cnt d b : Nat) : Int) + 1) = .int ((Deal.cnt d b + 1 : Nat) : Int) := rfl
            rw [eqv, used_any G.nd _ hbn (Deal.cnt d b + 1)]
            have eq : (fun j => if j = b then Deal.cnt d b + 1 else Deal.cnt d j) = Deal.cnt (d ++ [some b]) := funext fun i => by
              rw [Deal.cnt_snoc]
              by_cases z : i = b
              · subst z
                rw [if_pos rfl, if_pos rfl]
              · rw [if_neg z, if_neg (fun y => z (Option.some.inj y).symm)]
            rw [eq]
            have T9 : Tabs [(Pt, qL)] (upd H8 ud (.dK (usedOf nm (Deal.cnt (d ++ [some b]))))) := tabs_upd T8 hud8 (fun ps z => by cases z) (fun c q z => by unfold CodeO at z; cases z)
            have hfl9 : (upd H8 ud (.dK (usedOf nm (Deal.cnt (d ++ [some b]))))) fl = some (.lst (d.map (nameV nm))) := up_ne nfu hfl8
            walk_at "ys"
            refine y_append hfl9 (by rw [List.length_map]; exact sz_lt (by omega)) ?_
            walk_at "ys"
            refine ⟨d ++ [some b], _, _, rfl, extn_mut (extn_mut e9 nudH) nflH, tabs_upd T9 hfl9 (fun ps z => by cases z) (fun c q z => by unfold CodeO at z; cases z), Gd2, by rw [List.length_append, hdl]; rfl, ?_, ?_⟩
            · exact up_ne (Ne.symm nfu) upd_same
            · rw [upd_same, ← nameV_snoc]
        · obtain ⟨d, u4, u5, rfl, e6, T6, Gd, hdl, hud6, hfl6⟩ := hP
          walk_at "ys"
          exact q d fl H6 e6 T6 Gd hdl nflH hfl6
end
end K60
namespace K60
open PySem L2 Y LamX

theorem got_fm {β : Type} (d : List (Option Nat)) (i : Nat) (f : Nat → β) : ∀ n, n ≤ d.length → (List.range n).filterMap (fun j => if d[j]? = some (some i) then some (f j) else none) = (Deal.got (d.take n) 0 i).map fun t => f (t - 1)
  | 0, _ => by simp [Deal.got]
  | n + 1, h => by
    have ih := got_fm d i f n (by omega)
    have e : d.take (n + 1) = d.take n ++ [d[n]] := by rw [List.take_succ, List.getElem?_eq_getElem (by omega)]; rfl
    rw [List.range_succ, List.filterMap_append, ih, e, Deal.got_snoc]
    have e2 : d[n]? = some d[n] := List.getElem?_eq_getElem (by omega)
    by_cases z : d[n] = some i
    · rw [if_pos z, List.map_append]
      have hl : (d.take n).length = n := by rw [List.length_take]; omega
      simp [e2, z, hl]
    · rw [if_neg z]
      simp [e2, z]
theorem got_all {β : Type} (d : List (Option Nat)) (i : Nat) (f : Nat → β) : (List.range d.length).filterMap (fun j => if d[j]? = some (some i) then some (f j) else none) = (Deal.got d 0 i).map fun t => f (t - 1) := by
  have := got_fm d i f d.length (Nat.le_refl _)
  rwa [List.take_length] at this
theorem all_true : ∀ n, (List.replicate n true).all id = true
  | 0 => rfl
  | n + 1 => by
    rw [List.replicate_succ, List.all_cons, all_true n]
    rfl
theorem any_false : ∀ n, (List.replicate n false).any id = false
  | 0 => rfl
  | n + 1 => by
    rw [List.replicate_succ, List.any_cons, any_false n]
    rfl
theorem map_const {α β : Type} (b : β) : ∀ (xs : List α), xs.map (fun _ => b) = List.replicate xs.length b
  | [] => rfl
  | x :: xs => by
    rw [List.map_cons, map_const b xs, List.length_cons, List.replicate_succ]
theorem range_const {β : Type} (b : β) (n : Nat) : (List.range n).map (fun _ => b) = List.replicate n b := by rw [map_const, List.length_range]
theorem rep_map {α β : Type} (f : α → β) (a : α) : ∀ n, (List.replicate n a).map f = List.replicate n (f a)
  | 0 => rfl
  | n + 1 => by rw [List.replicate_succ, List.map_cons, rep_map f a n, List.replicate_succ]
section
variable {P : Program} {w : World} {K : PySem.W.Frag} {mg : Str → Option Value} {base : Heap}
structure Rows (H : Hp) (r row : Addr) (m : Nat) (nm : List Str) : Prop where
  r : H r = some (.lst (List.replicate m (.ref row)))
  row : H row = some (.lst (nm.map V.str))
theorem Rows.same {H H' : Hp} {r row : Addr} {m : Nat} {nm : List Str} (R : Rows H r row m nm) (e : Same H H') : Rows H' r row m nm := ⟨e _ _ R.r, e _ _ R.row⟩
def sp_are_ready (K : PySem.W.Frag) : Sp := fun vs H Q _ => ∃ (r g row : Addr) (o : Obj) (nm : List Str) (ts : List Addr) (p c : Nat → Nat) (m : Nat), vs = [.ref r, .ref g] ∧ Gs H g o nm ts p c ∧ Rows H r row m nm ∧ m ≤ 60 ∧ ∀ H', Same H H' → Q (.bl true) H'
theorem ok_are_ready {f : Addr} {fd : FuncData} (T : Txt K mg) (F : Fun K "are_ready" "are_ready" s_are_ready f fd) : FnOk P w K mg base CX0 2 f fd ["thing", "guests"] (sp_are_ready K) := by
  obtain ⟨f_is_one_of, fd_is_one_of, g_is_one_of, F_is_one_of⟩ := T.d_is_one_of
  have G_is_one_of := ok_is_one_of (P := P) (w := w) (base := base) T F_is_one_of
  have b_is_one_of := F_is_one_of.binds (ps := ["thing", "guests"]) fun _ _ _ _ _ _ us hl => match us, hl with | [_, _], _ => rfl
  have scp := sc_are_ready
  refine F.ok sc_are_ready (fun vs H Q E h => ?_) (fun cdv A outer s H vs Q E hr h => ?_)
  · first | (obtain ⟨rfl, _⟩ := h; rfl) | (obtain ⟨_, rfl, _⟩ := h; rfl) | (obtain ⟨_, _, rfl, _⟩ := h; rfl) | (obtain ⟨_, _, _, rfl, _⟩ := h; rfl) | (obtain ⟨_, _, _, _, rfl, _⟩ := h; rfl) | (obtain ⟨_, _, _, _, _, rfl, _⟩ := h; rfl) | (obtain ⟨_, _, _, _, _, _, rfl, _⟩ := h; rfl) | (obtain ⟨_, _, _, _, _, _, _, rfl, _⟩ := h; rfl) | (obtain ⟨_, _, _, _, _, _, _, _, rfl, _⟩ := h; rfl) | (obtain ⟨_, _, _, _, _, _, _, _, _, rfl, _⟩ := h; rfl) | (obtain ⟨_, _, _, _, _, _, _, _, _, _, rfl, _⟩ := h; rfl) | (obtain ⟨_, _, _, _, _, _, _, _, _, _, _, rfl, _⟩ := h; rfl) | (obtain ⟨_, _, _, _, _, _, _, _, _, _, _, _, rfl, _⟩ := h; rfl) | (obtain ⟨_, _, _, _, _, _, _, _, _, _, _, _, _, rfl, _⟩ := h; rfl) | (obtain ⟨_, _, _, _, _, _, _, _, _, _, _, _, _, _, rfl, _⟩ := h; rfl) | (obtain ⟨_, _, _, _, _, _, _, _, _, _, _, _, _, _, _, rfl, _⟩ := h; rfl)
  · obtain ⟨r, g, row, o, nm, ts, p, c, m, rfl, G, R, h60, q⟩ := h
    have hu := hu_of hr
    have hv := hr.units
    have hd := G.d
    have hR := R.r
    have hrow := R.row
    refine ⟨_, (pss_cons (ps_if (PW.pt (pw_or (pt_not (pt_val (pe_callB (call_isiTY (K := K)) (by rfl) T.n_isinstance (by decide +kernel) (pa_cons (pv 0) (pa_cons (pe_tup (pa_cons (pe_bty (T := "list") T.n_list (by decide +kernel)) (pa_cons (pe_bty (T := "tuple") T.n_tuple (by decide +kernel)) pa_nil))) pa_nil))))) (pw_or1 (pt_cmpR op_gtI (pe_callB (call_lenK (K := K)) (by rfl) T.n_len (by decide +kernel) (pa_cons (pv 0) pa_nil)) (pe_gint T.c_MOST_TURNS_shares) (nomark _)))))
  (pss_one (ps_ret pe_bl))
  pss_nil)
  (pss_cons (ps_if (pt_not (pt_val (pe_callB (call_allY (K := K) rfl) (by rfl) T.n_all (by decide +kernel) (pa_cons (pe_lc (own := [("row", 2)]) (g := gName 2) (tt := tYes) rfl scp.nd (pi_listK (K := K) (pv 0)) (blkOk_by (own := [("row", 2)]) (N := ["thing", "guests", "row", "name"]) (sc := defScope s_are_ready) (by decide +kernel)) (fun _ _ _ _ _ => (pg_name (i := 2) scp.nd rfl (by first | exact Or.inl rfl | exact Or.inr rfl))) (fun _ _ _ _ _ => pts_nil) (fun _ _ _ _ _ => (pe_callB (call_isiTY (K := K)) (by rfl) T.n_isinstance (by decide +kernel) (pa_cons (pv 2) (pa_cons (pe_tup (pa_cons (pe_bty (T := "list") T.n_list (by decide +kernel)) (pa_cons (pe_bty (T := "tuple") T.n_tuple (by decide +kernel)) pa_nil))) pa_nil))))) pa_nil))))
  (pss_one (ps_ret pe_bl))
  pss_nil)
  (pss_one (ps_ret (pe_callB (call_allY (K := K) rfl) (by rfl) T.n_all (by decide +kernel) (pa_cons (pe_lc2 (own := [("row", 2), ("name", 3)]) (vs1 := [3]) (g := gName 2) (g1 := gName 3) (tt := tYes) (tt1 := tYes) rfl scp.nd (pi_listK (K := K) (pv 0)) (blkOk_by (own := [("row", 2), ("name", 3)]) (N := ["thing", "guests", "row", "name"]) (sc := defScope s_are_ready) (by decide +kernel)) (by decide) (fun _ _ _ _ _ => (pg_name (i := 2) scp.nd rfl (by first | exact Or.inl rfl | exact Or.inr rfl))) (fun _ _ _ _ _ => pts_nil) (fun _ _ _ _ _ => (pi_listK (K := K) (pv 2))) (fun _ _ _ _ _ => (pg_name (i := 3) scp.nd rfl (by first | exact Or.inl rfl | exact Or.inr rfl))) (fun _ _ _ _ _ => pts_nil) (fun _ _ _ _ _ => (pe_call (G_is_one_of.mono (by decide)) hr rfl g_is_one_of F_is_one_of.kp b_is_one_of .nil pass0 (pa_cons (pv 3) (pa_cons (pv 1) pa_nil))))) pa_nil)))))), ?_⟩
    walk_at "ys"
    refine ⟨sz_line (by simp), fun tp ntp => ?_⟩
    walk_at "ys"
    refine y_dF (by rw [List.length_replicate]; omega) ?_
    walk_at "ys"
    have e1 : Same H (upd H tp (.tup [.ty "list", .ty "tuple"])) := same_new0 ntp
    generalize upd H tp (.tup [.ty "list", .ty "tuple"]) = H1 at *
    intro D nD
    have hR1 := e1 _ _ hR
    refine lc_map (fun _ => .bl true) walk_list nD (sz_lt (by rw [List.length_replicate]; omega)) (fun H' e => SqL.of (e _ _ hR1)) (fun j x H2 H3 Nx hj e hY k => ?_) (fun H2 e2 hlo => ?_)
    · obtain ⟨rfl, hx⟩ := hY
      have hx : x = .ref row := (List.mem_replicate.mp (List.mem_of_getElem? hx)).2
      subst hx
      have hrow2 := e _ _ (e1 _ _ hrow)
      walk_at "ys"
      refine ⟨sz_line (by simp), fun tq ntq => ?_⟩
      walk_at "ys"
      exact k _ _ rfl (same_new0 ntq)
    · rw [range_const, ← rep_map V.bl] at hlo
      walk_at "ys"
      refine y_all hlo ?_
      rw [all_true]
      walk_at "ys"
      intro E nE
      have eE := e1.trans e2
      have hd2 := eE _ _ hd
      refine lc2_out walk_list (fun i H' => Same H2 H' ∧ H' E = some (.lst (List.replicate (i * nm.length) (.bl true)))) ⟨same_new0 nE, by rw [Nat.zero_mul]; exact upd_same⟩ (fun i H' _ h => SqL.of (h.1 _ _ (eE _ _ hR))) (fun i x H3 H4 hi hP hY => ?_) (fun H3 hP => ?_)
      · obtain ⟨rfl, hx⟩ := hY
        have hx : x = .ref row := (List.mem_replicate.mp (List.mem_of_getElem? hx)).2
        subst hx
        have hrow3 := hP.1 _ _ (eE _ _ hrow)
        rw [List.length_replicate] at hi
        walk_at "ys"
        refine lc2_in walk_list (fun j H' => Same H2 H' ∧ H' E = some (.lst (List.replicate (i * nm.length + j) (.bl true)))) hP (fun i H' _ h => SqL.of (h.1 _ _ (eE _ _ hrow))) (fun j y H5 H6 hj hP hY => ?_) (fun H5 hP => ?_)
        · obtain ⟨rfl, hy⟩ := hY
          rw [List.length_map] at hj
          rw [List.getElem?_map, nmF_at hj] at hy
          have hy := Option.some.inj hy
          subst hy
          walk_at "ys"
          refine ⟨nmF nm j, g, o, nm, ts, p, c, rfl, G.same (eE.trans hP.1), List.mem_of_getElem? (nmF_at hj), ?_⟩
          refine ⟨_, hP.2, ?_, same_upd hP.1 nE, ?_⟩
          · rw [List.length_replicate]
            have := Nat.mul_le_mul (Nat.le_of_lt (Nat.lt_of_lt_of_le hi h60)) G.few
            have := G.few
            exact sz_lt (by omega)
          · rw [upd_same, ← Nat.add_assoc, List.replicate_succ']
        · rw [List.length_map, ← Nat.succ_mul] at hP
          exact hP
      · rw [← rep_map V.bl] at hP
        refine y_all hP.2 ?_
        rw [all_true]
        exact q _ (eE.trans hP.1)
def sp_are_dealt (K : PySem.W.Frag) : Sp := fun vs H Q _ => ∃ (dl g : Addr) (o : Obj) (nm : List Str) (ts : List Addr) (p c : Nat → Nat) (d : List (Option Nat)), vs = [.ref dl, .ref g, .int d.length] ∧ Gs H g o nm ts p c ∧ H dl = some (.lst (d.map (nameV nm))) ∧ (∀ i, some i ∈ d → i < nm.length) ∧ d.length ≤ 60 ∧ ∀ H', Same H H' → Q (.bl true) H'
theorem ok_are_dealt {f : Addr} {fd : FuncData} (T : Txt K mg) (F : Fun K "are_dealt" "are_dealt" s_are_dealt f fd) : FnOk P w K mg base CX0 2 f fd ["thing", "guests", "many"] (sp_are_dealt K) := by
  obtain ⟨f_is_one_of, fd_is_one_of, g_is_one_of, F_is_one_of⟩ := T.d_is_one_of
  have G_is_one_of := ok_is_one_of (P := P) (w := w) (base := base) T F_is_one_of
  have b_is_one_of := F_is_one_of.binds (ps := ["thing", "guests"]) fun _ _ _ _ _ _ us hl => match us, hl with | [_, _], _ => rfl
  have scp := sc_are_dealt
  refine F.ok sc_are_dealt (fun vs H Q E h => ?_) (fun cdv A outer s H vs Q E hr h => ?_)
  · first | (obtain ⟨rfl, _⟩ := h; rfl) | (obtain ⟨_, rfl, _⟩ := h; rfl) | (obtain ⟨_, _, rfl, _⟩ := h; rfl) | (obtain ⟨_, _, _, rfl, _⟩ := h; rfl) | (obtain ⟨_, _, _, _, rfl, _⟩ := h; rfl) | (obtain ⟨_, _, _, _, _, rfl, _⟩ := h; rfl) | (obtain ⟨_, _, _, _, _, _, rfl, _⟩ := h; rfl) | (obtain ⟨_, _, _, _, _, _, _, rfl, _⟩ := h; rfl) | (obtain ⟨_, _, _, _, _, _, _, _, rfl, _⟩ := h; rfl) | (obtain ⟨_, _, _, _, _, _, _, _, _, rfl, _⟩ := h; rfl) | (obtain ⟨_, _, _, _, _, _, _, _, _, _, rfl, _⟩ := h; rfl) | (obtain ⟨_, _, _, _, _, _, _, _, _, _, _, rfl, _⟩ := h; rfl) | (obtain ⟨_, _, _, _, _, _, _, _, _, _, _, _, rfl, _⟩ := h; rfl) | (obtain ⟨_, _, _, _, _, _, _, _, _, _, _, _, _, rfl, _⟩ := h; rfl) | (obtain ⟨_, _, _, _, _, _, _, _, _, _, _, _, _, _, rfl, _⟩ := h; rfl) | (obtain ⟨_, _, _, _, _, _, _, _, _, _, _, _, _, _, _, rfl, _⟩ := h; rfl)
  · obtain ⟨dl, g, o, nm, ts, p, c, d, rfl, G, hdl, hn, h60, q⟩ := h
    have hu := hu_of hr
    have hv := hr.units
    have hd := G.d
    refine ⟨_, (pss_cons (ps_if (PW.pt (pw_or (pt_not (pt_val (pe_callB (call_isiTY (K := K)) (by rfl) T.n_isinstance (by decide +kernel) (pa_cons (pv 0) (pa_cons (pe_tup (pa_cons (pe_bty (T := "list") T.n_list (by decide +kernel)) (pa_cons (pe_bty (T := "tuple") T.n_tuple (by decide +kernel)) pa_nil))) pa_nil))))) (pw_or1 (pt_cmpR (op_neK (K := K) hv) (pe_callB (call_lenK (K := K)) (by rfl) T.n_len (by decide +kernel) (pa_cons (pv 0) pa_nil)) (pv 2) (nomark _)))))
  (pss_one (ps_ret pe_bl))
  pss_nil)
  (pss_one (ps_ret (pe_callB (call_allY (K := K) rfl) (by rfl) T.n_all (by decide +kernel) (pa_cons (pe_lc (own := [("name", 3)]) (g := gName 3) (tt := tYes) rfl scp.nd (pi_listK (K := K) (pv 0)) (blkOk_by (own := [("name", 3)]) (N := ["thing", "guests", "many", "name"]) (sc := defScope s_are_dealt) (by decide +kernel)) (fun _ _ _ _ _ => (pg_name (i := 3) scp.nd rfl (by first | exact Or.inl rfl | exact Or.inr rfl))) (fun _ _ _ _ _ => pts_nil) (fun _ _ _ _ _ => (pe_or (pe_cmpR op_isNo (pv 3) pe_non (nomark _)) (pe_one (pe_call (G_is_one_of.mono (by decide)) hr rfl g_is_one_of F_is_one_of.kp b_is_one_of .nil pass0 (pa_cons (pv 3) (pa_cons (pv 1) pa_nil))))))) pa_nil))))), ?_⟩
    walk_at "ys"
    refine ⟨sz_line (by simp), fun tp ntp => ?_⟩
    walk_at "ys"
    refine y_ndT (by rw [List.length_map]) ?_
    walk_at "ys"
    have e1 : Same H (upd H tp (.tup [.ty "list", .ty "tuple"])) := same_new0 ntp
    generalize upd H tp (.tup [.ty "list", .ty "tuple"]) = H1 at *
    intro D nD
    have hdl1 := e1 _ _ hdl
    refine lc_map (fun _ => .bl true) walk_list nD (sz_lt (by rw [List.length_map]; omega)) (fun H' e => SqL.of (e _ _ hdl1)) (fun j x H2 H3 Nx hj e hY k => ?_) (fun H2 e2 hlo => ?_)
    · obtain ⟨rfl, hx⟩ := hY
      rw [List.length_map] at hj
      rw [List.getElem?_map, List.getElem?_eq_getElem hj] at hx
      have hx := Option.some.inj hx
      subst hx
      walk_at "ys"
      cases hdj : d[j] with
      | none =>
        refine y_dT rfl ?_
        walk_at "ys"
        exact k _ _ rfl (Same.refl _)
      | some i =>
        have hi : i < nm.length := hn i (by rw [← hdj]; exact List.getElem_mem hj)
        refine y_dF (fun z => nomatch z) ?_
        walk_at "ys"
        refine ⟨nmF nm i, g, o, nm, ts, p, c, rfl, G.same (e1.trans e), List.mem_of_getElem? (nmF_at hi), ?_⟩
        walk_at "ys"
        exact k _ _ rfl (Same.refl _)
    · rw [range_const, ← rep_map V.bl] at hlo
      walk_at "ys"
      refine y_all hlo ?_
      rw [all_true]
      exact q _ (e1.trans e2)
def sp_breaks (K : PySem.W.Frag) : Sp := fun vs H Q _ => ∃ (L : Nat) (t r row dl : Addr) (nm : List Str) (p c : Nat → Nat) (d : List (Option Nat)) (i : Nat), vs = [.int L, .ref t, .str (nmF nm i), .ref r, .ref dl] ∧ H t = some (.tup [.int (p i), .int (c i)]) ∧ Rows H r row L nm ∧ H dl = some (.lst (d.map (nameV nm))) ∧ nm.Nodup ∧ nm.length ≤ 6 ∧ i < nm.length ∧ (∀ i, some i ∈ d → i < nm.length) ∧ d.length = L ∧ L ≤ 60 ∧ p i ≤ Deal.cnt d i ∧ Deal.cnt d i ≤ c i ∧ ∀ H', Same H H' → Q (.bl false) H'
theorem ok_breaks {f : Addr} {fd : FuncData} (T : Txt K mg) (F : Fun K "breaks" "breaks" s_breaks f fd) : FnOk P w K mg base CX0 1 f fd ["length", "share", "name", "ready", "dealt"] (sp_breaks K) := by
  have scp := sc_breaks
  refine F.ok sc_breaks (fun vs H Q E h => ?_) (fun cdv A outer s H vs Q E hr h => ?_)
  · first | (obtain ⟨rfl, _⟩ := h; rfl) | (obtain ⟨_, rfl, _⟩ := h; rfl) | (obtain ⟨_, _, rfl, _⟩ := h; rfl) | (obtain ⟨_, _, _, rfl, _⟩ := h; rfl) | (obtain ⟨_, _, _, _, rfl, _⟩ := h; rfl) | (obtain ⟨_, _, _, _, _, rfl, _⟩ := h; rfl) | (obtain ⟨_, _, _, _, _, _, rfl, _⟩ := h; rfl) | (obtain ⟨_, _, _, _, _, _, _, rfl, _⟩ := h; rfl) | (obtain ⟨_, _, _, _, _, _, _, _, rfl, _⟩ := h; rfl) | (obtain ⟨_, _, _, _, _, _, _, _, _, rfl, _⟩ := h; rfl) | (obtain ⟨_, _, _, _, _, _, _, _, _, _, rfl, _⟩ := h; rfl) | (obtain ⟨_, _, _, _, _, _, _, _, _, _, _, rfl, _⟩ := h; rfl) | (obtain ⟨_, _, _, _, _, _, _, _, _, _, _, _, rfl, _⟩ := h; rfl) | (obtain ⟨_, _, _, _, _, _, _, _, _, _, _, _, _, rfl, _⟩ := h; rfl) | (obtain ⟨_, _, _, _, _, _, _, _, _, _, _, _, _, _, rfl, _⟩ := h; rfl) | (obtain ⟨_, _, _, _, _, _, _, _, _, _, _, _, _, _, _, rfl, _⟩ := h; rfl)
  · obtain ⟨L, t, r, row, dl, nm, p, c, d, i, rfl, ht, R, hdl, nd, few, hi, hn, hL, h60, hp, hc, q⟩ := h
    have hu := hu_of hr
    have hv := hr.units
    refine ⟨_, (pss_cons (ps_asg (pv 1) (pg_tupK (K := K) (n := 2) rfl (pgs_cons (pg_name (i := 5) scp.nd rfl (by first | exact Or.inl rfl | exact Or.inr rfl)) (pgs_cons (pg_name (i := 6) scp.nd rfl (by first | exact Or.inl rfl | exact Or.inr rfl)) pgs_nil))))
  (pss_cons (ps_setLc (i := 7) (own := [("turn", 8), ("other", 9)]) rfl scp.nd rfl rfl (sw_true rfl rfl rfl (by decide +kernel)) (pi_enumK (K := K) (by rfl) T.n_enumerate (pa_cons (pv 4) pa_nil)) (blkOk_by (own := [("turn", 8), ("other", 9)]) (N := ["length", "share", "name", "ready", "dealt", "promise", "ceiling", "got", "turn", "other", "row"]) (sc := defScope s_breaks) (by decide +kernel)) (fun _ _ _ _ _ => (pg_tupK (K := K) (n := 2) rfl (pgs_cons (pg_name (i := 8) scp.nd rfl (by first | exact Or.inl rfl | exact Or.inr rfl)) (pgs_cons (pg_name (i := 9) scp.nd rfl (by first | exact Or.inl rfl | exact Or.inr rfl)) pgs_nil)))) (fun _ _ _ _ _ => (pts_one (pt_cmpR (op_eqK (K := K) hv) (pv 9) (pv 2) (nomark _)))) (fun _ _ _ _ _ => (pv 8)))
  (pss_cons (ps_if (PW.pt (pw_or (pt_cmpR op_gtI (pe_callB (call_lenK (K := K)) (by rfl) T.n_len (by decide +kernel) (pa_cons (pv 7) pa_nil)) (pv 6) (nomark _)) (pw_or1 (pt_val (pe_callB (call_anyY (K := K) rfl) (by rfl) T.n_any (by decide +kernel) (pa_cons (pe_lc (own := [("turn", 8)]) (g := gName 8) (tt := tYes) rfl scp.nd (pi_listK (K := K) (pv 7)) (blkOk_by (own := [("turn", 8)]) (N := ["length", "share", "name", "ready", "dealt", "promise", "ceiling", "got", "turn", "other", "row"]) (sc := defScope s_breaks) (by decide +kernel)) (fun _ _ _ _ _ => (pg_name (i := 8) scp.nd rfl (by first | exact Or.inl rfl | exact Or.inr rfl))) (fun _ _ _ _ _ => pts_nil) (fun _ _ _ _ _ => (pe_cmpR (op_notInK (K := K) hu) (pv 2) (pe_ix (ix_anyK (K := K) hu) (pv 3) (pv 8) (fun _ _ => rfl)) (by rfl)))) pa_nil))))))
  (pss_one (ps_ret pe_bl))
  pss_nil)
  (pss_cons (ps_if (PW.pt (pw_or (pt_cmpR op_ltI (pe_callB (call_lenK (K := K)) (by rfl) T.n_len (by decide +kernel) (pa_cons (pv 4) pa_nil)) (pv 0) (nomark _)) (pw_or1 (pt_not (pt_val (pe_callB (call_allY (K := K) rfl) (by rfl) T.n_all (by decide +kernel) (pa_cons (pe_lc (own := [("row", 10)]) (g := gName 10) (tt := tYes) rfl scp.nd (pi_listK (K := K) (pv 3)) (blkOk_by (own := [("row", 10)]) (N := ["length", "share", "name", "ready", "dealt", "promise", "ceiling", "got", "turn", "other", "row"]) (sc := defScope s_breaks) (by decide +kernel)) (fun _ _ _ _ _ => (pg_name (i := 10) scp.nd rfl (by first | exact Or.inl rfl | exact Or.inr rfl))) (fun _ _ _ _ _ => pts_nil) (fun _ _ _ _ _ => (pe_cmpR (op_inK (K := K) hu) (pv 2) (pv 10) (by rfl)))) pa_nil)))))))
  (pss_one (ps_ret pe_bl))
  pss_nil)
  (pss_one (ps_ret (pe_cmpR op_ltI (pe_callB (call_lenK (K := K)) (by rfl) T.n_len (by decide +kernel) (pa_cons (pv 7) pa_nil)) (pv 5) (nomark _)))))))), ?_⟩
    walk_at "ys"
    intro D nD
    refine lc_gen (fun j => if d[j]? = some (some i) then some (.int (j : Nat)) else none) walk_enum nD (sz_lt (by rw [List.length_map]; omega)) (fun H' e => SqL.of (e _ _ hdl)) (fun j x H2 H3 Nx hj e hY k k0 => ?_) (fun H2 e2 hgot => ?_)
    · obtain ⟨T', x1, y1, rfl, nT, rfl, hx, hy⟩ := hY
      obtain rfl := Option.some.inj hx
      rw [List.length_map] at hj
      change (d.map (nameV nm))[j]? = some y1 at hy
      rw [List.getElem?_map, List.getElem?_eq_getElem hj] at hy
      have hy := Option.some.inj hy
      subst hy
      have e3 : Same H2 (upd H2 T' (.tup [.int (j : Nat), nameV nm d[j]])) := same_new0 nT
      walk_at "ys"
      rw [List.getElem?_eq_getElem hj] at k k0
      cases hdj : d[j] with
      | none =>
        rw [hdj] at k k0 e3
        refine y_eqS rfl ?_
        walk_at "ys"
        refine y_dF (fun z => nomatch z) ?_
        exact k0 _ (if_neg (fun z => nomatch z)) e3
      | some b =>
        rw [hdj] at k k0 e3
        have hb : b < nm.length := hn b (by rw [← hdj]; exact List.getElem_mem hj)
        refine y_eqS rfl ?_
        walk_at "ys"
        refine y_d2 (fun z => ?_) (fun z => ?_)
        · have z : b = i := (nm_inj nd hb hi).mp (V.str.inj z)
          subst z
          walk_at "ys"
          exact k _ _ (if_pos rfl) e3
        · exact k0 _ (if_neg (fun y => z (by rw [Option.some.inj (Option.some.inj y)]; rfl))) e3
    · rw [List.length_map] at hgot
      generalize hG : (List.range d.length).filterMap (fun j => if d[j]? = some (some i) then some (V.int (j : Nat)) else none) = G at hgot
      have hGl : G.length = Deal.cnt d i := by
        rw [← hG, got_all d i fun j => V.int (j : Nat), List.length_map]
        rfl
      have hGs : G.length ≤ 60 := by
        rw [← hG]
        refine Nat.le_trans (List.length_filterMap_le _ _) ?_
        rw [List.length_range]
        omega
      have hGm : ∀ x, x ∈ G → ∃ j, j < L ∧ x = .int (j : Nat) := by
        intro x hx
        rw [← hG] at hx
        obtain ⟨j, hj, hx⟩ := List.mem_filterMap.mp hx
        refine ⟨j, by rw [← hL]; exact List.mem_range.mp hj, ?_⟩
        split at hx
        · exact (Option.some.inj hx).symm
        · cases hx
      have hzn : nmF nm i ∈ nm := List.mem_of_getElem? (nmF_at hi)
      walk_at "ys"
      refine y_dF (by omega) ?_
      walk_at "ys"
      intro E nE
      refine lc_map (fun _ => .bl false) walk_list nE (sz_lt (by omega)) (fun H' e => SqL.of (e _ _ hgot)) (fun j x H3 H4 Nx hj e hY k => ?_) (fun H3 e3 hno => ?_)
      · obtain ⟨rfl, hx⟩ := hY
        obtain ⟨j', hj', rfl⟩ := hGm x (List.mem_of_getElem? hx)
        have R3 := (R.same e2).same e
        walk_at "ys"
        refine y_ixL R3.r (v := .ref row) (by rw [atI_nat (by rw [List.length_replicate]; exact hj'), List.getElem?_replicate, if_pos hj']) ?_
        refine y_niStr R3.row hzn ?_
        exact k _ _ rfl (Same.refl _)
      · rw [range_const, ← rep_map V.bl] at hno
        walk_at "ys"
        refine y_any hno ?_
        rw [any_false]
        have e5 := (e2.trans e3)
        have hr5 := e5 _ _ R.r
        have hdl5 := e5 _ _ hdl
        walk_at "ys"
        refine y_dF (by rw [List.length_map]; omega) ?_
        walk_at "ys"
        intro F nF
        refine lc_map (fun _ => .bl true) walk_list nF (sz_lt (by rw [List.length_replicate]; omega)) (fun H' e => SqL.of (e _ _ hr5)) (fun j x H4 H5 Nx hj e hY k => ?_) (fun H4 e4 hyes => ?_)
        · obtain ⟨rfl, hx⟩ := hY
          have hx : x = .ref row := (List.mem_replicate.mp (List.mem_of_getElem? hx)).2
          subst hx
          have R4 := (R.same e5).same e
          walk_at "ys"
          refine y_inStr R4.row hzn ?_
          exact k _ _ rfl (Same.refl _)
        · rw [range_const, ← rep_map V.bl] at hyes
          walk_at "ys"
          refine y_all hyes ?_
          rw [all_true]
          have hgot4 := (e3.trans e4) _ _ hgot
          walk_at "ys"
          rw [decide_eq_false (by omega)]
          exact q _ (e5.trans e4)
def sp_first_broken (K : PySem.W.Frag) : Sp := fun vs H Q _ => ∃ (L : Nat) (g r row dl : Addr) (o : Obj) (nm : List Str) (ts : List Addr) (p c : Nat → Nat) (d : List (Option Nat)), vs = [.int L, .ref g, .ref r, .ref dl] ∧ Gs H g o nm ts p c ∧ Deal.Ok nm.length L p c ∧ Rows H r row L nm ∧ H dl = some (.lst (d.map (nameV nm))) ∧ (∀ i, some i ∈ d → i < nm.length) ∧ d.length = L ∧ 4 ≤ L ∧ L ≤ 60 ∧ (∀ i, i < nm.length → p i ≤ Deal.cnt d i ∧ Deal.cnt d i ≤ c i) ∧ ∀ H', Same H H' → Q .non H'
theorem ok_first_broken {f : Addr} {fd : FuncData} (T : Txt K mg) (F : Fun K "first_broken" "first_broken" s_first_broken f fd) : FnOk P w K mg base CX0 3 f fd ["length", "guests", "ready", "dealt"] (sp_first_broken K) := by
  obtain ⟨f_need_length, fd_need_length, g_need_length, F_need_length⟩ := T.d_need_length
  have G_need_length := ok_need_length (P := P) (w := w) (base := base) T F_need_length
  have b_need_length := F_need_length.binds (ps := ["length"]) fun _ _ _ _ _ _ us hl => match us, hl with | [_], _ => rfl
  obtain ⟨f_are_shares, fd_are_shares, g_are_shares, F_are_shares⟩ := T.d_are_shares
  have G_are_shares := ok_are_shares (P := P) (w := w) (base := base) T F_are_shares
  have b_are_shares := F_are_shares.binds (ps := ["thing", "length"]) fun _ _ _ _ _ _ us hl => match us, hl with | [_, _], _ => rfl
  obtain ⟨f_are_ready, fd_are_ready, g_are_ready, F_are_ready⟩ := T.d_are_ready
  have G_are_ready := ok_are_ready (P := P) (w := w) (base := base) T F_are_ready
  have b_are_ready := F_are_ready.binds (ps := ["thing", "guests"]) fun _ _ _ _ _ _ us hl => match us, hl with | [_, _], _ => rfl
  obtain ⟨f_are_dealt, fd_are_dealt, g_are_dealt, F_are_dealt⟩ := T.d_are_dealt
  have G_are_dealt := ok_are_dealt (P := P) (w := w) (base := base) T F_are_dealt
  have b_are_dealt := F_are_dealt.binds (ps := ["thing", "guests", "many"]) fun _ _ _ _ _ _ us hl => match us, hl with | [_, _, _], _ => rfl
  obtain ⟨f_breaks, fd_breaks, g_breaks, F_breaks⟩ := T.d_breaks
  have G_breaks := ok_breaks (P := P) (w := w) (base := base) T F_breaks
  have b_breaks := F_breaks.binds (ps := ["length", "share", "name", "ready", "dealt"]) fun _ _ _ _ _ _ us hl => match us, hl with | [_, _, _, _, _], _ => rfl
  have scp := sc_first_broken
  refine F.ok sc_first_broken (fun vs H Q E h => ?_) (fun cdv A outer s H vs Q E hr h => ?_)
  · first | (obtain ⟨rfl, _⟩ := h; rfl) | (obtain ⟨_, rfl, _⟩ := h; rfl) | (obtain ⟨_, _, rfl, _⟩ := h; rfl) | (obtain ⟨_, _, _, rfl, _⟩ := h; rfl) | (obtain ⟨_, _, _, _, rfl, _⟩ := h; rfl) | (obtain ⟨_, _, _, _, _, rfl, _⟩ := h; rfl) | (obtain ⟨_, _, _, _, _, _, rfl, _⟩ := h; rfl) | (obtain ⟨_, _, _, _, _, _, _, rfl, _⟩ := h; rfl) | (obtain ⟨_, _, _, _, _, _, _, _, rfl, _⟩ := h; rfl) | (obtain ⟨_, _, _, _, _, _, _, _, _, rfl, _⟩ := h; rfl) | (obtain ⟨_, _, _, _, _, _, _, _, _, _, rfl, _⟩ := h; rfl) | (obtain ⟨_, _, _, _, _, _, _, _, _, _, _, rfl, _⟩ := h; rfl) | (obtain ⟨_, _, _, _, _, _, _, _, _, _, _, _, rfl, _⟩ := h; rfl) | (obtain ⟨_, _, _, _, _, _, _, _, _, _, _, _, _, rfl, _⟩ := h; rfl) | (obtain ⟨_, _, _, _, _, _, _, _, _, _, _, _, _, _, rfl, _⟩ := h; rfl) | (obtain ⟨_, _, _, _, _, _, _, _, _, _, _, _, _, _, _, rfl, _⟩ := h; rfl)
  · obtain ⟨L, g, r, row, dl, o, nm, ts, p, c, d, rfl, G, O, R, hdl, hn, hL, h4, h60, hpc, q⟩ := h
    have hu := hu_of hr
    have hv := hr.units
    have hd := G.d
    refine ⟨_, (pss_cons (ps_expr (pe_call (G_need_length.mono (by decide)) hr rfl g_need_length F_need_length.kp b_need_length .nil pass0 (pa_cons (pv 0) pa_nil)))
  (pss_cons (ps_if (pt_not (pt_val (pe_call (G_are_shares.mono (by decide)) hr rfl g_are_shares F_are_shares.kp b_are_shares .nil pass0 (pa_cons (pv 1) (pa_cons (pv 0) pa_nil)))))
  (pss_one ps_never)
  pss_nil)
  (pss_cons (ps_if (pt_not (pt_val (pe_call (G_are_ready.mono (by decide)) hr rfl g_are_ready F_are_ready.kp b_are_ready .nil pass0 (pa_cons (pv 2) (pa_cons (pv 1) pa_nil)))))
  (pss_one ps_never)
  pss_nil)
  (pss_cons (ps_if (pt_not (pt_val (pe_call (G_are_dealt.mono (by decide)) hr rfl g_are_dealt F_are_dealt.kp b_are_dealt .nil pass0 (pa_cons (pv 3) (pa_cons (pv 1) (pa_cons (pe_callB (call_lenK (K := K)) (by rfl) T.n_len (by decide +kernel) (pa_cons (pv 2) pa_nil)) pa_nil))))))
  (pss_one ps_never)
  pss_nil)
  (pss_cons (ps_for PassesOwn.never rfl (pi_range3 rfl T.n_range (pa_cons pe_int (pa_cons (pe_callB (call_lenK (K := K)) (by rfl) T.n_len (by decide +kernel) (pa_cons (pv 3) pa_nil)) (pa_cons (pv 0) pa_nil)))) (pg_name (i := 4) scp.nd rfl (by first | exact Or.inl rfl | exact Or.inr rfl))
  (pss_cons (ps_set (i := 5) scp.nd rfl (by first | exact Or.inl rfl | exact Or.inr rfl) (pe_slice (sl_listK (K := K)) (pv 2) (po_some (pv 4)) (po_some (pe_op op_plus (pv 4) (pv 0)))))
  (pss_one (ps_for PassesOwn.never rfl (pi_items (pv 1)) (pg_tupK (K := K) (n := 2) rfl (pgs_cons (pg_name (i := 6) scp.nd rfl (by first | exact Or.inl rfl | exact Or.inr rfl)) (pgs_cons (pg_name (i := 7) scp.nd rfl (by first | exact Or.inl rfl | exact Or.inr rfl)) pgs_nil)))
  (pss_one (ps_if (pt_val (pe_call (G_breaks.mono (by decide)) hr rfl g_breaks F_breaks.kp b_breaks .nil pass0 (pa_cons (pv 0) (pa_cons (pv 7) (pa_cons (pv 6) (pa_cons (pv 5) (pa_cons (pe_slice (sl_listK (K := K)) (pv 3) (po_some (pv 4)) (po_some (pe_op op_plus (pv 4) (pv 0)))) pa_nil)))))))
  (pss_one (ps_ret (pe_tup (pa_cons (pe_op op_fdivY (pv 4) (pv 0)) (pa_cons (pv 6) pa_nil)))))
  pss_nil))))))
  (pss_one (ps_ret pe_non))))))), ?_⟩
    walk_at "ys"
    refine ⟨L, rfl, by omega, by omega, ?_⟩
    walk_at "ys"
    refine ⟨g, L, o, nm, ts, p, c, rfl, G, O, fun H1 e1 => ?_⟩
    walk_at "ys"
    refine ⟨r, g, row, o, nm, ts, p, c, L, rfl, G.same e1, R.same e1, h60, fun H2 e2 => ?_⟩
    have e2 := e1.trans e2
    have hr2 := e2 _ _ R.r
    have hdl2 := e2 _ _ hdl
    walk_at "ys"
    refine ⟨dl, g, o, nm, ts, p, c, d, by rw [List.length_replicate, hL]; rfl, G.same e2, hdl2, hn, by omega, fun H3 e3 => ?_⟩
    have e3 := e2.trans e3
    have hr3 := e3 _ _ R.r
    have hdl3 := e3 _ _ hdl
    walk_at "ys"
    refine ⟨0, L, L, 1, by rw [List.length_map, hL], rgc_one h4 h60, ?_⟩
    refine for_it walk_rangeC (fun i σ H' => ∃ u4 u5 u6 u7 : Option V, σ = [some (.int L), some (.ref g), some (.ref r), some (.ref dl), u4, u5, u6, u7] ∧ Same H3 H') ⟨_, _, _, _, rfl, Same.refl _⟩ (fun _ _ _ _ _ => trivial) (fun i x σ H4 H5 hi hP hY => ?_) (fun σ H4 hP => ?_)
    · obtain ⟨u4, u5, u6, u7, rfl, e4⟩ := hP
      obtain ⟨rfl, rfl⟩ := hY
      obtain rfl : i = 0 := by omega
      have e0 : (fun i : Nat => V.int ((0 : Int) + (i : Int) * (L : Int))) 0 = V.int 0 := congrArg V.int (by simp)
      rw [e0]
      have hr4 := e4 _ _ hr3
      have hdl4 := e4 _ _ hdl3
      have hd4 := e4 _ _ (e3 _ _ hd)
      walk_at "ys"
      refine y_slL hr4 (fun sm nsm => ?_)
      rw [show (0 : Int) + (L : Int) = (L : Int) by simp, cutV_whole (List.length_replicate)]
      have e5 : Same H5 (upd H5 sm (.lst (List.replicate L (.ref row)))) := same_new0 nsm
      have hsm : (upd H5 sm (.lst (List.replicate L (.ref row)))) sm = _ := upd_same
      have hd5 := e5 _ _ hd4
      generalize upd H5 sm (.lst (List.replicate L (.ref row))) = H6 at *
      walk_at "ys"
      refine for_it walk_items (fun i σ H' => ∃ u6 u7 : Option V, σ = [some (.int L), some (.ref g), some (.ref r), some (.ref dl), some (.int 0), some (.ref sm), u6, u7] ∧ Same H6 H') ⟨_, _, rfl, Same.refl _⟩ (fun i σ H' _ h => ?_) (fun i x σ H7 H8 hi hP hY => ?_) (fun σ H7 hP => ?_)
      · obtain ⟨_, _, _, e⟩ := h
        exact e _ _ hd5
      · obtain ⟨u6, u7, rfl, e6⟩ := hP
        obtain ⟨T', k, v, rfl, nT, rfl, hk, hv2⟩ := hY
        obtain ⟨z, t, hz, ht, rfl, rfl⟩ := kvOf_pair hk hv2
        obtain rfl : nmF nm i = z := nmF_of hz
        have hi' : i < nm.length := by
          rw [kvOf_len G.len] at hi
          exact hi
        have e7 : Same H6 (upd H7 T' (.tup [.str (nmF nm i), .ref t])) := e6.trans (same_new0 nT)
        have hT : (upd H7 T' (.tup [.str (nmF nm i), .ref t])) T' = _ := upd_same
        have e8 := (e4.trans e5).trans e7
        have hdl7 := e8 _ _ hdl3
        have hsm7 := e7 _ _ hsm
        generalize upd H7 T' (.tup [.str (nmF nm i), .ref t]) = H8 at *
        walk_at "ys"
        refine y_slL hdl7 (fun sl nsl => ?_)
        rw [show (0 : Int) + (L : Int) = (L : Int) by simp, cutV_whole (by rw [List.length_map, hL])]
        have e9 := e8.trans (same_new0 (o := .lst (d.map (nameV nm))) nsl)
        have e10 := e7.trans (same_new0 (o := .lst (d.map (nameV nm))) nsl)
        have hsm9 := e10 _ _ hsm
        have hrow9 := e9 _ _ (e3 _ _ R.row)
        have ht9 := e9 _ _ (e3 _ _ (G.t i t ht))
        refine ⟨L, t, sm, row, sl, nm, p, c, d, i, rfl, ht9, ⟨hsm9, hrow9⟩, upd_same, G.nd, G.few, hi', hn, hL, h60, (hpc i hi').1, (hpc i hi').2, fun H9 e11 => ?_⟩
        walk_at "ys"
        exact ⟨_, _, rfl, e10.trans e11⟩
      · obtain ⟨u6, u7, rfl, e6⟩ := hP
        walk_at "ys"
        exact ⟨_, _, _, _, rfl, (e4.trans e5).trans e6⟩
    · obtain ⟨u4, u5, u6, u7, rfl, e4⟩ := hP
      walk_at "ys"
      exact q _ (e3.trans e4)
end
end K60
namespace K60
open PySem L2 Y LamX

/-- all but b as it was -/
def SameBut (b : Addr) (H H' : Hp) : Prop := ∀ a u, a ≠ b → H a = some u → H' a = some u
theorem SameBut.of {b : Addr} {H H' : Hp} (e : Same H H') : SameBut b H H' := fun a u _ h => e a u h
theorem SameBut.refl (b : Addr) (H : Hp) : SameBut b H H := fun _ _ _ h => h
theorem SameBut.trans {b : Addr} {H H' H2 : Hp} (e : SameBut b H H') (e2 : SameBut b H' H2) : SameBut b H H2 := fun a u n h => e2 a u n (e a u n h)
theorem SameBut.put (b : Addr) (H : Hp) (o : HO) : SameBut b H (upd H b o) := fun a u n h => by rw [upd_ne n]; exact h
structure Box (H : Hp) (b : Addr) (B : Nat) : Prop where
  at_ : ∃ g d c : Nat, H b = some (.lst [.int g, .int d, .int c]) ∧ d < 2147483629 ∧ c ≤ B
theorem Box.same {H H' : Hp} {b : Addr} {B : Nat} (X : Box H b B) (e : Same H H') : Box H' b B := by
  obtain ⟨g, d, c, h, h1, h2⟩ := X.at_
  exact ⟨g, d, c, e _ _ h, h1, h2⟩
theorem cut_one (ns : List Int) : cutV (ns.map V.int) none (some 1) = (ns.take 1).map V.int := by
  unfold cutV HT.sIx
  cases ns <;> simp
section
variable {P : Program} {w : World} {K : PySem.W.Frag} {mg : Str → Option Value} {base : Heap}
def sp__law_cell (K : PySem.W.Frag) : Sp := fun vs H Q _ => ∃ (s : Addr) (ns : List Int) (k : Nat), vs = [.ref s, .int k] ∧ SqL K H s (ns.map V.int) ∧ k ≤ 1000 ∧ ∀ z H', Same H H' → Q (.int z) H'
theorem ok__law_cell {f : Addr} {fd : FuncData} (T : Txt K mg) (F : Fun K "_law_cell" "_law_cell" s__law_cell f fd) : FnOk P w K mg base CX0 1 f fd ["script", "k"] (sp__law_cell K) := by
  have scp := sc__law_cell
  refine F.ok sc__law_cell (fun vs H Q E h => ?_) (fun cdv A outer s H vs Q E hr h => ?_)
  · first | (obtain ⟨rfl, _⟩ := h; rfl) | (obtain ⟨_, rfl, _⟩ := h; rfl) | (obtain ⟨_, _, rfl, _⟩ := h; rfl) | (obtain ⟨_, _, _, rfl, _⟩ := h; rfl) | (obtain ⟨_, _, _, _, rfl, _⟩ := h; rfl) | (obtain ⟨_, _, _, _, _, rfl, _⟩ := h; rfl) | (obtain ⟨_, _, _, _, _, _, rfl, _⟩ := h; rfl) | (obtain ⟨_, _, _, _, _, _, _, rfl, _⟩ := h; rfl) | (obtain ⟨_, _, _, _, _, _, _, _, rfl, _⟩ := h; rfl) | (obtain ⟨_, _, _, _, _, _, _, _, _, rfl, _⟩ := h; rfl) | (obtain ⟨_, _, _, _, _, _, _, _, _, _, rfl, _⟩ := h; rfl) | (obtain ⟨_, _, _, _, _, _, _, _, _, _, _, rfl, _⟩ := h; rfl) | (obtain ⟨_, _, _, _, _, _, _, _, _, _, _, _, rfl, _⟩ := h; rfl) | (obtain ⟨_, _, _, _, _, _, _, _, _, _, _, _, _, rfl, _⟩ := h; rfl) | (obtain ⟨_, _, _, _, _, _, _, _, _, _, _, _, _, _, rfl, _⟩ := h; rfl) | (obtain ⟨_, _, _, _, _, _, _, _, _, _, _, _, _, _, _, rfl, _⟩ := h; rfl)
  · obtain ⟨s, ns, k, rfl, hs, hk, q⟩ := h
    have hu := hu_of hr
    have hv := hr.units
    refine ⟨_, (pss_one (ps_ret (pe_ifExp (pt_cmpR op_ltI (pv 1) (pe_callB (call_lenK (K := K)) (by rfl) T.n_len (by decide +kernel) (pa_cons (pv 0) pa_nil)) (nomark _)) (pe_ix (ix_anyK (K := K) hu) (pv 0) (pv 1) (fun _ _ => rfl)) (pe_op op_plus (pe_op op_plus (pe_op op_times pe_int (pv 1)) pe_int) (pe_op op_modY (pe_callTy call_intY (by rfl) T.n_int (by decide +kernel) (pa_cons (pe_callB (call_sumK (K := K) rfl) (by rfl) T.n_sum (by decide +kernel) (pa_cons (pe_slice (sl_listK (K := K)) (pv 0) po_none (po_some pe_int)) pa_nil)) pa_nil)) pe_int))))), ?_⟩
    walk_at "ys"
    refine y_lenLs hs ?_
    walk_at "ys"
    refine y_d2 (fun h1 => ?_) (fun h1 => ?_)
    · rw [List.length_map] at h1
      have h1 : k < ns.length := by omega
      walk_at "ys"
      refine y_ixLs hs (v := .int ns[k]) ?_ ?_
      · rw [atI_nat (by rw [List.length_map]; exact h1), List.getElem?_map, List.getElem?_eq_getElem h1]
        rfl
      · exact q _ _ (Same.refl _)
    · walk_at "ys"
      refine y_mulI (cmul_small (by decide) (by omega)) ?_
      walk_at "ys"
      refine y_slLs hs (fun p np => ?_)
      rw [cut_one]
      walk_at "ys"
      refine y_sum upd_same ?_
      walk_at "ys"
      refine y_mod (by decide) ?_
      walk_at "ys"
      exact q _ _ (same_new0 np)
def sp__law_box (K : PySem.W.Frag) : Sp := fun vs H Q _ => ∃ z : Int, vs = [.int z] ∧ ∀ b H', H b = none → Same H H' → Box H' b 0 → Q (.ref b) H'
theorem ok__law_box {f : Addr} {fd : FuncData} (T : Txt K mg) (F : Fun K "_law_box" "_law_box" s__law_box f fd) : FnOk P w K mg base CX0 1 f fd ["cell"] (sp__law_box K) := by
  have scp := sc__law_box
  refine F.ok sc__law_box (fun vs H Q E h => ?_) (fun cdv A outer s H vs Q E hr h => ?_)
  · first | (obtain ⟨rfl, _⟩ := h; rfl) | (obtain ⟨_, rfl, _⟩ := h; rfl) | (obtain ⟨_, _, rfl, _⟩ := h; rfl) | (obtain ⟨_, _, _, rfl, _⟩ := h; rfl) | (obtain ⟨_, _, _, _, rfl, _⟩ := h; rfl) | (obtain ⟨_, _, _, _, _, rfl, _⟩ := h; rfl) | (obtain ⟨_, _, _, _, _, _, rfl, _⟩ := h; rfl) | (obtain ⟨_, _, _, _, _, _, _, rfl, _⟩ := h; rfl) | (obtain ⟨_, _, _, _, _, _, _, _, rfl, _⟩ := h; rfl) | (obtain ⟨_, _, _, _, _, _, _, _, _, rfl, _⟩ := h; rfl) | (obtain ⟨_, _, _, _, _, _, _, _, _, _, rfl, _⟩ := h; rfl) | (obtain ⟨_, _, _, _, _, _, _, _, _, _, _, rfl, _⟩ := h; rfl) | (obtain ⟨_, _, _, _, _, _, _, _, _, _, _, _, rfl, _⟩ := h; rfl) | (obtain ⟨_, _, _, _, _, _, _, _, _, _, _, _, _, rfl, _⟩ := h; rfl) | (obtain ⟨_, _, _, _, _, _, _, _, _, _, _, _, _, _, rfl, _⟩ := h; rfl) | (obtain ⟨_, _, _, _, _, _, _, _, _, _, _, _, _, _, _, rfl, _⟩ := h; rfl)
  · obtain ⟨z, rfl, q⟩ := h
    have hu := hu_of hr
    have hv := hr.units
    refine ⟨_, (pss_cons (ps_set (i := 1) scp.nd rfl (by first | exact Or.inl rfl | exact Or.inr rfl) (pe_callB call_absY (by rfl) T.n_abs (by decide +kernel) (pa_cons (pv 0) pa_nil)))
  (pss_one (ps_ret (pe_lst (pa_cons (pe_ifExp (pt_cmpR op_geI (pv 1) (pe_op op_powY pe_int pe_int) (nomark _)) (pv 1) pe_int) (pa_cons (pe_op op_modY (pe_callTy call_intY (by rfl) T.n_int (by decide +kernel) (pa_cons (pv 1) pa_nil)) pe_int) (pa_cons pe_int pa_nil))))))), ?_⟩
    walk_at "ys"
    obtain ⟨g, hg⟩ : ∃ g : Nat, (if z < 0 then -z else z) = (g : Int) := ⟨(if z < 0 then -z else z).toNat, by split <;> omega⟩
    rw [hg]
    walk_at "ys"
    refine y_pow ⟨by decide, by decide, by decide⟩ ?_
    walk_at "ys"
    obtain ⟨d, hd, hd2⟩ : ∃ d : Nat, (g : Int) % 2147483629 = (d : Int) ∧ d < 2147483629 := ⟨((g : Int) % 2147483629).toNat, by omega, by omega⟩
    have fin : ∀ (x : Nat) (b : Addr), H b = none → Q (.ref b) (upd H b (.lst [.int x, .int d, .int 0])) := fun x b nb => q b _ nb (same_new0 nb) ⟨x, d, 0, upd_same, hd2, Nat.le_refl _⟩
    refine y_d2 (fun h1 => ?_) (fun h1 => ?_)
    · walk_at "ys"
      refine y_mod (by decide) ?_
      rw [hd]
      walk_at "ys"
      exact ⟨sz_line (by simp), fun b nb => fin g b nb⟩
    · walk_at "ys"
      refine y_mod (by decide) ?_
      rw [hd]
      walk_at "ys"
      exact ⟨sz_line (by simp), fun b nb => fin 0 b nb⟩
def sp__law_take (K : PySem.W.Frag) : Sp := fun vs H Q _ => ∃ (b : Addr) (m B : Nat), vs = [.ref b, .int m] ∧ 0 < m ∧ m ≤ 1000000 ∧ Box H b B ∧ B ≤ 1000000 ∧ ∀ (r : Nat) (H' : Hp), r < m → SameBut b H H' → Box H' b (B + 1) → Q (.int r) H'
theorem ok__law_take {f : Addr} {fd : FuncData} (T : Txt K mg) (F : Fun K "_law_take" "_law_take" s__law_take f fd) : FnOk P w K mg base CX0 1 f fd ["box", "many"] (sp__law_take K) := by
  have scp := sc__law_take
  refine F.ok sc__law_take (fun vs H Q E h => ?_) (fun cdv A outer s H vs Q E hr h => ?_)
  · first | (obtain ⟨rfl, _⟩ := h; rfl) | (obtain ⟨_, rfl, _⟩ := h; rfl) | (obtain ⟨_, _, rfl, _⟩ := h; rfl) | (obtain ⟨_, _, _, rfl, _⟩ := h; rfl) | (obtain ⟨_, _, _, _, rfl, _⟩ := h; rfl) | (obtain ⟨_, _, _, _, _, rfl, _⟩ := h; rfl) | (obtain ⟨_, _, _, _, _, _, rfl, _⟩ := h; rfl) | (obtain ⟨_, _, _, _, _, _, _, rfl, _⟩ := h; rfl) | (obtain ⟨_, _, _, _, _, _, _, _, rfl, _⟩ := h; rfl) | (obtain ⟨_, _, _, _, _, _, _, _, _, rfl, _⟩ := h; rfl) | (obtain ⟨_, _, _, _, _, _, _, _, _, _, rfl, _⟩ := h; rfl) | (obtain ⟨_, _, _, _, _, _, _, _, _, _, _, rfl, _⟩ := h; rfl) | (obtain ⟨_, _, _, _, _, _, _, _, _, _, _, _, rfl, _⟩ := h; rfl) | (obtain ⟨_, _, _, _, _, _, _, _, _, _, _, _, _, rfl, _⟩ := h; rfl) | (obtain ⟨_, _, _, _, _, _, _, _, _, _, _, _, _, _, rfl, _⟩ := h; rfl) | (obtain ⟨_, _, _, _, _, _, _, _, _, _, _, _, _, _, _, rfl, _⟩ := h; rfl)
  · obtain ⟨b, m, B, rfl, h0, hm, X, hB, q⟩ := h
    have hu := hu_of hr
    have hv := hr.units
    obtain ⟨g, d, c, hb, hd, hc⟩ := X.at_
    refine ⟨_, (pss_cons (ps_if (pt_cmpR op_gtI (pe_ix (ix_anyK (K := K) hu) (pv 0) pe_int (fun _ _ => rfl)) pe_int (nomark _))
  (pss_cons (ps_set (i := 2) scp.nd rfl (by first | exact Or.inl rfl | exact Or.inr rfl) (pe_op op_modY (pe_callTy call_intY (by rfl) T.n_int (by decide +kernel) (pa_cons (pe_ix (ix_anyK (K := K) hu) (pv 0) pe_int (fun _ _ => rfl)) pa_nil)) (pv 1)))
  (pss_cons (ps_asg (pe_op op_fdivY (pe_ix (ix_anyK (K := K) hu) (pv 0) pe_int (fun _ _ => rfl)) (pv 1)) (pg_sub (pv 0) pe_int set_list))
  (pss_one (ps_ret (pv 2)))))
  pss_nil)
  (pss_cons (ps_asg (pe_op op_plus (pe_ix (ix_anyK (K := K) hu) (pv 0) pe_int (fun _ _ => rfl)) pe_int) (pg_sub (pv 0) pe_int set_list))
  (pss_cons (ps_set (i := 3) scp.nd rfl (by first | exact Or.inl rfl | exact Or.inr rfl) (pe_op op_modY (pe_callTy call_intY (by rfl) T.n_int (by decide +kernel) (pa_cons (pe_op op_powY (pe_op op_plus (pe_op op_plus (pe_ix (ix_anyK (K := K) hu) (pv 0) pe_int (fun _ _ => rfl)) (pe_op op_times pe_int (pe_ix (ix_anyK (K := K) hu) (pv 0) pe_int (fun _ _ => rfl)))) pe_int) pe_int) pa_nil)) pe_int))
  (pss_cons (ps_set (i := 4) scp.nd rfl (by first | exact Or.inl rfl | exact Or.inr rfl) (pe_op op_modY (pe_callTy call_intY (by rfl) T.n_int (by decide +kernel) (pa_cons (pe_op op_powY (pe_op op_plus (pe_op op_plus (pe_op op_fdivY (pv 3) pe_int) (pe_op op_times pe_int (pe_ix (ix_anyK (K := K) hu) (pv 0) pe_int (fun _ _ => rfl)))) pe_int) pe_int) pa_nil)) pe_int))
  (pss_one (ps_ret (pe_op op_modY (pe_callTy call_intY (by rfl) T.n_int (by decide +kernel) (pa_cons (pe_op op_plus (pe_op op_fdivY (pv 3) pe_int) (pe_op op_times pe_int (pe_op op_fdivY (pv 4) pe_int))) pa_nil)) (pv 1)))))))), ?_⟩
    walk_at "ys"
    refine y_d2 (fun h1 => ?_) (fun h1 => ?_)
    · walk_at "ys"
      refine y_mod (by omega) ?_
      walk_at "ys"
      refine y_fdiv (cdiv_small (by omega) (by omega)) ?_
      walk_at "ys"
      refine y_setL hb (by rfl) ?_
      walk_at "ys"
      have e1 : (g : Int) % (m : Int) = ((g % m : Nat) : Int) := by omega
      have e2 : (g : Int) / (m : Int) = ((g / m : Nat) : Int) := by omega
      rw [e1, e2]
      exact q (g % m) _ (Nat.mod_lt _ h0) (SameBut.put _ _ _) ⟨g / m, d, c, upd_same, hd, by omega⟩
    · walk_at "ys"
      refine y_setL hb (by rfl) ?_
      have hb1 : (upd H b (.lst ([V.int g, V.int d, V.int c].set (Int.toNat 2) (V.int ((c : Int) + 1))))) b = some (.lst [.int g, .int d, .int ((c : Int) + 1)]) := upd_same
      have e1 : SameBut b H (upd H b (.lst ([V.int g, V.int d, V.int c].set (Int.toNat 2) (V.int ((c : Int) + 1))))) := SameBut.put _ _ _
      generalize upd H b (.lst ([V.int g, V.int d, V.int c].set (Int.toNat 2) (V.int ((c : Int) + 1)))) = H1 at *
      walk_at "ys"
      refine y_mulI (cmul_small (by decide) (by omega)) ?_
      walk_at "ys"
      refine y_pow ⟨by decide, by decide, by omega⟩ ?_
      walk_at "ys"
      refine y_mod (by decide) ?_
      have a1 : 0 ≤ ((d : Int) + 7919 * ((c : Int) + 1) + 29) ^ (5 : Int).toNat % 2147483647 := Int.emod_nonneg _ (by decide)
      have a2 : ((d : Int) + 7919 * ((c : Int) + 1) + 29) ^ (5 : Int).toNat % 2147483647 < 2147483647 := Int.emod_lt_of_pos _ (by decide)
      generalize ((d : Int) + 7919 * ((c : Int) + 1) + 29) ^ (5 : Int).toNat % 2147483647 = one at *
      walk_at "ys"
      refine y_fdiv (cdiv_small (by decide) (by decide)) ?_
      walk_at "ys"
      refine y_mulI (cmul_small (by decide) (by omega)) ?_
      walk_at "ys"
      refine y_pow ⟨by decide, by decide, by omega⟩ ?_
      walk_at "ys"
      refine y_mod (by decide) ?_
      have b1 : 0 ≤ (one / 8 + 104729 * ((c : Int) + 1) + 11) ^ (3 : Int).toNat % 2147483629 := Int.emod_nonneg _ (by decide)
      have b2 : (one / 8 + 104729 * ((c : Int) + 1) + 11) ^ (3 : Int).toNat % 2147483629 < 2147483629 := Int.emod_lt_of_pos _ (by decide)
      generalize (one / 8 + 104729 * ((c : Int) + 1) + 11) ^ (3 : Int).toNat % 2147483629 = two at *
      walk_at "ys"
      refine y_fdiv (cdiv_small (by decide) (by decide)) ?_
      walk_at "ys"
      refine y_fdiv (cdiv_small (by decide) (by decide)) ?_
      walk_at "ys"
      refine y_mulI (cmul_small (by decide) (by omega)) ?_
      walk_at "ys"
      refine y_mod (by omega) ?_
      have c1 : 0 ≤ (one / 4 + 536870909 * (two / 4)) % (m : Int) := Int.emod_nonneg _ (by omega)
      have c2 : (one / 4 + 536870909 * (two / 4)) % (m : Int) < m := Int.emod_lt_of_pos _ (by omega)
      generalize (one / 4 + 536870909 * (two / 4)) % (m : Int) = r at *
      obtain ⟨r, rfl⟩ := Int.eq_ofNat_of_zero_le c1
      exact q r _ (by omega) e1 ⟨g, d, c + 1, hb1, hd, by omega⟩
/-- equal ints are the same to the law -/
def sp_same_int (K : PySem.W.Frag) : Sp := fun vs H Q _ => ∃ i j : Int, vs = [.int i, .int j] ∧ Q (.bl (decide (i = j))) H
theorem ok__law_sameint {f : Addr} {fd : FuncData} (T : Txt K mg) (F : Fun K "_law_same" "_law_same" s__law_same f fd) : FnOk P w K mg base CX0 1 f fd ["told", "due"] (sp_same_int K) := by
  have scp := sc__law_same
  refine F.ok sc__law_same (fun vs H Q E h => ?_) (fun cdv A outer s H vs Q E hr h => ?_)
  · first | (obtain ⟨rfl, _⟩ := h; rfl) | (obtain ⟨_, rfl, _⟩ := h; rfl) | (obtain ⟨_, _, rfl, _⟩ := h; rfl) | (obtain ⟨_, _, _, rfl, _⟩ := h; rfl) | (obtain ⟨_, _, _, _, rfl, _⟩ := h; rfl) | (obtain ⟨_, _, _, _, _, rfl, _⟩ := h; rfl) | (obtain ⟨_, _, _, _, _, _, rfl, _⟩ := h; rfl) | (obtain ⟨_, _, _, _, _, _, _, rfl, _⟩ := h; rfl) | (obtain ⟨_, _, _, _, _, _, _, _, rfl, _⟩ := h; rfl) | (obtain ⟨_, _, _, _, _, _, _, _, _, rfl, _⟩ := h; rfl) | (obtain ⟨_, _, _, _, _, _, _, _, _, _, rfl, _⟩ := h; rfl) | (obtain ⟨_, _, _, _, _, _, _, _, _, _, _, rfl, _⟩ := h; rfl) | (obtain ⟨_, _, _, _, _, _, _, _, _, _, _, _, rfl, _⟩ := h; rfl) | (obtain ⟨_, _, _, _, _, _, _, _, _, _, _, _, _, rfl, _⟩ := h; rfl) | (obtain ⟨_, _, _, _, _, _, _, _, _, _, _, _, _, _, rfl, _⟩ := h; rfl) | (obtain ⟨_, _, _, _, _, _, _, _, _, _, _, _, _, _, _, rfl, _⟩ := h; rfl)
  · obtain ⟨i, j, rfl, q⟩ := h
    have hu := hu_of hr
    have hv := hr.units
    refine ⟨_, (pss_cons (ps_if (PW.pt (pw_or (pt_cmpR op_isNo (pv 1) pe_non (nomark _)) (pw_or1 (pt_val (pe_callB (call_isiY (K := K)) (by rfl) T.n_isinstance (by decide +kernel) (pa_cons (pv 1) (pa_cons (pe_bty (T := "bool") T.n_bool (by decide +kernel)) pa_nil)))))))
  (pss_one ps_never)
  pss_nil)
  (pss_cons (ps_if (pt_val (pe_callB (call_isiY (K := K)) (by rfl) T.n_isinstance (by decide +kernel) (pa_cons (pv 1) (pa_cons (pe_bty (T := "int") T.n_int (by decide +kernel)) pa_nil))))
  (pss_one (ps_ret (pe_and (pe_callB (call_isiY (K := K)) (by rfl) T.n_isinstance (by decide +kernel) (pa_cons (pv 0) (pa_cons (pe_bty (T := "int") T.n_int (by decide +kernel)) pa_nil))) (pe_and (pe_not (pe_callB (call_isiY (K := K)) (by rfl) T.n_isinstance (by decide +kernel) (pa_cons (pv 0) (pa_cons (pe_bty (T := "bool") T.n_bool (by decide +kernel)) pa_nil)))) (pe_one (pe_cmpR (op_eqK (K := K) hv) (pe_op op_minus (pe_callTy call_intY (by rfl) T.n_int (by decide +kernel) (pa_cons (pv 0) pa_nil)) (pv 1)) pe_int (nomark _)))))))
  pss_nil)
  (pss_cons ps_never
  (pss_cons ps_never
  (pss_cons ps_never
  (pss_cons ps_never
  (pss_one ps_never))))))), ?_⟩
    walk_at "ys"
    refine y_dF (fun z => nomatch z) ?_
    walk_at "ys"
    have e : decide (V.int (i - j) = V.int 0) = decide (i = j) := by
      by_cases h : i = j
      · subst h
        rw [decide_eq_true rfl, decide_eq_true (by rw [Int.sub_self])]
      · rw [decide_eq_false h, decide_eq_false fun z => h (by have := V.int.inj z; omega)]
    rw [e]
    exact q
theorem fm_none {α β : Type} (xs : List α) : xs.filterMap (fun _ => (none : Option β)) = [] := by
  induction xs with
  | nil => rfl
  | cons x xs ih => rw [List.filterMap_cons]; exact ih
/-- equal lists of ints are the same to the law -/
def sp__law_same (K : PySem.W.Frag) : Sp := fun vs H Q _ => ∃ (a b : Addr) (xs : List Int), vs = [.ref a, .ref b] ∧ H a = some (.lst (xs.map V.int)) ∧ H b = some (.lst (xs.map V.int)) ∧ xs.length ≤ 1000 ∧ ∀ H', Same H H' → Q (.bl true) H'
theorem ok__law_samelist {f : Addr} {fd : FuncData} (T : Txt K mg) (F : Fun K "_law_same" "_law_same" s__law_same f fd) : FnOk P w K mg base CX0 2 f fd ["told", "due"] (sp__law_same K) := by
  obtain ⟨f__law_same, fd__law_same, g__law_same, F__law_same⟩ := T.d__law_same
  have G__law_same := ok__law_sameint (P := P) (w := w) (base := base) T F__law_same
  have b__law_same := F__law_same.binds (ps := ["told", "due"]) fun _ _ _ _ _ _ us hl => match us, hl with | [_, _], _ => rfl
  have scp := sc__law_same
  refine F.ok sc__law_same (fun vs H Q E h => ?_) (fun cdv A outer s H vs Q E hr h => ?_)
  · first | (obtain ⟨rfl, _⟩ := h; rfl) | (obtain ⟨_, rfl, _⟩ := h; rfl) | (obtain ⟨_, _, rfl, _⟩ := h; rfl) | (obtain ⟨_, _, _, rfl, _⟩ := h; rfl) | (obtain ⟨_, _, _, _, rfl, _⟩ := h; rfl) | (obtain ⟨_, _, _, _, _, rfl, _⟩ := h; rfl) | (obtain ⟨_, _, _, _, _, _, rfl, _⟩ := h; rfl) | (obtain ⟨_, _, _, _, _, _, _, rfl, _⟩ := h; rfl) | (obtain ⟨_, _, _, _, _, _, _, _, rfl, _⟩ := h; rfl) | (obtain ⟨_, _, _, _, _, _, _, _, _, rfl, _⟩ := h; rfl) | (obtain ⟨_, _, _, _, _, _, _, _, _, _, rfl, _⟩ := h; rfl) | (obtain ⟨_, _, _, _, _, _, _, _, _, _, _, rfl, _⟩ := h; rfl) | (obtain ⟨_, _, _, _, _, _, _, _, _, _, _, _, rfl, _⟩ := h; rfl) | (obtain ⟨_, _, _, _, _, _, _, _, _, _, _, _, _, rfl, _⟩ := h; rfl) | (obtain ⟨_, _, _, _, _, _, _, _, _, _, _, _, _, _, rfl, _⟩ := h; rfl) | (obtain ⟨_, _, _, _, _, _, _, _, _, _, _, _, _, _, _, rfl, _⟩ := h; rfl)
  · obtain ⟨a, b, xs, rfl, ha, hb, hl, q⟩ := h
    have hu := hu_of hr
    have hv := hr.units
    refine ⟨_, (pss_cons (ps_if (PW.pt (pw_or (pt_cmpR op_isNo (pv 1) pe_non (nomark _)) (pw_or1 (pt_val (pe_callB (call_isiY (K := K)) (by rfl) T.n_isinstance (by decide +kernel) (pa_cons (pv 1) (pa_cons (pe_bty (T := "bool") T.n_bool (by decide +kernel)) pa_nil)))))))
  (pss_one ps_never)
  pss_nil)
  (pss_cons (ps_if (pt_val (pe_callB (call_isiY (K := K)) (by rfl) T.n_isinstance (by decide +kernel) (pa_cons (pv 1) (pa_cons (pe_bty (T := "int") T.n_int (by decide +kernel)) pa_nil))))
  (pss_one ps_never)
  pss_nil)
  (pss_cons (ps_if (pt_val (pe_callB (call_isiY (K := K)) (by rfl) T.n_isinstance (by decide +kernel) (pa_cons (pv 1) (pa_cons (pe_bty (T := "str") T.n_str (by decide +kernel)) pa_nil))))
  (pss_cons ps_never
  (pss_one ps_never))
  pss_nil)
  (pss_cons (ps_if (pt_val (pe_callB (call_isiY (K := K)) (by rfl) T.n_isinstance (by decide +kernel) (pa_cons (pv 1) (pa_cons (pe_bty (T := "dict") T.n_dict (by decide +kernel)) pa_nil))))
  (pss_one ps_never)
  pss_nil)
  (pss_cons (ps_if (PW.pt (pw_or (pt_cmpR (op_neK (K := K) hv) (pe_callB (call_isiY (K := K)) (by rfl) T.n_isinstance (by decide +kernel) (pa_cons (pv 0) (pa_cons (pe_bty (T := "list") T.n_list (by decide +kernel)) pa_nil))) (pe_callB (call_isiY (K := K)) (by rfl) T.n_isinstance (by decide +kernel) (pa_cons (pv 1) (pa_cons (pe_bty (T := "list") T.n_list (by decide +kernel)) pa_nil))) (nomark _)) (pw_or1 (pt_cmpR (op_neK (K := K) hv) (pe_callB (call_isiY (K := K)) (by rfl) T.n_isinstance (by decide +kernel) (pa_cons (pv 0) (pa_cons (pe_bty (T := "tuple") T.n_tuple (by decide +kernel)) pa_nil))) (pe_callB (call_isiY (K := K)) (by rfl) T.n_isinstance (by decide +kernel) (pa_cons (pv 1) (pa_cons (pe_bty (T := "tuple") T.n_tuple (by decide +kernel)) pa_nil))) (nomark _)))))
  (pss_one (ps_ret pe_bl))
  pss_nil)
  (pss_cons (ps_if (PW.pt (pw_or (pt_not (pt_val (pe_callB (call_isiTY (K := K)) (by rfl) T.n_isinstance (by decide +kernel) (pa_cons (pv 0) (pa_cons (pe_tup (pa_cons (pe_bty (T := "list") T.n_list (by decide +kernel)) (pa_cons (pe_bty (T := "tuple") T.n_tuple (by decide +kernel)) pa_nil))) pa_nil))))) (pw_or1 (pt_cmpR (op_neK (K := K) hv) (pe_callB (call_lenK (K := K)) (by rfl) T.n_len (by decide +kernel) (pa_cons (pv 0) pa_nil)) (pe_callB (call_lenK (K := K)) (by rfl) T.n_len (by decide +kernel) (pa_cons (pv 1) pa_nil)) (nomark _)))))
  (pss_one (ps_ret pe_bl))
  pss_nil)
  (pss_one (ps_ret (pe_cmpR (op_eqK (K := K) hv) (pe_lc (own := [("k", 3)]) (g := gName 3) rfl scp.nd (pi_range1 rfl T.n_range (pa_cons (pe_callB (call_lenK (K := K)) (by rfl) T.n_len (by decide +kernel) (pa_cons (pv 1) pa_nil)) pa_nil)) (blkOk_by (own := [("k", 3)]) (N := ["told", "due", "same", "k"]) (sc := defScope s__law_same) (by decide +kernel)) (fun _ _ _ _ _ => (pg_name (i := 3) scp.nd rfl (by first | exact Or.inl rfl | exact Or.inr rfl))) (fun _ _ _ _ _ => (pts_one (pt_not (pt_val (pe_call (G__law_same.mono (by decide)) hr rfl g__law_same F__law_same.kp b__law_same .nil pass0 (pa_cons (pe_ix (ix_anyK (K := K) hu) (pv 0) (pv 3) (fun _ _ => rfl)) (pa_cons (pe_ix (ix_anyK (K := K) hu) (pv 1) (pv 3) (fun _ _ => rfl)) pa_nil))))))) (fun _ _ _ _ _ => (pv 3))) (pe_lst pa_nil) (nomark _)))))))))), ?_⟩
    walk_at "ys"
    refine y_dF (fun z => nomatch z) ?_
    walk_at "ys"
    refine ⟨sz_line (by simp), fun tp ntp => ?_⟩
    have e1 : Same H (upd H tp (.tup [.ty "list", .ty "tuple"])) := same_new0 ntp
    have ha1 := e1 _ _ ha
    have hb1 := e1 _ _ hb
    walk_at "ys"
    rw [List.length_map]
    refine y_gotr1 (by omega) (by omega) ?_
    generalize upd H tp (.tup [.ty "list", .ty "tuple"]) = H1 at *
    intro D nD
    refine lc_gen (fun _ => none) walk_range nD (sz_lt (by omega)) (fun _ _ => trivial) (fun k x H2 H3 Nx hk e hY c0 c1 => ?_) (fun H2 e2 hno => ?_)
    · obtain ⟨rfl, rfl⟩ := hY
      have hk : k < xs.length := by omega
      have ha2 := e _ _ ha1
      have hb2 := e _ _ hb1
      have hat : atI (xs.map V.int) ((0 : Int) + (k : Nat)) = some (.int xs[k]) := by
        rw [Int.zero_add, atI_nat (by rw [List.length_map]; exact hk), List.getElem?_map, List.getElem?_eq_getElem hk]
        rfl
      walk_at "ys"
      refine y_ixL ha2 hat ?_
      walk_at "ys"
      refine y_ixL hb2 hat ?_
      walk_at "ys"
      refine ⟨xs[k], xs[k], rfl, ?_⟩
      walk_at "ys"
      exact c1 _ rfl (Same.refl _)
    · rw [fm_none] at hno
      walk_at "ys"
      refine ⟨sz_line (by simp), fun el nel => ?_⟩
      have e3 : Same H2 (upd H2 el (.lst [])) := same_new0 nel
      walk_at "ys"
      refine y_eqL (xs := []) (ys := []) (e3 _ _ hno) upd_same ?_
      exact q _ ((e1.trans e2).trans e3)
end
end K60
namespace K60
open PySem L2 Y LamX

theorem filter_lt (M : Nat) : ∀ L, M ≤ L → (List.range L).filter (fun j => decide (j < M)) = List.range M
  | 0, h => by
    have : M = 0 := by omega
    subst this
    rfl
  | L + 1, h => by
    rw [List.range_succ, List.filter_append]
    by_cases e : M = L + 1
    · subst e
      have h1 : (List.range L).filter (fun j => decide (j < L + 1)) = List.range L := List.filter_eq_self.mpr fun j hj => by
        have := List.mem_range.mp hj
        exact decide_eq_true (by omega)
      rw [h1, List.range_succ]
      simp
    · rw [filter_lt M L (by omega)]
      have : ¬ L < M := by omega
      simp [this]
def turnsOf (n L : Nat) (p c : Nat → Nat) (i : Nat) : List Int := (List.range (Deal.many n L p c i)).map fun k => (Deal.T n p c i k : Int)
theorem turnsOf_len {n L : Nat} {p c : Nat → Nat} (i : Nat) : (turnsOf n L p c i).length = Deal.many n L p c i := by
  unfold turnsOf
  rw [List.length_map, List.length_range]
theorem turnsOf_at {n L : Nat} {p c : Nat → Nat} {i k : Nat} (h : k < Deal.many n L p c i) : (turnsOf n L p c i)[k]? = some (Deal.T n p c i k : Int) := by
  unfold turnsOf
  rw [List.getElem?_map, List.getElem?_range h]
  rfl
def optT (n L : Nat) (p c : Nat → Nat) (i j : Nat) : Option Int := if j < Deal.many n L p c i then some (Deal.T n p c i j : Int) else none
theorem turnV_opt {n L : Nat} {p c : Nat → Nat} (O : Deal.Ok n L p c) (i j : Nat) : turnV n L p c i (j + 1) = oV (optT n L p c i j) := by
  unfold optT
  rcases turn_cases n L p c i j with ⟨h1, h2⟩ | ⟨h1, h2⟩
  · rw [h1, if_neg (fun z => h2 ((Deal.many_iff O).mp z))]
    rfl
  · rw [h1, if_pos ((Deal.many_iff O).mpr h2)]
    rfl
theorem opts_split {n L : Nat} {p c : Nat → Nat} (O : Deal.Ok n L p c) (i : Nat) : (List.range L).map (optT n L p c i) = (turnsOf n L p c i).map some ++ List.replicate (L - Deal.many n L p c i) none := by
  have hM := Deal.many_le O i
  have e : L = Deal.many n L p c i + (L - Deal.many n L p c i) := by omega
  have e2 : (List.range L).map (optT n L p c i) = (List.range (Deal.many n L p c i + (L - Deal.many n L p c i))).map (optT n L p c i) := by rw [← e]
  rw [e2, List.range_add, List.map_append]
  congr 1
  · unfold turnsOf
    rw [List.map_map]
    refine List.map_congr_left fun j hj => ?_
    unfold optT
    rw [if_pos (List.mem_range.mp hj)]
    rfl
  · rw [List.map_map, ← range_const]
    refine List.map_congr_left fun j hj => ?_
    show optT n L p c i (_ + j) = none
    unfold optT
    rw [if_neg (by omega)]
section
variable {P : Program} {w : World} {K : PySem.W.Frag} {mg : Str → Option Value} {base : Heap}
def sp__law_turns (K : PySem.W.Frag) : Sp := fun vs H Q _ => ∃ (L : Nat) (g : Addr) (o : Obj) (nm : List Str) (ts : List Addr) (p c : Nat → Nat) (i : Nat), vs = [.int L, .ref g, .str (nmF nm i)] ∧ Gs H g o nm ts p c ∧ Deal.Ok nm.length L p c ∧ i < nm.length ∧ 4 ≤ L ∧ L ≤ 60 ∧ ∀ l H', Same H H' → H l = none → H' l = some (.lst ((turnsOf nm.length L p c i).map V.int)) → Q (.ref l) H'
theorem ok__law_turns {f : Addr} {fd : FuncData} (T : Txt K mg) (F : Fun K "_law_turns" "_law_turns" s__law_turns f fd) : FnOk P w K mg base CX0 5 f fd ["length", "guests", "name"] (sp__law_turns K) := by
  obtain ⟨f_latest, fd_latest, g_latest, F_latest⟩ := T.d_latest
  have G_latest := ok_latest (P := P) (w := w) (base := base) T F_latest
  have b_latest := F_latest.binds (ps := ["length", "guests", "name", "many"]) fun _ _ _ _ _ _ us hl => match us, hl with | [_, _, _, _], _ => rfl
  have scp := sc__law_turns
  refine F.ok sc__law_turns (fun vs H Q E h => ?_) (fun cdv A outer s H vs Q E hr h => ?_)
  · first | (obtain ⟨rfl, _⟩ := h; rfl) | (obtain ⟨_, rfl, _⟩ := h; rfl) | (obtain ⟨_, _, rfl, _⟩ := h; rfl) | (obtain ⟨_, _, _, rfl, _⟩ := h; rfl) | (obtain ⟨_, _, _, _, rfl, _⟩ := h; rfl) | (obtain ⟨_, _, _, _, _, rfl, _⟩ := h; rfl) | (obtain ⟨_, _, _, _, _, _, rfl, _⟩ := h; rfl) | (obtain ⟨_, _, _, _, _, _, _, rfl, _⟩ := h; rfl) | (obtain ⟨_, _, _, _, _, _, _, _, rfl, _⟩ := h; rfl) | (obtain ⟨_, _, _, _, _, _, _, _, _, rfl, _⟩ := h; rfl) | (obtain ⟨_, _, _, _, _, _, _, _, _, _, rfl, _⟩ := h; rfl) | (obtain ⟨_, _, _, _, _, _, _, _, _, _, _, rfl, _⟩ := h; rfl) | (obtain ⟨_, _, _, _, _, _, _, _, _, _, _, _, rfl, _⟩ := h; rfl) | (obtain ⟨_, _, _, _, _, _, _, _, _, _, _, _, _, rfl, _⟩ := h; rfl) | (obtain ⟨_, _, _, _, _, _, _, _, _, _, _, _, _, _, rfl, _⟩ := h; rfl) | (obtain ⟨_, _, _, _, _, _, _, _, _, _, _, _, _, _, _, rfl, _⟩ := h; rfl)
  · obtain ⟨L, g, o, nm, ts, p, c, i, rfl, G, O, hi, h4, h60, q⟩ := h
    have hu := hu_of hr
    have hv := hr.units
    have hM := Deal.many_le O i
    refine ⟨_, (pss_cons (ps_setLc (i := 3) (own := [("many", 5)]) (g := gName 5) (tt := tYes) rfl scp.nd rfl rfl (sw_true rfl rfl rfl (by decide +kernel)) (pi_range2 rfl T.n_range (pa_cons pe_int (pa_cons (pe_op op_plus (pv 0) pe_int) pa_nil))) (blkOk_by (own := [("many", 5)]) (N := ["length", "guests", "name", "found", "some", "many", "turn"]) (sc := defScope s__law_turns) (by decide +kernel)) (fun _ _ _ _ _ => (pg_name (i := 5) scp.nd rfl (by first | exact Or.inl rfl | exact Or.inr rfl))) (fun _ _ _ _ _ => pts_nil) (fun _ _ _ _ _ => (pe_call (G_latest.mono (by decide)) hr rfl g_latest F_latest.kp b_latest .nil pass0 (pa_cons (pv 0) (pa_cons (pv 1) (pa_cons (pv 2) (pa_cons (pv 5) pa_nil)))))))
  (pss_cons (ps_setLc (i := 4) (own := [("turn", 6)]) (g := gName 6) rfl scp.nd rfl rfl (sw_true rfl rfl rfl (by decide +kernel)) (pi_listK (K := K) (pv 3)) (blkOk_by (own := [("turn", 6)]) (N := ["length", "guests", "name", "found", "some", "many", "turn"]) (sc := defScope s__law_turns) (by decide +kernel)) (fun _ _ _ _ _ => (pg_name (i := 6) scp.nd rfl (by first | exact Or.inl rfl | exact Or.inr rfl))) (fun _ _ _ _ _ => (pts_one (pt_cmpR op_notNo (pv 6) pe_non (nomark _)))) (fun _ _ _ _ _ => (pv 6)))
  (pss_one (ps_ret (pe_ifExp (pt_cmpR (op_eqK (K := K) hv) (pv 3) (pe_op op_plus (pv 4) (pe_op op_times (pe_lst (pa_cons pe_non pa_nil)) (pe_op op_minus (pv 0) (pe_callB (call_lenK (K := K)) (by rfl) T.n_len (by decide +kernel) (pa_cons (pv 4) pa_nil))))) (nomark _)) (pv 4) pe_non))))), ?_⟩
    walk_at "ys"
    refine y_gotr2 (by omega) ?_
    intro D nD
    refine lc_map (fun j => turnV nm.length L p c i (j + 1)) walk_range nD (sz_lt (by omega)) (fun _ _ => trivial) (fun k x H2 H3 Nx hk e hY c0 => ?_) (fun H2 e2 hfo => ?_)
    · obtain ⟨rfl, rfl⟩ := hY
      have hk : k < L := by omega
      walk_at "ys"
      refine ⟨L, g, o, nm, ts, p, c, i, k + 1, by show [V.int (L : Int), V.ref g, V.str (nmF nm i), V.int ((1 : Int) + (k : Nat))] = _; rw [Int.add_comm]; rfl, G.same e, O, hi, by omega, by omega, h4, h60, fun H4 e4 => ?_⟩
      exact c0 _ _ rfl e4
    · have hL : ((L : Int) + 1 - 1).toNat = L := by omega
      rw [hL] at hfo
      have hfo2 : H2 D = some (.lst (((List.range L).map (optT nm.length L p c i)).map oV)) := by
        rw [hfo, List.map_map]
        congr 2
        exact List.map_congr_left fun j _ => turnV_opt O i j
      walk_at "ys"
      intro S nS
      refine lc_gen (fun j => if (decide (j < Deal.many nm.length L p c i)) = true then some (.int (Deal.T nm.length p c i j : Nat)) else none) walk_list nS (sz_lt (by rw [List.length_map, List.length_range]; omega)) (fun H' e => SqL.of (e _ _ hfo)) (fun j x H3 H4 Nx hj e hY c0 c1 => ?_) (fun H3 e3 hso => ?_)
      · obtain ⟨rfl, hx⟩ := hY
        rw [List.length_map, List.length_range] at hj
        rw [List.getElem?_map, List.getElem?_range hj] at hx
        have hx : oV (optT nm.length L p c i j) = x := by
          rw [← turnV_opt O]
          exact Option.some.inj hx
        subst hx
        by_cases hjm : j < Deal.many nm.length L p c i
        · have eo : optT nm.length L p c i j = some (Deal.T nm.length p c i j : Int) := if_pos hjm
          rw [eo]
          walk_at "ys"
          refine y_ndF (fun z => nomatch z) ?_
          walk_at "ys"
          refine c0 _ _ ?_ (Same.refl _)
          rw [decide_eq_true hjm]
          rfl
        · have eo : optT nm.length L p c i j = none := if_neg hjm
          rw [eo]
          walk_at "ys"
          refine c1 _ ?_ (Same.refl _)
          rw [decide_eq_false hjm]
          rfl
      · rw [List.length_map, List.length_range, fm_ite, filter_lt _ _ hM] at hso
        have hso1 : H3 S = some (.lst ((turnsOf nm.length L p c i).map V.int)) := by
          rw [hso]
          unfold turnsOf
          rw [List.map_map]
          rfl
        have hfo3 := e3 _ _ hfo2
        have eR : (L : Int) - ((turnsOf nm.length L p c i).map V.int).length = ((L - Deal.many nm.length L p c i : Nat) : Int) := by
          rw [List.length_map, turnsOf_len]
          omega
        walk_at "ys"
        refine ⟨sz_line (by simp), fun nl nnl => ?_⟩
        have e4 : Same H3 (upd H3 nl (.lst [.non])) := same_new0 nnl
        have hnl : (upd H3 nl (.lst [.non])) nl = some (.lst [.non]) := upd_same
        have hso4 := e4 _ _ hso1
        have hfo4 := e4 _ _ hfo3
        generalize upd H3 nl (.lst [.non]) = H4 at *
        walk_at "ys"
        rw [eR]
        refine y_rep hnl (by omega) (by omega) (sz_line (by simp; omega)) (fun rl nrl => ?_)
        rw [Int.toNat_natCast, rep_one]
        have e5 : Same H4 (upd H4 rl (.lst (List.replicate (L - Deal.many nm.length L p c i) .non))) := same_new0 nrl
        have hrl : (upd H4 rl (.lst (List.replicate (L - Deal.many nm.length L p c i) .non))) rl = _ := upd_same
        have hso5 := e5 _ _ hso4
        have hfo5 := e5 _ _ hfo4
        generalize upd H4 rl (.lst (List.replicate (L - Deal.many nm.length L p c i) .non)) = H5 at *
        refine y_addL hso5 hrl (sz_line (by rw [List.length_map, turnsOf_len, List.length_replicate]; omega)) (fun al nal => ?_)
        have e6 : Same H5 (upd H5 al (.lst ((turnsOf nm.length L p c i).map V.int ++ List.replicate (L - Deal.many nm.length L p c i) .non))) := same_new0 nal
        have hal : (upd H5 al (.lst ((turnsOf nm.length L p c i).map V.int ++ List.replicate (L - Deal.many nm.length L p c i) .non))) al = some (.lst (((turnsOf nm.length L p c i).map some ++ List.replicate (L - Deal.many nm.length L p c i) none).map oV)) := by
          rw [upd_same, List.map_append, ← oV_ints, rep_map]
          rfl
        have hfo6 := e6 _ _ hfo5
        have hso6 := e6 _ _ hso5
        generalize upd H5 al (.lst ((turnsOf nm.length L p c i).map V.int ++ List.replicate (L - Deal.many nm.length L p c i) .non)) = H6 at *
        refine y_eqL hfo6 hal ?_
        rw [decide_eq_true (opts_split O i)]
        walk_at "ys"
        exact q S H6 (((((e2.trans e3).trans e4).trans e5)).trans e6) (free_of e2 nS) hso6
end
end K60
namespace K60
open PySem L2 Y LamX

def six : List Str := ["ann", "bo", "cy", "di", "ed", "flo"]
theorem six_ok : ∀ z, z ∈ six → NameOk z := by
  have h : ∀ z ∈ six, 1 ≤ z.length ∧ z.length ≤ 8 ∧ ∀ c ∈ z.cps.toList, c ∈ letters.cps.toList := by decide +kernel
  exact fun z hz => ⟨(h z hz).1, (h z hz).2.1, (h z hz).2.2⟩
theorem six_nd : six.Nodup := by decide +kernel
theorem six_zed : ∀ z, z ∈ six → z ≠ "zed" := by decide +kernel
theorem valV_fun (g : Str → V) (z : Str) : ∀ nm : List Str, valV (nm.map fun y => ((Sum.inr y : Key), g y)) (Sum.inr z) = if z ∈ nm then some (g z) else none
  | [] => by simp [valV]
  | y :: nm => by
    have ih := valV_fun g z nm
    unfold valV at *
    by_cases e : y = z
    · subst e
      simp
    · have e' : ¬ z = y := fun x => e x.symm
      have e2 : ¬ (Sum.inr y : Key) = Sum.inr z := fun x => e (Sum.inr.inj x)
      rw [List.map_cons, List.find?_cons_of_neg (by simpa using e), ih]
      simp [e']
theorem kvOf_fun (tn : Str → Addr) : ∀ nm : List Str, kvOf nm (nm.map tn) = nm.map fun z => ((Sum.inr z : Key), V.ref (tn z))
  | [] => rfl
  | z :: nm => by
    have ih := kvOf_fun tn nm
    unfold kvOf at *
    rw [List.map_cons, List.zip_cons_cons, List.map_cons, ih, List.map_cons]
theorem merge_fun (g : Str → V) : ∀ (nm pre : List Str), (pre ++ nm).Nodup → mergeK (pre.map fun z => ((Sum.inr z : Key), g z)) (nm.map fun z => ((Sum.inr z : Key), g z)) = (pre ++ nm).map fun z => ((Sum.inr z : Key), g z)
  | [], pre, _ => by rw [List.append_nil]; rfl
  | z :: nm, pre, h => by
    have h2 : (pre ++ [z] ++ nm).Nodup := by simpa using h
    have ih := merge_fun g nm (pre ++ [z]) h2
    have hz : z ∉ pre := fun x => by
      have := (List.nodup_append.mp h).2.2 z x z List.mem_cons_self
      exact this rfl
    unfold mergeK at *
    rw [List.map_cons, List.foldl_cons]
    show List.foldl _ (putK _ (Sum.inr z) (g z)) _ = _
    rw [putK_new _ (by rw [valV_fun, if_neg hz])]
    rw [List.map_append] at ih
    rw [show pre ++ z :: nm = pre ++ [z] ++ nm by simp, ← ih]
    rfl
theorem sum_fun (pn : Str → Nat) (nm : List Str) : ∀ n, n ≤ nm.length → Deal.sumTo (fun i => pn (nmF nm i)) n = ((nm.take n).map pn).sum
  | 0, _ => by simp [Deal.sumTo]
  | n + 1, h => by
    unfold Deal.sumTo
    rw [sum_fun pn nm n (by omega), List.take_add_one, nmF_at (show n < nm.length by omega), List.map_append, List.sum_append]
    simp
theorem SameBut.free {b p : Addr} {H H' : Hp} (e : SameBut b H H') (n : p ≠ b) (h : H' p = none) : H p = none := by
  cases z : H p with
  | none => rfl
  | some u =>
    have := e p u n z
    rw [h] at this
    cases this
theorem SameBut.mut {b p : Addr} {H H' : Hp} {o : HO} (e : SameBut b H H') (n : H p = none) : SameBut b H (upd H' p o) := fun a u na h => by
  rw [upd_ne (ne_of_none h n)]
  exact e a u na h
theorem Box.ne {H : Hp} {b p : Addr} {B : Nat} (X : Box H b B) (n : H p = none) : p ≠ b := by
  obtain ⟨g, d, c, h, _⟩ := X.at_
  exact (ne_of_none h n).symm
theorem Box.mono {H : Hp} {b : Addr} {B B' : Nat} (X : Box H b B) (h : B ≤ B') : Box H b B' := by
  obtain ⟨g, d, c, h1, h2, h3⟩ := X.at_
  exact ⟨g, d, c, h1, h2, by omega⟩
theorem Box.put {H : Hp} {b p : Addr} {B : Nat} {o : HO} (X : Box H b B) (n : p ≠ b) : Box (upd H p o) b B := by
  obtain ⟨g, d, c, h1, h2, h3⟩ := X.at_
  exact ⟨g, d, c, by rw [upd_ne (Ne.symm n)]; exact h1, h2, h3⟩
theorem erase_map {α β : Type} (f : α → β) : ∀ (l : List α) (k : Nat), (l.map f).eraseIdx k = (l.eraseIdx k).map f
  | [], _ => rfl
  | _ :: _, 0 => rfl
  | x :: l, k + 1 => by rw [List.map_cons, List.eraseIdx_cons_succ, erase_map f l k, List.eraseIdx_cons_succ, List.map_cons]
theorem erase_perm {α : Type} : ∀ (l : List α) (k : Nat) (h : k < l.length), List.Perm (l[k] :: l.eraseIdx k) l
  | [], _, h => absurd h (Nat.not_lt_zero _)
  | _ :: _, 0, _ => List.Perm.refl _
  | x :: l, k + 1, h => by
    rw [List.eraseIdx_cons_succ, List.getElem_cons_succ]
    exact (List.Perm.swap _ _ _).trans (List.Perm.cons x (erase_perm l k (by simpa using h)))
structure Cast (H : Hp) (b gd : Addr) (nm : List Str) (tn : Str → Addr) (pn cn : Str → Nat) (L : Nat) : Prop where
  d : H gd = some (.dK (nm.map fun z => ((Sum.inr z : Key), V.ref (tn z))))
  t : ∀ z, z ∈ nm → H (tn z) = some (.tup [.int (pn z), .int (cn z)]) ∧ tn z ≠ b ∧ tn z ≠ gd
  pc : ∀ z, z ∈ nm → pn z ≤ cn z ∧ 1 ≤ cn z ∧ cn z ≤ L
  sum : (nm.map pn).sum ≤ L
structure Case (H : Hp) (b t gd : Addr) (L : Nat) (nm : List Str) (ts : List Addr) (p c : Nat → Nat) : Prop where
  tu : H t = some (.tup [.int L, .ref gd])
  d : H gd = some (.dK (kvOf nm ts))
  len : ts.length = nm.length
  t : ∀ (i : Nat) (a : Addr), ts[i]? = some a → H a = some (.tup [.int (p i), .int (c i)])
  nd : nm.Nodup
  ok : ∀ z, z ∈ nm → z ∈ six
  pos : 1 ≤ nm.length
  few : nm.length ≤ 6
  O : Deal.Ok nm.length L p c
  lo : 4 ≤ L
  hi : L ≤ 60
section
variable {P : Program} {w : World} {K : PySem.W.Frag} {mg : Str → Option Value} {base : Heap}
def sp__law_case (K : PySem.W.Frag) : Sp := fun vs H Q _ => ∃ (b : Addr) (B : Nat), vs = [.ref b] ∧ Box H b B ∧ B ≤ 1000 ∧ ∀ (t gd : Addr) (L : Nat) (nm : List Str) (ts : List Addr) (p c : Nat → Nat) (H' : Hp), SameBut b H H' → H gd = none → Box H' b (B + 100) → Case H' b t gd L nm ts p c → Q (.ref t) H'
theorem ok__law_case {f : Addr} {fd : FuncData} (T : Txt K mg) (F : Fun K "_law_case" "_law_case" s__law_case f fd) : FnOk P w K mg base CX0 2 f fd ["box"] (sp__law_case K) := by
  obtain ⟨f__law_take, fd__law_take, g__law_take, F__law_take⟩ := T.d__law_take
  have G__law_take := ok__law_take (P := P) (w := w) (base := base) T F__law_take
  have b__law_take := F__law_take.binds (ps := ["box", "many"]) fun _ _ _ _ _ _ us hl => match us, hl with | [_, _], _ => rfl
  have scp := sc__law_case
  refine F.ok sc__law_case (fun vs H Q E h => ?_) (fun cdv A outer s H vs Q E hr h => ?_)
  · first | (obtain ⟨rfl, _⟩ := h; rfl) | (obtain ⟨_, rfl, _⟩ := h; rfl) | (obtain ⟨_, _, rfl, _⟩ := h; rfl) | (obtain ⟨_, _, _, rfl, _⟩ := h; rfl) | (obtain ⟨_, _, _, _, rfl, _⟩ := h; rfl) | (obtain ⟨_, _, _, _, _, rfl, _⟩ := h; rfl) | (obtain ⟨_, _, _, _, _, _, rfl, _⟩ := h; rfl) | (obtain ⟨_, _, _, _, _, _, _, rfl, _⟩ := h; rfl) | (obtain ⟨_, _, _, _, _, _, _, _, rfl, _⟩ := h; rfl) | (obtain ⟨_, _, _, _, _, _, _, _, _, rfl, _⟩ := h; rfl) | (obtain ⟨_, _, _, _, _, _, _, _, _, _, rfl, _⟩ := h; rfl) | (obtain ⟨_, _, _, _, _, _, _, _, _, _, _, rfl, _⟩ := h; rfl) | (obtain ⟨_, _, _, _, _, _, _, _, _, _, _, _, rfl, _⟩ := h; rfl) | (obtain ⟨_, _, _, _, _, _, _, _, _, _, _, _, _, rfl, _⟩ := h; rfl) | (obtain ⟨_, _, _, _, _, _, _, _, _, _, _, _, _, _, rfl, _⟩ := h; rfl) | (obtain ⟨_, _, _, _, _, _, _, _, _, _, _, _, _, _, _, rfl, _⟩ := h; rfl)
  · obtain ⟨b, B, rfl, X, hB, q⟩ := h
    have hu := hu_of hr
    have hv := hr.units
    refine ⟨_, (pss_cons (ps_asg (pe_tup (pa_cons (pe_op op_plus pe_int (pe_call (G__law_take.mono (by decide)) hr rfl g__law_take F__law_take.kp b__law_take .nil pass0 (pa_cons (pv 0) (pa_cons (pe_ix (ix_anyK (K := K) hu) (pe_lst (pa_cons pe_int (pa_cons pe_int (pa_cons pe_int pa_nil)))) (pe_call (G__law_take.mono (by decide)) hr rfl g__law_take F__law_take.kp b__law_take .nil pass0 (pa_cons (pv 0) (pa_cons pe_int pa_nil))) (fun _ _ => rfl)) pa_nil)))) (pa_cons pe_int (pa_cons pe_dnewK pa_nil)))) (pg_tupK (K := K) (n := 3) rfl (pgs_cons (pg_name (i := 1) scp.nd rfl (by first | exact Or.inl rfl | exact Or.inr rfl)) (pgs_cons (pg_name (i := 2) scp.nd rfl (by first | exact Or.inl rfl | exact Or.inr rfl)) (pgs_cons (pg_name (i := 3) scp.nd rfl (by first | exact Or.inl rfl | exact Or.inr rfl)) pgs_nil)))))
  (pss_cons (ps_set (i := 2) scp.nd rfl (by first | exact Or.inl rfl | exact Or.inr rfl) (pv 1))
  (pss_cons (ps_for PassesOwn.never rfl (pi_listK (K := K) (pe_slice (sl_listK (K := K)) (pe_lst (pa_cons pe_str (pa_cons pe_str (pa_cons pe_str (pa_cons pe_str (pa_cons pe_str (pa_cons pe_str pa_nil))))))) po_none (po_some (pe_op op_plus pe_int (pe_call (G__law_take.mono (by decide)) hr rfl g__law_take F__law_take.kp b__law_take .nil pass0 (pa_cons (pv 0) (pa_cons pe_int pa_nil))))))) (pg_name (i := 4) scp.nd rfl (by first | exact Or.inl rfl | exact Or.inr rfl))
  (pss_cons (ps_set (i := 5) scp.nd rfl (by first | exact Or.inl rfl | exact Or.inr rfl) (pe_ix (ix_anyK (K := K) hu) (pe_lst (pa_cons pe_int (pa_cons pe_int (pa_cons (pe_call (G__law_take.mono (by decide)) hr rfl g__law_take F__law_take.kp b__law_take .nil pass0 (pa_cons (pv 0) (pa_cons (pe_op op_plus (pv 2) pe_int) pa_nil))) (pa_cons (pe_call (G__law_take.mono (by decide)) hr rfl g__law_take F__law_take.kp b__law_take .nil pass0 (pa_cons (pv 0) (pa_cons (pe_op op_plus (pe_callB (call_min2Y rfl) (by rfl) T.n_min (by decide +kernel) (pa_cons (pv 2) (pa_cons pe_int pa_nil))) pe_int) pa_nil))) pa_nil))))) (pe_call (G__law_take.mono (by decide)) hr rfl g__law_take F__law_take.kp b__law_take .nil pass0 (pa_cons (pv 0) (pa_cons pe_int pa_nil))) (fun _ _ => rfl)))
  (pss_cons (ps_set (i := 5) scp.nd rfl (by first | exact Or.inl rfl | exact Or.inr rfl) (pe_callB (call_min2Y rfl) (by rfl) T.n_min (by decide +kernel) (pa_cons (pv 5) (pa_cons (pv 2) pa_nil))))
  (pss_cons (ps_set (i := 2) scp.nd rfl (by first | exact Or.inl rfl | exact Or.inr rfl) (pe_op op_minus (pv 2) (pv 5)))
  (pss_cons (ps_set (i := 6) scp.nd rfl (by first | exact Or.inl rfl | exact Or.inr rfl) (pe_callB (call_max2Y rfl) (by rfl) T.n_max (by decide +kernel) (pa_cons pe_int (pa_cons (pv 5) pa_nil))))
  (pss_cons (ps_set (i := 7) scp.nd rfl (by first | exact Or.inl rfl | exact Or.inr rfl) (pe_ix (ix_anyK (K := K) hu) (pe_lst (pa_cons (pv 1) (pa_cons (pv 6) (pa_cons (pe_op op_plus (pv 6) (pe_call (G__law_take.mono (by decide)) hr rfl g__law_take F__law_take.kp b__law_take .nil pass0 (pa_cons (pv 0) (pa_cons (pe_op op_plus (pe_op op_minus (pv 1) (pv 6)) pe_int) pa_nil)))) pa_nil)))) (pe_call (G__law_take.mono (by decide)) hr rfl g__law_take F__law_take.kp b__law_take .nil pass0 (pa_cons (pv 0) (pa_cons pe_int pa_nil))) (fun _ _ => rfl)))
  (pss_one (ps_dput hu (pv 3) (pv 4) (pe_tup (pa_cons (pv 5) (pa_cons (pv 7) pa_nil))) rfl))))))))
  (pss_cons (ps_set (i := 8) scp.nd rfl (by first | exact Or.inl rfl | exact Or.inr rfl) (pe_callTy (call_listK (K := K) rfl) (by rfl) T.n_list (by decide +kernel) (pa_cons (pv 3) pa_nil)))
  (pss_cons (ps_setLc (i := 9) (own := [("k", 10)]) (g := gName 10) (tt := tYes) rfl scp.nd rfl rfl (sw_true rfl rfl rfl (by decide +kernel)) (pi_range1 rfl T.n_range (pa_cons (pe_callB (call_lenK (K := K)) (by rfl) T.n_len (by decide +kernel) (pa_cons (pv 3) pa_nil)) pa_nil)) (blkOk_by (own := [("k", 10)]) (N := ["box", "length", "left", "guests", "name", "promise", "low", "ceiling", "names", "order", "k"]) (sc := defScope s__law_case) (by decide +kernel)) (fun _ _ _ _ _ => (pg_name (i := 10) scp.nd rfl (by first | exact Or.inl rfl | exact Or.inr rfl))) (fun _ _ _ _ _ => pts_nil) (fun _ _ _ _ _ => (pe_bmK (K := K) PySem.F.plainAttrs_list PySem.F.slot_list_pop PySem.F.type_list_pop mt_popAt (pv 8) (pa_cons (pe_call (G__law_take.mono (by decide)) hr rfl g__law_take F__law_take.kp b__law_take .nil pass0 (pa_cons (pv 0) (pa_cons (pe_callB (call_lenK (K := K)) (by rfl) T.n_len (by decide +kernel) (pa_cons (pv 8) pa_nil)) pa_nil))) pa_nil))))
  (pss_one (ps_ret (pe_tup (pa_cons (pv 1) (pa_cons (pe_callTy (call_dictKK (K := K) rfl) (by rfl) T.n_dict (by decide +kernel) (pa_cons (pe_lc (own := [("name", 4)]) (g := gName 4) (tt := tYes) rfl scp.nd (pi_listK (K := K) (pv 9)) (blkOk_by (own := [("name", 4)]) (N := ["box", "length", "left", "guests", "name", "promise", "low", "ceiling", "names", "order", "k"]) (sc := defScope s__law_case) (by decide +kernel)) (fun _ _ _ _ _ => (pg_name (i := 4) scp.nd rfl (by first | exact Or.inl rfl | exact Or.inr rfl))) (fun _ _ _ _ _ => pts_nil) (fun _ _ _ _ _ => (pe_tup (pa_cons (pv 4) (pa_cons (pe_ix (ix_anyK (K := K) hu) (pv 3) (pv 4) (fun _ _ => rfl)) pa_nil))))) pa_nil)) pa_nil)))))))))), ?_⟩
    walk_at "ys"
    refine ⟨sz_line (by simp), fun la nla => ?_⟩
    have X1 := X.same (same_new0 (o := .lst [.int 4, .int 12, .int 57]) nla)
    have hla : upd H la (.lst [.int 4, .int 12, .int 57]) la = some (.lst [.int 4, .int 12, .int 57]) := upd_same
    have e1 : Same H (upd H la (.lst [.int 4, .int 12, .int 57])) := same_new0 nla
    have nlab : la ≠ b := X.ne nla
    generalize upd H la (.lst [.int 4, .int 12, .int 57]) = H1 at *
    walk_at "ys"
    refine ⟨b, 3, B, rfl, by decide, by decide, X1, by omega, fun r1 H2 hr1 e2 X2 => ?_⟩
    obtain ⟨m1, hm1, hm0, hm57⟩ : ∃ m1 : Nat, atI [V.int 4, .int 12, .int 57] (r1 : Int) = some (.int m1) ∧ 0 < m1 ∧ m1 ≤ 57 := by
      match r1, hr1 with
      | 0, _ => exact ⟨4, rfl, by decide, by decide⟩
      | 1, _ => exact ⟨12, rfl, by decide, by decide⟩
      | 2, _ => exact ⟨57, rfl, by decide, by decide⟩
    have hla2 := e2 _ _ nlab hla
    walk_at "ys"
    refine y_ixL hla2 hm1 ?_
    walk_at "ys"
    refine ⟨b, m1, B + 1, rfl, hm0, by omega, X2, by omega, fun r2 H3 hr2 e3 X3 => ?_⟩
    have e3 := ((SameBut.of e1).trans e2).trans e3
    walk_at "ys"
    intro gd ngd
    have hLe : (4 : Int) + (r2 : Int) = ((4 + r2 : Nat) : Int) := by omega
    rw [hLe]
    have hL4 : 4 ≤ 4 + r2 := by omega
    have hL60 : 4 + r2 ≤ 60 := by omega
    generalize 4 + r2 = L at *
    have ngb : gd ≠ b := X3.ne ngd
    have ngH : H gd = none := e3.free ngb ngd
    have e4 : SameBut b H (upd H3 gd (.dK [])) := e3.trans (.of (same_new0 ngd))
    have X4 := X3.same (same_new0 (o := .dK []) ngd)
    have hgd4 : upd H3 gd (.dK []) gd = some (.dK []) := upd_same
    generalize upd H3 gd (.dK []) = H4 at *
    walk_at "ys"
    refine ⟨sz_line (by simp), fun tp ntp => ?_⟩
    have e5 := e4.trans (.of (same_new0 (o := .tup [.int L, .int 0, .ref gd]) ntp))
    have X5 := X4.same (same_new0 (o := .tup [.int L, .int 0, .ref gd]) ntp)
    have htp : upd H4 tp (.tup [.int L, .int 0, .ref gd]) tp = some (.tup [.int L, .int 0, .ref gd]) := upd_same
    have hgd5 := same_new0 (o := .tup [.int L, .int 0, .ref gd]) ntp _ _ hgd4
    generalize upd H4 tp (.tup [.int L, .int 0, .ref gd]) = H5 at *
    walk_at "ys"
    refine ⟨sz_line (by simp), fun sa nsa => ?_⟩
    have e6 := e5.trans (.of (same_new0 (o := .lst (six.map V.str)) nsa))
    have X6 := X5.same (same_new0 (o := .lst (six.map V.str)) nsa)
    have hsa : upd H5 sa (.lst (six.map V.str)) sa = some (.lst (six.map V.str)) := upd_same
    have hgd6 := same_new0 (o := .lst (six.map V.str)) nsa _ _ hgd5
    have nsb : sa ≠ b := X5.ne nsa
    change tNoPart _ (upd H5 sa (.lst (six.map V.str))) _
    generalize upd H5 sa (.lst (six.map V.str)) = H6 at *
    walk_at "ys"
    refine ⟨b, 6, B + 2, rfl, by decide, by decide, X6, by omega, fun r6 H7 hr6 e7 X7 => ?_⟩
    have hgd7 := e7 _ _ ngb hgd6
    have hsa7 := e7 _ _ nsb hsa
    have e7 := e6.trans e7
    have hcut : cutV (six.map V.str) none (some ((1 : Int) + (r6 : Int))) = (six.take (1 + r6)).map V.str := by
      match r6, hr6 with
      | 0, _ => rfl
      | 1, _ => rfl
      | 2, _ => rfl
      | 3, _ => rfl
      | 4, _ => rfl
      | 5, _ => rfl
    walk_at "ys"
    refine y_slL hsa7 (fun sl nsl => ?_)
    rw [hcut]
    have hm6 : 1 + r6 ≤ 6 := by omega
    have hm1 : 1 ≤ 1 + r6 := by omega
    generalize 1 + r6 = m at *
    have e8 := e7.trans (.of (same_new0 (o := .lst ((six.take m).map V.str)) nsl))
    have X8 := X7.same (same_new0 (o := .lst ((six.take m).map V.str)) nsl)
    have hsl : upd H7 sl (.lst ((six.take m).map V.str)) sl = some (.lst ((six.take m).map V.str)) := upd_same
    have hgd8 := same_new0 (o := .lst ((six.take m).map V.str)) nsl _ _ hgd7
    have nslb : sl ≠ b := X7.ne nsl
    have nslg : sl ≠ gd := (ne_of_none hgd7 nsl).symm
    generalize upd H7 sl (.lst ((six.take m).map V.str)) = H8 at *
    walk_at "ys"
    have hslen : (six.take m).length = m := by rw [List.length_take]; exact Nat.min_eq_left hm6
    refine for_it (walk_list (xs := (six.take m).map V.str)) (fun i σ H' => ∃ (u4 u5 u6 u7 : Option V) (tn : Str → Addr) (pn cn : Str → Nat) (lf : Nat), σ = [some (.ref b), some (.int L), some (.int lf), some (.ref gd), u4, u5, u6, u7, none, none, none] ∧ SameBut b H H' ∧ H' sl = some (.lst ((six.take m).map V.str)) ∧ Box H' b (B + 3 + 5 * i) ∧ Cast H' b gd (six.take i) tn pn cn L ∧ lf + ((six.take i).map pn).sum = L)
      ⟨none, none, none, none, fun _ => 0, fun _ => 0, fun _ => 0, L, rfl, e8, hsl, X8, ⟨hgd8, fun z hz => by simp at hz, fun z hz => by simp at hz, by simp⟩, by simp⟩
      (fun i σ H' _ h => ?_) (fun i x σ H9 H10 hi hP hY => ?_) (fun σ H9 hP => ?_)
    · obtain ⟨_, _, _, _, _, _, _, _, _, _, h, _⟩ := h
      exact SqL.of h
    · obtain ⟨u4, u5, u6, u7, tn, pn, cn, lf, rfl, e9, hsl9, X9, C, hlf⟩ := hP
      obtain ⟨rfl, hx⟩ := hY
      rw [List.length_map, hslen] at hi
      obtain ⟨z, hz⟩ : ∃ z, six[i]? = some z := ⟨six[i]'(by show i < 6; omega), List.getElem?_eq_getElem _⟩
      rw [List.getElem?_map, List.getElem?_take_of_lt hi, hz] at hx
      have hx := Option.some.inj hx
      subst hx
      have htake : six.take (i + 1) = six.take i ++ [z] := by rw [List.take_add_one, hz]; rfl
      have hzn : z ∉ six.take i := fun hmem => by
        obtain ⟨j, hj, e⟩ := List.mem_iff_getElem.mp hmem
        rw [List.length_take] at hj
        have e2 : six[j]? = some z := by
          rw [List.getElem_take] at e
          rw [← e]
          exact List.getElem?_eq_getElem _
        have := nd_ix six_nd e2 hz
        omega
      have hlL : lf ≤ L := by omega
      have hgd9 := C.d
      walk_at "ys"
      refine ⟨b, lf + 1, B + 3 + 5 * i, rfl, by omega, by omega, X9, by omega, fun a1 H11 ha1 e11 X11 => ?_⟩
      walk_at "ys"
      have em : (if (6 : Int) < (lf : Int) then (6 : Int) else (lf : Int)) + 1 = ((min lf 6 + 1 : Nat) : Int) := by split <;> omega
      rw [em]
      refine ⟨b, min lf 6 + 1, B + 3 + 5 * i + 1, rfl, by omega, by omega, X11, by omega, fun a2 H12 ha2 e12 X12 => ?_⟩
      have e12 := e11.trans e12
      walk_at "ys"
      refine ⟨sz_line (by simp), fun pl npl => ?_⟩
      have e13 := e12.trans (.of (same_new0 (o := .lst [.int 0, .int 1, .int a1, .int a2]) npl))
      have X13 := X12.same (same_new0 (o := .lst [.int 0, .int 1, .int a1, .int a2]) npl)
      have hpl : upd H12 pl (.lst [.int 0, .int 1, .int a1, .int a2]) pl = some (.lst [.int 0, .int 1, .int a1, .int a2]) := upd_same
      have nplb : pl ≠ b := X12.ne npl
      generalize upd H12 pl (.lst [.int 0, .int 1, .int a1, .int a2]) = H13 at *
      walk_at "ys"
      refine ⟨b, 4, B + 3 + 5 * i + 2, rfl, by omega, by omega, X13, by omega, fun a3 H14 ha3 e14 X14 => ?_⟩
      obtain ⟨pr, hpr⟩ : ∃ pr : Nat, atI [V.int 0, .int 1, .int a1, .int a2] (a3 : Int) = some (.int pr) := by
        match a3, ha3 with
        | 0, _ => exact ⟨0, rfl⟩
        | 1, _ => exact ⟨1, rfl⟩
        | 2, _ => exact ⟨a1, rfl⟩
        | 3, _ => exact ⟨a2, rfl⟩
      have hpl14 := e14 _ _ nplb hpl
      have e14 := e13.trans e14
      walk_at "ys"
      refine y_ixL hpl14 hpr ?_
      walk_at "ys"
      obtain ⟨p, hp, hpl⟩ : ∃ p : Nat, (if (lf : Int) < (pr : Int) then (lf : Int) else (pr : Int)) = (p : Int) ∧ p ≤ lf := ⟨min pr lf, by split <;> omega, by omega⟩
      rw [hp]
      walk_at "ys"
      obtain ⟨lf2, hlf2, hlf3⟩ : ∃ lf2 : Nat, (lf : Int) - (p : Int) = (lf2 : Int) ∧ lf2 + p = lf := ⟨lf - p, by omega, by omega⟩
      rw [hlf2]
      walk_at "ys"
      obtain ⟨lw, hlw, hlw1, hlw2, hlw3⟩ : ∃ lw : Nat, (if (p : Int) > 1 then (p : Int) else 1) = (lw : Int) ∧ 1 ≤ lw ∧ p ≤ lw ∧ lw ≤ L := ⟨max 1 p, by split <;> omega, by omega, by omega, by omega⟩
      rw [hlw]
      walk_at "ys"
      have em2 : (L : Int) - (lw : Int) + 1 = ((L - lw + 1 : Nat) : Int) := by omega
      rw [em2]
      refine ⟨b, L - lw + 1, B + 3 + 5 * i + 3, rfl, by omega, by omega, X14, by omega, fun a4 H15 ha4 e15 X15 => ?_⟩
      have e15 := e14.trans e15
      have em3 : (lw : Int) + (a4 : Int) = ((lw + a4 : Nat) : Int) := by omega
      walk_at "ys"
      rw [em3]
      refine ⟨sz_line (by simp), fun cl ncl => ?_⟩
      have e16 := e15.trans (.of (same_new0 (o := .lst [.int L, .int lw, .int (lw + a4 : Nat)]) ncl))
      have X16 := X15.same (same_new0 (o := .lst [.int L, .int lw, .int (lw + a4 : Nat)]) ncl)
      have hcl : upd H15 cl (.lst [.int L, .int lw, .int (lw + a4 : Nat)]) cl = some (.lst [.int L, .int lw, .int (lw + a4 : Nat)]) := upd_same
      have nclb : cl ≠ b := X15.ne ncl
      generalize upd H15 cl (.lst [.int L, .int lw, .int (lw + a4 : Nat)]) = H16 at *
      walk_at "ys"
      refine ⟨b, 3, B + 3 + 5 * i + 4, rfl, by omega, by omega, X16, by omega, fun a5 H17 ha5 e17 X17 => ?_⟩
      obtain ⟨ce, hce, hce1, hce2⟩ : ∃ ce : Nat, atI [V.int L, .int lw, .int (lw + a4 : Nat)] (a5 : Int) = some (.int ce) ∧ lw ≤ ce ∧ ce ≤ L := by
        match a5, ha5 with
        | 0, _ => exact ⟨L, rfl, hlw3, Nat.le_refl _⟩
        | 1, _ => exact ⟨lw, rfl, Nat.le_refl _, hlw3⟩
        | 2, _ => exact ⟨lw + a4, rfl, by omega, by omega⟩
      have hcl17 := e17 _ _ nclb hcl
      have e17 := e16.trans e17
      walk_at "ys"
      refine y_ixL hcl17 hce ?_
      walk_at "ys"
      refine ⟨sz_line (by simp), fun tt ntt => ?_⟩
      have e18 := e17.trans (.of (same_new0 (o := .tup [.int p, .int ce]) ntt))
      have X18 := X17.same (same_new0 (o := .tup [.int p, .int ce]) ntt)
      have htt : upd H17 tt (.tup [.int p, .int ce]) tt = some (.tup [.int p, .int ce]) := upd_same
      have nttb : tt ≠ b := X17.ne ntt
      have hgd17 := e17 _ _ ngb hgd9
      have nttg : tt ≠ gd := (ne_of_none hgd17 ntt).symm
      generalize upd H17 tt (.tup [.int p, .int ce]) = H18 at *
      have hgd18 := e18 _ _ ngb hgd9
      walk_at "ys"
      refine y_put hgd18 (sz_lt (by rw [List.length_map, List.length_take]; omega)) ?_
      rw [putK_new _ (by rw [valV_fun, if_neg hzn])]
      walk_at "ys"
      have hyz : ∀ y, y ∈ six.take i → ¬ y = z := fun y hy e => hzn (by rw [← e]; exact hy)
      have hf : ∀ {α : Type} (f : Str → α) (v : α) (y : Str), y ∈ six.take i → (if y = z then v else f y) = f y := fun f v y hy => if_neg (hyz y hy)
      refine ⟨_, _, _, _, fun y => if y = z then tt else tn y, fun y => if y = z then p else pn y, fun y => if y = z then ce else cn y, lf2, rfl, (e9.trans e18).mut ngH, ?_, ?_, ⟨?_, ?_, ?_, ?_⟩, ?_⟩
      · rw [upd_ne nslg]
        exact e18 _ _ nslb hsl9
      · exact (X18.put ngb).mono (by omega)
      · rw [upd_same, htake, List.map_append]
        congr 3
        · exact List.map_congr_left fun y hy => by rw [if_neg (hyz y hy)]
        · show _ = [((Sum.inr z : Key), V.ref (if z = z then tt else tn z))]
          rw [if_pos rfl]
      · intro y hy
        rw [htake, List.mem_append] at hy
        rcases hy with hy | hy
        · obtain ⟨h1, h2, h3⟩ := C.t y hy
          show upd H18 gd _ (if y = z then tt else tn y) = some (HO.tup [V.int ↑(if y = z then p else pn y), V.int ↑(if y = z then ce else cn y)]) ∧ (if y = z then tt else tn y) ≠ b ∧ (if y = z then tt else tn y) ≠ gd
          rw [hf tn tt y hy, hf pn p y hy, hf cn ce y hy]
          refine ⟨?_, h2, h3⟩
          rw [upd_ne h3]
          exact e18 _ _ h2 h1
        · obtain rfl := List.mem_singleton.mp hy
          rw [if_pos rfl, if_pos rfl, if_pos rfl]
          refine ⟨?_, nttb, nttg⟩
          rw [upd_ne nttg]
          exact htt
      · intro y hy
        rw [htake, List.mem_append] at hy
        rcases hy with hy | hy
        · show ((if y = z then p else pn y) ≤ if y = z then ce else cn y) ∧ (1 ≤ if y = z then ce else cn y) ∧ (if y = z then ce else cn y) ≤ L
          rw [hf pn p y hy, hf cn ce y hy]
          exact C.pc y hy
        · obtain rfl := List.mem_singleton.mp hy
          rw [if_pos rfl, if_pos rfl]
          omega
      · have hs : ((six.take (i + 1)).map fun y => if y = z then p else pn y).sum = ((six.take i).map pn).sum + p := by
          rw [htake, List.map_append, List.sum_append, List.map_congr_left fun y hy => hf pn p y hy]
          simp
        rw [hs]
        omega
      · have hs : ((six.take (i + 1)).map fun y => if y = z then p else pn y).sum = ((six.take i).map pn).sum + p := by
          rw [htake, List.map_append, List.sum_append, List.map_congr_left fun y hy => hf pn p y hy]
          simp
        rw [hs]
        omega
    · obtain ⟨u4, u5, u6, u7, tn, pn, cn, lf, rfl, e9, hsl9, X9, C, hlf⟩ := hP
      rw [List.length_map, hslen] at X9 C hlf
      have hgd9 := C.d
      have hnl : ((six.take m).map fun z => ((Sum.inr z : Key), V.ref (tn z))).map (fun kv => kV kv.1) = (six.take m).map V.str := by
        rw [List.map_map]
        rfl
      generalize hnm : six.take m = nm0 at *
      walk_at "ys"
      refine y_listK hgd9 (fun nl nnl => ?_)
      rw [hnl]
      have e10 := e9.trans (.of (same_new0 (o := .lst (nm0.map V.str)) nnl))
      have X10 := X9.same (same_new0 (o := .lst (nm0.map V.str)) nnl)
      have hnl10 : upd H9 nl (.lst (nm0.map V.str)) nl = some (.lst (nm0.map V.str)) := upd_same
      have nnlb : nl ≠ b := X9.ne nnl
      have nnlg : nl ≠ gd := (ne_of_none hgd9 nnl).symm
      have f10 : Same H9 (upd H9 nl (.lst (nm0.map V.str))) := same_new0 nnl
      have nnlH : H nl = none := e9.free nnlb nnl
      generalize upd H9 nl (.lst (nm0.map V.str)) = H10 at *
      have hgd10 := f10 _ _ hgd9
      walk_at "ys"
      rw [List.length_map, hslen]
      refine y_gotr1 (by omega) (by omega) ?_
      intro od nod
      have nodH : H od = none := e10.free (X10.ne nod) nod
      have nodb : od ≠ b := X10.ne nod
      have nodl : od ≠ nl := (ne_of_none hnl10 nod).symm
      refine lc_it walk_range (fun i H' => ∃ rest done : List Str, H' nl = some (.lst (rest.map V.str)) ∧ H' od = some (.lst (done.map V.str)) ∧ List.Perm (done ++ rest) nm0 ∧ done.length = i ∧ SameBut b H H' ∧ Box H' b (B + 33 + i) ∧ (∀ a u, a ≠ b → a ≠ nl → H10 a = some u → H' a = some u))
        ⟨nm0, [], up_new nod hnl10, upd_same, by simp, rfl, e10.mut nodH, (X10.put nodb).mono (by omega), fun a u _ _ h => up_new nod h⟩ (fun _ _ _ _ => trivial) (fun i x H11 H12 hi hP hY => ?_) (fun H11 hP => ?_)
      · obtain ⟨rest, done, hnl11, hod11, hpe, hdl, e11, X11, F11⟩ := hP
        obtain ⟨rfl, rfl⟩ := hY
        have hrl : done.length + rest.length = m := by rw [← List.length_append, hpe.length_eq, hslen]
        walk_at "ys"
        rw [List.length_map]
        refine ⟨b, rest.length, B + 33 + i, rfl, by omega, by omega, X11, by omega, fun r H13 hr13 e13 X13 => ?_⟩
        have hnl13 := e13 _ _ nnlb hnl11
        have hod13 := e13 _ _ nodb hod11
        walk_at "ys"
        refine y_popAt (y := .str rest[r]) hnl13 (by rw [List.getElem?_map, List.getElem?_eq_getElem hr13]; rfl) (by omega) ?_
        refine ⟨_, by rw [upd_ne nodl]; exact hod13, by rw [List.length_map]; exact sz_lt (by omega), rest.eraseIdx r, done ++ [rest[r]], ?_, ?_, ?_, by rw [List.length_append, hdl]; rfl, ((e11.trans e13).mut nnlH).mut nodH, ((X13.put nnlb).put nodb).mono (by omega), fun a u n1 n2 h => ?_⟩
        · rw [upd_ne (Ne.symm nodl), upd_same, erase_map]
        · rw [upd_same, List.map_append]
          rfl
        · refine List.Perm.trans ?_ hpe
          rw [List.append_assoc]
          exact List.Perm.append_left _ (erase_perm rest r hr13)
        · have nao : a ≠ od := fun z => by
            rw [z] at h
            rw [h] at nod
            cases nod
          rw [upd_ne nao, upd_ne n2]
          exact e13 _ _ n1 (F11 a u n1 n2 h)
      · obtain ⟨rest, done, hnl11, hod11, hpe, hdl, e11, X11, F11⟩ := hP
        have hrl : done.length + rest.length = m := by rw [← List.length_append, hpe.length_eq, hslen]
        have hmm : ((m : Int)).toNat = m := rfl
        obtain rfl : rest = [] := List.eq_nil_of_length_eq_zero (by omega)
        rw [List.append_nil] at hpe
        have hgd11 := F11 _ _ ngb (Ne.symm nnlg) hgd10
        have hdm : done.length = m := by simpa using hrl
        have ht11 : ∀ z, z ∈ done → H11 (tn z) = some (.tup [.int (pn z), .int (cn z)]) := fun z hz => by
          obtain ⟨h1, h2, h3⟩ := C.t z (hpe.mem_iff.mp hz)
          exact F11 _ _ h2 (ne_of_none h1 nnl) (f10 _ _ h1)
        walk_at "ys"
        intro pd npd
        refine lc_new (fun j => .tup [.str (nmF done j), .ref (tn (nmF done j))]) (fun _ _ z => by cases z) (walk_list (xs := done.map V.str)) npd (sz_lt (by rw [List.length_map]; omega)) (fun H' e => SqL.of (e _ _ hod11)) (fun j x H12 H13 Nx hj e12 hY c0 => ?_) (fun H12 as e12 hal ha hpd => ?_)
        · obtain ⟨rfl, hx⟩ := hY
          rw [List.length_map] at hj
          rw [List.getElem?_map, nmF_at hj] at hx
          have hx := Option.some.inj hx
          subst hx
          have hmem : nmF done j ∈ nm0 := hpe.mem_iff.mp (List.mem_of_getElem? (nmF_at hj))
          walk_at "ys"
          refine y_ixK (e12 _ _ hgd11) (by rw [valV_fun, if_pos hmem]) ?_
          walk_at "ys"
          refine ⟨sz_line (by simp), fun tp2 ntp2 => ?_⟩
          exact c0 tp2 _ (same_new0 ntp2) upd_same
        · rw [List.length_map] at hal
          have X12 := X11.same e12
          have hnd : done.Nodup := hpe.nodup_iff.mpr (by rw [← hnm]; exact (List.take_sublist _ _).nodup six_nd)
          walk_at "ys"
          refine y_dictP (kvs := done.map fun z => ((Sum.inr z : Key), V.ref (tn z))) hpd ?_ (fun g2 ng2 => ?_)
          · refine paired_idx (by rw [hal, List.length_map]) fun j a kv h1 h2 => ?_
            have hj : j < done.length := by
              have := (List.getElem?_eq_some_iff.mp h1).1
              omega
            rw [List.getElem?_map, nmF_at hj] at h2
            have h2 := Option.some.inj h2
            subst h2
            exact SqT.of (ha j a h1)
          · have hmg := merge_fun (fun z => V.ref (tn z)) done [] (by simpa using hnd)
            rw [List.map_nil, List.nil_append] at hmg
            rw [hmg]
            have f13 : Same H11 (upd H12 g2 (.dK (done.map fun z => ((Sum.inr z : Key), V.ref (tn z))))) := e12.trans (same_new0 ng2)
            have e13 : SameBut b H (upd H12 g2 (.dK (done.map fun z => ((Sum.inr z : Key), V.ref (tn z))))) := e11.trans (.of f13)
            have X13 := X12.same (same_new0 (o := .dK (done.map fun z => ((Sum.inr z : Key), V.ref (tn z)))) ng2)
            have hg2 : upd H12 g2 (.dK (done.map fun z => ((Sum.inr z : Key), V.ref (tn z)))) g2 = some (.dK (done.map fun z => ((Sum.inr z : Key), V.ref (tn z)))) := upd_same
            have ng2b : g2 ≠ b := X12.ne ng2
            have ng2H : H g2 = none := (e11.trans (.of e12)).free ng2b ng2
            generalize upd H12 g2 (.dK (done.map fun z => ((Sum.inr z : Key), V.ref (tn z)))) = H13 at *
            walk_at "ys"
            refine ⟨sz_line (by simp), fun t2 nt2 => ?_⟩
            have f14 : Same H13 (upd H13 t2 (.tup [.int L, .ref g2])) := same_new0 nt2
            refine q t2 g2 L done (done.map tn) (fun i => pn (nmF done i)) (fun i => cn (nmF done i)) _ (e13.trans (.of f14)) ng2H ((X13.same f14).mono (by omega)) ⟨upd_same, ?_, by rw [List.length_map], ?_, hnd, ?_, by omega, by omega, ⟨?_, ?_, ?_, ?_⟩, hL4, hL60⟩
            · rw [kvOf_fun]
              exact f14 _ _ hg2
            · intro i a h
              rw [List.getElem?_map] at h
              cases hy : done[i]? with
              | none =>
                rw [hy] at h
                cases h
              | some y =>
                rw [hy] at h
                have h := Option.some.inj h
                subst h
                rw [nmF_of hy]
                exact f14 _ _ (f13 _ _ (ht11 y (List.mem_of_getElem? hy)))
            · intro z hz
              have := hpe.mem_iff.mp hz
              rw [← hnm] at this
              exact List.mem_of_mem_take this
            · exact fun i hi => (C.pc _ (hpe.mem_iff.mp (List.mem_of_getElem? (nmF_at hi)))).1
            · exact fun i hi => (C.pc _ (hpe.mem_iff.mp (List.mem_of_getElem? (nmF_at hi)))).2.1
            · exact fun i hi => (C.pc _ (hpe.mem_iff.mp (List.mem_of_getElem? (nmF_at hi)))).2.2
            · rw [sum_fun pn done done.length (Nat.le_refl _), List.take_length, (hpe.map pn).sum_nat]
              exact C.sum
end
end K60
namespace K60
open PySem L2 Y LamX

theorem tabs_but {T : List (Addr × Str)} {H H' : Hp} {l : Addr} (t : Tabs T H) (e : SameBut l H H') {v : HO} (h : H l = some v) (hv : ∀ ps, v ≠ .tbl ps) (hv2 : ∀ (c : Addr) (q : Str), v ≠ CodeO c q) : Tabs T H' := fun p hp => by
  obtain ⟨ps, h1, h2, h3⟩ := t p hp
  refine ⟨ps, e _ _ (fun z => by rw [z, h] at h1; exact hv ps (Option.some.inj h1)) h1, h2, fun pos cv hc => ?_⟩
  obtain ⟨c, e1, e2⟩ := h3 pos cv hc
  exact ⟨c, e1, e _ _ (fun z => by rw [z, h] at e2; exact hv2 _ _ (Option.some.inj e2)) e2⟩
theorem Gs.extn {H H' : Hp} {g : Addr} {o : Obj} {nm : List Str} {ts : List Addr} {p c : Nat → Nat} (G : Gs H g o nm ts p c) (e : ExtN H H') : Gs H' g o nm ts p c :=
  ⟨e _ _ G.d (fun ps z => by cases z), G.len, fun i a h => e _ _ (G.t i a h) (fun ps z => by cases z), G.nd, G.ok, G.few⟩
theorem got_turns {n L : Nat} {p c : Nat → Nat} {d : List (Option Nat)} (O : Deal.Ok n L p c) (G : Deal.Good n p c d) (hL : d.length = L) {i : Nat} (hi : i < n) : Deal.got d 0 i = (List.range (Deal.many n L p c i)).map (Deal.T n p c i) := by
  rw [G.turns i hi, Deal.cnt_many O G hL hi]
theorem got_ints {n L : Nat} {p c : Nat → Nat} {d : List (Option Nat)} (O : Deal.Ok n L p c) (G : Deal.Good n p c d) (hL : d.length = L) {i : Nat} (hi : i < n) : (List.range L).filterMap (fun j : Nat => if d[j]? = some (some i) then some (V.int ((j : Int) + 1)) else none) = (turnsOf n L p c i).map V.int := by
  rw [← hL, got_all d i fun j : Nat => V.int ((j : Int) + 1), got_turns O G hL hi, hL]
  unfold turnsOf
  rw [List.map_map, List.map_map]
  refine List.map_congr_left fun k _ => ?_
  have := Deal.T_ge n p c i k
  show V.int (((Deal.T n p c i k - 1 : Nat) : Int) + 1) = V.int (Deal.T n p c i k : Nat)
  rw [show ((Deal.T n p c i k - 1 : Nat) : Int) + 1 = (Deal.T n p c i k : Nat) by omega]
theorem flat_ints {n L : Nat} {p c : Nat → Nat} {d : List (Option Nat)} (O : Deal.Ok n L p c) (G : Deal.Good n p c d) (hL : d.length = L) : List.Perm ((List.range n).flatMap (turnsOf n L p c)) ((List.range (Deal.sumTo (Deal.cnt d) n)).map fun k => ((k + 1 : Nat) : Int)) := by
  have h := G.perm.map (fun k : Nat => (k : Int))
  rw [List.map_map] at h
  refine List.Perm.trans (List.Perm.of_eq ?_) h
  rw [List.map_flatMap]
  rw [List.flatMap_def, List.flatMap_def]
  congr 1
  refine List.map_congr_left fun i hi => ?_
  show _ = (Deal.got d 0 i).map _
  rw [got_turns O G hL (List.mem_range.mp hi)]
  unfold turnsOf
  rw [List.map_map]
  rfl
theorem range_sorted : ∀ N : Nat, ((List.range N).map fun k => ((k + 1 : Nat) : Int)).Pairwise (· ≤ ·) := fun N => by
  rw [List.pairwise_map]
  exact List.Pairwise.imp (fun {a b} (h : a < b) => by omega) List.pairwise_lt_range
section
variable {P : Program} {w : World} {K : PySem.W.Frag} {mg : Str → Option Value} {base : Heap}
def sp__law_all_right (K : PySem.W.Frag) (Pt : Addr) : Sp := fun vs H Q _ => ∃ (L : Nat) (g : Addr) (o : Obj) (nm : List Str) (ts : List Addr) (p c : Nat → Nat), vs = [.int L, .ref g] ∧ Gs H g o nm ts p c ∧ Deal.Ok nm.length L p c ∧ 4 ≤ L ∧ L ≤ 60 ∧ Tabs [(Pt, qL)] H ∧ ∀ H', ExtN H H' → Tabs [(Pt, qL)] H' → Q (.bl true) H'
theorem ok__law_all_right {f : Addr} {fd : FuncData} (T : Txt K mg) {ca Pt : Addr} (C : Cd K mg base ca Pt) (F : Fun K "_law_all_right" "_law_all_right" s__law_all_right f fd) : FnOk P w K mg base CX0 6 f fd ["length", "guests"] (sp__law_all_right K Pt) := by
  obtain ⟨f_worst, fd_worst, g_worst, F_worst⟩ := T.d_worst
  have G_worst := ok_worst (P := P) (w := w) (base := base) T C F_worst
  have b_worst := F_worst.binds (ps := ["length", "guests"]) fun _ _ _ _ _ _ us hl => match us, hl with | [_, _], _ => rfl
  obtain ⟨f__law_turns, fd__law_turns, g__law_turns, F__law_turns⟩ := T.d__law_turns
  have G__law_turns := ok__law_turns (P := P) (w := w) (base := base) T F__law_turns
  have b__law_turns := F__law_turns.binds (ps := ["length", "guests", "name"]) fun _ _ _ _ _ _ us hl => match us, hl with | [_, _, _], _ => rfl
  obtain ⟨f_first_broken, fd_first_broken, g_first_broken, F_first_broken⟩ := T.d_first_broken
  have G_first_broken := ok_first_broken (P := P) (w := w) (base := base) T F_first_broken
  have b_first_broken := F_first_broken.binds (ps := ["length", "guests", "ready", "dealt"]) fun _ _ _ _ _ _ us hl => match us, hl with | [_, _, _, _], _ => rfl
  obtain ⟨f__law_same, fd__law_same, g__law_same, F__law_same⟩ := T.d__law_same
  have G__law_same := ok__law_samelist (P := P) (w := w) (base := base) T F__law_same
  have b__law_same := F__law_same.binds (ps := ["told", "due"]) fun _ _ _ _ _ _ us hl => match us, hl with | [_, _], _ => rfl
  obtain ⟨f_at_least, fd_at_least, g_at_least, F_at_least⟩ := T.d_at_least
  have G_at_least := ok_at_least (P := P) (w := w) (base := base) T F_at_least
  have b_at_least := F_at_least.binds (ps := ["length", "guests", "name", "turns"]) fun _ _ _ _ _ _ us hl => match us, hl with | [_, _, _, _], _ => rfl
  have G__law_same_int := ok__law_sameint (P := P) (w := w) (base := base) T F__law_same
  have scp := sc__law_all_right
  refine F.ok sc__law_all_right (fun vs H Q E h => ?_) (fun cdv A outer s H vs Q E hr h => ?_)
  · first | (obtain ⟨rfl, _⟩ := h; rfl) | (obtain ⟨_, rfl, _⟩ := h; rfl) | (obtain ⟨_, _, rfl, _⟩ := h; rfl) | (obtain ⟨_, _, _, rfl, _⟩ := h; rfl) | (obtain ⟨_, _, _, _, rfl, _⟩ := h; rfl) | (obtain ⟨_, _, _, _, _, rfl, _⟩ := h; rfl) | (obtain ⟨_, _, _, _, _, _, rfl, _⟩ := h; rfl) | (obtain ⟨_, _, _, _, _, _, _, rfl, _⟩ := h; rfl) | (obtain ⟨_, _, _, _, _, _, _, _, rfl, _⟩ := h; rfl) | (obtain ⟨_, _, _, _, _, _, _, _, _, rfl, _⟩ := h; rfl) | (obtain ⟨_, _, _, _, _, _, _, _, _, _, rfl, _⟩ := h; rfl) | (obtain ⟨_, _, _, _, _, _, _, _, _, _, _, rfl, _⟩ := h; rfl) | (obtain ⟨_, _, _, _, _, _, _, _, _, _, _, _, rfl, _⟩ := h; rfl) | (obtain ⟨_, _, _, _, _, _, _, _, _, _, _, _, _, rfl, _⟩ := h; rfl) | (obtain ⟨_, _, _, _, _, _, _, _, _, _, _, _, _, _, rfl, _⟩ := h; rfl) | (obtain ⟨_, _, _, _, _, _, _, _, _, _, _, _, _, _, _, rfl, _⟩ := h; rfl)
  · obtain ⟨L, g, o, nm, ts, p, c, rfl, G, O, h4, h60, hT, q⟩ := h
    have hu := hu_of hr
    have hv := hr.units
    have hd := G.d
    refine ⟨_, (pss_cons (ps_asg (pe_tup (pa_cons (pe_call (G_worst.mono (by decide)) hr rfl g_worst F_worst.kp b_worst .nil pass0 (pa_cons (pv 0) (pa_cons (pv 1) pa_nil))) (pa_cons pe_dnewK pa_nil))) (pg_tupK (K := K) (n := 2) rfl (pgs_cons (pg_name (i := 2) scp.nd rfl (by first | exact Or.inl rfl | exact Or.inr rfl)) (pgs_cons (pg_name (i := 3) scp.nd rfl (by first | exact Or.inl rfl | exact Or.inr rfl)) pgs_nil))))
  (pss_cons (ps_for PassesOwn.never rfl (pi_keys (pv 1)) (pg_name (i := 4) scp.nd rfl (by first | exact Or.inl rfl | exact Or.inr rfl))
  (pss_cons (ps_dput hu (pv 3) (pv 4) (pe_call (G__law_turns.mono (by decide)) hr rfl g__law_turns F__law_turns.kp b__law_turns .nil pass0 (pa_cons (pv 0) (pa_cons (pv 1) (pa_cons (pv 4) pa_nil)))) rfl)
  (pss_cons (ps_if (pt_not (pt_val (pe_call (G__law_same.mono (by decide)) hr rfl g__law_same F__law_same.kp b__law_same .nil pass0 (pa_cons (pe_ix (ix_anyK (K := K) hu) (pv 3) (pv 4) (fun _ _ => rfl)) (pa_cons (pe_lc (own := [("k", 6)]) (g := gName 6) rfl scp.nd (pi_range1 rfl T.n_range (pa_cons (pv 0) pa_nil)) (blkOk_by (own := [("k", 6)]) (N := ["length", "guests", "dealt", "turns", "name", "together", "k"]) (sc := defScope s__law_all_right) (by decide +kernel)) (fun _ _ _ _ _ => (pg_name (i := 6) scp.nd rfl (by first | exact Or.inl rfl | exact Or.inr rfl))) (fun _ _ _ _ _ => (pts_one (pt_cmpR (op_eqK (K := K) hv) (pe_ix (ix_anyK (K := K) hu) (pv 2) (pv 6) (fun _ _ => rfl)) (pv 4) (nomark _)))) (fun _ _ _ _ _ => (pe_op op_plus (pv 6) pe_int))) pa_nil)))))
  (pss_one (ps_ret pe_bl))
  pss_nil)
  (pss_one (ps_if (pt_not (pt_val (pe_call (G__law_same_int.mono (by decide)) hr rfl g__law_same F__law_same.kp b__law_same .nil pass0 (pa_cons (pe_call (G_at_least.mono (by decide)) hr rfl g_at_least F_at_least.kp b_at_least .nil pass0 (pa_cons (pv 0) (pa_cons (pv 1) (pa_cons (pv 4) (pa_cons (pv 0) pa_nil))))) (pa_cons (pe_callB (call_lenK (K := K)) (by rfl) T.n_len (by decide +kernel) (pa_cons (pe_ix (ix_anyK (K := K) hu) (pv 3) (pv 4) (fun _ _ => rfl)) pa_nil)) pa_nil)))))
  (pss_one (ps_ret pe_bl))
  pss_nil)))))
  (pss_cons (ps_set (i := 5) scp.nd rfl (by first | exact Or.inl rfl | exact Or.inr rfl) (pe_lst pa_nil))
  (pss_cons (ps_for PassesOwn.never rfl (pi_keys (pv 1)) (pg_name (i := 4) scp.nd rfl (by first | exact Or.inl rfl | exact Or.inr rfl))
  (pss_one (ps_expr (pe_bmK (K := K) PySem.F.plainAttrs_list PySem.F.slot_list_extend PySem.F.type_list_extend mt_extend (pv 5) (pa_cons (pe_ix (ix_anyK (K := K) hu) (pv 3) (pv 4) (fun _ _ => rfl)) pa_nil)))))
  (pss_cons (ps_if (pt_cmpR (op_neK (K := K) hv) (pe_callB (call_sortedY (K := K)) (by rfl) T.n_sorted (by decide +kernel) (pa_cons (pv 5) pa_nil)) (pe_listRg rfl (by rfl) T.n_list (prg_2 (by rfl) T.n_range pe_int (pe_op op_plus (pe_callB (call_lenK (K := K)) (by rfl) T.n_len (by decide +kernel) (pa_cons (pv 5) pa_nil)) pe_int))) (nomark _))
  (pss_one (ps_ret pe_bl))
  pss_nil)
  (pss_one (ps_ret (pe_cmpR op_isNo (pe_call (G_first_broken.mono (by decide)) hr rfl g_first_broken F_first_broken.kp b_first_broken .nil pass0 (pa_cons (pv 0) (pa_cons (pv 1) (pa_cons (pe_op op_times (pe_lst (pa_cons (pe_callTy (call_listK (K := K) rfl) (by rfl) T.n_list (by decide +kernel) (pa_cons (pv 1) pa_nil)) pa_nil)) (pv 0)) (pa_cons (pv 2) pa_nil))))) pe_non (nomark _))))))))), ?_⟩
    walk_at "ys"
    refine ⟨L, g, o, nm, ts, p, c, rfl, G, O, h4, h60, hT, fun d fl H1 e1 T1 Gd hdl nfl hfl => ?_⟩
    have G1 := G.extn e1
    walk_at "ys"
    intro td ntd
    have f2 : Same H1 (upd H1 td (.dK [])) := same_new0 ntd
    have htd2 : upd H1 td (.dK []) td = some (.dK []) := upd_same
    generalize upd H1 td (.dK []) = H2 at *
    walk_at "ys"
    refine ⟨sz_line (by simp), fun tp ntp => ?_⟩
    have f3 := f2.trans (same_new0 (o := .tup [.ref fl, .ref td]) ntp)
    have htp : upd H2 tp (.tup [.ref fl, .ref td]) tp = some (.tup [.ref fl, .ref td]) := upd_same
    have htd3 := same_new0 (o := .tup [.ref fl, .ref td]) ntp _ _ htd2
    generalize upd H2 tp (.tup [.ref fl, .ref td]) = H3 at *
    have nft : fl ≠ td := ne_of_none hfl ntd
    have ngt : g ≠ td := ne_of_none G1.d ntd
    have hd3 := f3 _ _ G1.d
    walk_at "ys"
    refine for_it walk_keys (fun i σ H' => ∃ (u4 u5 u6 : Option V) (tl : Nat → Addr), σ = [some (.int L), some (.ref g), some (.ref fl), some (.ref td), u4, u5, u6] ∧ SameBut td H3 H' ∧ H' td = some (.dK ((List.range i).map fun j => ((Sum.inr (nmF nm j) : Key), V.ref (tl j)))) ∧ (∀ j, j < i → H' (tl j) = some (.lst ((turnsOf nm.length L p c j).map V.int)) ∧ tl j ≠ td))
      ⟨none, none, none, fun _ => 0, rfl, SameBut.refl _ _, htd3, fun j hj => absurd hj (Nat.not_lt_zero _)⟩ (fun i σ H' _ h => ?_) (fun i x σ H4 H5 hi hP hY => ?_) (fun σ H4 hP => ?_)
    · obtain ⟨_, _, _, _, _, e, _⟩ := h
      exact e _ _ ngt hd3
    · obtain ⟨u4, u5, u6, tl, rfl, e5, htd5, ht5⟩ := hP
      obtain ⟨rfl, kk, v, hkv, rfl⟩ := hY
      obtain ⟨z, t, hz, ht, rfl, rfl⟩ := kvOf_at hkv
      obtain rfl : nmF nm i = z := nmF_of hz
      rw [kvOf_len G.len] at hi
      have hM := Deal.many_le O i
      have G3 := G1.same f3
      have G5 : Gs H5 g o nm ts p c := ⟨e5 _ _ ngt G3.d, G3.len, fun j a h => e5 _ _ (ne_of_none (G1.t j a h) ntd) (G3.t j a h), G3.nd, G3.ok, G3.few⟩
      walk_at "ys"
      refine ⟨L, g, o, nm, ts, p, c, i, rfl, G5, O, hi, h4, h60, fun l H6 e6 nl hl => ?_⟩
      have htd6 := e6 _ _ htd5
      have nltd : l ≠ td := (ne_of_none htd5 nl).symm
      have hnone : valV ((List.range i).map fun j => ((Sum.inr (nmF nm j) : Key), V.ref (tl j))) (Sum.inr (nmF nm i)) = none := by
        rw [valV_map_range G.nd (fun j => V.ref (tl j)) hi i (by omega), if_neg (Nat.lt_irrefl _)]
      walk_at "ys"
      refine y_put htd6 (sz_lt (by rw [List.length_map, List.length_range]; have := G.few; omega)) ?_
      rw [putK_new _ hnone]
      have eqd : (List.range i).map (fun j => ((Sum.inr (nmF nm j) : Key), V.ref (tl j))) ++ [((Sum.inr (nmF nm i) : Key), V.ref l)] = (List.range (i + 1)).map (fun j => ((Sum.inr (nmF nm j) : Key), V.ref (if j = i then l else tl j))) := by
        rw [List.range_succ, List.map_append]
        congr 1
        · refine List.map_congr_left fun j hj => ?_
          rw [if_neg (by have := List.mem_range.mp hj; omega)]
        · show _ = [((Sum.inr (nmF nm i) : Key), V.ref (if i = i then l else tl i))]
          rw [if_pos rfl]
      rw [eqd]
      have e7 : SameBut td H3 (upd H6 td (.dK ((List.range (i + 1)).map (fun j => ((Sum.inr (nmF nm j) : Key), V.ref (if j = i then l else tl j)))))) := (e5.trans (.of e6)).trans (SameBut.put _ _ _)
      have htd7 : upd H6 td (.dK ((List.range (i + 1)).map (fun j => ((Sum.inr (nmF nm j) : Key), V.ref (if j = i then l else tl j))))) td = _ := upd_same
      have ht7 : ∀ j, j < i + 1 → upd H6 td (.dK ((List.range (i + 1)).map (fun j => ((Sum.inr (nmF nm j) : Key), V.ref (if j = i then l else tl j))))) (if j = i then l else tl j) = some (.lst ((turnsOf nm.length L p c j).map V.int)) ∧ (if j = i then l else tl j) ≠ td := fun j hj => by
        by_cases ej : j = i
        · subst ej
          rw [if_pos rfl]
          exact ⟨by rw [upd_ne nltd]; exact hl, nltd⟩
        · rw [if_neg ej]
          obtain ⟨h1, h2⟩ := ht5 j (by omega)
          exact ⟨by rw [upd_ne h2]; exact e6 _ _ h1, h2⟩
      have hl7 := (ht7 i (Nat.lt_succ_self i)).1
      rw [if_pos rfl] at hl7
      generalize upd H6 td (.dK ((List.range (i + 1)).map (fun j => ((Sum.inr (nmF nm j) : Key), V.ref (if j = i then l else tl j))))) = H7 at *
      have hget : valV ((List.range (i + 1)).map (fun j => ((Sum.inr (nmF nm j) : Key), V.ref (if j = i then l else tl j)))) (Sum.inr (nmF nm i)) = some (.ref l) := by
        rw [valV_map_range G.nd (fun j => V.ref (if j = i then l else tl j)) hi (i + 1) (by omega), if_pos (Nat.lt_succ_self i), if_pos rfl]
      have hfl7 := e7 _ _ nft (f3 _ _ hfl)
      walk_at "ys"
      refine y_ixK htd7 hget ?_
      walk_at "ys"
      refine y_gotr1 (by omega) (by omega) ?_
      intro wd nwd
      refine lc_gen (fun j => if d[j]? = some (some i) then some (.int ((j : Int) + 1)) else none) walk_range nwd (sz_lt (by omega)) (fun _ _ => trivial) (fun j x H8 H9 Nx hj e9 hY c0 c1 => ?_) (fun H8 e8 hwd => ?_)
      · obtain ⟨rfl, rfl⟩ := hY
        have hj : j < d.length := by omega
        have hat : atI (d.map (nameV nm)) ((0 : Int) + (j : Nat)) = some (nameV nm d[j]) := by
          rw [Int.zero_add, atI_nat (by rw [List.length_map]; exact hj), List.getElem?_map, List.getElem?_eq_getElem hj]
          rfl
        walk_at "ys"
        refine y_ixL (e9 _ _ hfl7) hat ?_
        rw [List.getElem?_eq_getElem hj] at c0 c1
        cases hdj : d[j] with
        | none =>
          rw [hdj] at c0 c1
          walk_at "ys"
          refine y_dF (fun z => nomatch z) ?_
          exact c1 _ (if_neg (fun z => nomatch z)) (Same.refl _)
        | some b =>
          rw [hdj] at c0 c1
          have hb : b < nm.length := Gd.names b (by rw [← hdj]; exact List.getElem_mem hj)
          walk_at "ys"
          refine y_d2 (fun z => ?_) (fun z => ?_)
          · have z : b = i := (nm_inj G.nd hb hi).mp (V.str.inj z)
            subst z
            walk_at "ys"
            refine c0 _ _ ?_ (Same.refl _)
            rw [if_pos rfl, Int.zero_add]
          · exact c1 _ (if_neg (fun y => z (by rw [Option.some.inj (Option.some.inj y)]; rfl))) (Same.refl _)
      · have hLL : ((L : Int)).toNat = L := rfl
        rw [hLL, got_ints O Gd hdl hi] at hwd
        walk_at "ys"
        refine ⟨l, wd, turnsOf nm.length L p c i, rfl, e8 _ _ hl7, hwd, by rw [turnsOf_len]; omega, fun H9 e9 => ?_⟩
        have e9 := e8.trans e9
        have G9 : Gs H9 g o nm ts p c := (show Gs H7 g o nm ts p c from ⟨e7 _ _ ngt G3.d, G3.len, fun j a h => e7 _ _ (ne_of_none (G1.t j a h) ntd) (G3.t j a h), G3.nd, G3.ok, G3.few⟩).same e9
        walk_at "ys"
        refine ⟨L, g, o, nm, ts, p, c, i, L, rfl, G9, O, hi, h4, h60, by omega, fun H10 e10 => ?_⟩
        have e10 := e9.trans e10
        have htd10 := e10 _ _ htd7
        have hl10 := e10 _ _ hl7
        walk_at "ys"
        refine y_ixK htd10 hget ?_
        walk_at "ys"
        rw [List.length_map, turnsOf_len]
        refine ⟨_, _, rfl, ?_⟩
        have ev : ((L / L * alin nm.length L p c i L + alin nm.length L p c i (L % L) : Nat) : Int) = (Deal.many nm.length L p c i : Nat) := by
          rw [Nat.div_self (by omega), Nat.mod_self, alin_all, alin_zero]
          omega
        rw [decide_eq_true ev]
        walk_at "ys"
        refine ⟨_, _, _, fun j => if j = i then l else tl j, rfl, e7.trans (.of e10), htd10, fun j hj => ⟨e10 _ _ (ht7 j hj).1, (ht7 j hj).2⟩⟩
    · obtain ⟨u4, u5, u6, tl, rfl, e4, htd4, ht4⟩ := hP
      rw [kvOf_len G.len] at htd4 ht4
      walk_at "ys"
      refine ⟨sz_line (by simp), fun tg ntg => ?_⟩
      have f5 : Same H4 (upd H4 tg (.lst [])) := same_new0 ntg
      have htg : upd H4 tg (.lst []) tg = some (.lst []) := upd_same
      have ngtg : g ≠ tg := ne_of_none (e4 _ _ ngt hd3) ntg
      have ntdg : td ≠ tg := ne_of_none htd4 ntg
      have hd5 := f5 _ _ (e4 _ _ ngt hd3)
      generalize upd H4 tg (.lst []) = H5 at *
      walk_at "ys"
      refine for_it walk_keys (fun i σ H' => ∃ (u4 u6 : Option V), σ = [some (.int L), some (.ref g), some (.ref fl), some (.ref td), u4, some (.ref tg), u6] ∧ SameBut tg H5 H' ∧ H' tg = some (.lst (((List.range i).flatMap (turnsOf nm.length L p c)).map V.int)))
        ⟨_, _, rfl, SameBut.refl _ _, htg⟩ (fun i σ H' _ h => ?_) (fun i x σ H6 H7 hi hP hY => ?_) (fun σ H6 hP => ?_)
      · obtain ⟨_, _, _, e, _⟩ := h
        exact e _ _ ngtg hd5
      · obtain ⟨u4, u6, rfl, e7, htg7⟩ := hP
        obtain ⟨rfl, kk, v, hkv, rfl⟩ := hY
        obtain ⟨z, t, hz, ht, rfl, rfl⟩ := kvOf_at hkv
        obtain rfl : nmF nm i = z := nmF_of hz
        rw [kvOf_len G.len] at hi
        have hget : valV ((List.range nm.length).map (fun j => ((Sum.inr (nmF nm j) : Key), V.ref (tl j)))) (Sum.inr (nmF nm i)) = some (.ref (tl i)) := by
          rw [valV_map_range G.nd (fun j => V.ref (tl j)) hi nm.length (Nat.le_refl _), if_pos hi]
        have htd7 := e7 _ _ ntdg (f5 _ _ htd4)
        have ntl : tl i ≠ tg := ne_of_none (ht4 i hi).1 ntg
        have hti := e7 _ _ ntl (f5 _ _ (ht4 i hi).1)
        walk_at "ys"
        refine y_ixK htd7 hget ?_
        walk_at "ys"
        have hfl6 : (((List.range i).flatMap (turnsOf nm.length L p c)).map V.int).length ≤ 60 * i := by
          rw [List.length_map, List.length_flatMap]
          have : ∀ n, ((List.range n).map fun a => (turnsOf nm.length L p c a).length).sum ≤ 60 * n := by
            intro n
            induction n with
            | zero => simp
            | succ n ih =>
              rw [List.range_succ, List.map_append, List.sum_append]
              have := Deal.many_le O n
              simp [turnsOf_len] at ih ⊢
              omega
          exact this i
        have hmi := Deal.many_le O i
        refine y_extend htg7 hti (sz_line (by rw [List.length_map (f := V.int) (as := turnsOf nm.length L p c i), turnsOf_len]; have := G.few; omega)) ?_
        walk_at "ys"
        refine ⟨_, _, rfl, e7.trans (SameBut.put _ _ _), ?_⟩
        rw [upd_same, List.range_succ, List.flatMap_append, List.map_append]
        simp
      · obtain ⟨u4, u6, rfl, e6, htg6⟩ := hP
        rw [kvOf_len G.len] at htg6
        have hp := flat_ints O Gd hdl
        have hlen : ((List.range nm.length).flatMap (turnsOf nm.length L p c)).length = Deal.sumTo (Deal.cnt d) nm.length := by rw [hp.length_eq, List.length_map, List.length_range]
        generalize hall : (List.range nm.length).flatMap (turnsOf nm.length L p c) = all at *
        walk_at "ys"
        refine ⟨tg, all, rfl, SqL.of htg6, fun ns' sp hpe hso nsp => ?_⟩
        have hN : Deal.sumTo (Deal.cnt d) nm.length ≤ 60 * nm.length := by
          have : ∀ n, n ≤ nm.length → Deal.sumTo (Deal.cnt d) n ≤ 60 * n := by
            intro n
            induction n with
            | zero => intro _; exact Nat.le_refl _
            | succ n ih =>
              intro hn
              have := ih (by omega)
              have h2 := Deal.cnt_many O Gd hdl (i := n) (by omega)
              have h3 := Deal.many_le O n
              unfold Deal.sumTo
              omega
          exact this _ (Nat.le_refl _)
        have hfew := G.few
        obtain rfl := perm_sorted (hpe.trans hp) hso (range_sorted _)
        generalize hNN : Deal.sumTo (Deal.cnt d) nm.length = N at *
        have f7 : Same H6 (upd H6 sp (.lst (((List.range N).map fun k => ((k + 1 : Nat) : Int)).map V.int))) := same_new0 nsp
        have hsp : upd H6 sp (.lst (((List.range N).map fun k => ((k + 1 : Nat) : Int)).map V.int)) sp = _ := upd_same
        have htg7 := f7 _ _ htg6
        generalize upd H6 sp (.lst (((List.range N).map fun k => ((k + 1 : Nat) : Int)).map V.int)) = H7 at *
        walk_at "ys"
        rw [List.length_map, hlen]
        refine ⟨RgOk.of_le (by decide) (by omega) (by decide) (by omega), fun rp nrp => ?_⟩
        have hrg : rgV 1 ((N : Int) + 1) = (((List.range N).map fun k => ((k + 1 : Nat) : Int)).map V.int) := by
          unfold rgV
          rw [show ((N : Int) + 1 - 1).toNat = N by omega, List.map_map]
          refine List.map_congr_left fun k _ => ?_
          show V.int _ = V.int _
          rw [show (1 : Int) + (k : Nat) = ((k + 1 : Nat) : Int) by omega]
        rw [hrg]
        have f8 : Same H7 (upd H7 rp (.lst (((List.range N).map fun k => ((k + 1 : Nat) : Int)).map V.int))) := same_new0 nrp
        have hrp : upd H7 rp (.lst (((List.range N).map fun k => ((k + 1 : Nat) : Int)).map V.int)) rp = _ := upd_same
        have hsp8 := f8 _ _ hsp
        generalize upd H7 rp (.lst (((List.range N).map fun k => ((k + 1 : Nat) : Int)).map V.int)) = H8 at *
        rw [oV_ints] at hrp hsp8
        refine y_neL hsp8 hrp ?_
        walk_at "ys"
        have f68 := f7.trans f8
        have hd8 := f68 _ _ (e6 _ _ ngtg hd5)
        refine y_listF hd8 (fun row nrow => ?_)
        rw [kvOf_keys G.len]
        have f9 : Same H8 (upd H8 row (.lst (nm.map V.str))) := same_new0 nrow
        have hrow : upd H8 row (.lst (nm.map V.str)) row = some (.lst (nm.map V.str)) := upd_same
        generalize upd H8 row (.lst (nm.map V.str)) = H9 at *
        walk_at "ys"
        refine ⟨sz_line (by simp), fun r1 nr1 => ?_⟩
        have f10 : Same H9 (upd H9 r1 (.lst [.ref row])) := same_new0 nr1
        have hr1 : upd H9 r1 (.lst [.ref row]) r1 = some (.lst [.ref row]) := upd_same
        have hrow10 := f10 _ _ hrow
        generalize upd H9 r1 (.lst [.ref row]) = H10 at *
        walk_at "ys"
        refine y_rep hr1 (by omega) (by omega) (sz_line (by simp; omega)) (fun rs nrs => ?_)
        rw [Int.toNat_natCast, rep_one]
        have f11 : Same H10 (upd H10 rs (.lst (List.replicate L (.ref row)))) := same_new0 nrs
        have hrs : upd H10 rs (.lst (List.replicate L (.ref row))) rs = some (.lst (List.replicate L (.ref row))) := upd_same
        have hrow11 := f11 _ _ hrow10
        generalize upd H10 rs (.lst (List.replicate L (.ref row))) = H11 at *
        have fall : Same H6 H11 := (f68.trans (f9.trans f10)).trans f11
        have keep : ∀ a u, a ≠ td → a ≠ tg → H1 a = some u → H11 a = some u := fun a u n1 n2 h => fall _ _ (e6 _ _ n2 (f5 _ _ (e4 _ _ n1 (f3 _ _ h))))
        have keep1 : ∀ a u, H1 a = some u → H11 a = some u := fun a u h => keep a u (ne_of_none h ntd) (fun z => by
          have := e4 _ _ (ne_of_none h ntd) (f3 _ _ h)
          rw [z, ntg] at this
          cases this) h
        walk_at "ys"
        refine ⟨L, g, rs, row, fl, o, nm, ts, p, c, d, rfl, G1.same keep1, O, ⟨hrs, hrow11⟩, keep1 _ _ hfl, Gd.names, hdl, h4, h60, fun i hi => ?_, fun H12 e12 => ?_⟩
        · rw [Deal.cnt_many O Gd hdl hi]
          exact ⟨Deal.many_promise O hi, by rw [← Deal.cnt_many O Gd hdl hi]; exact Gd.le i hi⟩
        · walk_at "ys"
          have fin : Same H1 H12 := Same.trans keep1 e12
          exact q H12 (e1.trans (ExtN.of fin)) (T1.ext fin)
end
end K60
namespace K60
open PySem L2 Y LamX

theorem sum_ints (p : Nat → Nat) : ∀ n, ((List.range n).map fun j => (p j : Int)).sum = (Deal.sumTo p n : Nat)
  | 0 => by simp [Deal.sumTo]
  | n + 1 => by
    rw [List.range_succ, List.map_append, List.sum_append, sum_ints p n]
    show _ = ((Deal.sumTo p n + p n : Nat) : Int)
    simp
theorem kvOf_snoc {nm : List Str} {ts : List Addr} (h : ts.length = nm.length) (z : Str) (t : Addr) : kvOf (nm ++ [z]) (ts ++ [t]) = kvOf nm ts ++ [((Sum.inr z : Key), V.ref t)] := by
  unfold kvOf
  rw [List.zip_append h.symm, List.map_append]
  rfl
theorem valV_kvOf_none {nm : List Str} {ts : List Addr} {z : Str} (h : z ∉ nm) : valV (kvOf nm ts) (Sum.inr z) = none := by
  unfold valV
  rw [Option.map_eq_none_iff, List.find?_eq_none]
  intro kv hkv
  unfold kvOf at hkv
  obtain ⟨x, hx, rfl⟩ := List.mem_map.mp hkv
  have := (List.of_mem_zip hx).1
  simp only [decide_eq_true_eq]
  exact fun e => h (by rw [← Sum.inr.inj e]; exact this)
theorem zed_ok : NameOk "zed" := by
  have h : 1 ≤ ("zed" : Str).length ∧ ("zed" : Str).length ≤ 8 ∧ ∀ c ∈ ("zed" : Str).cps.toList, c ∈ letters.cps.toList := by decide +kernel
  exact ⟨h.1, h.2.1, h.2.2⟩
theorem nmF_snoc {nm : List Str} (z : Str) {i : Nat} (h : i < nm.length) : nmF (nm ++ [z]) i = nmF nm i := by
  refine nmF_of ?_
  rw [List.getElem?_append_left h]
  exact nmF_at h
theorem nmF_last (nm : List Str) (z : Str) : nmF (nm ++ [z]) nm.length = z := nmF_of (by simp)
theorem Gs.snoc {H : Hp} {g : Addr} {o : Obj} {nm : List Str} {ts : List Addr} {p c : Nat → Nat} {md t : Addr} {od : Obj} {x y : Nat} (G : Gs H g o nm ts p c) (hm : H md = some (.frz od (.dK (kvOf (nm ++ [("zed" : Str)]) (ts ++ [t]))))) (ht : H t = some (.tup [.int x, .int y])) (hz : ("zed" : Str) ∉ nm) (h5 : nm.length ≤ 5) :
    Gs H md od (nm ++ [("zed" : Str)]) (ts ++ [t]) (fun j => if j = nm.length then x else p j) (fun j => if j = nm.length then y else c j) := by
  refine ⟨hm, by simp [G.len], fun i a h => ?_, ?_, fun z hz' => ?_, by simp; omega⟩
  · by_cases e : i = nm.length
    · subst e
      rw [← G.len, List.getElem?_append_right (Nat.le_refl _)] at h
      simp at h
      subst h
      simp [ht]
    · have hi : i < ts.length := by
        have h2 := (List.getElem?_eq_some_iff.mp h).1
        rw [List.length_append, G.len] at h2
        simp at h2
        rw [G.len]
        omega
      rw [List.getElem?_append_left hi] at h
      rw [if_neg e, if_neg e]
      exact G.t i a h
  · rw [List.nodup_append]
    refine ⟨G.nd, by simp, fun a ha b' hb => ?_⟩
    have := List.mem_singleton.mp hb
    subst this
    exact fun e => hz (e ▸ ha)
  · rw [List.mem_append] at hz'
    rcases hz' with h | h
    · exact G.ok z h
    · rw [List.mem_singleton.mp h]
      exact zed_ok
theorem sum_snoc (p : Nat → Nat) (n x : Nat) : Deal.sumTo (fun j => if j = n then x else p j) (n + 1) = Deal.sumTo p n + x := by
  show Deal.sumTo (fun j => if j = n then x else p j) n + (if n = n then x else p n) = _
  rw [if_pos rfl, Deal.sumTo_congr (g := p) fun j hj => by rw [if_neg (by omega)]]
theorem Ok.snoc {n L : Nat} {p c : Nat → Nat} (O : Deal.Ok n L p c) {x y : Nat} (hxy : x ≤ y) (hy1 : 1 ≤ y) (hyL : y ≤ L) (hs : Deal.sumTo p n + x ≤ L) : Deal.Ok (n + 1) L (fun j => if j = n then x else p j) (fun j => if j = n then y else c j) := by
  refine ⟨fun i hi => ?_, fun i hi => ?_, fun i hi => ?_, by rw [sum_snoc]; exact hs⟩
  · by_cases e : i = n
    · simp [e, hxy]
    · simp only [if_neg e]
      exact O.pc i (by omega)
  · by_cases e : i = n
    · simp [e, hy1]
    · simp only [if_neg e]
      exact O.one i (by omega)
  · by_cases e : i = n
    · simp [e, hyL]
    · simp only [if_neg e]
      exact O.cL i (by omega)
section
variable {P : Program} {w : World} {K : PySem.W.Frag} {mg : Str → Option Value} {base : Heap}
def sp__law_more_right (K : PySem.W.Frag) : Sp := fun vs H Q _ => ∃ (b : Addr) (B L : Nat) (g : Addr) (o : Obj) (nm : List Str) (ts : List Addr) (p c : Nat → Nat), vs = [.ref b, .int L, .ref g] ∧ Box H b B ∧ B ≤ 1000 ∧ Gs H g o nm ts p c ∧ (∀ z, z ∈ nm → z ∈ six) ∧ Deal.Ok nm.length L p c ∧ 4 ≤ L ∧ L ≤ 60 ∧ ∀ H', SameBut b H H' → Box H' b (B + 2) → Q (.bl true) H'
theorem ok__law_more_right {f : Addr} {fd : FuncData} (T : Txt K mg) (F : Fun K "_law_more_right" "_law_more_right" s__law_more_right f fd) : FnOk P w K mg base CX0 6 f fd ["box", "length", "guests"] (sp__law_more_right K) := by
  obtain ⟨f__law_take, fd__law_take, g__law_take, F__law_take⟩ := T.d__law_take
  have G__law_take := ok__law_take (P := P) (w := w) (base := base) T F__law_take
  have b__law_take := F__law_take.binds (ps := ["box", "many"]) fun _ _ _ _ _ _ us hl => match us, hl with | [_, _], _ => rfl
  obtain ⟨f__law_turns, fd__law_turns, g__law_turns, F__law_turns⟩ := T.d__law_turns
  have G__law_turns := ok__law_turns (P := P) (w := w) (base := base) T F__law_turns
  have b__law_turns := F__law_turns.binds (ps := ["length", "guests", "name"]) fun _ _ _ _ _ _ us hl => match us, hl with | [_, _, _], _ => rfl
  have scp := sc__law_more_right
  refine F.ok sc__law_more_right (fun vs H Q E h => ?_) (fun cdv A outer s H vs Q E hr h => ?_)
  · first | (obtain ⟨rfl, _⟩ := h; rfl) | (obtain ⟨_, rfl, _⟩ := h; rfl) | (obtain ⟨_, _, rfl, _⟩ := h; rfl) | (obtain ⟨_, _, _, rfl, _⟩ := h; rfl) | (obtain ⟨_, _, _, _, rfl, _⟩ := h; rfl) | (obtain ⟨_, _, _, _, _, rfl, _⟩ := h; rfl) | (obtain ⟨_, _, _, _, _, _, rfl, _⟩ := h; rfl) | (obtain ⟨_, _, _, _, _, _, _, rfl, _⟩ := h; rfl) | (obtain ⟨_, _, _, _, _, _, _, _, rfl, _⟩ := h; rfl) | (obtain ⟨_, _, _, _, _, _, _, _, _, rfl, _⟩ := h; rfl) | (obtain ⟨_, _, _, _, _, _, _, _, _, _, rfl, _⟩ := h; rfl) | (obtain ⟨_, _, _, _, _, _, _, _, _, _, _, rfl, _⟩ := h; rfl) | (obtain ⟨_, _, _, _, _, _, _, _, _, _, _, _, rfl, _⟩ := h; rfl) | (obtain ⟨_, _, _, _, _, _, _, _, _, _, _, _, _, rfl, _⟩ := h; rfl) | (obtain ⟨_, _, _, _, _, _, _, _, _, _, _, _, _, _, rfl, _⟩ := h; rfl) | (obtain ⟨_, _, _, _, _, _, _, _, _, _, _, _, _, _, _, rfl, _⟩ := h; rfl)
  · obtain ⟨b, B, L, g, o, nm, ts, p, c, rfl, X, hB, G, hsix, O, h4, h60, q⟩ := h
    have hu := hu_of hr
    have hv := hr.units
    have hd := G.d
    have hO := O.sum
    refine ⟨_, (pss_cons (ps_set (i := 3) scp.nd rfl (by first | exact Or.inl rfl | exact Or.inr rfl) (pe_op op_minus (pv 1) (pe_callB (call_sumK (K := K) rfl) (by rfl) T.n_sum (by decide +kernel) (pa_cons (pe_lc (own := [("share", 9)]) (g := gName 9) (tt := tYes) rfl scp.nd (pi_values (pv 2)) (blkOk_by (own := [("share", 9)]) (N := ["box", "length", "guests", "left", "promise", "more", "name", "one", "other", "share", "k"]) (sc := defScope s__law_more_right) (by decide +kernel)) (fun _ _ _ _ _ => (pg_name (i := 9) scp.nd rfl (by first | exact Or.inl rfl | exact Or.inr rfl))) (fun _ _ _ _ _ => pts_nil) (fun _ _ _ _ _ => (pe_ix (ix_anyK (K := K) hu) (pv 9) pe_int (fun _ _ => rfl)))) pa_nil))))
  (pss_cons (ps_set (i := 4) scp.nd rfl (by first | exact Or.inl rfl | exact Or.inr rfl) (pe_call (G__law_take.mono (by decide)) hr rfl g__law_take F__law_take.kp b__law_take .nil pass0 (pa_cons (pv 0) (pa_cons (pe_op op_plus (pv 3) pe_int) pa_nil))))
  (pss_cons (ps_set (i := 5) scp.nd rfl (by first | exact Or.inl rfl | exact Or.inr rfl) (pe_callTy (call_dictKK (K := K) rfl) (by rfl) T.n_dict (by decide +kernel) (pa_cons (pv 2) pa_nil)))
  (pss_cons (ps_dput hu (pv 5) pe_str (pe_tup (pa_cons (pv 4) (pa_cons (pe_op op_plus (pe_callB (call_max2Y rfl) (by rfl) T.n_max (by decide +kernel) (pa_cons pe_int (pa_cons (pv 4) pa_nil))) (pe_call (G__law_take.mono (by decide)) hr rfl g__law_take F__law_take.kp b__law_take .nil pass0 (pa_cons (pv 0) (pa_cons (pe_op op_plus (pe_op op_minus (pv 1) (pe_callB (call_max2Y rfl) (by rfl) T.n_max (by decide +kernel) (pa_cons pe_int (pa_cons (pv 4) pa_nil)))) pe_int) pa_nil)))) pa_nil))) rfl)
  (pss_frz (pss_cons (ps_for PassesOwn.never rfl (pi_keys (pe_ifExp (pt_cmpR op_ltI (pe_callB (call_lenK (K := K)) (by rfl) T.n_len (by decide +kernel) (pa_cons (pv 5) pa_nil)) pe_int (nomark _)) (pv 2) (pe_frz pe_dnewK))) (pg_name (i := 6) scp.nd rfl (by first | exact Or.inl rfl | exact Or.inr rfl))
  (pss_cons (ps_asg (pe_tup (pa_cons (pe_call (G__law_turns.mono (by decide)) hr rfl g__law_turns F__law_turns.kp b__law_turns .nil pass0 (pa_cons (pv 1) (pa_cons (pv 2) (pa_cons (pv 6) pa_nil)))) (pa_cons (pe_call (G__law_turns.mono (by decide)) hr rfl g__law_turns F__law_turns.kp b__law_turns .nil pass0 (pa_cons (pv 1) (pa_cons (pv 5) (pa_cons (pv 6) pa_nil)))) pa_nil))) (pg_tupK (K := K) (n := 2) rfl (pgs_cons (pg_name (i := 7) scp.nd rfl (by first | exact Or.inl rfl | exact Or.inr rfl)) (pgs_cons (pg_name (i := 8) scp.nd rfl (by first | exact Or.inl rfl | exact Or.inr rfl)) pgs_nil))))
  (pss_one (ps_if (PW.pt (pw_or (pt_cmpR op_gtI (pe_callB (call_lenK (K := K)) (by rfl) T.n_len (by decide +kernel) (pa_cons (pv 8) pa_nil)) (pe_callB (call_lenK (K := K)) (by rfl) T.n_len (by decide +kernel) (pa_cons (pv 7) pa_nil)) (nomark _)) (pw_or1 (pt_cmpR (op_neK (K := K) hv) (pe_lc (own := [("k", 10)]) (g := gName 10) rfl scp.nd (pi_range1 rfl T.n_range (pa_cons (pe_callB (call_lenK (K := K)) (by rfl) T.n_len (by decide +kernel) (pa_cons (pv 8) pa_nil)) pa_nil)) (blkOk_by (own := [("k", 10)]) (N := ["box", "length", "guests", "left", "promise", "more", "name", "one", "other", "share", "k"]) (sc := defScope s__law_more_right) (by decide +kernel)) (fun _ _ _ _ _ => (pg_name (i := 10) scp.nd rfl (by first | exact Or.inl rfl | exact Or.inr rfl))) (fun _ _ _ _ _ => (pts_one (pt_cmpR op_ltI (pe_ix (ix_anyK (K := K) hu) (pv 8) (pv 10) (fun _ _ => rfl)) (pe_ix (ix_anyK (K := K) hu) (pv 7) (pv 10) (fun _ _ => rfl)) (nomark _)))) (fun _ _ _ _ _ => (pv 10))) (pe_lst pa_nil) (nomark _)))))
  (pss_one (ps_ret pe_bl))
  pss_nil))))
  (pss_one (ps_ret pe_bl)))))))), ?_⟩
    walk_at "ys"
    intro D nD
    refine lc_map (fun j => .int (p j)) walk_values nD (sz_lt (by rw [kvOf_len G.len]; have := G.few; omega)) (fun H' e' => e' _ _ hd) (fun i x H2 H3 Nx hi e2 hY k => ?_) (fun H2 e2 hD => ?_)
    · obtain ⟨rfl, kk, hkv⟩ := hY
      obtain ⟨z, t, hz, ht, rfl, rfl⟩ := kvOf_at hkv
      have ht2 := e2 _ _ (G.t i t ht)
      walk_at "ys"
      exact k _ _ rfl (Same.refl _)
    · rw [kvOf_len G.len] at hD
      have hD2 : H2 D = some (.lst (((List.range nm.length).map fun j => (p j : Int)).map V.int)) := by
        rw [hD, List.map_map]
        rfl
      walk_at "ys"
      refine y_sum hD2 ?_
      rw [sum_ints]
      walk_at "ys"
      obtain ⟨lf, hlf, hlf2⟩ : ∃ lf : Nat, (L : Int) - (Deal.sumTo p nm.length : Nat) = (lf : Int) ∧ lf + Deal.sumTo p nm.length = L := ⟨L - Deal.sumTo p nm.length, by omega, by omega⟩
      rw [hlf]
      refine ⟨b, lf + 1, B, rfl, by omega, by omega, X.same e2, by omega, fun pr H3 hpr e3 X3 => ?_⟩
      have e3 := (SameBut.of (b := b) e2).trans e3
      have ngb : g ≠ b := by
        obtain ⟨x1, x2, x3, hb, _⟩ := X.at_
        exact ne_of hd hb (fun z => by cases z)
      have hd3 := e3 _ _ ngb hd
      walk_at "ys"
      refine y_dictF hd3 (fun md nmd => ?_)
      have f4 : Same H3 (upd H3 md (.dK (kvOf nm ts))) := same_new0 nmd
      have hmd : upd H3 md (.dK (kvOf nm ts)) md = some (.dK (kvOf nm ts)) := upd_same
      have X4 := X3.same f4
      have nmb : md ≠ b := X3.ne nmd
      have nmH : H md = none := e3.free nmb nmd
      generalize upd H3 md (.dK (kvOf nm ts)) = H4 at *
      walk_at "ys"
      obtain ⟨lw, hlw, hlw1, hlw2, hlw3⟩ : ∃ lw : Nat, (if (pr : Int) > 1 then (pr : Int) else 1) = (lw : Int) ∧ 1 ≤ lw ∧ pr ≤ lw ∧ lw ≤ L := ⟨max 1 pr, by split <;> omega, by omega, by omega, by omega⟩
      rw [hlw]
      walk_at "ys"
      have em2 : (L : Int) - (lw : Int) + 1 = ((L - lw + 1 : Nat) : Int) := by omega
      rw [em2]
      refine ⟨b, L - lw + 1, B + 1, rfl, by omega, by omega, X4, by omega, fun a4 H5 ha4 e5 X5 => ?_⟩
      have hmd5 := e5 _ _ nmb hmd
      have e5 := (e3.trans (.of f4)).trans e5
      have em3 : (lw : Int) + (a4 : Int) = ((lw + a4 : Nat) : Int) := by omega
      walk_at "ys"
      rw [em3]
      have hce1 : lw ≤ lw + a4 := by omega
      have hce2 : lw + a4 ≤ L := by omega
      generalize lw + a4 = ce at *
      refine ⟨sz_line (by simp), fun tt ntt => ?_⟩
      have f6 : Same H5 (upd H5 tt (.tup [.int pr, .int ce])) := same_new0 ntt
      have htt : upd H5 tt (.tup [.int pr, .int ce]) tt = some (.tup [.int pr, .int ce]) := upd_same
      have X6 := X5.same f6
      have hmd6 := f6 _ _ hmd5
      have e6 := e5.trans (.of f6)
      have nttm : tt ≠ md := (ne_of_none hmd5 ntt).symm
      generalize upd H5 tt (.tup [.int pr, .int ce]) = H6 at *
      walk_at "ys"
      have hzed : ("zed" : Str) ∉ nm := fun h => six_zed _ (hsix _ h) rfl
      refine y_put hmd6 (sz_lt (by rw [kvOf_len G.len]; have := G.few; omega)) ?_
      rw [putK_new _ (valV_kvOf_none hzed), ← kvOf_snoc G.len]
      have e7 : SameBut b H (upd H6 md (.dK (kvOf (nm ++ [("zed" : Str)]) (ts ++ [tt])))) := e6.mut nmH
      have X7 : Box (upd H6 md (.dK (kvOf (nm ++ [("zed" : Str)]) (ts ++ [tt])))) b (B + 2) := X6.put nmb
      have hmd7 : upd H6 md (.dK (kvOf (nm ++ [("zed" : Str)]) (ts ++ [tt]))) md = some (.dK (kvOf (nm ++ [("zed" : Str)]) (ts ++ [tt]))) := upd_same
      have htt7 : upd H6 md (.dK (kvOf (nm ++ [("zed" : Str)]) (ts ++ [tt]))) tt = _ := up_ne nttm htt
      generalize upd H6 md (.dK (kvOf (nm ++ [("zed" : Str)]) (ts ++ [tt]))) = H7 at *
      walk_at "ys"
      refine y_frz hmd7 True.intro (fun od => ?_)
      have e8 : SameBut b H (upd H7 md (.frz od (.dK (kvOf (nm ++ [("zed" : Str)]) (ts ++ [tt]))))) := e7.mut nmH
      have X8 : Box (upd H7 md (.frz od (.dK (kvOf (nm ++ [("zed" : Str)]) (ts ++ [tt]))))) b (B + 2) := X7.put nmb
      have hmd8 : upd H7 md (.frz od (.dK (kvOf (nm ++ [("zed" : Str)]) (ts ++ [tt])))) md = some (.frz od (.dK (kvOf (nm ++ [("zed" : Str)]) (ts ++ [tt])))) := upd_same
      have htt8 : upd H7 md (.frz od (.dK (kvOf (nm ++ [("zed" : Str)]) (ts ++ [tt])))) tt = _ := up_ne nttm htt7
      generalize upd H7 md (.frz od (.dK (kvOf (nm ++ [("zed" : Str)]) (ts ++ [tt])))) = H8 at *
      have ntsb : ∀ (i : Nat) (a : Addr), ts[i]? = some a → a ≠ b := fun i a h => by
        obtain ⟨x1, x2, x3, hb, _⟩ := X.at_
        exact ne_of (G.t i a h) hb (fun z => by cases z)
      have G8 : Gs H8 g o nm ts p c := ⟨e8 _ _ ngb G.d, G.len, fun i a h => e8 _ _ (ntsb i a h) (G.t i a h), G.nd, G.ok, G.few⟩
      have hd8 := G8.d
      walk_at "ys"
      have hkl : (kvOf (nm ++ [("zed" : Str)]) (ts ++ [tt])).length = nm.length + 1 := by rw [kvOf_len (by simp [G.len]), List.length_append]; rfl
      rw [hkl]
      refine y_d2 (fun h7 => ?_) (fun h7 => ?_)
      · have h5 : nm.length ≤ 5 := by omega
        have GZ := G8.snoc hmd8 htt8 hzed h5
        have OZ := Ok.snoc O (x := pr) (y := ce) (by omega) (by omega) (by omega) (by omega)
        have hl' : (nm ++ [("zed" : Str)]).length = nm.length + 1 := by simp
        have hpz : ∀ j, j < nm.length → (fun j => if j = nm.length then pr else p j) j = p j := fun j hj => if_neg (by omega)
        have hcz : ∀ j, j < nm.length → (fun j => if j = nm.length then ce else c j) j = c j := fun j hj => if_neg (by omega)
        generalize (fun j => if j = nm.length then pr else p j) = p' at *
        generalize (fun j => if j = nm.length then ce else c j) = c' at *
        walk_at "ys"
        refine for_it walk_keys (fun i σ H' => ∃ (u6 u7 u8 : Option V), σ = [some (.ref b), some (.int L), some (.ref g), some (.int lf), some (.int pr), some (.ref md), u6, u7, u8, none, none] ∧ Same H8 H')
          ⟨none, none, none, rfl, Same.refl _⟩ (fun i σ H' _ h => ?_) (fun i x σ H9 H10 hi hP hY => ?_) (fun σ H9 hP => ?_)
        · obtain ⟨_, _, _, _, e⟩ := h
          exact e _ _ hd8
        · obtain ⟨u6, u7, u8, rfl, e10⟩ := hP
          obtain ⟨rfl, kk, v, hkv, rfl⟩ := hY
          obtain ⟨z, t, hz, ht, rfl, rfl⟩ := kvOf_at hkv
          obtain rfl : nmF nm i = z := nmF_of hz
          rw [kvOf_len G.len] at hi
          walk_at "ys"
          refine ⟨L, g, o, nm, ts, p, c, i, rfl, G8.same e10, O, hi, h4, h60, fun l1 H11 e11 nl1 hl1 => ?_⟩
          have e11 := e10.trans e11
          walk_at "ys"
          refine ⟨L, md, od, nm ++ [("zed" : Str)], ts ++ [tt], p', c', i, by rw [nmF_snoc _ hi]; rfl, GZ.same e11, by rw [hl']; exact OZ, by omega, h4, h60, fun l2 H12 e12 nl2 hl2 => ?_⟩
          rw [hl'] at hl2
          have hl12 := e12 _ _ hl1
          have e12 := e11.trans e12
          have hmm := Deal.more_many O OZ hpz hcz hi
          have hmL := Deal.many_le O i
          walk_at "ys"
          refine ⟨sz_line (by simp), fun tp ntp => ?_⟩
          have f13 : Same H12 (upd H12 tp (.tup [.ref l1, .ref l2])) := same_new0 ntp
          have htp : upd H12 tp (.tup [.ref l1, .ref l2]) tp = some (.tup [.ref l1, .ref l2]) := upd_same
          have hl13 := f13 _ _ hl12
          have hl23 := f13 _ _ hl2
          generalize upd H12 tp (.tup [.ref l1, .ref l2]) = H13 at *
          walk_at "ys"
          rw [List.length_map, List.length_map, turnsOf_len, turnsOf_len]
          refine y_dF (by omega) ?_
          walk_at "ys"
          rw [List.length_map, turnsOf_len]
          refine y_gotr1 (by omega) (by omega) ?_
          intro D nD
          refine lc_gen (fun _ => none) walk_range nD (sz_lt (by omega)) (fun _ _ => trivial) (fun k x H14 H15 Nx hk e hY c0 c1 => ?_) (fun H14 e14 hno => ?_)
          · obtain ⟨rfl, rfl⟩ := hY
            have hk : k < Deal.many (nm.length + 1) L p' c' i := by omega
            have a1 : atI ((turnsOf nm.length L p c i).map V.int) ((0 : Int) + (k : Nat)) = some (.int (Deal.T nm.length p c i k : Nat)) := by
              rw [Int.zero_add, atI_nat (by rw [List.length_map, turnsOf_len]; omega), List.getElem?_map, turnsOf_at (by omega)]
              rfl
            have a2 : atI ((turnsOf (nm.length + 1) L p' c' i).map V.int) ((0 : Int) + (k : Nat)) = some (.int (Deal.T (nm.length + 1) p' c' i k : Nat)) := by
              rw [Int.zero_add, atI_nat (by rw [List.length_map, turnsOf_len]; omega), List.getElem?_map, turnsOf_at hk]
              rfl
            have hT := Deal.more_T hpz hcz (k := k) hi
            walk_at "ys"
            refine y_ixL (e _ _ hl23) a2 ?_
            walk_at "ys"
            refine y_ixL (e _ _ hl13) a1 ?_
            walk_at "ys"
            refine y_dF (by omega) ?_
            exact c1 _ rfl (Same.refl _)
          · rw [fm_none] at hno
            walk_at "ys"
            refine ⟨sz_line (by simp), fun el nel => ?_⟩
            have f15 : Same H14 (upd H14 el (.lst [])) := same_new0 nel
            walk_at "ys"
            refine y_neL (xs := []) (ys := []) (f15 _ _ hno) upd_same ?_
            walk_at "ys"
            exact ⟨_, _, _, rfl, ((e12.trans f13).trans e14).trans f15⟩
        · obtain ⟨u6, u7, u8, rfl, e9⟩ := hP
          walk_at "ys"
          exact q H9 (e8.trans (.of e9)) (X8.same e9)
      · walk_at "ys"
        intro ed ned
        refine y_gotF upd_same True.intro (fun od2 => ?_)
        have f9 : Same H8 (upd (upd H8 ed (.dK [])) ed (.frz od2 (.dK []))) := same_mut (same_new0 ned) ned
        have hed : upd (upd H8 ed (.dK [])) ed (.frz od2 (.dK [])) ed = some (.frz od2 (.dK [])) := upd_same
        generalize upd (upd H8 ed (.dK [])) ed (.frz od2 (.dK [])) = H9 at *
        walk_at "ys"
        refine for_it walk_keys (fun i σ H' => σ = [some (.ref b), some (.int L), some (.ref g), some (.int lf), some (.int pr), some (.ref md), none, none, none, none, none] ∧ Same H9 H')
          ⟨rfl, Same.refl _⟩ (fun i σ H' _ h => h.2 _ _ hed) (fun i x σ H10 H11 hi hP hY => absurd hi (Nat.not_lt_zero _)) (fun σ H10 hP => ?_)
        obtain ⟨rfl, e10⟩ := hP
        walk_at "ys"
        exact q H10 (e8.trans (.of (f9.trans e10))) ((X8.same f9).same e10)
end
end K60
namespace K60
open PySem L2 Y LamX

theorem putK_at : ∀ {nm : List Str} {ts : List Addr} {i : Nat} {z : Str} (t : Addr), nm.Nodup → ts.length = nm.length → nm[i]? = some z → putK (kvOf nm ts) (Sum.inr z) (.ref t) = kvOf nm (ts.set i t) := by
  intro nm ts i z t nd hl hz
  have hi : i < nm.length := (List.getElem?_eq_some_iff.mp hz).1
  have hv := valV_kvOf nd hz (List.getElem?_eq_getElem (show i < ts.length by omega))
  unfold putK
  rw [if_pos (by rw [valV_any, hv]; rfl)]
  refine List.ext_getElem? fun j => ?_
  unfold kvOf
  rw [List.getElem?_map, List.getElem?_map, List.getElem?_map]
  by_cases hj : j < nm.length
  · have h1 : (nm.zip ts)[j]? = some (nm[j], ts[j]) := List.getElem?_zip_eq_some.mpr ⟨List.getElem?_eq_getElem hj, List.getElem?_eq_getElem (by omega)⟩
    have h2 : (nm.zip (ts.set i t))[j]? = some (nm[j], if i = j then t else ts[j]) := by
      refine List.getElem?_zip_eq_some.mpr ⟨List.getElem?_eq_getElem hj, ?_⟩
      show (ts.set i t)[j]? = some (if i = j then t else ts[j])
      rw [List.getElem?_set, if_pos (show i < ts.length by omega), List.getElem?_eq_getElem (show j < ts.length by omega)]
      split <;> rfl
    rw [h1, h2]
    by_cases e : i = j
    · subst e
      have : nm[i] = z := by
        rw [List.getElem?_eq_getElem hi] at hz
        exact Option.some.inj hz
      simp [this]
    · have : nm[j] ≠ z := fun x => e (nd_ix nd hz (by rw [List.getElem?_eq_getElem hj, x]))
      simp [this, e]
  · have h1 : (nm.zip ts)[j]? = none := List.getElem?_eq_none (by rw [List.length_zip]; omega)
    have h2 : (nm.zip (ts.set i t))[j]? = none := List.getElem?_eq_none (by rw [List.length_zip]; omega)
    rw [h1, h2]
    rfl
theorem Gs.put {H : Hp} {g : Addr} {o : Obj} {nm : List Str} {ts : List Addr} {p c : Nat → Nat} {md t : Addr} {od : Obj} {x y i : Nat} (G : Gs H g o nm ts p c) (hm : H md = some (.frz od (.dK (kvOf nm (ts.set i t))))) (ht : H t = some (.tup [.int x, .int y])) (hi : i < nm.length) :
    Gs H md od nm (ts.set i t) (fun j => if j = i then x else p j) (fun j => if j = i then y else c j) := by
  refine ⟨hm, by simp [G.len], fun j a h => ?_, G.nd, G.ok, G.few⟩
  rw [List.getElem?_set] at h
  by_cases e : i = j
  · subst e
    rw [if_pos rfl, if_pos (by rw [G.len]; exact hi)] at h
    obtain rfl := Option.some.inj h
    simp [ht]
  · rw [if_neg e] at h
    rw [if_neg (Ne.symm e), if_neg (Ne.symm e)]
    exact G.t j a h
theorem sum_put {p : Nat → Nat} {i x : Nat} : ∀ {n : Nat}, i < n → Deal.sumTo (fun j => if j = i then x else p j) n + p i = Deal.sumTo p n + x := by
  intro n hi
  have h1 := Deal.sumTo_at (f := fun j => if j = i then x else p j) hi
  have h2 := Deal.sumTo_at (f := p) hi
  have h3 : Deal.sumTo (fun j => if j = i then 0 else (fun j => if j = i then x else p j) j) n = Deal.sumTo (fun j => if j = i then 0 else p j) n := Deal.sumTo_congr fun j _ => by
    by_cases e : j = i
    · simp [e]
    · simp [e]
  rw [h3] at h1
  simp only [↓reduceIte] at h1
  omega
theorem Ok.put {n L : Nat} {p c : Nat → Nat} (O : Deal.Ok n L p c) {i x y : Nat} (hi : i < n) (hxy : x ≤ y) (hy1 : 1 ≤ y) (hyL : y ≤ L) (hs : Deal.sumTo p n + x ≤ L + p i) : Deal.Ok n L (fun j => if j = i then x else p j) (fun j => if j = i then y else c j) := by
  refine ⟨fun j hj => ?_, fun j hj => ?_, fun j hj => ?_, by have := sum_put (p := p) (x := x) hi; omega⟩
  · by_cases e : j = i
    · simp [e, hxy]
    · simp only [if_neg e]
      exact O.pc j hj
  · by_cases e : j = i
    · simp [e, hy1]
    · simp only [if_neg e]
      exact O.one j hj
  · by_cases e : j = i
    · simp [e, hyL]
    · simp only [if_neg e]
      exact O.cL j hj
section
variable {P : Program} {w : World} {K : PySem.W.Frag} {mg : Str → Option Value} {base : Heap}
def sp__law_greater_right (K : PySem.W.Frag) : Sp := fun vs H Q _ => ∃ (b : Addr) (B L : Nat) (g : Addr) (o : Obj) (nm : List Str) (ts : List Addr) (p c : Nat → Nat), vs = [.ref b, .int L, .ref g] ∧ Box H b B ∧ B ≤ 1000 ∧ Gs H g o nm ts p c ∧ 1 ≤ nm.length ∧ Deal.Ok nm.length L p c ∧ 4 ≤ L ∧ L ≤ 60 ∧ ∀ H', SameBut b H H' → Box H' b (B + 2) → Q (.bl true) H'
theorem ok__law_greater_right {f : Addr} {fd : FuncData} (T : Txt K mg) (F : Fun K "_law_greater_right" "_law_greater_right" s__law_greater_right f fd) : FnOk P w K mg base CX0 6 f fd ["box", "length", "guests"] (sp__law_greater_right K) := by
  obtain ⟨f__law_take, fd__law_take, g__law_take, F__law_take⟩ := T.d__law_take
  have G__law_take := ok__law_take (P := P) (w := w) (base := base) T F__law_take
  have b__law_take := F__law_take.binds (ps := ["box", "many"]) fun _ _ _ _ _ _ us hl => match us, hl with | [_, _], _ => rfl
  obtain ⟨f__law_turns, fd__law_turns, g__law_turns, F__law_turns⟩ := T.d__law_turns
  have G__law_turns := ok__law_turns (P := P) (w := w) (base := base) T F__law_turns
  have b__law_turns := F__law_turns.binds (ps := ["length", "guests", "name"]) fun _ _ _ _ _ _ us hl => match us, hl with | [_, _, _], _ => rfl
  have scp := sc__law_greater_right
  refine F.ok sc__law_greater_right (fun vs H Q E h => ?_) (fun cdv A outer s H vs Q E hr h => ?_)
  · first | (obtain ⟨rfl, _⟩ := h; rfl) | (obtain ⟨_, rfl, _⟩ := h; rfl) | (obtain ⟨_, _, rfl, _⟩ := h; rfl) | (obtain ⟨_, _, _, rfl, _⟩ := h; rfl) | (obtain ⟨_, _, _, _, rfl, _⟩ := h; rfl) | (obtain ⟨_, _, _, _, _, rfl, _⟩ := h; rfl) | (obtain ⟨_, _, _, _, _, _, rfl, _⟩ := h; rfl) | (obtain ⟨_, _, _, _, _, _, _, rfl, _⟩ := h; rfl) | (obtain ⟨_, _, _, _, _, _, _, _, rfl, _⟩ := h; rfl) | (obtain ⟨_, _, _, _, _, _, _, _, _, rfl, _⟩ := h; rfl) | (obtain ⟨_, _, _, _, _, _, _, _, _, _, rfl, _⟩ := h; rfl) | (obtain ⟨_, _, _, _, _, _, _, _, _, _, _, rfl, _⟩ := h; rfl) | (obtain ⟨_, _, _, _, _, _, _, _, _, _, _, _, rfl, _⟩ := h; rfl) | (obtain ⟨_, _, _, _, _, _, _, _, _, _, _, _, _, rfl, _⟩ := h; rfl) | (obtain ⟨_, _, _, _, _, _, _, _, _, _, _, _, _, _, rfl, _⟩ := h; rfl) | (obtain ⟨_, _, _, _, _, _, _, _, _, _, _, _, _, _, _, rfl, _⟩ := h; rfl)
  · obtain ⟨b, B, L, g, o, nm, ts, p, c, rfl, X, hB, G, hn1, O, h4, h60, q⟩ := h
    have hu := hu_of hr
    have hv := hr.units
    have hd := G.d
    have hO := O.sum
    have hfew := G.few
    refine ⟨_, (pss_cons (ps_set (i := 3) scp.nd rfl (by first | exact Or.inl rfl | exact Or.inr rfl) (pe_op op_minus (pv 1) (pe_callB (call_sumK (K := K) rfl) (by rfl) T.n_sum (by decide +kernel) (pa_cons (pe_lc (own := [("share", 11)]) (g := gName 11) (tt := tYes) rfl scp.nd (pi_values (pv 2)) (blkOk_by (own := [("share", 11)]) (N := ["box", "length", "guests", "left", "name", "promise", "ceiling", "greater", "more", "one", "other", "share", "k"]) (sc := defScope s__law_greater_right) (by decide +kernel)) (fun _ _ _ _ _ => (pg_name (i := 11) scp.nd rfl (by first | exact Or.inl rfl | exact Or.inr rfl))) (fun _ _ _ _ _ => pts_nil) (fun _ _ _ _ _ => (pe_ix (ix_anyK (K := K) hu) (pv 11) pe_int (fun _ _ => rfl)))) pa_nil))))
  (pss_cons (ps_set (i := 4) scp.nd rfl (by first | exact Or.inl rfl | exact Or.inr rfl) (pe_ix (ix_anyK (K := K) hu) (pe_callTy (call_listK (K := K) rfl) (by rfl) T.n_list (by decide +kernel) (pa_cons (pv 2) pa_nil)) (pe_call (G__law_take.mono (by decide)) hr rfl g__law_take F__law_take.kp b__law_take .nil pass0 (pa_cons (pv 0) (pa_cons (pe_callB (call_lenK (K := K)) (by rfl) T.n_len (by decide +kernel) (pa_cons (pv 2) pa_nil)) pa_nil))) (fun _ _ => rfl)))
  (pss_cons (ps_asg (pe_ix (ix_anyK (K := K) hu) (pv 2) (pv 4) (fun _ _ => rfl)) (pg_tupK (K := K) (n := 2) rfl (pgs_cons (pg_name (i := 5) scp.nd rfl (by first | exact Or.inl rfl | exact Or.inr rfl)) (pgs_cons (pg_name (i := 6) scp.nd rfl (by first | exact Or.inl rfl | exact Or.inr rfl)) pgs_nil))))
  (pss_cons (ps_set (i := 7) scp.nd rfl (by first | exact Or.inl rfl | exact Or.inr rfl) (pe_op op_plus (pv 5) (pe_call (G__law_take.mono (by decide)) hr rfl g__law_take F__law_take.kp b__law_take .nil pass0 (pa_cons (pv 0) (pa_cons (pe_op op_plus (pv 3) pe_int) pa_nil)))))
  (pss_cons (ps_set (i := 8) scp.nd rfl (by first | exact Or.inl rfl | exact Or.inr rfl) (pe_callTy (call_dictKK (K := K) rfl) (by rfl) T.n_dict (by decide +kernel) (pa_cons (pv 2) pa_nil)))
  (pss_cons (ps_dput hu (pv 8) (pv 4) (pe_tup (pa_cons (pv 7) (pa_cons (pe_callB (call_max2Y rfl) (by rfl) T.n_max (by decide +kernel) (pa_cons (pv 6) (pa_cons (pv 7) pa_nil))) pa_nil))) rfl)
  (pss_frz (pss_cons (ps_asg (pe_tup (pa_cons (pe_call (G__law_turns.mono (by decide)) hr rfl g__law_turns F__law_turns.kp b__law_turns .nil pass0 (pa_cons (pv 1) (pa_cons (pv 2) (pa_cons (pv 4) pa_nil)))) (pa_cons (pe_call (G__law_turns.mono (by decide)) hr rfl g__law_turns F__law_turns.kp b__law_turns .nil pass0 (pa_cons (pv 1) (pa_cons (pv 8) (pa_cons (pv 4) pa_nil)))) pa_nil))) (pg_tupK (K := K) (n := 2) rfl (pgs_cons (pg_name (i := 9) scp.nd rfl (by first | exact Or.inl rfl | exact Or.inr rfl)) (pgs_cons (pg_name (i := 10) scp.nd rfl (by first | exact Or.inl rfl | exact Or.inr rfl)) pgs_nil))))
  (pss_cons (ps_if (pt_cmpR op_ltI (pe_callB (call_lenK (K := K)) (by rfl) T.n_len (by decide +kernel) (pa_cons (pv 10) pa_nil)) (pe_callB (call_min2Y rfl) (by rfl) T.n_min (by decide +kernel) (pa_cons (pe_callB (call_lenK (K := K)) (by rfl) T.n_len (by decide +kernel) (pa_cons (pv 9) pa_nil)) (pa_cons (pv 7) pa_nil))) (nomark _))
  (pss_one (ps_ret pe_bl))
  pss_nil)
  (pss_one (ps_ret (pe_cmpR (op_eqK (K := K) hv) (pe_lc (own := [("k", 12)]) (g := gName 12) rfl scp.nd (pi_range1 rfl T.n_range (pa_cons (pe_callB (call_min2Y rfl) (by rfl) T.n_min (by decide +kernel) (pa_cons (pe_callB (call_lenK (K := K)) (by rfl) T.n_len (by decide +kernel) (pa_cons (pv 9) pa_nil)) (pa_cons (pv 7) pa_nil))) pa_nil)) (blkOk_by (own := [("k", 12)]) (N := ["box", "length", "guests", "left", "name", "promise", "ceiling", "greater", "more", "one", "other", "share", "k"]) (sc := defScope s__law_greater_right) (by decide +kernel)) (fun _ _ _ _ _ => (pg_name (i := 12) scp.nd rfl (by first | exact Or.inl rfl | exact Or.inr rfl))) (fun _ _ _ _ _ => (pts_one (pt_cmpR op_gtI (pe_ix (ix_anyK (K := K) hu) (pv 10) (pv 12) (fun _ _ => rfl)) (pe_ix (ix_anyK (K := K) hu) (pv 9) (pv 12) (fun _ _ => rfl)) (nomark _)))) (fun _ _ _ _ _ => (pv 12))) (pe_lst pa_nil) (nomark _))))))))))))), ?_⟩
    walk_at "ys"
    intro D nD
    refine lc_map (fun j => .int (p j)) walk_values nD (sz_lt (by rw [kvOf_len G.len]; have := G.few; omega)) (fun H' e' => e' _ _ hd) (fun i x H2 H3 Nx hi e2 hY k => ?_) (fun H2 e2 hD => ?_)
    · obtain ⟨rfl, kk, hkv⟩ := hY
      obtain ⟨z, t, hz, ht, rfl, rfl⟩ := kvOf_at hkv
      have ht2 := e2 _ _ (G.t i t ht)
      walk_at "ys"
      exact k _ _ rfl (Same.refl _)
    · rw [kvOf_len G.len] at hD
      have hD2 : H2 D = some (.lst (((List.range nm.length).map fun j => (p j : Int)).map V.int)) := by
        rw [hD, List.map_map]
        rfl
      have hd2 := e2 _ _ hd
      walk_at "ys"
      refine y_sum hD2 ?_
      rw [sum_ints]
      walk_at "ys"
      obtain ⟨lf, hlf, hlf2⟩ : ∃ lf : Nat, (L : Int) - (Deal.sumTo p nm.length : Nat) = (lf : Int) ∧ lf + Deal.sumTo p nm.length = L := ⟨L - Deal.sumTo p nm.length, by omega, by omega⟩
      rw [hlf]
      refine y_listF hd2 (fun ln nln => ?_)
      rw [kvOf_keys G.len]
      have f3 : Same H2 (upd H2 ln (.lst (nm.map V.str))) := same_new0 nln
      have hln : upd H2 ln (.lst (nm.map V.str)) ln = some (.lst (nm.map V.str)) := upd_same
      have X3 := (X.same e2).same f3
      have nlb : ln ≠ b := (X.same e2).ne nln
      generalize upd H2 ln (.lst (nm.map V.str)) = H3 at *
      have f3 := e2.trans f3
      have hd3 := f3 _ _ hd
      walk_at "ys"
      rw [kvOf_len G.len]
      refine ⟨b, nm.length, B, rfl, by omega, by omega, X3, by omega, fun i H4 hi e4 X4 => ?_⟩
      have hln4 := e4 _ _ nlb hln
      have e4 := (SameBut.of (b := b) f3).trans e4
      have ngb : g ≠ b := by
        obtain ⟨x1, x2, x3, hb, _⟩ := X.at_
        exact ne_of hd hb (fun z => by cases z)
      have ntsb : ∀ (i : Nat) (a : Addr), ts[i]? = some a → a ≠ b := fun i a h => by
        obtain ⟨x1, x2, x3, hb, _⟩ := X.at_
        exact ne_of (G.t i a h) hb (fun z => by cases z)
      have hd4 := e4 _ _ ngb hd
      obtain ⟨t, ht⟩ : ∃ t, ts[i]? = some t := ⟨_, List.getElem?_eq_getElem (show i < ts.length by rw [G.len]; exact hi)⟩
      have ht4 := e4 _ _ (ntsb i t ht) (G.t i t ht)
      walk_at "ys"
      refine y_ixL (v := .str (nmF nm i)) hln4 (by rw [atI_nat (by rw [List.length_map]; exact hi), List.getElem?_map, nmF_at hi]; rfl) ?_
      walk_at "ys"
      refine y_ixF hd4 (valV_kvOf G.nd (nmF_at hi) ht) ?_
      walk_at "ys"
      refine ⟨b, lf + 1, B + 1, rfl, by omega, by omega, X4, by omega, fun ad H5 had e5 X5 => ?_⟩
      have e5 := e4.trans e5
      have hd5 := e5 _ _ ngb hd
      have em : (p i : Int) + (ad : Int) = ((p i + ad : Nat) : Int) := by omega
      walk_at "ys"
      rw [em]
      have hgr1 : p i ≤ p i + ad := by omega
      have hgr2 : Deal.sumTo p nm.length + (p i + ad) ≤ L + p i := by omega
      generalize p i + ad = gr at *
      refine y_dictF hd5 (fun md nmd => ?_)
      have f6 : Same H5 (upd H5 md (.dK (kvOf nm ts))) := same_new0 nmd
      have hmd : upd H5 md (.dK (kvOf nm ts)) md = some (.dK (kvOf nm ts)) := upd_same
      have X6 := X5.same f6
      have nmb : md ≠ b := X5.ne nmd
      have nmH : H md = none := e5.free nmb nmd
      have e6 := e5.trans (.of f6)
      generalize upd H5 md (.dK (kvOf nm ts)) = H6 at *
      walk_at "ys"
      obtain ⟨ce, hce, hce1, hce2, hce3⟩ : ∃ ce : Nat, (if (gr : Int) > (c i : Int) then (gr : Int) else (c i : Int)) = (ce : Int) ∧ gr ≤ ce ∧ c i ≤ ce ∧ ce ≤ max gr (c i) := ⟨max gr (c i), by split <;> omega, by omega, by omega, by omega⟩
      rw [hce]
      refine ⟨sz_line (by simp), fun tt ntt => ?_⟩
      have f7 : Same H6 (upd H6 tt (.tup [.int gr, .int ce])) := same_new0 ntt
      have htt : upd H6 tt (.tup [.int gr, .int ce]) tt = some (.tup [.int gr, .int ce]) := upd_same
      have X7 := X6.same f7
      have hmd7 := f7 _ _ hmd
      have e7 := e6.trans (.of f7)
      have nttm : tt ≠ md := (ne_of_none hmd ntt).symm
      generalize upd H6 tt (.tup [.int gr, .int ce]) = H7 at *
      walk_at "ys"
      refine y_put hmd7 (sz_lt (by rw [kvOf_len G.len]; omega)) ?_
      rw [putK_at tt G.nd G.len (nmF_at hi)]
      have e8 : SameBut b H (upd H7 md (.dK (kvOf nm (ts.set i tt)))) := e7.mut nmH
      have X8 : Box (upd H7 md (.dK (kvOf nm (ts.set i tt)))) b (B + 2) := X7.put nmb
      have hmd8 : upd H7 md (.dK (kvOf nm (ts.set i tt))) md = some (.dK (kvOf nm (ts.set i tt))) := upd_same
      have htt8 : upd H7 md (.dK (kvOf nm (ts.set i tt))) tt = _ := up_ne nttm htt
      generalize upd H7 md (.dK (kvOf nm (ts.set i tt))) = H8 at *
      walk_at "ys"
      refine y_frz hmd8 True.intro (fun od => ?_)
      have e9 : SameBut b H (upd H8 md (.frz od (.dK (kvOf nm (ts.set i tt))))) := e8.mut nmH
      have X9 : Box (upd H8 md (.frz od (.dK (kvOf nm (ts.set i tt))))) b (B + 2) := X8.put nmb
      have hmd9 : upd H8 md (.frz od (.dK (kvOf nm (ts.set i tt)))) md = some (.frz od (.dK (kvOf nm (ts.set i tt)))) := upd_same
      have htt9 : upd H8 md (.frz od (.dK (kvOf nm (ts.set i tt)))) tt = _ := up_ne nttm htt8
      generalize upd H8 md (.frz od (.dK (kvOf nm (ts.set i tt)))) = H9 at *
      have G9 : Gs H9 g o nm ts p c := ⟨e9 _ _ ngb G.d, G.len, fun i a h => e9 _ _ (ntsb i a h) (G.t i a h), G.nd, G.ok, G.few⟩
      have hspi : p i ≤ Deal.sumTo p nm.length := by
        have := Deal.sumTo_at (f := p) hi
        omega
      have hcL := O.cL i hi
      have hc1 := O.one i hi
      have GZ := G9.put hmd9 htt9 hi
      have OZ := Ok.put O (x := gr) (y := ce) hi (by omega) (by omega) (by omega) (by omega)
      have hpz : ∀ j, j ≠ i → (fun j => if j = i then gr else p j) j = p j := fun j hj => if_neg hj
      have hcz : ∀ j, j ≠ i → (fun j => if j = i then ce else c j) j = c j := fun j hj => if_neg hj
      have hpi : (fun j => if j = i then gr else p j) i = gr := if_pos rfl
      have hci : (fun j => if j = i then ce else c j) i = ce := if_pos rfl
      generalize (fun j => if j = i then gr else p j) = p' at *
      generalize (fun j => if j = i then ce else c j) = c' at *
      walk_at "ys"
      refine ⟨L, g, o, nm, ts, p, c, i, rfl, G9, O, hi, h4, h60, fun l1 H11 e11 nl1 hl1 => ?_⟩
      walk_at "ys"
      refine ⟨L, md, od, nm, ts.set i tt, p', c', i, rfl, GZ.same e11, OZ, hi, h4, h60, fun l2 H12 e12 nl2 hl2 => ?_⟩
      have hl12 := e12 _ _ hl1
      have e12 := e11.trans e12
      have hmm := Deal.greater_many O OZ hpz hcz (by rw [hpi]; exact hgr1) (by rw [hci]; exact hce2)
      have hmL := Deal.many_le O i
      have hmL2 := Deal.many_le OZ i
      walk_at "ys"
      refine ⟨sz_line (by simp), fun tp ntp => ?_⟩
      have f13 : Same H12 (upd H12 tp (.tup [.ref l1, .ref l2])) := same_new0 ntp
      have htp : upd H12 tp (.tup [.ref l1, .ref l2]) tp = some (.tup [.ref l1, .ref l2]) := upd_same
      have hl13 := f13 _ _ hl12
      have hl23 := f13 _ _ hl2
      generalize upd H12 tp (.tup [.ref l1, .ref l2]) = H13 at *
      walk_at "ys"
      rw [hpi] at hmm
      rw [List.length_map, List.length_map, turnsOf_len, turnsOf_len]
      obtain ⟨mn, hmn, hmn1, hmn2, hmn3⟩ : ∃ mn : Nat, (if (gr : Int) < (Deal.many nm.length L p c i : Nat) then (gr : Int) else (Deal.many nm.length L p c i : Nat)) = (mn : Int) ∧ mn ≤ gr ∧ mn ≤ Deal.many nm.length L p c i ∧ mn = min (Deal.many nm.length L p c i) gr := ⟨min (Deal.many nm.length L p c i) gr, by split <;> omega, by omega, by omega, rfl⟩
      rw [hmn]
      refine y_dF (by omega) ?_
      walk_at "ys"
      rw [List.length_map, turnsOf_len, hmn]
      refine y_gotr1 (by omega) (by omega) ?_
      intro E nE
      refine lc_gen (fun _ => none) walk_range nE (sz_lt (by omega)) (fun _ _ => trivial) (fun k x H14 H15 Nx hk e hY c0 c1 => ?_) (fun H14 e14 hno => ?_)
      · obtain ⟨rfl, rfl⟩ := hY
        have hk : k < mn := by omega
        have a1 : atI ((turnsOf nm.length L p c i).map V.int) ((0 : Int) + (k : Nat)) = some (.int (Deal.T nm.length p c i k : Nat)) := by
          rw [Int.zero_add, Y.atI_nat (by rw [List.length_map, turnsOf_len]; omega), List.getElem?_map, turnsOf_at (by omega)]
          rfl
        have a2 : atI ((turnsOf nm.length L p' c' i).map V.int) ((0 : Int) + (k : Nat)) = some (.int (Deal.T nm.length p' c' i k : Nat)) := by
          rw [Int.zero_add, Y.atI_nat (by rw [List.length_map, turnsOf_len]; omega), List.getElem?_map, turnsOf_at (by omega)]
          rfl
        have hT := Deal.greater_T O hpz hcz (by rw [hpi]; exact hgr1) (k := k) (by rw [hpi]; omega)
        walk_at "ys"
        refine y_ixL (e _ _ hl23) a2 ?_
        walk_at "ys"
        refine y_ixL (e _ _ hl13) a1 ?_
        walk_at "ys"
        refine y_dF (by omega) ?_
        exact c1 _ rfl (Same.refl _)
      · rw [fm_none] at hno
        walk_at "ys"
        refine ⟨sz_line (by simp), fun el nel => ?_⟩
        have f15 : Same H14 (upd H14 el (.lst [])) := same_new0 nel
        walk_at "ys"
        refine y_eqL (xs := []) (ys := []) (f15 _ _ hno) upd_same ?_
        have fe := ((e12.trans f13).trans e14).trans f15
        exact q _ (e9.trans (.of fe)) (X9.same fe)
end
end K60
namespace K60
open PySem L2 Y LamX

theorem gs_snoc {H : Hp} {nm : List Str} {ts : List Addr} {p c : Nat → Nat} {md t : Addr} {od : Obj} {x y : Nat} (hm : H md = some (.frz od (.dK (kvOf (nm ++ [("zed" : Str)]) (ts ++ [t]))))) (len : ts.length = nm.length) (tt : ∀ (i : Nat) (a : Addr), ts[i]? = some a → H a = some (.tup [.int (p i), .int (c i)])) (nd : nm.Nodup) (ok : ∀ z, z ∈ nm → NameOk z)
    (ht : H t = some (.tup [.int x, .int y])) (hz : ("zed" : Str) ∉ nm) (h5 : nm.length ≤ 5) :
    Gs H md od (nm ++ [("zed" : Str)]) (ts ++ [t]) (fun j => if j = nm.length then x else p j) (fun j => if j = nm.length then y else c j) := by
  refine ⟨hm, by simp [len], fun i a h => ?_, ?_, fun z hz' => ?_, by simp; omega⟩
  · by_cases e : i = nm.length
    · subst e
      rw [← len, List.getElem?_append_right (Nat.le_refl _)] at h
      simp at h
      subst h
      simp [ht]
    · have hi : i < ts.length := by
        have h2 := (List.getElem?_eq_some_iff.mp h).1
        rw [List.length_append, len] at h2
        simp at h2
        rw [len]
        omega
      rw [List.getElem?_append_left hi] at h
      rw [if_neg e, if_neg e]
      exact tt i a h
  · rw [List.nodup_append]
    refine ⟨nd, by simp, fun a ha b' hb => ?_⟩
    have := List.mem_singleton.mp hb
    subst this
    exact fun e => hz (e ▸ ha)
  · rw [List.mem_append] at hz'
    rcases hz' with h | h
    · exact ok z h
    · rw [List.mem_singleton.mp h]
      exact zed_ok
theorem sumTo_mono (p : Nat → Nat) {m n : Nat} (h : m ≤ n) : Deal.sumTo p m ≤ Deal.sumTo p n := by
  induction n with
  | zero =>
    obtain rfl : m = 0 := by omega
    exact Nat.le_refl _
  | succ n ih =>
    by_cases e : m = n + 1
    · rw [e]
      exact Nat.le_refl _
    · have := ih (by omega)
      show _ ≤ Deal.sumTo p n + p n
      omega
theorem half_sum (p : Nat → Nat) {m f : Nat} (hf : f < m) : Deal.sumTo (fun j => p j / 2) m + p f / 2 ≤ Deal.sumTo p m := by
  have h1 := Deal.sumTo_at (f := fun j => p j / 2) hf
  have h2 := Deal.sumTo_at (f := p) hf
  have h3 : Deal.sumTo (fun j => if j = f then 0 else p j / 2) m ≤ Deal.sumTo (fun j => if j = f then 0 else p j) m := Deal.sumTo_le fun j _ => by
    by_cases e : j = f
    · simp [e]
    · simp only [if_neg e]
      omega
  omega
theorem take_map (nm : List Str) : ∀ m, m ≤ nm.length → nm.take m = (List.range m).map (nmF nm)
  | 0, _ => rfl
  | m + 1, h => by
    rw [List.take_add_one, nmF_at (show m < nm.length by omega), take_map nm m (by omega), List.range_succ, List.map_append]
    rfl
theorem kvOf_range (nm : List Str) (fu : Nat → Addr) {m : Nat} (h : m ≤ nm.length) : kvOf (nm.take m) ((List.range m).map fu) = (List.range m).map fun j => ((Sum.inr (nmF nm j) : Key), V.ref (fu j)) := by
  rw [take_map nm m h]
  unfold kvOf
  rw [List.zip_map', List.map_map]
  rfl
theorem cut_five (nm : List Str) : cutV (nm.map V.str) none (some 5) = (nm.take 5).map V.str := by
  unfold cutV HT.sIx
  rw [List.drop_zero, List.length_map, List.map_take]
  simp only [Int.reduceLT, ↓reduceIte, Nat.sub_zero]
  rw [show (5 : Int).toNat = 5 from rfl]
  by_cases h : 5 ≤ nm.length
  · rw [Nat.min_eq_left h]
  · rw [Nat.min_eq_right (by omega), List.take_of_length_le (by rw [List.length_map]; exact Nat.le_refl _), List.take_of_length_le (by rw [List.length_map]; omega)]
section
variable {P : Program} {w : World} {K : PySem.W.Frag} {mg : Str → Option Value} {base : Heap}
def sp__law_order_right (K : PySem.W.Frag) : Sp := fun vs H Q _ => ∃ (b : Addr) (B L : Nat) (g : Addr) (o : Obj) (nm : List Str) (ts : List Addr) (p c : Nat → Nat), vs = [.ref b, .int L, .ref g] ∧ Box H b B ∧ B ≤ 1000 ∧ Gs H g o nm ts p c ∧ (∀ z, z ∈ nm → z ∈ six) ∧ 1 ≤ nm.length ∧ Deal.Ok nm.length L p c ∧ 4 ≤ L ∧ L ≤ 60 ∧ ∀ H', SameBut b H H' → Box H' b (B + 1) → Q (.bl true) H'
theorem ok__law_order_right {f : Addr} {fd : FuncData} (T : Txt K mg) (F : Fun K "_law_order_right" "_law_order_right" s__law_order_right f fd) : FnOk P w K mg base CX0 6 f fd ["box", "length", "guests"] (sp__law_order_right K) := by
  obtain ⟨f__law_take, fd__law_take, g__law_take, F__law_take⟩ := T.d__law_take
  have G__law_take := ok__law_take (P := P) (w := w) (base := base) T F__law_take
  have b__law_take := F__law_take.binds (ps := ["box", "many"]) fun _ _ _ _ _ _ us hl => match us, hl with | [_, _], _ => rfl
  obtain ⟨f__law_turns, fd__law_turns, g__law_turns, F__law_turns⟩ := T.d__law_turns
  have G__law_turns := ok__law_turns (P := P) (w := w) (base := base) T F__law_turns
  have b__law_turns := F__law_turns.binds (ps := ["length", "guests", "name"]) fun _ _ _ _ _ _ us hl => match us, hl with | [_, _, _], _ => rfl
  have scp := sc__law_order_right
  refine F.ok sc__law_order_right (fun vs H Q E h => ?_) (fun cdv A outer s H vs Q E hr h => ?_)
  · first | (obtain ⟨rfl, _⟩ := h; rfl) | (obtain ⟨_, rfl, _⟩ := h; rfl) | (obtain ⟨_, _, rfl, _⟩ := h; rfl) | (obtain ⟨_, _, _, rfl, _⟩ := h; rfl) | (obtain ⟨_, _, _, _, rfl, _⟩ := h; rfl) | (obtain ⟨_, _, _, _, _, rfl, _⟩ := h; rfl) | (obtain ⟨_, _, _, _, _, _, rfl, _⟩ := h; rfl) | (obtain ⟨_, _, _, _, _, _, _, rfl, _⟩ := h; rfl) | (obtain ⟨_, _, _, _, _, _, _, _, rfl, _⟩ := h; rfl) | (obtain ⟨_, _, _, _, _, _, _, _, _, rfl, _⟩ := h; rfl) | (obtain ⟨_, _, _, _, _, _, _, _, _, _, rfl, _⟩ := h; rfl) | (obtain ⟨_, _, _, _, _, _, _, _, _, _, _, rfl, _⟩ := h; rfl) | (obtain ⟨_, _, _, _, _, _, _, _, _, _, _, _, rfl, _⟩ := h; rfl) | (obtain ⟨_, _, _, _, _, _, _, _, _, _, _, _, _, rfl, _⟩ := h; rfl) | (obtain ⟨_, _, _, _, _, _, _, _, _, _, _, _, _, _, rfl, _⟩ := h; rfl) | (obtain ⟨_, _, _, _, _, _, _, _, _, _, _, _, _, _, _, rfl, _⟩ := h; rfl)
  · obtain ⟨b, B, L, g, o, nm, ts, p, c, rfl, X, hB, G, hsix, hn1, O, h4, h60, q⟩ := h
    have hu := hu_of hr
    have hv := hr.units
    have hd := G.d
    have hO := O.sum
    have hfew := G.few
    refine ⟨_, (pss_cons (ps_set (i := 3) scp.nd rfl (by first | exact Or.inl rfl | exact Or.inr rfl) (pe_callTy (call_listK (K := K) rfl) (by rfl) T.n_list (by decide +kernel) (pa_cons (pv 2) pa_nil)))
  (pss_cons (ps_set (i := 4) scp.nd rfl (by first | exact Or.inl rfl | exact Or.inr rfl) (pe_callTy (call_dictKK (K := K) rfl) (by rfl) T.n_dict (by decide +kernel) (pa_cons (pe_lc (own := [("name", 8)]) (g := gName 8) (tt := tYes) rfl scp.nd (pi_listK (K := K) (pe_slice (sl_listK (K := K)) (pv 3) po_none (po_some pe_int))) (blkOk_by (own := [("name", 8)]) (N := ["box", "length", "guests", "names", "half", "first", "one", "other", "name", "k"]) (sc := defScope s__law_order_right) (by decide +kernel)) (fun _ _ _ _ _ => (pg_name (i := 8) scp.nd rfl (by first | exact Or.inl rfl | exact Or.inr rfl))) (fun _ _ _ _ _ => pts_nil) (fun _ _ _ _ _ => (pe_tup (pa_cons (pv 8) (pa_cons (pe_tup (pa_cons (pe_op op_fdivY (pe_ix (ix_anyK (K := K) hu) (pe_ix (ix_anyK (K := K) hu) (pv 2) (pv 8) (fun _ _ => rfl)) pe_int (fun _ _ => rfl)) pe_int) (pa_cons (pe_callB (call_max2Y rfl) (by rfl) T.n_max (by decide +kernel) (pa_cons pe_int (pa_cons (pe_ix (ix_anyK (K := K) hu) (pe_ix (ix_anyK (K := K) hu) (pv 2) (pv 8) (fun _ _ => rfl)) pe_int (fun _ _ => rfl)) pa_nil))) pa_nil))) pa_nil))))) pa_nil)))
  (pss_cons (ps_set (i := 5) scp.nd rfl (by first | exact Or.inl rfl | exact Or.inr rfl) (pe_ix (ix_anyK (K := K) hu) (pv 3) (pe_call (G__law_take.mono (by decide)) hr rfl g__law_take F__law_take.kp b__law_take .nil pass0 (pa_cons (pv 0) (pa_cons (pe_callB (call_min2Y rfl) (by rfl) T.n_min (by decide +kernel) (pa_cons pe_int (pa_cons (pe_callB (call_lenK (K := K)) (by rfl) T.n_len (by decide +kernel) (pa_cons (pv 3) pa_nil)) pa_nil))) pa_nil))) (fun _ _ => rfl)))
  (pss_cons (ps_dput hu (pv 4) pe_str (pe_ix (ix_anyK (K := K) hu) (pv 4) (pv 5) (fun _ _ => rfl)) rfl)
  (pss_frz (pss_cons (ps_asg (pe_tup (pa_cons (pe_call (G__law_turns.mono (by decide)) hr rfl g__law_turns F__law_turns.kp b__law_turns .nil pass0 (pa_cons (pv 1) (pa_cons (pv 4) (pa_cons (pv 5) pa_nil)))) (pa_cons (pe_call (G__law_turns.mono (by decide)) hr rfl g__law_turns F__law_turns.kp b__law_turns .nil pass0 (pa_cons (pv 1) (pa_cons (pv 4) (pa_cons pe_str pa_nil)))) pa_nil))) (pg_tupK (K := K) (n := 2) rfl (pgs_cons (pg_name (i := 6) scp.nd rfl (by first | exact Or.inl rfl | exact Or.inr rfl)) (pgs_cons (pg_name (i := 7) scp.nd rfl (by first | exact Or.inl rfl | exact Or.inr rfl)) pgs_nil))))
  (pss_one (ps_ret (pe_and (pe_cmpR op_geI (pe_callB (call_lenK (K := K)) (by rfl) T.n_len (by decide +kernel) (pa_cons (pv 6) pa_nil)) (pe_callB (call_lenK (K := K)) (by rfl) T.n_len (by decide +kernel) (pa_cons (pv 7) pa_nil)) (nomark _)) (pe_one (pe_cmpR (op_eqK (K := K) hv) (pe_lc (own := [("k", 9)]) (g := gName 9) rfl scp.nd (pi_range1 rfl T.n_range (pa_cons (pe_callB (call_lenK (K := K)) (by rfl) T.n_len (by decide +kernel) (pa_cons (pv 7) pa_nil)) pa_nil)) (blkOk_by (own := [("k", 9)]) (N := ["box", "length", "guests", "names", "half", "first", "one", "other", "name", "k"]) (sc := defScope s__law_order_right) (by decide +kernel)) (fun _ _ _ _ _ => (pg_name (i := 9) scp.nd rfl (by first | exact Or.inl rfl | exact Or.inr rfl))) (fun _ _ _ _ _ => (pts_one (pt_cmpR op_geI (pe_ix (ix_anyK (K := K) hu) (pv 6) (pv 9) (fun _ _ => rfl)) (pe_ix (ix_anyK (K := K) hu) (pv 7) (pv 9) (fun _ _ => rfl)) (nomark _)))) (fun _ _ _ _ _ => (pv 9))) (pe_lst pa_nil) (nomark _)))))))))))), ?_⟩
    walk_at "ys"
    refine y_listF hd (fun ln nln => ?_)
    rw [kvOf_keys G.len]
    have f1 : Same H (upd H ln (.lst (nm.map V.str))) := same_new0 nln
    have hln : upd H ln (.lst (nm.map V.str)) ln = some (.lst (nm.map V.str)) := upd_same
    have nlb : ln ≠ b := X.ne nln
    generalize upd H ln (.lst (nm.map V.str)) = H1 at *
    walk_at "ys"
    refine y_slL hln (fun sl nsl => ?_)
    rw [cut_five]
    have f2 : Same H1 (upd H1 sl (.lst ((nm.take 5).map V.str))) := same_new0 nsl
    have hsl : upd H1 sl (.lst ((nm.take 5).map V.str)) sl = some (.lst ((nm.take 5).map V.str)) := upd_same
    have hln2 := f2 _ _ hln
    generalize upd H1 sl (.lst ((nm.take 5).map V.str)) = H2 at *
    have f2 := f1.trans f2
    have hd2 := f2 _ _ hd
    obtain ⟨m, hm, hm5, hmn, hm1⟩ : ∃ m : Nat, (nm.take 5).length = m ∧ m ≤ 5 ∧ m ≤ nm.length ∧ 1 ≤ m := ⟨_, rfl, by rw [List.length_take]; omega, by rw [List.length_take]; omega, by rw [List.length_take]; omega⟩
    have htk : nm.take 5 = nm.take m := by
      have := List.length_take (i := 5) (l := nm)
      by_cases h : 5 ≤ nm.length
      · rw [show m = 5 by omega]
      · rw [show m = nm.length by omega, List.take_length, List.take_of_length_le (by omega)]
    walk_at "ys"
    intro D nD
    refine lc_it (walk_list (xs := (nm.take 5).map V.str)) (fun i H' => Same H2 H' ∧ ∃ fa fu : Nat → Addr, (∀ j, j < i → H' (fa j) = some (.tup [.str (nmF nm j), .ref (fu j)]) ∧ H' (fu j) = some (.tup [.int (p j / 2 : Nat), .int (c j)])) ∧ H' D = some (.lst (((List.range i).map fa).map V.ref)))
      ⟨same_new0 nD, fun _ => 0, fun _ => 0, fun j hj => absurd hj (Nat.not_lt_zero _), upd_same⟩ (fun i H' _ h => SqL.of (h.1 _ _ hsl)) (fun i x H3 H4 hi hP hY => ?_) (fun H3 hP => ?_)
    · obtain ⟨e3, fa, fu, hf, hD⟩ := hP
      obtain ⟨rfl, hx⟩ := hY
      rw [List.length_map, hm] at hi
      rw [htk, List.getElem?_map, List.getElem?_take_of_lt hi, nmF_at (show i < nm.length by omega)] at hx
      have hx := Option.some.inj hx
      subst hx
      obtain ⟨t, ht⟩ : ∃ t, ts[i]? = some t := ⟨_, List.getElem?_eq_getElem (show i < ts.length by rw [G.len]; omega)⟩
      have ht3 := e3 _ _ (f2 _ _ (G.t i t ht))
      have hd3 := e3 _ _ hd2
      have hval := valV_kvOf G.nd (nmF_at (show i < nm.length by omega)) ht
      have hc1 := O.one i (by omega)
      walk_at "ys"
      refine y_ixF hd3 hval ?_
      walk_at "ys"
      refine y_fdiv (cdiv_small (by decide) (by decide)) ?_
      walk_at "ys"
      refine y_ixF hd3 hval ?_
      walk_at "ys"
      have ec : (if (c i : Int) > 1 then (c i : Int) else 1) = (c i : Int) := by split <;> omega
      rw [ec]
      have ep : (p i : Int) / 2 = ((p i / 2 : Nat) : Int) := by omega
      rw [ep]
      refine ⟨sz_line (by simp), fun u nu => ?_⟩
      have f5 : Same H4 (upd H4 u (.tup [.int (p i / 2 : Nat), .int (c i)])) := same_new0 nu
      have hu5 : upd H4 u (.tup [.int (p i / 2 : Nat), .int (c i)]) u = some (.tup [.int (p i / 2 : Nat), .int (c i)]) := upd_same
      generalize upd H4 u (.tup [.int (p i / 2 : Nat), .int (c i)]) = H5 at *
      walk_at "ys"
      refine ⟨sz_line (by simp), fun a na => ?_⟩
      have f6 : Same H5 (upd H5 a (.tup [.str (nmF nm i), .ref u])) := same_new0 na
      have ha6 : upd H5 a (.tup [.str (nmF nm i), .ref u]) a = some (.tup [.str (nmF nm i), .ref u]) := upd_same
      have hu6 := f6 _ _ hu5
      generalize upd H5 a (.tup [.str (nmF nm i), .ref u]) = H6 at *
      have f46 := f5.trans f6
      have hD6 := f46 _ _ hD
      have keep : ∀ (a' : Addr) (xs : List V), H6 a' = some (.tup xs) → ∀ ys, upd H6 D (.lst ys) a' = some (.tup xs) := fun a' xs h ys => by
        rw [upd_ne (ne_of h hD6 (fun z => by cases z))]
        exact h
      refine ⟨_, hD6, by rw [List.length_map, List.length_map, List.length_range]; exact sz_lt (by omega), same_upd (e3.trans f46) nD, fun j => if j = i then a else fa j, fun j => if j = i then u else fu j, fun j hj => ?_, ?_⟩
      · by_cases e : j = i
        · subst e
          simp only [↓reduceIte]
          exact ⟨keep _ _ ha6 _, keep _ _ hu6 _⟩
        · simp only [if_neg e]
          obtain ⟨h1, h2⟩ := hf j (by omega)
          exact ⟨keep _ _ (f46 _ _ h1) _, keep _ _ (f46 _ _ h2) _⟩
      · rw [upd_same, List.range_succ, List.map_append, List.map_append]
        congr 3
        · congr 1
          refine List.map_congr_left fun j hj => ?_
          rw [if_neg (by have := List.mem_range.mp hj; omega)]
        · simp
    · obtain ⟨e3, fa, fu, hf, hD⟩ := hP
      rw [List.length_map, hm] at hf hD
      walk_at "ys"
      have f3 := f2.trans e3
      have hmg : mergeK [] ((List.range m).map fun j => ((Sum.inr (nmF nm j) : Key), V.ref (fu j))) = (List.range m).map fun j => ((Sum.inr (nmF nm j) : Key), V.ref (fu j)) := merge_used G.nd (fun j => V.ref (fu j)) m hmn
      refine y_dictP (kvs := (List.range m).map fun j => ((Sum.inr (nmF nm j) : Key), V.ref (fu j))) hD ?_ (fun md nmd => ?_)
      · refine paired_idx (by rw [List.length_map, List.length_map]) fun j a kv h1 h2 => ?_
        have hj : j < m := by
          have := (List.getElem?_eq_some_iff.mp h1).1
          rw [List.length_map, List.length_range] at this
          exact this
        rw [List.getElem?_map, List.getElem?_range hj] at h1 h2
        obtain rfl := Option.some.inj h1
        obtain rfl := Option.some.inj h2
        exact SqT.of (hf j hj).1
      rw [hmg]
      have f4 : Same H3 (upd H3 md (.dK ((List.range m).map fun j => ((Sum.inr (nmF nm j) : Key), V.ref (fu j))))) := same_new0 nmd
      have hmd : upd H3 md (.dK ((List.range m).map fun j => ((Sum.inr (nmF nm j) : Key), V.ref (fu j)))) md = some (.dK ((List.range m).map fun j => ((Sum.inr (nmF nm j) : Key), V.ref (fu j)))) := upd_same
      have X4 := (X.same f3).same f4
      have nmb : md ≠ b := (X.same f3).ne nmd
      have nmH : H md = none := free_of f3 nmd
      generalize upd H3 md (.dK ((List.range m).map fun j => ((Sum.inr (nmF nm j) : Key), V.ref (fu j)))) = H4 at *
      have hln4 := f4 _ _ (e3 _ _ hln2)
      have f4' := f3.trans f4
      walk_at "ys"
      rw [List.length_map]
      have em : (if (nm.length : Int) < 5 then (nm.length : Int) else 5) = (m : Int) := by
        rw [List.length_take] at hm
        split <;> omega
      rw [em]
      refine ⟨b, m, B, rfl, by omega, by omega, X4, by omega, fun f H5 hfm e5 X5 => ?_⟩
      have hmd5 := e5 _ _ nmb hmd
      have hln5 := e5 _ _ nlb hln4
      have e5' := (SameBut.of (b := b) f4').trans e5
      have ngb : g ≠ b := by
        obtain ⟨x1, x2, x3, hb, _⟩ := X.at_
        exact ne_of hd hb (fun z => by cases z)
      have hfu : ∀ j, j < m → H5 (fu j) = some (.tup [.int (p j / 2 : Nat), .int (c j)]) ∧ fu j ≠ md := fun j hj => by
        have h1 := (hf j hj).2
        obtain ⟨x1, x2, x3, hb, _⟩ := (X.same f3).at_
        exact ⟨e5 _ _ (ne_of h1 hb (fun z => by cases z)) (f4 _ _ h1), ne_of_none h1 nmd⟩
      have hget : valV ((List.range m).map fun j => ((Sum.inr (nmF nm j) : Key), V.ref (fu j))) (Sum.inr (nmF nm f)) = some (.ref (fu f)) := by
        rw [valV_map_range G.nd (fun j => V.ref (fu j)) (show f < nm.length by omega) m hmn, if_pos hfm]
      walk_at "ys"
      refine y_ixL (v := .str (nmF nm f)) hln5 (by rw [Y.atI_nat (by rw [List.length_map]; omega), List.getElem?_map, nmF_at (show f < nm.length by omega)]; rfl) ?_
      walk_at "ys"
      refine y_ixK hmd5 hget ?_
      walk_at "ys"
      have hzed : ("zed" : Str) ∉ nm.take m := fun h => six_zed _ (hsix _ (List.mem_of_mem_take h)) rfl
      have hkv : (List.range m).map (fun j => ((Sum.inr (nmF nm j) : Key), V.ref (fu j))) = kvOf (nm.take m) ((List.range m).map fu) := (kvOf_range nm fu hmn).symm
      have hlm : ((List.range m).map fu).length = (nm.take m).length := by rw [List.length_map, List.length_range, List.length_take]; omega
      have hl2 : (nm.take m).length = m := by rw [List.length_take]; omega
      rw [hkv] at hmd5
      refine y_put hmd5 (sz_lt (by rw [kvOf_len hlm]; omega)) ?_
      rw [putK_new _ (valV_kvOf_none hzed), ← kvOf_snoc hlm]
      have e8 : SameBut b H (upd H5 md (.dK (kvOf (nm.take m ++ [("zed" : Str)]) ((List.range m).map fu ++ [fu f])))) := e5'.mut nmH
      have X8 : Box (upd H5 md (.dK (kvOf (nm.take m ++ [("zed" : Str)]) ((List.range m).map fu ++ [fu f])))) b (B + 1) := X5.put nmb
      have hmd8 : upd H5 md (.dK (kvOf (nm.take m ++ [("zed" : Str)]) ((List.range m).map fu ++ [fu f]))) md = some (.dK (kvOf (nm.take m ++ [("zed" : Str)]) ((List.range m).map fu ++ [fu f]))) := upd_same
      have hfu8 : ∀ j, j < m → upd H5 md (.dK (kvOf (nm.take m ++ [("zed" : Str)]) ((List.range m).map fu ++ [fu f]))) (fu j) = some (.tup [.int (p j / 2 : Nat), .int (c j)]) := fun j hj => up_ne (hfu j hj).2 (hfu j hj).1
      generalize upd H5 md (.dK (kvOf (nm.take m ++ [("zed" : Str)]) ((List.range m).map fu ++ [fu f]))) = H8 at *
      walk_at "ys"
      refine y_frz hmd8 True.intro (fun od => ?_)
      have e9 : SameBut b H (upd H8 md (.frz od (.dK (kvOf (nm.take m ++ [("zed" : Str)]) ((List.range m).map fu ++ [fu f]))))) := e8.mut nmH
      have X9 : Box (upd H8 md (.frz od (.dK (kvOf (nm.take m ++ [("zed" : Str)]) ((List.range m).map fu ++ [fu f]))))) b (B + 1) := X8.put nmb
      have hmd9 : upd H8 md (.frz od (.dK (kvOf (nm.take m ++ [("zed" : Str)]) ((List.range m).map fu ++ [fu f])))) md = some (.frz od (.dK (kvOf (nm.take m ++ [("zed" : Str)]) ((List.range m).map fu ++ [fu f])))) := upd_same
      have hfu9 : ∀ j, j < m → upd H8 md (.frz od (.dK (kvOf (nm.take m ++ [("zed" : Str)]) ((List.range m).map fu ++ [fu f])))) (fu j) = some (.tup [.int (p j / 2 : Nat), .int (c j)]) := fun j hj => up_ne (hfu j hj).2 (hfu8 j hj)
      generalize upd H8 md (.frz od (.dK (kvOf (nm.take m ++ [("zed" : Str)]) ((List.range m).map fu ++ [fu f])))) = H9 at *
      have GZ := gs_snoc (p := fun j => p j / 2) (c := c) hmd9 hlm (fun j a h => by
        rw [List.getElem?_map] at h
        have hj : j < m := by
          refine Nat.lt_of_not_le fun z => ?_
          rw [List.getElem?_eq_none (by rw [List.length_range]; exact z)] at h
          cases h
        rw [List.getElem?_range hj] at h
        obtain rfl := Option.some.inj h
        exact hfu9 j hj) ((List.take_sublist _ _).nodup G.nd) (fun z hz => G.ok z (List.mem_of_mem_take hz)) (hfu9 f hfm) hzed (by omega)
      rw [hl2] at GZ
      have hs1 := half_sum p hfm
      have hs2 := sumTo_mono p hmn
      have O1 : Deal.Ok m L (fun j => p j / 2) c := ⟨fun j hj => by have := O.pc j (by omega); show p j / 2 ≤ c j; omega, fun j hj => O.one j (by omega), fun j hj => O.cL j (by omega), by omega⟩
      have hpf := O.pc f (by omega)
      have OZ := Ok.snoc O1 (x := p f / 2) (y := c f) (by omega) (O.one f (by omega)) (O.cL f (by omega)) (by omega)
      have hpz : (fun j => if j = m then p f / 2 else p j / 2) m = (fun j => if j = m then p f / 2 else p j / 2) f := by
        simp only [↓reduceIte]
        rw [if_neg (by omega)]
      have hcz : (fun j => if j = m then c f else c j) m = (fun j => if j = m then c f else c j) f := by
        simp only [↓reduceIte]
        rw [if_neg (by omega)]
      generalize (fun j => if j = m then p f / 2 else p j / 2) = p' at *
      generalize (fun j => if j = m then c f else c j) = c' at *
      have hl' : (nm.take m ++ [("zed" : Str)]).length = m + 1 := by rw [List.length_append, hl2]; rfl
      have hnf : nmF (nm.take m ++ [("zed" : Str)]) f = nmF nm f := by
        rw [nmF_snoc _ (by omega)]
        refine nmF_of ?_
        rw [List.getElem?_take_of_lt hfm]
        exact nmF_at (by omega)
      have hnz : nmF (nm.take m ++ [("zed" : Str)]) m = "zed" := by
        have := nmF_last (nm.take m) "zed"
        rw [hl2] at this
        exact this
      walk_at "ys"
      refine ⟨L, md, od, nm.take m ++ [("zed" : Str)], (List.range m).map fu ++ [fu f], p', c', f, by rw [hnf]; rfl, GZ, by rw [hl']; exact OZ, by omega, h4, h60, fun l1 H11 e11 nl1 hl1 => ?_⟩
      walk_at "ys"
      refine ⟨L, md, od, nm.take m ++ [("zed" : Str)], (List.range m).map fu ++ [fu f], p', c', m, by rw [hnz]; rfl, GZ.same e11, by rw [hl']; exact OZ, by omega, h4, h60, fun l2 H12 e12 nl2 hl2 => ?_⟩
      rw [hl'] at hl1 hl2
      have hl12 := e12 _ _ hl1
      have e12 := e11.trans e12
      have hmm := Deal.order_many OZ hfm hpz hcz
      have hmL := Deal.many_le OZ f
      walk_at "ys"
      refine ⟨sz_line (by simp), fun tp ntp => ?_⟩
      have f13 : Same H12 (upd H12 tp (.tup [.ref l1, .ref l2])) := same_new0 ntp
      have htp : upd H12 tp (.tup [.ref l1, .ref l2]) tp = some (.tup [.ref l1, .ref l2]) := upd_same
      have hl13 := f13 _ _ hl12
      have hl23 := f13 _ _ hl2
      generalize upd H12 tp (.tup [.ref l1, .ref l2]) = H13 at *
      walk_at "ys"
      rw [List.length_map, List.length_map, turnsOf_len, turnsOf_len]
      refine y_dT (by omega) ?_
      walk_at "ys"
      rw [List.length_map, turnsOf_len]
      refine y_gotr1 (by omega) (by omega) ?_
      intro E nE
      refine lc_gen (fun _ => none) walk_range nE (sz_lt (by omega)) (fun _ _ => trivial) (fun k x H14 H15 Nx hk e hY c0 c1 => ?_) (fun H14 e14 hno => ?_)
      · obtain ⟨rfl, rfl⟩ := hY
        have hk : k < Deal.many (m + 1) L p' c' m := by omega
        have a1 : atI ((turnsOf (m + 1) L p' c' f).map V.int) ((0 : Int) + (k : Nat)) = some (.int (Deal.T (m + 1) p' c' f k : Nat)) := by
          rw [Int.zero_add, Y.atI_nat (by rw [List.length_map, turnsOf_len]; omega), List.getElem?_map, turnsOf_at (by omega)]
          rfl
        have a2 : atI ((turnsOf (m + 1) L p' c' m).map V.int) ((0 : Int) + (k : Nat)) = some (.int (Deal.T (m + 1) p' c' m k : Nat)) := by
          rw [Int.zero_add, Y.atI_nat (by rw [List.length_map, turnsOf_len]; omega), List.getElem?_map, turnsOf_at hk]
          rfl
        have hT := Deal.order_T hfm hpz hcz (k := k) (by rw [← hcz]; exact ((Deal.many_iff OZ).mp hk).1)
        walk_at "ys"
        refine y_ixL (e _ _ hl13) a1 ?_
        walk_at "ys"
        refine y_ixL (e _ _ hl23) a2 ?_
        walk_at "ys"
        refine y_dF (by omega) ?_
        exact c1 _ rfl (Same.refl _)
      · rw [fm_none] at hno
        walk_at "ys"
        refine ⟨sz_line (by simp), fun el nel => ?_⟩
        have f15 : Same H14 (upd H14 el (.lst [])) := same_new0 nel
        walk_at "ys"
        refine y_eqL (xs := []) (ys := []) (f15 _ _ hno) upd_same ?_
        have fe := ((e12.trans f13).trans e14).trans f15
        exact q _ (e9.trans (.of fe)) (X9.same fe)
end
end K60
namespace K60
open PySem L2 Y LamX

theorem sql_extn {K : PySem.W.Frag} {H H' : Hp} {a : Addr} {xs : List V} (h : SqL K H a xs) (e : ExtN H H') : SqL K H' a xs :=
  h.elim (fun h => .inl (h.elim (fun h => .inl (e _ _ h (fun ps z => by cases z))) fun ⟨o, h⟩ => .inr ⟨o, e _ _ h (fun ps z => by cases z)⟩)) fun h => .inr h
theorem extn_but {H H1 H' : Hp} {b : Addr} (e : ExtN H H1) (n : H b = none) (f : SameBut b H1 H') : ExtN H H' := fun a u h nt => f _ _ (ne_of_none h n) (e a u h nt)
theorem Box.extn {H H' : Hp} {b : Addr} {B : Nat} (X : Box H b B) (e : ExtN H H') : Box H' b B := by
  obtain ⟨g, d, c, h, h1, h2⟩ := X.at_
  exact ⟨g, d, c, e _ _ h (fun ps z => by cases z), h1, h2⟩
theorem Gs.but {H H' : Hp} {g b : Addr} {o : Obj} {nm : List Str} {ts : List Addr} {p c : Nat → Nat} {B : Nat} (G : Gs H g o nm ts p c) (X : Box H b B) (e : SameBut b H H') : Gs H' g o nm ts p c := by
  obtain ⟨x1, x2, x3, hb, _⟩ := X.at_
  exact ⟨e _ _ (ne_of G.d hb (fun z => by cases z)) G.d, G.len, fun i a h => e _ _ (ne_of (G.t i a h) hb (fun z => by cases z)) (G.t i a h), G.nd, G.ok, G.few⟩
theorem Box.tabs {T : List (Addr × Str)} {H H' : Hp} {b : Addr} {B : Nat} (X : Box H b B) (t : Tabs T H) (e : SameBut b H H') : Tabs T H' := by
  obtain ⟨x1, x2, x3, hb, _⟩ := X.at_
  exact tabs_but t e hb (fun ps z => by cases z) (fun c q z => by unfold CodeO at z; cases z)
section
variable {P : Program} {w : World} {K : PySem.W.Frag} {mg : Str → Option Value} {base : Heap}
def sp_law (K : PySem.W.Frag) (Pt : Addr) : Sp := fun vs H Q _ => ∃ (s : Addr) (ns : List Int), vs = [.ref s] ∧ SqL K H s (ns.map V.int) ∧ Tabs [(Pt, qL)] H ∧ ∀ H', Q (.bl true) H'
theorem ok_law {f : Addr} {fd : FuncData} (T : Txt K mg) {ca Pt : Addr} (C : Cd K mg base ca Pt) (F : Fun K "law" "law" s_law f fd) : FnOk P w K mg base CX0 7 f fd ["script"] (sp_law K Pt) := by
  obtain ⟨f__law_box, fd__law_box, g__law_box, F__law_box⟩ := T.d__law_box
  have G__law_box := ok__law_box (P := P) (w := w) (base := base) T F__law_box
  have b__law_box := F__law_box.binds (ps := ["cell"]) fun _ _ _ _ _ _ us hl => match us, hl with | [_], _ => rfl
  obtain ⟨f__law_case, fd__law_case, g__law_case, F__law_case⟩ := T.d__law_case
  have G__law_case := ok__law_case (P := P) (w := w) (base := base) T F__law_case
  have b__law_case := F__law_case.binds (ps := ["box"]) fun _ _ _ _ _ _ us hl => match us, hl with | [_], _ => rfl
  obtain ⟨f__law_cell, fd__law_cell, g__law_cell, F__law_cell⟩ := T.d__law_cell
  have G__law_cell := ok__law_cell (P := P) (w := w) (base := base) T F__law_cell
  have b__law_cell := F__law_cell.binds (ps := ["script", "k"]) fun _ _ _ _ _ _ us hl => match us, hl with | [_, _], _ => rfl
  obtain ⟨f__law_all_right, fd__law_all_right, g__law_all_right, F__law_all_right⟩ := T.d__law_all_right
  have G__law_all_right := ok__law_all_right (P := P) (w := w) (base := base) T C F__law_all_right
  have b__law_all_right := F__law_all_right.binds (ps := ["length", "guests"]) fun _ _ _ _ _ _ us hl => match us, hl with | [_, _], _ => rfl
  obtain ⟨f__law_more_right, fd__law_more_right, g__law_more_right, F__law_more_right⟩ := T.d__law_more_right
  have G__law_more_right := ok__law_more_right (P := P) (w := w) (base := base) T F__law_more_right
  have b__law_more_right := F__law_more_right.binds (ps := ["box", "length", "guests"]) fun _ _ _ _ _ _ us hl => match us, hl with | [_, _, _], _ => rfl
  obtain ⟨f__law_greater_right, fd__law_greater_right, g__law_greater_right, F__law_greater_right⟩ := T.d__law_greater_right
  have G__law_greater_right := ok__law_greater_right (P := P) (w := w) (base := base) T F__law_greater_right
  have b__law_greater_right := F__law_greater_right.binds (ps := ["box", "length", "guests"]) fun _ _ _ _ _ _ us hl => match us, hl with | [_, _, _], _ => rfl
  obtain ⟨f__law_order_right, fd__law_order_right, g__law_order_right, F__law_order_right⟩ := T.d__law_order_right
  have G__law_order_right := ok__law_order_right (P := P) (w := w) (base := base) T F__law_order_right
  have b__law_order_right := F__law_order_right.binds (ps := ["box", "length", "guests"]) fun _ _ _ _ _ _ us hl => match us, hl with | [_, _, _], _ => rfl
  have scp := sc_law
  refine F.ok sc_law (fun vs H Q E h => ?_) (fun cdv A outer s H vs Q E hr h => ?_)
  · first | (obtain ⟨rfl, _⟩ := h; rfl) | (obtain ⟨_, rfl, _⟩ := h; rfl) | (obtain ⟨_, _, rfl, _⟩ := h; rfl) | (obtain ⟨_, _, _, rfl, _⟩ := h; rfl) | (obtain ⟨_, _, _, _, rfl, _⟩ := h; rfl) | (obtain ⟨_, _, _, _, _, rfl, _⟩ := h; rfl) | (obtain ⟨_, _, _, _, _, _, rfl, _⟩ := h; rfl) | (obtain ⟨_, _, _, _, _, _, _, rfl, _⟩ := h; rfl) | (obtain ⟨_, _, _, _, _, _, _, _, rfl, _⟩ := h; rfl) | (obtain ⟨_, _, _, _, _, _, _, _, _, rfl, _⟩ := h; rfl) | (obtain ⟨_, _, _, _, _, _, _, _, _, _, rfl, _⟩ := h; rfl) | (obtain ⟨_, _, _, _, _, _, _, _, _, _, _, rfl, _⟩ := h; rfl) | (obtain ⟨_, _, _, _, _, _, _, _, _, _, _, _, rfl, _⟩ := h; rfl) | (obtain ⟨_, _, _, _, _, _, _, _, _, _, _, _, _, rfl, _⟩ := h; rfl) | (obtain ⟨_, _, _, _, _, _, _, _, _, _, _, _, _, _, rfl, _⟩ := h; rfl) | (obtain ⟨_, _, _, _, _, _, _, _, _, _, _, _, _, _, _, rfl, _⟩ := h; rfl)
  · obtain ⟨s0, ns, rfl, hs, hT, q⟩ := h
    have hu := hu_of hr
    have hv := hr.units
    refine ⟨_, (pss_cons (ps_for PassesOwn.never rfl (pi_range1 rfl T.n_range (pa_cons (pe_callB (call_max2Y rfl) (by rfl) T.n_max (by decide +kernel) (pa_cons pe_int (pa_cons (pe_callB (call_min2Y rfl) (by rfl) T.n_min (by decide +kernel) (pa_cons pe_int (pa_cons (pe_callB (call_lenK (K := K)) (by rfl) T.n_len (by decide +kernel) (pa_cons (pv 0) pa_nil)) pa_nil))) pa_nil))) pa_nil)) (pg_name (i := 1) scp.nd rfl (by first | exact Or.inl rfl | exact Or.inr rfl))
  (pss_cons (ps_set (i := 2) scp.nd rfl (by first | exact Or.inl rfl | exact Or.inr rfl) (pe_call (G__law_box.mono (by decide)) hr rfl g__law_box F__law_box.kp b__law_box .nil pass0 (pa_cons (pe_call (G__law_cell.mono (by decide)) hr rfl g__law_cell F__law_cell.kp b__law_cell .nil pass0 (pa_cons (pv 0) (pa_cons (pv 1) pa_nil))) pa_nil)))
  (pss_cons (ps_asg (pe_call (G__law_case.mono (by decide)) hr rfl g__law_case F__law_case.kp b__law_case .nil pass0 (pa_cons (pv 2) pa_nil)) (pg_tupK (K := K) (n := 2) rfl (pgs_cons (pg_name (i := 3) scp.nd rfl (by first | exact Or.inl rfl | exact Or.inr rfl)) (pgs_cons (pg_name (i := 4) scp.nd rfl (by first | exact Or.inl rfl | exact Or.inr rfl)) pgs_nil))))
  (pss_frz (pss_cons (ps_if (PW.pt (pw_or (pt_not (pt_val (pe_call (G__law_all_right.mono (by decide)) hr rfl g__law_all_right F__law_all_right.kp b__law_all_right .nil pass0 (pa_cons (pv 3) (pa_cons (pv 4) pa_nil))))) (pw_or1 (pt_not (pt_val (pe_call (G__law_more_right.mono (by decide)) hr rfl g__law_more_right F__law_more_right.kp b__law_more_right .nil pass0 (pa_cons (pv 2) (pa_cons (pv 3) (pa_cons (pv 4) pa_nil)))))))))
  (pss_one (ps_ret pe_bl))
  pss_nil)
  (pss_one (ps_if (PW.pt (pw_or (pt_not (pt_val (pe_call (G__law_greater_right.mono (by decide)) hr rfl g__law_greater_right F__law_greater_right.kp b__law_greater_right .nil pass0 (pa_cons (pv 2) (pa_cons (pv 3) (pa_cons (pv 4) pa_nil)))))) (pw_or1 (pt_not (pt_val (pe_call (G__law_order_right.mono (by decide)) hr rfl g__law_order_right F__law_order_right.kp b__law_order_right .nil pass0 (pa_cons (pv 2) (pa_cons (pv 3) (pa_cons (pv 4) pa_nil)))))))))
  (pss_one (ps_ret pe_bl))
  pss_nil)))))))
  (pss_one (ps_ret pe_bl))), ?_⟩
    walk_at "ys"
    refine y_lenLs hs ?_
    walk_at "ys"
    obtain ⟨n, hn, hn6⟩ : ∃ n : Nat, (if (if ((ns.map V.int).length : Int) < 6 then ((ns.map V.int).length : Int) else 6) > 3 then (if ((ns.map V.int).length : Int) < 6 then ((ns.map V.int).length : Int) else 6) else 3) = (n : Int) ∧ n ≤ 6 := ⟨max 3 (min (ns.map V.int).length 6), by split <;> split <;> omega, by omega⟩
    rw [hn]
    refine y_gotr1 (by omega) (by omega) ?_
    refine for_it walk_range (fun i σ H' => ∃ (u1 u2 u3 u4 : Option V), σ = [some (.ref s0), u1, u2, u3, u4] ∧ SqL K H' s0 (ns.map V.int) ∧ Tabs [(Pt, qL)] H')
      ⟨none, none, none, none, rfl, hs, hT⟩ (fun _ _ _ _ _ => trivial) (fun i x σ H1 H2 hi hP hY => ?_) (fun σ H1 hP => ?_)
    · obtain ⟨u1, u2, u3, u4, rfl, s1, T1⟩ := hP
      obtain ⟨rfl, rfl⟩ := hY
      have e0 : (fun i : Nat => V.int ((0 : Int) + (i : Nat))) i = V.int (i : Nat) := congrArg V.int (Int.zero_add _)
      rw [e0]
      walk_at "ys"
      refine ⟨s0, ns, i, rfl, s1, by omega, fun z H3 e3 => ?_⟩
      walk_at "ys"
      refine ⟨z, rfl, fun b H4 nb e4 X4 => ?_⟩
      have nbH : H2 b = none := free_of e3 nb
      have e4 := e3.trans e4
      have T4 := T1.ext e4
      have E4 := ExtN.of e4
      walk_at "ys"
      refine ⟨b, 0, rfl, X4, by omega, fun t gd L nm ts p c H5 e5 ngd X5 C => ?_⟩
      have T5 := X4.tabs T4 e5
      have E5 := extn_but E4 nbH e5
      have htu := C.tu
      have hC := C.d
      have ngd2 : H2 gd = none := free_of e4 ngd
      have ngdb : gd ≠ b := X4.ne ngd
      walk_at "ys"
      refine y_frz hC True.intro (fun od => ?_)
      have E6 : ExtN H2 (upd H5 gd (.frz od (.dK (kvOf nm ts)))) := extn_mut E5 ngd2
      have X6 : Box (upd H5 gd (.frz od (.dK (kvOf nm ts)))) b 100 := (X5.put ngdb).mono (by omega)
      have T6 : Tabs [(Pt, qL)] (upd H5 gd (.frz od (.dK (kvOf nm ts)))) := tabs_upd T5 hC (fun ps z => by cases z) (fun c q z => by unfold CodeO at z; cases z)
      have G6 : Gs (upd H5 gd (.frz od (.dK (kvOf nm ts)))) gd od nm ts p c := ⟨upd_same, C.len, fun i a h => by rw [upd_ne (ne_of (C.t i a h) hC (fun z => by cases z))]; exact C.t i a h, C.nd, fun z hz => six_ok z (C.ok z hz), C.few⟩
      generalize upd H5 gd (.frz od (.dK (kvOf nm ts))) = H6 at *
      walk_at "ys"
      refine ⟨L, gd, od, nm, ts, p, c, rfl, G6, C.O, C.lo, C.hi, T6, fun H7 e7 T7 => ?_⟩
      have E7 := E6.trans e7
      have X7 := X6.extn e7
      have G7 := G6.extn e7
      walk_at "ys"
      refine ⟨b, 100, L, gd, od, nm, ts, p, c, rfl, X7, by omega, G7, C.ok, C.O, C.lo, C.hi, fun H8 e8 X8 => ?_⟩
      have E8 := extn_but E7 nbH e8
      have G8 := G7.but X7 e8
      have T8 := X7.tabs T7 e8
      walk_at "ys"
      refine ⟨b, 102, L, gd, od, nm, ts, p, c, rfl, X8, by omega, G8, C.pos, C.O, C.lo, C.hi, fun H9 e9 X9 => ?_⟩
      have E9 := extn_but E8 nbH e9
      have G9 := G8.but X8 e9
      have T9 := X8.tabs T8 e9
      walk_at "ys"
      refine ⟨b, 104, L, gd, od, nm, ts, p, c, rfl, X9, by omega, G9, C.ok, C.pos, C.O, C.lo, C.hi, fun H10 e10 X10 => ?_⟩
      have E10 := extn_but E9 nbH e10
      have T10 := X9.tabs T9 e10
      walk_at "ys"
      exact ⟨_, _, _, _, rfl, sql_extn s1 E10, T10⟩
    · obtain ⟨u1, u2, u3, u4, rfl, s1, T1⟩ := hP
      walk_at "ys"
      exact q _
end
end K60
namespace K60
open PySem L2 Y LamX
theorem int_mk {K : PySem.W.Frag} {h : Heap} {mg : Str → Option Value} (X : K.In h) (G : h.Ns mainGlobals mg) {x : Str} {n : Int} {t : Tok} (a : PySem.W.nsIn K mainGlobals x = some (some (Value.int n t))) : ∃ t, mg x = some (Value.int n t) := ⟨t, PySem.W.mg_of X G a⟩
theorem str_mk {K : PySem.W.Frag} {h : Heap} {mg : Str → Option Value} (X : K.In h) (G : h.Ns mainGlobals mg) {x : Str} {z : Str} {t : Tok} (a : PySem.W.nsIn K mainGlobals x = some (some (Value.str z t))) : ∃ t, mg x = some (Value.str z t) := ⟨t, PySem.W.mg_of X G a⟩
theorem law_at {l : PySem.W.OpenLaw} {w : World} {K : PySem.W.Frag} {h : Heap} {mg : Str → Option Value} {fa f2 ca Pt : Addr} (X : K.In h) (G : h.Ns mainGlobals mg) (hfa : mg "law" = some (.ref fa)) (T : Txt K mg)
    {oc : Value} {od an : Option Addr} {osl : Array (Option Value)} {kV doc pm ct : Value} (a2 : PySem.W.nsIn K mainGlobals "next_of" = some (some (.ref f2))) (l2 : K.lookup f2 = some ⟨oc, od, .func (PySem.W.fnOf "next_of" "next_of" (defArgs s_next_of) (defBody s_next_of) (defScope s_next_of) .none kV doc pm an (.ref ca) ct), osl⟩)
    (c2 : PySem.W.codeIn K (.ref ca) "next_of" = true) (k2 : PySem.W.keepIn K (.ref f2) = true) (hd : PySem.W.codeHdIn K ca Pt = true) (nP : K.lookup Pt = none) {ps : List Addr} (tab : ∀ P ∈ ps, h.get? P = some (PySem.W.tabObj #[])) (mem : ps = [Pt]) : LawAtS l w K CX0 7 63 "script" mg fa h := by
  obtain ⟨f, fd, hm, F⟩ := T.d_law
  have e := hfa.symm.trans hm
  cases e
  have F' := F
  obtain ⟨⟨oc', od', kV', doc', pm', an', cdv', ct', osl', rfl, lk, hc⟩, hk⟩ := F'
  refine ⟨_, [(ca, Pt)], sp_law K Pt, fun p hp => ?_, fun p hp => ?_, fun p hp => ?_, fun s u => .of_eq rfl, fun H a ns _ _ hT hS => ⟨a, ns, rfl, hS, fun p hp => ?_, fun _ => rfl⟩, fun base KI NB TB => ok_law T ⟨⟨f2, _, PySem.W.mg_of X G a2, ⟨⟨oc, od, kV, doc, pm, an, ct, osl, rfl, l2, c2⟩, k2⟩⟩, TB (ca, Pt) (List.mem_singleton.mpr rfl)⟩ F⟩
  · rw [List.mem_singleton.mp hp]
    exact tab Pt (by rw [mem]; exact List.mem_singleton.mpr rfl)
  · rw [List.mem_singleton.mp hp]
    exact nP
  · rw [List.mem_singleton.mp hp]
    exact PySem.W.codeHd_of_K X hd
  · rw [List.mem_singleton.mp hp]
    exact TabS.nil (hT (ca, Pt) (List.mem_singleton.mpr rfl))
end K60
end
open PySem PySem.W PyProof.Rows
set_option maxHeartbeats 0 in
theorem PySem.Challenge.cw_guestfleet_k60_whole_latest_turns_of_all_holds : PySem.Challenge.rw_guestfleet_k60_whole_latest_turns_of_all.Holds := by
  w_on; o_law; k_head; (case hw => w_witness2)
  k_fill
  refine LamX.walk_ofTs (l := PySem.Challenge.rw_guestfleet_k60_whole_latest_turns_of_all) (n := 63) (k := 7) (x := "script") (CX := fun _ => L2.CX0) rfl (by decide) rfl ⟨rfl, by decide, by decide⟩ (fun w h Y => PySem.W.km_in_of Y) ?F (fun _ _ _ _ _ z => z)
  case F =>
    intro w mg fa h Y KX G hmg
    refine' K60.law_at KX G hmg { d_is_whole := K60.defAt_mk KX G ?a_is_whole ?l_is_whole ?c_is_whole ?k_is_whole, d_is_name := K60.defAt_mk KX G ?a_is_name ?l_is_name ?c_is_name ?k_is_name, d_need_length := K60.defAt_mk KX G ?a_need_length ?l_need_length ?c_need_length ?k_need_length, d_are_shares := K60.defAt_mk KX G ?a_are_shares ?l_are_shares ?c_are_shares ?k_are_shares, d_is_one_of := K60.defAt_mk KX G ?a_is_one_of ?l_is_one_of ?c_is_one_of ?k_is_one_of, d_are_ready := K60.defAt_mk KX G ?a_are_ready ?l_are_ready ?c_are_ready ?k_are_ready, d_are_dealt := K60.defAt_mk KX G ?a_are_dealt ?l_are_dealt ?c_are_dealt ?k_are_dealt, d_breaks := K60.defAt_mk KX G ?a_breaks ?l_breaks ?c_breaks ?k_breaks, d_first_broken := K60.defAt_mk KX G ?a_first_broken ?l_first_broken ?c_first_broken ?k_first_broken, d_need_case := K60.defAt_mk KX G ?a_need_case ?l_need_case ?c_need_case ?k_need_case, d_ahead_by_promise := K60.defAt_mk KX G ?a_ahead_by_promise ?l_ahead_by_promise ?c_ahead_by_promise ?k_ahead_by_promise, d_ahead := K60.defAt_mk KX G ?a_ahead ?l_ahead ?c_ahead ?k_ahead, d_turn_of := K60.defAt_mk KX G ?a_turn_of ?l_turn_of ?c_turn_of ?k_turn_of, d_latest := K60.defAt_mk KX G ?a_latest ?l_latest ?c_latest ?k_latest, d_at_least_in := K60.defAt_mk KX G ?a_at_least_in ?l_at_least_in ?c_at_least_in ?k_at_least_in, d_at_least := K60.defAt_mk KX G ?a_at_least ?l_at_least ?c_at_least ?k_at_least, d_worst := K60.defAt_mk KX G ?a_worst ?l_worst ?c_worst ?k_worst, d_next_of := K60.defAt_mk KX G ?a_next_of ?l_next_of ?c_next_of ?k_next_of, d__law_cell := K60.defAt_mk KX G ?a__law_cell ?l__law_cell ?c__law_cell ?k__law_cell, d__law_box := K60.defAt_mk KX G ?a__law_box ?l__law_box ?c__law_box ?k__law_box, d__law_take := K60.defAt_mk KX G ?a__law_take ?l__law_take ?c__law_take ?k__law_take, d__law_same := K60.defAt_mk KX G ?a__law_same ?l__law_same ?c__law_same ?k__law_same, d__law_case := K60.defAt_mk KX G ?a__law_case ?l__law_case ?c__law_case ?k__law_case, d__law_turns := K60.defAt_mk KX G ?a__law_turns ?l__law_turns ?c__law_turns ?k__law_turns, d__law_all_right := K60.defAt_mk KX G ?a__law_all_right ?l__law_all_right ?c__law_all_right ?k__law_all_right, d__law_more_right := K60.defAt_mk KX G ?a__law_more_right ?l__law_more_right ?c__law_more_right ?k__law_more_right, d__law_greater_right := K60.defAt_mk KX G ?a__law_greater_right ?l__law_greater_right ?c__law_greater_right ?k__law_greater_right, d__law_order_right := K60.defAt_mk KX G ?a__law_order_right ?l__law_order_right ?c__law_order_right ?k__law_order_right, d_law := K60.defAt_mk KX G ?a_law ?l_law ?c_law ?k_law, n_isinstance := PySem.W.mg_none_of KX G ?z_isinstance, n_int := PySem.W.mg_none_of KX G ?z_int, n_bool := PySem.W.mg_none_of KX G ?z_bool, n_all := PySem.W.mg_none_of KX G ?z_all, n_str := PySem.W.mg_none_of KX G ?z_str, n_len := PySem.W.mg_none_of KX G ?z_len, n_dict := PySem.W.mg_none_of KX G ?z_dict, n_tuple := PySem.W.mg_none_of KX G ?z_tuple, n_max := PySem.W.mg_none_of KX G ?z_max, n_list := PySem.W.mg_none_of KX G ?z_list, n_any := PySem.W.mg_none_of KX G ?z_any, n_enumerate := PySem.W.mg_none_of KX G ?z_enumerate, n_range := PySem.W.mg_none_of KX G ?z_range, n_min := PySem.W.mg_none_of KX G ?z_min, n_divmod := PySem.W.mg_none_of KX G ?z_divmod, n_sum := PySem.W.mg_none_of KX G ?z_sum, n_abs := PySem.W.mg_none_of KX G ?z_abs, n_sorted := PySem.W.mg_none_of KX G ?z_sorted, c_LONGEST_NAME := K60.int_mk KX G ?t_LONGEST_NAME, c_LETTERS := K60.str_mk KX G ?t_LETTERS, c_LEAST_LENGTH := K60.int_mk KX G ?t_LEAST_LENGTH, c_MOST_LENGTH := K60.int_mk KX G ?t_MOST_LENGTH, c_MOST_GUESTS := K60.int_mk KX G ?t_MOST_GUESTS, c_MOST_TURNS_shares := K60.int_mk KX G ?t_MOST_TURNS_shares, c_MOST_TURNS_latest := K60.int_mk KX G ?t_MOST_TURNS_latest } ?a2 ?l2 ?c2 ?k2 ?hd ?nP (PySem.W.km_tabs_of Y) ?mem
    (case mem => rfl)
    (case a_is_whole => k_is)
    (case l_is_whole => k_is)
    (case c_is_whole => k_is)
    (case k_is_whole => k_is)
    (case a_is_name => k_is)
    (case l_is_name => k_is)
    (case c_is_name => k_is)
    (case k_is_name => k_is)
    (case a_need_length => k_is)
    (case l_need_length => k_is)
    (case c_need_length => k_is)
    (case k_need_length => k_is)
    (case a_are_shares => k_is)
    (case l_are_shares => k_is)
    (case c_are_shares => k_is)
    (case k_are_shares => k_is)
    (case a_is_one_of => k_is)
    (case l_is_one_of => k_is)
    (case c_is_one_of => k_is)
    (case k_is_one_of => k_is)
    (case a_are_ready => k_is)
    (case l_are_ready => k_is)
    (case c_are_ready => k_is)
    (case k_are_ready => k_is)
    (case a_are_dealt => k_is)
    (case l_are_dealt => k_is)
    (case c_are_dealt => k_is)
    (case k_are_dealt => k_is)
    (case a_breaks => k_is)
    (case l_breaks => k_is)
    (case c_breaks => k_is)
    (case k_breaks => k_is)
    (case a_first_broken => k_is)
    (case l_first_broken => k_is)
    (case c_first_broken => k_is)
    (case k_first_broken => k_is)
    (case a_need_case => k_is)
    (case l_need_case => k_is)
    (case c_need_case => k_is)
    (case k_need_case => k_is)
    (case a_ahead_by_promise => k_is)
    (case l_ahead_by_promise => k_is)
    (case c_ahead_by_promise => k_is)
    (case k_ahead_by_promise => k_is)
    (case a_ahead => k_is)
    (case l_ahead => k_is)
    (case c_ahead => k_is)
    (case k_ahead => k_is)
    (case a_turn_of => k_is)
    (case l_turn_of => k_is)
    (case c_turn_of => k_is)
    (case k_turn_of => k_is)
    (case a_latest => k_is)
    (case l_latest => k_is)
    (case c_latest => k_is)
    (case k_latest => k_is)
    (case a_at_least_in => k_is)
    (case l_at_least_in => k_is)
    (case c_at_least_in => k_is)
    (case k_at_least_in => k_is)
    (case a_at_least => k_is)
    (case l_at_least => k_is)
    (case c_at_least => k_is)
    (case k_at_least => k_is)
    (case a_worst => k_is)
    (case l_worst => k_is)
    (case c_worst => k_is)
    (case k_worst => k_is)
    (case a_next_of => k_is)
    (case l_next_of => k_is)
    (case c_next_of => k_is)
    (case k_next_of => k_is)
    (case a__law_cell => k_is)
    (case l__law_cell => k_is)
    (case c__law_cell => k_is)
    (case k__law_cell => k_is)
    (case a__law_box => k_is)
    (case l__law_box => k_is)
    (case c__law_box => k_is)
    (case k__law_box => k_is)
    (case a__law_take => k_is)
    (case l__law_take => k_is)
    (case c__law_take => k_is)
    (case k__law_take => k_is)
    (case a__law_same => k_is)
    (case l__law_same => k_is)
    (case c__law_same => k_is)
    (case k__law_same => k_is)
    (case a__law_case => k_is)
    (case l__law_case => k_is)
    (case c__law_case => k_is)
    (case k__law_case => k_is)
    (case a__law_turns => k_is)
    (case l__law_turns => k_is)
    (case c__law_turns => k_is)
    (case k__law_turns => k_is)
    (case a__law_all_right => k_is)
    (case l__law_all_right => k_is)
    (case c__law_all_right => k_is)
    (case k__law_all_right => k_is)
    (case a__law_more_right => k_is)
    (case l__law_more_right => k_is)
    (case c__law_more_right => k_is)
    (case k__law_more_right => k_is)
    (case a__law_greater_right => k_is)
    (case l__law_greater_right => k_is)
    (case c__law_greater_right => k_is)
    (case k__law_greater_right => k_is)
    (case a__law_order_right => k_is)
    (case l__law_order_right => k_is)
    (case c__law_order_right => k_is)
    (case k__law_order_right => k_is)
    (case a_law => k_is)
    (case l_law => k_is)
    (case c_law => k_is)
    (case k_law => k_is)
    (case z_isinstance => k_is)
    (case z_int => k_is)
    (case z_bool => k_is)
    (case z_all => k_is)
    (case z_str => k_is)
    (case z_len => k_is)
    (case z_dict => k_is)
    (case z_tuple => k_is)
    (case z_max => k_is)
    (case z_list => k_is)
    (case z_any => k_is)
    (case z_enumerate => k_is)
    (case z_range => k_is)
    (case z_min => k_is)
    (case z_divmod => k_is)
    (case z_sum => k_is)
    (case z_abs => k_is)
    (case z_sorted => k_is)
    (case t_LONGEST_NAME => k_is)
    (case t_LETTERS => k_is)
    (case t_LEAST_LENGTH => k_is)
    (case t_MOST_LENGTH => k_is)
    (case t_MOST_GUESTS => k_is)
    (case t_MOST_TURNS_shares => k_is)
    (case t_MOST_TURNS_latest => k_is)
    (case a2 => k_is)
    (case l2 => k_is)
    (case c2 => k_is)
    (case k2 => k_is)
    (case hd => kernel_rfl)
    (case nP => kernel_rfl)
